import PyProof.Rows.All
import Wide.All
import OpenK.AllK
import Wide.FinOn
import PyProof.EqAt
import PyProof.EqKinds
import PyProof.TupleCall
import KE.KLam
import PyProof.CodeObj
import HandS.Base
import HandS.Call
import HandS.Ends
import HandS.List
import HandS.Comp
import HandS.Iter
import HandS.Text
import HandS.Exc
import HandS.Codes
import HandS.TryOnly
import HandS.Lambda
import HandS.Nested
import HandS.EndTab
import HandS.Flow
import HandS.IsInst
import HandS.Deep
import HandS.TupAny
import HandS.TupMul
import HandS.Zip
import HandS.More
import HandS.Words
import HandS.Defaults
import HandS.Dict
import HandS.DictTup
import HandS.Property
import HandS.MakeKw
import HandS.MakeKwOnly
import HandS.Conv
import KE.GoesEnum
import HandS.Style
import HandS.HeadHook1
import HandS.HeadHook2
import KE.KStateDown
import HandS.EndBits
import HandS.Head0
import HandS.Head1
import HandS.Head2
import HandS.HeadEnd
import HandS.Set
import HandS.SetFor
import HandS.Strs
import HandS.OwnEq
import HandS.NoneIn
import HandS.NamedTupGet
import PySem.Challenge.RW_wipedtalk_k36_talks_by_hand
section
set_option linter.all false
set_option autoImplicit false
/-! VI0: a small value interpreter, in plain Lean: values (tuples by value), a store of lists, dicts and instances,
and the combinators in which each def of the program is written down. Nothing of the model stands here. -/
namespace VI
abbrev LIM : Nat := 16777216

inductive Val where
  | non | bool (b : Bool) | int (i : Int) | str (s : Nat) | tup (l : List Val) | ref (n : Nat)
  deriving Inhabited
inductive Ob where
  | lst (l : List Val)
  | frz (l : List Val)
  | ins (c : Nat) (fs : List (Nat × Val))
  | dct (kvs : List (List Int × Val))
  deriving Inhabited
abbrev Store := List Ob
/-- a value, or a list that nobody else holds yet -/
inductive Tv where
  | v (x : Val) | l (xs : List Val)
  deriving Inhabited
inductive Res (α : Type) where
  | ok (a : α) (s : Store) | exc (c : Nat) (fs : List Val) (s : Store) | bad
  deriving Inhabited
abbrev Env := List (Option Val)
inductive Fl where
  | next | ret (x : Tv) | brk
abbrev Ev := Env → Store → Res Tv
abbrev Tst := Env → Store → Res Bool
abbrev Avs := Env → Store → Res (List Val)
abbrev Sx := Env → Store → Res (Fl × Env)
abbrev Fn := List Val → Store → Res Tv
abbrev Tgt := Val → Env → Store → Res Env

def Res.bind {α β : Type} (r : Res α) (f : α → Store → Res β) : Res β := match r with
  | .ok a s => f a s
  | .exc c fs s => .exc c fs s
  | .bad => .bad
@[simp] theorem bind_ok {α β : Type} (a : α) (s : Store) (f : α → Store → Res β) : (Res.ok a s).bind f = f a s := (rfl)
@[simp] theorem bind_exc {α β : Type} (c fs) (s : Store) (f : α → Store → Res β) : (Res.exc c fs s).bind f = .exc c fs s := (rfl)
@[simp] theorem bind_bad {α β : Type} (f : α → Store → Res β) : (Res.bad : Res α).bind f = .bad := (rfl)
theorem bind_eq_ok {α β : Type} {r : Res α} {f : α → Store → Res β} {b : β} {s' : Store} (h : r.bind f = .ok b s') : ∃ a s, r = .ok a s ∧ f a s = .ok b s' := by
  cases r with
  | ok a s => exact ⟨a, s, rfl, h⟩
  | exc c fs s => cases h
  | bad => cases h
/-- a list is laid down in the store -/
def mat (t : Tv) (s : Store) : Res Val := match t with
  | .v x => .ok x s
  | .l xs => .ok (.ref s.length) (s ++ [.lst xs])

/-! ### data, for == and in -/
inductive Dt where
  | non | bool (b : Bool) | int (i : Int) | str (s : Nat) | lst (l : List Dt) | tup (l : List Dt)
  deriving Inhabited
mutual
def Dt.eqv : Dt → Dt → Bool
  | .non, .non => true
  | .bool a, .bool b => a == b
  | .bool a, .int j => (if a then 1 else 0) == j
  | .int i, .bool b => i == (if b then 1 else 0)
  | .int i, .int j => i == j
  | .str x, .str y => x == y
  | .lst xs, .lst ys => Dt.eqvAll xs ys
  | .tup xs, .tup ys => Dt.eqvAll xs ys
  | .non, .bool _ | .non, .int _ | .non, .str _ | .non, .lst _ | .non, .tup _ => false
  | .bool _, .non | .bool _, .str _ | .bool _, .lst _ | .bool _, .tup _ => false
  | .int _, .non | .int _, .str _ | .int _, .lst _ | .int _, .tup _ => false
  | .str _, .non | .str _, .bool _ | .str _, .int _ | .str _, .lst _ | .str _, .tup _ => false
  | .lst _, .non | .lst _, .bool _ | .lst _, .int _ | .lst _, .str _ | .lst _, .tup _ => false
  | .tup _, .non | .tup _, .bool _ | .tup _, .int _ | .tup _, .str _ | .tup _, .lst _ => false
termination_by structural x => x
def Dt.eqvAll : List Dt → List Dt → Bool
  | [], [] => true
  | x :: xs, y :: ys => Dt.eqv x y && Dt.eqvAll xs ys
  | [], _ :: _ => false
  | _ :: _, [] => false
termination_by structural x => x
end
def mapO {α β : Type} (f : α → Option β) : List α → Option (List β)
  | [] => some []
  | x :: r => match f x with
    | some d => match mapO f r with
      | some ds => some (d :: ds)
      | none => none
    | none => none
/-- what a value is as data; n: how deep it is followed -/
def toD (st : Store) : Nat → Val → Option Dt
  | 0, x => match x with
    | .non => some .non
    | .bool b => some (.bool b)
    | .int i => some (.int i)
    | .str s => some (.str s)
    | _ => none
  | n + 1, x => match x with
    | .non => some .non
    | .bool b => some (.bool b)
    | .int i => some (.int i)
    | .str s => some (.str s)
    | .tup l => (mapO (toD st n) l).map .tup
    | .ref k => match st[k]? with
      | some (.lst l) => (mapO (toD st n) l).map .lst
      | some (.frz l) => (mapO (toD st n) l).map .lst
      | _ => none
def toDs (st : Store) (n : Nat) (l : List Val) : Option (List Dt) := mapO (toD st n) l
/-- how deep == looks -/
abbrev DEEP : Nat := 20
def tvD (st : Store) : Tv → Option Dt
  | .v x => toD st DEEP x
  | .l xs => (toDs st DEEP xs).map .lst
def lstOf (t : Tv) (s : Store) : Option (List Val) := match t with
  | .l xs => some xs
  | .v (.ref n) => match s[n]? with
    | some (.lst xs) => some xs
    | _ => none
  | _ => none
/-- a list or a tuple that is read -/
def seqOf (t : Tv) (s : Store) : Option (List Val) := match t with
  | .l xs => some xs
  | .v (.tup xs) => some xs
  | .v (.ref n) => match s[n]? with
    | some (.lst xs) => some xs
    | some (.frz xs) => some xs
    | _ => none
  | _ => none

/-! ### expressions -/
def eC (x : Val) : Ev := fun _ s => .ok (.v x) s
def eV (i : Nat) : Ev := fun ρ s => match ρ[i]? with
  | some (some x) => .ok (.v x) s
  | _ => .bad
def aNil : Avs := fun _ s => .ok [] s
def aCons (e : Ev) (r : Avs) : Avs := fun ρ s => (e ρ s).bind fun t s => (mat t s).bind fun x s => (r ρ s).bind fun xs s => .ok (x :: xs) s
def eTup (a : Avs) : Ev := fun ρ s => (a ρ s).bind fun xs s => if xs.length ≤ LIM then .ok (.v (.tup xs)) s else .bad
def eLst (a : Avs) : Ev := fun ρ s => (a ρ s).bind fun xs s => if xs.length ≤ LIM then .ok (.l xs) s else .bad
abbrev Op2 := Tv → Tv → Store → Res Tv
def eBin (o : Op2) (a b : Ev) : Ev := fun ρ s => (a ρ s).bind fun x s => (b ρ s).bind fun y s => o x y s

def oAdd : Op2
  | .v (.int i), .v (.int j), s => .ok (.v (.int (i + j))) s
  | .v (.tup a), .v (.tup b), s => if a.length + b.length ≤ LIM then .ok (.v (.tup (a ++ b))) s else .bad
  | x, y, s => match lstOf x s, lstOf y s with
    | some a, some b => if a.length + b.length ≤ LIM then .ok (.l (a ++ b)) s else .bad
    | _, _ => .bad
def oSub : Op2
  | .v (.int i), .v (.int j), s => .ok (.v (.int (i - j))) s
  | _, _, _ => .bad
def small (i : Int) : Bool := decide (-(2 ^ 64) < i) && decide (i < 2 ^ 64)
def oMul : Op2
  | .v (.int i), .v (.int j), s => if small i || small j then .ok (.v (.int (i * j))) s else .bad
  | .v (.tup a), .v (.int k), s => if -1000 ≤ k ∧ k ≤ 1000 ∧ a.length ≤ 1000 ∧ a.isEmpty = false then .ok (.v (.tup (List.replicate k.toNat a).flatten)) s else .bad
  | x, .v (.int k), s => match lstOf x s with
    | some a => if -(2 ^ 63) ≤ k ∧ k < 2 ^ 63 ∧ a.length * k.toNat ≤ LIM then .ok (.l (List.replicate k.toNat a).flatten) s else .bad
    | none => .bad
  | _, _, _ => .bad
def oMod : Op2
  | .v (.int i), .v (.int j), s => if j ≠ 0 then .ok (.v (.int (i.fmod j))) s else .bad
  | _, _, _ => .bad
def oDiv : Op2
  | .v (.int i), .v (.int j), s => if j ≠ 0 ∧ j.natAbs < 1073741824 then .ok (.v (.int (i.fdiv j))) s else .bad
  | _, _, _ => .bad
def oPow : Op2
  | .v (.int i), .v (.int j), s => if 0 ≤ j ∧ j ≤ 64 ∧ i.natAbs < 2 ^ 200 then .ok (.v (.int (i ^ j.toNat))) s else .bad
  | _, _, _ => .bad
def eNeg (a : Ev) : Ev := fun ρ s => (a ρ s).bind fun x s => match x with
  | .v (.int i) => .ok (.v (.int (-i))) s
  | _ => .bad
/-- not, and, or of truth values, as values -/
def eNot (a : Ev) : Ev := fun ρ s => (a ρ s).bind fun x s => match x with
  | .v (.bool b) => .ok (.v (.bool (!b))) s
  | _ => .bad
def eAnd (a b : Ev) : Ev := fun ρ s => (a ρ s).bind fun x s => match x with
  | .v (.bool c) => if c = true then b ρ s else .ok (.v (.bool false)) s
  | _ => .bad
def eOr (a b : Ev) : Ev := fun ρ s => (a ρ s).bind fun x s => match x with
  | .v (.bool c) => if c = true then .ok (.v (.bool true)) s else b ρ s
  | _ => .bad
/-! ### comparisons, as operations -/
def ans (b : Option Bool) (s : Store) : Res Tv := match b with
  | some b => .ok (.v (.bool b)) s
  | none => .bad
def eqT (x y : Tv) (s : Store) : Option Bool := match tvD s x, tvD s y with
  | some d, some e => some (Dt.eqv d e)
  | _, _ => none
def cEq : Op2 := fun x y s => ans (eqT x y s) s
def cNe : Op2 := fun x y s => ans ((eqT x y s).map not) s
def cInt (p : Int → Int → Bool) : Op2
  | .v (.int i), .v (.int j), s => .ok (.v (.bool (p i j))) s
  | _, _, _ => .bad
def cLt : Op2 := cInt fun i j => decide (i < j)
def cLe : Op2 := cInt fun i j => decide (i ≤ j)
def cGt : Op2 := cInt fun i j => decide (j < i)
def cGe : Op2 := cInt fun i j => decide (j ≤ i)
def isN : Tv → Bool
  | .v .non => true
  | _ => false
def cIsN : Op2
  | x, .v .non, s => .ok (.v (.bool (isN x))) s
  | _, _, _ => .bad
def cNotN : Op2
  | x, .v .non, s => .ok (.v (.bool (!isN x))) s
  | _, _, _ => .bad
def flat : Val → Bool
  | .non => true
  | .bool _ => true
  | .int _ => true
  | .str _ => true
  | _ => false
def ints? : List Val → Option (List Int)
  | [] => some []
  | .int i :: r => (ints? r).map (i :: ·)
  | _ :: _ => none
def flatEq : Val → Val → Bool
  | .non, .non => true
  | .bool a, .bool b => a == b
  | .bool a, .int b => (if a then 1 else 0) == b
  | .int a, .bool b => a == (if b then 1 else 0)
  | .int a, .int b => a == b
  | .str a, .str b => a == b
  | _, _ => false
def isIn (x y : Tv) (s : Store) : Option Bool := match y with
  | .v (.tup ys) => match x with
    | .v x => if flat x && ys.all flat then some (ys.any fun z => flatEq z x) else none
    | _ => none
  | y => match lstOf y s, tvD s x with
    | some ys, some d => match toDs s DEEP ys with
      | some ds => some (ds.any fun z => Dt.eqv z d)
      | none => none
    | _, _ => none
def cIn : Op2 := fun x y s => ans (isIn x y s) s
def cNotIn : Op2 := fun x y s => ans ((isIn x y s).map not) s
/-- a op1 b op2 c -/
def eChain (o o' : Op2) (a b c : Ev) : Ev := fun ρ s => (a ρ s).bind fun x s => (b ρ s).bind fun y s => (o x y s).bind fun r s => match r with
  | .v (.bool k) => if k = true then (c ρ s).bind fun z s => o' y z s else .ok (.v (.bool false)) s
  | _ => .bad

/-! ### tests -/
def tru (t : Tv) (s : Store) : Option Bool := match t with
  | .v .non => some false
  | .v (.bool b) => some b
  | .v (.int i) => some (i != 0)
  | .l xs => some (!xs.isEmpty)
  | .v (.tup xs) => some (!xs.isEmpty)
  | .v (.ref n) => match s[n]? with
    | some (.lst xs) => some (!xs.isEmpty)
    | some (.frz xs) => some (!xs.isEmpty)
    | _ => none
  | _ => none
/-- an expression that gives True or False, as a test -/
def tB (e : Ev) : Tst := fun ρ s => (e ρ s).bind fun x s => match x with
  | .v (.bool b) => .ok b s
  | _ => .bad
/-- any expression as a test -/
def tTru (e : Ev) : Tst := fun ρ s => (e ρ s).bind fun x s => match tru x s with
  | some b => .ok b s
  | none => .bad
def tNot (t : Tst) : Tst := fun ρ s => (t ρ s).bind fun b s => .ok (!b) s
def tAnd (t u : Tst) : Tst := fun ρ s => (t ρ s).bind fun b s => if b = true then u ρ s else .ok false s
def tOr (t u : Tst) : Tst := fun ρ s => (t ρ s).bind fun b s => if b = true then .ok true s else u ρ s
def eIf (t : Tst) (a b : Ev) : Ev := fun ρ s => (t ρ s).bind fun c s => if c = true then a ρ s else b ρ s

/-! ### subscripts, fields -/
def ixN (n : Nat) (i : Int) : Option Nat := if 0 ≤ i then (if i < n then some i.toNat else none) else if -(n : Int) ≤ i then some (i + n).toNat else none
def atI {α : Type} (xs : List α) (i : Int) : Option α := (ixN xs.length i).bind fun j => xs[j]?
def oIdx : Op2 := fun x y s => match y with
  | .v (.int i) => match seqOf x s with
    | some xs => match atI xs i with
      | some z => .ok (.v z) s
      | none => .bad
    | none => .bad
  | _ => .bad
def sIx (n d : Nat) : Option Int → Nat
  | none => d
  | some i => if i < 0 then (i + (n : Int)).toNat else min i.toNat n
def cutV (xs : List Val) (lo hi : Option Int) : List Val := (xs.drop (sIx xs.length 0 lo)).take (sIx xs.length xs.length hi - sIx xs.length 0 lo)
def slc (x : Tv) (lo hi : Option Int) (s : Store) : Res Tv := match x with
  | .v (.tup xs) => .ok (.v (.tup (cutV xs lo hi))) s
  | x => match seqOf x s with
    | some xs => .ok (.l (cutV xs lo hi)) s
    | none => .bad
def optI (e : Option Ev) (ρ : Env) (s : Store) : Res (Option Int) := match e with
  | none => .ok none s
  | some e => (e ρ s).bind fun x s => match x with
    | .v (.int i) => .ok (some i) s
    | _ => .bad
def eSl (e : Ev) (lo hi : Option Ev) : Ev := fun ρ s => (e ρ s).bind fun x s => (optI lo ρ s).bind fun i s => (optI hi ρ s).bind fun j s => slc x i j s
def fldOf (cs : List Nat) (x : Tv) (f : Nat) (s : Store) : Option Val := match x with
  | .v (.ref n) => match s[n]? with
    | some (.ins c fs) => if cs.contains c = true then fs.lookup f else none
    | _ => none
  | _ => none
/-- e.f, e an instance of one of the classes cs -/
def eFld (cs : List Nat) (e : Ev) (f : Nat) : Ev := fun ρ s => (e ρ s).bind fun x s => match fldOf cs x f s with
  | some z => .ok (.v z) s
  | none => .bad
/-! ### calls -/
def eCall (F : Fn) (a : Avs) : Ev := fun ρ s => (a ρ s).bind fun xs s => F xs s
/-- C(..) -/
def eMk (c : Nat) (F : Fn) (a : Avs) : Ev := fun ρ s => (a ρ s).bind fun xs s => (F (.ref s.length :: xs) (s ++ [.ins c []])).bind fun r s' => match r with
  | .v .non => .ok (.v (.ref s.length)) s'
  | _ => .bad
/-- keywords: the values in the parameters' order -/
def aPerm (g : List Val → List Val) (a : Avs) : Avs := fun ρ s => (a ρ s).bind fun xs s => .ok (g xs) s
/-- x is an instance of the class c that has no attribute m of its own -/
def isCls (x : Val) (c m : Nat) (s : Store) : Bool := match x with
  | .ref n => match s[n]? with
    | some (.ins d fs) => d == c && (fs.lookup m).isNone
    | _ => false
  | _ => false
/-- o.m(..), o an instance of the class c -/
def eMeth (c m : Nat) (F : Fn) (e : Ev) (a : Avs) : Ev := fun ρ s => (e ρ s).bind fun x s => match x with
  | .v o => if isCls o c m s = true then (a ρ s).bind fun xs s => F (o :: xs) s else .bad
  | _ => .bad
abbrev B1 := Tv → Store → Res Tv
def eB1 (b : B1) (a : Ev) : Ev := fun ρ s => (a ρ s).bind b
def bLen : B1 := fun x s => match seqOf x s with
  | some xs => .ok (.v (.int xs.length)) s
  | none => .bad
def bInt : B1 := fun x s => match x with
  | .v (.int i) => .ok (.v (.int i)) s
  | .v (.bool b) => .ok (.v (.int (if b then 1 else 0))) s
  | _ => .bad
def bTuple : B1 := fun x s => match seqOf x s with
  | some xs => .ok (.v (.tup xs)) s
  | none => .bad
def bList : B1 := fun x s => match seqOf x s with
  | some xs => .ok (.l xs) s
  | none => .bad
def bools? : List Val → Option (List Bool)
  | [] => some []
  | .bool i :: r => (bools? r).map (i :: ·)
  | _ :: _ => none
def bAll : B1 := fun x s => match lstOf x s with
  | some xs => match bools? xs with
    | some bs => .ok (.v (.bool (bs.all id))) s
    | none => .bad
  | none => .bad
def bAny : B1 := fun x s => match lstOf x s with
  | some xs => match bools? xs with
    | some bs => .ok (.v (.bool (bs.any id))) s
    | none => .bad
  | none => .bad
def maxI : List Int → Int
  | [] => 0
  | [i] => i
  | i :: r => max i (maxI r)
def bMax : B1 := fun x s => match lstOf x s with
  | some xs => match ints? xs with
    | some (i :: is) => .ok (.v (.int (maxI (i :: is)))) s
    | _ => .bad
  | none => .bad
def oMax : Op2
  | .v (.int i), .v (.int j), s => .ok (.v (.int (if j > i then j else i))) s
  | _, _, _ => .bad
def oMin : Op2
  | .v (.int i), .v (.int j), s => .ok (.v (.int (if j < i then j else i))) s
  | _, _, _ => .bad
/-- tuple(range(..)), list(range(..)) -/
def rngV (i j : Int) : List Val := (List.range (j - i).toNat).map fun k => .int (i + (k : Nat))
abbrev Rg := Env → Store → Res (Int × Int)
def rg1 (e : Ev) : Rg := fun ρ s => (e ρ s).bind fun t s => match t with
  | .v (.int j) => .ok (0, j) s
  | _ => .bad
def rg2 (e e' : Ev) : Rg := fun ρ s => (e ρ s).bind fun t s => (e' ρ s).bind fun t' s => match t, t' with
  | .v (.int i), .v (.int j) => .ok (i, j) s
  | _, _ => .bad
def fitR (i j : Int) : Bool := decide (-(2 ^ 62) ≤ i) && decide (i < 2 ^ 62) && decide (-(2 ^ 62) ≤ j) && decide (j < 2 ^ 62) && decide ((j - i).toNat ≤ LIM)
def eLstR (r : Rg) : Ev := fun ρ s => (r ρ s).bind fun p s => if fitR p.1 p.2 then .ok (.l (rngV p.1 p.2)) s else .bad
def eTupR (r : Rg) : Ev := fun ρ s => (r ρ s).bind fun p s => if fitR p.1 p.2 then .ok (.v (.tup (rngV p.1 p.2))) s else .bad
inductive Ty where
  | int | bool | str | list | tuple | lot | cls (c : Nat)
def insB (ty : Ty) (d : Nat) : Bool := match ty with
  | .cls c => d == c
  | _ => false
def isTy (cs : List Nat) (ty : Ty) (x : Tv) (s : Store) : Option Bool := match x with
  | .v .non => some false
  | .v (.bool _) => some (match ty with | .int => true | .bool => true | _ => false)
  | .v (.int _) => some (match ty with | .int => true | _ => false)
  | .v (.str _) => some (match ty with | .str => true | _ => false)
  | .v (.tup _) => some (match ty with | .tuple => true | .lot => true | _ => false)
  | .l _ => some (match ty with | .list => true | .lot => true | _ => false)
  | .v (.ref n) => match s[n]? with
    | some (.lst _) => some (match ty with | .list => true | .lot => true | _ => false)
    | some (.ins d _) => if cs.contains d = true then some (insB ty d) else none
    | some (.dct _) => some false
    | _ => none
def bIs (cs : List Nat) (ty : Ty) : B1 := fun x s => ans (isTy cs ty x s) s

/-! ### methods of lists -/
def inR (i : Int) : Bool := decide (-(2 ^ 62) ≤ i) && decide (i < 2 ^ 62)
def updL (n : Nat) (xs : List Val) (s : Store) : Store := s.set n (.lst xs)
def refL (t : Tv) (s : Store) : Option (Nat × List Val) := match t with
  | .v (.ref n) => match s[n]? with
    | some (.lst xs) => some (n, xs)
    | _ => none
  | _ => none
def eAppend (e a : Ev) : Ev := fun ρ s => (e ρ s).bind fun o s => if (refL o s).isSome = true then (a ρ s).bind fun t s => (mat t s).bind fun x s => match refL o s with
    | some (n, xs) => if xs.length < LIM then .ok (.v .non) (updL n (xs ++ [x]) s) else .bad
    | none => .bad
  else .bad
def eExtend (e a : Ev) : Ev := fun ρ s => (e ρ s).bind fun o s => if (refL o s).isSome = true then (a ρ s).bind fun t s => match refL o s, lstOf t s with
    | some (n, xs), some ys => if xs.length + ys.length ≤ LIM then .ok (.v .non) (updL n (xs ++ ys) s) else .bad
    | _, _ => .bad
  else .bad
def ePop (e : Ev) : Ev := fun ρ s => (e ρ s).bind fun o s => match refL o s with
  | some (n, xs) => match xs[xs.length - 1]? with
    | some y => .ok (.v y) (updL n xs.dropLast s)
    | none => .bad
  | none => .bad
def ePopAt (e a : Ev) : Ev := fun ρ s => (e ρ s).bind fun o s => if (refL o s).isSome = true then (a ρ s).bind fun t s => match t with
    | .v (.int i) => match refL o s with
      | some (n, xs) => match (if inR i then ixN xs.length i else none) with
        | some k => match xs[k]? with
          | some y => .ok (.v y) (updL n (xs.eraseIdx k) s)
          | none => .bad
        | none => .bad
      | none => .bad
    | _ => .bad
  else .bad
def eClear (e : Ev) : Ev := fun ρ s => (e ρ s).bind fun o s => match refL o s with
  | some (n, _) => .ok (.v .non) (updL n [] s)
  | none => .bad
def firstIx (d : Dt) : List Dt → Nat → Option Nat
  | [], _ => none
  | e :: r, j => if Dt.eqv e d then some j else firstIx d r (j + 1)
def eIndex (e a : Ev) : Ev := fun ρ s => (e ρ s).bind fun o s => if (lstOf o s).isSome = true then (a ρ s).bind fun t s => match lstOf o s, tvD s t with
  | some xs, some d => match toDs s DEEP xs with
    | some ds => match firstIx d ds 0 with
      | some j => .ok (.v (.int j)) s
      | none => .bad
    | none => .bad
  | _, _ => .bad
  else .bad

/-! ### what is walked -/
/-- the items as they stand at a state; a tuple's, a new list's, a range's stay -/
abbrev Its := Store → Option (List Val)
abbrev Ix := Env → Store → Res Its
def itsOf (t : Tv) (s : Store) : Option Its := match t with
  | .l xs => some fun _ => some xs
  | .v (.tup xs) => some fun _ => some xs
  | .v (.ref n) => match s[n]? with
    | some (.lst _) => some fun s => match s[n]? with
      | some (.lst xs) => some xs
      | _ => none
    | some (.frz _) => some fun s => match s[n]? with
      | some (.frz xs) => some xs
      | _ => none
    | _ => none
  | _ => none
def ixE (e : Ev) : Ix := fun ρ s => (e ρ s).bind fun t s => match itsOf t s with
  | some f => .ok f s
  | none => .bad
def ixR (e : Ev) : Ix := fun ρ s => (e ρ s).bind fun t s => match t with
  | .v (.int j) => if inR j then .ok (fun _ => some (rngV 0 j)) s else .bad
  | _ => .bad
def ixR2 (e e' : Ev) : Ix := fun ρ s => (e ρ s).bind fun t s => (e' ρ s).bind fun t' s => match t, t' with
  | .v (.int i), .v (.int j) => if inR i && inR j then .ok (fun _ => some (rngV i j)) s else .bad
  | _, _ => .bad
def numbered : List Val → Nat → List Val
  | [], _ => []
  | x :: r, i => .tup [.int (i : Nat), x] :: numbered r (i + 1)
def ixEnum (e : Ev) : Ix := fun ρ s => (e ρ s).bind fun t s => match itsOf t s with
  | some f => .ok (fun s => (f s).map fun xs => numbered xs 0) s
  | none => .bad
def paired : List Val → List Val → List Val
  | x :: r, y :: q => .tup [x, y] :: paired r q
  | _, _ => []
def zipI (f g : Its) : Its := fun s => match f s, g s with
  | some xs, some ys => some (paired xs ys)
  | _, _ => none
def isTupT (t : Tv) : Bool := match t with
  | .v (.tup _) => true
  | _ => false
def ixZip (e e' : Ev) : Ix := fun ρ s => (e ρ s).bind fun t s => (e' ρ s).bind fun t' s => match itsOf t s, itsOf t' s with
  | some f, some g => if isTupT t == isTupT t' then .ok (zipI f g) s else .bad
  | _, _ => .bad
/-! ### targets -/
def gV (i : Nat) : Tgt := fun x ρ s => .ok (ρ.set i (some x)) s
def setAll : List Nat → List Val → Env → Option Env
  | [], [], ρ => some ρ
  | i :: is, x :: xs, ρ => setAll is xs (ρ.set i (some x))
  | _, _, _ => none
def gT (is : List Nat) : Tgt := fun x ρ s => match x with
  | .tup xs => match setAll is xs ρ with
    | some ρ => .ok ρ s
    | none => .bad
  | _ => .bad
/-! ### comprehensions -/
def wipe (ρ : Env) : List Nat → Env
  | [] => ρ
  | v :: vs => (wipe ρ vs).set v none
/-- the turns: f turns at most, i the turn's number, acc what was made -/
def compGo (its : Its) (g : Tgt) (c : Tst) (e : Ev) (ρ : Env) : Nat → Nat → List Val → Store → Res Tv
  | 0, _, _, _ => .bad
  | f + 1, i, acc, s => match its s with
    | none => .bad
    | some xs => match xs[i]? with
      | none => .ok (.l acc) s
      | some x => (g x ρ s).bind fun ρ' s => (c ρ' s).bind fun b s => if b = true then (e ρ' s).bind fun t s => (mat t s).bind fun y s => if acc.length < LIM then compGo its g c e ρ f (i + 1) (acc ++ [y]) s else .bad
        else compGo its g c e ρ f (i + 1) acc s
def tYes : Tst := fun _ s => .ok true s
def eComp (ix : Ix) (g : Tgt) (own : List Nat) (c : Tst) (e : Ev) : Ev := fun ρ s => (ix ρ s).bind fun its s => match its s with
  | some xs => compGo its g c e (wipe ρ own) (xs.length + 1) 0 [] s
  | none => .bad

/-! ### statements -/
def sNop : Sx := fun ρ s => .ok (.next, ρ) s
def sSeq (a b : Sx) : Sx := fun ρ s => (a ρ s).bind fun r s => match r with
  | (.next, ρ) => b ρ s
  | r => .ok r s
def sAsg (g : Tgt) (e : Ev) : Sx := fun ρ s => (e ρ s).bind fun t s => (mat t s).bind fun x s => (g x ρ s).bind fun ρ s => .ok (.next, ρ) s
/-- a, b = e1, e2 with two local names -/
def sPar (i j : Nat) (a : Avs) : Sx := fun ρ s => (a ρ s).bind fun xs s => match xs with
  | [x, y] => .ok (.next, (ρ.set i (some x)).set j (some y)) s
  | _ => .bad
def sPar3 (i j k : Nat) (a : Avs) : Sx := fun ρ s => (a ρ s).bind fun xs s => match xs with
  | [x, y, z] => .ok (.next, ((ρ.set i (some x)).set j (some y)).set k (some z)) s
  | _ => .bad
def sExp (e : Ev) : Sx := fun ρ s => (e ρ s).bind fun _ s => .ok (.next, ρ) s
def sRet (e : Ev) : Sx := fun ρ s => (e ρ s).bind fun t s => .ok (.ret t, ρ) s
def sRetN : Sx := fun ρ s => .ok (.ret (.v .non), ρ) s
def sIf (t : Tst) (a b : Sx) : Sx := fun ρ s => (t ρ s).bind fun c s => if c = true then a ρ s else b ρ s
def sBrk : Sx := fun ρ s => .ok (.brk, ρ) s
def sRaise (c : Nat) (a : Avs) : Sx := fun ρ s => (a ρ s).bind fun xs s => .exc c xs s
def putF (f : Nat) (v : Val) : List (Nat × Val) → List (Nat × Val)
  | [] => [(f, v)]
  | (g, x) :: r => if g = f then (g, v) :: r else (g, x) :: putF f v r
/-- o.f = e, o an instance of one of the classes cs -/
def refI (cs : List Nat) (x : Tv) (s : Store) : Option (Nat × Nat × List (Nat × Val)) := match x with
  | .v (.ref n) => match s[n]? with
    | some (.ins c fs) => if cs.contains c = true then some (n, c, fs) else none
    | _ => none
  | _ => none
def sFld (cs : List Nat) (o : Ev) (f : Nat) (e : Ev) : Sx := fun ρ s => (e ρ s).bind fun t s => (mat t s).bind fun y s => (o ρ s).bind fun x s => match refI cs x s with
  | some (n, c, fs) => if fs.length < 1000 then .ok (.next, ρ) (s.set n (.ins c (putF f y fs))) else .bad
  | none => .bad
/-- o[i] = e, a list -/
def sSub (o i e : Ev) : Sx := fun ρ s => (e ρ s).bind fun t s => (mat t s).bind fun y s => (o ρ s).bind fun x s => (i ρ s).bind fun k s => match refL x s, k with
  | some (n, xs), .v (.int k) => match ixN xs.length k with
    | some j => .ok (.next, ρ) (updL n (xs.set j y) s)
    | none => .bad
  | _, _ => .bad
/-! ### dicts whose keys are tuples of ints -/
def putK (k : List Int) (v : Val) : List (List Int × Val) → List (List Int × Val)
  | [] => [(k, v)]
  | (g, x) :: r => if g = k then (g, v) :: r else (g, x) :: putK k v r
/-- a key e[:hi], shorter than e -/
abbrev Ek := Env → Store → Res (List Int)
def eKey (e : Ev) (hi : Int) : Ek := fun ρ s => (e ρ s).bind fun t s => match t with
  | .v (.tup xs) => if (cutV xs none (some hi)).length < xs.length then match ints? (cutV xs none (some hi)) with
      | some k => .ok k s
      | none => .bad
    else .bad
  | _ => .bad
def refK (t : Tv) (s : Store) : Option (Nat × List (List Int × Val)) := match t with
  | .v (.ref n) => match s[n]? with
    | some (.dct kvs) => some (n, kvs)
    | _ => none
  | _ => none
def eDIn (k : Ek) (d : Ev) : Ev := fun ρ s => (k ρ s).bind fun k s => (d ρ s).bind fun t s => match refK t s with
  | some (_, kvs) => .ok (.v (.bool (kvs.lookup k).isSome)) s
  | none => .bad
def eDNotIn (k : Ek) (d : Ev) : Ev := fun ρ s => (k ρ s).bind fun k s => (d ρ s).bind fun t s => match refK t s with
  | some (_, kvs) => .ok (.v (.bool (!(kvs.lookup k).isSome))) s
  | none => .bad
def eDGet (d : Ev) (k : Ek) : Ev := fun ρ s => (d ρ s).bind fun t s => (k ρ s).bind fun k s => match refK t s with
  | some (_, kvs) => match kvs.lookup k with
    | some z => .ok (.v z) s
    | none => .bad
  | none => .bad
def sDPut (d : Ev) (k : Ek) (e : Ev) : Sx := fun ρ s => (e ρ s).bind fun t s => (mat t s).bind fun y s => (d ρ s).bind fun t s => (k ρ s).bind fun k s => match refK t s with
  | some (n, kvs) => if kvs.length < LIM then .ok (.next, ρ) (s.set n (.dct (putK k y kvs))) else .bad
  | none => .bad
/-- x = {} whose keys will be tuples -/
def sDict (i : Nat) : Sx := fun ρ s => .ok (.next, ρ.set i (some (.ref s.length))) (s ++ [.dct []])
def forGo (its : Its) (g : Tgt) (b : Sx) : Nat → Nat → Env → Store → Res (Fl × Env)
  | 0, _, _, _ => .bad
  | f + 1, i, ρ, s => match its s with
    | none => .bad
    | some xs => match xs[i]? with
      | none => .ok (.next, ρ) s
      | some x => (g x ρ s).bind fun ρ s => (b ρ s).bind fun r s => match r with
        | (.next, ρ) => forGo its g b f (i + 1) ρ s
        | (.brk, ρ) => .ok (.next, ρ) s
        | r => .ok r s
def sFor (ix : Ix) (g : Tgt) (b : Sx) : Sx := fun ρ s => (ix ρ s).bind fun its s => match its s with
  | some xs => forGo its g b (xs.length + 1) 0 ρ s
  | none => .bad
def whGo (t : Tst) (b : Sx) : Nat → Env → Store → Res (Fl × Env)
  | 0, _, _ => .bad
  | f + 1, ρ, s => (t ρ s).bind fun c s => if c = true then (b ρ s).bind fun r s => match r with
      | (.next, ρ) => whGo t b f ρ s
      | (.brk, ρ) => .ok (.next, ρ) s
      | r => .ok r s
    else .ok (.next, ρ) s
/-- so many turns a while may take -/
abbrev WHILE : Nat := 100000
def sWh (t : Tst) (b : Sx) : Sx := whGo t b WHILE
/-- a def: np parameters, nl names in all -/
def fnOf (np nl : Nat) (b : Sx) : Fn := fun vs s => if vs.length = np then (b (vs.map some ++ List.replicate (nl - np) none) s).bind fun r s => match r with
    | (.next, _) => .ok (.v .non) s
    | (.ret x, _) => .ok x s
    | (.brk, _) => .bad
  else .bad
/-! ### functions as arguments, keywords, own == -/
/-- the ints that the names hold -/
def capI (ρ : Env) : List Nat → Option (List Int)
  | [] => some []
  | j :: js => match ρ[j]? with
    | some (some (.int i)) => (capI ρ js).map (i :: ·)
    | _ => none
def eCallL (F : (Val → Store → Res Tv) → Fn) (a : Avs) (js : List Nat) (Lb : Ev) : Ev := fun ρ s => match capI ρ js with
  | some is => (a ρ s).bind fun xs s => F (fun x s => Lb (some x :: is.map fun i => some (.int i)) s) xs s
  | none => .bad
/-- f(e), f the lambda's name -/
def eLamC (i : Nat) (L : Val → Store → Res Tv) (e : Ev) : Ev := fun ρ s => match ρ[i]? with
  | some none => (e ρ s).bind fun t s => (mat t s).bind fun x s => L x s
  | _ => .bad

def pick {α : Type} (is : List Nat) (l : List α) : List α := is.filterMap fun i => l[i]?
def aApp (a b : Avs) : Avs := fun ρ s => (a ρ s).bind fun xs s => (b ρ s).bind fun ys s => .ok (xs ++ ys) s
def eCallK (F : Fn) (is : List Nat) (a b : Avs) : Ev := eCall F (aPerm (pick is) (aApp a b))
/-- C(..) with keywords; self stands first -/
def eMkK (c : Nat) (F : Fn) (is : List Nat) (a b : Avs) : Ev := fun ρ s => (a ρ s).bind fun xs s => (b ρ s).bind fun ys s => (F (pick is (.ref s.length :: xs ++ ys)) (s ++ [.ins c []])).bind fun r s' => match r with
  | .v .non => .ok (.v (.ref s.length)) s'
  | _ => .bad
def isIns (x : Tv) (c : Nat) (s : Store) : Option Val := match x with
  | .v (.ref n) => match s[n]? with
    | some (.ins d _) => if d = c then some (.ref n) else none
    | _ => none
  | _ => none
def cEqI (c : Nat) (F : Fn) : Op2 := fun x y s => match isIns x c s, isIns y c s with
  | some a, some b => (F [a, b] s).bind fun r s => match r with
    | .v (.bool k) => .ok (.v (.bool k)) s
    | _ => .bad
  | _, _ => .bad
end VI
end
section
set_option linter.all false
set_option autoImplicit false
/-! VI0b: further combinators, in plain Lean: dicts written to, sets that are sorted or counted at once, defaults. -/
namespace VI
/-- in its place, or at the end -/
def putKs (k : List Int) (v : Val) (kvs : List (List Int × Val)) : List (List Int × Val) :=
  if (kvs.any fun kv => decide (kv.1 = k)) = true then kvs.map (fun kv => if kv.1 = k then (kv.1, v) else kv) else kvs ++ [(k, v)]
/-- d[k] = e -/
def sDSet (d : Ev) (k : Ek) (e : Ev) : Sx := fun ρ s => (e ρ s).bind fun t s => (mat t s).bind fun y s => (d ρ s).bind fun t s => (k ρ s).bind fun k s => match refK t s with
  | some (n, kvs) => if kvs.length < LIM then .ok (.next, ρ) (s.set n (.dct (putKs k y kvs))) else .bad
  | none => .bad
/-- an int into its place in a rising list -/
def insI (i : Int) : List Int → List Int
  | [] => [i]
  | j :: r => if i < j then i :: j :: r else if i = j then j :: r else j :: insI i r
def srtI : List Int → List Int
  | [] => []
  | i :: r => insI i (srtI r)
/-- sorted(set(e)), e a list of ints -/
def bSrtSet : B1 := fun x s => match lstOf x s with
  | some xs => match ints? xs with
    | some is => if is.length ≤ 1000 ∧ (srtI is).length < 64 then .ok (.l ((srtI is).map .int)) s else .bad
    | none => .bad
  | none => .bad
theorem srt_mem (i : Int) : ∀ l : List Int, i ∈ srtI l ↔ i ∈ l := by
  have one : ∀ (j : Int) (l : List Int), i ∈ insI j l ↔ i = j ∨ i ∈ l := fun j l => by
    induction l with
    | nil => simp [insI]
    | cons k r ih =>
      unfold insI
      by_cases h1 : j < k
      · rw [if_pos h1]; simp
      · rw [if_neg h1]
        by_cases h2 : j = k
        · rw [if_pos h2]; subst h2; simp
        · rw [if_neg h2, List.mem_cons, ih, List.mem_cons]
          constructor
          · rintro (a | a | a)
            · exact .inr (.inl a)
            · exact .inl a
            · exact .inr (.inr a)
          · rintro (a | a | a)
            · exact .inr (.inl a)
            · exact .inl a
            · exact .inr (.inr a)
  intro l
  induction l with
  | nil => simp [srtI]
  | cons j r ih => unfold srtI; rw [one, ih, List.mem_cons]
theorem srt_rise : ∀ l : List Int, (srtI l).Pairwise (· < ·) := by
  have mem : ∀ (i j : Int) (l : List Int), i ∈ insI j l → i = j ∨ i ∈ l := fun i j l => by
    induction l with
    | nil => simp [insI]
    | cons k r ih =>
      unfold insI
      by_cases h1 : j < k
      · rw [if_pos h1]; simp
      · rw [if_neg h1]
        by_cases h2 : j = k
        · rw [if_pos h2]; intro h; exact .inr h
        · rw [if_neg h2, List.mem_cons, List.mem_cons]
          rintro (a | a)
          · exact .inr (.inl a)
          · rcases ih a with b | b
            · exact .inl b
            · exact .inr (.inr b)
  have one : ∀ (j : Int) (l : List Int), l.Pairwise (· < ·) → (insI j l).Pairwise (· < ·) := fun j l => by
    induction l with
    | nil => intro _; simp [insI]
    | cons k r ih =>
      intro h
      obtain ⟨h1, h2⟩ := List.pairwise_cons.mp h
      unfold insI
      by_cases c1 : j < k
      · rw [if_pos c1]
        refine List.pairwise_cons.mpr ⟨fun a ha => ?_, h⟩
        rcases List.mem_cons.mp ha with rfl | ha
        · exact c1
        · exact Int.lt_trans c1 (h1 a ha)
      · rw [if_neg c1]
        by_cases c2 : j = k
        · rw [if_pos c2]; exact h
        · rw [if_neg c2]
          refine List.pairwise_cons.mpr ⟨fun a ha => ?_, ih h2⟩
          rcases mem a j r ha with rfl | ha
          · omega
          · exact h1 a ha
  intro l
  induction l with
  | nil => exact .nil
  | cons j r ih => exact one j _ ih
theorem rise_eq : ∀ {a b : List Int}, a.Pairwise (· < ·) → b.Pairwise (· < ·) → (∀ i, i ∈ a ↔ i ∈ b) → a = b
  | [], [], _, _, _ => rfl
  | [], y :: b, _, _, h => absurd ((h y).mpr List.mem_cons_self) List.not_mem_nil
  | x :: a, [], _, _, h => absurd ((h x).mp List.mem_cons_self) List.not_mem_nil
  | x :: a, y :: b, ha, hb, h => by
    obtain ⟨a1, a2⟩ := List.pairwise_cons.mp ha
    obtain ⟨b1, b2⟩ := List.pairwise_cons.mp hb
    have e : x = y := by
      rcases List.mem_cons.mp ((h x).mp List.mem_cons_self) with e | e
      · exact e
      · rcases List.mem_cons.mp ((h y).mpr List.mem_cons_self) with e' | e'
        · exact e'.symm
        · have := b1 x e; have := a1 y e'; omega
    subst e
    rw [rise_eq a2 b2 fun i => ?_]
    have hi := h i
    rw [List.mem_cons, List.mem_cons] at hi
    constructor
    · intro m
      have := a1 i m
      rcases hi.mp (.inr m) with e | e
      · omega
      · exact e
    · intro m
      have := b1 i m
      rcases hi.mpr (.inr m) with e | e
      · omega
      · exact e
def strs? : List Val → Option (List Nat)
  | [] => some []
  | .str i :: r => (strs? r).map (i :: ·)
  | _ :: _ => none
/-- each one once, as first met -/
def dedS {α : Type} [BEq α] (l : List α) : List α := l.foldl (fun acc x => if acc.contains x then acc else acc ++ [x]) []
/-- len(set(e)), e a tuple of texts -/
def bLenSet : B1 := fun x s => match x with
  | .v (.tup xs) => match strs? xs with
    | some is => if is.length ≤ 1000 then .ok (.v (.int ((dedS is).length : Nat))) s else .bad
    | none => .bad
  | _ => .bad
/-- two lists of N instances of the class c, each pair equal by F (or the same); the lists are read anew at each turn -/
def eqGo (c : Nat) (F : Fn) (x y : Tv) (N : Nat) : Nat → Store → Res Bool
  | 0, s => match lstOf x s, lstOf y s with
    | some xs, some ys => if xs.length = N ∧ ys.length = N then .ok true s else .bad
    | _, _ => .bad
  | m + 1, s => match lstOf x s, lstOf y s with
    | some xs, some ys => if xs.length = N ∧ ys.length = N then match xs[N - (m + 1)]?, ys[N - (m + 1)]? with
        | some (.ref j), some (.ref k) => match isIns (.v (.ref j)) c s, isIns (.v (.ref k)) c s with
          | some _, some _ => if j = k then eqGo c F x y N m s else (F [.ref j, .ref k] s).bind fun r s => match r with
            | .v (.bool b) => if b = true then eqGo c F x y N m s else .bad
            | _ => .bad
          | _, _ => .bad
        | _, _ => .bad
      else .bad
    | _, _ => .bad
def cEqIL (c : Nat) (F : Fn) : Op2 := fun x y s => match lstOf x s with
  | some xs => (eqGo c F x y xs.length xs.length s).bind fun _ s => .ok (.v (.bool true)) s
  | none => .bad
/-- a, b, .. = a list in the store -/
def gL (is : List Nat) : Tgt := fun x ρ s => match lstOf (.v x) s with
  | some xs => match setAll is xs ρ with
    | some ρ => .ok ρ s
    | none => .bad
  | none => .bad
/-- values that fill up -/
def aDs (ds : List Val) : Avs := fun _ s => .ok ds s
end VI
end
section
set_option Elab.async false
set_option linter.all false
set_option maxRecDepth 100000
set_option maxHeartbeats 2000000
/-! WP: what a reading gives, said by postconditions; simp lemmas for the combinators. -/
namespace VI
inductive Wp {α : Type} (r : Res α) (Q : α → Store → Prop) : Prop
  | mk (a : α) (s : Store) (e : r = .ok a s) (q : Q a s) : Wp r Q
section
variable {α β : Type} {r : Res α} {Q Q' : α → Store → Prop}
@[simp] theorem wp_ok (a : α) (s : Store) : Wp (.ok a s) Q ↔ Q a s := ⟨fun ⟨_, _, e, q⟩ => by cases e; exact q, fun h => ⟨a, s, rfl, h⟩⟩
@[simp] theorem wp_bad : Wp (.bad : Res α) Q ↔ False := ⟨fun ⟨_, _, e, _⟩ => (by cases e), False.elim⟩
@[simp] theorem wp_exc (c fs) (s : Store) : Wp (.exc c fs s : Res α) Q ↔ False := ⟨fun ⟨_, _, e, _⟩ => (by cases e), False.elim⟩
@[simp] theorem wp_bind (f : α → Store → Res β) (Q : β → Store → Prop) : Wp (r.bind f) Q ↔ Wp r fun a s => Wp (f a s) Q := by
  cases r with
  | ok a s => simp
  | exc => simp
  | bad => simp
theorem Wp.mono (h : Wp r Q) (k : ∀ a s, Q a s → Q' a s) : Wp r Q' := by
  obtain ⟨a, s, e, q⟩ := h
  exact ⟨a, s, e, k a s q⟩
theorem wp_iff : Wp r Q ↔ ∃ a s, r = .ok a s ∧ Q a s := ⟨fun ⟨a, s, e, q⟩ => ⟨a, s, e, q⟩, fun ⟨a, s, e, q⟩ => ⟨a, s, e, q⟩⟩
theorem wp_of_eq {a : α} {s : Store} (e : r = .ok a s) (h : Q a s) : Wp r Q := ⟨a, s, e, h⟩
end
/-! ### combinators -/
section
variable {ρ : Env} {s : Store}
@[simp] theorem LIM_eq : LIM = 16777216 := (rfl)
@[simp] theorem mat_v (x : Val) : mat (.v x) s = .ok x s := (rfl)
@[simp] theorem mat_l (xs : List Val) : mat (.l xs) s = .ok (.ref s.length) (s ++ [.lst xs]) := (rfl)
@[simp] theorem eC_r (x : Val) : eC x ρ s = .ok (.v x) s := (rfl)
@[simp] theorem eV_r (i : Nat) : eV i ρ s = match ρ[i]? with
  | some (some x) => .ok (.v x) s
  | _ => .bad := (rfl)
@[simp] theorem aNil_r : aNil ρ s = .ok [] s := (rfl)
@[simp] theorem aCons_r (e : Ev) (r : Avs) : aCons e r ρ s = (e ρ s).bind fun t s => (mat t s).bind fun x s => (r ρ s).bind fun xs s => .ok (x :: xs) s := (rfl)
@[simp] theorem eTup_r (a : Avs) : eTup a ρ s = (a ρ s).bind fun xs s => if xs.length ≤ LIM then .ok (.v (.tup xs)) s else .bad := (rfl)
@[simp] theorem eLst_r (a : Avs) : eLst a ρ s = (a ρ s).bind fun xs s => if xs.length ≤ LIM then .ok (.l xs) s else .bad := (rfl)
@[simp] theorem eBin_r (o : Op2) (a b : Ev) : eBin o a b ρ s = (a ρ s).bind fun x s => (b ρ s).bind fun y s => o x y s := (rfl)
@[simp] theorem oAdd_i (i j : Int) : oAdd (.v (.int i)) (.v (.int j)) s = .ok (.v (.int (i + j))) s := (rfl)
@[simp] theorem oAdd_t (a b : List Val) : oAdd (.v (.tup a)) (.v (.tup b)) s = if a.length + b.length ≤ LIM then .ok (.v (.tup (a ++ b))) s else .bad := (rfl)
@[simp] theorem oAdd_ll (a b : List Val) : oAdd (.l a) (.l b) s = if a.length + b.length ≤ LIM then .ok (.l (a ++ b)) s else .bad := (rfl)
@[simp] theorem oAdd_rl (n : Nat) (b : List Val) : oAdd (.v (.ref n)) (.l b) s = match lstOf (.v (.ref n)) s with
  | some a => if a.length + b.length ≤ LIM then .ok (.l (a ++ b)) s else .bad
  | none => .bad := by
  unfold oAdd
  simp only [lstOf]
  cases h : s[n]? with
  | none => rfl
  | some o => cases o <;> rfl
@[simp] theorem oSub_i (i j : Int) : oSub (.v (.int i)) (.v (.int j)) s = .ok (.v (.int (i - j))) s := (rfl)
@[simp] theorem oMul_i (i j : Int) : oMul (.v (.int i)) (.v (.int j)) s = if small i || small j then .ok (.v (.int (i * j))) s else .bad := (rfl)
@[simp] theorem oMul_t (a : List Val) (k : Int) : oMul (.v (.tup a)) (.v (.int k)) s = if -1000 ≤ k ∧ k ≤ 1000 ∧ a.length ≤ 1000 ∧ a.isEmpty = false then .ok (.v (.tup (List.replicate k.toNat a).flatten)) s else .bad := (rfl)
@[simp] theorem oMul_l (a : List Val) (k : Int) : oMul (.l a) (.v (.int k)) s = if -(2 ^ 63) ≤ k ∧ k < 2 ^ 63 ∧ a.length * k.toNat ≤ LIM then .ok (.l (List.replicate k.toNat a).flatten) s else .bad := (rfl)
@[simp] theorem oMod_i (i j : Int) : oMod (.v (.int i)) (.v (.int j)) s = if j ≠ 0 then .ok (.v (.int (i.fmod j))) s else .bad := (rfl)
@[simp] theorem oDiv_i (i j : Int) : oDiv (.v (.int i)) (.v (.int j)) s = if j ≠ 0 ∧ j.natAbs < 1073741824 then .ok (.v (.int (i.fdiv j))) s else .bad := (rfl)
@[simp] theorem oPow_i (i j : Int) : oPow (.v (.int i)) (.v (.int j)) s = if 0 ≤ j ∧ j ≤ 64 ∧ i.natAbs < 2 ^ 200 then .ok (.v (.int (i ^ j.toNat))) s else .bad := (rfl)
@[simp] theorem eNeg_r (a : Ev) : eNeg a ρ s = (a ρ s).bind fun x s => match x with
  | .v (.int i) => .ok (.v (.int (-i))) s
  | _ => .bad := (rfl)
@[simp] theorem eNot_r (a : Ev) : eNot a ρ s = (a ρ s).bind fun x s => match x with
  | .v (.bool b) => .ok (.v (.bool (!b))) s
  | _ => .bad := (rfl)
@[simp] theorem eAnd_r (a b : Ev) : eAnd a b ρ s = (a ρ s).bind fun x s => match x with
  | .v (.bool c) => if c = true then b ρ s else .ok (.v (.bool false)) s
  | _ => .bad := (rfl)
@[simp] theorem eOr_r (a b : Ev) : eOr a b ρ s = (a ρ s).bind fun x s => match x with
  | .v (.bool c) => if c = true then .ok (.v (.bool true)) s else b ρ s
  | _ => .bad := (rfl)
@[simp] theorem cLt_i (i j : Int) : cLt (.v (.int i)) (.v (.int j)) s = .ok (.v (.bool (decide (i < j)))) s := (rfl)
@[simp] theorem cLe_i (i j : Int) : cLe (.v (.int i)) (.v (.int j)) s = .ok (.v (.bool (decide (i ≤ j)))) s := (rfl)
@[simp] theorem cGt_i (i j : Int) : cGt (.v (.int i)) (.v (.int j)) s = .ok (.v (.bool (decide (j < i)))) s := (rfl)
@[simp] theorem cGe_i (i j : Int) : cGe (.v (.int i)) (.v (.int j)) s = .ok (.v (.bool (decide (j ≤ i)))) s := (rfl)
@[simp] theorem cIsN_r (x : Tv) : cIsN x (.v .non) s = .ok (.v (.bool (isN x))) s := (rfl)
@[simp] theorem cNotN_r (x : Tv) : cNotN x (.v .non) s = .ok (.v (.bool (!isN x))) s := (rfl)
@[simp] theorem isN_non : isN (.v .non) = true := (rfl)
@[simp] theorem isN_int (i : Int) : isN (.v (.int i)) = false := (rfl)
@[simp] theorem isN_tup (l : List Val) : isN (.v (.tup l)) = false := (rfl)
@[simp] theorem toD_non (n : Nat) : toD s n .non = some .non := by cases n <;> rfl
@[simp] theorem toD_bool (n : Nat) (b : Bool) : toD s n (.bool b) = some (.bool b) := by cases n <;> rfl
@[simp] theorem toD_int (n : Nat) (i : Int) : toD s n (.int i) = some (.int i) := by cases n <;> rfl
@[simp] theorem toD_str (n : Nat) (i : Nat) : toD s n (.str i) = some (.str i) := by cases n <;> rfl
@[simp] theorem eqT_i (i j : Int) : eqT (.v (.int i)) (.v (.int j)) s = some (decide (i = j)) := by simp [eqT, tvD, Dt.eqv]; rfl
@[simp] theorem eqT_s (i j : Nat) : eqT (.v (.str i)) (.v (.str j)) s = some (decide (i = j)) := by simp [eqT, tvD, Dt.eqv]; rfl
@[simp] theorem cEq_r (x y : Tv) : cEq x y s = ans (eqT x y s) s := (rfl)
@[simp] theorem cNe_r (x y : Tv) : cNe x y s = ans ((eqT x y s).map not) s := (rfl)
@[simp] theorem ans_s (b : Bool) : ans (some b) s = .ok (.v (.bool b)) s := (rfl)
@[simp] theorem cIn_r (x y : Tv) : cIn x y s = ans (isIn x y s) s := (rfl)
@[simp] theorem cNotIn_r (x y : Tv) : cNotIn x y s = ans ((isIn x y s).map not) s := (rfl)
@[simp] theorem isIn_t (x : Val) (ys : List Val) : isIn (.v x) (.v (.tup ys)) s = if flat x && ys.all flat then some (ys.any fun z => flatEq z x) else none := (rfl)
@[simp] theorem eChain_r (o o' : Op2) (a b c : Ev) : eChain o o' a b c ρ s = (a ρ s).bind fun x s => (b ρ s).bind fun y s => (o x y s).bind fun r s => match r with
  | .v (.bool k) => if k = true then (c ρ s).bind fun z s => o' y z s else .ok (.v (.bool false)) s
  | _ => .bad := (rfl)
@[simp] theorem tB_r (e : Ev) : tB e ρ s = (e ρ s).bind fun x s => match x with
  | .v (.bool b) => .ok b s
  | _ => .bad := (rfl)
@[simp] theorem tTru_r (e : Ev) : tTru e ρ s = (e ρ s).bind fun x s => match tru x s with
  | some b => .ok b s
  | none => .bad := (rfl)
@[simp] theorem tNot_r (t : Tst) : tNot t ρ s = (t ρ s).bind fun b s => .ok (!b) s := (rfl)
@[simp] theorem tAnd_r (t u : Tst) : tAnd t u ρ s = (t ρ s).bind fun b s => if b = true then u ρ s else .ok false s := (rfl)
@[simp] theorem tOr_r (t u : Tst) : tOr t u ρ s = (t ρ s).bind fun b s => if b = true then .ok true s else u ρ s := (rfl)
@[simp] theorem eIf_r (t : Tst) (a b : Ev) : eIf t a b ρ s = (t ρ s).bind fun c s => if c = true then a ρ s else b ρ s := (rfl)
@[simp] theorem oIdx_r (x : Tv) (i : Int) : oIdx x (.v (.int i)) s = match seqOf x s with
    | some xs => match atI xs i with
      | some z => .ok (.v z) s
      | none => .bad
    | none => .bad := (rfl)
@[simp] theorem seqOf_t (xs : List Val) : seqOf (.v (.tup xs)) s = some xs := (rfl)
@[simp] theorem seqOf_l (xs : List Val) : seqOf (.l xs) s = some xs := (rfl)
@[simp] theorem lstOf_l (xs : List Val) : lstOf (.l xs) s = some xs := (rfl)
@[simp] theorem eSl_r (e : Ev) (lo hi : Option Ev) : eSl e lo hi ρ s = (e ρ s).bind fun x s => (optI lo ρ s).bind fun i s => (optI hi ρ s).bind fun j s => slc x i j s := (rfl)
@[simp] theorem optI_n : optI none ρ s = .ok none s := (rfl)
@[simp] theorem optI_s (e : Ev) : optI (some e) ρ s = (e ρ s).bind fun x s => match x with
    | .v (.int i) => .ok (some i) s
    | _ => .bad := (rfl)
@[simp] theorem slc_t (xs : List Val) (lo hi : Option Int) : slc (.v (.tup xs)) lo hi s = .ok (.v (.tup (cutV xs lo hi))) s := (rfl)
@[simp] theorem slc_l (xs : List Val) (lo hi : Option Int) : slc (.l xs) lo hi s = .ok (.l (cutV xs lo hi)) s := (rfl)
@[simp] theorem eFld_r (cs : List Nat) (e : Ev) (f : Nat) : eFld cs e f ρ s = (e ρ s).bind fun x s => match fldOf cs x f s with
  | some z => .ok (.v z) s
  | none => .bad := (rfl)
@[simp] theorem eCall_r (F : Fn) (a : Avs) : eCall F a ρ s = (a ρ s).bind fun xs s => F xs s := (rfl)
@[simp] theorem eB1_r (b : B1) (a : Ev) : eB1 b a ρ s = (a ρ s).bind b := (rfl)
@[simp] theorem bLen_r (x : Tv) : bLen x s = match seqOf x s with
  | some xs => .ok (.v (.int xs.length)) s
  | none => .bad := (rfl)
@[simp] theorem bInt_i (i : Int) : bInt (.v (.int i)) s = .ok (.v (.int i)) s := (rfl)
@[simp] theorem bInt_b (b : Bool) : bInt (.v (.bool b)) s = .ok (.v (.int (if b then 1 else 0))) s := (rfl)
@[simp] theorem bTuple_r (x : Tv) : bTuple x s = match seqOf x s with
  | some xs => .ok (.v (.tup xs)) s
  | none => .bad := (rfl)
@[simp] theorem bList_r (x : Tv) : bList x s = match seqOf x s with
  | some xs => .ok (.l xs) s
  | none => .bad := (rfl)
@[simp] theorem oMax_i (i j : Int) : oMax (.v (.int i)) (.v (.int j)) s = .ok (.v (.int (if j > i then j else i))) s := (rfl)
@[simp] theorem oMin_i (i j : Int) : oMin (.v (.int i)) (.v (.int j)) s = .ok (.v (.int (if j < i then j else i))) s := (rfl)
@[simp] theorem rg1_r (e : Ev) : rg1 e ρ s = (e ρ s).bind fun t s => match t with
  | .v (.int j) => .ok ((0 : Int), j) s
  | _ => .bad := (rfl)
@[simp] theorem rg2_r (e e' : Ev) : rg2 e e' ρ s = (e ρ s).bind fun t s => (e' ρ s).bind fun t' s => match t, t' with
  | .v (.int i), .v (.int j) => .ok (i, j) s
  | _, _ => .bad := (rfl)
@[simp] theorem eLstR_r (r : Rg) : eLstR r ρ s = (r ρ s).bind fun p s => if fitR p.1 p.2 then .ok (.l (rngV p.1 p.2)) s else .bad := (rfl)
@[simp] theorem eTupR_r (r : Rg) : eTupR r ρ s = (r ρ s).bind fun p s => if fitR p.1 p.2 then .ok (.v (.tup (rngV p.1 p.2))) s else .bad := (rfl)
@[simp] theorem bIs_r (cs : List Nat) (ty : Ty) (x : Tv) : bIs cs ty x s = ans (isTy cs ty x s) s := (rfl)
@[simp] theorem isTy_int (cs : List Nat) (ty : Ty) (i : Int) : isTy cs ty (.v (.int i)) s = some (match ty with | .int => true | _ => false) := (rfl)
@[simp] theorem isTy_non (cs : List Nat) (ty : Ty) : isTy cs ty (.v .non) s = some false := (rfl)
@[simp] theorem isTy_str (cs : List Nat) (ty : Ty) (i : Nat) : isTy cs ty (.v (.str i)) s = some (match ty with | .str => true | _ => false) := (rfl)
@[simp] theorem isTy_tup (cs : List Nat) (ty : Ty) (l : List Val) : isTy cs ty (.v (.tup l)) s = some (match ty with | .tuple => true | .lot => true | _ => false) := (rfl)
@[simp] theorem isTy_l (cs : List Nat) (ty : Ty) (l : List Val) : isTy cs ty (.l l) s = some (match ty with | .list => true | .lot => true | _ => false) := (rfl)
/-! ### statements -/
@[simp] theorem sNop_r : sNop ρ s = .ok (.next, ρ) s := (rfl)
@[simp] theorem sSeq_r (a b : Sx) : sSeq a b ρ s = (a ρ s).bind fun r s => match r with
  | (.next, ρ) => b ρ s
  | r => .ok r s := (rfl)
@[simp] theorem sAsg_r (g : Tgt) (e : Ev) : sAsg g e ρ s = (e ρ s).bind fun t s => (mat t s).bind fun x s => (g x ρ s).bind fun ρ s => .ok (.next, ρ) s := (rfl)
@[simp] theorem gV_r (i : Nat) (x : Val) : gV i x ρ s = .ok (ρ.set i (some x)) s := (rfl)
@[simp] theorem gT_r (is : List Nat) (xs : List Val) : gT is (.tup xs) ρ s = match setAll is xs ρ with
    | some ρ => .ok ρ s
    | none => .bad := (rfl)
@[simp] theorem setAll_n : setAll [] [] ρ = some ρ := (rfl)
@[simp] theorem setAll_c (i : Nat) (is : List Nat) (x : Val) (xs : List Val) : setAll (i :: is) (x :: xs) ρ = setAll is xs (ρ.set i (some x)) := (rfl)
@[simp] theorem sPar_r (i j : Nat) (a : Avs) : sPar i j a ρ s = (a ρ s).bind fun xs s => match xs with
  | [x, y] => .ok (.next, (ρ.set i (some x)).set j (some y)) s
  | _ => .bad := (rfl)
@[simp] theorem sExp_r (e : Ev) : sExp e ρ s = (e ρ s).bind fun _ s => .ok (.next, ρ) s := (rfl)
@[simp] theorem sRet_r (e : Ev) : sRet e ρ s = (e ρ s).bind fun t s => .ok (.ret t, ρ) s := (rfl)
@[simp] theorem sIf_r (t : Tst) (a b : Sx) : sIf t a b ρ s = (t ρ s).bind fun c s => if c = true then a ρ s else b ρ s := (rfl)
@[simp] theorem sFor_r (ix : Ix) (g : Tgt) (b : Sx) : sFor ix g b ρ s = (ix ρ s).bind fun its s => match its s with
  | some xs => forGo its g b (xs.length + 1) 0 ρ s
  | none => .bad := (rfl)
theorem fnOf_r (np nl : Nat) (b : Sx) (vs : List Val) (h : vs.length = np) : fnOf np nl b vs s = (b (vs.map some ++ List.replicate (nl - np) none) s).bind fun r s => match r with
    | (.next, _) => .ok (.v .non) s
    | (.ret x, _) => .ok x s
    | (.brk, _) => .bad := by unfold fnOf; rw [if_pos h] <;> rfl
/-- what a body's end means for its def -/
def FinQ (Q : Tv → Store → Prop) (r : Fl × Env) (s : Store) : Prop := match r.1 with
  | .next => Q (.v .non) s
  | .ret x => Q x s
  | .brk => False
@[simp] theorem FinQ_n (Q : Tv → Store → Prop) (ρ : Env) (s : Store) : FinQ Q (.next, ρ) s ↔ Q (.v .non) s := Iff.rfl
@[simp] theorem FinQ_r (Q : Tv → Store → Prop) (x : Tv) (ρ : Env) (s : Store) : FinQ Q (.ret x, ρ) s ↔ Q x s := Iff.rfl
theorem wp_fnI {np nl : Nat} {b : Sx} {vs : List Val} {s : Store} {Q : Tv → Store → Prop} (h : vs.length = np) : Wp (fnOf np nl b vs s) Q ↔ Wp (b (vs.map some ++ List.replicate (nl - np) none) s) (FinQ Q) := by
  rw [fnOf_r np nl b vs h, wp_bind]
  constructor
  · intro k
    refine k.mono fun r s h => ?_
    obtain ⟨f, ρ⟩ := r
    cases f with
    | next => simpa [FinQ] using h
    | ret x => simpa [FinQ] using h
    | brk => simp at h
  · intro k
    refine k.mono fun r s h => ?_
    obtain ⟨f, ρ⟩ := r
    cases f with
    | next => simpa [FinQ] using h
    | ret x => simpa [FinQ] using h
    | brk => simp [FinQ] at h
theorem wp_fn0 {nl : Nat} {b : Sx} {s : Store} {Q : Tv → Store → Prop} : Wp (fnOf 0 nl b [] s) Q ↔ Wp (b (List.replicate nl none) s) (FinQ Q) := wp_fnI rfl
theorem wp_fn1 {nl : Nat} {b : Sx} {x : Val} {s : Store} {Q : Tv → Store → Prop} : Wp (fnOf 1 nl b [x] s) Q ↔ Wp (b (some x :: List.replicate (nl - 1) none) s) (FinQ Q) := wp_fnI rfl
theorem wp_fn2 {nl : Nat} {b : Sx} {x y : Val} {s : Store} {Q : Tv → Store → Prop} : Wp (fnOf 2 nl b [x, y] s) Q ↔ Wp (b (some x :: some y :: List.replicate (nl - 2) none) s) (FinQ Q) := wp_fnI rfl
theorem wp_fn3 {nl : Nat} {b : Sx} {x y z : Val} {s : Store} {Q : Tv → Store → Prop} : Wp (fnOf 3 nl b [x, y, z] s) Q ↔ Wp (b (some x :: some y :: some z :: List.replicate (nl - 3) none) s) (FinQ Q) := wp_fnI rfl
theorem wp_fn4 {nl : Nat} {b : Sx} {x y z w : Val} {s : Store} {Q : Tv → Store → Prop} : Wp (fnOf 4 nl b [x, y, z, w] s) Q ↔ Wp (b (some x :: some y :: some z :: some w :: List.replicate (nl - 4) none) s) (FinQ Q) := wp_fnI rfl
@[simp] theorem atI_0 {α : Type} (x : α) (xs : List α) : atI (x :: xs) 0 = some x := by simp [atI, ixN]
end
/-! ### loops over items that stay -/
theorem wp_forGo {its : Its} {xs : List Val} {g : Tgt} {b : Sx} {Q : Fl × Env → Store → Prop} (I : Nat → Env → Store → Prop) (hs : ∀ i ρ s, I i ρ s → its s = some xs)
    (step : ∀ i x ρ s, xs[i]? = some x → I i ρ s → Wp (g x ρ s) fun ρ s => Wp (b ρ s) fun r s => match r with
      | (.next, ρ) => I (i + 1) ρ s
      | (.brk, ρ) => Q (.next, ρ) s
      | r => Q r s) (fin : ∀ ρ s, I xs.length ρ s → Q (.next, ρ) s) :
    ∀ (f i : Nat) (ρ : Env) (s : Store), i ≤ xs.length → xs.length - i < f → I i ρ s → Wp (forGo its g b f i ρ s) Q
  | 0, i, ρ, s, _, h, _ => absurd h (Nat.not_lt_zero _)
  | f + 1, i, ρ, s, hi, h, hI => by
    unfold forGo
    simp only [hs i ρ s hI]
    cases e : xs[i]? with
    | none =>
      have : i = xs.length := Nat.le_antisymm hi (List.getElem?_eq_none_iff.mp e)
      subst this
      exact (wp_ok _ _).mpr (fin ρ s hI)
    | some x =>
      have hlt : i < xs.length := (List.getElem?_eq_some_iff.mp e).1
      simp only [wp_bind]
      refine (step i x ρ s e hI).mono fun ρ1 s1 h1 => h1.mono fun r s2 h2 => ?_
      obtain ⟨fl, ρ2⟩ := r
      cases fl with
      | next => exact wp_forGo I hs step fin f (i + 1) ρ2 s2 hlt (by omega) h2
      | brk => exact (wp_ok _ _).mpr h2
      | ret t => exact (wp_ok _ _).mpr h2
theorem wp_for {ix : Ix} {its : Its} {xs : List Val} {g : Tgt} {b : Sx} {ρ : Env} {s s1 : Store} {Q : Fl × Env → Store → Prop} (hix : ix ρ s = .ok its s1) (I : Nat → Env → Store → Prop) (hs : ∀ i ρ s, I i ρ s → its s = some xs) (h0 : I 0 ρ s1)
    (step : ∀ i x ρ s, xs[i]? = some x → I i ρ s → Wp (g x ρ s) fun ρ s => Wp (b ρ s) fun r s => match r with
      | (.next, ρ) => I (i + 1) ρ s
      | (.brk, ρ) => Q (.next, ρ) s
      | r => Q r s) (fin : ∀ ρ s, I xs.length ρ s → Q (.next, ρ) s) : Wp (sFor ix g b ρ s) Q := by
  rw [sFor_r, hix, bind_ok, hs 0 ρ s1 h0]
  exact wp_forGo I hs step fin _ 0 ρ s1 (Nat.zero_le _) (by omega) h0
/-- comprehensions -/
theorem wp_compGo {its : Its} {xs : List Val} {g : Tgt} {c : Tst} {e : Ev} {ρ : Env} {Q : Tv → Store → Prop} (I : Nat → List Val → Store → Prop) (hs : ∀ i acc s, I i acc s → its s = some xs)
    (step : ∀ i x acc s, xs[i]? = some x → I i acc s → Wp (g x ρ s) fun ρ' s => Wp (c ρ' s) fun k s => if k = true then Wp (e ρ' s) fun t s => Wp (mat t s) fun y s => acc.length < LIM ∧ I (i + 1) (acc ++ [y]) s else I (i + 1) acc s)
    (fin : ∀ acc s, I xs.length acc s → Q (.l acc) s) :
    ∀ (f i : Nat) (acc : List Val) (s : Store), i ≤ xs.length → xs.length - i < f → I i acc s → Wp (compGo its g c e ρ f i acc s) Q
  | 0, i, acc, s, _, h, _ => absurd h (Nat.not_lt_zero _)
  | f + 1, i, acc, s, hi, h, hI => by
    unfold compGo
    simp only [hs i acc s hI]
    cases ex : xs[i]? with
    | none =>
      have : i = xs.length := Nat.le_antisymm hi (List.getElem?_eq_none_iff.mp ex)
      subst this
      exact (wp_ok _ _).mpr (fin acc s hI)
    | some x =>
      have hlt : i < xs.length := (List.getElem?_eq_some_iff.mp ex).1
      simp only [wp_bind]
      refine (step i x acc s ex hI).mono fun ρ1 s1 h1 => h1.mono fun k s2 h2 => ?_
      cases k with
      | true =>
        simp only [if_true, wp_bind] at h2 ⊢
        refine h2.mono fun t s3 h3 => h3.mono fun y s4 h4 => ?_
        rw [if_pos h4.1]
        exact wp_compGo I hs step fin f (i + 1) (acc ++ [y]) s4 hlt (by omega) h4.2
      | false =>
        simp only [Bool.false_eq_true, if_false] at h2 ⊢
        exact wp_compGo I hs step fin f (i + 1) acc s2 hlt (by omega) h2
theorem wp_comp {ix : Ix} {its : Its} {xs : List Val} {g : Tgt} {own : List Nat} {c : Tst} {e : Ev} {ρ : Env} {s s1 : Store} {Q : Tv → Store → Prop} (hix : ix ρ s = .ok its s1) (I : Nat → List Val → Store → Prop) (hs : ∀ i acc s, I i acc s → its s = some xs) (h0 : I 0 [] s1)
    (step : ∀ i x acc s, xs[i]? = some x → I i acc s → Wp (g x (wipe ρ own) s) fun ρ' s => Wp (c ρ' s) fun k s => if k = true then Wp (e ρ' s) fun t s => Wp (mat t s) fun y s => acc.length < LIM ∧ I (i + 1) (acc ++ [y]) s else I (i + 1) acc s)
    (fin : ∀ acc s, I xs.length acc s → Q (.l acc) s) : Wp (eComp ix g own c e ρ s) Q := by
  unfold eComp
  rw [hix, bind_ok, hs 0 [] s1 h0]
  exact wp_compGo I hs step fin _ 0 [] s1 (Nat.zero_le _) (by omega) h0
end VI
end
section
set_option Elab.async false
set_option linter.all false
/-! VI0c: len of an instance by its own __len__. -/
namespace VI
def bLenI (c : Nat) (F : Fn) : B1 := fun x s => match isIns x c s with
  | some a => (F [a] s).bind fun r s => match r with
    | .v (.int n) => if 0 ≤ n ∧ n < 9223372036854775808 then .ok (.v (.int n)) s else .bad
    | _ => .bad
  | none => .bad
end VI
end
section
set_option Elab.async false
set_option linter.all false
/-! VI0d: a name and a field as targets of one pair. -/
namespace VI
def gNF (i : Nat) (cs : List Nat) (o : Ev) (f : Nat) : Tgt := fun x ρ s => match x with
  | .tup [a, b] => (o (ρ.set i (some a)) s).bind fun t s => match refI cs t s with
    | some (n, c, fs) => if fs.length < 1000 then .ok (ρ.set i (some a)) (s.set n (.ins c (putF f b fs))) else .bad
    | none => .bad
  | _ => .bad
end VI
end
section
set_option Elab.async false
set_option linter.all false
set_option maxRecDepth 100000
set_option maxHeartbeats 4000000
/-! the defs of law k36, printed by gen.py -/
namespace L_k36
open VI
def G_START : Val := (.tup [(.int 0), (.int 0), (.tup []), (.tup [])])
def G_CHANNELS : Val := (.tup [(.str 28), (.str 14)])
def G_PROGRAMS : Val := (.tup [(.str 77), (.str 72)])
def G_BOTH : Val := (.tup [(.str 77), (.str 72)])
def G_HAND : Val := (.tup [(.str 32), (.int 0)])
def B__law_purse : Sx := (sSeq (sAsg (gV 2) (eC (.int 0))) (sSeq (sIf (tB (eBin cLt (eV 1) (eB1 bLen (eV 0)))) (sAsg (gV 2) (eBin oIdx (eV 0) (eV 1))) sNop) (sRet (eLst (aCons (eBin oMod (eB1 bInt (eBin oMax (eBin oSub (eV 2) (eBin oPow (eC (.int 10)) (eC (.int 18)))) (eC (.int 0)))) (eBin oPow (eBin oPow (eC (.int 10)) (eC (.int 60))) (eC (.int 8)))) (aCons (eBin oMod (eB1 bInt (eV 2)) (eC (.int 2147483647))) (aCons (eBin oMul (eC (.int 1000)) (eV 1)) aNil)))))))
def F__law_purse : Fn := fnOf 2 3 B__law_purse
def B__law_mixed : Sx := (sSeq (sAsg (gV 2) (eBin oMod (eB1 bInt (eBin oAdd (eBin oAdd (eBin oAdd (eBin oMul (eV 0) (eC (.int 2654435761))) (eBin oMul (eBin oMul (eC (.int 40503)) (eV 1)) (eV 1))) (eBin oMul (eC (.int 97)) (eV 1))) (eC (.int 13)))) (eC (.int 2147483647)))) (sRet (eBin oDiv (eBin oMod (eB1 bInt (eBin oAdd (eBin oAdd (eBin oMul (eV 2) (eV 2)) (eBin oMul (eC (.int 7)) (eV 2))) (eC (.int 11)))) (eC (.int 2147483629))) (eC (.int 3)))))
def F__law_mixed : Fn := fnOf 2 3 B__law_mixed
def B__law_draw : Sx := (sSeq (sIf (tB (eBin cGt (eBin oIdx (eV 0) (eC (.int 0))) (eC (.int 0)))) (sSeq (sAsg (gV 2) (eBin oMod (eB1 bInt (eBin oIdx (eV 0) (eC (.int 0)))) (eV 1))) (sSeq (sSub (eV 0) (eC (.int 0)) (eBin oDiv (eBin oIdx (eV 0) (eC (.int 0))) (eV 1))) (sRet (eV 2)))) sNop) (sSeq (sSub (eV 0) (eC (.int 2)) (eBin oAdd (eBin oIdx (eV 0) (eC (.int 2))) (eC (.int 1)))) (sRet (eBin oMod (eB1 bInt (eCall F__law_mixed (aCons (eBin oIdx (eV 0) (eC (.int 1))) (aCons (eBin oIdx (eV 0) (eC (.int 2))) aNil)))) (eV 1)))))
def F__law_draw : Fn := fnOf 2 3 B__law_draw
def B_Sender_tables : Sx := (sSeq (sAsg (gV 1) (eTup (aCons (eFld [0, 1] (eV 0) 91) (aCons (eFld [0, 1] (eV 0) 28) (aCons (eFld [0, 1] (eV 0) 14) aNil))))) (sRet (eBin oAdd (eV 1) (eTup (aCons (eFld [0, 1] (eV 0) 78) (aCons (eFld [0, 1] (eV 0) 87) (aCons (eFld [0, 1] (eV 0) 34) (aCons (eFld [0] (eV 0) 84) (aCons (eFld [0, 1] (eV 0) 20) aNil)))))))))
def F_Sender_tables : Fn := fnOf 1 2 B_Sender_tables
def B_Receiver_tables : Sx := (sSeq (sAsg (gV 1) (eTup (aCons (eFld [0, 1] (eV 0) 91) (aCons (eFld [0, 1] (eV 0) 28) (aCons (eFld [0, 1] (eV 0) 14) aNil))))) (sRet (eBin oAdd (eV 1) (eTup (aCons (eFld [0, 1] (eV 0) 78) (aCons (eFld [0, 1] (eV 0) 87) (aCons (eFld [0, 1] (eV 0) 34) (aCons (eFld [1] (eV 0) 29) (aCons (eFld [0, 1] (eV 0) 20) aNil)))))))))
def F_Receiver_tables : Fn := fnOf 1 2 B_Receiver_tables
def B_Pair___init__ : Sx := (sSeq (sIf (VI.tNot (tB (eB1 (bIs [0, 1, 2] (.cls 0)) (eV 1)))) (sRaise 8 aNil) sNop) (sSeq (sIf (VI.tNot (tB (eB1 (bIs [0, 1, 2] (.cls 1)) (eV 2)))) (sRaise 8 aNil) sNop) (sSeq (sIf (tB (eBin cNe (eSl (eMeth 0 83 F_Sender_tables (eV 1) aNil) none (some (eC (.int 3)))) (eSl (eMeth 1 83 F_Receiver_tables (eV 2) aNil) none (some (eC (.int 3)))))) (sRaise 16 aNil) sNop) (sSeq (sFld [2, 14] (eV 0) 77 (eV 1)) (sFld [2, 14] (eV 0) 72 (eV 2))))))
def F_Pair___init__ : Fn := fnOf 3 3 B_Pair___init__
def B_require_positive : Sx := (sIf (tOr (tB (eB1 (bIs [0, 1, 2] .bool) (eV 0))) (tOr (VI.tNot (tB (eB1 (bIs [0, 1, 2] .int) (eV 0)))) (tB (eBin cLt (eV 0) (eC (.int 1)))))) (sRaise 6 aNil) sNop)
def F_require_positive : Fn := fnOf 1 1 B_require_positive
def B_is_below : Sx := (sRet (eAnd (eB1 (bIs [0, 1, 2] .int) (eV 0)) (eAnd (eNot (eB1 (bIs [0, 1, 2] .bool) (eV 0))) (eChain cLe cLt (eC (.int 0)) (eV 0) (eV 1)))))
def F_is_below : Fn := fnOf 2 2 B_is_below
def B_is_row : Sx := (sRet (eAnd (eB1 (bIs [0, 1, 2] .tuple) (eV 0)) (eAnd (eBin cEq (eB1 bLen (eV 0)) (eV 1)) (eB1 bAll (eComp (ixE (eV 0)) (gV 3) [3] tYes (eCall F_is_below (aCons (eV 3) (aCons (eV 2) aNil))))))))
def F_is_row : Fn := fnOf 3 4 B_is_row
def B_is_given : Sx := (sSeq (sIf (tOr (VI.tNot (tB (eB1 (bIs [0, 1, 2] .tuple) (eV 0)))) (tB (eBin cNe (eB1 bLen (eV 0)) (eV 1)))) (sRet (eC (.bool false))) sNop) (sRet (eB1 bAll (eComp (ixE (eV 0)) (gV 3) [3] tYes (eOr (eBin cIsN (eV 3) (eC .non)) (eCall F_is_below (aCons (eV 3) (aCons (eV 2) aNil))))))))
def F_is_given : Fn := fnOf 3 4 B_is_given
def B_checked (Lf : Val → Store → Res Tv) : Sx := (sSeq (sIf (tOr (VI.tNot (tB (eB1 (bIs [0, 1, 2] .lot) (eV 1)))) (tOr (tB (eBin cEq (eB1 bLen (eV 1)) (eC (.int 0)))) (tAnd (tB (eBin cNotN (eV 2) (eC .non))) (tB (eBin cNe (eB1 bLen (eV 1)) (eV 2)))))) (sRaise 9 aNil) sNop) (sSeq (sFor (ixEnum (eV 1)) (gT [4, 5]) (sIf (VI.tNot (tB (eLamC 3 Lf (eV 5)))) (sRaise 9 aNil) sNop)) (sRet (eB1 bTuple (eV 1)))))
def F_checked (Lf : Val → Store → Res Tv) : Fn := fnOf 3 6 (B_checked Lf)
def B_checked_sends : Sx := (sRet (eCallL F_checked (aCons (eC (.str 78)) (aCons (eV 0) (aCons (eC .non) aNil))) [1] (eOr (eBin cIsN (eV 0) (eC .non)) (eCall F_is_below (aCons (eV 0) (aCons (eV 1) aNil))))))
def F_checked_sends : Fn := fnOf 2 2 B_checked_sends
def B_checked_states : Sx := (sRet (eCallL F_checked (aCons (eV 0) (aCons (eV 1) (aCons (eV 2) aNil))) [2] (eCall F_is_below (aCons (eV 0) (aCons (eV 1) aNil)))))
def F_checked_states : Fn := fnOf 3 3 B_checked_states
def B_checked_hears : Sx := (sRet (eCallL F_checked (aCons (eC (.str 34)) (aCons (eV 0) (aCons (eV 2) aNil))) [1, 2] (eCall F_is_row (aCons (eV 0) (aCons (eV 1) (aCons (eV 2) aNil))))))
def F_checked_hears : Fn := fnOf 3 3 B_checked_hears
def B_checked_takes : Sx := (sSeq (sIf (tAnd (tB (eB1 (bIs [0, 1, 2] .lot) (eV 0))) (tAnd (tB (eBin cEq (eB1 bLen (eV 0)) (eV 2))) (tB (eBin cIsN (eBin oIdx (eV 0) (eC (.int 0))) (eC .non))))) (sRaise 9 aNil) sNop) (sRet (eCallL F_checked (aCons (eC (.str 84)) (aCons (eV 0) (aCons (eV 2) aNil))) [1, 2] (eOr (eBin cIsN (eV 0) (eC .non)) (eCall F_is_row (aCons (eV 0) (aCons (eV 1) (aCons (eV 2) aNil))))))))
def F_checked_takes : Fn := fnOf 3 3 B_checked_takes
def B_Sender___init__ : Sx := (sSeq (sFor (ixE (eTup (aCons (eV 1) (aCons (eV 2) (aCons (eV 3) aNil))))) (gV 9) (sExp (eCall F_require_positive (aCons (eV 9) aNil)))) (sSeq (sFld [0, 1] (eV 0) 91 (eV 1)) (sSeq (sFld [0, 1] (eV 0) 28 (eV 2)) (sSeq (sFld [0, 1] (eV 0) 14 (eV 3)) (sSeq (sFld [0, 1] (eV 0) 78 (eCall F_checked_sends (aCons (eV 4) (aCons (eV 2) aNil)))) (sSeq (sAsg (gV 10) (eB1 bLen (eFld [0, 1] (eV 0) 78))) (sSeq (sFld [0, 1] (eV 0) 87 (eCall F_checked_states (aCons (eC (.str 87)) (aCons (eV 5) (aCons (eV 10) aNil))))) (sSeq (sFld [0, 1] (eV 0) 34 (eCall F_checked_hears (aCons (eV 6) (aCons (eV 3) (aCons (eV 10) aNil))))) (sSeq (sFld [0] (eV 0) 84 (eCall F_checked_takes (aCons (eV 7) (aCons (eV 1) (aCons (eV 10) aNil))))) (sFld [0, 1] (eV 0) 20 (eCall F_checked_states (aCons (eC (.str 20)) (aCons (eV 8) (aCons (eV 10) aNil))))))))))))))
def F_Sender___init__ : Fn := fnOf 9 11 B_Sender___init__
def B__law_sender : Sx := (sSeq (sAsg (gV 3) (eLst (aCons (eTup (aCons (eC (.int 0)) (aCons (eC (.int 0)) (aCons (eC (.int 0)) aNil)))) (aCons (eTup (aCons (eC (.int 1)) (aCons (eC (.int 1)) (aCons (eC (.int 1)) aNil)))) (aCons (eTup (aCons (eC (.int 2)) (aCons (eC (.int 3)) (aCons (eC (.int 2)) aNil)))) (aCons (eTup (aCons (eC (.int 3)) (aCons (eC (.int 3)) (aCons (eC (.int 1)) aNil)))) aNil)))))) (sSeq (sAsg (gV 4) (eLst (aCons (eC .non) (aCons (eC .non) (aCons (eC (.int 0)) (aCons (eC (.int 1)) aNil)))))) (sRet (eMkK 0 F_Sender___init__ [0, 1, 2, 3, 4, 5, 6, 7, 8] (aCons (eV 0) (aCons (eC (.int 2)) (aCons (eC (.int 3)) aNil))) (aCons (eV 4) (aCons (eLst (aCons (eC (.int 0)) (aCons (eC (.int 1)) (aCons (eC (.int 2)) (aCons (eC (.int 3)) aNil))))) (aCons (eV 3) (aCons (eV 1) (aCons (eV 2) aNil)))))))))
def F__law_sender : Fn := fnOf 3 5 B__law_sender
def B_Receiver___init__ : Sx := (sSeq (sFor (ixE (eTup (aCons (eV 1) (aCons (eV 2) (aCons (eV 3) aNil))))) (gV 9) (sExp (eCall F_require_positive (aCons (eV 9) aNil)))) (sSeq (sFld [0, 1] (eV 0) 91 (eV 1)) (sSeq (sFld [0, 1] (eV 0) 28 (eV 2)) (sSeq (sFld [0, 1] (eV 0) 14 (eV 3)) (sSeq (sFld [0, 1] (eV 0) 78 (eCall F_checked_sends (aCons (eV 4) (aCons (eV 3) aNil)))) (sSeq (sAsg (gV 10) (eB1 bLen (eFld [0, 1] (eV 0) 78))) (sSeq (sFld [0, 1] (eV 0) 87 (eCall F_checked_states (aCons (eC (.str 87)) (aCons (eV 5) (aCons (eV 10) aNil))))) (sSeq (sFld [0, 1] (eV 0) 34 (eCall F_checked_hears (aCons (eV 6) (aCons (eV 2) (aCons (eV 10) aNil))))) (sSeq (sFld [1] (eV 0) 29 (eCallL F_checked (aCons (eC (.str 29)) (aCons (eV 7) (aCons (eV 10) aNil))) [2, 1] (eCall F_is_given (aCons (eV 0) (aCons (eV 1) (aCons (eV 2) aNil)))))) (sFld [0, 1] (eV 0) 20 (eCall F_checked_states (aCons (eC (.str 20)) (aCons (eV 8) (aCons (eV 10) aNil))))))))))))))
def F_Receiver___init__ : Fn := fnOf 9 11 B_Receiver___init__
def B__law_receiver : Sx := (sRet (eMkK 1 F_Receiver___init__ [0, 1, 2, 3, 4, 5, 6, 7, 8] (aCons (eV 0) (aCons (eC (.int 2)) (aCons (eC (.int 3)) aNil))) (aCons (eV 1) (aCons (eV 2) (aCons (eV 3) (aCons (eV 4) (aCons (eV 5) aNil)))))))
def F__law_receiver : Fn := fnOf 6 6 B__law_receiver
def B__law_later : Sx := (sSeq (sPar 2 3 (aCons (eLst (aCons (eTup (aCons (eC (.int 1)) (aCons (eC (.int 0)) aNil))) (aCons (eTup (aCons (eC (.int 1)) (aCons (eC (.int 1)) aNil))) (aCons (eTup (aCons (eC (.int 2)) (aCons (eC (.int 3)) aNil))) (aCons (eTup (aCons (eC (.int 1)) (aCons (eC (.int 3)) aNil))) aNil))))) (aCons (eLst (aCons (eTup (aCons (eC .non) (aCons (eC .non) aNil))) (aCons (eTup (aCons (eC .non) (aCons (eC .non) aNil))) (aCons (eTup (aCons (eC .non) (aCons (eC (.int 0)) aNil))) (aCons (eTup (aCons (eC .non) (aCons (eC .non) aNil))) aNil))))) aNil))) (sRet (eCall F__law_receiver (aCons (eC (.int 1)) (aCons (eV 0) (aCons (eLst (aCons (eC (.int 0)) (aCons (eC (.int 2)) (aCons (eC (.int 2)) (aCons (eC (.int 3)) aNil))))) (aCons (eV 2) (aCons (eV 3) (aCons (eV 1) aNil)))))))))
def F__law_later : Fn := fnOf 2 4 B__law_later
def B__law_quick : Sx := (sRet (eCall F__law_receiver (aCons (eV 0) (aCons (eLst (aCons (eC (.int 1)) (aCons (eC (.int 2)) aNil))) (aCons (eLst (aCons (eC (.int 0)) (aCons (eC (.int 1)) aNil))) (aCons (eLst (aCons (eTup (aCons (eC (.int 0)) (aCons (eC (.int 1)) aNil))) (aCons (eTup (aCons (eC (.int 0)) (aCons (eC (.int 1)) aNil))) aNil))) (aCons (eLst (aCons (eTup (aCons (eC .non) (aCons (eC (.int 0)) aNil))) (aCons (eTup (aCons (eC .non) (aCons (eC .non) aNil))) aNil))) (aCons (eV 1) aNil))))))))
def F__law_quick : Fn := fnOf 2 2 B__law_quick
def B__law_third : Sx := (sSeq (sAsg (gV 1) (eLst (aCons (eTup (aCons (eC .non) (aCons (eC (.int 0)) aNil))) (aCons (eTup (aCons (eC .non) (aCons (eC .non) aNil))) (aCons (eTup (aCons (eC .non) (aCons (eC .non) aNil))) aNil))))) (sRet (eCall F__law_receiver (aCons (eC (.int 1)) (aCons (eLst (aCons (eC (.int 1)) (aCons (eC (.int 2)) (aCons (eC (.int 2)) aNil)))) (aCons (eLst (aCons (eC (.int 0)) (aCons (eC (.int 2)) (aCons (eC (.int 2)) aNil)))) (aCons (eLst (aCons (eTup (aCons (eC (.int 0)) (aCons (eC (.int 1)) aNil))) (aCons (eTup (aCons (eC (.int 0)) (aCons (eC (.int 1)) aNil))) (aCons (eTup (aCons (eC (.int 0)) (aCons (eC (.int 2)) aNil))) aNil)))) (aCons (eV 1) (aCons (eV 0) aNil)))))))))
def F__law_third : Fn := fnOf 1 2 B__law_third
def B__law_laps : Sx := (sSeq (sAsg (gV 2) (eLst (aCons (eTup (aCons (eC (.str 32)) (aCons (eC (.int 0)) aNil))) aNil))) (sSeq (sFor (ixR (eV 0)) (gV 3) (sSeq (sAsg (gV 2) (eBin oAdd (eV 2) (eLst (aCons (eTup (aCons (eC (.str 76)) aNil)) (aCons (eTup (aCons (eC (.str 67)) (aCons (eC (.str 28)) aNil))) (aCons (eTup (aCons (eC (.str 10)) aNil)) aNil)))))) (sIf (tOr (tB (eBin cGt (eV 3) (eC (.int 0)))) (VI.tNot (tB (eV 1)))) (sExp (eAppend (eV 2) (eTup (aCons (eC (.str 67)) (aCons (eC (.str 14)) aNil))))) sNop))) (sRet (eV 2))))
def F__law_laps : Fn := fnOf 2 4 B__law_laps
def B__law_rows : Sx := (sSeq (sPar 0 1 (aCons (eLst (aCons (eTup (aCons (eC (.int 2)) aNil)) (aCons (eTup (aCons (eC (.int 2)) aNil)) (aCons (eC .non) (aCons (eC .non) aNil))))) (aCons (eLst (aCons (eC (.int 0)) (aCons (eC (.int 1)) (aCons (eC (.int 1)) (aCons (eC (.int 0)) aNil))))) aNil))) (sSeq (sPar 2 3 (aCons (eCall F__law_sender (aCons (eC (.int 1)) (aCons (eV 0) (aCons (eBin oMul (eLst (aCons (eC (.int 0)) aNil)) (eC (.int 4))) aNil)))) (aCons (eCall F__law_sender (aCons (eC (.int 1)) (aCons (eV 0) (aCons (eV 1) aNil)))) aNil))) (sSeq (sPar 4 5 (aCons (eLst (aCons (eTup (aCons (eC (.int 2)) (aCons (eC (.int 0)) aNil))) (aCons (eTup (aCons (eC (.int 1)) (aCons (eC (.int 3)) aNil))) (aCons (eTup (aCons (eC (.int 2)) (aCons (eC (.int 2)) aNil))) (aCons (eTup (aCons (eC (.int 2)) (aCons (eC (.int 3)) aNil))) aNil))))) (aCons (eLst (aCons (eTup (aCons (eC .non) (aCons (eC .non) aNil))) (aCons (eTup (aCons (eC .non) (aCons (eC (.int 0)) aNil))) (aCons (eTup (aCons (eC .non) (aCons (eC .non) aNil))) (aCons (eTup (aCons (eC .non) (aCons (eC .non) aNil))) aNil))))) aNil))) (sSeq (sAsg (gV 6) (eCall F__law_receiver (aCons (eC (.int 1)) (aCons (eLst (aCons (eC (.int 0)) (aCons (eC (.int 1)) (aCons (eC (.int 1)) (aCons (eC (.int 2)) aNil))))) (aCons (eLst (aCons (eC (.int 0)) (aCons (eC (.int 1)) (aCons (eC (.int 1)) (aCons (eC (.int 3)) aNil))))) (aCons (eV 4) (aCons (eV 5) (aCons (eLst (aCons (eC (.int 0)) (aCons (eC (.int 0)) (aCons (eC (.int 3)) (aCons (eC (.int 0)) aNil))))) aNil)))))))) (sSeq (sAsg (gV 7) (eCall F__law_later (aCons (eLst (aCons (eC (.int 0)) (aCons (eC (.int 1)) (aCons (eC (.int 1)) (aCons (eC (.int 2)) aNil))))) (aCons (eLst (aCons (eC (.int 0)) (aCons (eC (.int 0)) (aCons (eC (.int 3)) (aCons (eC (.int 0)) aNil))))) aNil)))) (sSeq (sPar 4 5 (aCons (eLst (aCons (eTup (aCons (eC (.int 1)) (aCons (eC (.int 0)) aNil))) (aCons (eTup (aCons (eC (.int 1)) (aCons (eC (.int 2)) aNil))) (aCons (eTup (aCons (eC (.int 2)) (aCons (eC (.int 3)) aNil))) (aCons (eTup (aCons (eC (.int 3)) (aCons (eC (.int 3)) aNil))) aNil))))) (aCons (eLst (aCons (eTup (aCons (eC .non) (aCons (eC .non) aNil))) (aCons (eTup (aCons (eC .non) (aCons (eC (.int 0)) aNil))) (aCons (eTup (aCons (eC .non) (aCons (eC (.int 0)) aNil))) (aCons (eTup (aCons (eC .non) (aCons (eC .non) aNil))) aNil))))) aNil))) (sSeq (sAsg (gV 8) (eCall F__law_receiver (aCons (eC (.int 1)) (aCons (eLst (aCons (eC (.int 0)) (aCons (eC (.int 1)) (aCons (eC (.int 2)) (aCons (eC (.int 2)) aNil))))) (aCons (eLst (aCons (eC (.int 0)) (aCons (eC (.int 1)) (aCons (eC (.int 2)) (aCons (eC (.int 3)) aNil))))) (aCons (eV 4) (aCons (eV 5) (aCons (eBin oMul (eLst (aCons (eC (.int 0)) aNil)) (eC (.int 4))) aNil)))))))) (sSeq (sAsg (gV 9) (eMk 2 F_Pair___init__ (aCons (eCall F__law_sender (aCons (eC (.int 1)) (aCons (eLst (aCons (eTup (aCons (eC (.int 2)) aNil)) (aCons (eTup (aCons (eC (.int 3)) aNil)) (aCons (eC .non) (aCons (eC .non) aNil))))) (aCons (eBin oMul (eLst (aCons (eC (.int 0)) aNil)) (eC (.int 4))) aNil)))) (aCons (eV 8) aNil)))) (sSeq (sAsg (gV 10) (eLst (aCons (eTup (aCons (eV 9) (aCons (eLst aNil) (aCons (eC .non) aNil)))) (aCons (eTup (aCons (eV 9) (aCons (eCall F__law_laps (aCons (eC (.int 2)) (aCons (eC (.bool false)) aNil))) (aCons (eLst (aCons (eTup (aCons (eC (.str 72)) (aCons (eC (.int 1)) aNil))) aNil)) aNil)))) aNil)))) (sSeq (sAsg (gV 10) (eBin oAdd (eV 10) (eLst (aCons (eTup (aCons (eMk 2 F_Pair___init__ (aCons (eV 2) (aCons (eV 7) aNil))) (aCons (eLst aNil) (aCons (eLst (aCons (eTup (aCons (eC (.str 72)) (aCons (eC (.int 1)) aNil))) aNil)) aNil)))) (aCons (eTup (aCons (eMk 2 F_Pair___init__ (aCons (eV 2) (aCons (eV 6) aNil))) (aCons (eLst aNil) (aCons (eC .non) aNil)))) aNil))))) (sSeq (sExp (eAppend (eV 10) (eTup (aCons (eMk 2 F_Pair___init__ (aCons (eV 3) (aCons (eCall F__law_later (aCons (eLst (aCons (eC (.int 0)) (aCons (eC (.int 1)) (aCons (eC (.int 1)) (aCons (eC (.int 2)) aNil))))) (aCons (eLst (aCons (eC (.int 0)) (aCons (eC (.int 3)) (aCons (eC (.int 0)) (aCons (eC (.int 0)) aNil))))) aNil))) aNil))) (aCons (eCall F__law_laps (aCons (eC (.int 2)) (aCons (eC (.bool false)) aNil))) (aCons (eLst (aCons (eTup (aCons (eC (.str 72)) (aCons (eC (.int 1)) aNil))) aNil)) aNil)))))) (sSeq (sExp (eAppend (eV 10) (eTup (aCons (eMk 2 F_Pair___init__ (aCons (eV 3) (aCons (eV 7) aNil))) (aCons (eCall F__law_laps (aCons (eC (.int 2)) (aCons (eC (.bool false)) aNil))) (aCons (eC .non) aNil)))))) (sSeq (sExp (eAppend (eV 10) (eTup (aCons (eMk 2 F_Pair___init__ (aCons (eV 3) (aCons (eCall F__law_later (aCons (eLst (aCons (eC (.int 0)) (aCons (eC .non) (aCons (eC (.int 1)) (aCons (eC (.int 2)) aNil))))) (aCons (eLst (aCons (eC (.int 0)) (aCons (eC (.int 0)) (aCons (eC (.int 3)) (aCons (eC (.int 0)) aNil))))) aNil))) aNil))) (aCons (eCall F__law_laps (aCons (eC (.int 3)) (aCons (eC (.bool true)) aNil))) (aCons (eC .non) aNil)))))) (sSeq (sExp (eAppend (eV 10) (eTup (aCons (eMk 2 F_Pair___init__ (aCons (eCall F__law_sender (aCons (eC (.int 1)) (aCons (eV 0) (aCons (eLst (aCons (eC (.int 0)) (aCons (eC (.int 1)) (aCons (eC (.int 2)) (aCons (eC (.int 3)) aNil))))) aNil)))) (aCons (eCall F__law_quick (aCons (eC (.int 1)) (aCons (eLst (aCons (eC (.int 0)) (aCons (eC (.int 1)) aNil))) aNil))) aNil))) (aCons (eLst aNil) (aCons (eLst (aCons (eTup (aCons (eC (.str 72)) (aCons (eC (.int 2)) aNil))) aNil)) aNil)))))) (sSeq (sExp (eAppend (eV 10) (eTup (aCons (eMk 2 F_Pair___init__ (aCons (eV 2) (aCons (eCall F__law_third (aCons (eLst (aCons (eC (.int 0)) (aCons (eC (.int 1)) (aCons (eC (.int 0)) aNil)))) aNil)) aNil))) (aCons (eLst aNil) (aCons (eLst (aCons (eTup (aCons (eC (.str 72)) (aCons (eC (.int 2)) aNil))) aNil)) aNil)))))) (sSeq (sExp (eAppend (eV 10) (eTup (aCons (eMk 2 F_Pair___init__ (aCons (eV 2) (aCons (eCall F__law_third (aCons (eLst (aCons (eC (.int 0)) (aCons (eC (.int 0)) (aCons (eC (.int 2)) aNil)))) aNil)) aNil))) (aCons (eLst aNil) (aCons (eC .non) aNil)))))) (sSeq (sAsg (gV 11) (eCall F__law_sender (aCons (eC (.int 2)) (aCons (eLst (aCons (eTup (aCons (eC (.int 2)) (aCons (eC (.int 0)) aNil))) (aCons (eTup (aCons (eC (.int 2)) (aCons (eC (.int 1)) aNil))) (aCons (eC .non) (aCons (eC .non) aNil))))) (aCons (eBin oMul (eLst (aCons (eC (.int 0)) aNil)) (eC (.int 4))) aNil))))) (sRet (eBin oAdd (eV 10) (eLst (aCons (eTup (aCons (eMk 2 F_Pair___init__ (aCons (eV 11) (aCons (eCall F__law_quick (aCons (eC (.int 2)) (aCons (eLst (aCons (eC (.int 0)) (aCons (eC (.int 1)) aNil))) aNil))) aNil))) (aCons (eLst aNil) (aCons (eLst (aCons (eTup (aCons (eC (.str 72)) (aCons (eC (.int 2)) aNil))) aNil)) aNil)))) aNil)))))))))))))))))))))
def F__law_rows : Fn := fnOf 0 12 B__law_rows
def B_require_pair : Sx := (sIf (VI.tNot (tB (eB1 (bIs [0, 1, 2] (.cls 2)) (eV 0)))) (sRaise 7 aNil) sNop)
def F_require_pair : Fn := fnOf 1 1 B_require_pair
def B_is_name : Sx := (sRet (eAnd (eB1 (bIs [0, 1, 2] .str) (eV 0)) (eBin cIn (eV 0) (eV 1))))
def F_is_name : Fn := fnOf 2 2 B_is_name
def B_is_place : Sx := (sRet (eAnd (eB1 (bIs [0, 1, 2] .int) (eV 0)) (eAnd (eNot (eB1 (bIs [0, 1, 2] .bool) (eV 0))) (eBin cGe (eV 0) (eC (.int 0))))))
def F_is_place : Fn := fnOf 1 1 B_is_place
def B_is_event : Sx := (sSeq (sIf (tOr (VI.tNot (tB (eB1 (bIs [0, 1, 2] .tuple) (eV 1)))) (tOr (tB (eBin cEq (eB1 bLen (eV 1)) (eC (.int 0)))) (VI.tNot (tB (eB1 (bIs [0, 1, 2] .str) (eBin oIdx (eV 1) (eC (.int 0)))))))) (sRet (eC (.bool false))) sNop) (sSeq (sAsg (gV 2) (eBin oIdx (eV 1) (eC (.int 0)))) (sSeq (sIf (tB (eBin cIn (eV 2) (eTup (aCons (eC (.str 76)) (aCons (eC (.str 10)) aNil))))) (sRet (eBin cEq (eB1 bLen (eV 1)) (eC (.int 1)))) sNop) (sSeq (sIf (tB (eBin cEq (eV 2) (eC (.str 59)))) (sRet (eAnd (eBin cEq (eB1 bLen (eV 1)) (eC (.int 3))) (eAnd (eCall F_is_name (aCons (eBin oIdx (eV 1) (eC (.int 1))) (aCons (eC G_CHANNELS) aNil))) (eCall F_is_place (aCons (eBin oIdx (eV 1) (eC (.int 2))) aNil))))) sNop) (sSeq (sIf (tB (eBin cNe (eB1 bLen (eV 1)) (eC (.int 2)))) (sRet (eC (.bool false))) sNop) (sSeq (sIf (tB (eBin cEq (eV 2) (eC (.str 32)))) (sRet (eCall F_is_below (aCons (eBin oIdx (eV 1) (eC (.int 1))) (aCons (eFld [0, 1] (eFld [2, 14] (eV 0) 77) 91) aNil)))) sNop) (sSeq (sIf (tB (eBin cEq (eV 2) (eC (.str 67)))) (sRet (eCall F_is_name (aCons (eBin oIdx (eV 1) (eC (.int 1))) (aCons (eC G_CHANNELS) aNil)))) sNop) (sRet (eAnd (eBin cEq (eV 2) (eC (.str 19))) (eCall F_is_name (aCons (eBin oIdx (eV 1) (eC (.int 1))) (aCons (eC G_PROGRAMS) aNil))))))))))))
def F_is_event : Fn := fnOf 2 3 B_is_event
def B_checked_events : Sx := (sSeq (sIf (VI.tNot (tB (eB1 (bIs [0, 1, 2] .lot) (eV 1)))) (sRaise 4 aNil) sNop) (sSeq (sFor (ixEnum (eV 1)) (gT [2, 3]) (sIf (VI.tNot (tB (eCall F_is_event (aCons (eV 0) (aCons (eV 3) aNil))))) (sRaise 4 aNil) sNop)) (sRet (eB1 bList (eV 1)))))
def F_checked_events : Fn := fnOf 2 4 B_checked_events
def B_is_possible : Sx := (sSeq (sAsg (gT [3, 4, 5, 6]) (eV 1)) (sSeq (sIf (tB (eBin cEq (eBin oIdx (eV 2) (eC (.int 0))) (eC (.str 32)))) (sRet (eBin cNotN (eBin oIdx (eFld [0] (eFld [2, 14] (eV 0) 77) 84) (eV 3)) (eC .non))) sNop) (sSeq (sIf (tB (eBin cEq (eBin oIdx (eV 2) (eC (.int 0))) (eC (.str 67)))) (sRet (eBin cNe (eIf (tB (eBin cEq (eBin oIdx (eV 2) (eC (.int 1))) (eC (.str 28)))) (eV 5) (eV 6)) (eTup aNil))) sNop) (sSeq (sIf (tB (eBin cEq (eBin oIdx (eV 2) (eC (.int 0))) (eC (.str 59)))) (sRet (eBin cLt (eBin oIdx (eV 2) (eC (.int 2))) (eB1 bLen (eIf (tB (eBin cEq (eBin oIdx (eV 2) (eC (.int 1))) (eC (.str 28)))) (eV 5) (eV 6))))) sNop) (sRet (eC (.bool true)))))))
def F_is_possible : Fn := fnOf 3 7 B_is_possible
def B_ticked : Sx := (sSeq (sAsg (gT [3, 4, 5, 6]) (eV 1)) (sSeq (sIf (tB (eV 2)) (sSeq (sAsg (gV 7) (eBin oIdx (eFld [0, 1] (eFld [2, 14] (eV 0) 77) 78) (eV 3))) (sRet (eTup (aCons (eBin oIdx (eFld [0, 1] (eFld [2, 14] (eV 0) 77) 87) (eV 3)) (aCons (eV 4) (aCons (eBin oAdd (eV 5) (eIf (tB (eBin cIsN (eV 7) (eC .non))) (eTup aNil) (eTup (aCons (eV 7) aNil)))) (aCons (eV 6) aNil))))))) sNop) (sSeq (sAsg (gV 7) (eBin oIdx (eFld [0, 1] (eFld [2, 14] (eV 0) 72) 78) (eV 4))) (sRet (eTup (aCons (eV 3) (aCons (eBin oIdx (eFld [0, 1] (eFld [2, 14] (eV 0) 72) 87) (eV 4)) (aCons (eV 5) (aCons (eBin oAdd (eV 6) (eIf (tB (eBin cIsN (eV 7) (eC .non))) (eTup aNil) (eTup (aCons (eV 7) aNil)))) aNil)))))))))
def F_ticked : Fn := fnOf 3 8 B_ticked
def B_passed : Sx := (sSeq (sAsg (gT [3, 4, 5, 6]) (eV 1)) (sSeq (sIf (tB (eV 2)) (sSeq (sAsg (gV 7) (eBin oIdx (eV 5) (eC (.int 0)))) (sSeq (sAsg (gV 8) (eBin oIdx (eBin oIdx (eFld [1] (eFld [2, 14] (eV 0) 72) 29) (eV 4)) (eV 7))) (sRet (eTup (aCons (eTup (aCons (eV 3) (aCons (eBin oIdx (eBin oIdx (eFld [0, 1] (eFld [2, 14] (eV 0) 72) 34) (eV 4)) (eV 7)) (aCons (eSl (eV 5) (some (eC (.int 1))) none) (aCons (eV 6) aNil))))) (aCons (eV 8) aNil)))))) sNop) (sRet (eTup (aCons (eTup (aCons (eBin oIdx (eBin oIdx (eFld [0, 1] (eFld [2, 14] (eV 0) 77) 34) (eV 3)) (eBin oIdx (eV 6) (eC (.int 0)))) (aCons (eV 4) (aCons (eV 5) (aCons (eSl (eV 6) (some (eC (.int 1))) none) aNil))))) (aCons (eC .non) aNil))))))
def F_passed : Fn := fnOf 3 9 B_passed
def B_without : Sx := (sRet (eBin oAdd (eSl (eV 0) none (some (eV 1))) (eSl (eV 0) (some (eBin oAdd (eV 1) (eC (.int 1)))) none)))
def F_without : Fn := fnOf 2 2 B_without
def B_stepped : Sx := (sSeq (sAsg (gT [3, 4, 5, 6]) (eV 1)) (sSeq (sAsg (gV 7) (eBin oIdx (eV 2) (eC (.int 0)))) (sSeq (sIf (tB (eBin cEq (eV 7) (eC (.str 32)))) (sRet (eTup (aCons (eTup (aCons (eBin oIdx (eBin oIdx (eFld [0] (eFld [2, 14] (eV 0) 77) 84) (eV 3)) (eBin oIdx (eV 2) (eC (.int 1)))) (aCons (eV 4) (aCons (eV 5) (aCons (eV 6) aNil))))) (aCons (eC .non) aNil)))) sNop) (sSeq (sIf (tB (eBin cIn (eV 7) (eTup (aCons (eC (.str 76)) (aCons (eC (.str 10)) aNil))))) (sRet (eTup (aCons (eCall F_ticked (aCons (eV 0) (aCons (eV 1) (aCons (eBin cEq (eV 7) (eC (.str 76))) aNil)))) (aCons (eC .non) aNil)))) sNop) (sSeq (sIf (tB (eBin cEq (eV 7) (eC (.str 67)))) (sRet (eCall F_passed (aCons (eV 0) (aCons (eV 1) (aCons (eBin cEq (eBin oIdx (eV 2) (eC (.int 1))) (eC (.str 28))) aNil))))) sNop) (sSeq (sIf (tB (eBin cEq (eV 7) (eC (.str 59)))) (sSeq (sIf (tB (eBin cEq (eBin oIdx (eV 2) (eC (.int 1))) (eC (.str 28)))) (sRet (eTup (aCons (eTup (aCons (eV 3) (aCons (eV 4) (aCons (eCall F_without (aCons (eV 5) (aCons (eBin oIdx (eV 2) (eC (.int 2))) aNil))) (aCons (eV 6) aNil))))) (aCons (eC .non) aNil)))) sNop) (sRet (eTup (aCons (eTup (aCons (eV 3) (aCons (eV 4) (aCons (eV 5) (aCons (eCall F_without (aCons (eV 6) (aCons (eBin oIdx (eV 2) (eC (.int 2))) aNil))) aNil))))) (aCons (eC .non) aNil))))) sNop) (sSeq (sIf (tB (eBin cEq (eBin oIdx (eV 2) (eC (.int 1))) (eC (.str 77)))) (sRet (eTup (aCons (eTup (aCons (eBin oIdx (eFld [0, 1] (eFld [2, 14] (eV 0) 77) 20) (eV 3)) (aCons (eV 4) (aCons (eV 5) (aCons (eV 6) aNil))))) (aCons (eC .non) aNil)))) sNop) (sRet (eTup (aCons (eTup (aCons (eV 3) (aCons (eBin oIdx (eFld [0, 1] (eFld [2, 14] (eV 0) 72) 20) (eV 4)) (aCons (eV 5) (aCons (eV 6) aNil))))) (aCons (eC .non) aNil)))))))))))
def F_stepped : Fn := fnOf 3 8 B_stepped
def B_trail : Sx := (sSeq (sAsg (gV 2) (eC G_START)) (sSeq (sAsg (gV 3) (eLst aNil)) (sSeq (sFor (ixEnum (eV 1)) (gT [4, 5]) (sSeq (sIf (VI.tNot (tB (eCall F_is_possible (aCons (eV 0) (aCons (eV 2) (aCons (eV 5) aNil)))))) (sRaise 11 aNil) sNop) (sSeq (sAsg (gT [2, 6]) (eCall F_stepped (aCons (eV 0) (aCons (eV 2) (aCons (eV 5) aNil))))) (sIf (tB (eBin cNotN (eV 6) (eC .non))) (sExp (eAppend (eV 3) (eTup (aCons (eV 4) (aCons (eV 6) aNil))))) sNop)))) (sRet (eTup (aCons (eV 2) (aCons (eV 3) aNil)))))))
def F_trail : Fn := fnOf 2 7 B_trail
def B_checked_trail : Sx := (sSeq (sAsg (gV 2) (eCall F_checked_events (aCons (eV 0) (aCons (eV 1) aNil)))) (sSeq (sAsg (gT [3, 4]) (eCall F_trail (aCons (eV 0) (aCons (eV 2) aNil)))) (sRet (eTup (aCons (eV 2) (aCons (eV 3) (aCons (eV 4) aNil)))))))
def F_checked_trail : Fn := fnOf 2 5 B_checked_trail
def B_require_excusing : Sx := (sSeq (sIf (tOr (VI.tNot (tB (eB1 (bIs [0, 1, 2] .tuple) (eV 0)))) (VI.tNot (tB (eB1 bAll (eComp (ixE (eV 0)) (gV 1) [1] tYes (eAnd (eB1 (bIs [0, 1, 2] .str) (eV 1)) (eBin cIn (eV 1) (eC G_PROGRAMS)))))))) (sRaise 5 aNil) sNop) (sIf (tB (eBin cNe (eB1 bLenSet (eV 0)) (eB1 bLen (eV 0)))) (sRaise 5 aNil) sNop))
def F_require_excusing : Fn := fnOf 1 2 B_require_excusing
def B_is_free : Sx := (sRet (eBin cNotN (eBin oIdx (eFld [0] (eFld [2, 14] (eV 0) 77) 84) (eBin oIdx (eV 1) (eC (.int 0)))) (eC .non)))
def F_is_free : Fn := fnOf 2 2 B_is_free
def B_round_of : Sx := (sSeq (sAsg (gV 2) (eLst (aCons (eCall F_ticked (aCons (eV 0) (aCons (eV 1) (aCons (eC (.bool true)) aNil)))) aNil))) (sSeq (sAsg (gV 3) (eLst aNil)) (sSeq (sIf (tB (eBin cNe (eBin oIdx (eBin oIdx (eV 2) (eNeg (eC (.int 1)))) (eC (.int 2))) (eTup aNil))) (sSeq (sAsg (gT [1, 4]) (eCall F_passed (aCons (eV 0) (aCons (eBin oIdx (eV 2) (eNeg (eC (.int 1)))) (aCons (eC (.bool true)) aNil))))) (sSeq (sExp (eAppend (eV 2) (eV 1))) (sAsg (gV 3) (eIf (tB (eBin cIsN (eV 4) (eC .non))) (eLst aNil) (eLst (aCons (eV 4) aNil)))))) sNop) (sSeq (sExp (eAppend (eV 2) (eCall F_ticked (aCons (eV 0) (aCons (eBin oIdx (eV 2) (eNeg (eC (.int 1)))) (aCons (eC (.bool false)) aNil)))))) (sSeq (sIf (tB (eBin cNe (eBin oIdx (eBin oIdx (eV 2) (eNeg (eC (.int 1)))) (eC (.int 3))) (eTup aNil))) (sExp (eAppend (eV 2) (eBin oIdx (eCall F_passed (aCons (eV 0) (aCons (eBin oIdx (eV 2) (eNeg (eC (.int 1)))) (aCons (eC (.bool false)) aNil)))) (eC (.int 0))))) sNop) (sRet (eTup (aCons (eV 2) (aCons (eV 3) aNil)))))))))
def F_round_of : Fn := fnOf 2 5 B_round_of
def B_emptied : Sx := (sSeq (sAsg (gV 2) (eLst (aCons (eV 1) aNil))) (sSeq (sAsg (gV 3) (eLst aNil)) (sSeq (sWh (tB (eBin cNe (eBin oIdx (eBin oIdx (eV 2) (eNeg (eC (.int 1)))) (eC (.int 2))) (eTup aNil))) (sSeq (sAsg (gT [1, 4]) (eCall F_passed (aCons (eV 0) (aCons (eBin oIdx (eV 2) (eNeg (eC (.int 1)))) (aCons (eC (.bool true)) aNil))))) (sSeq (sExp (eAppend (eV 2) (eV 1))) (sIf (tB (eBin cNotN (eV 4) (eC .non))) (sExp (eAppend (eV 3) (eV 4))) sNop)))) (sSeq (sWh (tB (eBin cNe (eBin oIdx (eBin oIdx (eV 2) (eNeg (eC (.int 1)))) (eC (.int 3))) (eTup aNil))) (sExp (eAppend (eV 2) (eBin oIdx (eCall F_passed (aCons (eV 0) (aCons (eBin oIdx (eV 2) (eNeg (eC (.int 1)))) (aCons (eC (.bool false)) aNil)))) (eC (.int 0)))))) (sRet (eTup (aCons (eV 2) (aCons (eV 3) aNil))))))))
def F_emptied : Fn := fnOf 2 5 B_emptied
def B_rest_of : Sx := (sSeq (sAsg (gT [2, 3]) (eCall F_emptied (aCons (eV 0) (aCons (eV 1) aNil)))) (sSeq (sAsg (gV 1) (eBin oIdx (eV 2) (eNeg (eC (.int 1))))) (sSeq (sDict 4) (sSeq (sWh (tB (eDNotIn (eKey (eV 1) 2) (eV 4))) (sSeq (sDSet (eV 4) (eKey (eV 1) 2) (eB1 bLen (eV 3))) (sSeq (sAsg (gT [5, 6]) (eCall F_round_of (aCons (eV 0) (aCons (eV 1) aNil)))) (sSeq (sExp (eExtend (eV 2) (eV 5))) (sSeq (sAsg (gV 3) (eBin oAdd (eV 3) (eV 6))) (sAsg (gV 1) (eBin oIdx (eV 5) (eNeg (eC (.int 1)))))))))) (sSeq (sAsg (gV 7) (eBin cGt (eB1 bLen (eV 3)) (eDGet (eV 4) (eKey (eV 1) 2)))) (sRet (eTup (aCons (eV 3) (aCons (eV 7) (aCons (eB1 bAny (eComp (ixE (eV 2)) (gV 8) [8] tYes (eCall F_is_free (aCons (eV 0) (aCons (eV 8) aNil))))) aNil))))))))))
def F_rest_of : Fn := fnOf 2 9 B_rest_of
def B_can_give : Sx := (sSeq (sAsg (gV 2) (eC (.int 0))) (sSeq (sFor (ixE (eV 0)) (gT [3, 4]) (sSeq (sWh (tAnd (tB (eBin cLt (eV 2) (eB1 bLen (eV 1)))) (tB (eBin cNe (eBin oIdx (eBin oIdx (eV 1) (eV 2)) (eC (.int 1))) (eV 4)))) (sAsg (gV 2) (eBin oAdd (eV 2) (eC (.int 1))))) (sSeq (sIf (tOr (tB (eBin cEq (eV 2) (eB1 bLen (eV 1)))) (tB (eBin cGt (eBin oIdx (eBin oIdx (eV 1) (eV 2)) (eC (.int 0))) (eV 3)))) (sRet (eC (.bool false))) sNop) (sAsg (gV 2) (eBin oAdd (eV 2) (eC (.int 1))))))) (sRet (eC (.bool true)))))
def F_can_give : Fn := fnOf 2 5 B_can_give
def B_judged : Sx := (sSeq (sAsg (gT [5, 6, 7]) (eCall F_rest_of (aCons (eV 0) (aCons (eV 2) aNil)))) (sSeq (sAsg (gV 8) (eBin oAdd (eV 3) (eComp (ixE (eV 5)) (gV 16) [16] tYes (eTup (aCons (eB1 bLen (eV 1)) (aCons (eV 16) aNil)))))) (sSeq (sAsg (gV 9) (eComp (ixEnum (eV 1)) (gT [17, 18]) [17, 18] (tB (eBin cEq (eBin oIdx (eV 18) (eC (.int 0))) (eC (.str 32)))) (eTup (aCons (eV 17) (aCons (eBin oIdx (eV 18) (eC (.int 1))) aNil))))) (sSeq (sIf (tOr (tTru (eV 6)) (VI.tNot (tB (eCall F_can_give (aCons (eV 8) (aCons (eV 9) aNil)))))) (sRet (eC (.str 102))) sNop) (sSeq (sAsg (gV 10) (eComp (ixEnum (eV 1)) (gT [17, 18]) [17, 18] (tAnd (tB (eBin cEq (eBin oIdx (eV 18) (eC (.int 0))) (eC (.str 19)))) (tB (eBin cIn (eBin oIdx (eV 18) (eC (.int 1))) (eV 4)))) (eV 17))) (sSeq (sAsg (gV 11) (eB1 bMax (eBin oAdd (eV 10) (eLst (aCons (eNeg (eC (.int 1))) aNil))))) (sSeq (sAsg (gV 12) (eComp (ixE (eV 9)) (gT [17, 16]) [17, 16] (tB (eBin cGt (eV 17) (eV 11))) (eTup (aCons (eV 17) (aCons (eV 16) aNil))))) (sSeq (sAsg (gV 13) (eBin oSub (eB1 bLen (eV 8)) (eB1 bLen (eV 12)))) (sSeq (sIf (tOr (tB (eBin cLt (eV 13) (eC (.int 0)))) (VI.tNot (tB (eCall F_can_give (aCons (eSl (eV 8) none (some (eV 13))) (aCons (eSl (eV 9) none (some (eBin oSub (eB1 bLen (eV 9)) (eB1 bLen (eV 12))))) aNil)))))) (sRet (eC (.str 60))) sNop) (sSeq (sFor (ixZip (eSl (eV 8) (some (eV 13)) none) (eV 12)) (gT [14, 15]) (sIf (tOr (tB (eBin cNe (eBin oIdx (eV 14) (eC (.int 1))) (eBin oIdx (eV 15) (eC (.int 1))))) (tB (eBin cGt (eBin oIdx (eV 15) (eC (.int 0))) (eBin oIdx (eV 14) (eC (.int 0)))))) (sRet (eC (.str 60))) sNop)) (sRet (eIf (tTru (eV 7)) (eC (.str 31)) (eC (.str 82))))))))))))))
def F_judged : Fn := fnOf 5 19 B_judged
def B_verdict : Sx := (sSeq (sExp (eCall F_require_pair (aCons (eV 0) aNil))) (sSeq (sAsg (gT [3, 4, 5]) (eCall F_checked_trail (aCons (eV 0) (aCons (eV 1) aNil)))) (sSeq (sExp (eCall F_require_excusing (aCons (eV 2) aNil))) (sRet (eCall F_judged (aCons (eV 0) (aCons (eV 3) (aCons (eV 4) (aCons (eV 5) (aCons (eV 2) aNil))))))))))
def F_verdict : Fn := fnOf 3 6 B_verdict
def B_Round___init__ : Sx := (sSeq (sAsg (gV 2) (eCall F_ticked (aCons (eV 1) (aCons (eV 2) (aCons (eC (.bool true)) aNil))))) (sSeq (sFld [2, 14] (eV 0) 77 (eBin oIdx (eV 2) (eC (.int 0)))) (sSeq (sFld [14] (eV 0) 61 (eIf (tB (eBin cNe (eBin oIdx (eV 2) (eC (.int 2))) (eTup aNil))) (eBin oIdx (eBin oIdx (eV 2) (eC (.int 2))) (eC (.int 0))) (eC .non))) (sSeq (sFld [14] (eV 0) 90 (eC .non)) (sSeq (sIf (tB (eBin cNotN (eFld [14] (eV 0) 61) (eC .non))) (sAsg (gNF 2 [14] (eV 0) 90) (eCall F_passed (aCons (eV 1) (aCons (eV 2) (aCons (eC (.bool true)) aNil))))) sNop) (sSeq (sFld [14] (eV 0) 33 (eBin oIdx (eV 2) (eC (.int 1)))) (sSeq (sAsg (gV 2) (eCall F_ticked (aCons (eV 1) (aCons (eV 2) (aCons (eC (.bool false)) aNil))))) (sSeq (sFld [2, 14] (eV 0) 72 (eBin oIdx (eV 2) (eC (.int 1)))) (sSeq (sFld [14] (eV 0) 10 (eIf (tB (eBin cNe (eBin oIdx (eV 2) (eC (.int 3))) (eTup aNil))) (eBin oIdx (eBin oIdx (eV 2) (eC (.int 3))) (eC (.int 0))) (eC .non))) (sSeq (sIf (tB (eBin cNotN (eFld [14] (eV 0) 10) (eC .non))) (sAsg (gV 2) (eBin oIdx (eCall F_passed (aCons (eV 1) (aCons (eV 2) (aCons (eC (.bool false)) aNil)))) (eC (.int 0)))) sNop) (sFld [14] (eV 0) 15 (eV 2))))))))))))
def F_Round___init__ : Fn := fnOf 3 3 B_Round___init__
def B_rounds_of : Sx := (sSeq (sAsg (gV 1) (eTup (aCons (eBin oIdx (eBin oIdx (eFld [0] (eFld [2, 14] (eV 0) 77) 84) (eBin oIdx (eV 1) (eC (.int 0)))) (eC (.int 0))) (aCons (eBin oIdx (eV 1) (eC (.int 1))) (aCons (eTup aNil) (aCons (eTup aNil) aNil)))))) (sSeq (sAsg (gV 3) (eLst aNil)) (sSeq (sWh (tB (eBin cNe (eB1 bLen (eV 3)) (eV 2))) (sSeq (sExp (eAppend (eV 3) (eMk 14 F_Round___init__ (aCons (eV 0) (aCons (eV 1) aNil))))) (sSeq (sAsg (gV 1) (eFld [14] (eBin oIdx (eV 3) (eNeg (eC (.int 1)))) 15)) (sIf (tAnd (tB (eBin cIsN (eV 2) (eC .non))) (tB (eBin cNotN (eFld [14] (eBin oIdx (eV 3) (eNeg (eC (.int 1)))) 90) (eC .non)))) (sRet (eV 3)) sNop)))) (sRet (eV 3)))))
def F_rounds_of : Fn := fnOf 3 4 B_rounds_of
def B_sends_by : Sx := (sSeq (sAsg (gV 3) (eLst (aCons (eC G_HAND) aNil))) (sSeq (sFor (ixR (eV 1)) (gV 4) (sSeq (sIf (tAnd (tB (eBin cGt (eV 4) (eC (.int 0)))) (tB (eBin cNotN (eFld [14] (eBin oIdx (eV 0) (eBin oSub (eV 4) (eC (.int 1)))) 10) (eC .non)))) (sExp (eAppend (eV 3) (eTup (aCons (eC (.str 67)) (aCons (eC (.str 14)) aNil))))) sNop) (sSeq (sExp (eAppend (eV 3) (eTup (aCons (eC (.str 76)) aNil)))) (sIf (tAnd (tB (eV 2)) (tB (eBin cNotN (eFld [14] (eBin oIdx (eV 0) (eV 4)) 61) (eC .non)))) (sExp (eAppend (eV 3) (eTup (aCons (eC (.str 59)) (aCons (eC (.str 28)) (aCons (eC (.int 0)) aNil)))))) sNop)))) (sRet (eV 3))))
def F_sends_by : Fn := fnOf 3 5 B_sends_by
def B_answers_by : Sx := (sSeq (sAsg (gV 2) (eLst aNil)) (sSeq (sFor (ixR (eV 1)) (gV 3) (sSeq (sIf (tB (eBin cNotN (eFld [14] (eBin oIdx (eV 0) (eV 3)) 61) (eC .non))) (sExp (eAppend (eV 2) (eTup (aCons (eC (.str 67)) (aCons (eC (.str 28)) aNil))))) sNop) (sExp (eAppend (eV 2) (eTup (aCons (eC (.str 10)) aNil)))))) (sRet (eBin oAdd (eV 2) (eLst (aCons (eTup (aCons (eC (.str 19)) (aCons (eC (.str 72)) aNil))) aNil))))))
def F_answers_by : Fn := fnOf 2 4 B_answers_by
def B_recorded_by : Sx := (sSeq (sAsg (gV 3) (eLst aNil)) (sSeq (sFor (ixR2 (eC (.int 1)) (eBin oAdd (eV 1) (eC (.int 1)))) (gV 4) (sSeq (sExp (eExtend (eV 3) (eBin oAdd (eCall F_sends_by (aCons (eV 0) (aCons (eV 4) (aCons (eC (.bool false)) aNil)))) (eLst (aCons (eTup (aCons (eC (.str 19)) (aCons (eC (.str 77)) aNil))) aNil))))) (sIf (tOr (tB (eBin cLt (eV 4) (eV 1))) (VI.tNot (tB (eV 2)))) (sExp (eExtend (eV 3) (eCall F_answers_by (aCons (eV 0) (aCons (eV 4) aNil))))) sNop))) (sRet (eV 3))))
def F_recorded_by : Fn := fnOf 3 5 B_recorded_by
def B_is_good : Sx := (sSeq (sAsg (gT [3, 4]) (eCall F_trail (aCons (eV 0) (aCons (eV 1) aNil)))) (sRet (eBin cEq (eCall F_judged (aCons (eV 0) (aCons (eV 1) (aCons (eV 3) (aCons (eV 4) (aCons (eV 2) aNil)))))) (eC (.str 31)))))
def F_is_good : Fn := fnOf 3 5 B_is_good
def B_whole_round : Sx := (sSeq (sAsg (gV 1) (eLst (aCons (eTup (aCons (eC (.str 76)) aNil)) aNil))) (sSeq (sIf (tB (eBin cNotN (eFld [14] (eV 0) 61) (eC .non))) (sExp (eAppend (eV 1) (eTup (aCons (eC (.str 67)) (aCons (eC (.str 28)) aNil))))) sNop) (sSeq (sExp (eAppend (eV 1) (eTup (aCons (eC (.str 10)) aNil)))) (sRet (eBin oAdd (eV 1) (eBin oMul (eLst (aCons (eTup (aCons (eC (.str 67)) (aCons (eC (.str 14)) aNil))) aNil)) (eB1 bInt (eBin cNotN (eFld [14] (eV 0) 10) (eC .non)))))))))
def F_whole_round : Fn := fnOf 1 2 B_whole_round
def B_up_to_send : Sx := (sSeq (sAsg (gV 1) (eLst (aCons (eC G_HAND) aNil))) (sSeq (sFor (ixE (eSl (eV 0) none (some (eNeg (eC (.int 1)))))) (gV 2) (sExp (eExtend (eV 1) (eCall F_whole_round (aCons (eV 2) aNil))))) (sRet (eBin oAdd (eV 1) (eLst (aCons (eTup (aCons (eC (.str 76)) aNil)) aNil))))))
def F_up_to_send : Fn := fnOf 1 3 B_up_to_send
def B_delivers_again : Sx := (sRet (eBin cNe (eBin oIdx (eCall F_rest_of (aCons (eV 0) (aCons (eTup (aCons (eFld [2, 14] (eBin oIdx (eV 1) (eNeg (eC (.int 1)))) 77) (aCons (eV 2) (aCons (eTup aNil) (aCons (eTup aNil) aNil))))) aNil))) (eC (.int 0))) (eLst aNil)))
def F_delivers_again : Fn := fnOf 3 3 B_delivers_again
def B_writes_of : Sx := (sSeq (sAsg (gT [4, 5]) (eV 2)) (sSeq (sIf (tB (eV 3)) (sSeq (sAsg (gV 6) (eBin oIdx (eV 1) (eNeg (eC (.int 1))))) (sRet (eBin oMul (eLst (aCons (eTup (aCons (eC (.str 72)) (aCons (eB1 bLen (eV 1)) aNil))) aNil)) (eB1 bInt (eBin cNe (eBin oIdx (eFld [0, 1] (eFld [2, 14] (eV 0) 72) 20) (eFld [14] (eV 6) 33)) (eV 5)))))) sNop) (sSeq (sAsg (gV 7) (eLst aNil)) (sSeq (sFor (ixEnum (eSl (eV 1) none (some (eNeg (eC (.int 1)))))) (gT [8, 9]) (sSeq (sIf (tB (eBin cNe (eBin oIdx (eFld [0, 1] (eFld [2, 14] (eV 0) 77) 20) (eFld [2, 14] (eV 9) 77)) (eV 4))) (sExp (eAppend (eV 7) (eTup (aCons (eC (.str 77)) (aCons (eBin oAdd (eV 8) (eC (.int 1))) aNil))))) sNop) (sIf (tB (eBin cNe (eBin oIdx (eFld [0, 1] (eFld [2, 14] (eV 0) 72) 20) (eFld [2, 14] (eV 9) 72)) (eV 5))) (sExp (eAppend (eV 7) (eTup (aCons (eC (.str 72)) (aCons (eBin oAdd (eV 8) (eC (.int 1))) aNil))))) sNop))) (sRet (eV 7))))))
def F_writes_of : Fn := fnOf 4 10 B_writes_of
def B_is_settled : Sx := (sSeq (sAsg (gV 4) (eComp (ixE (eV 1)) (gV 5) [5] (tB (eBin cEq (eBin oIdx (eV 5) (eC (.int 0))) (eC (.str 32)))) (eBin oIdx (eV 5) (eC (.int 1))))) (sRet (eAnd (eBin cEq (eComp (ixE (eV 3)) (gT [6, 7]) [6, 7] tYes (eV 7)) (eV 4)) (eAnd (eBin cEq (eSl (eV 2) (some (eC (.int 2))) none) (eTup (aCons (eTup aNil) (aCons (eTup aNil) aNil)))) (eCall F_is_free (aCons (eV 0) (aCons (eV 2) aNil)))))))
def F_is_settled : Fn := fnOf 4 8 B_is_settled
def B_breaking : Sx := (sSeq (sExp (eCall F_require_pair (aCons (eV 0) aNil))) (sSeq (sAsg (gT [2, 3, 4]) (eCall F_checked_trail (aCons (eV 0) (aCons (eV 1) aNil)))) (sSeq (sIf (VI.tNot (tB (eCall F_is_settled (aCons (eV 0) (aCons (eV 2) (aCons (eV 3) (aCons (eV 4) aNil))))))) (sRaise 12 aNil) sNop) (sSeq (sIf (VI.tNot (tB (eCall F_is_good (aCons (eV 0) (aCons (eBin oAdd (eV 2) (eLst (aCons (eC G_HAND) aNil))) (aCons (eC G_BOTH) aNil)))))) (sRet (eTup (aCons (eC (.str 75)) (aCons (eBin oAdd (eV 2) (eLst (aCons (eC G_HAND) aNil))) aNil)))) sNop) (sSeq (sAsg (gV 5) (eCall F_rounds_of (aCons (eV 0) (aCons (eV 3) (aCons (eC .non) aNil))))) (sSeq (sAsg (gV 6) (eCall F_delivers_again (aCons (eV 0) (aCons (eV 5) (aCons (eBin oIdx (eV 3) (eC (.int 1))) aNil))))) (sSeq (sAsg (gV 7) (eCall F_writes_of (aCons (eV 0) (aCons (eV 5) (aCons (eSl (eV 3) none (some (eC (.int 2)))) (aCons (eV 6) aNil)))))) (sSeq (sIf (tB (eBin cNe (eV 7) (eLst aNil))) (sRet (eTup (aCons (eC (.str 101)) (aCons (eV 7) aNil)))) sNop) (sSeq (sIf (tB (eV 6)) (sRet (eTup (aCons (eC (.str 75)) (aCons (eBin oAdd (eBin oAdd (eV 2) (eCall F_up_to_send (aCons (eV 5) aNil))) (eLst (aCons (eTup (aCons (eC (.str 67)) (aCons (eC (.str 28)) aNil))) (aCons (eTup (aCons (eC (.str 19)) (aCons (eC (.str 72)) aNil))) aNil)))) aNil)))) sNop) (sSeq (sAsg (gV 8) (eB1 bLen (eV 5))) (sRet (eTup (aCons (eC (.str 75)) (aCons (eBin oAdd (eBin oAdd (eV 2) (eCall F_recorded_by (aCons (eV 5) (aCons (eBin oSub (eV 8) (eC (.int 1))) (aCons (eC (.bool false)) aNil))))) (eCall F_sends_by (aCons (eV 5) (aCons (eV 8) (aCons (eC (.bool true)) aNil))))) aNil))))))))))))))
def F_breaking : Fn := fnOf 2 9 B_breaking
def B__law_told_right : Sx := (sSeq (sAsg (gV 3) (eCall F_breaking (aCons (eV 0) (aCons (eB1 bList (eV 1)) aNil)))) (sSeq (sIf (tB (eBin cNotN (eV 2) (eC .non))) (sRet (eBin cEq (eV 3) (eTup (aCons (eC (.str 101)) (aCons (eV 2) aNil))))) sNop) (sRet (eAnd (eBin cEq (eBin oIdx (eV 3) (eC (.int 0))) (eC (.str 75))) (eAnd (eBin cEq (eSl (eBin oIdx (eV 3) (eC (.int 1))) none (some (eB1 bLen (eV 1)))) (eV 1)) (eBin cNe (eCall F_verdict (aApp (aCons (eV 0) (aCons (eBin oIdx (eV 3) (eC (.int 1))) aNil)) (aDs [G_BOTH]))) (eC (.str 31))))))))
def F__law_told_right : Fn := fnOf 3 4 B__law_told_right
def B__law_grown_right : Sx := (sSeq (sPar3 0 1 2 (aCons (eBin oIdx (eBin oIdx (eCall F__law_rows aNil) (eC (.int 0))) (eC (.int 0))) (aCons (eLst aNil) (aCons (eLst aNil) aNil)))) (sSeq (sFor (ixR (eC (.int 4))) (gV 3) (sSeq (sExp (eAppend (eV 2) (eBin oIdx (eCall F_breaking (aCons (eV 0) (aCons (eV 1) aNil))) (eC (.int 0))))) (sIf (tB (eBin cEq (eV 1) (eLst aNil))) (sExp (eExtend (eV 1) (eCall F__law_laps (aCons (eC (.int 2)) (aCons (eC (.bool false)) aNil))))) (sExp (eClear (eV 1)))))) (sRet (eBin cEq (eV 2) (eLst (aCons (eC (.str 75)) (aCons (eC (.str 101)) (aCons (eC (.str 75)) (aCons (eC (.str 101)) aNil)))))))))
def F__law_grown_right : Fn := fnOf 0 4 B__law_grown_right
def B_law : Sx := (sSeq (sFor (ixR (eBin oAdd (eC (.int 1)) (eBin oMin (eC (.int 8)) (eB1 bLen (eV 0))))) (gV 1) (sSeq (sPar 2 3 (aCons (eCall F__law_purse (aCons (eV 0) (aCons (eV 1) aNil))) (aCons (eCall F__law_rows aNil) aNil))) (sFor (ixR (eC (.int 14))) (gV 4) (sSeq (sAsg (gT [5, 6, 7]) (eBin oIdx (eV 3) (eCall F__law_draw (aCons (eV 2) (aCons (eB1 bLen (eV 3)) aNil))))) (sIf (VI.tNot (tB (eCall F__law_told_right (aCons (eV 5) (aCons (eV 6) (aCons (eV 7) aNil)))))) (sRet (eC (.bool false))) sNop))))) (sSeq (sIf (tB (eBin cNe (eComp (ixE (eCall F__law_rows aNil)) (gV 8) [8] (VI.tNot (tB (eCall F__law_told_right (aCons (eBin oIdx (eV 8) (eC (.int 0))) (aCons (eBin oIdx (eV 8) (eC (.int 1))) (aCons (eBin oIdx (eV 8) (eC (.int 2))) aNil)))))) (eV 8)) (eLst aNil))) (sRet (eC (.bool false))) sNop) (sRet (eCall F__law_grown_right aNil))))
def F_law : Fn := fnOf 1 9 B_law
end L_k36
end
section
set_option Elab.async false
set_option linter.all false
set_option maxRecDepth 100000
set_option maxHeartbeats 4000000
namespace L_k36
open VI
section
set_option Elab.async false
set_option linter.all false
set_option maxRecDepth 100000
set_option maxHeartbeats 2000000
def Pu (p n : Nat) (s : Store) : Prop := ∃ a b c : Int, s[p]? = some (.lst [.int a, .int b, .int c]) ∧ 0 ≤ c ∧ c ≤ n
def Fr (p : Nat) (s s' : Store) : Prop := s.length ≤ s'.length ∧ ∀ k, k < s.length → k ≠ p → s'[k]? = s[k]?
theorem Fr.refl (p : Nat) (s : Store) : Fr p s s := ⟨Nat.le_refl _, fun _ _ _ => rfl⟩
theorem Fr.trans {p : Nat} {s s1 s2 : Store} (a : Fr p s s1) (b : Fr p s1 s2) : Fr p s s2 := ⟨Nat.le_trans a.1 b.1, fun k hk hp => (b.2 k (Nat.lt_of_lt_of_le hk a.1) hp).trans (a.2 k hk hp)⟩
theorem Fr.set {p : Nat} {s : Store} {o : Ob} : Fr p s (s.set p o) := ⟨by rw [List.length_set]; exact Nat.le_refl _, fun k hk hp => by rw [List.getElem?_set_ne (Ne.symm hp)]⟩
theorem Fr.app {p : Nat} {s : Store} {l : List Ob} : Fr p s (s ++ l) := ⟨by rw [List.length_append]; exact Nat.le_add_right _ _, fun k hk hp => by rw [List.getElem?_append_left hk]⟩
theorem Pu.lt {p n : Nat} {s : Store} (h : Pu p n s) : p < s.length := by
  obtain ⟨a, b, c, h, _⟩ := h
  exact (List.getElem?_eq_some_iff.mp h).1
theorem Pu.app {p n : Nat} {s : Store} (h : Pu p n s) (l : List Ob) : Pu p n (s ++ l) := by
  have hl := h.lt
  obtain ⟨a, b, c, h, q⟩ := h
  exact ⟨a, b, c, by rw [List.getElem?_append_left hl]; exact h, q⟩
theorem Pu.le {p n m : Nat} {s : Store} (h : Pu p n s) (hm : n ≤ m) : Pu p m s := by
  obtain ⟨a, b, c, h, h1, h2⟩ := h
  exact ⟨a, b, c, h, h1, by omega⟩
theorem is_below_i (i m : Int) (s : Store) : F_is_below [.int i, .int m] s = .ok (.v (.bool (decide (0 ≤ i) && decide (i < m)))) s := by
  simp [F_is_below, B_is_below, fnOf_r]
  by_cases h : 0 ≤ i <;> simp [h]
theorem is_below_n (m : Int) (s : Store) : F_is_below [.non, .int m] s = .ok (.v (.bool false)) s := by
  simp [F_is_below, B_is_below, fnOf_r]
theorem mixed_ok (b c : Int) (h0 : 0 ≤ c) (h1 : c < 2 ^ 60) (s : Store) : ∃ r : Int, F__law_mixed [.int b, .int c] s = .ok (.v (.int r)) s ∧ 0 ≤ r := by
  have e1 : small 2654435761 = true := by decide
  have e2 : small 40503 = true := by decide
  have e3 : small c = true := by unfold small; simp only [Bool.and_eq_true, decide_eq_true_eq]; omega
  have e4 : small 97 = true := by decide
  have e5 : ∀ x : Int, small (x.fmod 2147483647) = true := fun x => by
    have h := Int.fmod_nonneg_of_pos x (b := 2147483647) (by decide)
    have h' := Int.fmod_lt_of_pos x (b := 2147483647) (by decide)
    unfold small; simp only [Bool.and_eq_true, decide_eq_true_eq]; omega
  have e6 : small 7 = true := by decide
  refine ⟨_, by simp [F__law_mixed, B__law_mixed, fnOf_r, e1, e2, e3, e4, e5, e6]; rfl, ?_⟩
  exact Int.fdiv_nonneg (Int.fmod_nonneg_of_pos _ (by decide)) (by decide)
theorem atI_of {α : Type} {xs : List α} {i : Nat} {x : α} (h : xs[i]? = some x) : atI xs (i : Int) = some x := by
  have hl := (List.getElem?_eq_some_iff.mp h).1
  unfold atI ixN
  rw [if_pos (by omega), if_pos (by omega)]
  exact h
theorem atI_1 {α : Type} (x y : α) (xs : List α) : atI (x :: y :: xs) 1 = some y := atI_of (i := 1) rfl
theorem atI_2 {α : Type} (x y z : α) (xs : List α) : atI (x :: y :: z :: xs) 2 = some z := atI_of (i := 2) rfl
theorem atI_3 {α : Type} (x y z w : α) (xs : List α) : atI (x :: y :: z :: w :: xs) 3 = some w := atI_of (i := 3) rfl
theorem atI_4 {α : Type} (x y z w u : α) (xs : List α) : atI (x :: y :: z :: w :: u :: xs) 4 = some u := atI_of (i := 4) rfl
theorem draw_ok {p n : Nat} {k : Int} {s : Store} (h : Pu p n s) (hn : n < 2 ^ 50) (hk : 1 ≤ k) (hk2 : k < 1073741824) :
    Wp (F__law_draw [.ref p, .int k] s) fun t s' => ∃ r : Nat, t = .v (.int r) ∧ (r : Int) < k ∧ Pu p (n + 1) s' ∧ Fr p s s' := by
  have hp := h.lt
  obtain ⟨a, b, c, h, h0, h1⟩ := h
  have hk0 : k ≠ 0 := by omega
  have hkn : k.natAbs < 1073741824 := by omega
  have sq : seqOf (.v (.ref p)) s = some [.int a, .int b, .int c] := by simp [seqOf, h]
  have rf : refL (.v (.ref p)) s = some (p, [.int a, .int b, .int c]) := by simp [refL, h]
  by_cases ha : 0 < a
  · simp [F__law_draw, B__law_draw, fnOf_r, sq, ha, hk0, hkn, sSub, rf, ixN, updL]
    have f1 := Int.fmod_nonneg_of_pos a (b := k) (by omega)
    have f2 := Int.fmod_lt_of_pos a (b := k) (by omega)
    refine ⟨(a.fmod k).toNat, by omega, by omega, ?_, Fr.set⟩
    exact ⟨_, b, c, List.getElem?_set_self hp, h0, by omega⟩
  · have sq2 : seqOf (.v (.ref p)) (s.set p (.lst [.int a, .int b, .int (c + 1)])) = some [.int a, .int b, .int (c + 1)] := by simp [seqOf, hp]
    obtain ⟨r, hr, hr0⟩ := mixed_ok b (c + 1) (by omega) (by omega) (s.set p (.lst [.int a, .int b, .int (c + 1)]))
    simp [F__law_draw, B__law_draw, fnOf_r, sq, ha, hk0, hkn, sSub, rf, ixN, updL, atI_1, atI_2, sq2, hr]
    have f1 := Int.fmod_nonneg_of_pos r (b := k) (by omega)
    have f2 := Int.fmod_lt_of_pos r (b := k) (by omega)
    refine ⟨(r.fmod k).toNat, by omega, by omega, ?_, Fr.set⟩
    exact ⟨a, b, c + 1, List.getElem?_set_self hp, by omega, by omega⟩
abbrev nv (n : Nat) : Val := .int (n : Int)
abbrev rowV (l : List Nat) : Val := .tup (l.map nv)
def optV : Option Nat → Val
  | none => .non
  | some n => nv n
abbrev lettersV (l : List (Option Nat)) : Val := .tup (l.map optV)
abbrev tabV (l : List (List Nat)) : Val := .tup (l.map fun r => rowV r)
def takeV : Option (List Nat) → Val
  | none => .non
  | some r => rowV r
abbrev takesV (l : List (Option (List Nat))) : Val := .tup (l.map takeV)
abbrev givesV (l : List (List (Option Nat))) : Val := .tup (l.map fun r => lettersV r)
theorem rngV_len (j : Nat) : (rngV 0 (j : Int)).length = j := by simp [rngV]
theorem rngV_nv (j : Nat) : rngV 0 (j : Int) = (List.range j).map nv := by
  simp [rngV]
theorem rngV_get (j i : Nat) (h : i < j) : (rngV 0 (j : Int))[i]? = some (nv i) := by
  simp [rngV, h]
theorem inR_n {j : Nat} (h : j ≤ 1000) : inR (j : Int) = true := by
  unfold inR; simp only [Bool.and_eq_true, decide_eq_true_eq]; omega
@[simp] theorem ixR_r (e : Ev) (ρ : Env) (s : Store) : ixR e ρ s = (e ρ s).bind fun t s => match t with
  | .v (.int j) => if inR j then .ok ((fun _ => some (rngV 0 j)) : Its) s else .bad
  | _ => .bad := (rfl)
theorem fitR_n {i j : Nat} (hi : i ≤ 1000) (h : j ≤ 1000) : fitR (i : Int) (j : Int) = true := by
  unfold fitR LIM; simp only [Bool.and_eq_true, decide_eq_true_eq]; omega
theorem fitR_0 {j : Nat} (h : j ≤ 1000) : fitR 0 (j : Int) = true := fitR_n (i := 0) (Nat.zero_le _) h
theorem rep1 {α : Type} (k : Nat) (x : α) : (List.replicate k [x]).flatten = List.replicate k x := by
  induction k with
  | zero => rfl
  | succ k ih => rw [List.replicate_succ, List.flatten_cons, ih, List.replicate_succ]; rfl
theorem mulT {k : Nat} (h : k ≤ 1000) (x : Val) (s : Store) : oMul (.v (.tup [x])) (.v (nv k)) s = .ok (.v (.tup (List.replicate k x))) s := by
  rw [oMul_t, if_pos ⟨by omega, by omega, by simp, rfl⟩]
  rw [show ((k : Int)).toNat = k from rfl, rep1]
structure Snd where
  sends : List (Option Nat)
  ticks : List Nat
  hears : List (List Nat)
  takes : List (Option (List Nat))
  crashes : List Nat
structure Rcv where
  sends : List (Option Nat)
  ticks : List Nat
  hears : List (List Nat)
  gives : List (List (Option Nat))
  crashes : List Nat
abbrev sndV (S : Snd) : Val := .tup [lettersV S.sends, rowV S.ticks, tabV S.hears, takesV S.takes, rowV S.crashes]
abbrev rcvV (S : Rcv) : Val := .tup [lettersV S.sends, rowV S.ticks, tabV S.hears, givesV S.gives, rowV S.crashes]
/-- v values, f letters there, b letters back -/
structure SndOk (v f b : Nat) (S : Snd) : Prop where
  len : 1 ≤ S.sends.length ∧ S.sends.length ≤ 20
  sends : ∀ x, some x ∈ S.sends → x < f
  ticks : S.ticks.length = S.sends.length ∧ ∀ x ∈ S.ticks, x < S.sends.length
  hears : S.hears.length = S.sends.length ∧ ∀ r ∈ S.hears, r.length = b ∧ ∀ x ∈ r, x < S.sends.length
  takes : S.takes.length = S.sends.length ∧ (∀ r, some r ∈ S.takes → r.length = v ∧ ∀ x ∈ r, x < S.sends.length) ∧ ∃ r t, S.takes = some r :: t
  crashes : S.crashes.length = S.sends.length ∧ ∀ x ∈ S.crashes, x < S.sends.length
structure RcvOk (v f b : Nat) (S : Rcv) : Prop where
  len : 1 ≤ S.sends.length ∧ S.sends.length ≤ 20
  sends : ∀ x, some x ∈ S.sends → x < b
  ticks : S.ticks.length = S.sends.length ∧ ∀ x ∈ S.ticks, x < S.sends.length
  hears : S.hears.length = S.sends.length ∧ ∀ r ∈ S.hears, r.length = f ∧ ∀ x ∈ r, x < S.sends.length
  gives : S.gives.length = S.sends.length ∧ ∀ r ∈ S.gives, r.length = f ∧ ∀ x, some x ∈ r → x < v
  crashes : S.crashes.length = S.sends.length ∧ ∀ x ∈ S.crashes, x < S.sends.length
structure Raw where
  v : Nat
  f : Nat
  b : Nat
  S : Snd
  R : Rcv
def Raw.val (r : Raw) : Val := .tup [.tup [nv r.v, nv r.f, nv r.b], sndV r.S, rcvV r.R]
structure RawOk (r : Raw) : Prop where
  v : 1 ≤ r.v ∧ r.v ≤ 1000
  f : 1 ≤ r.f ∧ r.f ≤ 1000
  b : 1 ≤ r.b ∧ r.b ≤ 1000
  S : SndOk r.v r.f r.b r.S
  R : RcvOk r.v r.f r.b r.R
theorem slc_ref {k : Nat} {s : Store} {xs : List Val} (lo hi : Option Int) (h : seqOf (.v (.ref k)) s = some xs) : slc (.v (.ref k)) lo hi s = .ok (.l (cutV xs lo hi)) s := by
  unfold slc
  simp only [h]
theorem seqOf_new (s : Store) (xs : List Val) : seqOf (.v (.ref s.length)) (s ++ [.lst xs]) = some xs := by simp [seqOf]
theorem cutV_to (xs : List Val) (k : Nat) : cutV xs none (some (k : Int)) = xs.take k := by
  unfold cutV sIx
  simp only [Nat.sub_zero, List.drop_zero]
  rw [if_neg (by omega)]
  rw [show ((k : Int)).toNat = k from rfl, List.take_eq_take_min, List.take_eq_take_min (i := k)]
  congr 1
  omega
theorem cutV_from (xs : List Val) (k : Nat) : cutV xs (some (k : Int)) none = xs.drop k := by
  unfold cutV sIx
  simp only
  rw [if_neg (by omega), show ((k : Int)).toNat = k from rfl]
  by_cases h : k ≤ xs.length
  · rw [Nat.min_eq_left h, List.take_of_length_le (by simp)]
  · rw [Nat.min_eq_right (by omega), List.drop_of_length_le (Nat.le_refl _), List.drop_of_length_le (by omega)]
    simp
theorem add1 (r : Nat) : (1 : Int) + (r : Int) = ((r + 1 : Nat) : Int) := by omega
theorem mat_wp {t : Tv} {s : Store} {Q : Val → Store → Prop} : Wp (mat t s) Q ↔ match t with
  | .v x => Q x s
  | .l xs => Q (.ref s.length) (s ++ [.lst xs]) := by cases t <;> simp
end
section
set_option Elab.async false
set_option linter.all false
set_option maxRecDepth 100000
set_option maxHeartbeats 2000000
theorem eq_of_wp {α : Type} {r : Res α} {a : α} {s : Store} (h : Wp r fun b s' => b = a ∧ s' = s) : r = .ok a s := by
  obtain ⟨b, s', e, rfl, rfl⟩ := h
  exact e
@[simp] theorem itsOf_t (xs : List Val) (s : Store) : itsOf (.v (.tup xs)) s = some fun _ => some xs := (rfl)
@[simp] theorem itsOf_l (xs : List Val) (s : Store) : itsOf (.l xs) s = some fun _ => some xs := (rfl)
@[simp] theorem ixE_r (e : Ev) (ρ : Env) (s : Store) : ixE e ρ s = (e ρ s).bind fun t s => match itsOf t s with
  | some f => .ok f s
  | none => .bad := (rfl)
@[simp] theorem ixEnum_r (e : Ev) (ρ : Env) (s : Store) : ixEnum e ρ s = (e ρ s).bind fun t s => match itsOf t s with
  | some f => .ok ((fun s => (f s).map fun xs => numbered xs 0) : Its) s
  | none => .bad := (rfl)
theorem num_at : ∀ (xs : List Val) (j i : Nat), (numbered xs j)[i]? = (xs[i]?).map fun x => Val.tup [.int ((j + i : Nat)), x]
  | [], _, _ => by simp [numbered]
  | x :: r, j, 0 => by simp [numbered]
  | x :: r, j, i + 1 => by
    unfold numbered
    rw [List.getElem?_cons_succ, List.getElem?_cons_succ, num_at r (j + 1) i, Nat.add_right_comm, Nat.add_assoc]
theorem num_len : ∀ (xs : List Val) (j : Nat), (numbered xs j).length = xs.length
  | [], _ => rfl
  | x :: r, j => by unfold numbered; rw [List.length_cons, List.length_cons, num_len r]
/-- a comprehension that changes nothing -/
theorem comp_pure {ix : Ix} {xs : List Val} {g : Tgt} {own : List Nat} {e : Ev} {ρ : Env} {s : Store} (h : Val → Val) (hix : ix ρ s = .ok (fun _ => some xs) s) (hl : xs.length ≤ 1000000)
    (step : ∀ x, x ∈ xs → Wp (g x (wipe ρ own) s) fun ρ' s2 => s2 = s ∧ e ρ' s = .ok (.v (h x)) s) : eComp ix g own tYes e ρ s = .ok (.l (xs.map h)) s := by
  refine eq_of_wp (wp_comp hix (fun i acc s1 => s1 = s ∧ acc = (xs.take i).map h) (fun _ _ _ _ => rfl) ⟨rfl, by simp⟩ (fun i x acc s1 hx ⟨e1, e2⟩ => ?_) fun acc s1 ⟨e1, e2⟩ => ⟨by rw [e2, List.take_of_length_le (Nat.le_refl _)], e1⟩)
  subst e1
  have hi := (List.getElem?_eq_some_iff.mp hx).1
  refine (step x (List.mem_of_getElem? hx)).mono fun ρ' s2 ⟨e3, e4⟩ => ?_
  subst e3
  show Wp (Res.ok true s2) _
  simp only [wp_ok, if_true]
  rw [e4]
  simp only [wp_ok, mat_v]
  refine ⟨by rw [e2, List.length_map, List.length_take]; unfold LIM; omega, trivial, ?_⟩
  rw [e2, List.take_add_one, hx]
  simp
theorem all_true {xs : List Val} {h : Val → Val} (hh : ∀ x ∈ xs, h x = .bool true) (s : Store) : bAll (.l (xs.map h)) s = .ok (.v (.bool true)) s := by
  have : ∀ ys : List Val, (∀ x ∈ ys, h x = .bool true) → bools? (ys.map h) = some (List.replicate ys.length true) := fun ys => by
    induction ys with
    | nil => intro _; rfl
    | cons y ys ih =>
      intro hy
      rw [List.map_cons, hy y (List.mem_cons_self ..)]
      unfold bools?
      rw [ih fun x hx => hy x (List.mem_cons_of_mem _ hx)]
      rfl
  unfold bAll
  simp [this xs hh]
theorem is_below_nv {i m : Nat} (h : i < m) (s : Store) : F_is_below [nv i, nv m] s = .ok (.v (.bool true)) s := by
  rw [is_below_i]; simp; omega
theorem res_fn {np nl : Nat} {b : Sx} {vs : List Val} {s s' : Store} {x : Tv} (h : vs.length = np) (k : Wp (b (vs.map some ++ List.replicate (nl - np) none) s) fun r s1 => ∃ ρ, r = (.ret x, ρ) ∧ s1 = s') : fnOf np nl b vs s = .ok x s' := by
  apply eq_of_wp
  rw [wp_fnI h]
  refine k.mono fun r s1 ⟨ρ, e1, e2⟩ => ?_
  subst e1
  exact ⟨rfl, e2⟩
theorem is_row_ok {l : List Nat} {m : Nat} (hl : l.length ≤ 1000) (h : ∀ x ∈ l, x < m) (s : Store) : F_is_row [rowV l, nv l.length, nv m] s = .ok (.v (.bool true)) s := by
  apply eq_of_wp
  rw [F_is_row, wp_fn3]
  simp [B_is_row]
  rw [comp_pure (xs := l.map nv) (fun _ => .bool true) (by simp) (by simp; omega) (fun x hx => ?_)]
  · simp only [wp_ok]
    rw [all_true (fun _ _ => rfl)]
    simp
  · obtain ⟨i, hi, rfl⟩ := List.mem_map.mp hx
    simp [wipe, is_below_nv (h i hi)]
theorem is_given_ok {l : List (Option Nat)} {m : Nat} (hl : l.length ≤ 1000) (h : ∀ x, some x ∈ l → x < m) (s : Store) : F_is_given [lettersV l, nv l.length, nv m] s = .ok (.v (.bool true)) s := by
  apply eq_of_wp
  rw [F_is_given, wp_fn3]
  simp [B_is_given]
  rw [comp_pure (xs := l.map optV) (fun _ => .bool true) (by simp) (by simp; omega) (fun x hx => ?_)]
  · simp only [wp_ok]
    rw [all_true (fun _ _ => rfl)]
    simp
  · obtain ⟨o, ho, rfl⟩ := List.mem_map.mp hx
    cases o with
    | none => simp [wipe, optV]
    | some i => simp [wipe, optV, is_below_nv (h i ho)]
theorem checked_ok {L : Val → Store → Res Tv} {nm st : Val} {xs : List Val} {s : Store} (hne : xs ≠ []) (hst : st = .non ∨ st = nv xs.length) (hl : xs.length ≤ 1000) (hL : ∀ x ∈ xs, L x s = .ok (.v (.bool true)) s) : F_checked L [nm, .tup xs, st] s = .ok (.v (.tup xs)) s := by
  apply eq_of_wp
  rw [F_checked, wp_fn3]
  have h0 : ¬ ((xs.length : Int) = 0) := by
    have := List.length_pos_iff.mpr hne
    omega
  have test : Wp ((tOr (VI.tNot (tB (eB1 (bIs [0, 1, 2] .lot) (eV 1)))) (tOr (tB (eBin cEq (eB1 bLen (eV 1)) (eC (.int 0)))) (tAnd (tB (eBin cNotN (eV 2) (eC .non))) (tB (eBin cNe (eB1 bLen (eV 1)) (eV 2))))))
      (some nm :: some (.tup xs) :: some st :: List.replicate (6 - 3) none) s) fun b s' => b = false ∧ s' = s := by
    rcases hst with rfl | rfl <;> simp [hne]
  unfold B_checked
  rw [sSeq_r, wp_bind, sIf_r, wp_bind]
  refine test.mono fun b s' ⟨e1, e2⟩ => ?_
  subst e1 e2
  simp only [Bool.false_eq_true, if_false, sNop_r, wp_ok]
  rw [sSeq_r, wp_bind]
  refine Wp.mono (wp_for (its := fun s => ((fun _ => some xs) s).map fun xs => numbered xs 0) (xs := numbered xs 0) (s1 := s') (by simp)
    (fun i ρ s1 => s1 = s' ∧ ∃ a b, ρ = [some nm, some (.tup xs), some st, none, a, b]) (fun _ _ _ _ => rfl) ⟨rfl, none, none, rfl⟩ (fun i x ρ s1 hx ⟨e, a, b, e2⟩ => ?_) (Q := fun r s1 => s1 = s' ∧ ∃ a b, r = (.next, [some nm, some (.tup xs), some st, none, a, b])) fun ρ s1 ⟨e, a, b, e2⟩ => ⟨e, a, b, by rw [e2]⟩) fun r s1 ⟨e, a, b, e2⟩ => ?_
  · subst e e2
    rw [num_at] at hx
    obtain ⟨y, hy, rfl⟩ := Option.map_eq_some_iff.mp hx
    have hm := hL y (List.mem_of_getElem? hy)
    simp [eLamC, hm]
  · subst e e2
    simp
theorem eCallL_r {F : (Val → Store → Res Tv) → Fn} {a : Avs} {js : List Nat} {Lb : Ev} {ρ : Env} {s : Store} {is : List Int} (h : capI ρ js = some is) : eCallL F a js Lb ρ s = (a ρ s).bind fun xs s => F (fun x s => Lb (some x :: is.map fun i => some (.int i)) s) xs s := by
  unfold eCallL; rw [h]
theorem sends_ok {l : List (Option Nat)} {m : Nat} (h0 : l ≠ []) (hl : l.length ≤ 1000) (h : ∀ x, some x ∈ l → x < m) (s : Store) : F_checked_sends [lettersV l, nv m] s = .ok (.v (lettersV l)) s := by
  apply eq_of_wp
  rw [F_checked_sends, wp_fn2]
  unfold B_checked_sends
  rw [sRet_r, wp_bind, eCallL_r (is := [(m : Int)]) rfl]
  simp only [aCons_r, eC_r, eV_r, aNil_r, bind_ok, mat_v, List.getElem?_cons_zero]
  rw [checked_ok (by simpa using h0) (.inl rfl) (by simpa using hl) fun x hx => ?_]
  · simp
  · obtain ⟨o, ho, rfl⟩ := List.mem_map.mp hx
    cases o with
    | none => simp [optV]
    | some i => simp [optV, is_below_nv (h i ho)]
theorem states_ok {l : List Nat} {m : Nat} {nm : Val} (h0 : l ≠ []) (hm : l.length = m) (hl : l.length ≤ 1000) (h : ∀ x ∈ l, x < m) (s : Store) : F_checked_states [nm, rowV l, nv m] s = .ok (.v (rowV l)) s := by
  apply eq_of_wp
  rw [F_checked_states, wp_fn3]
  unfold B_checked_states
  rw [sRet_r, wp_bind, eCallL_r (is := [(m : Int)]) rfl]
  simp only [aCons_r, eC_r, eV_r, aNil_r, bind_ok, mat_v, List.getElem?_cons_zero, List.getElem?_cons_succ]
  rw [checked_ok (by simpa using h0) (.inr (by simp [hm])) (by simpa using hl) fun x hx => ?_]
  · simp
  · obtain ⟨i, hi, rfl⟩ := List.mem_map.mp hx
    simp [is_below_nv (h i hi)]
theorem hears_ok {l : List (List Nat)} {w m : Nat} (h0 : l ≠ []) (hm : l.length = m) (hl : l.length ≤ 1000) (hw : w ≤ 1000) (h : ∀ r ∈ l, r.length = w ∧ ∀ x ∈ r, x < m) (s : Store) : F_checked_hears [tabV l, nv w, nv m] s = .ok (.v (tabV l)) s := by
  apply eq_of_wp
  rw [F_checked_hears, wp_fn3]
  unfold B_checked_hears
  rw [sRet_r, wp_bind, eCallL_r (is := [(w : Int), (m : Int)]) rfl]
  simp only [aCons_r, eC_r, eV_r, aNil_r, bind_ok, mat_v, List.getElem?_cons_zero, List.getElem?_cons_succ]
  rw [checked_ok (by simpa using h0) (.inr (by simp [hm])) (by simpa using hl) fun x hx => ?_]
  · simp
  · obtain ⟨r, hr, rfl⟩ := List.mem_map.mp hx
    obtain ⟨h1, h2⟩ := h r hr
    subst h1
    simp only [eCall_r, aCons_r, eC_r, eV_r, aNil_r, bind_ok, mat_v, List.getElem?_cons_zero, List.getElem?_cons_succ, List.map_cons, List.map_nil]
    exact is_row_ok hw h2 _
theorem takes_ok {l : List (Option (List Nat))} {w m : Nat} (hm : l.length = m) (hl : l.length ≤ 1000) (hw : w ≤ 1000) (h : ∀ r, some r ∈ l → r.length = w ∧ ∀ x ∈ r, x < m) (h1 : ∃ r t, l = some r :: t) (s : Store) : F_checked_takes [takesV l, nv w, nv m] s = .ok (.v (takesV l)) s := by
  apply eq_of_wp
  rw [F_checked_takes, wp_fn3]
  unfold B_checked_takes
  have h0 : l ≠ [] := by obtain ⟨r, t, rfl⟩ := h1; simp
  have test : Wp ((tAnd (tB (eB1 (bIs [0, 1, 2] .lot) (eV 0))) (tAnd (tB (eBin cEq (eB1 bLen (eV 0)) (eV 2))) (tB (eBin cIsN (eBin oIdx (eV 0) (eC (.int 0))) (eC .non)))))
      (some (takesV l) :: some (nv w) :: some (nv m) :: List.replicate (3 - 3) none) s) fun b s' => b = false ∧ s' = s := by
    obtain ⟨r, t, rfl⟩ := h1
    subst hm
    simp [takeV]
  rw [sSeq_r, wp_bind, sIf_r, wp_bind]
  refine test.mono fun b s' ⟨e1, e2⟩ => ?_
  subst e1 e2
  simp only [Bool.false_eq_true, if_false, sNop_r, wp_ok]
  rw [sRet_r, wp_bind, eCallL_r (is := [(w : Int), (m : Int)]) rfl]
  simp only [aCons_r, eC_r, eV_r, aNil_r, bind_ok, mat_v, List.getElem?_cons_zero, List.getElem?_cons_succ]
  rw [checked_ok (by simpa using h0) (.inr (by simp [hm])) (by simpa using hl) fun x hx => ?_]
  · simp
  · obtain ⟨o, ho, rfl⟩ := List.mem_map.mp hx
    cases o with
    | none => simp [takeV]
    | some r =>
      obtain ⟨h1, h2⟩ := h r ho
      subst h1
      simp [takeV]
      exact is_row_ok hw h2 _
theorem pos_ok {n : Nat} (h : 1 ≤ n) (s : Store) : F_require_positive [nv n] s = .ok (.v .non) s := by
  apply eq_of_wp
  rw [F_require_positive, wp_fn1]
  simp [B_require_positive, show ¬ (n : Int) < 1 by omega]
end
section
set_option Elab.async false
set_option linter.all false
set_option maxRecDepth 100000
set_option maxHeartbeats 2000000
abbrev sndF (R : Raw) : List (Nat × Val) := [(91, nv R.v), (28, nv R.f), (14, nv R.b), (78, lettersV R.S.sends), (87, rowV R.S.ticks), (34, tabV R.S.hears), (84, takesV R.S.takes), (20, rowV R.S.crashes)]
abbrev rcvF (R : Raw) : List (Nat × Val) := [(91, nv R.v), (28, nv R.f), (14, nv R.b), (78, lettersV R.R.sends), (87, rowV R.R.ticks), (34, tabV R.R.hears), (29, givesV R.R.gives), (20, rowV R.R.crashes)]
theorem refI_new (cs : List Nat) (c : Nat) (fs : List (Nat × Val)) (s : Store) (h : cs.contains c = true) : refI cs (.v (.ref s.length)) (s ++ [.ins c fs]) = some (s.length, c, fs) := by simp [refI, h] at *; exact h
theorem set_new (s : Store) (o o' : Ob) : (s ++ [o]).set s.length o' = s ++ [o'] := by simp
theorem sFld_r (cs : List Nat) (o : Ev) (f : Nat) (e : Ev) (ρ : Env) (s : Store) : sFld cs o f e ρ s = (e ρ s).bind fun t s => (mat t s).bind fun y s => (o ρ s).bind fun x s => match refI cs x s with
  | some (n, c, fs) => if fs.length < 1000 then .ok (.next, ρ) (s.set n (.ins c (putF f y fs))) else .bad
  | none => .bad := (rfl)
theorem fldOf_new (cs : List Nat) (c f : Nat) (fs : List (Nat × Val)) (s : Store) (h : cs.contains c = true) : fldOf cs (.v (.ref s.length)) f (s ++ [.ins c fs]) = fs.lookup f := by simp [fldOf, h] at *; intro hh; exact absurd h hh
/-- one field is set on the new instance -/
theorem fld_step {cs : List Nat} {f : Nat} {e : Ev} {ρ : Env} {s : Store} {c : Nat} {fs : List (Nat × Val)} {y : Val} {Q : Fl × Env → Store → Prop} (hs : ρ[0]? = some (some (.ref s.length))) (hc : cs.contains c = true) (hl : fs.length < 1000) (he : e ρ (s ++ [.ins c fs]) = .ok (.v y) (s ++ [.ins c fs]))
    (h : Q (.next, ρ) (s ++ [.ins c (putF f y fs)])) : Wp (sFld cs (eV 0) f e ρ (s ++ [.ins c fs])) Q := by
  rw [sFld_r, he]
  simp only [bind_ok, mat_v, eV_r, hs, refI_new _ _ _ _ hc, if_pos hl, set_new, wp_ok]
  exact h
theorem seq_step {a b : Sx} {ρ : Env} {s : Store} {Q : Fl × Env → Store → Prop} (h : Wp (a ρ s) fun r s => match r with
  | (.next, ρ) => Wp (b ρ s) Q
  | r => Q r s) : Wp (sSeq a b ρ s) Q := by
  rw [sSeq_r, wp_bind]
  refine h.mono fun r s h => ?_
  obtain ⟨f, ρ⟩ := r
  cases f with
  | next => exact h
  | brk => exact (wp_ok _ _).mpr h
  | ret t => exact (wp_ok _ _).mpr h
theorem pos_loop {i j : Nat} {v f b : Nat} {ρ : Env} {s : Store} (hv : 1 ≤ v) (hf : 1 ≤ f) (hb : 1 ≤ b) (h1 : ρ[1]? = some (some (nv v))) (h2 : ρ[2]? = some (some (nv f))) (h3 : ρ[3]? = some (some (nv b))) (hl : 9 < ρ.length) :
    Wp (sFor (ixE (eTup (aCons (eV 1) (aCons (eV 2) (aCons (eV 3) aNil))))) (gV 9) (sExp (eCall F_require_positive (aCons (eV 9) aNil))) ρ s) fun r s' => s' = s ∧ ∃ x, r = (.next, ρ.set 9 x) := by
  refine wp_for (its := fun _ => some [nv v, nv f, nv b]) (xs := [nv v, nv f, nv b]) (s1 := s) (by simp [h1, h2, h3]) (fun i ρ' s' => s' = s ∧ ∃ x, ρ' = ρ.set 9 x) (fun _ _ _ _ => rfl) ⟨rfl, ρ[9], by simp⟩ (fun i x ρ' s' hx ⟨e, y, e2⟩ => ?_) fun ρ' s' ⟨e, y, e2⟩ => ⟨e, y, by rw [e2]⟩
  subst e e2
  have hp : ∃ n : Nat, 1 ≤ n ∧ x = nv n := by
    have := List.mem_of_getElem? hx
    simp at this
    rcases this with rfl | rfl | rfl
    · exact ⟨v, hv, rfl⟩
    · exact ⟨f, hf, rfl⟩
    · exact ⟨b, hb, rfl⟩
  obtain ⟨n, hn, rfl⟩ := hp
  simp [hl, pos_ok hn]
  exact ⟨_, rfl⟩
theorem snd_init {R : Raw} (h : RawOk R) (s : Store) : F_Sender___init__ [.ref s.length, nv R.v, nv R.f, nv R.b, lettersV R.S.sends, rowV R.S.ticks, tabV R.S.hears, takesV R.S.takes, rowV R.S.crashes] (s ++ [.ins 0 []]) = .ok (.v .non) (s ++ [.ins 0 (sndF R)]) := by
  have hS := h.S
  have n0 : R.S.sends ≠ [] := by intro e; have := hS.len.1; rw [e] at this; simp at this
  apply eq_of_wp
  rw [F_Sender___init__, wp_fnI (np := 9) rfl]
  unfold B_Sender___init__
  refine seq_step ((pos_loop h.v.1 h.f.1 h.b.1 rfl rfl rfl (by simp) (i := 0) (j := 0)).mono fun r s' ⟨e, x, e2⟩ => ?_)
  subst e e2
  simp only [List.map_cons, List.map_nil, List.cons_append, List.nil_append, List.set_cons_succ, List.set_cons_zero, Nat.reduceSub, List.replicate]
  refine seq_step (fld_step rfl rfl (by simp [putF]) (y := nv R.v) (by simp) ?_)
  refine seq_step (fld_step rfl rfl (by simp [putF]) (y := nv R.f) (by simp) ?_)
  refine seq_step (fld_step rfl rfl (by simp [putF]) (y := nv R.b) (by simp) ?_)
  refine seq_step (fld_step rfl rfl (by simp [putF]) (y := lettersV R.S.sends) (by simp [sends_ok n0 (Nat.le_trans hS.len.2 (by decide)) hS.sends]) ?_)
  refine seq_step ?_
  have hlk : fldOf [0, 1] (.v (.ref s.length)) 78 (s ++ [.ins 0 (putF 78 (lettersV R.S.sends) (putF 14 (nv R.b) (putF 28 (nv R.f) (putF 91 (nv R.v) []))))]) = some (lettersV R.S.sends) := by
    rw [fldOf_new _ _ _ _ _ rfl]; simp [putF, List.lookup]
  simp only [sAsg_r, eB1_r, eFld_r, eV_r, bind_ok, List.getElem?_cons_zero, hlk, bLen_r, seqOf_t, mat_v, gV_r, wp_ok, List.length_map, List.set_cons_succ, List.set_cons_zero]
  have nt : R.S.ticks ≠ [] := by intro e; have h1 := hS.ticks.1; have := hS.len.1; rw [e] at h1; simp at h1; omega
  have nh : R.S.hears ≠ [] := by intro e; have h1 := hS.hears.1; have := hS.len.1; rw [e] at h1; simp at h1; omega
  have nc : R.S.crashes ≠ [] := by intro e; have h1 := hS.crashes.1; have := hS.len.1; rw [e] at h1; simp at h1; omega
  have b1 : R.S.ticks.length ≤ 1000 := by rw [hS.ticks.1]; exact (Nat.le_trans hS.len.2 (by decide))
  have b2 : R.S.hears.length ≤ 1000 := by rw [hS.hears.1]; exact (Nat.le_trans hS.len.2 (by decide))
  have b3 : R.S.takes.length ≤ 1000 := by rw [hS.takes.1]; exact (Nat.le_trans hS.len.2 (by decide))
  have b4 : R.S.crashes.length ≤ 1000 := by rw [hS.crashes.1]; exact (Nat.le_trans hS.len.2 (by decide))
  refine seq_step (fld_step rfl rfl (by simp [putF]) (y := rowV R.S.ticks) (by simp [states_ok nt hS.ticks.1 b1 hS.ticks.2]) ?_)
  refine seq_step (fld_step rfl rfl (by simp [putF]) (y := tabV R.S.hears) (by simp [hears_ok nh hS.hears.1 b2 h.b.2 hS.hears.2]) ?_)
  refine seq_step (fld_step rfl rfl (by simp [putF]) (y := takesV R.S.takes) (by simp [takes_ok hS.takes.1 b3 h.v.2 hS.takes.2.1 hS.takes.2.2]) ?_)
  refine fld_step rfl rfl (by simp [putF]) (y := rowV R.S.crashes) (by simp [states_ok nc hS.crashes.1 b4 hS.crashes.2]) ?_
  refine ⟨rfl, ?_⟩
  simp [putF]
theorem rcv_init {R : Raw} (h : RawOk R) (s : Store) : F_Receiver___init__ [.ref s.length, nv R.v, nv R.f, nv R.b, lettersV R.R.sends, rowV R.R.ticks, tabV R.R.hears, givesV R.R.gives, rowV R.R.crashes] (s ++ [.ins 1 []]) = .ok (.v .non) (s ++ [.ins 1 (rcvF R)]) := by
  have hS := h.R
  have n0 : R.R.sends ≠ [] := by intro e; have := hS.len.1; rw [e] at this; simp at this
  apply eq_of_wp
  rw [F_Receiver___init__, wp_fnI (np := 9) rfl]
  unfold B_Receiver___init__
  refine seq_step ((pos_loop h.v.1 h.f.1 h.b.1 rfl rfl rfl (by simp) (i := 0) (j := 0)).mono fun r s' ⟨e, x, e2⟩ => ?_)
  subst e e2
  simp only [List.map_cons, List.map_nil, List.cons_append, List.nil_append, List.set_cons_succ, List.set_cons_zero, Nat.reduceSub, List.replicate]
  refine seq_step (fld_step rfl rfl (by simp [putF]) (y := nv R.v) (by simp) ?_)
  refine seq_step (fld_step rfl rfl (by simp [putF]) (y := nv R.f) (by simp) ?_)
  refine seq_step (fld_step rfl rfl (by simp [putF]) (y := nv R.b) (by simp) ?_)
  refine seq_step (fld_step rfl rfl (by simp [putF]) (y := lettersV R.R.sends) (by simp [sends_ok n0 (Nat.le_trans hS.len.2 (by decide)) hS.sends]) ?_)
  refine seq_step ?_
  have hlk : fldOf [0, 1] (.v (.ref s.length)) 78 (s ++ [.ins 1 (putF 78 (lettersV R.R.sends) (putF 14 (nv R.b) (putF 28 (nv R.f) (putF 91 (nv R.v) []))))]) = some (lettersV R.R.sends) := by
    rw [fldOf_new _ _ _ _ _ rfl]; simp [putF, List.lookup]
  simp only [sAsg_r, eB1_r, eFld_r, eV_r, bind_ok, List.getElem?_cons_zero, hlk, bLen_r, seqOf_t, mat_v, gV_r, wp_ok, List.length_map, List.set_cons_succ, List.set_cons_zero]
  have nt : R.R.ticks ≠ [] := by intro e; have h1 := hS.ticks.1; have := hS.len.1; rw [e] at h1; simp at h1; omega
  have nh : R.R.hears ≠ [] := by intro e; have h1 := hS.hears.1; have := hS.len.1; rw [e] at h1; simp at h1; omega
  have nc : R.R.crashes ≠ [] := by intro e; have h1 := hS.crashes.1; have := hS.len.1; rw [e] at h1; simp at h1; omega
  have ng : R.R.gives ≠ [] := by intro e; have h1 := hS.gives.1; have := hS.len.1; rw [e] at h1; simp at h1; omega
  have b1 : R.R.ticks.length ≤ 1000 := by rw [hS.ticks.1]; exact (Nat.le_trans hS.len.2 (by decide))
  have b2 : R.R.hears.length ≤ 1000 := by rw [hS.hears.1]; exact (Nat.le_trans hS.len.2 (by decide))
  have b3 : R.R.gives.length ≤ 1000 := by rw [hS.gives.1]; exact (Nat.le_trans hS.len.2 (by decide))
  have b4 : R.R.crashes.length ≤ 1000 := by rw [hS.crashes.1]; exact (Nat.le_trans hS.len.2 (by decide))
  refine seq_step (fld_step rfl rfl (by simp [putF]) (y := rowV R.R.ticks) (by simp [states_ok nt hS.ticks.1 b1 hS.ticks.2]) ?_)
  refine seq_step (fld_step rfl rfl (by simp [putF]) (y := tabV R.R.hears) (by simp [hears_ok nh hS.hears.1 b2 h.f.2 hS.hears.2]) ?_)
  refine seq_step (fld_step rfl rfl (by simp [putF]) (y := givesV R.R.gives) ?_ ?_)
  · rw [eCallL_r (is := [(R.f : Int), (R.v : Int)]) rfl]
    simp only [aCons_r, eC_r, eV_r, aNil_r, bind_ok, mat_v, List.getElem?_cons_zero, List.getElem?_cons_succ]
    rw [checked_ok (by simpa using ng) (.inr (by simp [hS.gives.1])) (by simpa using b3) fun x hx => ?_]
    obtain ⟨r, hr, rfl⟩ := List.mem_map.mp hx
    obtain ⟨h1, h2⟩ := hS.gives.2 r hr
    simp only [eCall_r, aCons_r, eC_r, eV_r, aNil_r, bind_ok, mat_v, List.getElem?_cons_zero, List.getElem?_cons_succ, List.map_cons, List.map_nil]
    have := is_given_ok (l := r) (m := R.v) (by rw [h1]; exact h.f.2) h2
    rw [h1] at this
    exact this _
  refine fld_step rfl rfl (by simp [putF]) (y := rowV R.R.crashes) (by simp [states_ok nc hS.crashes.1 b4 hS.crashes.2]) ?_
  refine ⟨rfl, ?_⟩
  simp [putF]
end
section
set_option Elab.async false
set_option linter.all false
set_option maxRecDepth 100000
set_option maxHeartbeats 2000000
mutual
theorem eqv_refl : ∀ d : Dt, Dt.eqv d d = true
  | .non => by simp [Dt.eqv]
  | .bool b => by simp [Dt.eqv]
  | .int i => by simp [Dt.eqv]
  | .str k => by simp [Dt.eqv]
  | .lst l => by simp only [Dt.eqv]; exact eqvAll_refl l
  | .tup l => by simp only [Dt.eqv]; exact eqvAll_refl l
theorem eqvAll_refl : ∀ l : List Dt, Dt.eqvAll l l = true
  | [] => by simp [Dt.eqvAll]
  | d :: l => by simp only [Dt.eqvAll, eqv_refl d, eqvAll_refl l, Bool.and_self]
end
def Pl (n : Nat) (v : Val) : Prop := ∃ d, ∀ s, toD s n v = some d
theorem pl_int (n : Nat) (i : Int) : Pl n (.int i) := ⟨_, fun s => toD_int n i⟩
theorem pl_str (n : Nat) (i : Nat) : Pl n (.str i) := ⟨_, fun s => toD_str n i⟩
theorem pl_non (n : Nat) : Pl n .non := ⟨_, fun s => toD_non n⟩
theorem pl_all {n : Nat} : ∀ {l : List Val}, (∀ x ∈ l, Pl n x) → ∃ ds, ∀ s, mapO (toD s n) l = some ds
  | [], _ => ⟨[], fun _ => rfl⟩
  | x :: l, h => by
    obtain ⟨d, hd⟩ := h x (List.mem_cons_self ..)
    obtain ⟨ds, hds⟩ := pl_all fun y hy => h y (List.mem_cons_of_mem x hy)
    refine ⟨d :: ds, fun s => ?_⟩
    unfold mapO
    rw [hd s, hds s]
theorem pl_tup {n : Nat} {l : List Val} (h : ∀ x ∈ l, Pl n x) : Pl (n + 1) (.tup l) := by
  obtain ⟨ds, hds⟩ := pl_all h
  refine ⟨.tup ds, fun s => ?_⟩
  show (mapO (toD s n) l).map Dt.tup = _
  rw [hds s]
  rfl
theorem eqT_pl {v : Val} (h : Pl 20 v) (s : Store) : eqT (.v v) (.v v) s = some true := by
  obtain ⟨d, hd⟩ := h
  unfold eqT tvD
  simp only [DEEP, hd s, eqv_refl]
theorem eqT_pls {l : List Val} (h : ∀ x ∈ l, Pl 20 x) (s : Store) : eqT (.l l) (.l l) s = some true := by
  obtain ⟨ds, hds⟩ := pl_all h
  unfold eqT tvD toDs
  simp only [DEEP, hds s, Option.map_some, eqv_refl]
theorem pl_opt (n : Nat) (o : Option Nat) : Pl n (optV o) := by cases o; exact pl_non n; exact pl_int n _
theorem pl_row (n : Nat) (l : List Nat) : Pl (n + 1) (rowV l) := pl_tup fun x hx => by obtain ⟨i, _, rfl⟩ := List.mem_map.mp hx; exact pl_int n _
theorem pl_letters (n : Nat) (l : List (Option Nat)) : Pl (n + 1) (lettersV l) := pl_tup fun x hx => by obtain ⟨i, _, rfl⟩ := List.mem_map.mp hx; exact pl_opt n _
theorem pl_tab (n : Nat) (l : List (List Nat)) : Pl (n + 2) (tabV l) := pl_tup fun x hx => by obtain ⟨i, _, rfl⟩ := List.mem_map.mp hx; exact pl_row n _
theorem pl_takes (n : Nat) (l : List (Option (List Nat))) : Pl (n + 2) (takesV l) := pl_tup fun x hx => by
  obtain ⟨o, _, rfl⟩ := List.mem_map.mp hx
  cases o
  · exact pl_non _
  · exact pl_row n _
theorem pl_gives (n : Nat) (l : List (List (Option Nat))) : Pl (n + 2) (givesV l) := pl_tup fun x hx => by obtain ⟨i, _, rfl⟩ := List.mem_map.mp hx; exact pl_letters n _
theorem eMkK_r (c : Nat) (F : Fn) (is : List Nat) (a b : Avs) (ρ : Env) (s : Store) : eMkK c F is a b ρ s = (a ρ s).bind fun xs s => (b ρ s).bind fun ys s => (F (pick is (.ref s.length :: xs ++ ys)) (s ++ [.ins c []])).bind fun r s' => match r with
  | .v .non => .ok (.v (.ref s.length)) s'
  | _ => .bad := (rfl)
theorem eMk_r (c : Nat) (F : Fn) (a : Avs) (ρ : Env) (s : Store) : eMk c F a ρ s = (a ρ s).bind fun xs s => (F (.ref s.length :: xs) (s ++ [.ins c []])).bind fun r s' => match r with
  | .v .non => .ok (.v (.ref s.length)) s'
  | _ => .bad := (rfl)
theorem isTy_ins (ty : Ty) {k c : Nat} {fs : List (Nat × Val)} {s : Store} (h : s[k]? = some (.ins c fs)) (hc : [0, 1, 2].contains c = true) : isTy [0, 1, 2] ty (.v (.ref k)) s = some (insB ty c) := by
  unfold isTy
  simp only [h, if_pos hc]
theorem fldOf_at {cs : List Nat} {f k c : Nat} {fs : List (Nat × Val)} {s : Store} (h : s[k]? = some (.ins c fs)) (hc : cs.contains c = true) : fldOf cs (.v (.ref k)) f s = fs.lookup f := by
  unfold fldOf
  simp only [h, if_pos hc]
abbrev sndT (R : Raw) : Val := .tup [nv R.v, nv R.f, nv R.b, lettersV R.S.sends, rowV R.S.ticks, tabV R.S.hears, takesV R.S.takes, rowV R.S.crashes]
abbrev rcvT (R : Raw) : Val := .tup [nv R.v, nv R.f, nv R.b, lettersV R.R.sends, rowV R.R.ticks, tabV R.R.hears, givesV R.R.gives, rowV R.R.crashes]
theorem snd_tables {R : Raw} {k : Nat} {s : Store} (h : s[k]? = some (.ins 0 (sndF R))) : F_Sender_tables [.ref k] s = .ok (.v (sndT R)) s := by
  apply eq_of_wp
  rw [F_Sender_tables, wp_fn1]
  have hf : ∀ cs f, cs.contains 0 = true → fldOf cs (.v (.ref k)) f s = (sndF R).lookup f := fun cs f hc => fldOf_at h hc
  simp [B_Sender_tables, hf, List.lookup]
theorem rcv_tables {R : Raw} {k : Nat} {s : Store} (h : s[k]? = some (.ins 1 (rcvF R))) : F_Receiver_tables [.ref k] s = .ok (.v (rcvT R)) s := by
  apply eq_of_wp
  rw [F_Receiver_tables, wp_fn1]
  have hf : ∀ cs f, cs.contains 1 = true → fldOf cs (.v (.ref k)) f s = (rcvF R).lookup f := fun cs f hc => fldOf_at h hc
  simp [B_Receiver_tables, hf, List.lookup]
@[simp] theorem eMeth_r (c m : Nat) (F : Fn) (e : Ev) (a : Avs) (ρ : Env) (s : Store) : eMeth c m F e a ρ s = (e ρ s).bind fun x s => match x with
  | .v o => if isCls o c m s = true then (a ρ s).bind fun xs s => F (o :: xs) s else .bad
  | _ => .bad := (rfl)
theorem isCls_at {k c m : Nat} {fs : List (Nat × Val)} {s : Store} (h : s[k]? = some (.ins c fs)) (hm : (fs.lookup m).isNone = true) : isCls (.ref k) c m s = true := by
  unfold isCls
  simp only [h]
  simpa using hm
theorem pair_init {R R' : Raw} {i j : Nat} {s : Store} (hi : s[i]? = some (.ins 0 (sndF R))) (hj : s[j]? = some (.ins 1 (rcvF R'))) (hv : R'.v = R.v) (hf : R'.f = R.f) (hb : R'.b = R.b) :
    F_Pair___init__ [.ref s.length, .ref i, .ref j] (s ++ [.ins 2 []]) = .ok (.v .non) (s ++ [.ins 2 [(77, .ref i), (72, .ref j)]]) := by
  have li : i < s.length := (List.getElem?_eq_some_iff.mp hi).1
  have lj : j < s.length := (List.getElem?_eq_some_iff.mp hj).1
  have hi' : ∀ o, (s ++ [o])[i]? = some (.ins 0 (sndF R)) := fun o => by rw [List.getElem?_append_left li]; exact hi
  have hj' : ∀ o, (s ++ [o])[j]? = some (.ins 1 (rcvF R')) := fun o => by rw [List.getElem?_append_left lj]; exact hj
  have c1 : cutV [nv R.v, nv R.f, nv R.b, lettersV R.S.sends, rowV R.S.ticks, tabV R.S.hears, takesV R.S.takes, rowV R.S.crashes] none (some 3) = [nv R.v, nv R.f, nv R.b] := rfl
  have c2 : cutV [nv R.v, nv R.f, nv R.b, lettersV R'.R.sends, rowV R'.R.ticks, tabV R'.R.hears, givesV R'.R.gives, rowV R'.R.crashes] none (some 3) = [nv R.v, nv R.f, nv R.b] := rfl
  have pl : Pl 20 (.tup [nv R.v, nv R.f, nv R.b]) := pl_tup (n := 19) fun x hx => by simp at hx; rcases hx with rfl | rfl | rfl <;> exact pl_int _ _
  have last : Wp (sSeq (sFld [2, 14] (eV 0) 77 (eV 1)) (sFld [2, 14] (eV 0) 72 (eV 2)) [some (Val.ref s.length), some (.ref i), some (.ref j)] (s ++ [.ins 2 []])) (FinQ fun b s' => b = Tv.v Val.non ∧ s' = s ++ [Ob.ins 2 [(77, Val.ref i), (72, Val.ref j)]]) := by
    refine seq_step (fld_step rfl rfl (by simp) (y := .ref i) (by simp) ?_)
    refine fld_step rfl rfl (by simp [putF]) (y := .ref j) (by simp) ?_
    exact ⟨rfl, by simp [putF]⟩
  apply eq_of_wp
  rw [F_Pair___init__, wp_fn3]
  unfold B_Pair___init__
  refine seq_step ?_
  simp only [sIf_r, tNot_r, tB_r, eB1_r, eV_r, bind_ok, bIs_r, List.getElem?_cons_succ, List.getElem?_cons_zero, isTy_ins _ (hi' _) rfl, insB, ans_s, wp_ok, Bool.not_true, Bool.false_eq_true, if_false, sNop_r, BEq.rfl, beq_self_eq_true]
  refine seq_step ?_
  simp only [sIf_r, tNot_r, tB_r, eB1_r, eV_r, bind_ok, bIs_r, List.getElem?_cons_succ, List.getElem?_cons_zero, isTy_ins _ (hj' _) rfl, insB, ans_s, wp_ok, Bool.not_true, Bool.false_eq_true, if_false, sNop_r, BEq.rfl, beq_self_eq_true]
  refine seq_step ?_
  simp only [sIf_r, tB_r, eBin_r, eSl_r, eMeth_r, aNil_r, eV_r, bind_ok, List.getElem?_cons_succ, List.getElem?_cons_zero, isCls_at (hi' _) (m := 83) rfl, isCls_at (hj' _) (m := 83) rfl, if_true, snd_tables (hi' _), rcv_tables (hj' _), optI_n, optI_s, eC_r, slc_t, c1, c2, hv, hf, hb, cNe_r, eqT_pl pl, Option.map_some, Bool.not_true, ans_s, wp_ok, Bool.false_eq_true, if_false, sNop_r, Nat.sub_self, List.replicate_zero]
  exact last
end
section
set_option Elab.async false
set_option linter.all false
set_option maxRecDepth 100000
set_option maxHeartbeats 4000000
structure St where
  a : Nat
  b : Nat
  th : List Nat
  bk : List Nat
def St.val (t : St) : Val := .tup [nv t.a, nv t.b, rowV t.th, rowV t.bk]
inductive Dd where
  | hand (v : Nat) | send | answer | passF | passB | loseF (i : Nat) | loseB (i : Nat) | crashS | crashR
def Dd.val : Dd → Val
  | .hand v => .tup [.str 32, nv v]
  | .send => .tup [.str 76]
  | .answer => .tup [.str 10]
  | .passF => .tup [.str 67, .str 28]
  | .passB => .tup [.str 67, .str 14]
  | .loseF i => .tup [.str 59, .str 28, nv i]
  | .loseB i => .tup [.str 59, .str 14, nv i]
  | .crashS => .tup [.str 19, .str 77]
  | .crashR => .tup [.str 19, .str 72]
def gd {α : Type} (l : List α) (i : Nat) (d : α) : α := l.getD i d
def hd0 (l : List Nat) : Nat := l.headD 0
def step (R : Raw) (t : St) : Dd → St × Option Nat
  | .hand v => ({ t with a := gd ((gd R.S.takes t.a none).getD []) v 0 }, none)
  | .send => ({ t with a := gd R.S.ticks t.a 0, th := t.th ++ (gd R.S.sends t.a none).toList }, none)
  | .answer => ({ t with b := gd R.R.ticks t.b 0, bk := t.bk ++ (gd R.R.sends t.b none).toList }, none)
  | .passF => ({ t with b := gd (gd R.R.hears t.b []) (hd0 t.th) 0, th := t.th.tail }, gd (gd R.R.gives t.b []) (hd0 t.th) none)
  | .passB => ({ t with a := gd (gd R.S.hears t.a []) (hd0 t.bk) 0, bk := t.bk.tail }, none)
  | .loseF i => ({ t with th := t.th.take i ++ t.th.drop (i + 1) }, none)
  | .loseB i => ({ t with bk := t.bk.take i ++ t.bk.drop (i + 1) }, none)
  | .crashS => ({ t with a := gd R.S.crashes t.a 0 }, none)
  | .crashR => ({ t with b := gd R.R.crashes t.b 0 }, none)
structure StOk (R : Raw) (n : Nat) (t : St) : Prop where
  a : t.a < R.S.sends.length
  b : t.b < R.R.sends.length
  th : ∀ x ∈ t.th, x < R.f
  bk : ∀ x ∈ t.bk, x < R.b
  lt : t.th.length ≤ n
  lb : t.bk.length ≤ n
/-- what may be done -/
def can (R : Raw) (t : St) : Dd → Prop
  | .hand v => v < R.v ∧ ∃ r, gd R.S.takes t.a none = some r
  | .passF => t.th ≠ []
  | .passB => t.bk ≠ []
  | .loseF i => i < t.th.length
  | .loseB i => i < t.bk.length
  | _ => True
theorem atI_map {α : Type} {l : List α} {f : α → Val} {i : Nat} (d : α) (h : i < l.length) : atI (l.map f) (i : Int) = some (f (gd l i d)) := by
  unfold gd
  refine atI_of ?_
  rw [List.getElem?_map, List.getElem?_eq_getElem h, List.getD_eq_getElem?_getD, List.getElem?_eq_getElem h]
  rfl
theorem getD_mem {α : Type} {l : List α} {i : Nat} (d : α) (h : i < l.length) : gd l i d ∈ l := by
  unfold gd
  rw [List.getD_eq_getElem?_getD, List.getElem?_eq_getElem h]
  exact List.getElem_mem h
end
section
set_option Elab.async false
set_option linter.all false
set_option maxRecDepth 100000
set_option maxHeartbeats 4000000
structure PairAt (R : Raw) (k : Nat) (s : Store) : Prop where
  ex : ∃ i j, s[k]? = some (.ins 2 [(77, .ref i), (72, .ref j)]) ∧ s[i]? = some (.ins 0 (sndF R)) ∧ s[j]? = some (.ins 1 (rcvF R))
theorem map_nv (s : Store) (n : Nat) : ∀ l : List Nat, mapO (toD s n) (l.map nv) = some (l.map fun i : Nat => Dt.int (i : Int))
  | [] => rfl
  | x :: l => by
    rw [List.map_cons]
    unfold mapO
    rw [toD_int, map_nv s n l]
    rfl
theorem eqT_row (l l' : List Nat) (s : Store) : eqT (.v (rowV l)) (.v (rowV l')) s = some (Dt.eqvAll (l.map fun i : Nat => Dt.int (i : Int)) (l'.map fun i : Nat => Dt.int (i : Int))) := by
  unfold eqT tvD
  have e : ∀ m : List Nat, toD s DEEP (rowV m) = some (.tup (m.map fun i : Nat => Dt.int (i : Int))) := fun m => by
    show (mapO (toD s 19) (m.map nv)).map Dt.tup = _
    rw [map_nv]; rfl
  simp only [e]
  simp only [Dt.eqv]
theorem eqT_rn (l : List Nat) (s : Store) : eqT (.v (rowV l)) (.v (.tup [])) s = some l.isEmpty := by
  have := eqT_row l [] s
  rw [show rowV [] = Val.tup [] from rfl] at this
  rw [this]
  cases l <;> simp [Dt.eqvAll]
theorem poss {R : Raw} (h : RawOk R) {n : Nat} {t : St} (ht : StOk R n t) {k : Nat} {s : Store} (hp : PairAt R k s) {d : Dd} (hd : can R t d) : F_is_possible [.ref k, t.val, d.val] s = .ok (.v (.bool true)) s := by
  obtain ⟨i, j, hk, hi, hj⟩ := hp.ex
  apply eq_of_wp
  rw [F_is_possible, wp_fn3]
  have f2 : ∀ f, fldOf [2, 14] (.v (.ref k)) f s = [(77, Val.ref i), (72, Val.ref j)].lookup f := fun f => fldOf_at hk rfl
  have f0 : ∀ cs f, cs.contains 0 = true → fldOf cs (.v (.ref i)) f s = (sndF R).lookup f := fun cs f hc => fldOf_at hi hc
  have k1 := ht.a
  obtain ⟨ta, tb, th, bk⟩ := t
  simp only at k1
  have a4 : atI (R.S.takes.map takeV) (ta : Int) = some (takeV (gd R.S.takes ta none)) := atI_map none (by rw [h.S.takes.1]; exact k1)
  cases d with
  | hand v =>
    obtain ⟨hv, r, hr⟩ := hd
    simp only at hr
    simp [B_is_possible, St.val, Dd.val, f2, f0, List.lookup, a4, hr, takeV]
  | passF =>
    cases th with
    | nil => exact absurd rfl hd
    | cons x th => simp [B_is_possible, St.val, Dd.val, atI_1, eqT_rn]
  | passB =>
    cases bk with
    | nil => exact absurd rfl hd
    | cons x bk => simp [B_is_possible, St.val, Dd.val, atI_1, eqT_rn]
  | loseF i =>
    have hd : i < th.length := hd
    simp [B_is_possible, St.val, Dd.val, atI_1, atI_2]; omega
  | loseB i =>
    have hd : i < bk.length := hd
    simp [B_is_possible, St.val, Dd.val, atI_1, atI_2]; omega
  | _ => simp [B_is_possible, St.val, Dd.val]
theorem is_ev {R : Raw} (h : RawOk R) {t : St} {k : Nat} {s : Store} (hp : PairAt R k s) {d : Dd} (hd : can R t d) : F_is_event [.ref k, d.val] s = .ok (.v (.bool true)) s := by
  obtain ⟨i, j, hk, hi, hj⟩ := hp.ex
  apply eq_of_wp
  rw [F_is_event, wp_fn2]
  have f2 : ∀ f, fldOf [2, 14] (.v (.ref k)) f s = [(77, Val.ref i), (72, Val.ref j)].lookup f := fun f => fldOf_at hk rfl
  have f0 : ∀ cs f, cs.contains 0 = true → fldOf cs (.v (.ref i)) f s = (sndF R).lookup f := fun cs f hc => fldOf_at hi hc
  cases d with
  | hand v => simp [B_is_event, Dd.val, flat, flatEq, atI_1, f2, f0, List.lookup, is_below_nv hd.1]
  | loseF v => simp [B_is_event, Dd.val, flat, flatEq, atI_1, atI_2, F_is_name, B_is_name, wp_fn2, G_CHANNELS, F_is_place, B_is_place, wp_fn1]
  | loseB v => simp [B_is_event, Dd.val, flat, flatEq, atI_1, atI_2, F_is_name, B_is_name, wp_fn2, G_CHANNELS, F_is_place, B_is_place, wp_fn1]
  | _ => simp [B_is_event, Dd.val, flat, flatEq, atI_1, F_is_name, B_is_name, wp_fn2, G_CHANNELS, G_PROGRAMS]
theorem stepped_ok {R : Raw} (h : RawOk R) {n : Nat} {t : St} (ht : StOk R n t) (hn : n ≤ 10000) {k : Nat} {s : Store} (hp : PairAt R k s) {d : Dd} (hd : can R t d) : F_stepped [.ref k, t.val, d.val] s = .ok (.v (.tup [(step R t d).1.val, optV (step R t d).2])) s := by
  obtain ⟨i, j, hk, hi, hj⟩ := hp.ex
  apply eq_of_wp
  rw [F_stepped, wp_fn3]
  have f2 : ∀ f, fldOf [2, 14] (.v (.ref k)) f s = [(77, Val.ref i), (72, Val.ref j)].lookup f := fun f => fldOf_at hk rfl
  have f0 : ∀ cs f, cs.contains 0 = true → fldOf cs (.v (.ref i)) f s = (sndF R).lookup f := fun cs f hc => fldOf_at hi hc
  have f1 : ∀ cs f, cs.contains 1 = true → fldOf cs (.v (.ref j)) f s = (rcvF R).lookup f := fun cs f hc => fldOf_at hj hc
  have hS := h.S
  have hR := h.R
  have lt := ht.lt
  have lb := ht.lb
  have k1 := ht.a
  have k2 := ht.b
  obtain ⟨ta, tb, th, bk⟩ := t
  simp only at lt lb k1 k2
  have a1 : atI (R.S.sends.map optV) (ta : Int) = some (optV (gd R.S.sends ta none)) := atI_map none k1
  have a2 : atI (R.S.ticks.map nv) (ta : Int) = some (nv (gd R.S.ticks ta 0)) := atI_map 0 (by rw [hS.ticks.1]; exact k1)
  have a3 : atI (R.S.hears.map fun r => rowV r) (ta : Int) = some (rowV (gd R.S.hears ta [])) := atI_map [] (by rw [hS.hears.1]; exact k1)
  have a4 : atI (R.S.takes.map takeV) (ta : Int) = some (takeV (gd R.S.takes ta none)) := atI_map none (by rw [hS.takes.1]; exact k1)
  have a5 : atI (R.S.crashes.map nv) (ta : Int) = some (nv (gd R.S.crashes ta 0)) := atI_map 0 (by rw [hS.crashes.1]; exact k1)
  have b1 : atI (R.R.sends.map optV) (tb : Int) = some (optV (gd R.R.sends tb none)) := atI_map none k2
  have b2 : atI (R.R.ticks.map nv) (tb : Int) = some (nv (gd R.R.ticks tb 0)) := atI_map 0 (by rw [hR.ticks.1]; exact k2)
  have b3 : atI (R.R.hears.map fun r => rowV r) (tb : Int) = some (rowV (gd R.R.hears tb [])) := atI_map [] (by rw [hR.hears.1]; exact k2)
  have b4 : atI (R.R.gives.map fun r => lettersV r) (tb : Int) = some (lettersV (gd R.R.gives tb [])) := atI_map [] (by rw [hR.gives.1]; exact k2)
  have b5 : atI (R.R.crashes.map nv) (tb : Int) = some (nv (gd R.R.crashes tb 0)) := atI_map 0 (by rw [hR.crashes.1]; exact k2)
  cases d with
  | hand v =>
    obtain ⟨hv, r, hr⟩ := hd
    simp only at hr
    have hr2 := hS.takes.2.1 r (by rw [← hr]; exact getD_mem none (by rw [hS.takes.1]; exact k1))
    have a6 : atI (r.map nv) (v : Int) = some (nv (gd r v 0)) := atI_map 0 (by omega)
    simp [B_stepped, St.val, Dd.val, step, atI_1, f2, f0, List.lookup, a4, hr, takeV, a6, optV]
  | send =>
    simp [B_stepped, St.val, Dd.val, step, flat, flatEq, F_ticked, B_ticked, wp_fn3, f2, f0, List.lookup, a1, a2]
    cases gd R.S.sends ta none <;> simp [optV, show th.length ≤ 16777215 by omega, show th.length ≤ 16777216 by omega]
  | answer =>
    simp [B_stepped, St.val, Dd.val, step, flat, flatEq, F_ticked, B_ticked, wp_fn3, f2, f1, List.lookup, b1, b2]
    cases gd R.R.sends tb none <;> simp [optV, show bk.length ≤ 16777215 by omega, show bk.length ≤ 16777216 by omega]
  | passF =>
    cases th with
    | nil => exact absurd rfl hd
    | cons x th =>
      have hx : x < R.f := ht.th x (List.mem_cons_self ..)
      have hg := hR.gives.2 _ (getD_mem (l := R.R.gives) (i := tb) [] (by rw [hR.gives.1]; exact k2))
      have hh := hR.hears.2 _ (getD_mem (l := R.R.hears) (i := tb) [] (by rw [hR.hears.1]; exact k2))
      have c1 : atI ((gd R.R.gives tb []).map optV) (x : Int) = some (optV (gd (gd R.R.gives tb []) x none)) := atI_map none (by rw [hg.1]; exact hx)
      have c2 : atI ((gd R.R.hears tb []).map nv) (x : Int) = some (nv (gd (gd R.R.hears tb []) x 0)) := atI_map 0 (by rw [hh.1]; exact hx)
      have c3 : cutV (nv x :: th.map nv) (some 1) none = th.map nv := by rw [show (some (1 : Int)) = some ((1 : Nat) : Int) from rfl, cutV_from]; rfl
      simp [B_stepped, St.val, Dd.val, step, flat, flatEq, atI_1, F_passed, B_passed, wp_fn3, f2, f1, List.lookup, b3, b4, c1, c2, c3, hd0]
  | passB =>
    cases bk with
    | nil => exact absurd rfl hd
    | cons x bk =>
      have hx : x < R.b := ht.bk x (List.mem_cons_self ..)
      have hh := hS.hears.2 _ (getD_mem (l := R.S.hears) (i := ta) [] (by rw [hS.hears.1]; exact k1))
      have c2 : atI ((gd R.S.hears ta []).map nv) (x : Int) = some (nv (gd (gd R.S.hears ta []) x 0)) := atI_map 0 (by rw [hh.1]; exact hx)
      have c3 : cutV (nv x :: bk.map nv) (some 1) none = bk.map nv := by rw [show (some (1 : Int)) = some ((1 : Nat) : Int) from rfl, cutV_from]; rfl
      simp [B_stepped, St.val, Dd.val, step, flat, flatEq, atI_1, F_passed, B_passed, wp_fn3, f2, f0, List.lookup, a3, c2, c3, hd0, optV]
  | loseF i =>
    have c1 : cutV (th.map nv) none (some (i : Int)) = (th.map nv).take i := cutV_to _ _
    have c2 : cutV (th.map nv) (some ((i : Int) + 1)) none = (th.map nv).drop (i + 1) := by rw [show (i : Int) + 1 = ((i + 1 : Nat) : Int) by omega, cutV_from]
    simp [B_stepped, St.val, Dd.val, step, flat, flatEq, atI_1, atI_2, F_without, B_without, wp_fn2, c1, c2, optV, -List.map_take, -List.map_drop, show min i th.length + (th.length - (i + 1)) ≤ 16777216 by omega]
    simp
  | loseB i =>
    have c1 : cutV (bk.map nv) none (some (i : Int)) = (bk.map nv).take i := cutV_to _ _
    have c2 : cutV (bk.map nv) (some ((i : Int) + 1)) none = (bk.map nv).drop (i + 1) := by rw [show (i : Int) + 1 = ((i + 1 : Nat) : Int) by omega, cutV_from]
    simp [B_stepped, St.val, Dd.val, step, flat, flatEq, atI_1, atI_2, F_without, B_without, wp_fn2, c1, c2, optV, -List.map_take, -List.map_drop, show min i bk.length + (bk.length - (i + 1)) ≤ 16777216 by omega]
    simp
  | crashS => simp [B_stepped, St.val, Dd.val, step, flat, flatEq, atI_1, f2, f0, List.lookup, a5, optV]
  | crashR => simp [B_stepped, St.val, Dd.val, step, flat, flatEq, atI_1, f2, f1, List.lookup, b5, optV]
end
section
set_option Elab.async false
set_option linter.all false
set_option maxRecDepth 100000
set_option maxHeartbeats 4000000
theorem gd_lt {l : List Nat} {i m : Nat} (h : ∀ x ∈ l, x < m) (hi : i < l.length) : gd l i 0 < m := h _ (getD_mem 0 hi)
theorem opt_lt {l : List (Option Nat)} {i m : Nat} (h : ∀ x, some x ∈ l → x < m) (hi : i < l.length) : ∀ x ∈ (gd l i none).toList, x < m := fun x hx => by
  have hm := getD_mem (l := l) (i := i) none hi
  cases e : gd l i none with
  | none => rw [e] at hx; simp at hx
  | some y => rw [e] at hx hm; simp at hx; subst hx; exact h _ hm
theorem step_ok {R : Raw} (h : RawOk R) {n : Nat} {t : St} (ht : StOk R n t) {d : Dd} (hd : can R t d) : StOk R (n + 1) (step R t d).1 := by
  have hS := h.S
  have hR := h.R
  obtain ⟨ta, tb, th, bk⟩ := t
  obtain ⟨k1, k2, k3, k4, k5, k6⟩ := ht
  simp only at k1 k2 k3 k4 k5 k6
  cases d with
  | hand v =>
    obtain ⟨hv, r, hr⟩ := hd
    simp only at hr
    have hr2 := hS.takes.2.1 r (by rw [← hr]; exact getD_mem none (by rw [hS.takes.1]; exact k1))
    refine ⟨?_, k2, k3, k4, by show th.length ≤ n + 1; omega, by show bk.length ≤ n + 1; omega⟩
    simp only [step, hr, Option.getD_some]
    exact gd_lt hr2.2 (by omega)
  | send =>
    refine ⟨gd_lt hS.ticks.2 (by rw [hS.ticks.1]; exact k1), k2, fun x hx => ?_, k4, ?_, by show bk.length ≤ n + 1; omega⟩
    · rcases List.mem_append.mp (show x ∈ th ++ (gd R.S.sends ta none).toList from hx) with hx | hx
      · exact k3 x hx
      · exact opt_lt hS.sends k1 x hx
    · show (th ++ (gd R.S.sends ta none).toList).length ≤ n + 1
      cases gd R.S.sends ta none <;> simp <;> omega
  | answer =>
    refine ⟨k1, gd_lt hR.ticks.2 (by rw [hR.ticks.1]; exact k2), k3, fun x hx => ?_, by show th.length ≤ n + 1; omega, ?_⟩
    · rcases List.mem_append.mp (show x ∈ bk ++ (gd R.R.sends tb none).toList from hx) with hx | hx
      · exact k4 x hx
      · exact opt_lt hR.sends k2 x hx
    · show (bk ++ (gd R.R.sends tb none).toList).length ≤ n + 1
      cases gd R.R.sends tb none <;> simp <;> omega
  | passF =>
    cases th with
    | nil => exact absurd rfl hd
    | cons x th =>
      have hx : x < R.f := k3 x (List.mem_cons_self ..)
      have hh := hR.hears.2 _ (getD_mem (l := R.R.hears) (i := tb) [] (by rw [hR.hears.1]; exact k2))
      exact ⟨k1, gd_lt hh.2 (by rw [hh.1]; exact hx), fun y hy => k3 y (List.mem_cons_of_mem _ hy), k4, by simp at k5; show th.length ≤ n + 1; omega, by show bk.length ≤ n + 1; omega⟩
  | passB =>
    cases bk with
    | nil => exact absurd rfl hd
    | cons x bk =>
      have hx : x < R.b := k4 x (List.mem_cons_self ..)
      have hh := hS.hears.2 _ (getD_mem (l := R.S.hears) (i := ta) [] (by rw [hS.hears.1]; exact k1))
      exact ⟨gd_lt hh.2 (by rw [hh.1]; exact hx), k2, k3, fun y hy => k4 y (List.mem_cons_of_mem _ hy), by show th.length ≤ n + 1; omega, by simp at k6; show bk.length ≤ n + 1; omega⟩
  | loseF i =>
    refine ⟨k1, k2, fun x hx => ?_, k4, ?_, by show bk.length ≤ n + 1; omega⟩
    · rcases List.mem_append.mp (show x ∈ th.take i ++ th.drop (i + 1) from hx) with hx | hx
      · exact k3 x (List.mem_of_mem_take hx)
      · exact k3 x (List.mem_of_mem_drop hx)
    · show (th.take i ++ th.drop (i + 1)).length ≤ n + 1
      simp; omega
  | loseB i =>
    refine ⟨k1, k2, k3, fun x hx => ?_, by show th.length ≤ n + 1; omega, ?_⟩
    · rcases List.mem_append.mp (show x ∈ bk.take i ++ bk.drop (i + 1) from hx) with hx | hx
      · exact k4 x (List.mem_of_mem_take hx)
      · exact k4 x (List.mem_of_mem_drop hx)
    · show (bk.take i ++ bk.drop (i + 1)).length ≤ n + 1
      simp; omega
  | crashS => exact ⟨gd_lt hS.crashes.2 (by rw [hS.crashes.1]; exact k1), k2, k3, k4, by show th.length ≤ n + 1; omega, by show bk.length ≤ n + 1; omega⟩
  | crashR => exact ⟨k1, gd_lt hR.crashes.2 (by rw [hR.crashes.1]; exact k2), k3, k4, by show th.length ≤ n + 1; omega, by show bk.length ≤ n + 1; omega⟩
def runS (R : Raw) : St → List Dd → St
  | t, [] => t
  | t, d :: ds => runS R (step R t d).1 ds
def Good (R : Raw) : St → List Dd → Prop
  | _, [] => True
  | t, d :: ds => can R t d ∧ Good R (step R t d).1 ds
def fnd (R : Raw) : St → Nat → List Dd → List Val
  | _, _, [] => []
  | t, i, d :: ds => (match (step R t d).2 with
    | some v => [.tup [nv i, nv v]]
    | none => []) ++ fnd R (step R t d).1 (i + 1) ds
theorem runS_snoc (R : Raw) : ∀ (t : St) (ds : List Dd) (d : Dd), runS R t (ds ++ [d]) = (step R (runS R t ds) d).1
  | t, [], d => rfl
  | t, e :: ds, d => runS_snoc R (step R t e).1 ds d
theorem fnd_snoc (R : Raw) : ∀ (t : St) (i : Nat) (ds : List Dd) (d : Dd), fnd R t i (ds ++ [d]) = fnd R t i ds ++ (match (step R (runS R t ds) d).2 with
    | some v => [.tup [nv (i + ds.length), nv v]]
    | none => [])
  | t, i, [], d => by simp [fnd, runS]
  | t, i, e :: ds, d => by
    show _ ++ fnd R _ (i + 1) (ds ++ [d]) = (_ ++ fnd R _ (i + 1) ds) ++ _
    rw [fnd_snoc R (step R t e).1 (i + 1) ds d, List.append_assoc]
    rw [show i + (e :: ds).length = i + 1 + ds.length by simp; omega]
    rfl
theorem good_at {R : Raw} : ∀ {t : St} {ds : List Dd} {i : Nat} {d : Dd}, Good R t ds → ds[i]? = some d → can R (runS R t (ds.take i)) d
  | t, e :: ds, 0, d, h, hi => by simp at hi; subst hi; exact h.1
  | t, e :: ds, i + 1, d, h, hi => good_at (ds := ds) h.2 (by simpa using hi)
  | _, [], _, _, _, hi => by simp at hi
theorem good_take {R : Raw} : ∀ {t : St} {ds : List Dd} (i : Nat), Good R t ds → Good R t (ds.take i)
  | _, [], _, _ => by simp [Good]
  | _, _ :: _, 0, _ => True.intro
  | _, _ :: ds, i + 1, h => ⟨h.1, good_take (ds := ds) i h.2⟩
theorem good_snoc {R : Raw} : ∀ {t : St} {ds : List Dd} {d : Dd}, Good R t ds → can R (runS R t ds) d → Good R t (ds ++ [d])
  | _, [], _, _, h => ⟨h, True.intro⟩
  | _, _ :: ds, _, h, h' => ⟨h.1, good_snoc (ds := ds) h.2 h'⟩
theorem run_ok {R : Raw} (h : RawOk R) : ∀ {t : St} {n : Nat} {ds : List Dd}, StOk R n t → Good R t ds → StOk R (n + ds.length) (runS R t ds)
  | t, n, [], ht, _ => ht
  | t, n, d :: ds, ht, hg => by
    have := run_ok h (ds := ds) (step_ok h ht hg.1) hg.2
    rw [show n + (d :: ds).length = n + 1 + ds.length by simp; omega]
    exact this
def t0 : St := ⟨0, 0, [], []⟩
theorem t0_ok {R : Raw} (h : RawOk R) : StOk R 0 t0 := ⟨h.S.len.1, h.R.len.1, fun x hx => by simp [t0] at hx, fun x hx => by simp [t0] at hx, Nat.le_refl _, Nat.le_refl _⟩
theorem take_succ {α : Type} {l : List α} {i : Nat} {d : α} (h : l[i]? = some d) : l.take (i + 1) = l.take i ++ [d] := by rw [List.take_add_one, h]; rfl
theorem fnd_len (R : Raw) : ∀ (t : St) (i : Nat) (ds : List Dd), (fnd R t i ds).length ≤ ds.length
  | _, _, [] => Nat.le_refl _
  | t, i, d :: ds => by
    have := fnd_len R (step R t d).1 (i + 1) ds
    unfold fnd
    cases (step R t d).2 <;> simp <;> omega
/-- a list or a tuple of deeds -/
def Thing (th : Val) (s : Store) (xs : List Val) : Prop := th = .tup xs ∨ ∃ r, th = .ref r ∧ s[r]? = some (.lst xs)
theorem Thing.its {th : Val} {s : Store} {xs : List Val} (h : Thing th s xs) : ∃ f : Its, itsOf (.v th) s = some f ∧ ∀ l, f (s ++ l) = some xs := by
  rcases h with rfl | ⟨r, rfl, h⟩
  · exact ⟨_, rfl, fun _ => rfl⟩
  · have hl := (List.getElem?_eq_some_iff.mp h).1
    unfold itsOf
    simp only [h]
    exact ⟨_, rfl, fun l => by simp only [List.getElem?_append_left hl, h]⟩
theorem Thing.seq {th : Val} {s : Store} {xs : List Val} (h : Thing th s xs) : seqOf (.v th) s = some xs := by
  rcases h with rfl | ⟨r, rfl, h⟩
  · rfl
  · simp [seqOf, h]
theorem Thing.ty {th : Val} {s : Store} {xs : List Val} (h : Thing th s xs) : isTy [0, 1, 2] .lot (.v th) s = some true := by
  rcases h with rfl | ⟨r, rfl, h⟩
  · rfl
  · simp [isTy, h]
theorem events_ok {R : Raw} (h : RawOk R) {k : Nat} {s : Store} (hp : PairAt R k s) {th : Val} {ds : List Dd} (hg : Good R t0 ds) (ht : Thing th s (ds.map Dd.val)) : F_checked_events [.ref k, th] s = .ok (.l (ds.map Dd.val)) s := by
  obtain ⟨f, hf, hfs⟩ := ht.its
  have hf0 : f s = some (ds.map Dd.val) := by simpa using hfs []
  apply eq_of_wp
  rw [F_checked_events, wp_fn2]
  unfold B_checked_events
  refine seq_step ?_
  simp only [sIf_r, tNot_r, tB_r, eB1_r, eV_r, bind_ok, bIs_r, List.getElem?_cons_succ, List.getElem?_cons_zero, ht.ty, ans_s, wp_ok, Bool.not_true, Bool.false_eq_true, if_false, sNop_r]
  refine seq_step (Wp.mono (wp_for (its := fun s => (f s).map fun xs => numbered xs 0) (xs := numbered (ds.map Dd.val) 0) (s1 := s) (by simp [hf])
    (fun i ρ s1 => s1 = s ∧ ∃ a b, ρ = [some (.ref k), some th, a, b]) (fun i ρ s1 ⟨e, _⟩ => by subst e; rw [hf0]; rfl) ⟨rfl, none, none, rfl⟩ (fun i x ρ s1 hx ⟨e, a, b, e2⟩ => ?_) (Q := fun r s1 => s1 = s ∧ ∃ a b, r = (.next, [some (.ref k), some th, a, b])) fun ρ s1 ⟨e, a, b, e2⟩ => ⟨e, a, b, by rw [e2]⟩) fun r s1 ⟨e, a, b, e2⟩ => ?_)
  · subst e e2
    rw [num_at, List.getElem?_map] at hx
    obtain ⟨y, hy, rfl⟩ := Option.map_eq_some_iff.mp hx
    obtain ⟨d, hd, rfl⟩ := Option.map_eq_some_iff.mp hy
    simp [is_ev h hp (good_at hg hd)]
  · subst e e2
    simp [ht.seq]
end
section
set_option Elab.async false
set_option linter.all false
set_option maxRecDepth 100000
set_option maxHeartbeats 4000000
theorem PairAt.app {R : Raw} {k : Nat} {s : Store} (h : PairAt R k s) (l : List Ob) : PairAt R k (s ++ l) := by
  obtain ⟨i, j, h1, h2, h3⟩ := h.ex
  have g : ∀ {a : Nat} {o : Ob}, s[a]? = some o → (s ++ l)[a]? = some o := fun {a o} e => by
    rw [List.getElem?_append_left (List.getElem?_eq_some_iff.mp e).1]; exact e
  exact ⟨i, j, g h1, g h2, g h3⟩
theorem Thing.app {th : Val} {s : Store} {xs : List Val} (h : Thing th s xs) (l : List Ob) : Thing th (s ++ l) xs := by
  rcases h with rfl | ⟨r, rfl, h⟩
  · exact .inl rfl
  · exact .inr ⟨r, rfl, by rw [List.getElem?_append_left (List.getElem?_eq_some_iff.mp h).1]; exact h⟩
theorem append_new {i : Nat} {e : Ev} {ρ : Env} {s : Store} {xs : List Val} {y : Val} {Q : Tv → Store → Prop} (h1 : ρ[i]? = some (some (.ref s.length))) (he : e ρ (s ++ [.lst xs]) = .ok (.v y) (s ++ [.lst xs])) (hl : xs.length < 16777216) (q : Q (.v .non) (s ++ [.lst (xs ++ [y])])) : Wp (eAppend (eV i) e ρ (s ++ [.lst xs])) Q := by
  unfold eAppend
  have r : refL (.v (.ref s.length)) (s ++ [Ob.lst xs]) = some (s.length, xs) := by simp [refL]
  simp only [eV_r, h1, bind_ok, r, Option.isSome_some, if_true, he, mat_v, if_pos (show xs.length < LIM from hl), updL, set_new, wp_ok]
  exact q
theorem eAppend_bad : True := trivial
/-- the body's turn, the same for the program and the law -/
theorem trail_ok {R : Raw} (h : RawOk R) {k : Nat} {s : Store} (hp : PairAt R k s) {th : Val} {ds : List Dd} (hg : Good R t0 ds) (hn : ds.length ≤ 9000) (ht : Thing th s (ds.map Dd.val)) :
    F_trail [.ref k, th] s = .ok (.v (.tup [(runS R t0 ds).val, .ref s.length])) (s ++ [.lst (fnd R t0 0 ds)]) := by
  obtain ⟨f, hf, hfs⟩ := ht.its
  obtain ⟨f', hf', hfs'⟩ := (ht.app [Ob.lst []]).its
  apply eq_of_wp
  rw [F_trail, wp_fn2]
  unfold B_trail
  refine seq_step ?_
  simp only [sAsg_r, eC_r, bind_ok, mat_v, gV_r, wp_ok, List.set_cons_succ, List.set_cons_zero, Nat.reduceSub, List.replicate]
  refine seq_step ?_
  simp only [sAsg_r, eLst_r, aNil_r, bind_ok, List.length_nil, LIM_eq, Nat.zero_le, if_true, mat_l, gV_r, wp_ok, List.set_cons_succ, List.set_cons_zero]
  have itsE : ∀ zs, f' (s ++ [.lst zs]) = some (ds.map Dd.val) := fun zs => by
    rcases ht with rfl | ⟨r, rfl, hr⟩
    · cases hf'; rfl
    · have hl := (List.getElem?_eq_some_iff.mp hr).1
      have hr' : (s ++ [Ob.lst []])[r]? = some (.lst (ds.map Dd.val)) := by rw [List.getElem?_append_left hl]; exact hr
      unfold itsOf at hf'
      simp only [hr'] at hf'
      cases hf'
      simp only [List.getElem?_append_left hl, hr]
  refine seq_step (Wp.mono (wp_for (its := fun s => (f' s).map fun xs => numbered xs 0) (xs := numbered (ds.map Dd.val) 0) (s1 := s ++ [.lst []]) (by simp [hf'])
    (fun i ρ s1 => i ≤ ds.length ∧ s1 = s ++ [.lst (fnd R t0 0 (ds.take i))] ∧ ∃ a b c, ρ = [some (.ref k), some th, some (runS R t0 (ds.take i)).val, some (.ref s.length), a, b, c]) (fun i ρ s1 ⟨_, e, _⟩ => by subst e; rw [itsE]; rfl) ⟨Nat.zero_le _, rfl, none, none, none, rfl⟩ (fun i x ρ s1 hx ⟨hi, e, a, b, c, e2⟩ => ?_)
    (Q := fun r s1 => s1 = s ++ [.lst (fnd R t0 0 ds)] ∧ ∃ a b c, r = (.next, [some (.ref k), some th, some (runS R t0 ds).val, some (.ref s.length), a, b, c])) fun ρ s1 ⟨_, e, a, b, c, e2⟩ => ?_) fun r s1 ⟨e, a, b, c, e2⟩ => ?_)
  · subst e e2
    rw [num_at, List.getElem?_map] at hx
    obtain ⟨y, hy, rfl⟩ := Option.map_eq_some_iff.mp hx
    obtain ⟨d, hd, rfl⟩ := Option.map_eq_some_iff.mp hy
    have hid := (List.getElem?_eq_some_iff.mp hd).1
    have hc := good_at hg hd
    have hst := run_ok h (t0_ok h) (good_take i hg)
    rw [List.length_take, Nat.min_eq_left (by omega), Nat.zero_add] at hst
    have hp' := hp.app [Ob.lst (fnd R t0 0 (ds.take i))]
    have r1 := poss h hst hp' hc
    have r2 := stepped_ok h hst (by omega) hp' hc
    have e1 : runS R t0 (ds.take (i + 1)) = (step R (runS R t0 (ds.take i)) d).1 := by rw [take_succ hd, runS_snoc]
    have e2 : fnd R t0 0 (ds.take (i + 1)) = fnd R t0 0 (ds.take i) ++ (match (step R (runS R t0 (ds.take i)) d).2 with
      | some v => [.tup [nv i, nv v]]
      | none => []) := by 
      rw [take_succ hd, fnd_snoc, List.length_take, Nat.min_eq_left (by omega), Nat.zero_add] <;>
        (cases (step R (runS R t0 (ds.take i)) d).2 <;> rfl)
    have hlen : (fnd R t0 0 (ds.take i)).length < 16777216 := by
      have := fnd_len R t0 0 (ds.take i)
      rw [List.length_take] at this; omega
    simp only [gT_r, setAll_c, setAll_n, wp_ok, List.set_cons_succ, List.set_cons_zero, Nat.zero_add]
    refine seq_step ?_
    simp only [sIf_r, tNot_r, tB_r, eCall_r, aCons_r, aNil_r, eV_r, bind_ok, mat_v, List.getElem?_cons_succ, List.getElem?_cons_zero, r1, wp_ok, Bool.not_true, Bool.false_eq_true, if_false, sNop_r]
    refine seq_step ?_
    simp only [sAsg_r, eCall_r, aCons_r, aNil_r, eV_r, bind_ok, mat_v, List.getElem?_cons_succ, List.getElem?_cons_zero, r2, gT_r, setAll_c, setAll_n, wp_ok, List.set_cons_succ, List.set_cons_zero]
    rw [e1, e2]
    cases hv : (step R (runS R t0 (ds.take i)) d).2 with
    | none =>
      simp only [optV, sIf_r, tB_r, eBin_r, eV_r, eC_r, bind_ok, List.getElem?_cons_succ, List.getElem?_cons_zero, cNotN_r, isN_non, wp_ok, Bool.not_true, Bool.false_eq_true, if_false, sNop_r, List.append_nil]
      exact ⟨by omega, trivial, _, _, _, rfl⟩
    | some v =>
      simp only [optV, sIf_r, tB_r, eBin_r, eV_r, eC_r, bind_ok, List.getElem?_cons_succ, List.getElem?_cons_zero, cNotN_r, isN_int, wp_ok, Bool.not_false, if_true, sExp_r, wp_bind]
      refine append_new rfl (y := .tup [nv i, nv v]) (by simp) hlen ?_
      exact ⟨by omega, rfl, _, _, _, rfl⟩
  · subst e e2
    rw [num_len, List.length_map, List.take_of_length_le (Nat.le_refl _)]
    exact ⟨rfl, a, b, c, rfl⟩
  · subst e e2
    simp
theorem ctrail_ok {R : Raw} (h : RawOk R) {k : Nat} {s : Store} (hp : PairAt R k s) {th : Val} {ds : List Dd} (hg : Good R t0 ds) (hn : ds.length ≤ 9000) (ht : Thing th s (ds.map Dd.val)) :
    F_checked_trail [.ref k, th] s = .ok (.v (.tup [.ref s.length, (runS R t0 ds).val, .ref (s.length + 1)])) (s ++ [.lst (ds.map Dd.val), .lst (fnd R t0 0 ds)]) := by
  apply eq_of_wp
  rw [F_checked_trail, wp_fn2]
  have r1 := events_ok h hp hg ht
  have r2 := trail_ok h (hp.app [Ob.lst (ds.map Dd.val)]) hg hn (th := .ref s.length) (.inr ⟨_, rfl, by simp⟩)
  rw [List.length_append, List.append_assoc] at r2
  simp [B_checked_trail, r1, r2]
theorem req_ok {R : Raw} {k : Nat} {s : Store} (hp : PairAt R k s) : F_require_pair [.ref k] s = .ok (.v .non) s := by
  obtain ⟨i, j, h1, h2, h3⟩ := hp.ex
  apply eq_of_wp
  rw [F_require_pair, wp_fn1]
  simp [B_require_pair, isTy_ins _ h1, insB]
def vals (R : Raw) : St → List Dd → List Val
  | _, [] => []
  | t, d :: ds => (match (step R t d).2 with
    | some v => [nv v]
    | none => []) ++ vals R (step R t d).1 ds
end
section
set_option Elab.async false
set_option linter.all false
set_option maxRecDepth 100000
set_option maxHeartbeats 4000000
def dH (R : Raw) (t : St) : List Dd := match gd R.S.takes t.a none with
  | some _ => (List.range R.v).map Dd.hand
  | none => []
def dF (t : St) : List Dd := if t.th.isEmpty then [] else [.passF]
def dB (t : St) : List Dd := if t.bk.isEmpty then [] else [.passB]
def deeds (R : Raw) (t : St) : List Dd := dH R t ++ ([Dd.send, Dd.answer] ++ (dF t ++ (dB t ++ ((List.range t.th.length).map Dd.loseF ++ ((List.range t.bk.length).map Dd.loseB ++ [.crashS, .crashR])))))
theorem deeds_can {R : Raw} {t : St} {d : Dd} (h : d ∈ deeds R t) : can R t d := by
  simp only [deeds, List.mem_append, List.mem_map, List.mem_range, List.mem_cons, List.not_mem_nil, or_false] at h
  rcases h with h | h | h | h | h | h | h
  · unfold dH at h
    split at h
    · next r e =>
      obtain ⟨v, hv, rfl⟩ := List.mem_map.mp h
      exact ⟨List.mem_range.mp hv, r, e⟩
    · simp at h
  · rcases h with rfl | rfl <;> trivial
  · unfold dF at h
    split at h
    · simp at h
    · next e =>
      simp at h; subst h
      exact fun hh => e (by rw [hh]; rfl)
  · unfold dB at h
    split at h
    · simp at h
    · next e =>
      simp at h; subst h
      exact fun hh => e (by rw [hh]; rfl)
  · obtain ⟨i, hi, rfl⟩ := h; exact hi
  · obtain ⟨i, hi, rfl⟩ := h; exact hi
  · rcases h with rfl | rfl <;> trivial
theorem comp_rng {e b : Ev} {i n : Nat} {ρ : Env} {s : Store} (h : Nat → Val) (he : e ρ s = .ok (.v (nv n)) s) (hn : n ≤ 1000) (hb : ∀ m, b ((wipe ρ [i]).set i (some (nv m))) s = .ok (.v (h m)) s) : eComp (ixR e) (gV i) [i] tYes b ρ s = .ok (.l ((List.range n).map h)) s := by
  have := comp_pure (ix := ixR e) (xs := rngV 0 (n : Int)) (g := gV i) (own := [i]) (e := b) (ρ := ρ) (s := s) (fun x => match x with | .int z => h z.toNat | _ => .non) (by simp [he, inR_n hn]) (by rw [rngV_len]; omega) (fun x hx => by
    rw [rngV_nv] at hx
    obtain ⟨m, _, rfl⟩ := List.mem_map.mp hx
    simp [hb])
  rw [this, rngV_nv, List.map_map]
  rfl
def Nw (s0 s : Store) (q : Nat) (X : List Val) : Prop := (∃ l, s = s0 ++ l) ∧ s0.length ≤ q ∧ s[q]? = some (.lst X)
theorem asgL {s0 s : Store} {i : Nat} {e : Ev} {ρ : Env} {X : List Val} {Q : Fl × Env → Store → Prop} (hs : ∃ l, s = s0 ++ l) (he : e ρ s = .ok (.l X) s) (k : ∀ s' q, Nw s0 s' q X → Q (.next, ρ.set i (some (.ref q))) s') : Wp (sAsg (gV i) e ρ s) Q := by
  simp only [sAsg_r, he, bind_ok, mat_l, gV_r, wp_ok]
  obtain ⟨l, rfl⟩ := hs
  exact k _ _ ⟨⟨_, List.append_assoc _ _ _⟩, by rw [List.length_append]; omega, by simp⟩
theorem extL {s0 s : Store} {i q : Nat} {e : Ev} {ρ : Env} {X Y : List Val} {Q : Fl × Env → Store → Prop} (hn : Nw s0 s q X) (hi : ρ[i]? = some (some (.ref q))) (he : e ρ s = .ok (.l Y) s) (hl : X.length + Y.length ≤ 16777216) (k : ∀ s', Nw s0 s' q (X ++ Y) → Q (.next, ρ) s') : Wp (sExp (eExtend (eV i) e) ρ s) Q := by
  obtain ⟨⟨l, rfl⟩, hq, hg⟩ := hn
  have r : refL (.v (.ref q)) (s0 ++ l) = some (q, X) := by simp [refL, hg]
  have lt := (List.getElem?_eq_some_iff.mp hg).1
  unfold eExtend
  simp only [sExp_r, eV_r, hi, bind_ok, r, Option.isSome_some, if_true, he, lstOf_l, if_pos (show X.length + Y.length ≤ LIM from hl), updL, wp_ok]
  refine k _ ⟨⟨l.set (q - s0.length) (.lst (X ++ Y)), ?_⟩, hq, ?_⟩
  · rw [List.set_append_right _ _ hq]
  · exact List.getElem?_set_self lt
theorem addR {s : Store} {q : Nat} {X Y : List Val} (h : s[q]? = some (.lst X)) (hl : X.length + Y.length ≤ 16777216) : oAdd (.v (.ref q)) (.l Y) s = .ok (.l (X ++ Y)) s := by
  have : lstOf (.v (.ref q)) s = some X := by simp [lstOf, h]
  rw [oAdd_rl, this]
  simp only [if_pos (show X.length + Y.length ≤ LIM from hl)]
theorem mulB (b : Bool) (x : Val) (s : Store) : oMul (.l [x]) (.v (.int (if b then 1 else 0))) s = .ok (.l (if b then [x] else [])) s := by
  cases b <;> simp
theorem dH_len (R : Raw) (t : St) : (dH R t).length ≤ R.v := by
  unfold dH; split <;> simp
end
section
set_option Elab.async false
set_option linter.all false
set_option maxRecDepth 100000
set_option maxHeartbeats 4000000
/-- the store has grown, nothing else -/
structure Ex (s0 s : Store) : Prop where
  len : s0.length ≤ s.length
  get : ∀ k, k < s0.length → s[k]? = s0[k]?
theorem Ex.refl (s : Store) : Ex s s := ⟨Nat.le_refl _, fun _ _ => rfl⟩
theorem Ex.trans {a b c : Store} (x : Ex a b) (y : Ex b c) : Ex a c := ⟨Nat.le_trans x.len y.len, fun k h => (y.get k (Nat.lt_of_lt_of_le h x.len)).trans (x.get k h)⟩
theorem Ex.app (s l : Store) : Ex s (s ++ l) := ⟨by rw [List.length_append]; omega, fun k h => List.getElem?_append_left h⟩
theorem Ex.set {s0 s : Store} (x : Ex s0 s) {q : Nat} {o : Ob} (h : s0.length ≤ q) : Ex s0 (s.set q o) := ⟨by rw [List.length_set]; exact x.len, fun k hk => by rw [List.getElem?_set_ne (by omega)]; exact x.get k hk⟩
theorem Ex.at {s0 s : Store} (x : Ex s0 s) {k : Nat} {o : Ob} (h : s0[k]? = some o) : s[k]? = some o := by rw [x.get k (List.getElem?_eq_some_iff.mp h).1]; exact h
theorem PairAt.ex' {R : Raw} {k : Nat} {s s' : Store} (h : PairAt R k s) (x : Ex s s') : PairAt R k s' := by
  obtain ⟨i, j, h1, h2, h3⟩ := h.ex
  exact ⟨i, j, x.at h1, x.at h2, x.at h3⟩
theorem Thing.ex {th : Val} {s s' : Store} {xs : List Val} (h : Thing th s xs) (x : Ex s s') : Thing th s' xs := by
  rcases h with rfl | ⟨r, rfl, h⟩
  · exact .inl rfl
  · exact .inr ⟨r, rfl, x.at h⟩
theorem wp_whG {t : Tst} {b : Sx} {Q : Fl × Env → Store → Prop} (I : Nat → Env → Store → Prop)
    (step : ∀ n ρ s, I n ρ s → Wp (t ρ s) fun c s => if c = true then Wp (b ρ s) fun r s => match r with
      | (.next, ρ) => ∃ m, m < n ∧ I m ρ s
      | (.brk, ρ) => Q (.next, ρ) s
      | r => Q r s else Q (.next, ρ) s) : ∀ (f n : Nat) (ρ : Env) (s : Store), n < f → I n ρ s → Wp (whGo t b f ρ s) Q
  | 0, n, ρ, s, h, _ => absurd h (Nat.not_lt_zero _)
  | f + 1, n, ρ, s, h, hI => by
    unfold whGo
    simp only [wp_bind]
    refine (step n ρ s hI).mono fun c s1 h1 => ?_
    cases c with
    | true =>
      simp only [if_true, wp_bind] at h1 ⊢
      refine h1.mono fun r s2 h2 => ?_
      obtain ⟨fl, ρ2⟩ := r
      cases fl with
      | next =>
        obtain ⟨m, hm, hI2⟩ := h2
        exact wp_whG I step f m ρ2 s2 (by omega) hI2
      | brk => exact (wp_ok _ _).mpr h2
      | ret t => exact (wp_ok _ _).mpr h2
    | false =>
      simp only [Bool.false_eq_true, if_false] at h1 ⊢
      exact (wp_ok _ _).mpr h1
theorem wp_wh {t : Tst} {b : Sx} {Q : Fl × Env → Store → Prop} {ρ : Env} {s : Store} (I : Nat → Env → Store → Prop) (n : Nat) (hn : n < 100000) (h0 : I n ρ s)
    (step : ∀ n ρ s, I n ρ s → Wp (t ρ s) fun c s => if c = true then Wp (b ρ s) fun r s => match r with
      | (.next, ρ) => ∃ m, m < n ∧ I m ρ s
      | (.brk, ρ) => Q (.next, ρ) s
      | r => Q r s else Q (.next, ρ) s) : Wp (sWh t b ρ s) Q := wp_whG I step _ n ρ s hn h0
theorem atI_last {xs : List Val} {z : Val} (h : xs.getLast? = some z) : atI xs (-1) = some z := by
  have hne : xs ≠ [] := by rintro rfl; cases h
  have hl : 0 < xs.length := List.length_pos_iff.mpr hne
  unfold atI ixN
  rw [if_neg (by decide), if_pos (by omega)]
  rw [List.getLast?_eq_getElem?] at h
  rw [Option.bind_some, show ((-1 : Int) + (xs.length : Int)).toNat = xs.length - 1 by omega]
  exact h
theorem ticked_ok {R : Raw} (h : RawOk R) {n : Nat} {t : St} (ht : StOk R n t) (hn : n ≤ 10000) {k : Nat} {s : Store} (hp : PairAt R k s) (b : Bool) : F_ticked [.ref k, t.val, .bool b] s = .ok (.v (step R t (if b then .send else .answer)).1.val) s := by
  have hd : can R t (if b then Dd.send else Dd.answer) := by cases b <;> trivial
  have := stepped_ok h ht hn hp hd
  obtain ⟨i, j, hk, hi, hj⟩ := hp.ex
  apply eq_of_wp
  rw [F_ticked, wp_fn3]
  have f2 : ∀ f, fldOf [2, 14] (.v (.ref k)) f s = [(77, Val.ref i), (72, Val.ref j)].lookup f := fun f => fldOf_at hk rfl
  have f0 : ∀ cs f, cs.contains 0 = true → fldOf cs (.v (.ref i)) f s = (sndF R).lookup f := fun cs f hc => fldOf_at hi hc
  have f1 : ∀ cs f, cs.contains 1 = true → fldOf cs (.v (.ref j)) f s = (rcvF R).lookup f := fun cs f hc => fldOf_at hj hc
  have hS := h.S
  have hR := h.R
  have lt := ht.lt
  have lb := ht.lb
  have k1 := ht.a
  have k2 := ht.b
  obtain ⟨ta, tb, th, bk⟩ := t
  simp only at lt lb k1 k2
  have a1 : atI (R.S.sends.map optV) (ta : Int) = some (optV (gd R.S.sends ta none)) := atI_map none k1
  have a2 : atI (R.S.ticks.map nv) (ta : Int) = some (nv (gd R.S.ticks ta 0)) := atI_map 0 (by rw [hS.ticks.1]; exact k1)
  have b1 : atI (R.R.sends.map optV) (tb : Int) = some (optV (gd R.R.sends tb none)) := atI_map none k2
  have b2 : atI (R.R.ticks.map nv) (tb : Int) = some (nv (gd R.R.ticks tb 0)) := atI_map 0 (by rw [hR.ticks.1]; exact k2)
  cases b with
  | true =>
    simp [St.val, step, B_ticked, f2, f0, List.lookup, a1, a2]
    cases gd R.S.sends ta none <;> simp [optV, show th.length ≤ 16777215 by omega, show th.length ≤ 16777216 by omega]
  | false =>
    simp [St.val, step, B_ticked, f2, f1, List.lookup, b1, b2]
    cases gd R.R.sends tb none <;> simp [optV, show bk.length ≤ 16777215 by omega, show bk.length ≤ 16777216 by omega]
theorem passed_ok {R : Raw} (h : RawOk R) {n : Nat} {t : St} (ht : StOk R n t) {k : Nat} {s : Store} (hp : PairAt R k s) (b : Bool) (hd : can R t (if b then .passF else .passB)) :
    F_passed [.ref k, t.val, .bool b] s = .ok (.v (.tup [(step R t (if b then .passF else .passB)).1.val, optV (step R t (if b then .passF else .passB)).2])) s := by
  obtain ⟨i, j, hk, hi, hj⟩ := hp.ex
  apply eq_of_wp
  rw [F_passed, wp_fn3]
  have f2 : ∀ f, fldOf [2, 14] (.v (.ref k)) f s = [(77, Val.ref i), (72, Val.ref j)].lookup f := fun f => fldOf_at hk rfl
  have f0 : ∀ cs f, cs.contains 0 = true → fldOf cs (.v (.ref i)) f s = (sndF R).lookup f := fun cs f hc => fldOf_at hi hc
  have f1 : ∀ cs f, cs.contains 1 = true → fldOf cs (.v (.ref j)) f s = (rcvF R).lookup f := fun cs f hc => fldOf_at hj hc
  have hS := h.S
  have hR := h.R
  have k1 := ht.a
  have k2 := ht.b
  obtain ⟨ta, tb, th, bk⟩ := t
  simp only at k1 k2
  have a3 : atI (R.S.hears.map fun r => rowV r) (ta : Int) = some (rowV (gd R.S.hears ta [])) := atI_map [] (by rw [hS.hears.1]; exact k1)
  have b3 : atI (R.R.hears.map fun r => rowV r) (tb : Int) = some (rowV (gd R.R.hears tb [])) := atI_map [] (by rw [hR.hears.1]; exact k2)
  have b4 : atI (R.R.gives.map fun r => lettersV r) (tb : Int) = some (lettersV (gd R.R.gives tb [])) := atI_map [] (by rw [hR.gives.1]; exact k2)
  cases b with
  | true =>
    cases th with
    | nil => exact absurd rfl hd
    | cons x th =>
      have hx : x < R.f := ht.th x (List.mem_cons_self ..)
      have hg := hR.gives.2 _ (getD_mem (l := R.R.gives) (i := tb) [] (by rw [hR.gives.1]; exact k2))
      have hh := hR.hears.2 _ (getD_mem (l := R.R.hears) (i := tb) [] (by rw [hR.hears.1]; exact k2))
      have c1 : atI ((gd R.R.gives tb []).map optV) (x : Int) = some (optV (gd (gd R.R.gives tb []) x none)) := atI_map none (by rw [hg.1]; exact hx)
      have c2 : atI ((gd R.R.hears tb []).map nv) (x : Int) = some (nv (gd (gd R.R.hears tb []) x 0)) := atI_map 0 (by rw [hh.1]; exact hx)
      have c3 : cutV (nv x :: th.map nv) (some 1) none = th.map nv := by rw [show (some (1 : Int)) = some ((1 : Nat) : Int) from rfl, cutV_from]; rfl
      simp [St.val, step, B_passed, f2, f1, List.lookup, b3, b4, c1, c2, c3, hd0]
  | false =>
    cases bk with
    | nil => exact absurd rfl hd
    | cons x bk =>
      have hx : x < R.b := ht.bk x (List.mem_cons_self ..)
      have hh := hS.hears.2 _ (getD_mem (l := R.S.hears) (i := ta) [] (by rw [hS.hears.1]; exact k1))
      have c2 : atI ((gd R.S.hears ta []).map nv) (x : Int) = some (nv (gd (gd R.S.hears ta []) x 0)) := atI_map 0 (by rw [hh.1]; exact hx)
      have c3 : cutV (nv x :: bk.map nv) (some 1) none = bk.map nv := by rw [show (some (1 : Int)) = some ((1 : Nat) : Int) from rfl, cutV_from]; rfl
      simp [St.val, step, B_passed, f2, f0, List.lookup, a3, c2, c3, hd0, optV]
structure Xx where
  t : St
  vs : List Nat
  fr : Bool
def frS (R : Raw) (t : St) : Bool := (gd R.S.takes t.a none).isSome
def stepX (R : Raw) (x : Xx) (d : Dd) : Xx := ⟨(step R x.t d).1, x.vs ++ (step R x.t d).2.toList, x.fr || frS R (step R x.t d).1⟩
def drX (R : Raw) (d : Dd) : Nat → Xx → Xx
  | 0, x => x
  | n + 1, x => drX R d n (stepX R x d)
def emptyX (R : Raw) (x : Xx) : Xx := drX R .passB (drX R .passF x.t.th.length x).t.bk.length (drX R .passF x.t.th.length x)
def optX (R : Raw) (x : Xx) (b : Bool) : Xx := if (if b then x.t.th else x.t.bk) = [] then x else stepX R x (if b then .passF else .passB)
def roundX (R : Raw) (x : Xx) : Xx := optX R (stepX R (optX R (stepX R x .send) true) .answer) false
abbrev Sn := List ((Nat × Nat) × Nat)
def loopX (R : Raw) : Nat → Sn → Xx → Option (Sn × Xx)
  | 0, _, _ => none
  | n + 1, sn, x => if (sn.lookup (x.t.a, x.t.b)).isSome then some (sn, x) else loopX R n (sn ++ [((x.t.a, x.t.b), x.vs.length)]) (roundX R x)
def restM (R : Raw) (t : St) : List Nat × Bool × Bool := match loopX R 401 [] (emptyX R ⟨t, [], frS R t⟩) with
  | some (sn, z) => (z.vs, decide ((sn.lookup (z.t.a, z.t.b)).getD 0 < z.vs.length), z.fr)
  | none => ([], false, false)
/-- both channels are empty -/
def Em (t : St) : Prop := t.th = [] ∧ t.bk = []
theorem stepF_ok {R : Raw} (h : RawOk R) {n : Nat} {t : St} (ht : StOk R n t) (hd : t.th ≠ []) : StOk R n (step R t .passF).1 := by
  have q := step_ok h ht (d := .passF) hd
  refine ⟨q.a, q.b, q.th, q.bk, ?_, ht.lb⟩
  show t.th.tail.length ≤ n
  have := ht.lt
  rw [List.length_tail]; omega
theorem stepB_ok {R : Raw} (h : RawOk R) {n : Nat} {t : St} (ht : StOk R n t) (hd : t.bk ≠ []) : StOk R n (step R t .passB).1 := by
  have q := step_ok h ht (d := .passB) hd
  refine ⟨q.a, q.b, q.th, q.bk, ht.lt, ?_⟩
  show t.bk.tail.length ≤ n
  have := ht.lb
  rw [List.length_tail]; omega
theorem round_ok {R : Raw} (h : RawOk R) {x : Xx} (ht : StOk R 0 x.t) : StOk R 0 (roundX R x).t ∧ (roundX R x).vs.length ≤ x.vs.length + 1 := by
  have e0 : x.t.th = [] := List.eq_nil_of_length_eq_zero (Nat.le_zero.mp ht.lt)
  have e1 : x.t.bk = [] := List.eq_nil_of_length_eq_zero (Nat.le_zero.mp ht.lb)
  have h1 : StOk R 1 (stepX R x .send).t := step_ok h ht (d := .send) trivial
  have b1 : (stepX R x .send).t.bk = [] := e1
  have v1 : (stepX R x .send).vs = x.vs := by simp [stepX, step]
  have h2 : StOk R 1 (optX R (stepX R x .send) true).t ∧ (optX R (stepX R x .send) true).t.th = [] ∧ (optX R (stepX R x .send) true).t.bk = [] ∧ (optX R (stepX R x .send) true).vs.length ≤ x.vs.length + 1 := by
    generalize stepX R x .send = y at h1 b1 v1
    unfold optX
    simp only [if_true]
    by_cases hy : y.t.th = []
    · rw [if_pos hy]; exact ⟨h1, hy, b1, by rw [v1]; omega⟩
    · rw [if_neg hy]
      refine ⟨stepF_ok h h1 hy, ?_, b1, ?_⟩
      · show y.t.th.tail = []
        have := h1.lt
        exact List.eq_nil_of_length_eq_zero (by rw [List.length_tail]; omega)
      · show (y.vs ++ _).length ≤ _
        rw [v1, List.length_append]
        cases (step R y.t .passF).2 <;> simp
  show StOk R 0 (optX R (stepX R (optX R (stepX R x .send) true) .answer) false).t ∧ (optX R (stepX R (optX R (stepX R x .send) true) .answer) false).vs.length ≤ x.vs.length + 1
  generalize optX R (stepX R x .send) true = y at h2
  obtain ⟨h2, t2, k2, v2⟩ := h2
  have h2' : StOk R 0 y.t := ⟨h2.a, h2.b, h2.th, h2.bk, by rw [t2]; exact Nat.le_refl _, by rw [k2]; exact Nat.le_refl _⟩
  have h3 : StOk R 1 (stepX R y .answer).t := step_ok h h2' (d := .answer) trivial
  have t3 : (stepX R y .answer).t.th = [] := t2
  have v3 : (stepX R y .answer).vs = y.vs := by simp [stepX, step]
  generalize stepX R y .answer = z at h3 t3 v3
  unfold optX
  simp only [Bool.false_eq_true, if_false]
  by_cases hz : z.t.bk = []
  · rw [if_pos hz]
    exact ⟨⟨h3.a, h3.b, h3.th, h3.bk, by rw [t3]; exact Nat.le_refl _, by rw [hz]; exact Nat.le_refl _⟩, by rw [v3]; exact v2⟩
  · rw [if_neg hz]
    have h4 := stepB_ok h h3 hz
    refine ⟨⟨h4.a, h4.b, h4.th, h4.bk, ?_, ?_⟩, ?_⟩
    · show z.t.th.length ≤ 0
      rw [t3]; exact Nat.le_refl _
    · show z.t.bk.tail.length ≤ 0
      have := h3.lb
      rw [List.length_tail]; omega
    · show (z.vs ++ (step R z.t .passB).2.toList).length ≤ _
      rw [v3]
      simpa [step] using v2
theorem dr_ok {R : Raw} (h : RawOk R) (b : Bool) : ∀ (m n : Nat) (x : Xx), StOk R n x.t → (if b then x.t.th else x.t.bk).length = m → StOk R n (drX R (if b then .passF else .passB) m x).t ∧ (if b then (drX R (if b then .passF else .passB) m x).t.th else (drX R (if b then .passF else .passB) m x).t.bk) = [] ∧
      (if b then (drX R (if b then .passF else .passB) m x).t.bk = x.t.bk else (drX R (if b then .passF else .passB) m x).t.th = x.t.th) ∧ (drX R (if b then .passF else .passB) m x).vs.length ≤ x.vs.length + m
  | 0, n, x, ht, hm => ⟨ht, List.eq_nil_of_length_eq_zero hm, by cases b <;> rfl, Nat.le_refl _⟩
  | m + 1, n, x, ht, hm => by
    have hne : (if b then x.t.th else x.t.bk) ≠ [] := by intro e; rw [e] at hm; cases hm
    have h1 : StOk R n (stepX R x (if b then .passF else .passB)).t := by
      cases b with
      | true => exact stepF_ok h ht hne
      | false => exact stepB_ok h ht hne
    have h2 : (if b then (stepX R x (if b then .passF else .passB)).t.th else (stepX R x (if b then .passF else .passB)).t.bk).length = m := by
      cases b with
      | true => show x.t.th.tail.length = m; have hm : x.t.th.length = m + 1 := hm; rw [List.length_tail]; omega
      | false => show x.t.bk.tail.length = m; have hm : x.t.bk.length = m + 1 := hm; rw [List.length_tail]; omega
    obtain ⟨q1, q2, q3, q4⟩ := dr_ok h b m n _ h1 h2
    refine ⟨q1, q2, ?_, ?_⟩
    · cases b with
      | true => exact q3
      | false => exact q3
    · refine Nat.le_trans q4 ?_
      show (x.vs ++ _).length + m ≤ _
      rw [List.length_append]
      cases (step R x.t (if b then .passF else .passB)).2 <;> simp <;> omega
theorem empty_ok {R : Raw} (h : RawOk R) {n : Nat} {x : Xx} (ht : StOk R n x.t) : StOk R 0 (emptyX R x).t ∧ (emptyX R x).vs.length ≤ x.vs.length + n + n := by
  obtain ⟨a1, a2, a3, a4⟩ := dr_ok h true x.t.th.length n x ht rfl
  simp only [if_true] at a1 a2 a3 a4
  unfold emptyX
  generalize drX R .passF x.t.th.length x = y at a1 a2 a3 a4
  obtain ⟨b1, b2, b3, b4⟩ := dr_ok h false y.t.bk.length n y a1 rfl
  simp only [Bool.false_eq_true, if_false] at b1 b2 b3 b4
  have l1 := ht.lt
  have l2 := ht.lb
  refine ⟨⟨b1.a, b1.b, b1.th, b1.bk, by rw [b3, a2]; exact Nat.le_refl _, by rw [b2]; exact Nat.le_refl _⟩, ?_⟩
  have e4 := congrArg List.length a3
  omega
theorem nodup_le : ∀ (N : Nat) (l : List Nat), l.Nodup → (∀ x ∈ l, x < N) → l.length ≤ N
  | 0, l, _, h => by
    cases l with
    | nil => exact Nat.le_refl _
    | cons x l => exact absurd (h x List.mem_cons_self) (Nat.not_lt_zero _)
  | N + 1, l, nd, h => by
    have h1 := nodup_le N (l.erase N) (nd.erase N) fun x hx => by
      have := (nd.mem_erase_iff).mp hx
      have := h x this.2
      omega
    by_cases hm : N ∈ l
    · rw [List.length_erase_of_mem hm] at h1; omega
    · rw [List.erase_of_not_mem hm] at h1; omega
theorem seen_le {l : List (Nat × Nat)} (nd : l.Nodup) (h : ∀ p ∈ l, p.1 < 20 ∧ p.2 < 20) : l.length ≤ 400 := by
  have := nodup_le 400 (l.map fun p => 20 * p.1 + p.2) (by
    refine List.pairwise_map.mpr (List.Pairwise.imp_of_mem (fun {p q} hp hq hne e => hne ?_) nd)
    have h1 := h p hp
    have h2 := h q hq
    have e1 : p.1 = q.1 := by omega
    have e2 : p.2 = q.2 := by omega
    exact Prod.ext e1 e2) fun x hx => by
      obtain ⟨p, hp, rfl⟩ := List.mem_map.mp hx
      have := h p hp
      omega
  rwa [List.length_map] at this
theorem look_none {sn : Sn} {k : Nat × Nat} : sn.lookup k = none → k ∉ sn.map (·.1) := fun h hm => by
  induction sn with
  | nil => simp at hm
  | cons p r ih =>
    obtain ⟨a, b⟩ := p
    rw [List.lookup_cons] at h
    rw [List.map_cons] at hm
    by_cases e : k = a
    · subst e; simp at h
    · rw [beq_eq_false_iff_ne.mpr e] at h
      rcases List.mem_cons.mp hm with q | q
      · exact e q
      · exact ih h q
theorem loop_ends {R : Raw} (h : RawOk R) : ∀ (n : Nat) (sn : Sn) (x : Xx), (sn.map (·.1)).Nodup → (∀ p ∈ sn.map (·.1), p.1 < 20 ∧ p.2 < 20) → StOk R 0 x.t → 401 ≤ n + sn.length → ∃ sn' z, loopX R n sn x = some (sn', z) ∧ (∃ m, sn'.lookup (z.t.a, z.t.b) = some m) ∧ z.vs.length ≤ x.vs.length + (sn'.length - sn.length) ∧ sn'.length ≤ 400 ∧ sn.length ≤ sn'.length
  | 0, sn, x, nd, hb, ht, hn => by
    have := seen_le nd hb
    rw [List.length_map] at this
    omega
  | n + 1, sn, x, nd, hb, ht, hn => by
    unfold loopX
    have h16 := seen_le nd hb
    rw [List.length_map] at h16
    cases e : sn.lookup (x.t.a, x.t.b) with
    | some m =>
      rw [if_pos (by rfl)]
      exact ⟨sn, x, rfl, ⟨m, e⟩, by omega, h16, Nat.le_refl _⟩
    | none =>
      rw [if_neg (by simp)]
      obtain ⟨r1, r2⟩ := round_ok h ht
      have hl := look_none e
      obtain ⟨sn', z, q1, q2, q3, q4, q5⟩ := loop_ends h n (sn ++ [((x.t.a, x.t.b), x.vs.length)]) (roundX R x) (by
        rw [List.map_append]
        refine List.nodup_append.mpr ⟨nd, by simp, fun a ha b hb' => ?_⟩
        simp at hb'
        subst hb'
        exact fun e2 => hl (by rw [← e2]; exact ha)) (fun p hp => by
          rw [List.map_append] at hp
          rcases List.mem_append.mp hp with hp | hp
          · exact hb p hp
          · simp at hp
            subst hp
            exact ⟨Nat.lt_of_lt_of_le ht.a h.S.len.2, Nat.lt_of_lt_of_le ht.b h.R.len.2⟩) r1 (by rw [List.length_append, List.length_singleton]; omega)
      rw [List.length_append, List.length_singleton] at q3 q5
      exact ⟨sn', z, q1, q2, by omega, q4, by omega⟩
end
section
set_option Elab.async false
set_option linter.all false
set_option maxRecDepth 100000
set_option maxHeartbeats 4000000
theorem lk_app {q : Nat} {o : Ob} {s : Store} (h : s[q]? = some o) (l : List Ob) : (s ++ l)[q]? = some o := by
  rw [List.getElem?_append_left (List.getElem?_eq_some_iff.mp h).1]; exact h
theorem lk_lt {q : Nat} {o : Ob} {s : Store} (h : s[q]? = some o) : q < s.length := (List.getElem?_eq_some_iff.mp h).1
theorem lk_seq {q : Nat} {X : List Val} {s : Store} (h : s[q]? = some (.lst X)) : seqOf (.v (.ref q)) s = some X := by simp [seqOf, h]
theorem append_at {i q : Nat} {e : Ev} {ρ : Env} {s : Store} {X : List Val} {y : Val} {Q : Tv → Store → Prop} (h1 : ρ[i]? = some (some (.ref q))) (hq : s[q]? = some (.lst X)) (he : e ρ s = .ok (.v y) s) (hl : X.length < 16777216) (k : Q (.v .non) (s.set q (.lst (X ++ [y])))) : Wp (eAppend (eV i) e ρ s) Q := by
  unfold eAppend
  have r : refL (.v (.ref q)) s = some (q, X) := by simp [refL, hq]
  simp only [eV_r, h1, bind_ok, r, Option.isSome_some, if_true, he, mat_v, if_pos (show X.length < LIM from hl), updL, wp_ok]
  exact k
structure WV (s s1 : Store) (wr vr : Nat) (R : Raw) (x : Xx) (ws : List St) : Prop where
  ex : Ex s s1
  hw : s1[wr]? = some (.lst (ws.map St.val))
  hv : s1[vr]? = some (.lst (x.vs.map nv))
  last : ws.getLast? = some x.t
  any : ws.any (frS R) = x.fr
  lw : s.length ≤ wr
  lv : s.length ≤ vr
  ne : wr ≠ vr
  oka : ∀ w ∈ ws, w.a < R.S.sends.length
theorem oka_snoc {R : Raw} {ws : List St} {w : St} (h : ∀ w ∈ ws, w.a < R.S.sends.length) (hw : w.a < R.S.sends.length) : ∀ w' ∈ ws ++ [w], w'.a < R.S.sends.length := fun w' hm => by
  rcases List.mem_append.mp hm with hm | hm
  · exact h w' hm
  · simp at hm; subst hm; exact hw
theorem WV.at {s s1 : Store} {wr vr : Nat} {R : Raw} {x : Xx} {ws : List St} (W : WV s s1 wr vr R x ws) : atI (ws.map St.val) (-1) = some x.t.val := atI_last (by rw [List.getLast?_map, W.last] <;> rfl)
theorem last_snoc {α : Type} (l : List α) (a : α) : (l ++ [a]).getLast? = some a := by simp
theorem WV.push0 {s s1 : Store} {wr vr : Nat} {R : Raw} {x : Xx} {ws : List St} (W : WV s s1 wr vr R x ws) {d : Dd} (hd : (step R x.t d).2 = none) (ha : (step R x.t d).1.a < R.S.sends.length) : WV s (s1.set wr (.lst (ws.map St.val ++ [(step R x.t d).1.val]))) wr vr R (stepX R x d) (ws ++ [(step R x.t d).1]) := by
  refine ⟨W.ex.set W.lw, ?_, ?_, last_snoc _ _, ?_, W.lw, W.lv, W.ne, oka_snoc W.oka ha⟩
  · rw [List.getElem?_set_self (lk_lt W.hw), List.map_append]; rfl
  · rw [List.getElem?_set_ne W.ne, W.hv]
    simp [stepX, hd]
  · rw [List.any_append, W.any]
    simp [stepX]
theorem WV.push1 {s s1 : Store} {wr vr : Nat} {R : Raw} {x : Xx} {ws : List St} (W : WV s s1 wr vr R x ws) {d : Dd} {v : Nat} (hd : (step R x.t d).2 = some v) (ha : (step R x.t d).1.a < R.S.sends.length) : WV s ((s1.set wr (.lst (ws.map St.val ++ [(step R x.t d).1.val]))).set vr (.lst (x.vs.map nv ++ [nv v]))) wr vr R (stepX R x d) (ws ++ [(step R x.t d).1]) := by
  have l2 : vr < (s1.set wr (.lst (ws.map St.val ++ [(step R x.t d).1.val]))).length := by rw [List.length_set]; exact lk_lt W.hv
  refine ⟨(W.ex.set W.lw).set W.lv, ?_, ?_, last_snoc _ _, ?_, W.lw, W.lv, W.ne, oka_snoc W.oka ha⟩
  · rw [List.getElem?_set_ne (Ne.symm W.ne), List.getElem?_set_self (lk_lt W.hw), List.map_append]; rfl
  · rw [List.getElem?_set_self l2]
    simp [stepX, hd]
  · rw [List.any_append, W.any]
    simp [stepX]
theorem stv_2 (t : St) : ∃ a b, t.val = .tup [a, b, rowV t.th, rowV t.bk] := ⟨_, _, rfl⟩
theorem ne_row (l : List Nat) (s : Store) : cNe (.v (rowV l)) (.v (.tup [])) s = .ok (.v (.bool (!l.isEmpty))) s := by
  rw [cNe_r, eqT_rn]; rfl
theorem emptied_ok {R : Raw} (h : RawOk R) {n : Nat} {t : St} (ht : StOk R n t) (hn : n ≤ 10000) {k : Nat} {s : Store} (hp : PairAt R k s) :
    Wp (F_emptied [.ref k, t.val] s) fun x s' => ∃ wr vr ws, x = .v (.tup [.ref wr, .ref vr]) ∧ WV s s' wr vr R (emptyX R ⟨t, [], frS R t⟩) ws ∧ ws.length ≤ 30000 := by
  rw [F_emptied, wp_fn2]
  unfold B_emptied
  refine seq_step ?_
  simp only [sAsg_r, eLst_r, aCons_r, aNil_r, eV_r, bind_ok, mat_v, mat_l, List.getElem?_cons_succ, List.getElem?_cons_zero, List.length_cons, List.length_nil, LIM_eq, Nat.reduceAdd, Nat.reduceLeDiff, if_true, gV_r, wp_ok, List.set_cons_succ, List.set_cons_zero, Nat.reduceSub, List.replicate]
  refine seq_step ?_
  simp only [sAsg_r, eLst_r, aNil_r, bind_ok, mat_l, List.length_nil, LIM_eq, Nat.zero_le, if_true, gV_r, wp_ok, List.set_cons_succ, List.set_cons_zero]
  have W0 : WV s (s ++ [.lst [t.val]] ++ [.lst []]) s.length (s ++ [Ob.lst [t.val]]).length R ⟨t, [], frS R t⟩ [t] := by
    refine ⟨by rw [List.append_assoc]; exact Ex.app _ _, ?_, by simp, rfl, by simp, Nat.le_refl _, by simp, by simp, fun w hw => by simp at hw; subst hw; exact ht.a⟩
    rw [List.append_assoc, List.getElem?_append_right (Nat.le_refl _), Nat.sub_self] <;> rfl
  generalize s ++ [.lst [t.val]] ++ [.lst []] = s1 at W0
  generalize (s ++ [Ob.lst [t.val]]).length = vr at W0
  generalize s.length = wr at W0
  have hl1 := ht.lt
  have hl2 := ht.lb
  refine seq_step ((wp_wh (fun m ρ s2 => ∃ x ws, WV s s2 wr vr R x ws ∧ StOk R n x.t ∧ x.t.th.length = m ∧ x.t.bk.length ≤ n ∧ ws.length + m ≤ 1 + n ∧ x.vs.length + m ≤ n ∧ drX R .passF m x = drX R .passF t.th.length ⟨t, [], frS R t⟩ ∧ ∃ v1 v4, ρ = [some (.ref k), some v1, some (.ref wr), some (.ref vr), v4])
    t.th.length (by omega) ⟨_, [t], W0, ht, rfl, hl2, by simp; omega, by simp; omega, rfl, _, _, rfl⟩ (Q := fun r s2 => ∃ x ws, WV s s2 wr vr R x ws ∧ StOk R n x.t ∧ ws.length ≤ 1 + n ∧ x.vs.length ≤ n ∧ x = drX R .passF t.th.length ⟨t, [], frS R t⟩ ∧ ∃ v1 v4, r = (.next, [some (.ref k), some v1, some (.ref wr), some (.ref vr), v4])) fun m ρ s2 ⟨x, ws, W, hx, hm, hbk, hw, hvl, hd, v1, v4, e⟩ => ?_).mono fun r s2 ⟨x, ws, W, hx, hw, hvl, hd, v1, v4, e⟩ => ?_)
  · subst e
    obtain ⟨xa, xb, xe⟩ := stv_2 x.t
    have hat := W.at
    rw [xe] at hat
    simp only [tB_r, eBin_r, eV_r, eNeg_r, eC_r, eTup_r, aNil_r, bind_ok, List.getElem?_cons_succ, List.getElem?_cons_zero, oIdx_r, lk_seq W.hw, show (-(1 : Int)) = -1 from rfl, hat, seqOf_t, atI_2, List.length_nil, LIM_eq, Nat.zero_le, if_true, ne_row, wp_ok]
    by_cases hne : x.t.th = []
    · rw [hne]
      simp only [List.isEmpty_nil, Bool.not_true, Bool.false_eq_true, if_false]
      rw [hne] at hm
      subst hm
      exact ⟨x, ws, W, hx, by simpa using hw, by simpa using hvl, hd, v1, v4, rfl⟩
    · have hm1 : ∃ m', m = m' + 1 := ⟨m - 1, by have := List.length_pos_iff.mpr hne; omega⟩
      obtain ⟨m', rfl⟩ := hm1
      simp only [List.isEmpty_eq_false_iff.mpr hne, Bool.not_false, if_true]
      have pk := passed_ok h hx (hp.ex' W.ex) true (t := x.t) hne
      simp only [if_true] at pk
      refine seq_step ?_
      simp only [sAsg_r, eCall_r, aCons_r, aNil_r, eBin_r, eV_r, eNeg_r, eC_r, bind_ok, mat_v, List.getElem?_cons_succ, List.getElem?_cons_zero, oIdx_r, lk_seq W.hw, show (-(1 : Int)) = -1 from rfl, W.at, pk, gT_r, setAll_c, setAll_n, wp_ok, List.set_cons_succ, List.set_cons_zero]
      refine seq_step ?_
      simp only [sExp_r, wp_bind]
      refine append_at (q := wr) (X := ws.map St.val) (y := (step R x.t .passF).1.val) rfl W.hw (by simp) (by rw [List.length_map]; omega) ?_
      have hx' := stepF_ok h hx hne
      have htl : (step R x.t .passF).1.th.length = m' := by show x.t.th.tail.length = m'; rw [List.length_tail]; omega
      cases hv : (step R x.t .passF).2 with
      | none =>
        have W2 := W.push0 (d := .passF) hv hx'.a
        simp only [wp_ok, optV, sIf_r, tB_r, eBin_r, eV_r, eC_r, bind_ok, List.getElem?_cons_succ, List.getElem?_cons_zero, cNotN_r, isN_non, Bool.not_true, Bool.false_eq_true, if_false, sNop_r]
        exact ⟨m', Nat.lt_succ_self _, _, _, W2, hx', htl, hbk, by rw [List.length_append, List.length_singleton]; omega, by simp [stepX, hv]; omega, hd, _, _, rfl⟩
      | some v =>
        have W2 := W.push1 (d := .passF) hv hx'.a
        simp only [wp_ok, optV, sIf_r, tB_r, eBin_r, eV_r, eC_r, bind_ok, List.getElem?_cons_succ, List.getElem?_cons_zero, cNotN_r, isN_int, Bool.not_false, if_true, sExp_r, wp_bind]
        refine append_at (q := vr) (X := x.vs.map nv) (y := nv v) rfl (by rw [List.getElem?_set_ne W.ne]; exact W.hv) (by simp) (by rw [List.length_map]; omega) ?_
        exact ⟨m', Nat.lt_succ_self _, _, _, W2, hx', htl, hbk, by rw [List.length_append, List.length_singleton]; omega, by simp [stepX, hv]; omega, hd, _, _, rfl⟩
  · subst e
    try dsimp only
    have hE : emptyX R ⟨t, [], frS R t⟩ = drX R .passB x.t.bk.length x := by unfold emptyX; rw [hd]
    rw [hE]
    clear hd hE
    have lb2 := hx.lb
    refine seq_step ((wp_wh (fun m ρ s2 => ∃ y ws, WV s s2 wr vr R y ws ∧ StOk R n y.t ∧ y.t.bk.length = m ∧ ws.length + m ≤ 1 + n + n ∧ drX R .passB m y = drX R .passB x.t.bk.length x ∧ ∃ v1 v4, ρ = [some (.ref k), some v1, some (.ref wr), some (.ref vr), v4])
      x.t.bk.length (by omega) ⟨_, ws, W, hx, rfl, by omega, rfl, _, _, rfl⟩ (Q := fun r s2 => ∃ y ws, WV s s2 wr vr R y ws ∧ ws.length ≤ 1 + n + n ∧ y = drX R .passB x.t.bk.length x ∧ ∃ v1 v4, r = (.next, [some (.ref k), some v1, some (.ref wr), some (.ref vr), v4])) fun m ρ s2 ⟨x, ws, W, hx, hm, hw, hd, v1, v4, e⟩ => ?_).mono fun r s2 ⟨y, ws, W, hw, hd, v1, v4, e⟩ => ?_)
    · subst e
      obtain ⟨xa, xb, xe⟩ := stv_2 x.t
      have hat := W.at
      rw [xe] at hat
      simp only [tB_r, eBin_r, eV_r, eNeg_r, eC_r, eTup_r, aNil_r, bind_ok, List.getElem?_cons_succ, List.getElem?_cons_zero, oIdx_r, lk_seq W.hw, show (-(1 : Int)) = -1 from rfl, hat, seqOf_t, atI_3, List.length_nil, LIM_eq, Nat.zero_le, if_true, ne_row, wp_ok]
      by_cases hne : x.t.bk = []
      · rw [hne]
        simp only [List.isEmpty_nil, Bool.not_true, Bool.false_eq_true, if_false]
        rw [hne] at hm
        subst hm
        exact ⟨x, ws, W, by simpa using hw, hd, v1, v4, rfl⟩
      · have hm1 : ∃ m', m = m' + 1 := ⟨m - 1, by have := List.length_pos_iff.mpr hne; omega⟩
        obtain ⟨m', rfl⟩ := hm1
        simp only [List.isEmpty_eq_false_iff.mpr hne, Bool.not_false, if_true]
        have pk := passed_ok h hx (hp.ex' W.ex) false (t := x.t) hne
        simp only [Bool.false_eq_true, if_false] at pk
        have hx' := stepB_ok h hx hne
        have htl : (step R x.t .passB).1.bk.length = m' := by show x.t.bk.tail.length = m'; rw [List.length_tail]; omega
        have W2 := W.push0 (d := .passB) rfl hx'.a
        simp only [sExp_r, wp_bind]
        refine append_at (q := wr) (X := ws.map St.val) (y := (step R x.t .passB).1.val) rfl W.hw ?_ (by rw [List.length_map]; omega) ?_
        · simp only [eCall_r, aCons_r, aNil_r, eBin_r, eV_r, eNeg_r, eC_r, bind_ok, mat_v, List.getElem?_cons_succ, List.getElem?_cons_zero, oIdx_r, lk_seq W.hw, show (-(1 : Int)) = -1 from rfl, W.at, pk, seqOf_t, atI_0]
        · simp only [wp_ok]
          exact ⟨m', Nat.lt_succ_self _, _, _, W2, hx', htl, by rw [List.length_append, List.length_singleton]; omega, hd, _, _, rfl⟩
    · subst e
      simp only [sRet_r, eTup_r, aCons_r, aNil_r, eV_r, bind_ok, mat_v, List.getElem?_cons_succ, List.getElem?_cons_zero, List.length_cons, List.length_nil, LIM_eq, Nat.reduceAdd, Nat.reduceLeDiff, if_true, wp_ok, FinQ_r]
      rw [← hd]
      exact ⟨wr, vr, ws, rfl, W, by omega⟩
theorem free_ok {R : Raw} (h : RawOk R) {t : St} (k1 : t.a < R.S.sends.length) {k : Nat} {s : Store} (hp : PairAt R k s) : F_is_free [.ref k, t.val] s = .ok (.v (.bool (frS R t))) s := by
  obtain ⟨i, j, hk, hi, hj⟩ := hp.ex
  apply eq_of_wp
  rw [F_is_free, wp_fn2]
  have f2 : ∀ f, fldOf [2, 14] (.v (.ref k)) f s = [(77, Val.ref i), (72, Val.ref j)].lookup f := fun f => fldOf_at hk rfl
  have f0 : ∀ cs f, cs.contains 0 = true → fldOf cs (.v (.ref i)) f s = (sndF R).lookup f := fun cs f hc => fldOf_at hi hc
  have a4 : atI (R.S.takes.map takeV) (t.a : Int) = some (takeV (gd R.S.takes t.a none)) := atI_map none (by rw [h.S.takes.1]; exact k1)
  simp [B_is_free, St.val, f2, f0, List.lookup, a4, frS]
  cases gd R.S.takes t.a none <;> simp [takeV, isN]
end
section
set_option Elab.async false
set_option linter.all false
set_option maxRecDepth 100000
set_option maxHeartbeats 4000000
structure WR (s s1 : Store) (wr : Nat) (R : Raw) (x y : Xx) (ws : List St) : Prop where
  ex : Ex s s1
  hw : s1[wr]? = some (.lst (ws.map St.val))
  last : ws.getLast? = some y.t
  any : (x.fr || ws.any (frS R)) = y.fr
  lw : s.length ≤ wr
  oka : ∀ w ∈ ws, w.a < R.S.sends.length
theorem WR.at {s s1 : Store} {wr : Nat} {R : Raw} {x y : Xx} {ws : List St} (W : WR s s1 wr R x y ws) : atI (ws.map St.val) (-1) = some y.t.val := atI_last (by rw [List.getLast?_map, W.last] <;> rfl)
theorem WR.push {s s1 : Store} {wr : Nat} {R : Raw} {x y : Xx} {ws : List St} (W : WR s s1 wr R x y ws) {d : Dd} (ha : (step R y.t d).1.a < R.S.sends.length) : WR s (s1.set wr (.lst (ws.map St.val ++ [(step R y.t d).1.val]))) wr R x (stepX R y d) (ws ++ [(step R y.t d).1]) := by
  refine ⟨W.ex.set W.lw, ?_, last_snoc _ _, ?_, W.lw, oka_snoc W.oka ha⟩
  · rw [List.getElem?_set_self (lk_lt W.hw), List.map_append]; rfl
  · rw [List.any_append, ← Bool.or_assoc, W.any]
    simp [stepX]
theorem WR.ex2 {s s1 s2 : Store} {wr : Nat} {R : Raw} {x y : Xx} {ws : List St} (W : WR s s1 wr R x y ws) (e : Ex s1 s2) : WR s s2 wr R x y ws := ⟨W.ex.trans e, e.at W.hw, W.last, W.any, W.lw, W.oka⟩
theorem round_of_ok {R : Raw} (h : RawOk R) {x : Xx} (ht : StOk R 0 x.t) {k : Nat} {s : Store} (hp : PairAt R k s) :
    Wp (F_round_of [.ref k, x.t.val] s) fun r s' => ∃ wr vr ws vs, r = .v (.tup [.ref wr, .ref vr]) ∧ WR s s' wr R x (roundX R x) ws ∧ s'[vr]? = some (.lst (vs.map nv)) ∧ s.length ≤ vr ∧ x.vs ++ vs = (roundX R x).vs ∧ ws.length ≤ 4 := by
  have h1 : StOk R 1 (stepX R x .send).t := step_ok h ht (d := .send) trivial
  have b1 : (stepX R x .send).t.bk = [] := List.eq_nil_of_length_eq_zero (Nat.le_zero.mp ht.lb)
  have v1 : (stepX R x .send).vs = x.vs := by simp [stepX, step]
  rw [F_round_of, wp_fn2]
  unfold B_round_of
  have tk := ticked_ok h ht (by omega) hp true
  simp only [if_true] at tk
  refine seq_step ?_
  simp only [sAsg_r, eLst_r, eCall_r, aCons_r, aNil_r, eV_r, eC_r, bind_ok, mat_v, mat_l, List.getElem?_cons_succ, List.getElem?_cons_zero, tk, List.length_cons, List.length_nil, LIM_eq, Nat.reduceAdd, Nat.reduceLeDiff, if_true, gV_r, wp_ok, List.set_cons_succ, List.set_cons_zero, Nat.reduceSub, List.replicate]
  have W1 : WR s (s ++ [.lst [(step R x.t .send).1.val]]) s.length R x (stepX R x .send) [(step R x.t .send).1] := by
    refine ⟨Ex.app _ _, by simp, rfl, by simp [stepX], Nat.le_refl _, fun w hw => by simp at hw; subst hw; exact h1.a⟩
  generalize s ++ [Ob.lst [(step R x.t .send).1.val]] = s1 at W1
  generalize s.length = wr at W1
  refine seq_step ?_
  simp only [sAsg_r, eLst_r, aNil_r, bind_ok, mat_l, List.length_nil, LIM_eq, Nat.zero_le, if_true, gV_r, wp_ok, List.set_cons_succ, List.set_cons_zero]
  have W2 := W1.ex2 (Ex.app s1 [.lst []])
  have V2 : (s1 ++ [Ob.lst []])[s1.length]? = some (.lst (([] : List Nat).map nv)) := by simp
  have L2 := lk_lt W1.hw
  generalize s1 ++ [Ob.lst []] = s2 at W2 V2
  generalize s1.length = vr at V2 L2
  refine seq_step (Wp.mono (Q := fun r s2 => ∃ ws vs vr v1 v4, r = (.next, [some (.ref k), v1, some (.ref wr), some (.ref vr), v4]) ∧ WR s s2 wr R x (optX R (stepX R x .send) true) ws ∧ s2[vr]? = some (.lst (vs.map nv)) ∧ wr < vr ∧ x.vs ++ vs = (optX R (stepX R x .send) true).vs ∧ ws.length ≤ 2) ?_ fun r s3 ⟨ws, vs, vr, v1, v4, e, W3, V3, L3, E3, N3⟩ => ?_)
  · generalize stepX R x .send = y at W2 h1 b1 v1
    have yw : ∀ l : List Val, cNe (.v (rowV y.t.th)) (.v (.tup [])) s2 = .ok (.v (.bool (!y.t.th.isEmpty))) s2 := fun _ => ne_row _ _
    obtain ⟨xa, xb, xe⟩ := stv_2 y.t
    have hat := W2.at
    rw [xe] at hat
    simp only [sIf_r, tB_r, eBin_r, eV_r, eNeg_r, eC_r, eTup_r, aNil_r, bind_ok, List.getElem?_cons_succ, List.getElem?_cons_zero, oIdx_r, lk_seq W2.hw, show (-(1 : Int)) = -1 from rfl, hat, seqOf_t, atI_2, List.length_nil, LIM_eq, Nat.zero_le, if_true, ne_row]
    unfold optX
    simp only [if_true]
    by_cases hne : y.t.th = []
    · rw [if_pos hne, hne]
      simp only [List.isEmpty_nil, Bool.not_true, Bool.false_eq_true, if_false, sNop_r, wp_ok]
      exact ⟨_, [], vr, _, _, rfl, W2, V2, L2, by rw [v1, List.append_nil], by simp⟩
    · rw [if_neg hne]
      simp only [List.isEmpty_eq_false_iff.mpr hne, Bool.not_false, if_true]
      have pk := passed_ok h h1 (hp.ex' W2.ex) true (t := y.t) hne
      simp only [if_true] at pk
      have hx' := stepF_ok h h1 hne
      refine seq_step ?_
      simp only [sAsg_r, eCall_r, aCons_r, aNil_r, eBin_r, eV_r, eNeg_r, eC_r, bind_ok, mat_v, List.getElem?_cons_succ, List.getElem?_cons_zero, oIdx_r, lk_seq W2.hw, show (-(1 : Int)) = -1 from rfl, W2.at, pk, gT_r, setAll_c, setAll_n, wp_ok, List.set_cons_succ, List.set_cons_zero]
      refine seq_step ?_
      simp only [sExp_r, wp_bind]
      refine append_at (q := wr) (y := (step R y.t .passF).1.val) rfl W2.hw (by simp) (by simp) ?_
      have W3 := W2.push (d := .passF) hx'.a
      generalize s2.set wr _ = s3 at W3
      simp only [wp_ok]
      cases hv : (step R y.t .passF).2 with
      | none =>
        simp only [optV, sAsg_r, eIf_r, tB_r, eBin_r, eV_r, eC_r, eLst_r, aNil_r, bind_ok, List.getElem?_cons_succ, List.getElem?_cons_zero, cIsN_r, isN_non, if_true, List.length_nil, LIM_eq, Nat.zero_le, mat_l, gV_r, wp_ok, List.set_cons_succ, List.set_cons_zero]
        exact ⟨_, [], s3.length, _, _, rfl, W3.ex2 (Ex.app _ _), by simp, lk_lt W3.hw, by simp [stepX, hv, v1], by simp⟩
      | some v =>
        simp only [optV, sAsg_r, eIf_r, tB_r, eBin_r, eV_r, eC_r, eLst_r, aCons_r, aNil_r, bind_ok, mat_v, List.getElem?_cons_succ, List.getElem?_cons_zero, cIsN_r, isN_int, Bool.false_eq_true, if_false, List.length_cons, List.length_nil, LIM_eq, Nat.reduceAdd, Nat.reduceLeDiff, if_true, mat_l, gV_r, wp_ok, List.set_cons_succ, List.set_cons_zero]
        exact ⟨_, [v], s3.length, _, _, rfl, W3.ex2 (Ex.app _ _), by simp, lk_lt W3.hw, by simp [stepX, hv, v1], by simp⟩
  · subst e
    have h2 : StOk R 0 (optX R (stepX R x .send) true).t := by
      unfold optX
      simp only [if_true]
      by_cases hne : (stepX R x .send).t.th = []
      · rw [if_pos hne]
        exact ⟨h1.a, h1.b, h1.th, h1.bk, by rw [hne]; exact Nat.le_refl _, by rw [b1]; exact Nat.le_refl _⟩
      · rw [if_neg hne]
        have q := stepF_ok h h1 hne
        refine ⟨q.a, q.b, q.th, q.bk, ?_, ?_⟩
        · show (stepX R x .send).t.th.tail.length ≤ 0
          have := h1.lt
          rw [List.length_tail]; omega
        · show (stepX R x .send).t.bk.length ≤ 0
          rw [b1]; exact Nat.le_refl _
    show Wp _ _
    unfold roundX
    generalize optX R (stepX R x .send) true = y at W3 E3 h2
    have h3 : StOk R 1 (stepX R y .answer).t := step_ok h h2 (d := .answer) trivial
    have v3 : (stepX R y .answer).vs = y.vs := by simp [stepX, step]
    have tk := ticked_ok h h2 (by omega) (hp.ex' W3.ex) false
    simp only [Bool.false_eq_true, if_false] at tk
    refine seq_step ?_
    simp only [sExp_r, wp_bind]
    refine append_at (q := wr) (y := (step R y.t .answer).1.val) rfl W3.hw (by
      simp only [eCall_r, aCons_r, aNil_r, eBin_r, eV_r, eNeg_r, eC_r, bind_ok, mat_v, List.getElem?_cons_succ, List.getElem?_cons_zero, oIdx_r, lk_seq W3.hw, show (-(1 : Int)) = -1 from rfl, W3.at, tk]) (by rw [List.length_map]; omega) ?_
    have W4 := W3.push (d := .answer) h3.a
    have V4 : (s3.set wr (.lst (ws.map St.val ++ [(step R y.t .answer).1.val])))[vr]? = some (.lst (vs.map nv)) := by rw [List.getElem?_set_ne (by omega)]; exact V3
    simp only [wp_ok]
    generalize s3.set wr _ = s4 at W4 V4
    have E4 : x.vs ++ vs = (stepX R y .answer).vs := by rw [v3]; exact E3
    generalize stepX R y .answer = z at W4 h3 E4
    refine seq_step (Wp.mono (Q := fun r s5 => ∃ ws, r = (.next, [some (.ref k), v1, some (.ref wr), some (.ref vr), v4]) ∧ WR s s5 wr R x (optX R z false) ws ∧ s5[vr]? = some (.lst (vs.map nv)) ∧ x.vs ++ vs = (optX R z false).vs ∧ ws.length ≤ 4) ?_ fun r s5 ⟨ws, e, W5, V5, E5, N5⟩ => ?_)
    · obtain ⟨xa, xb, xe⟩ := stv_2 z.t
      have hat := W4.at
      rw [xe] at hat
      simp only [sIf_r, tB_r, eBin_r, eV_r, eNeg_r, eC_r, eTup_r, aNil_r, bind_ok, List.getElem?_cons_succ, List.getElem?_cons_zero, oIdx_r, lk_seq W4.hw, show (-(1 : Int)) = -1 from rfl, hat, seqOf_t, atI_3, List.length_nil, LIM_eq, Nat.zero_le, if_true, ne_row]
      unfold optX
      simp only [Bool.false_eq_true, if_false]
      by_cases hne : z.t.bk = []
      · rw [if_pos hne, hne]
        simp only [List.isEmpty_nil, Bool.not_true, Bool.false_eq_true, if_false, sNop_r, wp_ok]
        exact ⟨_, trivial, W4, V4, E4, by rw [List.length_append, List.length_singleton]; omega⟩
      · rw [if_neg hne]
        simp only [List.isEmpty_eq_false_iff.mpr hne, Bool.not_false, if_true, sExp_r, wp_bind]
        have pk := passed_ok h h3 (hp.ex' W4.ex) false (t := z.t) hne
        simp only [Bool.false_eq_true, if_false] at pk
        have hx' := stepB_ok h h3 hne
        refine append_at (q := wr) (y := (step R z.t .passB).1.val) rfl W4.hw (by
          simp only [eCall_r, aCons_r, aNil_r, eBin_r, eV_r, eNeg_r, eC_r, bind_ok, mat_v, List.getElem?_cons_succ, List.getElem?_cons_zero, oIdx_r, lk_seq W4.hw, show (-(1 : Int)) = -1 from rfl, W4.at, pk, seqOf_t, atI_0]) (by rw [List.length_map, List.length_append, List.length_singleton]; omega) ?_
        have W5 := W4.push (d := .passB) hx'.a
        simp only [wp_ok]
        exact ⟨_, trivial, W5, by rw [List.getElem?_set_ne (by omega)]; exact V4, by rw [E4]; simp [stepX, step], by rw [List.length_append, List.length_append, List.length_singleton, List.length_singleton]; omega⟩
    · subst e
      simp only [sRet_r, eTup_r, aCons_r, aNil_r, eV_r, bind_ok, mat_v, List.getElem?_cons_succ, List.getElem?_cons_zero, List.length_cons, List.length_nil, LIM_eq, Nat.reduceAdd, Nat.reduceLeDiff, if_true, wp_ok, FinQ_r]
      exact ⟨wr, vr, ws, vs, rfl, W5, V5, by have := W5.lw; omega, E5, N5⟩
end
section
set_option Elab.async false
set_option linter.all false
set_option maxRecDepth 100000
set_option maxHeartbeats 4000000
/-- one name over the items of a list in the store -/
theorem comp_ref {i j q : Nat} {e : Ev} {ρ : Env} {s : Store} {xs : List Val} (h : Val → Val) (hi : ρ[i]? = some (some (.ref q))) (hq : s[q]? = some (.lst xs)) (hl : xs.length ≤ 1000000) (he : ∀ x ∈ xs, e ((wipe ρ [j]).set j (some x)) s = .ok (.v (h x)) s) :
    eComp (ixE (eV i)) (gV j) [j] tYes e ρ s = .ok (.l (xs.map h)) s := by
  obtain ⟨f, hf, hfs⟩ := Thing.its (th := .ref q) (s := s) (.inr ⟨_, rfl, hq⟩)
  have hf0 := hfs []
  rw [List.append_nil] at hf0
  refine eq_of_wp (wp_comp (its := f) (xs := xs) (s1 := s) (by simp [hi, hf]) (fun n acc s1 => s1 = s ∧ n ≤ xs.length ∧ acc = (xs.take n).map h) (fun n acc s1 ⟨e1, _, _⟩ => by rw [e1]; exact hf0) ⟨rfl, Nat.zero_le _, rfl⟩ (fun n x acc s1 hx ⟨e1, hn, e2⟩ => ?_) fun acc s1 ⟨e1, hn, e2⟩ => ⟨by rw [e2, List.take_length], e1⟩)
  subst e1
  have hn' := (List.getElem?_eq_some_iff.mp hx).1
  simp only [gV_r, wp_ok, tYes, if_true, he x (List.mem_of_getElem? hx), mat_v]
  refine ⟨by rw [e2, List.length_map, List.length_take]; unfold LIM; omega, trivial, hn', ?_⟩
  rw [e2, take_succ hx, List.map_append]
  rfl
theorem bools_map {α : Type} (f : α → Bool) : ∀ l : List α, bools? (l.map fun t => Val.bool (f t)) = some (l.map f)
  | [] => rfl
  | x :: l => by
    show (bools? (l.map fun t => Val.bool (f t))).map (f x :: ·) = _
    rw [bools_map f l]; rfl
theorem any_map (f : St → Bool) (l : List St) : (l.map f).any id = l.any f := by
  induction l with
  | nil => rfl
  | cons x l ih => simp [List.any_cons, ih]
def kvE (p : (Nat × Nat) × Nat) : List Int × Val := ([(p.1.1 : Int), (p.1.2 : Int)], nv p.2)
theorem key_eq {a b c d : Nat} : (([(a : Int), (b : Int)] : List Int) == [(c : Int), (d : Int)]) = ((a, b) == (c, d)) := by
  rw [Bool.eq_iff_iff, beq_iff_eq, beq_iff_eq]
  constructor
  · intro h
    simp only [List.cons.injEq, Int.natCast_inj, and_true] at h
    exact Prod.ext h.1 h.2
  · intro h
    cases h
    rfl
theorem kv_look (a b : Nat) : ∀ sn : Sn, (sn.map kvE).lookup [(a : Int), (b : Int)] = (sn.lookup (a, b)).map nv
  | [] => rfl
  | ((c, d), m) :: sn => by
    rw [List.map_cons, List.lookup_cons]
    show (match (([(a : Int), (b : Int)] : List Int) == [(c : Int), (d : Int)]) with | true => some (nv m) | false => (sn.map kvE).lookup [(a : Int), (b : Int)]) = _
    rw [key_eq, kv_look a b sn, List.lookup_cons]
    cases ((a, b) == (c, d)) <;> rfl
theorem putKs_new {k : List Int} {v : Val} : ∀ {kvs : List (List Int × Val)}, kvs.lookup k = none → putKs k v kvs = kvs ++ [(k, v)] := fun {kvs} h => by
  unfold putKs
  rw [if_neg]
  intro hh
  obtain ⟨p, hp, e⟩ := List.any_eq_true.mp hh
  have e := of_decide_eq_true e
  induction kvs with
  | nil => simp at hp
  | cons q r ih =>
    obtain ⟨g, w⟩ := q
    rw [List.lookup_cons] at h
    by_cases hg : k = g
    · subst hg; simp at h
    · rw [beq_eq_false_iff_ne.mpr hg] at h
      rcases List.mem_cons.mp hp with q | q
      · subst q; exact hg e.symm
      · exact ih h (List.any_eq_true.mpr ⟨p, q, decide_eq_true e⟩) q
theorem key_ok (i : Nat) (t : St) (ρ : Env) (s : Store) (h : ρ[i]? = some (some t.val)) : eKey (eV i) 2 ρ s = .ok [(t.a : Int), (t.b : Int)] s := by
  have c2 : cutV [nv t.a, nv t.b, rowV t.th, rowV t.bk] none (some 2) = [nv t.a, nv t.b] := cutV_to _ 2
  unfold eKey
  simp only [eV_r, h, bind_ok, St.val, c2]
  rfl
theorem key1 (a : Option Val) (t : St) (r : Env) (s : Store) : eKey (eV 1) 2 (a :: some t.val :: r) s = .ok [(t.a : Int), (t.b : Int)] s := key_ok 1 t _ s rfl
theorem ext_at {i q : Nat} {e : Ev} {ρ : Env} {s : Store} {X Y : List Val} {Q : Tv → Store → Prop} (h1 : ρ[i]? = some (some (.ref q))) (hq : s[q]? = some (.lst X)) {q2 : Nat} (he : e ρ s = .ok (.v (.ref q2)) s) (hq2 : s[q2]? = some (.lst Y)) (hl : X.length + Y.length ≤ 16777216) (k : Q (.v .non) (s.set q (.lst (X ++ Y)))) : Wp (eExtend (eV i) e ρ s) Q := by
  unfold eExtend
  have r : refL (.v (.ref q)) s = some (q, X) := by simp [refL, hq]
  have r2 : lstOf (.v (.ref q2)) s = some Y := by simp [lstOf, hq2]
  simp only [eV_r, h1, bind_ok, r, Option.isSome_some, if_true, he, r2, if_pos (show X.length + Y.length ≤ LIM from hl), updL, wp_ok]
  exact k
theorem add_rr {q q2 : Nat} {X Y : List Val} {s : Store} (h : s[q]? = some (.lst X)) (h2 : s[q2]? = some (.lst Y)) (hl : X.length + Y.length ≤ 16777216) : oAdd (.v (.ref q)) (.v (.ref q2)) s = .ok (.l (X ++ Y)) s := by
  have e1 : lstOf (.v (.ref q)) s = some X := by simp [lstOf, h]
  have e2 : lstOf (.v (.ref q2)) s = some Y := by simp [lstOf, h2]
  unfold oAdd
  simp only [e1, e2, if_pos (show X.length + Y.length ≤ LIM from hl)]
/-- what rest tells -/
def RestV (s s' : Store) (x : Tv) (r : List Nat × Bool × Bool) : Prop := ∃ q, x = .v (.tup [.ref q, .bool r.2.1, .bool r.2.2]) ∧ Ex s s' ∧ s.length ≤ q ∧ s'[q]? = some (.lst (r.1.map nv))
theorem rest_of_ok {R : Raw} (h : RawOk R) {n : Nat} {t : St} (ht : StOk R n t) (hn : n ≤ 10000) {k : Nat} {s : Store} (hp : PairAt R k s) : Wp (F_rest_of [.ref k, t.val] s) fun x s' => RestV s s' x (restM R t) := by
  obtain ⟨y0, yv⟩ := empty_ok h (x := ⟨t, [], frS R t⟩) ht
  simp only [List.length_nil] at yv
  obtain ⟨sn', z, lz, ⟨mz, hz⟩, vz, s16, _⟩ := loop_ends h 401 [] (emptyX R ⟨t, [], frS R t⟩) (by simp) (fun p hp => by simp at hp) y0 (by simp)
  have hM : restM R t = (z.vs, decide (mz < z.vs.length), z.fr) := by
    unfold restM
    rw [lz]
    simp only [hz, Option.getD_some]
  rw [hM]
  rw [F_rest_of, wp_fn2]
  unfold B_rest_of
  refine seq_step ?_
  simp only [sAsg_r, eCall_r, aCons_r, aNil_r, eV_r, bind_ok, mat_v, List.getElem?_cons_succ, List.getElem?_cons_zero, wp_bind, Nat.reduceSub, List.replicate]
  refine (emptied_ok h ht hn hp).mono fun x s1 ⟨wr, vr, ws, e, W, hwl⟩ => ?_
  subst e
  simp only [mat_v, gT_r, setAll_c, setAll_n, wp_ok, List.set_cons_succ, List.set_cons_zero]
  refine seq_step ?_
  simp only [sAsg_r, eBin_r, eV_r, eNeg_r, eC_r, bind_ok, mat_v, List.getElem?_cons_succ, List.getElem?_cons_zero, oIdx_r, lk_seq W.hw, show (-(1 : Int)) = -1 from rfl, W.at, gV_r, wp_ok, List.set_cons_succ, List.set_cons_zero]
  refine seq_step ?_
  simp only [sDict, wp_ok, List.set_cons_succ, List.set_cons_zero]
  generalize emptyX R ⟨t, [], frS R t⟩ = x0 at *
  have W1 : WV s (s1 ++ [.dct []]) wr vr R x0 ws := ⟨W.ex.trans (Ex.app _ _), lk_app W.hw _, lk_app W.hv _, W.last, W.any, W.lw, W.lv, W.ne, W.oka⟩
  have D1 : (s1 ++ [Ob.dct []])[s1.length]? = some (.dct (([] : Sn).map kvE)) := by simp
  have dl : s.length ≤ s1.length := W.ex.len
  generalize s1 ++ [Ob.dct []] = s2 at W1 D1
  generalize s1.length = dr at D1 dl
  refine seq_step ((wp_wh (fun m ρ s3 => ∃ x ws sn vr v5 v6, WV s s3 wr vr R x ws ∧ StOk R 0 x.t ∧ s3[dr]? = some (.dct (sn.map kvE)) ∧ loopX R m sn x = some (sn', z) ∧ ws.length + 4 * m ≤ 40000 ∧ x.vs.length + m ≤ 40000 ∧ sn.length + m ≤ 401 ∧ ρ = [some (.ref k), some x.t.val, some (.ref wr), some (.ref vr), some (.ref dr), v5, v6, none, none])
    401 (by omega) ⟨x0, ws, [], vr, none, none, W1, y0, D1, lz, by omega, by omega, by simp, rfl⟩ (Q := fun r s3 => ∃ ws vr v5 v6, WV s s3 wr vr R z ws ∧ s3[dr]? = some (.dct (sn'.map kvE)) ∧ ws.length ≤ 40000 ∧ r = (.next, [some (.ref k), some z.t.val, some (.ref wr), some (.ref vr), some (.ref dr), v5, v6, none, none])) fun m ρ s3 ⟨x, ws, sn, vr, v5, v6, W, hx, hD, hl, b1, b2, b3, e⟩ => ?_).mono fun r s3 ⟨ws, vr, v5, v6, W, hD, b1, e⟩ => ?_)
  · subst e
    have rk : refK (.v (.ref dr)) s3 = some (dr, sn.map kvE) := by simp [refK, hD]
    cases m with
    | zero => cases hl
    | succ m =>
    unfold loopX at hl
    simp only [tB_r, eDNotIn, key1, eV_r, bind_ok, List.getElem?_cons_succ, List.getElem?_cons_zero, rk, kv_look, Option.isSome_map, wp_ok]
    cases hs : sn.lookup (x.t.a, x.t.b) with
    | some m0 =>
      rw [hs, if_pos (by rfl)] at hl
      cases hl
      simp only [Option.isSome_some, Bool.not_true, Bool.false_eq_true, if_false]
      exact ⟨ws, vr, v5, v6, W, hD, by omega, rfl⟩
    | none =>
      rw [hs, if_neg (by simp)] at hl
      simp only [Option.isSome_none, Bool.not_false, if_true]
      refine seq_step ?_
      have pn : putKs [(x.t.a : Int), (x.t.b : Int)] (nv x.vs.length) (sn.map kvE) = (sn ++ [((x.t.a, x.t.b), x.vs.length)]).map kvE := by
        rw [putKs_new (by rw [kv_look, hs]; rfl), List.map_append]; rfl
      simp only [sDSet, eB1_r, bLen_r, eV_r, bind_ok, List.getElem?_cons_succ, List.getElem?_cons_zero, lk_seq W.hv, List.length_map, mat_v, key1, rk, if_pos (show sn.length < LIM by unfold LIM; omega), pn, wp_ok]
      have ndw : dr ≠ wr := fun e => by rw [e, W.hw] at hD; cases hD
      have ndv : dr ≠ vr := fun e => by rw [e, W.hv] at hD; cases hD
      have W2 : WV s (s3.set dr (.dct ((sn ++ [((x.t.a, x.t.b), x.vs.length)]).map kvE))) wr vr R x ws := ⟨W.ex.set dl, by rw [List.getElem?_set_ne ndw]; exact W.hw, by rw [List.getElem?_set_ne ndv]; exact W.hv, W.last, W.any, W.lw, W.lv, W.ne, W.oka⟩
      have D2 : (s3.set dr (.dct ((sn ++ [((x.t.a, x.t.b), x.vs.length)]).map kvE)))[dr]? = some (.dct ((sn ++ [((x.t.a, x.t.b), x.vs.length)]).map kvE)) := List.getElem?_set_self (lk_lt hD)
      generalize s3.set dr _ = s4 at W2 D2
      refine seq_step ?_
      simp only [sAsg_r, eCall_r, aCons_r, aNil_r, eV_r, bind_ok, mat_v, List.getElem?_cons_succ, List.getElem?_cons_zero, wp_bind]
      refine (round_of_ok h hx (hp.ex' W2.ex)).mono fun r s5 ⟨wr', vr', ws', vs', e, W5, V5, L5, E5, N5⟩ => ?_
      subst e
      simp only [mat_v, gT_r, setAll_c, setAll_n, wp_ok, List.set_cons_succ, List.set_cons_zero]
      have hw5 := W5.ex.at W2.hw
      have hv5 := W5.ex.at W2.hv
      have hd5 := W5.ex.at D2
      have lw5 := lk_lt W2.hw
      have lv5 := lk_lt W2.hv
      have ld5 := lk_lt D2
      have hlw := W5.lw
      obtain ⟨r1, r2⟩ := round_ok h hx
      refine seq_step ?_
      simp only [sExp_r, wp_bind]
      refine ext_at (q := wr) (q2 := wr') (X := ws.map St.val) (Y := ws'.map St.val) rfl hw5 (by simp) W5.hw (by rw [List.length_map, List.length_map]; omega) ?_
      simp only [wp_ok]
      have W6 : WV s (s5.set wr (.lst (ws.map St.val ++ ws'.map St.val))) wr vr R ⟨(roundX R x).t, x.vs, (roundX R x).fr⟩ (ws ++ ws') := by
        refine ⟨(W2.ex.trans W5.ex).set W.lw, by rw [List.getElem?_set_self (lk_lt hw5), List.map_append], by rw [List.getElem?_set_ne W.ne]; exact hv5, ?_, ?_, W.lw, W.lv, W.ne, fun w hw => ?_⟩
        · have : ws' ≠ [] := by rintro rfl; have := W5.last; cases this
          rw [List.getLast?_append, W5.last] <;> rfl
        · rw [List.any_append, W.any]
          exact W5.any
        · rcases List.mem_append.mp hw with hw | hw
          · exact W.oka w hw
          · exact W5.oka w hw
      have V6 : (s5.set wr (.lst (ws.map St.val ++ ws'.map St.val)))[vr']? = some (.lst (vs'.map nv)) := by rw [List.getElem?_set_ne (by omega)]; exact V5
      have S6 : (s5.set wr (.lst (ws.map St.val ++ ws'.map St.val)))[wr']? = some (.lst (ws'.map St.val)) := by rw [List.getElem?_set_ne (by omega)]; exact W5.hw
      have D6 : (s5.set wr (.lst (ws.map St.val ++ ws'.map St.val)))[dr]? = some (.dct ((sn ++ [((x.t.a, x.t.b), x.vs.length)]).map kvE)) := by rw [List.getElem?_set_ne (Ne.symm ndw)]; exact hd5
      generalize s5.set wr _ = s6 at W6 V6 S6 D6
      have lE : x.vs.length + vs'.length = (roundX R x).vs.length := by rw [← E5, List.length_append]
      refine seq_step ?_
      simp only [sAsg_r, eBin_r, eV_r, bind_ok, List.getElem?_cons_succ, List.getElem?_cons_zero, add_rr W6.hv V6 (by rw [List.length_map, List.length_map]; show x.vs.length + vs'.length ≤ _; omega), mat_l, gV_r, wp_ok, List.set_cons_succ, List.set_cons_zero]
      have W7 : WV s (s6 ++ [.lst (x.vs.map nv ++ vs'.map nv)]) wr s6.length R (roundX R x) (ws ++ ws') := by
        refine ⟨W6.ex.trans (Ex.app _ _), lk_app W6.hw _, ?_, W6.last, W6.any, W6.lw, W6.ex.len, Nat.ne_of_lt (lk_lt W6.hw), W6.oka⟩
        rw [← E5, List.map_append]
        simp
      have S7 := lk_app S6 [.lst (x.vs.map nv ++ vs'.map nv)]
      have D7 := lk_app D6 [.lst (x.vs.map nv ++ vs'.map nv)]
      have hat : atI (ws'.map St.val) (-1) = some (roundX R x).t.val := W5.at
      simp only [eBin_r, eV_r, eNeg_r, eC_r, bind_ok, mat_v, List.getElem?_cons_succ, List.getElem?_cons_zero, oIdx_r, lk_seq S7, show (-(1 : Int)) = -1 from rfl, hat, gV_r, wp_ok, List.set_cons_succ, List.set_cons_zero, sAsg_r]
      exact ⟨m, Nat.lt_succ_self _, roundX R x, ws ++ ws', _, _, _, _, W7, r1, D7, hl, by rw [List.length_append]; omega, by omega, by rw [List.length_append, List.length_singleton]; omega, rfl⟩
  · subst e
    try dsimp only
    have rk : refK (.v (.ref dr)) s3 = some (dr, sn'.map kvE) := by simp [refK, hD]
    refine seq_step ?_
    simp only [sAsg_r, eBin_r, eB1_r, bLen_r, eDGet, eV_r, bind_ok, List.getElem?_cons_succ, List.getElem?_cons_zero, lk_seq W.hv, List.length_map, key1, rk, kv_look, hz, Option.map_some, cGt_i, mat_v, gV_r, wp_ok, List.set_cons_succ, List.set_cons_zero]
    have any := comp_ref (i := 2) (j := 8) (e := eCall F_is_free (aCons (eV 0) (aCons (eV 8) aNil))) (ρ := [some (.ref k), some z.t.val, some (.ref wr), some (.ref vr), some (.ref dr), v5, v6, some (.bool (decide ((mz : Int) < (z.vs.length : Int)))), none]) (fun x => match x with | .tup (.int a :: _) => .bool (gd R.S.takes a.toNat none).isSome | _ => .non) rfl W.hw (by rw [List.length_map]; omega) (fun x hx => by
      obtain ⟨w, hw, rfl⟩ := List.mem_map.mp hx
      simp only [wipe, List.set_cons_succ, List.set_cons_zero, eCall_r, aCons_r, aNil_r, eV_r, bind_ok, mat_v, List.getElem?_cons_succ, List.getElem?_cons_zero, free_ok h (W.oka w hw) (hp.ex' W.ex)]
      rfl)
    have em : (ws.map St.val).map (fun x => match x with | .tup (.int a :: _) => Val.bool (gd R.S.takes a.toNat none).isSome | _ => .non) = ws.map fun w => Val.bool (frS R w) := by rw [List.map_map]; rfl
    rw [em] at any
    simp only [sRet_r, eTup_r, aCons_r, aNil_r, eB1_r, eV_r, bind_ok, mat_v, List.getElem?_cons_succ, List.getElem?_cons_zero, any, bAny, lstOf_l, bools_map, any_map, W.any, List.length_cons, List.length_nil, LIM_eq, Nat.reduceAdd, Nat.reduceLeDiff, if_true, wp_ok, FinQ_r]
    refine ⟨vr, ?_, W.ex, W.lv, W.hv⟩
    rw [show decide ((mz : Int) < (z.vs.length : Int)) = decide (mz < z.vs.length) by simp]
end
section
set_option Elab.async false
set_option linter.all false
set_option maxRecDepth 100000
set_option maxHeartbeats 4000000
abbrev keyV (p : Nat × Nat) : Val := .tup [nv p.1, nv p.2]
end
section
set_option linter.all false
set_option autoImplicit false
abbrev Pr := Nat × Nat
/-- greedy -/
def cg : List Pr → List Pr → Bool
  | [], _ => true
  | y :: g, h => match h.dropWhile fun x => x.2 != y.2 with
    | [] => false
    | x :: h' => if y.1 < x.1 then false else cg g h'
/-- one handing after the other; behind last each is given -/
def fit (last : Int) : List Pr → List Pr → Bool
  | g, [] => g.isEmpty
  | g, x :: h => (decide ((x.1 : Int) ≤ last) && fit last g h) || (match g with
    | [] => false
    | y :: g' => decide (y.2 = x.2) && decide (x.1 < y.1) && fit last g' h)
def all2 : List Pr → List Pr → Bool
  | y :: g, x :: h => decide (y.2 = x.2) && decide (x.1 ≤ y.1) && all2 g h
  | _, _ => true
theorem cg_skip {x y : Pr} {g h : List Pr} (e : x.2 ≠ y.2) : cg (y :: g) (x :: h) = cg (y :: g) h := by
  unfold cg
  rw [List.dropWhile_cons, if_pos (by simpa using e)]
theorem cg_hit {x y : Pr} {g h : List Pr} (e : x.2 = y.2) : cg (y :: g) (x :: h) = if y.1 < x.1 then false else cg g h := by
  rw [cg, List.dropWhile_cons, if_neg (by simp [e])]
section
variable {last : Int}
theorem fit_cc (y x : Pr) (g h : List Pr) : fit last (y :: g) (x :: h) = ((decide ((x.1 : Int) ≤ last) && fit last (y :: g) h) || (decide (y.2 = x.2) && decide (x.1 < y.1) && fit last g h)) := by
  rw [fit]
theorem fit_tail {y : Pr} {g : List Pr} : ∀ {h : List Pr}, (∀ x ∈ h, (x.1 : Int) ≤ last) → fit last (y :: g) h = true → fit last g h = true
  | [], _, e => by simp [fit] at e
  | x :: h, A, e => by
    have hx : decide ((x.1 : Int) ≤ last) = true := decide_eq_true (A x List.mem_cons_self)
    have A' : ∀ x ∈ h, (x.1 : Int) ≤ last := fun z hz => A z (List.mem_cons_of_mem _ hz)
    unfold fit at e ⊢
    rw [hx, Bool.true_and] at e ⊢
    rcases Bool.or_eq_true_iff.mp e with e | e
    · rw [fit_tail A' e, Bool.true_or]
    · simp only [Bool.and_eq_true] at e
      rw [e.2, Bool.true_or]
theorem fit_none {y : Pr} {g : List Pr} : ∀ {h : List Pr}, (∀ x ∈ h, ¬ x.1 < y.1) → fit last (y :: g) h = false
  | [], _ => rfl
  | x :: h, A => by
    have hx : decide (x.1 < y.1) = false := decide_eq_false (A x List.mem_cons_self)
    rw [fit_cc, hx, fit_none fun z hz => A z (List.mem_cons_of_mem _ hz)]
    simp
theorem fit_nil : ∀ {h : List Pr}, (∀ x ∈ h, (x.1 : Int) ≤ last) → fit last [] h = true
  | [], _ => rfl
  | x :: h, A => by
    unfold fit
    rw [fit_nil fun z hz => A z (List.mem_cons_of_mem _ hz), decide_eq_true (A x List.mem_cons_self)]
    rfl
theorem cg_fit : ∀ {h g : List Pr}, (∀ x ∈ h, (x.1 : Int) ≤ last) → h.Pairwise (fun a b => a.1 < b.1) → (∀ x ∈ h, ∀ y ∈ g, x.1 ≠ y.1) → cg g h = fit last g h
  | h, [], A, _, _ => by rw [fit_nil A]; cases h <;> rfl
  | [], y :: g, _, _, _ => rfl
  | x :: h, y :: g, A, P, D => by
    obtain ⟨p1, p2⟩ := List.pairwise_cons.mp P
    have A' : ∀ x ∈ h, (x.1 : Int) ≤ last := fun z hz => A z (List.mem_cons_of_mem _ hz)
    have hx : decide ((x.1 : Int) ≤ last) = true := decide_eq_true (A x List.mem_cons_self)
    have i1 := cg_fit (h := h) (g := y :: g) A' p2 fun z hz => D z (List.mem_cons_of_mem _ hz)
    have i2 := cg_fit (h := h) (g := g) A' p2 fun z hz w hw => D z (List.mem_cons_of_mem _ hz) w (List.mem_cons_of_mem _ hw)
    by_cases e : x.2 = y.2
    · rw [cg_hit e]
      rw [fit_cc, hx, Bool.true_and]
      have ne := D x List.mem_cons_self y List.mem_cons_self
      by_cases l : y.1 < x.1
      · rw [if_pos l, fit_none fun z hz => by have := p1 z hz; omega]
        have : ¬ x.1 < y.1 := by omega
        simp [this]
      · rw [if_neg l, i2]
        have lt : x.1 < y.1 := by omega
        simp only [decide_eq_true e.symm, decide_eq_true lt, Bool.true_and]
        cases hb : fit last (y :: g) h with
        | false => rfl
        | true => rw [fit_tail A' hb]; rfl
    · rw [cg_skip e, i1]
      rw [fit_cc, hx, Bool.true_and, decide_eq_false (show ¬ y.2 = x.2 from fun q => e q.symm)]
      simp
theorem fit_due : ∀ {d g : List Pr}, (∀ x ∈ d, last < (x.1 : Int)) → (∀ x ∈ d, ∀ y ∈ g, x.1 ≠ y.1) → fit last g d = (decide (g.length = d.length) && all2 g d)
  | [], g, _, _ => by cases g <;> simp [fit, all2]
  | x :: d, g, A, D => by
    have hx : decide ((x.1 : Int) ≤ last) = false := decide_eq_false (by have := A x List.mem_cons_self; omega)
    unfold fit
    rw [hx, Bool.false_and, Bool.false_or]
    cases g with
    | nil => simp
    | cons y g =>
      have ne := D x List.mem_cons_self y List.mem_cons_self
      have ih := fit_due (d := d) (g := g) (fun z hz => A z (List.mem_cons_of_mem _ hz)) fun z hz w hw => D z (List.mem_cons_of_mem _ hz) w (List.mem_cons_of_mem _ hw)
      have el : decide (x.1 < y.1) = decide (x.1 ≤ y.1) := by
        by_cases h : x.1 < y.1
        · rw [decide_eq_true h, decide_eq_true (by omega : x.1 ≤ y.1)]
        · rw [decide_eq_false h, decide_eq_false (by omega : ¬ x.1 ≤ y.1)]
      simp only [ih, all2, List.length_cons, el, Nat.add_right_cancel_iff]
      cases decide (y.2 = x.2) <;> cases decide (x.1 ≤ y.1) <;> simp
theorem fit_app : ∀ {h1 d g : List Pr}, (∀ x ∈ h1, (x.1 : Int) ≤ last) → (∀ x ∈ d, last < (x.1 : Int)) → (∀ x ∈ d, ∀ y ∈ g, x.1 ≠ y.1) →
    fit last g (h1 ++ d) = (decide (d.length ≤ g.length) && (fit last (g.take (g.length - d.length)) h1 && all2 (g.drop (g.length - d.length)) d))
  | [], d, g, _, B, D => by
    rw [List.nil_append, fit_due B D]
    by_cases h : g.length = d.length
    · rw [h, Nat.sub_self]
      simp [fit]
    · rw [decide_eq_false h, Bool.false_and]
      by_cases h2 : d.length ≤ g.length
      · have : g.take (g.length - d.length) ≠ [] := by
          intro e
          have := congrArg List.length e
          rw [List.length_take] at this
          simp at this
          omega
        rw [show fit last (g.take (g.length - d.length)) [] = (g.take (g.length - d.length)).isEmpty from rfl, List.isEmpty_eq_false_iff.mpr this]
        simp
      · rw [decide_eq_false h2, Bool.false_and]
  | x :: h1, d, g, A, B, D => by
    have hx : decide ((x.1 : Int) ≤ last) = true := decide_eq_true (A x List.mem_cons_self)
    have A' : ∀ x ∈ h1, (x.1 : Int) ≤ last := fun z hz => A z (List.mem_cons_of_mem _ hz)
    have i1 := fit_app (g := g) A' B D
    rw [List.cons_append]
    unfold fit
    rw [hx, Bool.true_and, Bool.true_and, i1]
    cases g with
    | nil => simp
    | cons y g =>
      have i2 := fit_app (h1 := h1) (d := d) (g := g) A' B fun z hz w hw => D z hz w (List.mem_cons_of_mem _ hw)
      simp only [i2]
      by_cases h2 : d.length ≤ g.length
      · have e1 : (y :: g).length - d.length = (g.length - d.length) + 1 := by rw [List.length_cons]; omega
        have e2 : d.length ≤ (y :: g).length := by rw [List.length_cons]; omega
        rw [e1, decide_eq_true h2, decide_eq_true e2, List.take_succ_cons, List.drop_succ_cons]
        simp only [Bool.true_and]
        cases fit last (y :: g.take (g.length - d.length)) h1 <;> cases all2 (g.drop (g.length - d.length)) d <;> cases decide (y.2 = x.2) <;> cases decide (x.1 < y.1) <;> simp
      · rw [decide_eq_false h2]
        by_cases h3 : d.length ≤ (y :: g).length
        · have e1 : (y :: g).length - d.length = 0 := by rw [List.length_cons] at h3 ⊢; omega
          rw [e1]
          simp
        · rw [decide_eq_false h3]; simp
end
end
section
set_option Elab.async false
set_option linter.all false
set_option maxRecDepth 100000
set_option maxHeartbeats 4000000
theorem drop_get {α : Type} {l : List α} {i : Nat} {x : α} (h : l[i]? = some x) : l.drop i = x :: l.drop (i + 1) := by
  have hl := (List.getElem?_eq_some_iff.mp h).1
  rw [List.drop_eq_getElem_cons hl, (List.getElem?_eq_some_iff.mp h).2]
theorem can_give_ok {g h : List Pr} {q1 q2 : Nat} {s : Store} (h1 : s[q1]? = some (.lst (g.map keyV))) (h2 : s[q2]? = some (.lst (h.map keyV))) (hl : h.length ≤ 90000) : F_can_give [.ref q1, .ref q2] s = .ok (.v (.bool (cg g h))) s := by
  obtain ⟨f, hf, hfs⟩ := Thing.its (th := .ref q1) (s := s) (.inr ⟨_, rfl, h1⟩)
  have hf0 := hfs []
  rw [List.append_nil] at hf0
  apply eq_of_wp
  rw [F_can_give, wp_fn2]
  unfold B_can_give
  refine seq_step ?_
  simp only [sAsg_r, eC_r, bind_ok, mat_v, gV_r, wp_ok, List.set_cons_succ, List.set_cons_zero, Nat.reduceSub, List.replicate]
  refine seq_step ((wp_for (its := f) (xs := g.map keyV) (s1 := s) (by simp [hf]) (fun i ρ s1 => s1 = s ∧ ∃ p a b, p ≤ h.length ∧ cg (g.drop i) (h.drop p) = cg g h ∧ ρ = [some (.ref q1), some (.ref q2), some (nv p), a, b]) (fun i ρ s1 ⟨e, _⟩ => by rw [e]; exact hf0) ⟨rfl, 0, none, none, Nat.zero_le _, rfl, rfl⟩
    (Q := fun r s1 => s1 = s ∧ ((∃ p a b, cg g h = true ∧ r = (.next, [some (.ref q1), some (.ref q2), some (nv p), a, b])) ∨ (cg g h = false ∧ ∃ ρ, r = (.ret (.v (.bool false)), ρ)))) (fun i x ρ s1 hx ⟨e1, p, a, b, hp, hc, e⟩ => ?_) fun ρ s1 ⟨e1, p, a, b, hp, hc, e⟩ => ?_).mono fun r s1 ⟨e1, hr⟩ => ?_)
  · subst s1; subst e
    rw [List.getElem?_map] at hx
    obtain ⟨y, hy, rfl⟩ := Option.map_eq_some_iff.mp hx
    have hd := drop_get hy
    rw [hd] at hc
    simp only [gT_r, setAll_c, setAll_n, wp_ok, List.set_cons_succ, List.set_cons_zero]
    refine seq_step ((wp_wh (fun m ρ s1 => s1 = s ∧ ∃ p', p' ≤ h.length ∧ m = h.length - p' ∧ ((h.drop p').dropWhile fun x => x.2 != y.2) = ((h.drop p).dropWhile fun x => x.2 != y.2) ∧ ρ = [some (.ref q1), some (.ref q2), some (nv p'), some (nv y.1), some (nv y.2)]) (h.length - p) (by omega) ⟨rfl, p, hp, rfl, rfl, rfl⟩
      (Q := fun r s1 => s1 = s ∧ ∃ p', p' ≤ h.length ∧ h.drop p' = ((h.drop p).dropWhile fun x => x.2 != y.2) ∧ r = (.next, [some (.ref q1), some (.ref q2), some (nv p'), some (nv y.1), some (nv y.2)])) fun m ρ s1 ⟨e1, p', hp', hm, hw, e⟩ => ?_).mono fun r s1 ⟨e1, p', hp', hw, e⟩ => ?_)
    · subst s1; subst e
      simp only [tAnd_r, tB_r, eBin_r, eB1_r, bLen_r, eV_r, bind_ok, List.getElem?_cons_succ, List.getElem?_cons_zero, lk_seq h2, List.length_map, cLt_i]
      by_cases hlt : p' < h.length
      · have at1 : atI (h.map keyV) (p' : Int) = some (keyV h[p']) := atI_of (by rw [List.getElem?_map, List.getElem?_eq_getElem hlt]; rfl)
        have hdp := drop_get (List.getElem?_eq_getElem hlt)
        simp only [show decide ((p' : Int) < (h.length : Int)) = true from decide_eq_true (by omega), if_true, eC_r, oIdx_r, lk_seq h2, at1, seqOf_t, atI_1, cNe_r, eqT_i, Option.map_some, ans_s, bind_ok, wp_ok]
        by_cases he : ((h[p'].2 : Nat) : Int) = (y.2 : Int)
        · simp only [he, decide_true, Bool.not_true, Bool.false_eq_true, if_false]
          refine ⟨trivial, p', hp', ?_, rfl⟩
          rw [← hw, hdp, List.dropWhile_cons, if_neg (by simp; omega)]
        · simp only [decide_eq_false he, Bool.not_false, if_true]
          simp only [sAsg_r, eBin_r, eV_r, eC_r, bind_ok, List.getElem?_cons_succ, List.getElem?_cons_zero, oAdd_i, mat_v, gV_r, wp_ok, List.set_cons_succ, List.set_cons_zero]
          refine ⟨h.length - (p' + 1), by omega, trivial, p' + 1, hlt, rfl, ?_, by rw [show ((p' : Int) + 1) = ((p' + 1 : Nat) : Int) by omega]⟩
          rw [← hw, hdp, List.dropWhile_cons, if_pos (by simp; omega)]
      · have e0 : h.drop p' = [] := List.drop_of_length_le (by omega)
        simp only [show decide ((p' : Int) < (h.length : Int)) = false from decide_eq_false (by omega), Bool.false_eq_true, if_false, wp_ok]
        exact ⟨trivial, p', hp', by rw [← hw, e0]; rfl, rfl⟩
    · subst s1; subst e
      try dsimp only
      refine seq_step ?_
      simp only [sIf_r, tOr_r, tB_r, eBin_r, eB1_r, bLen_r, eV_r, bind_ok, List.getElem?_cons_succ, List.getElem?_cons_zero, lk_seq h2, List.length_map, cEq_r, eqT_i, ans_s]
      have hcc : cg (y :: g.drop (i + 1)) (h.drop p) = match h.drop p' with
        | [] => false
        | x :: h' => if y.1 < x.1 then false else cg (g.drop (i + 1)) h' := by
        rw [hw]
        rfl
      by_cases hlt : p' < h.length
      · have at1 : atI (h.map keyV) (p' : Int) = some (keyV h[p']) := atI_of (by rw [List.getElem?_map, List.getElem?_eq_getElem hlt]; rfl)
        have hdp := drop_get (List.getElem?_eq_getElem hlt)
        rw [hdp] at hcc
        simp only at hcc
        simp only [show decide ((p' : Int) = (h.length : Int)) = false from decide_eq_false (by omega), Bool.false_eq_true, if_false, eC_r, oIdx_r, lk_seq h2, at1, seqOf_t, atI_0, cGt_i, bind_ok]
        by_cases hgt : y.1 < h[p'].1
        · rw [if_pos hgt] at hcc
          simp only [show decide ((y.1 : Int) < (h[p'].1 : Int)) = true from decide_eq_true (by omega), if_true, sRet_r, eC_r, bind_ok, wp_ok]
          exact ⟨trivial, .inr ⟨by rw [← hc, hcc], _, rfl⟩⟩
        · rw [if_neg hgt] at hcc
          simp only [show decide ((y.1 : Int) < (h[p'].1 : Int)) = false from decide_eq_false (by omega), Bool.false_eq_true, if_false, sNop_r, wp_ok]
          simp only [sAsg_r, eBin_r, eV_r, eC_r, bind_ok, List.getElem?_cons_succ, List.getElem?_cons_zero, oAdd_i, mat_v, gV_r, wp_ok, List.set_cons_succ, List.set_cons_zero]
          exact ⟨trivial, p' + 1, _, _, hlt, by rw [← hcc]; exact hc, by rw [show ((p' : Int) + 1) = ((p' + 1 : Nat) : Int) by omega]⟩
      · have e0 : h.drop p' = [] := List.drop_of_length_le (by omega)
        rw [e0] at hcc
        simp only at hcc
        simp only [show decide ((p' : Int) = (h.length : Int)) = true from decide_eq_true (by omega), if_true, sRet_r, eC_r, bind_ok, wp_ok]
        exact ⟨trivial, .inr ⟨by rw [← hc, hcc], _, rfl⟩⟩
  · subst s1; subst e
    rw [List.length_map, List.drop_length] at hc
    exact ⟨rfl, .inl ⟨p, a, b, by rw [← hc]; rfl, rfl⟩⟩
  · subst s1
    rcases hr with ⟨p, a, b, hc, e⟩ | ⟨hc, ρ, e⟩
    · subst e
      simp only [sRet_r, eC_r, bind_ok, wp_ok, FinQ_r]
      exact ⟨by rw [hc], trivial⟩
    · subst e
      simp only [FinQ_r]
      exact ⟨by rw [hc], trivial⟩
end
section
set_option Elab.async false
set_option linter.all false
set_option maxRecDepth 100000
set_option maxHeartbeats 4000000
theorem comp_gen {ix : Ix} {g : Tgt} {own : List Nat} {c : Tst} {e : Ev} {ρ : Env} {s : Store} {f : Its} {xs : List Val} (p : Val → Bool) (h : Val → Val) (hix : ix ρ s = .ok f s) (hf : f s = some xs) (hl : xs.length ≤ 1000000)
    (hst : ∀ x ∈ xs, ∃ ρ', g x (wipe ρ own) s = .ok ρ' s ∧ c ρ' s = .ok (p x) s ∧ (p x = true → e ρ' s = .ok (.v (h x)) s)) : eComp ix g own c e ρ s = .ok (.l ((xs.filter p).map h)) s := by
  refine eq_of_wp (wp_comp (its := f) (xs := xs) (s1 := s) hix (fun n acc s1 => s1 = s ∧ n ≤ xs.length ∧ acc = ((xs.take n).filter p).map h) (fun n acc s1 ⟨e1, _, _⟩ => by rw [e1]; exact hf) ⟨rfl, Nat.zero_le _, rfl⟩ (fun n x acc s1 hx ⟨e1, hn, e2⟩ => ?_) fun acc s1 ⟨e1, hn, e2⟩ => ⟨by rw [e2, List.take_length], e1⟩)
  subst s1
  have hn' := (List.getElem?_eq_some_iff.mp hx).1
  obtain ⟨ρ', h1, h2, h3⟩ := hst x (List.mem_of_getElem? hx)
  have e3 : ((xs.take (n + 1)).filter p).map h = ((xs.take n).filter p).map h ++ (if p x = true then [h x] else []) := by
    rw [take_succ hx, List.filter_append, List.map_append, List.filter_cons]
    cases hp : p x <;> rfl
  rw [h1, wp_ok, h2, wp_ok]
  cases hp : p x with
  | true =>
    rw [hp] at e3
    simp only [if_true, h3 hp, mat_v, wp_ok]
    have := List.length_filter_le p (xs.take n)
    rw [List.length_take] at this
    exact ⟨by rw [e2, List.length_map]; unfold LIM; omega, trivial, hn', by rw [e3, e2]; rfl⟩
  | false =>
    rw [hp] at e3
    simp only [Bool.false_eq_true, if_false]
    exact ⟨trivial, hn', by rw [e3, e2]; simp⟩
def fndP (R : Raw) : St → Nat → List Dd → List Pr
  | _, _, [] => []
  | t, i, d :: ds => ((step R t d).2.toList.map fun v => (i, v)) ++ fndP R (step R t d).1 (i + 1) ds
theorem fnd_P (R : Raw) : ∀ (t : St) (i : Nat) (ds : List Dd), fnd R t i ds = (fndP R t i ds).map keyV
  | _, _, [] => rfl
  | t, i, d :: ds => by
    unfold fnd fndP
    rw [List.map_append, fnd_P R _ _ ds]
    cases (step R t d).2 <;> rfl
def hndP : Nat → List Dd → List Pr
  | _, [] => []
  | j, .hand v :: ds => (j, v) :: hndP (j + 1) ds
  | j, _ :: ds => hndP (j + 1) ds
def crP (ex : List Nat) : Nat → List Dd → List Nat
  | _, [] => []
  | j, .crashS :: ds => (if ex.contains 77 then [j] else []) ++ crP ex (j + 1) ds
  | j, .crashR :: ds => (if ex.contains 72 then [j] else []) ++ crP ex (j + 1) ds
  | j, _ :: ds => crP ex (j + 1) ds
def isH (x : Val) : Bool := match x with
  | .tup [_, .tup (.str w :: _)] => w == 32
  | _ => false
def toH (x : Val) : Val := match x with
  | .tup [i, .tup [_, v]] => .tup [i, v]
  | _ => .non
def isC (ex : List Nat) (x : Val) : Bool := match x with
  | .tup [_, .tup [.str c, .str w]] => (c == 19) && ex.contains w
  | _ => false
def toC (x : Val) : Val := match x with
  | .tup [i, _] => i
  | _ => .non
theorem num_hand : ∀ (j : Nat) (ds : List Dd), ((numbered (ds.map Dd.val) j).filter isH).map toH = (hndP j ds).map keyV
  | _, [] => rfl
  | j, d :: ds => by
    have ih := num_hand (j + 1) ds
    rw [List.map_cons]
    unfold numbered
    rw [List.filter_cons]
    cases d with
    | hand v => rw [if_pos (by rfl), List.map_cons, ih]; rfl
    | _ => rw [if_neg (by simp [isH, Dd.val])]; exact ih
theorem num_crash (ex : List Nat) : ∀ (j : Nat) (ds : List Dd), ((numbered (ds.map Dd.val) j).filter (isC ex)).map toC = (crP ex j ds).map nv
  | _, [] => rfl
  | j, d :: ds => by
    have ih := num_crash ex (j + 1) ds
    rw [List.map_cons]
    unfold numbered
    rw [List.filter_cons]
    cases d with
    | crashS =>
      have e1 : isC ex (.tup [.int (j : Nat), Dd.val .crashS]) = ex.contains 77 := by simp [isC, Dd.val]
      rw [e1]
      unfold crP
      cases ex.contains 77
      · rw [if_neg (by decide), if_neg (by decide)]; exact ih
      · rw [if_pos rfl, if_pos rfl, List.map_cons, ih]; rfl
    | crashR =>
      have e1 : isC ex (.tup [.int (j : Nat), Dd.val .crashR]) = ex.contains 72 := by simp [isC, Dd.val]
      rw [e1]
      unfold crP
      cases ex.contains 72
      · rw [if_neg (by decide), if_neg (by decide)]; exact ih
      · rw [if_pos rfl, if_pos rfl, List.map_cons, ih]; rfl
    | _ => rw [if_neg (by simp [isC, Dd.val])]; exact ih
def lastI (cr : List Nat) : Int := cr.foldr (fun (c : Nat) (m : Int) => max (c : Int) m) (-1)
theorem ints_nv : ∀ l : List Nat, ints? (l.map nv) = some (l.map fun i : Nat => (i : Int))
  | [] => rfl
  | x :: l => by
    show (ints? (l.map nv)).map ((x : Int) :: ·) = _
    rw [ints_nv l]; rfl
theorem ints_app : ∀ {a b : List Val} {i j : List Int}, ints? a = some i → ints? b = some j → ints? (a ++ b) = some (i ++ j)
  | [], b, i, j, h1, h2 => by cases h1; exact h2
  | x :: a, b, i, j, h1, h2 => by
    cases x with
    | int z =>
      obtain ⟨i', e1, rfl⟩ := Option.map_eq_some_iff.mp (show (ints? a).map (z :: ·) = some i from h1)
      show (ints? (a ++ b)).map (z :: ·) = _
      rw [ints_app e1 h2]; rfl
    | _ => cases h1
theorem maxI_cons (x : Int) {l : List Int} (h : l ≠ []) : maxI (x :: l) = max x (maxI l) := by
  cases l with
  | nil => exact absurd rfl h
  | cons y l => rfl
theorem max_p : ∀ cr : List Nat, maxI ((cr.map fun i : Nat => (i : Int)) ++ [-1]) = lastI cr
  | [] => rfl
  | c :: cr => by
    rw [List.map_cons, List.cons_append, maxI_cons _ (by simp), max_p cr]; rfl
theorem max_l : ∀ cr : List Nat, maxI (-1 :: (cr.map fun i : Nat => (i : Int))) = lastI cr
  | [] => rfl
  | [c] => by
    show max (-1) (c : Int) = max (c : Int) (-1)
    omega
  | c :: d :: cr => by
    have ih := max_l (d :: cr)
    rw [maxI_cons _ (by simp)] at ih ⊢
    rw [List.map_cons, maxI_cons _ (by simp)]
    show max (-1) (max (c : Int) _) = max (c : Int) (lastI (d :: cr))
    rw [← ih]
    omega
theorem bMax_p (cr : List Nat) (s : Store) : bMax (.l (cr.map nv ++ [.int (-1)])) s = .ok (.v (.int (lastI cr))) s := by
  have e := ints_app (ints_nv cr) (show ints? [.int (-1)] = some [-1] from rfl)
  have m := max_p cr
  unfold bMax
  simp only [lstOf_l, e]
  cases h : (cr.map fun i : Nat => (i : Int)) ++ [-1] with
  | nil => simp at h
  | cons x l => rw [h] at m; simp only [m]
theorem bMax_l (cr : List Nat) (s : Store) : bMax (.l ([.int (-1)] ++ cr.map nv)) s = .ok (.v (.int (lastI cr))) s := by
  have e : ints? (.int (-1) :: cr.map nv) = some (-1 :: cr.map fun i : Nat => (i : Int)) := ints_app (show ints? [.int (-1)] = some [-1] from rfl) (ints_nv cr)
  unfold bMax
  simp only [lstOf_l, List.cons_append, List.nil_append, e, max_l]
/-- the program's word -/
def vdt (fp hp : List Pr) (cr : List Nat) (n : Nat) (r : List Nat × Bool × Bool) : Nat :=
  if (r.2.1 || !cg (fp ++ r.1.map fun v => (n, v)) hp) = true then 102
  else if (decide ((fp ++ r.1.map fun v => (n, v)).length < (hp.filter fun p => decide (lastI cr < (p.1 : Int))).length) || !cg ((fp ++ r.1.map fun v => (n, v)).take ((fp ++ r.1.map fun v => (n, v)).length - (hp.filter fun p => decide (lastI cr < (p.1 : Int))).length)) (hp.take (hp.length - (hp.filter fun p => decide (lastI cr < (p.1 : Int))).length))) = true then 60
  else if all2 ((fp ++ r.1.map fun v => (n, v)).drop ((fp ++ r.1.map fun v => (n, v)).length - (hp.filter fun p => decide (lastI cr < (p.1 : Int))).length)) (hp.filter fun p => decide (lastI cr < (p.1 : Int))) = true then (if r.2.2 = true then 31 else 82) else 60
/-- the law's word -/
def vdl (fp hp : List Pr) (cr : List Nat) (n : Nat) (r : List Nat × Bool × Bool) : Nat :=
  if (r.2.1 || !fit (n : Int) (fp ++ r.1.map fun v => (n, v)) hp) = true then 102
  else if (!fit (lastI cr) (fp ++ r.1.map fun v => (n, v)) hp) = true then 60 else if r.2.2 = true then 31 else 82
theorem due_split (last : Int) : ∀ {h : List Pr}, h.Pairwise (fun a b => a.1 < b.1) → h = h.take (h.length - (h.filter fun p => decide (last < (p.1 : Int))).length) ++ (h.filter fun p => decide (last < (p.1 : Int))) ∧ ∀ x ∈ h.take (h.length - (h.filter fun p => decide (last < (p.1 : Int))).length), (x.1 : Int) ≤ last
  | [], _ => ⟨rfl, fun x h => by simp at h⟩
  | x :: h, P => by
    obtain ⟨p1, p2⟩ := List.pairwise_cons.mp P
    obtain ⟨i1, i2⟩ := due_split last p2
    have hle := List.length_filter_le (fun p : Pr => decide (last < (p.1 : Int))) h
    rw [List.filter_cons]
    by_cases hx : last < (x.1 : Int)
    · have all : h.filter (fun p => decide (last < (p.1 : Int))) = h := List.filter_eq_self.mpr fun y hy => decide_eq_true (by have := p1 y hy; omega)
      rw [if_pos (decide_eq_true hx), all, Nat.sub_self]
      exact ⟨rfl, fun y hy => by simp at hy⟩
    · rw [if_neg (by simpa using hx), List.length_cons, Nat.succ_sub hle, List.take_succ_cons]
      refine ⟨?_, fun y hy => ?_⟩
      · rw [List.cons_append, ← i1]
      · rcases List.mem_cons.mp hy with rfl | hy
        · omega
        · exact i2 y hy
theorem vd_eq {fp hp : List Pr} {cr : List Nat} {n : Nat} {r : List Nat × Bool × Bool} (hs : hp.Pairwise (fun a b => a.1 < b.1)) (hn : ∀ x ∈ hp, x.1 < n) (hd : ∀ x ∈ hp, ∀ y ∈ fp, x.1 ≠ y.1) : vdt fp hp cr n r = vdl fp hp cr n r := by
  have D : ∀ x ∈ hp, ∀ y ∈ fp ++ r.1.map fun v => (n, v), x.1 ≠ y.1 := fun x hx y hy => by
    rcases List.mem_append.mp hy with hy | hy
    · exact hd x hx y hy
    · obtain ⟨v, _, rfl⟩ := List.mem_map.mp hy
      have := hn x hx
      show x.1 ≠ n
      omega
  unfold vdt vdl
  generalize fp ++ r.1.map (fun v => (n, v)) = g at D
  rw [cg_fit (last := (n : Int)) (fun x hx => by have := hn x hx; omega) hs D]
  by_cases c1 : (r.2.1 || !fit (n : Int) g hp) = true
  · rw [if_pos c1, if_pos c1]
  · rw [if_neg c1, if_neg c1]
    obtain ⟨q1, q2⟩ := due_split (lastI cr) hs
    have hfil : ∀ x ∈ hp.filter (fun p => decide (lastI cr < (p.1 : Int))), lastI cr < (x.1 : Int) := fun x hx => of_decide_eq_true (List.mem_filter.mp hx).2
    have hsub : ∀ x ∈ hp.filter (fun p => decide (lastI cr < (p.1 : Int))), x ∈ hp := fun x hx => (List.mem_filter.mp hx).1
    have key := fit_app (g := g) q2 hfil fun x hx y hy => D x (hsub x hx) y hy
    rw [← q1] at key
    have tk : ∀ x ∈ hp.take (hp.length - (hp.filter fun p => decide (lastI cr < (p.1 : Int))).length), x ∈ hp := fun x hx => List.mem_of_mem_take hx
    have hcg := cg_fit (last := lastI cr) (g := g.take (g.length - (hp.filter fun p => decide (lastI cr < (p.1 : Int))).length)) q2 (hs.sublist (List.take_sublist _ _)) fun x hx y hy => D x (tk x hx) y (List.mem_of_mem_take hy)
    rw [hcg, key]
    generalize (hp.filter fun p => decide (lastI cr < (p.1 : Int))) = due
    by_cases c2 : g.length < due.length
    · rw [decide_eq_true c2, decide_eq_false (by omega : ¬ due.length ≤ g.length)]
      rfl
    · rw [decide_eq_false c2, decide_eq_true (by omega : due.length ≤ g.length)]
      cases fit (lastI cr) (g.take (g.length - due.length)) (hp.take (hp.length - due.length)) <;> cases all2 (g.drop (g.length - due.length)) due <;> rfl
def verdM (R : Raw) (ds : List Dd) (ex : List Nat) : Nat := vdt (fndP R t0 0 ds) (hndP 0 ds) (crP ex 0 ds) ds.length (restM R (runS R t0 ds))
def verdL (R : Raw) (ds : List Dd) (ex : List Nat) : Nat := vdl (fndP R t0 0 ds) (hndP 0 ds) (crP ex 0 ds) ds.length (restM R (runS R t0 ds))
theorem hnd_ge : ∀ (j : Nat) (ds : List Dd), ∀ x ∈ hndP j ds, j ≤ x.1 ∧ x.1 < j + ds.length
  | _, [], x, h => by simp [hndP] at h
  | j, d :: ds, x, h => by
    have rc : x ∈ hndP (j + 1) ds → j ≤ x.1 ∧ x.1 < j + (d :: ds).length := fun h => by
      have := hnd_ge (j + 1) ds x h
      rw [List.length_cons]; omega
    cases d with
    | hand v =>
      rcases List.mem_cons.mp h with rfl | h
      · exact ⟨Nat.le_refl _, by rw [List.length_cons]; show j < _; omega⟩
      · exact rc h
    | _ => exact rc h
theorem hnd_sorted : ∀ (j : Nat) (ds : List Dd), (hndP j ds).Pairwise (fun a b => a.1 < b.1)
  | _, [] => .nil
  | j, d :: ds => by
    have ih := hnd_sorted (j + 1) ds
    cases d with
    | hand v => exact List.pairwise_cons.mpr ⟨fun y hy => by have := hnd_ge (j + 1) ds y hy; show j < y.1; omega, ih⟩
    | _ => exact ih
theorem fnd_ge (R : Raw) : ∀ (t : St) (j : Nat) (ds : List Dd), ∀ y ∈ fndP R t j ds, j ≤ y.1
  | _, _, [], y, h => by simp [fndP] at h
  | t, j, d :: ds, y, h => by
    unfold fndP at h
    rcases List.mem_append.mp h with h | h
    · obtain ⟨v, _, rfl⟩ := List.mem_map.mp h
      exact Nat.le_refl _
    · have := fnd_ge R _ (j + 1) ds y h
      omega
theorem hnd_dj (R : Raw) : ∀ (t : St) (j : Nat) (ds : List Dd), ∀ x ∈ hndP j ds, ∀ y ∈ fndP R t j ds, x.1 ≠ y.1
  | _, _, [], x, h, _, _ => by simp [hndP] at h
  | t, j, d :: ds, x, hx, y, hy => by
    unfold fndP at hy
    have ih := hnd_dj R (step R t d).1 (j + 1) ds
    cases d with
    | hand v =>
      have hy : y ∈ fndP R (step R t (.hand v)).1 (j + 1) ds := by simpa [step] using hy
      rcases List.mem_cons.mp hx with rfl | hx
      · have := fnd_ge R _ (j + 1) ds y hy
        show j ≠ y.1
        omega
      · exact ih x hx y hy
    | _ =>
      have hx : x ∈ hndP (j + 1) ds := hx
      rcases List.mem_append.mp hy with hy | hy
      · obtain ⟨v, _, rfl⟩ := List.mem_map.mp hy
        have := hnd_ge (j + 1) ds x hx
        show x.1 ≠ j
        omega
      · exact ih x hx y hy
theorem verd_eq (R : Raw) (ds : List Dd) (ex : List Nat) : verdM R ds ex = verdL R ds ex :=
  vd_eq (hnd_sorted 0 ds) (fun x hx => by have := hnd_ge 0 ds x hx; omega) (hnd_dj R t0 0 ds)
end
section
set_option Elab.async false
set_option linter.all false
set_option maxRecDepth 100000
set_option maxHeartbeats 4000000
abbrev exV (ex : List Nat) : Val := .tup (ex.map Val.str)
theorem isIn_ex (w : Nat) (ex : List Nat) (s : Store) : isIn (.v (.str w)) (.v (exV ex)) s = some (ex.contains w) := by
  rw [isIn_t]
  have h1 : (ex.map Val.str).all flat = true := by
    rw [List.all_eq_true]
    intro x hx
    obtain ⟨y, _, rfl⟩ := List.mem_map.mp hx
    rfl
  rw [h1]
  show some ((ex.map Val.str).any fun z => flatEq z (.str w)) = _
  congr 1
  rw [List.any_map]
  induction ex with
  | nil => rfl
  | cons y r ih =>
    have hr : (r.map Val.str).all flat = true := by
      rw [List.all_eq_true]
      intro x hx
      obtain ⟨y, _, rfl⟩ := List.mem_map.mp hx
      rfl
    rw [List.any_cons, List.contains_cons, ih hr]
    congr 1
    show (y == w) = (w == y)
    rw [Bool.eq_iff_iff, beq_iff_eq, beq_iff_eq]
    exact eq_comm
/-- the comprehensions over numbered deeds -/
theorem comp_hand {ia b d q : Nat} {ds : List Dd} {ρ : Env} {s : Store} (hi : ρ[ia]? = some (some (.ref q))) (hq : s[q]? = some (.lst (ds.map Dd.val))) (hl : ds.length ≤ 9000) (hb : b < ρ.length) (hd : d < ρ.length) (hbd : b ≠ d) :
    eComp (ixEnum (eV ia)) (gT [b, d]) [b, d] (tB (eBin cEq (eBin oIdx (eV d) (eC (.int 0))) (eC (.str 32)))) (eTup (aCons (eV b) (aCons (eBin oIdx (eV d) (eC (.int 1))) aNil))) ρ s = .ok (.l ((hndP 0 ds).map keyV)) s := by
  obtain ⟨f, hf, hfs⟩ := Thing.its (th := .ref q) (s := s) (.inr ⟨_, rfl, hq⟩)
  have hf0 := hfs []
  rw [List.append_nil] at hf0
  rw [← num_hand]
  refine comp_gen (f := fun s => (f s).map fun xs => numbered xs 0) isH toH (by simp [hi, hf]) (by rw [hf0]; rfl) (by rw [num_len, List.length_map]; omega) fun x hx => ?_
  obtain ⟨i, hi'⟩ := List.mem_iff_getElem?.mp hx
  rw [num_at, List.getElem?_map] at hi'
  obtain ⟨y, hy, rfl⟩ := Option.map_eq_some_iff.mp hi'
  obtain ⟨dd, hdd, rfl⟩ := Option.map_eq_some_iff.mp hy
  simp only [gT_r, setAll_c, setAll_n]
  refine ⟨_, rfl, ?_, ?_⟩
  · have e1 : (((wipe ρ [b, d]).set b (some (.int ((0 + i : Nat) : Int)))).set d (some dd.val))[d]? = some (some dd.val) := List.getElem?_set_self (by simpa [wipe] using hd)
    simp only [tB_r, eBin_r, eV_r, e1, eC_r, bind_ok]
    cases dd <;> simp [Dd.val, isH]
  · intro hp
    have e1 : (((wipe ρ [b, d]).set b (some (.int ((0 + i : Nat) : Int)))).set d (some dd.val))[d]? = some (some dd.val) := List.getElem?_set_self (by simpa [wipe] using hd)
    have e2 : (((wipe ρ [b, d]).set b (some (.int ((0 + i : Nat) : Int)))).set d (some dd.val))[b]? = some (some (.int ((0 + i : Nat) : Int))) := by
      rw [List.getElem?_set_ne (Ne.symm hbd)]
      exact List.getElem?_set_self (by simpa [wipe] using hb)
    cases dd with
    | hand v =>
      simp only [eTup_r, aCons_r, aNil_r, eBin_r, eV_r, e1, e2, eC_r, bind_ok, mat_v]
      simp only [bind_ok, mat_v, Dd.val, oIdx_r, seqOf_t, atI_1, List.length_cons, List.length_nil, LIM_eq, Nat.reduceAdd, Nat.reduceLeDiff, if_true, toH]
    | _ => simp [isH, Dd.val] at hp
theorem comp_crash {ia ie b d q : Nat} {ex : List Nat} {ds : List Dd} {ρ : Env} {s : Store} (hi : ρ[ia]? = some (some (.ref q))) (he : ρ[ie]? = some (some (exV ex))) (hq : s[q]? = some (.lst (ds.map Dd.val))) (hl : ds.length ≤ 9000) (hb : b < ρ.length) (hd : d < ρ.length) (hbd : b ≠ d) (hbe : b ≠ ie) (hde : d ≠ ie) :
    eComp (ixEnum (eV ia)) (gT [b, d]) [b, d] (tAnd (tB (eBin cEq (eBin oIdx (eV d) (eC (.int 0))) (eC (.str 19)))) (tB (eBin cIn (eBin oIdx (eV d) (eC (.int 1))) (eV ie)))) (eV b) ρ s = .ok (.l ((crP ex 0 ds).map nv)) s := by
  obtain ⟨f, hf, hfs⟩ := Thing.its (th := .ref q) (s := s) (.inr ⟨_, rfl, hq⟩)
  have hf0 := hfs []
  rw [List.append_nil] at hf0
  rw [← num_crash]
  refine comp_gen (f := fun s => (f s).map fun xs => numbered xs 0) (isC ex) toC (by simp [hi, hf]) (by rw [hf0]; rfl) (by rw [num_len, List.length_map]; omega) fun x hx => ?_
  obtain ⟨i, hi'⟩ := List.mem_iff_getElem?.mp hx
  rw [num_at, List.getElem?_map] at hi'
  obtain ⟨y, hy, rfl⟩ := Option.map_eq_some_iff.mp hi'
  obtain ⟨dd, hdd, rfl⟩ := Option.map_eq_some_iff.mp hy
  simp only [gT_r, setAll_c, setAll_n]
  have e1 : (((wipe ρ [b, d]).set b (some (.int ((0 + i : Nat) : Int)))).set d (some dd.val))[d]? = some (some dd.val) := List.getElem?_set_self (by simpa [wipe] using hd)
  have e2 : (((wipe ρ [b, d]).set b (some (.int ((0 + i : Nat) : Int)))).set d (some dd.val))[b]? = some (some (.int ((0 + i : Nat) : Int))) := by
    rw [List.getElem?_set_ne (Ne.symm hbd)]
    exact List.getElem?_set_self (by simpa [wipe] using hb)
  have e3 : (((wipe ρ [b, d]).set b (some (.int ((0 + i : Nat) : Int)))).set d (some dd.val))[ie]? = some (some (exV ex)) := by
    rw [List.getElem?_set_ne hde, List.getElem?_set_ne hbe]
    simp only [wipe]
    rw [List.getElem?_set_ne hbe, List.getElem?_set_ne hde]
    exact he
  refine ⟨_, rfl, ?_, ?_⟩
  · simp only [tAnd_r, tB_r, eBin_r, eV_r, e1, e3, eC_r, bind_ok]
    cases dd with
    | crashS => simp only [Dd.val, oIdx_r, seqOf_t, atI_0, atI_1, cEq_r, eqT_s, ans_s, bind_ok, decide_true, if_true, cIn_r, isIn_ex, isC, beq_self_eq_true, Bool.true_and]
    | crashR => simp only [Dd.val, oIdx_r, seqOf_t, atI_0, atI_1, cEq_r, eqT_s, ans_s, bind_ok, decide_true, if_true, cIn_r, isIn_ex, isC, beq_self_eq_true, Bool.true_and]
    | _ => simp [Dd.val, isC]
  · intro hp
    simp only [eV_r, e2]
    cases dd <;> rfl
theorem comp_vs {q iv ie n : Nat} {vs : List Nat} {j : Nat} {ρ : Env} {s : Store} {qe : Nat} {X : List Val} (hi : ρ[iv]? = some (some (.ref q))) (hq : s[q]? = some (.lst (vs.map nv))) (he : ρ[ie]? = some (some (.ref qe))) (hX : s[qe]? = some (.lst X)) (hn : X.length = n) (hl : vs.length ≤ 100000) (hj : j < ρ.length) (hje : j ≠ ie) :
    eComp (ixE (eV iv)) (gV j) [j] tYes (eTup (aCons (eB1 bLen (eV ie)) (aCons (eV j) aNil))) ρ s = .ok (.l ((vs.map fun v => (n, v)).map keyV)) s := by
  rw [comp_ref (fun x => .tup [nv n, x]) hi hq (by rw [List.length_map]; omega) (fun x hx => by
    have e1 : ((wipe ρ [j]).set j (some x))[j]? = some (some x) := List.getElem?_set_self (by simpa [wipe] using hj)
    have e2 : ((wipe ρ [j]).set j (some x))[ie]? = some (some (.ref qe)) := by
      rw [List.getElem?_set_ne hje]
      simp only [wipe]
      rw [List.getElem?_set_ne hje]
      exact he
    simp only [eTup_r, aCons_r, aNil_r, eB1_r, bLen_r, eV_r, e1, e2, bind_ok, lk_seq hX, hn, mat_v, List.length_cons, List.length_nil, LIM_eq, Nat.reduceAdd, Nat.reduceLeDiff, if_true])]
  rw [List.map_map, List.map_map]
  rfl
theorem fndP_len (R : Raw) (t : St) (i : Nat) (ds : List Dd) : (fndP R t i ds).length ≤ ds.length := by
  have := fnd_len R t i ds
  rw [fnd_P, List.length_map] at this
  exact this
theorem hndP_len : ∀ (j : Nat) (ds : List Dd), (hndP j ds).length ≤ ds.length
  | _, [] => Nat.le_refl _
  | j, d :: ds => by
    have := hndP_len (j + 1) ds
    cases d <;> simp [hndP] <;> omega
theorem crP_len (ex : List Nat) : ∀ (j : Nat) (ds : List Dd), (crP ex j ds).length ≤ ds.length
  | _, [] => Nat.le_refl _
  | j, d :: ds => by
    have := crP_len ex (j + 1) ds
    cases d with
    | crashS => simp only [crP, List.length_append, List.length_cons]; split <;> simp <;> omega
    | crashR => simp only [crP, List.length_append, List.length_cons]; split <;> simp <;> omega
    | _ => simp [crP]; omega
theorem restM_len {R : Raw} (h : RawOk R) {n : Nat} {t : St} (ht : StOk R n t) : (restM R t).1.length ≤ n + n + 400 := by
  obtain ⟨y0, yv⟩ := empty_ok h (x := ⟨t, [], frS R t⟩) ht
  obtain ⟨sn', z, lz, ⟨mz, hz⟩, vz, s16, _⟩ := loop_ends h 401 [] (emptyX R ⟨t, [], frS R t⟩) (by simp) (fun p hp => by simp at hp) y0 (by simp)
  unfold restM
  rw [lz]
  simp only [List.length_nil] at yv vz ⊢
  omega
end
section
set_option Elab.async false
set_option linter.all false
set_option maxRecDepth 100000
set_option maxHeartbeats 4000000
def exOk (ex : List Nat) : Prop := ex = [77, 72] ∨ ex = [72] ∨ ex = [77] ∨ ex = [] ∨ ex = [72, 77]
theorem req_exc {ex : List Nat} (h : exOk ex) (s : Store) : F_require_excusing [exV ex] s = .ok (.v .non) s := by
  have key : ∀ xs : List Nat, (∀ x ∈ xs, x = 77 ∨ x = 72) → xs.length ≤ 1000 → eComp (ixE (eV 0)) (gV 1) [1] tYes (eAnd (eB1 (bIs [0, 1, 2] .str) (eV 1)) (eBin cIn (eV 1) (eC G_PROGRAMS))) [some (exV xs), none] s = .ok (.l (((xs.map Val.str).filter fun _ => true).map fun _ => .bool true)) s := fun xs hx hl => by
    refine comp_gen (f := fun _ => some (xs.map Val.str)) (fun _ => true) (fun _ => .bool true) (by simp) rfl (by rw [List.length_map]; omega) fun x hx' => ?_
    obtain ⟨y, hy, rfl⟩ := List.mem_map.mp hx'
    refine ⟨[some (exV xs), some (.str y)], rfl, rfl, fun _ => ?_⟩
    rcases hx y hy with rfl | rfl
    · simp [G_PROGRAMS, flat, flatEq]
    · simp [G_PROGRAMS, flat, flatEq]
  have all : ∀ l : List Val, bAll (.l (l.map fun _ => Val.bool true)) s = .ok (.v (.bool true)) s := fun l => by
    unfold bAll
    rw [lstOf_l]
    have e : bools? (l.map fun _ => Val.bool true) = some (l.map fun _ => true) := bools_map (fun _ => true) l
    simp only [e]
    congr 3
    rw [List.all_eq_true]
    intro x hx
    obtain ⟨_, _, rfl⟩ := List.mem_map.mp hx
    rfl
  have main : ∀ xs : List Nat, (∀ x ∈ xs, x = 77 ∨ x = 72) → xs.length ≤ 1000 → strs? (xs.map Val.str) = some xs → (dedS xs).length = xs.length → F_require_excusing [exV xs] s = .ok (.v .non) s := fun xs hx hl hs hd => by
    apply eq_of_wp
    rw [F_require_excusing, wp_fn1]
    unfold B_require_excusing
    refine seq_step ?_
    simp only [Nat.reduceSub, List.replicate, sIf_r, tOr_r, tNot_r, tB_r, eB1_r, eV_r, bind_ok, List.getElem?_cons_zero, bIs_r, isTy_tup, ans_s, Bool.not_true, Bool.false_eq_true, if_false, key xs hx hl, all, sNop_r, wp_ok]
    have b : bLenSet (.v (exV xs)) s = .ok (.v (.int (xs.length : Nat))) s := by
      unfold bLenSet
      simp only [hs, if_pos hl, hd]
    simp only [sIf_r, tB_r, eBin_r, eB1_r, eV_r, bind_ok, List.getElem?_cons_zero, b, bLen_r, seqOf_t, List.length_map, cNe_r, eqT_i, decide_true, Option.map_some, Bool.not_true, ans_s, Bool.false_eq_true, if_false, sNop_r, wp_ok, FinQ_n]
    exact ⟨trivial, trivial⟩
  rcases h with rfl | rfl | rfl | rfl | rfl
  · exact main _ (by simp) (by decide) rfl rfl
  · exact main _ (by simp) (by decide) rfl rfl
  · exact main _ (by simp) (by decide) rfl rfl
  · exact main _ (by simp) (by decide) rfl rfl
  · exact main _ (by simp) (by decide) rfl rfl
theorem comp_due {i a b q : Nat} {last : Int} {h : List Pr} {ρ : Env} {s : Store} {il : Nat} (hi : ρ[i]? = some (some (.ref q))) (hL : ρ[il]? = some (some (.int last))) (hq : s[q]? = some (.lst (h.map keyV))) (hl : h.length ≤ 9000) (ha : a < ρ.length) (hb : b < ρ.length) (hab : a ≠ b) (hal : a ≠ il) (hbl : b ≠ il) :
    eComp (ixE (eV i)) (gT [a, b]) [a, b] (tB (eBin cGt (eV a) (eV il))) (eTup (aCons (eV a) (aCons (eV b) aNil))) ρ s = .ok (.l ((h.filter fun p => decide (last < (p.1 : Int))).map keyV)) s := by
  obtain ⟨f, hf, hfs⟩ := Thing.its (th := .ref q) (s := s) (.inr ⟨_, rfl, hq⟩)
  have hf0 := hfs []
  rw [List.append_nil] at hf0
  have c := comp_gen (f := f) (ix := ixE (eV i)) (g := gT [a, b]) (own := [a, b]) (c := tB (eBin cGt (eV a) (eV il))) (e := eTup (aCons (eV a) (aCons (eV b) aNil))) (ρ := ρ) (s := s) (fun x => match x with | .tup (.int z :: _) => decide (last < z) | _ => false) (fun x => x) (by simp [hi, hf]) hf0 (by rw [List.length_map]; omega) fun x hx => by
    obtain ⟨p, hp, rfl⟩ := List.mem_map.mp hx
    have e1 : (((wipe ρ [a, b]).set a (some (nv p.1))).set b (some (nv p.2)))[b]? = some (some (nv p.2)) := List.getElem?_set_self (by simpa [wipe] using hb)
    have e2 : (((wipe ρ [a, b]).set a (some (nv p.1))).set b (some (nv p.2)))[a]? = some (some (nv p.1)) := by
      rw [List.getElem?_set_ne (Ne.symm hab)]
      exact List.getElem?_set_self (by simpa [wipe] using ha)
    have e3 : (((wipe ρ [a, b]).set a (some (nv p.1))).set b (some (nv p.2)))[il]? = some (some (.int last)) := by
      rw [List.getElem?_set_ne hbl, List.getElem?_set_ne hal]
      simp only [wipe]
      rw [List.getElem?_set_ne hal, List.getElem?_set_ne hbl]
      exact hL
    simp only [gT_r, setAll_c, setAll_n]
    refine ⟨_, rfl, ?_, fun _ => ?_⟩
    · simp only [tB_r, eBin_r, eV_r, e2, e3, bind_ok, cGt_i]
    · simp only [eTup_r, aCons_r, aNil_r, eV_r, e1, e2, bind_ok, mat_v, List.length_cons, List.length_nil, LIM_eq, Nat.reduceAdd, Nat.reduceLeDiff, if_true]
  rw [c, List.map_id', List.filter_map]
  rfl
theorem paired_map : ∀ (g h : List Pr), paired (g.map keyV) (h.map keyV) = (g.zip h).map fun p => .tup [keyV p.1, keyV p.2]
  | [], _ => rfl
  | _ :: _, [] => rfl
  | x :: g, y :: h => by
    show .tup [keyV x, keyV y] :: paired (g.map keyV) (h.map keyV) = _
    rw [paired_map g h]; rfl
theorem all2_zip : ∀ (g h : List Pr), all2 g h = (g.zip h).all fun p => decide (p.1.2 = p.2.2) && decide (p.2.1 ≤ p.1.1)
  | [], _ => by simp [all2]
  | _ :: _, [] => by simp [all2]
  | x :: g, y :: h => by
    unfold all2
    rw [List.zip_cons_cons, List.all_cons, all2_zip g h]
@[simp] theorem ixZip_r (e e' : Ev) (ρ : Env) (s : Store) : ixZip e e' ρ s = (e ρ s).bind fun t s => (e' ρ s).bind fun t' s => match itsOf t s, itsOf t' s with
  | some f, some g => if isTupT t == isTupT t' then .ok (zipI f g) s else .bad
  | _, _ => .bad := (rfl)
theorem judged_ok {R : Raw} (h : RawOk R) {k : Nat} {s : Store} (hp : PairAt R k s) {q qf : Nat} {ds : List Dd} {ex : List Nat} (hg : Good R t0 ds) (hn : ds.length ≤ 4000) (hq : s[q]? = some (.lst (ds.map Dd.val))) (hqf : s[qf]? = some (.lst (fnd R t0 0 ds))) :
    Wp (F_judged [.ref k, .ref q, (runS R t0 ds).val, .ref qf, exV ex] s) fun x s' => x = .v (.str (verdM R ds ex)) ∧ Ex s s' := by
  have hst := run_ok h (t0_ok h) hg
  rw [Nat.zero_add] at hst
  have hrl := restM_len h hst
  rw [fnd_P] at hqf
  rw [F_judged, wp_fnI (by rfl)]
  unfold B_judged
  simp only [List.map_cons, List.map_nil, Nat.reduceSub, List.replicate, List.cons_append, List.nil_append]
  refine seq_step ?_
  simp only [sAsg_r, eCall_r, aCons_r, aNil_r, eV_r, bind_ok, mat_v, List.getElem?_cons_succ, List.getElem?_cons_zero, wp_bind]
  refine (rest_of_ok h hst (by omega) hp).mono fun x s2 ⟨qv, e, E2, _, V2⟩ => ?_
  subst e
  simp only [mat_v, gT_r, setAll_c, setAll_n, wp_ok, List.set_cons_succ, List.set_cons_zero]
  unfold verdM
  generalize restM R (runS R t0 ds) = r at V2 hrl
  have D2 := E2.at hq
  have F2 := E2.at hqf
  have fl := fndP_len R t0 0 ds
  have hl := hndP_len 0 ds
  have cl := crP_len ex 0 ds
  refine seq_step ?_
  have cv := comp_vs (iv := 5) (ie := 1) (j := 16) (n := ds.length) (ρ := [some (.ref k), some (.ref q), some (runS R t0 ds).val, some (.ref qf), some (exV ex), some (.ref qv), some (.bool r.2.1), some (.bool r.2.2), none, none, none, none, none, none, none, none, none, none, none]) rfl V2 rfl D2 (by rw [List.length_map]) (by omega) (by simp) (by decide)
  have ad := addR (Y := (r.1.map fun v => (ds.length, v)).map keyV) F2 (by simp only [List.length_map]; omega)
  simp only [sAsg_r, eBin_r, eV_r, bind_ok, List.getElem?_cons_succ, List.getElem?_cons_zero, cv, ad, mat_l, gV_r, wp_ok, List.set_cons_succ, List.set_cons_zero]
  rw [← List.map_append]
  have hgl : ((fndP R t0 0 ds) ++ r.1.map fun v => (ds.length, v)).length ≤ 90000 := by rw [List.length_append, List.length_map]; omega
  unfold vdt
  generalize (fndP R t0 0 ds) ++ r.1.map (fun v => (ds.length, v)) = g at hgl
  have D4 := lk_app D2 [.lst (g.map keyV)]
  have E4 := E2.trans (Ex.app s2 [.lst (g.map keyV)])
  have G4 : (s2 ++ [Ob.lst (g.map keyV)])[s2.length]? = some (.lst (g.map keyV)) := by simp
  generalize s2 ++ [Ob.lst (g.map keyV)] = s4 at D4 E4 G4
  generalize s2.length = qg at G4
  refine seq_step ?_
  have ch := comp_hand (ia := 1) (b := 17) (d := 18) (ρ := [some (.ref k), some (.ref q), some (runS R t0 ds).val, some (.ref qf), some (exV ex), some (.ref qv), some (.bool r.2.1), some (.bool r.2.2), some (.ref qg), none, none, none, none, none, none, none, none, none, none]) rfl D4 (by omega) (by simp) (by simp) (by decide)
  simp only [sAsg_r, ch, bind_ok, mat_l, gV_r, wp_ok, List.set_cons_succ, List.set_cons_zero]
  generalize hndP 0 ds = hh at hl
  have D5 := lk_app D4 [.lst (hh.map keyV)]
  have G5 := lk_app G4 [.lst (hh.map keyV)]
  have E5 := E4.trans (Ex.app s4 [.lst (hh.map keyV)])
  have H5 : (s4 ++ [Ob.lst (hh.map keyV)])[s4.length]? = some (.lst (hh.map keyV)) := by simp
  generalize s4 ++ [Ob.lst (hh.map keyV)] = s5 at D5 G5 E5 H5
  generalize s4.length = qh at H5
  refine seq_step (Wp.mono (Q := fun r2 s6 => s6 = s5 ∧ (if (r.2.1 || !cg g hh) = true then r2.1 = .ret (.v (.str 102)) else r2 = (.next, [some (.ref k), some (.ref q), some (runS R t0 ds).val, some (.ref qf), some (exV ex), some (.ref qv), some (.bool r.2.1), some (.bool r.2.2), some (.ref qg), some (.ref qh), none, none, none, none, none, none, none, none, none]))) ?_ fun r2 s6 ⟨e6, e⟩ => ?_)
  · have gv := can_give_ok G5 H5 (by omega)
    simp only [sIf_r, tOr_r, tTru_r, eV_r, bind_ok, List.getElem?_cons_succ, List.getElem?_cons_zero, tru]
    cases hr : r.2.1 with
    | true =>
      simp only [if_true, bind_ok, Bool.true_or, sRet_r, eC_r, wp_ok]
      exact ⟨trivial, trivial⟩
    | false =>
      simp only [Bool.false_eq_true, if_false, tNot_r, tB_r, eCall_r, aCons_r, aNil_r, eV_r, bind_ok, mat_v, List.getElem?_cons_succ, List.getElem?_cons_zero, gv, Bool.false_or]
      cases cg g hh with
      | true =>
        simp only [Bool.not_true, Bool.false_eq_true, if_false, sNop_r, wp_ok]
        exact ⟨trivial, trivial⟩
      | false =>
        simp only [Bool.not_false, if_true, sRet_r, eC_r, bind_ok, wp_ok]
        exact ⟨trivial, trivial⟩
  · subst s6
    by_cases c1 : (r.2.1 || !cg g hh) = true
    · rw [if_pos c1] at e ⊢
      obtain ⟨fl2, ρ2⟩ := r2
      obtain rfl : fl2 = _ := e
      simp only [FinQ_r]
      exact ⟨trivial, E5⟩
    · rw [if_neg c1] at e ⊢
      subst e
      try dsimp only
      refine seq_step ?_
      have cc := comp_crash (ia := 1) (ie := 4) (b := 17) (d := 18) (ex := ex) (ρ := [some (.ref k), some (.ref q), some (runS R t0 ds).val, some (.ref qf), some (exV ex), some (.ref qv), some (.bool r.2.1), some (.bool r.2.2), some (.ref qg), some (.ref qh), none, none, none, none, none, none, none, none, none]) rfl rfl D5 (by omega) (by simp) (by simp) (by decide) (by decide) (by decide)
      simp only [sAsg_r, cc, bind_ok, mat_l, gV_r, wp_ok, List.set_cons_succ, List.set_cons_zero]
      generalize crP ex 0 ds = cr at cl
      have G6 := lk_app G5 [.lst (cr.map nv)]
      have H6 := lk_app H5 [.lst (cr.map nv)]
      have E6 := E5.trans (Ex.app s5 [.lst (cr.map nv)])
      have C6 : (s5 ++ [Ob.lst (cr.map nv)])[s5.length]? = some (.lst (cr.map nv)) := by simp
      generalize s5 ++ [Ob.lst (cr.map nv)] = s6 at G6 H6 E6 C6
      generalize s5.length = qc at C6
      refine seq_step ?_
      have ac := addR (Y := [.int (-1)]) C6 (by simp; omega)
      simp only [sAsg_r, eB1_r, eBin_r, eLst_r, eNeg_r, eV_r, aCons_r, aNil_r, eC_r, bind_ok, mat_v, List.getElem?_cons_succ, List.getElem?_cons_zero, List.length_cons, List.length_nil, LIM_eq, Nat.reduceAdd, Nat.reduceLeDiff, if_true, show (-(1 : Int)) = -1 from rfl, ac, bMax_p, gV_r, wp_ok, List.set_cons_succ, List.set_cons_zero]
      refine seq_step ?_
      have cd := comp_due (i := 9) (a := 17) (b := 16) (il := 11) (last := lastI cr) (ρ := [some (.ref k), some (.ref q), some (runS R t0 ds).val, some (.ref qf), some (exV ex), some (.ref qv), some (.bool r.2.1), some (.bool r.2.2), some (.ref qg), some (.ref qh), some (.ref qc), some (.int (lastI cr)), none, none, none, none, none, none, none]) rfl rfl H6 (by omega) (by simp) (by simp) (by decide) (by decide) (by decide)
      simp only [sAsg_r, cd, bind_ok, mat_l, gV_r, wp_ok, List.set_cons_succ, List.set_cons_zero]
      have dl := List.length_filter_le (fun p : Pr => decide (lastI cr < (p.1 : Int))) hh
      generalize hh.filter (fun p => decide (lastI cr < (p.1 : Int))) = due at dl
      have G7 := lk_app G6 [.lst (due.map keyV)]
      have H7 := lk_app H6 [.lst (due.map keyV)]
      have E7 := E6.trans (Ex.app s6 [.lst (due.map keyV)])
      have D7 : (s6 ++ [Ob.lst (due.map keyV)])[s6.length]? = some (.lst (due.map keyV)) := by simp
      generalize s6 ++ [Ob.lst (due.map keyV)] = s7 at G7 H7 E7 D7
      generalize s6.length = qd at D7
      refine seq_step ?_
      simp only [sAsg_r, eBin_r, eB1_r, bLen_r, eV_r, bind_ok, mat_v, List.getElem?_cons_succ, List.getElem?_cons_zero, lk_seq G7, lk_seq D7, List.length_map, oSub_i, gV_r, wp_ok, List.set_cons_succ, List.set_cons_zero]
      refine seq_step (Wp.mono (Q := fun r2 s8 => Ex s s8 ∧ Ex s7 s8 ∧ (if (decide (g.length < due.length) || !cg (g.take (g.length - due.length)) (hh.take (hh.length - due.length))) = true then r2.1 = .ret (.v (.str 60)) else due.length ≤ g.length ∧ r2 = (.next, [some (.ref k), some (.ref q), some (runS R t0 ds).val, some (.ref qf), some (exV ex), some (.ref qv), some (.bool r.2.1), some (.bool r.2.2), some (.ref qg), some (.ref qh), some (.ref qc), some (.int (lastI cr)), some (.ref qd), some (.int ((g.length : Int) - (due.length : Int))), none, none, none, none, none]))) ?_ fun r2 s8 ⟨E8, X8, e⟩ => ?_)
      · simp only [sIf_r, tOr_r, tB_r, eBin_r, eV_r, eC_r, bind_ok, List.getElem?_cons_succ, List.getElem?_cons_zero, cLt_i]
        by_cases hlt : g.length < due.length
        · simp only [show decide ((g.length : Int) - (due.length : Int) < 0) = true from decide_eq_true (by omega), decide_eq_true hlt, if_true, Bool.true_or, sRet_r, eC_r, bind_ok, wp_ok]
          exact ⟨E7, Ex.refl _, trivial⟩
        · have ea : (g.length : Int) - (due.length : Int) = ((g.length - due.length : Nat) : Int) := by omega
          have eb : (hh.length : Int) - (due.length : Int) = ((hh.length - due.length : Nat) : Int) := by omega
          simp only [show decide ((g.length : Int) - (due.length : Int) < 0) = false from decide_eq_false (by omega), decide_eq_false hlt, Bool.false_eq_true, if_false, Bool.false_or, tNot_r, tB_r, eCall_r, aCons_r, aNil_r, eSl_r, optI_n, optI_s, eBin_r, eB1_r, bLen_r, eV_r, bind_ok, List.getElem?_cons_succ, List.getElem?_cons_zero, ea, slc_ref _ _ (lk_seq G7), cutV_to, mat_l]
          have G8 : (s7 ++ [Ob.lst ((g.map keyV).take (g.length - due.length))])[s7.length]? = some (.lst ((g.take (g.length - due.length)).map keyV)) := by rw [List.map_take]; simp
          have H8 := lk_app H7 [.lst ((g.map keyV).take (g.length - due.length))]
          have D8 := lk_app D7 [.lst ((g.map keyV).take (g.length - due.length))]
          have E8 := Ex.app s7 [.lst ((g.map keyV).take (g.length - due.length))]
          generalize s7 ++ [Ob.lst ((g.map keyV).take (g.length - due.length))] = s8 at G8 H8 D8 E8
          generalize s7.length = q8 at G8
          simp only [lk_seq H8, lk_seq D8, List.length_map, oSub_i, eb, slc_ref _ _ (lk_seq H8), cutV_to, mat_l, bind_ok]
          have G9 := lk_app G8 [.lst ((hh.map keyV).take (hh.length - due.length))]
          have H9 : (s8 ++ [Ob.lst ((hh.map keyV).take (hh.length - due.length))])[s8.length]? = some (.lst ((hh.take (hh.length - due.length)).map keyV)) := by rw [List.map_take]; simp
          have E9 := E8.trans (Ex.app s8 [.lst ((hh.map keyV).take (hh.length - due.length))])
          generalize s8 ++ [Ob.lst ((hh.map keyV).take (hh.length - due.length))] = s9 at G9 H9 E9
          have gv := can_give_ok G9 H9 (by rw [List.length_take]; omega)
          simp only [gv, bind_ok, show decide (((g.length - due.length : Nat) : Int) < 0) = false from decide_eq_false (by omega), Bool.false_eq_true, if_false]
          cases cg (g.take (g.length - due.length)) (hh.take (hh.length - due.length)) with
          | true =>
            simp only [Bool.not_true, Bool.false_eq_true, if_false, sNop_r, wp_ok]
            exact ⟨E7.trans E9, E9, by omega, trivial⟩
          | false =>
            simp only [Bool.not_false, if_true, sRet_r, eC_r, bind_ok, wp_ok]
            exact ⟨E7.trans E9, E9, trivial⟩
      · by_cases c2 : (decide (g.length < due.length) || !cg (g.take (g.length - due.length)) (hh.take (hh.length - due.length))) = true
        · rw [if_pos c2] at e ⊢
          obtain ⟨fl2, ρ2⟩ := r2
          obtain rfl : fl2 = _ := e
          simp only [FinQ_r]
          exact ⟨trivial, E8⟩
        · rw [if_neg c2] at e ⊢
          obtain ⟨hle, e⟩ := e
          subst e
          try dsimp only
          have G8 := X8.at G7
          have D8 := X8.at D7
          have ea : (g.length : Int) - (due.length : Int) = ((g.length - due.length : Nat) : Int) := by omega
          obtain ⟨f, hf, hfs⟩ := Thing.its (th := .ref qd) (s := s8) (.inr ⟨_, rfl, D8⟩)
          have hf0 := hfs []
          rw [List.append_nil] at hf0
          have zi : zipI (fun _ => some ((g.drop (g.length - due.length)).map keyV)) f s8 = some (((g.drop (g.length - due.length)).zip due).map fun p => .tup [keyV p.1, keyV p.2]) := by
            unfold zipI
            simp only [hf0, paired_map]
          refine seq_step ((wp_for (its := zipI (fun _ => some ((g.drop (g.length - due.length)).map keyV)) f) (xs := ((g.drop (g.length - due.length)).zip due).map fun p => .tup [keyV p.1, keyV p.2]) (s1 := s8)
            (by simp only [ixZip_r, eSl_r, optI_n, optI_s, eV_r, bind_ok, List.getElem?_cons_succ, List.getElem?_cons_zero, ea, slc_ref _ _ (lk_seq G8), cutV_from, itsOf_l, hf, ← List.map_drop]; rfl)
            (fun i ρ s9 => s9 = s8 ∧ (∀ p ∈ ((g.drop (g.length - due.length)).zip due).take i, (decide (p.1.2 = p.2.2) && decide (p.2.1 ≤ p.1.1)) = true) ∧ ∃ a b, ρ = [some (.ref k), some (.ref q), some (runS R t0 ds).val, some (.ref qf), some (exV ex), some (.ref qv), some (.bool r.2.1), some (.bool r.2.2), some (.ref qg), some (.ref qh), some (.ref qc), some (.int (lastI cr)), some (.ref qd), some (.int ((g.length : Int) - (due.length : Int))), a, b, none, none, none])
            (fun i ρ s9 ⟨e9, _⟩ => by rw [e9]; exact zi) ⟨rfl, fun p hp => by simp at hp, none, none, rfl⟩
            (Q := fun r2 s9 => s9 = s8 ∧ (if all2 (g.drop (g.length - due.length)) due = true then ∃ ρ, ρ[7]? = some (some (.bool r.2.2)) ∧ r2 = (.next, ρ) else r2.1 = .ret (.v (.str 60)))) (fun i x ρ s9 hx ⟨e9, hall, a, b, e⟩ => ?_) fun ρ s9 ⟨e9, hall, a, b, e⟩ => ?_).mono fun r2 s9 ⟨e9, e⟩ => ?_)
          · subst s9; subst e
            rw [List.getElem?_map] at hx
            obtain ⟨p, hpx, rfl⟩ := Option.map_eq_some_iff.mp hx
            have d1 : decide (((p.1.2 : Nat) : Int) = ((p.2.2 : Nat) : Int)) = decide (p.1.2 = p.2.2) := decide_eq_decide.mpr (by omega)
            have d2 : decide (((p.1.1 : Nat) : Int) < ((p.2.1 : Nat) : Int)) = !decide (p.2.1 ≤ p.1.1) := by
              by_cases hh2 : p.2.1 ≤ p.1.1
              · rw [decide_eq_true hh2, decide_eq_false (by omega)]; rfl
              · rw [decide_eq_false hh2, decide_eq_true (by omega)]; rfl
            simp only [gT_r, setAll_c, setAll_n, wp_ok, List.set_cons_succ, List.set_cons_zero, sIf_r, tOr_r, tB_r, eBin_r, eV_r, eC_r, bind_ok, List.getElem?_cons_succ, List.getElem?_cons_zero, oIdx_r, seqOf_t, atI_1, atI_0, cNe_r, eqT_i, Option.map_some, ans_s, cGt_i, d1, d2]
            have hall2 : (decide (p.1.2 = p.2.2) && decide (p.2.1 ≤ p.1.1)) = false → all2 (g.drop (g.length - due.length)) due = false := fun hb => by
              rw [all2_zip]
              refine Bool.eq_false_iff.mpr fun ht => ?_
              have := List.all_eq_true.mp ht p (List.mem_of_getElem? hpx)
              rw [hb] at this; cases this
            cases hv : decide (p.1.2 = p.2.2) with
            | false =>
              have h0 := hall2 (by rw [hv]; rfl)
              simp only [Bool.not_false, if_true, sRet_r, eC_r, bind_ok, wp_ok, h0, Bool.false_eq_true, if_false]
              exact ⟨trivial, trivial⟩
            | true =>
              simp only [Bool.not_true, Bool.false_eq_true, if_false, bind_ok]
              cases hw : decide (p.2.1 ≤ p.1.1) with
              | false =>
                have h0 := hall2 (by rw [hv, hw]; rfl)
                simp only [Bool.not_false, if_true, sRet_r, eC_r, bind_ok, wp_ok, h0, Bool.false_eq_true, if_false]
                exact ⟨trivial, trivial⟩
              | true =>
                simp only [Bool.not_true, Bool.false_eq_true, if_false, sNop_r, wp_ok]
                refine ⟨trivial, fun p' hp' => ?_, _, _, rfl⟩
                rw [take_succ hpx] at hp'
                rcases List.mem_append.mp hp' with hp' | hp'
                · exact hall p' hp'
                · simp at hp'
                  subst hp'
                  rw [hv, hw]; rfl
          · subst e
            have h1 : all2 (g.drop (g.length - due.length)) due = true := by
              rw [all2_zip, List.all_eq_true]
              rw [List.length_map, List.take_length] at hall
              exact hall
            rw [if_pos h1]
            exact ⟨e9, _, rfl, rfl⟩
          · subst s9
            by_cases c3 : all2 (g.drop (g.length - due.length)) due = true
            · rw [if_pos c3] at e ⊢
              obtain ⟨ρ, h7, e⟩ := e
              subst e
              simp only [sRet_r, eIf_r, tTru_r, eV_r, h7, bind_ok, tru, eC_r]
              cases r.2.2 with
              | true => simp only [if_true, bind_ok, wp_ok, FinQ_r]; exact ⟨trivial, E8⟩
              | false => simp only [Bool.false_eq_true, if_false, bind_ok, wp_ok, FinQ_r]; exact ⟨trivial, E8⟩
            · rw [if_neg c3] at e ⊢
              obtain ⟨fl2, ρ2⟩ := r2
              obtain rfl : fl2 = _ := e
              simp only [FinQ_r]
              exact ⟨trivial, E8⟩
theorem verdict_ok {R : Raw} (h : RawOk R) {k : Nat} {s : Store} (hp : PairAt R k s) {th : Val} {ds : List Dd} {ex : List Nat} (hx : exOk ex) (hg : Good R t0 ds) (hn : ds.length ≤ 4000) (ht : Thing th s (ds.map Dd.val)) :
    Wp (F_verdict [.ref k, th, exV ex] s) fun x s' => x = .v (.str (verdM R ds ex)) ∧ Ex s s' := by
  rw [F_verdict, wp_fn3]
  unfold B_verdict
  refine seq_step ?_
  simp only [sExp_r, eCall_r, aCons_r, aNil_r, eV_r, bind_ok, mat_v, List.getElem?_cons_succ, List.getElem?_cons_zero, req_ok hp, wp_ok, Nat.reduceSub, List.replicate]
  refine seq_step ?_
  simp only [sAsg_r, eCall_r, aCons_r, aNil_r, eV_r, bind_ok, mat_v, List.getElem?_cons_succ, List.getElem?_cons_zero, ctrail_ok h hp hg (by omega) ht, gT_r, setAll_c, setAll_n, wp_ok, List.set_cons_succ, List.set_cons_zero]
  have E1 := Ex.app s [.lst (ds.map Dd.val), .lst (fnd R t0 0 ds)]
  have D1 : (s ++ [Ob.lst (ds.map Dd.val), Ob.lst (fnd R t0 0 ds)])[s.length]? = some (.lst (ds.map Dd.val)) := by simp
  have F1 : (s ++ [Ob.lst (ds.map Dd.val), Ob.lst (fnd R t0 0 ds)])[s.length + 1]? = some (.lst (fnd R t0 0 ds)) := by simp
  generalize s ++ [Ob.lst (ds.map Dd.val), Ob.lst (fnd R t0 0 ds)] = s1 at E1 D1 F1
  refine seq_step ?_
  simp only [sExp_r, eCall_r, aCons_r, aNil_r, eV_r, bind_ok, mat_v, List.getElem?_cons_succ, List.getElem?_cons_zero, req_exc hx, wp_ok]
  simp only [sRet_r, eCall_r, aCons_r, aNil_r, eV_r, bind_ok, mat_v, List.getElem?_cons_succ, List.getElem?_cons_zero, wp_bind]
  refine (judged_ok h (hp.ex' E1) (ex := ex) hg hn D1 F1).mono fun x s2 ⟨e, E2⟩ => ?_
  subst e
  simp only [wp_ok, FinQ_r]
  exact ⟨trivial, E1.trans E2⟩
end
section
set_option Elab.async false
set_option linter.all false
set_option maxRecDepth 100000
set_option maxHeartbeats 4000000
theorem pl_st (t : St) : Pl 20 t.val := pl_tup (n := 19) fun x hx => by
  simp at hx
  rcases hx with rfl | rfl | rfl | rfl
  · exact pl_int _ _
  · exact pl_int _ _
  · exact pl_row 18 _
  · exact pl_row 18 _
theorem cut_last (xs : List Val) : cutV xs none (some (-1)) = xs.dropLast := by
  unfold cutV sIx
  simp only [List.drop_zero, Nat.sub_zero, show ((-1 : Int) < 0) from by decide, if_true]
  rw [List.dropLast_eq_take]
  congr 1
  omega
theorem PairAt.fr {R : Raw} {p n k : Nat} {s s' : Store} (h : PairAt R k s) (hp : Pu p n s) (hf : Fr p s s') : PairAt R k s' := by
  obtain ⟨i, j, h1, h2, h3⟩ := h.ex
  obtain ⟨a, b, c, hp, _⟩ := hp
  have g : ∀ {z c : Nat} {fs}, s[z]? = some (.ins c fs) → s'[z]? = some (.ins c fs) := fun {z c fs} e => by
    rw [hf.2 z (List.getElem?_eq_some_iff.mp e).1 (fun e2 => by subst e2; rw [hp] at e; cases e)]; exact e
  exact ⟨i, j, g h1, g h2, g h3⟩
theorem PairAt.set {R : Raw} {q k : Nat} {X : List Val} {o : Ob} {s : Store} (h : PairAt R k s) (hq : s[q]? = some (.lst X)) : PairAt R k (s.set q o) := by
  obtain ⟨i, j, h1, h2, h3⟩ := h.ex
  have g : ∀ {z c : Nat} {fs}, s[z]? = some (.ins c fs) → (s.set q o)[z]? = some (.ins c fs) := fun {z c fs} e => by
    rw [List.getElem?_set_ne (fun e2 => by subst e2; rw [hq] at e; cases e)]; exact e
  exact ⟨i, j, g h1, g h2, g h3⟩
theorem made_at {R : Raw} (s : Store) : PairAt R (s.length + 2) (s ++ [.ins 0 (sndF R), .ins 1 (rcvF R), .ins 2 [(77, .ref s.length), (72, .ref (s.length + 1))]]) :=
  ⟨s.length, s.length + 1, by simp, by simp, by simp⟩
theorem Nw.pair {R : Raw} {k : Nat} {s s' : Store} {q : Nat} {X : List Val} (h : Nw s s' q X) (hp : PairAt R k s) : PairAt R k s' := by
  obtain ⟨⟨l, rfl⟩, _⟩ := h
  exact hp.app l
theorem comp_two {α : Type} (a b : α → Val) {ps : List α} {ix : Ix} {f : Its} {g : Tgt} {own : List Nat} {e : Ev} {ρ : Env} {s s1 : Store} (hix : ix ρ s = .ok f s1) (hf : f s1 = some (ps.map a)) (hl : ps.length ≤ 1000000)
    (step : ∀ p, p ∈ ps → Wp (g (a p) (wipe ρ own) s1) fun ρ' s2 => s2 = s1 ∧ e ρ' s1 = .ok (.v (b p)) s1) : eComp ix g own tYes e ρ s = .ok (.l (ps.map b)) s1 := by
  refine eq_of_wp (wp_comp hix (xs := ps.map a) (fun i acc s' => s' = s1 ∧ acc = (ps.take i).map b) (fun _ _ _ h => by rw [h.1]; exact hf) ⟨rfl, by simp⟩ (fun i x acc s' hx ⟨e1, e2⟩ => ?_) fun acc s' ⟨e1, e2⟩ => ⟨by rw [e2, List.length_map, List.take_of_length_le (Nat.le_refl _)], e1⟩)
  subst e1
  rw [List.getElem?_map] at hx
  obtain ⟨p, hp, rfl⟩ := Option.map_eq_some_iff.mp hx
  have hi := (List.getElem?_eq_some_iff.mp hp).1
  refine (step p (List.mem_of_getElem? hp)).mono fun ρ' s2 ⟨e3, e4⟩ => ?_
  subst e3
  show Wp (Res.ok true s2) _
  simp only [wp_ok, if_true]
  rw [e4]
  simp only [wp_ok, mat_v]
  refine ⟨by rw [e2, List.length_map, List.length_take]; unfold LIM; omega, trivial, ?_⟩
  rw [e2, List.take_add_one, hp]
  simp
end
section
set_option Elab.async false
set_option linter.all false
set_option maxRecDepth 100000
set_option maxHeartbeats 4000000
set_option autoImplicit true
@[simp] theorem aApp_r (a b : Avs) (ρ : Env) (s : Store) : aApp a b ρ s = (a ρ s).bind fun xs s => (b ρ s).bind fun ys s => .ok (xs ++ ys) s := (rfl)
@[simp] theorem aDs_r (ds : List Val) (ρ : Env) (s : Store) : aDs ds ρ s = .ok ds s := (rfl)
theorem both_ex : G_BOTH = exV [77, 72] := rfl
theorem Pu.ex {p n : Nat} {s s' : Store} (h : Pu p n s) (x : Ex s s') : Pu p n s' := by
  obtain ⟨a, b, c, h1, h2⟩ := h
  exact ⟨a, b, c, x.at h1, h2⟩
end
section
set_option Elab.async false
set_option linter.all false
set_option maxRecDepth 100000
set_option maxHeartbeats 4000000
set_option autoImplicit true
theorem purse_ok {ns : List Int} {s : Store} (hs : seqOf (.v (.ref 0)) s = some (ns.map Val.int)) (i : Nat) : ∃ a b : Int, F__law_purse [.ref 0, nv i] s = .ok (.l [.int a, .int b, .int (1000 * (i : Int))]) s := by
  have sm : small 1000 = true := by decide
  suffices h : Wp (F__law_purse [.ref 0, nv i] s) fun x s' => s' = s ∧ ∃ a b : Int, x = .l [.int a, .int b, .int (1000 * (i : Int))] by
    obtain ⟨x, s', e, rfl, a, b, rfl⟩ := h
    exact ⟨a, b, e⟩
  rw [F__law_purse, wp_fn2]
  by_cases hi : i < ns.length
  · have at1 : atI (ns.map Val.int) (i : Int) = some (.int ns[i]) := atI_of (by rw [List.getElem?_map, List.getElem?_eq_getElem hi]; rfl)
    simp [B__law_purse, hs, show (i : Int) < (ns.length : Int) by omega, at1, sm]
  · simp [B__law_purse, hs, show ¬ (i : Int) < (ns.length : Int) by omega, sm]
section
variable {R : Raw} {k i : Nat} {De : Ev} {ρ : Env} {s : Store} {ds : List Dd}
end
end
end L_k36
end
section
set_option Elab.async false
set_option linter.all false
set_option maxRecDepth 100000
set_option maxHeartbeats 4000000
set_option autoImplicit true
namespace L_k36
open VI
/-! ### tables handed as lists -/
theorem Thing.lot {th : Val} {s : Store} {xs : List Val} (h : Thing th s xs) : isTy [0, 1, 2] .lot (.v th) s = some true := Thing.ty h
theorem checkedT {L : Val → Store → Res Tv} {nm st : Val} {xs : List Val} {th : Val} {s : Store} (hth : Thing th s xs) (hne : xs ≠ []) (hst : st = .non ∨ st = nv xs.length) (hl : xs.length ≤ 1000) (hL : ∀ x ∈ xs, L x s = .ok (.v (.bool true)) s) : F_checked L [nm, th, st] s = .ok (.v (.tup xs)) s := by
  apply eq_of_wp
  rw [F_checked, wp_fn3]
  have sq := Thing.seq hth
  obtain ⟨f, hf, hfs⟩ := Thing.its hth
  have hf0 : f s = some xs := by have := hfs []; rwa [List.append_nil] at this
  have h0 : ¬ ((xs.length : Int) = 0) := by
    have := List.length_pos_iff.mpr hne
    omega
  have test : Wp ((tOr (VI.tNot (tB (eB1 (bIs [0, 1, 2] .lot) (eV 1)))) (tOr (tB (eBin cEq (eB1 bLen (eV 1)) (eC (.int 0)))) (tAnd (tB (eBin cNotN (eV 2) (eC .non))) (tB (eBin cNe (eB1 bLen (eV 1)) (eV 2))))))
      (some nm :: some th :: some st :: List.replicate (6 - 3) none) s) fun b s' => b = false ∧ s' = s := by
    rcases hst with rfl | rfl <;> simp [hne, sq, Thing.lot hth]
  unfold B_checked
  rw [sSeq_r, wp_bind, sIf_r, wp_bind]
  refine test.mono fun b s' ⟨e1, e2⟩ => ?_
  subst e1 e2
  simp only [Bool.false_eq_true, if_false, sNop_r, wp_ok]
  rw [sSeq_r, wp_bind]
  refine Wp.mono (wp_for (its := fun s => (f s).map fun xs => numbered xs 0) (xs := numbered xs 0) (s1 := s') (by simp [hf])
    (fun i ρ s1 => s1 = s' ∧ ∃ a b, ρ = [some nm, some th, some st, none, a, b]) (fun _ _ _ ⟨e, _⟩ => by rw [e, hf0]; rfl) ⟨rfl, none, none, rfl⟩ (fun i x ρ s1 hx ⟨e, a, b, e2⟩ => ?_) (Q := fun r s1 => s1 = s' ∧ ∃ a b, r = (.next, [some nm, some th, some st, none, a, b])) fun ρ s1 ⟨e, a, b, e2⟩ => ⟨e, a, b, by rw [e2]⟩) fun r s1 ⟨e, a, b, e2⟩ => ?_
  · subst e e2
    rw [num_at] at hx
    obtain ⟨y, hy, rfl⟩ := Option.map_eq_some_iff.mp hx
    have hm := hL y (List.mem_of_getElem? hy)
    simp [eLamC, hm]
  · subst e e2
    simp [sq]
theorem sendsT {l : List (Option Nat)} {m : Nat} (h0 : l ≠ []) (hl : l.length ≤ 1000) (h : ∀ x, some x ∈ l → x < m) {th : Val} {s : Store} (hth : Thing th s (l.map optV)) : F_checked_sends [th, nv m] s = .ok (.v (lettersV l)) s := by
  apply eq_of_wp
  rw [F_checked_sends, wp_fn2]
  unfold B_checked_sends
  rw [sRet_r, wp_bind, eCallL_r (is := [(m : Int)]) rfl]
  simp only [aCons_r, eC_r, eV_r, aNil_r, bind_ok, mat_v, List.getElem?_cons_zero]
  rw [checkedT hth (by simpa using h0) (.inl rfl) (by simpa using hl) fun x hx => ?_]
  · simp
  · obtain ⟨o, ho, rfl⟩ := List.mem_map.mp hx
    cases o with
    | none => simp [optV]
    | some i => simp [optV, is_below_nv (h i ho)]
theorem statesT {l : List Nat} {m : Nat} {nm : Val} (h0 : l ≠ []) (hm : l.length = m) (hl : l.length ≤ 1000) (h : ∀ x ∈ l, x < m) {th : Val} {s : Store} (hth : Thing th s (l.map nv)) : F_checked_states [nm, th, nv m] s = .ok (.v (rowV l)) s := by
  apply eq_of_wp
  rw [F_checked_states, wp_fn3]
  unfold B_checked_states
  rw [sRet_r, wp_bind, eCallL_r (is := [(m : Int)]) rfl]
  simp only [aCons_r, eC_r, eV_r, aNil_r, bind_ok, mat_v, List.getElem?_cons_zero, List.getElem?_cons_succ]
  rw [checkedT hth (by simpa using h0) (.inr (by simp [hm])) (by simpa using hl) fun x hx => ?_]
  · simp
  · obtain ⟨i, hi, rfl⟩ := List.mem_map.mp hx
    simp [is_below_nv (h i hi)]
theorem hearsT {l : List (List Nat)} {w m : Nat} (h0 : l ≠ []) (hm : l.length = m) (hl : l.length ≤ 1000) (hw : w ≤ 1000) (h : ∀ r ∈ l, r.length = w ∧ ∀ x ∈ r, x < m) {th : Val} {s : Store} (hth : Thing th s (l.map fun r => rowV r)) : F_checked_hears [th, nv w, nv m] s = .ok (.v (tabV l)) s := by
  apply eq_of_wp
  rw [F_checked_hears, wp_fn3]
  unfold B_checked_hears
  rw [sRet_r, wp_bind, eCallL_r (is := [(w : Int), (m : Int)]) rfl]
  simp only [aCons_r, eC_r, eV_r, aNil_r, bind_ok, mat_v, List.getElem?_cons_zero, List.getElem?_cons_succ]
  rw [checkedT hth (by simpa using h0) (.inr (by simp [hm])) (by simpa using hl) fun x hx => ?_]
  · simp
  · obtain ⟨r, hr, rfl⟩ := List.mem_map.mp hx
    obtain ⟨h1, h2⟩ := h r hr
    subst h1
    simp only [eCall_r, aCons_r, eC_r, eV_r, aNil_r, bind_ok, mat_v, List.getElem?_cons_zero, List.getElem?_cons_succ, List.map_cons, List.map_nil]
    exact is_row_ok hw h2 _
theorem takesT {l : List (Option (List Nat))} {w m : Nat} (hm : l.length = m) (hl : l.length ≤ 1000) (hw : w ≤ 1000) (h : ∀ r, some r ∈ l → r.length = w ∧ ∀ x ∈ r, x < m) (h1 : ∃ r t, l = some r :: t) {th : Val} {s : Store} (hth : Thing th s (l.map takeV)) : F_checked_takes [th, nv w, nv m] s = .ok (.v (takesV l)) s := by
  apply eq_of_wp
  rw [F_checked_takes, wp_fn3]
  unfold B_checked_takes
  have h0 : l ≠ [] := by obtain ⟨r, t, rfl⟩ := h1; simp
  have test : Wp ((tAnd (tB (eB1 (bIs [0, 1, 2] .lot) (eV 0))) (tAnd (tB (eBin cEq (eB1 bLen (eV 0)) (eV 2))) (tB (eBin cIsN (eBin oIdx (eV 0) (eC (.int 0))) (eC .non)))))
      (some th :: some (nv w) :: some (nv m) :: List.replicate (3 - 3) none) s) fun b s' => b = false ∧ s' = s := by
    obtain ⟨r, t, rfl⟩ := h1
    subst hm
    have sq := Thing.seq hth
    have lo := Thing.lot hth
    simp [takeV, sq, lo]
  rw [sSeq_r, wp_bind, sIf_r, wp_bind]
  refine test.mono fun b s' ⟨e1, e2⟩ => ?_
  subst e1 e2
  simp only [Bool.false_eq_true, if_false, sNop_r, wp_ok]
  rw [sRet_r, wp_bind, eCallL_r (is := [(w : Int), (m : Int)]) rfl]
  simp only [aCons_r, eC_r, eV_r, aNil_r, bind_ok, mat_v, List.getElem?_cons_zero, List.getElem?_cons_succ]
  rw [checkedT hth (by simpa using h0) (.inr (by simp [hm])) (by simpa using hl) fun x hx => ?_]
  · simp
  · obtain ⟨o, ho, rfl⟩ := List.mem_map.mp hx
    cases o with
    | none => simp [takeV]
    | some r =>
      obtain ⟨h1, h2⟩ := h r ho
      subst h1
      simp [takeV]
      exact is_row_ok hw h2 _
theorem snd_initT {R : Raw} (h : RawOk R) {t0 : Val} {t1 : Val} {t2 : Val} {t3 : Val} {t4 : Val} {s : Store} (h0 : Thing t0 s (R.S.sends.map optV)) (h1 : Thing t1 s (R.S.ticks.map nv)) (h2 : Thing t2 s (R.S.hears.map fun r => rowV r)) (h3 : Thing t3 s (R.S.takes.map takeV)) (h4 : Thing t4 s (R.S.crashes.map nv)) : F_Sender___init__ [.ref s.length, nv R.v, nv R.f, nv R.b, t0, t1, t2, t3, t4] (s ++ [.ins 0 []]) = .ok (.v .non) (s ++ [.ins 0 (sndF R)]) := by
  have hS := h.S
  have n0 : R.S.sends ≠ [] := by intro e; have := hS.len.1; rw [e] at this; simp at this
  apply eq_of_wp
  rw [F_Sender___init__, wp_fnI (np := 9) rfl]
  unfold B_Sender___init__
  refine seq_step ((pos_loop h.v.1 h.f.1 h.b.1 rfl rfl rfl (by simp) (i := 0) (j := 0)).mono fun r s' ⟨e, x, e2⟩ => ?_)
  subst e e2
  simp only [List.map_cons, List.map_nil, List.cons_append, List.nil_append, List.set_cons_succ, List.set_cons_zero, Nat.reduceSub, List.replicate]
  refine seq_step (fld_step rfl rfl (by simp [putF]) (y := nv R.v) (by simp) ?_)
  refine seq_step (fld_step rfl rfl (by simp [putF]) (y := nv R.f) (by simp) ?_)
  refine seq_step (fld_step rfl rfl (by simp [putF]) (y := nv R.b) (by simp) ?_)
  refine seq_step (fld_step rfl rfl (by simp [putF]) (y := lettersV R.S.sends) (by simp [sendsT (hth := h0.app _) n0 (Nat.le_trans hS.len.2 (by decide)) hS.sends]) ?_)
  refine seq_step ?_
  have hlk : fldOf [0, 1] (.v (.ref s.length)) 78 (s ++ [.ins 0 (putF 78 (lettersV R.S.sends) (putF 14 (nv R.b) (putF 28 (nv R.f) (putF 91 (nv R.v) []))))]) = some (lettersV R.S.sends) := by
    rw [fldOf_new _ _ _ _ _ rfl]; simp [putF, List.lookup]
  simp only [sAsg_r, eB1_r, eFld_r, eV_r, bind_ok, List.getElem?_cons_zero, hlk, bLen_r, seqOf_t, mat_v, gV_r, wp_ok, List.length_map, List.set_cons_succ, List.set_cons_zero]
  have nt : R.S.ticks ≠ [] := by intro e; have h1 := hS.ticks.1; have := hS.len.1; rw [e] at h1; simp at h1; omega
  have nh : R.S.hears ≠ [] := by intro e; have h1 := hS.hears.1; have := hS.len.1; rw [e] at h1; simp at h1; omega
  have nc : R.S.crashes ≠ [] := by intro e; have h1 := hS.crashes.1; have := hS.len.1; rw [e] at h1; simp at h1; omega
  have b1 : R.S.ticks.length ≤ 1000 := by rw [hS.ticks.1]; exact (Nat.le_trans hS.len.2 (by decide))
  have b2 : R.S.hears.length ≤ 1000 := by rw [hS.hears.1]; exact (Nat.le_trans hS.len.2 (by decide))
  have b3 : R.S.takes.length ≤ 1000 := by rw [hS.takes.1]; exact (Nat.le_trans hS.len.2 (by decide))
  have b4 : R.S.crashes.length ≤ 1000 := by rw [hS.crashes.1]; exact (Nat.le_trans hS.len.2 (by decide))
  refine seq_step (fld_step rfl rfl (by simp [putF]) (y := rowV R.S.ticks) (by simp [statesT (hth := h1.app _) nt hS.ticks.1 b1 hS.ticks.2]) ?_)
  refine seq_step (fld_step rfl rfl (by simp [putF]) (y := tabV R.S.hears) (by simp [hearsT (hth := h2.app _) nh hS.hears.1 b2 h.b.2 hS.hears.2]) ?_)
  refine seq_step (fld_step rfl rfl (by simp [putF]) (y := takesV R.S.takes) (by simp [takesT (hth := h3.app _) hS.takes.1 b3 h.v.2 hS.takes.2.1 hS.takes.2.2]) ?_)
  refine fld_step rfl rfl (by simp [putF]) (y := rowV R.S.crashes) (by simp [statesT (hth := h4.app _) nc hS.crashes.1 b4 hS.crashes.2]) ?_
  refine ⟨rfl, ?_⟩
  simp [putF]
theorem rcv_initT {R : Raw} (h : RawOk R) {t0 : Val} {t1 : Val} {t2 : Val} {t3 : Val} {t4 : Val} {s : Store} (h0 : Thing t0 s (R.R.sends.map optV)) (h1 : Thing t1 s (R.R.ticks.map nv)) (h2 : Thing t2 s (R.R.hears.map fun r => rowV r)) (h3 : Thing t3 s (R.R.gives.map fun r => lettersV r)) (h4 : Thing t4 s (R.R.crashes.map nv)) : F_Receiver___init__ [.ref s.length, nv R.v, nv R.f, nv R.b, t0, t1, t2, t3, t4] (s ++ [.ins 1 []]) = .ok (.v .non) (s ++ [.ins 1 (rcvF R)]) := by
  have hS := h.R
  have n0 : R.R.sends ≠ [] := by intro e; have := hS.len.1; rw [e] at this; simp at this
  apply eq_of_wp
  rw [F_Receiver___init__, wp_fnI (np := 9) rfl]
  unfold B_Receiver___init__
  refine seq_step ((pos_loop h.v.1 h.f.1 h.b.1 rfl rfl rfl (by simp) (i := 0) (j := 0)).mono fun r s' ⟨e, x, e2⟩ => ?_)
  subst e e2
  simp only [List.map_cons, List.map_nil, List.cons_append, List.nil_append, List.set_cons_succ, List.set_cons_zero, Nat.reduceSub, List.replicate]
  refine seq_step (fld_step rfl rfl (by simp [putF]) (y := nv R.v) (by simp) ?_)
  refine seq_step (fld_step rfl rfl (by simp [putF]) (y := nv R.f) (by simp) ?_)
  refine seq_step (fld_step rfl rfl (by simp [putF]) (y := nv R.b) (by simp) ?_)
  refine seq_step (fld_step rfl rfl (by simp [putF]) (y := lettersV R.R.sends) (by simp [sendsT (hth := h0.app _) n0 (Nat.le_trans hS.len.2 (by decide)) hS.sends]) ?_)
  refine seq_step ?_
  have hlk : fldOf [0, 1] (.v (.ref s.length)) 78 (s ++ [.ins 1 (putF 78 (lettersV R.R.sends) (putF 14 (nv R.b) (putF 28 (nv R.f) (putF 91 (nv R.v) []))))]) = some (lettersV R.R.sends) := by
    rw [fldOf_new _ _ _ _ _ rfl]; simp [putF, List.lookup]
  simp only [sAsg_r, eB1_r, eFld_r, eV_r, bind_ok, List.getElem?_cons_zero, hlk, bLen_r, seqOf_t, mat_v, gV_r, wp_ok, List.length_map, List.set_cons_succ, List.set_cons_zero]
  have nt : R.R.ticks ≠ [] := by intro e; have h1 := hS.ticks.1; have := hS.len.1; rw [e] at h1; simp at h1; omega
  have nh : R.R.hears ≠ [] := by intro e; have h1 := hS.hears.1; have := hS.len.1; rw [e] at h1; simp at h1; omega
  have nc : R.R.crashes ≠ [] := by intro e; have h1 := hS.crashes.1; have := hS.len.1; rw [e] at h1; simp at h1; omega
  have ng : R.R.gives ≠ [] := by intro e; have h1 := hS.gives.1; have := hS.len.1; rw [e] at h1; simp at h1; omega
  have b1 : R.R.ticks.length ≤ 1000 := by rw [hS.ticks.1]; exact (Nat.le_trans hS.len.2 (by decide))
  have b2 : R.R.hears.length ≤ 1000 := by rw [hS.hears.1]; exact (Nat.le_trans hS.len.2 (by decide))
  have b3 : R.R.gives.length ≤ 1000 := by rw [hS.gives.1]; exact (Nat.le_trans hS.len.2 (by decide))
  have b4 : R.R.crashes.length ≤ 1000 := by rw [hS.crashes.1]; exact (Nat.le_trans hS.len.2 (by decide))
  refine seq_step (fld_step rfl rfl (by simp [putF]) (y := rowV R.R.ticks) (by simp [statesT (hth := h1.app _) nt hS.ticks.1 b1 hS.ticks.2]) ?_)
  refine seq_step (fld_step rfl rfl (by simp [putF]) (y := tabV R.R.hears) (by simp [hearsT (hth := h2.app _) nh hS.hears.1 b2 h.f.2 hS.hears.2]) ?_)
  refine seq_step (fld_step rfl rfl (by simp [putF]) (y := givesV R.R.gives) ?_ ?_)
  · rw [eCallL_r (is := [(R.f : Int), (R.v : Int)]) rfl]
    simp only [aCons_r, eC_r, eV_r, aNil_r, bind_ok, mat_v, List.getElem?_cons_zero, List.getElem?_cons_succ]
    rw [checkedT (h3.app _) (by simpa using ng) (.inr (by simp [hS.gives.1])) (by simpa using b3) fun x hx => ?_]
    obtain ⟨r, hr, rfl⟩ := List.mem_map.mp hx
    obtain ⟨h1, h2⟩ := hS.gives.2 r hr
    simp only [eCall_r, aCons_r, eC_r, eV_r, aNil_r, bind_ok, mat_v, List.getElem?_cons_zero, List.getElem?_cons_succ, List.map_cons, List.map_nil]
    have := is_given_ok (l := r) (m := R.v) (by rw [h1]; exact h.f.2) h2
    rw [h1] at this
    exact this _
  refine fld_step rfl rfl (by simp [putF]) (y := rowV R.R.crashes) (by simp [statesT (hth := h4.app _) nc hS.crashes.1 b4 hS.crashes.2]) ?_
  refine ⟨rfl, ?_⟩
  simp [putF]
end L_k36
end
section
set_option Elab.async false
set_option linter.all false
set_option maxRecDepth 100000
set_option maxHeartbeats 4000000
set_option autoImplicit true
namespace L_k36
open VI
def vN (R : Raw) (t : St) (m : List Dd) : List Nat := (fndP R t 0 m).map (·.2)
theorem vN_at (R : Raw) : ∀ (t : St) (j : Nat) (m : List Dd), (fndP R t j m).map (·.2) = vN R t m
  | t, j, [] => rfl
  | t, j, d :: m => by
    unfold vN fndP
    rw [List.map_append, List.map_append, vN_at R _ (j + 1) m, vN_at R _ (0 + 1) m]
    cases (step R t d).2 <;> rfl
theorem vN_cons (R : Raw) (t : St) (d : Dd) (m : List Dd) : vN R t (d :: m) = (step R t d).2.toList ++ vN R (step R t d).1 m := by
  show ((((step R t d).2.toList.map fun v => ((0, v) : Pr)) ++ fndP R (step R t d).1 (0 + 1) m).map fun p : Pr => p.2) = _
  rw [List.map_append, vN_at, List.map_map]
  simp [Function.comp_def]
def ddD : Dd → Dt
  | .hand v => .tup [.str 32, .int (v : Int)]
  | .send => .tup [.str 76]
  | .answer => .tup [.str 10]
  | .passF => .tup [.str 67, .str 28]
  | .passB => .tup [.str 67, .str 14]
  | .loseF i => .tup [.str 59, .str 28, .int (i : Int)]
  | .loseB i => .tup [.str 59, .str 14, .int (i : Int)]
  | .crashS => .tup [.str 19, .str 77]
  | .crashR => .tup [.str 19, .str 72]
theorem toD_dd (s : Store) (n : Nat) (d : Dd) : toD s (n + 1) d.val = some (ddD d) := by
  cases d <;> (show (mapO (toD s n) _).map Dt.tup = _; simp only [mapO, toD_str, toD_int, Option.map_some]; rfl)
theorem toD_dds (s : Store) (n : Nat) : ∀ ds : List Dd, mapO (toD s (n + 1)) (ds.map Dd.val) = some (ds.map ddD)
  | [] => rfl
  | d :: ds => by
    rw [List.map_cons]
    unfold mapO
    rw [toD_dd, toD_dds s n ds]
    rfl
theorem tvD_ds (ds : List Dd) (s : Store) : tvD s (.l (ds.map Dd.val)) = some (.lst (ds.map ddD)) := by
  show (mapO (toD s 20) (ds.map Dd.val)).map Dt.lst = _
  rw [toD_dds s 19]; rfl
theorem tvD_dsR {q : Nat} {ds : List Dd} {s : Store} (h : s[q]? = some (.lst (ds.map Dd.val))) : tvD s (.v (.ref q)) = some (.lst (ds.map ddD)) := by
  have e0 : tvD s (.v (.ref q)) = match s[q]? with
    | some (.lst l) => (mapO (toD s 19) l).map Dt.lst
    | some (.frz l) => (mapO (toD s 19) l).map Dt.lst
    | _ => none := rfl
  rw [e0, h]
  simp only [toD_dds s 18, Option.map_some]
theorem its_ref {q : Nat} {X : List Val} {s : Store} (h : s[q]? = some (.lst X)) : ∃ f : Its, itsOf (.v (.ref q)) s = some f ∧ ∀ s2, Ex s s2 → f s2 = some X := by
  obtain ⟨f, hf, _⟩ := Thing.its (th := .ref q) (s := s) (.inr ⟨_, rfl, h⟩)
  refine ⟨f, hf, fun s2 E => ?_⟩
  unfold itsOf at hf
  simp only [h] at hf
  cases hf
  simp only [E.at h]
theorem append_gen {i q : Nat} {e : Ev} {ρ : Env} {s : Store} {X : List Val} {Q : Tv → Store → Prop} (h1 : ρ[i]? = some (some (.ref q))) (hq : s[q]? = some (.lst X)) (hl : X.length < 16777216) (he : Wp (e ρ s) fun t s1 => ∃ y, t = .v y ∧ s1[q]? = some (.lst X) ∧ Q (.v .non) (s1.set q (.lst (X ++ [y])))) : Wp (eAppend (eV i) e ρ s) Q := by
  unfold eAppend
  have r : refL (.v (.ref q)) s = some (q, X) := by simp [refL, hq]
  simp only [eV_r, h1, bind_ok, r, Option.isSome_some, if_true, wp_bind]
  refine he.mono fun t s1 ⟨y, et, hq1, k⟩ => ?_
  subst et
  have r1 : refL (.v (.ref q)) s1 = some (q, X) := by simp [refL, hq1]
  simp only [mat_v, bind_ok, r1, if_pos (show X.length < LIM from hl), updL, wp_ok]
  exact k
/-! ### rounds of a quiet talk -/
structure Rd where
  snd : Nat
  msg : Option Nat
  val : Option Nat
  hrd : Nat
  rcv : Nat
  ans : Option Nat
  bh : St
def rdT1 (R : Raw) (t : St) : St := (step R t .send).1
def rdP (R : Raw) (u : St) : St × Option Nat := if u.th = [] then (u, none) else step R u .passF
def rdT3 (R : Raw) (t : St) : St := (step R (rdP R (rdT1 R t)).1 .answer).1
def rdB (R : Raw) (u : St) : St := if u.bk = [] then u else (step R u .passB).1
def rdM (R : Raw) (t : St) : Rd := ⟨(rdT1 R t).a, (rdT1 R t).th.head?, (rdP R (rdT1 R t)).2, (rdP R (rdT1 R t)).1.b, (rdT3 R t).b, (rdT3 R t).bk.head?, rdB R (rdT3 R t)⟩
abbrev rdF (r : Rd) : List (Nat × Val) := [(77, nv r.snd), (61, optV r.msg), (90, optV r.val), (33, nv r.hrd), (72, nv r.rcv), (10, optV r.ans), (15, r.bh.val)]
theorem gNF_r (i : Nat) (cs : List Nat) (o : Ev) (f : Nat) (a b : Val) (ρ : Env) (s : Store) : gNF i cs o f (.tup [a, b]) ρ s = (o (ρ.set i (some a)) s).bind fun t s => match refI cs t s with
    | some (n, c, fs) => if fs.length < 1000 then .ok (ρ.set i (some a)) (s.set n (.ins c (putF f b fs))) else .bad
    | none => .bad := (rfl)
theorem hd_cell {l : List Nat} (s : Store) : atI (l.map nv) 0 = (l.head?).map nv := by
  cases l with
  | nil => rfl
  | cons x l => exact atI_0 _ _
theorem rd_ok {R : Raw} (h : RawOk R) {t : St} (ht : StOk R 0 t) : StOk R 1 (rdT1 R t) ∧ StOk R 1 (rdP R (rdT1 R t)).1 ∧ StOk R 2 (rdT3 R t) ∧ StOk R 0 (rdB R (rdT3 R t)) := by
  have t1 : StOk R 1 (rdT1 R t) := step_ok h ht True.intro
  have e0 : t.th = [] := List.eq_nil_of_length_eq_zero (Nat.le_zero.mp ht.lt)
  have e1 : t.bk = [] := List.eq_nil_of_length_eq_zero (Nat.le_zero.mp ht.lb)
  have l1 : (rdT1 R t).th.length ≤ 1 := t1.lt
  have b1 : (rdT1 R t).bk = [] := e1
  have p : (rdP R (rdT1 R t)).1.th = [] ∧ (rdP R (rdT1 R t)).1.bk = [] ∧ StOk R 2 (rdP R (rdT1 R t)).1 := by
    unfold rdP
    by_cases hc : (rdT1 R t).th = []
    · rw [if_pos hc]
      exact ⟨hc, b1, ⟨t1.a, t1.b, t1.th, t1.bk, by show (rdT1 R t).th.length ≤ 2; omega, by have := t1.lb; show (rdT1 R t).bk.length ≤ 2; omega⟩⟩
    · rw [if_neg hc]
      have q := step_ok h t1 (d := .passF) hc
      refine ⟨?_, b1, q⟩
      have : (step R (rdT1 R t) .passF).1.th.length = 0 := by
        show (rdT1 R t).th.tail.length = 0
        rw [List.length_tail]; omega
      exact List.eq_nil_of_length_eq_zero this
  have p1 : StOk R 0 (rdP R (rdT1 R t)).1 := ⟨p.2.2.a, p.2.2.b, p.2.2.th, p.2.2.bk, by rw [p.1]; exact Nat.le_refl _, by rw [p.2.1]; exact Nat.le_refl _⟩
  have t3 : StOk R 1 (rdT3 R t) := step_ok h p1 True.intro
  have c1 : (rdT3 R t).th = [] := p.1
  refine ⟨t1, ⟨p1.a, p1.b, p1.th, p1.bk, by have := p1.lt; omega, by have := p1.lb; omega⟩, ⟨t3.a, t3.b, t3.th, t3.bk, by have := t3.lt; omega, by have := t3.lb; omega⟩, ?_⟩
  unfold rdB
  by_cases hc : (rdT3 R t).bk = []
  · rw [if_pos hc]
    exact ⟨t3.a, t3.b, t3.th, t3.bk, by rw [c1]; exact Nat.le_refl _, by rw [hc]; exact Nat.le_refl _⟩
  · rw [if_neg hc]
    have q := step_ok h t3 (d := .passB) hc
    have lb : (step R (rdT3 R t) .passB).1.bk.length = 0 := by
      show (rdT3 R t).bk.tail.length = 0
      have := t3.lb
      rw [List.length_tail]; omega
    have lt : (step R (rdT3 R t) .passB).1.th = [] := c1
    exact ⟨q.a, q.b, q.th, q.bk, by rw [lt]; exact Nat.le_refl _, by rw [lb]; exact Nat.le_refl _⟩
theorem msg_ev {l : List Nat} {t : St} {ρ : Env} {s : Store} {c : Int} (h2 : ρ[2]? = some (some t.val)) (ha : atI [nv t.a, nv t.b, rowV t.th, rowV t.bk] c = some (rowV l)) :
    eIf (tB (eBin cNe (eBin oIdx (eV 2) (eC (.int c))) (eTup aNil))) (eBin oIdx (eBin oIdx (eV 2) (eC (.int c))) (eC (.int 0))) (eC .non) ρ s = .ok (.v (optV l.head?)) s := by
  have h2' : ρ[2]? = some (some (.tup [nv t.a, nv t.b, rowV t.th, rowV t.bk])) := h2
  simp only [eIf_r, tB_r, eBin_r, eV_r, eC_r, eTup_r, aNil_r, h2', bind_ok, oIdx_r, seqOf_t, ha, List.length_nil, Nat.zero_le, LIM_eq, if_true, cNe_r, eqT_rn, Option.map_some, ans_s]
  cases l with
  | nil => rfl
  | cons x l =>
    simp only [List.isEmpty_cons, Bool.not_false, if_true, bind_ok, List.map_cons, atI_0, List.head?_cons, optV]
theorem round_init {R : Raw} (h : RawOk R) {t : St} (ht : StOk R 0 t) {k : Nat} {s : Store} (hp : PairAt R k s) : F_Round___init__ [.ref s.length, .ref k, t.val] (s ++ [.ins 14 []]) = .ok (.v .non) (s ++ [.ins 14 (rdF (rdM R t))]) := by
  obtain ⟨o1, o2, o3, o4⟩ := rd_ok h ht
  have P : ∀ fs, PairAt R k (s ++ [.ins 14 fs]) := fun fs => hp.app _
  have k1 : ∀ fs, F_ticked [.ref k, t.val, .bool true] (s ++ [.ins 14 fs]) = .ok (.v (rdT1 R t).val) (s ++ [.ins 14 fs]) := fun fs => ticked_ok h ht (by omega) (P fs) true
  have k3 : ∀ fs, F_ticked [.ref k, (rdP R (rdT1 R t)).1.val, .bool false] (s ++ [.ins 14 fs]) = .ok (.v (rdT3 R t).val) (s ++ [.ins 14 fs]) := fun fs => ticked_ok h o2 (by omega) (P fs) false
  apply eq_of_wp
  rw [F_Round___init__, wp_fnI (np := 3) rfl]
  unfold B_Round___init__
  simp only [List.map_cons, List.map_nil, List.length_cons, List.length_nil, Nat.reduceAdd, Nat.reduceSub, List.replicate, List.append_nil]
  refine seq_step ?_
  simp only [sAsg_r, eCall_r, aCons_r, aNil_r, eV_r, eC_r, bind_ok, mat_v, List.getElem?_cons_succ, List.getElem?_cons_zero, k1, gV_r, wp_ok, List.set_cons_succ, List.set_cons_zero]
  have i0 : ∀ u : St, atI [nv u.a, nv u.b, rowV u.th, rowV u.bk] 0 = some (nv u.a) := fun u => atI_0 _ _
  have i1 : ∀ u : St, atI [nv u.a, nv u.b, rowV u.th, rowV u.bk] 1 = some (nv u.b) := fun u => atI_1 _ _ _
  have i2 : ∀ u : St, atI [nv u.a, nv u.b, rowV u.th, rowV u.bk] 2 = some (rowV u.th) := fun u => by rw [atI_2]
  have i3 : ∀ u : St, atI [nv u.a, nv u.b, rowV u.th, rowV u.bk] 3 = some (rowV u.bk) := fun u => by rw [atI_3]
  refine seq_step (fld_step (cs := [2, 14]) (f := 77) (c := 14) (fs := []) (s := s) (e := eBin oIdx (eV 2) (eC (.int 0))) (ρ := [some (.ref s.length), some (.ref k), some (rdT1 R t).val]) (y := nv (rdT1 R t).a) rfl rfl (by simp) (by simp [St.val, i0]) ?_)
  refine seq_step (fld_step (cs := [14]) (f := 61) (c := 14) (fs := [(77, nv (rdT1 R t).a)]) (s := s) (y := optV (rdT1 R t).th.head?) rfl rfl (by simp) (msg_ev (t := rdT1 R t) rfl (i2 _)) ?_)
  refine seq_step (fld_step (cs := [14]) (f := 90) (c := 14) (fs := [(77, nv (rdT1 R t).a), (61, optV (rdT1 R t).th.head?)]) (s := s) (y := .non) rfl rfl (by simp) (by simp) ?_)
  have pf1 : putF 90 .non [(77, nv (rdT1 R t).a), (61, optV (rdT1 R t).th.head?)] = [(77, nv (rdT1 R t).a), (61, optV (rdT1 R t).th.head?), (90, .non)] := rfl
  rw [pf1]
  -- a message passed
  refine seq_step (Wp.mono (Q := fun r s' => s' = s ++ [.ins 14 [(77, nv (rdT1 R t).a), (61, optV (rdT1 R t).th.head?), (90, optV (rdP R (rdT1 R t)).2)]] ∧ r = (.next, [some (.ref s.length), some (.ref k), some (rdP R (rdT1 R t)).1.val])) ?_ fun r s' ⟨es, er⟩ => ?_)
  · have f61 : fldOf [14] (.v (.ref s.length)) 61 (s ++ [.ins 14 [(77, nv (rdT1 R t).a), (61, optV (rdT1 R t).th.head?), (90, Val.non)]]) = some (optV (rdT1 R t).th.head?) := by
      rw [fldOf_new _ _ _ _ _ rfl]; rfl
    simp only [sIf_r, tB_r, eBin_r, eFld_r, eV_r, eC_r, bind_ok, List.getElem?_cons_succ, List.getElem?_cons_zero, f61, cNotN_r]
    by_cases hc : (rdT1 R t).th = []
    · have pe : rdP R (rdT1 R t) = (rdT1 R t, none) := by unfold rdP; rw [if_pos hc]
      rw [pe, hc]
      simp only [List.head?_nil, optV, isN_non, Bool.not_true, bind_ok, Bool.false_eq_true, if_false, sNop_r, wp_ok]
      exact ⟨trivial, trivial⟩
    · have pe : rdP R (rdT1 R t) = step R (rdT1 R t) .passF := by unfold rdP; rw [if_neg hc]
      obtain ⟨x, l, hx⟩ := List.exists_cons_of_ne_nil hc
      have pk := passed_ok h o1 (P [(77, nv (rdT1 R t).a), (61, optV (rdT1 R t).th.head?), (90, Val.non)]) true hc
      simp only [if_true] at pk
      have hh : (rdT1 R t).th.head? = some x := by rw [hx]; rfl
      rw [hh] at pk ⊢
      rw [pe]
      have pf2 : putF 90 (optV (step R (rdT1 R t) .passF).2) [(77, nv (rdT1 R t).a), (61, optV (some x)), (90, Val.non)] = [(77, nv (rdT1 R t).a), (61, optV (some x)), (90, optV (step R (rdT1 R t) .passF).2)] := rfl
      have ri : refI [14] (.v (.ref s.length)) (s ++ [.ins 14 [(77, nv (rdT1 R t).a), (61, optV (some x)), (90, Val.non)]]) = some (s.length, 14, [(77, nv (rdT1 R t).a), (61, optV (some x)), (90, Val.non)]) := refI_new _ _ _ _ rfl
      have e61 : isN (.v (optV (some x))) = false := rfl
      simp only [e61, Bool.not_false, bind_ok, if_true, sAsg_r, eCall_r, aCons_r, aNil_r, eV_r, eC_r, mat_v, List.getElem?_cons_succ, List.getElem?_cons_zero, pk, gNF_r, List.set_cons_succ, List.set_cons_zero, ri, List.length_cons, List.length_nil, Nat.reduceAdd, Nat.reduceLT, pf2, set_new, wp_ok]
      exact ⟨trivial, trivial⟩
  subst es er
  refine seq_step (fld_step (cs := [14]) (f := 33) (c := 14) (fs := [(77, nv (rdT1 R t).a), (61, optV (rdT1 R t).th.head?), (90, optV (rdP R (rdT1 R t)).2)]) (s := s) (e := eBin oIdx (eV 2) (eC (.int 1))) (ρ := [some (.ref s.length), some (.ref k), some (rdP R (rdT1 R t)).1.val]) (y := nv (rdP R (rdT1 R t)).1.b) rfl rfl (by simp) (by simp [St.val, i1]) ?_)
  refine seq_step ?_
  simp only [sAsg_r, eCall_r, aCons_r, aNil_r, eV_r, eC_r, bind_ok, mat_v, List.getElem?_cons_succ, List.getElem?_cons_zero, k3, gV_r, wp_ok, List.set_cons_succ, List.set_cons_zero]
  refine seq_step (fld_step (cs := [2, 14]) (f := 72) (c := 14) (fs := [(77, nv (rdT1 R t).a), (61, optV (rdT1 R t).th.head?), (90, optV (rdP R (rdT1 R t)).2), (33, nv (rdP R (rdT1 R t)).1.b)]) (s := s) (e := eBin oIdx (eV 2) (eC (.int 1))) (ρ := [some (.ref s.length), some (.ref k), some (rdT3 R t).val]) (y := nv (rdT3 R t).b) rfl rfl (by simp) (by simp [St.val, i1]) ?_)
  refine seq_step (fld_step (cs := [14]) (f := 10) (c := 14) (fs := [(77, nv (rdT1 R t).a), (61, optV (rdT1 R t).th.head?), (90, optV (rdP R (rdT1 R t)).2), (33, nv (rdP R (rdT1 R t)).1.b), (72, nv (rdT3 R t).b)]) (s := s) (y := optV (rdT3 R t).bk.head?) rfl rfl (by simp) (msg_ev (t := rdT3 R t) rfl (i3 _)) ?_)
  have pf3 : putF 10 (optV (rdT3 R t).bk.head?) [(77, nv (rdT1 R t).a), (61, optV (rdT1 R t).th.head?), (90, optV (rdP R (rdT1 R t)).2), (33, nv (rdP R (rdT1 R t)).1.b), (72, nv (rdT3 R t).b)] = [(77, nv (rdT1 R t).a), (61, optV (rdT1 R t).th.head?), (90, optV (rdP R (rdT1 R t)).2), (33, nv (rdP R (rdT1 R t)).1.b), (72, nv (rdT3 R t).b), (10, optV (rdT3 R t).bk.head?)] := rfl
  rw [pf3]
  generalize hfs : [(77, nv (rdT1 R t).a), (61, optV (rdT1 R t).th.head?), (90, optV (rdP R (rdT1 R t)).2), (33, nv (rdP R (rdT1 R t)).1.b), (72, nv (rdT3 R t).b), (10, optV (rdT3 R t).bk.head?)] = fs
  have f10 : fldOf [14] (.v (.ref s.length)) 10 (s ++ [.ins 14 fs]) = some (optV (rdT3 R t).bk.head?) := by
    rw [fldOf_new _ _ _ _ _ rfl, ← hfs]; rfl
  refine seq_step (Wp.mono (Q := fun r s' => s' = s ++ [.ins 14 fs] ∧ r = (.next, [some (.ref s.length), some (.ref k), some (rdB R (rdT3 R t)).val])) ?_ fun r s' ⟨es, er⟩ => ?_)
  · simp only [sIf_r, tB_r, eBin_r, eFld_r, eV_r, eC_r, bind_ok, List.getElem?_cons_succ, List.getElem?_cons_zero, f10, cNotN_r]
    by_cases hc : (rdT3 R t).bk = []
    · have pe : rdB R (rdT3 R t) = rdT3 R t := by unfold rdB; rw [if_pos hc]
      rw [pe, hc]
      simp only [List.head?_nil, optV, isN_non, Bool.not_true, bind_ok, Bool.false_eq_true, if_false, sNop_r, wp_ok]
      exact ⟨trivial, trivial⟩
    · have pe : rdB R (rdT3 R t) = (step R (rdT3 R t) .passB).1 := by unfold rdB; rw [if_neg hc]
      obtain ⟨x, l, hx⟩ := List.exists_cons_of_ne_nil hc
      have pk := passed_ok h o3 (P fs) false hc
      simp only [Bool.false_eq_true, if_false] at pk
      have hh : (rdT3 R t).bk.head? = some x := by rw [hx]; rfl
      rw [hh, pe]
      have e10 : isN (.v (optV (some x))) = false := rfl
      simp only [e10, Bool.not_false, bind_ok, if_true, sAsg_r, eBin_r, eCall_r, aCons_r, aNil_r, eV_r, eC_r, mat_v, List.getElem?_cons_succ, List.getElem?_cons_zero, pk, oIdx_r, seqOf_t, atI_0, gV_r, List.set_cons_succ, List.set_cons_zero, wp_ok]
      exact ⟨trivial, trivial⟩
  subst es er
  refine fld_step (cs := [14]) (f := 15) (c := 14) (fs := fs) (s := s) (e := eV 2) (ρ := [some (.ref s.length), some (.ref k), some (rdB R (rdT3 R t)).val]) (y := (rdB R (rdT3 R t)).val) rfl rfl (by rw [← hfs]; simp) (by simp) ?_
  refine ⟨rfl, ?_⟩
  rw [← hfs]
  rfl
end L_k36
end
section
set_option Elab.async false
set_option linter.all false
set_option maxRecDepth 100000
set_option maxHeartbeats 4000000
set_option autoImplicit true
namespace L_k36
open VI
/-! ### rounds up to the first delivery -/
def rdsM (R : Raw) : Nat → St → Option (List Rd)
  | 0, _ => none
  | n + 1, t => if (rdM R t).val.isSome then some [rdM R t] else (rdsM R n (rdM R t).bh).map (rdM R t :: ·)
def RdsAt (rs : List Rd) (as : List Nat) (s : Store) : Prop := as.length = rs.length ∧ ∀ (i : Nat) (r : Rd) (a : Nat), rs[i]? = some r → as[i]? = some a → s[a]? = some (.ins 14 (rdF r))
theorem RdsAt.ex {rs : List Rd} {as : List Nat} {s s' : Store} (h : RdsAt rs as s) (E : Ex s s') : RdsAt rs as s' := ⟨h.1, fun i r a h1 h2 => E.at (h.2 i r a h1 h2)⟩
theorem RdsAt.setL {rs : List Rd} {as : List Nat} {s : Store} {q : Nat} {X : List Val} {o : Ob} (h : RdsAt rs as s) (hq : s[q]? = some (.lst X)) : RdsAt rs as (s.set q o) := ⟨h.1, fun i r a h1 h2 => by
  have e := h.2 i r a h1 h2
  rw [List.getElem?_set_ne (fun z => by subst z; rw [hq] at e; cases e)]
  exact e⟩
theorem RdsAt.snoc {rs : List Rd} {as : List Nat} {s : Store} {r : Rd} {a : Nat} (h : RdsAt rs as s) (ha : s[a]? = some (.ins 14 (rdF r))) : RdsAt (rs ++ [r]) (as ++ [a]) s := by
  refine ⟨by rw [List.length_append, List.length_append, h.1]; rfl, fun i r' a' h1 h2 => ?_⟩
  by_cases hi : i < rs.length
  · rw [List.getElem?_append_left hi] at h1
    rw [List.getElem?_append_left (by rw [h.1]; exact hi)] at h2
    exact h.2 i r' a' h1 h2
  · have hl := (List.getElem?_eq_some_iff.mp h1).1
    rw [List.length_append, List.length_singleton] at hl
    obtain rfl : i = rs.length := by omega
    rw [List.getElem?_append_right (Nat.le_refl _), Nat.sub_self] at h1
    rw [List.getElem?_append_right (by rw [h.1]; exact Nat.le_refl _), h.1, Nat.sub_self] at h2
    cases h1
    cases h2
    exact ha
theorem RdsAt.at {rs : List Rd} {as : List Nat} {s : Store} (h : RdsAt rs as s) {i : Nat} {r : Rd} (hr : rs[i]? = some r) : ∃ a, as[i]? = some a ∧ s[a]? = some (.ins 14 (rdF r)) := by
  have hi : i < as.length := by rw [h.1]; exact (List.getElem?_eq_some_iff.mp hr).1
  exact ⟨as[i], List.getElem?_eq_getElem hi, h.2 i r _ hr (List.getElem?_eq_getElem hi)⟩
theorem PairAt.setL {R : Raw} {k q : Nat} {s : Store} {X : List Val} {o : Ob} (h : PairAt R k s) (hq : s[q]? = some (.lst X)) : PairAt R k (s.set q o) := h.set hq
/-- the state ahead of the first round -/
def rdS (R : Raw) (t : St) : St := ⟨gd ((gd R.S.takes t.a none).getD []) 0 0, t.b, [], []⟩
theorem rounds_ok {R : Raw} (h : RawOk R) {t : St} {n : Nat} (ht : StOk R n t) (hf : frS R t = true) {k : Nat} {s : Store} {rs : List Rd} {fu : Nat} (hfu : fu ≤ 1000) (hp : PairAt R k s) (hr : rdsM R fu (rdS R t) = some rs) :
    Wp (F_rounds_of [.ref k, t.val, .non] s) fun x s' => ∃ q as, x = .v (.ref q) ∧ Ex s s' ∧ s'[q]? = some (.lst (as.map Val.ref)) ∧ RdsAt rs as s' := by
  have hv := h.v
  obtain ⟨i, j, hk, hi, hj⟩ := hp.ex
  obtain ⟨row, hrow⟩ : ∃ r, gd R.S.takes t.a none = some r := Option.isSome_iff_exists.mp hf
  have tk := h.S.takes
  have ta : t.a < R.S.takes.length := by rw [tk.1]; exact ht.a
  have mem : some row ∈ R.S.takes := by rw [← hrow]; exact getD_mem none ta
  obtain ⟨l1, l2⟩ := tk.2.1 row mem
  have a0 : atI (R.S.takes.map takeV) (t.a : Int) = some (takeV (some row)) := by rw [atI_map none ta, hrow]
  have a1 : atI (row.map nv) ((0 : Nat) : Int) = some (nv (gd row 0 0)) := atI_map 0 (by omega)
  have s0 : StOk R 0 (rdS R t) := ⟨by show gd ((gd R.S.takes t.a none).getD []) 0 0 < _; rw [hrow]; exact l2 _ (getD_mem 0 (by omega)), ht.b, fun x hx => by simp [rdS] at hx, fun x hx => by simp [rdS] at hx, Nat.le_refl _, Nat.le_refl _⟩
  have f2 : ∀ f, fldOf [2, 14] (.v (.ref k)) f s = [(77, Val.ref i), (72, Val.ref j)].lookup f := fun f => fldOf_at hk rfl
  have f84 : fldOf [0] (.v (.ref i)) 84 s = some (takesV R.S.takes) := fldOf_at hi rfl
  rw [F_rounds_of, wp_fn3]
  unfold B_rounds_of
  refine seq_step ?_
  have g77 : fldOf [2, 14] (.v (.ref k)) 77 s = some (.ref i) := f2 77
  have i0 : atI [nv t.a, nv t.b, rowV t.th, rowV t.bk] 0 = some (nv t.a) := atI_0 _ _
  have i1 : atI [nv t.a, nv t.b, rowV t.th, rowV t.bk] 1 = some (nv t.b) := atI_1 _ _ _
  have a1' : atI (row.map nv) 0 = some (nv (gd row 0 0)) := a1
  have e0 : (rdS R t).val = .tup [nv (gd row 0 0), nv t.b, .tup [], .tup []] := by unfold rdS; rw [hrow]; rfl
  simp only [sAsg_r, eTup_r, eBin_r, eFld_r, aCons_r, aNil_r, eV_r, eC_r, bind_ok, mat_v, List.getElem?_cons_succ, List.getElem?_cons_zero, g77, f84, St.val, oIdx_r, seqOf_t, i0, i1, a0, takeV, a1', List.length_nil, List.length_cons, Nat.zero_le, LIM_eq, Nat.reduceAdd, Nat.reduceLeDiff, if_true, gV_r, wp_ok, List.set_cons_succ, List.set_cons_zero, Nat.reduceSub, List.replicate]
  rw [← e0]
  refine seq_step ?_
  simp only [sAsg_r, eLst_r, aNil_r, bind_ok, mat_l, List.length_nil, Nat.zero_le, LIM_eq, if_true, gV_r, wp_ok, List.set_cons_succ, List.set_cons_zero]
  have E1 := Ex.app s [.lst []]
  have L1 : (s ++ [Ob.lst []])[s.length]? = some (.lst []) := by simp
  generalize s ++ [Ob.lst []] = s1 at E1 L1
  clear hrow a0 a1 a1' e0 i0 i1 f2 g77 f84 mem l1 l2 tk ta
  generalize rdS R t = u at hr s0
  refine seq_step (Wp.mono (Q := fun r s' => ∃ q as, r.1 = .ret (.v (.ref q)) ∧ Ex s s' ∧ s'[q]? = some (.lst (as.map Val.ref)) ∧ RdsAt rs as s')
    (wp_wh (I := fun m ρ s' => ∃ (u : St) (r0 rest : List Rd) (as : List Nat), ρ = [some (.ref k), some u.val, some .non, some (.ref s.length)] ∧ StOk R 0 u ∧ rdsM R m u = some rest ∧ rs = r0 ++ rest ∧ r0.length + m ≤ 1000 ∧ Ex s s' ∧ s'[s.length]? = some (.lst (as.map Val.ref)) ∧ RdsAt r0 as s') fu (by omega)
      ⟨u, [], rs, [], rfl, s0, hr, rfl, by simp; omega, E1, L1, rfl, fun i r a h1 _ => by simp at h1⟩ fun m ρ s' ⟨u, r0, rest, as, eρ, ou, hu, hrs, hm, E, L, A⟩ => ?_) fun r s' ⟨q, as, hr, E, L, A⟩ => ?_)
  · subst eρ
    obtain ⟨m', rfl⟩ : ∃ m', m = m' + 1 := by
      cases m with
      | zero => cases hu
      | succ m => exact ⟨m, rfl⟩
    have ne : ∀ c : Nat, eqT (.v (nv c)) (.v .non) s' = some false := fun c => rfl
    simp only [tB_r, eBin_r, eB1_r, bLen_r, eV_r, bind_ok, List.getElem?_cons_succ, List.getElem?_cons_zero, lk_seq L, cNe_r, ne, Option.map_some, Bool.not_false, ans_s, wp_ok, if_true]
    refine seq_step ?_
    simp only [sExp_r, wp_bind]
    have al : as.length = r0.length := A.1
    refine append_gen (q := s.length) rfl L (by rw [List.length_map]; omega) ?_
    have ri := round_init h ou (hp.ex' E)
    simp only [eMk_r, aCons_r, aNil_r, eV_r, bind_ok, mat_v, List.getElem?_cons_succ, List.getElem?_cons_zero, ri, wp_ok]
    have E2 := Ex.app s' [.ins 14 (rdF (rdM R u))]
    have N2 : (s' ++ [Ob.ins 14 (rdF (rdM R u))])[s'.length]? = some (.ins 14 (rdF (rdM R u))) := by simp
    have ll := lk_lt L
    refine ⟨_, rfl, E2.at L, ?_⟩
    have L3 : ((s' ++ [Ob.ins 14 (rdF (rdM R u))]).set s.length (.lst (as.map Val.ref ++ [.ref s'.length])))[s.length]? = some (.lst ((as ++ [s'.length]).map Val.ref)) := by
      rw [List.getElem?_set_self (by rw [List.length_append]; omega), List.map_append]; rfl
    have E3 : Ex s ((s' ++ [Ob.ins 14 (rdF (rdM R u))]).set s.length (.lst (as.map Val.ref ++ [.ref s'.length]))) := (E.trans E2).set (Nat.le_refl _)
    have A3 : RdsAt (r0 ++ [rdM R u]) (as ++ [s'.length]) ((s' ++ [Ob.ins 14 (rdF (rdM R u))]).set s.length (.lst (as.map Val.ref ++ [.ref s'.length]))) := ((A.ex E2).snoc N2).setL (E2.at L)
    have N3 : ((s' ++ [Ob.ins 14 (rdF (rdM R u))]).set s.length (.lst (as.map Val.ref ++ [.ref s'.length])))[s'.length]? = some (.ins 14 (rdF (rdM R u))) := by
      rw [List.getElem?_set_ne (by omega)]; exact N2
    generalize (s' ++ [Ob.ins 14 (rdF (rdM R u))]).set s.length (.lst (as.map Val.ref ++ [.ref s'.length])) = s3 at L3 E3 A3 N3
    have la : atI ((as ++ [s'.length]).map Val.ref) (-1) = some (.ref s'.length) := atI_last (by rw [List.map_append]; simp)
    have f15 : fldOf [14] (.v (.ref s'.length)) 15 s3 = some (rdM R u).bh.val := fldOf_at N3 rfl
    have f90 : fldOf [14] (.v (.ref s'.length)) 90 s3 = some (optV (rdM R u).val) := fldOf_at N3 rfl
    have ob := (rd_ok h ou).2.2.2
    refine seq_step ?_
    simp only [sAsg_r, eFld_r, eBin_r, eNeg_r, eV_r, eC_r, bind_ok, mat_v, List.getElem?_cons_succ, List.getElem?_cons_zero, oIdx_r, lk_seq L3, la, f15, gV_r, wp_ok, List.set_cons_succ, List.set_cons_zero]
    simp only [sIf_r, tAnd_r, tB_r, eFld_r, eBin_r, eNeg_r, eV_r, eC_r, bind_ok, mat_v, List.getElem?_cons_succ, List.getElem?_cons_zero, cIsN_r, isN_non, if_true, oIdx_r, lk_seq L3, la, f90, cNotN_r]
    unfold rdsM at hu
    cases hv : (rdM R u).val with
    | none =>
      rw [hv, if_neg (by simp)] at hu
      obtain ⟨rest', hr', rfl⟩ := Option.map_eq_some_iff.mp hu
      simp only [optV, isN_non, Bool.not_true, bind_ok, Bool.false_eq_true, if_false, sNop_r, wp_ok]
      exact ⟨m', by omega, (rdM R u).bh, r0 ++ [rdM R u], rest', as ++ [s'.length], rfl, ob, hr', by rw [hrs]; simp, by rw [List.length_append, List.length_singleton]; omega, E3, L3, A3⟩
    | some w =>
      rw [hv, if_pos (by rfl)] at hu
      cases hu
      have e90 : isN (.v (optV (some w))) = false := rfl
      simp only [e90, Bool.not_false, bind_ok, if_true, sRet_r, eV_r, List.getElem?_cons_succ, List.getElem?_cons_zero, wp_ok]
      exact ⟨s.length, as ++ [s'.length], rfl, E3, L3, by rw [hrs]; exact A3⟩
  · obtain ⟨fl, ρ'⟩ := r
    simp only at hr
    subst hr
    simp only [FinQ_r]
    exact ⟨q, as, rfl, E, L, A⟩
end L_k36
end
section
set_option Elab.async false
set_option linter.all false
set_option maxRecDepth 100000
set_option maxHeartbeats 4000000
set_option autoImplicit true
namespace L_k36
open VI
/-! ### lists that grow -/
def Nx (s s' : Store) (q : Nat) (X : List Val) : Prop := Ex s s' ∧ s.length ≤ q ∧ s'[q]? = some (.lst X)
theorem Nx.new {s s1 : Store} (E : Ex s s1) (X : List Val) : Nx s (s1 ++ [.lst X]) s1.length X := ⟨E.trans (Ex.app _ _), E.len, by simp⟩
theorem Nx.put {s s1 : Store} {q : Nat} {X : List Val} (h : Nx s s1 q X) (Y : List Val) : Nx s (s1.set q (.lst Y)) q Y := ⟨h.1.set h.2.1, h.2.1, List.getElem?_set_self (lk_lt h.2.2)⟩
theorem Nx.ex {s s1 s2 : Store} {q : Nat} {X : List Val} (h : Nx s s1 q X) (E : Ex s1 s2) : Nx s s2 q X := ⟨h.1.trans E, h.2.1, E.at h.2.2⟩
/-- an answer that is a new list -/
def LR (s s' : Store) (x : Tv) (X : List Val) : Prop := Ex s s' ∧ (x = .l X ∨ ∃ q, x = .v (.ref q) ∧ s.length ≤ q ∧ s'[q]? = some (.lst X))
theorem LR.lst {s s' : Store} {x : Tv} {X : List Val} (h : LR s s' x X) : lstOf x s' = some X := by
  rcases h.2 with rfl | ⟨q, rfl, _, h⟩
  · rfl
  · simp [lstOf, h]
theorem LR.seq {s s' : Store} {x : Tv} {X : List Val} (h : LR s s' x X) : seqOf x s' = some X := by
  rcases h.2 with rfl | ⟨q, rfl, _, h⟩
  · rfl
  · simp [seqOf, h]
theorem LR.mat {s s' : Store} {x : Tv} {X : List Val} (h : LR s s' x X) : Wp (VI.mat x s') fun y s2 => ∃ q, y = .ref q ∧ Nx s s2 q X ∧ Ex s' s2 := by
  rcases h.2 with rfl | ⟨q, rfl, hq, h2⟩
  · rw [mat_l, wp_ok]
    exact ⟨_, rfl, Nx.new h.1 X, Ex.app _ _⟩
  · rw [mat_v, wp_ok]
    exact ⟨_, rfl, ⟨h.1, hq, h2⟩, Ex.refl _⟩
theorem LR.of {s s' : Store} {q : Nat} {X : List Val} (h : Nx s s' q X) : LR s s' (.v (.ref q)) X := ⟨h.1, .inr ⟨q, rfl, h.2.1, h.2.2⟩⟩
theorem LR.new {s s' : Store} (E : Ex s s') (X : List Val) : LR s s' (.l X) X := ⟨E, .inl rfl⟩
theorem LR.back {s0 s s' : Store} {x : Tv} {X : List Val} (E : Ex s0 s) (h : LR s s' x X) : LR s0 s' x X := ⟨E.trans h.1, h.2.imp id fun ⟨q, a, b, c⟩ => ⟨q, a, Nat.le_trans E.len b, c⟩⟩
theorem oAdd_q (x : Tv) {q : Nat} {A B : List Val} {s : Store} (hq : s[q]? = some (.lst A)) (hx : lstOf x s = some B) (hl : A.length + B.length ≤ 16777216) : oAdd (.v (.ref q)) x s = .ok (.l (A ++ B)) s := by
  have e1 : lstOf (.v (.ref q)) s = some A := by simp [lstOf, hq]
  unfold oAdd
  cases x with
  | v x => simp only [e1, hx, if_pos (show A.length + B.length ≤ LIM from hl)]
  | l x => simp only [e1, hx, if_pos (show A.length + B.length ≤ LIM from hl)]
theorem oAdd_l {A B : List Val} {x : Tv} {s : Store} (hx : lstOf x s = some B) (hl : A.length + B.length ≤ 16777216) : oAdd (.l A) x s = .ok (.l (A ++ B)) s := by
  unfold oAdd
  cases x with
  | v x => simp only [lstOf_l, hx, if_pos (show A.length + B.length ≤ LIM from hl)]
  | l x => simp only [lstOf_l, hx, if_pos (show A.length + B.length ≤ LIM from hl)]
theorem app_step {s s1 : Store} {i q : Nat} {e : Ev} {ρ : Env} {X : List Val} {y : Val} {Q : Fl × Env → Store → Prop} (hn : Nx s s1 q X) (hi : ρ[i]? = some (some (.ref q))) (he : e ρ s1 = .ok (.v y) s1) (hl : X.length < 16777216) (k : ∀ s2, Nx s s2 q (X ++ [y]) → (∀ r o, s1[r]? = some o → r ≠ q → s2[r]? = some o) → Q (.next, ρ) s2) : Wp (sExp (eAppend (eV i) e) ρ s1) Q := by
  rw [sExp_r, wp_bind]
  refine append_gen hi hn.2.2 hl ?_
  rw [he, wp_ok]
  exact ⟨y, rfl, hn.2.2, (wp_ok _ _).mpr (k _ (hn.put _) fun r o h hr => by rw [List.getElem?_set_ne (Ne.symm hr)]; exact h)⟩
theorem ifapp_step {s s1 : Store} {i q : Nat} {t : Tst} {b : Bool} {e : Ev} {ρ : Env} {X : List Val} {y : Val} {Q : Fl × Env → Store → Prop} (hn : Nx s s1 q X) (hi : ρ[i]? = some (some (.ref q))) (ht : t ρ s1 = .ok b s1) (he : e ρ s1 = .ok (.v y) s1) (hl : X.length < 16777216) (k : ∀ s2, Nx s s2 q (X ++ if b then [y] else []) → (∀ r o, s1[r]? = some o → r ≠ q → s2[r]? = some o) → Q (.next, ρ) s2) : Wp (sIf t (sExp (eAppend (eV i) e)) sNop ρ s1) Q := by
  rw [sIf_r, ht, bind_ok]
  cases b with
  | true =>
    rw [if_pos rfl]
    exact app_step hn hi he hl k
  | false =>
    rw [if_neg (by simp), sNop_r, wp_ok]
    refine k s1 (by simpa using hn) fun _ _ h _ => h
theorem ext_step {s s1 : Store} {i q : Nat} {e : Ev} {ρ : Env} {X Y : List Val} {Q : Fl × Env → Store → Prop} (hn : Nx s s1 q X) (hi : ρ[i]? = some (some (.ref q))) (he : Wp (e ρ s1) fun x s2 => LR s1 s2 x Y) (hl : X.length + Y.length ≤ 16777216) (k : ∀ s2, Nx s s2 q (X ++ Y) → (∀ r o, s1[r]? = some o → r ≠ q → s2[r]? = some o) → Q (.next, ρ) s2) : Wp (sExp (eExtend (eV i) e) ρ s1) Q := by
  rw [sExp_r, wp_bind]
  unfold eExtend
  have r1 : refL (.v (.ref q)) s1 = some (q, X) := by simp [refL, hn.2.2]
  simp only [eV_r, hi, bind_ok, r1, Option.isSome_some, if_true, wp_bind]
  refine he.mono fun x s2 L => ?_
  have r2 : refL (.v (.ref q)) s2 = some (q, X) := by simp [refL, L.1.at hn.2.2]
  simp only [r2, L.lst, if_pos (show X.length + Y.length ≤ LIM from hl), updL, wp_ok]
  refine k _ ((hn.ex L.1).put _) fun r o h hr => ?_
  rw [List.getElem?_set_ne (Ne.symm hr)]
  exact L.1.at h
theorem RdsAt.ne {rs : List Rd} {as : List Nat} {s1 s2 : Store} {q : Nat} {X : List Val} (h : RdsAt rs as s1) (hq : s1[q]? = some (.lst X)) (k : ∀ r o, s1[r]? = some o → r ≠ q → s2[r]? = some o) : RdsAt rs as s2 :=
  ⟨h.1, fun i r a h1 h2 => k a _ (h.2 i r a h1 h2) fun z => by have := h.2 i r a h1 h2; rw [z, hq] at this; cases this⟩
def rdAt (rs : List Rd) (i : Nat) : Rd := rs.getD i ⟨0, none, none, 0, 0, none, t0⟩
theorem rdAt_get {rs : List Rd} {i : Nat} (h : i < rs.length) : rs[i]? = some (rdAt rs i) := by
  unfold rdAt
  rw [List.getD_eq_getElem?_getD, List.getElem?_eq_getElem h, Option.getD_some]
theorem fM {r : Rd} {a : Nat} {s : Store} (h : s[a]? = some (.ins 14 (rdF r))) : fldOf [14] (.v (.ref a)) 61 s = some (optV r.msg) := fldOf_at h rfl
theorem fA {r : Rd} {a : Nat} {s : Store} (h : s[a]? = some (.ins 14 (rdF r))) : fldOf [14] (.v (.ref a)) 10 s = some (optV r.ans) := fldOf_at h rfl
theorem isN_opt (o : Option Nat) : isN (.v (optV o)) = !o.isSome := by cases o <;> rfl
theorem atI_ref {as : List Nat} {i a : Nat} (h : as[i]? = some a) : atI (as.map Val.ref) (i : Int) = some (.ref a) := atI_of (by rw [List.getElem?_map, h]; rfl)
/-! ### the events of rounds -/
def ifL (b : Bool) (d : Dd) : List Dd := if b then [d] else []
theorem ifL_v (b : Bool) (d : Dd) : (if b then [d.val] else []) = (ifL b d).map Dd.val := by cases b <;> rfl
theorem ifL_len (b : Bool) (d : Dd) : (ifL b d).length ≤ 1 := by cases b <;> simp [ifL]
def wholeM (r : Rd) : List Dd := [.send] ++ ifL r.msg.isSome .passF ++ [.answer] ++ ifL r.ans.isSome .passB
theorem wholeM_len (r : Rd) : (wholeM r).length ≤ 4 := by
  unfold wholeM
  have := ifL_len r.msg.isSome .passF
  have := ifL_len r.ans.isSome .passB
  simp only [List.length_append, List.length_singleton]
  omega
theorem whole_ok {r : Rd} {a : Nat} {s : Store} (h : s[a]? = some (.ins 14 (rdF r))) : Wp (F_whole_round [.ref a] s) fun x s' => LR s s' x ((wholeM r).map Dd.val) := by
  rw [F_whole_round, wp_fn1]
  unfold B_whole_round
  refine seq_step ?_
  simp only [sAsg_r, eLst_r, eTup_r, aCons_r, aNil_r, eC_r, bind_ok, mat_v, mat_l, List.length_nil, List.length_cons, Nat.reduceAdd, LIM_eq, Nat.reduceLeDiff, if_true, gV_r, wp_ok, List.set_cons_succ, List.set_cons_zero, Nat.reduceSub, List.replicate]
  have N : Nx s (s ++ [.lst [.tup [.str 76]]]) s.length [.tup [.str 76]] := Nx.new (Ex.refl s) _
  generalize s ++ [Ob.lst [.tup [.str 76]]] = s1 at N
  refine seq_step (ifapp_step (y := Dd.passF.val) N rfl (b := r.msg.isSome) ?_ ?_ (by simp) fun s2 N2 _ => ?_)
  · simp only [tB_r, eBin_r, eFld_r, eV_r, eC_r, bind_ok, List.getElem?_cons_zero, fM (N.1.at h), cNotN_r, isN_opt, Bool.not_not]
  · simp [Dd.val]
  refine seq_step (app_step (y := Dd.answer.val) N2 rfl ?_ ?_ fun s3 N3 _ => ?_)
  · simp [Dd.val]
  · simp only [List.length_append, List.length_singleton]; split <;> simp
  simp only [sRet_r, eBin_r, eV_r, eLst_r, eTup_r, aCons_r, aNil_r, eC_r, eB1_r, eFld_r, bind_ok, mat_v, List.length_nil, List.length_cons, Nat.reduceAdd, LIM_eq, Nat.reduceLeDiff, if_true, List.getElem?_cons_zero, List.getElem?_cons_succ, fA (N3.1.at h), cNotN_r, isN_opt, Bool.not_not, bInt_b, mulB]
  rw [oAdd_q _ N3.2.2 (lstOf_l _) (by simp only [List.length_append, List.length_singleton]; split <;> split <;> simp), bind_ok, wp_ok, FinQ_r]
  have e : [Val.tup [Val.str 76]] ++ (if r.msg.isSome = true then [Dd.passF.val] else []) ++ [Dd.answer.val] ++ (if r.ans.isSome = true then [Val.tup [Val.str 67, Val.str 14]] else []) = (wholeM r).map Dd.val := by
    unfold wholeM ifL
    cases r.msg.isSome <;> cases r.ans.isSome <;> rfl
  rw [e]
  exact LR.new N3.1 _
/-- one turn of sends_by -/
def sendT (rs : List Rd) (lost : Bool) (i : Nat) : List Dd := ifL (decide (0 < i) && (rdAt rs (i - 1)).ans.isSome) .passB ++ [.send] ++ ifL (lost && (rdAt rs i).msg.isSome) (.loseF 0)
def sendsM (rs : List Rd) (lost : Bool) : Nat → List Dd
  | 0 => [.hand 0]
  | m + 1 => sendsM rs lost m ++ sendT rs lost m
theorem sendsM_succ (rs : List Rd) (lost : Bool) (m : Nat) : sendsM rs lost (m + 1) = sendsM rs lost m ++ sendT rs lost m := rfl
theorem sendT_len (rs : List Rd) (lost : Bool) (i : Nat) : (sendT rs lost i).length ≤ 3 := by
  unfold sendT
  have := ifL_len (decide (0 < i) && (rdAt rs (i - 1)).ans.isSome) .passB
  have := ifL_len (lost && (rdAt rs i).msg.isSome) (.loseF 0)
  simp only [List.length_append, List.length_singleton]
  omega
theorem sendsM_len (rs : List Rd) (lost : Bool) : ∀ m, (sendsM rs lost m).length ≤ 1 + 3 * m
  | 0 => Nat.le_refl _
  | m + 1 => by
    have := sendsM_len rs lost m
    have := sendT_len rs lost m
    unfold sendsM
    rw [List.length_append]; omega
theorem sends_by_ok {rs : List Rd} {as : List Nat} {s : Store} {q m : Nat} {lost : Bool} (hq : s[q]? = some (.lst (as.map Val.ref))) (A : RdsAt rs as s) (hm : m ≤ rs.length) (hb : rs.length ≤ 1000) : Wp (F_sends_by [.ref q, nv m, .bool lost] s) fun x s' => LR s s' x ((sendsM rs lost m).map Dd.val) := by
  rw [F_sends_by, wp_fn3]
  unfold B_sends_by
  refine seq_step ?_
  simp only [sAsg_r, eLst_r, aCons_r, aNil_r, eC_r, bind_ok, mat_v, mat_l, List.length_nil, List.length_cons, Nat.reduceAdd, LIM_eq, Nat.reduceLeDiff, if_true, gV_r, wp_ok, List.set_cons_succ, List.set_cons_zero, Nat.reduceSub, List.replicate]
  have N : Nx s (s ++ [.lst [G_HAND]]) s.length ((sendsM rs lost 0).map Dd.val) := Nx.new (Ex.refl s) _
  generalize s ++ [Ob.lst [G_HAND]] = s1 at N
  generalize s.length = p at N
  refine seq_step (wp_for (its := fun _ => some (rngV 0 (m : Int))) (xs := rngV 0 (m : Int)) (s1 := s1) (by
      rw [ixR_r]
      simp only [eV_r, List.getElem?_cons_succ, List.getElem?_cons_zero, bind_ok, inR_n (show m ≤ 1000 by omega), if_true])
    (fun i ρ s' => ∃ v4, ρ = [some (.ref q), some (nv m), some (.bool lost), some (.ref p), v4] ∧ Nx s s' p ((sendsM rs lost i).map Dd.val)) (fun _ _ _ _ => rfl) ⟨none, rfl, N⟩ (fun i x ρ s' hx ⟨v4, e, N⟩ => ?_) fun ρ s' ⟨v4, e, N⟩ => ?_)
  · subst e
    have hi : i < m := by have := (List.getElem?_eq_some_iff.mp hx).1; rwa [rngV_len] at this
    rw [rngV_get _ _ hi] at hx
    cases hx
    have sl := sendsM_len rs lost i
    have hq' := N.1.at hq
    have A' := A.ex N.1
    obtain ⟨a, ha, hA⟩ := A'.at (rdAt_get (show i < rs.length by omega))
    simp only [gV_r, wp_ok, List.set_cons_succ, List.set_cons_zero]
    refine seq_step (ifapp_step (y := Dd.passB.val) N rfl (b := decide (0 < i) && (rdAt rs (i - 1)).ans.isSome) ?_ (by simp [Dd.val]) (by rw [List.length_map]; omega) fun s2 N2 K2 => ?_)
    · simp only [tAnd_r, tB_r, eBin_r, eFld_r, eV_r, eC_r, bind_ok, List.getElem?_cons_zero, List.getElem?_cons_succ, cGt_i]
      by_cases h0 : 0 < i
      · obtain ⟨a1, ha1, hA1⟩ := A'.at (rdAt_get (show i - 1 < rs.length by omega))
        have e1 : (i : Int) - 1 = ((i - 1 : Nat) : Int) := by omega
        simp only [decide_eq_true (show (0 : Int) < (i : Int) by omega), if_true, oSub_i, bind_ok, oIdx_r, lk_seq hq', e1, atI_ref ha1, fA hA1, cNotN_r, isN_opt, Bool.not_not, decide_eq_true h0, Bool.true_and]
      · have e0 : decide ((0 : Int) < (i : Int)) = false := decide_eq_false (by omega)
        simp only [e0, Bool.false_eq_true, if_false, decide_eq_false h0, Bool.false_and]
    · have hq2 : s2[q]? = _ := K2 _ _ hq' (fun z => by have := N.2.1; have := lk_lt hq; omega)
      have A2 := A'.ne N.2.2 K2
      refine seq_step (app_step (y := Dd.send.val) N2 rfl (by simp [Dd.val]) (by rw [List.length_append, List.length_map]; split <;> simp <;> omega) fun s3 N3 K3 => ?_)
      have hq3 : s3[q]? = _ := K3 _ _ hq2 (fun z => by have := N.2.1; have := lk_lt hq; omega)
      have A3 := A2.ne N2.2.2 K3
      refine ifapp_step (y := (Dd.loseF 0).val) N3 rfl (b := lost && (rdAt rs i).msg.isSome) ?_ (by simp [Dd.val]) (by rw [List.length_append, List.length_append, List.length_map]; split <;> simp <;> omega) fun s4 N4 _ => ?_
      · simp only [tAnd_r, tB_r, eBin_r, eFld_r, eV_r, eC_r, bind_ok, List.getElem?_cons_zero, List.getElem?_cons_succ]
        cases lost with
        | true => simp only [if_true, bind_ok, oIdx_r, lk_seq hq3, atI_ref ha, fM (A3.2 i _ a (rdAt_get (by omega)) ha), cNotN_r, isN_opt, Bool.not_not, Bool.true_and]
        | false => simp only [Bool.false_eq_true, if_false, Bool.false_and]
      · refine ⟨_, rfl, ?_⟩
        have e : (sendsM rs lost (i + 1)).map Dd.val = (sendsM rs lost i).map Dd.val ++ (if (decide (0 < i) && (rdAt rs (i - 1)).ans.isSome) = true then [Dd.passB.val] else []) ++ [Dd.send.val] ++ (if (lost && (rdAt rs i).msg.isSome) = true then [(Dd.loseF 0).val] else []) := by
          rw [ifL_v, ifL_v, sendsM_succ]
          unfold sendT
          simp only [List.map_append, List.append_assoc, List.map_cons, List.map_nil]
        rw [e]
        exact N4
  · subst e
    rw [rngV_len] at N
    simp only [sRet_r, eV_r, List.getElem?_cons_zero, List.getElem?_cons_succ, bind_ok, wp_ok, FinQ_r]
    exact LR.of N
def ansT (rs : List Rd) (i : Nat) : List Dd := ifL (rdAt rs i).msg.isSome .passF ++ [.answer]
def ansP (rs : List Rd) : Nat → List Dd
  | 0 => []
  | m + 1 => ansP rs m ++ ansT rs m
theorem ansP_succ (rs : List Rd) (m : Nat) : ansP rs (m + 1) = ansP rs m ++ ansT rs m := rfl
def answersM (rs : List Rd) (m : Nat) : List Dd := ansP rs m ++ [.crashR]
theorem ansP_len (rs : List Rd) : ∀ m, (ansP rs m).length ≤ 2 * m
  | 0 => Nat.le_refl _
  | m + 1 => by
    have := ansP_len rs m
    unfold ansP ansT
    have := ifL_len (rdAt rs m).msg.isSome .passF
    simp only [List.length_append, List.length_singleton]; omega
theorem answersM_len (rs : List Rd) (m : Nat) : (answersM rs m).length ≤ 2 * m + 1 := by
  unfold answersM
  have := ansP_len rs m
  rw [List.length_append, List.length_singleton]; omega
theorem answers_by_ok {rs : List Rd} {as : List Nat} {s : Store} {q m : Nat} (hq : s[q]? = some (.lst (as.map Val.ref))) (A : RdsAt rs as s) (hm : m ≤ rs.length) (hb : rs.length ≤ 1000) : Wp (F_answers_by [.ref q, nv m] s) fun x s' => LR s s' x ((answersM rs m).map Dd.val) := by
  rw [F_answers_by, wp_fn2]
  unfold B_answers_by
  refine seq_step ?_
  simp only [sAsg_r, eLst_r, aCons_r, aNil_r, eC_r, bind_ok, mat_v, mat_l, List.length_nil, Nat.zero_le, LIM_eq, if_true, gV_r, wp_ok, List.set_cons_succ, List.set_cons_zero, Nat.reduceSub, List.replicate]
  have N : Nx s (s ++ [.lst []]) s.length ((ansP rs 0).map Dd.val) := Nx.new (Ex.refl s) _
  generalize s ++ [Ob.lst []] = s1 at N
  generalize s.length = p at N
  refine seq_step (wp_for (its := fun _ => some (rngV 0 (m : Int))) (xs := rngV 0 (m : Int)) (s1 := s1) (by
      rw [ixR_r]
      simp only [eV_r, List.getElem?_cons_succ, List.getElem?_cons_zero, bind_ok, inR_n (show m ≤ 1000 by omega), if_true])
    (fun i ρ s' => ∃ v4, ρ = [some (.ref q), some (nv m), some (.ref p), v4] ∧ Nx s s' p ((ansP rs i).map Dd.val)) (fun _ _ _ _ => rfl) ⟨none, rfl, N⟩ (fun i x ρ s' hx ⟨v4, e, N⟩ => ?_) fun ρ s' ⟨v4, e, N⟩ => ?_)
  · subst e
    have hi : i < m := by have := (List.getElem?_eq_some_iff.mp hx).1; rwa [rngV_len] at this
    rw [rngV_get _ _ hi] at hx
    cases hx
    have sl := ansP_len rs i
    have hq' := N.1.at hq
    have A' := A.ex N.1
    obtain ⟨a, ha, hA⟩ := A'.at (rdAt_get (show i < rs.length by omega))
    simp only [gV_r, wp_ok, List.set_cons_succ, List.set_cons_zero]
    refine seq_step (ifapp_step (y := Dd.passF.val) N rfl (b := (rdAt rs i).msg.isSome) ?_ (by simp [Dd.val]) (by rw [List.length_map]; omega) fun s2 N2 K2 => ?_)
    · simp only [tB_r, eBin_r, eFld_r, eV_r, eC_r, bind_ok, List.getElem?_cons_zero, List.getElem?_cons_succ, oIdx_r, lk_seq hq', atI_ref ha, fM hA, cNotN_r, isN_opt, Bool.not_not]
    · refine app_step (y := Dd.answer.val) N2 rfl (by simp [Dd.val]) (by rw [List.length_append, List.length_map]; split <;> simp <;> omega) fun s3 N3 K3 => ?_
      refine ⟨_, rfl, ?_⟩
      have e : (ansP rs (i + 1)).map Dd.val = (ansP rs i).map Dd.val ++ (if (rdAt rs i).msg.isSome = true then [Dd.passF.val] else []) ++ [Dd.answer.val] := by
        rw [ifL_v, ansP_succ]
        unfold ansT
        simp only [List.map_append, List.append_assoc, List.map_cons, List.map_nil]
      rw [e]
      exact N3
  · subst e
    rw [rngV_len] at N
    have sl := ansP_len rs m
    simp only [sRet_r, eBin_r, eLst_r, eTup_r, aCons_r, aNil_r, eC_r, mat_v, eV_r, List.getElem?_cons_zero, List.getElem?_cons_succ, bind_ok, List.length_nil, List.length_cons, Nat.reduceAdd, LIM_eq, Nat.reduceLeDiff, if_true]
    rw [oAdd_q _ N.2.2 (lstOf_l _) (by rw [List.length_map, List.length_singleton]; omega), bind_ok, wp_ok, FinQ_r]
    have e : (answersM rs m).map Dd.val = (ansP rs m).map Dd.val ++ [Val.tup [Val.str 19, Val.str 72]] := by
      unfold answersM
      rw [List.map_append]; rfl
    rw [e]
    exact LR.new N.1 _
end L_k36
end
section
set_option Elab.async false
set_option linter.all false
set_option maxRecDepth 100000
set_option maxHeartbeats 4000000
set_option autoImplicit true
namespace L_k36
open VI
/-- one turn of recorded_by, the turn's number being i + 1 -/
def recT (rs : List Rd) (many : Nat) (fwd : Bool) (i : Nat) : List Dd := (sendsM rs false (i + 1) ++ [.crashS]) ++ (if decide (i + 1 < many) || !fwd then answersM rs (i + 1) else [])
def recP (rs : List Rd) (many : Nat) (fwd : Bool) : Nat → List Dd
  | 0 => []
  | i + 1 => recP rs many fwd i ++ recT rs many fwd i
def recM (rs : List Rd) (many : Nat) (fwd : Bool) : List Dd := recP rs many fwd many
theorem recP_succ (rs : List Rd) (many : Nat) (fwd : Bool) (i : Nat) : recP rs many fwd (i + 1) = recP rs many fwd i ++ recT rs many fwd i := rfl
theorem recT_len (rs : List Rd) (many : Nat) (fwd : Bool) (i : Nat) : (recT rs many fwd i).length ≤ 5 * i + 8 := by
  unfold recT
  have := sendsM_len rs false (i + 1)
  have := answersM_len rs (i + 1)
  rw [List.length_append, List.length_append, List.length_singleton]
  split
  · omega
  · rw [List.length_nil]; omega
theorem recP_len (rs : List Rd) (many : Nat) (fwd : Bool) (m : Nat) : ∀ i, i ≤ m → (recP rs many fwd i).length ≤ i * (5 * m + 8)
  | 0, _ => Nat.zero_le _
  | i + 1, h => by
    have := recP_len rs many fwd m i (by omega)
    have := recT_len rs many fwd i
    rw [recP_succ, List.length_append, Nat.succ_mul]
    generalize i * (5 * m + 8) = z at *
    omega
theorem rngV1_get (m i : Nat) (h : i < m) : (rngV 1 ((m : Int) + 1))[i]? = some (nv (i + 1)) := by
  unfold rngV
  rw [List.getElem?_map, List.getElem?_range (by omega)]
  show some (Val.int (1 + (i : Nat))) = _
  rw [Int.add_comm]; rfl
theorem rngV1_len (m : Nat) : (rngV 1 ((m : Int) + 1)).length = m := by
  unfold rngV
  rw [List.length_map, List.length_range]; omega
theorem recorded_by_ok {rs : List Rd} {as : List Nat} {s : Store} {q m : Nat} {fwd : Bool} (hq : s[q]? = some (.lst (as.map Val.ref))) (A : RdsAt rs as s) (hm : m ≤ rs.length) (hb : rs.length ≤ 900) : Wp (F_recorded_by [.ref q, nv m, .bool fwd] s) fun x s' => LR s s' x ((recM rs m fwd).map Dd.val) := by
  rw [F_recorded_by, wp_fn3]
  unfold B_recorded_by
  have hbound : ∀ i, i ≤ m → (recP rs m fwd i).length ≤ 5008000 := fun i hi => by
    have h1 := recP_len rs m fwd m i hi
    have h2 : i * (5 * m + 8) ≤ 1000 * (5 * m + 8) := Nat.mul_le_mul_right _ (by omega)
    omega
  refine seq_step ?_
  simp only [sAsg_r, eLst_r, aCons_r, aNil_r, eC_r, bind_ok, mat_v, mat_l, List.length_nil, Nat.zero_le, LIM_eq, if_true, gV_r, wp_ok, List.set_cons_succ, List.set_cons_zero, Nat.reduceSub, List.replicate]
  have N : Nx s (s ++ [.lst []]) s.length ((recP rs m fwd 0).map Dd.val) := Nx.new (Ex.refl s) _
  generalize s ++ [Ob.lst []] = s1 at N
  generalize hp : s.length = p at N
  refine seq_step (wp_for (its := fun _ => some (rngV 1 ((m : Int) + 1))) (xs := rngV 1 ((m : Int) + 1)) (s1 := s1) (by
      have e1 : inR 1 = true := by decide
      have e2 : inR ((m : Int) + 1) = true := inR_n (j := m + 1) (by omega) |> fun h => by simpa using h
      unfold ixR2
      simp only [eC_r, eBin_r, eV_r, List.getElem?_cons_succ, List.getElem?_cons_zero, bind_ok, oAdd_i, e1, e2, Bool.and_self, if_true])
    (fun i ρ s' => ∃ v4, ρ = [some (.ref q), some (nv m), some (.bool fwd), some (.ref p), v4] ∧ Nx s s' p ((recP rs m fwd i).map Dd.val)) (fun _ _ _ _ => rfl) ⟨none, rfl, N⟩ (fun i x ρ s' hx ⟨v4, e, N⟩ => ?_) fun ρ s' ⟨v4, e, N⟩ => ?_)
  · subst e
    have hi : i < m := by have := (List.getElem?_eq_some_iff.mp hx).1; rwa [rngV1_len] at this
    rw [rngV1_get _ _ hi] at hx
    cases hx
    have sl := hbound i (by omega)
    have hql := lk_lt hq
    have hq' := N.1.at hq
    have A' := A.ex N.1
    have l1 := sendsM_len rs false (i + 1)
    have l2 := answersM_len rs (i + 1)
    simp only [gV_r, wp_ok, List.set_cons_succ, List.set_cons_zero]
    refine seq_step (ext_step (Y := (sendsM rs false (i + 1) ++ [Dd.crashS]).map Dd.val) N rfl ?_ (by rw [List.length_map, List.length_map, List.length_append, List.length_singleton]; omega) fun s2 N2 K2 => ?_)
    · simp only [eBin_r, eCall_r, eLst_r, eTup_r, aCons_r, aNil_r, eC_r, mat_v, eV_r, List.getElem?_cons_zero, List.getElem?_cons_succ, bind_ok, wp_bind, List.length_nil, List.length_cons, Nat.reduceAdd, LIM_eq, Nat.reduceLeDiff, if_true]
      refine (sends_by_ok (m := i + 1) (lost := false) hq' A' (by omega) (by omega)).mono fun x s2 L => ?_
      have e : (sendsM rs false (i + 1) ++ [Dd.crashS]).map Dd.val = (sendsM rs false (i + 1)).map Dd.val ++ [.tup [.str 19, .str 77]] := by rw [List.map_append]; rfl
      rw [e]
      rcases L.2 with rfl | ⟨q2, rfl, _, h2⟩
      · rw [oAdd_ll, if_pos (by rw [List.length_map, List.length_singleton]; show _ ≤ 16777216; omega), wp_ok]
        exact LR.new L.1 _
      · rw [oAdd_q _ h2 (lstOf_l _) (by rw [List.length_map, List.length_singleton]; omega), wp_ok]
        exact LR.new L.1 _
    · have hq2 : s2[q]? = _ := K2 _ _ hq' (by omega)
      have A2 := A'.ne N.2.2 K2
      show Wp (sIf _ _ _ _ s2) _
      rw [sIf_r]
      have hc : (tOr (tB (eBin cLt (eV 4) (eV 1))) (VI.tNot (tB (eV 2)))) [some (.ref q), some (nv m), some (.bool fwd), some (.ref p), some (nv (i + 1))] s2 = .ok (decide (i + 1 < m) || !fwd) s2 := by
        have ei : decide (((i + 1 : Nat) : Int) < (m : Int)) = decide (i + 1 < m) := decide_eq_decide.mpr (by omega)
        simp only [tOr_r, tNot_r, tB_r, eBin_r, eV_r, List.getElem?_cons_zero, List.getElem?_cons_succ, bind_ok, cLt_i, ei]
        cases decide (i + 1 < m) <;> rfl
      rw [hc, bind_ok]
      have es : recP rs m fwd (i + 1) = recP rs m fwd i ++ (sendsM rs false (i + 1) ++ [.crashS]) ++ (if decide (i + 1 < m) || !fwd then answersM rs (i + 1) else []) := by
        rw [recP_succ]
        unfold recT
        rw [List.append_assoc (recP rs m fwd i)]
      by_cases hb2 : (decide (i + 1 < m) || !fwd) = true
      · rw [if_pos hb2]
        rw [if_pos hb2] at es
        refine ext_step (Y := (answersM rs (i + 1)).map Dd.val) N2 rfl ?_ (by simp only [List.length_map, List.length_append, List.length_singleton]; omega) fun s3 N3 K3 => ?_
        · simp only [eCall_r, aCons_r, aNil_r, mat_v, eV_r, List.getElem?_cons_zero, List.getElem?_cons_succ, bind_ok]
          exact answers_by_ok (m := i + 1) hq2 A2 (by omega) (by omega)
        · refine ⟨_, rfl, ?_⟩
          rw [es, List.map_append, List.map_append]
          exact N3
      · rw [if_neg hb2]
        rw [if_neg hb2, List.append_nil] at es
        rw [sNop_r, wp_ok]
        refine ⟨_, rfl, ?_⟩
        rw [es, List.map_append]
        exact N2
  · subst e
    rw [rngV1_len] at N
    simp only [sRet_r, eV_r, List.getElem?_cons_zero, List.getElem?_cons_succ, bind_ok, wp_ok, FinQ_r]
    exact LR.of N
/-! ### up to the send of the last round -/
def upP (rs : List Rd) : Nat → List Dd
  | 0 => [.hand 0]
  | i + 1 => upP rs i ++ wholeM (rdAt rs i)
def upM (rs : List Rd) : List Dd := upP rs (rs.length - 1) ++ [.send]
theorem upP_succ (rs : List Rd) (i : Nat) : upP rs (i + 1) = upP rs i ++ wholeM (rdAt rs i) := rfl
theorem upP_len (rs : List Rd) : ∀ i, (upP rs i).length ≤ 1 + 4 * i
  | 0 => Nat.le_refl _
  | i + 1 => by
    have := upP_len rs i
    have := wholeM_len (rdAt rs i)
    rw [upP_succ, List.length_append]; omega
theorem upM_len (rs : List Rd) : (upM rs).length ≤ 4 * rs.length + 2 := by
  unfold upM
  have := upP_len rs (rs.length - 1)
  rw [List.length_append, List.length_singleton]; omega
theorem dl_ref (as : List Nat) : (as.map Val.ref).dropLast = as.dropLast.map Val.ref := by rw [List.map_dropLast]
theorem up_ok {rs : List Rd} {as : List Nat} {s : Store} {q : Nat} (hq : s[q]? = some (.lst (as.map Val.ref))) (A : RdsAt rs as s) (hb : rs.length ≤ 1000) : Wp (F_up_to_send [.ref q] s) fun x s' => LR s s' x ((upM rs).map Dd.val) := by
  rw [F_up_to_send, wp_fn1]
  unfold B_up_to_send
  refine seq_step ?_
  simp only [sAsg_r, eLst_r, aCons_r, aNil_r, eC_r, bind_ok, mat_v, mat_l, List.length_nil, List.length_cons, Nat.reduceAdd, LIM_eq, Nat.reduceLeDiff, if_true, gV_r, wp_ok, List.set_cons_succ, List.set_cons_zero, Nat.reduceSub, List.replicate]
  have N : Nx s (s ++ [.lst [G_HAND]]) s.length ((upP rs 0).map Dd.val) := Nx.new (Ex.refl s) _
  generalize s ++ [Ob.lst [G_HAND]] = s1 at N
  generalize hp : s.length = p at N
  have sl := slc_ref none (some (-1)) (lk_seq (N.1.at hq))
  rw [cut_last, dl_ref] at sl
  have al := A.1
  have ne1 : eNeg (eC (.int 1)) [some (.ref q), some (.ref p), none] s1 = .ok (.v (.int (-1))) s1 := by simp
  refine seq_step (wp_for (its := fun _ => some (as.dropLast.map Val.ref)) (xs := as.dropLast.map Val.ref) (s1 := s1) (by
      rw [ixE_r]
      simp only [eSl_r, optI_n, optI_s, eV_r, ne1, List.getElem?_cons_zero, bind_ok, sl, itsOf])
    (fun i ρ s' => ∃ v4, ρ = [some (.ref q), some (.ref p), v4] ∧ Nx s s' p ((upP rs i).map Dd.val)) (fun _ _ _ _ => rfl) ⟨none, rfl, N⟩ (fun i x ρ s' hx ⟨v4, e, N⟩ => ?_) fun ρ s' ⟨v4, e, N⟩ => ?_)
  · subst e
    rw [List.getElem?_map] at hx
    obtain ⟨a, ha, rfl⟩ := Option.map_eq_some_iff.mp hx
    have hi : i < as.length - 1 := by have := (List.getElem?_eq_some_iff.mp ha).1; rwa [List.length_dropLast] at this
    rw [List.getElem?_dropLast, if_pos hi] at ha
    have hA := (A.ex N.1).2 i _ a (rdAt_get (by omega)) ha
    have l1 := upP_len rs i
    have l2 := wholeM_len (rdAt rs i)
    simp only [gV_r, wp_ok, List.set_cons_succ, List.set_cons_zero]
    refine ext_step (Y := (wholeM (rdAt rs i)).map Dd.val) N rfl ?_ (by simp only [List.length_map]; omega) fun s3 N3 K3 => ?_
    · simp only [eCall_r, aCons_r, aNil_r, mat_v, eV_r, List.getElem?_cons_zero, List.getElem?_cons_succ, bind_ok]
      exact whole_ok hA
    · refine ⟨_, rfl, ?_⟩
      rw [upP_succ, List.map_append]
      exact N3
  · subst e
    rw [List.length_map, List.length_dropLast, al] at N
    have l1 := upP_len rs (rs.length - 1)
    simp only [sRet_r, eBin_r, eLst_r, eTup_r, aCons_r, aNil_r, eC_r, mat_v, eV_r, List.getElem?_cons_zero, List.getElem?_cons_succ, bind_ok, List.length_nil, List.length_cons, Nat.reduceAdd, LIM_eq, Nat.reduceLeDiff, if_true]
    rw [oAdd_q _ N.2.2 (lstOf_l _) (by rw [List.length_map, List.length_singleton]; omega), bind_ok, wp_ok, FinQ_r]
    have e : (upM rs).map Dd.val = (upP rs (rs.length - 1)).map Dd.val ++ [Val.tup [Val.str 76]] := by
      unfold upM
      rw [List.map_append]; rfl
    rw [e]
    exact LR.new N.1 _
/-! ### something is delivered again -/
def rdL (rs : List Rd) : Rd := rdAt rs (rs.length - 1)
def againM (R : Raw) (rs : List Rd) (b : Nat) : Bool := !(restM R ⟨(rdL rs).snd, b, [], []⟩).1.isEmpty
theorem tvD_row {q : Nat} {vs : List Nat} {s : Store} (h : s[q]? = some (.lst (vs.map nv))) : tvD s (.v (.ref q)) = some (.lst (vs.map fun i : Nat => Dt.int (i : Int))) := by
  have e0 : tvD s (.v (.ref q)) = match s[q]? with
    | some (.lst l) => (mapO (toD s 19) l).map Dt.lst
    | some (.frz l) => (mapO (toD s 19) l).map Dt.lst
    | _ => none := rfl
  rw [e0, h]
  simp only [map_nv s 19, Option.map_some]
theorem eqT_nil {x : Tv} {d : List Dt} {s : Store} (h : tvD s x = some (.lst d)) : eqT x (.l []) s = some d.isEmpty := by
  have e0 : tvD s (.l []) = some (.lst []) := rfl
  unfold eqT
  rw [h, e0]
  cases d <;> simp [Dt.eqv, Dt.eqvAll]
theorem last_ref {rs : List Rd} {as : List Nat} {s : Store} (A : RdsAt rs as s) (h0 : rs ≠ []) : ∃ a, atI (as.map Val.ref) (-1) = some (.ref a) ∧ s[a]? = some (.ins 14 (rdF (rdL rs))) := by
  have h1 := List.length_pos_iff.mpr h0
  obtain ⟨a, ha, hA⟩ := A.at (rdAt_get (show rs.length - 1 < rs.length by omega))
  refine ⟨a, atI_last ?_, hA⟩
  rw [List.getLast?_eq_getElem?, List.length_map, List.getElem?_map, A.1, ha]; rfl
structure RdsOk (R : Raw) (rs : List Rd) : Prop where
  ne : rs ≠ []
  len : rs.length ≤ 900
  ok : ∀ r ∈ rs, r.snd < R.S.sends.length ∧ r.hrd < R.R.sends.length ∧ r.rcv < R.R.sends.length
theorem RdsOk.at {R : Raw} {rs : List Rd} (h : RdsOk R rs) {i : Nat} (hi : i < rs.length) : (rdAt rs i).snd < R.S.sends.length ∧ (rdAt rs i).hrd < R.R.sends.length ∧ (rdAt rs i).rcv < R.R.sends.length := h.ok _ (List.mem_of_getElem? (rdAt_get hi))
theorem RdsOk.lt {R : Raw} {rs : List Rd} (h : RdsOk R rs) : rs.length - 1 < rs.length := by have := List.length_pos_iff.mpr h.ne; omega
theorem again_ok {R : Raw} (h : RawOk R) {k : Nat} {rs : List Rd} {as : List Nat} {s : Store} {q b : Nat} (hp : PairAt R k s) (hq : s[q]? = some (.lst (as.map Val.ref))) (A : RdsAt rs as s) (hr : RdsOk R rs) (hb : b < R.R.sends.length) :
    Wp (F_delivers_again [.ref k, .ref q, nv b] s) fun x s' => x = .v (.bool (againM R rs b)) ∧ Ex s s' := by
  obtain ⟨a, ha, hA⟩ := last_ref A hr.ne
  have f77 : fldOf [2, 14] (.v (.ref a)) 77 s = some (nv (rdL rs).snd) := fldOf_at hA rfl
  rw [F_delivers_again, wp_fn3]
  unfold B_delivers_again
  have so : StOk R 0 ⟨(rdL rs).snd, b, [], []⟩ := ⟨(hr.at hr.lt).1, hb, fun x hx => by simp at hx, fun x hx => by simp at hx, Nat.le_refl _, Nat.le_refl _⟩
  have key : Wp (eCall F_rest_of (aCons (eV 0) (aCons (eTup (aCons (eFld [2, 14] (eBin oIdx (eV 1) (eNeg (eC (.int 1)))) 77) (aCons (eV 2) (aCons (eTup aNil) (aCons (eTup aNil) aNil))))) aNil)) [some (.ref k), some (.ref q), some (nv b)] s) fun x s' => RestV s s' x (restM R ⟨(rdL rs).snd, b, [], []⟩) := by
    simp only [eCall_r, aCons_r, aNil_r, eTup_r, eFld_r, eBin_r, eNeg_r, eC_r, eV_r, List.getElem?_cons_zero, List.getElem?_cons_succ, bind_ok, mat_v, oIdx_r, lk_seq hq, show (-(1 : Int)) = -1 from rfl, ha, f77, List.length_nil, List.length_cons, Nat.zero_le, Nat.reduceAdd, LIM_eq, Nat.reduceLeDiff, if_true]
    exact rest_of_ok h so (by omega) hp
  rw [sRet_r, wp_bind, eBin_r, wp_bind, eBin_r, wp_bind]
  refine key.mono fun x s1 ⟨qv, e, E, _, V⟩ => ?_
  subst e
  simp only [eC_r, bind_ok, oIdx_r, seqOf_t, atI_0, eLst_r, aNil_r, List.length_nil, Nat.zero_le, LIM_eq, if_true, cNe_r, eqT_nil (tvD_row V), Option.map_some, ans_s, wp_ok, FinQ_r]
  refine ⟨?_, E⟩
  unfold againM
  cases (restM R ⟨(rdL rs).snd, b, [], []⟩).1 <;> rfl
end L_k36
end
section
set_option Elab.async false
set_option linter.all false
set_option maxRecDepth 100000
set_option maxHeartbeats 4000000
set_option autoImplicit true
namespace L_k36
open VI
/-! ### writes -/
def wrV (p : Bool × Nat) : Val := .tup [.str (if p.1 then 77 else 72), nv p.2]
def ifW (b : Bool) (p : Bool × Nat) : List (Bool × Nat) := if b then [p] else []
theorem ifW_v (b : Bool) (p : Bool × Nat) : (if b then [wrV p] else []) = (ifW b p).map wrV := by cases b <;> rfl
theorem ifW_len (b : Bool) (p : Bool × Nat) : (ifW b p).length ≤ 1 := by cases b <;> simp [ifW]
def wrP (R : Raw) (rs : List Rd) (a b : Nat) : Nat → List (Bool × Nat)
  | 0 => []
  | i + 1 => wrP R rs a b i ++ ifW (decide (gd R.S.crashes (rdAt rs i).snd 0 ≠ a)) (true, i + 1) ++ ifW (decide (gd R.R.crashes (rdAt rs i).rcv 0 ≠ b)) (false, i + 1)
def writesM (R : Raw) (rs : List Rd) (a b : Nat) (again : Bool) : List (Bool × Nat) :=
  if again then ifW (decide (gd R.R.crashes (rdL rs).hrd 0 ≠ b)) (false, rs.length) else wrP R rs a b (rs.length - 1)
theorem wrP_succ (R : Raw) (rs : List Rd) (a b i : Nat) : wrP R rs a b (i + 1) = wrP R rs a b i ++ ifW (decide (gd R.S.crashes (rdAt rs i).snd 0 ≠ a)) (true, i + 1) ++ ifW (decide (gd R.R.crashes (rdAt rs i).rcv 0 ≠ b)) (false, i + 1) := rfl
theorem wrP_len (R : Raw) (rs : List Rd) (a b : Nat) : ∀ i, (wrP R rs a b i).length ≤ 2 * i
  | 0 => Nat.le_refl _
  | i + 1 => by
    have := wrP_len R rs a b i
    have := ifW_len (decide (gd R.S.crashes (rdAt rs i).snd 0 ≠ a)) (true, i + 1)
    have := ifW_len (decide (gd R.R.crashes (rdAt rs i).rcv 0 ≠ b)) (false, i + 1)
    rw [wrP_succ, List.length_append, List.length_append]; omega
theorem writesM_len (R : Raw) (rs : List Rd) (a b : Nat) (g : Bool) : (writesM R rs a b g).length ≤ 2 * rs.length + 1 := by
  unfold writesM
  cases g with
  | true => have := ifW_len (decide (gd R.R.crashes (rdL rs).hrd 0 ≠ b)) (false, rs.length); simp only [if_true]; omega
  | false => have := wrP_len R rs a b (rs.length - 1); simp only [Bool.false_eq_true, if_false]; omega
theorem ne_nat (x y : Nat) (s : Store) : cNe (.v (nv x)) (.v (nv y)) s = .ok (.v (.bool (decide (x ≠ y)))) s := by
  have e : decide ((x : Int) = (y : Int)) = decide (x = y) := decide_eq_decide.mpr (by omega)
  simp only [cNe_r, eqT_i, e, Option.map_some, ans_s]
  rw [decide_not]
theorem numb_ref (as : List Nat) (i : Nat) : (numbered (as.map Val.ref) 0)[i]? = (as[i]?).map fun a => Val.tup [nv i, .ref a] := by
  rw [num_at, List.getElem?_map, Option.map_map, Nat.zero_add]
  rfl
theorem writes_ok {R : Raw} (h : RawOk R) {k : Nat} {rs : List Rd} {as : List Nat} {s : Store} {q a b : Nat} {g : Bool} (hp : PairAt R k s) (hq : s[q]? = some (.lst (as.map Val.ref))) (A : RdsAt rs as s) (hr : RdsOk R rs) :
    Wp (F_writes_of [.ref k, .ref q, .tup [nv a, nv b], .bool g] s) fun x s' => LR s s' x ((writesM R rs a b g).map wrV) := by
  have hC := h.S.crashes
  have hD := h.R.crashes
  have al := A.1
  have lr := hr.len
  have rl := hr.lt
  rw [F_writes_of, wp_fn4]
  unfold B_writes_of
  refine seq_step ?_
  simp only [sAsg_r, eV_r, bind_ok, mat_v, List.getElem?_cons_succ, List.getElem?_cons_zero, gT_r, setAll_c, setAll_n, wp_ok, List.set_cons_succ, List.set_cons_zero, Nat.reduceSub, List.replicate]
  have crash : ∀ (s1 : Store), PairAt R k s1 → ∃ i j, fldOf [2, 14] (.v (.ref k)) 77 s1 = some (.ref i) ∧ fldOf [2, 14] (.v (.ref k)) 72 s1 = some (.ref j) ∧ fldOf [0, 1] (.v (.ref i)) 20 s1 = some (rowV R.S.crashes) ∧ fldOf [0, 1] (.v (.ref j)) 20 s1 = some (rowV R.R.crashes) := fun s1 hp1 => by
    obtain ⟨i, j, hk, hi, hj⟩ := hp1.ex
    exact ⟨i, j, fldOf_at hk rfl, fldOf_at hk rfl, fldOf_at hi rfl, fldOf_at hj rfl⟩
  cases g with
  | true =>
    obtain ⟨c, hc, hA⟩ := last_ref A hr.ne
    obtain ⟨i, j, f1, f2, f3, f4⟩ := crash s hp
    have f33 : fldOf [14] (.v (.ref c)) 33 s = some (nv (rdL rs).hrd) := fldOf_at hA rfl
    have hx := (hr.at hr.lt).2.1
    have c1 : atI (R.R.crashes.map nv) ((rdL rs).hrd : Int) = some (nv (gd R.R.crashes (rdL rs).hrd 0)) := atI_map 0 (by rw [hD.1]; exact hx)
    refine seq_step ?_
    simp only [sIf_r, tB_r, eV_r, bind_ok, List.getElem?_cons_succ, List.getElem?_cons_zero, if_true]
    refine seq_step ?_
    simp only [sAsg_r, eBin_r, eNeg_r, eV_r, eC_r, bind_ok, mat_v, List.getElem?_cons_succ, List.getElem?_cons_zero, oIdx_r, lk_seq hq, show (-(1 : Int)) = -1 from rfl, hc, gV_r, wp_ok, List.set_cons_succ, List.set_cons_zero]
    simp only [sRet_r, eBin_r, eLst_r, eTup_r, aCons_r, aNil_r, eC_r, eB1_r, bLen_r, eFld_r, mat_v, eV_r, bind_ok, List.getElem?_cons_succ, List.getElem?_cons_zero, lk_seq hq, List.length_nil, List.length_cons, Nat.reduceAdd, LIM_eq, Nat.reduceLeDiff, if_true, f2, f4, f33, oIdx_r, seqOf_t, c1, ne_nat, bInt_b, mulB, wp_ok, FinQ_r, List.length_map, al]
    have e : (if decide (gd R.R.crashes (rdL rs).hrd 0 ≠ b) = true then [Val.tup [Val.str 72, nv rs.length]] else []) = (writesM R rs a b true).map wrV := by
      unfold writesM
      rw [if_pos rfl]
      exact ifW_v (decide (gd R.R.crashes (rdL rs).hrd 0 ≠ b)) (false, rs.length)
    rw [e]
    exact LR.new (Ex.refl s) _
  | false =>
    refine seq_step ?_
    simp only [sIf_r, tB_r, eV_r, bind_ok, List.getElem?_cons_succ, List.getElem?_cons_zero, Bool.false_eq_true, if_false, sNop_r, wp_ok]
    refine seq_step ?_
    simp only [sAsg_r, eLst_r, aNil_r, bind_ok, mat_l, List.length_nil, Nat.zero_le, LIM_eq, if_true, gV_r, wp_ok, List.set_cons_succ, List.set_cons_zero]
    have N : Nx s (s ++ [.lst []]) s.length ((wrP R rs a b 0).map wrV) := Nx.new (Ex.refl s) _
    generalize s ++ [Ob.lst []] = s1 at N
    generalize hpl : s.length = p at N
    have sl := slc_ref none (some (-1)) (lk_seq (N.1.at hq))
    rw [cut_last, dl_ref] at sl
    have ne1 : eNeg (eC (.int 1)) [some (.ref k), some (.ref q), some (.tup [nv a, nv b]), some (.bool false), some (nv a), some (nv b), none, some (.ref p), none, none] s1 = .ok (.v (.int (-1))) s1 := by simp
    refine seq_step (wp_for (its := fun _ => some (numbered (as.dropLast.map Val.ref) 0)) (xs := numbered (as.dropLast.map Val.ref) 0) (s1 := s1) (by
        unfold ixEnum
        simp only [eSl_r, optI_n, optI_s, eV_r, ne1, List.getElem?_cons_succ, List.getElem?_cons_zero, bind_ok, sl, itsOf, Option.map_some])
      (fun i ρ s' => ∃ v8 v9, ρ = [some (.ref k), some (.ref q), some (.tup [nv a, nv b]), some (.bool false), some (nv a), some (nv b), none, some (.ref p), v8, v9] ∧ Nx s s' p ((wrP R rs a b i).map wrV)) (fun _ _ _ _ => rfl) ⟨none, none, rfl, N⟩ (fun i x ρ s' hx ⟨v8, v9, e, N⟩ => ?_) fun ρ s' ⟨v8, v9, e, N⟩ => ?_)
    · subst e
      rw [numb_ref] at hx
      obtain ⟨c, hc, rfl⟩ := Option.map_eq_some_iff.mp hx
      have hi : i < as.length - 1 := by have := (List.getElem?_eq_some_iff.mp hc).1; rwa [List.length_dropLast] at this
      rw [List.getElem?_dropLast, if_pos hi] at hc
      have hA := (A.ex N.1).2 i _ c (rdAt_get (by omega)) hc
      obtain ⟨x1, _, x3⟩ := hr.at (show i < rs.length by omega)
      have c1 : atI (R.S.crashes.map nv) ((rdAt rs i).snd : Int) = some (nv (gd R.S.crashes (rdAt rs i).snd 0)) := atI_map 0 (by rw [hC.1]; exact x1)
      have c2 : atI (R.R.crashes.map nv) ((rdAt rs i).rcv : Int) = some (nv (gd R.R.crashes (rdAt rs i).rcv 0)) := atI_map 0 (by rw [hD.1]; exact x3)
      have l1 := wrP_len R rs a b i
      obtain ⟨i1, j1, f1, f2, f3, f4⟩ := crash s' (hp.ex' N.1)
      have f77 : fldOf [2, 14] (.v (.ref c)) 77 s' = some (nv (rdAt rs i).snd) := fldOf_at hA rfl
      simp only [gT_r, setAll_c, setAll_n, wp_ok, List.set_cons_succ, List.set_cons_zero]
      refine seq_step (ifapp_step (y := wrV (true, i + 1)) N rfl (b := decide (gd R.S.crashes (rdAt rs i).snd 0 ≠ a)) ?_ ?_ (by rw [List.length_map]; omega) fun s2 N2 K2 => ?_)
      · simp only [tB_r, eBin_r, eFld_r, eV_r, bind_ok, List.getElem?_cons_succ, List.getElem?_cons_zero, f1, f3, f77, oIdx_r, seqOf_t, c1, ne_nat]
      · simp [wrV]
      obtain ⟨i2, j2, g1, g2, g3, g4⟩ := crash s2 (hp.ex' N2.1)
      have hA2 := ((A.ex N.1).ne N.2.2 K2).2 i _ c (rdAt_get (by omega)) hc
      have f72 : fldOf [2, 14] (.v (.ref c)) 72 s2 = some (nv (rdAt rs i).rcv) := fldOf_at hA2 rfl
      refine ifapp_step (y := wrV (false, i + 1)) N2 rfl (b := decide (gd R.R.crashes (rdAt rs i).rcv 0 ≠ b)) ?_ ?_ (by rw [List.length_append, List.length_map]; split <;> simp <;> omega) fun s3 N3 K3 => ?_
      · simp only [tB_r, eBin_r, eFld_r, eV_r, bind_ok, List.getElem?_cons_succ, List.getElem?_cons_zero, g2, g4, f72, oIdx_r, seqOf_t, c2, ne_nat]
      · simp [wrV]
      · refine ⟨_, _, rfl, ?_⟩
        rw [ifW_v, ifW_v, ← List.map_append, ← List.map_append] at N3
        rw [wrP_succ]
        exact N3
    · subst e
      rw [num_len, List.length_map, List.length_dropLast, al] at N
      simp only [sRet_r, eV_r, List.getElem?_cons_succ, List.getElem?_cons_zero, bind_ok, wp_ok, FinQ_r]
      have e : writesM R rs a b false = wrP R rs a b (rs.length - 1) := by
        unfold writesM
        rw [if_neg (by simp)]
      rw [e]
      exact LR.of N
/-! ### settled -/
def handsM (ds : List Dd) : List Nat := (hndP 0 ds).map (·.2)
def settledM (R : Raw) (ds : List Dd) : Bool := decide ((fndP R t0 0 ds).map (·.2) = handsM ds) && ((runS R t0 ds).th.isEmpty && (runS R t0 ds).bk.isEmpty && frS R (runS R t0 ds))
def isHd (x : Val) : Bool := match x with
  | .tup (.str w :: _) => w == 32
  | _ => false
def toHd (x : Val) : Val := match x with
  | .tup [_, v] => v
  | _ => .non
theorem hd_list : ∀ (j : Nat) (ds : List Dd), ((ds.map Dd.val).filter isHd).map toHd = ((hndP j ds).map (·.2)).map nv
  | _, [] => rfl
  | j, d :: ds => by
    have ih := hd_list (j + 1) ds
    rw [List.map_cons]
    cases d with
    | hand v =>
      rw [List.filter_cons_of_pos rfl]
      show toHd (Dd.hand v).val :: _ = nv v :: _
      rw [ih]; rfl
    | _ => exact (congrArg (List.map toHd) (List.filter_cons_of_neg (by simp [isHd, Dd.val]))).trans ih
theorem eqv_ints : ∀ A B : List Nat, Dt.eqvAll (A.map fun i : Nat => Dt.int (i : Int)) (B.map fun i : Nat => Dt.int (i : Int)) = decide (A = B)
  | [], [] => rfl
  | [], _ :: _ => by simp [Dt.eqvAll]
  | _ :: _, [] => by simp [Dt.eqvAll]
  | a :: A, b :: B => by
    have ih := eqv_ints A B
    simp only [List.map_cons, Dt.eqvAll, Dt.eqv, ih]
    by_cases e : a = b
    · subst e; simp
    · have : ((a : Int) == (b : Int)) = false := by simp; omega
      rw [this]; simp [e]
theorem eqT_rows {x y : Tv} {A B : List Nat} {s : Store} (hx : tvD s x = some (.lst (A.map fun i : Nat => Dt.int (i : Int)))) (hy : tvD s y = some (.lst (B.map fun i : Nat => Dt.int (i : Int)))) : eqT x y s = some (decide (A = B)) := by
  unfold eqT
  rw [hx, hy]
  simp only [Dt.eqv, eqv_ints]
theorem tvD_rowl (vs : List Nat) (s : Store) : tvD s (.l (vs.map nv)) = some (.lst (vs.map fun i : Nat => Dt.int (i : Int))) := by
  show (mapO (toD s 20) (vs.map nv)).map Dt.lst = _
  rw [map_nv]; rfl
theorem settled_ok {R : Raw} (h : RawOk R) {k : Nat} {s : Store} {q qf : Nat} {ds : List Dd} (hp : PairAt R k s) (hg : Good R t0 ds) (hn : ds.length ≤ 4000) (hq : s[q]? = some (.lst (ds.map Dd.val))) (hqf : s[qf]? = some (.lst ((fndP R t0 0 ds).map keyV))) :
    Wp (F_is_settled [.ref k, .ref q, (runS R t0 ds).val, .ref qf] s) fun x s' => x = .v (.bool (settledM R ds)) ∧ Ex s s' := by
  have hst := run_ok h (t0_ok h) hg
  rw [F_is_settled, wp_fn4]
  unfold B_is_settled
  obtain ⟨f, hf, hfs⟩ := Thing.its (th := .ref q) (s := s) (.inr ⟨_, rfl, hq⟩)
  have hf0 := hfs []
  rw [List.append_nil] at hf0
  have fl := fndP_len R t0 0 ds
  have hl := hndP_len 0 ds
  have c1 : eComp (ixE (eV 1)) (gV 5) [5] (tB (eBin cEq (eBin oIdx (eV 5) (eC (.int 0))) (eC (.str 32)))) (eBin oIdx (eV 5) (eC (.int 1))) [some (.ref k), some (.ref q), some (runS R t0 ds).val, some (.ref qf), none, none, none, none] s = .ok (.l ((handsM ds).map nv)) s := by
    unfold handsM
    rw [← hd_list 0 ds]
    refine comp_gen (f := f) isHd toHd (by simp [hf]) hf0 (by rw [List.length_map]; omega) fun x hx => ?_
    obtain ⟨d, _, rfl⟩ := List.mem_map.mp hx
    cases d <;> simp [Dd.val, isHd, toHd, wipe, atI_1]
  simp only [Nat.reduceSub, List.replicate]
  refine seq_step ?_
  simp only [sAsg_r, c1, bind_ok, mat_l, gV_r, wp_ok, List.set_cons_succ, List.set_cons_zero, Nat.reduceSub, List.replicate]
  have E1 := Ex.app s [.lst ((handsM ds).map nv)]
  have L1 : (s ++ [Ob.lst ((handsM ds).map nv)])[s.length]? = some (.lst ((handsM ds).map nv)) := by simp
  generalize s ++ [Ob.lst ((handsM ds).map nv)] = s1 at E1 L1
  generalize s.length = p at L1
  have F1 := E1.at hqf
  obtain ⟨f2, hf2, hfs2⟩ := Thing.its (th := .ref qf) (s := s1) (.inr ⟨_, rfl, F1⟩)
  have hf20 := hfs2 []
  rw [List.append_nil] at hf20
  have c2 : eComp (ixE (eV 3)) (gT [6, 7]) [6, 7] tYes (eV 7) [some (.ref k), some (.ref q), some (runS R t0 ds).val, some (.ref qf), some (.ref p), none, none, none] s1 = .ok (.l (((fndP R t0 0 ds).map (·.2)).map nv)) s1 := by
    rw [List.map_map]
    refine comp_two (α := Pr) keyV (nv ∘ fun p => p.2) (ps := fndP R t0 0 ds) (by simp [hf2]) hf20 (by omega) fun p _ => ?_
    simp [wipe]
  have c3 : cutV [nv (runS R t0 ds).a, nv (runS R t0 ds).b, rowV (runS R t0 ds).th, rowV (runS R t0 ds).bk] (some 2) none = [rowV (runS R t0 ds).th, rowV (runS R t0 ds).bk] := cutV_from _ 2
  have c4 : eqT (.v (.tup [rowV (runS R t0 ds).th, rowV (runS R t0 ds).bk])) (.v (.tup [.tup [], .tup []])) s1 = some ((runS R t0 ds).th.isEmpty && (runS R t0 ds).bk.isEmpty) := by
    have t1 : ∀ l : List Nat, toD s1 19 (rowV l) = some (.tup (l.map fun i : Nat => Dt.int (i : Int))) := fun l => by
      show (mapO (toD s1 18) (l.map nv)).map Dt.tup = _
      rw [map_nv]; rfl
    have e1 : tvD s1 (.v (.tup [rowV (runS R t0 ds).th, rowV (runS R t0 ds).bk])) = some (.tup [.tup ((runS R t0 ds).th.map fun i : Nat => Dt.int (i : Int)), .tup ((runS R t0 ds).bk.map fun i : Nat => Dt.int (i : Int))]) := by
      show (mapO (toD s1 19) [rowV (runS R t0 ds).th, rowV (runS R t0 ds).bk]).map Dt.tup = _
      simp only [mapO, t1, Option.map_some]
    have e2 : tvD s1 (.v (.tup [.tup [], .tup []])) = some (.tup [.tup [], .tup []]) := rfl
    unfold eqT
    rw [e1, e2]
    cases (runS R t0 ds).th <;> cases (runS R t0 ds).bk <;> simp [Dt.eqv, Dt.eqvAll]
  have c5 : F_is_free [.ref k, (runS R t0 ds).val] s1 = _ := free_ok h hst.a (hp.ex' E1)
  simp only [sRet_r, eAnd_r, eBin_r, c2, eV_r, bind_ok, List.getElem?_cons_succ, List.getElem?_cons_zero, cEq_r, eqT_rows (tvD_rowl _ _) (tvD_row L1), ans_s, wp_bind]
  have e0 : settledM R ds = if decide ((fndP R t0 0 ds).map (·.2) = handsM ds) = true then (if ((runS R t0 ds).th.isEmpty && (runS R t0 ds).bk.isEmpty) = true then frS R (runS R t0 ds) else false) else false := by
    unfold settledM
    cases decide ((fndP R t0 0 ds).map (·.2) = handsM ds) <;> cases ((runS R t0 ds).th.isEmpty && (runS R t0 ds).bk.isEmpty) <;> simp
  have hval : (runS R t0 ds).val = .tup [nv (runS R t0 ds).a, nv (runS R t0 ds).b, rowV (runS R t0 ds).th, rowV (runS R t0 ds).bk] := rfl
  by_cases h1 : decide ((fndP R t0 0 ds).map (·.2) = handsM ds) = true
  · rw [if_pos h1]
    rw [if_pos h1] at e0
    simp only [eSl_r, optI_n, optI_s, eC_r, eV_r, bind_ok, List.getElem?_cons_succ, List.getElem?_cons_zero, hval, slc_t, c3, eTup_r, aCons_r, aNil_r, mat_v, List.length_nil, List.length_cons, Nat.zero_le, Nat.reduceAdd, LIM_eq, Nat.reduceLeDiff, if_true, c4, ans_s]
    by_cases h2 : ((runS R t0 ds).th.isEmpty && (runS R t0 ds).bk.isEmpty) = true
    · rw [if_pos h2]
      rw [if_pos h2] at e0
      simp only [eCall_r, aCons_r, aNil_r, mat_v, eV_r, bind_ok, List.getElem?_cons_succ, List.getElem?_cons_zero]
      rw [← hval, c5, wp_ok, e0]
      simp only [wp_ok, FinQ_r]
      exact ⟨trivial, E1⟩
    · rw [if_neg h2]
      rw [if_neg h2] at e0
      rw [e0]
      simp only [wp_ok, FinQ_r]
      exact ⟨trivial, E1⟩
  · rw [if_neg h1]
    rw [if_neg h1] at e0
    rw [e0]
    simp only [wp_ok, FinQ_r]
    exact ⟨trivial, E1⟩
theorem is_good_ok {R : Raw} (h : RawOk R) {k : Nat} {s : Store} {q : Nat} {ds : List Dd} {ex : List Nat} (hp : PairAt R k s) (hg : Good R t0 ds) (hn : ds.length ≤ 4000) (hq : s[q]? = some (.lst (ds.map Dd.val))) :
    Wp (F_is_good [.ref k, .ref q, exV ex] s) fun x s' => x = .v (.bool (decide (verdM R ds ex = 31))) ∧ Ex s s' := by
  rw [F_is_good, wp_fn3]
  unfold B_is_good
  refine seq_step ?_
  simp only [sAsg_r, eCall_r, aCons_r, aNil_r, eV_r, bind_ok, mat_v, List.getElem?_cons_succ, List.getElem?_cons_zero, trail_ok h hp hg (by omega) (th := .ref q) (.inr ⟨_, rfl, hq⟩), gT_r, setAll_c, setAll_n, wp_ok, List.set_cons_succ, List.set_cons_zero, Nat.reduceSub, List.replicate]
  have E1 := Ex.app s [.lst (fnd R t0 0 ds)]
  have F1 : (s ++ [Ob.lst (fnd R t0 0 ds)])[s.length]? = some (.lst (fnd R t0 0 ds)) := by simp
  generalize s ++ [Ob.lst (fnd R t0 0 ds)] = s1 at E1 F1
  simp only [sRet_r, eBin_r, eCall_r, aCons_r, aNil_r, eV_r, bind_ok, mat_v, List.getElem?_cons_succ, List.getElem?_cons_zero, wp_bind]
  refine (judged_ok h (hp.ex' E1) (ex := ex) hg hn (E1.at hq) F1).mono fun x s2 ⟨e, E2⟩ => ?_
  subst e
  simp only [eC_r, bind_ok, cEq_r, eqT_s, ans_s, wp_ok, FinQ_r]
  exact ⟨trivial, E1.trans E2⟩
end L_k36
end
section
set_option Elab.async false
set_option linter.all false
set_option maxRecDepth 100000
set_option maxHeartbeats 4000000
set_option autoImplicit true
namespace L_k36
open VI
theorem rds_len {R : Raw} : ∀ {n : Nat} {t : St} {rs : List Rd}, rdsM R n t = some rs → rs.length ≤ n ∧ rs ≠ []
  | 0, t, rs, h => by cases h
  | n + 1, t, rs, h => by
    unfold rdsM at h
    by_cases hv : (rdM R t).val.isSome = true
    · rw [if_pos hv] at h
      cases h
      exact ⟨by rw [List.length_singleton]; omega, by simp⟩
    · rw [if_neg hv] at h
      obtain ⟨rest, hr, rfl⟩ := Option.map_eq_some_iff.mp h
      have := (rds_len hr).1
      exact ⟨by rw [List.length_cons]; omega, by simp⟩
theorem rds_all {R : Raw} (h : RawOk R) : ∀ {n : Nat} {t : St} {rs : List Rd}, StOk R 0 t → rdsM R n t = some rs → ∀ r ∈ rs, r.snd < R.S.sends.length ∧ r.hrd < R.R.sends.length ∧ r.rcv < R.R.sends.length
  | 0, t, rs, _, hr => by cases hr
  | n + 1, t, rs, ht, hr => by
    obtain ⟨o1, o2, o3, o4⟩ := rd_ok h ht
    have one : (rdM R t).snd < R.S.sends.length ∧ (rdM R t).hrd < R.R.sends.length ∧ (rdM R t).rcv < R.R.sends.length := ⟨o1.a, o2.b, o3.b⟩
    unfold rdsM at hr
    by_cases hv : (rdM R t).val.isSome = true
    · rw [if_pos hv] at hr
      cases hr
      intro r hr
      rw [List.mem_singleton] at hr
      subst hr
      exact one
    · rw [if_neg hv] at hr
      obtain ⟨rest, h1, rfl⟩ := Option.map_eq_some_iff.mp hr
      intro r hr
      rcases List.mem_cons.mp hr with e | hr
      · subst e; exact one
      · exact rds_all h o4 h1 r hr
theorem rdS_ok {R : Raw} (h : RawOk R) {n : Nat} {t : St} (ht : StOk R n t) (hf : frS R t = true) : StOk R 0 (rdS R t) := by
  obtain ⟨row, hrow⟩ : ∃ r, gd R.S.takes t.a none = some r := Option.isSome_iff_exists.mp hf
  have tk := h.S.takes
  have ta : t.a < R.S.takes.length := by rw [tk.1]; exact ht.a
  have mem : some row ∈ R.S.takes := by rw [← hrow]; exact getD_mem none ta
  obtain ⟨l1, l2⟩ := tk.2.1 row mem
  exact ⟨by show gd ((gd R.S.takes t.a none).getD []) 0 0 < _; rw [hrow]; exact l2 _ (getD_mem 0 (by have := h.v.1; show 0 < row.length; omega)), ht.b, fun x hx => by simp [rdS] at hx, fun x hx => by simp [rdS] at hx, Nat.le_refl _, Nat.le_refl _⟩
theorem rds_ok {R : Raw} (h : RawOk R) {n m : Nat} {t : St} {rs : List Rd} (ht : StOk R n t) (hf : frS R t = true) (hr : rdsM R m (rdS R t) = some rs) (hm : m ≤ 900) : RdsOk R rs :=
  ⟨(rds_len hr).2, by have := (rds_len hr).1; omega, rds_all h (rdS_ok h ht hf) hr⟩
/-! ### breaking -/
inductive Told where
  | run (ds : List Dd) | wr (ws : List (Bool × Nat))
def Told.tag : Told → Nat
  | .run _ => 75
  | .wr _ => 101
def Told.lst : Told → List Val
  | .run ds => ds.map Dd.val
  | .wr ws => ws.map wrV
abbrev BOTHX : List Nat := [77, 72]
def tellM (R : Raw) (ds : List Dd) (rs : List Rd) (t : St) : Told :=
  if (writesM R rs t.a t.b (againM R rs t.b)).isEmpty = true then
    (if againM R rs t.b = true then .run (ds ++ upM rs ++ [Dd.passF, Dd.crashR]) else .run (ds ++ recM rs (rs.length - 1) false ++ sendsM rs true rs.length))
  else .wr (writesM R rs t.a t.b (againM R rs t.b))
def breakM (R : Raw) (ds : List Dd) : Option Told :=
  if decide (verdM R (ds ++ [.hand 0]) BOTHX = 31) = true then (rdsM R 401 (rdS R (runS R t0 ds))).map fun rs => tellM R ds rs (runS R t0 ds)
  else some (.run (ds ++ [.hand 0]))
theorem ret_tup {s s1 : Store} {w : Nat} {e : Ev} {ρ : Env} {X : List Val} {Q : Fl × Env → Store → Prop} (E : Ex s s1) (he : Wp (e ρ s1) fun x s2 => LR s1 s2 x X) (k : ∀ q s', Nx s s' q X → Q (.ret (.v (.tup [.str w, .ref q])), ρ) s') : Wp (sRet (eTup (aCons (eC (.str w)) (aCons e aNil))) ρ s1) Q := by
  rw [sRet_r, wp_bind, eTup_r, wp_bind, aCons_r, eC_r, bind_ok, mat_v, bind_ok, wp_bind, aCons_r, wp_bind]
  refine he.mono fun x s2 L => ?_
  rw [wp_bind]
  refine L.mat.mono fun y s3 ⟨q, e, N, E3⟩ => ?_
  subst e
  simp only [aNil_r, bind_ok, wp_ok, List.length_nil, List.length_cons, Nat.zero_le, Nat.reduceAdd, LIM_eq, Nat.reduceLeDiff, if_true]
  exact k q s3 ⟨E.trans N.1, Nat.le_trans E.len N.2.1, N.2.2⟩
theorem wr_D (s : Store) (n : Nat) (p : Bool × Nat) : toD s (n + 1) (wrV p) = some (Dt.tup [.str (if p.1 then 77 else 72), .int (p.2 : Int)]) := by
  obtain ⟨b, m⟩ := p
  cases b <;> (show (mapO (toD s n) _).map Dt.tup = _; simp only [mapO, toD_str, toD_int, Option.map_some])
theorem good_app {R : Raw} : ∀ {t : St} {ds es : List Dd}, Good R t ds → Good R (runS R t ds) es → Good R t (ds ++ es)
  | _, [], _, _, h => h
  | _, _ :: ds, _, h, h' => ⟨h.1, good_app (ds := ds) h.2 h'⟩
theorem good_hand {R : Raw} (h : RawOk R) {ds : List Dd} (hg : Good R t0 ds) (hf : frS R (runS R t0 ds) = true) : Good R t0 (ds ++ [.hand 0]) :=
  good_snoc hg ⟨by have := h.v.1; omega, Option.isSome_iff_exists.mp hf⟩
theorem hand_v (ds : List Dd) : (ds ++ [Dd.hand 0]).map Dd.val = ds.map Dd.val ++ [G_HAND] := by rw [List.map_append]; rfl
theorem breaking_ok {R : Raw} (h : RawOk R) {k : Nat} {s : Store} (hp : PairAt R k s) {th : Val} {ds : List Dd} {T : Told} (hg : Good R t0 ds) (hn : ds.length ≤ 3900) (ht : Thing th s (ds.map Dd.val)) (hs : settledM R ds = true) (hT : breakM R ds = some T) :
    Wp (F_breaking [.ref k, th] s) fun x s' => ∃ q, x = .v (.tup [.str T.tag, .ref q]) ∧ Nx s s' q T.lst := by
  have hst := run_ok h (t0_ok h) hg
  have hf : frS R (runS R t0 ds) = true := by
    unfold settledM at hs
    simp only [Bool.and_eq_true] at hs
    exact hs.2.2
  have hg1 := good_hand h hg hf
  rw [F_breaking, wp_fn2]
  unfold B_breaking
  simp only [Nat.reduceSub, List.replicate]
  refine seq_step ?_
  simp only [sExp_r, eCall_r, aCons_r, aNil_r, eV_r, bind_ok, mat_v, List.getElem?_cons_succ, List.getElem?_cons_zero, req_ok hp, wp_ok]
  refine seq_step ?_
  simp only [sAsg_r, eCall_r, aCons_r, aNil_r, eV_r, bind_ok, mat_v, List.getElem?_cons_succ, List.getElem?_cons_zero, ctrail_ok h hp hg (by omega) ht, gT_r, setAll_c, setAll_n, wp_ok, List.set_cons_succ, List.set_cons_zero]
  have E1 := Ex.app s [.lst (ds.map Dd.val), .lst (fnd R t0 0 ds)]
  have D1 : (s ++ [Ob.lst (ds.map Dd.val), Ob.lst (fnd R t0 0 ds)])[s.length]? = some (.lst (ds.map Dd.val)) := by simp
  have F1 : (s ++ [Ob.lst (ds.map Dd.val), Ob.lst (fnd R t0 0 ds)])[s.length + 1]? = some (.lst ((fndP R t0 0 ds).map keyV)) := by rw [fnd_P]; simp
  generalize s ++ [Ob.lst (ds.map Dd.val), Ob.lst (fnd R t0 0 ds)] = s1 at E1 D1 F1
  generalize s.length = qd at D1 F1
  refine seq_step ?_
  simp only [sIf_r, tNot_r, tB_r, eCall_r, aCons_r, aNil_r, eV_r, bind_ok, mat_v, List.getElem?_cons_succ, List.getElem?_cons_zero, wp_bind]
  refine (settled_ok h (hp.ex' E1) hg (by omega) D1 F1).mono fun x s2 ⟨e, E2⟩ => ?_
  subst e
  rw [hs]
  simp only [bind_ok, wp_ok, Bool.not_true, Bool.false_eq_true, if_false, sNop_r]
  have D2 := E2.at D1
  have E12 := E1.trans E2
  refine seq_step ?_
  have addH : ∀ s3 : Store, s3[qd]? = some (.lst (ds.map Dd.val)) → oAdd (.v (.ref qd)) (.l [G_HAND]) s3 = .ok (.l ((ds ++ [Dd.hand 0]).map Dd.val)) s3 := fun s3 h3 => by
    rw [oAdd_q _ h3 (lstOf_l _) (by rw [List.length_map, List.length_singleton]; omega), hand_v]
  simp only [sIf_r, tNot_r, tB_r, eCall_r, aCons_r, aNil_r, eBin_r, eLst_r, eC_r, eV_r, bind_ok, mat_v, mat_l, List.length_nil, List.length_cons, Nat.reduceAdd, LIM_eq, Nat.reduceLeDiff, if_true, List.getElem?_cons_succ, List.getElem?_cons_zero, addH s2 D2, wp_bind]
  have E3 := Ex.app s2 [.lst ((ds ++ [Dd.hand 0]).map Dd.val)]
  have D3 : (s2 ++ [Ob.lst ((ds ++ [Dd.hand 0]).map Dd.val)])[s2.length]? = some (.lst ((ds ++ [Dd.hand 0]).map Dd.val)) := by simp
  generalize s2 ++ [Ob.lst ((ds ++ [Dd.hand 0]).map Dd.val)] = s3 at E3 D3
  generalize s2.length = qh at D3
  have E13 := E12.trans E3
  refine (is_good_ok h (hp.ex' E13) (ex := BOTHX) hg1 (by rw [List.length_append, List.length_singleton]; omega) D3).mono fun x s4 ⟨e, E4⟩ => ?_
  subst e
  have E14 := E13.trans E4
  have D4 := E4.at (E3.at D2)
  unfold breakM at hT
  by_cases hv : ¬ decide (verdM R (ds ++ [.hand 0]) BOTHX = 31) = true
  · rw [if_neg hv] at hT
    cases hT
    simp only [bind_ok, wp_ok, eq_false_of_ne_true hv, Bool.not_false, if_true]
    refine ret_tup (w := 75) (e := eBin oAdd (eV 2) (eLst (aCons (eC G_HAND) aNil))) (ρ := [some (.ref k), some th, some (.ref qd), some (runS R t0 ds).val, some (.ref (qd + 1)), none, none, none, none]) (X := (ds ++ [Dd.hand 0]).map Dd.val) E14 (by
      simp only [aCons_r, aNil_r, eBin_r, eLst_r, eC_r, eV_r, bind_ok, mat_v, List.length_nil, List.length_cons, Nat.reduceAdd, LIM_eq, Nat.reduceLeDiff, if_true, List.getElem?_cons_succ, List.getElem?_cons_zero, addH s4 D4, wp_ok]
      exact LR.new (Ex.refl s4) _) fun q s' N => ⟨q, rfl, N⟩
  have hv := Classical.not_not.mp hv
  rw [if_pos hv] at hT
  obtain ⟨rs, hrs, rfl⟩ := Option.map_eq_some_iff.mp hT
  simp only [bind_ok, wp_ok, hv, Bool.not_true, Bool.false_eq_true, if_false, sNop_r]
  have RO := rds_ok h hst hf hrs (by omega)
  refine seq_step ?_
  simp only [sAsg_r, eCall_r, aCons_r, aNil_r, eC_r, eV_r, bind_ok, mat_v, List.getElem?_cons_succ, List.getElem?_cons_zero, wp_bind]
  refine (rounds_ok h hst hf (fu := 401) (by omega) (hp.ex' E14) hrs).mono fun x s5 ⟨qr, as, e, E5, L5, A5⟩ => ?_
  subst e
  simp only [mat_v, gV_r, wp_ok, List.set_cons_succ, List.set_cons_zero]
  have E15 := E14.trans E5
  have D5 := E5.at D4
  have i1 : atI [nv (runS R t0 ds).a, nv (runS R t0 ds).b, rowV (runS R t0 ds).th, rowV (runS R t0 ds).bk] 1 = some (nv (runS R t0 ds).b) := atI_1 _ _ _
  have c2 : cutV [nv (runS R t0 ds).a, nv (runS R t0 ds).b, rowV (runS R t0 ds).th, rowV (runS R t0 ds).bk] none (some 2) = [nv (runS R t0 ds).a, nv (runS R t0 ds).b] := cutV_to _ 2
  have hval : (runS R t0 ds).val = .tup [nv (runS R t0 ds).a, nv (runS R t0 ds).b, rowV (runS R t0 ds).th, rowV (runS R t0 ds).bk] := rfl
  refine seq_step ?_
  simp only [sAsg_r, eCall_r, aCons_r, aNil_r, eBin_r, eC_r, eV_r, bind_ok, mat_v, List.getElem?_cons_succ, List.getElem?_cons_zero, hval, oIdx_r, seqOf_t, i1, wp_bind]
  rw [← hval]
  refine (again_ok h (hp.ex' E15) L5 A5 RO hst.b).mono fun x s6 ⟨e, E6⟩ => ?_
  subst e
  simp only [mat_v, gV_r, wp_ok, List.set_cons_succ, List.set_cons_zero]
  have E16 := E15.trans E6
  have D6 := E6.at D5
  have L6 := E6.at L5
  have A6 := A5.ex E6
  refine seq_step ?_
  simp only [sAsg_r, eCall_r, aCons_r, aNil_r, eSl_r, optI_n, optI_s, eC_r, eV_r, bind_ok, mat_v, List.getElem?_cons_succ, List.getElem?_cons_zero, hval, slc_t, c2, wp_bind]
  rw [← hval]
  refine (writes_ok h (hp.ex' E16) L6 A6 RO).mono fun x s7 L => ?_
  refine L.mat.mono fun y s8 ⟨qw, e, N8, E78⟩ => ?_
  subst e
  simp only [gV_r, wp_ok, List.set_cons_succ, List.set_cons_zero]
  have E8 := N8.1
  have E18 := E16.trans E8
  have D8 := E8.at D6
  have L8 := E8.at L6
  have A8 := A6.ex E8
  have W8 := N8.2.2
  have rl := (rds_len hrs).1
  have rne := List.length_pos_iff.mpr RO.ne
  unfold tellM
  generalize hw : writesM R rs (runS R t0 ds).a (runS R t0 ds).b (againM R rs (runS R t0 ds).b) = ws at *
  have emp : cNe (.v (.ref qw)) (.l []) s8 = .ok (.v (.bool (!ws.isEmpty))) s8 := by
    have e0 : tvD s8 (.v (.ref qw)) = match s8[qw]? with
      | some (.lst l) => (mapO (toD s8 19) l).map Dt.lst
      | some (.frz l) => (mapO (toD s8 19) l).map Dt.lst
      | _ => none := rfl
    have e1 : ∀ ws : List (Bool × Nat), mapO (toD s8 19) (ws.map wrV) = some (ws.map fun p => Dt.tup [.str (if p.1 then 77 else 72), .int (p.2 : Int)]) := fun ws => by
      induction ws with
      | nil => rfl
      | cons p ws ih =>
        have e2 : toD s8 19 (wrV p) = some (Dt.tup [.str (if p.1 then 77 else 72), .int (p.2 : Int)]) := by
          exact wr_D s8 18 p
        rw [List.map_cons]
        unfold mapO
        rw [e2, ih]; rfl
    have e3 : tvD s8 (.v (.ref qw)) = some (.lst (ws.map fun p => Dt.tup [.str (if p.1 then 77 else 72), .int (p.2 : Int)])) := by
      rw [e0, W8]
      simp only [e1, Option.map_some]
    simp only [cNe_r, eqT_nil e3, Option.map_some, ans_s]
    cases ws <;> rfl
  refine seq_step ?_
  simp only [sIf_r, tB_r, eBin_r, eLst_r, aNil_r, eV_r, bind_ok, List.getElem?_cons_succ, List.getElem?_cons_zero, List.length_nil, Nat.zero_le, LIM_eq, if_true, emp]
  cases hwe : ws.isEmpty with
  | false =>
    simp only [Bool.false_eq_true, if_false, Bool.not_false, if_true]
    have rt : Wp (sRet (eTup (aCons (eC (.str 101)) (aCons (eV 7) aNil))) [some (.ref k), some th, some (.ref qd), some (runS R t0 ds).val, some (.ref (qd + 1)), some (.ref qr), some (.bool (againM R rs (runS R t0 ds).b)), some (.ref qw), none] s8) fun r s' => r.1 = .ret (.v (.tup [.str 101, .ref qw])) ∧ s' = s8 := by
      simp
    refine rt.mono fun r s' ⟨e, es⟩ => ?_
    obtain ⟨fl, ρ'⟩ := r
    simp only at e
    subst e es
    exact ⟨qw, rfl, ⟨E18, Nat.le_trans E16.len N8.2.1, W8⟩⟩
  | true =>
    simp only [if_true, Bool.not_true, Bool.false_eq_true, if_false, sNop_r, wp_ok]
    have upl := upM_len rs
    have sml := sendsM_len rs true rs.length
    have rml := recP_len rs (rs.length - 1) false 401 (rs.length - 1) (by omega)
    have rml2 : (rs.length - 1) * (5 * 401 + 8) ≤ 401 * (5 * 401 + 8) := Nat.mul_le_mul_right _ (by omega)
    refine seq_step ?_
    simp only [sIf_r, tB_r, eV_r, bind_ok, List.getElem?_cons_succ, List.getElem?_cons_zero]
    cases hag : againM R rs (runS R t0 ds).b with
    | true =>
      simp only [if_true]
      refine ret_tup (w := 75) (e := eBin oAdd (eBin oAdd (eV 2) (eCall F_up_to_send (aCons (eV 5) aNil))) (eLst (aCons (eTup (aCons (eC (.str 67)) (aCons (eC (.str 28)) aNil))) (aCons (eTup (aCons (eC (.str 19)) (aCons (eC (.str 72)) aNil))) aNil)))) (ρ := [some (.ref k), some th, some (.ref qd), some (runS R t0 ds).val, some (.ref (qd + 1)), some (.ref qr), some (.bool true), some (.ref qw), none]) (X := (ds ++ upM rs ++ [Dd.passF, Dd.crashR]).map Dd.val) E18 (by
        simp only [aCons_r, aNil_r, eBin_r, eLst_r, eTup_r, eCall_r, eC_r, eV_r, bind_ok, mat_v, List.length_nil, List.length_cons, Nat.reduceAdd, LIM_eq, Nat.reduceLeDiff, if_true, List.getElem?_cons_succ, List.getElem?_cons_zero, wp_bind]
        refine (up_ok L8 A8 (by omega)).mono fun x s9 L9 => ?_
        rw [oAdd_q _ (L9.1.at D8) L9.lst (by rw [List.length_map, List.length_map]; omega), wp_ok, oAdd_l (lstOf_l _) (by simp only [List.length_append, List.length_map, List.length_cons, List.length_nil]; omega), wp_ok]
        have e : ds.map Dd.val ++ (upM rs).map Dd.val ++ [Val.tup [Val.str 67, Val.str 28], Val.tup [Val.str 19, Val.str 72]] = (ds ++ upM rs ++ [Dd.passF, Dd.crashR]).map Dd.val := by
          rw [List.map_append, List.map_append]; rfl
        rw [e]
        exact LR.new L9.1 _) fun q s' N => ⟨q, rfl, N⟩
    | false =>
      simp only [Bool.false_eq_true, if_false, sNop_r, wp_ok]
      refine seq_step ?_
      simp only [sAsg_r, eB1_r, bLen_r, eV_r, bind_ok, List.getElem?_cons_succ, List.getElem?_cons_zero, lk_seq L8, List.length_map, A8.1, mat_v, gV_r, wp_ok, List.set_cons_succ, List.set_cons_zero]
      have em : ((rs.length : Nat) : Int) - 1 = ((rs.length - 1 : Nat) : Int) := by omega
      refine ret_tup (w := 75) (X := (ds ++ recM rs (rs.length - 1) false ++ sendsM rs true rs.length).map Dd.val) E18 ?_ fun q s' N => ⟨q, rfl, N⟩
      simp only [aCons_r, aNil_r, eBin_r, eCall_r, eC_r, eV_r, bind_ok, mat_v, List.getElem?_cons_succ, List.getElem?_cons_zero, oSub_i, em, wp_bind]
      refine (recorded_by_ok (m := rs.length - 1) (fwd := false) L8 A8 (by omega) (by omega)).mono fun x s9 L9 => ?_
      unfold recM at L9 ⊢
      rw [oAdd_q _ (L9.1.at D8) L9.lst (by rw [List.length_map, List.length_map]; omega), wp_ok]
      refine (sends_by_ok (m := rs.length) (lost := true) (L9.1.at L8) (A8.ex L9.1) (by omega) (by omega)).mono fun x2 s10 L10 => ?_
      rw [oAdd_l L10.lst (by simp only [List.length_append, List.length_map]; omega), wp_ok, ← List.map_append, ← List.map_append]
      exact LR.new (L9.1.trans L10.1) _
end L_k36
end
section
set_option Elab.async false
set_option linter.all false
set_option maxRecDepth 100000
set_option maxHeartbeats 4000000
namespace L_k36
open VI
section
set_option Elab.async false
set_option linter.all false
set_option maxRecDepth 100000
set_option maxHeartbeats 4000000
set_option autoImplicit true
def rowB (m : Nat) (l : List Nat) : Bool := l.all fun x => decide (x < m)
def optB (m : Nat) (l : List (Option Nat)) : Bool := l.all fun o => match o with
  | none => true
  | some x => decide (x < m)
def rawB (r : Raw) : Bool :=
  decide (1 ≤ r.v ∧ r.v ≤ 1000) && decide (1 ≤ r.f ∧ r.f ≤ 1000) && decide (1 ≤ r.b ∧ r.b ≤ 1000) &&
  (decide (1 ≤ r.S.sends.length ∧ r.S.sends.length ≤ 20) && optB r.f r.S.sends && decide (r.S.ticks.length = r.S.sends.length) && rowB r.S.sends.length r.S.ticks && decide (r.S.hears.length = r.S.sends.length) && (r.S.hears.all fun w => decide (w.length = r.b) && rowB r.S.sends.length w) &&
    decide (r.S.takes.length = r.S.sends.length) && (r.S.takes.all fun o => match o with | none => true | some w => decide (w.length = r.v) && rowB r.S.sends.length w) && (match r.S.takes with | some _ :: _ => true | _ => false) && decide (r.S.crashes.length = r.S.sends.length) && rowB r.S.sends.length r.S.crashes) &&
  (decide (1 ≤ r.R.sends.length ∧ r.R.sends.length ≤ 20) && optB r.b r.R.sends && decide (r.R.ticks.length = r.R.sends.length) && rowB r.R.sends.length r.R.ticks && decide (r.R.hears.length = r.R.sends.length) && (r.R.hears.all fun w => decide (w.length = r.f) && rowB r.R.sends.length w) &&
    decide (r.R.gives.length = r.R.sends.length) && (r.R.gives.all fun w => decide (w.length = r.f) && optB r.v w) && decide (r.R.crashes.length = r.R.sends.length) && rowB r.R.sends.length r.R.crashes)
theorem rowB_ok {m : Nat} {l : List Nat} (h : rowB m l = true) : ∀ x ∈ l, x < m := fun x hx => of_decide_eq_true (List.all_eq_true.mp h x hx)
theorem optB_ok {m : Nat} {l : List (Option Nat)} (h : optB m l = true) : ∀ x, some x ∈ l → x < m := fun x hx => of_decide_eq_true (List.all_eq_true.mp h (some x) hx)
theorem rawB_ok {r : Raw} (h : rawB r = true) : RawOk r := by
  unfold rawB at h
  simp only [Bool.and_eq_true, decide_eq_true_eq] at h
  obtain ⟨⟨⟨⟨h1, h2⟩, h3⟩, ⟨⟨⟨⟨⟨⟨⟨⟨⟨⟨a1, a2⟩, a3⟩, a4⟩, a5⟩, a6⟩, a7⟩, a8⟩, a9⟩, a10⟩, a11⟩⟩, ⟨⟨⟨⟨⟨⟨⟨⟨⟨b1, b2⟩, b3⟩, b4⟩, b5⟩, b6⟩, b7⟩, b8⟩, b9⟩, b10⟩⟩ := h
  refine ⟨h1, h2, h3, ⟨a1, optB_ok a2, ⟨a3, rowB_ok a4⟩, ⟨a5, fun w hw => ?_⟩, ⟨a7, fun w hw => ?_, ?_⟩, ⟨a10, rowB_ok a11⟩⟩, ⟨b1, optB_ok b2, ⟨b3, rowB_ok b4⟩, ⟨b5, fun w hw => ?_⟩, ⟨b7, fun w hw => ?_⟩, ⟨b9, rowB_ok b10⟩⟩⟩
  · have := List.all_eq_true.mp a6 w hw
    simp only [Bool.and_eq_true, decide_eq_true_eq] at this
    exact ⟨this.1, rowB_ok this.2⟩
  · have := List.all_eq_true.mp a8 (some w) hw
    simp only [Bool.and_eq_true, decide_eq_true_eq] at this
    exact ⟨this.1, rowB_ok this.2⟩
  · cases e : r.S.takes with
    | nil => rw [e] at a9; cases a9
    | cons o t =>
      cases o with
      | none => rw [e] at a9; cases a9
      | some w => exact ⟨w, t, rfl⟩
  · have := List.all_eq_true.mp b6 w hw
    simp only [Bool.and_eq_true, decide_eq_true_eq] at this
    exact ⟨this.1, rowB_ok this.2⟩
  · have := List.all_eq_true.mp b8 w hw
    simp only [Bool.and_eq_true, decide_eq_true_eq] at this
    exact ⟨this.1, optB_ok this.2⟩
def canB (R : Raw) (t : St) : Dd → Bool
  | .hand v => decide (v < R.v) && (gd R.S.takes t.a none).isSome
  | .passF => !t.th.isEmpty
  | .passB => !t.bk.isEmpty
  | .loseF i => decide (i < t.th.length)
  | .loseB i => decide (i < t.bk.length)
  | _ => true
theorem canB_ok {R : Raw} {t : St} {d : Dd} (h : canB R t d = true) : can R t d := by
  cases d with
  | hand v =>
    simp only [canB, Bool.and_eq_true, decide_eq_true_eq] at h
    exact ⟨h.1, Option.isSome_iff_exists.mp h.2⟩
  | passF =>
    intro e
    simp only [canB, e] at h
    cases h
  | passB =>
    intro e
    simp only [canB, e] at h
    cases h
  | loseF i => exact (of_decide_eq_true h : i < t.th.length)
  | loseB i => exact (of_decide_eq_true h : i < t.bk.length)
  | _ => trivial
def goodB (R : Raw) : St → List Dd → Bool
  | _, [] => true
  | t, d :: ds => canB R t d && goodB R (step R t d).1 ds
theorem goodB_ok {R : Raw} : ∀ {t : St} {ds : List Dd}, goodB R t ds = true → Good R t ds
  | _, [], _ => trivial
  | t, d :: ds, h => by
    unfold goodB at h
    rw [Bool.and_eq_true] at h
    exact ⟨canB_ok h.1, goodB_ok h.2⟩
end
end L_k36
end
section
set_option Elab.async false
set_option linter.all false
set_option maxRecDepth 100000
set_option maxHeartbeats 4000000
set_option autoImplicit true
namespace L_k36
open VI
/-! ### the eleven written pairs -/
abbrev mkS (tk : List (Option (List Nat))) (cr : List Nat) : Snd := ⟨[none, none, some 0, some 1], [0, 1, 2, 3], [[0, 0, 0], [1, 1, 1], [2, 3, 2], [3, 3, 1]], tk, cr⟩
abbrev sameT : List (Option (List Nat)) := [some [2], some [2], none, none]
abbrev laterR (se : List (Option Nat)) (cr : List Nat) : Rcv := ⟨se, [0, 2, 2, 3], [[1, 0], [1, 1], [2, 3], [1, 3]], [[none, none], [none, none], [none, some 0], [none, none]], cr⟩
abbrev quickR (cr : List Nat) : Rcv := ⟨[some 1, some 2], [0, 1], [[0, 1], [0, 1]], [[none, some 0], [none, none]], cr⟩
abbrev thirdR (cr : List Nat) : Rcv := ⟨[some 1, some 2, some 2], [0, 2, 2], [[0, 1], [0, 1], [0, 2]], [[none, some 0], [none, none], [none, none]], cr⟩
abbrev otherR : Rcv := ⟨[some 0, some 1, some 1, some 2], [0, 1, 1, 3], [[2, 0], [1, 3], [2, 2], [2, 3]], [[none, none], [none, some 0], [none, none], [none, none]], [0, 0, 3, 0]⟩
abbrev turnedR : Rcv := ⟨[some 0, some 1, some 2, some 2], [0, 1, 2, 3], [[1, 0], [1, 2], [2, 3], [3, 3]], [[none, none], [none, some 0], [none, some 0], [none, none]], [0, 0, 0, 0]⟩
abbrev seA : List (Option Nat) := [some 0, some 1, some 1, some 2]
abbrev crA : List Nat := [0, 0, 3, 0]
abbrev z4 : List Nat := [0, 0, 0, 0]
def rTwo : Raw := ⟨1, 2, 3, mkS [some [2], some [3], none, none] z4, turnedR⟩
def rOL : Raw := ⟨1, 2, 3, mkS sameT z4, laterR seA crA⟩
def rOO : Raw := ⟨1, 2, 3, mkS sameT z4, otherR⟩
def rKL3 : Raw := ⟨1, 2, 3, mkS sameT [0, 1, 1, 0], laterR seA [0, 3, 0, 0]⟩
def rKL : Raw := ⟨1, 2, 3, mkS sameT [0, 1, 1, 0], laterR seA crA⟩
def rKN : Raw := ⟨1, 2, 3, mkS sameT [0, 1, 1, 0], laterR [some 0, none, some 1, some 2] crA⟩
def rIQ : Raw := ⟨1, 2, 3, mkS sameT [0, 1, 2, 3], quickR [0, 1]⟩
def rO3 : Raw := ⟨1, 2, 3, mkS sameT z4, thirdR [0, 1, 0]⟩
def rO4 : Raw := ⟨1, 2, 3, mkS sameT z4, thirdR [0, 0, 2]⟩
def rMQ : Raw := ⟨2, 2, 3, mkS [some [2, 0], some [2, 1], none, none] z4, quickR [0, 1]⟩
def lapsM (mute : Bool) : Nat → List Dd
  | 0 => [.hand 0]
  | i + 1 => lapsM mute i ++ [.send, .passF, .answer] ++ ifL (decide (0 < i) || !mute) .passB
structure RowD where
  R : Raw
  ds : List Dd
  due : Option (List (Bool × Nat))
def rowsM : List RowD := [⟨rTwo, [], none⟩, ⟨rTwo, lapsM false 2, some [(false, 1)]⟩, ⟨rOL, [], some [(false, 1)]⟩, ⟨rOO, [], none⟩, ⟨rKL3, lapsM false 2, some [(false, 1)]⟩, ⟨rKL, lapsM false 2, none⟩, ⟨rKN, lapsM true 3, none⟩,
  ⟨rIQ, [], some [(false, 2)]⟩, ⟨rO3, [], some [(false, 2)]⟩, ⟨rO4, [], none⟩, ⟨rMQ, [], some [(false, 2)]⟩]
def fitB (r : RowD) : Bool := match r.due, breakM r.R r.ds with
  | some w, some (.wr w') => decide (w = w')
  | none, some (.run es) => goodB r.R t0 es && decide (es.length ≤ 3900) && decide (verdM r.R es BOTHX ≠ 31)
  | _, _ => false
def rightB (r : RowD) : Bool := rawB r.R && goodB r.R t0 r.ds && decide (r.ds.length ≤ 3900) && settledM r.R r.ds && fitB r
theorem rows_right : rowsM.all rightB = true := by decide +kernel
end L_k36
end
section
set_option Elab.async false
set_option linter.all false
set_option maxRecDepth 100000
set_option maxHeartbeats 4000000
set_option autoImplicit true
namespace L_k36
open VI
def DueAt (due : Option (List (Bool × Nat))) (x : Val) (s : Store) : Prop := match due with
  | none => x = .non
  | some w => ∃ q, x = .ref q ∧ s[q]? = some (.lst (w.map wrV))
structure RowAt (r : RowD) (k b : Nat) (d : Val) (s : Store) : Prop where
  pair : PairAt r.R k s
  beg : s[b]? = some (.lst (r.ds.map Dd.val))
  due : DueAt r.due d s
theorem DueAt.ex {due : Option (List (Bool × Nat))} {x : Val} {s s' : Store} (h : DueAt due x s) (E : Ex s s') : DueAt due x s' := by
  cases due with
  | none => exact h
  | some w => obtain ⟨q, e, h⟩ := h; exact ⟨q, e, E.at h⟩
theorem RowAt.ex {r : RowD} {k b : Nat} {d : Val} {s s' : Store} (h : RowAt r k b d s) (E : Ex s s') : RowAt r k b d s' := ⟨h.pair.ex' E, E.at h.beg, h.due.ex E⟩
theorem wrs_D (s : Store) (n : Nat) : ∀ ws : List (Bool × Nat), mapO (toD s (n + 1)) (ws.map wrV) = some (ws.map fun p => Dt.tup [.str (if p.1 then 77 else 72), .int (p.2 : Int)])
  | [] => rfl
  | p :: ws => by
    rw [List.map_cons]
    unfold mapO
    rw [wr_D s n p, wrs_D s n ws]; rfl
theorem toD_lst {s : Store} {n q : Nat} {l : List Val} {ds : List Dt} (h : s[q]? = some (.lst l)) (e : mapO (toD s n) l = some ds) : toD s (n + 1) (.ref q) = some (.lst ds) := by
  have e0 : toD s (n + 1) (.ref q) = match s[q]? with
    | some (.lst l) => (mapO (toD s n) l).map Dt.lst
    | some (.frz l) => (mapO (toD s n) l).map Dt.lst
    | _ => none := rfl
  rw [e0, h]
  simp only [e, Option.map_some]
theorem toD_tup2 {s : Store} {n : Nat} {x y : Val} {d e : Dt} (hx : toD s n x = some d) (hy : toD s n y = some e) : toD s (n + 1) (.tup [x, y]) = some (.tup [d, e]) := by
  show (mapO (toD s n) [x, y]).map Dt.tup = _
  simp only [mapO, hx, hy, Option.map_some]
theorem eqT_tupw {s : Store} {q d : Nat} {w : List (Bool × Nat)} (hq : s[q]? = some (.lst (w.map wrV))) (hd : s[d]? = some (.lst (w.map wrV))) : eqT (.v (.tup [.str 101, .ref q])) (.v (.tup [.str 101, .ref d])) s = some true := by
  have e1 : tvD s (.v (.tup [.str 101, .ref q])) = _ := toD_tup2 (n := 19) (toD_str (s := s) 19 101) (toD_lst (n := 18) hq (wrs_D s 17 w))
  have e2 : tvD s (.v (.tup [.str 101, .ref d])) = _ := toD_tup2 (n := 19) (toD_str (s := s) 19 101) (toD_lst (n := 18) hd (wrs_D s 17 w))
  unfold eqT
  rw [e1, e2]
  simp only [eqv_refl]
theorem br_pre {R : Raw} {ds es : List Dd} (h : breakM R ds = some (.run es)) : es.take ds.length = ds := by
  have key : ∃ r, es = ds ++ r := by
    unfold breakM at h
    split at h
    · obtain ⟨rs, _, e⟩ := Option.map_eq_some_iff.mp h
      unfold tellM at e
      split at e
      · split at e
        · cases e; exact ⟨_, List.append_assoc _ _ _⟩
        · cases e; exact ⟨_, List.append_assoc _ _ _⟩
      · cases e
    · cases h; exact ⟨_, rfl⟩
  obtain ⟨r, rfl⟩ := key
  exact List.take_left
theorem told_right {r : RowD} (hr : rightB r = true) {k b : Nat} {d : Val} {s : Store} (h : RowAt r k b d s) : Wp (F__law_told_right [.ref k, .ref b, d] s) fun x s' => x = .v (.bool true) ∧ Ex s s' := by
  unfold rightB at hr
  simp only [Bool.and_eq_true, decide_eq_true_eq] at hr
  obtain ⟨⟨⟨⟨h1, h2⟩, h3⟩, h4⟩, h5⟩ := hr
  have hR := rawB_ok h1
  have hG := goodB_ok h2
  rw [F__law_told_right, wp_fn3]
  unfold B__law_told_right
  simp only [Nat.reduceSub, List.replicate]
  refine seq_step ?_
  simp only [sAsg_r, eCall_r, aCons_r, aNil_r, eB1_r, eV_r, bind_ok, mat_v, mat_l, bList_r, lk_seq h.beg, List.getElem?_cons_succ, List.getElem?_cons_zero, wp_bind]
  have E1 := Ex.app s [.lst (r.ds.map Dd.val)]
  have L1 : (s ++ [Ob.lst (r.ds.map Dd.val)])[s.length]? = some (.lst (r.ds.map Dd.val)) := by simp
  generalize s ++ [Ob.lst (r.ds.map Dd.val)] = s1 at E1 L1
  unfold fitB at h5
  cases hT : breakM r.R r.ds with
  | none => rw [hT] at h5; cases hd : r.due <;> rw [hd] at h5 <;> cases h5
  | some T =>
    refine (breaking_ok hR (h.pair.ex' E1) hG (by omega) (.inr ⟨_, rfl, L1⟩) h4 hT).mono fun x s2 ⟨q, e, N⟩ => ?_
    subst e
    have E2 := E1.trans N.1
    have B2 := E2.at h.beg
    simp only [mat_v, gV_r, wp_ok, List.set_cons_succ, List.set_cons_zero]
    rw [hT] at h5
    cases T with
    | wr w' =>
      cases hd : r.due with
      | none => rw [hd] at h5; cases h5
      | some w =>
        rw [hd] at h5
        obtain rfl : w = w' := of_decide_eq_true h5
        have hdue := h.due
        rw [hd] at hdue
        obtain ⟨qd, rfl, hqd⟩ := hdue
        have e1 : ∀ k : Nat, isN (.v (.ref k)) = false := fun _ => rfl
        refine seq_step ?_
        simp only [sIf_r, tB_r, eBin_r, eTup_r, aCons_r, aNil_r, eC_r, eV_r, bind_ok, mat_v, List.getElem?_cons_succ, List.getElem?_cons_zero, cNotN_r, e1, Bool.not_false, if_true, sRet_r, List.length_nil, List.length_cons, Nat.zero_le, Nat.reduceAdd, LIM_eq, Nat.reduceLeDiff, Told.tag, cEq_r, eqT_tupw N.2.2 (E2.at hqd), ans_s, wp_ok]
        exact ⟨rfl, E2⟩
    | run es =>
      cases hd : r.due with
      | some w => rw [hd] at h5; cases h5
      | none =>
        rw [hd] at h5
        simp only [Bool.and_eq_true, decide_eq_true_eq] at h5
        obtain ⟨⟨g1, g2⟩, g3⟩ := h5
        have hdue := h.due
        rw [hd] at hdue
        obtain rfl : d = .non := hdue
        have L2 : s2[q]? = some (.lst (es.map Dd.val)) := N.2.2
        have cut : cutV (es.map Dd.val) none (some (r.ds.length : Int)) = r.ds.map Dd.val := by
          rw [cutV_to, ← List.map_take, br_pre hT]
        have ex1 := atI_1 (Val.str 75) (Val.ref q) []
        have eq2 : eqT (.l (r.ds.map Dd.val)) (.v (.ref b)) s2 = some true := by
          unfold eqT
          rw [tvD_ds, tvD_dsR B2]
          simp only [eqv_refl]
        refine seq_step ?_
        simp only [sIf_r, tB_r, eBin_r, eC_r, eV_r, bind_ok, List.getElem?_cons_succ, List.getElem?_cons_zero, cNotN_r, isN_non, Bool.not_true, Bool.false_eq_true, if_false, sNop_r, wp_ok]
        have sl := slc_ref none (some (r.ds.length : Int)) (lk_seq L2)
        rw [cut] at sl
        simp only [sRet_r, eAnd_r, eBin_r, eSl_r, optI_n, optI_s, eB1_r, bLen_r, eC_r, eV_r, bind_ok, List.getElem?_cons_succ, List.getElem?_cons_zero, Told.tag, oIdx_r, seqOf_t, atI_0, ex1, cEq_r, eqT_s, decide_true, ans_s, if_true, lk_seq B2, List.length_map, sl, eq2, eCall_r, aApp_r, aDs_r, aCons_r, aNil_r, mat_v, List.cons_append, List.nil_append, wp_bind]
        rw [both_ex]
        refine (verdict_ok hR (h.pair.ex' E2) (ex := [77, 72]) (.inl rfl) (goodB_ok g1) (by omega) (th := .ref q) (.inr ⟨_, rfl, L2⟩)).mono fun x s3 ⟨e, E3⟩ => ?_
        subst e
        simp only [bind_ok, cNe_r, eqT_s, Option.map_some, ans_s, wp_ok, FinQ_r]
        refine ⟨?_, E2.trans E3⟩
        rw [decide_eq_false g3]; rfl
end L_k36
end
section
set_option Elab.async false
set_option linter.all false
set_option maxRecDepth 100000
set_option maxHeartbeats 4000000
set_option autoImplicit true
namespace L_k36
open VI
/-! ### what an expression gives in every later store -/
abbrev Pd := Val → Store → Prop
def Stb (P : Pd) : Prop := ∀ x s s', P x s → Ex s s' → P x s'
def HoldsL : List Pd → List Val → Store → Prop
  | [], [], _ => True
  | P :: Ps, x :: xs, s => P x s ∧ HoldsL Ps xs s
  | _, _, _ => False
def StbL (Ps : List Pd) : Prop := ∀ P ∈ Ps, Stb P
theorem HoldsL.ex : ∀ {Ps : List Pd} {xs : List Val} {s s' : Store}, StbL Ps → HoldsL Ps xs s → Ex s s' → HoldsL Ps xs s'
  | [], [], _, _, _, _, _ => True.intro
  | P :: Ps, x :: xs, s, s', hs, h, E => ⟨hs P List.mem_cons_self x s s' h.1 E, HoldsL.ex (fun Q hQ => hs Q (List.mem_cons_of_mem _ hQ)) h.2 E⟩
  | [], _ :: _, _, _, _, h, _ => h.elim
  | _ :: _, [], _, _, _, h, _ => h.elim
def Sp (s0 : Store) (ρ : Env) (e : Ev) (P : Pd) : Prop := ∀ s, Ex s0 s → Wp (e ρ s) fun t s1 => Wp (VI.mat t s1) fun x s2 => Ex s s2 ∧ P x s2
def SpA (s0 : Store) (ρ : Env) (a : Avs) (Ps : List Pd) : Prop := ∀ s, Ex s0 s → Wp (a ρ s) fun xs s1 => Ex s s1 ∧ HoldsL Ps xs s1
def CallSp (F : Fn) (Ps : List Pd) (P : Pd) : Prop := ∀ s xs, HoldsL Ps xs s → Wp (F xs s) fun t s1 => Wp (VI.mat t s1) fun x s2 => Ex s s2 ∧ P x s2
theorem spa_nil {s0 : Store} {ρ : Env} : SpA s0 ρ aNil [] := fun s _ => by rw [aNil_r, wp_ok]; exact ⟨Ex.refl s, True.intro⟩
theorem spa_cons {s0 : Store} {ρ : Env} {e : Ev} {a : Avs} {P : Pd} {Ps : List Pd} (hs : Stb P) (he : Sp s0 ρ e P) (ha : SpA s0 ρ a Ps) : SpA s0 ρ (aCons e a) (P :: Ps) := fun s E => by
  rw [aCons_r, wp_bind]
  refine (he s E).mono fun t s1 h => ?_
  rw [wp_bind]
  refine h.mono fun x s2 ⟨E2, p⟩ => ?_
  rw [wp_bind]
  refine (ha s2 (E.trans E2)).mono fun xs s3 ⟨E3, q⟩ => ?_
  rw [wp_ok]
  exact ⟨E2.trans E3, hs x s2 s3 p E3, q⟩
theorem sp_call {s0 : Store} {ρ : Env} {F : Fn} {a : Avs} {Ps : List Pd} {P : Pd} (hF : CallSp F Ps P) (ha : SpA s0 ρ a Ps) : Sp s0 ρ (eCall F a) P := fun s E => by
  rw [eCall_r, wp_bind]
  refine (ha s E).mono fun xs s1 ⟨E1, q⟩ => ?_
  refine (hF s1 xs q).mono fun t s2 h => h.mono fun x s3 ⟨E3, p⟩ => ⟨E1.trans E3, p⟩
theorem sp_var {s0 : Store} {ρ : Env} {i : Nat} {P : Pd} {v : Val} (hi : ρ[i]? = some (some v)) (hs : Stb P) (hp : P v s0) : Sp s0 ρ (eV i) P := fun s E => by
  simp only [eV_r, hi, wp_ok, mat_v]
  exact ⟨Ex.refl s, hs v s0 s hp E⟩
theorem sp_con {s0 : Store} {ρ : Env} {P : Pd} {v : Val} (hp : ∀ s, P v s) : Sp s0 ρ (eC v) P := fun s _ => by
  simp only [eC_r, wp_ok, mat_v]
  exact ⟨Ex.refl s, hp s⟩
abbrev TH (xs : List Val) : Pd := fun x s => Thing x s xs
abbrev EQ (v : Val) : Pd := fun x _ => x = v
abbrev BG (xs : List Val) : Pd := fun x s => ∃ b, x = .ref b ∧ s[b]? = some (.lst xs)
theorem stb_th (xs : List Val) : Stb (TH xs) := fun _ _ _ h E => h.ex E
theorem stb_eq (v : Val) : Stb (EQ v) := fun _ _ _ h _ => h
theorem stb_bg (xs : List Val) : Stb (BG xs) := fun _ _ _ ⟨b, e, h⟩ E => ⟨b, e, E.at h⟩
theorem sp_lit {s0 : Store} {ρ : Env} {e : Ev} {xs : List Val} (h : ∀ s, e ρ s = .ok (.l xs) s) : Sp s0 ρ e (BG xs) := fun s _ => by
  rw [h, wp_ok, mat_l, wp_ok]
  exact ⟨Ex.app s _, _, rfl, by simp⟩
theorem sp_mono {s0 : Store} {ρ : Env} {e : Ev} {P Q : Pd} (h : Sp s0 ρ e P) (k : ∀ x s, P x s → Q x s) : Sp s0 ρ e Q := fun s E => (h s E).mono fun t s1 h => h.mono fun x s2 ⟨E2, p⟩ => ⟨E2, k x s2 p⟩
theorem sp_litT {s0 : Store} {ρ : Env} {e : Ev} {xs : List Val} (h : ∀ s, e ρ s = .ok (.l xs) s) : Sp s0 ρ e (TH xs) := sp_mono (sp_lit h) fun x s ⟨b, e, h⟩ => .inr ⟨b, e, h⟩
theorem asg_sp {s0 : Store} {ρ : Env} {i : Nat} {e : Ev} {P : Pd} {Q : Fl × Env → Store → Prop} (he : Sp s0 ρ e P) (k : ∀ x s, Ex s0 s → P x s → Q (.next, ρ.set i (some x)) s) : Wp (sAsg (gV i) e ρ s0) Q := by
  rw [sAsg_r, wp_bind]
  refine (he s0 (Ex.refl _)).mono fun t s1 h => ?_
  rw [wp_bind]
  refine h.mono fun x s2 ⟨E, p⟩ => ?_
  simp only [gV_r, bind_ok, wp_ok]
  exact k x s2 E p
theorem par_sp {s0 : Store} {ρ : Env} {i j : Nat} {a : Avs} {P1 P2 : Pd} {Q : Fl × Env → Store → Prop} (ha : SpA s0 ρ a [P1, P2]) (k : ∀ x y s, Ex s0 s → P1 x s → P2 y s → Q (.next, (ρ.set i (some x)).set j (some y)) s) : Wp (sPar i j a ρ s0) Q := by
  rw [sPar_r, wp_bind]
  refine (ha s0 (Ex.refl _)).mono fun xs s1 ⟨E, h⟩ => ?_
  match xs, h with
  | [x, y], h => rw [wp_ok]; exact k x y s1 E h.1 h.2.1
  | [], h => exact h.elim
  | [_], h => exact h.2.elim
  | _ :: _ :: _ :: _, h => exact h.2.2.elim
theorem sp_tup3 {s0 : Store} {ρ : Env} {a : Avs} {P1 P2 P3 : Pd} (ha : SpA s0 ρ a [P1, P2, P3]) : Sp s0 ρ (eTup a) (fun x s => ∃ u v w, x = .tup [u, v, w] ∧ P1 u s ∧ P2 v s ∧ P3 w s) := fun s E => by
  rw [eTup_r, wp_bind]
  refine (ha s E).mono fun xs s1 ⟨E1, h⟩ => ?_
  match xs, h with
  | [x, y, z], h =>
    rw [if_pos (by simp), wp_ok, mat_v, wp_ok]
    exact ⟨E1, x, y, z, rfl, h.1, h.2.1, h.2.2.1⟩
  | [], h => exact h.elim
  | [_], h => exact h.2.elim
  | [_, _], h => exact h.2.2.elim
  | _ :: _ :: _ :: _ :: _, h => exact h.2.2.2.elim
/-! ### the parts of the written pairs -/
abbrev SN (R : Raw) : Pd := fun x s => ∃ i, x = .ref i ∧ s[i]? = some (.ins 0 (sndF R))
abbrev RC (R : Raw) : Pd := fun x s => ∃ i, x = .ref i ∧ s[i]? = some (.ins 1 (rcvF R))
abbrev PR (R : Raw) : Pd := fun x s => ∃ k, x = .ref k ∧ PairAt R k s
abbrev DU (due : Option (List (Bool × Nat))) : Pd := DueAt due
abbrev RW (r : RowD) : Pd := fun x s => ∃ k b d, x = .tup [.ref k, .ref b, d] ∧ RowAt r k b d s
theorem stb_sn (R : Raw) : Stb (SN R) := fun _ _ _ ⟨b, e, h⟩ E => ⟨b, e, E.at h⟩
theorem stb_rc (R : Raw) : Stb (RC R) := fun _ _ _ ⟨b, e, h⟩ E => ⟨b, e, E.at h⟩
theorem stb_pr (R : Raw) : Stb (PR R) := fun _ _ _ ⟨b, e, h⟩ E => ⟨b, e, h.ex' E⟩
theorem stb_du (d) : Stb (DU d) := fun _ _ _ h E => h.ex E
theorem stb_rw (r : RowD) : Stb (RW r) := fun _ _ _ ⟨k, b, d, e, h⟩ E => ⟨k, b, d, e, h.ex E⟩
theorem sp_pair {s0 : Store} {ρ : Env} {a : Avs} {R : Raw} (ha : SpA s0 ρ a [SN R, RC R]) : Sp s0 ρ (eMk 2 F_Pair___init__ a) (PR R) := fun s E => by
  rw [eMk_r, wp_bind]
  refine (ha s E).mono fun xs s1 ⟨E1, h⟩ => ?_
  match xs, h with
  | [x, y], h =>
    obtain ⟨⟨i, rfl, hi⟩, ⟨j, rfl, hj⟩, _⟩ := h
    rw [pair_init hi hj rfl rfl rfl, bind_ok]
    simp only [wp_ok, mat_v]
    have E2 := Ex.app s1 [.ins 2 [(77, .ref i), (72, .ref j)]]
    exact ⟨E1.trans E2, _, rfl, ⟨i, j, by simp, E2.at hi, E2.at hj⟩⟩
  | [], h => exact h.elim
  | [_], h => exact h.2.elim
  | _ :: _ :: _ :: _, h => exact h.2.2.elim
theorem sp_row {s0 : Store} {ρ : Env} {a : Avs} (r : RowD) (ha : SpA s0 ρ a [PR r.R, BG (r.ds.map Dd.val), DU r.due]) : Sp s0 ρ (eTup a) (RW r) :=
  sp_mono (sp_tup3 ha) fun x s ⟨u, v, w, e, ⟨k, e1, h1⟩, ⟨b, e2, h2⟩, h3⟩ => ⟨k, b, w, by rw [e, e1, e2], ⟨h1, h2, h3⟩⟩
theorem pick9 (a0 a1 a2 a3 a4 a5 a6 a7 a8 : Val) : VI.pick [0, 1, 2, 3, 4, 5, 6, 7, 8] [a0, a1, a2, a3, a4, a5, a6, a7, a8] = [a0, a1, a2, a3, a4, a5, a6, a7, a8] := rfl
theorem law_sender_sp {R : Raw} (h : RawOk R) {tk : List (Option (List Nat))} {cr : List Nat} (hS : R.S = mkS tk cr) (hf : R.f = 2) (hb : R.b = 3) : CallSp F__law_sender [EQ (nv R.v), TH (tk.map takeV), TH (cr.map nv)] (SN R) := fun s xs hx => by
  match xs, hx with
  | [x, g, c], hx =>
    obtain ⟨rfl, hg, hc, _⟩ := hx
    rw [F__law_sender, wp_fn3]
    unfold B__law_sender
    simp only [Nat.reduceSub, List.replicate]
    refine seq_step ?_
    simp only [sAsg_r, eLst_r, eTup_r, aCons_r, aNil_r, eC_r, bind_ok, mat_v, mat_l, List.length_nil, List.length_cons, Nat.zero_le, Nat.reduceAdd, LIM_eq, Nat.reduceLeDiff, if_true, gV_r, wp_ok, List.set_cons_succ, List.set_cons_zero]
    have E1 := Ex.app s [.lst [.tup [.int 0, .int 0, .int 0], .tup [.int 1, .int 1, .int 1], .tup [.int 2, .int 3, .int 2], .tup [.int 3, .int 3, .int 1]]]
    have L1 : (s ++ [Ob.lst [.tup [.int 0, .int 0, .int 0], .tup [.int 1, .int 1, .int 1], .tup [.int 2, .int 3, .int 2], .tup [.int 3, .int 3, .int 1]]])[s.length]? = some (.lst (R.S.hears.map fun r => rowV r)) := by rw [hS]; simp
    generalize s ++ [Ob.lst [.tup [.int 0, .int 0, .int 0], .tup [.int 1, .int 1, .int 1], .tup [.int 2, .int 3, .int 2], .tup [.int 3, .int 3, .int 1]]] = s1 at E1 L1
    generalize s.length = q1 at L1
    refine seq_step ?_
    simp only [sAsg_r, eLst_r, eTup_r, aCons_r, aNil_r, eC_r, bind_ok, mat_v, mat_l, List.length_nil, List.length_cons, Nat.zero_le, Nat.reduceAdd, LIM_eq, Nat.reduceLeDiff, if_true, gV_r, wp_ok, List.set_cons_succ, List.set_cons_zero]
    have E2 := Ex.app s1 [.lst [.non, .non, .int 0, .int 1]]
    have L2 : (s1 ++ [Ob.lst [.non, .non, .int 0, .int 1]])[s1.length]? = some (.lst (R.S.sends.map optV)) := by rw [hS]; simp [optV]
    generalize s1 ++ [Ob.lst [.non, .non, .int 0, .int 1]] = s2 at E2 L2
    generalize s1.length = q2 at L2
    simp only [sRet_r, eMkK_r, eLst_r, eTup_r, aCons_r, aNil_r, eC_r, eV_r, List.getElem?_cons_succ, List.getElem?_cons_zero, bind_ok, mat_v, mat_l, List.length_nil, List.length_cons, Nat.zero_le, Nat.reduceAdd, LIM_eq, Nat.reduceLeDiff, if_true, List.cons_append, List.nil_append, pick9]
    have E3 := Ex.app s2 [.lst [.int 0, .int 1, .int 2, .int 3]]
    have L3 : (s2 ++ [Ob.lst [.int 0, .int 1, .int 2, .int 3]])[s2.length]? = some (.lst (R.S.ticks.map nv)) := by rw [hS]; simp
    generalize s2 ++ [Ob.lst [.int 0, .int 1, .int 2, .int 3]] = s3 at E3 L3
    generalize s2.length = q3 at L3
    have E13 := E2.trans E3
    have E03 := E1.trans E13
    have hi := snd_initT h (t0 := .ref q2) (t1 := .ref q3) (t2 := .ref q1) (t3 := g) (t4 := c) (.inr ⟨_, rfl, E3.at L2⟩) (.inr ⟨_, rfl, L3⟩) (.inr ⟨_, rfl, E13.at L1⟩) (by rw [hS]; exact hg.ex E03) (by rw [hS]; exact hc.ex E03)
    have e2 : (Val.int 2) = nv R.f := by rw [hf]; rfl
    have e3 : (Val.int 3) = nv R.b := by rw [hb]; rfl
    rw [e2, e3, hi]
    simp only [bind_ok, wp_ok, FinQ_r, mat_v]
    exact ⟨E03.trans (Ex.app _ _), _, rfl, by simp⟩
  | [], h => exact h.elim
  | [_], h => exact h.2.elim
  | [_, _], h => exact h.2.2.elim
  | _ :: _ :: _ :: _ :: _, h => exact h.2.2.2.elim
theorem law_receiver_sp {R : Raw} (h : RawOk R) (hf : R.f = 2) (hb : R.b = 3) : CallSp F__law_receiver [EQ (nv R.v), TH (R.R.sends.map optV), TH (R.R.ticks.map nv), TH (R.R.hears.map fun r => rowV r), TH (R.R.gives.map fun r => lettersV r), TH (R.R.crashes.map nv)] (RC R) := fun s xs hx => by
  match xs, hx with
  | [x, t0, t1, t2, t3, t4], hx =>
    obtain ⟨rfl, h0, h1, h2, h3, h4, _⟩ := hx
    rw [F__law_receiver, wp_fnI (np := 6) rfl]
    unfold B__law_receiver
    simp only [Nat.sub_self, List.replicate, List.append_nil, List.map_cons, List.map_nil]
    simp only [sRet_r, eMkK_r, aCons_r, aNil_r, eC_r, eV_r, List.getElem?_cons_succ, List.getElem?_cons_zero, bind_ok, mat_v, List.cons_append, List.nil_append, pick9]
    have hi := rcv_initT h h0 h1 h2 h3 h4
    have e2 : (Val.int 2) = nv R.f := by rw [hf]; rfl
    have e3 : (Val.int 3) = nv R.b := by rw [hb]; rfl
    rw [e2, e3, hi]
    simp only [bind_ok, wp_ok, FinQ_r, mat_v]
    exact ⟨Ex.app _ _, _, rfl, by simp⟩
  | [], h => exact h.elim
  | [_], h => exact h.2.elim
  | [_, _], h => exact h.2.2.elim
  | [_, _, _], h => exact h.2.2.2.elim
  | [_, _, _, _], h => exact h.2.2.2.2.elim
  | [_, _, _, _, _], h => exact h.2.2.2.2.2.elim
  | _ :: _ :: _ :: _ :: _ :: _ :: _ :: _, h => exact h.2.2.2.2.2.2.elim
end L_k36
end
section
set_option Elab.async false
set_option linter.all false
set_option maxRecDepth 100000
set_option maxHeartbeats 4000000
set_option autoImplicit true
namespace L_k36
open VI
theorem zero4 (ρ : Env) (s : Store) : eBin oMul (eLst (aCons (eC (.int 0)) aNil)) (eC (.int 4)) ρ s = .ok (.l [.int 0, .int 0, .int 0, .int 0]) s := by
  simp [List.replicate]
theorem lv0 {h : RawOk R} : True := trivial
/-- the receivers -/
theorem later_sp {R : Raw} (h : RawOk R) {se : List (Option Nat)} {cr : List Nat} (hv : R.v = 1) (hS : R.R = laterR se cr) (hf : R.f = 2) (hb : R.b = 3) : CallSp F__law_later [TH (se.map optV), TH (cr.map nv)] (RC R) := fun s xs hx => by
  match xs, hx with
  | [x, c], hx =>
    obtain ⟨hg, hc, _⟩ := hx
    rw [F__law_later, wp_fn2]
    unfold B__law_later
    simp only [Nat.reduceSub, List.replicate]
    refine Wp.mono (Q := fun r s' => ∃ t, r.1 = .ret t ∧ Wp (VI.mat t s') fun x s2 => Ex s s2 ∧ RC R x s2) ?_ fun r s' ⟨t, e, h⟩ => by
      obtain ⟨fl, ρ'⟩ := r
      simp only at e
      subst e
      exact h
    refine seq_step (par_sp (P1 := TH (R.R.hears.map fun r => rowV r)) (P2 := TH (R.R.gives.map fun r => lettersV r)) (spa_cons (stb_th _) (sp_litT (by rw [hS]; (intro s; first | (simp [takeV, optV, zero4]; done) | (simp [takeV, optV, zero4]; rfl)))) (spa_cons (stb_th _) (sp_litT (by rw [hS]; (intro s; first | (simp [takeV, optV, zero4]; done) | (simp [takeV, optV, zero4]; rfl)))) spa_nil)) fun u w s1 E1 h1 h2 => ?_)
    simp only [List.set_cons_succ, List.set_cons_zero]
    have q := sp_call (s0 := s1) (ρ := [some x, some c, some u, some w]) (law_receiver_sp h hf hb) (a := aCons (eC (.int 1)) (aCons (eV 0) (aCons (eLst (aCons (eC (.int 0)) (aCons (eC (.int 2)) (aCons (eC (.int 2)) (aCons (eC (.int 3)) aNil))))) (aCons (eV 2) (aCons (eV 3) (aCons (eV 1) aNil))))))
      (spa_cons (stb_eq _) (sp_con fun _ => by rw [hv]; rfl) (spa_cons (stb_th _) (sp_var rfl (stb_th _) (by rw [hS]; exact hg.ex E1)) (spa_cons (stb_th _) (sp_litT (by rw [hS]; (intro s; first | (simp [takeV, optV, zero4]; done) | (simp [takeV, optV, zero4]; rfl)))) (spa_cons (stb_th _) (sp_var rfl (stb_th _) h1) (spa_cons (stb_th _) (sp_var rfl (stb_th _) h2) (spa_cons (stb_th _) (sp_var rfl (stb_th _) (by rw [hS]; exact hc.ex E1)) spa_nil))))))
    rw [sRet_r, wp_bind]
    refine (q s1 (Ex.refl _)).mono fun t s2 h3 => ?_
    rw [wp_ok]
    exact ⟨t, rfl, h3.mono fun y s3 ⟨E3, p⟩ => ⟨E1.trans E3, p⟩⟩
  | [], h => exact h.elim
  | [_], h => exact h.2.elim
  | _ :: _ :: _ :: _, h => exact h.2.2.elim
theorem quick_sp {R : Raw} (h : RawOk R) {cr : List Nat} (hS : R.R = quickR cr) (hf : R.f = 2) (hb : R.b = 3) : CallSp F__law_quick [EQ (nv R.v), TH (cr.map nv)] (RC R) := fun s xs hx => by
  match xs, hx with
  | [x, c], hx =>
    obtain ⟨rfl, hc, _⟩ := hx
    rw [F__law_quick, wp_fn2]
    unfold B__law_quick
    simp only [Nat.sub_self, List.replicate]
    have q := sp_call (s0 := s) (ρ := [some (nv R.v), some c]) (law_receiver_sp h hf hb) (a := aCons (eV 0) (aCons (eLst (aCons (eC (.int 1)) (aCons (eC (.int 2)) aNil))) (aCons (eLst (aCons (eC (.int 0)) (aCons (eC (.int 1)) aNil))) (aCons (eLst (aCons (eTup (aCons (eC (.int 0)) (aCons (eC (.int 1)) aNil))) (aCons (eTup (aCons (eC (.int 0)) (aCons (eC (.int 1)) aNil))) aNil))) (aCons (eLst (aCons (eTup (aCons (eC .non) (aCons (eC (.int 0)) aNil))) (aCons (eTup (aCons (eC .non) (aCons (eC .non) aNil))) aNil))) (aCons (eV 1) aNil))))))
      (spa_cons (stb_eq _) (sp_var rfl (stb_eq _) rfl) (spa_cons (stb_th _) (sp_litT (by rw [hS]; (intro s; first | (simp [takeV, optV, zero4]; done) | (simp [takeV, optV, zero4]; rfl)))) (spa_cons (stb_th _) (sp_litT (by rw [hS]; (intro s; first | (simp [takeV, optV, zero4]; done) | (simp [takeV, optV, zero4]; rfl)))) (spa_cons (stb_th _) (sp_litT (by rw [hS]; (intro s; first | (simp [takeV, optV, zero4]; done) | (simp [takeV, optV, zero4]; rfl)))) (spa_cons (stb_th _) (sp_litT (by rw [hS]; (intro s; first | (simp [takeV, optV, zero4]; done) | (simp [takeV, optV, zero4]; rfl)))) (spa_cons (stb_th _) (sp_var rfl (stb_th _) (by rw [hS]; exact hc)) spa_nil))))))
    rw [sRet_r, wp_bind]
    refine (q s (Ex.refl _)).mono fun t s2 h3 => ?_
    rw [wp_ok, FinQ_r]
    exact h3
  | [], h => exact h.elim
  | [_], h => exact h.2.elim
  | _ :: _ :: _ :: _, h => exact h.2.2.elim
theorem third_sp {R : Raw} (h : RawOk R) {cr : List Nat} (hv : R.v = 1) (hS : R.R = thirdR cr) (hf : R.f = 2) (hb : R.b = 3) : CallSp F__law_third [TH (cr.map nv)] (RC R) := fun s xs hx => by
  match xs, hx with
  | [c], hx =>
    obtain ⟨hc, _⟩ := hx
    rw [F__law_third, wp_fn1]
    unfold B__law_third
    simp only [Nat.reduceSub, List.replicate]
    refine seq_step (asg_sp (P := TH (R.R.gives.map fun r => lettersV r)) (sp_litT (by rw [hS]; (intro s; first | (simp [takeV, optV, zero4]; done) | (simp [takeV, optV, zero4]; rfl)))) fun u s1 E1 h1 => ?_)
    simp only [List.set_cons_succ, List.set_cons_zero]
    have q := sp_call (s0 := s1) (ρ := [some c, some u]) (law_receiver_sp h hf hb) (a := aCons (eC (.int 1)) (aCons (eLst (aCons (eC (.int 1)) (aCons (eC (.int 2)) (aCons (eC (.int 2)) aNil)))) (aCons (eLst (aCons (eC (.int 0)) (aCons (eC (.int 2)) (aCons (eC (.int 2)) aNil)))) (aCons (eLst (aCons (eTup (aCons (eC (.int 0)) (aCons (eC (.int 1)) aNil))) (aCons (eTup (aCons (eC (.int 0)) (aCons (eC (.int 1)) aNil))) (aCons (eTup (aCons (eC (.int 0)) (aCons (eC (.int 2)) aNil))) aNil)))) (aCons (eV 1) (aCons (eV 0) aNil))))))
      (spa_cons (stb_eq _) (sp_con fun _ => by rw [hv]; rfl) (spa_cons (stb_th _) (sp_litT (by rw [hS]; (intro s; first | (simp [takeV, optV, zero4]; done) | (simp [takeV, optV, zero4]; rfl)))) (spa_cons (stb_th _) (sp_litT (by rw [hS]; (intro s; first | (simp [takeV, optV, zero4]; done) | (simp [takeV, optV, zero4]; rfl)))) (spa_cons (stb_th _) (sp_litT (by rw [hS]; (intro s; first | (simp [takeV, optV, zero4]; done) | (simp [takeV, optV, zero4]; rfl)))) (spa_cons (stb_th _) (sp_var rfl (stb_th _) h1) (spa_cons (stb_th _) (sp_var rfl (stb_th _) (by rw [hS]; exact hc.ex E1)) spa_nil))))))
    rw [sRet_r, wp_bind]
    refine (q s1 (Ex.refl _)).mono fun t s2 h3 => ?_
    rw [wp_ok, FinQ_r]
    exact h3.mono fun y s3 ⟨E3, p⟩ => ⟨E1.trans E3, p⟩
  | [], h => exact h.elim
  | _ :: _ :: _, h => exact h.2.elim
theorem lapsM_succ (b : Bool) (i : Nat) : lapsM b (i + 1) = lapsM b i ++ [.send, .passF, .answer] ++ ifL (decide (0 < i) || !b) .passB := rfl
theorem lapsM_len (b : Bool) : ∀ i, (lapsM b i).length ≤ 1 + 4 * i
  | 0 => Nat.le_refl _
  | i + 1 => by
    have := lapsM_len b i
    have := ifL_len (decide (0 < i) || !b) .passB
    rw [lapsM_succ, List.length_append, List.length_append]
    simp only [List.length_cons, List.length_nil]
    omega
theorem laps_lr (m : Nat) (b : Bool) (hm : m ≤ 10) (s : Store) : Wp (F__law_laps [nv m, .bool b] s) fun x s' => LR s s' x ((lapsM b m).map Dd.val) := by
    rw [F__law_laps, wp_fn2]
    unfold B__law_laps
    simp only [Nat.reduceSub, List.replicate]
    refine seq_step ?_
    simp only [sAsg_r, eLst_r, eTup_r, aCons_r, aNil_r, eC_r, bind_ok, mat_v, mat_l, List.length_nil, List.length_cons, Nat.zero_le, Nat.reduceAdd, LIM_eq, Nat.reduceLeDiff, if_true, gV_r, wp_ok, List.set_cons_succ, List.set_cons_zero]
    have N : Nx s (s ++ [.lst [.tup [.str 32, .int 0]]]) s.length ((lapsM b 0).map Dd.val) := Nx.new (Ex.refl s) _
    generalize s ++ [Ob.lst [.tup [.str 32, .int 0]]] = s1 at N
    generalize s.length = p at N
    refine seq_step (wp_for (its := fun _ => some (rngV 0 (m : Int))) (xs := rngV 0 (m : Int)) (s1 := s1) (by
        rw [ixR_r]
        simp only [eV_r, List.getElem?_cons_succ, List.getElem?_cons_zero, bind_ok, inR_n (show m ≤ 1000 by omega), if_true])
      (fun i ρ s' => ∃ p v3, ρ = [some (nv m), some (.bool b), some (.ref p), v3] ∧ Nx s s' p ((lapsM b i).map Dd.val)) (fun _ _ _ _ => rfl) ⟨p, none, rfl, N⟩ (fun i x ρ s' hx ⟨p, v3, e, N⟩ => ?_) fun ρ s' ⟨p, v3, e, N⟩ => ?_)
    · subst e
      have hi : i < m := by have := (List.getElem?_eq_some_iff.mp hx).1; rwa [rngV_len] at this
      rw [rngV_get _ _ hi] at hx
      cases hx
      have ll := lapsM_len b i
      simp only [gV_r, wp_ok, List.set_cons_succ, List.set_cons_zero]
      refine seq_step ?_
      simp only [sAsg_r, eBin_r, eLst_r, eTup_r, aCons_r, aNil_r, eC_r, eV_r, bind_ok, mat_v, mat_l, List.length_nil, List.length_cons, Nat.zero_le, Nat.reduceAdd, LIM_eq, Nat.reduceLeDiff, if_true, List.getElem?_cons_succ, List.getElem?_cons_zero]
      rw [oAdd_q _ N.2.2 (lstOf_l _) (by rw [List.length_map]; simp only [List.length_cons, List.length_nil]; omega)]
      simp only [bind_ok, mat_l, gV_r, wp_ok, List.set_cons_succ, List.set_cons_zero]
      have N2 : Nx s (s' ++ [.lst ((lapsM b i).map Dd.val ++ [.tup [.str 76], .tup [.str 67, .str 28], .tup [.str 10]])]) s'.length ((lapsM b i).map Dd.val ++ [.tup [.str 76], .tup [.str 67, .str 28], .tup [.str 10]]) := Nx.new N.1 _
      generalize s' ++ [Ob.lst ((lapsM b i).map Dd.val ++ [.tup [.str 76], .tup [.str 67, .str 28], .tup [.str 10]])] = s2 at N2
      generalize s'.length = p2 at N2
      refine ifapp_step (y := Dd.passB.val) N2 rfl (b := decide (0 < i) || !b) ?_ (by simp [Dd.val]) (by rw [List.length_append, List.length_map]; simp only [List.length_cons, List.length_nil]; omega) fun s4 N4 _ => ?_
      · have e0 : decide ((0 : Int) < (i : Int)) = decide (0 < i) := decide_eq_decide.mpr (by omega)
        simp only [tOr_r, tNot_r, tB_r, eBin_r, eC_r, eV_r, bind_ok, List.getElem?_cons_succ, List.getElem?_cons_zero, cGt_i, e0]
        cases decide (0 < i) <;> rfl
      · refine ⟨p2, _, rfl, ?_⟩
        rw [ifL_v] at N4
        rw [lapsM_succ, List.map_append, List.map_append]
        exact N4
    · subst e
      rw [rngV_len] at N
      simp only [sRet_r, eV_r, bind_ok, List.getElem?_cons_succ, List.getElem?_cons_zero, wp_ok, FinQ_r]
      exact LR.of N
theorem laps_sp (m : Nat) (b : Bool) (hm : m ≤ 10) : CallSp F__law_laps [EQ (nv m), EQ (.bool b)] (BG ((lapsM b m).map Dd.val)) := fun s xs hx => by
  match xs, hx with
  | [x, c], hx =>
    obtain ⟨rfl, rfl, _⟩ := hx
    exact (laps_lr m b hm s).mono fun t s1 L => L.mat.mono fun y s2 ⟨q, e, N, _⟩ => ⟨N.1, q, e, N.2.2⟩
  | [], h => exact h.elim
  | [_], h => exact h.2.elim
  | _ :: _ :: _ :: _, h => exact h.2.2.elim
end L_k36
end
section
set_option Elab.async false
set_option linter.all false
set_option maxRecDepth 100000
set_option maxHeartbeats 4000000
set_option autoImplicit true
namespace L_k36
open VI
theorem holds_snoc {P : Pd} {x : Val} {s : Store} (p : P x s) : ∀ {Ps : List Pd} {xs : List Val}, HoldsL Ps xs s → HoldsL (Ps ++ [P]) (xs ++ [x]) s
  | [], [], _ => ⟨p, True.intro⟩
  | _ :: _, _ :: _, h => ⟨h.1, holds_snoc p h.2⟩
  | [], _ :: _, h => h.elim
  | _ :: _, [], h => h.elim
theorem holds_app : ∀ {Ps Qs : List Pd} {xs ys : List Val} {s : Store}, HoldsL Ps xs s → HoldsL Qs ys s → HoldsL (Ps ++ Qs) (xs ++ ys) s
  | [], _, [], _, _, _, h => h
  | _ :: _, _, _ :: _, _, _, h, h' => ⟨h.1, holds_app h.2 h'⟩
  | [], _, _ :: _, _, _, h, _ => h.elim
  | _ :: _, _, [], _, _, h, _ => h.elim
theorem holds_len : ∀ {Ps : List Pd} {xs : List Val} {s : Store}, HoldsL Ps xs s → xs.length = Ps.length
  | [], [], _, _ => rfl
  | _ :: _, _ :: _, _, h => congrArg (· + 1) (holds_len h.2)
  | [], _ :: _, _, h => h.elim
  | _ :: _, [], _, h => h.elim
theorem holds_at : ∀ {Ps : List Pd} {xs : List Val} {s : Store} {i : Nat} {P : Pd}, HoldsL Ps xs s → Ps[i]? = some P → ∃ x, xs[i]? = some x ∧ P x s
  | [], _, _, _, _, _, h => by simp at h
  | _ :: _, [], _, _, _, h, _ => h.elim
  | _ :: _, x :: _, _, 0, _, h, e => by simp at e; subst e; exact ⟨x, rfl, h.1⟩
  | _ :: _, _ :: _, _, i + 1, _, h, e => by
    obtain ⟨x, h1, h2⟩ := holds_at (i := i) h.2 (by simpa using e)
    exact ⟨x, by simpa using h1, h2⟩
theorem stb_rows (rs : List RowD) : StbL (rs.map RW) := fun P hP => by
  obtain ⟨r, _, rfl⟩ := List.mem_map.mp hP
  exact stb_rw r
/-- the list of rows is none of the lists of a row -/
theorem RowAt.setq {r : RowD} {k b : Nat} {d : Val} {s : Store} {q k0 : Nat} {y z : Val} {X : List Val} {o : Ob} (h : RowAt r k b d s) (hq : s[q]? = some (.lst (.tup [.ref k0, y, z] :: X))) : RowAt r k b d (s.set q o) := by
  refine ⟨h.pair.setL hq, ?_, ?_⟩
  · rw [List.getElem?_set_ne (fun e => ?_)]
    · exact h.beg
    · subst e
      have := h.beg
      rw [hq] at this
      cases hd : r.ds with
      | nil => rw [hd] at this; cases this
      | cons d0 ds => rw [hd] at this; cases d0 <;> cases this
  · have hu := h.due
    cases hd : r.due with
    | none => rw [hd] at hu; exact hu
    | some w =>
      rw [hd] at hu
      obtain ⟨p, e, hp⟩ := hu
      refine ⟨p, e, ?_⟩
      rw [List.getElem?_set_ne (fun e => ?_)]
      · exact hp
      · subst e
        rw [hq] at hp
        cases w with
        | nil => cases hp
        | cons a w => cases hp
def RQ (s0 : Store) (q : Nat) (rs : List RowD) (s : Store) : Prop := ∃ xs, Nx s0 s q xs ∧ HoldsL (rs.map RW) xs s
theorem holds_setq {q k0 : Nat} {y z : Val} {X : List Val} {o : Ob} {s : Store} (hq : s[q]? = some (.lst (.tup [.ref k0, y, z] :: X))) : ∀ {rs : List RowD} {xs : List Val}, HoldsL (rs.map RW) xs s → HoldsL (rs.map RW) xs (s.set q o)
  | [], [], _ => True.intro
  | _ :: _, _ :: _, ⟨⟨k, b, d, e, h⟩, h'⟩ => ⟨⟨k, b, d, e, h.setq hq⟩, holds_setq hq h'⟩
  | [], _ :: _, h => h.elim
  | _ :: _, [], h => h.elim
theorem append_row {s0 s1 : Store} {ρ : Env} {e : Ev} {i q : Nat} {r0 : RowD} {rs : List RowD} (r : RowD) {Q : Fl × Env → Store → Prop} (h : RQ s0 q (r0 :: rs) s1) (hl : rs.length ≤ 100) (hi : ρ[i]? = some (some (.ref q))) (he : Sp s0 ρ e (RW r)) (k : ∀ s2, RQ s0 q (r0 :: rs ++ [r]) s2 → Q (.next, ρ) s2) : Wp (sExp (eAppend (eV i) e) ρ s1) Q := by
  obtain ⟨xs, N, H⟩ := h
  have xl := holds_len H
  rw [List.length_map, List.length_cons] at xl
  unfold eAppend
  have r1 : refL (.v (.ref q)) s1 = some (q, xs) := by simp [refL, N.2.2]
  simp only [sExp_r, eV_r, hi, bind_ok, r1, Option.isSome_some, if_true, wp_bind]
  refine (he s1 N.1).mono fun t s2 h2 => h2.mono fun x s3 ⟨E3, p⟩ => ?_
  have N3 := N.ex E3
  have r3 : refL (.v (.ref q)) s3 = some (q, xs) := by simp [refL, N3.2.2]
  simp only [r3, if_pos (show xs.length < LIM by rw [LIM_eq]; omega), updL, wp_ok]
  have H3 := H.ex (stb_rows _) E3
  refine k _ ⟨xs ++ [x], N3.put _, ?_⟩
  match xs, H, H3, N3 with
  | [], H, _, _ => exact H.elim
  | x0 :: xs, H, H3, N3 =>
    obtain ⟨k0, b0, d0, e0, _⟩ := H3.1
    subst e0
    obtain ⟨kx, bx, dx, ex, hx⟩ := p
    rw [List.map_append]
    exact holds_snoc (P := RW r) ⟨kx, bx, dx, ex, hx.setq N3.2.2⟩ (holds_setq N3.2.2 H3)
  
theorem asg_rows {s0 : Store} {ρ : Env} {i : Nat} {a : Avs} {rs : List RowD} {Q : Fl × Env → Store → Prop} (hl : rs.length ≤ 100) (ha : SpA s0 ρ a (rs.map RW)) (k : ∀ q s, RQ s0 q rs s → Q (.next, ρ.set i (some (.ref q))) s) : Wp (sAsg (gV i) (eLst a) ρ s0) Q := by
  rw [sAsg_r, wp_bind, eLst_r, wp_bind]
  refine (ha s0 (Ex.refl _)).mono fun xs s1 ⟨E, H⟩ => ?_
  have xl := holds_len H
  rw [List.length_map] at xl
  rw [if_pos (by rw [LIM_eq]; omega)]
  simp only [wp_ok, mat_l, bind_ok, gV_r, wp_bind]
  exact k _ _ ⟨xs, Nx.new E xs, H.ex (stb_rows _) (Ex.app _ _)⟩
theorem add_rows {s0 s1 : Store} {ρ : Env} {i q : Nat} {a : Avs} {rs rs' : List RowD} {xs : List Val} (E01 : Ex s0 s1) (hq : s1[q]? = some (.lst xs)) (H : HoldsL (rs.map RW) xs s1) (hl : rs.length + rs'.length ≤ 100) (hi : ρ[i]? = some (some (.ref q))) (ha : SpA s0 ρ a (rs'.map RW)) : Wp (eBin oAdd (eV i) (eLst a) ρ s1) fun t s2 => ∃ xs, t = .l xs ∧ Ex s0 s2 ∧ HoldsL ((rs ++ rs').map RW) xs s2 := by
  have xl := holds_len H
  rw [List.length_map] at xl
  rw [eBin_r, eV_r, hi]
  simp only [bind_ok, wp_bind, eLst_r]
  refine (ha s1 E01).mono fun ys s2 ⟨E, H'⟩ => ?_
  have yl := holds_len H'
  rw [List.length_map] at yl
  rw [if_pos (by rw [LIM_eq]; omega)]
  simp only [wp_ok]
  rw [oAdd_q _ (E.at hq) (lstOf_l _) (by omega), wp_ok]
  refine ⟨xs ++ ys, rfl, E01.trans E, ?_⟩
  rw [List.map_append]
  exact holds_app (H.ex (stb_rows _) E) H'
theorem raws_ok : RawOk rTwo ∧ RawOk rOL ∧ RawOk rOO ∧ RawOk rKL3 ∧ RawOk rKL ∧ RawOk rKN ∧ RawOk rIQ ∧ RawOk rO3 ∧ RawOk rO4 ∧ RawOk rMQ :=
  ⟨rawB_ok (by decide), rawB_ok (by decide), rawB_ok (by decide), rawB_ok (by decide), rawB_ok (by decide), rawB_ok (by decide), rawB_ok (by decide), rawB_ok (by decide), rawB_ok (by decide), rawB_ok (by decide)⟩
abbrev RowsQ (s : Store) (t : Tv) (s' : Store) : Prop := ∃ xs, t = .l xs ∧ Ex s s' ∧ HoldsL (rowsM.map RW) xs s'
theorem law_rows_ok (s : Store) : Wp (F__law_rows [] s) (RowsQ s) := by
  obtain ⟨oTwo, oOL, oOO, oKL3, oKL, oKN, oIQ, oO3, oO4, oMQ⟩ := raws_ok
  rw [F__law_rows, wp_fn0]
  unfold B__law_rows
  simp only [List.replicate]
  have bgn : ∀ (s0 : Store) (ρ : Env), Sp s0 ρ (eLst aNil) (BG (([] : List Dd).map Dd.val)) := fun s0 ρ => sp_lit (by (intro s; first | (simp [takeV, optV, zero4]; done) | (simp [takeV, optV, zero4]; rfl)))
  have non : ∀ (s0 : Store) (ρ : Env), Sp s0 ρ (eC .non) (DU none) := fun s0 ρ => sp_con fun _ => rfl
  have due1 : ∀ (s0 : Store) (ρ : Env), Sp s0 ρ (eLst (aCons (eTup (aCons (eC (.str 72)) (aCons (eC (.int 1)) aNil))) aNil)) (DU (some [(false, 1)])) := fun s0 ρ => sp_lit (by intro s; simp [wrV])
  have due2 : ∀ (s0 : Store) (ρ : Env), Sp s0 ρ (eLst (aCons (eTup (aCons (eC (.str 72)) (aCons (eC (.int 2)) aNil))) aNil)) (DU (some [(false, 2)])) := fun s0 ρ => sp_lit (by intro s; simp [wrV])
  have laps2 : ∀ (s0 : Store) (ρ : Env), Sp s0 ρ (eCall F__law_laps (aCons (eC (.int 2)) (aCons (eC (.bool false)) aNil))) (BG ((lapsM false 2).map Dd.val)) := fun s0 ρ => sp_call (laps_sp 2 false (by omega)) (spa_cons (stb_eq _) (sp_con fun _ => rfl) (spa_cons (stb_eq _) (sp_con fun _ => rfl) spa_nil))
  have laps3 : ∀ (s0 : Store) (ρ : Env), Sp s0 ρ (eCall F__law_laps (aCons (eC (.int 3)) (aCons (eC (.bool true)) aNil))) (BG ((lapsM true 3).map Dd.val)) := fun s0 ρ => sp_call (laps_sp 3 true (by omega)) (spa_cons (stb_eq _) (sp_con fun _ => rfl) (spa_cons (stb_eq _) (sp_con fun _ => rfl) spa_nil))
  -- same, own
  refine seq_step (par_sp (P1 := TH (sameT.map takeV)) (P2 := TH ([0, 1, 1, 0].map nv)) (spa_cons (stb_th _) (sp_litT (by (intro s; first | (simp [takeV, optV, zero4]; done) | (simp [takeV, optV, zero4]; rfl)))) (spa_cons (stb_th _) (sp_litT (by (intro s; first | (simp [takeV, optV, zero4]; done) | (simp [takeV, optV, zero4]; rfl)))) spa_nil)) fun v0 v1 s1 E1 h0 h1 => ?_)
  simp only [List.set_cons_succ, List.set_cons_zero]
  -- one, kept
  refine seq_step (par_sp (P1 := SN rOL) (P2 := SN rKL)
    (spa_cons (stb_sn _) (sp_call (law_sender_sp oOL rfl rfl rfl) (spa_cons (stb_eq _) (sp_con fun _ => rfl) (spa_cons (stb_th _) (sp_var rfl (stb_th _) h0) (spa_cons (stb_th _) (sp_litT (by (intro s; first | (simp [takeV, optV, zero4]; done) | (simp [takeV, optV, zero4]; rfl)))) spa_nil))))
    (spa_cons (stb_sn _) (sp_call (law_sender_sp oKL rfl rfl rfl) (spa_cons (stb_eq _) (sp_con fun _ => rfl) (spa_cons (stb_th _) (sp_var rfl (stb_th _) h0) (spa_cons (stb_th _) (sp_var rfl (stb_th _) h1) spa_nil)))) spa_nil)) fun v2 v3 s2 E2 h2 h3 => ?_)
  simp only [List.set_cons_succ, List.set_cons_zero]
  replace h0 := h0.ex E2
  -- ears, gifts
  refine seq_step (par_sp (P1 := TH (otherR.hears.map fun r => rowV r)) (P2 := TH (otherR.gives.map fun r => lettersV r)) (spa_cons (stb_th _) (sp_litT (by (intro s; first | (simp [takeV, optV, zero4]; done) | (simp [takeV, optV, zero4]; rfl)))) (spa_cons (stb_th _) (sp_litT (by (intro s; first | (simp [takeV, optV, zero4]; done) | (simp [takeV, optV, zero4]; rfl)))) spa_nil)) fun v4 v5 s3 E3 h4 h5 => ?_)
  simp only [List.set_cons_succ, List.set_cons_zero]
  replace h0 := h0.ex E3
  replace h2 := stb_sn _ _ _ _ h2 E3
  replace h3 := stb_sn _ _ _ _ h3 E3
  -- other
  refine seq_step (asg_sp (P := RC rOO) (sp_call (law_receiver_sp oOO rfl rfl) (spa_cons (stb_eq _) (sp_con fun _ => rfl) (spa_cons (stb_th _) (sp_litT (by (intro s; first | (simp [takeV, optV, zero4]; done) | (simp [takeV, optV, zero4]; rfl)))) (spa_cons (stb_th _) (sp_litT (by (intro s; first | (simp [takeV, optV, zero4]; done) | (simp [takeV, optV, zero4]; rfl)))) (spa_cons (stb_th _) (sp_var rfl (stb_th _) h4) (spa_cons (stb_th _) (sp_var rfl (stb_th _) h5) (spa_cons (stb_th _) (sp_litT (by (intro s; first | (simp [takeV, optV, zero4]; done) | (simp [takeV, optV, zero4]; rfl)))) spa_nil))))))) fun v6 s4 E4 h6 => ?_)
  simp only [List.set_cons_succ, List.set_cons_zero]
  replace h0 := h0.ex E4
  replace h2 := stb_sn _ _ _ _ h2 E4
  replace h3 := stb_sn _ _ _ _ h3 E4
  -- later
  refine seq_step (asg_sp (P := RC rOL) (sp_call (later_sp oOL (se := seA) (cr := crA) rfl rfl rfl rfl) (spa_cons (stb_th _) (sp_litT (by (intro s; first | (simp [takeV, optV, zero4]; done) | (simp [takeV, optV, zero4]; rfl)))) (spa_cons (stb_th _) (sp_litT (by (intro s; first | (simp [takeV, optV, zero4]; done) | (simp [takeV, optV, zero4]; rfl)))) spa_nil))) fun v7 s5 E5 h7 => ?_)
  simp only [List.set_cons_succ, List.set_cons_zero]
  replace h0 := h0.ex E5
  replace h2 := stb_sn _ _ _ _ h2 E5
  replace h3 := stb_sn _ _ _ _ h3 E5
  replace h6 := stb_rc _ _ _ _ h6 E5
  -- ears, gifts
  refine seq_step (par_sp (P1 := TH (turnedR.hears.map fun r => rowV r)) (P2 := TH (turnedR.gives.map fun r => lettersV r)) (spa_cons (stb_th _) (sp_litT (by (intro s; first | (simp [takeV, optV, zero4]; done) | (simp [takeV, optV, zero4]; rfl)))) (spa_cons (stb_th _) (sp_litT (by (intro s; first | (simp [takeV, optV, zero4]; done) | (simp [takeV, optV, zero4]; rfl)))) spa_nil)) fun v4 v5 s6 E6 h4 h5 => ?_)
  simp only [List.set_cons_succ, List.set_cons_zero]
  replace h0 := h0.ex E6
  replace h2 := stb_sn _ _ _ _ h2 E6
  replace h3 := stb_sn _ _ _ _ h3 E6
  replace h6 := stb_rc _ _ _ _ h6 E6
  replace h7 := stb_rc _ _ _ _ h7 E6
  -- turned
  refine seq_step (asg_sp (P := RC rTwo) (sp_call (law_receiver_sp oTwo rfl rfl) (spa_cons (stb_eq _) (sp_con fun _ => rfl) (spa_cons (stb_th _) (sp_litT (by (intro s; first | (simp [takeV, optV, zero4]; done) | (simp [takeV, optV, zero4]; rfl)))) (spa_cons (stb_th _) (sp_litT (by (intro s; first | (simp [takeV, optV, zero4]; done) | (simp [takeV, optV, zero4]; rfl)))) (spa_cons (stb_th _) (sp_var rfl (stb_th _) h4) (spa_cons (stb_th _) (sp_var rfl (stb_th _) h5) (spa_cons (stb_th _) (sp_litT (by (intro s; first | (simp [takeV, optV, zero4]; done) | (simp [takeV, optV, zero4]; rfl)))) spa_nil))))))) fun v8 s7 E7 h8 => ?_)
  simp only [List.set_cons_succ, List.set_cons_zero]
  replace h0 := h0.ex E7
  replace h2 := stb_sn _ _ _ _ h2 E7
  replace h3 := stb_sn _ _ _ _ h3 E7
  replace h6 := stb_rc _ _ _ _ h6 E7
  replace h7 := stb_rc _ _ _ _ h7 E7
  -- two
  refine seq_step (asg_sp (P := PR rTwo) (sp_pair (spa_cons (stb_sn _) (sp_call (law_sender_sp oTwo rfl rfl rfl) (spa_cons (stb_eq _) (sp_con fun _ => rfl) (spa_cons (stb_th _) (sp_litT (by (intro s; first | (simp [takeV, optV, zero4]; done) | (simp [takeV, optV, zero4]; rfl)))) (spa_cons (stb_th _) (sp_litT (by (intro s; first | (simp [takeV, optV, zero4]; done) | (simp [takeV, optV, zero4]; rfl)))) spa_nil)))) (spa_cons (stb_rc _) (sp_var rfl (stb_rc _) h8) spa_nil))) fun v9 s8 E8 h9 => ?_)
  simp only [List.set_cons_succ, List.set_cons_zero]
  replace h0 := h0.ex E8
  replace h2 := stb_sn _ _ _ _ h2 E8
  replace h3 := stb_sn _ _ _ _ h3 E8
  replace h6 := stb_rc _ _ _ _ h6 E8
  replace h7 := stb_rc _ _ _ _ h7 E8
  have E08 := E1.trans (E2.trans (E3.trans (E4.trans (E5.trans (E6.trans (E7.trans E8))))))
  clear E1 E2 E3 E4 E5 E6 E7 E8 h1 h4 h5 h8
  have row3 : ∀ (s0 : Store) (ρ : Env) (r : RowD) (e1 e2 e3 : Ev), Sp s0 ρ e1 (PR r.R) → Sp s0 ρ e2 (BG (r.ds.map Dd.val)) → Sp s0 ρ e3 (DU r.due) → Sp s0 ρ (eTup (aCons e1 (aCons e2 (aCons e3 aNil)))) (RW r) := fun s0 ρ r e1 e2 e3 a b c => sp_row r (spa_cons (stb_pr _) a (spa_cons (stb_bg _) b (spa_cons (stb_du _) c spa_nil)))
  -- found
  refine seq_step (asg_rows (rs := [⟨rTwo, [], none⟩, ⟨rTwo, lapsM false 2, some [(false, 1)]⟩]) (by decide) (spa_cons (stb_rw _) (row3 _ _ ⟨rTwo, [], none⟩ _ _ _ (sp_var rfl (stb_pr _) h9) (bgn _ _) (non _ _)) (spa_cons (stb_rw _) (row3 _ _ ⟨rTwo, lapsM false 2, some [(false, 1)]⟩ _ _ _ (sp_var rfl (stb_pr _) h9) (laps2 _ _) (due1 _ _)) spa_nil)) fun q0 s9 R9 => ?_)
  simp only [List.set_cons_succ, List.set_cons_zero]
  refine seq_step ?_
  rw [sAsg_r, wp_bind]
  obtain ⟨xs9, N9, H9⟩ := R9
  refine (add_rows (rs' := [⟨rOL, [], some [(false, 1)]⟩, ⟨rOO, [], none⟩]) N9.1 N9.2.2 H9 (by decide) rfl (spa_cons (stb_rw _) (row3 _ _ ⟨rOL, [], some [(false, 1)]⟩ _ _ _ (sp_pair (spa_cons (stb_sn _) (sp_var rfl (stb_sn _) h2) (spa_cons (stb_rc _) (sp_var rfl (stb_rc _) h7) spa_nil))) (bgn _ _) (due1 _ _)) (spa_cons (stb_rw _) (row3 _ _ ⟨rOO, [], none⟩ _ _ _ (sp_pair (spa_cons (stb_sn _) (sp_var rfl (stb_sn _) h2) (spa_cons (stb_rc _) (sp_var rfl (stb_rc _) h6) spa_nil))) (bgn _ _) (non _ _)) spa_nil))).mono fun t s10 ⟨xs, e, E10, H10⟩ => ?_
  subst e
  simp only [mat_l, bind_ok, gV_r, wp_ok, List.set_cons_succ, List.set_cons_zero]
  have R11 : RQ s8 s10.length [⟨rTwo, [], none⟩, ⟨rTwo, lapsM false 2, some [(false, 1)]⟩, ⟨rOL, [], some [(false, 1)]⟩, ⟨rOO, [], none⟩] (s10 ++ [.lst xs]) := ⟨xs, Nx.new E10 xs, HoldsL.ex (stb_rows _) H10 (Ex.app _ _)⟩
  generalize s10 ++ [Ob.lst xs] = s11 at R11
  generalize s10.length = q1 at R11
  -- six appends
  refine seq_step (append_row ⟨rKL3, lapsM false 2, some [(false, 1)]⟩ R11 (by decide) rfl (row3 _ _ ⟨rKL3, lapsM false 2, some [(false, 1)]⟩ _ _ _ (sp_pair (spa_cons (stb_sn _) (sp_var rfl (stb_sn rKL3) h3) (spa_cons (stb_rc _) (sp_call (later_sp oKL3 (se := seA) (cr := [0, 3, 0, 0]) rfl rfl rfl rfl) (spa_cons (stb_th _) (sp_litT (by (intro s; first | (simp [takeV, optV, zero4]; done) | (simp [takeV, optV, zero4]; rfl)))) (spa_cons (stb_th _) (sp_litT (by (intro s; first | (simp [takeV, optV, zero4]; done) | (simp [takeV, optV, zero4]; rfl)))) spa_nil))) spa_nil))) (laps2 _ _) (due1 _ _)) fun s12 R12 => ?_)
  refine seq_step (append_row ⟨rKL, lapsM false 2, none⟩ R12 (by decide) rfl (row3 _ _ ⟨rKL, lapsM false 2, none⟩ _ _ _ (sp_pair (spa_cons (stb_sn _) (sp_var rfl (stb_sn rKL) h3) (spa_cons (stb_rc _) (sp_var rfl (stb_rc rKL) h7) spa_nil))) (laps2 _ _) (non _ _)) fun s13 R13 => ?_)
  refine seq_step (append_row ⟨rKN, lapsM true 3, none⟩ R13 (by decide) rfl (row3 _ _ ⟨rKN, lapsM true 3, none⟩ _ _ _ (sp_pair (spa_cons (stb_sn _) (sp_var rfl (stb_sn rKN) h3) (spa_cons (stb_rc _) (sp_call (later_sp oKN (se := [some 0, none, some 1, some 2]) (cr := crA) rfl rfl rfl rfl) (spa_cons (stb_th _) (sp_litT (by (intro s; first | (simp [takeV, optV, zero4]; done) | (simp [takeV, optV, zero4]; rfl)))) (spa_cons (stb_th _) (sp_litT (by (intro s; first | (simp [takeV, optV, zero4]; done) | (simp [takeV, optV, zero4]; rfl)))) spa_nil))) spa_nil))) (laps3 _ _) (non _ _)) fun s14 R14 => ?_)
  refine seq_step (append_row ⟨rIQ, [], some [(false, 2)]⟩ R14 (by decide) rfl (row3 _ _ ⟨rIQ, [], some [(false, 2)]⟩ _ _ _ (sp_pair (spa_cons (stb_sn _) (sp_call (law_sender_sp oIQ rfl rfl rfl) (spa_cons (stb_eq _) (sp_con fun _ => rfl) (spa_cons (stb_th _) (sp_var rfl (stb_th _) h0) (spa_cons (stb_th _) (sp_litT (by (intro s; first | (simp [takeV, optV, zero4]; done) | (simp [takeV, optV, zero4]; rfl)))) spa_nil)))) (spa_cons (stb_rc _) (sp_call (quick_sp oIQ (cr := [0, 1]) rfl rfl rfl) (spa_cons (stb_eq _) (sp_con fun _ => rfl) (spa_cons (stb_th _) (sp_litT (by (intro s; first | (simp [takeV, optV, zero4]; done) | (simp [takeV, optV, zero4]; rfl)))) spa_nil))) spa_nil))) (bgn _ _) (due2 _ _)) fun s15 R15 => ?_)
  refine seq_step (append_row ⟨rO3, [], some [(false, 2)]⟩ R15 (by decide) rfl (row3 _ _ ⟨rO3, [], some [(false, 2)]⟩ _ _ _ (sp_pair (spa_cons (stb_sn _) (sp_var rfl (stb_sn rO3) h2) (spa_cons (stb_rc _) (sp_call (third_sp oO3 (cr := [0, 1, 0]) rfl rfl rfl rfl) (spa_cons (stb_th _) (sp_litT (by (intro s; first | (simp [takeV, optV, zero4]; done) | (simp [takeV, optV, zero4]; rfl)))) spa_nil)) spa_nil))) (bgn _ _) (due2 _ _)) fun s16 R16 => ?_)
  refine seq_step (append_row ⟨rO4, [], none⟩ R16 (by decide) rfl (row3 _ _ ⟨rO4, [], none⟩ _ _ _ (sp_pair (spa_cons (stb_sn _) (sp_var rfl (stb_sn rO4) h2) (spa_cons (stb_rc _) (sp_call (third_sp oO4 (cr := [0, 0, 2]) rfl rfl rfl rfl) (spa_cons (stb_th _) (sp_litT (by (intro s; first | (simp [takeV, optV, zero4]; done) | (simp [takeV, optV, zero4]; rfl)))) spa_nil)) spa_nil))) (bgn _ _) (non _ _)) fun s17 R17 => ?_)
  -- more
  obtain ⟨xs17, N17, H17⟩ := R17
  refine seq_step (asg_sp (P := SN rMQ) (sp_call (law_sender_sp oMQ rfl rfl rfl) (spa_cons (stb_eq _) (sp_con fun _ => rfl) (spa_cons (stb_th _) (sp_litT (by (intro s; first | (simp [takeV, optV, zero4]; done) | (simp [takeV, optV, zero4]; rfl)))) (spa_cons (stb_th _) (sp_litT (by (intro s; first | (simp [takeV, optV, zero4]; done) | (simp [takeV, optV, zero4]; rfl)))) spa_nil)))) fun v11 s18 E18 h11 => ?_)
  simp only [List.set_cons_succ, List.set_cons_zero]
  rw [sRet_r, wp_bind]
  · refine (add_rows (rs' := [⟨rMQ, [], some [(false, 2)]⟩]) (Ex.refl s18) (E18.at N17.2.2) (H17.ex (stb_rows _) E18) (by decide) rfl (spa_cons (stb_rw _) (row3 _ _ ⟨rMQ, [], some [(false, 2)]⟩ _ _ _ (sp_pair (spa_cons (stb_sn _) (sp_var rfl (stb_sn rMQ) h11) (spa_cons (stb_rc _) (sp_call (quick_sp oMQ (cr := [0, 1]) rfl rfl rfl) (spa_cons (stb_eq _) (sp_con fun _ => rfl) (spa_cons (stb_th _) (sp_litT (by (intro s; first | (simp [takeV, optV, zero4]; done) | (simp [takeV, optV, zero4]; rfl)))) spa_nil))) spa_nil))) (bgn _ _) (due2 _ _)) spa_nil)).mono fun t s19 ⟨ys, e, E19, H19⟩ => ?_
    subst e
    rw [wp_ok, FinQ_r]
    exact ⟨ys, rfl, E08.trans (N17.1.trans (E18.trans E19)), H19⟩
end L_k36
end
section
set_option Elab.async false
set_option linter.all false
set_option maxRecDepth 100000
set_option maxHeartbeats 4000000
set_option autoImplicit true
namespace L_k36
open VI
theorem RowAt.fr {r : RowD} {k b p n : Nat} {d : Val} {s s' : Store} (h : RowAt r k b d s) (hp : Pu p n s) (hf : Fr p s s') : RowAt r k b d s' := by
  refine ⟨h.pair.fr hp hf, ?_, ?_⟩
  · obtain ⟨x, y, z, hp, _⟩ := hp
    rw [hf.2 b (lk_lt h.beg) (fun e => ?_)]
    · exact h.beg
    · subst e
      have := h.beg
      rw [hp] at this
      cases hd : r.ds with
      | nil => rw [hd] at this; cases this
      | cons d0 ds => rw [hd] at this; cases d0 <;> cases this
  · obtain ⟨x, y, z, hp, _⟩ := hp
    have hu := h.due
    cases hd : r.due with
    | none => rw [hd] at hu; exact hu
    | some w =>
      rw [hd] at hu
      obtain ⟨q, e, hq⟩ := hu
      refine ⟨q, e, ?_⟩
      rw [hf.2 q (lk_lt hq) (fun e => ?_)]
      · exact hq
      · subst e
        rw [hp] at hq
        cases w with
        | nil => cases hq
        | cons a w => cases hq
theorem holds_fr {p n : Nat} {s s' : Store} (hp : Pu p n s) (hf : Fr p s s') : ∀ {rs : List RowD} {xs : List Val}, HoldsL (rs.map RW) xs s → HoldsL (rs.map RW) xs s'
  | [], [], _ => True.intro
  | _ :: _, _ :: _, ⟨⟨k, b, d, e, h⟩, h'⟩ => ⟨⟨k, b, d, e, h.fr hp hf⟩, holds_fr hp hf h'⟩
  | [], _ :: _, h => h.elim
  | _ :: _, [], h => h.elim
/-- a row of the list -/
theorem row_at {xs : List Val} {s : Store} (H : HoldsL (rowsM.map RW) xs s) {i : Nat} (hi : i < 11) : ∃ r k b d, xs[i]? = some (.tup [.ref k, .ref b, d]) ∧ RowAt r k b d s ∧ rightB r = true := by
  have hl : i < rowsM.length := hi
  obtain ⟨x, hx, k, b, d, e, h⟩ := holds_at (i := i) (P := RW rowsM[i]) H (by rw [List.getElem?_map, List.getElem?_eq_getElem hl]; rfl)
  exact ⟨rowsM[i], k, b, d, by rw [hx, e], h, List.all_eq_true.mp rows_right _ (List.getElem_mem hl)⟩
@[simp] theorem sPar3_r (i j k : Nat) (a : Avs) (ρ : Env) (s : Store) : sPar3 i j k a ρ s = (a ρ s).bind fun xs s => match xs with
  | [x, y, z] => .ok (.next, ((ρ.set i (some x)).set j (some y)).set k (some z)) s
  | _ => .bad := (rfl)
theorem two_tags : (breakM rTwo []).map Told.tag = some 75 ∧ (breakM rTwo (lapsM false 2)).map Told.tag = some 101 := by decide +kernel
theorem two_ok : rawB rTwo = true ∧ goodB rTwo t0 (lapsM false 2) = true ∧ settledM rTwo [] = true ∧ settledM rTwo (lapsM false 2) = true := by decide +kernel
def begM (i : Nat) : List Dd := if i % 2 = 0 then [] else lapsM false 2
def tagM (i : Nat) : Nat := if i % 2 = 0 then 75 else 101
theorem br_two {k : Nat} {s : Store} (hp : PairAt rTwo k s) {q i : Nat} (hq : s[q]? = some (.lst ((begM i).map Dd.val))) : Wp (F_breaking [.ref k, .ref q] s) fun x s' => ∃ q2, x = .v (.tup [.str (tagM i), .ref q2]) ∧ Ex s s' := by
  obtain ⟨t1, t2⟩ := two_tags
  obtain ⟨o1, o2, o3, o4⟩ := two_ok
  unfold begM at hq
  unfold tagM
  by_cases h : i % 2 = 0
  · rw [if_pos h] at hq ⊢
    obtain ⟨T, hT, e⟩ := Option.map_eq_some_iff.mp t1
    refine (breaking_ok (rawB_ok o1) hp (ds := []) True.intro (by decide) (.inr ⟨_, rfl, hq⟩) o3 hT).mono fun x s' ⟨q2, e2, N⟩ => ⟨q2, by rw [e2, e], N.1⟩
  · rw [if_neg h] at hq ⊢
    obtain ⟨T, hT, e⟩ := Option.map_eq_some_iff.mp t2
    refine (breaking_ok (rawB_ok o1) hp (goodB_ok o2) (by decide) (.inr ⟨_, rfl, hq⟩) o4 hT).mono fun x s' ⟨q2, e2, N⟩ => ⟨q2, by rw [e2, e], N.1⟩
theorem strs_D (s : Store) (n : Nat) (ws : List Nat) : mapO (toD s n) (ws.map Val.str) = some (ws.map Dt.str) := by
  induction ws with
  | nil => rfl
  | cons w ws ih =>
    rw [List.map_cons]
    unfold mapO
    rw [toD_str, ih]
    rfl
theorem grown_ok (s : Store) : Wp (F__law_grown_right [] s) fun x s' => x = .v (.bool true) ∧ Ex s s' := by
  rw [F__law_grown_right, wp_fn0]
  unfold B__law_grown_right
  simp only [List.replicate]
  refine seq_step ?_
  simp only [sPar3_r, aCons_r, eBin_r, eCall_r, aNil_r, bind_ok, wp_bind]
  refine (law_rows_ok s).mono fun t s1 ⟨xs, e, E1, H⟩ => ?_
  subst e
  obtain ⟨x, hx, k, b, d, e, h⟩ := holds_at (i := 0) (P := RW ⟨rTwo, [], none⟩) H rfl
  subst e
  have a0 : atI xs 0 = some (.tup [.ref k, .ref b, d]) := atI_of (i := 0) hx
  simp only [eC_r, bind_ok, oIdx_r, seqOf_l, a0, seqOf_t, atI_0, mat_v, eLst_r, aNil_r, mat_l, List.length_nil, Nat.zero_le, LIM_eq, if_true, wp_ok, List.set_cons_succ, List.set_cons_zero]
  have E2 : Ex s1 (s1 ++ [.lst []] ++ [.lst []]) := (Ex.app _ _).trans (Ex.app _ _)
  have P2 := h.pair.ex' E2
  have Q1 : (s1 ++ [Ob.lst []] ++ [Ob.lst []])[s1.length]? = some (.lst ((begM 0).map Dd.val)) := by simp [begM]
  have Q2 : (s1 ++ [Ob.lst []] ++ [Ob.lst []])[(s1 ++ [Ob.lst []]).length]? = some (.lst ((([] : List Nat)).map Val.str)) := by rw [List.getElem?_append_right (Nat.le_refl _), Nat.sub_self]; rfl
  have ne : s1.length ≠ (s1 ++ [Ob.lst []]).length := by rw [List.length_append, List.length_singleton]; omega
  have g1 : s.length ≤ s1.length := E1.len
  have g2 : s.length ≤ (s1 ++ [Ob.lst []]).length := by rw [List.length_append, List.length_singleton]; omega
  have E02 := E1.trans E2
  generalize s1 ++ [Ob.lst []] ++ [Ob.lst []] = s2 at E2 P2 Q1 Q2 E02
  generalize (s1 ++ [Ob.lst []]).length = q2 at Q2 ne g2
  generalize s1.length = q1 at Q1 ne g1
  refine seq_step (wp_for (its := fun _ => some (rngV 0 (4 : Nat))) (xs := rngV 0 (4 : Nat)) (s1 := s2) (by
      simp only [ixR_r, eC_r, bind_ok, show inR 4 = true from rfl, if_true]; rfl)
    (fun i ρ s' => ∃ v3, ρ = [some (.ref k), some (.ref q1), some (.ref q2), v3] ∧ i ≤ 4 ∧ Ex s s' ∧ PairAt rTwo k s' ∧ s'[q1]? = some (.lst ((begM i).map Dd.val)) ∧ s'[q2]? = some (.lst (((List.range i).map tagM).map Val.str))) (fun _ _ _ _ => rfl) ⟨none, rfl, by omega, E02, P2, Q1, Q2⟩ (fun i x ρ s' hx ⟨v3, e, hi, E, P, Q1, Q2⟩ => ?_) fun ρ s' ⟨v3, e, hi, E, P, Q1, Q2⟩ => ?_)
  · subst e
    have hi4 : i < 4 := (List.getElem?_eq_some_iff.mp hx).1
    rw [rngV_get _ _ hi4] at hx
    cases hx
    simp only [gV_r, wp_ok, List.set_cons_succ, List.set_cons_zero]
    refine seq_step ?_
    rw [sExp_r, wp_bind]
    refine append_gen (q := q2) rfl Q2 (by rw [List.length_map, List.length_map, List.length_range]; omega) ?_
    simp only [eBin_r, eCall_r, aCons_r, aNil_r, eV_r, bind_ok, mat_v, List.getElem?_cons_succ, List.getElem?_cons_zero, wp_bind]
    refine (br_two P Q1).mono fun x s3 ⟨qq, e, E3⟩ => ?_
    subst e
    simp only [eC_r, bind_ok, oIdx_r, seqOf_t, atI_0, wp_ok]
    refine ⟨_, rfl, E3.at Q2, ?_⟩
    have Q23 : (s3.set q2 (.lst (((List.range i).map tagM).map Val.str ++ [.str (tagM i)])))[q2]? = some (.lst (((List.range (i + 1)).map tagM).map Val.str)) := by
      rw [List.getElem?_set_self (lk_lt (E3.at Q2)), List.range_succ, List.map_append, List.map_append]; rfl
    have Q13 : (s3.set q2 (.lst (((List.range i).map tagM).map Val.str ++ [.str (tagM i)])))[q1]? = some (.lst ((begM i).map Dd.val)) := by
      rw [List.getElem?_set_ne (Ne.symm ne)]; exact E3.at Q1
    have P3 := (P.ex' E3).setL (o := .lst (((List.range i).map tagM).map Val.str ++ [.str (tagM i)])) (E3.at Q2)
    have E03 : Ex s (s3.set q2 (.lst (((List.range i).map tagM).map Val.str ++ [.str (tagM i)]))) := (E.trans E3).set g2
    generalize s3.set q2 _ = s4 at Q23 Q13 P3 E03
    simp only [sIf_r, tB_r, eBin_r, eLst_r, aNil_r, eV_r, bind_ok, List.getElem?_cons_succ, List.getElem?_cons_zero, List.length_nil, Nat.zero_le, LIM_eq, if_true, cEq_r, eqT_nil (tvD_dsR Q13), ans_s]
    by_cases hp : i % 2 = 0
    · have b0 : begM i = [] := by unfold begM; rw [if_pos hp]
      have b1 : begM (i + 1) = lapsM false 2 := by unfold begM; rw [if_neg (by omega)]
      rw [b0] at Q13 ⊢
      simp only [List.map_nil, List.isEmpty_nil, if_true]
      have N13 : Nx s s4 q1 [] := ⟨E03, g1, Q13⟩
      refine ext_step (Y := (lapsM false 2).map Dd.val) N13 rfl ?_ (by decide) fun s5 N5 K5 => ?_
      · simp only [eCall_r, aCons_r, aNil_r, eC_r, bind_ok, mat_v]
        exact laps_lr 2 false (by omega) s4
      · refine ⟨_, rfl, by omega, N5.1, ?_, ?_, K5 _ _ Q23 (Ne.symm ne)⟩
        · obtain ⟨i1, j1, a1, a2, a3⟩ := P3.ex
          exact ⟨i1, j1, K5 _ _ a1 (fun e => by rw [e, Q13] at a1; cases a1), K5 _ _ a2 (fun e => by rw [e, Q13] at a2; cases a2), K5 _ _ a3 (fun e => by rw [e, Q13] at a3; cases a3)⟩
        · rw [b1]; exact N5.2.2
    · have b0 : begM i = lapsM false 2 := by unfold begM; rw [if_neg hp]
      have b1 : begM (i + 1) = [] := by unfold begM; rw [if_pos (by omega)]
      rw [b0] at Q13 ⊢
      have ie : ((lapsM false 2).map ddD).isEmpty = false := rfl
      have rl : refL (.v (.ref q1)) s4 = some (q1, (lapsM false 2).map Dd.val) := by simp [refL, Q13]
      simp only [ie, Bool.false_eq_true, if_false, sExp_r, eClear, eV_r, bind_ok, List.getElem?_cons_succ, List.getElem?_cons_zero, rl, updL, wp_ok]
      refine ⟨_, rfl, by omega, E03.set g1, P3.setL Q13, ?_, ?_⟩
      · rw [b1, List.getElem?_set_self (lk_lt Q13)]; rfl
      · rw [List.getElem?_set_ne ne]; exact Q23
  · subst e
    have Q24 : s'[q2]? = some (.lst ([75, 101, 75, 101].map Val.str)) := Q2
    have e1 : tvD s' (.v (.ref q2)) = some (.lst ([75, 101, 75, 101].map Dt.str)) := by
      have e0 : tvD s' (.v (.ref q2)) = match s'[q2]? with
        | some (.lst l) => (mapO (toD s' 19) l).map Dt.lst
        | some (.frz l) => (mapO (toD s' 19) l).map Dt.lst
        | _ => none := rfl
      rw [e0, Q24]
      simp only [strs_D, Option.map_some]
    have e2 : tvD s' (.l [.str 75, .str 101, .str 75, .str 101]) = some (.lst ([75, 101, 75, 101].map Dt.str)) := by
      show (mapO (toD s' 20) ([75, 101, 75, 101].map Val.str)).map Dt.lst = _
      rw [strs_D]; rfl
    have e3 : eqT (.v (.ref q2)) (.l [.str 75, .str 101, .str 75, .str 101]) s' = some true := by
      unfold eqT
      rw [e1, e2]
      simp only [eqv_refl]
    simp only [sRet_r, eBin_r, eV_r, eLst_r, aCons_r, aNil_r, eC_r, mat_v, bind_ok, List.getElem?_cons_succ, List.getElem?_cons_zero, List.length_nil, List.length_cons, Nat.zero_le, Nat.reduceAdd, LIM_eq, Nat.reduceLeDiff, if_true, cEq_r, e3, ans_s, wp_ok, FinQ_r]
    exact ⟨trivial, E⟩
theorem law_ok (ns : List Int) (hl : ns.length ≤ 63) (o : Ob) (ho : o = .lst (ns.map .int) ∨ o = .frz (ns.map .int)) : ∃ st, F_law [.ref 0] [o] = .ok (.v (.bool true)) st := by
  suffices h : Wp (F_law [.ref 0] [o]) fun x _ => x = .v (.bool true) by
    obtain ⟨a, s, e, q⟩ := h
    exact ⟨s, by rw [e, q]⟩
  have sq : ∀ s : Store, s[0]? = some o → seqOf (.v (.ref 0)) s = some (ns.map Val.int) := fun s e => by
    rcases ho with rfl | rfl <;> simp [seqOf, e]
  obtain ⟨m, hm, hm9⟩ : ∃ m : Nat, (1 : Int) + (if (ns.length : Int) < 8 then (ns.length : Int) else 8) = (m : Int) ∧ m ≤ 9 := by
    by_cases h : (ns.length : Int) < 8
    · rw [if_pos h]; exact ⟨ns.length + 1, by omega, by omega⟩
    · rw [if_neg h]; exact ⟨9, by omega, by omega⟩
  rw [F_law, wp_fn1]
  unfold B_law
  simp only [Nat.reduceSub, List.replicate]
  refine seq_step (Wp.mono (wp_for (its := fun _ => some (rngV 0 (m : Int))) (xs := rngV 0 (m : Int)) (s1 := [o]) (by simp [sq [o] rfl, hm, inR_n (show m ≤ 1000 by omega)])
    (fun i ρ s1 => s1[0]? = some o ∧ ∃ a b c d e f g, ρ = [some (.ref 0), a, b, c, d, e, f, g, none]) (fun _ _ _ _ => rfl) ⟨rfl, none, none, none, none, none, none, none, rfl⟩ (fun i x ρ s1 hx ⟨h0, a, b, c, d, e, f, g, e2⟩ => ?_)
    (Q := fun r s1 => ∃ a b c d e f g, r = (.next, [some (.ref 0), a, b, c, d, e, f, g, none])) fun ρ s1 ⟨h0, a, b, c, d, e, f, g, e2⟩ => ⟨a, b, c, d, e, f, g, by rw [e2]⟩) fun r s1 ⟨a, b, c, d, e, f, g, e2⟩ => ?_)
  · subst e2
    have him : i < m := by have := (List.getElem?_eq_some_iff.mp hx).1; rwa [rngV_len] at this
    rw [rngV_get m i him] at hx
    cases hx
    obtain ⟨pa, pb, hpu⟩ := purse_ok (sq s1 h0) i
    simp only [gV_r, wp_ok, List.set_cons_succ, List.set_cons_zero]
    refine seq_step ?_
    simp only [sPar_r, eCall_r, aCons_r, aNil_r, eV_r, bind_ok, mat_v, List.getElem?_cons_succ, List.getElem?_cons_zero, hpu, mat_l, wp_bind]
    have hl0 := lk_lt h0
    have P1 : Pu s1.length (1000 * i) (s1 ++ [.lst [.int pa, .int pb, .int (1000 * (i : Int))]]) := ⟨pa, pb, 1000 * (i : Int), by simp, by omega, by omega⟩
    have h1 := lk_app h0 [.lst [.int pa, .int pb, .int (1000 * (i : Int))]]
    generalize s1 ++ [Ob.lst [.int pa, .int pb, .int (1000 * (i : Int))]] = s2 at P1 h1
    generalize s1.length = p at P1 hl0
    refine (law_rows_ok s2).mono fun t s3 ⟨xs, e, E3, H⟩ => ?_
    subst e
    simp only [mat_l, bind_ok, wp_ok, List.set_cons_succ, List.set_cons_zero]
    have E4 := E3.trans (Ex.app s3 [.lst xs])
    have L4 : (s3 ++ [Ob.lst xs])[s3.length]? = some (.lst xs) := by simp
    have H4 := H.ex (stb_rows _) (Ex.app s3 [.lst xs])
    have P4 := P1.ex E4
    have h4 := E4.at h1
    generalize s3 ++ [Ob.lst xs] = s4 at E4 L4 H4 P4 h4
    generalize s3.length = qr at L4
    have xl := holds_len H4
    rw [List.length_map] at xl
    have xl11 : xs.length = 11 := xl
    refine wp_for (its := fun _ => some (rngV 0 (14 : Nat))) (xs := rngV 0 (14 : Nat)) (s1 := s4) (by
        simp only [ixR_r, eC_r, bind_ok, show inR 14 = true from rfl, if_true]; rfl)
      (fun j ρ s2 => j ≤ 14 ∧ s2[0]? = some o ∧ Pu p (1000 * i + j) s2 ∧ s2[qr]? = some (.lst xs) ∧ HoldsL (rowsM.map RW) xs s2 ∧ ∃ c d e f, ρ = [some (.ref 0), some (nv i), some (.ref p), some (.ref qr), c, d, e, f, none]) (fun _ _ _ _ => rfl) ⟨by omega, h4, P4, L4, H4, _, _, _, _, rfl⟩ (fun j x ρ s5 hx ⟨hj, h5, p5, L5, H5, c, d, e, f, e2⟩ => ?_) fun ρ s2 ⟨hj, h5, p5, L5, H5, c, d, e, f, e2⟩ => ⟨h5, _, _, _, c, d, e, f, e2⟩
    subst e2
    have hj3 : j < 14 := (List.getElem?_eq_some_iff.mp hx).1
    simp only [gV_r, wp_ok, List.set_cons_succ, List.set_cons_zero]
    refine seq_step ?_
    simp only [sAsg_r, eBin_r, eCall_r, aCons_r, aNil_r, eB1_r, bLen_r, eV_r, bind_ok, mat_v, List.getElem?_cons_succ, List.getElem?_cons_zero, lk_seq L5, xl11, wp_bind]
    refine (draw_ok (k := ((11 : Nat) : Int)) p5 (by omega) (by omega) (by omega)).mono fun t s6 ⟨r, e, hr, p6, F6⟩ => ?_
    subst e
    have hr11 : r < 11 := by omega
    have ne0 : (0 : Nat) ≠ p := by omega
    have h6 : s6[0]? = some o := by rw [F6.2 0 (lk_lt h5) ne0]; exact h5
    have H6 := holds_fr p5 F6 H5
    have L6 : s6[qr]? = some (.lst xs) := by
      rw [F6.2 qr (lk_lt L5) (fun e => ?_)]
      · exact L5
      · subst e
        obtain ⟨u, v, w, hp, _⟩ := p5
        rw [L5] at hp
        cases hp
        obtain ⟨y, hy, k0, b0, d0, e0, _⟩ := holds_at (i := 0) (P := RW ⟨rTwo, [], none⟩) H5 rfl
        subst e0
        cases hy
    obtain ⟨r0, k0, b0, d0, hx0, hR, hright⟩ := row_at H6 hr11
    have ar : atI xs (r : Int) = some (.tup [.ref k0, .ref b0, d0]) := atI_of hx0
    simp only [oIdx_r, lk_seq L6, ar, bind_ok, mat_v, gT_r, setAll_c, setAll_n, wp_ok, List.set_cons_succ, List.set_cons_zero]
    simp only [sIf_r, tNot_r, tB_r, eCall_r, aCons_r, aNil_r, eV_r, bind_ok, mat_v, List.getElem?_cons_succ, List.getElem?_cons_zero, wp_bind]
    refine (told_right hright hR).mono fun t s7 ⟨e, E7⟩ => ?_
    subst e
    simp only [wp_ok, Bool.not_true, Bool.false_eq_true, if_false, sNop_r]
    exact ⟨by omega, E7.at h6, (p6.ex E7).le (by omega), E7.at L6, H6.ex (stb_rows _) E7, _, _, _, _, rfl⟩
  · subst e2
    try dsimp only
    refine seq_step ?_
    rw [sIf_r, tB_r, eBin_r]
    simp only [wp_bind]
    obtain ⟨t, s2, et, xs, rfl, E2, H⟩ := law_rows_ok s1
    have xl := holds_len H
    rw [List.length_map] at xl
    have xl11 : xs.length = 11 := xl
    refine Wp.mono (wp_comp (its := fun _ => some xs) (xs := xs) (s1 := s2) (Q := fun t s' => t = .l []) (by
        rw [ixE_r]
        simp only [eCall_r, aNil_r, bind_ok, et, itsOf])
      (fun j acc s' => acc = [] ∧ HoldsL (rowsM.map RW) xs s') (fun _ _ _ _ => rfl) ⟨rfl, H⟩ (fun j x acc s' hx ⟨ea, H'⟩ => ?_) fun acc s' ⟨ea, _⟩ => by rw [ea]) fun t s3 e => ?_
    · subst ea
      have hj : j < 11 := by have := (List.getElem?_eq_some_iff.mp hx).1; omega
      obtain ⟨r0, k0, b0, d0, hx0, hR, hright⟩ := row_at H' hj
      rw [hx] at hx0
      cases hx0
      have a1 := atI_1 (Val.ref k0) (Val.ref b0) [d0]
      have a2 := atI_2 (Val.ref k0) (Val.ref b0) d0 []
      simp only [wipe, gV_r, wp_ok, List.set_cons_succ, List.set_cons_zero, tNot_r, tB_r, eCall_r, aCons_r, aNil_r, eBin_r, eV_r, eC_r, bind_ok, mat_v, List.getElem?_cons_succ, List.getElem?_cons_zero, oIdx_r, seqOf_t, atI_0, a1, a2, wp_bind]
      refine (told_right hright hR).mono fun t s7 ⟨e, E7⟩ => ?_
      subst e
      simp only [wp_ok, Bool.not_true, Bool.false_eq_true, if_false]
      exact ⟨trivial, H'.ex (stb_rows _) E7⟩
    · subst e
      have en : eqT (.l []) (.l []) s3 = some true := eqT_nil (d := []) rfl
      simp only [eLst_r, aNil_r, bind_ok, List.length_nil, Nat.zero_le, LIM_eq, if_true, cNe_r, en, Option.map_some, Bool.not_true, ans_s, wp_ok, Bool.false_eq_true, if_false, sNop_r]
      simp only [sRet_r, eCall_r, aNil_r, bind_ok, wp_bind]
      refine (grown_ok s3).mono fun t s4 ⟨e, _⟩ => ?_
      subst e
      simp only [wp_ok, FinQ_r]
end L_k36
end
section
set_option Elab.async false
set_option linter.all false
set_option maxRecDepth 100000
set_option maxHeartbeats 2000000
/-! VI1: what stands between VI's values and the model's heap; the readings of VI's combinators over the hand layer. -/
namespace VI
open PySem PySem.Spec PyProof.Rows L2

/-- a lambda's words, its cells, its code object -/
structure LF where
  qual : Str
  params : Arguments
  body : Expr
  scope : Scope
  cl : List (Str × Addr)
  c : Addr
/-- the object at f is the lambda F -/
def LamO (f : Addr) (F : LF) : HO := .ext fun h => ∃ (od : Option Addr) (sl : Array (Option Value)) (pm ctv : Value), h.get? f = some (⟨.type "function", od, .func (PySem.W.kla_fn "<lambda>" F.qual F.params F.body F.scope F.cl pm (.ref F.c) ctv), sl⟩ : Obj)
theorem lamO_ne {f : Addr} {F : LF} (ps : Array Value) : LamO f F ≠ .tbl ps := fun z => by
  unfold LamO at z
  cases z
/-- the world: the written part, the texts by number, the classes by number, the tables of code objects -/
structure Wd where
  K : PySem.W.Frag
  S : List Str
  C : Nat → Addr
  T : List (Addr × Str)
  L : Option (Nat × Addr × LF) := none

/-- a tuple, tracked or of the written part -/
def Tp (K : PySem.W.Frag) (H : Hp) (a : Addr) (xs : List V) : Prop :=
  H a = some (.tup xs) ∨
    ∃ (o : Obj) (its : Array Value) (n : Nat), K.lookup a = some o ∧ o.cls = .type "tuple" ∧ o.data = .seq its n ∧ its.size ≤ sizeLine ∧ Vals xs its.toList
theorem Tp.sq {K : PySem.W.Frag} {H : Hp} {a : Addr} {xs : List V} (h : Tp K H a xs) : SqT K H a xs := by
  rcases h with h | h
  · exact .inl (.inl h)
  · exact .inr h

mutual
inductive Rp (D : Wd) (n : Nat) (μ : Nat → Addr) (H : Hp) : Val → V → Prop
  | non : Rp D n μ H .non .non
  | bool (b : Bool) : Rp D n μ H (.bool b) (.bl b)
  | int (i : Int) : Rp D n μ H (.int i) (.int i)
  | str {k : Nat} {z : Str} (h : D.S[k]? = some z) : Rp D n μ H (.str k) (.str z)
  | tup {l : List Val} {a : Addr} {ys : List V} (h : Tp D.K H a ys) (r : RpAll D n μ H l ys) : Rp D n μ H (.tup l) (.ref a)
  | ref {k : Nat} (h : k < n) : Rp D n μ H (.ref k) (.ref (μ k))
inductive RpAll (D : Wd) (n : Nat) (μ : Nat → Addr) (H : Hp) : List Val → List V → Prop
  | nil : RpAll D n μ H [] []
  | cons {x : Val} {l : List Val} {y : V} {ys : List V} (h : Rp D n μ H x y) (r : RpAll D n μ H l ys) : RpAll D n μ H (x :: l) (y :: ys)
end

/-- a later state -/
structure Le (n : Nat) (μ : Nat → Addr) (H : Hp) (n' : Nat) (μ' : Nat → Addr) (H' : Hp) : Prop where
  le : n ≤ n'
  mu : ∀ k, k < n → μ' k = μ k
  new : ∀ k, n ≤ k → k < n' → H (μ' k) = none
  tup : ∀ a xs, H a = some (.tup xs) → H' a = some (.tup xs)
  fr : ∀ a o, H a = some o → (∀ ps, o ≠ .tbl ps) → (∀ k, k < n → μ k ≠ a) → H' a = some o
  dom : ∀ a o, H a = some o → ∃ o', H' a = some o'
theorem Le.refl (n : Nat) (μ : Nat → Addr) (H : Hp) : Le n μ H n μ H :=
  ⟨Nat.le_refl _, fun _ _ => rfl, fun k h1 h2 => absurd (Nat.lt_of_lt_of_le h2 h1) (Nat.lt_irrefl _), fun _ _ h => h, fun _ _ h _ _ => h, fun _ o h => ⟨o, h⟩⟩
theorem Le.no {n n' : Nat} {μ μ' : Nat → Addr} {H H' : Hp} (l : Le n μ H n' μ' H') {a : Addr} (h : H' a = none) : H a = none := by
  cases e : H a with
  | none => rfl
  | some o =>
    obtain ⟨o', e'⟩ := l.dom a o e
    rw [h] at e'; cases e'
theorem Le.trans {n n1 n2 : Nat} {μ μ1 μ2 : Nat → Addr} {H H1 H2 : Hp} (a : Le n μ H n1 μ1 H1) (b : Le n1 μ1 H1 n2 μ2 H2) : Le n μ H n2 μ2 H2 where
  le := Nat.le_trans a.le b.le
  mu := fun k h => (b.mu k (Nat.lt_of_lt_of_le h a.le)).trans (a.mu k h)
  new := fun k h1 h2 => by
    by_cases hk : k < n1
    · rw [b.mu k hk]; exact a.new k h1 hk
    · exact a.no (b.new k (Nat.le_of_not_lt hk) h2)
  tup := fun c xs h => b.tup c xs (a.tup c xs h)
  fr := fun c o h ht hm => b.fr c o (a.fr c o h ht hm) ht fun k hk e => by
    by_cases hk' : k < n
    · rw [a.mu k hk'] at e; exact hm k hk' e
    · have := a.new k (Nat.le_of_not_lt hk') hk
      rw [e, h] at this; cases this
  dom := fun c o h => let ⟨o', h'⟩ := a.dom c o h; b.dom c o' h'

section
variable {D : Wd} {n n' : Nat} {μ μ' : Nat → Addr} {H H' : Hp}
theorem Tp.mono {K : PySem.W.Frag} {a : Addr} {xs : List V} (ht : ∀ a xs, H a = some (.tup xs) → H' a = some (.tup xs)) (h : Tp K H a xs) : Tp K H' a xs := by
  rcases h with h | h
  · exact .inl (ht _ _ h)
  · exact .inr h
mutual
theorem Rp.mono' (hn : n ≤ n') (hm : ∀ k, k < n → μ' k = μ k) (ht : ∀ a xs, H a = some (.tup xs) → H' a = some (.tup xs)) : ∀ {x : Val} {y : V}, Rp D n μ H x y → Rp D n' μ' H' x y
  | _, _, .non => .non
  | _, _, .bool b => .bool b
  | _, _, .int i => .int i
  | _, _, .str h => .str h
  | _, _, .tup h r => .tup (h.mono ht) (RpAll.mono' hn hm ht r)
  | _, _, .ref (k := k) h => by
    rw [← hm k h]
    exact .ref (Nat.lt_of_lt_of_le h hn)
theorem RpAll.mono' (hn : n ≤ n') (hm : ∀ k, k < n → μ' k = μ k) (ht : ∀ a xs, H a = some (.tup xs) → H' a = some (.tup xs)) : ∀ {l : List Val} {ys : List V}, RpAll D n μ H l ys → RpAll D n' μ' H' l ys
  | _, _, .nil => .nil
  | _, _, .cons h r => .cons (Rp.mono' hn hm ht h) (RpAll.mono' hn hm ht r)
end
theorem Rp.mono {x : Val} {y : V} (l : Le n μ H n' μ' H') (h : Rp D n μ H x y) : Rp D n' μ' H' x y := h.mono' l.le l.mu l.tup
theorem RpAll.mono {xs : List Val} {ys : List V} (l : Le n μ H n' μ' H') (h : RpAll D n μ H xs ys) : RpAll D n' μ' H' xs ys := h.mono' l.le l.mu l.tup
theorem RpAll.length : ∀ {l : List Val} {ys : List V}, RpAll D n μ H l ys → l.length = ys.length
  | _, _, .nil => rfl
  | _, _, .cons _ r => congrArg (· + 1) r.length
theorem RpAll.append : ∀ {l : List Val} {ys : List V} {l' : List Val} {ys' : List V}, RpAll D n μ H l ys → RpAll D n μ H l' ys' → RpAll D n μ H (l ++ l') (ys ++ ys')
  | _, _, _, _, .nil, q => q
  | _, _, _, _, .cons h r, q => .cons h (r.append q)
theorem RpAll.get : ∀ {l : List Val} {ys : List V} {i : Nat} {x : Val}, RpAll D n μ H l ys → l[i]? = some x → ∃ y, ys[i]? = some y ∧ Rp D n μ H x y
  | _, _, _, _, .nil, e => by simp at e
  | _, _, 0, _, .cons h _, e => by simp at e; subst e; exact ⟨_, rfl, h⟩
  | _, _, i + 1, x, .cons _ r, e => by
    obtain ⟨y, h1, h2⟩ := RpAll.get (i := i) (x := x) r (by simpa using e)
    exact ⟨y, by simpa using h1, h2⟩
theorem RpAll.take : ∀ {l : List Val} {ys : List V} (k : Nat), RpAll D n μ H l ys → RpAll D n μ H (l.take k) (ys.take k)
  | _, _, 0, _ => .nil
  | _, _, _ + 1, .nil => .nil
  | _, _, k + 1, .cons h r => .cons h (r.take k)
theorem RpAll.drop : ∀ {l : List Val} {ys : List V} (k : Nat), RpAll D n μ H l ys → RpAll D n μ H (l.drop k) (ys.drop k)
  | _, _, 0, r => r
  | _, _, _ + 1, .nil => .nil
  | _, _, k + 1, .cons _ r => r.drop k
theorem RpAll.set {x : Val} {y : V} (h : Rp D n μ H x y) : ∀ {l : List Val} {ys : List V} (k : Nat), RpAll D n μ H l ys → RpAll D n μ H (l.set k x) (ys.set k y)
  | _, _, _, .nil => .nil
  | _, _, 0, .cons _ r => .cons h r
  | _, _, k + 1, .cons h' r => .cons h' (RpAll.set h k r)
theorem RpAll.eraseIdx : ∀ {l : List Val} {ys : List V} (k : Nat), RpAll D n μ H l ys → RpAll D n μ H (l.eraseIdx k) (ys.eraseIdx k)
  | _, _, _, .nil => .nil
  | _, _, 0, .cons _ r => r
  | _, _, k + 1, .cons h' r => .cons h' (r.eraseIdx k)
theorem RpAll.dropLast {l : List Val} {ys : List V} (r : RpAll D n μ H l ys) : RpAll D n μ H l.dropLast ys.dropLast := by
  rw [List.dropLast_eq_take, List.dropLast_eq_take, r.length]
  exact r.take _
theorem RpAll.rep {l : List Val} {ys : List V} (r : RpAll D n μ H l ys) : ∀ k, RpAll D n μ H (List.replicate k l).flatten (List.replicate k ys).flatten
  | 0 => .nil
  | k + 1 => by
    rw [List.replicate_succ, List.replicate_succ, List.flatten_cons, List.flatten_cons]
    exact r.append (RpAll.rep r k)
end

/-- an object of the store at an address -/
inductive FsR (D : Wd) (n : Nat) (μ : Nat → Addr) (H : Hp) : List (Nat × Val) → List (Str × V) → Prop
  | nil : FsR D n μ H [] []
  | cons {f : Nat} {z : Str} {x : Val} {y : V} {fs : List (Nat × Val)} {gs : List (Str × V)} (h : D.S[f]? = some z) (h' : Rp D n μ H x y) (r : FsR D n μ H fs gs) : FsR D n μ H ((f, x) :: fs) ((z, y) :: gs)
inductive KvR (D : Wd) (n : Nat) (μ : Nat → Addr) (H : Hp) : List (List Int × Val) → List (List Key × V) → Prop
  | nil : KvR D n μ H [] []
  | cons {k : List Int} {x : Val} {y : V} {fs : List (List Int × Val)} {gs : List (List Key × V)} (h' : Rp D n μ H x y) (r : KvR D n μ H fs gs) : KvR D n μ H ((k, x) :: fs) ((k.map Sum.inl, y) :: gs)
def ObR (D : Wd) (n : Nat) (μ : Nat → Addr) (H : Hp) (a : Addr) : Ob → Prop
  | .lst l => ∃ ys, H a = some (.lst ys) ∧ RpAll D n μ H l ys
  | .frz l => ∃ o ys, H a = some (.frz o (.lst ys)) ∧ RpAll D n μ H l ys
  | .ins c fs => ∃ dx gs, H a = some (.ins (D.C c) dx gs) ∧ FsR D n μ H fs gs
  | .dct kvs => ∃ ks, H a = some (.dT ks) ∧ KvR D n μ H kvs ks
section
variable {D : Wd} {n n' : Nat} {μ μ' : Nat → Addr} {H H' : Hp}
theorem FsR.mono (hn : n ≤ n') (hm : ∀ k, k < n → μ' k = μ k) (ht : ∀ a xs, H a = some (.tup xs) → H' a = some (.tup xs)) : ∀ {fs : List (Nat × Val)} {gs : List (Str × V)}, FsR D n μ H fs gs → FsR D n' μ' H' fs gs
  | _, _, .nil => .nil
  | _, _, .cons h h' r => .cons h (h'.mono' hn hm ht) (FsR.mono hn hm ht r)
theorem KvR.mono (hn : n ≤ n') (hm : ∀ k, k < n → μ' k = μ k) (ht : ∀ a xs, H a = some (.tup xs) → H' a = some (.tup xs)) : ∀ {fs : List (List Int × Val)} {gs : List (List Key × V)}, KvR D n μ H fs gs → KvR D n' μ' H' fs gs
  | _, _, .nil => .nil
  | _, _, .cons h' r => .cons (h'.mono' hn hm ht) (KvR.mono hn hm ht r)
theorem ObR.mono (hn : n ≤ n') (hm : ∀ k, k < n → μ' k = μ k) (ht : ∀ a xs, H a = some (.tup xs) → H' a = some (.tup xs)) {a : Addr} (ha : H' a = H a) : ∀ {o : Ob}, ObR D n μ H a o → ObR D n' μ' H' a o
  | .lst _, ⟨ys, h, r⟩ => ⟨ys, ha.trans h, r.mono' hn hm ht⟩
  | .frz _, ⟨o, ys, h, r⟩ => ⟨o, ys, ha.trans h, r.mono' hn hm ht⟩
  | .ins _ _, ⟨dx, gs, h, r⟩ => ⟨dx, gs, ha.trans h, r.mono hn hm ht⟩
  | .dct _, ⟨ks, h, r⟩ => ⟨ks, ha.trans h, r.mono hn hm ht⟩
theorem ObR.some {a : Addr} {o : Ob} (h : ObR D n μ H a o) : ∃ u, H a = some u ∧ (∀ xs, u ≠ .tup xs) ∧ (∀ ps, u ≠ .tbl ps) ∧ (∀ φ, u ≠ .ext φ) := by
  cases o with
  | lst l => obtain ⟨ys, h, _⟩ := h; exact ⟨_, h, fun _ q => (nomatch q), fun _ q => (nomatch q), fun _ q => (nomatch q)⟩
  | frz l => obtain ⟨_, ys, h, _⟩ := h; exact ⟨_, h, fun _ q => (nomatch q), fun _ q => (nomatch q), fun _ q => (nomatch q)⟩
  | ins c fs => obtain ⟨_, _, h, _⟩ := h; exact ⟨_, h, fun _ q => (nomatch q), fun _ q => (nomatch q), fun _ q => (nomatch q)⟩
  | dct kvs => obtain ⟨_, h, _⟩ := h; exact ⟨_, h, fun _ q => (nomatch q), fun _ q => (nomatch q), fun _ q => (nomatch q)⟩
end

/-- the store is held -/
structure Ok (D : Wd) (n : Nat) (μ : Nat → Addr) (H : Hp) (st : Store) : Prop where
  len : st.length = n
  inj : ∀ i j, i < n → j < n → μ i = μ j → i = j
  ob : ∀ k o, st[k]? = some o → ObR D n μ H (μ k) o
  tabs : LamX.Tabs D.T H
  lamc : ∀ i f F, D.L = some (i, f, F) → H f = some (LamO f F) ∧ H F.c = some (LamX.CodeO F.c F.qual)
section
variable {D : Wd} {n n' : Nat} {μ μ' : Nat → Addr} {H H' : Hp} {st st' : Store}
theorem Ok.at (ok : Ok D n μ H st) {k : Nat} (h : k < n) : ∃ o, st[k]? = some o ∧ ObR D n μ H (μ k) o := by
  have hk : k < st.length := by rw [ok.len]; exact h
  exact ⟨st[k], List.getElem?_eq_getElem hk, ok.ob k _ (List.getElem?_eq_getElem hk)⟩
theorem Ok.lt (ok : Ok D n μ H st) {k : Nat} {o : Ob} (h : st[k]? = some o) : k < n := by
  rw [← ok.len]; exact (List.getElem?_eq_some_iff.mp h).1
theorem Ok.fresh (ok : Ok D n μ H st) {p : Addr} (h : H p = none) : ∀ k, k < n → μ k ≠ p := fun k hk e => by
  obtain ⟨o, _, r⟩ := ok.at hk
  obtain ⟨u, hu, _⟩ := r.some
  rw [e, h] at hu; cases hu
theorem tabs_keep {T : List (Addr × Str)} (h : LamX.Tabs T H) (k1 : ∀ b ps, H b = some (.tbl ps) → H' b = some (.tbl ps)) (k2 : ∀ b φ, H b = some (.ext φ) → H' b = some (.ext φ)) : LamX.Tabs T H' := fun p hp => by
  obtain ⟨ps, h1, h2, h3⟩ := h p hp
  refine ⟨ps, k1 _ _ h1, h2, fun pos cv hc => ?_⟩
  obtain ⟨c, e1, e2⟩ := h3 pos cv hc
  exact ⟨c, e1, k2 _ _ e2⟩
/-- the heap turns at mapped places, or grows; the store's objects are told anew -/
theorem Ok.turn (ok : Ok D n μ H st) (keep : ∀ b o, H b = some o → (∀ k, k < n → μ k ≠ b) → H' b = some o) (len : st'.length = n) (ob : ∀ k o, st'[k]? = some o → ObR D n μ H' (μ k) o) :
    Ok D n μ H' st' ∧ Le n μ H n μ H' := by
  have nm : ∀ b o, H b = some o → ((∃ xs, o = .tup xs) ∨ (∃ ps, o = .tbl ps) ∨ (∃ φ, o = .ext φ)) → ∀ k, k < n → μ k ≠ b := fun b o e hq k hk z => by
    obtain ⟨o2, _, r⟩ := ok.at hk
    obtain ⟨u, hu, h1, h2, h3⟩ := r.some
    rw [z, e] at hu; cases hu
    rcases hq with ⟨_, q⟩ | ⟨_, q⟩ | ⟨_, q⟩
    · exact h1 _ q
    · exact h2 _ q
    · exact h3 _ q
  refine ⟨⟨len, ok.inj, ob, tabs_keep ok.tabs (fun b ps e => keep b _ e (nm b _ e (.inr (.inl ⟨_, rfl⟩)))) fun b φ e => keep b _ e (nm b _ e (.inr (.inr ⟨_, rfl⟩))), fun i f F e => ?_⟩,
    ⟨Nat.le_refl _, fun _ _ => rfl, fun k h1 h2 => absurd (Nat.lt_of_lt_of_le h2 h1) (Nat.lt_irrefl _), fun a xs e => keep a _ e (nm a _ e (.inl ⟨_, rfl⟩)), fun a o e _ hm => keep a o e hm, fun a o e => ?_⟩⟩
  · obtain ⟨e1, e2⟩ := ok.lamc i f F e
    unfold LamO at e1 ⊢
    unfold LamX.CodeO at e2 ⊢
    exact ⟨keep _ _ e1 (nm _ _ e1 (.inr (.inr ⟨_, rfl⟩))), keep _ _ e2 (nm _ _ e2 (.inr (.inr ⟨_, rfl⟩)))⟩
  by_cases hm : ∃ k, k < n ∧ μ k = a
  · obtain ⟨k, hk, rfl⟩ := hm
    have hk' : k < st'.length := by rw [len]; exact hk
    obtain ⟨u, hu, _⟩ := (ob k _ (List.getElem?_eq_getElem hk')).some
    exact ⟨u, hu⟩
  · exact ⟨o, keep a o e fun k hk z => hm ⟨k, hk, z⟩⟩
/-- a new object of the heap -/
theorem Ok.upd (ok : Ok D n μ H st) {p : Addr} {u : HO} (hp : H p = none) : Ok D n μ (upd H p u) st ∧ Le n μ H n μ (upd H p u) := by
  have k0 : ∀ b o, H b = some o → L2.upd H p u b = some o := fun b o e => by rw [upd_ne (ne_of_none e hp)]; exact e
  refine ok.turn (fun b o e _ => k0 b o e) ok.len fun k o e => (ok.ob k o e).mono (Nat.le_refl _) (fun _ _ => rfl) (fun a xs e => k0 a _ e) (upd_ne (ok.fresh hp k (ok.lt e)))
/-- an object of the store is written -/
theorem Ok.set (ok : Ok D n μ H st) {k : Nat} {o : Ob} {u : HO} (hk : k < n) (hr : ObR D n μ (L2.upd H (μ k) u) (μ k) o) : Ok D n μ (L2.upd H (μ k) u) (st.set k o) ∧ Le n μ H n μ (L2.upd H (μ k) u) := by
  have k0 : ∀ b o, H b = some o → (∀ k, k < n → μ k ≠ b) → L2.upd H (μ k) u b = some o := fun b o e hm => by
    rw [upd_ne (Ne.symm (hm k hk))]; exact e
  have kt : ∀ a xs, H a = some (.tup xs) → L2.upd H (μ k) u a = some (.tup xs) := fun a xs e => k0 a _ e fun j hj z => by
    obtain ⟨_, _, r⟩ := ok.at hj
    obtain ⟨v, hv, h1, _⟩ := r.some
    rw [z, e] at hv; cases hv; exact h1 _ rfl
  refine ok.turn k0 (by rw [List.length_set]; exact ok.len) fun j o' e => ?_
  by_cases hj : j = k
  · subst hj
    rw [List.getElem?_set_self (by rw [ok.len]; exact hk)] at e
    cases e; exact hr
  · rw [List.getElem?_set_ne (Ne.symm hj)] at e
    exact (ok.ob j o' e).mono (Nat.le_refl _) (fun _ _ => rfl) kt (upd_ne fun z => hj (ok.inj j k (ok.lt e) hk z))
/-- an object of the heap that nobody holds becomes the store's -/
theorem Ok.map (ok : Ok D n μ H st) {a : Addr} {o : Ob} (ha : ∀ k, k < n → μ k ≠ a) (hr : ObR D n μ H a o) :
    Ok D (n + 1) (fun k => if k = n then a else μ k) H (st ++ [o]) := by
  have hm : ∀ k, k < n → (fun k => if k = n then a else μ k) k = μ k := fun k hk => if_neg (Nat.ne_of_lt hk)
  refine ⟨by rw [List.length_append, ok.len]; rfl, fun i j hi hj e => ?_, fun k o' e => ?_, ok.tabs, ok.lamc⟩
  · by_cases h1 : i = n
    · by_cases h2 : j = n
      · rw [h1, h2]
      · have hj' : j < n := by omega
        rw [if_pos h1, if_neg h2] at e
        exact absurd e.symm (ha j hj')
    · have hi' : i < n := by omega
      by_cases h2 : j = n
      · rw [if_neg h1, if_pos h2] at e
        exact absurd e (ha i hi')
      · have hj' : j < n := by omega
        rw [if_neg h1, if_neg h2] at e
        exact ok.inj i j hi' hj' e
  · by_cases hk : k = n
    · subst hk
      rw [← ok.len, List.getElem?_append_right (Nat.le_refl _)] at e
      simp at e; subst e
      simp only [if_pos]
      exact hr.mono (Nat.le_succ _) hm (fun _ _ h => h) rfl
    · have hk' : k < st.length := by
        have := (List.getElem?_eq_some_iff.mp e).1
        rw [List.length_append] at this
        have hl := ok.len
        simp at this; omega
      rw [List.getElem?_append_left hk'] at e
      simp only [if_neg hk]
      exact (ok.ob k o' e).mono (Nat.le_succ _) hm (fun _ _ h => h) rfl
theorem Le.map {n0 : Nat} {μ0 : Nat → Addr} {H0 : Hp} (l : Le n0 μ0 H0 n μ H) {a : Addr} (ha : H0 a = none) : Le n0 μ0 H0 (n + 1) (fun k => if k = n then a else μ k) H where
  le := Nat.le_succ_of_le l.le
  mu := fun k hk => by
    have : k ≠ n := Nat.ne_of_lt (Nat.lt_of_lt_of_le hk l.le)
    rw [if_neg this]; exact l.mu k hk
  new := fun k h1 h2 => by
    by_cases hk : k = n
    · rw [if_pos hk]; exact ha
    · rw [if_neg hk]; exact l.new k h1 (by omega)
  tup := l.tup
  fr := l.fr
  dom := l.dom
end

/-! ### values that are new lists -/
def Rt (D : Wd) (n : Nat) (μ : Nat → Addr) (H : Hp) : Tv → V → Prop
  | .v x, y => Rp D n μ H x y
  | .l xs, y => ∃ a ys, y = .ref a ∧ H a = some (.lst ys) ∧ RpAll D n μ H xs ys ∧ ∀ k, k < n → μ k ≠ a
/-- a new list was not there before -/
def Fre (H : Hp) : Tv → V → Prop
  | .v _, _ => True
  | .l _, y => ∀ a, y = .ref a → H a = none
/-- what holds of an answer -/
def Ans (D : Wd) (n : Nat) (μ : Nat → Addr) (H : Hp) (x : Tv) (st : Store) (Q : VK) : Prop :=
  ∀ n' μ' H' y, Ok D n' μ' H' st → Le n μ H n' μ' H' → Rt D n' μ' H' x y → Fre H x y → Q y H'
theorem Ans.le {D : Wd} {n n1 : Nat} {μ μ1 : Nat → Addr} {H H1 : Hp} {x : Tv} {st : Store} {Q : VK} (h : Ans D n μ H x st Q) (l : Le n μ H n1 μ1 H1) : Ans D n1 μ1 H1 x st Q :=
  fun n' μ' H' y ok l' r f => h n' μ' H' y ok (l.trans l') r (by
    cases x with
    | v _ => trivial
    | l _ => exact fun a e => l.no (f a e))
/-- a value at the state as it is -/
theorem Ans.here {D : Wd} {n : Nat} {μ : Nat → Addr} {H : Hp} {x : Val} {y : V} {st : Store} {Q : VK} (h : Ans D n μ H (.v x) st Q) (ok : Ok D n μ H st) (r : Rp D n μ H x y) : Q y H :=
  h n μ H y ok (Le.refl _ _ _) r trivial
theorem Rt.mono {D : Wd} {n n' : Nat} {μ μ' : Nat → Addr} {H H' : Hp} {x : Tv} {y : V} (l : Le n μ H n' μ' H') (h : Rt D n μ H x y) : Rt D n' μ' H' x y := by
  cases x with
  | v x => exact Rp.mono l h
  | l xs =>
    obtain ⟨a, ys, e, ha, r, hm⟩ := h
    refine ⟨a, ys, e, l.fr a _ ha (fun _ q => (nomatch q)) hm, r.mono l, fun k hk z => ?_⟩
    by_cases hk' : k < n
    · rw [l.mu k hk'] at z; exact hm k hk' z
    · have := l.new k (Nat.le_of_not_lt hk') hk
      rw [z, ha] at this; cases this

/-- a name's value -/
def EnvR (D : Wd) (n : Nat) (μ : Nat → Addr) (H : Hp) (ρ : Env) (σ : L2.St) : Prop :=
  σ.length = ρ.length ∧ (∀ (i : Nat) (x : Val), ρ[i]? = some (some x) → ∃ y, σ[i]? = some (some y) ∧ Rp D n μ H x y) ∧ ∀ i f F, D.L = some (i, f, F) → ρ[i]? = some none → σ[i]? = some (some (.ref f))
theorem EnvR.mono {D : Wd} {n n' : Nat} {μ μ' : Nat → Addr} {H H' : Hp} {ρ : Env} {σ : L2.St} (l : Le n μ H n' μ' H') (h : EnvR D n μ H ρ σ) : EnvR D n' μ' H' ρ σ :=
  ⟨h.1, fun i x e => let ⟨y, h1, h2⟩ := h.2.1 i x e; ⟨y, h1, h2.mono l⟩, h.2.2⟩
theorem EnvR.set {D : Wd} {n : Nat} {μ : Nat → Addr} {H : Hp} {ρ : Env} {σ : L2.St} {x : Val} {y : V} (i : Nat) (h : EnvR D n μ H ρ σ) (r : Rp D n μ H x y) : EnvR D n μ H (ρ.set i (some x)) (σ.set i (some y)) := by
  refine ⟨by rw [List.length_set, List.length_set]; exact h.1, fun j z e => ?_, fun j f F eL e => ?_⟩
  · by_cases hj : i = j
    · subst hj
      have hi : i < ρ.length := by
        have := (List.getElem?_eq_some_iff.mp e).1
        rwa [List.length_set] at this
      rw [List.getElem?_set_self hi] at e
      cases e
      exact ⟨y, List.getElem?_set_self (by rw [h.1]; exact hi), r⟩
    · rw [List.getElem?_set_ne hj] at e ⊢
      exact h.2.1 j z e
  · by_cases hj : i = j
    · subst hj
      have hi : i < ρ.length := by
        have := (List.getElem?_eq_some_iff.mp e).1
        rwa [List.length_set] at this
      rw [List.getElem?_set_self hi] at e
      cases e
    · rw [List.getElem?_set_ne hj] at e ⊢
      exact h.2.2 j f F eL e

/-- a new list is laid down -/
theorem mat_ok {D : Wd} {n n0 : Nat} {μ μ0 : Nat → Addr} {H H0 : Hp} {t : Tv} {y : V} {st st' : Store} {x : Val} (e : mat t st = .ok x st') (ok : Ok D n μ H st) (l : Le n0 μ0 H0 n μ H) (r : Rt D n μ H t y) (f : Fre H0 t y) :
    ∃ n' μ', Ok D n' μ' H st' ∧ Le n0 μ0 H0 n' μ' H ∧ Rp D n' μ' H x y ∧ (∀ z w, Rp D n μ H z w → Rp D n' μ' H z w) ∧ n ≤ n' ∧ ∀ k, k < n → μ' k = μ k := by
  cases t with
  | v z =>
    cases e
    exact ⟨n, μ, ok, l, r, fun _ _ h => h, Nat.le_refl _, fun _ _ => rfl⟩
  | l xs =>
    cases e
    obtain ⟨a, ys, rfl, ha, ra, hm⟩ := r
    have hmu : ∀ k, k < n → (fun k => if k = n then a else μ k) k = μ k := fun k hk => if_neg (Nat.ne_of_lt hk)
    refine ⟨n + 1, fun k => if k = n then a else μ k, ok.map hm ⟨ys, ha, ra⟩, l.map (f a rfl), ?_, fun z w h => h.mono' (Nat.le_succ _) hmu fun _ _ h => h, Nat.le_succ _, hmu⟩
    rw [ok.len]
    have q : Rp D (n + 1) (fun k => if k = n then a else μ k) H (.ref n) (.ref ((fun k => if k = n then a else μ k) n)) := .ref (Nat.lt_succ_self n)
    simp only [if_pos] at q
    exact q
end VI
end
section
set_option Elab.async false
set_option linter.all false
set_option maxRecDepth 100000
set_option maxHeartbeats 2000000
/-! VI2: readings and rules of expressions. -/
namespace VI
open PySem PySem.Spec PyProof.Rows L2

def rE (D : Wd) (f : Ev) : TE := fun σ H Q => ∃ n μ ρ st x st', Ok D n μ H st ∧ EnvR D n μ H ρ σ ∧ f ρ st = .ok x st' ∧ Ans D n μ H x st' Q
def rT (D : Wd) (f : Tst) : TT := fun σ H Q => ∃ n μ ρ st b st', Ok D n μ H st ∧ EnvR D n μ H ρ σ ∧ f ρ st = .ok b st' ∧ ∀ n' μ' H', Ok D n' μ' H' st' → Le n μ H n' μ' H' → Q b H'
def rA (D : Wd) (f : Avs) : TA := fun σ H Q => ∃ n μ ρ st xs st', Ok D n μ H st ∧ EnvR D n μ H ρ σ ∧ f ρ st = .ok xs st' ∧ ∀ n' μ' H' ys, Ok D n' μ' H' st' → Le n μ H n' μ' H' → RpAll D n' μ' H' xs ys → Q ys H'
def rO (D : Wd) (o : Op2) : R2 := fun x y H Q => ∃ n μ st a b z st', Ok D n μ H st ∧ Rt D n μ H a x ∧ Rt D n μ H b y ∧ o a b st = .ok z st' ∧ Ans D n μ H z st' Q
def rB (D : Wd) (b : B1) : List V → Hp → VK → Prop := fun ys H Q => ∃ n μ st a y z st', ys = [y] ∧ Ok D n μ H st ∧ Rt D n μ H a y ∧ b a st = .ok z st' ∧ Ans D n μ H z st' Q
abbrev SE (X : Cx) (D : Wd) (e : Expr) (f : Ev) : Prop := PE X e (rE D f)
abbrev ST (X : Cx) (D : Wd) (e : Expr) (f : Tst) : Prop := PT X e (rT D f)
abbrev SA (X : Cx) (D : Wd) (es : List Expr) (f : Avs) : Prop := PA X es (rA D f)
/-- the context: its written part, calm, its names apart -/
class Cok (X : Cx) (D : Wd) : Prop where
  hK : X.K = D.K
  calm : X.calm = true
  nd : X.N.Nodup
theorem PE_imp {X : Cx} {e : Expr} {t t' : TE} (h : PE X e t) (k : ∀ σ H Q, t' σ H Q → t σ H Q) : PE X e t' := ⟨fun pins s σ H Q I q => h.run pins s σ H Q I (k σ H Q q)⟩
theorem PT_imp {X : Cx} {e : Expr} {t t' : TT} (h : PT X e t) (k : ∀ σ H Q, t' σ H Q → t σ H Q) : PT X e t' := ⟨fun pins s σ H Q I q => h.run pins s σ H Q I (k σ H Q q)⟩
theorem PW_imp {X : Cx} {e : Expr} {t t' : TT} (h : PW X e t) (k : ∀ σ H Q, t' σ H Q → t σ H Q) : PW X e t' := ⟨fun wh pins s σ H Q I q => h.run wh pins s σ H Q I (k σ H Q q)⟩
theorem PA_imp {X : Cx} {e : List Expr} {t t' : TA} (h : PA X e t) (k : ∀ σ H Q, t' σ H Q → t σ H Q) : PA X e t' := ⟨fun pos pins s σ H Q I q => h.run pos pins s σ H Q I (k σ H Q q)⟩
theorem PS_imp {X : Cx} {e : Stmt} {t t' : TS} (h : PS X e t) (k : ∀ D σ H, t' D σ H → t D σ H) : PS X e t' := ⟨fun pins s σ H D I q => h.run pins s σ H D I (k D σ H q)⟩
theorem PSs_imp {X : Cx} {e : List Stmt} {t t' : TS} (h : PSs X e t) (k : ∀ D σ H, t' D σ H → t D σ H) : PSs X e t' := ⟨fun pins s σ H D I q => h.run pins s σ H D I (k D σ H q)⟩
theorem PI_imp {X : Cx} {tg e : Expr} {t t' : TI} (h : PI X tg e t) (k : ∀ σ H R, t' σ H R → t σ H R) : PI X tg e t' := ⟨fun pins s σ H R I q => h.run pins s σ H R I (k σ H R q)⟩

section
variable {D : Wd} {n : Nat} {μ : Nat → Addr} {H : Hp} {st st' : Store}
theorem ans_v {x : Val} {Q : VK} (h : Ans D n μ H (.v x) st Q) (ok : Ok D n μ H st) {y : V} (r : Rp D n μ H x y) : Q y H := h n μ H y ok (Le.refl _ _ _) r trivial
/-- a new tuple as the answer -/
theorem ans_tup {l : List Val} {Q : VK} (h : Ans D n μ H (.v (.tup l)) st Q) (ok : Ok D n μ H st) {ys : List V} (r : RpAll D n μ H l ys) {p : Addr} (hp : H p = none) : Q (.ref p) (upd H p (.tup ys)) := by
  obtain ⟨ok', l'⟩ := ok.upd (u := .tup ys) hp
  exact h n μ _ _ ok' l' (.tup (.inl upd_same) (r.mono l')) trivial
/-- a new list as the answer -/
theorem ans_lst {l : List Val} {Q : VK} (h : Ans D n μ H (.l l) st Q) (ok : Ok D n μ H st) {ys : List V} (r : RpAll D n μ H l ys) {p : Addr} (hp : H p = none) : Q (.ref p) (upd H p (.lst ys)) := by
  obtain ⟨ok', l'⟩ := ok.upd (u := .lst ys) hp
  exact h n μ _ _ ok' l' ⟨p, ys, rfl, upd_same, r.mono l', ok.fresh hp⟩ fun a e => by cases e; exact hp
theorem lstOf_ok {t : Tv} {y : V} {xs : List Val} (ok : Ok D n μ H st) (r : Rt D n μ H t y) (e : lstOf t st = some xs) : ∃ a ys, y = .ref a ∧ H a = some (.lst ys) ∧ RpAll D n μ H xs ys := by
  cases t with
  | l zs =>
    cases e
    obtain ⟨a, ys, e1, ha, ra, _⟩ := r
    exact ⟨a, ys, e1, ha, ra⟩
  | v x =>
    cases x with
    | ref k =>
      cases r
      skip
      cases hk : st[k]? with
      | none => simp [lstOf, hk] at e
      | some o =>
        cases o with
        | lst zs =>
          simp [lstOf, hk] at e; subst e
          obtain ⟨ys, h, ra⟩ := ok.ob k _ hk
          exact ⟨_, ys, rfl, h, ra⟩
        | _ => simp [lstOf, hk] at e
    | _ => cases e
theorem seqOf_ok {t : Tv} {y : V} {xs : List Val} (ok : Ok D n μ H st) (r : Rt D n μ H t y) (e : seqOf t st = some xs) :
    ∃ a ys, y = .ref a ∧ RpAll D n μ H xs ys ∧ (SqL D.K H a ys ∨ (t = .v (.tup xs) ∧ SqT D.K H a ys)) := by
  cases t with
  | l zs =>
    cases e
    obtain ⟨a, ys, e1, ha, ra, _⟩ := r
    exact ⟨a, ys, e1, ra, .inl (SqL.of ha)⟩
  | v x =>
    cases x with
    | tup zs =>
      cases e
      cases r with
      | tup h ra => exact ⟨_, _, rfl, ra, .inr ⟨rfl, h.sq⟩⟩
    | ref k =>
      cases r
      skip
      cases hk : st[k]? with
      | none => simp [seqOf, hk] at e
      | some o =>
        cases o with
        | lst zs =>
          simp [seqOf, hk] at e; subst e
          obtain ⟨ys, h, ra⟩ := ok.ob k _ hk
          exact ⟨_, ys, rfl, ra, .inl (SqL.of h)⟩
        | frz zs =>
          simp [seqOf, hk] at e; subst e
          obtain ⟨o, ys, h, ra⟩ := ok.ob k _ hk
          exact ⟨_, ys, rfl, ra, .inl (.inl (.inr ⟨o, h⟩))⟩
        | _ => simp [seqOf, hk] at e
    | _ => cases e
end

section
variable {X : Cx} {D : Wd} {a b c e : Expr} {es : List Expr} {fa fb fc : Ev} {pos : Pos}
/-! ### constants, names -/
theorem e_C {x : Val} {y : V} (h : PE X e (tC y)) (r : ∀ n μ H, Rp D n μ H x y) : SE X D e (eC x) := PE_imp h fun σ H Q ⟨n, μ, ρ, st, z, st', ok, er, hf, an⟩ => by
  cases hf
  exact ans_v an ok (r _ _ _)
theorem e_int {i : Int} {j : Nat} : SE X D (.Constant (.int i) j pos) (eC (.int i)) := e_C pe_int fun _ _ _ => .int i
theorem e_bool {i : Bool} {j : Nat} : SE X D (.Constant (.bool i) j pos) (eC (.bool i)) := e_C pe_bl fun _ _ _ => .bool i
theorem e_non {j : Nat} : SE X D (.Constant .none j pos) (eC .non) := e_C pe_non fun _ _ _ => .non
theorem e_str {k : Nat} {z : Str} {j : Nat} (h : D.S[k]? = some z) : SE X D (.Constant (.str z) j pos) (eC (.str k)) := e_C pe_str fun _ _ _ => .str h
theorem e_V {i : Nat} {x : Str} (hN : X.N[i]? = some x) (hv : Vis X.env.scope x) (hd : (x == ("__debug__" : Str)) = false) (hcd : (x == ("__classdict__" : Str)) = false) : SE X D (.Name x pos) (eV i) :=
  PE_imp (pe_var hN hv hd hcd) fun σ H Q ⟨n, μ, ρ, st, z, st', ok, er, hf, an⟩ => by
    unfold eV at hf
    cases h1 : ρ[i]? with
    | none => rw [h1] at hf; cases hf
    | some o =>
      cases o with
      | none => rw [h1] at hf; cases hf
      | some w =>
        rw [h1] at hf
        cases hf
        obtain ⟨y, hy, r⟩ := er.2.1 i _ h1
        exact ⟨y, hy, ans_v an ok r⟩

/-! ### arguments, displays -/
theorem a_nil : SA X D [] aNil := PA_imp pa_nil fun σ H Q ⟨n, μ, ρ, st, z, st', ok, er, hf, an⟩ => by
  cases hf
  exact an n μ H [] ok (Le.refl _ _ _) .nil
theorem cons_rd {r : Avs} {σ : L2.St} {H : Hp} {Q : List V → Hp → Prop} (h : rA D (aCons fa r) σ H Q) : tCons (rE D fa) (rA D r) σ H Q := by
  obtain ⟨n, μ, ρ, st, z, st', ok, er, hf, an⟩ := h
  obtain ⟨t, s1, h1, hf⟩ := bind_eq_ok hf
  obtain ⟨x, s2, h2, hf⟩ := bind_eq_ok hf
  obtain ⟨xs, s3, h3, hf⟩ := bind_eq_ok hf
  cases hf
  refine ⟨n, μ, ρ, st, t, s1, ok, er, h1, fun n1 μ1 H1 y1 ok1 l1 r1 f1 => ?_⟩
  obtain ⟨n2, μ2, ok2, l2, r2, tr, hn, hm⟩ := mat_ok h2 ok1 l1 r1 f1
  refine ⟨n2, μ2, ρ, s2, xs, _, ok2, er.mono l2, h3, fun n3 μ3 H3 ys ok3 l3 r3 => ?_⟩
  exact an n3 μ3 H3 _ ok3 (l2.trans l3) (.cons (r2.mono l3) r3)
theorem a_cons {r : Avs} (ha : SE X D e fa) (hr : SA X D es r) (hs : starEach (e :: es) X.env = (false, eval e X.env) :: starEach es X.env := by rfl) : SA X D (e :: es) (aCons fa r) :=
  PA_imp (pa_cons ha hr hs) fun _ _ _ h => cons_rd h
theorem e_tup {r : Avs} {k : Nat} (h : SA X D es r) : SE X D (.Tuple es k pos) (eTup r) := PE_imp (pe_tup h) fun σ H Q ⟨n, μ, ρ, st, z, st', ok, er, hf, an⟩ => by
  obtain ⟨xs, s1, h1, hf⟩ := bind_eq_ok hf
  by_cases hl : xs.length ≤ LIM
  · rw [if_pos hl] at hf
    cases hf
    refine ⟨n, μ, ρ, st, xs, _, ok, er, h1, fun n1 μ1 H1 ys ok1 l1 r1 => ⟨by rw [← r1.length, sizeLine_eq]; exact hl, fun p hp => ans_tup (an.le l1) ok1 r1 hp⟩⟩
  · rw [if_neg hl] at hf; cases hf
theorem e_lst {r : Avs} (h : SA X D es r) : SE X D (.List es pos) (eLst r) := PE_imp (pe_lst h) fun σ H Q ⟨n, μ, ρ, st, z, st', ok, er, hf, an⟩ => by
  obtain ⟨xs, s1, h1, hf⟩ := bind_eq_ok hf
  by_cases hl : xs.length ≤ LIM
  · rw [if_pos hl] at hf
    cases hf
    refine ⟨n, μ, ρ, st, xs, _, ok, er, h1, fun n1 μ1 H1 ys ok1 l1 r1 => ⟨by rw [← r1.length, sizeLine_eq]; exact hl, fun p hp => ans_lst (an.le l1) ok1 r1 hp⟩⟩
  · rw [if_neg hl] at hf; cases hf

/-! ### two-place operations -/
theorem bin_rd {o : Op2} {σ : L2.St} {H : Hp} {Q : VK} (h : rE D (eBin o fa fb) σ H Q) : tOp (rO D o) (rE D fa) (rE D fb) σ H Q := by
  obtain ⟨n, μ, ρ, st, z, st', ok, er, hf, an⟩ := h
  obtain ⟨x, s1, h1, hf⟩ := bind_eq_ok hf
  obtain ⟨y, s2, h2, hf⟩ := bind_eq_ok hf
  exact ⟨n, μ, ρ, st, x, s1, ok, er, h1, fun n1 μ1 H1 y1 ok1 l1 r1 f1 => ⟨n1, μ1, ρ, s1, y, s2, ok1, er.mono l1, h2, fun n2 μ2 H2 y2 ok2 l2 r2 f2 => ⟨n2, μ2, s2, x, y, z, st', ok2, r1.mono l2, r2, hf, an.le (l1.trans l2)⟩⟩⟩
theorem e_bin {op : Operator} {o : Op2} (ho : OpR X (binaryOp op) (rO D o)) (ha : SE X D a fa) (hb : SE X D b fb) : SE X D (.BinOp a op b pos) (eBin o fa fb) :=
  PE_imp (pe_op ho ha hb) fun _ _ _ h => bin_rd h
theorem e_cmp {op : CmpOp} {o : Op2} (ho : OpR X (compareOp op) (rO D o)) (ha : SE X D a fa) (hb : SE X D b fb) (hm : behindInMarks op b = false := by rfl) : SE X D (.Compare a [op] [b] pos) (eBin o fa fb) :=
  PE_imp (pe_cmpR ho ha hb hm) fun _ _ _ h => bin_rd h
theorem e_neg (ha : SE X D a fa) : SE X D (.UnaryOp .USub a pos) (eNeg fa) := PE_imp (pe_un un_neg ha) fun σ H Q ⟨n, μ, ρ, st, z, st', ok, er, hf, an⟩ => by
  obtain ⟨x, s1, h1, hf⟩ := bind_eq_ok hf
  refine ⟨n, μ, ρ, st, x, s1, ok, er, h1, fun n1 μ1 H1 y1 ok1 l1 r1 f1 => ?_⟩
  cases x with
  | l _ => cases hf
  | v x =>
    cases x with
    | int i => cases hf; cases r1; exact ⟨i, rfl, ans_v (an.le l1) ok1 (.int _)⟩
    | _ => cases hf
theorem e_not (ha : SE X D a fa) : SE X D (.UnaryOp .Not a pos) (eNot fa) := PE_imp (pe_not ha) fun σ H Q ⟨n, μ, ρ, st, z, st', ok, er, hf, an⟩ => by
  obtain ⟨x, s1, h1, hf⟩ := bind_eq_ok hf
  refine ⟨n, μ, ρ, st, x, s1, ok, er, h1, fun n1 μ1 H1 y1 ok1 l1 r1 f1 => ?_⟩
  cases x with
  | l _ => cases hf
  | v x =>
    cases x with
    | bool i => cases hf; cases r1; exact ⟨i, rfl, ans_v (an.le l1) ok1 (.bool _)⟩
    | _ => cases hf
theorem e_one {op : BoolOp} (ha : SE X D a fa) : SE X D (.BoolOp op [a] pos) fa := pe_one ha
theorem e_and {rest : List Expr} (ha : SE X D a fa) (hb : SE X D (.BoolOp .And (b :: rest) pos) fb) : SE X D (.BoolOp .And (a :: b :: rest) pos) (eAnd fa fb) := PE_imp (pe_and ha hb) fun σ H Q ⟨n, μ, ρ, st, z, st', ok, er, hf, an⟩ => by
  obtain ⟨x, s1, h1, hf⟩ := bind_eq_ok hf
  refine ⟨n, μ, ρ, st, x, s1, ok, er, h1, fun n1 μ1 H1 y1 ok1 l1 r1 f1 => ?_⟩
  cases x with
  | l _ => cases hf
  | v x =>
    cases x with
    | bool i =>
      cases r1
      refine ⟨i, rfl, ?_⟩
      cases i with
      | true => exact ⟨n1, μ1, ρ, s1, z, st', ok1, er.mono l1, hf, an.le l1⟩
      | false => cases hf; exact ans_v (an.le l1) ok1 (.bool _)
    | _ => cases hf
theorem e_or {rest : List Expr} (ha : SE X D a fa) (hb : SE X D (.BoolOp .Or (b :: rest) pos) fb) : SE X D (.BoolOp .Or (a :: b :: rest) pos) (eOr fa fb) := PE_imp (pe_or ha hb) fun σ H Q ⟨n, μ, ρ, st, z, st', ok, er, hf, an⟩ => by
  obtain ⟨x, s1, h1, hf⟩ := bind_eq_ok hf
  refine ⟨n, μ, ρ, st, x, s1, ok, er, h1, fun n1 μ1 H1 y1 ok1 l1 r1 f1 => ?_⟩
  cases x with
  | l _ => cases hf
  | v x =>
    cases x with
    | bool i =>
      cases r1
      refine ⟨i, rfl, ?_⟩
      cases i with
      | false => exact ⟨n1, μ1, ρ, s1, z, st', ok1, er.mono l1, hf, an.le l1⟩
      | true => cases hf; exact ans_v (an.le l1) ok1 (.bool _)
    | _ => cases hf
theorem e_chain {op op' : CmpOp} {o o' : Op2} (ho : OpR X (compareOp op) (rO D o)) (ho' : OpR X (compareOp op') (rO D o')) (ha : SE X D a fa) (hb : SE X D b fb) (hc : SE X D c fc)
    (hm : lastMarks [op, op'] [b, c] = false := by rfl) : SE X D (.Compare a [op, op'] [b, c] pos) (eChain o o' fa fb fc) := PE_imp (pe_chain ho ho' ha hb hc hm) fun σ H Q ⟨n, μ, ρ, st, z, st', ok, er, hf, an⟩ => by
  obtain ⟨x, s1, h1, hf⟩ := bind_eq_ok hf
  obtain ⟨y, s2, h2, hf⟩ := bind_eq_ok hf
  obtain ⟨w, s3, h3, hf⟩ := bind_eq_ok hf
  refine ⟨n, μ, ρ, st, x, s1, ok, er, h1, fun n1 μ1 H1 y1 ok1 l1 r1 f1 => ⟨n1, μ1, ρ, s1, y, s2, ok1, er.mono l1, h2, fun n2 μ2 H2 y2 ok2 l2 r2 f2 => ⟨n2, μ2, s2, x, y, w, s3, ok2, r1.mono l2, r2, h3, fun n3 μ3 H3 y3 ok3 l3 r3 f3 => ?_⟩⟩⟩
  cases w with
  | l _ => cases hf
  | v w =>
    cases w with
    | bool k =>
      cases r3
      refine ⟨k, rfl, ?_⟩
      cases k with
      | false => cases hf; exact ans_v (an.le (l1.trans (l2.trans l3))) ok3 (.bool _)
      | true =>
        simp only [if_true] at hf ⊢
        obtain ⟨q, s4, h4, hf⟩ := bind_eq_ok hf
        exact ⟨n3, μ3, ρ, s3, q, s4, ok3, er.mono (l1.trans (l2.trans l3)), h4, fun n4 μ4 H4 y4 ok4 l4 r4 f4 => ⟨n4, μ4, s4, y, q, z, st', ok4, (r2.mono l3).mono l4, r4, hf, an.le (l1.trans (l2.trans (l3.trans l4)))⟩⟩
    | _ => cases hf

/-! ### tests -/
theorem t_B (h : ∀ whole, isTrue e X.env whole = (do let v ← whole; standAt e.pos; holding [v] (truthy v))) (he : SE X D e fa) : ST X D e (tB fa) := PT_imp (pt_val he h) fun σ H Q ⟨n, μ, ρ, st, z, st', ok, er, hf, an⟩ => by
  obtain ⟨x, s1, h1, hf⟩ := bind_eq_ok hf
  refine ⟨n, μ, ρ, st, x, s1, ok, er, h1, fun n1 μ1 H1 y1 ok1 l1 r1 f1 => ?_⟩
  cases x with
  | l _ => cases hf
  | v x =>
    cases x with
    | bool i => cases hf; cases r1; exact ⟨_, rfl, an n1 μ1 H1 ok1 l1⟩
    | _ => cases hf
theorem t_cmp {op : CmpOp} {o : Op2} (ho : OpR X (compareOp op) (rO D o)) (ha : SE X D a fa) (hb : SE X D b fb) (hm : behindInMarks op b = false := by rfl) : ST X D (.Compare a [op] [b] pos) (tB (eBin o fa fb)) :=
  PT_imp (pt_cmpR ho ha hb hm) fun σ H Q ⟨n, μ, ρ, st, z, st', ok, er, hf, an⟩ => by
    obtain ⟨x, s1, h1, hf⟩ := bind_eq_ok hf
    refine bin_rd (fa := fa) (fb := fb) ⟨n, μ, ρ, st, x, s1, ok, er, h1, fun n1 μ1 H1 y1 ok1 l1 r1 f1 => ?_⟩
    cases x with
    | l _ => cases hf
    | v x =>
      cases x with
      | bool i => cases hf; cases r1; exact ⟨_, rfl, an n1 μ1 H1 ok1 l1⟩
      | _ => cases hf
theorem t_not {t : Tst} (h : ST X D a t) : ST X D (.UnaryOp .Not a pos) (VI.tNot t) := PT_imp (pt_not h) fun σ H Q ⟨n, μ, ρ, st, z, st', ok, er, hf, an⟩ => by
  obtain ⟨x, s1, h1, hf⟩ := bind_eq_ok hf
  cases hf
  exact ⟨n, μ, ρ, st, x, _, ok, er, h1, fun n1 μ1 H1 ok1 l1 => an n1 μ1 H1 ok1 l1⟩
abbrev SW (X : Cx) (D : Wd) (e : Expr) (f : Tst) : Prop := PW X e (rT D f)
theorem w_and1 {t : Tst} (h : ST X D a t) : SW X D (.BoolOp .And [a] pos) t := pw_and1 h
theorem w_or1 {t : Tst} (h : ST X D a t) : SW X D (.BoolOp .Or [a] pos) t := pw_or1 h
theorem w_and {t u : Tst} {rest : List Expr} (ha : ST X D a t) (hb : SW X D (.BoolOp .And (b :: rest) pos) u) : SW X D (.BoolOp .And (a :: b :: rest) pos) (VI.tAnd t u) := PW_imp (pw_and ha hb) fun σ H Q ⟨n, μ, ρ, st, z, st', ok, er, hf, an⟩ => by
  obtain ⟨x, s1, h1, hf⟩ := bind_eq_ok hf
  refine ⟨n, μ, ρ, st, x, s1, ok, er, h1, fun n1 μ1 H1 ok1 l1 => ?_⟩
  cases x with
  | true => exact ⟨n1, μ1, ρ, s1, z, st', ok1, er.mono l1, hf, fun n2 μ2 H2 ok2 l2 => an n2 μ2 H2 ok2 (l1.trans l2)⟩
  | false => cases hf; exact an n1 μ1 H1 ok1 l1
theorem w_or {t u : Tst} {rest : List Expr} (ha : ST X D a t) (hb : SW X D (.BoolOp .Or (b :: rest) pos) u) : SW X D (.BoolOp .Or (a :: b :: rest) pos) (VI.tOr t u) := PW_imp (pw_or ha hb) fun σ H Q ⟨n, μ, ρ, st, z, st', ok, er, hf, an⟩ => by
  obtain ⟨x, s1, h1, hf⟩ := bind_eq_ok hf
  refine ⟨n, μ, ρ, st, x, s1, ok, er, h1, fun n1 μ1 H1 ok1 l1 => ?_⟩
  cases x with
  | false => exact ⟨n1, μ1, ρ, s1, z, st', ok1, er.mono l1, hf, fun n2 μ2 H2 ok2 l2 => an n2 μ2 H2 ok2 (l1.trans l2)⟩
  | true => cases hf; exact an n1 μ1 H1 ok1 l1
theorem t_w {t : Tst} (h : SW X D e t) : ST X D e t := h.pt
theorem e_if {t : Tst} (hc : ST X D c t) (ha : SE X D a fa) (hb : SE X D b fb) : SE X D (.IfExp c a b pos) (eIf t fa fb) := PE_imp (pe_ifExp hc ha hb) fun σ H Q ⟨n, μ, ρ, st, z, st', ok, er, hf, an⟩ => by
  obtain ⟨x, s1, h1, hf⟩ := bind_eq_ok hf
  refine ⟨n, μ, ρ, st, x, s1, ok, er, h1, fun n1 μ1 H1 ok1 l1 => ?_⟩
  cases x with
  | true => exact ⟨n1, μ1, ρ, s1, z, st', ok1, er.mono l1, hf, an.le l1⟩
  | false => exact ⟨n1, μ1, ρ, s1, z, st', ok1, er.mono l1, hf, an.le l1⟩
theorem t_tru [Cok X D] (h : ∀ whole, isTrue e X.env whole = (do let v ← whole; standAt e.pos; holding [v] (truthy v))) (he : SE X D e fa) : ST X D e (tTru fa) := PT_imp (pt_truth he h) fun σ H Q ⟨n, μ, ρ, st, z, st', ok, er, hf, an⟩ => by
  obtain ⟨x, s1, h1, hf⟩ := bind_eq_ok hf
  refine ⟨n, μ, ρ, st, x, s1, ok, er, h1, fun n1 μ1 H1 y1 ok1 l1 r1 f1 => ?_⟩
  have hK := Cok.hK (X := X) (D := D)
  cases ht : tru x s1 with
  | none => rw [ht] at hf; cases hf
  | some k =>
    rw [ht] at hf
    cases hf
    have em : ∀ {xs : List Val} {ys : List V}, RpAll D n1 μ1 H1 xs ys → (!xs.isEmpty) = !ys.isEmpty := fun r => by cases r <;> rfl
    refine ⟨_, ?_, an n1 μ1 H1 ok1 l1⟩
    rw [hK]
    cases x with
    | l xs =>
      cases ht
      obtain ⟨p, ys, rfl, hp, ra, _⟩ := r1
      exact .inl ⟨ys, SqL.of hp, em ra⟩
    | v x =>
      cases x with
      | non => cases ht; cases r1; exact rfl
      | bool b => cases ht; cases r1; exact rfl
      | int i => cases ht; cases r1; exact rfl
      | str i => cases ht
      | tup xs =>
        cases ht
        cases r1 with
        | tup h ra => exact .inr (.inl ⟨_, h.sq, em ra⟩)
      | ref k =>
        cases r1
        skip
        cases hk : st'[k]? with
        | none => simp [tru, hk] at ht
        | some o =>
          cases o with
          | lst xs =>
            simp only [tru, hk, Option.some.injEq] at ht; subst ht
            obtain ⟨ys, h, ra⟩ := ok1.ob k _ hk
            exact .inl ⟨ys, SqL.of h, em ra⟩
          | frz xs =>
            simp only [tru, hk, Option.some.injEq] at ht; subst ht
            obtain ⟨o, ys, h, ra⟩ := ok1.ob k _ hk
            exact .inl ⟨ys, .inl (.inr ⟨o, h⟩), em ra⟩
          | _ => simp [tru, hk] at ht
end
end VI
end
section
set_option Elab.async false
set_option linter.all false
set_option maxRecDepth 100000
set_option maxHeartbeats 4000000
/-! VI3: operators and comparisons by values. -/
namespace VI
open PySem PySem.Spec PyProof.Rows L2
section
variable {X : Cx} {D : Wd}
theorem s_add [C : Cok X D] : OpR X (binaryOp .Add) (rO D oAdd) := by
  intro pins s σ H x y v u Q I rx ry ⟨n, μ, st, a, b, z, st', ok, ra, rb, hf, an⟩
  unfold oAdd at hf
  split at hf
  · cases hf; cases ra; cases rb
    exact op_add pins s σ H _ _ v u Q I rx ry ⟨_, _, rfl, rfl, ans_v an ok (.int _)⟩
  · rename_i sx l l'
    by_cases hl : l.length + l'.length ≤ LIM
    · rw [if_pos hl] at hf
      cases hf
      cases ra with
      | tup h1 q1 =>
        cases rb with
        | tup h2 q2 =>
          refine op_catA pins s σ H _ _ v u Q I rx ry ⟨_, _, _, _, rfl, rfl, ?_, ?_, ?_, fun e => ?_, fun e1 e2 => ?_, fun e1 e2 p hp => ans_tup an ok (q1.append q2) hp⟩
          · rw [C.hK]; exact h1.sq
          · rw [C.hK]; exact h2.sq
          · rw [← q1.length, ← q2.length, sizeLine_eq]; exact hl
          · subst e; cases q1; exact ans_v an ok (.tup h2 q2)
          · subst e2
            cases q2
            exact ans_v an ok (.tup h1 (by rw [List.append_nil]; exact q1))
    · rw [if_neg hl] at hf; cases hf
  · cases h1 : lstOf a st with
    | none => rw [h1] at hf; simp at hf
    | some l =>
      cases h2 : lstOf b st with
      | none => rw [h1, h2] at hf; cases hf
      | some l' =>
        rw [h1, h2] at hf
        by_cases hl : l.length + l'.length ≤ LIM
        · simp only [if_pos hl] at hf
          cases hf
          obtain ⟨a1, ys, rfl, ha, qa⟩ := lstOf_ok ok ra h1
          obtain ⟨b1, zs, rfl, hb, qb⟩ := lstOf_ok ok rb h2
          exact op_cat pins s σ H _ _ v u Q I rx ry ⟨_, _, _, _, rfl, rfl, ha, hb, by rw [← qa.length, ← qb.length, sizeLine_eq]; exact hl, fun p hp => ans_lst an ok (qa.append qb) hp⟩
        · simp only [if_neg hl] at hf; cases hf
theorem s_sub : OpR X (binaryOp .Sub) (rO D oSub) := by
  intro pins s σ H x y v u Q I rx ry ⟨n, μ, st, a, b, z, st', ok, ra, rb, hf, an⟩
  unfold oSub at hf
  split at hf
  · cases hf; cases ra; cases rb
    exact op_sub pins s σ H _ _ v u Q I rx ry ⟨_, _, rfl, rfl, ans_v an ok (.int _)⟩
  · cases hf
theorem s_mod : OpR X (binaryOp .Mod) (rO D oMod) := by
  intro pins s σ H x y v u Q I rx ry ⟨n, μ, st, a, b, z, st', ok, ra, rb, hf, an⟩
  unfold oMod at hf
  split at hf
  · rename_i sx i j
    by_cases hj : j ≠ 0
    · rw [if_pos hj] at hf
      cases hf; cases ra; cases rb
      exact op_modN pins s σ H _ _ v u Q I rx ry ⟨_, _, rfl, rfl, hj, ans_v an ok (.int _)⟩
    · rw [if_neg hj] at hf; cases hf
  · cases hf
theorem s_div : OpR X (binaryOp .FloorDiv) (rO D oDiv) := by
  intro pins s σ H x y v u Q I rx ry ⟨n, μ, st, a, b, z, st', ok, ra, rb, hf, an⟩
  unfold oDiv at hf
  split at hf
  · rename_i sx i j
    by_cases hj : j ≠ 0 ∧ j.natAbs < 1073741824
    · rw [if_pos hj] at hf
      cases hf; cases ra; cases rb
      exact op_fdivN pins s σ H _ _ v u Q I rx ry ⟨_, _, rfl, rfl, hj, ans_v an ok (.int _)⟩
    · rw [if_neg hj] at hf; cases hf
  · cases hf
theorem s_pow : OpR X (binaryOp .Pow) (rO D oPow) := by
  intro pins s σ H x y v u Q I rx ry ⟨n, μ, st, a, b, z, st', ok, ra, rb, hf, an⟩
  unfold oPow at hf
  split at hf
  · rename_i sx i j
    by_cases hj : 0 ≤ j ∧ j ≤ 64 ∧ i.natAbs < 2 ^ 200
    · rw [if_pos hj] at hf
      cases hf; cases ra; cases rb
      obtain ⟨t, rfl⟩ := rx
      obtain ⟨t', rfl⟩ := ry
      refine pow_int hj.1 ?_ ⟨.int _, H, I.tok _, ⟨_, rfl⟩, ans_v an ok (.int _)⟩
      have hb : Builtin.Int.intBits i ≤ 200 := intBits_le hj.2.2
      have h1 : ((Builtin.Int.intBits i : Nat) : Int) * j ≤ 200 * j := Int.mul_le_mul_of_nonneg_right (by omega) hj.1
      have h2 : (200 : Int) * j ≤ 200 * 64 := by have := hj.2.1; omega
      have h3 : (2 : Int) ^ 27 = 134217728 := by decide
      omega
    · rw [if_neg hj] at hf; cases hf
  · cases hf
end
/-! ### a tuple times 1, or 0 -/
theorem tuple_mul1 (l : Addr) (items : Array Value) (n : Nat) (dd : Option Addr) (sl : Array (Option Value)) (x : Int) (u : Tok) (c0 : (decide (x < -(2 ^ 63)) || decide (x ≥ 2 ^ 63)) = false) (c1 : (items.isEmpty || x == 1) = true) :
    Meets (Builtin.«tuple.__mul__» ⟨[.ref l, .int x u], []⟩) (fun _ R s => s.heap.get? l = some { cls := .type "tuple", dict := dd, data := .seq items n, slots := sl } ∧ R (.ok (.ret (Value.ref l))) s) :=
  .of_wp fun prog w A R s h => by
    obtain ⟨hp, g, d, tk, os⟩ := s
    obtain ⟨hl, h⟩ := h
    have f1 := AutoSeq1.idx_int
    wp_walk using wpAny_loadPart' hl
    repeat (first
      | (refine wpAny_ite_false (decide_eq_false (by rw [c0]; exact Bool.false_ne_true)) ?_; wp_walk using wpAny_loadPart' hl)
      | (refine wpAny_ite_true (decide_eq_true (by rw [c1])) ?_; wp_walk using wpAny_loadPart' hl))
    exact ⟨_, rfl, h⟩
theorem tuple_mul0 (l : Addr) (items : Array Value) (n : Nat) (dd : Option Addr) (sl : Array (Option Value)) (x : Int) (u : Tok) (c0 : (decide (x < -(2 ^ 63)) || decide (x ≥ 2 ^ 63)) = false) (c1 : (items.isEmpty || x == 1) = false) (c2 : (decide (x ≤ 0) || items.isEmpty) = true) :
    Meets (Builtin.«tuple.__mul__» ⟨[.ref l, .int x u], []⟩) (fun _ R s => s.heap.get? l = some { cls := .type "tuple", dict := dd, data := .seq items n, slots := sl } ∧
      R (.ok (.ret (Value.ref s.heap.objs.size))) { s with heap := s.heap.push { cls := Value.type "tuple", data := Data.seq #[] }, toks := s.toks }) :=
  .of_wp fun prog w A R s h => by
    obtain ⟨hp, g, d, tk, os⟩ := s
    obtain ⟨hl, h⟩ := h
    have f1 := AutoSeq1.idx_int
    wp_walk using wpAny_loadPart' hl
    repeat (first
      | (refine wpAny_ite_false (decide_eq_false (by rw [c0]; exact Bool.false_ne_true)) ?_; wp_walk using wpAny_loadPart' hl)
      | (refine wpAny_ite_false (decide_eq_false (by rw [c1]; exact Bool.false_ne_true)) ?_; wp_walk using wpAny_loadPart' hl)
      | (refine wpAny_ite_true (decide_eq_true (by rw [c2])) ?_; wp_walk using wpAny_loadPart' hl))
    exact ⟨_, rfl, h⟩
/-- a tuple that is not empty, times a small int -/
def rRepA (K : PySem.W.Frag) : R2 := fun x y H Q => ∃ l k xs, x = .ref l ∧ y = .int k ∧ SqT K H l xs ∧ xs ≠ [] ∧ -1000 ≤ k ∧ k ≤ 1000 ∧ xs.length ≤ 1000 ∧ (k = 1 → Q (.ref l) H) ∧ (k ≤ 0 → ∀ p, H p = none → Q (.ref p) (upd H p (.tup []))) ∧
  (2 ≤ k → ∀ p, H p = none → Q (.ref p) (upd H p (.tup (List.replicate k.toNat xs).flatten)))
theorem op_repA {X : Cx} : OpR X (binaryOp .Mult) (rRepA X.K) := by
  intro pins s σ H x y v u Q I rx ry h
  obtain ⟨l, k, xs, rfl, rfl, hT, hne, hlo, h2, hz, q1, q0, q2⟩ := h
  by_cases hk2 : 2 ≤ k
  · exact op_repT pins s σ H _ _ v u Q I rx ry ⟨l, k, xs, rfl, rfl, hT, hne, hk2, h2, hz, q2 hk2⟩
  cases rx
  obtain ⟨t, rfl⟩ := ry
  obtain ⟨its, r, ⟨⟨cls, dd, data, sl⟩, ho, hc, n, hd⟩, hs⟩ := I.tuple hT
  simp only at hc hd
  subst hc hd
  have hle : its.length = xs.length := r.length.symm
  have hi : its.toArray.isEmpty = false := by
    cases its with
    | nil => exact absurd (List.eq_nil_of_length_eq_zero hle.symm) hne
    | cons a b => rfl
  have c0 : (decide (k < -(2 ^ 63)) || decide (k ≥ 2 ^ 63)) = false := by
    rw [decide_eq_false (by omega), decide_eq_false (by omega)] <;> rfl
  by_cases h1 : k = 1
  · have c1 : (its.toArray.isEmpty || k == 1) = true := by rw [h1]; simp
    exact wpAny_binaryOp_repeat_ref (T := "tuple") (U := "int") (by decide) ⟨_, ho, rfl⟩ (fun s' => typeIs_int s' k t) noFill_tuple_mul F.fills_int_mul F.slot_int_rmul repeat_tuple F.slot_int_index.lookup
      (call_meets F.slot_int_rmul (typeIs_int s k t) F.entry_int_rmul (F.args_int_rmul_2 _ _) (int_rmul_tuple k t l its.toArray n dd sl)
        ⟨ho, rfl, ⟨_, ho, rfl⟩, call_meets F.slot_tuple_mul ⟨_, ho, rfl⟩ F.entry_tuple_mul (F.args_tuple_mul_2 _ _) (tuple_mul1 l its.toArray n dd sl k t c0 c1) ⟨ho, .ref l, H, I, rfl, q1 h1⟩⟩)
  · have h0 : k ≤ 0 := by omega
    have c1 : (its.toArray.isEmpty || k == 1) = false := by
      rw [hi, Bool.false_or]
      exact beq_eq_false_iff_ne.mpr h1
    have c2 : (decide (k ≤ 0) || its.toArray.isEmpty) = true := by rw [decide_eq_true h0]; rfl
    refine wpAny_binaryOp_repeat_ref (T := "tuple") (U := "int") (by decide) ⟨_, ho, rfl⟩ (fun s' => typeIs_int s' k t) noFill_tuple_mul F.fills_int_mul F.slot_int_rmul repeat_tuple F.slot_int_index.lookup
      (call_meets F.slot_int_rmul (typeIs_int s k t) F.entry_int_rmul (F.args_int_rmul_2 _ _) (int_rmul_tuple k t l its.toArray n dd sl)
        ⟨ho, rfl, ⟨_, ho, rfl⟩, call_meets F.slot_tuple_mul ⟨_, ho, rfl⟩ F.entry_tuple_mul (F.args_tuple_mul_2 _ _) (tuple_mul0 l its.toArray n dd sl k t c0 c1 c2) ⟨ho, ?_⟩⟩)
    refine ⟨.ref s.heap.objs.size, _, I.laid (t' := s.toks) (o := .tup []) (fun b ob q => Heap.get?_push_of_some _ q) (Nat.le_refl _) ?_, rfl, q0 h0 _ (I.hok.fresh (Nat.le_refl _))⟩
    exact ⟨Nat.zero_le _, [], .nil, IsTup.new _ _⟩
section
variable {X : Cx} {D : Wd}
theorem small_ok {i : Int} (h : small i = true) : -(2 ^ 64) < i ∧ i < 2 ^ 64 := by
  unfold small at h
  obtain ⟨a, b⟩ := Bool.and_eq_true_iff.mp h
  exact ⟨of_decide_eq_true a, of_decide_eq_true b⟩
theorem s_mul [C : Cok X D] : OpR X (binaryOp .Mult) (rO D oMul) := by
  intro pins s σ H x y v u Q I rx ry ⟨n, μ, st, a, b, z, st', ok, ra, rb, hf, an⟩
  unfold oMul at hf
  split at hf
  · rename_i sx i j
    by_cases hj : (small i || small j) = true
    · rw [if_pos hj] at hf
      cases hf; cases ra; cases rb
      exact op_mul pins s σ H _ _ v u Q I rx ry ⟨_, _, rfl, rfl, (Bool.or_eq_true_iff.mp hj).imp small_ok small_ok, ans_v an ok (.int _)⟩
    · rw [if_neg hj] at hf; cases hf
  · rename_i sx l k
    by_cases hk : -1000 ≤ k ∧ k ≤ 1000 ∧ l.length ≤ 1000 ∧ l.isEmpty = false
    · rw [if_pos hk] at hf
      cases hf
      cases rb
      cases ra with
      | tup h1 q1 =>
        obtain ⟨k1, k2, k3, k4⟩ := hk
        refine op_repA pins s σ H _ _ v u Q I rx ry ⟨_, _, _, rfl, rfl, (by rw [C.hK]; exact h1.sq), ?_, k1, k2, by rw [← q1.length]; exact k3, fun e => ?_, fun e p hp => ?_, fun e p hp => ans_tup an ok (q1.rep _) hp⟩
        · intro e
          subst e
          cases q1
          cases k4
        · subst e
          exact ans_v an ok (.tup h1 (by simpa using q1))
        · have e0 : k.toNat = 0 := by omega
          rw [e0] at an
          exact ans_tup an ok .nil hp
    · rw [if_neg hk] at hf; cases hf
  · rename_i sx k _ _
    cases h1 : lstOf a st with
    | none => rw [h1] at hf; cases hf
    | some l =>
      rw [h1] at hf
      by_cases hk : -(2 ^ 63) ≤ k ∧ k < 2 ^ 63 ∧ l.length * k.toNat ≤ LIM
      · simp only [if_pos hk] at hf
        cases hf
        cases rb
        obtain ⟨a1, ys, rfl, ha, qa⟩ := lstOf_ok ok ra h1
        exact op_rep pins s σ H _ _ v u Q I rx ry ⟨_, _, _, rfl, rfl, ha, hk.1, hk.2.1, by rw [← qa.length, sizeLine_eq]; exact hk.2.2, fun p hp => ans_lst an ok (qa.rep _) hp⟩
      · simp only [if_neg hk] at hf; cases hf
  · cases hf

/-! ### comparisons -/
theorem s_int {op : CmpOp} {p : Int → Int → Bool} (ho : OpR X (compareOp op) (rI0 fun i j => .bl (p i j))) : OpR X (compareOp op) (rO D (cInt p)) := by
  intro pins s σ H x y v u Q I rx ry ⟨n, μ, st, a, b, z, st', ok, ra, rb, hf, an⟩
  unfold cInt at hf
  split at hf
  · cases hf; cases ra; cases rb
    exact ho pins s σ H _ _ v u Q I rx ry ⟨_, _, rfl, rfl, ans_v an ok (.bool _)⟩
  · cases hf
theorem s_lt : OpR X (compareOp .Lt) (rO D cLt) := s_int op_lt
theorem s_le : OpR X (compareOp .LtE) (rO D cLe) := s_int op_le
theorem s_gt : OpR X (compareOp .Gt) (rO D cGt) := s_int op_gt
theorem s_ge : OpR X (compareOp .GtE) (rO D cGe) := s_int op_ge
theorem isN_ok {D : Wd} {n : Nat} {μ : Nat → Addr} {H : Hp} {t : Tv} {y : V} (r : Rt D n μ H t y) : isN t = decide (y = .non) := by
  cases t with
  | l xs => obtain ⟨a, ys, rfl, _⟩ := r; simp [isN]
  | v x => cases r <;> simp [isN]
theorem s_isN : OpR X (compareOp .Is) (rO D cIsN) := by
  intro pins s σ H x y v u Q I rx ry ⟨n, μ, st, a, b, z, st', ok, ra, rb, hf, an⟩
  unfold cIsN at hf
  split at hf
  · cases hf; cases rb
    exact op_isN pins s σ H _ _ v u Q I rx ry ⟨rfl, by rw [← isN_ok ra]; exact ans_v an ok (.bool _)⟩
  · cases hf
theorem s_notN : OpR X (compareOp .IsNot) (rO D cNotN) := by
  intro pins s σ H x y v u Q I rx ry ⟨n, μ, st, a, b, z, st', ok, ra, rb, hf, an⟩
  unfold cNotN at hf
  split at hf
  · cases hf; cases rb
    exact op_notN pins s σ H _ _ v u Q I rx ry ⟨rfl, by rw [← isN_ok ra]; exact ans_v an ok (.bool _)⟩
  · cases hf
end
end VI
end
section
set_option Elab.async false
set_option linter.all false
set_option maxRecDepth 100000
set_option maxHeartbeats 4000000
/-! VI4: ==, in, subscripts, slices, fields. -/
namespace VI
open PySem PySem.Spec PyProof.Rows L2
mutual
def Dt.py (S : List Str) : Dt → PyData
  | .non => .none
  | .bool b => .bool b
  | .int i => .int i
  | .str k => .str (S.getD k default)
  | .lst l => .list (Dt.pys S l)
  | .tup l => .tuple (Dt.pys S l)
def Dt.pys (S : List Str) : List Dt → List PyData
  | [] => []
  | d :: ds => Dt.py S d :: Dt.pys S ds
end
mutual
def Dt.okS (n : Nat) : Dt → Prop
  | .str k => k < n
  | .lst l => Dt.okSs n l
  | .tup l => Dt.okSs n l
  | _ => True
def Dt.okSs (n : Nat) : List Dt → Prop
  | [] => True
  | d :: ds => Dt.okS n d ∧ Dt.okSs n ds
end
/-- what the texts must be -/
class Wok (D : Wd) : Prop where
  nd : D.S.Nodup
  sok : ∀ z ∈ D.S, PyData.strOk z = true
section
variable {D : Wd}
theorem S_get {k : Nat} {z : Str} (h : D.S[k]? = some z) : D.S.getD k default = z := by rw [List.getD_eq_getElem?_getD, h]; rfl
theorem S_inj [W : Wok D] {j k : Nat} (hj : j < D.S.length) (hk : k < D.S.length) : (D.S.getD j default == D.S.getD k default) = (j == k) := by
  have e : ∀ i, i < D.S.length → D.S.getD i default = D.S[i]! := fun i hi => by simp [List.getD_eq_getElem?_getD, hi]
  rw [Bool.eq_iff_iff, beq_iff_eq, beq_iff_eq]
  constructor
  · intro h
    have h1 : D.S[j]? = some (D.S.getD j default) := by simp [List.getD_eq_getElem?_getD, hj]
    have h2 : D.S[k]? = some (D.S.getD k default) := by simp [List.getD_eq_getElem?_getD, hk]
    rw [h] at h1
    exact nodup_ix W.nd h1 h2
  · intro h; rw [h]
mutual
theorem eqv_py [Wok D] : ∀ (d e : Dt), d.okS D.S.length → e.okS D.S.length → PyData.eqv (d.py D.S) (e.py D.S) = Dt.eqv d e := by
  intro d e hd he
  cases d with
  | lst xs =>
    cases e with
    | lst ys => simp only [Dt.py, PyData.eqv, Dt.eqv]; exact eqvAll_py xs ys (by simpa [Dt.okS] using hd) (by simpa [Dt.okS] using he)
    | _ => simp only [Dt.py, PyData.eqv, Dt.eqv]
  | tup xs =>
    cases e with
    | tup ys => simp only [Dt.py, PyData.eqv, Dt.eqv]; exact eqvAll_py xs ys (by simpa [Dt.okS] using hd) (by simpa [Dt.okS] using he)
    | _ => simp only [Dt.py, PyData.eqv, Dt.eqv]
  | str j =>
    cases e with
    | str k => simp only [Dt.py, PyData.eqv, Dt.eqv]; exact S_inj (by simpa [Dt.okS] using hd) (by simpa [Dt.okS] using he)
    | _ => simp only [Dt.py, PyData.eqv, Dt.eqv]
  | _ => cases e <;> simp only [Dt.py, PyData.eqv, Dt.eqv]
theorem eqvAll_py [Wok D] : ∀ (xs ys : List Dt), Dt.okSs D.S.length xs → Dt.okSs D.S.length ys → PyData.eqvAll (Dt.pys D.S xs) (Dt.pys D.S ys) = Dt.eqvAll xs ys := by
  intro xs ys hx hy
  cases xs with
  | nil => cases ys <;> simp only [Dt.pys, PyData.eqvAll, Dt.eqvAll]
  | cons x xs =>
    cases ys with
    | nil => simp only [Dt.pys, PyData.eqvAll, Dt.eqvAll]
    | cons y ys =>
      simp only [Dt.pys, PyData.eqvAll, Dt.eqvAll]
      simp only [Dt.okSs] at hx hy
      rw [eqv_py x y hx.1 hy.1, eqvAll_py xs ys hx.2 hy.2]
end
variable {n : Nat} {μ : Nat → Addr} {H : Hp} {st : Store}
/-- what is known of a value's data -/
structure DOk (D : Wd) (H : Hp) (m : Nat) (y : V) (d : Dt) : Prop where
  dp : Dp D.K H y (d.py D.S)
  os : d.okS D.S.length
  lay : (d.py D.S).canLay0 = true
  dep : (d.py D.S).depth ≤ m
structure DsOk (D : Wd) (H : Hp) (m : Nat) (ys : List V) (ds : List Dt) : Prop where
  dp : DpAll D.K H ys (Dt.pys D.S ds)
  os : Dt.okSs D.S.length ds
  lay : PyData.canLayAll0 (Dt.pys D.S ds) = true
  dep : PyData.depthAll (Dt.pys D.S ds) ≤ m
theorem mapO_ok {m : Nat} (f : Val → Option Dt) (hf : ∀ x y d, f x = some d → Rp D n μ H x y → DOk D H m y d) : ∀ {l : List Val} {ys : List V} {ds : List Dt}, mapO f l = some ds → RpAll D n μ H l ys → DsOk D H m ys ds
  | [], _, _, e, .nil => by cases e; exact ⟨.nil, True.intro, rfl, Nat.zero_le _⟩
  | x :: l, _, ds, e, .cons h r => by
    unfold mapO at e
    cases h1 : f x with
    | none => rw [h1] at e; cases e
    | some d =>
      cases h2 : mapO f l with
      | none => rw [h1, h2] at e; cases e
      | some es =>
        rw [h1, h2] at e
        cases e
        obtain ⟨a1, a2, a3, a4⟩ := hf x _ d h1 h
        obtain ⟨b1, b2, b3, b4⟩ := mapO_ok f hf h2 r
        refine ⟨.cons a1 b1, ⟨a2, b2⟩, ?_, ?_⟩
        · simp only [Dt.pys, PyData.canLayAll0, a3, b3, Bool.and_self]
        · simp only [Dt.pys, PyData.depthAll]; omega
theorem scal_ok [W : Wok D] {m : Nat} {k : Nat} {z : Str} (h : D.S[k]? = some z) : DOk D H m (.str z) (.str k) := by
  have hk : k < D.S.length := (List.getElem?_eq_some_iff.mp h).1
  refine ⟨?_, by simpa [Dt.okS] using hk, ?_, by simp [Dt.py, PyData.depth]⟩
  · simp only [Dt.py]; rw [S_get h]; exact .str z
  · simp only [Dt.py, PyData.canLay0]; rw [S_get h]; exact W.sok z (List.mem_of_getElem? h)
theorem toD_ok [W : Wok D] (ok : Ok D n μ H st) : ∀ (m : Nat) (x : Val) (y : V) (d : Dt), toD st m x = some d → Rp D n μ H x y → DOk D H m y d
  | 0, x, y, d, e, r => by
    cases x with
    | non => cases e; cases r; exact ⟨.non, True.intro, rfl, Nat.zero_le _⟩
    | bool b => cases e; cases r; exact ⟨.bl b, True.intro, rfl, Nat.zero_le _⟩
    | int i => cases e; cases r; exact ⟨.int i, True.intro, rfl, Nat.zero_le _⟩
    | str k => cases e; cases r with | str h => exact scal_ok h
    | tup l => cases e
    | ref k => cases e
  | m + 1, x, y, d, e, r => by
    cases x with
    | non => cases e; cases r; exact ⟨.non, True.intro, rfl, Nat.zero_le _⟩
    | bool b => cases e; cases r; exact ⟨.bl b, True.intro, rfl, Nat.zero_le _⟩
    | int i => cases e; cases r; exact ⟨.int i, True.intro, rfl, Nat.zero_le _⟩
    | str k => cases e; cases r with | str h => exact scal_ok h
    | tup l =>
      unfold toD at e
      obtain ⟨ds, h1, rfl⟩ := Option.map_eq_some_iff.mp e
      cases r with
      | tup h r =>
        obtain ⟨a1, a2, a3, a4⟩ := mapO_ok (toD st m) (fun x y d => toD_ok ok m x y d) h1 r
        exact ⟨.tup h.sq a1, by simpa [Dt.okS] using a2, by simpa [Dt.py, PyData.canLay0] using a3, by simp only [Dt.py, PyData.depth]; omega⟩
    | ref k =>
      unfold toD at e
      cases r
      have fin : ∀ {l : List Val} {a : Addr} {ys : List V}, SqL D.K H a ys → RpAll D n μ H l ys → (mapO (toD st m) l).map Dt.lst = some d → DOk D H (m + 1) (.ref a) d := fun h r e => by
        obtain ⟨ds, h1, rfl⟩ := Option.map_eq_some_iff.mp e
        obtain ⟨a1, a2, a3, a4⟩ := mapO_ok (toD st m) (fun x y d => toD_ok ok m x y d) h1 r
        exact ⟨.lst h a1, by simpa [Dt.okS] using a2, by simpa [Dt.py, PyData.canLay0] using a3, by simp only [Dt.py, PyData.depth]; omega⟩
      cases hk : st[k]? with
      | none => simp [hk] at e
      | some o =>
        cases o with
        | lst l =>
          simp only [hk] at e
          obtain ⟨ys, h, ra⟩ := ok.ob k _ hk
          exact fin (SqL.of h) ra e
        | frz l =>
          simp only [hk] at e
          obtain ⟨o, ys, h, ra⟩ := ok.ob k _ hk
          exact fin (.inl (.inr ⟨o, h⟩)) ra e
        | _ => simp [hk] at e
theorem toDs_ok [W : Wok D] (ok : Ok D n μ H st) {m : Nat} {l : List Val} {ys : List V} {ds : List Dt} (e : toDs st m l = some ds) (r : RpAll D n μ H l ys) : DsOk D H m ys ds := mapO_ok _ (fun x y d => toD_ok ok m x y d) e r
theorem tvD_ok [W : Wok D] (ok : Ok D n μ H st) {t : Tv} {y : V} {d : Dt} (e : tvD st t = some d) (r : Rt D n μ H t y) : DOk D H (DEEP + 1) y d := by
  cases t with
  | v x =>
    obtain ⟨a1, a2, a3, a4⟩ := toD_ok ok DEEP x y d e r
    exact ⟨a1, a2, a3, Nat.le_succ_of_le a4⟩
  | l xs =>
    obtain ⟨a, ys, rfl, ha, ra, _⟩ := r
    unfold tvD at e
    obtain ⟨ds, h1, rfl⟩ := Option.map_eq_some_iff.mp e
    obtain ⟨a1, a2, a3, a4⟩ := toDs_ok ok h1 ra
    exact ⟨.lst (SqL.of ha) a1, by simpa [Dt.okS] using a2, by simpa [Dt.py, PyData.canLay0] using a3, by simp only [Dt.py, PyData.depth]; omega⟩
theorem DOk.shaped {m : Nat} {y : V} {d : Dt} (h : DOk D H m y d) (hm : m ≤ 64) : SeqAt.shaped (d.py D.S) = true := by
  unfold SeqAt.shaped
  rw [h.lay, Bool.true_and]
  exact decide_eq_true (Nat.le_trans h.dep hm)
theorem any_py [Wok D] {d : Dt} (hd : d.okS D.S.length) : ∀ (ds : List Dt), Dt.okSs D.S.length ds → ((Dt.pys D.S ds).any fun z => PyData.eqv z (d.py D.S)) = ds.any fun z => Dt.eqv z d
  | [], _ => rfl
  | e :: es, h => by
    simp only [Dt.okSs] at h
    simp only [Dt.pys, List.any_cons, eqv_py e d h.1 hd, any_py hd es h.2]
end

section
variable {X : Cx} {D : Wd}
theorem ans_of {n : Nat} {μ : Nat → Addr} {H : Hp} {st st' : Store} {o : Option Bool} {z : Tv} {Q : VK} (hf : ans o st = .ok z st') (ok : Ok D n μ H st) (an : Ans D n μ H z st' Q) : ∃ b, o = some b ∧ Q (.bl b) H := by
  unfold ans at hf
  cases o with
  | none => cases hf
  | some b => cases hf; exact ⟨b, rfl, ans_v an ok (.bool b)⟩
theorem s_eq [C : Cok X D] [W : Wok D] (hu : X.A.units + 64 < cLine) : OpR X (compareOp .Eq) (rO D cEq) := by
  intro pins s σ H x y v u Q I rx ry ⟨n, μ, st, a, b, z, st', ok, ra, rb, hf, an⟩
  obtain ⟨r, e, q⟩ := ans_of hf ok an
  unfold eqT at e
  cases h1 : tvD st a with
  | none => rw [h1] at e; simp at e
  | some d =>
    cases h2 : tvD st b with
    | none => rw [h1, h2] at e; cases e
    | some d' =>
      rw [h1, h2] at e
      cases e
      have k1 := tvD_ok ok h1 ra
      have k2 := tvD_ok ok h2 rb
      refine op_eqD hu pins s σ H _ _ v u Q I rx ry ⟨_, _, ?_, ?_, k1.shaped (by decide), k2.shaped (by decide), by rw [eqv_py d d' k1.os k2.os]; exact q⟩
      · rw [C.hK]; exact k1.dp
      · rw [C.hK]; exact k2.dp
theorem s_ne [C : Cok X D] [W : Wok D] (hu : X.A.units + 64 < cLine) : OpR X (compareOp .NotEq) (rO D cNe) := by
  intro pins s σ H x y v u Q I rx ry ⟨n, μ, st, a, b, z, st', ok, ra, rb, hf, an⟩
  obtain ⟨r, e, q⟩ := ans_of hf ok an
  unfold eqT at e
  cases h1 : tvD st a with
  | none => rw [h1] at e; simp at e
  | some d =>
    cases h2 : tvD st b with
    | none => rw [h1, h2] at e; cases e
    | some d' =>
      rw [h1, h2] at e
      cases e
      have k1 := tvD_ok ok h1 ra
      have k2 := tvD_ok ok h2 rb
      refine op_neD hu pins s σ H _ _ v u Q I rx ry ⟨_, _, ?_, ?_, k1.shaped (by decide), k2.shaped (by decide), by rw [eqv_py d d' k1.os k2.os]; exact q⟩
      · rw [C.hK]; exact k1.dp
      · rw [C.hK]; exact k2.dp
theorem flat_ok {n : Nat} {μ : Nat → Addr} {H : Hp} {x : Val} {y : V} (h : flat x = true) (r : Rp D n μ H x y) : flatV y = true := by
  cases r <;> first | rfl | cases h
theorem flats_ok {n : Nat} {μ : Nat → Addr} {H : Hp} : ∀ {xs : List Val} {ys : List V}, xs.all flat = true → RpAll D n μ H xs ys → ys.all flatV = true
  | _, _, _, .nil => rfl
  | x :: xs, _, h, .cons r q => by
    rw [List.all_cons, Bool.and_eq_true] at h
    rw [List.all_cons, flat_ok h.1 r, flats_ok h.2 q]
    rfl
theorem flatEq_ok [W : Wok D] {n : Nat} {μ : Nat → Addr} {H : Hp} {x x' : Val} {y y' : V} (r : Rp D n μ H x y) (r' : Rp D n μ H x' y') : eqV y y' = flatEq x x' := by
  cases r with
  | str h =>
    cases r' with
    | str h' =>
      show (_ == _) = (_ == _)
      rw [Bool.eq_iff_iff, beq_iff_eq, beq_iff_eq]
      constructor
      · intro e; subst e; exact nodup_ix W.nd h h'
      · intro e; subst e; rw [h] at h'; cases h'; rfl
    | _ => rfl
  | _ => cases r' <;> rfl
theorem inV_ok [W : Wok D] {n : Nat} {μ : Nat → Addr} {H : Hp} {x : Val} {y : V} (r : Rp D n μ H x y) : ∀ {xs : List Val} {ys : List V}, RpAll D n μ H xs ys → inV y ys = xs.any fun z => flatEq z x
  | _, _, .nil => rfl
  | _, _, .cons h q => by
    unfold inV
    rw [List.any_cons, List.any_cons, flatEq_ok h r]
    exact congrArg _ (inV_ok r q)
theorem in_cases [C : Cok X D] [W : Wok D] {n : Nat} {μ : Nat → Addr} {H : Hp} {st : Store} {a b : Tv} {x y : V} {r : Bool} (ok : Ok D n μ H st) (ra : Rt D n μ H a x) (rb : Rt D n μ H b y) (e : isIn a b st = some r) :
    (∃ p ys, y = .ref p ∧ SqT X.K H p ys ∧ flatV x = true ∧ ys.all flatV = true ∧ inV x ys = r) ∨
    (∃ d ds, Dp X.K H x d ∧ Dp X.K H y (.list ds) ∧ SeqAt.shaped d = true ∧ SeqAt.shaped (.list ds) = true ∧ (ds.any fun z => PyData.eqv z d) = r) := by
  unfold isIn at e
  split at e
  · rename_i ys
    split at e
    · rename_i x0
      by_cases hc : (flat x0 && ys.all flat) = true
      · rw [if_pos hc] at e
        cases e
        obtain ⟨h1, h2⟩ := Bool.and_eq_true_iff.mp hc
        cases rb with
        | tup h q => exact .inl ⟨_, _, rfl, by rw [C.hK]; exact h.sq, flat_ok h1 ra, flats_ok h2 q, inV_ok ra q⟩
      · rw [if_neg hc] at e; cases e
    · cases e
  · rename_i y0 _
    cases h1 : lstOf b st with
    | none => rw [h1] at e; cases e
    | some ys =>
      cases h2 : tvD st a with
      | none => rw [h1, h2] at e; cases e
      | some d =>
        rw [h1, h2] at e
        simp only at e
        cases h3 : toDs st DEEP ys with
        | none => rw [h3] at e; cases e
        | some ds =>
          rw [h3] at e
          cases e
          obtain ⟨p, zs, rfl, hp, q⟩ := lstOf_ok ok rb h1
          have k1 := tvD_ok ok h2 ra
          obtain ⟨b1, b2, b3, b4⟩ := toDs_ok ok h3 q
          refine .inr ⟨_, _, by rw [C.hK]; exact k1.dp, by rw [C.hK]; exact .lst (SqL.of hp) b1, k1.shaped (by decide), ?_, any_py k1.os ds b2⟩
          unfold SeqAt.shaped
          simp only [PyData.canLay0, b3, Bool.true_and, PyData.depth]
          exact decide_eq_true (by have : DEEP = 20 := rfl; omega)
theorem s_in [C : Cok X D] [W : Wok D] (hu : X.A.units + 65 < cLine) : OpR X (compareOp .In) (rO D cIn) := by
  intro pins s σ H x y v u Q I rx ry ⟨n, μ, st, a, b, z, st', ok, ra, rb, hf, an⟩
  obtain ⟨r, e, q⟩ := ans_of hf ok an
  rcases in_cases (X := X) ok ra rb e with ⟨p, ys, rfl, h1, h2, h3, h4⟩ | ⟨d, ds, h1, h2, h3, h4, h5⟩
  · exact op_in_seq pins s σ H _ _ v u Q I rx ry ⟨p, ys, rfl, .inr h1, h2, h3, by rw [← h4] at q; exact q⟩
  · exact op_inD hu pins s σ H _ _ v u Q I rx ry ⟨d, ds, h1, h2, h3, h4, by rw [h5]; exact q⟩
theorem s_notIn [C : Cok X D] [W : Wok D] (hu : X.A.units + 65 < cLine) : OpR X (compareOp .NotIn) (rO D cNotIn) := by
  intro pins s σ H x y v u Q I rx ry ⟨n, μ, st, a, b, z, st', ok, ra, rb, hf, an⟩
  obtain ⟨r, e, q⟩ := ans_of hf ok an
  obtain ⟨r', e', er⟩ := Option.map_eq_some_iff.mp e
  subst er
  rcases in_cases (X := X) ok ra rb e' with ⟨p, ys, rfl, h1, h2, h3, h4⟩ | ⟨d, ds, h1, h2, h3, h4, h5⟩
  · exact op_notIn_seq pins s σ H _ _ v u Q I rx ry ⟨p, ys, rfl, .inr h1, h2, h3, by rw [← h4] at q; exact q⟩
  · exact op_notInD hu pins s σ H _ _ v u Q I rx ry ⟨d, ds, h1, h2, h3, h4, by rw [h5]; exact q⟩

/-! ### subscripts -/
variable {a b e : Expr} {fa fb fe : Ev} {pos p2 : Pos}
theorem atI_ok {n : Nat} {μ : Nat → Addr} {H : Hp} {xs : List Val} {ys : List V} {i : Int} {x : Val} (h : VI.atI xs i = some x) (r : RpAll D n μ H xs ys) : ∃ y, L2.atI ys i = some y ∧ Rp D n μ H x y := by
  unfold VI.atI at h
  cases e : VI.ixN xs.length i with
  | none => rw [e] at h; cases h
  | some j =>
    rw [e] at h
    obtain ⟨y, h1, h2⟩ := r.get h
    refine ⟨y, ?_, h2⟩
    unfold L2.atI
    rw [show L2.ixN ys.length i = some j from by rw [← r.length]; exact e]
    exact h1
theorem e_idx [C : Cok X D] (ha : SE X D a fa) (hb : SE X D b fb) (hs : PlainIx b) : SE X D (.Subscript a b pos) (eBin oIdx fa fb) := by
  refine PE_imp (pe_ix (r := fun x y H Q => rIxL X.K x y H Q ∨ rIxT X.K x y H Q) (ix_list.or ix_tup) ha hb hs) fun σ H Q h => ?_
  obtain ⟨n, μ, ρ, st, z, st', ok, er, hf, an⟩ := h
  obtain ⟨x, s1, h1, hf⟩ := bind_eq_ok hf
  obtain ⟨y, s2, h2, hf⟩ := bind_eq_ok hf
  refine ⟨n, μ, ρ, st, x, s1, ok, er, h1, fun n1 μ1 H1 y1 ok1 l1 r1 f1 => ⟨n1, μ1, ρ, s1, y, s2, ok1, er.mono l1, h2, fun n2 μ2 H2 y2 ok2 l2 r2 f2 => ?_⟩⟩
  unfold oIdx at hf
  split at hf
  · cases r2
    split at hf
    · rename_i xs hq
      split at hf
      · rename_i w hw
        cases hf
        obtain ⟨p, ys, rfl, ra, hs⟩ := seqOf_ok ok2 (r1.mono l2) hq
        obtain ⟨yv, ha', rv⟩ := atI_ok hw ra
        rcases hs with hs | ⟨_, hs⟩
        · exact .inl ⟨p, ys, _, yv, rfl, rfl, by rw [C.hK]; exact hs, ha', ans_v (an.le (l1.trans l2)) ok2 rv⟩
        · exact .inr ⟨p, ys, _, yv, rfl, rfl, by rw [C.hK]; exact hs, ha', ans_v (an.le (l1.trans l2)) ok2 rv⟩
      · cases hf
    · cases hf
  · cases hf
/-! ### slices -/
theorem sIx_eq (n d : Nat) (o : Option Int) : VI.sIx n d o = HT.sIx n d o := by cases o <;> rfl
theorem cut_ok {n : Nat} {μ : Nat → Addr} {H : Hp} {xs : List Val} {ys : List V} (lo hi : Option Int) (r : RpAll D n μ H xs ys) : RpAll D n μ H (VI.cutV xs lo hi) (L2.cutV ys lo hi) := by
  unfold VI.cutV L2.cutV
  rw [sIx_eq, sIx_eq, r.length]
  exact (r.drop _).take _
def rPo (D : Wd) (e : Option Ev) : TO := fun σ H Q => ∃ n μ ρ st i st', Ok D n μ H st ∧ EnvR D n μ H ρ σ ∧ optI e ρ st = .ok i st' ∧ ∀ n' μ' H', Ok D n' μ' H' st' → Le n μ H n' μ' H' → Q i H'
abbrev SO (X : Cx) (D : Wd) (e : Option Expr) (f : Option Ev) : Prop := PO X e (rPo D f)
theorem o_none : SO X D none none := ⟨fun pins s σ H Q I ⟨n, μ, ρ, st, i, st', ok, er, hf, an⟩ => by
  cases hf
  exact po_none.run pins s σ H Q I (an n μ H ok (Le.refl _ _ _))⟩
theorem o_some (h : SE X D e fe) : SO X D (some e) (some fe) := ⟨fun pins s σ H Q I ⟨n, μ, ρ, st, i, st', ok, er, hf, an⟩ => by
  refine (po_some h).run pins s σ H Q I ?_
  obtain ⟨x, s1, h1, hf⟩ := bind_eq_ok hf
  refine ⟨n, μ, ρ, st, x, s1, ok, er, h1, fun n1 μ1 H1 y1 ok1 l1 r1 f1 => ?_⟩
  cases x with
  | l _ => cases hf
  | v x =>
    cases x with
    | int j => cases hf; cases r1; exact ⟨j, rfl, an n1 μ1 H1 ok1 l1⟩
    | _ => cases hf⟩
theorem sl_rd {lo hi : Option Ev} {r : V → Option Int → Option Int → Hp → VK → Prop} {σ : L2.St} {H : Hp} {Q : VK} (h : rE D (eSl fe lo hi) σ H Q)
    (k : ∀ n μ st x y i j z st' H, Ok D n μ H st → Rt D n μ H x y → slc x i j st = .ok z st' → Ans D n μ H z st' Q → r y i j H Q) : tSl r (rE D fe) (rPo D lo) (rPo D hi) σ H Q := by
  obtain ⟨n, μ, ρ, st, z, st', ok, er, hf, an⟩ := h
  obtain ⟨x, s1, h1, hf⟩ := bind_eq_ok hf
  obtain ⟨i, s2, h2, hf⟩ := bind_eq_ok hf
  obtain ⟨j, s3, h3, hf⟩ := bind_eq_ok hf
  exact ⟨n, μ, ρ, st, x, s1, ok, er, h1, fun n1 μ1 H1 y1 ok1 l1 r1 f1 => ⟨n1, μ1, ρ, s1, i, s2, ok1, er.mono l1, h2, fun n2 μ2 H2 ok2 l2 => ⟨n2, μ2, ρ, s2, j, s3, ok2, er.mono (l1.trans l2), h3, fun n3 μ3 H3 ok3 l3 =>
    k n3 μ3 s3 x y1 i j z st' H3 ok3 ((r1.mono l2).mono l3) hf (an.le (l1.trans (l2.trans l3)))⟩⟩⟩
theorem e_sl [C : Cok X D] {lo hi : Option Expr} {fl fh : Option Ev} (he : SE X D e fe) (hl : SO X D lo fl) (hh : SO X D hi fh) : SE X D (.Subscript e (.Slice lo hi none p2) pos) (eSl fe fl fh) :=
  PE_imp (pe_slice (sl_list.or sl_tupA) he hl hh) fun σ H Q h => sl_rd h fun n μ st x y i j z st' H ok r hf an => by
    have lst : ∀ {xs : List Val} {p : Addr} {ys : List V}, RpAll D n μ H xs ys → SqL X.K H p ys → z = .l (VI.cutV xs i j) → st' = st → rSlL X.K (.ref p) i j H Q := fun {xs p ys} q h e1 e2 => by
      subst e1; subst e2
      exact ⟨p, ys, rfl, h, fun p' hp' => ans_lst an ok (cut_ok i j q) hp'⟩
    unfold slc at hf
    split at hf
    · rename_i xs
      cases hf
      cases r with
      | tup h q =>
        refine .inr ⟨_, _, rfl, by rw [C.hK]; exact h.sq, fun hw => ?_, fun _ p hp => ans_tup an ok (cut_ok i j q) hp⟩
        have e1 : VI.cutV xs i j = xs := by
          unfold VI.cutV
          rw [sIx_eq, sIx_eq, q.length, hw.1, hw.2, List.drop_zero, ← q.length, Nat.sub_zero, List.take_length]
        rw [e1] at an
        exact ans_v an ok (.tup h q)
    · rename_i x' hnt
      split at hf
      · rename_i xs hq
        cases hf
        obtain ⟨p, ys, rfl, q, hs⟩ := seqOf_ok ok r hq
        rcases hs with hs | ⟨e1, hs⟩
        · exact .inl (lst q (by rw [C.hK]; exact hs) rfl rfl)
        · exact absurd e1 (hnt xs)
      · cases hf
/-! ### fields -/
theorem FsR.look {n : Nat} {μ : Nat → Addr} {H : Hp} {f : Nat} {z : Str} [W : Wok D] (hz : D.S[f]? = some z) : ∀ {fs : List (Nat × Val)} {gs : List (Str × V)} {x : Val}, FsR D n μ H fs gs → fs.lookup f = some x → ∃ y, gs.lookup z = some y ∧ Rp D n μ H x y
  | _, _, _, .nil, h => by cases h
  | _, _, x, .cons (f := g) (z := w) h h' r, e => by
    by_cases hg : f = g
    · subst hg
      rw [hz] at h; cases h
      simp [List.lookup] at e
      subst e
      exact ⟨_, by simp [List.lookup], h'⟩
    · have hg' : (f == g) = false := beq_eq_false_iff_ne.mpr hg
      have hw : (z == w) = false := beq_eq_false_iff_ne.mpr fun e' => hg (by subst e'; exact nodup_ix W.nd hz h)
      simp only [List.lookup, hg'] at e
      simp only [List.lookup, hw]
      exact FsR.look hz r e
theorem FsR.put {n : Nat} {μ : Nat → Addr} {H : Hp} {f : Nat} {z : Str} [W : Wok D] (hz : D.S[f]? = some z) {x : Val} {y : V} (hx : Rp D n μ H x y) : ∀ {fs : List (Nat × Val)} {gs : List (Str × V)}, FsR D n μ H fs gs → FsR D n μ H (VI.putF f x fs) (L2.putF z y gs)
  | _, _, .nil => .cons hz hx .nil
  | _, _, .cons (f := g) (z := w) h h' r => by
    unfold VI.putF L2.putF
    by_cases hg : g = f
    · subst hg
      rw [hz] at h; cases h
      rw [if_pos rfl, if_pos rfl]
      exact .cons hz hx r
    · rw [if_neg hg, if_neg fun e => hg (by subst e; exact nodup_ix W.nd h hz)]
      exact .cons h h' (FsR.put hz hx r)
theorem FsR.length {n : Nat} {μ : Nat → Addr} {H : Hp} : ∀ {fs : List (Nat × Val)} {gs : List (Str × V)}, FsR D n μ H fs gs → fs.length = gs.length
  | _, _, .nil => rfl
  | _, _, .cons _ _ r => congrArg (· + 1) r.length
/-- the attribute f of instances of the classes cs -/
structure CF (D : Wd) (cs : List Nat) (f : Nat) (z : Str) : Prop where
  nm : D.S[f]? = some z
  cl : ∀ c ∈ cs, Cls D.K (D.C c) ∧ NoAttr D.K (D.C c) z
theorem fldOf_ok {n : Nat} {μ : Nat → Addr} {H : Hp} {st : Store} {cs : List Nat} {x : Tv} {y : V} {f : Nat} {w : Val} (ok : Ok D n μ H st) (r : Rt D n μ H x y) (e : fldOf cs x f st = some w) :
    ∃ k c fs dx gs, x = .v (.ref k) ∧ y = .ref (μ k) ∧ k < n ∧ st[k]? = some (.ins c fs) ∧ c ∈ cs ∧ fs.lookup f = some w ∧ H (μ k) = some (.ins (D.C c) dx gs) ∧ FsR D n μ H fs gs := by
  cases x with
  | l _ => cases e
  | v x =>
    cases x with
    | ref k =>
      cases r with
      | ref hk =>
        unfold fldOf at e
        cases h : st[k]? with
        | none => simp [h] at e
        | some o =>
          cases o with
          | ins c fs =>
            simp only [h] at e
            by_cases hc : cs.contains c = true
            · rw [if_pos hc] at e
              obtain ⟨dx, gs, h1, h2⟩ := ok.ob k _ h
              exact ⟨k, c, fs, dx, gs, rfl, rfl, hk, h, by simpa using hc, e, h1, h2⟩
            · rw [if_neg hc] at e; cases e
          | _ => simp [h] at e
    | _ => cases e
theorem e_fld [C : Cok X D] [W : Wok D] {cs : List Nat} {f : Nat} {z : Str} (F : CF D cs f z) (he : SE X D e fe) (hb : attributeBase e z X.env (eval e X.env) = eval e X.env := by rfl) : SE X D (.Attribute e z pos) (eFld cs fe f) :=
  PE_imp (pe_fld he hb) fun σ H Q ⟨n, μ, ρ, st, w, st', ok, er, hf, an⟩ => by
    obtain ⟨x, s1, h1, hf⟩ := bind_eq_ok hf
    refine ⟨n, μ, ρ, st, x, s1, ok, er, h1, fun n1 μ1 H1 y1 ok1 l1 r1 f1 => ?_⟩
    cases h2 : fldOf cs x f s1 with
    | none => rw [h2] at hf; cases hf
    | some v =>
      rw [h2] at hf
      cases hf
      obtain ⟨k, c, fs, dx, gs, rfl, rfl, hk, h3, hc, h4, h5, h6⟩ := fldOf_ok ok1 r1 h2
      obtain ⟨yv, h7, h8⟩ := h6.look F.nm h4
      obtain ⟨c1, c2⟩ := F.cl c hc
      exact ⟨_, _, dx, gs, yv, rfl, h5, by rw [C.hK]; exact c1, by rw [C.hK]; exact c2, h7, ans_v (an.le l1) ok1 h8⟩
end
end VI
end
section
set_option Elab.async false
set_option linter.all false
set_option maxRecDepth 100000
set_option maxHeartbeats 4000000
/-! VI5: calls: defs, classes, methods, built-ins, isinstance, methods of lists. -/
namespace VI
open PySem PySem.Spec PyProof.Rows L2

/-- a def's promise -/
def spF (D : Wd) (np : Nat) (F : Fn) : Sp := fun vs H Q _ => vs.length = np ∧ ∃ n μ st as x st', Ok D n μ H st ∧ RpAll D n μ H as vs ∧ F as st = .ok x st' ∧ Ans D n μ H x st' Q
/-- a def that is called by name -/
structure Def (P : Program) (w : World) (K : PySem.W.Frag) (mg : Str → Option Value) (base : Heap) (D : Wd) (k : Nat) (x : Str) (np : Nat) (F : Fn) : Prop where
  ex : ∃ f fd ps, mg x = some (.ref f) ∧ PySem.W.keepIn K (.ref f) = true ∧ L2.Binds K fd ps [] ∧ FnOk P w K mg base C8.CX0 k f fd ps (spF D np F)
  db : (x == ("__debug__" : Str)) = false
/-- a method of the class c, m its name's number -/
structure Met (P : Program) (w : World) (K : PySem.W.Frag) (mg : Str → Option Value) (base : Heap) (D : Wd) (k : Nat) (c m : Nat) (z : Str) (np : Nat) (F : Fn) : Prop where
  ex : ∃ f fd ps, Cls K (D.C c) ∧ Meth K (D.C c) z f ∧ L2.Binds K fd ps [] ∧ FnOk P w K mg base C8.CX0 k f fd ps (spF D np F)
  nm : D.S[m]? = some z
/-- a class that is made by name -/
structure Mak (P : Program) (w : World) (K : PySem.W.Frag) (mg : Str → Option Value) (base : Heap) (D : Wd) (k : Nat) (x : Str) (c : Nat) (np : Nat) (F : Fn) : Prop where
  ex : ∃ f fd ps, mg x = some (.ref (D.C c)) ∧ Mk K (D.C c) f ∧ L2.Binds K fd ps [] ∧ FnOk P w K mg base C8.CX0 k f fd ps (spF D np F)
  db : (x == ("__debug__" : Str)) = false

section
variable {X : Cx} {D : Wd} {a b e o : Expr} {es : List Expr} {fa fb fe : Ev} {ga : Avs} {pos p p2 apos cpos : Pos} {k j np : Nat} {x : Str} {F : Fn}
/-- so many arguments -/
def Arity (g : Avs) (np : Nat) : Prop := ∀ ρ st xs st', g ρ st = .ok xs st' → xs.length = np
theorem ar_nil : Arity aNil 0 := fun ρ st xs st' h => by cases h; rfl
theorem ar_cons {f : Ev} {g : Avs} {n : Nat} (h : Arity g n) : Arity (aCons f g) (n + 1) := fun ρ st xs st' e => by
  obtain ⟨t, s1, h1, e⟩ := bind_eq_ok e
  obtain ⟨x, s2, h2, e⟩ := bind_eq_ok e
  obtain ⟨ys, s3, h3, e⟩ := bind_eq_ok e
  cases e
  rw [List.length_cons, h _ _ _ _ h3]
theorem call_rd {E : XK} {σ : L2.St} {H : Hp} {Q : VK} (har : Arity ga np) (h : rE D (eCall F ga) σ H Q) : tCall (spF D np F) [] E (rA D ga) σ H Q := by
  obtain ⟨n, μ, ρ, st, z, st', ok, er, hf, an⟩ := h
  obtain ⟨xs, s1, h1, hf⟩ := bind_eq_ok hf
  refine ⟨n, μ, ρ, st, xs, s1, ok, er, h1, fun n1 μ1 H1 ys ok1 l1 r1 => ?_⟩
  show spF D np F (ys ++ []) H1 Q E
  rw [List.append_nil]
  exact ⟨by rw [← r1.length]; exact har _ _ _ _ h1, n1, μ1, s1, xs, z, st', ok1, r1, hf, an.le l1⟩
theorem e_call (d : Def X.prog X.w X.K X.mg X.base D k x np F) (hr : Room k X.A) (hg : Gl X x) (ha : SA X D (e :: es) ga) (har : Arity ga np) (he : starEach (e :: es) X.env = (false, eval e X.env) :: starEach es X.env := by rfl)
    (hpl : (backTo pos (starEach es X.env)).any (·.1) = false := by rfl) : SE X D (.Call (.Name x p) (e :: es) [] pos) (eCall F ga) := by
  obtain ⟨f, fd, ps, h1, h2, h3, h4⟩ := d.ex
  exact PE_imp (pe_call h4 hr hg h1 h2 h3 .nil (C8.pass0 (E := C8.E0)) ha d.db he hpl) fun σ H Q h => call_rd har h
theorem e_call0 (d : Def X.prog X.w X.K X.mg X.base D k x 0 F) (hr : Room k X.A) (hg : Gl X x) : SE X D (.Call (.Name x p) [] [] pos) (eCall F aNil) := by
  obtain ⟨f, fd, ps, h1, h2, h3, h4⟩ := d.ex
  refine PE_imp (pe_call0 h4 hr hg h1 h2 h3 .nil (C8.pass0 (E := C8.E0)) d.db) fun σ H Q h => ?_
  obtain ⟨n, μ, ρ, st, z, st', ok, er, hf, an⟩ := h
  exact ⟨rfl, n, μ, st, [], z, st', ok, .nil, hf, an⟩

/-! ### a class is made -/
theorem make_ok {n : Nat} {μ : Nat → Addr} {H : Hp} {st : Store} {c : Nat} {x dx : Addr} (ok : Ok D n μ H st) (hx : H x = none) (hd : H dx = none) (ne : dx ≠ x) :
    Ok D (n + 1) (fun k => if k = n then x else μ k) (upd (upd H dx (.own x)) x (.ins (D.C c) dx [])) (st ++ [.ins c []]) ∧ Le n μ H (n + 1) (fun k => if k = n then x else μ k) (upd (upd H dx (.own x)) x (.ins (D.C c) dx [])) := by
  obtain ⟨ok1, l1⟩ := ok.upd (u := .own x) hd
  have hx1 : upd H dx (.own x) x = none := by rw [upd_ne (Ne.symm ne)]; exact hx
  obtain ⟨ok2, l2⟩ := ok1.upd (u := .ins (D.C c) dx []) hx1
  have l3 := l1.trans l2
  exact ⟨ok2.map (ok.fresh hx) ⟨dx, [], upd_same, .nil⟩, l3.map hx⟩
theorem make_rd {E : XK} {c : Nat} {σ : L2.St} {H : Hp} {Q : VK} (har : Arity ga np) (h : rE D (eMk c F ga) σ H Q) : tMake (D.C c) (spF D (np + 1) F) [] E (rA D ga) σ H Q := by
  obtain ⟨n, μ, ρ, st, z, st', ok, er, hf, an⟩ := h
  obtain ⟨xs, s1, h1, hf⟩ := bind_eq_ok hf
  obtain ⟨r, s2, h2, hf⟩ := bind_eq_ok hf
  refine ⟨n, μ, ρ, st, xs, s1, ok, er, h1, fun n1 μ1 H1 ys ok1 l1 r1 x dx hx hdx ne => ?_⟩
  obtain ⟨ok2, l2⟩ := make_ok (c := c) ok1 hx hdx ne
  have e1 : s1.length = n1 := ok1.len
  have q : Rp D (n1 + 1) (fun k => if k = n1 then x else μ1 k) (upd (upd H1 dx (.own x)) x (.ins (D.C c) dx [])) (.ref n1) (.ref x) := by
    have q : Rp D (n1 + 1) (fun k => if k = n1 then x else μ1 k) (upd (upd H1 dx (.own x)) x (.ins (D.C c) dx [])) (.ref n1) (.ref ((fun k => if k = n1 then x else μ1 k) n1)) := .ref (Nat.lt_succ_self n1)
    simp only [if_pos] at q
    exact q
  rw [List.append_nil]
  rw [e1] at h2
  refine ⟨by rw [List.length_cons, ← r1.length, har _ _ _ _ h1], n1 + 1, _, s1 ++ [.ins c []], .ref n1 :: xs, r, s2, ok2, .cons q (r1.mono l2), h2, fun n3 μ3 H3 y3 ok3 l3 r3 f3 => ?_⟩
  cases r with
  | l _ => cases hf
  | v r =>
    cases r with
    | non =>
      cases hf
      cases r3
      refine ⟨rfl, ?_⟩
      rw [e1] at an
      exact an n3 μ3 H3 _ ok3 (l1.trans (l2.trans l3)) (q.mono l3) trivial
    | _ => cases hf
theorem e_mk {c : Nat} (d : Mak X.prog X.w X.K X.mg X.base D k x c (np + 1) F) (hr : Room (k + 1) X.A) (hg : Gl X x) (ha : SA X D (e :: es) ga) (har : Arity ga np) (he : starEach (e :: es) X.env = (false, eval e X.env) :: starEach es X.env := by rfl)
    (hpl : (backTo pos (starEach es X.env)).any (·.1) = false := by rfl) : SE X D (.Call (.Name x p) (e :: es) [] pos) (eMk c F ga) := by
  obtain ⟨f, fd, ps, h1, h2, h3, h4⟩ := d.ex
  exact PE_imp (pe_make h2 h4 hr hg h1 h3 .nil (C8.pass0 (E := C8.E0)) ha d.db he hpl) fun σ H Q h => make_rd har h

/-! ### methods -/
theorem FsR.lookNone {n : Nat} {μ : Nat → Addr} {H : Hp} {f : Nat} {z : Str} [W : Wok D] (hz : D.S[f]? = some z) : ∀ {fs : List (Nat × Val)} {gs : List (Str × V)}, FsR D n μ H fs gs → fs.lookup f = none → gs.lookup z = none
  | _, _, .nil, _ => rfl
  | _, _, .cons (f := g) (z := w) h h' r, e => by
    by_cases hg : f = g
    · subst hg
      simp [List.lookup] at e
    · have hg' : (f == g) = false := beq_eq_false_iff_ne.mpr hg
      have hw : (z == w) = false := beq_eq_false_iff_ne.mpr fun e' => hg (by subst e'; exact nodup_ix W.nd hz h)
      simp only [List.lookup, hg'] at e
      simp only [List.lookup, hw]
      exact FsR.lookNone hz r e
theorem isCls_ok {n : Nat} {μ : Nat → Addr} {H : Hp} {st : Store} {x : Val} {y : V} {c m : Nat} {z : Str} [W : Wok D] (hz : D.S[m]? = some z) (ok : Ok D n μ H st) (r : Rp D n μ H x y) (h : isCls x c m st = true) :
    ∃ a dx gs, y = .ref a ∧ H a = some (.ins (D.C c) dx gs) ∧ gs.lookup z = none := by
  cases x with
  | ref j =>
    cases r
    unfold isCls at h
    cases e : st[j]? with
    | none => simp [e] at h
    | some o =>
      cases o with
      | ins d fs =>
        simp only [e, Bool.and_eq_true] at h
        obtain ⟨dx, gs, h1, h2⟩ := ok.ob j _ e
        obtain ⟨h3, h4⟩ := h
        have e3 : d = c := beq_iff_eq.mp h3
        subst e3
        exact ⟨_, dx, gs, rfl, h1, h2.lookNone hz (by simpa using h4)⟩
      | _ => simp [e] at h
  | _ => cases h
theorem e_meth [W : Wok D] {c m : Nat} {z : Str} {pl : Sem Bool} (d : Met X.prog X.w X.K X.mg X.base D k c m z (np + 1) F) (hr : Room k X.A) (ho : SE X D o fe) (ha : SA X D (e :: es) ga) (har : Arity ga np)
    (hst : starEach (e :: es) X.env = (false, eval e X.env) :: starEach es X.env := by rfl) (hpl : (backTo pos (starEach es X.env)).any (·.1) = false := by rfl)
    (ht : eval (.Call (.Attribute o z apos) (e :: es) [] pos) X.env = (do
      let ov ← eval o X.env
      standAt apos.atName
      let (f, first) ← holding [ov] (getMethod ov z pl)
      callWith pos f first (backTo pos (starEach (e :: es) X.env)) (backToKw pos (keywordEach [] X.env))) := by rfl) : SE X D (.Call (.Attribute o z apos) (e :: es) [] pos) (eMeth c m F fe ga) := by
  obtain ⟨f, fd, ps, h1, h2, h3, h4⟩ := d.ex
  refine PE_imp (pe_meth ho h1 h2 h4 hr h3 .nil (C8.pass0 (E := C8.E0)) ha hst hpl ht) fun σ H Q h => ?_
  obtain ⟨n, μ, ρ, st, w, st', ok, er, hf, an⟩ := h
  obtain ⟨x, s1, g1, hf⟩ := bind_eq_ok hf
  refine ⟨n, μ, ρ, st, x, s1, ok, er, g1, fun n1 μ1 H1 y1 ok1 l1 r1 f1 => ?_⟩
  cases x with
  | l _ => cases hf
  | v x =>
    by_cases hc : isCls x c m s1 = true
    · simp only [if_pos hc] at hf
      obtain ⟨xs, s2, g2, hf⟩ := bind_eq_ok hf
      obtain ⟨a, dx, gs, rfl, g3, g4⟩ := isCls_ok d.nm ok1 r1 hc
      refine ⟨a, dx, gs, rfl, g3, g4, n1, μ1, ρ, s1, xs, s2, ok1, er.mono l1, g2, fun n2 μ2 H2 ys ok2 l2 r2 => ?_⟩
      show spF D (np + 1) F (V.ref a :: (ys ++ [])) H2 Q C8.E0
      rw [List.append_nil]
      exact ⟨by rw [List.length_cons, ← r2.length, har _ _ _ _ g2], n2, μ2, s2, x :: xs, w, st', ok2, .cons (Rp.mono l2 r1) r2, hf, an.le (l1.trans l2)⟩
    · simp only [if_neg hc] at hf; cases hf
theorem e_meth0 [W : Wok D] {c m : Nat} {z : Str} {pl : Sem Bool} (d : Met X.prog X.w X.K X.mg X.base D k c m z 1 F) (hr : Room k X.A) (ho : SE X D o fe)
    (ht : eval (.Call (.Attribute o z apos) [] [] pos) X.env = (do
      let ov ← eval o X.env
      standAt apos.atName
      let (f, first) ← holding [ov] (getMethod ov z pl)
      callWith pos f first (backTo pos (starEach [] X.env)) (backToKw pos (keywordEach [] X.env))) := by rfl) : SE X D (.Call (.Attribute o z apos) [] [] pos) (eMeth c m F fe aNil) := by
  obtain ⟨f, fd, ps, h1, h2, h3, h4⟩ := d.ex
  refine PE_imp (pe_meth0 ho h1 h2 h4 hr h3 .nil (C8.pass0 (E := C8.E0)) ht) fun σ H Q h => ?_
  obtain ⟨n, μ, ρ, st, w, st', ok, er, hf, an⟩ := h
  obtain ⟨x, s1, g1, hf⟩ := bind_eq_ok hf
  refine ⟨n, μ, ρ, st, x, s1, ok, er, g1, fun n1 μ1 H1 y1 ok1 l1 r1 f1 => ?_⟩
  cases x with
  | l _ => cases hf
  | v x =>
    by_cases hc : isCls x c m s1 = true
    · simp only [if_pos hc] at hf
      obtain ⟨a, dx, gs, rfl, g3, g4⟩ := isCls_ok d.nm ok1 r1 hc
      exact ⟨a, dx, gs, rfl, g3, g4, rfl, n1, μ1, s1, [x], w, st', ok1, .cons r1 .nil, hf, an.le l1⟩
    · simp only [if_neg hc] at hf; cases hf

/-! ### built-ins of one argument -/
theorem b1_rd {b : B1} {σ : L2.St} {H : Hp} {Q : VK} (h : rE D (eB1 b fe) σ H Q) : tCB (rB D b) (tCons (rE D fe) tNil) σ H Q := by
  obtain ⟨n, μ, ρ, st, z, st', ok, er, hf, an⟩ := h
  obtain ⟨x, s1, h1, hf⟩ := bind_eq_ok hf
  exact ⟨n, μ, ρ, st, x, s1, ok, er, h1, fun n1 μ1 H1 y1 ok1 l1 r1 f1 => ⟨n1, μ1, s1, x, y1, z, st', rfl, ok1, r1, hf, an.le l1⟩⟩
theorem e_bB {b : B1} {id : String} (hc : CallR X (.builtin id) (rB D b)) (hg : Gl X x) (hm : X.mg x = none) (hv : bootBuiltins x = some (.builtin id)) (ha : SE X D e fe) (hn : x ≠ "__name__") (hdb : (x == ("__debug__" : Str)) = false)
    (he : starEach [e] X.env = (false, eval e X.env) :: starEach [] X.env := by rfl) : SE X D (.Call (.Name x p) [e] [] pos) (eB1 b fe) := PE_imp (pe_callB hc hg hm hv (pa_cons ha pa_nil he) hn hdb he) fun _ _ _ h => b1_rd h
theorem e_bT {b : B1} {T : String} (hc : CallR X (.type T) (rB D b)) (hg : Gl X x) (hm : X.mg x = none) (hv : bootBuiltins x = some (.type T)) (ha : SE X D e fe) (hn : x ≠ "__name__") (hdb : (x == ("__debug__" : Str)) = false)
    (he : starEach [e] X.env = (false, eval e X.env) :: starEach [] X.env := by rfl) : SE X D (.Call (.Name x p) [e] [] pos) (eB1 b fe) := PE_imp (pe_callTy hc hg hm hv (pa_cons ha pa_nil he) hn hdb he) fun _ _ _ h => b1_rd h
theorem r_len [C : Cok X D] : CallR X (.builtin "len") (rB D bLen) := by
  intro pins s σ H xs us Q I r ⟨n, μ, st, a, y, z, st', e, ok, ra, hf, an⟩
  subst e
  unfold bLen at hf
  cases h1 : seqOf a st with
  | none => rw [h1] at hf; cases hf
  | some l =>
    rw [h1] at hf
    cases hf
    obtain ⟨p, ys, rfl, q, hs⟩ := seqOf_ok ok ra h1
    refine call_len_seq pins s σ H _ us Q I r ⟨p, ys, rfl, ?_, ?_⟩
    · rw [C.hK]
      exact hs.imp id fun h => h.2
    · rw [← q.length]; exact ans_v an ok (.int _)
theorem r_int : CallR X (.type "int") (rB D bInt) := by
  intro pins s σ H xs us Q I r ⟨n, μ, st, a, y, z, st', e, ok, ra, hf, an⟩
  subst e
  cases a with
  | l _ => cases hf
  | v a =>
    cases a with
    | int i => cases hf; cases ra; exact call_int1 pins s σ H _ us Q I r (.inl ⟨i, rfl, ans_v an ok (.int _)⟩)
    | bool i => cases hf; cases ra; exact call_int1 pins s σ H _ us Q I r (.inr ⟨i, rfl, ans_v an ok (.int _)⟩)
    | _ => cases hf
theorem r_tuple [C : Cok X D] : CallR X (.type "tuple") (rB D bTuple) := by
  intro pins s σ H xs us Q I r ⟨n, μ, st, a, y, z, st', e, ok, ra, hf, an⟩
  subst e
  unfold bTuple at hf
  cases h1 : seqOf a st with
  | none => rw [h1] at hf; cases hf
  | some l =>
    rw [h1] at hf
    cases hf
    obtain ⟨p, ys, rfl, q, hs⟩ := seqOf_ok ok ra h1
    rcases hs with hs | ⟨e1, hs⟩
    · exact call_tuple_of pins s σ H _ us Q I r ⟨p, ys, rfl, .inl ⟨by rw [C.hK]; exact hs, fun l hl => ans_tup an ok q hl⟩⟩
    · refine call_tuple_of pins s σ H _ us Q I r ⟨p, ys, rfl, .inr ⟨by rw [C.hK]; exact hs, ?_⟩⟩
      rw [e1] at ra
      exact ans_v an ok ra
theorem r_list [C : Cok X D] : CallR X (.type "list") (rB D bList) := by
  intro pins s σ H xs us Q I r ⟨n, μ, st, a, y, z, st', e, ok, ra, hf, an⟩
  subst e
  unfold bList at hf
  cases h1 : seqOf a st with
  | none => rw [h1] at hf; cases hf
  | some l =>
    rw [h1] at hf
    cases hf
    obtain ⟨p, ys, rfl, q, hs⟩ := seqOf_ok ok ra h1
    exact call_list_of pins s σ H _ us Q I r ⟨p, ys, rfl, by rw [C.hK]; exact hs.imp id fun h => h.2, fun l hl => ans_lst an ok q hl⟩
theorem bools_ok {n : Nat} {μ : Nat → Addr} {H : Hp} : ∀ {xs : List Val} {ys : List V} {bs : List Bool}, bools? xs = some bs → RpAll D n μ H xs ys → ys = bs.map V.bl
  | _, _, _, e, .nil => by cases e; rfl
  | x :: xs, _, bs, e, .cons h r => by
    cases x with
    | bool i =>
      obtain ⟨bs', h1, rfl⟩ := Option.map_eq_some_iff.mp e
      cases h
      rw [bools_ok h1 r]; rfl
    | _ => cases e
theorem ints_ok {n : Nat} {μ : Nat → Addr} {H : Hp} : ∀ {xs : List Val} {ys : List V} {bs : List Int}, ints? xs = some bs → RpAll D n μ H xs ys → ys = bs.map V.int
  | _, _, _, e, .nil => by cases e; rfl
  | x :: xs, _, bs, e, .cons h r => by
    cases x with
    | int i =>
      obtain ⟨bs', h1, rfl⟩ := Option.map_eq_some_iff.mp e
      cases h
      rw [ints_ok h1 r]; rfl
    | _ => cases e
theorem r_all [C : Cok X D] : CallR X (.builtin "all") (rB D bAll) := by
  intro pins s σ H xs us Q I r ⟨n, μ, st, a, y, z, st', e, ok, ra, hf, an⟩
  subst e
  unfold bAll at hf
  cases h1 : lstOf a st with
  | none => rw [h1] at hf; cases hf
  | some l =>
    rw [h1] at hf
    cases h2 : bools? l with
    | none => simp only [h2] at hf; cases hf
    | some bs =>
      simp only [h2] at hf
      cases hf
      obtain ⟨p, ys, rfl, hp, q⟩ := lstOf_ok ok ra h1
      exact cr_all C.calm pins s σ H _ us Q I r ⟨p, bs, rfl, by rw [← bools_ok h2 q]; exact SqL.of hp, ans_v an ok (.bool _)⟩
theorem r_any [C : Cok X D] : CallR X (.builtin "any") (rB D bAny) := by
  intro pins s σ H xs us Q I r ⟨n, μ, st, a, y, z, st', e, ok, ra, hf, an⟩
  subst e
  unfold bAny at hf
  cases h1 : lstOf a st with
  | none => rw [h1] at hf; cases hf
  | some l =>
    rw [h1] at hf
    cases h2 : bools? l with
    | none => simp only [h2] at hf; cases hf
    | some bs =>
      simp only [h2] at hf
      cases hf
      obtain ⟨p, ys, rfl, hp, q⟩ := lstOf_ok ok ra h1
      exact cr_any C.calm pins s σ H _ us Q I r ⟨p, bs, rfl, by rw [← bools_ok h2 q]; exact SqL.of hp, ans_v an ok (.bool _)⟩
theorem maxI_ge : ∀ (l : List Int) (y : Int), y ∈ l → y ≤ maxI l
  | [], _, h => by cases h
  | [i], y, h => by cases h with
    | head => exact Int.le_refl _
    | tail _ h => cases h
  | i :: j :: r, y, h => by
    unfold maxI
    cases h with
    | head => omega
    | tail _ h => have := maxI_ge (j :: r) y h; omega
theorem maxI_mem : ∀ (i : Int) (l : List Int), maxI (i :: l) ∈ i :: l
  | i, [] => by simp [maxI]
  | i, j :: r => by
    have h := maxI_mem j r
    unfold maxI
    by_cases hj : i ≤ maxI (j :: r)
    · rw [Int.max_eq_right hj]; exact List.mem_cons_of_mem _ h
    · rw [Int.max_eq_left (by omega)]; exact List.mem_cons_self
theorem r_max [C : Cok X D] : CallR X (.builtin "max") (rB D bMax) := by
  intro pins s σ H xs us Q I r ⟨n, μ, st, a, y, z, st', e, ok, ra, hf, an⟩
  subst e
  unfold bMax at hf
  cases h1 : lstOf a st with
  | none => rw [h1] at hf; cases hf
  | some l =>
    rw [h1] at hf
    cases h2 : ints? l with
    | none => simp only [h2] at hf; cases hf
    | some bs =>
      cases bs with
      | nil => simp only [h2] at hf; cases hf
      | cons i is =>
        simp only [h2] at hf
        cases hf
        obtain ⟨p, ys, rfl, hp, q⟩ := lstOf_ok ok ra h1
        refine cr_max C.calm pins s σ H _ us Q I r ⟨p, i :: is, rfl, by rw [← ints_ok h2 q]; exact SqL.of hp, Nat.zero_lt_succ _, fun m hm hall => ?_⟩
        have e1 : m = maxI (i :: is) := Int.le_antisymm (maxI_ge _ _ hm) (hall _ (maxI_mem i is))
        rw [e1]
        exact ans_v an ok (.int _)

/-! ### max, min of two -/
def rB2 (D : Wd) (o : Op2) : List V → Hp → VK → Prop := fun ys H Q => ∃ x y, ys = [x, y] ∧ rO D o x y H Q
theorem e_b2 {o : Op2} {id : String} (hc : CallR X (.builtin id) (rB2 D o)) (hg : Gl X x) (hm : X.mg x = none) (hv : bootBuiltins x = some (.builtin id)) (ha : SE X D a fa) (hb : SE X D b fb) (hn : x ≠ "__name__") (hdb : (x == ("__debug__" : Str)) = false)
    (he : starEach [a, b] X.env = (false, eval a X.env) :: starEach [b] X.env := by rfl) (he2 : starEach [b] X.env = (false, eval b X.env) :: starEach [] X.env := by rfl) (hpl : (backTo pos (starEach [b] X.env)).any (·.1) = false := by rfl) :
    SE X D (.Call (.Name x p) [a, b] [] pos) (eBin o fa fb) := PE_imp (pe_callB hc hg hm hv (pa_cons ha (pa_cons hb pa_nil he2) he) hn hdb he hpl) fun σ H Q h => by
  obtain ⟨n, μ, ρ, st, z, st', ok, er, hf, an⟩ := h
  obtain ⟨x, s1, h1, hf⟩ := bind_eq_ok hf
  obtain ⟨y, s2, h2, hf⟩ := bind_eq_ok hf
  exact ⟨n, μ, ρ, st, x, s1, ok, er, h1, fun n1 μ1 H1 y1 ok1 l1 r1 f1 => ⟨n1, μ1, ρ, s1, y, s2, ok1, er.mono l1, h2, fun n2 μ2 H2 y2 ok2 l2 r2 f2 => ⟨_, _, rfl, n2, μ2, s2, x, y, z, st', ok2, r1.mono l2, r2, hf, an.le (l1.trans l2)⟩⟩⟩
theorem r_max2 [C : Cok X D] : CallR X (.builtin "max") (rB2 D oMax) := by
  intro pins s σ H xs us Q I r ⟨x, y, e, n, μ, st, a, b, z, st', ok, ra, rb, hf, an⟩
  subst e
  unfold oMax at hf
  split at hf
  · cases hf; cases ra; cases rb
    exact call_max2 C.calm pins s σ H _ us Q I r ⟨_, _, rfl, ans_v an ok (.int _)⟩
  · cases hf
theorem r_min2 [C : Cok X D] : CallR X (.builtin "min") (rB2 D oMin) := by
  intro pins s σ H xs us Q I r ⟨x, y, e, n, μ, st, a, b, z, st', ok, ra, rb, hf, an⟩
  subst e
  unfold oMin at hf
  split at hf
  · cases hf; cases ra; cases rb
    exact call_min2 C.calm pins s σ H _ us Q I r ⟨_, _, rfl, ans_v an ok (.int _)⟩
  · cases hf

/-! ### list(range(..)), tuple(range(..)) -/
def rRg (D : Wd) (r : Rg) : L2.St → Hp → (Int → Int → Hp → Prop) → Prop := fun σ H Q => ∃ n μ ρ st i st', Ok D n μ H st ∧ EnvR D n μ H ρ σ ∧ r ρ st = .ok i st' ∧ ∀ n' μ' H', Ok D n' μ' H' st' → Le n μ H n' μ' H' → Q i.1 i.2 H'
abbrev SR (X : Cx) (D : Wd) (e : Expr) (r : Rg) : Prop := PRg X e (rRg D r)
theorem g_1 (hg : Gl X "range") (hm : X.mg "range" = none) (ha : SE X D a fa) (na : starEach [a] X.env = (false, eval a X.env) :: starEach [] X.env := by rfl) : SR X D (.Call (.Name "range" p) [a] [] pos) (rg1 fa) := fun pins s σ H Q I ⟨n, μ, ρ, st, i, st', ok, er, hf, an⟩ => by
  refine prg_1 hg hm ha na pins s σ H Q I ?_
  obtain ⟨x, s1, h1, hf⟩ := bind_eq_ok hf
  refine ⟨n, μ, ρ, st, x, s1, ok, er, h1, fun n1 μ1 H1 y1 ok1 l1 r1 f1 => ?_⟩
  cases x with
  | l _ => cases hf
  | v x =>
    cases x with
    | int j => cases hf; cases r1; exact ⟨j, rfl, an n1 μ1 H1 ok1 l1⟩
    | _ => cases hf
theorem g_2 (hg : Gl X "range") (hm : X.mg "range" = none) (ha : SE X D a fa) (hb : SE X D b fb) (na : starEach [a, b] X.env = (false, eval a X.env) :: starEach [b] X.env := by rfl) (nb : starEach [b] X.env = (false, eval b X.env) :: starEach [] X.env := by rfl)
    (hp : (backTo pos (starEach [b] X.env)).any (·.1) = false := by rfl) : SR X D (.Call (.Name "range" p) [a, b] [] pos) (rg2 fa fb) := fun pins s σ H Q I ⟨n, μ, ρ, st, i, st', ok, er, hf, an⟩ => by
  refine prg_2 hg hm ha hb na nb hp pins s σ H Q I ?_
  obtain ⟨x, s1, h1, hf⟩ := bind_eq_ok hf
  obtain ⟨y, s2, h2, hf⟩ := bind_eq_ok hf
  refine ⟨n, μ, ρ, st, x, s1, ok, er, h1, fun n1 μ1 H1 y1 ok1 l1 r1 f1 => ⟨n1, μ1, ρ, s1, y, s2, ok1, er.mono l1, h2, fun n2 μ2 H2 y2 ok2 l2 r2 f2 => ?_⟩⟩
  split at hf
  · cases hf; cases r1; cases r2; exact ⟨_, _, rfl, rfl, an n2 μ2 H2 ok2 (l1.trans l2)⟩
  · cases hf
theorem fitR_ok {i j : Int} (h : fitR i j = true) : RgOk i j := by
  unfold fitR at h
  simp only [Bool.and_eq_true, decide_eq_true_eq] at h
  obtain ⟨⟨⟨⟨h1, h2⟩, h3⟩, h4⟩, h5⟩ := h
  exact ⟨h1, h2, h3, h4, h5⟩
theorem rngV_ok {n : Nat} {μ : Nat → Addr} {H : Hp} (i j : Int) : RpAll D n μ H (rngV i j) (rgV i j) := by
  unfold rngV rgV
  generalize List.range (j - i).toNat = l
  induction l with
  | nil => exact .nil
  | cons a l ih => exact .cons (.int _) ih
theorem e_lstR [C : Cok X D] {r : Rg} (hg : Gl X "list") (hm : X.mg "list" = none) (he : SR X D e r) (na : starEach [e] X.env = (false, eval e X.env) :: starEach [] X.env := by rfl) : SE X D (.Call (.Name "list" p) [e] [] pos) (eLstR r) :=
  PE_imp (pe_listRg C.calm hg hm he na) fun σ H Q ⟨n, μ, ρ, st, z, st', ok, er, hf, an⟩ => by
    obtain ⟨i, s1, h1, hf⟩ := bind_eq_ok hf
    refine ⟨n, μ, ρ, st, i, s1, ok, er, h1, fun n1 μ1 H1 ok1 l1 => ?_⟩
    by_cases hh : fitR i.1 i.2 = true
    · rw [if_pos hh] at hf
      cases hf
      exact ⟨fitR_ok hh, fun q hq => ans_lst (an.le l1) ok1 (rngV_ok _ _) hq⟩
    · rw [if_neg hh] at hf; cases hf
theorem e_tupR [C : Cok X D] {r : Rg} (hg : Gl X "tuple") (hm : X.mg "tuple" = none) (he : SR X D e r) (na : starEach [e] X.env = (false, eval e X.env) :: starEach [] X.env := by rfl) : SE X D (.Call (.Name "tuple" p) [e] [] pos) (eTupR r) :=
  PE_imp (pe_tupRg C.calm hg hm he na) fun σ H Q ⟨n, μ, ρ, st, z, st', ok, er, hf, an⟩ => by
    obtain ⟨i, s1, h1, hf⟩ := bind_eq_ok hf
    refine ⟨n, μ, ρ, st, i, s1, ok, er, h1, fun n1 μ1 H1 ok1 l1 => ?_⟩
    by_cases hh : fitR i.1 i.2 = true
    · rw [if_pos hh] at hf
      cases hf
      exact ⟨fitR_ok hh, fun q hq => ans_tup (an.le l1) ok1 (rngV_ok _ _) hq⟩
    · rw [if_neg hh] at hf; cases hf
end
end VI
end
section
set_option Elab.async false
set_option linter.all false
set_option maxRecDepth 100000
set_option maxHeartbeats 4000000
/-! VI6: isinstance, methods of lists, dicts with tuple keys. -/
namespace VI
open PySem PySem.Spec PyProof.Rows L2

/-! ### isinstance -/
def inB : Ty → String → Bool
  | .int, T => T == "int" || T == "bool"
  | .bool, T => T == "bool"
  | .str, T => T == "str"
  | .list, T => T == "list"
  | .tuple, T => T == "tuple"
  | .lot, T => T == "list" || T == "tuple"
  | .cls _, _ => false
/-- an instance's type is to be read -/
structure InsT (D : Wd) (d : Nat) : Prop where
  cl : Cls D.K (D.C d)
  ha : PySem.W.findIn D.K (.ref (D.C d)) "__class__" = some (some (.builtin "object.__class__"))
  hn : PySem.W.specialIn D.K (.builtin "object.__class__") "__get__" = some (some (.builtin "getset_descriptor.__get__"))
  ht : PySem.W.takesIn D.K (.builtin "object.__class__") = some true
  hm : PySem.W.mroIn D.K (D.C d) (.type "object") = some true
structure KF (D : Wd) (cs : List Nat) (ty : Ty) (q : Value → Option Bool) : Prop where
  b : ∀ T ∈ ["NoneType", "bool", "int", "str", "tuple", "list", "dict"], q (.type T) = some (inB ty T)
  i : ∀ d ∈ cs, q (.ref (D.C d)) = some (insB ty d)
  t : ∀ d ∈ cs, InsT D d
section
variable {X : Cx} {D : Wd} {a b e o tyE : Expr} {es : List Expr} {fa fb fe fo : Ev} {pos p p2 apos cpos : Pos} {x : Str}
theorem isTy_ok {n : Nat} {μ : Nat → Addr} {H : Hp} {st : Store} {cs : List Nat} {ty : Ty} {q : Value → Option Bool} {t : Tv} {y : V} {r : Bool} (k : KF D cs ty q) (ok : Ok D n μ H st) (h : Rt D n μ H t y) (e : isTy cs ty t st = some r) :
    ∃ T, TyX D.K H y T ∧ q T = some r := by
  cases t with
  | l xs =>
    obtain ⟨a, ys, rfl, ha, _⟩ := h
    cases e
    exact ⟨_, .base (.lst ha), by rw [k.b "list" (by decide)]; cases ty <;> rfl⟩
  | v x =>
    cases x with
    | non => cases e; cases h; exact ⟨_, .base .non, by rw [k.b "NoneType" (by decide)]; cases ty <;> rfl⟩
    | bool i => cases e; cases h; exact ⟨_, .base (.bl i), by rw [k.b "bool" (by decide)]; cases ty <;> rfl⟩
    | int i => cases e; cases h; exact ⟨_, .base (.int i), by rw [k.b "int" (by decide)]; cases ty <;> rfl⟩
    | str i => cases e; cases h with | @str _ z hz => exact ⟨_, .base (.str z), by rw [k.b "str" (by decide)]; cases ty <;> rfl⟩
    | tup l =>
      cases e
      cases h with
      | tup hT _ =>
        refine ⟨.type "tuple", ?_, by rw [k.b "tuple" (by decide)]; cases ty <;> rfl⟩
        rcases hT with hT | ⟨o, its, n, h1, h2, _⟩
        · exact .base (.tup hT)
        · exact .kTuple h1 h2
    | ref j =>
      cases h
      unfold isTy at e
      cases hj : st[j]? with
      | none => simp [hj] at e
      | some o =>
        cases o with
        | lst l =>
          simp only [hj, Option.some.injEq] at e
          subst e
          obtain ⟨ys, h1, _⟩ := ok.ob j _ hj
          exact ⟨_, .base (.lst h1), by rw [k.b "list" (by decide)]; cases ty <;> rfl⟩
        | ins d fs =>
          simp only [hj] at e
          by_cases hc : cs.contains d = true
          · rw [if_pos hc] at e
            cases e
            have hd : d ∈ cs := by simpa using hc
            obtain ⟨dx, gs, h1, _⟩ := ok.ob j _ hj
            have f := k.t d hd
            exact ⟨_, .base (.ins h1 f.cl f.ha f.hn f.ht f.hm), k.i d hd⟩
          · rw [if_neg hc] at e; cases e
        | dct kvs =>
          simp only [hj, Option.some.injEq] at e
          subst e
          obtain ⟨ks, h1, _⟩ := ok.ob j _ hj
          exact ⟨_, .base (.dT h1), by rw [k.b "dict" (by decide)]; cases ty <;> rfl⟩
        | _ => simp [hj] at e
/-- isinstance(e, T), one class -/
theorem e_is [C : Cok X D] {cs : List Nat} {ty : Ty} {c : V} {u : Value} (k : KF D cs ty (fun t => PySem.W.kitOne D.K t u)) (hc : PE X tyE (tC c)) (hcv : ClsV c u) (hg : Gl X "isinstance") (hm : X.mg "isinstance" = none) (he : SE X D e fe)
    (h1 : starEach [e, tyE] X.env = (false, eval e X.env) :: starEach [tyE] X.env := by rfl) (h2 : starEach [tyE] X.env = (false, eval tyE X.env) :: starEach [] X.env := by rfl) (hpl : (backTo pos (starEach [tyE] X.env)).any (·.1) = false := by rfl) :
    SE X D (.Call (.Name "isinstance" p) [e, tyE] [] pos) (eB1 (bIs cs ty) fe) :=
  PE_imp (pe_callB call_isi hg hm boot_isinstance (pa_cons he (pa_cons hc pa_nil h2) h1) (by decide) (by decide) h1 hpl) fun σ H Q ⟨n, μ, ρ, st, z, st', ok, er, hf, an⟩ => by
    obtain ⟨x, s1, g1, hf⟩ := bind_eq_ok hf
    refine ⟨n, μ, ρ, st, x, s1, ok, er, g1, fun n1 μ1 H1 y1 ok1 l1 r1 f1 => ?_⟩
    obtain ⟨r, e1, q⟩ := ans_of hf ok1 (an.le l1)
    obtain ⟨T, k1, k2⟩ := isTy_ok k ok1 r1 e1
    exact ⟨y1, c, T, u, r, rfl, hcv, by rw [C.hK]; exact k1, by rw [C.hK]; exact k2, q⟩
/-- isinstance(e, (T1, T2)) -/
theorem e_isT [C : Cok X D] {cs : List Nat} {ty : Ty} {c c' : V} {u u' : Value} {tE tE' : Expr} {kk : Nat} {tp : Pos} (k : KF D cs ty (fun t => PySem.W.kitAny D.K t [u, u'])) (hc : PE X tE (tC c)) (hcv : ClsV c u) (hc' : PE X tE' (tC c')) (hcv' : ClsV c' u') (hg : Gl X "isinstance") (hm : X.mg "isinstance" = none) (he : SE X D e fe)
    (h1 : starEach [e, .Tuple [tE, tE'] kk tp] X.env = (false, eval e X.env) :: starEach [.Tuple [tE, tE'] kk tp] X.env := by rfl) (h2 : starEach [.Tuple [tE, tE'] kk tp] X.env = (false, eval (.Tuple [tE, tE'] kk tp) X.env) :: starEach [] X.env := by rfl) (hpl : (backTo pos (starEach [.Tuple [tE, tE'] kk tp] X.env)).any (·.1) = false := by rfl)
    (h3 : starEach [tE, tE'] X.env = (false, eval tE X.env) :: starEach [tE'] X.env := by rfl) (h4 : starEach [tE'] X.env = (false, eval tE' X.env) :: starEach [] X.env := by rfl) :
    SE X D (.Call (.Name "isinstance" p) [e, .Tuple [tE, tE'] kk tp] [] pos) (eB1 (bIs cs ty) fe) :=
  PE_imp (pe_callB call_isiT hg hm boot_isinstance (pa_cons he (pa_cons (pe_tup (pa_cons hc (pa_cons hc' pa_nil h4) h3)) pa_nil h2) h1) (by decide) (by decide) h1 hpl) fun σ H Q ⟨n, μ, ρ, st, z, st', ok, er, hf, an⟩ => by
    obtain ⟨x, s1, g1, hf⟩ := bind_eq_ok hf
    refine ⟨n, μ, ρ, st, x, s1, ok, er, g1, fun n1 μ1 H1 y1 ok1 l1 r1 f1 => ?_⟩
    refine ⟨by show 2 ≤ sizeLine; decide, fun tp htp => ?_⟩
    obtain ⟨ok2, l2⟩ := ok1.upd (u := .tup [c, c']) htp
    obtain ⟨r, e1, q⟩ := ans_of hf ok2 (an.le (l1.trans l2))
    obtain ⟨T, k1, k2⟩ := isTy_ok k ok2 (r1.mono l2) e1
    exact ⟨y1, tp, [c, c'], T, [u, u'], r, rfl, upd_same, .cons hcv (.cons hcv' .nil), by rw [C.hK]; exact k1, by rw [C.hK]; exact k2, q⟩

/-! ### methods of lists -/
theorem refL_ok {n : Nat} {μ : Nat → Addr} {H : Hp} {st : Store} {t : Tv} {y : V} {j : Nat} {xs : List Val} (ok : Ok D n μ H st) (r : Rt D n μ H t y) (e : refL t st = some (j, xs)) :
    t = .v (.ref j) ∧ y = .ref (μ j) ∧ j < n ∧ st[j]? = some (.lst xs) ∧ ∃ ys, H (μ j) = some (.lst ys) ∧ RpAll D n μ H xs ys := by
  cases t with
  | l _ => cases e
  | v x =>
    cases x with
    | ref i =>
      cases r with
      | ref hi =>
        unfold refL at e
        cases h : st[i]? with
        | none => simp [h] at e
        | some o =>
          cases o with
          | lst zs =>
            simp only [h, Option.some.injEq, Prod.mk.injEq] at e
            obtain ⟨rfl, rfl⟩ := e
            exact ⟨rfl, rfl, hi, h, ok.ob _ _ h⟩
          | _ => simp [h] at e
    | _ => cases e
theorem ref_ty {n : Nat} {μ : Nat → Addr} {H : Hp} {st : Store} {t : Tv} {y : V} {K : PySem.W.Frag} (ok : Ok D n μ H st) (r : Rt D n μ H t y) (e : (refL t st).isSome = true) : tyV K "list" y H := by
  cases h : refL t st with
  | none => rw [h] at e; cases e
  | some p =>
    obtain ⟨_, rfl, _, _, ys, hy, _⟩ := refL_ok (j := p.1) (xs := p.2) ok r h
    exact .inl ⟨rfl, ys, SqL.of hy⟩
theorem lst_ty {n : Nat} {μ : Nat → Addr} {H : Hp} {st : Store} {t : Tv} {y : V} {K : PySem.W.Frag} (ok : Ok D n μ H st) (r : Rt D n μ H t y) (e : (lstOf t st).isSome = true) : tyV K "list" y H := by
  cases h : lstOf t st with
  | none => rw [h] at e; cases e
  | some p =>
    obtain ⟨a, ys, rfl, hy, _⟩ := lstOf_ok ok r h
    exact .inl ⟨rfl, ys, SqL.of hy⟩
/-- a list of the store is written -/
theorem wr_lst {n : Nat} {μ : Nat → Addr} {H : Hp} {st : Store} {j : Nat} {xs : List Val} {ys : List V} (ok : Ok D n μ H st) (hj : j < n) (r : RpAll D n μ H xs ys) :
    Ok D n μ (upd H (μ j) (.lst ys)) (updL j xs st) ∧ Le n μ H n μ (upd H (μ j) (.lst ys)) := by
  have kt : ∀ a zs, H a = some (.tup zs) → upd H (μ j) (.lst ys) a = some (.tup zs) := fun a zs e => by
    rw [upd_ne fun z => ?_]; exact e
    obtain ⟨_, _, r⟩ := ok.at hj
    obtain ⟨v, hv, h1, _⟩ := r.some
    rw [← z, e] at hv; cases hv; exact h1 _ rfl
  exact ok.set hj ⟨ys, upd_same, r.mono' (Nat.le_refl _) (fun _ _ => rfl) kt⟩
/-- the shape of a method's call with one argument -/
theorem e_append (ho : SE X D o fo) (ha : SE X D e fe) (hbase : attributeBase o "append" X.env (eval o X.env) = eval o X.env := by rfl)
    (hfew : ((backTo cpos (starEach [e] X.env)).all (fun x => !x.1) && (backToKw cpos (keywordEach [] X.env)).all (fun x => x.1.isSome)
      && decide ([e].length + ([] : List Keyword).length + (if ([] : List Keyword).isEmpty then 0 else 1) < 30)) = true := by rfl)
    (hline : (apos.endLine == cpos.line) = true := by rfl) (hs : starEach [e] X.env = (false, eval e X.env) :: starEach [] X.env := by rfl) : SE X D (.Call (.Attribute o "append" apos) [e] [] cpos) (eAppend fo fe) :=
  PE_imp (pe_bm PySem.F.plainAttrs_list PySem.F.slot_list_append PySem.F.type_list_append mt_append ho (pa_cons ha pa_nil hs) hbase hfew hline hs) fun σ H Q ⟨n, μ, ρ, st, z, st', ok, er, hf, an⟩ => by
    obtain ⟨x, s1, h1, hf⟩ := bind_eq_ok hf
    refine ⟨n, μ, ρ, st, x, s1, ok, er, h1, fun n1 μ1 H1 y1 ok1 l1 r1 f1 => ?_⟩
    by_cases hc : (refL x s1).isSome = true
    · rw [if_pos hc] at hf
      obtain ⟨t, s2, h2, hf⟩ := bind_eq_ok hf
      obtain ⟨w, s3, h3, hf⟩ := bind_eq_ok hf
      refine ⟨ref_ty ok1 r1 hc, n1, μ1, ρ, s1, t, s2, ok1, er.mono l1, h2, fun n2 μ2 H2 y2 ok2 l2 r2 f2 => ?_⟩
      obtain ⟨n3, μ3, ok3, l3, r3, tr, hn, hm⟩ := mat_ok h3 ok2 l2 r2 f2
      cases h4 : refL x s3 with
      | none => simp only [h4] at hf; cases hf
      | some pr =>
        obtain ⟨j, xs⟩ := pr
        simp only [h4] at hf
        by_cases hl : xs.length < LIM
        · rw [if_pos hl] at hf
          cases hf
          obtain ⟨rfl, rfl, hj, hst, ys, hy, ra⟩ := refL_ok ok3 (r1.mono l3) h4
          have rr := ra.append (.cons r3 .nil)
          obtain ⟨ok4, l4⟩ := wr_lst ok3 hj rr
          exact ⟨_, ys, y2, rfl, rfl, hy, by rw [← ra.length, sizeLine_eq]; exact hl, an n3 μ3 _ _ ok4 (l1.trans (l3.trans l4)) .non trivial⟩
        · rw [if_neg hl] at hf; cases hf
    · rw [if_neg hc] at hf; cases hf
theorem e_extend (ho : SE X D o fo) (ha : SE X D e fe) (hbase : attributeBase o "extend" X.env (eval o X.env) = eval o X.env := by rfl)
    (hfew : ((backTo cpos (starEach [e] X.env)).all (fun x => !x.1) && (backToKw cpos (keywordEach [] X.env)).all (fun x => x.1.isSome)
      && decide ([e].length + ([] : List Keyword).length + (if ([] : List Keyword).isEmpty then 0 else 1) < 30)) = true := by rfl)
    (hline : (apos.endLine == cpos.line) = true := by rfl) (hs : starEach [e] X.env = (false, eval e X.env) :: starEach [] X.env := by rfl) : SE X D (.Call (.Attribute o "extend" apos) [e] [] cpos) (eExtend fo fe) :=
  PE_imp (pe_bm PySem.F.plainAttrs_list PySem.F.slot_list_extend PySem.F.type_list_extend mt_extend ho (pa_cons ha pa_nil hs) hbase hfew hline hs) fun σ H Q ⟨n, μ, ρ, st, z, st', ok, er, hf, an⟩ => by
    obtain ⟨x, s1, h1, hf⟩ := bind_eq_ok hf
    refine ⟨n, μ, ρ, st, x, s1, ok, er, h1, fun n1 μ1 H1 y1 ok1 l1 r1 f1 => ?_⟩
    by_cases hc : (refL x s1).isSome = true
    · rw [if_pos hc] at hf
      obtain ⟨t, s2, h2, hf⟩ := bind_eq_ok hf
      refine ⟨ref_ty ok1 r1 hc, n1, μ1, ρ, s1, t, s2, ok1, er.mono l1, h2, fun n2 μ2 H2 y2 ok2 l2 r2 f2 => ?_⟩
      cases h4 : refL x s2 with
      | none => simp only [h4] at hf; cases hf
      | some pr =>
        obtain ⟨j, xs⟩ := pr
        cases h5 : lstOf t s2 with
        | none => simp only [h4, h5] at hf; cases hf
        | some ls =>
          simp only [h4, h5] at hf
          by_cases hl : xs.length + ls.length ≤ LIM
          · rw [if_pos hl] at hf
            cases hf
            obtain ⟨rfl, rfl, hj, hst, ys, hy, ra⟩ := refL_ok ok2 (r1.mono l2) h4
            obtain ⟨b, zs, rfl, hb, rb⟩ := lstOf_ok ok2 r2 h5
            obtain ⟨ok4, l4⟩ := wr_lst ok2 hj (ra.append rb)
            exact ⟨_, b, ys, zs, rfl, rfl, hy, hb, by rw [← ra.length, ← rb.length, sizeLine_eq]; exact hl, an n2 μ2 _ _ ok4 (l1.trans (l2.trans l4)) .non trivial⟩
          · rw [if_neg hl] at hf; cases hf
    · rw [if_neg hc] at hf; cases hf
theorem e_pop (ho : SE X D o fo) (hbase : attributeBase o "pop" X.env (eval o X.env) = eval o X.env := by rfl) (hline : (apos.endLine == cpos.line) = true := by rfl) : SE X D (.Call (.Attribute o "pop" apos) [] [] cpos) (ePop fo) :=
  PE_imp (pe_bm0 PySem.F.plainAttrs_list PySem.F.slot_list_pop PySem.F.type_list_pop mt_pop ho hbase hline) fun σ H Q ⟨n, μ, ρ, st, z, st', ok, er, hf, an⟩ => by
    obtain ⟨x, s1, h1, hf⟩ := bind_eq_ok hf
    refine ⟨n, μ, ρ, st, x, s1, ok, er, h1, fun n1 μ1 H1 y1 ok1 l1 r1 f1 => ?_⟩
    cases h4 : refL x s1 with
    | none => simp only [h4] at hf; cases hf
    | some pr =>
      obtain ⟨j, xs⟩ := pr
      simp only [h4] at hf
      cases h5 : xs[xs.length - 1]? with
      | none => simp only [h5] at hf; cases hf
      | some w =>
        simp only [h5] at hf
        cases hf
        refine ⟨ref_ty ok1 r1 (by rw [h4]; rfl), ?_⟩
        obtain ⟨rfl, rfl, hj, hst, ys, hy, ra⟩ := refL_ok ok1 r1 h4
        obtain ⟨yv, hyv, rv⟩ := ra.get h5
        obtain ⟨ok4, l4⟩ := wr_lst ok1 hj ra.dropLast
        exact ⟨_, ys, yv, rfl, rfl, hy, by rw [← ra.length]; exact hyv, an n1 μ1 _ _ ok4 (l1.trans l4) (rv.mono l4) trivial⟩
theorem e_popAt (ho : SE X D o fo) (ha : SE X D e fe) (hbase : attributeBase o "pop" X.env (eval o X.env) = eval o X.env := by rfl)
    (hfew : ((backTo cpos (starEach [e] X.env)).all (fun x => !x.1) && (backToKw cpos (keywordEach [] X.env)).all (fun x => x.1.isSome)
      && decide ([e].length + ([] : List Keyword).length + (if ([] : List Keyword).isEmpty then 0 else 1) < 30)) = true := by rfl)
    (hline : (apos.endLine == cpos.line) = true := by rfl) (hs : starEach [e] X.env = (false, eval e X.env) :: starEach [] X.env := by rfl) : SE X D (.Call (.Attribute o "pop" apos) [e] [] cpos) (ePopAt fo fe) :=
  PE_imp (pe_bm PySem.F.plainAttrs_list PySem.F.slot_list_pop PySem.F.type_list_pop mt_popAt ho (pa_cons ha pa_nil hs) hbase hfew hline hs) fun σ H Q ⟨n, μ, ρ, st, z, st', ok, er, hf, an⟩ => by
    obtain ⟨x, s1, h1, hf⟩ := bind_eq_ok hf
    refine ⟨n, μ, ρ, st, x, s1, ok, er, h1, fun n1 μ1 H1 y1 ok1 l1 r1 f1 => ?_⟩
    by_cases hc : (refL x s1).isSome = true
    · rw [if_pos hc] at hf
      obtain ⟨t, s2, h2, hf⟩ := bind_eq_ok hf
      refine ⟨ref_ty ok1 r1 hc, n1, μ1, ρ, s1, t, s2, ok1, er.mono l1, h2, fun n2 μ2 H2 y2 ok2 l2 r2 f2 => ?_⟩
      split at hf
      · rename_i i
        cases r2
        cases h4 : refL x s2 with
        | none => simp only [h4] at hf; cases hf
        | some pr =>
          obtain ⟨j, xs⟩ := pr
          simp only [h4] at hf
          cases h6 : (if inR i then VI.ixN xs.length i else none) with
          | none => simp only [h6] at hf; cases hf
          | some k =>
            simp only [h6] at hf
            cases h5 : xs[k]? with
            | none => simp only [h5] at hf; cases hf
            | some w =>
              simp only [h5] at hf
              cases hf
              obtain ⟨rfl, rfl, hj, hst, ys, hy, ra⟩ := refL_ok ok2 (r1.mono l2) h4
              obtain ⟨yv, hyv, rv⟩ := ra.get h5
              obtain ⟨ok4, l4⟩ := wr_lst ok2 hj (ra.eraseIdx k)
              by_cases hin : inR i = true
              · rw [if_pos hin] at h6
                obtain ⟨q1, q2, q3, q4⟩ := L2.ixN_seq (n := xs.length) (i := i) (j := k) h6
                unfold inR at hin
                simp only [Bool.and_eq_true, decide_eq_true_eq] at hin
                exact ⟨_, ys, i, k, yv, rfl, rfl, hy, by omega, by omega, by rw [← ra.length]; exact q1, hyv, an n2 μ2 _ _ ok4 (l1.trans (l2.trans l4)) (rv.mono l4) trivial⟩
              · rw [if_neg hin] at h6; cases h6
      · cases hf
    · rw [if_neg hc] at hf; cases hf
end
end VI
end
section
set_option Elab.async false
set_option linter.all false
set_option maxRecDepth 100000
set_option maxHeartbeats 4000000
/-! VI7: what is walked. -/
namespace VI
open PySem PySem.Spec PyProof.Rows L2

/-! ### enumerate of a tuple -/
theorem enum_new1 {v : Value} {o : Obj} {H : Heap → Prop} (B : Begins v o H) :
    Meets (Builtin.«enumerate.__new__» ⟨[.type "enumerate", v], []⟩) (fun _ R s => H s.heap ∧
      R (.ok (.ret (.ref (s.heap.push o).objs.size))) { s with heap := (s.heap.push o).push { cls := .type "enumerate", data := .fields #[.none, .bool false, .ref s.heap.objs.size, rawInt 0, .none, .none] } }) :=
  .of_wp fun prog w A R s h => by
    obtain ⟨hp, g, d, tk, os⟩ := s; obtain ⟨h1, h⟩ := h
    have hsub := sub_enumerate
    have q1 : ∀ {A' : Around} {E : Value → Shared → Prop} {Q : Value → Shared → Prop}, Q (.ref hp.objs.size) ⟨hp.push o, g, d, tk, os⟩ → wpAny (model prog w) A' (pyIter v) Q E ⟨hp, g, d, tk, os⟩ :=
      fun q => B.iter prog w _ _ ⟨hp, g, d, tk, os⟩ _ h1 q
    wp_walk
    refine wpAny_stack_any fun st => wpAny_pure ?_
    split
    · rename_i c _ _ _ _ _
      cases (c == Value.type "enumerate")
      · wp_walk using q1
        exact ⟨_, rfl, h⟩
      · wp_walk using q1
        exact ⟨_, rfl, h⟩
    · wp_walk using q1
      exact ⟨_, rfl, h⟩
theorem enum_begins1 {prog : Program} {w : World} {A : Around} {E : Value → Shared → Prop} {s : Shared} {v : Value} {o : Obj} {H : Heap → Prop} {Q : Value → Shared → Prop} (B : Begins v o H) (h1 : H s.heap)
    (h : ∀ h', IsEnum h' (s.heap.objs.size + 1) s.heap.objs.size 0 .none → h'.get? s.heap.objs.size = some o → h'.objs.size = s.heap.objs.size + 2 →
      (∀ b o, s.heap.get? b = some o → h'.get? b = some o) → Q (.ref (s.heap.objs.size + 1)) { s with heap := h' }) :
    wpAny (model prog w) A (call (.type "enumerate") [v]) Q E s := by
  refine callType_new F.called_enumerate (by decide) (F.typeCall_enumerate_1 _) (F.newCall_enumerate_1 _) (fun obj => F.args_object_init_2 obj _) F.entry_enumerate_new
    (enum_new1 B) ⟨h1, ?_⟩
  have hz : (s.heap.push o).objs.size = s.heap.objs.size + 1 := Heap.size_push ..
  show _ ∧ _
  rw [hz]
  have he : IsEnum ((s.heap.push o).push { cls := .type "enumerate", data := .fields #[.none, .bool false, .ref s.heap.objs.size, rawInt 0, .none, .none] }) (s.heap.objs.size + 1) s.heap.objs.size 0 .none := by
    have := Heap.get?_push_size (s.heap.push o) (o := { cls := .type "enumerate", data := .fields #[.none, .bool false, .ref s.heap.objs.size, rawInt 0, .none, .none] }) rfl
    rw [hz] at this; exact this
  refine ⟨⟨_, he, rfl⟩, h _ he (Heap.get?_push_of_some _ (Heap.get?_push_size _ B.free)) (by rw [Heap.size_push, hz]) fun b o x => Heap.get?_push_of_some _ (Heap.get?_push_of_some _ x)⟩
/-- the tuple at a, each item in a new pair -/
def IteT (K : PySem.W.Frag) (a : Addr) : It :=
  ⟨fun i H => ∃ (xs : List V) (x : V), SqT K H a xs ∧ xs[i]? = some x, fun i H v H' => ∃ T x, v = .ref T ∧ H T = none ∧ H' = upd H T (.tup [.int (i : Nat), x]) ∧ ∀ xs, SqT K H a xs → xs[i]? = some x, fun i H => ∃ xs : List V, SqT K H a xs ∧ xs.length ≤ i⟩
theorem turn_enumT {P : Program} {w : World} {K : PySem.W.Frag} {elts : List Expr} {kk : Nat} {tpos : Pos} (a e it : Addr) :
    Turn P w K (.Tuple elts kk tpos) (IteT K a) [e, it] e (fun i h => (∃ old, IsEnum h e it ((i : Nat) : Int) old) ∧ h.IsTupleIter it a i ∧ e ≠ it) where
  mem := by simp
  obj := fun i h st b hb => by
    obtain ⟨⟨old, he⟩, ⟨o, ho, hc, hd⟩, _⟩ := st
    have e' : b = e ∨ b = it := by simpa using hb
    rcases e' with z | z
    · rw [z]; exact ⟨_, he, fun v q => nomatch q⟩
    · rw [z]; exact ⟨o, ho, fun v q => by rw [hd] at q; cases q⟩
  keep := fun i h h' st k => let ⟨⟨old, he⟩, hi, hne⟩ := st; ⟨⟨old, k e (by simp) _ he⟩, hi.at fun o q => k it (by simp) o q, hne⟩
  item := by
    intro X hP hw hK hc i pins s σ H E I hf st hg
    subst hP hw hK
    obtain ⟨⟨old, he⟩, hit, hne⟩ := st
    obtain ⟨xs, x, hq, hx⟩ := hg
    obtain ⟨its, rv, p, hz⟩ := I.tuple hq
    obtain ⟨u, hu, ru⟩ := rv.get hx
    have pT : s.heap.IsTuple a its.toArray := p
    have hel : e < s.heap.objs.size := Heap.lt_size he
    have hil : it < s.heap.objs.size := by obtain ⟨_, q, _⟩ := hit; exact Heap.lt_size q
    have hai : a ≠ it := fun z => by
      obtain ⟨o1, g1, c1, _⟩ := hit
      obtain ⟨o2, g2, c2, _⟩ := pT
      rw [z, g1] at g2; cases g2; rw [c1] at c2; injection c2 with c2; exact absurd c2 (by decide)
    have hae : a ≠ e := fun z => by
      obtain ⟨o2, g2, c2, _⟩ := pT
      rw [z, he] at g2; cases g2; injection c2 with c2; exact absurd c2 (by decide)
    have hl : i < its.toArray.size := by
      have := (List.getElem?_eq_some_iff.mp hu).1
      simpa using this
    refine wpAny_pyNext_enum_itemD (Draws.tuple (A := X.A.in1) (I.ok.hd hc) it a hai its.toArray) he ⟨hit, pT⟩ hl hne (by simp [hne, Ne.symm hae]) fun x' h' tk hPx ho hst hT hsz hk => ?_
    have hux : x' = u := by
      have h1 : its.toArray[i]? = some u := by simpa using hu
      have h2 : its.toArray[i]? = some x' := hPx
      rw [h1] at h2; exact (Option.some.inj h2).symm
    subst hux
    refine ⟨_, rfl, wpAny_letOwnedTupleGo_enum (s := { s with heap := h', toks := tk + 1 }) ho fun h'' he' sb => ?_⟩
    have hT2 : h''.get? s.heap.objs.size = some { cls := .type "tuple", data := .seq #[.int i tk, x'] } := (sb.2 _ (Nat.ne_of_gt hel)).trans hT
    have new : ObjOk X.prog X.w (upd H s.heap.objs.size (.tup [.int (i : Nat), x])) h'' s.heap.objs.size (.tup [.int (i : Nat), x]) :=
      ⟨by show 2 ≤ sizeLine; decide, [.int i tk, x'], .cons ⟨_, rfl⟩ (.cons ru .nil), ⟨_, hT2, rfl, _, rfl⟩⟩
    have I1 : Inv X pins σ (upd H s.heap.objs.size (.tup [.int (i : Nat), x])) { s with heap := h'', toks := tk + 1 } :=
      I.turnedNew (ch := [e, it]) (fun b ob hb q => (sb.2 b (fun z => hb (by simp [z]))).trans (hk b ob (fun z => hb (by simp [z])) (fun z => hb (by simp [z])) q)) hf (Nat.le_refl _) new
    refine ⟨.ref s.heap.objs.size, _, I1, rfl, ⟨_, x, rfl, I.hok.fresh (Nat.le_refl _), rfl, fun ys hy => by rw [I.tuple_inj hy hq]; exact hx⟩, ⟨⟨x', ?_⟩, hst.1.at fun o q => (sb.2 it (Ne.symm hne)).trans q, hne⟩, fun b hb => ?_⟩
    · have e1 : ((i + 1 : Nat) : Int) = (i : Int) + 1 := by omega
      rw [e1]; exact he'
    · have hb' : b < s.heap.objs.size := by
        have e' : b = e ∨ b = it := by simpa using hb
        rcases e' with z | z
        · rw [z]; exact hel
        · rw [z]; exact hil
      rw [upd_ne (Nat.ne_of_lt hb')]
      exact (hf b hb).1
  done := by
    intro X hP hw hK hc i pins s σ H E I hf st hg
    subst hP hw hK
    obtain ⟨⟨old, he⟩, hit, hne⟩ := st
    obtain ⟨xs, hq, hx⟩ := hg
    obtain ⟨its, rv, p, hz⟩ := I.tuple hq
    obtain ⟨f0, f1, f2, f3, f4, f5⟩ := hf it (by simp)
    have hl := rv.length
    have pT : s.heap.IsTuple a its.toArray := p
    have hT : s.TypeIs (.ref e) "enumerate" := ⟨_, he, rfl⟩
    unfold pyNext
    refine wpAny_bind (wpAny_attempt (wpAny_callSpecial?_slot (name := Str.ofString "__next__") hT F.slot_enumerate_next
      (wpAny_call_entry F.slot_enumerate_next hT F.entry_enumerate_next ?_ (F.args_enumerate_next_1 _))))
    show wpAny _ _ (field (.ref e) 2 >>= _) _ _ _
    refine wpAny_bind (wpAny_field he rfl (x := .ref it) rfl ?_)
    refine wpAny_bind (wpAny_nextOf_tuple_end (A := X.A.in1) (I.ok.hd hc) hit pT (by simp; omega) fun h' x he' hx' => ?_)
    obtain ⟨o, ho, hc⟩ := hx'
    refine wpAny_bind (wpAny_isInstance (T := "StopIteration") (b := true) ⟨o, ho, hc⟩ isSubtype_stop ?_)
    exact wpAny_pure ⟨rfl, I.turned (t' := s.toks) (fun b o hb q => he' b o hb q) f0 f1 f3 f4 f5⟩
  self := fun A i s Q E st h => let ⟨⟨_, he⟩, _⟩ := st; wpAny_pyIter_enum he h

/-! ### list or tuple -/
section
variable {X : Cx} {tg : Expr}
def iSeq (K : PySem.W.Frag) (tl : TE) : TI := fun σ H R => tl σ H fun x H1 => ∃ a, x = .ref a ∧ (((∃ xs, SqL K H1 a xs) ∧ R (Itl K a) H1) ∨ ((∃ xs, SqT K H1 a xs) ∧ R (Itt K a) H1))
theorem pi_seq {l : Expr} {tl : TE} (hl : PE X l tl) : PI X tg l (iSeq X.K tl) := by
  refine ⟨fun pins s σ H R I h => ?_⟩
  refine thn (hl.run pins s σ H _ I h) fun v s1 ⟨x, H1, I1, r1, q1⟩ => ?_
  obtain ⟨a, e, q1⟩ := q1
  subst e
  cases r1
  have fr : ∀ b ∈ [s1.heap.objs.size], FpOk X pins H1 b := fun b hb => by
    have e : b = s1.heap.objs.size := by simpa using hb
    subst e
    exact I1.fpOk (Nat.le_refl _) (I1.hok.fresh (Nat.le_refl _))
  rcases q1 with ⟨⟨xs, hq⟩, q⟩ | ⟨⟨xs, hq⟩, q⟩
  · obtain ⟨its, rv, p, hz⟩ := I1.list hq
    refine wpAny_pyIter_list p.isList ?_
    exact ⟨s1.heap.objs.size, [s1.heap.objs.size], _, _, H1, rfl, I1.kept (t' := s1.toks) fun b o e => Heap.get?_push_of_some _ e, turn_list a _, ⟨_, Heap.get?_push_size _ rfl, rfl, rfl⟩, fr, q⟩
  · obtain ⟨its, rv, p, hz⟩ := I1.tuple hq
    refine wpAny_pyIter_tuple (show s1.heap.IsTuple a its.toArray from p) ?_
    exact ⟨s1.heap.objs.size, [s1.heap.objs.size], _, _, H1, rfl, I1.kept (t' := s1.toks) fun b o e => Heap.get?_push_of_some _ e, turn_tuple a _, ⟨_, Heap.get?_push_size _ rfl, rfl, rfl⟩, fr, q⟩
def iEnumS (K : PySem.W.Frag) (ta : TA) : TI := fun σ H R => ta σ H fun vs H1 => ∃ a, vs = [.ref a] ∧ (((∃ xs, SqL K H1 a xs) ∧ R (Ite K a) H1) ∨ ((∃ xs, SqT K H1 a xs) ∧ R (IteT K a) H1))
theorem pi_enumS {e : Expr} {ta : TA} {p pos tpos : Pos} {elts : List Expr} {kk : Nat} (hg : Gl X "enumerate") (hm : X.mg "enumerate" = none) (ha : PA X [e] ta) (hs : starEach [e] X.env = [(false, eval e X.env)] := by rfl) :
    PI X (.Tuple elts kk tpos) (.Call (.Name "enumerate" p) [e] [] pos) (iEnumS X.K ta) := by
  refine ⟨fun pins s σ H R I h => ?_⟩
  refine Call_ (ld_blt I hg hm boot_enumerate (PyProof.Rows.callWith_type1 (thn (ha.run pos pins s σ H _ I h) fun us s1 ⟨vs, H1, I1, r1, q1⟩ => ?_) hs rfl))
  obtain ⟨a, ex, q1⟩ := q1
  subst ex
  cases r1 with
  | cons r rr =>
    cases rr
    cases r
    have fr : ∀ b ∈ [s1.heap.objs.size + 1, s1.heap.objs.size], FpOk X pins H1 b := fun b hb => by
      have e' : b = s1.heap.objs.size + 1 ∨ b = s1.heap.objs.size := by simpa using hb
      have hle : s1.heap.objs.size ≤ b := by
        rcases e' with z | z
        · rw [z]; exact Nat.le_add_right _ _
        · rw [z]; exact Nat.le_refl _
      exact I1.fpOk hle (I1.hok.fresh hle)
    rcases q1 with ⟨⟨xs, hq⟩, q⟩ | ⟨⟨xs, hq⟩, q⟩
    · obtain ⟨its, rv, p', hz⟩ := I1.list hq
      refine call_enumerate_list p'.isList fun h' he hit hsz hk => wpAny_pyIter_enum he ?_
      have I2 : Inv X pins σ H1 { s1 with heap := h' } := I1.kept (t' := s1.toks) hk
      exact ⟨s1.heap.objs.size + 1, [s1.heap.objs.size + 1, s1.heap.objs.size], _, _, H1, rfl, I2, turn_enum a (s1.heap.objs.size + 1) s1.heap.objs.size, ⟨⟨.none, he⟩, hit, Nat.succ_ne_self _⟩, fr, q⟩
    · obtain ⟨its, rv, p', hz⟩ := I1.tuple hq
      refine enum_begins1 (begins_tuple a its.toArray) (show s1.heap.IsTuple a its.toArray from p') fun h' he hit hsz hk => wpAny_pyIter_enum he ?_
      have I2 : Inv X pins σ H1 { s1 with heap := h' } := I1.kept (t' := s1.toks) hk
      exact ⟨s1.heap.objs.size + 1, [s1.heap.objs.size + 1, s1.heap.objs.size], _, _, H1, rfl, I2, turn_enumT a (s1.heap.objs.size + 1) s1.heap.objs.size, ⟨⟨.none, he⟩, ⟨_, hit, rfl, rfl⟩, Nat.succ_ne_self _⟩, fr, q⟩
end

/-! ### what its turns give -/
def ItR (D : Wd) (n : Nat) (μ : Nat → Addr) (H : Hp) (its : Its) (J : It) : Prop :=
  ∀ n' μ' H' st', Ok D n' μ' H' st' → Le n μ H n' μ' H' → ∀ xs, its st' = some xs → ∀ i,
    (∀ x, xs[i]? = some x → J.go i H' ∧ ∀ y H2, J.yld i H' y H2 → Ok D n' μ' H2 st' ∧ Le n' μ' H' n' μ' H2 ∧ Rp D n' μ' H2 x y) ∧ (xs[i]? = none → J.stop i H')
theorem ItR.le {D : Wd} {n n1 : Nat} {μ μ1 : Nat → Addr} {H H1 : Hp} {its : Its} {J : It} (h : ItR D n μ H its J) (l : Le n μ H n1 μ1 H1) : ItR D n1 μ1 H1 its J := fun n' μ' H' st' ok l' => h n' μ' H' st' ok (l.trans l')
def rI (D : Wd) (ix : Ix) : TI := fun σ H R => ∃ n μ ρ st its st', Ok D n μ H st ∧ EnvR D n μ H ρ σ ∧ ix ρ st = .ok its st' ∧ ∀ n' μ' H' J, Ok D n' μ' H' st' → Le n μ H n' μ' H' → ItR D n' μ' H' its J → R J H'
abbrev SI (X : Cx) (D : Wd) (tg e : Expr) (ix : Ix) : Prop := PI X tg e (rI D ix)
section
variable {D : Wd} {n : Nat} {μ : Nat → Addr} {H : Hp} {st : Store} {its its' : Its} {a b : Addr}
/-- a walked list at a, at every later state; a walked tuple -/
def LAt (D : Wd) (n : Nat) (μ : Nat → Addr) (H : Hp) (its : Its) (a : Addr) : Prop :=
  ∀ n' μ' H' st', Ok D n' μ' H' st' → Le n μ H n' μ' H' → ∀ xs, its st' = some xs → ∃ ys, SqL D.K H' a ys ∧ RpAll D n' μ' H' xs ys
def TAt (D : Wd) (n : Nat) (μ : Nat → Addr) (H : Hp) (its : Its) (a : Addr) : Prop :=
  ∀ n' μ' H' st', Ok D n' μ' H' st' → Le n μ H n' μ' H' → ∀ xs, its st' = some xs → ∃ ys, SqT D.K H' a ys ∧ RpAll D n' μ' H' xs ys
theorem LAt.le {n1 : Nat} {μ1 : Nat → Addr} {H1 : Hp} (h : LAt D n μ H its a) (l : Le n μ H n1 μ1 H1) : LAt D n1 μ1 H1 its a := fun n' μ' H' st' ok l' => h n' μ' H' st' ok (l.trans l')
theorem TAt.le {n1 : Nat} {μ1 : Nat → Addr} {H1 : Hp} (h : TAt D n μ H its a) (l : Le n μ H n1 μ1 H1) : TAt D n1 μ1 H1 its a := fun n' μ' H' st' ok l' => h n' μ' H' st' ok (l.trans l')
theorem itsOf_ok {t : Tv} {y : V} (ok : Ok D n μ H st) (r : Rt D n μ H t y) (e : itsOf t st = some its) : ∃ a, y = .ref a ∧ ((LAt D n μ H its a ∧ (∃ xs, SqL D.K H a xs) ∧ isTupT t = false) ∨ (TAt D n μ H its a ∧ (∃ xs, SqT D.K H a xs) ∧ isTupT t = true)) := by
  cases t with
  | l xs =>
    cases e
    have r0 := r
    obtain ⟨a, ys, e1, ha, ra, hm⟩ := r
    subst e1
    refine ⟨a, rfl, .inl ⟨fun n' μ' H' st' ok' l xs' q => ?_, ⟨ys, SqL.of ha⟩, rfl⟩⟩
    cases q
    obtain ⟨a', ys', e1, ha', ra', _⟩ := Rt.mono l r0
    cases e1
    exact ⟨ys', SqL.of ha', ra'⟩
  | v x =>
    cases x with
    | tup zs =>
      cases e
      cases r with
      | tup h ra =>
        refine ⟨_, rfl, .inr ⟨fun n' μ' H' st' ok' l xs' q => ?_, ⟨_, h.sq⟩, rfl⟩⟩
        cases q
        exact ⟨_, (h.mono l.tup).sq, ra.mono l⟩
    | ref k =>
      cases r with
      | ref hk0 =>
        unfold itsOf at e
        cases hk : st[k]? with
        | none => simp [hk] at e
        | some o =>
          cases o with
          | lst zs =>
            simp only [hk, Option.some.injEq] at e
            subst e
            obtain ⟨ys, h, ra⟩ := ok.ob k _ hk
            refine ⟨_, rfl, .inl ⟨fun n' μ' H' st' ok' l xs' q => ?_, ⟨ys, SqL.of h⟩, rfl⟩⟩
            cases hk' : st'[k]? with
            | none => simp [hk'] at q
            | some o' =>
              cases o' with
              | lst ws =>
                simp only [hk', Option.some.injEq] at q
                subst q
                obtain ⟨ys', h', ra'⟩ := ok'.ob k _ hk'
                rw [l.mu k hk0] at h'
                exact ⟨ys', SqL.of h', ra'⟩
              | _ => simp [hk'] at q
          | frz zs =>
            simp only [hk, Option.some.injEq] at e
            subst e
            obtain ⟨o, ys, h, ra⟩ := ok.ob k _ hk
            refine ⟨_, rfl, .inl ⟨fun n' μ' H' st' ok' l xs' q => ?_, ⟨ys, .inl (.inr ⟨o, h⟩)⟩, rfl⟩⟩
            cases hk' : st'[k]? with
            | none => simp [hk'] at q
            | some o' =>
              cases o' with
              | frz ws =>
                simp only [hk', Option.some.injEq] at q
                subst q
                obtain ⟨o', ys', h', ra'⟩ := ok'.ob k _ hk'
                rw [l.mu k hk0] at h'
                exact ⟨ys', .inl (.inr ⟨o', h'⟩), ra'⟩
              | _ => simp [hk'] at q
          | _ => simp [hk] at e
    | _ => cases e
theorem RpAll.none {xs : List Val} {ys : List V} {i : Nat} (r : RpAll D n μ H xs ys) (h : xs[i]? = Option.none) : ys.length ≤ i := by
  rw [← r.length]; exact List.getElem?_eq_none_iff.mp h
theorem it_l (h : LAt D n μ H its a) : ItR D n μ H its (Itl D.K a) := fun n' μ' H' st' ok l xs e i => by
  obtain ⟨ys, hs, r⟩ := h n' μ' H' st' ok l xs e
  refine ⟨fun x hx => ?_, fun hx => ⟨ys, hs, r.none hx⟩⟩
  obtain ⟨y, hy, ry⟩ := r.get hx
  refine ⟨⟨ys, y, hs, hy⟩, fun y' H2 q => ?_⟩
  obtain ⟨rfl, q⟩ := q
  have := q ys hs
  rw [hy] at this; cases this
  exact ⟨ok, Le.refl _ _ _, ry⟩
theorem it_t (h : TAt D n μ H its a) : ItR D n μ H its (Itt D.K a) := fun n' μ' H' st' ok l xs e i => by
  obtain ⟨ys, hs, r⟩ := h n' μ' H' st' ok l xs e
  refine ⟨fun x hx => ?_, fun hx => ⟨ys, hs, r.none hx⟩⟩
  obtain ⟨y, hy, ry⟩ := r.get hx
  refine ⟨⟨ys, y, hs, hy⟩, fun y' H2 q => ?_⟩
  obtain ⟨rfl, q⟩ := q
  have := q ys hs
  rw [hy] at this; cases this
  exact ⟨ok, Le.refl _ _ _, ry⟩
theorem rng_get (lo : Int) (m i : Nat) : ((List.range m).map fun k => Val.int (lo + (k : Nat)))[i]? = if i < m then some (.int (lo + (i : Nat))) else none := by
  rw [List.getElem?_map]
  by_cases h : i < m
  · rw [List.getElem?_range h, if_pos h]; rfl
  · rw [List.getElem?_eq_none (by simpa using h), if_neg h]; rfl
theorem it_r {lo hi : Int} {m : Nat} (hm : (hi - lo).toNat = m) : ItR D n μ H (fun _ => some (rngV lo hi)) (Itr lo m) := fun n' μ' H' st' ok l xs e i => by
  cases e
  unfold rngV
  rw [hm, rng_get]
  refine ⟨fun x hx => ?_, fun hx => ?_⟩
  · by_cases h : i < m
    · rw [if_pos h] at hx; cases hx
      refine ⟨h, fun y H2 q => ?_⟩
      obtain ⟨rfl, rfl⟩ := q
      exact ⟨ok, Le.refl _ _ _, .int _⟩
    · rw [if_neg h] at hx; cases hx
  · by_cases h : i < m
    · rw [if_pos h] at hx; cases hx
    · exact Nat.le_of_not_lt h
theorem num_get : ∀ (xs : List Val) (j i : Nat), (numbered xs j)[i]? = (xs[i]?).map fun x => Val.tup [.int ((j + i : Nat)), x]
  | [], _, _ => by simp [numbered]
  | x :: r, j, 0 => by simp [numbered]
  | x :: r, j, i + 1 => by
    unfold numbered
    rw [List.getElem?_cons_succ, List.getElem?_cons_succ, num_get r (j + 1) i, Nat.add_right_comm, Nat.add_assoc]
theorem pair_new {x : Val} {y : V} {i : Nat} (ok : Ok D n μ H st) (r : Rp D n μ H x y) {T : Addr} (hT : H T = none) : Ok D n μ (upd H T (.tup [.int (i : Nat), y])) st ∧ Le n μ H n μ (upd H T (.tup [.int (i : Nat), y])) ∧ Rp D n μ (upd H T (.tup [.int (i : Nat), y])) (.tup [.int ((i : Nat)), x]) (.ref T) := by
  obtain ⟨ok', l'⟩ := ok.upd (u := .tup [.int (i : Nat), y]) hT
  exact ⟨ok', l', .tup (.inl upd_same) (.cons (.int _) (.cons (r.mono l') .nil))⟩
theorem it_el (h : LAt D n μ H its a) : ItR D n μ H (fun s => (its s).map fun xs => numbered xs 0) (Ite D.K a) := fun n' μ' H' st' ok l xs e i => by
  obtain ⟨xs, e1, rfl⟩ := Option.map_eq_some_iff.mp e
  obtain ⟨ys, hs, r⟩ := h n' μ' H' st' ok l xs e1
  rw [num_get]
  refine ⟨fun x hx => ?_, fun hx => ⟨ys, hs, r.none (by simpa using hx)⟩⟩
  obtain ⟨x, hx1, rfl⟩ := Option.map_eq_some_iff.mp hx
  obtain ⟨y, hy, ry⟩ := r.get hx1
  refine ⟨⟨ys, y, hs, hy⟩, fun y' H2 q => ?_⟩
  obtain ⟨T, z, rfl, hT, rfl, q⟩ := q
  have := q ys hs
  rw [hy] at this; cases this
  rw [Nat.zero_add]
  exact pair_new ok ry hT
theorem it_et (h : TAt D n μ H its a) : ItR D n μ H (fun s => (its s).map fun xs => numbered xs 0) (IteT D.K a) := fun n' μ' H' st' ok l xs e i => by
  obtain ⟨xs, e1, rfl⟩ := Option.map_eq_some_iff.mp e
  obtain ⟨ys, hs, r⟩ := h n' μ' H' st' ok l xs e1
  rw [num_get]
  refine ⟨fun x hx => ?_, fun hx => ⟨ys, hs, r.none (by simpa using hx)⟩⟩
  obtain ⟨x, hx1, rfl⟩ := Option.map_eq_some_iff.mp hx
  obtain ⟨y, hy, ry⟩ := r.get hx1
  refine ⟨⟨ys, y, hs, hy⟩, fun y' H2 q => ?_⟩
  obtain ⟨T, z, rfl, hT, rfl, q⟩ := q
  have := q ys hs
  rw [hy] at this; cases this
  rw [Nat.zero_add]
  exact pair_new ok ry hT
theorem paired_get : ∀ (xs ys : List Val) (i : Nat), (paired xs ys)[i]? = match xs[i]?, ys[i]? with | some x, some y => some (Val.tup [x, y]) | _, _ => none
  | [], _, _ => by simp [paired]
  | x :: r, [], i => by
    cases h : (x :: r)[i]? <;> simp [paired]
  | x :: r, y :: q, 0 => by simp [paired]
  | x :: r, y :: q, i + 1 => by
    unfold paired
    rw [List.getElem?_cons_succ, List.getElem?_cons_succ, List.getElem?_cons_succ, paired_get r q i]
theorem pair_new2 {x z : Val} {y w : V} (ok : Ok D n μ H st) (r : Rp D n μ H x y) (r' : Rp D n μ H z w) {T : Addr} (hT : H T = none) : Ok D n μ (upd H T (.tup [y, w])) st ∧ Le n μ H n μ (upd H T (.tup [y, w])) ∧ Rp D n μ (upd H T (.tup [y, w])) (.tup [x, z]) (.ref T) := by
  obtain ⟨ok', l'⟩ := ok.upd (u := .tup [y, w]) hT
  exact ⟨ok', l', .tup (.inl upd_same) (.cons (r.mono l') (.cons (r'.mono l') .nil))⟩
theorem zipI_some {f g : Its} {s : Store} {zs : List Val} (e : zipI f g s = some zs) : ∃ xs ys, f s = some xs ∧ g s = some ys ∧ zs = paired xs ys := by
  unfold zipI at e
  cases h1 : f s with
  | none => rw [h1] at e; cases e
  | some xs =>
    cases h2 : g s with
    | none => rw [h1, h2] at e; cases e
    | some ys => rw [h1, h2] at e; cases e; exact ⟨xs, ys, rfl, rfl, rfl⟩
theorem it_zl (h : LAt D n μ H its a) (h' : LAt D n μ H its' b) : ItR D n μ H (zipI its its') (Itz D.K a b) := fun n' μ' H' st' ok l xs e i => by
  obtain ⟨xs, xs', e1, e2, rfl⟩ := zipI_some e
  obtain ⟨ys, hs, r⟩ := h n' μ' H' st' ok l xs e1
  obtain ⟨ys', hs', r'⟩ := h' n' μ' H' st' ok l xs' e2
  rw [paired_get]
  cases h1 : xs[i]? with
  | none => exact ⟨fun x hx => by simp at hx, fun _ => ⟨ys, ys', hs, hs', .inl (r.none h1)⟩⟩
  | some x =>
    cases h2 : xs'[i]? with
    | none => exact ⟨fun x hx => by simp at hx, fun _ => ⟨ys, ys', hs, hs', .inr (r'.none h2)⟩⟩
    | some x' =>
      refine ⟨fun z hz => ?_, fun hx => by simp at hx⟩
      cases hz
      obtain ⟨y, hy, ry⟩ := r.get h1
      obtain ⟨y', hy', ry'⟩ := r'.get h2
      refine ⟨⟨ys, ys', y, y', hs, hs', hy, hy'⟩, fun w H2 q => ?_⟩
      obtain ⟨T, z, z', rfl, hT, rfl, q, q'⟩ := q
      have t1 := q ys hs
      have t2 := q' ys' hs'
      rw [hy] at t1; cases t1
      rw [hy'] at t2; cases t2
      exact pair_new2 ok ry ry' hT
theorem it_zt (h : TAt D n μ H its a) (h' : TAt D n μ H its' b) : ItR D n μ H (zipI its its') (RZ.ItzT D.K a b) := fun n' μ' H' st' ok l xs e i => by
  obtain ⟨xs, xs', e1, e2, rfl⟩ := zipI_some e
  obtain ⟨ys, hs, r⟩ := h n' μ' H' st' ok l xs e1
  obtain ⟨ys', hs', r'⟩ := h' n' μ' H' st' ok l xs' e2
  rw [paired_get]
  cases h1 : xs[i]? with
  | none => exact ⟨fun x hx => by simp at hx, fun _ => ⟨ys, ys', hs, hs', .inl (r.none h1)⟩⟩
  | some x =>
    cases h2 : xs'[i]? with
    | none => exact ⟨fun x hx => by simp at hx, fun _ => ⟨ys, ys', hs, hs', .inr (r'.none h2)⟩⟩
    | some x' =>
      refine ⟨fun z hz => ?_, fun hx => by simp at hx⟩
      cases hz
      obtain ⟨y, hy, ry⟩ := r.get h1
      obtain ⟨y', hy', ry'⟩ := r'.get h2
      refine ⟨⟨ys, ys', y, y', hs, hs', hy, hy'⟩, fun w H2 q => ?_⟩
      obtain ⟨T, z, z', rfl, hT, rfl, q, q'⟩ := q
      have t1 := q ys hs
      have t2 := q' ys' hs'
      rw [hy] at t1; cases t1
      rw [hy'] at t2; cases t2
      exact pair_new2 ok ry ry' hT
end
section
variable {X : Cx} {D : Wd} {tg a b e : Expr} {elts : List Expr} {kk : Nat} {fa fb fe : Ev} {p pos tpos : Pos}
theorem i_E [C : Cok X D] (he : SE X D e fe) : SI X D tg e (ixE fe) := PI_imp (pi_seq he) fun σ H R ⟨n, μ, ρ, st, its, st', ok, er, hf, an⟩ => by
  obtain ⟨x, s1, h1, hf⟩ := bind_eq_ok hf
  refine ⟨n, μ, ρ, st, x, s1, ok, er, h1, fun n1 μ1 H1 y1 ok1 l1 r1 f1 => ?_⟩
  cases h : itsOf x s1 with
  | none => rw [h] at hf; cases hf
  | some f =>
    rw [h] at hf
    cases hf
    obtain ⟨a, rfl, hs⟩ := itsOf_ok ok1 r1 h
    refine ⟨a, rfl, ?_⟩
    rw [C.hK]
    exact hs.imp (fun h => ⟨h.2.1, an n1 μ1 H1 _ ok1 l1 (it_l h.1)⟩) fun h => ⟨h.2.1, an n1 μ1 H1 _ ok1 l1 (it_t h.1)⟩
theorem inR_ok {i : Int} (h : inR i = true) : -(2 ^ 62) ≤ i ∧ i < 2 ^ 62 := by
  unfold inR at h
  simpa only [Bool.and_eq_true, decide_eq_true_eq] using h
theorem i_R (hg : Gl X "range") (hm : X.mg "range" = none) (ha : SE X D a fa) (hs : starEach [a] X.env = [(false, eval a X.env)] := by rfl) : SI X D tg (.Call (.Name "range" p) [a] [] pos) (ixR fa) :=
  PI_imp (pi_range1 hg hm (pa_cons ha pa_nil hs) hs) fun σ H R ⟨n, μ, ρ, st, its, st', ok, er, hf, an⟩ => by
    obtain ⟨x, s1, h1, hf⟩ := bind_eq_ok hf
    refine ⟨n, μ, ρ, st, x, s1, ok, er, h1, fun n1 μ1 H1 y1 ok1 l1 r1 f1 => ?_⟩
    cases x with
    | l _ => cases hf
    | v x =>
      cases x with
      | int j =>
        by_cases hj : inR j = true
        · simp only [if_pos hj] at hf
          cases hf
          cases r1
          exact ⟨j, rfl, (inR_ok hj).1, (inR_ok hj).2, an n1 μ1 H1 _ ok1 l1 (it_r (by simp))⟩
        · simp only [if_neg hj] at hf; cases hf
      | _ => cases hf
theorem i_R2 (hg : Gl X "range") (hm : X.mg "range" = none) (ha : SE X D a fa) (hb : SE X D b fb) (hs : starEach [a, b] X.env = [(false, eval a X.env), (false, eval b X.env)] := by rfl) (hs2 : starEach [b] X.env = [(false, eval b X.env)] := by rfl)
    (hs3 : starEach [a, b] X.env = (false, eval a X.env) :: starEach [b] X.env := by rfl) :
    SI X D tg (.Call (.Name "range" p) [a, b] [] pos) (ixR2 fa fb) :=
  PI_imp (pi_range2 hg hm (pa_cons ha (pa_cons hb pa_nil hs2) hs3) hs hs2) fun σ H R ⟨n, μ, ρ, st, its, st', ok, er, hf, an⟩ => by
    obtain ⟨x, s1, h1, hf⟩ := bind_eq_ok hf
    obtain ⟨y, s2, h2, hf⟩ := bind_eq_ok hf
    refine ⟨n, μ, ρ, st, x, s1, ok, er, h1, fun n1 μ1 H1 y1 ok1 l1 r1 f1 => ⟨n1, μ1, ρ, s1, y, s2, ok1, er.mono l1, h2, fun n2 μ2 H2 y2 ok2 l2 r2 f2 => ?_⟩⟩
    cases x with
    | l _ => cases hf
    | v x =>
      cases x with
      | int i =>
        cases y with
        | l _ => cases hf
        | v y =>
          cases y with
          | int j =>
            by_cases hj : (inR i && inR j) = true
            · simp only [if_pos hj] at hf
              cases hf
              cases r1; cases r2
              rw [Bool.and_eq_true] at hj
              exact ⟨i, j, rfl, ⟨(inR_ok hj.1).1, (inR_ok hj.1).2, (inR_ok hj.2).1, (inR_ok hj.2).2⟩, an n2 μ2 H2 _ ok2 (l1.trans l2) (it_r rfl)⟩
            · simp only [if_neg hj] at hf; cases hf
          | _ => cases hf
      | _ => cases hf
theorem i_enum [C : Cok X D] (hg : Gl X "enumerate") (hm : X.mg "enumerate" = none) (he : SE X D e fe) (hs : starEach [e] X.env = [(false, eval e X.env)] := by rfl) : SI X D (.Tuple elts kk tpos) (.Call (.Name "enumerate" p) [e] [] pos) (ixEnum fe) :=
  PI_imp (pi_enumS hg hm (pa_cons he pa_nil hs) hs) fun σ H R ⟨n, μ, ρ, st, its, st', ok, er, hf, an⟩ => by
    obtain ⟨x, s1, h1, hf⟩ := bind_eq_ok hf
    refine ⟨n, μ, ρ, st, x, s1, ok, er, h1, fun n1 μ1 H1 y1 ok1 l1 r1 f1 => ?_⟩
    cases h : itsOf x s1 with
    | none => rw [h] at hf; cases hf
    | some f =>
      rw [h] at hf
      cases hf
      obtain ⟨a, rfl, hs⟩ := itsOf_ok ok1 r1 h
      refine ⟨a, rfl, ?_⟩
      rw [C.hK]
      exact hs.imp (fun h => ⟨h.2.1, an n1 μ1 H1 _ ok1 l1 (it_el h.1)⟩) fun h => ⟨h.2.1, an n1 μ1 H1 _ ok1 l1 (it_et h.1)⟩
theorem i_zip [C : Cok X D] (hg : Gl X "zip") (hm : X.mg "zip" = none) (ha : SE X D a fa) (hb : SE X D b fb) (hs : starEach [a, b] X.env = (false, eval a X.env) :: starEach [b] X.env := by rfl) (hs2 : starEach [b] X.env = [(false, eval b X.env)] := by rfl)
    (hpl : (backTo pos (starEach [b] X.env)).any (·.1) = false := by rfl) : SI X D (.Tuple elts kk tpos) (.Call (.Name "zip" p) [a, b] [] pos) (ixZip fa fb) :=
  PI_imp (RZ.pi_zipA hg hm (pa_cons ha (pa_cons hb pa_nil hs2) hs) hs hpl) fun σ H R ⟨n, μ, ρ, st, its, st', ok, er, hf, an⟩ => by
    obtain ⟨x, s1, h1, hf⟩ := bind_eq_ok hf
    obtain ⟨y, s2, h2, hf⟩ := bind_eq_ok hf
    refine ⟨n, μ, ρ, st, x, s1, ok, er, h1, fun n1 μ1 H1 y1 ok1 l1 r1 f1 => ⟨n1, μ1, ρ, s1, y, s2, ok1, er.mono l1, h2, fun n2 μ2 H2 y2 ok2 l2 r2 f2 => ?_⟩⟩
    cases h : itsOf x s2 with
    | none => rw [h] at hf; cases hf
    | some f =>
      cases h' : itsOf y s2 with
      | none => rw [h, h'] at hf; cases hf
      | some g =>
        rw [h, h'] at hf
        by_cases hk : (isTupT x == isTupT y) = true
        · simp only [if_pos hk] at hf
          cases hf
          obtain ⟨a, rfl, k1⟩ := itsOf_ok ok2 (r1.mono l2) h
          obtain ⟨b, rfl, k2⟩ := itsOf_ok ok2 r2 h'
          rw [C.hK]
          have hk := beq_iff_eq.mp hk
          rcases k1 with ⟨k1, ⟨xs, q1⟩, z1⟩ | ⟨k1, ⟨xs, q1⟩, z1⟩
          · rcases k2 with ⟨k2, ⟨ys, q2⟩, z2⟩ | ⟨k2, ⟨ys, q2⟩, z2⟩
            · exact ⟨a, b, xs, ys, rfl, .inl ⟨q1, q2, an n2 μ2 H2 _ ok2 (l1.trans l2) (it_zl k1 k2)⟩⟩
            · rw [z1, z2] at hk; cases hk
          · rcases k2 with ⟨k2, ⟨ys, q2⟩, z2⟩ | ⟨k2, ⟨ys, q2⟩, z2⟩
            · rw [z1, z2] at hk; cases hk
            · exact ⟨a, b, xs, ys, rfl, .inr ⟨q1, q2, an n2 μ2 H2 _ ok2 (l1.trans l2) (it_zt k1 k2)⟩⟩
        · simp only [if_neg hk] at hf; cases hf
end
end VI
end
section
set_option Elab.async false
set_option linter.all false
set_option maxRecDepth 100000
set_option maxHeartbeats 4000000
/-! VI8: targets, statements. -/
namespace VI
open PySem PySem.Spec PyProof.Rows L2

/-! ### targets -/
def rG (D : Wd) (is : List Nat) (g : Tgt) : TG := fun v σ H Q => ∃ n μ ρ st x ρ' st', Ok D n μ H st ∧ EnvR D n μ H ρ σ ∧ Rp D n μ H x v ∧ g x ρ st = .ok ρ' st' ∧
  ∀ n' μ' H' σ', Ok D n' μ' H' st' → Le n μ H n' μ' H' → EnvR D n' μ' H' ρ' σ' → (∀ vs, (∀ i ∈ is, i ∈ vs) → L2.wipe σ' vs = L2.wipe σ vs) → Q σ' H'
abbrev SG (X : Cx) (D : Wd) (tg : Expr) (is : List Nat) (g : Tgt) : Prop := PG X tg (rG D is g)
theorem PG_imp {X : Cx} {e : Expr} {t t' : TG} (h : PG X e t) (k : ∀ v σ H Q, t' v σ H Q → t v σ H Q) : PG X e t' := ⟨fun pins s σ H v u Q I r q => h.run pins s σ H v u Q I r (k v σ H Q q)⟩
theorem wipe_set {σ : L2.St} {i : Nat} {y : Option V} : ∀ {vs : List Nat}, i ∈ vs → L2.wipe (σ.set i y) vs = L2.wipe σ vs
  | [], h => by simp at h
  | v :: vs, h => by
    unfold L2.wipe
    by_cases hi : i ∈ vs
    · rw [wipe_set hi]
    · have e : i = v := by
        rcases List.mem_cons.mp h with e | e
        · exact e
        · exact absurd e hi
      subst e
      have q : ∀ {ws : List Nat}, i ∉ ws → (L2.wipe (σ.set i y) ws) = (L2.wipe σ ws).set i y := fun {ws} => by
        induction ws with
        | nil => intro _; rfl
        | cons w ws ih =>
          intro hw
          unfold L2.wipe
          rw [ih fun z => hw (List.mem_cons_of_mem _ z), List.set_comm _ _ (fun z => hw (by rw [z]; exact List.mem_cons_self))]
      rw [q hi, List.set_set]
section
variable {X : Cx} {D : Wd} {pos : Pos} {i : Nat} {x : Str}
theorem g_V [C : Cok X D] (hi : X.N[i]? = some x) (hx : Loc X.env.scope x) (hf : X.fn x = true ∨ X.env.scope.names.lookup x = some .local := by first | exact .inl rfl | exact .inr rfl | assumption) : SG X D (.Name x pos) [i] (gV i) :=
  PG_imp (pg_name C.nd hi hx hf) fun v σ H Q ⟨n, μ, ρ, st, z, ρ', st', ok, er, rz, hg, q⟩ => by
    cases hg
    exact q n μ H _ ok (Le.refl _ _ _) (er.set i rz) fun vs h => wipe_set (h i (by simp))
/-- several names -/
def rGs (D : Wd) (is : List Nat) : TGs := fun vs σ H Q => ∃ n μ ρ st xs ρ', Ok D n μ H st ∧ EnvR D n μ H ρ σ ∧ RpAll D n μ H xs vs ∧ setAll is xs ρ = some ρ' ∧
  ∀ σ', EnvR D n μ H ρ' σ' → (∀ vs, (∀ i ∈ is, i ∈ vs) → L2.wipe σ' vs = L2.wipe σ vs) → Q σ' H
theorem PGs_imp {e : List Expr} {t t' : TGs} (h : PGs X e t) (k : ∀ v σ H Q, t' v σ H Q → t v σ H Q) : PGs X e t' := ⟨fun pins s σ H v u Q I r q => h.run pins s σ H v u Q I r (k v σ H Q q)⟩
theorem gs_nil : PGs X [] (rGs D []) := PGs_imp pgs_nil fun vs σ H Q ⟨n, μ, ρ, st, xs, ρ', ok, er, r, hs, q⟩ => by
  cases r with
  | nil => cases hs; exact ⟨rfl, q σ er fun _ _ => rfl⟩
  | cons h r => cases hs
theorem gs_cons [C : Cok X D] {is : List Nat} {es : List Expr} (hi : X.N[i]? = some x) (hx : Loc X.env.scope x) (h2 : PGs X es (rGs D is)) (hf : X.fn x = true ∨ X.env.scope.names.lookup x = some .local := by first | exact .inl rfl | exact .inr rfl | assumption)
    (hs : (assignEach (.Name x pos :: es) X.env).map (·.2) = assign (.Name x pos) X.env :: (assignEach es X.env).map (·.2) := by rfl) : PGs X (.Name x pos :: es) (rGs D (i :: is)) :=
  PGs_imp (pgs_cons (pg_name C.nd hi hx hf) h2 hs) fun vs σ H Q ⟨n, μ, ρ, st, xs, ρ', ok, er, r, hset, q⟩ => by
    cases r with
    | nil => cases hset
    | cons h r =>
      refine ⟨_, _, rfl, n, μ, _, st, _, ρ', ok, er.set i h, r, hset, fun σ' er' w => q σ' er' fun vs hv => ?_⟩
      rw [w vs fun j hj => hv j (List.mem_cons_of_mem _ hj), wipe_set (hv i List.mem_cons_self)]
theorem setAll_len : ∀ {is : List Nat} {xs : List Val} {ρ ρ' : Env}, setAll is xs ρ = some ρ' → xs.length = is.length
  | [], [], _, _, _ => rfl
  | i :: is, x :: xs, _, _, h => by
    unfold setAll at h
    rw [List.length_cons, List.length_cons, setAll_len h]
  | [], _ :: _, _, _, h => by cases h
  | _ :: _, [], _, _, h => by cases h
theorem g_T [C : Cok X D] {is : List Nat} {es : List Expr} {k : Nat} (h : PGs X es (rGs D is)) (hn : (assignEach es X.env).length = is.length := by rfl) (hst : (assignEach es X.env).findIdx? (·.1) = none := by rfl) : SG X D (.Tuple es k pos) is (gT is) :=
  PG_imp (pg_tup C.calm h hn hst) fun v σ H Q ⟨n, μ, ρ, st, z, ρ', st', ok, er, rz, hg, q⟩ => by
    unfold gT at hg
    cases z with
    | tup xs =>
      cases hset : setAll is xs ρ with
      | none => simp only [hset] at hg; cases hg
      | some ρ1 =>
        simp only [hset] at hg
        cases hg
        cases rz with
        | tup hT r =>
          refine ⟨_, _, rfl, ?_, ?_, n, μ, ρ, st, xs, ρ', ok, er, r, hset, fun σ' er' w => q n μ H σ' ok (Le.refl _ _ _) er' w⟩
          · rw [C.hK]; exact hT.sq
          · rw [← r.length]; exact setAll_len hset
    | _ => cases hg
end

/-! ### statements -/
def fin (D : Wd) (n : Nat) (μ : Nat → Addr) (H : Hp) (r : Fl × Env) (st : Store) (E : Ends) : Prop := match r with
  | (.next, ρ) => ∀ n' μ' H' σ', Ok D n' μ' H' st → Le n μ H n' μ' H' → EnvR D n' μ' H' ρ σ' → E.nx σ' H'
  | (.brk, ρ) => ∀ n' μ' H' σ', Ok D n' μ' H' st → Le n μ H n' μ' H' → EnvR D n' μ' H' ρ σ' → E.bk σ' H'
  | (.ret t, _) => Ans D n μ H t st E.rt
theorem fin.le {D : Wd} {n n1 : Nat} {μ μ1 : Nat → Addr} {H H1 : Hp} {r : Fl × Env} {st : Store} {E : Ends} (h : fin D n μ H r st E) (l : Le n μ H n1 μ1 H1) : fin D n1 μ1 H1 r st E := by
  obtain ⟨f, ρ⟩ := r
  cases f with
  | next => exact fun n' μ' H' σ' ok l' er => h n' μ' H' σ' ok (l.trans l') er
  | brk => exact fun n' μ' H' σ' ok l' er => h n' μ' H' σ' ok (l.trans l') er
  | ret t => exact Ans.le h l
def rS (D : Wd) (f : Sx) : TS := fun E σ H => ∃ n μ ρ st r st', Ok D n μ H st ∧ EnvR D n μ H ρ σ ∧ f ρ st = .ok r st' ∧ fin D n μ H r st' E
abbrev SS (X : Cx) (D : Wd) (s : Stmt) (f : Sx) : Prop := PS X s (rS D f)
abbrev SSs (X : Cx) (D : Wd) (s : List Stmt) (f : Sx) : Prop := PSs X s (rS D f)
section
variable {X : Cx} {D : Wd} {e o tg : Expr} {fe fo : Ev} {pos p p2 : Pos} {a : Stmt} {as bs : List Stmt} {f g : Sx}
theorem ss_nil : SSs X D [] sNop := PSs_imp pss_nil fun E σ H ⟨n, μ, ρ, st, r, st', ok, er, hf, q⟩ => by
  cases hf
  exact q n μ H σ ok (Le.refl _ _ _) er
theorem seq_rd {E : Ends} {σ : L2.St} {H : Hp} (h : rS D (sSeq f g) E σ H) : tSeq (rS D f) (rS D g) E σ H := by
  obtain ⟨n, μ, ρ, st, r, st', ok, er, hf, q⟩ := h
  obtain ⟨⟨fl, ρ1⟩, s1, h1, hf⟩ := bind_eq_ok hf
  refine ⟨n, μ, ρ, st, (fl, ρ1), s1, ok, er, h1, ?_⟩
  cases fl with
  | next => exact fun n1 μ1 H1 σ1 ok1 l1 er1 => ⟨n1, μ1, ρ1, s1, r, st', ok1, er1, hf, q.le l1⟩
  | brk => cases hf; exact q
  | ret t => cases hf; exact q
theorem ss_cons (h1 : SS X D a f) (h2 : SSs X D as g) : SSs X D (a :: as) (sSeq f g) := PSs_imp (pss_cons h1 h2) fun _ _ _ h => seq_rd h
theorem ss_one (h1 : SS X D a f) : SSs X D [a] f := pss_one h1
/-- what is never reached -/
theorem s_no (h : ∀ ρ st r st', f ρ st ≠ .ok r st') : SS X D a f := PS_imp ps_never fun E σ H ⟨n, μ, ρ, st, r, st', ok, er, hf, q⟩ => h ρ st r st' hf
theorem s_raise {c : Nat} {av : Avs} : SS X D a (sRaise c av) := s_no fun ρ st r st' h => by
  obtain ⟨xs, s1, h1, hf⟩ := bind_eq_ok h
  cases hf
theorem s_exp (he : SE X D e fe) (hs : swapsWith e none pos.line X.env = pure false := by rfl) : SS X D (.Expr e pos) (sExp fe) := PS_imp (ps_expr he hs) fun E σ H ⟨n, μ, ρ, st, r, st', ok, er, hf, q⟩ => by
  obtain ⟨x, s1, h1, hf⟩ := bind_eq_ok hf
  cases hf
  exact ⟨n, μ, ρ, st, x, _, ok, er, h1, fun n1 μ1 H1 y ok1 l1 r1 f1 => q n1 μ1 H1 σ ok1 l1 (er.mono l1)⟩
theorem s_ret (he : SE X D e fe) : SS X D (.Return (some e) pos) (sRet fe) := PS_imp (ps_ret he) fun E σ H ⟨n, μ, ρ, st, r, st', ok, er, hf, q⟩ => by
  obtain ⟨x, s1, h1, hf⟩ := bind_eq_ok hf
  cases hf
  exact ⟨n, μ, ρ, st, x, _, ok, er, h1, q⟩
theorem s_retN : SS X D (.Return none pos) sRetN := PS_imp ps_retN fun E σ H ⟨n, μ, ρ, st, r, st', ok, er, hf, q⟩ => by
  cases hf
  exact ans_v q ok .non
theorem s_brk : SS X D (.Break pos) sBrk := PS_imp ps_break fun E σ H ⟨n, μ, ρ, st, r, st', ok, er, hf, q⟩ => by
  cases hf
  exact q n μ H σ ok (Le.refl _ _ _) er
theorem s_pass : SS X D (.Pass pos) sNop := PS_imp ps_pass fun E σ H ⟨n, μ, ρ, st, r, st', ok, er, hf, q⟩ => by
  cases hf
  exact q n μ H σ ok (Le.refl _ _ _) er
theorem s_if {c : Expr} {t : Tst} (hc : ST X D c t) (ha : SSs X D as f) (hb : SSs X D bs g) : SS X D (.If c as bs pos) (sIf t f g) := PS_imp (ps_if hc ha hb) fun E σ H ⟨n, μ, ρ, st, r, st', ok, er, hf, q⟩ => by
  obtain ⟨b, s1, h1, hf⟩ := bind_eq_ok hf
  refine ⟨n, μ, ρ, st, b, s1, ok, er, h1, fun n1 μ1 H1 ok1 l1 => ?_⟩
  cases b with
  | true => exact ⟨n1, μ1, ρ, s1, r, st', ok1, er.mono l1, hf, q.le l1⟩
  | false => exact ⟨n1, μ1, ρ, s1, r, st', ok1, er.mono l1, hf, q.le l1⟩
theorem asg_rd {is : List Nat} {t : Tgt} {E : Ends} {σ : L2.St} {H : Hp} (h : rS D (sAsg t fe) E σ H) : tAsg (rE D fe) (rG D is t) E σ H := by
  obtain ⟨n, μ, ρ, st, r, st', ok, er, hf, q⟩ := h
  obtain ⟨x, s1, h1, hf⟩ := bind_eq_ok hf
  obtain ⟨y, s2, h2, hf⟩ := bind_eq_ok hf
  obtain ⟨ρ', s3, h3, hf⟩ := bind_eq_ok hf
  cases hf
  refine ⟨n, μ, ρ, st, x, s1, ok, er, h1, fun n1 μ1 H1 y1 ok1 l1 r1 f1 => ?_⟩
  obtain ⟨n2, μ2, ok2, l2, r2, tr, hn, hm⟩ := mat_ok h2 ok1 l1 r1 f1
  exact ⟨n2, μ2, ρ, s2, y, ρ', _, ok2, er.mono l2, r2, h3, fun n3 μ3 H3 σ3 ok3 l3 er3 _ => q n3 μ3 H3 σ3 ok3 (l2.trans l3) er3⟩
theorem s_asg {is : List Nat} {t : Tgt} (he : SE X D e fe) (hg : SG X D tg is t) (hs : swapsWithSole [tg] e pos.line X.env = pure false := by rfl) (hw : swappedStores [tg] e X.env = pure none := by rfl)
    (h1 : (assignEach [tg] X.env).map (·.2) = [assign tg X.env] := by rfl) : SS X D (.Assign [tg] e pos) (sAsg t fe) := PS_imp (ps_asg he hg hs hw h1) fun _ _ _ h => asg_rd h
theorem nameG {i : Nat} {v : V} {σ : L2.St} {H : Hp} {Q : L2.St → Hp → Prop} (h : rG D [i] (gV i) v σ H Q) : gName i v σ H Q := by
  obtain ⟨n, μ, ρ, st, z, ρ', st', ok, er, rz, hg, q⟩ := h
  cases hg
  exact q n μ H _ ok (Le.refl _ _ _) (er.set i rz) fun vs h => wipe_set (h i (by simp))
theorem asg_nm {i : Nat} {E : Ends} {σ : L2.St} {H : Hp} (h : rS D (sAsg (gV i) fe) E σ H) : tAsg (rE D fe) (gName i) E σ H := by
  obtain ⟨n, μ, ρ, st, r, st', ok, er, hf, q⟩ := h
  obtain ⟨x, s1, h1, hf⟩ := bind_eq_ok hf
  obtain ⟨y, s2, h2, hf⟩ := bind_eq_ok hf
  obtain ⟨ρ', s3, h3, hf⟩ := bind_eq_ok hf
  cases hf
  refine ⟨n, μ, ρ, st, x, s1, ok, er, h1, fun n1 μ1 H1 y1 ok1 l1 r1 f1 => ?_⟩
  obtain ⟨n2, μ2, ok2, l2, r2, tr, hn, hm⟩ := mat_ok h2 ok1 l1 r1 f1
  exact nameG ⟨n2, μ2, ρ, s2, y, ρ', _, ok2, er.mono l2, r2, h3, fun n3 μ3 H3 σ3 ok3 l3 er3 _ => q n3 μ3 H3 σ3 ok3 (l2.trans l3) er3⟩
/-- name = value -/
theorem s_set [C : Cok X D] {i : Nat} {x : Str} (hi : X.N[i]? = some x) (hx : Loc X.env.scope x) (he : SE X D e fe) (hs : swapsWith e (some (.Name x p)) pos.line X.env = pure false := by rfl) (hf : X.fn x = true ∨ X.env.scope.names.lookup x = some .local := by first | exact .inl rfl | exact .inr rfl | assumption) :
    SS X D (.Assign [.Name x p] e pos) (sAsg (gV i) fe) := PS_imp (ps_set C.nd hi hx he hs hf) fun _ _ _ h => asg_nm h
theorem s_par [C : Cok X D] {i j : Nat} {x y : Str} {e1 e2 : Expr} {av : Avs} {px py pt : Pos} {kt k2 : Nat} {pt2 : Pos} (hi : X.N[i]? = some x) (hj : X.N[j]? = some y) (hij : i ≠ j)
    (hx : X.env.scope.names.lookup x = some .local) (hy : X.env.scope.names.lookup y = some .local) (ha : SA X D [e1, e2] av)
    (hw : swappedStores [.Tuple [.Name x px, .Name y py] kt pt] (.Tuple [e1, e2] k2 pt2) X.env = pure (some [x, y]))
    (hs : swapsWithSole [.Tuple [.Name x px, .Name y py] kt pt] (.Tuple [e1, e2] k2 pt2) pos.line X.env = pure false := by rfl) :
    SS X D (.Assign [.Tuple [.Name x px, .Name y py] kt pt] (.Tuple [e1, e2] k2 pt2) pos) (sPar i j av) := PS_imp (ps_par C.calm C.nd hi hj hij hx hy ha hw hs) fun E σ H ⟨n, μ, ρ, st, r, st', ok, er, hf, q⟩ => by
  obtain ⟨xs, s1, h1, hf⟩ := bind_eq_ok hf
  refine ⟨n, μ, ρ, st, xs, s1, ok, er, h1, fun n1 μ1 H1 ys ok1 l1 r1 => ?_⟩
  split at hf
  · cases hf
    cases r1 with
    | cons a1 r1 => cases r1 with
      | cons a2 r1 =>
        cases r1
        exact ⟨_, _, rfl, q n1 μ1 H1 _ ok1 l1 (((er.mono l1).set i a1).set j a2)⟩
  · cases hf
theorem s_par3 [C : Cok X D] {i j l : Nat} {x y z : Str} {e1 e2 e3 : Expr} {av : Avs} {px py pz pt : Pos} {kt k2 : Nat} {pt2 : Pos} (hi : X.N[i]? = some x) (hj : X.N[j]? = some y) (hl : X.N[l]? = some z) (hij : i ≠ j) (hil : i ≠ l) (hjl : j ≠ l)
    (hx : X.env.scope.names.lookup x = some .local) (hy : X.env.scope.names.lookup y = some .local) (hz : X.env.scope.names.lookup z = some .local) (ha : SA X D [e1, e2, e3] av)
    (hw : swappedStores [.Tuple [.Name x px, .Name y py, .Name z pz] kt pt] (.Tuple [e1, e2, e3] k2 pt2) X.env = pure (some [x, y, z]))
    (hs : swapsWithSole [.Tuple [.Name x px, .Name y py, .Name z pz] kt pt] (.Tuple [e1, e2, e3] k2 pt2) pos.line X.env = pure false := by rfl) :
    SS X D (.Assign [.Tuple [.Name x px, .Name y py, .Name z pz] kt pt] (.Tuple [e1, e2, e3] k2 pt2) pos) (sPar3 i j l av) := PS_imp (L2.ps_par3 C.calm C.nd hi hj hl hij hil hjl hx hy hz ha hw hs) fun E σ H ⟨n, μ, ρ, st, r, st', ok, er, hf, q⟩ => by
  obtain ⟨xs, s1, h1, hf⟩ := bind_eq_ok hf
  refine ⟨n, μ, ρ, st, xs, s1, ok, er, h1, fun n1 μ1 H1 ys ok1 l1 r1 => ?_⟩
  split at hf
  · cases hf
    cases r1 with
    | cons a1 r1 => cases r1 with
      | cons a2 r1 => cases r1 with
        | cons a3 r1 =>
          cases r1
          exact ⟨_, _, _, rfl, q n1 μ1 H1 _ ok1 l1 ((((er.mono l1).set i a1).set j a2).set l a3)⟩
  · cases hf
theorem refI_ok {n : Nat} {μ : Nat → Addr} {H : Hp} {st : Store} {cs : List Nat} {x : Tv} {y : V} {k c : Nat} {fs : List (Nat × Val)} (ok : Ok D n μ H st) (r : Rt D n μ H x y) (e : refI cs x st = some (k, c, fs)) :
    x = .v (.ref k) ∧ y = .ref (μ k) ∧ k < n ∧ st[k]? = some (.ins c fs) ∧ c ∈ cs ∧ ∃ dx gs, H (μ k) = some (.ins (D.C c) dx gs) ∧ FsR D n μ H fs gs := by
  cases x with
  | l _ => cases e
  | v x =>
    cases x with
    | ref i =>
      cases r with
      | ref hi =>
        unfold refI at e
        cases h : st[i]? with
        | none => simp [h] at e
        | some o =>
          cases o with
          | ins d gs =>
            simp only [h] at e
            by_cases hc : cs.contains d = true
            · simp only [if_pos hc, Option.some.injEq, Prod.mk.injEq] at e
              obtain ⟨rfl, rfl, rfl⟩ := e
              exact ⟨rfl, rfl, hi, h, by simpa using hc, ok.ob _ _ h⟩
            · rw [if_neg hc] at e; cases e
          | _ => simp [h] at e
    | _ => cases e
theorem s_fld [C : Cok X D] [W : Wok D] {cs : List Nat} {i : Nat} {z : Str} (F : CF D cs i z) (ho : SE X D o fo) (he : SE X D e fe) (hs : swapsWith e (some (.Attribute o z p)) pos.line X.env = pure false := by rfl) :
    SS X D (.Assign [.Attribute o z p] e pos) (sFld cs fo i fe) := PS_imp (ps_fld ho he hs) fun E σ H ⟨n, μ, ρ, st, r, st', ok, er, hf, q⟩ => by
  obtain ⟨t, s1, h1, hf⟩ := bind_eq_ok hf
  obtain ⟨y, s2, h2, hf⟩ := bind_eq_ok hf
  obtain ⟨x, s3, h3, hf⟩ := bind_eq_ok hf
  refine ⟨n, μ, ρ, st, t, s1, ok, er, h1, fun n1 μ1 H1 y1 ok1 l1 r1 f1 => ?_⟩
  obtain ⟨n2, μ2, ok2, l2, r2, tr, hn, hm⟩ := mat_ok h2 ok1 l1 r1 f1
  refine ⟨n2, μ2, ρ, s2, x, s3, ok2, er.mono l2, h3, fun n3 μ3 H3 x3 ok3 l3 r3 f3 => ?_⟩
  cases h4 : refI cs x s3 with
  | none => simp only [h4] at hf; cases hf
  | some pr =>
    obtain ⟨k, c, fs⟩ := pr
    simp only [h4] at hf
    by_cases hl : fs.length < 1000
    · rw [if_pos hl] at hf
      cases hf
      obtain ⟨rfl, rfl, hk, hst, hc, dx, gs, hH, hg⟩ := refI_ok ok3 r3 h4
      obtain ⟨c1, c2⟩ := F.cl c hc
      have kt : ∀ u a zs, H3 a = some (.tup zs) → upd H3 (μ3 k) u a = some (.tup zs) := fun u a zs e => by
        rw [upd_ne fun z => ?_]; exact e
        rw [← z, e] at hH; cases hH
      obtain ⟨ok4, l4⟩ := ok3.set (k := k) (o := .ins c (putF i y fs)) (u := .ins (D.C c) dx (L2.putF z y1 gs)) hk
        ⟨dx, _, upd_same, (FsR.put F.nm (r2.mono l3) hg).mono (Nat.le_refl _) (fun _ _ => rfl) (kt _)⟩
      refine ⟨_, _, dx, gs, rfl, hH, ?_, ?_, by rw [← hg.length]; exact hl, q n3 μ3 _ σ ok4 (l2.trans (l3.trans l4)) (er.mono (l2.trans (l3.trans l4)))⟩
      · rw [C.hK]; exact c1
      · rw [C.hK]; exact c2
    · rw [if_neg hl] at hf; cases hf
theorem s_put [C : Cok X D] {i : Expr} {fi : Ev} (ho : SE X D o fo) (hi : SE X D i fi) (he : SE X D e fe)
    (ha : ∀ v, assign (.Subscript o i p) X.env v = (do
      let ov ← holding [v] (eval o X.env)
      let iv ← holding [v, ov] (eval i X.env)
      standAt p
      holding [v, ov, iv] (setItem ov iv v)
      release [v, ov, iv] []) := by intro _; rfl)
    (hs : swapsWithSole [.Subscript o i p] e pos.line X.env = pure false := by rfl) (hw : swappedStores [.Subscript o i p] e X.env = pure none := by rfl)
    (h1 : (assignEach [.Subscript o i p] X.env).map (·.2) = [assign (.Subscript o i p) X.env] := by rfl) :
    SS X D (.Assign [.Subscript o i p] e pos) (sSub fo fi fe) := PS_imp (ps_asg he (pg_sub ho hi set_list ha) hs hw h1) fun E σ H ⟨n, μ, ρ, st, r, st', ok, er, hf, q⟩ => by
  obtain ⟨t, s1, h1, hf⟩ := bind_eq_ok hf
  obtain ⟨y, s2, h2, hf⟩ := bind_eq_ok hf
  obtain ⟨x, s3, h3, hf⟩ := bind_eq_ok hf
  obtain ⟨k, s4, h4, hf⟩ := bind_eq_ok hf
  refine ⟨n, μ, ρ, st, t, s1, ok, er, h1, fun n1 μ1 H1 y1 ok1 l1 r1 f1 => ?_⟩
  obtain ⟨n2, μ2, ok2, l2, r2, tr, hn, hm⟩ := mat_ok h2 ok1 l1 r1 f1
  refine ⟨n2, μ2, ρ, s2, x, s3, ok2, er.mono l2, h3, fun n3 μ3 H3 x3 ok3 l3 r3 f3 => ⟨n3, μ3, ρ, s3, k, s4, ok3, (er.mono l2).mono l3, h4, fun n4 μ4 H4 k4 ok4 l4 r4 f4 => ?_⟩⟩
  cases h5 : refL x s4 with
  | none => simp only [h5] at hf; cases hf
  | some pr =>
    obtain ⟨j, xs⟩ := pr
    cases k with
    | l _ => simp only [h5] at hf; cases hf
    | v k =>
      cases k with
      | int k =>
        simp only [h5] at hf
        cases h6 : ixN xs.length k with
        | none => simp only [h6] at hf; cases hf
        | some m =>
          simp only [h6] at hf
          cases hf
          cases r4
          obtain ⟨rfl, rfl, hj, hst, ys, hy, ra⟩ := refL_ok ok4 (r3.mono l4) h5
          obtain ⟨ok5, l5⟩ := wr_lst ok4 hj (ra.set ((r2.mono l3).mono l4) m)
          have l6 := l2.trans (l3.trans (l4.trans l5))
          exact ⟨_, ys, k, m, rfl, rfl, hy, by rw [← ra.length]; exact h6, q n4 μ4 _ σ ok5 l6 (er.mono l6)⟩
      | _ => simp only [h5] at hf; cases hf
end
end VI
end
section
set_option Elab.async false
set_option linter.all false
set_option maxRecDepth 100000
set_option maxHeartbeats 4000000
/-! VI9: loops, list comprehensions, defs. -/
namespace VI
open PySem PySem.Spec PyProof.Rows L2
class Own (X : Cx) : Prop where
  own : PassesOwn (model X.prog X.w) X.A X.env X.xe

section
variable {X : Cx} {D : Wd} {e tg iter : Expr} {fe : Ev} {pos : Pos} {as : List Stmt} {f : Sx}
/-! ### while -/
theorem s_while [O : Own X] {c : Expr} {t : Tst} (hc : ST X D c t) (hb : SSs X D as f) : SS X D (.While c as [] pos) (sWh t f) := PS_imp (ps_while O.own hc hb) fun E σ H ⟨n, μ, ρ, st, r, st', ok, er, hf, q⟩ => by
  refine ⟨fun m σ1 H1 => ∃ n1 μ1 ρ1 st1, Ok D n1 μ1 H1 st1 ∧ EnvR D n1 μ1 H1 ρ1 σ1 ∧ whGo t f m ρ1 st1 = .ok r st' ∧ fin D n1 μ1 H1 r st' E, ⟨_, n, μ, ρ, st, ok, er, hf, q⟩, ?_⟩
  rintro m σ1 H1 ⟨n1, μ1, ρ1, st1, ok1, er1, hf1, q1⟩
  cases m with
  | zero => cases hf1
  | succ m =>
    unfold whGo at hf1
    obtain ⟨b, s2, h2, hf1⟩ := bind_eq_ok hf1
    refine ⟨n1, μ1, ρ1, st1, b, s2, ok1, er1, h2, fun n2 μ2 H2 ok2 l2 => ?_⟩
    cases b with
    | false =>
      cases hf1
      exact q1 n2 μ2 H2 σ1 ok2 l2 (er1.mono l2)
    | true =>
      simp only [if_true] at hf1 ⊢
      obtain ⟨⟨fl, ρ3⟩, s3, h3, hf1⟩ := bind_eq_ok hf1
      refine ⟨fun σ4 H4 => ∃ n1 μ1 ρ1 st1, Ok D n1 μ1 H4 st1 ∧ EnvR D n1 μ1 H4 ρ1 σ4 ∧ whGo t f m ρ1 st1 = .ok r st' ∧ fin D n1 μ1 H4 r st' E, fun σ' H' h => ⟨m, Nat.lt_succ_self m, h⟩, n2, μ2, ρ1, s2, (fl, ρ3), s3, ok2, er1.mono l2, h3, ?_⟩
      cases fl with
      | next => exact fun n4 μ4 H4 σ4 ok4 l4 er4 => ⟨n4, μ4, ρ3, s3, ok4, er4, hf1, q1.le (l2.trans l4)⟩
      | brk => cases hf1; exact fun n4 μ4 H4 σ4 ok4 l4 er4 => q1 n4 μ4 H4 σ4 ok4 (l2.trans l4) er4
      | ret x => cases hf1; exact Ans.le q1 l2
/-! ### for -/
theorem s_for [C : Cok X D] [O : Own X] {ix : Ix} {is : List Nat} {g : Tgt} (hi : SI X D tg iter ix) (hg : SG X D tg is g) (hb : SSs X D as f) (hs : ∀ x, foldedSetIterable iter X.env x = pure x := by intro _; rfl) :
    SS X D (.For tg iter as [] pos) (sFor ix g f) := PS_imp (ps_for O.own C.calm hi hg hb hs) fun E σ H ⟨n, μ, ρ, st, r, st', ok, er, hf, q⟩ => by
  obtain ⟨its, s1, h1, hf⟩ := bind_eq_ok hf
  refine ⟨n, μ, ρ, st, its, s1, ok, er, h1, fun n1 μ1 H1 J ok1 l1 itr => ?_⟩
  cases h2 : its s1 with
  | none => rw [h2] at hf; cases hf
  | some xs =>
    rw [h2] at hf
    refine ⟨fun i m σ2 H2 => ∃ n2 μ2 ρ2 st2, Ok D n2 μ2 H2 st2 ∧ EnvR D n2 μ2 H2 ρ2 σ2 ∧ ItR D n2 μ2 H2 its J ∧ forGo its g f m i ρ2 st2 = .ok r st' ∧ fin D n2 μ2 H2 r st' E, ⟨_, n1, μ1, ρ, s1, ok1, er.mono l1, itr, hf, q.le l1⟩, ?_⟩
    rintro i m σ2 H2 ⟨n2, μ2, ρ2, st2, ok2, er2, itr2, hf2, q2⟩
    cases m with
    | zero => cases hf2
    | succ m =>
      unfold forGo at hf2
      cases h3 : its st2 with
      | none => rw [h3] at hf2; cases hf2
      | some xs =>
        rw [h3] at hf2
        obtain ⟨k1, k2⟩ := itr2 n2 μ2 H2 st2 ok2 (Le.refl _ _ _) xs h3 i
        cases h4 : xs[i]? with
        | none =>
          simp only [h4] at hf2
          cases hf2
          exact .inl ⟨k2 h4, q2 n2 μ2 H2 σ2 ok2 (Le.refl _ _ _) er2⟩
        | some x =>
          simp only [h4] at hf2
          obtain ⟨ρ3, s3, h5, hf2⟩ := bind_eq_ok hf2
          obtain ⟨⟨fl, ρ4⟩, s4, h6, hf2⟩ := bind_eq_ok hf2
          obtain ⟨go, yl⟩ := k1 x h4
          refine .inr ⟨go, fun σ5 H5 => ∃ n5 μ5 ρ5 st5, Ok D n5 μ5 H5 st5 ∧ EnvR D n5 μ5 H5 ρ5 σ5 ∧ ItR D n5 μ5 H5 its J ∧ forGo its g f m (i + 1) ρ5 st5 = .ok r st' ∧ fin D n5 μ5 H5 r st' E, fun σ' H' h => ⟨m, Nat.lt_succ_self m, h⟩, fun y H3 hy => ?_⟩
          obtain ⟨ok3, l3, r3⟩ := yl y H3 hy
          refine ⟨n2, μ2, ρ2, st2, x, ρ3, s3, ok3, er2.mono l3, r3, h5, fun n4 μ4 H4 σ4 ok4 l4 er4 _ => ?_⟩
          have l34 := l3.trans l4
          refine ⟨n4, μ4, ρ3, s3, (fl, ρ4), s4, ok4, er4, h6, ?_⟩
          cases fl with
          | next => exact fun n5 μ5 H5 σ5 ok5 l5 er5 => ⟨n5, μ5, ρ4, s4, ok5, er5, itr2.le (l34.trans l5), hf2, q2.le (l34.trans l5)⟩
          | brk => cases hf2; exact fun n5 μ5 H5 σ5 ok5 l5 er5 => q2 n5 μ5 H5 σ5 ok5 (l34.trans l5) er5
          | ret t => cases hf2; exact Ans.le q2 l34
end

/-! ### list comprehensions -/
theorem Ok.own {D : Wd} {n : Nat} {μ : Nat → Addr} {H : Hp} {st : Store} (ok : Ok D n μ H st) {p : Addr} {xs : List V} {u : HO} (hp : H p = some (.lst xs)) (hm : ∀ k, k < n → μ k ≠ p) : Ok D n μ (L2.upd H p u) st := by
  have kt : ∀ a zs, H a = some (.tup zs) → L2.upd H p u a = some (.tup zs) := fun a zs e => by
    rw [upd_ne fun z => by rw [z, hp] at e; cases e]; exact e
  refine ⟨ok.len, ok.inj, fun k o e => (ok.ob k o e).mono (Nat.le_refl _) (fun _ _ => rfl) kt (upd_ne (hm k (ok.lt e))), tabs_keep ok.tabs (fun b ps e => ?_) fun b φ e => ?_, fun i f F e => ?_⟩
  · rw [upd_ne fun z => by rw [z, hp] at e; cases e]; exact e
  · rw [upd_ne fun z => by rw [z, hp] at e; cases e]; exact e
  · obtain ⟨e1, e2⟩ := ok.lamc i f F e
    unfold LamO at e1 ⊢
    unfold LamX.CodeO at e2 ⊢
    exact ⟨by rw [upd_ne fun z => by rw [z, hp] at e1; cases e1]; exact e1, by rw [upd_ne fun z => by rw [z, hp] at e2; cases e2]; exact e2⟩
theorem Le.own {n n1 : Nat} {μ μ1 : Nat → Addr} {H H1 : Hp} (l : Le n μ H n1 μ1 H1) {p : Addr} {u : HO} (hp : H p = none) : Le n μ H n1 μ1 (L2.upd H1 p u) := by
  have ne : ∀ a o, H a = some o → a ≠ p := fun a o e z => by rw [z, hp] at e; cases e
  refine ⟨l.le, l.mu, l.new, fun a xs e => ?_, fun a o e ht hm => ?_, fun a o e => ?_⟩
  · rw [upd_ne (ne _ _ e)]; exact l.tup a xs e
  · rw [upd_ne (ne _ _ e)]; exact l.fr a o e ht hm
  · rw [upd_ne (ne _ _ e)]; exact l.dom a o e
theorem EnvR.wipe {D : Wd} {n : Nat} {μ : Nat → Addr} {H : Hp} {ρ : Env} {σ : L2.St} (hL : D.L = none) (er : EnvR D n μ H ρ σ) : ∀ vs, EnvR D n μ H (VI.wipe ρ vs) (L2.wipe σ vs)
  | [] => er
  | v :: vs => by
    have ih := er.wipe hL vs
    unfold VI.wipe L2.wipe
    refine ⟨by rw [List.length_set, List.length_set]; exact ih.1, fun i x e => ?_, fun i f F e => by rw [hL] at e; cases e⟩
    by_cases hj : v = i
    · subst hj
      have hi : v < (VI.wipe ρ vs).length := by
        have := (List.getElem?_eq_some_iff.mp e).1
        rwa [List.length_set] at this
      rw [List.getElem?_set_self hi] at e
      cases e
    · rw [List.getElem?_set_ne hj] at e ⊢
      exact ih.2.1 i x e
def own_keep (p : Addr) (n : Nat) (μ : Nat → Addr) (H : Hp) (ys : List V) : Prop := H p = some (.lst ys) ∧ ∀ k, k < n → μ k ≠ p
theorem own_keep.le {p : Addr} {n n1 : Nat} {μ μ1 : Nat → Addr} {H H1 : Hp} {ys : List V} (h : own_keep p n μ H ys) (l : Le n μ H n1 μ1 H1) : own_keep p n1 μ1 H1 ys := by
  refine ⟨l.fr p _ h.1 (fun _ q => nomatch q) h.2, fun k hk z => ?_⟩
  by_cases hk' : k < n
  · rw [l.mu k hk'] at z; exact h.2 k hk' z
  · have := l.new k (Nat.le_of_not_lt hk') hk
    rw [z, h.1] at this; cases this
theorem lc_rd {D : Wd} {K : PySem.W.Frag} {ix : Ix} {is own : List Nat} {g : Tgt} {c : Tst} {fe : Ev} (hL : D.L = none) (hown : ∀ i ∈ is, i ∈ own) {σ : L2.St} {H : Hp} {Q : VK} (h : rE D (eComp ix g own c fe) σ H Q) : tLc (rI D ix) (rG D is g) (rT D c) (rE D fe) own σ H Q := by
  obtain ⟨n, μ, ρ, st, z, st', ok, er, hf, an⟩ := h
  obtain ⟨its, s1, h1, hf⟩ := bind_eq_ok hf
  refine ⟨n, μ, ρ, st, its, s1, ok, er, h1, fun n1 μ1 H1 J ok1 l1 itr p hp => ?_⟩
  cases h2 : its s1 with
  | none => rw [h2] at hf; cases hf
  | some xs =>
    rw [h2] at hf
    obtain ⟨ok2, l2⟩ := ok1.upd (u := .lst []) hp
    have kp2 : own_keep p n1 μ1 (upd H1 p (.lst [])) [] := ⟨upd_same, ok1.fresh hp⟩
    refine ⟨fun i m H3 => ∃ n3 μ3 st3 acc ys, Ok D n3 μ3 H3 st3 ∧ Le n1 μ1 H1 n3 μ3 H3 ∧ own_keep p n3 μ3 H3 ys ∧ RpAll D n3 μ3 H3 acc ys ∧ compGo its g c fe (VI.wipe ρ own) m i acc st3 = .ok z st', ⟨_, n1, μ1, s1, [], [], ok2, l2, kp2, .nil, hf⟩, ?_⟩
    rintro i m H3 ⟨n3, μ3, st3, acc, ys, ok3, l3, kp3, ra, hf3⟩
    have er3 : EnvR D n3 μ3 H3 (VI.wipe ρ own) (L2.wipe σ own) := (er.mono (l1.trans l3)).wipe hL own
    cases m with
    | zero => cases hf3
    | succ m =>
      unfold compGo at hf3
      cases h3 : its st3 with
      | none => rw [h3] at hf3; cases hf3
      | some xs =>
        rw [h3] at hf3
        obtain ⟨k1, k2⟩ := itr n3 μ3 H3 st3 ok3 l3 xs h3 i
        cases h4 : xs[i]? with
        | none =>
          simp only [h4] at hf3
          cases hf3
          exact .inl ⟨k2 h4, an n3 μ3 H3 (.ref p) ok3 (l1.trans l3) ⟨p, ys, rfl, kp3.1, ra, kp3.2⟩ fun a e => by cases e; exact l1.no hp⟩
        | some x =>
          simp only [h4] at hf3
          obtain ⟨ρ4, s4, h5, hf3⟩ := bind_eq_ok hf3
          obtain ⟨b, s5, h6, hf3⟩ := bind_eq_ok hf3
          obtain ⟨go, yl⟩ := k1 x h4
          refine .inr ⟨go, fun H6 => ∃ n3 μ3 st3 acc ys, Ok D n3 μ3 H6 st3 ∧ Le n1 μ1 H1 n3 μ3 H6 ∧ own_keep p n3 μ3 H6 ys ∧ RpAll D n3 μ3 H6 acc ys ∧ compGo its g c fe (VI.wipe ρ own) m (i + 1) acc st3 = .ok z st', fun H' h => ⟨m, Nat.lt_succ_self m, h⟩, fun y H4 hy => ?_⟩
          obtain ⟨ok4, l4, r4⟩ := yl y H4 hy
          refine ⟨n3, μ3, _, st3, x, ρ4, s4, ok4, er3.mono l4, r4, h5, fun n5 μ5 H5 σ5 ok5 l5 er5 wp => ⟨?_, ?_⟩⟩
          · rw [wp own hown]
            clear wp er5 er3 hf3 er
            have : ∀ vs ws : List Nat, (∀ i ∈ vs, i ∈ ws) → L2.wipe (L2.wipe σ vs) ws = L2.wipe σ ws := fun vs => by
              induction vs with
              | nil => intro ws _; rfl
              | cons v vs ih =>
                intro ws hv
                show L2.wipe ((L2.wipe σ vs).set v none) ws = _
                rw [wipe_set (hv v List.mem_cons_self)]
                exact ih ws fun i hi => hv i (List.mem_cons_of_mem _ hi)
            exact this own own fun _ h => h
          · refine ⟨n5, μ5, ρ4, s4, b, s5, ok5, er5, h6, fun n6 μ6 H6 ok6 l6 => ?_⟩
            have l36 := l4.trans (l5.trans l6)
            cases b with
            | false =>
              simp only [Bool.false_eq_true, if_false] at hf3 ⊢
              exact ⟨n6, μ6, s5, acc, ys, ok6, l3.trans l36, kp3.le l36, ra.mono l36, hf3⟩
            | true =>
              simp only [if_true] at hf3 ⊢
              obtain ⟨t, s7, h7, hf3⟩ := bind_eq_ok hf3
              obtain ⟨w, s8, h8, hf3⟩ := bind_eq_ok hf3
              refine ⟨n6, μ6, ρ4, s5, t, s7, ok6, er5.mono l6, h7, fun n7 μ7 H7 y7 ok7 l7 r7 f7 => ?_⟩
              have l37 := l36.trans l7
              obtain ⟨n8, μ8, ok8, l8, r8, tr, hn, hm⟩ := mat_ok h8 ok7 l7 r7 f7
              have l38 := l36.trans l8
              have kp8 := kp3.le l38
              by_cases hl : acc.length < LIM
              · rw [if_pos hl] at hf3
                have q : ∀ (u : HO) a zs, H7 a = some (.tup zs) → upd H7 p u a = some (.tup zs) := fun u a zs e => by
                  rw [upd_ne fun z => by rw [z, kp8.1] at e; cases e]; exact e
                refine ⟨ys, kp8.1, by rw [← ra.length, sizeLine_eq]; exact hl, n8, μ8, s8, acc ++ [w], ys ++ [y7], ok8.own kp8.1 kp8.2, (l3.trans l38).own hp, ⟨upd_same, kp8.2⟩, ?_, hf3⟩
                exact ((ra.mono l38).append (.cons r8 .nil)).mono' (Nat.le_refl _) (fun _ _ => rfl) (q _)
              · rw [if_neg hl] at hf3; cases hf3
instance blkCok {X : Cx} {D : Wd} [C : Cok X D] {s : Shared} {H : Hp} {scope : Scope} {cenv : PySem.Env} {fp : List Addr} : Cok (X.blk s H scope cenv fp) D := ⟨C.hK, C.calm, C.nd⟩
section
variable {X : Cx} {D : Wd} {elt tg iter : Expr} {ifs : List Expr} {scope : Scope} {own : List (Str × Nat)} {pos : Pos} {ix : Ix} {is : List Nat} {g : Tgt} {c : Tst} {fe : Ev}
abbrev STs (X : Cx) (D : Wd) (ifs : List Expr) (c : Tst) : Prop := PTs X ifs (rT D c)
theorem PTs_imp {X : Cx} {e : List Expr} {t t' : TT} (h : PTs X e t) (k : ∀ σ H Q, t' σ H Q → t σ H Q) : PTs X e t' := ⟨fun pins s σ H Q I q => h.run pins s σ H Q I (k σ H Q q)⟩
theorem ts_nil : STs X D [] VI.tYes := PTs_imp pts_nil fun σ H Q ⟨n, μ, ρ, st, b, st', ok, er, hf, q⟩ => by
  cases hf
  exact q n μ H ok (Le.refl _ _ _)
theorem ts_one {a : Expr} (h : ST X D a c) : STs X D [a] c := pts_one h
theorem e_comp [C : Cok X D] (hL : D.L = none) (hi : SI X D tg iter ix) (ok : blkC X.N X.env.scope scope own = true)
    (hg : ∀ (s : Shared) (H : Hp) (C : Addr) (cl : List (Str × Addr)) (fp : List Addr), SG (X.blk s H scope (compEnvC scope cl C X.env) fp) D tg is g) (ht : ∀ (s : Shared) (H : Hp) (C : Addr) (cl : List (Str × Addr)) (fp : List Addr), STs (X.blk s H scope (compEnvC scope cl C X.env) fp) D ifs c)
    (he : ∀ (s : Shared) (H : Hp) (C : Addr) (cl : List (Str × Addr)) (fp : List Addr), SE (X.blk s H scope (compEnvC scope cl C X.env) fp) D elt fe) (hown : ∀ i ∈ is, i ∈ own.map (·.2)) (hs : ∀ x, foldedSetIterable iter X.env x = pure x := by intro _; rfl) :
    SE X D (.ListComp elt [⟨tg, iter, ifs, 0⟩] scope pos) (eComp ix g (own.map (·.2)) c fe) :=
  PE_imp (pe_lc C.calm C.nd hi (blkOk_by ok) hg ht he hs) fun _ _ _ h => lc_rd (K := X.K) hL hown h
/-- name = [..] on one line -/
theorem s_setLc [C : Cok X D] (hL : D.L = none) {i : Nat} {y : Str} {py spos : Pos} (hy : X.N[i]? = some y) (hyl : X.env.scope.names.lookup y = some .local) (hsw : swapsWith (.ListComp elt [⟨tg, iter, ifs, 0⟩] scope pos) (some (.Name y py)) spos.line X.env = pure true)
    (hi : SI X D tg iter ix) (ok : blkC X.N X.env.scope scope own = true)
    (hg : ∀ (s : Shared) (H : Hp) (C : Addr) (cl : List (Str × Addr)) (fp : List Addr), SG (X.blk s H scope (compEnvC scope cl C X.env) fp) D tg is g) (ht : ∀ (s : Shared) (H : Hp) (C : Addr) (cl : List (Str × Addr)) (fp : List Addr), STs (X.blk s H scope (compEnvC scope cl C X.env) fp) D ifs c)
    (he : ∀ (s : Shared) (H : Hp) (C : Addr) (cl : List (Str × Addr)) (fp : List Addr), SE (X.blk s H scope (compEnvC scope cl C X.env) fp) D elt fe) (hown : ∀ i ∈ is, i ∈ own.map (·.2)) (hs : ∀ x, foldedSetIterable iter X.env x = pure x := by intro _; rfl) :
    SS X D (.Assign [.Name y py] (.ListComp elt [⟨tg, iter, ifs, 0⟩] scope pos) spos) (sAsg (gV i) (eComp ix g (own.map (·.2)) c fe)) :=
  PS_imp (ps_setLc C.calm C.nd hy hyl hsw hi (blkOk_by ok) hg ht he hs) fun E σ H h => by
    obtain ⟨n, μ, ρ, st, r, st', ok, er, hf, q⟩ := h
    obtain ⟨x, s1, h1, hf⟩ := bind_eq_ok hf
    obtain ⟨y, s2, h2, hf⟩ := bind_eq_ok hf
    obtain ⟨ρ', s3, h3, hf⟩ := bind_eq_ok hf
    cases hf
    refine lc_rd (K := X.K) hL hown ⟨n, μ, ρ, st, x, s1, ok, er, h1, fun n1 μ1 H1 y1 ok1 l1 r1 f1 => ?_⟩
    obtain ⟨n2, μ2, ok2, l2, r2, tr, hn, hm⟩ := mat_ok h2 ok1 l1 r1 f1
    exact nameG (D := D) ⟨n2, μ2, ρ, s2, y, ρ', _, ok2, er.mono l2, r2, h3, fun n3 μ3 H3 σ3 ok3 l3 er3 _ => q n3 μ3 H3 σ3 ok3 (l2.trans l3) er3⟩
end

/-! ### defs -/
section
variable {P : Program} {w : World} {K : PySem.W.Frag} {mg : Str → Option Value} {base : Heap} {D : Wd} {N ps : List Str} {qual : Str} {scope : Scope} {f : Addr} {cd : Value} {A : Around} {outer : List PySem.Env} {s : Shared} {H : Hp} {E : XK}
instance cxOwn {CX : CXT} : Own (cxOf CX P w K mg base N qual scope f cd A outer s H E) := ⟨passes_of rfl⟩
theorem startR (hL : D.L = none) : ∀ {n : Nat} {μ : Nat → Addr} {xs : List Val} {vs : List V}, RpAll D n μ H xs vs → ∀ m, EnvR D n μ H (xs.map some ++ List.replicate m none) (vs.map some ++ List.replicate m none) := fun {n μ xs vs} r m => by
  refine ⟨by simp [r.length], fun i x e => ?_, fun i f F e => by rw [hL] at e; cases e⟩
  by_cases hi : i < xs.length
  · rw [List.getElem?_append_left (by simpa using hi), List.getElem?_map] at e
    have hi' : i < vs.length := by rw [← r.length]; exact hi
    rw [List.getElem?_append_left (by simpa using hi'), List.getElem?_map]
    cases h : xs[i]? with
    | none => rw [h] at e; cases e
    | some z =>
      rw [h] at e; cases e
      obtain ⟨y, hy, ry⟩ := r.get h
      exact ⟨y, by rw [hy]; rfl, ry⟩
  · rw [List.getElem?_append_right (by simpa using hi), List.getElem?_replicate] at e
    split at e <;> cases e
theorem fn_ok {x : Str} {params : Arguments} {body : List Stmt} {dvs : List V} {kws : List (Str × V)} {fd : FuncData} {k np nl : Nat} {g : Sx} (hL : D.L = none) (F : FunD K x qual params body scope dvs kws f fd) (S : C8.scC N ps scope = true) (hnp : ps.length = np) (hnl : N.length = nl)
    (hb : ∀ (cdv : Value) (A : Around) (outer : List PySem.Env) (s : Shared) (H : Hp) (E : XK), Room k (A.deeper (envOfC qual scope s.heap.objs.size f cdv)) → SSs (cxOf C8.CX0 P w K mg base N qual scope f cdv A outer s H E) D body g) :
    FnOk P w K mg base C8.CX0 (k + 1) f fd ps (spF D np (fnOf np nl g)) := by
  refine F.ok (C8.fnScope_by S) (fun vs H Q E h => by rw [h.1, hnp]) fun cdv A outer s H vs Q E hr h => ⟨_, hb cdv A outer s H E hr, ?_⟩
  obtain ⟨h0, n, μ, st, as, x, st', ok, r, hf, an⟩ := h
  unfold fnOf at hf
  have hl : as.length = np := by rw [r.length, h0]
  rw [if_pos hl] at hf
  obtain ⟨⟨fl, ρ⟩, s1, h1, hf⟩ := bind_eq_ok hf
  refine ⟨n, μ, _, st, (fl, ρ), s1, ok, ?_, h1, ?_⟩
  · have e : N.length - vs.length = nl - np := by rw [hnl, h0]
    unfold L2.start
    rw [e]
    exact startR hL r _
  · cases fl with
    | next => cases hf; exact fun n' μ' H' σ' ok' l' er' => an n' μ' H' .non ok' l' .non trivial
    | ret t => cases hf; exact an
    | brk => cases hf
end
end VI
end
section
set_option Elab.async false
set_option linter.all false
set_option maxRecDepth 100000
set_option maxHeartbeats 4000000
/-! VI10: a lambda of one parameter handed to a def as its last argument. -/
namespace VI
open PySem PySem.Spec PyProof.Rows L2

def LF.nf (F : LF) : NdefX.NF := ⟨"<lambda>", F.qual, F.params, [], F.scope, F.cl, F.c⟩
theorem lamO_at {P : Program} {w : World} {H : Hp} {h : Heap} {f : Addr} {F : LF} (hok : HOk P w H h) (e : H f = some (LamO f F)) :
    ∃ (od : Option Addr) (sl : Array (Option Value)) (pm ctv : Value), h.get? f = some (⟨.type "function", od, .func (PySem.W.kla_fn "<lambda>" F.qual F.params F.body F.scope F.cl pm (.ref F.c) ctv), sl⟩ : Obj) := by
  obtain ⟨z, _, _⟩ := hok f _ e
  exact z
section
variable {X : Cx} {pins : List (Addr × Obj)} {σ : L2.St} {H : Hp} {s : Shared}
theorem inv_lam {F : LF} {o : Obj} {t' : Nat} {pm ctv : Value} (I : Inv X pins σ H s) (ho : o = PySem.W.kla_obj "<lambda>" F.qual F.params F.body F.scope F.cl pm F.c ctv) :
    Inv X pins σ (upd H s.heap.objs.size (LamO s.heap.objs.size F)) { s with heap := s.heap.push o, toks := t' } := by
  subst ho
  refine I.laid (a := s.heap.objs.size) (fun b u e => Heap.get?_push_of_some _ e) (Nat.le_refl _) ?_
  have e : (s.heap.push (PySem.W.kla_obj "<lambda>" F.qual F.params F.body F.scope F.cl pm F.c ctv)).get? s.heap.objs.size = some (PySem.W.kla_obj "<lambda>" F.qual F.params F.body F.scope F.cl pm F.c ctv) := Heap.get?_push_size _ rfl
  exact ⟨⟨_, _, pm, ctv, e⟩, ⟨_, e⟩, fun h1 h2 ⟨od, sl, p, t, z⟩ st => ⟨od, sl, p, t, st _ z⟩⟩
/-- the lambda is made -/
theorem lam_make3 {T : List (Addr × Str)} {c P : Addr} {params : Arguments} {body : Expr} {scope : Scope} {pos : Pos} {E : Value → Shared → Prop} {Q : Value → Shared → Prop} (I : Inv X pins σ H s) (TB : LamX.TabB X.base X.mg c P) (hcode : X.env.code = .ref c)
    (hm : (P, X.env.qual ++ "<lambda>") ∈ T) (hu : ∀ p ∈ T, p.1 = P → p.2 = X.env.qual ++ "<lambda>") (hT : LamX.Tabs T H) (hdef : defaultsOf params X.env = ([], [])) (hfree : ∀ y ∈ scope.names, y.2 = .free → ∃ c, X.env.cells.lookup y.1 = some c)
    (h : ∀ (f c' : Addr) (H1 : Hp) (s' : Shared), Inv X pins σ H1 s' → LamX.ExtN H H1 → (∀ b, H1 b = Option.none → H b = Option.none) → LamX.Tabs T H1 →
      H1 f = some (LamO f ⟨X.env.qual ++ "<lambda>", params, body, scope, cloFrom X.env.cells scope.names [], c'⟩) → H1 c' = some (LamX.CodeO c' (X.env.qual ++ "<lambda>")) → Q (.ref f) s') :
    wpAny (model X.prog X.w) X.A (eval (.Lambda params body scope pos) X.env) Q E s := by
  obtain ⟨ps, hP, ht, ha⟩ := hT _ hm
  refine PySem.W.kla_eval hdef ?_
  have bP : s.heap.BuiltinsAt X.mg P := TB.bm.keeps I.bk
  have hP' : s.heap.get? P = some { cls := .none, data := .fields ps } := I.hok P _ hP
  cases hc : codeAmong pos ps.toList with
  | none =>
    refine PySem.W.kla_makeFunction (mg := X.mg) (c := c) (P := P) (ps := ps) (closure_ok hfree) I.ok.glob (I.mod.glob.keeps I.bk) hcode (TB.code.keeps I.bk) hP' ht hc TB.gP bP fun c' ctv h' tk hx hge hlt hrec htb => ?_
    obtain ⟨c2, oc, vs, t, e2, hoc, hd, hv⟩ := hrec
    cases e2
    have nC : H c' = none := I.hok.fresh hge
    have I1 := LamX.inv_table (t' := tk) (more := #[rawInt pos.line, rawInt pos.col, .ref c']) (h' := h') I hP (fun b o hb e => hx b o hb e) htb hge ⟨oc, vs, t, hoc, hd, hv⟩
    have hE : LamX.ExtN H (upd (upd H P (.tbl (ps ++ #[rawInt pos.line, rawInt pos.col, .ref c']))) c' (LamX.CodeO c' (X.env.qual ++ "<lambda>"))) := fun b o e n => by
      rw [upd_ne (ne_of_none e nC), upd_ne (fun z => n ps (Option.some.inj (e.symm.trans (by rw [z]; exact hP))))]
      exact e
    have eL : (ps ++ #[rawInt pos.line, rawInt pos.col, .ref c']).toList = ps.toList ++ [rawInt pos.line, rawInt pos.col, .ref c'] := by simp
    have T1 : LamX.Tabs T (upd (upd H P (.tbl (ps ++ #[rawInt pos.line, rawInt pos.col, .ref c']))) c' (LamX.CodeO c' (X.env.qual ++ "<lambda>"))) := fun p hp => by
      by_cases hb : p.1 = P
      · rw [hu p hp hb, hb]
        refine ⟨_, by rw [upd_ne (ne_of_none hP nC), upd_same], by rw [eL]; exact PySem.TriplesOk_snoc _ _ _ _ ht, fun p' cv hcv => ?_⟩
        rw [eL] at hcv
        rcases LamX.among_app _ ht hcv with z | z
        · obtain ⟨c0, e1, e2⟩ := ha p' cv z
          exact ⟨c0, e1, hE _ _ e2 LamX.codeO_ne⟩
        · exact ⟨c', z, upd_same⟩
      · obtain ⟨ps', a1, a2, a3⟩ := hT p hp
        refine ⟨ps', by rw [upd_ne (ne_of_none a1 nC), upd_ne hb]; exact a1, a2, fun p' cv hcv => ?_⟩
        obtain ⟨c0, e1, e2⟩ := a3 p' cv hcv
        exact ⟨c0, e1, hE _ _ e2 LamX.codeO_ne⟩
    have nF := I1.hok.fresh (Nat.le_refl _)
    have I2 := inv_lam (F := ⟨X.env.qual ++ "<lambda>", params, body, scope, cloFrom X.env.cells scope.names [], c'⟩) (t' := tk) (pm := (X.mg "__name__").getD .none) (ctv := ctv) I1 rfl
    refine h h'.objs.size c' _ _ I2 (fun b o e n => ?_) (fun b e => NdefX.upd_none (NdefX.upd_none (NdefX.upd_none e))) (T1.ext fun b o e => ?_) upd_same ?_
    · have e1 := hE b o e n
      exact (upd_ne (ne_of_none e1 nF)).trans e1
    · exact (upd_ne (ne_of_none e nF)).trans e
    · exact (upd_ne (Nat.ne_of_lt hlt)).trans upd_same
  | some cv =>
    obtain ⟨c', e, hco⟩ := ha pos cv hc
    subst e
    refine PySem.W.kla_makeFunctionHit (mg := X.mg) (c := c) (P := P) (ps := ps) (closure_ok hfree) I.ok.glob (I.mod.glob.keeps I.bk) hcode (TB.code.keeps I.bk) hP' ht hc bP fun ctv h' tk hx hsz => ?_
    have I1 : Inv X pins σ H { s with heap := h', toks := tk } := I.kept hx
    have nF : H h'.objs.size = none := I1.hok.fresh (Nat.le_refl _)
    have I2 := inv_lam (F := ⟨X.env.qual ++ "<lambda>", params, body, scope, cloFrom X.env.cells scope.names [], c'⟩) (t' := tk) (pm := (X.mg "__name__").getD .none) (ctv := ctv) I1 rfl
    refine h h'.objs.size c' _ _ I2 (fun b o e n => ?_) (fun b e => NdefX.upd_none e) (hT.ext fun b o e => ?_) upd_same ?_
    · exact (upd_ne (ne_of_none e nF)).trans e
    · exact (upd_ne (ne_of_none e nF)).trans e
    · exact (upd_ne (ne_of_none hco nF)).trans hco
end

/-! ### another world -/
section
variable {D D' : Wd} {n : Nat} {μ : Nat → Addr} {H : Hp} {st : Store}
structure Lk (D D' : Wd) : Prop where
  K : D'.K = D.K
  S : D'.S = D.S
  C : D'.C = D.C
  T : D'.T = D.T
theorem Lk.symm (l : Lk D D') : Lk D' D := ⟨l.K.symm, l.S.symm, l.C.symm, l.T.symm⟩
theorem Lk.refl : Lk D D := ⟨rfl, rfl, rfl, rfl⟩
mutual
theorem Rp.cv (l : Lk D D') : ∀ {x : Val} {y : V}, Rp D n μ H x y → Rp D' n μ H x y
  | _, _, .non => .non
  | _, _, .bool b => .bool b
  | _, _, .int i => .int i
  | _, _, .str h => .str (by rw [l.S]; exact h)
  | _, _, .tup h r => .tup (by rw [l.K]; exact h) (RpAll.cv l r)
  | _, _, .ref h => .ref h
theorem RpAll.cv (l : Lk D D') : ∀ {x : List Val} {y : List V}, RpAll D n μ H x y → RpAll D' n μ H x y
  | _, _, .nil => .nil
  | _, _, .cons h r => .cons (Rp.cv l h) (RpAll.cv l r)
end
theorem FsR.cv (l : Lk D D') : ∀ {x : List (Nat × Val)} {y : List (Str × V)}, FsR D n μ H x y → FsR D' n μ H x y
  | _, _, .nil => .nil
  | _, _, .cons h h' r => .cons (by rw [l.S]; exact h) (h'.cv l) (FsR.cv l r)
theorem KvR.cv (l : Lk D D') : ∀ {x : List (List Int × Val)} {y : List (List Key × V)}, KvR D n μ H x y → KvR D' n μ H x y
  | _, _, .nil => .nil
  | _, _, .cons h' r => .cons (h'.cv l) (KvR.cv l r)
theorem ObR.cv (l : Lk D D') {a : Addr} : ∀ {o : Ob}, ObR D n μ H a o → ObR D' n μ H a o
  | .lst _, ⟨ys, h, r⟩ => ⟨ys, h, r.cv l⟩
  | .frz _, ⟨o, ys, h, r⟩ => ⟨o, ys, h, r.cv l⟩
  | .ins _ _, ⟨dx, gs, h, r⟩ => ⟨dx, gs, by rw [l.C]; exact h, r.cv l⟩
  | .dct _, ⟨ks, h, r⟩ => ⟨ks, h, r.cv l⟩
theorem Rt.cv (l : Lk D D') {x : Tv} {y : V} (h : Rt D n μ H x y) : Rt D' n μ H x y := by
  cases x with
  | v x => exact Rp.cv l h
  | l xs =>
    obtain ⟨a, ys, e, ha, r, hm⟩ := h
    exact ⟨a, ys, e, ha, r.cv l, hm⟩
theorem Ok.cv (l : Lk D D') (ok : Ok D n μ H st) (hl : ∀ i f F, D'.L = some (i, f, F) → H f = some (LamO f F) ∧ H F.c = some (LamX.CodeO F.c F.qual)) : Ok D' n μ H st :=
  ⟨ok.len, ok.inj, fun k o e => (ok.ob k o e).cv l, by rw [l.T]; exact ok.tabs, hl⟩
/-- the heap has grown by a lambda -/
theorem Ok.ext {H1 : Hp} (ok : Ok D n μ H st) (hL : D.L = none) (eN : LamX.ExtN H H1) (nn : ∀ b, H1 b = none → H b = none) (T1 : LamX.Tabs D.T H1) : Ok D n μ H1 st ∧ Le n μ H n μ H1 := by
  have kt : ∀ a xs, H a = some (.tup xs) → H1 a = some (.tup xs) := fun a xs e => eN a _ e fun ps z => by cases z
  refine ⟨⟨ok.len, ok.inj, fun k o e => ?_, T1, fun i f F e => by rw [hL] at e; cases e⟩, ⟨Nat.le_refl _, fun _ _ => rfl, fun k h1 h2 => absurd (Nat.lt_of_lt_of_le h2 h1) (Nat.lt_irrefl _), kt, fun a o e ht _ => eN a o e ht, fun a o e => ?_⟩⟩
  · have r := ok.ob k o e
    obtain ⟨u, hu, _, h2, _⟩ := r.some
    exact r.mono (Nat.le_refl _) (fun _ _ => rfl) kt (by rw [eN _ u hu h2, hu])
  · cases q : H1 a with
    | none => rw [nn a q] at e; cases e
    | some u => exact ⟨u, rfl⟩
/-- the lambda stays -/
theorem lam_keep {n' : Nat} {μ' : Nat → Addr} {H' : Hp} (ok : Ok D n μ H st) (l : Le n μ H n' μ' H') {f : Addr} {F : LF} (h : H f = some (LamO f F) ∧ H F.c = some (LamX.CodeO F.c F.qual)) : H' f = some (LamO f F) ∧ H' F.c = some (LamX.CodeO F.c F.qual) := by
  have nm : ∀ b φ, H b = some (.ext φ) → ∀ k, k < n → μ k ≠ b := fun b φ e k hk z => by
    obtain ⟨o2, _, r⟩ := ok.at hk
    obtain ⟨u, hu, _, _, h3⟩ := r.some
    rw [z, e] at hu; cases hu
    exact h3 _ rfl
  obtain ⟨e1, e2⟩ := h
  unfold LamO at e1 ⊢
  unfold LamX.CodeO at e2 ⊢
  exact ⟨l.fr _ _ e1 (fun _ q => nomatch q) (nm _ _ e1), l.fr _ _ e2 (fun _ q => nomatch q) (nm _ _ e2)⟩
end

/-! ### the lambda is called -/
theorem cells_later {cl : List (Str × Addr)} {fr : List Str} {ws : List (Option V)} {h h' : Heap} {H H' : Hp} {fs : List Addr} (C : NdefX.CellsAt cl fr ws h H) (un : Un fs [] H H' h h') : NdefX.CellsAt cl fr ws h' H' := by
  have kp : ∀ c v, H c = none → h.IsCell c v → h'.IsCell c v := fun c v n ⟨o, ho, hd⟩ => by
    obtain ⟨sl, q⟩ := un.any ho n (by simp)
    exact ⟨_, q, hd⟩
  refine ⟨C.len, fun y c e => ?_, C.inj, fun i y e => ?_⟩
  · obtain ⟨n, v, z⟩ := C.all y c e
    obtain ⟨o, ho, hd⟩ := z
    exact ⟨un.free c o ho n (by simp), v, kp c v n ⟨o, ho, hd⟩⟩
  · obtain ⟨c, hc, hv⟩ := C.has i y e
    refine ⟨c, hc, fun v ev => ?_⟩
    obtain ⟨u, r, z⟩ := hv v ev
    exact ⟨u, r, kp c _ (C.all y c hc).1 z⟩
section
variable {D D' : Wd}
/-- what the lambda's body is -/
structure LBody (P : Program) (w : World) (K : PySem.W.Frag) (mg : Str → Option Value) (base : Heap) (D : Wd) (k : Nat) (F : LF) (par : Str) (fr Nl : List Str) (Lb : Ev) : Prop where
  sc : NdefX.NScope Nl [par] fr F.scope
  nl : Nl.length = 1 + fr.length
  bind : ∀ (pm ctv u : Value), bindArgs (PySem.W.kla_fn "<lambda>" F.qual F.params F.body F.scope F.cl pm (.ref F.c) ctv) ⟨[u], []⟩ = pure [(par, u)]
  body : ∀ (f : Addr) (A : Around) (outer : List PySem.Env) (s : Shared) (H : Hp) (E : XK), Room k (A.deeper (NdefX.envF F.nf f s.heap.objs.size)) → SE (NdefX.ncx C8.CX0 P w K mg base Nl F.nf f A outer s H E) D F.body Lb
theorem e_lamact {P : Program} {w : World} {K : PySem.W.Frag} {mg : Str → Option Value} {base : Heap} {N : List Str} {qual : Str} {scope : Scope} {g f : Addr} {cd : Value} {A : Around} {outer : List PySem.Env} {s : Shared} {H : Hp} {E : XK} {k i : Nat} {F : LF} {par aL : Str} {fr Nl : List Str} {Lb : Ev} {is : List Int}
    (lk : Lk D D') (hL' : D'.L = some (i, f, F)) (hL : D.L = none) (B : LBody P w K mg base D k F par fr Nl Lb) (C0 : NdefX.CellsAt F.cl fr (is.map fun i => some (V.int i)) s.heap H) (hr : Room (k + 1) (A.deeper (envOfC qual scope s.heap.objs.size g cd)))
    (hN : N[i]? = some aL) (hv : Vis scope aL) {e : Expr} {fe : Ev} {p1 p2 : Pos} (he : SE (cxOf C8.CX0 P w K mg base N qual scope g cd A outer s H E) D' e fe)
    (hd : (aL == ("__debug__" : Str)) = false) (hcd : (aL == ("__classdict__" : Str)) = false)
    (hs : starEach [e] (cxOf C8.CX0 P w K mg base N qual scope g cd A outer s H E).env = (false, eval e (cxOf C8.CX0 P w K mg base N qual scope g cd A outer s H E).env) :: starEach [] (cxOf C8.CX0 P w K mg base N qual scope g cd A outer s H E).env := by rfl)
    (hpl : (backTo p2 (starEach [] (cxOf C8.CX0 P w K mg base N qual scope g cd A outer s H E).env)).any (·.1) = false := by rfl) :
    SE (cxOf C8.CX0 P w K mg base N qual scope g cd A outer s H E) D' (.Call (.Name aL p1) [e] [] p2) (eLamC i (fun x s => Lb (some x :: is.map fun i => some (.int i)) s) fe) := by
  refine ⟨fun pins sZ σ HZ Q I ⟨n, μ, ρ, st, z, st', ok, er, hf, an⟩ => ?_⟩
  unfold eLamC at hf
  cases hρ : ρ[i]? with
  | none => rw [hρ] at hf; cases hf
  | some o =>
    cases o with
    | some _ => rw [hρ] at hf; cases hf
    | none =>
      rw [hρ] at hf
      obtain ⟨t, st1, h1, hf⟩ := bind_eq_ok hf
      obtain ⟨x, st2, h2, hf⟩ := bind_eq_ok hf
      have hσ := er.2.2 i f F hL' hρ
      refine wpAny_Call_Name_kw (thn ((pe_var (pos := p1) (i := i) hN hv hd hcd).run pins sZ σ HZ (fun v H1 => v = .ref f ∧ H1 = HZ) I ⟨.ref f, hσ, rfl, rfl⟩) fun u s1 ⟨v, H1, I1, r1, q1⟩ => ?_)
      obtain ⟨ev, eH⟩ := q1
      subst ev
      rw [eH] at I1
      obtain rfl : u = Value.ref f := r1
      have fnAt : ∀ {H2 : Hp} {s2 : Shared} {n2 : Nat} {μ2 : Nat → Addr} {st2 : Store}, Inv (cxOf C8.CX0 P w K mg base N qual scope g cd A outer s H E) pins σ H2 s2 → Ok D' n2 μ2 H2 st2 → PySem.W.FnAt f s2.heap := fun I2 ok2 => by
        obtain ⟨od, sl, pm, ctv, ho⟩ := lamO_at I2.hok (ok2.lamc i f F hL').1
        exact ⟨_, od, _, sl, ho⟩
      have hpa : PA (cxOf C8.CX0 P w K mg base N qual scope g cd A outer s H E) [e] (tCons (rE D' fe) tNil) := pa_cons he pa_nil hs
      have hrd : tCons (rE D' fe) tNil σ HZ (fun vs H2 => ∃ n2 μ2 y, vs = [y] ∧ Ok D' n2 μ2 H2 st2 ∧ Le n μ HZ n2 μ2 H2 ∧ Rp D' n2 μ2 H2 x y) := by
        refine ⟨n, μ, ρ, st, t, st1, ok, er, h1, fun n1 μ1 H1 y1 ok1 l1 r1 f1 => ?_⟩
        obtain ⟨n2, μ2, ok2, l2, r2, tr, hn, hm⟩ := mat_ok h2 ok1 l1 r1 f1
        exact ⟨n2, μ2, y1, rfl, ok2, l2, r2⟩
      refine PySem.W.callWith_F (first := []) (fnAt I1 ok) (thn (hpa.run p2 pins s1 σ HZ _ I1 hrd) fun us s2 ⟨vs, H2, I2, r, n2, μ2, y, ev, ok2, l2, r2⟩ => ⟨fnAt I2 ok2, ?_⟩) hs hpl
      subst ev
      obtain ⟨u, rfl, ru⟩ := r.one
      show wpAny _ _ (call (.ref f) [u]) _ _ _
      obtain ⟨e1, e2⟩ := ok2.lamc i f F hL'
      obtain ⟨od, sl, pm, ctv, ho⟩ := lamO_at I2.hok e1
      have C2 : NdefX.CellsAt F.cl fr (is.map fun i => some (V.int i)) s2.heap H2 := cells_later C0 (show Un (frs outer) [] H H2 s.heap s2.heap from I2.base)
      have rc : codeAny (model P w) (A.deeper (envOfC qual scope s.heap.objs.size g cd)) (.call (.ref f) ⟨[u], []⟩) (CR C8.CX0 (envOfC qual scope s.heap.objs.size g cd :: outer) P w H2 s2 Q C8.E0) s2 := by
        refine PySem.W.kla_callFunE hr.depth ho rfl B.sc.co B.sc.gen rfl (NdefX.codeO_at I2.hok e2) ?_
        rw [B.bind pm ctv u]
        refine wpAny_pure (wpAny_newFunctionEnv B.sc.nocell (fun y hy => by
          have e : y = (par, u) := by simpa using hy
          subst e
          exact B.sc.par par (by simp)) (fun h₁ hns hsb => ⟨I2.nolimit.fresh _ hsb, ?_⟩) B.sc.kind)
        show codeAny _ _ (.expr F.body (NdefX.envF F.nf f s2.heap.objs.size)) _ _
        have kp : ∀ b o, s2.heap.get? b = some o → h₁.get? b = some o := fun b o e => hsb.extBut b o (Nat.ne_of_lt (Heap.lt_size e)) (Heap.get?_push_of_some _ e)
        have J := NdefX.inv_startN (CX := C8.CX0) (F := F.nf) (f := f) (E := C8.E0) (ps := [par]) (us := [u]) (vs := [y]) (tk := s2.toks + ([(par, u)] : List (Str × Value)).length) B.sc hr.hd I2.env0 rfl (.cons ru .nil) C2 hns kp
        have okD : Ok D n2 μ2 H2 st2 := ok2.cv lk.symm fun i f F e => by rw [hL] at e; cases e
        have erl : EnvR D n2 μ2 H2 (some x :: is.map fun i => some (.int i)) (NdefX.startF Nl [y] (is.map fun i => some (V.int i))) := by
          have hfl := C2.len
          rw [List.length_map] at hfl
          have hz : Nl.length - [y].length - (is.map fun i => some (V.int i)).length = 0 := by
            rw [B.nl, List.length_map, ← hfl]
            show 1 + is.length - 1 - is.length = 0
            omega
          unfold NdefX.startF
          rw [hz]
          refine ⟨by simp, fun j v ej => ?_, fun _ _ _ e => by rw [hL] at e; cases e⟩
          cases j with
          | zero =>
            have ej : some (some x) = some (some v) := ej
            cases ej
            exact ⟨y, rfl, r2.cv lk.symm⟩
          | succ j =>
            have ej : (is.map fun i => some (Val.int i))[j]? = some (some v) := ej
            rw [List.getElem?_map] at ej
            cases ei : is[j]? with
            | none => rw [ei] at ej; cases ej
            | some m =>
              rw [ei] at ej
              cases ej
              refine ⟨.int m, ?_, .int m⟩
              show ((is.map fun i => some (V.int i)) ++ [])[j]? = _
              rw [List.append_nil, List.getElem?_map, ei]
              rfl
        refine PySem.W.kla_codeExpr (wpAny_mono ((B.body f _ _ s2 H2 C8.E0 (hr.deeper _)).run [] _ _ H2 Q J ⟨n2, μ2, _, st2, z, st', okD, erl, hf, fun n3 μ3 H3 y3 ok3 l3 r3 f3 => ?_⟩) (fun v s' hq => ?_) fun e s' hq => hq)
        · refine an n3 μ3 H3 y3 (ok3.cv lk fun i' f' F' e => ?_) (l2.trans l3) (r3.cv lk) ?_
          · rw [hL'] at e
            cases e
            exact lam_keep okD l3 ⟨e1, e2⟩
          · cases z with
            | v _ => trivial
            | l _ => exact fun a e => l2.no (f3 a e)
        · obtain ⟨w', H', J', rv, q⟩ := hq
          exact ⟨w', H', J'.os, J'.bare, J'.base, J'.hok, rv, q⟩
      refine wpAny_call (codeAny_mono rc fun r s' hq => ?_)
      cases r with
      | error e => exact (show False from hq).elim
      | ok fl =>
        cases fl with
        | ret u => exact I2.after hq
        | next => exact False.elim hq
        | brk => exact False.elim hq
        | cont => exact False.elim hq
/-- a def whose last parameter is a function of one argument -/
structure LDef (P : Program) (w : World) (K : PySem.W.Frag) (mg : Str → Option Value) (base : Heap) (D : Wd) (k : Nat) (x : Str) (np : Nat) (G : (Val → Store → Res Tv) → Fn) : Prop where
  ex : ∃ (g : Addr) (fd : FuncData) (pg : Arguments) (bg : List Stmt) (sg : Scope) (Ng ps : List Str) (aL : Str) (Bg : (Val → Store → Res Tv) → Sx) (nl : Nat),
    mg x = some (.ref g) ∧ FunD K x x pg bg sg [] [] g fd ∧ C8.scC Ng ps sg = true ∧ L2.Binds K fd ps [] ∧ ps.length = np + 1 ∧ Ng.length = nl ∧ Ng[np]? = some aL ∧ Vis sg aL ∧ (aL == ("__debug__" : Str)) = false ∧ (aL == ("__classdict__" : Str)) = false ∧ (∀ L, G L = fnOf np nl (Bg L)) ∧
    ∀ (D' : Wd) (f : Addr) (F : LF) (Lf : Val → Store → Res Tv) (cdv : Value) (A : Around) (outer : List PySem.Env) (s : Shared) (H : Hp) (E : XK), Lk D D' → D'.L = some (np, f, F) → Room k (A.deeper (envOfC x sg s.heap.objs.size g cdv)) →
      (∀ (e : Expr) (fe : Ev) (p1 p2 : Pos), starEach [e] (cxOf C8.CX0 P w K mg base Ng x sg g cdv A outer s H E).env = (false, eval e (cxOf C8.CX0 P w K mg base Ng x sg g cdv A outer s H E).env) :: starEach [] (cxOf C8.CX0 P w K mg base Ng x sg g cdv A outer s H E).env →
        (backTo p2 (starEach [] (cxOf C8.CX0 P w K mg base Ng x sg g cdv A outer s H E).env)).any (·.1) = false →
        SE (cxOf C8.CX0 P w K mg base Ng x sg g cdv A outer s H E) D' e fe → SE (cxOf C8.CX0 P w K mg base Ng x sg g cdv A outer s H E) D' (.Call (.Name aL p1) [e] [] p2) (eLamC np Lf fe)) →
      SSs (cxOf C8.CX0 P w K mg base Ng x sg g cdv A outer s H E) D' bg (Bg Lf)
  db : (x == ("__debug__" : Str)) = false
theorem capI_ok {n : Nat} {μ : Nat → Addr} {H : Hp} {ρ : Env} {σ : L2.St} (er : EnvR D n μ H ρ σ) : ∀ {js : List Nat} {is : List Int}, capI ρ js = some is → js.map (NdefX.slotAt σ) = is.map fun i => some (V.int i)
  | [], _, h => by cases h; rfl
  | j :: js, is, h => by
    unfold capI at h
    cases e : ρ[j]? with
    | none => rw [e] at h; cases h
    | some o =>
      cases o with
      | none => rw [e] at h; cases h
      | some v =>
        cases v with
        | int i =>
          rw [e] at h
          obtain ⟨is', h1, rfl⟩ := Option.map_eq_some_iff.mp h
          obtain ⟨y, hy, ry⟩ := er.2.1 j _ e
          cases ry
          rw [List.map_cons, List.map_cons, capI_ok er h1, NdefX.slotAt_of hy]
        | _ => rw [e] at h; cases h
/-- the arguments ahead, the lambda last -/
inductive PAL (X : Cx) (D : Wd) (le : Expr) : List Expr → Avs → Prop
  | nil : PAL X D le [le] aNil
  | cons {e : Expr} {es : List Expr} {fe : Ev} {av : Avs} (h : SE X D e fe) (r : PAL X D le es av) (hs : starEach (e :: es) X.env = (false, eval e X.env) :: starEach es X.env) : PAL X D le (e :: es) (aCons fe av)
theorem pal_run {X : Cx} {le : Expr} {tl : L2.St → Hp → (Value → Hp → Shared → Prop) → Prop} (hl : ∀ (pins : List (Addr × Obj)) (s : Shared) (σ : L2.St) (H : Hp) (Q : Value → Hp → Shared → Prop), L2.Inv X pins σ H s → tl σ H Q →
      wpAny (model X.prog X.w) X.A (eval le X.env) (fun v s' => ∃ H', L2.Inv X pins σ H' s' ∧ Q v H' s') X.xe s)
    (hs0 : starEach [le] X.env = (false, eval le X.env) :: starEach [] X.env) {es : List Expr} {av : Avs} (pl : PAL X D le es av) :
    ∀ (pos : Pos) (pins : List (Addr × Obj)) (s : Shared) (σ : L2.St) (H : Hp) (Q : List V → Value → Hp → Shared → Prop) (n : Nat) (μ : Nat → Addr) (ρ : Env) (st st' : Store) (xs : List Val), L2.Inv X pins σ H s → Ok D n μ H st → EnvR D n μ H ρ σ → av ρ st = .ok xs st' →
      (∀ n' μ' H' ys, Ok D n' μ' H' st' → Le n μ H n' μ' H' → RpAll D n' μ' H' xs ys → tl σ H' fun v H'' s'' => Q ys v H'' s'') →
      wpAny (model X.prog X.w) X.A (spliced (backTo pos (starEach es X.env))) (fun us s' => ∃ ys vs v H', us = vs ++ [v] ∧ Vals ys vs ∧ L2.Inv X pins σ H' s' ∧ Q ys v H' s') X.xe s := by
  induction pl with
  | nil =>
    intro pos pins s σ H Q n μ ρ st st' xs I ok er hf h
    cases hf
    rw [hs0]
    refine Calls.spliced_cons (thn (hl pins s σ H _ I (h n μ H [] ok (Le.refl _ _ _) .nil)) fun v s1 ⟨H1, I1, q⟩ => ?_)
    exact Calls.spliced_nil ⟨[], [], v, H1, rfl, .nil, I1, q⟩
  | cons he hr hs ih =>
    intro pos pins s σ H Q n μ ρ st st' xs I ok er hf h
    obtain ⟨t, s1, h1, hf⟩ := bind_eq_ok hf
    obtain ⟨x, s2, h2, hf⟩ := bind_eq_ok hf
    obtain ⟨ws, s3, h3, hf⟩ := bind_eq_ok hf
    cases hf
    rw [hs]
    refine Calls.spliced_cons (thn (he.run pins s σ H (fun y H1 => ∃ n1 μ1, Ok D n1 μ1 H1 s2 ∧ Le n μ H n1 μ1 H1 ∧ Rp D n1 μ1 H1 x y) I ⟨n, μ, ρ, st, t, s1, ok, er, h1, fun n1 μ1 H1 y1 ok1 l1 r1 f1 => ?_⟩) fun u sh ⟨y, H1, I1, ru, n1, μ1, ok1, l1, r1⟩ => ?_)
    · obtain ⟨n2, μ2, ok2, l2, r2, _⟩ := mat_ok h2 ok1 l1 r1 f1
      exact ⟨n2, μ2, ok2, l2, r2⟩
    · refine thn (ih pos pins sh σ H1 (fun ys v H' s' => Q (y :: ys) v H' s') n1 μ1 ρ s2 _ ws I1 ok1 (er.mono l1) h3 fun n3 μ3 H3 ys ok3 l3 r3 => h n3 μ3 H3 (y :: ys) ok3 (l1.trans l3) (.cons (r1.mono l3) r3)) fun us s4 ⟨ys, vs, v, H', e1, e2, e3, e4⟩ => ?_
      subst e1
      exact ⟨y :: ys, u :: vs, v, H', rfl, .cons ru e2, e3, e4⟩
theorem e_callL {X : Cx} [C : Cok X D] {k kl np : Nat} {x par : Str} {G : (Val → Store → Res Tv) → Fn} {e : Expr} {es : List Expr} {av : Avs} {params : Arguments} {body : Expr} {scope : Scope} {lpos p pos : Pos} {c P : Addr} {fr Nl : List Str} {js : List Nat} {Lb : Ev}
    (hL : D.L = none) (d : LDef X.prog X.w X.K X.mg X.base D k x np G) (hkl : kl + 1 ≤ k) (hr : Room (k + 1) X.A) (hg : Gl X x) (pl : PAL X D (.Lambda params body scope lpos) (e :: es) av) (har : Arity av np)
    (TB : LamX.TabB X.base X.mg c P) (hcode : X.env.code = .ref c) (hmT : (P, X.env.qual ++ "<lambda>") ∈ D.T) (hu : ∀ p ∈ D.T, p.1 = P → p.2 = X.env.qual ++ "<lambda>") (hdef : defaultsOf params X.env = ([], []))
    (hnd : NdefX.ndefB X.env.scope scope fr = true) (hjs : js.map (fun j => X.N[j]?) = fr.map some)
    (B : ∀ c', LBody X.prog X.w X.K X.mg X.base D kl ⟨X.env.qual ++ "<lambda>", params, body, scope, cloFrom X.env.cells scope.names [], c'⟩ par fr Nl Lb)
    (hs0 : starEach [.Lambda params body scope lpos] X.env = (false, eval (.Lambda params body scope lpos) X.env) :: starEach [] X.env := by rfl)
    (he : starEach (e :: es) X.env = (false, eval e X.env) :: starEach es X.env := by rfl) (hpl : (backTo pos (starEach es X.env)).any (·.1) = false := by rfl) :
    SE X D (.Call (.Name x p) (e :: es) [] pos) (eCallL G av js Lb) := by
  refine ⟨fun pins s σ H Q I ⟨n, μ, ρ, st, z, st', ok, er, hf, an⟩ => ?_⟩
  unfold eCallL at hf
  cases hc : capI ρ js with
  | none => rw [hc] at hf; cases hf
  | some is =>
    rw [hc] at hf
    obtain ⟨xs, s1, h1, hf⟩ := bind_eq_ok hf
    have hxl := har _ _ _ _ h1
    obtain ⟨g, fd, pg, bg, sg, Ng, ps, aL, Bg, nl, hm, Fg, Sg, hb, hps, hnl, hNa, hva, hd1, hd2, hG, hbody⟩ := d.ex
    refine wpAny_Call_Name_kw (ld_glob I hg hm ?_ d.db)
    refine PySem.W.callWith_K (h₀ := X.base) I.ok.mod.kin Fg.kp (thn (pal_run (X := X) (D := D)
      (tl := fun σ H Q' => LamX.Tabs D.T H ∧ ∀ (f c' : Addr) (H1 : Hp) (s' : Shared), LamX.ExtN H H1 → (∀ b, H1 b = Option.none → H b = Option.none) → LamX.Tabs D.T H1 →
        H1 f = some (LamO f ⟨X.env.qual ++ "<lambda>", params, body, scope, cloFrom X.env.cells scope.names [], c'⟩) → H1 c' = some (LamX.CodeO c' (X.env.qual ++ "<lambda>")) → Q' (.ref f) H1 s')
      (fun pins s σ H Q' I ⟨hT, hq⟩ => ?_) hs0 pl pos pins s σ H
      (fun ys v H2 s2 => ∃ (f c' : Addr) (n1 : Nat) (μ1 : Nat → Addr) (H1 : Hp), v = .ref f ∧ Ok D n1 μ1 H1 s1 ∧ Le n μ H n1 μ1 H1 ∧ RpAll D n1 μ1 H1 xs ys ∧ LamX.ExtN H1 H2 ∧ (∀ b, H2 b = Option.none → H1 b = Option.none) ∧ LamX.Tabs D.T H2 ∧
        H2 f = some (LamO f ⟨X.env.qual ++ "<lambda>", params, body, scope, cloFrom X.env.cells scope.names [], c'⟩) ∧ H2 c' = some (LamX.CodeO c' (X.env.qual ++ "<lambda>")))
      n μ ρ st s1 xs I ok er h1 fun n1 μ1 H1 ys ok1 l1 r1 => ⟨ok1.tabs, fun f c' H2 s2 eN nn T2 e1 e2 => ⟨f, c', n1, μ1, H1, rfl, ok1, l1, r1, eN, nn, T2, e1, e2⟩⟩)
      fun us s2 ⟨ys, vs, v, H2, eu, rv, I2, f, c', n1, μ1, H1, ev, ok1, l1, r1, eN, nn, T2, e1, e2⟩ => ⟨I2.kIn, ?_⟩) he hpl
    · have hfree := NdefX.ndef_free hnd
      refine lam_make3 I TB hcode hmT hu hT hdef (fun y hy e => (hfree y hy e).elim (fun z => I.ok.has _ (.inl z)) fun z => I.ok.has _ (.inr z)) fun f c' H1 s' I1 eN nn T1 e1 e2 => ⟨H1, I1, hq f c' H1 s' eN nn T1 e1 e2⟩
    · subst eu ev
      obtain ⟨ok2, l2⟩ := ok1.ext hL eN nn T2
      generalize hF : (⟨X.env.qual ++ "<lambda>", params, body, scope, cloFrom X.env.cells scope.names [], c'⟩ : LF) = F at e1
      have hFc : F.c = c' := by rw [← hF]
      have hFq : F.qual = X.env.qual ++ "<lambda>" := by rw [← hF]
      have e2' : H2 F.c = some (LamX.CodeO F.c F.qual) := by rw [hFc, hFq]; exact e2
      have lk : Lk D { D with L := some (np, f, F) } := ⟨rfl, rfl, rfl, rfl⟩
      have okD : Ok { D with L := some (np, f, F) } n1 μ1 H2 s1 := ok2.cv lk fun i' f' F' e => by cases e; exact ⟨e1, e2'⟩
      have C0 : NdefX.CellsAt F.cl fr (is.map fun i => some (V.int i)) s2.heap H2 := by
        have q := NdefX.cells_of I2 (NdefX.Caps.made (X := X) (scope := scope) (fr := fr) (js := js) I2.ok (NdefX.ndef_free hnd) (NdefX.ndef_fr hnd) hjs)
        rw [capI_ok er hc] at q
        rw [← hF]
        exact q
      have Bf : LBody X.prog X.w X.K X.mg X.base D kl F par fr Nl Lb := by rw [← hF]; exact B c'
      obtain ⟨oc, od, dV, kV, doc, pm, an', cdv, ct, osl, rfl, lkup, hcd, _, _⟩ := Fg.ex
      have rv2 : Vals (ys ++ [V.ref f]) (vs ++ [Value.ref f]) := rv.append (.cons rfl .nil)
      have hyl : ys.length = np := by rw [← r1.length, hxl]
      have hlen : (ys ++ [V.ref f]).length = ps.length := by rw [List.length_append, hps, hyl]; rfl
      have hlu : (vs ++ [Value.ref f]).length = ps.length := by rw [← rv2.length, hlen]
      have bt := hb s2 (vs ++ [Value.ref f]) I2.kIn (by rw [List.append_nil]; exact hlu)
      rw [List.append_nil] at bt
      have rc : codeAny (model X.prog X.w) X.A (.call (.ref g) ⟨vs ++ [.ref f], []⟩) (CR C8.CX0 X.stack X.prog X.w H2 s2 Q C8.E0) s2 := by
        refine LamX.run_ofS (N := Ng) (ps := ps) (us := vs ++ [.ref f]) (vs := ys ++ [.ref f]) lkup hcd (C8.fnScope_by Sg) hr I2.env0 bt rv2 hlen fun hr' => ⟨_, hbody { D with L := some (np, f, F) } f F (fun x s => Lb (some x :: is.map fun i => some (.int i)) s) cdv X.A X.stack s2 H2 C8.E0 lk rfl hr' (fun e fe p1 p2 w1 w2 hse => ?_), ?_⟩
        · exact e_lamact lk rfl hL Bf C0 (hr'.mono hkl) hNa hva hse hd1 hd2 w1 w2
        · rw [hG] at hf
          unfold fnOf at hf
          rw [if_pos hxl] at hf
          obtain ⟨⟨fl, ρ1⟩, s3, h3, hf⟩ := bind_eq_ok hf
          refine ⟨n1, μ1, _, s1, (fl, ρ1), s3, okD, ?_, h3, ?_⟩
          · have r2 := (r1.mono l2).cv lk
            unfold L2.start
            refine ⟨?_, fun i v e => ?_, fun i' f' F' e e' => ?_⟩
            · have : np + 1 ≤ nl := by
                have h := (List.getElem?_eq_some_iff.mp hNa).1
                omega
              simp only [List.length_append, List.length_map, List.length_replicate, List.length_singleton]
              omega
            · by_cases hi : i < xs.length
              · rw [List.getElem?_append_left (by simpa using hi), List.getElem?_map] at e
                have hi' : i < ys.length := by rw [← r1.length]; exact hi
                rw [List.getElem?_append_left (by simp; omega), List.getElem?_map, List.getElem?_append_left hi']
                cases h : xs[i]? with
                | none => rw [h] at e; cases e
                | some w =>
                  rw [h] at e; cases e
                  obtain ⟨y, hy, ry⟩ := r2.get h
                  exact ⟨y, by rw [hy]; rfl, ry⟩
              · rw [List.getElem?_append_right (by simpa using hi), List.getElem?_replicate] at e
                split at e <;> cases e
            · cases e
              rw [List.getElem?_append_left (by simp; omega), List.getElem?_map, List.getElem?_append_right (by omega), hyl, Nat.sub_self]
              rfl
          · have back : ∀ {n' : Nat} {μ' : Nat → Addr} {H' : Hp} {st : Store}, Ok { D with L := some (np, f, F) } n' μ' H' st → Ok D n' μ' H' st := fun o => o.cv lk.symm fun i f F e => by rw [hL] at e; cases e
            cases fl with
            | next => cases hf; exact fun n' μ' H' σ' ok' l' er' => an n' μ' H' .non (back ok') (l1.trans (l2.trans l')) .non trivial
            | ret t =>
              cases hf
              exact fun n' μ' H' y ok' l' r' f' => an n' μ' H' y (back ok') (l1.trans (l2.trans l')) (r'.cv lk.symm) (by
                cases z with
                | v _ => trivial
                | l _ => exact fun a e => (l1.trans l2).no (f' a e))
            | brk => cases hf
      refine wpAny_call (codeAny_mono rc fun r s' hq => ?_)
      cases r with
      | error e => exact (show False from hq).elim
      | ok fl =>
        cases fl with
        | ret u => exact I2.after hq
        | next => exact False.elim hq
        | brk => exact False.elim hq
        | cont => exact False.elim hq
end
end VI
end
section
set_option Elab.async false
set_option linter.all false
set_option maxRecDepth 100000
set_option maxHeartbeats 4000000
/-! VI11: calls with keywords, == by an own __eq__, the def that makes a lambda. -/
namespace VI
open PySem PySem.Spec PyProof.Rows L2

theorem pick_vals {is : List Nat} {vs : List V} {us : List Value} (r : Vals vs us) : Vals (pick is vs) (pick is us) := by
  induction is with
  | nil => exact .nil
  | cons i is ih =>
    unfold pick
    rw [List.filterMap_cons, List.filterMap_cons]
    cases e : vs[i]? with
    | none =>
      have e' : us[i]? = none := by
        rw [List.getElem?_eq_none_iff] at e ⊢
        rw [← r.length]; exact e
      rw [e']
      exact ih
    | some v =>
      obtain ⟨u, hu, ru⟩ := r.get e
      rw [hu]
      exact .cons ru ih
theorem pick_rp {D : Wd} {n : Nat} {μ : Nat → Addr} {H : Hp} {is : List Nat} {xs : List Val} {ys : List V} (r : RpAll D n μ H xs ys) : RpAll D n μ H (pick is xs) (pick is ys) := by
  induction is with
  | nil => exact .nil
  | cons i is ih =>
    unfold pick
    rw [List.filterMap_cons, List.filterMap_cons]
    cases e : xs[i]? with
    | none =>
      have e' : ys[i]? = none := by
        rw [List.getElem?_eq_none_iff] at e ⊢
        rw [← r.length]; exact e
      rw [e']
      exact ih
    | some v =>
      obtain ⟨u, hu, ru⟩ := r.get e
      rw [hu]
      exact .cons ru ih
theorem pick_length {α β : Type} {is : List Nat} {xs : List α} {ys : List β} (h : xs.length = ys.length) : (pick is xs).length = (pick is ys).length := by
  induction is with
  | nil => rfl
  | cons i is ih =>
    unfold pick
    rw [List.filterMap_cons, List.filterMap_cons]
    cases e : xs[i]? with
    | none =>
      have e' : ys[i]? = none := by
        rw [List.getElem?_eq_none_iff] at e ⊢
        rw [← h]; exact e
      rw [e']
      exact ih
    | some v =>
      have hi : i < ys.length := by rw [← h]; exact (List.getElem?_eq_some_iff.mp e).1
      rw [List.getElem?_eq_getElem hi]
      exact congrArg (· + 1) ih
/-- how it binds -/
abbrev KB (K : PySem.W.Frag) (fd : FuncData) (ps : List Str) (n : Nat) (ks : List Str) (is : List Nat) : Prop := KBn K fd ps n ks (fun us ws => pick is (us ++ ws)) (fun vs zs => pick is (vs ++ zs))
theorem kb_of {K : PySem.W.Frag} {x qual : Str} {params : Arguments} {body : List Stmt} {scope : Scope} {kws : List (Str × V)} {f : Addr} {fd : FuncData} {ps ks : List Str} {n : Nat} {is : List Nat} (F : FunD K x qual params body scope [] kws f fd)
    (h : ∀ (kV doc pm : Value) (an : Option Addr) (cdv ct : Value) (us ws : List Value), us.length = n → ws.length = ks.length → bindArgs (PySem.W.fnOf x qual params body scope .none kV doc pm an cdv ct) ⟨us, ks.zip ws⟩ = pure (ps.zip (pick is (us ++ ws)))) : KB K fd ps n ks is := by
  obtain ⟨oc, od, dV, kV, doc, pm, an, cdv, ct, osl, rfl, lk, hcd, hD, hK⟩ := F.ex
  rcases hD with ⟨_, rfl⟩ | ⟨e, _⟩
  · exact ⟨fun s us ws X l1 l2 => .of_eq (h kV doc pm an cdv ct us ws l1 l2), fun r1 r2 => pick_vals (r1.append r2)⟩
  · exact absurd rfl e
structure DefK (P : Program) (w : World) (K : PySem.W.Frag) (mg : Str → Option Value) (base : Heap) (D : Wd) (k : Nat) (x : Str) (np : Nat) (F : Fn) (n : Nat) (ks : List Str) (is : List Nat) : Prop where
  ex : ∃ f fd ps, mg x = some (.ref f) ∧ PySem.W.keepIn K (.ref f) = true ∧ KB K fd ps n ks is ∧ FnOk P w K mg base C8.CX0 k f fd ps (spF D np F)
  db : (x == ("__debug__" : Str)) = false
structure MakK (P : Program) (w : World) (K : PySem.W.Frag) (mg : Str → Option Value) (base : Heap) (D : Wd) (k : Nat) (x : Str) (c : Nat) (np : Nat) (F : Fn) (n : Nat) (ks : List Str) (is : List Nat) : Prop where
  ex : ∃ f fd ps, mg x = some (.ref (D.C c)) ∧ Mk K (D.C c) f ∧ KB K fd ps (n + 1) ks is ∧ FnOk P w K mg base C8.CX0 k f fd ps (spF D np F)
  db : (x == ("__debug__" : Str)) = false
section
variable {X : Cx} {D : Wd} {a b e o : Expr} {es : List Expr} {kws : List Keyword} {fa fb fe : Ev} {ga gk : Avs} {pos p kpos : Pos} {k np n : Nat} {x : Str} {F : Fn} {ks : List Str} {is : List Nat} {nm : Option Str}
abbrev SK (X : Cx) (D : Wd) (kws : List Keyword) (f : Avs) : Prop := PK X kws (rA D f)
theorem PK_imp {t t' : TA} (h : PK X kws t) (k : ∀ σ H Q, t' σ H Q → t σ H Q) : PK X kws t' := ⟨fun pos pins s σ H Q I q => h.run pos pins s σ H Q I (k σ H Q q)⟩
theorem k_nil : SK X D [] aNil := PK_imp pk_nil fun σ H Q ⟨n, μ, ρ, st, z, st', ok, er, hf, an⟩ => by
  cases hf
  exact an n μ H [] ok (Le.refl _ _ _) .nil
theorem k_cons (ha : SE X D e fe) (hr : SK X D kws ga) : SK X D (⟨nm, e, kpos⟩ :: kws) (aCons fe ga) := PK_imp (pk_cons ha hr) fun _ _ _ h => cons_rd h
theorem app_rd {σ : L2.St} {H : Hp} {G : List Val → Store → Prop} {n : Nat} {μ : Nat → Addr} {ρ : PySem.Env → Prop} {st s1 s2 : Store} {r : Env} {xs ys : List Val} {Q : List V → List V → Hp → Prop} (ok : Ok D n μ H st) (er : EnvR D n μ H r σ) (h1 : ga r st = .ok xs s1) (h2 : gk r s1 = .ok ys s2)
    (q : ∀ n' μ' H' vs zs, Ok D n' μ' H' s2 → Le n μ H n' μ' H' → RpAll D n' μ' H' xs vs → RpAll D n' μ' H' ys zs → Q vs zs H') : rA D ga σ H fun vs H1 => rA D gk σ H1 fun zs H2 => Q vs zs H2 :=
  ⟨n, μ, r, st, xs, s1, ok, er, h1, fun n1 μ1 H1 vs ok1 l1 r1 => ⟨n1, μ1, r, s1, ys, s2, ok1, er.mono l1, h2, fun n2 μ2 H2 zs ok2 l2 r2 => q n2 μ2 H2 vs zs ok2 (l1.trans l2) (r1.mono l2) r2⟩⟩
theorem callK_fin {pins : List (Addr × Obj)} {σ : L2.St} {H : Hp} {s : Shared} {Q : VK} {us ws : List Value} {vs zs : List V} (d : DefK X.prog X.w X.K X.mg X.base D k x np F n ks is) {f : Addr} {fd : FuncData} {ps : List Str} (h3 : KB X.K fd ps n ks is) (h4 : FnOk X.prog X.w X.K X.mg X.base C8.CX0 k f fd ps (spF D np F)) (hr : Room k X.A)
    (I : L2.Inv X pins σ H s) (r : Vals vs us) (rz : Vals zs ws) (l1 : vs.length = n) (l2 : zs.length = ks.length) (h : spF D np F (pick is (vs ++ zs)) H Q C8.E0) : wpAny (model X.prog X.w) X.A (call (.ref f) us (ks.zip ws)) (EP X pins σ Q) X.xe s := by
  have r2 := h3.rel r rz
  refine wpAny_call (codeAny_mono (h4.run X.A X.stack s H ⟨us, ks.zip ws⟩ _ _ Q C8.E0 hr I.env0 (h3.to s us ws I.kIn (r.length.symm.trans l1) (rz.length.symm.trans l2)) r2 h) fun r s' hq => ?_)
  cases r with
  | error e => exact (show False from hq).elim
  | ok fl =>
    cases fl with
    | ret u => exact I.after hq
    | next => exact False.elim hq
    | brk => exact False.elim hq
    | cont => exact False.elim hq
theorem e_callK (d : DefK X.prog X.w X.K X.mg X.base D k x np F n ks is) (hr : Room k X.A) (hg : Gl X x) (ha : SA X D (e :: es) ga) (har : Arity ga n) (hkw : SK X D kws gk) (hak : Arity gk ks.length) (hnp : is.length = np) (his : is.all (fun i => decide (i < n + ks.length)) = true)
    (hall : (backToKw pos (keywordEach kws X.env)).all (·.1.isSome) = true := by rfl) (hks : (backToKw pos (keywordEach kws X.env)).filterMap (·.1) = ks := by rfl)
    (he : starEach (e :: es) X.env = (false, eval e X.env) :: starEach es X.env := by rfl)
    (hpl : ((backTo pos (starEach (e :: es) X.env)).any (·.1) || (backToKw pos (keywordEach kws X.env)).any (·.1.isNone)) = false := by rfl) : SE X D (.Call (.Name x p) (e :: es) kws pos) (eCallK F is ga gk) := by
  refine ⟨fun pins s σ H Q I ⟨n0, μ, ρ, st, z, st', ok, er, hf, an⟩ => ?_⟩
  obtain ⟨f, fd, ps, h1, h2, h3, h4⟩ := d.ex
  obtain ⟨xs, s1, g1, hf⟩ := bind_eq_ok hf
  obtain ⟨xs', s1', g2, g1⟩ := bind_eq_ok g1
  obtain ⟨as, s2, g3, g2⟩ := bind_eq_ok g2
  obtain ⟨bs, s3, g4, g2⟩ := bind_eq_ok g2
  cases g2; cases g1
  have hrd := app_rd (G := fun _ _ => True) (ρ := fun _ => True) (Q := fun vs zs H2 => vs.length = n ∧ zs.length = ks.length ∧ spF D np F (pick is (vs ++ zs)) H2 Q C8.E0) ok er g3 g4 fun n' μ' H' vs zs ok' l' r1 r2 => by
    have e1 : vs.length = n := by rw [← r1.length]; exact har _ _ _ _ g3
    have e2 : zs.length = ks.length := by rw [← r2.length]; exact hak _ _ _ _ g4
    refine ⟨e1, e2, ?_, n', μ', _, _, z, st', ok', pick_rp (r1.append r2), hf, an.le l'⟩
    rw [← hnp]
    clear hnp
    have : ∀ is : List Nat, is.all (fun i => decide (i < n + ks.length)) = true → (pick is (vs ++ zs)).length = is.length := fun is => by
      induction is with
      | nil => intro _; rfl
      | cons i is ih =>
        intro h
        rw [List.all_cons, Bool.and_eq_true] at h
        unfold pick
        have hi : i < (vs ++ zs).length := by rw [List.length_append, e1, e2]; exact of_decide_eq_true h.1
        rw [List.filterMap_cons, List.getElem?_eq_getElem hi]
        exact congrArg (· + 1) (ih h.2)
    exact this is his
  refine wpAny_Call_Name_kw (ld_glob I hg h1 ?_ d.db)
  refine PySem.W.callWith_KW (h₀ := X.base) I.ok.mod.kin h2 hall (thn (ha.run pos pins s σ H _ I hrd) fun us s1 ⟨vs, H1, I1, r, q⟩ => ?_) hpl he
  refine thn (hkw.run pos pins s1 σ H1 _ I1 q) fun ws s2 ⟨zs, H2, I2, rz, l1, l2, q2⟩ => ⟨I2.kIn, ?_⟩
  rw [hks]
  exact callK_fin d h3 h4 hr I2 r rz l1 l2 q2
theorem e_callK0 (d : DefK X.prog X.w X.K X.mg X.base D k x np F 0 ks is) (hr : Room k X.A) (hg : Gl X x) (hkw : SK X D kws gk) (hak : Arity gk ks.length) (hnp : is.length = np) (his : is.all (fun i => decide (i < 0 + ks.length)) = true)
    (hall : (backToKw pos (keywordEach kws X.env)).all (·.1.isSome) = true := by rfl) (hks : (backToKw pos (keywordEach kws X.env)).filterMap (·.1) = ks := by rfl)
    (hpl : ((backTo pos (starEach [] X.env)).any (·.1) || (backToKw pos (keywordEach kws X.env)).any (·.1.isNone)) = false := by rfl) : SE X D (.Call (.Name x p) [] kws pos) (eCallK F is aNil gk) := by
  refine ⟨fun pins s σ H Q I ⟨n0, μ, ρ, st, z, st', ok, er, hf, an⟩ => ?_⟩
  obtain ⟨f, fd, ps, h1, h2, h3, h4⟩ := d.ex
  obtain ⟨xs, s1, g1, hf⟩ := bind_eq_ok hf
  obtain ⟨xs', s1', g2, g1⟩ := bind_eq_ok g1
  obtain ⟨as, s2, g3, g2⟩ := bind_eq_ok g2
  obtain ⟨bs, s3, g4, g2⟩ := bind_eq_ok g2
  cases g2; cases g1; cases g3
  have hrd : rA D gk σ H fun zs H2 => zs.length = ks.length ∧ spF D np F (pick is ([] ++ zs)) H2 Q C8.E0 := ⟨n0, μ, ρ, _, _, _, ok, er, g4, fun n' μ' H' zs ok' l' r2 => by
    have e2 : zs.length = ks.length := by rw [← r2.length]; exact hak _ _ _ _ g4
    refine ⟨e2, ?_, n', μ', _, _, z, st', ok', pick_rp (is := is) (xs := [] ++ bs) (ys := [] ++ zs) r2, hf, an.le l'⟩
    rw [← hnp]
    clear hnp
    have : ∀ is : List Nat, is.all (fun i => decide (i < 0 + ks.length)) = true → (pick is ([] ++ zs)).length = is.length := fun is => by
      induction is with
      | nil => intro _; rfl
      | cons i is ih =>
        intro h
        rw [List.all_cons, Bool.and_eq_true] at h
        unfold pick
        have hi : i < ([] ++ zs).length := by rw [List.nil_append, e2]; have := of_decide_eq_true h.1; omega
        rw [List.filterMap_cons, List.getElem?_eq_getElem hi]
        exact congrArg (· + 1) (ih h.2)
    exact this is his⟩
  refine wpAny_Call_Name_kw (ld_glob I hg h1 ?_ d.db)
  refine PySem.W.callWith_KW0 (h₀ := X.base) I.ok.mod.kin h2 hall ?_ hpl
  refine thn (hkw.run pos pins s σ H _ I hrd) fun ws s2 ⟨zs, H2, I2, rz, l2, q2⟩ => ⟨I2.kIn, ?_⟩
  rw [hks]
  exact callK_fin (us := []) (vs := []) d h3 h4 hr I2 .nil rz rfl l2 q2
theorem e_mkK {c : Nat} (d : MakK X.prog X.w X.K X.mg X.base D k x c np F n ks is) (hr : Room (k + 1) X.A) (hg : Gl X x) (ha : SA X D (e :: es) ga) (har : Arity ga n) (hkw : SK X D kws gk) (hak : Arity gk ks.length) (hnp : is.length = np) (his : is.all (fun i => decide (i < n + 1 + ks.length)) = true)
    (hall : (backToKw pos (keywordEach kws X.env)).all (·.1.isSome) = true := by rfl) (hks : (backToKw pos (keywordEach kws X.env)).filterMap (·.1) = ks := by rfl)
    (he : starEach (e :: es) X.env = (false, eval e X.env) :: starEach es X.env := by rfl)
    (hpl : ((backTo pos (starEach (e :: es) X.env)).any (·.1) || (backToKw pos (keywordEach kws X.env)).any (·.1.isNone)) = false := by rfl) : SE X D (.Call (.Name x p) (e :: es) kws pos) (eMkK c F is ga gk) := by
  obtain ⟨f, fd, ps, h1, h2, h3, h4⟩ := d.ex
  refine PE_imp (pe_makeK h2 h4 hr hg h1 h3 (C8.pass0 (E := C8.E0)) ha hkw hall hks d.db he hpl) fun σ H Q ⟨n0, μ, ρ, st, z, st', ok, er, hf, an⟩ => ?_
  obtain ⟨as, s2, g3, hf⟩ := bind_eq_ok hf
  obtain ⟨bs, s3, g4, hf⟩ := bind_eq_ok hf
  obtain ⟨r, s4, g5, hf⟩ := bind_eq_ok hf
  refine app_rd (G := fun _ _ => True) (ρ := fun _ => True) ok er g3 g4 fun n1 μ1 H1 vs zs ok1 l1 r1 r2 => ?_
  have e1 : vs.length = n := by rw [← r1.length]; exact har _ _ _ _ g3
  have e2 : zs.length = ks.length := by rw [← r2.length]; exact hak _ _ _ _ g4
  refine ⟨e1, e2, fun x dx hx hdx ne => ?_⟩
  obtain ⟨ok2, l2⟩ := make_ok (c := c) ok1 hx hdx ne
  have e3 : s3.length = n1 := ok1.len
  have q : Rp D (n1 + 1) (fun k => if k = n1 then x else μ1 k) (upd (upd H1 dx (.own x)) x (.ins (D.C c) dx [])) (.ref n1) (.ref x) := by
    have q : Rp D (n1 + 1) (fun k => if k = n1 then x else μ1 k) (upd (upd H1 dx (.own x)) x (.ins (D.C c) dx [])) (.ref n1) (.ref ((fun k => if k = n1 then x else μ1 k) n1)) := .ref (Nat.lt_succ_self n1)
    simp only [if_pos] at q
    exact q
  rw [e3] at g5
  have rr : RpAll D (n1 + 1) (fun k => if k = n1 then x else μ1 k) (upd (upd H1 dx (.own x)) x (.ins (D.C c) dx [])) (.ref n1 :: as ++ bs) (.ref x :: vs ++ zs) := .cons q ((r1.append r2).mono l2)
  have hlen : (V.ref x :: vs ++ zs).length = n + 1 + ks.length := by rw [List.length_append, List.length_cons, e1, e2]
  refine ⟨?_, n1 + 1, _, s3 ++ [.ins c []], _, r, s4, ok2, pick_rp rr, g5, fun n3 μ3 H3 y3 ok3 l3 r3 f3 => ?_⟩
  · rw [← hnp]
    clear hnp
    have : ∀ is : List Nat, is.all (fun i => decide (i < n + 1 + ks.length)) = true → (pick is (V.ref x :: vs ++ zs)).length = is.length := fun is => by
      induction is with
      | nil => intro _; rfl
      | cons i is ih =>
        intro h
        rw [List.all_cons, Bool.and_eq_true] at h
        unfold pick
        have hi : i < (V.ref x :: vs ++ zs).length := by rw [hlen]; exact of_decide_eq_true h.1
        rw [List.filterMap_cons, List.getElem?_eq_getElem hi]
        exact congrArg (· + 1) (ih h.2)
    exact this is his
  · cases r with
    | l _ => cases hf
    | v r =>
      cases r with
      | non =>
        cases hf
        cases r3
        refine ⟨rfl, ?_⟩
        rw [e3] at an
        exact an n3 μ3 H3 _ ok3 (l1.trans (l2.trans l3)) (q.mono l3) trivial
      | _ => cases hf

/-! ### == by an own __eq__, of two instances of one class -/
end
structure EqM (P : Program) (w : World) (K : PySem.W.Frag) (mg : Str → Option Value) (base : Heap) (D : Wd) (k : Nat) (c : Nat) (F : Fn) : Prop where
  ex : ∃ f fd ps, PySem.W.findIn K (.ref (D.C c)) "__eq__" = some (some (.ref f)) ∧ PySem.W.isFn K (.ref f) = true ∧ L2.Binds K fd ps [] ∧ FnOk P w K mg base C8.CX0 k f fd ps (spF D 2 F)
section
variable {X : Cx} {D : Wd} {k : Nat} {F : Fn}
theorem isIns_ok {n : Nat} {μ : Nat → Addr} {H : Hp} {st : Store} {x : Tv} {y : V} {c : Nat} {z : Val} (ok : Ok D n μ H st) (r : Rt D n μ H x y) (h : isIns x c st = some z) : ∃ a dx gs, x = .v z ∧ y = .ref a ∧ H a = some (.ins (D.C c) dx gs) := by
  cases x with
  | l _ => cases h
  | v x =>
    cases x with
    | ref j =>
      cases r
      unfold isIns at h
      cases e : st[j]? with
      | none => simp [e] at h
      | some o =>
        cases o with
        | ins d fs =>
          simp only [e] at h
          by_cases hd : d = c
          · rw [if_pos hd] at h
            cases h
            subst hd
            obtain ⟨dx, gs, h1, h2⟩ := ok.ob j _ e
            exact ⟨_, dx, gs, rfl, rfl, h1⟩
          · rw [if_neg hd] at h; cases h
        | _ => simp [e] at h
    | _ => cases h
theorem s_eqI {c : Nat} (d : EqM X.prog X.w X.K X.mg X.base D k c F) (hr : Room k X.A) : OpR X (compareOp .Eq) (rO D (cEqI c F)) := by
  intro pins s σ H x y v u Q I rx ry ⟨n, μ, st, a, b, z, st', ok, ra, rb, hf, an⟩
  obtain ⟨f, fd, ps, hs, hfn, hb, hF⟩ := d.ex
  unfold cEqI at hf
  cases h1 : isIns a c st with
  | none => rw [h1] at hf; cases hf
  | some va =>
    cases h2 : isIns b c st with
    | none => rw [h1, h2] at hf; cases hf
    | some vb =>
      rw [h1, h2] at hf
      obtain ⟨r, s1, h3, hf⟩ := bind_eq_ok hf
      obtain ⟨aa, dx, gs, rfl, rfl, hA⟩ := isIns_ok ok ra h1
      obtain ⟨ab, dy, hs', rfl, rfl, hB⟩ := isIns_ok ok rb h2
      cases rx
      cases ry
      obtain ⟨mA, J, _⟩ := ins_get I.hok hA
      obtain ⟨mB, J', _⟩ := ins_get I.hok hB
      obtain ⟨od, J, _⟩ := J.look
      obtain ⟨od', J', _⟩ := J'.look
      obtain ⟨m, hFr⟩ := I.fr
      show wpAny (model X.prog X.w) X.A (richCompare .Eq (.ref aa) (.ref ab)) (EP X pins σ Q) X.xe s
      refine PySem.W.cmp_K (op := .Eq) (tb := .ref (D.C c)) hr.units0 hFr I.ok.mod.kin J J'.type (by simp [PySem.W.notFirst]) hs hfn ?_
      have hsp : spF D 2 F [.ref aa, .ref ab] H (fun v H' => ∃ k, v = .bl k ∧ Q (.bl k) H') C8.E0 := ⟨rfl, n, μ, st, [va, vb], r, s1, ok, .cons ra (.cons rb .nil), h3, fun n' μ' H' y' ok' l' r' f' => by
        cases r with
        | l _ => cases hf
        | v r =>
          cases r with
          | bool k =>
            cases hf
            cases r'
            exact ⟨k, rfl, an n' μ' H' _ ok' l' (.bool k) trivial⟩
          | _ => cases hf⟩
      have hl := hF.len _ _ _ _ hsp
      have r2 : Vals [V.ref aa, V.ref ab] [Value.ref aa, Value.ref ab] := .cons rfl (.cons rfl .nil)
      refine wpAny_call (codeAny_mono (hF.run X.A X.stack s H ⟨[.ref aa, .ref ab], []⟩ [.ref aa, .ref ab] [.ref aa, .ref ab] _ C8.E0 hr I.env0 (by
        have := hb s [.ref aa, .ref ab] I.kIn (by simpa using hl)
        simpa using this) r2 hsp) fun r s' hq => ?_)
      cases r with
      | error e => exact (show False from hq).elim
      | ok fl =>
        cases fl with
        | ret w =>
          obtain ⟨z, H', I', rz, k, ez, q⟩ := I.after hq
          subst ez
          obtain rfl : w = Value.bool k := rz
          exact ⟨.bl k, H', I', rfl, q⟩
        | next => exact False.elim hq
        | brk => exact False.elim hq
        | cont => exact False.elim hq
end
section
variable {P : Program} {w : World} {K : PySem.W.Frag} {mg : Str → Option Value} {base : Heap} {D : Wd} {N ps : List Str} {qual : Str} {scope : Scope} {f : Addr}
/-- the def whose code object stands at c -/
theorem fn_okC {x : Str} {params : Arguments} {body : List Stmt} {dvs : List V} {kws : List (Str × V)} {fd : FuncData} {k np nl : Nat} {g : Sx} {c : Addr} (hL : D.L = none) (F : FunD K x qual params body scope dvs kws f fd) (hc : fd.code = .ref c) (S : C8.scC N ps scope = true) (hnp : ps.length = np) (hnl : N.length = nl)
    (hb : ∀ (A : Around) (outer : List PySem.Env) (s : Shared) (H : Hp) (E : XK), Room k (A.deeper (envOfC qual scope s.heap.objs.size f (.ref c))) → SSs (cxOf C8.CX0 P w K mg base N qual scope f (.ref c) A outer s H E) D body g) :
    FnOk P w K mg base C8.CX0 (k + 1) f fd ps (spF D np (fnOf np nl g)) := by
  obtain ⟨oc, od, dV, kV, doc, pm, an', cdv, ct, osl, rfl, lk, hcd, _, _⟩ := F.ex
  obtain rfl : cdv = .ref c := hc
  refine fn_of lk hcd (C8.fnScope_by S) (fun vs H Q E h => by rw [h.1, hnp]) fun A outer s H vs Q E hr h => ⟨_, hb A outer s H E hr, ?_⟩
  obtain ⟨h0, n, μ, st, as, x, st', ok, r, hf, an⟩ := h
  unfold fnOf at hf
  have hl : as.length = np := by rw [r.length, h0]
  rw [if_pos hl] at hf
  obtain ⟨⟨fl, ρ⟩, s1, h1, hf⟩ := bind_eq_ok hf
  refine ⟨n, μ, _, st, (fl, ρ), s1, ok, ?_, h1, ?_⟩
  · have e : N.length - vs.length = nl - np := by rw [hnl, h0]
    unfold L2.start
    rw [e]
    exact startR hL r _
  · cases fl with
    | next => cases hf; exact fun n' μ' H' σ' ok' l' er' => an n' μ' H' .non ok' l' .non trivial
    | ret t => cases hf; exact an
    | brk => cases hf
end
end VI
end
section
set_option Elab.async false
set_option linter.all false
set_option maxRecDepth 100000
set_option maxHeartbeats 4000000
/-! VI12: what the printed texts lean on: built-ins by name, room, facts of the written part by look. -/
namespace VI
open PySem PySem.Spec PyProof.Rows L2
theorem bb_len : bootBuiltins ("len" : Str) = some (.builtin "len") := by decide +kernel
theorem bb_all : bootBuiltins ("all" : Str) = some (.builtin "all") := by decide +kernel
theorem bb_any : bootBuiltins ("any" : Str) = some (.builtin "any") := by decide +kernel
theorem bb_max : bootBuiltins ("max" : Str) = some (.builtin "max") := by decide +kernel
theorem bb_min : bootBuiltins ("min" : Str) = some (.builtin "min") := by decide +kernel
theorem bb_int : bootBuiltins ("int" : Str) = some (.type "int") := by decide +kernel
theorem bb_bool : bootBuiltins ("bool" : Str) = some (.type "bool") := by decide +kernel
theorem bb_str : bootBuiltins ("str" : Str) = some (.type "str") := by decide +kernel
theorem bb_list : bootBuiltins ("list" : Str) = some (.type "list") := by decide +kernel
theorem bb_tuple : bootBuiltins ("tuple" : Str) = some (.type "tuple") := by decide +kernel
theorem u64 {k : Nat} {A : Around} (r : Room k A) : A.units + 64 < cLine := r.units
theorem u65 {k : Nat} {A : Around} (r : Room k A) : A.units + 65 < cLine := by have := r.un; omega
theorem nne {x : Str} (h : (x == ("__name__" : Str)) = false) : x ≠ "__name__" := beq_eq_false_iff_ne.mp h
theorem Def.mono {P : Program} {w : World} {K : PySem.W.Frag} {mg : Str → Option Value} {base : Heap} {D : Wd} {j k : Nat} {x : Str} {np : Nat} {F : Fn} (d : Def P w K mg base D j x np F) (h : j ≤ k) : Def P w K mg base D k x np F := by
  obtain ⟨⟨f, fd, ps, a, b, c, e⟩, g⟩ := d
  exact ⟨⟨f, fd, ps, a, b, c, e.mono h⟩, g⟩
section
variable {X : Cx} {D : Wd} {pos p : Pos} {e a b : Expr} {fe fa fb : Ev}
theorem e_len [C : Cok X D] (hg : Gl X "len") (hm : X.mg "len" = none) (ha : SE X D e fe) (he : starEach [e] X.env = (false, eval e X.env) :: starEach [] X.env := by rfl) : SE X D (.Call (.Name "len" p) [e] [] pos) (eB1 bLen fe) := e_bB r_len hg hm bb_len ha (by decide) (by decide) he
theorem e_all [C : Cok X D] (hg : Gl X "all") (hm : X.mg "all" = none) (ha : SE X D e fe) (he : starEach [e] X.env = (false, eval e X.env) :: starEach [] X.env := by rfl) : SE X D (.Call (.Name "all" p) [e] [] pos) (eB1 bAll fe) := e_bB r_all hg hm bb_all ha (by decide) (by decide) he
theorem e_any [C : Cok X D] (hg : Gl X "any") (hm : X.mg "any" = none) (ha : SE X D e fe) (he : starEach [e] X.env = (false, eval e X.env) :: starEach [] X.env := by rfl) : SE X D (.Call (.Name "any" p) [e] [] pos) (eB1 bAny fe) := e_bB r_any hg hm bb_any ha (by decide) (by decide) he
theorem e_max [C : Cok X D] (hg : Gl X "max") (hm : X.mg "max" = none) (ha : SE X D e fe) (he : starEach [e] X.env = (false, eval e X.env) :: starEach [] X.env := by rfl) : SE X D (.Call (.Name "max" p) [e] [] pos) (eB1 bMax fe) := e_bB r_max hg hm bb_max ha (by decide) (by decide) he
theorem e_intF (hg : Gl X "int") (hm : X.mg "int" = none) (ha : SE X D e fe) (he : starEach [e] X.env = (false, eval e X.env) :: starEach [] X.env := by rfl) : SE X D (.Call (.Name "int" p) [e] [] pos) (eB1 bInt fe) := e_bT r_int hg hm bb_int ha (by decide) (by decide) he
theorem e_tupF [C : Cok X D] (hg : Gl X "tuple") (hm : X.mg "tuple" = none) (ha : SE X D e fe) (he : starEach [e] X.env = (false, eval e X.env) :: starEach [] X.env := by rfl) : SE X D (.Call (.Name "tuple" p) [e] [] pos) (eB1 bTuple fe) := e_bT r_tuple hg hm bb_tuple ha (by decide) (by decide) he
theorem e_lstF [C : Cok X D] (hg : Gl X "list") (hm : X.mg "list" = none) (ha : SE X D e fe) (he : starEach [e] X.env = (false, eval e X.env) :: starEach [] X.env := by rfl) : SE X D (.Call (.Name "list" p) [e] [] pos) (eB1 bList fe) := e_bT r_list hg hm bb_list ha (by decide) (by decide) he
theorem e_max2 [C : Cok X D] (hg : Gl X "max") (hm : X.mg "max" = none) (ha : SE X D a fa) (hb : SE X D b fb) (na : starEach [a, b] X.env = (false, eval a X.env) :: starEach [b] X.env := by rfl) (nb : starEach [b] X.env = (false, eval b X.env) :: starEach [] X.env := by rfl)
    (hp : (backTo pos (starEach [b] X.env)).any (·.1) = false := by rfl) : SE X D (.Call (.Name "max" p) [a, b] [] pos) (eBin oMax fa fb) := e_b2 r_max2 hg hm bb_max ha hb (by decide) (by decide) na nb hp
theorem e_min2 [C : Cok X D] (hg : Gl X "min") (hm : X.mg "min" = none) (ha : SE X D a fa) (hb : SE X D b fb) (na : starEach [a, b] X.env = (false, eval a X.env) :: starEach [b] X.env := by rfl) (nb : starEach [b] X.env = (false, eval b X.env) :: starEach [] X.env := by rfl)
    (hp : (backTo pos (starEach [b] X.env)).any (·.1) = false := by rfl) : SE X D (.Call (.Name "min" p) [a, b] [] pos) (eBin oMin fa fb) := e_b2 r_min2 hg hm bb_min ha hb (by decide) (by decide) na nb hp
/-- a global name that holds a value -/
def GV (D : Wd) (mg : Str → Option Value) (x : Str) (v : Val) : Prop := ∃ u y, mg x = some u ∧ RelV y u ∧ ∀ n μ H, Rp D n μ H v y
theorem e_glob {x : Str} {v : Val} (g : GV D X.mg x v) (hg : Gl X x) (hd : (x == ("__debug__" : Str)) = false) : SE X D (.Name x p) (eC v) := by
  obtain ⟨u, y, h1, h2, h3⟩ := g
  exact e_C (pe_glob hg h1 h2 hd) h3
theorem pe_bt {T : String} {x : Str} (hg : Gl X x) (hm : X.mg x = none) (hv : bootBuiltins x = some (.type T)) (hn : x ≠ "__name__") (hd : (x == ("__debug__" : Str)) = false) : PE X (.Name x p) (tC (.ty T)) := pe_bltn hg hm hv rfl hn hd
end
/-! ### what a look at the written part tells -/
def insK (K : PySem.W.Frag) (x : Str) : Bool := (He.Fa.cls x).ok K && (He.eqO (PySem.W.findIn K (.ref (He.ga K x)) "__class__") (some (some (.builtin "object.__class__"))) && (He.eqO (PySem.W.specialIn K (.builtin "object.__class__") "__get__") (some (some (.builtin "getset_descriptor.__get__"))) &&
  (decide (PySem.W.takesIn K (.builtin "object.__class__") = some true) && decide (PySem.W.mroIn K (He.ga K x) (.type "object") = some true))))
theorem insK_ok {D : Wd} {d : Nat} {x : Str} (hC : D.C d = He.ga D.K x) (h : insK D.K x = true) : InsT D d := by
  unfold insK at h
  obtain ⟨h1, h⟩ := He.ba h
  obtain ⟨h2, h⟩ := He.ba h
  obtain ⟨h3, h⟩ := He.ba h
  obtain ⟨h4, h5⟩ := He.ba h
  exact ⟨by rw [hC]; exact He.cls_ok h1, by rw [hC]; exact He.eqO_ok h2, He.eqO_ok h3, of_decide_eq_true h4, by rw [hC]; exact of_decide_eq_true h5⟩
def kfB (q : Value → Option Bool) (K : PySem.W.Frag) (cs : List (Nat × Str)) (ty : Ty) : Bool :=
  (["NoneType", "bool", "int", "str", "tuple", "list", "dict"].all fun T => decide (q (.type T) = some (inB ty T))) && cs.all fun p => decide (q (.ref (He.ga K p.2)) = some (VI.insB ty p.1)) && insK K p.2
theorem kfB_ok {D : Wd} {q : Value → Option Bool} {cs : List (Nat × Str)} {ty : Ty} (hC : ∀ p ∈ cs, D.C p.1 = He.ga D.K p.2) (h : kfB q D.K cs ty = true) : KF D (cs.map (·.1)) ty q := by
  unfold kfB at h
  obtain ⟨h1, h2⟩ := He.ba h
  refine ⟨fun T hT => of_decide_eq_true (List.all_eq_true.mp h1 T hT), fun d hd => ?_, fun d hd => ?_⟩
  · obtain ⟨p, hp, rfl⟩ := List.mem_map.mp hd
    obtain ⟨h3, _⟩ := He.ba (List.all_eq_true.mp h2 p hp)
    rw [hC p hp]
    exact of_decide_eq_true h3
  · obtain ⟨p, hp, rfl⟩ := List.mem_map.mp hd
    obtain ⟨_, h4⟩ := He.ba (List.all_eq_true.mp h2 p hp)
    exact insK_ok (hC p hp) h4
end VI
end
section
set_option Elab.async false
set_option linter.all false
set_option maxRecDepth 100000
set_option maxHeartbeats 4000000
/-! VI13: worlds as the printed texts name them; wrappers that hand over the context. -/
namespace VI
open PySem PySem.Spec PyProof.Rows L2
class SOK (S : List Str) : Prop where
  nd : S.Nodup
  sok : ∀ z ∈ S, PyData.strOk z = true
def mkW (S : List Str) (Cn : Nat → Str) (K : PySem.W.Frag) (T : List (Addr × Str)) (L : Option (Nat × Addr × LF)) : Wd := ⟨K, S, fun c => He.ga K (Cn c), T, L⟩
instance wokW {S : List Str} {Cn : Nat → Str} {K : PySem.W.Frag} {T : List (Addr × Str)} {L : Option (Nat × Addr × LF)} [Z : SOK S] : Wok (mkW S Cn K T L) := ⟨Z.nd, Z.sok⟩
theorem lk_eq {S : List Str} {Cn : Nat → Str} {K : PySem.W.Frag} {T : List (Addr × Str)} {D' : Wd} (l : Lk (mkW S Cn K T none) D') : ∃ L, D' = mkW S Cn K T L := by
  obtain ⟨K', S', C', T', L'⟩ := D'
  obtain ⟨h1, h2, h3, h4⟩ := l
  refine ⟨L', ?_⟩
  obtain rfl : K' = K := h1
  obtain rfl : S' = S := h2
  obtain rfl : C' = fun c => He.ga K' (Cn c) := h3
  obtain rfl : T' = T := h4
  rfl
section
variable {P : Program} {w : World} {K : PySem.W.Frag} {mg : Str → Option Value} {base : Heap} {S : List Str} {Cn : Nat → Str} {T : List (Addr × Str)} {N ps : List Str} {qual : Str} {scope : Scope} {f : Addr}
theorem fn_okW {x : Str} {params : Arguments} {body : List Stmt} {dvs : List V} {kws : List (Str × V)} {fd : FuncData} {k np nl : Nat} {g : Sx} (F : FunD K x qual params body scope dvs kws f fd) (Sc : C8.scC N ps scope = true) (hnp : ps.length = np) (hnl : N.length = nl)
    (hb : ∀ (cdv : Value) (A : Around) (outer : List PySem.Env) (s : Shared) (H : Hp) (E : XK), Room k (A.deeper (envOfC qual scope s.heap.objs.size f cdv)) → Cok (cxOf C8.CX0 P w K mg base N qual scope f cdv A outer s H E) (mkW S Cn K T none) → SSs (cxOf C8.CX0 P w K mg base N qual scope f cdv A outer s H E) (mkW S Cn K T none) body g) :
    FnOk P w K mg base C8.CX0 (k + 1) f fd ps (spF (mkW S Cn K T none) np (fnOf np nl g)) :=
  fn_ok rfl F Sc hnp hnl fun cdv A outer s H E hr => hb cdv A outer s H E hr ⟨rfl, rfl, (C8.fnScope_by Sc).nd⟩
theorem fn_okCW {x : Str} {params : Arguments} {body : List Stmt} {dvs : List V} {kws : List (Str × V)} {fd : FuncData} {k np nl : Nat} {g : Sx} {c : Addr} (F : FunD K x qual params body scope dvs kws f fd) (hc : fd.code = .ref c) (Sc : C8.scC N ps scope = true) (hnp : ps.length = np) (hnl : N.length = nl)
    (hb : ∀ (A : Around) (outer : List PySem.Env) (s : Shared) (H : Hp) (E : XK), Room k (A.deeper (envOfC qual scope s.heap.objs.size f (.ref c))) → Cok (cxOf C8.CX0 P w K mg base N qual scope f (.ref c) A outer s H E) (mkW S Cn K T none) → SSs (cxOf C8.CX0 P w K mg base N qual scope f (.ref c) A outer s H E) (mkW S Cn K T none) body g) :
    FnOk P w K mg base C8.CX0 (k + 1) f fd ps (spF (mkW S Cn K T none) np (fnOf np nl g)) :=
  fn_okC rfl F hc Sc hnp hnl fun A outer s H E hr => hb A outer s H E hr ⟨rfl, rfl, (C8.fnScope_by Sc).nd⟩
theorem LBody.mk' {k : Nat} {F : LF} {par : Str} {fr Nl : List Str} {Lb : Ev} (sc : NdefX.nscB Nl [par] fr F.scope = true) (nl : Nl.length = 1 + fr.length)
    (bind : ∀ (pm ctv u : Value), bindArgs (PySem.W.kla_fn "<lambda>" F.qual F.params F.body F.scope F.cl pm (.ref F.c) ctv) ⟨[u], []⟩ = pure [(par, u)])
    (body : ∀ (f : Addr) (A : Around) (outer : List PySem.Env) (s : Shared) (H : Hp) (E : XK), Room k (A.deeper (NdefX.envF F.nf f s.heap.objs.size)) → Cok (NdefX.ncx C8.CX0 P w K mg base Nl F.nf f A outer s H E) (mkW S Cn K T none) → SE (NdefX.ncx C8.CX0 P w K mg base Nl F.nf f A outer s H E) (mkW S Cn K T none) F.body Lb) :
    LBody P w K mg base (mkW S Cn K T none) k F par fr Nl Lb :=
  ⟨NdefX.nscope_by sc, nl, bind, fun f A outer s H E hr => body f A outer s H E hr ⟨rfl, rfl, (NdefX.nscope_by sc).nd⟩⟩
/-- a def whose last parameter is a function -/
theorem ldef_of {k np nl : Nat} {g : Addr} {x aL : Str} {pg : Arguments} {bg : List Stmt} {sg : Scope} {fd : FuncData} {Bg : (Val → Store → Res Tv) → Sx} (hm : mg x = some (.ref g)) (F : FunD K x x pg bg sg [] [] g fd) (Sc : C8.scC N ps sg = true) (hb : L2.Binds K fd ps []) (h1 : ps.length = np + 1) (h2 : N.length = nl) (h3 : N[np]? = some aL) (h4 : Vis sg aL)
    (h5 : (aL == ("__debug__" : Str)) = false) (h6 : (aL == ("__classdict__" : Str)) = false) (h7 : (x == ("__debug__" : Str)) = false)
    (body : ∀ (L : Option (Nat × Addr × LF)) (Lf : Val → Store → Res Tv) (cdv : Value) (A : Around) (outer : List PySem.Env) (s : Shared) (H : Hp) (E : XK), Room k (A.deeper (envOfC x sg s.heap.objs.size g cdv)) → Cok (cxOf C8.CX0 P w K mg base N x sg g cdv A outer s H E) (mkW S Cn K T L) →
      (∀ (e : Expr) (fe : Ev) (p1 p2 : Pos), starEach [e] (cxOf C8.CX0 P w K mg base N x sg g cdv A outer s H E).env = (false, eval e (cxOf C8.CX0 P w K mg base N x sg g cdv A outer s H E).env) :: starEach [] (cxOf C8.CX0 P w K mg base N x sg g cdv A outer s H E).env →
        (backTo p2 (starEach [] (cxOf C8.CX0 P w K mg base N x sg g cdv A outer s H E).env)).any (·.1) = false →
        SE (cxOf C8.CX0 P w K mg base N x sg g cdv A outer s H E) (mkW S Cn K T L) e fe → SE (cxOf C8.CX0 P w K mg base N x sg g cdv A outer s H E) (mkW S Cn K T L) (.Call (.Name aL p1) [e] [] p2) (eLamC np Lf fe)) →
      SSs (cxOf C8.CX0 P w K mg base N x sg g cdv A outer s H E) (mkW S Cn K T L) bg (Bg Lf)) :
    LDef P w K mg base (mkW S Cn K T none) k x np (fun L => fnOf np nl (Bg L)) :=
  ⟨⟨g, fd, pg, bg, sg, N, ps, aL, Bg, nl, hm, F, Sc, hb, h1, h2, h3, h4, h5, h6, fun _ => rfl, fun D' f F' Lf cdv A outer s H E lk hL hr act => by
    obtain ⟨L, rfl⟩ := lk_eq lk
    exact body L Lf cdv A outer s H E hr ⟨rfl, rfl, (C8.fnScope_by Sc).nd⟩ act⟩, h7⟩
end
end VI
end
section
set_option Elab.async false
set_option linter.all false
set_option maxRecDepth 100000
set_option maxHeartbeats 4000000
/-! VI14: the head: a Hook that looks at given addresses; the law's end. -/
namespace VI
open PySem PySem.Spec PyProof.Rows L2

/-! ### values of the written part -/
mutual
def relK (K : PySem.W.Frag) (S : List Str) : Val → Value → Bool
  | .non, .none => true
  | .bool b, .bool c => b == c
  | .int i, .int j _ => decide (i = j)
  | .str k, .str y _ => decide (S[k]? = some y)
  | .tup l, .ref a => match K.lookup a with
    | some ⟨.type c, _, .seq its _, _⟩ => decide (c = "tuple") && (decide (its.size ≤ sizeLine) && relKs K S l its.toList)
    | _ => false
  | _, _ => false
def relKs (K : PySem.W.Frag) (S : List Str) : List Val → List Value → Bool
  | [], [] => true
  | v :: vs, u :: us => relK K S v u && relKs K S vs us
  | _, _ => false
end
mutual
theorem relK_ok {D : Wd} {v : Val} {u : Value} (h : relK D.K D.S v u = true) : ∃ y, RelV y u ∧ ∀ n μ H, Rp D n μ H v y := by
  cases v with
  | non => cases u with
    | none => exact ⟨.non, rfl, fun _ _ _ => .non⟩
    | _ => simp [relK] at h
  | bool b => cases u with
    | bool c =>
      have e : b = c := by simpa [relK] using h
      subst e
      exact ⟨.bl b, rfl, fun _ _ _ => .bool b⟩
    | _ => simp [relK] at h
  | int i => cases u with
    | int j t =>
      have e : i = j := by simpa [relK] using h
      subst e
      exact ⟨.int i, ⟨t, rfl⟩, fun _ _ _ => .int i⟩
    | _ => simp [relK] at h
  | str k => cases u with
    | str y t =>
      have e : D.S[k]? = some y := by
        unfold relK at h
        exact of_decide_eq_true h
      exact ⟨.str y, ⟨t, rfl⟩, fun _ _ _ => .str e⟩
    | _ => simp [relK] at h
  | tup l => cases u with
    | ref a =>
      unfold relK at h
      cases q : D.K.lookup a with
      | none => rw [q] at h; cases h
      | some o =>
        obtain ⟨oc, od, dt, osl⟩ := o
        rw [q] at h
        cases oc with
        | type c =>
          cases dt with
          | seq its n =>
            have h : (decide (c = "tuple") && (decide (its.size ≤ sizeLine) && relKs D.K D.S l its.toList)) = true := h
            simp only [Bool.and_eq_true, decide_eq_true_eq] at h
            obtain ⟨h1, h2, h3⟩ := h
            obtain ⟨ys, r1, r2⟩ := relKs_ok h3
            exact ⟨.ref a, rfl, fun n' μ H => .tup (.inr ⟨_, its, _, q, congrArg Value.type h1, rfl, h2, r1⟩) (r2 _ _ _)⟩
          | _ => cases h
        | _ => cases dt <;> cases h
    | _ => simp [relK] at h
  | ref k => cases u <;> simp [relK] at h
theorem relKs_ok {D : Wd} {vs : List Val} {us : List Value} (h : relKs D.K D.S vs us = true) : ∃ ys, Vals ys us ∧ ∀ n μ H, RpAll D n μ H vs ys := by
  cases vs with
  | nil => cases us with
    | nil => exact ⟨[], .nil, fun _ _ _ => .nil⟩
    | cons => simp [relKs] at h
  | cons v vs => cases us with
    | nil => simp [relKs] at h
    | cons u us =>
      unfold relKs at h
      rw [Bool.and_eq_true] at h
      obtain ⟨y, r1, r2⟩ := relK_ok h.1
      obtain ⟨ys, r3, r4⟩ := relKs_ok h.2
      exact ⟨y :: ys, .cons r1 r3, fun n μ H => .cons (r2 n μ H) (r4 n μ H)⟩
end
def gvB (K : PySem.W.Frag) (S : List Str) (x : Str) (v : Val) : Bool := match PySem.W.nsIn K mainGlobals x with
  | some (some u) => relK K S v u
  | _ => false
theorem gvB_ok {S : List Str} {Cn : Nat → Str} {K : PySem.W.Frag} {T : List (Addr × Str)} {h : Heap} {mg : Str → Option Value} (X : K.In h) (G : h.Ns mainGlobals mg) {x : Str} {v : Val} (c : gvB K S x v = true) (L : Option (Nat × Addr × LF)) : GV (mkW S Cn K T L) mg x v := by
  unfold gvB at c
  cases e : PySem.W.nsIn K mainGlobals x with
  | none => rw [e] at c; cases c
  | some o =>
    rw [e] at c
    cases o with
    | none => cases c
    | some u =>
      obtain ⟨y, h1, h2⟩ := relK_ok (D := mkW S Cn K T L) c
      exact ⟨u, y, PySem.W.mg_of X G e, h1, h2⟩
/-! ### code objects and their tables -/
def codeA (K : PySem.W.Frag) (p : Str × Option Str) : Addr := match K.lookup (He.fAd K p) with
  | some ⟨_, _, .func fd, _⟩ => (match fd.code with
    | .ref c => c
    | _ => 0)
  | _ => 0
def tabA (K : PySem.W.Frag) (c : Addr) : Addr := match K.lookup c with
  | some ⟨_, _, .fields vs, _⟩ => (match vs.getD 11 .none with
    | .ref P => P
    | _ => 0)
  | _ => 0
def codeB (K : PySem.W.Frag) (p : Str × Option Str) : Bool := match K.lookup (He.fAd K p) with
  | some ⟨_, _, .func fd, _⟩ => (match fd.code with
    | .ref _ => true
    | _ => false)
  | _ => false
def codeHdB (K : PySem.W.Frag) (c P : Addr) : Bool := match K.lookup c with
  | some ⟨.type n, _, .fields vs, _⟩ => decide (n = "code") && (decide (vs[11]? = some (.ref P)) && ((match vs.getD 11 .none with
      | .ref Q => decide (Q = P)
      | _ => false) && ((match vs.getD 18 .none with
      | .str _ _ => true
      | _ => false) && ((match vs.getD 7 .none with
      | .int _ _ => true
      | _ => false) && ((match vs.getD 9 .none with
      | .bool _ => true
      | _ => false) && ((match vs.getD 10 .none with
      | .int _ _ => true
      | _ => false) && !decide (c = P)))))))
  | _ => false
theorem codeHdB_ok {K : PySem.W.Frag} {h : Heap} (X : K.In h) {c P : Addr} (e : codeHdB K c P = true) : PySem.W.CodeHd h c P := by
  unfold codeHdB at e
  cases q : K.lookup c with
  | none => rw [q] at e; cases e
  | some o =>
    obtain ⟨oc, od, dt, osl⟩ := o
    rw [q] at e
    cases oc with
    | type n =>
      cases dt with
      | fields vs =>
        simp only [Bool.and_eq_true, decide_eq_true_eq, Bool.not_eq_true', decide_eq_false_iff_not] at e
        obtain ⟨h1, h2, h3, h4, h5, h6, h7, h8⟩ := e
        have k3 : vs.getD 11 .none = .ref P := by
          split at h3
          · rename_i Q e3
            rw [e3, of_decide_eq_true h3]
          · cases h3
        cases e4 : vs.getD 18 .none with
        | str a b =>
          cases e5 : vs.getD 7 .none with
          | int i t =>
            cases e6 : vs.getD 9 .none with
            | bool x =>
              cases e7 : vs.getD 10 .none with
              | int j u => exact ⟨_, vs, a, b, i, t, x, j, u, X _ _ q, congrArg Value.type h1, rfl, h2, k3, e4, e5, e6, e7, h8⟩
              | _ => rw [e7] at h7; cases h7
            | _ => rw [e6] at h6; cases h6
          | _ => rw [e5] at h5; cases h5
        | _ => rw [e4] at h4; cases h4
      | _ => cases e
    | _ => cases dt <;> cases e
def emptyB : Option Obj → Bool
  | some ⟨.none, none, .fields vs, sl⟩ => decide (vs.size = 0) && decide (sl.size = 0)
  | _ => false
theorem emptyB_ok {o : Option Obj} (h : emptyB o = true) : o = some { cls := .none, data := .fields #[] } := by
  unfold emptyB at h
  split at h
  · rename_i vs sl
    simp only [Bool.and_eq_true, decide_eq_true_eq] at h
    rw [Array.eq_empty_of_size_eq_zero h.1, Array.eq_empty_of_size_eq_zero h.2]
  · cases h
/-! ### the Hook -/
def obsV (as : List Addr) (ck : PySem.W.Frag → List Bool) (fn : List He.DefD) (lams : List (Str × Option Str)) (g : Addr → Option Obj) : He.AlD :=
  ((ck (He.frG g as)).all id && (fn.all (fun d => d.ok (He.frG g as)) && lams.all fun p => codeB (He.frG g as) p && (codeHdB (He.frG g as) (codeA (He.frG g as) p) (tabA (He.frG g as) (codeA (He.frG g as) p)) && (emptyB (g (tabA (He.frG g as) (codeA (He.frG g as) p))) && (List.lookup (tabA (He.frG g as) (codeA (He.frG g as) p)) (He.frG g as)).isNone))),
    fn.map fun d => He.fnW (He.frG g as) d.at_)
structure SaysV (ck : PySem.W.Frag → List Bool) (fn : List He.DefD) (lams : List (Str × Option Str)) (K : PySem.W.Frag) (h : Heap) : Prop where
  kin : K.In h
  ck : (ck K).all id = true
  fn : ∀ d ∈ fn, d.ok K = true ∧ He.fnW K d.at_ = d.val
  lam : ∀ p ∈ lams, codeB K p = true ∧ codeHdB K (codeA K p) (tabA K (codeA K p)) = true ∧ h.get? (tabA K (codeA K p)) = some { cls := .none, data := .fields #[] } ∧ K.lookup (tabA K (codeA K p)) = none
def hookV (as : List Addr) (ck : PySem.W.Frag → List Bool) (fn : List He.DefD) (lams : List (Str × Option Str)) : PySem.W.Hook where
  α := He.AlD
  obs := fun s => obsV as ck fn lams s.heap.get?
  val := fun _ => He.valD fn
  says := fun _ h => ∃ K : PySem.W.Frag, SaysV ck fn lams K h
  of := fun _ s e => by
    refine ⟨He.frG s.heap.get? as, He.frG_in, ?_, ?_, ?_⟩
    · exact (He.ba (congrArg (fun z : He.AlD => z.1) e)).1
    · have e2 : fn.map (fun d => He.fnW (He.frG s.heap.get? as) d.at_) = fn.map He.DefD.val := congrArg (fun z : He.AlD => z.2) e
      obtain ⟨h1, _⟩ := He.ba (He.ba (congrArg (fun z : He.AlD => z.1) e)).2
      exact fun d hd => ⟨List.all_eq_true.mp h1 d hd, List.map_inj_left.mp e2 d hd⟩
    · obtain ⟨_, h2⟩ := He.ba (He.ba (congrArg (fun z : He.AlD => z.1) e)).2
      intro p hp
      have h3 := List.all_eq_true.mp h2 p hp
      simp only [Bool.and_eq_true] at h3
      obtain ⟨k1, k2, k3, k4⟩ := h3
      exact ⟨k1, k2, emptyB_ok k3, by simpa using k4⟩
  keeps := fun _ _ _ ⟨K, s⟩ k => ⟨K, PySem.W.Frag.In.keeps s.kin k, s.ck, s.fn, fun p hp => let ⟨a, b, c, d⟩ := s.lam p hp; ⟨a, b, k _ _ c, d⟩⟩
theorem obsV_eq {as : List Addr} {ck : PySem.W.Frag → List Bool} {fn : List He.DefD} {lams : List (Str × Option Str)} {g : Addr → Option Obj} {s : Shared} (h : ∀ a, g a = s.heap.get? a) : obsV as ck fn lams g = (hookV as ck fn lams).obs s := by
  have e : g = s.heap.get? := funext h
  rw [e] <;> rfl
section
variable {ck : PySem.W.Frag → List Bool} {fn : List He.DefD} {lams : List (Str × Option Str)} {K : PySem.W.Frag} {h : Heap}
theorem SaysV.at_ (s : SaysV ck fn lams K h) (i : Nat) {b : Bool} (e : (ck K)[i]? = some b) : b = true := List.all_eq_true.mp s.ck b (List.mem_of_getElem? e)
theorem SaysV.def_ (s : SaysV ck fn lams K h) {d : He.DefD} (hd : d ∈ fn) : ∃ fd, FunD K d.name d.qual d.params d.body d.scope (d.dvs K) (d.kws K) (He.fAd K d.at_) fd := He.DefD.funD (s.fn d hd).2 (s.fn d hd).1
/-- the tables, with the names of their code objects -/
def tabsOf (K : PySem.W.Frag) (ls : List ((Str × Option Str) × Str)) : List (Addr × Str) := ls.map fun p => (tabA K (codeA K p.1), p.2)
def apartB (K : PySem.W.Frag) (ls : List ((Str × Option Str) × Str)) : Bool := decide ((tabsOf K ls).map (·.1)).Nodup
theorem nodup_fst {α β : Type} : ∀ {l : List (α × β)}, (l.map (·.1)).Nodup → ∀ {a : α} {b c : β}, (a, b) ∈ l → (a, c) ∈ l → b = c
  | [], _, _, _, _, h, _ => by simp at h
  | p :: l, nd, a, b, c, h1, h2 => by
    obtain ⟨n1, n2⟩ := List.nodup_cons.mp (show (p.1 :: l.map (·.1)).Nodup from nd)
    rcases List.mem_cons.mp h1 with e1 | h1
    · rcases List.mem_cons.mp h2 with e2 | h2
      · rw [← e1] at e2; exact (Prod.mk.inj e2).2.symm
      · exact absurd (List.mem_map.mpr ⟨(a, c), h2, by rw [← e1]⟩) n1
    · rcases List.mem_cons.mp h2 with e2 | h2
      · exact absurd (List.mem_map.mpr ⟨(a, b), h1, by rw [← e2]⟩) n1
      · exact nodup_fst n2 h1 h2
/-- a def that makes a lambda -/
theorem lam_fact (s : SaysV ck fn lams K h) {d : He.DefD} {q : Str} {ls : List ((Str × Option Str) × Str)} {base : Heap} {mg : Str → Option Value} (hd : d ∈ fn) (hl : d.at_ ∈ lams) (hq : (d.at_, q) ∈ ls) (hap : apartB K ls = true)
    (TB : ∀ p ∈ lams, LamX.TabB base mg (codeA K p) (tabA K (codeA K p))) :
    ∃ fd c P, FunD K d.name d.qual d.params d.body d.scope (d.dvs K) (d.kws K) (He.fAd K d.at_) fd ∧ fd.code = .ref c ∧ LamX.TabB base mg c P ∧ (P, q) ∈ tabsOf K ls ∧ ∀ p ∈ tabsOf K ls, p.1 = P → p.2 = q := by
  obtain ⟨fd, F⟩ := s.def_ hd
  obtain ⟨k1, k2, k3, k4⟩ := s.lam _ hl
  have hm : (tabA K (codeA K d.at_), q) ∈ tabsOf K ls := List.mem_map.mpr ⟨(d.at_, q), hq, rfl⟩
  refine ⟨fd, codeA K d.at_, tabA K (codeA K d.at_), F, ?_, TB _ hl, hm, fun p hp e => ?_⟩
  · obtain ⟨oc, od, dV, kV, doc, pm, an', cdv, ct, osl, e, lk, _⟩ := F.ex
    unfold codeB at k1
    unfold codeA
    rw [lk] at k1 ⊢
    have k1 : (match fd.code with | .ref _ => true | _ => false) = true := k1
    show fd.code = .ref (match fd.code with | .ref c => c | _ => 0)
    cases hc : fd.code with
    | ref c => rfl
    | _ => rw [hc] at k1; cases k1
  · have : (tabA K (codeA K d.at_), p.2) ∈ tabsOf K ls := by rw [← e]; exact hp
    exact nodup_fst (of_decide_eq_true hap) this hm
end
/-! ### facts from looks -/
def cfB (K : PySem.W.Frag) (Cn : Nat → Str) (cs : List Nat) (z : Str) : Bool := cs.all fun c => (He.Fa.cls (Cn c)).ok K && (He.Fa.noat (Cn c) z).ok K
theorem cf_of {S : List Str} {Cn : Nat → Str} {K : PySem.W.Frag} {T : List (Addr × Str)} {cs : List Nat} {f : Nat} {z : Str} (hz : S[f]? = some z) (h : cfB K Cn cs z = true) (L : Option (Nat × Addr × LF)) : CF (mkW S Cn K T L) cs f z :=
  ⟨hz, fun c hc => by
    obtain ⟨h1, h2⟩ := He.ba (List.all_eq_true.mp h c hc)
    exact ⟨He.cls_ok h1, He.noat_ok h2⟩⟩
def kfW (q : Value → Option Bool) (K : PySem.W.Frag) (Cn : Nat → Str) (cs : List Nat) (ty : Ty) : Bool :=
  (["NoneType", "bool", "int", "str", "tuple", "list", "dict"].all fun T => decide (q (.type T) = some (inB ty T))) && cs.all fun c => decide (q (.ref (He.ga K (Cn c))) = some (VI.insB ty c)) && insK K (Cn c)
theorem kf_of {S : List Str} {Cn : Nat → Str} {K : PySem.W.Frag} {T : List (Addr × Str)} {q : Value → Option Bool} {cs : List Nat} {ty : Ty} (h : kfW q K Cn cs ty = true) (L : Option (Nat × Addr × LF)) : KF (mkW S Cn K T L) cs ty q := by
  unfold kfW at h
  obtain ⟨h1, h2⟩ := He.ba h
  refine ⟨fun T hT => of_decide_eq_true (List.all_eq_true.mp h1 T hT), fun d hd => ?_, fun d hd => ?_⟩
  · exact of_decide_eq_true (He.ba (List.all_eq_true.mp h2 d hd)).1
  · exact insK_ok rfl (He.ba (List.all_eq_true.mp h2 d hd)).2
theorem FunD_uniq {K : PySem.W.Frag} {x x' q q' : Str} {pa pa' : Arguments} {b b' : List Stmt} {sc sc' : Scope} {dv dv' : List V} {kw kw' : List (Str × V)} {f : Addr} {fd fd' : FuncData} (F : FunD K x q pa b sc dv kw f fd) (F' : FunD K x' q' pa' b' sc' dv' kw' f fd') : fd = fd' := by
  obtain ⟨_, _, _, _, _, _, _, _, _, _, _, lk, _⟩ := F.ex
  obtain ⟨_, _, _, _, _, _, _, _, _, _, _, lk', _⟩ := F'.ex
  rw [lk] at lk'
  cases lk'
  rfl
/-! ### the law's end -/
theorem mem_tabs {K : PySem.W.Frag} {ls : List ((Str × Option Str) × Str)} {p : Addr × Str} (h : p ∈ tabsOf K ls) : ∃ x ∈ ls, p = (tabA K (codeA K x.1), x.2) := by
  obtain ⟨x, hx, e⟩ := List.mem_map.mp h
  exact ⟨x, hx, e.symm⟩
/-- no list stands in the written part -/
def noListB (K : PySem.W.Frag) : Bool := K.all fun p => match p.2.cls with
  | .type n => !decide (n = "list")
  | _ => true
theorem look_mem {α : Type} : ∀ {l : List (Nat × α)} {a : Nat} {o : α}, l.lookup a = some o → (a, o) ∈ l
  | [], _, _, h => by cases h
  | (b, u) :: r, a, o, h => by
    rw [List.lookup_cons] at h
    cases e : a == b with
    | true =>
      rw [e] at h
      cases h
      rw [beq_iff_eq.mp e]
      exact List.mem_cons_self
    | false =>
      rw [e] at h
      exact List.mem_cons_of_mem _ (look_mem h)
theorem noList_ok {K : PySem.W.Frag} (h : noListB K = true) {a : Addr} {o : Obj} (e : K.lookup a = some o) : o.cls ≠ .type "list" := fun z => by
  have hm : (a, o) ∈ K := look_mem e
  have q := List.all_eq_true.mp h _ hm
  simp only at q
  rw [z] at q
  simp at q
theorem law_sp {K : PySem.W.Frag} {ls : List ((Str × Option Str) × Str)} {S : List Str} {Cn : Nat → Str} {F : Fn} {ns : List Int} {H : Hp} {a : Addr} (nl : noListB K = true) (hT : ∀ p ∈ ls.map (·.1), H (tabA K (codeA K p)) = some (.tbl #[])) (hS : SqL K H a (ns.map V.int))
    (law : ∀ o : Ob, o = .lst (ns.map .int) ∨ o = .frz (ns.map .int) → ∃ st, F [.ref 0] [o] = .ok (.v (.bool true)) st) : spF (mkW S Cn K (tabsOf K ls) none) 1 F [.ref a] H (fun v _ => v = .bl true) fun _ _ _ => False := by
  have rp : RpAll (mkW S Cn K (tabsOf K ls) none) 1 (fun _ => a) H (ns.map .int) (ns.map V.int) := by
    clear law hS
    induction ns with
    | nil => exact .nil
    | cons i r ih => exact .cons (.int i) ih
  have fin : ∀ o : Ob, (o = .lst (ns.map .int) ∨ o = .frz (ns.map .int)) → ObR (mkW S Cn K (tabsOf K ls) none) 1 (fun _ => a) H a o → spF (mkW S Cn K (tabsOf K ls) none) 1 F [.ref a] H (fun v _ => v = .bl true) fun _ _ _ => False := fun o ho hr => by
    obtain ⟨st, hf⟩ := law o ho
    refine ⟨rfl, 1, fun _ => a, [o], [.ref 0], _, st, ⟨rfl, fun i j hi hj _ => by omega, fun k o' e => ?_, fun p hp => ?_, fun _ _ _ e => by cases e⟩, .cons (Rp.ref (μ := fun _ => a) Nat.one_pos) .nil, hf, fun n' μ' H' y ok' l' r' f' => ?_⟩
    · cases k with
      | zero => cases e; exact hr
      | succ k => simp at e
    · obtain ⟨x, hx, rfl⟩ := mem_tabs hp
      exact LamX.TabS.nil (hT x.1 (List.mem_map.mpr ⟨x, hx, rfl⟩))
    · cases r'
      rfl
  rcases hS with (h | ⟨o, h⟩) | ⟨o, its, n, h1, h2, _⟩
  · exact fin _ (.inl rfl) ⟨_, h, rp⟩
  · exact fin _ (.inr rfl) ⟨o, _, h, rp⟩
  · exact absurd h2 (noList_ok nl h1)
theorem walkV {l : PySem.W.OpenLaw} {n k : Nat} {q : Program} {loose : List Str} {XP : (Str → Option Value) → Heap → Prop} {d : DefRec} {as : List Addr} {ck : PySem.W.Frag → List Bool} {fn : List He.DefD} {ls : List ((Str × Option Str) × Str)} {S : List Str} {Cn : Nat → Str} {F : Fn} {x : Str}
    (hn : l.most = some n) (hn2 : n ≤ sizeLine) (hdf : d.params.defaults = []) (hr : Room k callerA) (hnl : ∀ K, (ck K)[0]? = some (noListB K))
    (hfd : ∀ (w : World) (mg : Str → Option Value) (fa : Addr) (h : Heap) (K : PySem.W.Frag), SaysV ck fn (ls.map (·.1)) K h → h.Ns mainGlobals mg → mg d.name = some (.ref fa) → ∃ fd : FuncData, (∀ (s : Shared) (u : Value), BindsTo s fd ⟨[u], []⟩ [(x, u)]) ∧
      ∀ base, (∀ p ∈ ls.map (·.1), LamX.TabB base mg (codeA K p) (tabA K (codeA K p))) → FnOk l.prog w K mg base C8.CX0 k fa fd [x] (spF (mkW S Cn K (tabsOf K ls) none) 1 F))
    (law : ∀ ns : List Int, ns.length ≤ n → (∀ z ∈ ns, Builtin.Int.intBits z ≤ 1048576) → ∀ o : Ob, o = .lst (ns.map .int) ∨ o = .frz (ns.map .int) → ∃ st, F [.ref 0] [o] = .ok (.v (.bool true)) st) :
    PySem.W.WalkO q loose XP (hookV as ck fn (ls.map (·.1))).says l.row.toRowW d [] (fun f vs => PySem.call f vs) := by
  refine Att.attach_callB hn hdf fun w s₀ s₁ mg mb fa o pm cd doc a vs ns G Y ho hd hcd hmg hobj hints hlen hbits hg => ?_
  obtain ⟨K, Y⟩ := Y
  obtain ⟨fd, hb, hF⟩ := hfd w mg fa _ K Y G.T.g hmg
  have hcs : ∀ {R : Addr × Addr → Prop}, (∀ p ∈ ls.map (·.1), R (codeA K p, tabA K (codeA K p))) → ∀ p ∈ ls.map (fun p => (codeA K p.1, tabA K (codeA K p.1))), R p := fun {R} hR p hp => by
    obtain ⟨x, hx, rfl⟩ := List.mem_map.mp hp
    exact hR x.1 (List.mem_map.mpr ⟨x, hx, rfl⟩)
  refine LamX.law_callTs (cs := ls.map fun p => (codeA K p.1, tabA K (codeA K p.1))) (CX := C8.CX0) Y.kin G.T.g G.T.b G.T.builtins G.T.nolimit hg
    (hcs (R := fun p => s₁.heap.get? p.2 = some { cls := .none, data := .fields #[] }) fun p hp => (Y.lam p hp).2.2.1) (hcs (R := fun p => K.lookup p.2 = none) fun p hp => (Y.lam p hp).2.2.2) (hcs (R := fun p => PySem.W.CodeHd s₁.heap p.1 p.2) fun p hp => codeHdB_ok Y.kin (Y.lam p hp).2.1)
    G.T.bmain hobj hints (Nat.le_trans hlen hn2) hr (fun base _ _ TB => hF base fun p hp => ?_) hb (fun H hH hS => law_sp (Y.at_ 0 (hnl K)) (fun p hp => ?_) hS (law ns hlen hbits)) fun H e s' h => h
  · obtain ⟨x, hx, rfl⟩ := List.mem_map.mp hp
    exact TB _ (List.mem_map.mpr ⟨x, hx, rfl⟩)
  · obtain ⟨x, hx, rfl⟩ := List.mem_map.mp hp
    exact hH _ (List.mem_map.mpr ⟨x, hx, rfl⟩)
end VI
end
section
set_option Elab.async false
set_option linter.all false
set_option maxRecDepth 100000
set_option maxHeartbeats 4000000
/-! VI15: dicts whose keys are tuples of ints. -/
namespace VI
open PySem PySem.Spec PyProof.Rows L2
theorem u1 {k : Nat} {A : Around} (r : Room k A) : A.units + 1 < cLine := by have := u64 r; omega
/-- a key: a new tuple of ints -/
def rKy (D : Wd) (f : Ek) : TE := fun σ H Q => ∃ n μ ρ st k st', Ok D n μ H st ∧ EnvR D n μ H ρ σ ∧ f ρ st = .ok k st' ∧ ∀ n' μ' H' b, Ok D n' μ' H' st' → Le n μ H n' μ' H' → H' b = some (.tup (k.map V.int)) → Q (.ref b) H'
abbrev SKy (X : Cx) (D : Wd) (e : Expr) (f : Ek) : Prop := PE X e (rKy D f)
theorem intsq_rp {D : Wd} {n : Nat} {μ : Nat → Addr} {H : Hp} : ∀ {xs : List Val} {ys : List V} {k : List Int}, ints? xs = some k → RpAll D n μ H xs ys → ys = k.map V.int
  | [], _, _, e, r => by cases r; cases e; rfl
  | x :: l, _, _, e, r => by
    cases r with
    | cons h r =>
      cases x with
      | int i =>
        unfold ints? at e
        obtain ⟨k', e1, rfl⟩ := Option.map_eq_some_iff.mp e
        rw [intsq_rp e1 r]
        cases h
        rfl
      | _ => cases e
theorem inl_inj {a b : List Int} (h : a.map (Sum.inl : Int → Key) = b.map Sum.inl) : a = b := (List.map_inj_right (fun _ _ h => Sum.inl.inj h)).mp h
theorem kv_map (k : List Int) : (k.map (Sum.inl : Int → Key)).map kV = k.map V.int := by
  rw [List.map_map]
  exact List.map_congr_left fun _ _ => rfl
section
variable {D : Wd} {n : Nat} {μ : Nat → Addr} {H : Hp}
theorem KvR.there {k : List Int} : ∀ {kvs : List (List Int × Val)} {ks : List (List Key × V)} {x : Val}, KvR D n μ H kvs ks → kvs.lookup k = some x → ∃ y, valV ks (k.map Sum.inl) = some y ∧ Rp D n μ H x y
  | _, _, _, .nil, e => by cases e
  | _, _, x, .cons (k := g) (x := z) h' r, e => by
    by_cases hg : k = g
    · subst hg
      simp only [List.lookup_cons, beq_self_eq_true, Option.some.injEq] at e
      subst e
      exact ⟨_, valV_pos rfl, h'⟩
    · have e1 : (k == g) = false := beq_eq_false_iff_ne.mpr hg
      simp only [List.lookup_cons, e1] at e
      obtain ⟨y, h1, h2⟩ := KvR.there r e
      exact ⟨y, by rw [valV_neg fun q => hg (inl_inj q).symm]; exact h1, h2⟩
theorem KvR.miss {k : List Int} : ∀ {kvs : List (List Int × Val)} {ks : List (List Key × V)}, KvR D n μ H kvs ks → kvs.lookup k = none → valV ks (k.map Sum.inl) = none
  | _, _, .nil, e => rfl
  | _, _, .cons (k := g) (x := z) h' r, e => by
    by_cases hg : k = g
    · subst hg
      simp only [List.lookup_cons, beq_self_eq_true] at e
      cases e
    · have e1 : (k == g) = false := beq_eq_false_iff_ne.mpr hg
      simp only [List.lookup_cons, e1] at e
      rw [valV_neg fun q => hg (inl_inj q).symm]
      exact KvR.miss r e
theorem KvR.isSome {k : List Int} {kvs : List (List Int × Val)} {ks : List (List Key × V)} (r : KvR D n μ H kvs ks) : (valV ks (k.map Sum.inl)).isSome = (kvs.lookup k).isSome := by
  cases e : kvs.lookup k with
  | none => rw [r.miss e] <;> rfl
  | some x =>
    obtain ⟨y, h, _⟩ := r.there e
    rw [h] <;> rfl
theorem KvR.length : ∀ {kvs : List (List Int × Val)} {ks : List (List Key × V)}, KvR D n μ H kvs ks → kvs.length = ks.length
  | _, _, .nil => rfl
  | _, _, .cons _ r => congrArg (· + 1) r.length
theorem KvR.any {k : List Int} : ∀ {kvs : List (List Int × Val)} {ks : List (List Key × V)}, KvR D n μ H kvs ks → (ks.any fun kv => decide (kv.1 = k.map Sum.inl)) = kvs.any fun kv => decide (kv.1 = k)
  | _, _, .nil => rfl
  | _, _, .cons (k := g) h' r => by
    rw [List.any_cons, List.any_cons, KvR.any r]
    congr 1
    by_cases hg : g = k
    · subst hg; simp
    · rw [decide_eq_false hg]
      exact decide_eq_false fun q => hg (inl_inj q)
theorem KvR.repl {k : List Int} {v : Val} {y : V} (hv : Rp D n μ H v y) : ∀ {kvs : List (List Int × Val)} {ks : List (List Key × V)}, KvR D n μ H kvs ks → KvR D n μ H (kvs.map fun kv => if kv.1 = k then (kv.1, v) else kv) (ks.map fun kv => if kv.1 = k.map Sum.inl then (kv.1, y) else kv)
  | _, _, .nil => .nil
  | _, _, .cons (k := g) h' r => by
    rw [List.map_cons, List.map_cons]
    by_cases hg : g = k
    · subst hg
      rw [if_pos rfl, if_pos rfl]
      exact .cons hv (KvR.repl hv r)
    · rw [if_neg hg, if_neg fun q => hg (inl_inj q)]
      exact .cons h' (KvR.repl hv r)
theorem KvR.snoc {k : List Int} {v : Val} {y : V} (hv : Rp D n μ H v y) : ∀ {kvs : List (List Int × Val)} {ks : List (List Key × V)}, KvR D n μ H kvs ks → KvR D n μ H (kvs ++ [(k, v)]) (ks ++ [(k.map Sum.inl, y)])
  | _, _, .nil => .cons hv .nil
  | _, _, .cons h' r => .cons h' (KvR.snoc hv r)
theorem KvR.put {k : List Int} {v : Val} {y : V} (hv : Rp D n μ H v y) {kvs : List (List Int × Val)} {ks : List (List Key × V)} (r : KvR D n μ H kvs ks) : KvR D n μ H (putKs k v kvs) (L2.putK ks (k.map Sum.inl) y) := by
  unfold putKs L2.putK
  rw [r.any]
  by_cases h : (kvs.any fun kv => decide (kv.1 = k)) = true
  · rw [if_pos h, if_pos h]; exact r.repl hv
  · rw [if_neg h, if_neg h]; exact r.snoc hv
theorem refK_ok {st : Store} {t : Tv} {y : V} {j : Nat} {kvs : List (List Int × Val)} (ok : Ok D n μ H st) (r : Rt D n μ H t y) (e : refK t st = some (j, kvs)) : t = .v (.ref j) ∧ y = .ref (μ j) ∧ j < n ∧ st[j]? = some (.dct kvs) ∧ ∃ ks, H (μ j) = some (.dT ks) ∧ KvR D n μ H kvs ks := by
  cases t with
  | l _ => cases e
  | v x =>
    cases x with
    | ref k =>
      cases r with
      | ref hk =>
        unfold refK at e
        cases h : st[k]? with
        | none => simp [h] at e
        | some o =>
          cases o with
          | dct m =>
            simp only [h, Option.some.injEq, Prod.mk.injEq] at e
            obtain ⟨rfl, rfl⟩ := e
            exact ⟨rfl, rfl, hk, h, ok.ob k _ h⟩
          | _ => simp [h] at e
    | _ => cases e
end
section
variable {X : Cx} {D : Wd} {e o d value eh : Expr} {fe fo fd : Ev} {k : Ek} {pos p p2 : Pos}
theorem k_cut [C : Cok X D] {hi : Int} (he : SE X D e fe) (hh : SO X D (some eh) (some (eC (.int hi)))) : SKy X D (.Subscript e (.Slice none (some eh) none p2) pos) (eKey fe hi) :=
  PE_imp (pe_slice sl_tupA he o_none hh) fun σ H Q ⟨n, μ, ρ, st, k, st', ok, er, hf, an⟩ => by
    obtain ⟨t, s1, h1, hf⟩ := bind_eq_ok hf
    cases t with
    | l _ => cases hf
    | v x =>
      cases x with
      | tup xs =>
        refine ⟨n, μ, ρ, st, .v (.tup xs), s1, ok, er, h1, fun n1 μ1 H1 y1 ok1 l1 r1 f1 => ⟨n1, μ1, ρ, s1, none, s1, ok1, er.mono l1, rfl, fun n2 μ2 H2 ok2 l2 => ⟨n2, μ2, ρ, s1, some hi, s1, ok2, er.mono (l1.trans l2), rfl, fun n3 μ3 H3 ok3 l3 => ?_⟩⟩⟩
        have r3 := (r1.mono l2).mono l3
        by_cases hl : (VI.cutV xs none (some hi)).length < xs.length
        · simp only [if_pos hl] at hf
          cases hi' : ints? (VI.cutV xs none (some hi)) with
          | none => simp only [hi'] at hf; cases hf
          | some k' =>
            simp only [hi'] at hf
            cases hf
            cases r3 with
            | tup h q =>
              refine ⟨_, _, rfl, by rw [C.hK]; exact h.sq, fun hw => absurd hl ?_, fun _ p hp => ?_⟩
              · have e1 : VI.cutV xs none (some hi) = xs := by
                  unfold VI.cutV
                  rw [sIx_eq, sIx_eq, q.length, hw.1, hw.2, List.drop_zero, ← q.length, Nat.sub_zero, List.take_length]
                rw [e1]
                exact Nat.lt_irrefl _
              · have e2 := intsq_rp hi' (cut_ok none (some hi) q)
                obtain ⟨ok4, l4⟩ := ok3.upd (u := .tup (L2.cutV _ none (some hi))) hp
                refine an n3 μ3 _ p ok4 (l1.trans (l2.trans (l3.trans l4))) ?_
                rw [upd_same, e2]
        · simp only [if_neg hl] at hf; cases hf
      | _ => cases hf
theorem key_dget {H : Hp} {a b : Addr} {ks : List (List Key × V)} {k : List Int} (e : H a = some (.dT ks)) (eb : H b = some (.tup (k.map V.int))) : DGet H a (.ref b) (valV ks (k.map Sum.inl)) := .t e (by rw [kv_map]; exact eb)
/-- e[:2] in d -/
theorem kd_rd {σ : L2.St} {H : Hp} {Q : VK} {g : Bool → Bool} (h : ∃ n μ ρ st z st', Ok D n μ H st ∧ EnvR D n μ H ρ σ ∧ ((k ρ st).bind fun k s => (fd ρ s).bind fun t s => match refK t s with
      | some (_, kvs) => .ok (.v (.bool (g (kvs.lookup k).isSome))) s
      | none => .bad) = Res.ok z st' ∧ Ans D n μ H z st' Q) : rKy D k σ H fun y H1 => rE D fd σ H1 fun x H2 => ∃ a o, x = .ref a ∧ DGet H2 a y o ∧ Q (.bl (g o.isSome)) H2 := by
  obtain ⟨n, μ, ρ, st, z, st', ok, er, hf, an⟩ := h
  obtain ⟨k', s1, h1, hf⟩ := bind_eq_ok hf
  obtain ⟨t, s2, h2, hf⟩ := bind_eq_ok hf
  refine ⟨n, μ, ρ, st, k', s1, ok, er, h1, fun n1 μ1 H1 b ok1 l1 hb => ⟨n1, μ1, ρ, s1, t, s2, ok1, er.mono l1, h2, fun n2 μ2 H2 x ok2 l2 r2 f2 => ?_⟩⟩
  cases h3 : refK t s2 with
  | none => simp only [h3] at hf; cases hf
  | some pr =>
    obtain ⟨j, kvs⟩ := pr
    simp only [h3] at hf
    cases hf
    obtain ⟨rfl, rfl, hj, h4, ks, h5, h6⟩ := refK_ok ok2 r2 h3
    refine ⟨_, _, rfl, key_dget h5 (l2.tup _ _ hb), ?_⟩
    rw [h6.isSome]
    exact ans_v (an.le (l1.trans l2)) ok2 (.bool _)
theorem e_din (hu : X.A.units + 1 < cLine) (hi : SKy X D e k) (ho : SE X D d fd) (hm : behindInMarks .In d = false := by rfl) : SE X D (.Compare e [.In] [d] pos) (eDIn k fd) := PE_imp (pe_cmp (pc_din hu hi ho) hm) fun σ H Q h => kd_rd (g := fun b => b) h
theorem e_dnotIn (hu : X.A.units + 1 < cLine) (hi : SKy X D e k) (ho : SE X D d fd) (hm : behindInMarks .NotIn d = false := by rfl) : SE X D (.Compare e [.NotIn] [d] pos) (eDNotIn k fd) := PE_imp (pe_cmp (pc_dnotin hu hi ho) hm) fun σ H Q h => kd_rd (g := not) h
theorem dB_rd {fz : Ev} {σ : L2.St} {H : Hp} {Q : Bool → Hp → Prop} (h : rT D (VI.tB fz) σ H Q) : rE D fz σ H fun y H' => ∃ b, y = .bl b ∧ Q b H' := by
  obtain ⟨n, μ, ρ, st, b, st', ok, er, hf, an⟩ := h
  obtain ⟨x, s1, h1, hf⟩ := bind_eq_ok hf
  refine ⟨n, μ, ρ, st, x, s1, ok, er, h1, fun n1 μ1 H1 y1 ok1 l1 r1 f1 => ?_⟩
  cases x with
  | l _ => cases hf
  | v x =>
    cases x with
    | bool i => cases hf; cases r1; exact ⟨_, rfl, an n1 μ1 H1 ok1 l1⟩
    | _ => cases hf
theorem t_din (hu : X.A.units + 1 < cLine) (hi : SKy X D e k) (ho : SE X D d fd) (hm : behindInMarks .In d = false := by rfl) : ST X D (.Compare e [.In] [d] pos) (VI.tB (eDIn k fd)) := PT_imp (pt_cmp (pc_din hu hi ho) hm) fun σ H Q h => kd_rd (g := fun b => b) (dB_rd h)
theorem t_dnotIn (hu : X.A.units + 1 < cLine) (hi : SKy X D e k) (ho : SE X D d fd) (hm : behindInMarks .NotIn d = false := by rfl) : ST X D (.Compare e [.NotIn] [d] pos) (VI.tB (eDNotIn k fd)) := PT_imp (pt_cmp (pc_dnotin hu hi ho) hm) fun σ H Q h => kd_rd (g := not) (dB_rd h)
theorem e_dget (hu : X.A.units + 1 < cLine) (ho : SE X D d fd) (hi : SKy X D e k) (hs : NoSl e) : SE X D (.Subscript d e pos) (eDGet fd k) := PE_imp (pe_dget hu ho hi hs) fun σ H Q ⟨n, μ, ρ, st, z, st', ok, er, hf, an⟩ => by
  obtain ⟨t, s1, h1, hf⟩ := bind_eq_ok hf
  obtain ⟨k', s2, h2, hf⟩ := bind_eq_ok hf
  refine ⟨n, μ, ρ, st, t, s1, ok, er, h1, fun n1 μ1 H1 x ok1 l1 r1 f1 => ⟨n1, μ1, ρ, s1, k', s2, ok1, er.mono l1, h2, fun n2 μ2 H2 b ok2 l2 hb => ?_⟩⟩
  cases h3 : refK t s2 with
  | none => simp only [h3] at hf; cases hf
  | some pr =>
    obtain ⟨j, kvs⟩ := pr
    simp only [h3] at hf
    cases h4 : kvs.lookup k' with
    | none => simp only [h4] at hf; cases hf
    | some w =>
      simp only [h4] at hf
      cases hf
      obtain ⟨rfl, rfl, hj, h5, ks, h6, h7⟩ := refK_ok ok2 (r1.mono l2) h3
      obtain ⟨y, h8, h9⟩ := h7.there h4
      exact ⟨_, y, rfl, by rw [← h8]; exact key_dget h6 hb, ans_v (an.le (l1.trans l2)) ok2 h9⟩
theorem s_dset (hu : X.A.units + 1 < cLine) (ho : SE X D d fd) (hi : SKy X D e k) (hv : SE X D value fe) (hs : swapsWith value (some (.Subscript d e p)) pos.line X.env = pure false := by rfl) : SS X D (.Assign [.Subscript d e p] value pos) (sDSet fd k fe) :=
  PS_imp (ps_dput hu ho hi hv hs) fun E σ H ⟨n, μ, ρ, st, r, st', ok, er, hf, q⟩ => by
    obtain ⟨t, s1, h1, hf⟩ := bind_eq_ok hf
    obtain ⟨y, s2, h2, hf⟩ := bind_eq_ok hf
    obtain ⟨x, s3, h3, hf⟩ := bind_eq_ok hf
    obtain ⟨k', s4, h4, hf⟩ := bind_eq_ok hf
    refine ⟨n, μ, ρ, st, t, s1, ok, er, h1, fun n1 μ1 H1 y1 ok1 l1 r1 f1 => ?_⟩
    obtain ⟨n2, μ2, ok2, l2, r2, tr, hn, hm⟩ := mat_ok h2 ok1 l1 r1 f1
    refine ⟨n2, μ2, ρ, s2, x, s3, ok2, er.mono l2, h3, fun n3 μ3 H3 x3 ok3 l3 r3 f3 => ⟨n3, μ3, ρ, s3, k', s4, ok3, er.mono (l2.trans l3), h4, fun n4 μ4 H4 b ok4 l4 hb => ?_⟩⟩
    cases h5 : refK x s4 with
    | none => simp only [h5] at hf; cases hf
    | some pr =>
      obtain ⟨j, kvs⟩ := pr
      simp only [h5] at hf
      by_cases hl : kvs.length < LIM
      · rw [if_pos hl] at hf
        cases hf
        obtain ⟨rfl, rfl, hj, h6, ks, h7, h8⟩ := refK_ok ok4 (r3.mono l4) h5
        refine ⟨_, _, rfl, DPut.t (k := k'.map Sum.inl) h7 (by rw [kv_map]; exact hb) (by rw [← h8.length, sizeLine_eq]; exact hl), ?_⟩
        have ry := (r2.mono l3).mono l4
        have ob5 : ObR D n4 μ4 (L2.upd H4 (μ4 j) (.dT (L2.putK ks (k'.map Sum.inl) y1))) (μ4 j) (.dct (putKs k' y kvs)) := by
          refine ⟨_, upd_same, (h8.put ry).mono (Nat.le_refl _) (fun _ _ => rfl) fun a xs ha => ?_⟩
          rw [upd_ne (ne_of ha h7 (fun z => nomatch z))]
          exact ha
        obtain ⟨ok5, l5⟩ := ok4.set hj ob5
        exact q n4 μ4 _ σ ok5 (l2.trans (l3.trans (l4.trans l5))) (er.mono (l2.trans (l3.trans (l4.trans l5))))
      · rw [if_neg hl] at hf; cases hf
/-- x = {} -/
theorem s_dict [C : Cok X D] {i : Nat} {x : Str} (hi : X.N[i]? = some x) (hx : Loc X.env.scope x) (hs : swapsWith (.Dict [] [] p2) (some (.Name x p)) pos.line X.env = pure false := by rfl) (hf : X.fn x = true ∨ X.env.scope.names.lookup x = some .local := by first | exact .inl rfl | exact .inr rfl | assumption) :
    SS X D (.Assign [.Name x p] (.Dict [] [] p2) pos) (sDict i) := PS_imp (ps_set C.nd hi hx pe_dnewT hs hf) fun E σ H ⟨n, μ, ρ, st, r, st', ok, er, hf, q⟩ => by
  cases hf
  refine fun a ha => ?_
  obtain ⟨ok1, l1⟩ := ok.upd (u := .dT []) ha
  have ok2 : Ok D (n + 1) (fun k => if k = n then a else μ k) (upd H a (.dT [])) (st ++ [.dct []]) := ok1.map (ok.fresh ha) ⟨[], upd_same, .nil⟩
  have l2 := l1.map ha
  have r2 : Rp D (n + 1) (fun k => if k = n then a else μ k) (upd H a (.dT [])) (.ref n) (.ref a) := by
    have q : Rp D (n + 1) (fun k => if k = n then a else μ k) (upd H a (.dT [])) (.ref n) (.ref ((fun k => if k = n then a else μ k) n)) := .ref (Nat.lt_succ_self n)
    simp only [if_pos] at q
    exact q
  rw [ok.len] at q
  exact nameG (D := D) ⟨n + 1, _, ρ, st ++ [.dct []], .ref n, _, _, ok2, er.mono l2, r2, rfl, fun n3 μ3 H3 σ3 ok3 l3 er3 _ => q n3 μ3 H3 σ3 ok3 (l2.trans l3) er3⟩
end
end VI
end
section
set_option Elab.async false
set_option linter.all false
set_option maxRecDepth 100000
set_option maxHeartbeats 4000000
/-! VI16: set(e) of a list of ints, sorted at once; set(e) of a tuple of texts, counted at once. -/
namespace VI
open PySem PySem.Spec PyProof.Rows L2
/-- the set that set() lays down first -/
def newS (w : World) : Obj := { cls := .type "set", dict := none, data := .set #[] 0 (.fresh 0 0 (!w.params.followText "set-order")) }
section
variable {Pg : Program} {w : World} {B : Around} {Er : Value → Shared → Prop}
/-- what one add does: Ji goes over into J (i + 1) -/
def Adds (Pg : Program) (w : World) (tgt : Addr) (J : Nat → Heap → Prop) (its : Array Value) : Prop :=
  ∀ (i : Nat) (v : Value) (z : Shared) (C : Around) (Ez : Value → Shared → Prop) (Qz : Bool → Shared → Prop), its[i]? = some v → J i z.heap →
    (∀ b hp, Heap.SameBut tgt z.heap hp → J (i + 1) hp → Qz b { z with heap := hp, toks := z.toks + 1 }) → wpAny (model Pg w) C (setAdd tgt v) Qz Ez z
theorem addsLoop {it : Addr} {fp wr : List Addr} {G : Array GenState → Array GenState → Prop} {N : Nat} {Pv : Nat → Value → Prop} {St : Nat → Shared → Prop} {Rz : Result → Shared → Prop} {its : Array Value} {J : Nat → Heap → Prop} {tgt : Addr}
    (W : WalksS Pg w B.in1 it fp wr G N Pv St) (nf : tgt ∉ fp) (keep : ∀ i a b, J i a → (∀ o, a.get? tgt = some o → b.get? tgt = some o) → J i b) (hPv : ∀ i v, Pv i v → its[i]? = some v) (ad : Adds Pg w tgt J its) :
    ∀ (m i : Nat) (z : Shared), N - i = m → i ≤ N → St i z → J i z.heap → (∀ z', Moved (tgt :: wr) G z z' → J N z'.heap → Rz (.ok (.ret .none)) z') →
      codeAny (model Pg w) B (.builtin "set.update.loop" ⟨[.ref tgt, .ref it], []⟩) Rz z := by
  have nw : tgt ∉ wr := fun q => nf (W.sub _ q)
  have up : ∀ b ∈ wr, b ∈ tgt :: wr := fun b q => List.mem_cons_of_mem _ q
  intro m
  induction m with
  | zero =>
    intro i z hm hi st j fin
    obtain rfl : i = N := by omega
    refine codeAny_builtin F.entry_set_update_loop ?_
    rw [Around.under_plainId F.plain_set_update_loop _]
    show wpAny _ B.in1 (pyNext (.ref it) >>= _) _ _ z
    refine wpAny_bind (W.done z _ _ st fun z' mv => ?_)
    show wpAny _ B.in1 (ret Value.none) _ _ z'
    exact wpAny_pure (fin z' (mv.mono up) (keep _ _ _ j fun o q => mv.heap tgt o nw q))
  | succ m ih =>
    intro i z hm hi st j fin
    have lt : i < N := by omega
    refine codeAny_builtin F.entry_set_update_loop ?_
    rw [Around.under_plainId F.plain_set_update_loop _]
    show wpAny _ B.in1 (pyNext (.ref it) >>= _) _ _ z
    refine wpAny_bind (W.item i z _ _ lt st fun v z' pv st' mv => ?_)
    have j' : J i z'.heap := keep _ _ _ j fun o q => mv.heap tgt o nw q
    show wpAny _ B.in1 (holding [v] (setAdd tgt v) >>= _) _ _ z'
    refine wpAny_bind (wpAny_holding (ad i v z' _ _ _ (hPv i v pv) j' fun b hp sb j2 => ?_))
    refine wpAny_pure ⟨plainId_quiet F.plain_set_update_loop _, ih (i + 1) _ (by omega) lt (W.frame _ z' _ _ st' (Nat.le_succ _) fun c hc o q => ?_) j2 fun z'' mv2 j3 => ?_⟩
    · rw [sb.2 c (fun q' : c = tgt => nf (by rw [← q']; exact hc))]
      exact q
    · refine fin z'' (Moved.trans W.gtrans ((mv.mono up).then_heap (Nat.le_succ _) fun c o hc q => ?_) mv2) j3
      rw [sb.2 c (fun q' : c = tgt => hc (by rw [q']; exact List.mem_cons_self))]
      exact q

set_option maxHeartbeats 8000000 in
/-- set(e), e a list -/
theorem setOf_list {l : Addr} {its : Array Value} {J : Nat → Heap → Prop} {z : Shared} {Qz : Value → Shared → Prop} (calm : B.handled = none) (src : z.heap.IsList l its)
    (keep : ∀ i a b, J i a → (∀ o, a.get? z.heap.objs.size = some o → b.get? z.heap.objs.size = some o) → J i b) (j0 : ∀ hp : Heap, hp.get? z.heap.objs.size = some (newS w) → J 0 hp) (ad : Adds Pg w z.heap.objs.size J its)
    (fin : ∀ (hp : Heap) (tk : Nat), J its.size hp → (∀ b o, z.heap.get? b = some o → hp.get? b = some o) → Qz (.ref z.heap.objs.size) { z with heap := hp, toks := tk }) :
    wpAny (model Pg w) B (call (.type "set") [.ref l]) Qz Er z := by
  obtain ⟨cc, rest, mro⟩ := F.called_set.mro
  have madeS := F.called_set.made
  have subS := F.called_set.sub
  refine wpAny_call (codeAny_of_tree ?_)
  show wpAny _ _ (callAny (.type "set") _) _ _ _
  refine wpAny_pure ⟨Code.quiet_builtin _ (by decide +kernel), codeAny_builtin F.entry_type_call ?_⟩
  rw [Around.under_plain (weight_type_call_type "set" [.ref l] []) rfl]
  have f1 := F.called_set.notType
  have f2 := F.called_set.canCreate
  have f3 := F.typeCall_set_1 (.ref l)
  repeat (any_goals (first | assumption | wp_step))

  refine codeAny_mono (code_set_led1 (.ref l) (E := Er) (Q₁ := fun ob z₁ => ob = .ref z.heap.objs.size ∧ z₁ = { z with heap := z.heap.push (newS w) }) ⟨rfl, rfl⟩) fun r z₁ hr => ?_
  cases r with
  | error e => exact hr
  | ok fl =>
    cases fl with
    | ret ob =>
      obtain ⟨rfl, rfl⟩ := hr
      have gS : (z.heap.push (newS w)).get? z.heap.objs.size = some (newS w) := Heap.get?_push_size _ rfl
      have tS : Shared.TypeIs { z with heap := z.heap.push (newS w) } (.ref z.heap.objs.size) "set" := ⟨_, gS, rfl⟩
      have f4 := F.called_set.init.lookup
      have f5 := F.called_set.init.bind (.ref z.heap.objs.size)
      repeat (any_goals (first | assumption | wp_step))

      refine codeAny_mono (codeAny_call_builtin (R := wants (fun r z₂ => r = .none ∧ ∃ hp tk, z₂ = { z with heap := hp, toks := tk } ∧ J its.size hp ∧ (∀ b o, z.heap.get? b = some o → hp.get? b = some o)) Er) F.called_set.init.plain F.entry_set_init (check_set_init_1 tS ?_)) fun r₂ z₂ hr₂ => ?_
      · obtain ⟨ol, gl, cl, nl, dl⟩ := src
        obtain ⟨oc, od, oda, osl⟩ := ol
        simp only at cl dl
        subst cl; subst dl
        have gl' : (z.heap.push (newS w)).get? l = some { cls := .type "list", dict := od, data := .seq its nl, slots := osl } := Heap.get?_push_of_some _ gl
        have f6 := F.sub_list_set
        have f7 := F.sub_list_frozenset
        have f8 : (Value.type "list" == Value.type "dict") = false := by decide
        have isK : (z.heap.push (newS w)).IsList l its := ⟨_, gl', rfl, nl, rfl⟩
        unfold Builtin.«set.__init__» noKeywords Builtin.Frozenset.updateFrom
        generalize hIt : pyIter = IT
        wp_walk
        subst hIt

        refine wpAny_pyIter_list isK ?_
        refine wpAny_bind (wpAny_runValue ?_)
        have ll : l < z.heap.objs.size := Heap.lt_size gl
        have calm3 : B.in1.in1.in1.handled = none := by simp [calm]
        have neI : l ≠ (z.heap.push (newS w)).objs.size := by
          rw [Heap.size_push]; exact Nat.ne_of_lt (Nat.lt_succ_of_lt ll)
        have nf : z.heap.objs.size ∉ [(z.heap.push (newS w)).objs.size, l] := by
          rw [Heap.size_push]
          simp only [List.mem_cons, List.mem_singleton, List.not_mem_nil, or_false, not_or]
          exact ⟨Nat.ne_of_lt (Nat.lt_succ_self _), Nat.ne_of_gt ll⟩
        refine addsLoop ((Walks.list calm3 _ l neI its).toS) nf keep (fun i v q => q) ad (its.size - 0) 0 _ (by omega) (Nat.zero_le _) ⟨⟨_, Heap.get?_push_size _ rfl, rfl, rfl⟩, (isK.push _)⟩ (j0 _ (Heap.get?_push_of_some _ gS)) ?fin
        case fin =>
          intro z' mv j1
          obtain ⟨hp, g2, dr, tk, os'⟩ := z'
          obtain rfl : g2 = z.gens := mv.gens
          obtain rfl : dr = z.drawn := mv.drawn
          obtain rfl : os' = z.os := mv.os
          show wpAny _ _ _ _ _ _
          refine wpAny_pure ?_
          show wpAny _ _ (ret Value.none) _ _ _
          refine wpAny_pure ⟨rfl, hp, tk, rfl, j1, fun b o q => ?_⟩
          have b0 : b < z.heap.objs.size := Heap.lt_size q
          have b1 : b ≠ z.heap.objs.size := Nat.ne_of_lt b0
          have b2 : b ≠ (z.heap.push (newS w)).objs.size := by
            rw [Heap.size_push]; exact Nat.ne_of_lt (Nat.lt_succ_of_lt b0)
          refine mv.heap b o ?_ (Heap.get?_push_of_some _ (Heap.get?_push_of_some _ q))
          simp only [List.mem_cons, List.mem_singleton, List.not_mem_nil, or_false, not_or]
          exact ⟨b1, b2⟩

      · cases r₂ with
        | error e => exact hr₂
        | ok fl₂ =>
          cases fl₂ with
          | ret r =>
            obtain ⟨rfl, hp, tk, rfl, j1, kp⟩ := hr₂
            repeat (any_goals (first | assumption | wp_step))
            exact fin _ _ j1 kp
          | _ => exact hr₂.elim
    | _ => exact hr.elim

set_option maxHeartbeats 8000000 in
/-- set(e), e a tuple -/
theorem setOf_tuple {l : Addr} {its : Array Value} {J : Nat → Heap → Prop} {z : Shared} {Qz : Value → Shared → Prop} (calm : B.handled = none) (src : z.heap.IsTuple l its)
    (keep : ∀ i a b, J i a → (∀ o, a.get? z.heap.objs.size = some o → b.get? z.heap.objs.size = some o) → J i b) (j0 : ∀ hp : Heap, hp.get? z.heap.objs.size = some (newS w) → J 0 hp) (ad : Adds Pg w z.heap.objs.size J its)
    (fin : ∀ (hp : Heap) (tk : Nat), J its.size hp → (∀ b o, z.heap.get? b = some o → hp.get? b = some o) → Qz (.ref z.heap.objs.size) { z with heap := hp, toks := tk }) :
    wpAny (model Pg w) B (call (.type "set") [.ref l]) Qz Er z := by
  obtain ⟨cc, rest, mro⟩ := F.called_set.mro
  have madeS := F.called_set.made
  have subS := F.called_set.sub
  refine wpAny_call (codeAny_of_tree ?_)
  show wpAny _ _ (callAny (.type "set") _) _ _ _
  refine wpAny_pure ⟨Code.quiet_builtin _ (by decide +kernel), codeAny_builtin F.entry_type_call ?_⟩
  rw [Around.under_plain (weight_type_call_type "set" [.ref l] []) rfl]
  have f1 := F.called_set.notType
  have f2 := F.called_set.canCreate
  have f3 := F.typeCall_set_1 (.ref l)
  repeat (any_goals (first | assumption | wp_step))

  refine codeAny_mono (code_set_led1 (.ref l) (E := Er) (Q₁ := fun ob z₁ => ob = .ref z.heap.objs.size ∧ z₁ = { z with heap := z.heap.push (newS w) }) ⟨rfl, rfl⟩) fun r z₁ hr => ?_
  cases r with
  | error e => exact hr
  | ok fl =>
    cases fl with
    | ret ob =>
      obtain ⟨rfl, rfl⟩ := hr
      have gS : (z.heap.push (newS w)).get? z.heap.objs.size = some (newS w) := Heap.get?_push_size _ rfl
      have tS : Shared.TypeIs { z with heap := z.heap.push (newS w) } (.ref z.heap.objs.size) "set" := ⟨_, gS, rfl⟩
      have f4 := F.called_set.init.lookup
      have f5 := F.called_set.init.bind (.ref z.heap.objs.size)
      repeat (any_goals (first | assumption | wp_step))

      refine codeAny_mono (codeAny_call_builtin (R := wants (fun r z₂ => r = .none ∧ ∃ hp tk, z₂ = { z with heap := hp, toks := tk } ∧ J its.size hp ∧ (∀ b o, z.heap.get? b = some o → hp.get? b = some o)) Er) F.called_set.init.plain F.entry_set_init (check_set_init_1 tS ?_)) fun r₂ z₂ hr₂ => ?_
      · obtain ⟨ol, gl, cl, nl, dl⟩ := src
        obtain ⟨oc, od, oda, osl⟩ := ol
        simp only at cl dl
        subst cl; subst dl
        have gl' : (z.heap.push (newS w)).get? l = some { cls := .type "tuple", dict := od, data := .seq its nl, slots := osl } := Heap.get?_push_of_some _ gl
        have f6 := F.sub_tuple_set
        have f7 := F.sub_tuple_frozenset
        have f8 : (Value.type "tuple" == Value.type "dict") = false := by decide
        have isK : (z.heap.push (newS w)).IsTuple l its := ⟨_, gl', rfl, nl, rfl⟩
        unfold Builtin.«set.__init__» noKeywords Builtin.Frozenset.updateFrom
        generalize hIt : pyIter = IT
        wp_walk
        subst hIt

        refine wpAny_pyIter_tuple isK ?_
        refine wpAny_bind (wpAny_runValue ?_)
        have ll : l < z.heap.objs.size := Heap.lt_size gl
        have calm3 : B.in1.in1.in1.handled = none := by simp [calm]
        have neI : l ≠ (z.heap.push (newS w)).objs.size := by
          rw [Heap.size_push]; exact Nat.ne_of_lt (Nat.lt_succ_of_lt ll)
        have nf : z.heap.objs.size ∉ [(z.heap.push (newS w)).objs.size, l] := by
          rw [Heap.size_push]
          simp only [List.mem_cons, List.mem_singleton, List.not_mem_nil, or_false, not_or]
          exact ⟨Nat.ne_of_lt (Nat.lt_succ_self _), Nat.ne_of_gt ll⟩
        refine addsLoop ((Walks.tuple calm3 _ l neI its).toS) nf keep (fun i v q => q) ad (its.size - 0) 0 _ (by omega) (Nat.zero_le _) ⟨⟨_, Heap.get?_push_size _ rfl, rfl, rfl⟩, (isK.push _)⟩ (j0 _ (Heap.get?_push_of_some _ gS)) ?fin
        case fin =>
          intro z' mv j1
          obtain ⟨hp, g2, dr, tk, os'⟩ := z'
          obtain rfl : g2 = z.gens := mv.gens
          obtain rfl : dr = z.drawn := mv.drawn
          obtain rfl : os' = z.os := mv.os
          show wpAny _ _ _ _ _ _
          refine wpAny_pure ?_
          show wpAny _ _ (ret Value.none) _ _ _
          refine wpAny_pure ⟨rfl, hp, tk, rfl, j1, fun b o q => ?_⟩
          have b0 : b < z.heap.objs.size := Heap.lt_size q
          have b1 : b ≠ z.heap.objs.size := Nat.ne_of_lt b0
          have b2 : b ≠ (z.heap.push (newS w)).objs.size := by
            rw [Heap.size_push]; exact Nat.ne_of_lt (Nat.lt_succ_of_lt b0)
          refine mv.heap b o ?_ (Heap.get?_push_of_some _ (Heap.get?_push_of_some _ q))
          simp only [List.mem_cons, List.mem_singleton, List.not_mem_nil, or_false, not_or]
          exact ⟨b1, b2⟩

      · cases r₂ with
        | error e => exact hr₂
        | ok fl₂ =>
          cases fl₂ with
          | ret r =>
            obtain ⟨rfl, hp, tk, rfl, j1, kp⟩ := hr₂
            repeat (any_goals (first | assumption | wp_step))
            exact fin _ _ j1 kp
          | _ => exact hr₂.elim
    | _ => exact hr.elim

end
end VI
end
section
set_option Elab.async false
set_option linter.all false
set_option maxRecDepth 100000
set_option maxHeartbeats 4000000
/-! VI16b: set(e) of a list of ints, sorted at once; of a tuple of texts, counted at once. -/
namespace VI
open PySem PySem.Spec PyProof.Rows L2
section
variable {Pg : Program} {w : World} {B : Around} {Er : Value → Shared → Prop}
/-! ### ints -/
/-- the set behind i adds -/
def SetJ (w : World) (tgt : Addr) (ns : List Int) (i : Nat) (hp : Heap) : Prop := ∃ c, c ≤ i ∧ SetR w hp tgt (fun j => decide (j ∈ ns.take i)) c
theorem adds_ints {its : Array Value} {ns : List Int} {tgt : Addr} (hit : IntsAre its.toList ns) (few : ns.length + 1 < scanBound) : Adds Pg w tgt (SetJ w tgt ns) its := fun i v z C Ez Qz hv ⟨c, hc, R⟩ fin => by
  have hsz : its.size = ns.length := by
    have q := IntsAre.length hit
    rwa [Array.length_toList] at q
  have hi : i < ns.length := by rw [← hsz]; exact (Array.getElem?_eq_some_iff.mp hv).1
  obtain ⟨t, e⟩ := IntsAre.int_at hit i v (by rw [Array.getElem?_toList]; exact hv)
  have hn : ns[i]? = some ns[i] := List.getElem?_eq_getElem hi
  rw [List.getD_eq_getElem?_getD, hn] at e
  subst e
  show wpAny _ C (setAdd tgt (.int ns[i] t)) Qz Ez z
  unfold setAdd
  refine wpAny_holding (wpAny_bind ((intKind Pg w).pyHash (k := ns[i]) (intKind_is _ _ _ _) ?_))
  refine setR_add_hashed (s := { z with toks := z.toks + 1 }) R (by omega) fun hp sb R2 => ?_
  have ej : ∀ j, decide (j ∈ ns.take (i + 1)) = (decide (j ∈ ns.take i) || decide (j = ns[i])) := fun j => by
    have e2 : ns.take (i + 1) = ns.take i ++ [ns[i]] := by rw [List.take_add_one, hn] <;> rfl
    rw [e2, Bool.eq_iff_iff]
    simp only [List.mem_append, List.mem_singleton, decide_eq_true_eq, Bool.or_eq_true]
  have hc2 : (if decide (ns[i] ∈ ns.take i) = true then c else c + 1) ≤ i + 1 := by split <;> omega
  exact fin _ hp sb ⟨_, hc2, R2.congr ej⟩
theorem setR_count {hp : Heap} {a : Addr} {S : Int → Bool} {n : Nat} {l : List Int} (R : SetR w hp a S n) (nd : l.Nodup) (hm : ∀ k, S k = true ↔ k ∈ l) : n = l.length := by
  obtain ⟨o, es, ep, t, _, _, _, _, d, m, _, _, hn, _⟩ := R
  have p : (es.toList.map keyOf).Perm l := (List.perm_ext_iff_of_nodup d nd).mpr fun k => (m k).symm.trans (hm k)
  rw [← hn, ← p.length_eq, List.length_map, Array.length_toList]
theorem rise_nodup {l : List Int} (h : l.Pairwise (· < ·)) : l.Nodup := h.imp fun h => Int.ne_of_lt h
end
def rSetI (K : PySem.W.Frag) (w : World) : List V → Hp → VK → Prop := fun xs H Q => ∃ (a : Addr) (ns : List Int), xs = [V.ref a] ∧ SqL K H a (ns.map V.int) ∧ ns.length ≤ 1000 ∧
  ∀ q, H q = none → Q (.ref q) (upd H q (SetO w q (fun j => decide (j ∈ ns)) (srtI ns).length))
section
variable {X : Cx} {D : Wd} {e : Expr} {fe : Ev} {p p2 q2 pos : Pos}
theorem cr_setI (calm : X.calm = true) : CallR X (.type "set") (rSetI X.K X.w) := by
  intro pins s σ H xs us Q I r ⟨a, ns, e, hq, hl, q⟩
  subst e
  rw [Vals.ref1 r]
  obtain ⟨its, rv, pl, _⟩ := I.list hq
  have hit := ints_of_vals rv
  have hsz : its.toArray.size = ns.length := by rw [List.size_toArray, ← rv.length, List.length_map]
  refine setOf_list (J := SetJ X.w s.heap.objs.size ns) (I.ok.hd calm) pl.isList (fun i a b ⟨c, hc, R⟩ k => ⟨c, hc, R.at k⟩) (fun hp g => ⟨0, Nat.le_refl 0, setR_new_at g⟩) (adds_ints (by simpa using hit) (by unfold scanBound; omega)) fun hp tk ⟨c, hc, R⟩ kp => ?_
  have R2 : SetR X.w hp s.heap.objs.size (fun j => decide (j ∈ ns)) (srtI ns).length := by
    have ec := setR_count R (rise_nodup (srt_rise ns)) fun k => by
      rw [hsz, List.take_length, decide_eq_true_iff, srt_mem]
    rw [ec] at R
    exact R.congr fun j => by rw [hsz, List.take_length]
  exact ⟨.ref _, upd H s.heap.objs.size (SetO X.w s.heap.objs.size (fun j => decide (j ∈ ns)) (srtI ns).length), I.laid (t' := tk) kp (Nat.le_refl _) (setO_new R2), rfl, q _ (I.hok.fresh (Nat.le_refl _))⟩
theorem bb_set : bootBuiltins ("set" : Str) = some (.type "set") := by decide +kernel
theorem bb_sorted : bootBuiltins ("sorted" : Str) = some (.builtin "sorted") := by decide +kernel
theorem e_srtSet [C : Cok X D] (hg : Gl X "sorted") (hm : X.mg "sorted" = none) (hg2 : Gl X "set") (hm2 : X.mg "set" = none) (ha : SE X D e fe) (he : starEach [e] X.env = (false, eval e X.env) :: starEach [] X.env := by rfl)
    (he2 : starEach [.Call (.Name "set" p2) [e] [] q2] X.env = (false, eval (.Call (.Name "set" p2) [e] [] q2) X.env) :: starEach [] X.env := by rfl) : SE X D (.Call (.Name "sorted" p) [.Call (.Name "set" p2) [e] [] q2] [] pos) (eB1 bSrtSet fe) :=
  PE_imp (pe_callB (cr_sortedSet C.calm) hg hm bb_sorted (pa_cons (pe_callTy (cr_setI C.calm) hg2 hm2 bb_set (pa_cons ha pa_nil he) (by decide) (by decide) he) pa_nil he2) (by decide) (by decide) he2) fun σ H Q ⟨n, μ, ρ, st, z, st', ok, er, hf, an⟩ => by
    obtain ⟨t, s1, h1, hf⟩ := bind_eq_ok hf
    refine ⟨n, μ, ρ, st, t, s1, ok, er, h1, fun n1 μ1 H1 y1 ok1 l1 r1 f1 => ?_⟩
    unfold bSrtSet at hf
    cases h2 : lstOf t s1 with
    | none => simp only [h2] at hf; cases hf
    | some xs =>
      simp only [h2] at hf
      cases h3 : ints? xs with
      | none => simp only [h3] at hf; cases hf
      | some ns =>
        simp only [h3] at hf
        by_cases hl : ns.length ≤ 1000 ∧ (srtI ns).length < 64
        · rw [if_pos hl] at hf
          cases hf
          obtain ⟨a, ys, rfl, ha, ra⟩ := lstOf_ok ok1 r1 h2
          obtain rfl := intsq_rp h3 ra
          refine ⟨a, ns, rfl, by rw [C.hK]; exact SqL.of ha, hl.1, fun q hq => ?_⟩
          obtain ⟨ok2, l2⟩ := ok1.upd (u := SetO X.w q (fun j => decide (j ∈ ns)) (srtI ns).length) hq
          refine ⟨q, _, _, rfl, upd_same, hl.2, fun ms p hr hmem _ hp => ?_⟩
          obtain rfl : ms = srtI ns := rise_eq hr (srt_rise ns) fun i => by rw [hmem, decide_eq_true_iff, srt_mem]
          refine ans_lst (an.le (l1.trans l2)) ok2 ?_ hp
          have : ∀ l : List Int, RpAll D n1 μ1 (upd H1 q (SetO X.w q (fun j => decide (j ∈ ns)) (srtI ns).length)) (l.map Val.int) (l.map V.int) := fun l => by
            induction l with
            | nil => exact .nil
            | cons i r ih => exact .cons (.int i) ih
          exact this _
        · rw [if_neg hl] at hf; cases hf
end
/-! ### texts -/
theorem ded_snoc {α : Type} [BEq α] (l : List α) (x : α) : dedS (l ++ [x]) = if (dedS l).contains x then dedS l else dedS l ++ [x] := by
  unfold dedS
  rw [List.foldl_append] <;> rfl
theorem ded_len {α : Type} [BEq α] (l : List α) : (dedS l).length ≤ l.length := by
  have : ∀ (l acc : List α), (l.foldl (fun acc x => if acc.contains x then acc else acc ++ [x]) acc).length ≤ acc.length + l.length := fun l => by
    induction l with
    | nil => intro acc; simp
    | cons x r ih =>
      intro acc
      rw [List.foldl_cons, List.length_cons]
      refine Nat.le_trans (ih _) ?_
      split
      · omega
      · rw [List.length_append, List.length_singleton]; omega
  simpa [dedS] using this l []
theorem ded_has {α : Type} [BEq α] [LawfulBEq α] (k : α) (l : List α) : (dedS l).contains k = l.contains k := by
  have : ∀ (l acc : List α), (l.foldl (fun acc x => if acc.contains x then acc else acc ++ [x]) acc).contains k = (acc.contains k || l.contains k) := fun l => by
    induction l with
    | nil => intro acc; simp
    | cons x r ih =>
      intro acc
      rw [List.foldl_cons, ih]
      by_cases h : acc.contains x = true
      · rw [if_pos h, List.contains_cons]
        by_cases hk : (k == x) = true
        · have := eq_of_beq hk; subst this; rw [h]; simp
        · simp only [Bool.not_eq_true] at hk; rw [hk, Bool.false_or]
      · rw [if_neg h, List.contains_cons]
        have e : (acc ++ [x]).contains k = (acc.contains k || (k == x)) := by
          rw [Bool.eq_iff_iff]
          simp [List.contains_iff_mem]
        rw [e, Bool.or_assoc]
  simpa [dedS] using this l []
theorem ded_map {α β : Type} [BEq α] [LawfulBEq α] [BEq β] [LawfulBEq β] (f : α → β) : ∀ (l acc : List α), (∀ x ∈ l ++ acc, ∀ y ∈ l ++ acc, f x = f y → x = y) →
    (l.map f).foldl (fun acc x => if acc.contains x then acc else acc ++ [x]) (acc.map f) = (l.foldl (fun acc x => if acc.contains x then acc else acc ++ [x]) acc).map f
  | [], acc, _ => rfl
  | x :: r, acc, inj => by
    have hc : (acc.map f).contains (f x) = acc.contains x := by
      rw [Bool.eq_iff_iff, List.contains_iff_mem, List.contains_iff_mem, List.mem_map]
      constructor
      · rintro ⟨y, hy, e⟩
        have := inj y (List.mem_append_right _ hy) x (List.mem_append_left _ List.mem_cons_self) e
        subst this; exact hy
      · exact fun h => ⟨x, h, rfl⟩
    rw [List.map_cons, List.foldl_cons, List.foldl_cons, hc]
    by_cases h : acc.contains x = true
    · rw [if_pos h, if_pos h]
      have mv : ∀ a, a ∈ r ++ acc → a ∈ x :: r ++ acc := fun a h => List.mem_cons_of_mem _ h
      exact ded_map f r acc fun a ha b hb => inj a (mv a ha) b (mv b hb)
    · rw [if_neg h, if_neg h]
      have e : acc.map f ++ [f x] = (acc ++ [x]).map f := by simp
      rw [e]
      have mv : ∀ a, a ∈ r ++ (acc ++ [x]) → a ∈ x :: r ++ acc := fun a h => by
        simp only [List.mem_append, List.mem_cons, List.not_mem_nil, or_false] at h ⊢
        rcases h with h | h | h
        · exact .inl (.inr h)
        · exact .inr h
        · exact .inl (.inl h)
      exact ded_map f r (acc ++ [x]) fun a ha b hb => inj a (mv a ha) b (mv b hb)
def SetS (P : Program) (w : World) (a : Addr) (S : Str → Bool) (n : Nat) : HO := .ext fun h => h.SetOf (PySem.strKind P w) a S n
theorem setOfS_at {P : Program} {w : World} {h h' : Heap} {a : Addr} {S : Str → Bool} {n : Nat} (R : h.SetOf (PySem.strKind P w) a S n) (k : ∀ o, h.get? a = some o → h'.get? a = some o) : h'.SetOf (PySem.strKind P w) a S n := by
  obtain ⟨o, es, ep, tb, ho, r⟩ := R
  exact ⟨o, es, ep, tb, k o ho, r⟩
theorem setS_new {P : Program} {w : World} {H : Hp} {h : Heap} {a : Addr} {S : Str → Bool} {n : Nat} (R : h.SetOf (PySem.strKind P w) a S n) : ObjOk P w H h a (SetS P w a S n) := by
  have ⟨o, _, _, _, ho, _⟩ := R
  exact ⟨R, ⟨o, ho⟩, fun h1 h2 p k => setOfS_at p k⟩
def SetT (P : Program) (w : World) (tgt : Addr) (xs : List Str) (i : Nat) (hp : Heap) : Prop := hp.SetOf (PySem.strKind P w) tgt (fun k => (xs.take i).contains k) (dedS (xs.take i)).length
theorem strs_get : ∀ {us : List Value} {ys : List Str}, StrsAre us ys → ∀ (i : Nat) (v : Value), us[i]? = some v → ∃ y t, ys[i]? = some y ∧ v = .str y t
  | _, _, .nil, i, v, h => by simp at h
  | _, _, .cons y t r, 0, v, h => by simp at h; exact ⟨y, t, by simp, h.symm⟩
  | _, _, .cons y t r, i + 1, v, h => by
    obtain ⟨z, t', e1, e2⟩ := strs_get r i v (by simpa using h)
    exact ⟨z, t', by simpa using e1, e2⟩
theorem adds_strs {Pg : Program} {w : World} {its : Array Value} {xs : List Str} {tgt : Addr} (hit : StrsAre its.toList xs) (few : xs.length + 1 < scanBound) : Adds Pg w tgt (SetT Pg w tgt xs) its := fun i v z C Ez Qz hv R fin => by
  obtain ⟨y, t, hy, rfl⟩ := strs_get hit i v (by rw [Array.getElem?_toList]; exact hv)
  show wpAny _ C (setAdd tgt (.str y t)) Qz Ez z
  unfold setAdd
  refine wpAny_holding (wpAny_bind ((PySem.strKind Pg w).pyHash (k := y) (strKind_is _ _ _ _) ?_))
  have hl := ded_len (xs.take i)
  have hi : i < xs.length := (List.getElem?_eq_some_iff.mp hy).1
  rw [List.length_take, Nat.min_eq_left (Nat.le_of_lt hi)] at hl
  refine wpAny_setAddHashed_of (knd := PySem.strKind Pg w) (s := { z with toks := z.toks + 1 }) (strKind_is _ _ _ _) rfl R (by omega) fun hp sb R2 => ?_
  refine fin _ hp sb (PyProof.Rows.SetOf_congr R2 (fun k => ?_) ?_)
  · rw [List.take_add_one, hy, Bool.eq_iff_iff]
    simp [List.contains_iff_mem]
  · rw [List.take_add_one, hy]
    show _ = (dedS (xs.take i ++ [y])).length
    rw [ded_snoc, ded_has]
    by_cases h : (xs.take i).contains y = true
    · rw [if_pos h, if_pos h]
    · rw [if_neg h, if_neg h, List.length_append, List.length_singleton]
def rSetS (K : PySem.W.Frag) (P : Program) (w : World) : List V → Hp → VK → Prop := fun vs H Q => ∃ (a : Addr) (xs : List Str), vs = [V.ref a] ∧ SqT K H a (xs.map V.str) ∧ xs.length ≤ 1000 ∧
  ∀ q, H q = none → Q (.ref q) (upd H q (SetS P w q (fun k => xs.contains k) (dedS xs).length))
def rLenS (P : Program) (w : World) : List V → Hp → VK → Prop := fun vs H Q => ∃ (a : Addr) (S : Str → Bool) (n : Nat), vs = [V.ref a] ∧ H a = some (SetS P w a S n) ∧ n ≤ 1000 ∧ Q (.int n) H
section
variable {X : Cx} {D : Wd} {e : Expr} {fe : Ev} {p p2 q2 pos : Pos}
theorem cr_setS (calm : X.calm = true) : CallR X (.type "set") (rSetS X.K X.prog X.w) := by
  intro pins s σ H vs us Q I r ⟨a, xs, e, hq, hl, q⟩
  subst e
  rw [Vals.ref1 r]
  obtain ⟨its, rv, pl, _⟩ := I.tuple hq
  have hit := strsAre_of rv
  have hsz : its.toArray.size = xs.length := by rw [List.size_toArray, ← rv.length, List.length_map]
  refine setOf_tuple (J := SetT X.prog X.w s.heap.objs.size xs) (I.ok.hd calm) pl (fun i a b R k => setOfS_at R k) (fun hp g => ?_) (adds_strs (by simpa using hit) (by unfold scanBound; omega)) fun hp tk R kp => ?_
  · exact PyProof.Rows.SetOf_congr ((PyProof.Rows.setObjOf_fresh (knd := PySem.strKind X.prog X.w) _).setOf g (by unfold scanBound; omega)) (fun _ => rfl) rfl
  · have R2 : hp.SetOf (PySem.strKind X.prog X.w) s.heap.objs.size (fun k => xs.contains k) (dedS xs).length := by
      unfold SetT at R
      rw [hsz, List.take_length] at R
      exact R
    exact ⟨.ref _, upd H s.heap.objs.size (SetS X.prog X.w s.heap.objs.size (fun k => xs.contains k) (dedS xs).length), I.laid (t' := tk) kp (Nat.le_refl _) (setS_new R2), rfl, q _ (I.hok.fresh (Nat.le_refl _))⟩
theorem cr_lenS : CallR X (.builtin "len") (rLenS X.prog X.w) := by
  intro pins s σ H vs us Q I r ⟨a, S, n, e, ha, hn, q⟩
  subst e
  rw [Vals.ref1 r]
  have R : s.heap.SetOf (PySem.strKind X.prog X.w) a S n := (I.hok a _ ha).1
  obtain ⟨o, es, ep, t, ho, hex, hd, _, _, _, hf, hz⟩ := R
  exact call_len_set ho hex hd hf (by rw [hz] <;> omega) ⟨.int n, H, I.tok _, ⟨_, by rw [hz]⟩, q⟩
theorem strsq_rp {n : Nat} {μ : Nat → Addr} {H : Hp} : ∀ {l : List Val} {ys : List V} {is : List Nat}, strs? l = some is → RpAll D n μ H l ys → ys = (is.map fun i => (D.S[i]?).getD Str.empty).map V.str ∧ ∀ i ∈ is, ∃ z, D.S[i]? = some z
  | [], _, _, e, r => by cases r; cases e; exact ⟨rfl, fun _ h => absurd h List.not_mem_nil⟩
  | x :: l, _, _, e, r => by
    cases r with
    | cons h r =>
      cases x with
      | str i =>
        unfold strs? at e
        obtain ⟨k', e1, rfl⟩ := Option.map_eq_some_iff.mp e
        obtain ⟨e2, e3⟩ := strsq_rp e1 r
        cases h with
        | str hz =>
          refine ⟨?_, fun j hj => ?_⟩
          · rw [e2, List.map_cons, List.map_cons, hz] <;> rfl
          · rcases List.mem_cons.mp hj with rfl | hj
            · exact ⟨_, hz⟩
            · exact e3 j hj
      | _ => cases e
theorem e_lenSet [C : Cok X D] [W : Wok D] (hg : Gl X "len") (hm : X.mg "len" = none) (hg2 : Gl X "set") (hm2 : X.mg "set" = none) (ha : SE X D e fe) (he : starEach [e] X.env = (false, eval e X.env) :: starEach [] X.env := by rfl)
    (he2 : starEach [.Call (.Name "set" p2) [e] [] q2] X.env = (false, eval (.Call (.Name "set" p2) [e] [] q2) X.env) :: starEach [] X.env := by rfl) : SE X D (.Call (.Name "len" p) [.Call (.Name "set" p2) [e] [] q2] [] pos) (eB1 bLenSet fe) :=
  PE_imp (pe_callB cr_lenS hg hm bb_len (pa_cons (pe_callTy (cr_setS C.calm) hg2 hm2 bb_set (pa_cons ha pa_nil he) (by decide) (by decide) he) pa_nil he2) (by decide) (by decide) he2) fun σ H Q ⟨n, μ, ρ, st, z, st', ok, er, hf, an⟩ => by
    obtain ⟨t, s1, h1, hf⟩ := bind_eq_ok hf
    refine ⟨n, μ, ρ, st, t, s1, ok, er, h1, fun n1 μ1 H1 y1 ok1 l1 r1 f1 => ?_⟩
    unfold bLenSet at hf
    cases t with
    | l _ => cases hf
    | v x =>
      cases x with
      | tup xs =>
        simp only at hf
        cases h3 : strs? xs with
        | none => simp only [h3] at hf; cases hf
        | some is =>
          simp only [h3] at hf
          by_cases hl : is.length ≤ 1000
          · rw [if_pos hl] at hf
            cases hf
            cases r1 with
            | tup h ra =>
              obtain ⟨rfl, hi⟩ := strsq_rp h3 ra
              have el : (dedS (is.map fun i => (D.S[i]?).getD Str.empty)).length = (dedS is).length := by
                have := ded_map (fun i => (D.S[i]?).getD Str.empty) is [] fun x hx y hy exy => by
                  rw [List.append_nil] at hx hy
                  obtain ⟨a, ha⟩ := hi x hx
                  obtain ⟨b, hb⟩ := hi y hy
                  rw [ha, hb] at exy
                  simp only [Option.getD_some] at exy
                  subst exy
                  exact nodup_ix W.nd ha hb
                unfold dedS
                rw [List.map_nil] at this
                rw [this, List.length_map]
              refine ⟨_, _, rfl, by rw [C.hK]; exact h.sq, by rw [List.length_map]; exact hl, fun q hq => ?_⟩
              obtain ⟨ok2, l2⟩ := ok1.upd (u := SetS X.prog X.w q (fun k => (is.map fun i => (D.S[i]?).getD Str.empty).contains k) (dedS (is.map fun i => (D.S[i]?).getD Str.empty)).length) hq
              refine ⟨q, _, _, rfl, upd_same, ?_, ?_⟩
              · rw [el]; exact Nat.le_trans (ded_len is) hl
              · rw [el]
                rw [el] at ok2 l2
                exact ans_v (an.le (l1.trans l2)) ok2 (.int _)
          · rw [if_neg hl] at hf; cases hf
      | _ => cases hf
end
end VI
end
section
set_option Elab.async false
set_option linter.all false
set_option maxRecDepth 100000
set_option maxHeartbeats 4000000
/-! VI17: calls that leave the keyword-only parameters to their defaults. -/
namespace VI
open PySem PySem.Spec PyProof.Rows L2
structure DefU (P : Program) (w : World) (K : PySem.W.Frag) (mg : Str → Option Value) (base : Heap) (D : Wd) (k : Nat) (x : Str) (np : Nat) (F : Fn) (ds : List Val) : Prop where
  ex : ∃ f fd ps dvs us, mg x = some (.ref f) ∧ PySem.W.keepIn K (.ref f) = true ∧ L2.Binds K fd ps us ∧ Vals dvs us ∧ (∀ n μ H, RpAll D n μ H ds dvs) ∧ FnOk P w K mg base C8.CX0 k f fd ps (spF D np F)
  db : (x == ("__debug__" : Str)) = false
section
variable {X : Cx} {D : Wd} {e : Expr} {es : List Expr} {ga : Avs} {pos p : Pos} {k j np : Nat} {x : Str} {F : Fn} {ds : List Val}
theorem e_callU (d : DefU X.prog X.w X.K X.mg X.base D k x np F ds) (hr : Room k X.A) (hg : Gl X x) (ha : SA X D (e :: es) ga) (har : Arity ga j) (hj : j + ds.length = np) (he : starEach (e :: es) X.env = (false, eval e X.env) :: starEach es X.env := by rfl)
    (hpl : (backTo pos (starEach es X.env)).any (·.1) = false := by rfl) : SE X D (.Call (.Name x p) (e :: es) [] pos) (eCall F (aApp ga (aDs ds))) := by
  obtain ⟨f, fd, ps, dvs, us, h1, h2, h3, hv, hd, h4⟩ := d.ex
  refine PE_imp (pe_call h4 hr hg h1 h2 h3 hv (C8.pass0 (E := C8.E0)) ha d.db he hpl) fun σ H Q ⟨n, μ, ρ, st, z, st', ok, er, hf, an⟩ => ?_
  obtain ⟨xs, s1, g1, hf⟩ := bind_eq_ok hf
  obtain ⟨as, s2, g2, g1⟩ := bind_eq_ok g1
  obtain ⟨bs, s3, g3, g1⟩ := bind_eq_ok g1
  cases g3; cases g1
  refine ⟨n, μ, ρ, st, as, _, ok, er, g2, fun n1 μ1 H1 ys ok1 l1 r1 => ?_⟩
  have hd1 := hd n1 μ1 H1
  exact ⟨by rw [List.length_append, ← r1.length, ← hd1.length, har _ _ _ _ g2, hj], n1, μ1, _, as ++ ds, z, st', ok1, r1.append hd1, hf, an.le l1⟩
end
section
variable {P : Program} {w : World} {K : PySem.W.Frag} {mg : Str → Option Value} {base : Heap} {S : List Str} {Cn : Nat → Str} {T : List (Addr × Str)}
theorem glob_rp {x : Str} {v : Val} (g : ∀ L, GV (mkW S Cn K T L) mg x v) (hm : mg x = some (.ref (He.ga K x))) (L : Option (Nat × Addr × LF)) (n : Nat) (μ : Nat → Addr) (H : Hp) : Rp (mkW S Cn K T L) n μ H v (.ref (He.ga K x)) := by
  obtain ⟨u, y, h1, h2, h3⟩ := g L
  rw [hm] at h1
  cases h1
  have e : y = .ref (He.ga K x) := by
    cases y with
    | ref a => exact congrArg V.ref (Value.ref.inj h2).symm
    | int i => obtain ⟨t, q⟩ := h2; cases q
    | str i => obtain ⟨t, q⟩ := h2; cases q
    | byt i => obtain ⟨t, q⟩ := h2; cases q
    | flt i => obtain ⟨t, q⟩ := h2; cases q
    | _ => cases h2
  rw [← e]
  exact h3 n μ H
/-- one keyword-only parameter, its default a global -/
theorem defU_of {x y : Str} {params : Arguments} {body : List Stmt} {scope : Scope} {f : Addr} {fd : FuncData} {ps : List Str} {k n np : Nat} {F : Fn} {g : Str} {v : Val} (hm : mg x = some (.ref f)) (Fd : FunD K x x params body scope [] [(y, .ref (He.ga K g))] f fd) (hn : n + 1 = ps.length)
    (gv : ∀ L, GV (mkW S Cn K T L) mg g v) (gg : mg g = some (.ref (He.ga K g)))
    (h : ∀ (D : Addr) (doc pm : Value) (an : Option Addr) (cdv ct : Value) (us ks : List Value), us.length = n → ks.length = 1 → KwChain D ([y].zip ks) (bindArgs (PySem.W.fnOf x x params body scope .none (.ref D) doc pm an cdv ct) ⟨us, []⟩) (ps.zip (us ++ ks)))
    (hF : FnOk P w K mg base C8.CX0 k f fd ps (spF (mkW S Cn K T none) np F)) (hx : (x == ("__debug__" : Str)) = false) : DefU P w K mg base (mkW S Cn K T none) k x np F [v] := by
  obtain ⟨us, hv, hb⟩ := Fd.binds0 n (by simp) hn h
  exact ⟨⟨f, fd, ps, _, us, hm, Fd.kp, hb, hv, fun n μ H => .cons (glob_rp gv gg none n μ H) .nil, hF⟩, hx⟩
end
end VI
end
section
set_option Elab.async false
set_option linter.all false
set_option maxRecDepth 100000
set_option maxHeartbeats 4000000
/-! VI18: == of two lists of instances whose class has an own __eq__. -/
namespace VI
open PySem PySem.Spec PyProof.Rows L2
section
variable {X : Cx} {D : Wd} {k : Nat} {F : Fn} {c : Nat}
theorem ins_eq_at {A : Around} {pins : List (Addr × Obj)} {σ : L2.St} {H : Hp} {s : Shared} {n : Nat} {μ : Nat → Addr} {st s1 : Store} {i j : Nat} {b : Bool} {u v : Val} {R : Value → Shared → Prop} (d : EqM X.prog X.w X.K X.mg X.base D k c F) (hr : Room k A) (hfr : A.frames = X.A.frames) (I : L2.Inv X pins σ H s) (ok : Ok D n μ H st)
    (hi : isIns (.v (.ref i)) c st = some u) (hj : isIns (.v (.ref j)) c st = some v) (h3 : F [.ref i, .ref j] st = .ok (.v (.bool b)) s1) (fin : ∀ n' μ' H' s', L2.Inv X pins σ H' s' → Ok D n' μ' H' s1 → Le n μ H n' μ' H' → R (.bool b) s') :
    wpAny (model X.prog X.w) A (richCompare .Eq (.ref (μ i)) (.ref (μ j))) R X.xe s := by
  obtain ⟨f, fd, ps, hs, hfn, hb, hF⟩ := d.ex
  have lti : i < n := by
    unfold isIns at hi
    cases e : st[i]? with
    | none => simp [e] at hi
    | some o => exact ok.lt e
  have ltj : j < n := by
    unfold isIns at hj
    cases e : st[j]? with
    | none => simp [e] at hj
    | some o => exact ok.lt e
  have ra : Rp D n μ H (.ref i) (.ref (μ i)) := .ref lti
  have rb : Rp D n μ H (.ref j) (.ref (μ j)) := .ref ltj
  obtain ⟨aa, dx, gs, e1, e2, hA⟩ := isIns_ok (x := .v (.ref i)) ok ra hi
  obtain ⟨ab, dy, hs', e3, e4, hB⟩ := isIns_ok (x := .v (.ref j)) ok rb hj
  cases e2
  cases e4
  obtain ⟨mA, J, _⟩ := ins_get I.hok hA
  obtain ⟨mB, J', _⟩ := ins_get I.hok hB
  obtain ⟨od, J, _⟩ := J.look
  obtain ⟨od', J', _⟩ := J'.look
  obtain ⟨m, hFr⟩ := I.fr
  refine PySem.W.cmp_K (op := .Eq) (tb := .ref (D.C c)) hr.units0 hFr I.ok.mod.kin J J'.type (by simp [PySem.W.notFirst]) hs hfn ?_
  have hsp : spF D 2 F [.ref (μ i), .ref (μ j)] H (fun v H' => v = .bl b ∧ ∃ n' μ', Ok D n' μ' H' s1 ∧ Le n μ H n' μ' H') C8.E0 := ⟨rfl, n, μ, st, [.ref i, .ref j], _, s1, ok, .cons ra (.cons rb .nil), h3, fun n' μ' H' y' ok' l' r' f' => by
    cases r'
    exact ⟨rfl, n', μ', ok', l'⟩⟩
  have e0 : Env0 X.prog X.w X.K X.mg X.base A X.stack s H := by
    have e := I.env0
    exact ⟨by rw [hfr]; exact e.frames, e.mod, e.bs, e.bsz, e.funs, e.frf, e.hok, e.bare⟩
  have hl := hF.len _ _ _ _ hsp
  have r2 : Vals [V.ref (μ i), V.ref (μ j)] [Value.ref (μ i), Value.ref (μ j)] := .cons rfl (.cons rfl .nil)
  refine wpAny_call (codeAny_mono (hF.run A X.stack s H ⟨[.ref (μ i), .ref (μ j)], []⟩ [.ref (μ i), .ref (μ j)] [.ref (μ i), .ref (μ j)] _ C8.E0 hr e0 (by
    have := hb s [.ref (μ i), .ref (μ j)] I.kIn (by simpa using hl)
    simpa using this) r2 hsp) fun r s' hq => ?_)
  cases r with
  | error e => exact (show False from hq).elim
  | ok fl =>
    cases fl with
    | ret w =>
      obtain ⟨z, H', I', rz, ez, n', μ', ok', l'⟩ := I.after hq
      subst ez
      obtain rfl : w = Value.bool b := rz
      exact fin n' μ' H' s' I' ok' l'
    | next => exact False.elim hq
    | brk => exact False.elim hq
    | cont => exact False.elim hq
theorem s_eqIL (d : EqM X.prog X.w X.K X.mg X.base D k c F) (hr : Room (k + 1) X.A) : OpR X (compareOp .Eq) (rO D (cEqIL c F)) := by
  intro pins s σ H x y v u Q I rx ry ⟨n, μ, st, a, b, z, st', ok, ra, rb, hf, an⟩
  unfold cEqIL at hf
  cases h1 : lstOf a st with
  | none => simp only [h1] at hf; cases hf
  | some xs0 =>
    simp only [h1] at hf
    obtain ⟨t, s1, h2, hf⟩ := bind_eq_ok hf
    cases hf
    generalize hN : xs0.length = N at h2
    obtain ⟨la, _, rfl, _, _⟩ := lstOf_ok ok ra h1
    have hb0 : ∃ ys0, lstOf b st = some ys0 := by
      cases e : lstOf b st with
      | none => cases N <;> (simp only [eqGo, h1, e] at h2; cases h2)
      | some ys0 => exact ⟨ys0, rfl⟩
    obtain ⟨ys0, hb0⟩ := hb0
    obtain ⟨lb, _, rfl, _, _⟩ := lstOf_ok ok rb hb0
    cases rx
    cases ry
    refine GQ.rc_listG hr.units0 (N := N) (I := fun i s => ∃ n μ H st, L2.Inv X pins σ H s ∧ Ok D n μ H st ∧ Rt D n μ H a (.ref la) ∧ Rt D n μ H b (.ref lb) ∧ i ≤ N ∧ eqGo c F a b N (N - i) st = .ok t st' ∧ Ans D n μ H (.v (.bool true)) st' Q) ?_ ?_ ⟨n, μ, H, st, I, ok, ra, rb, Nat.zero_le _, h2, an⟩
    · intro i s' ⟨n', μ', H', st2, I', ok', ra', rb', hi, hg, an'⟩
      have key : ∃ xs ys, lstOf a st2 = some xs ∧ lstOf b st2 = some ys ∧ xs.length = N ∧ ys.length = N ∧ ∀ m, N - i = m + 1 → ∃ j k u v, xs[i]? = some (.ref j) ∧ ys[i]? = some (.ref k) ∧ isIns (.v (.ref j)) c st2 = some u ∧ isIns (.v (.ref k)) c st2 = some v ∧ (if j = k then eqGo c F a b N m st2 else (F [.ref j, .ref k] st2).bind fun r s => match r with
            | .v (.bool b') => if b' = true then eqGo c F a b N m s else .bad
            | _ => .bad) = .ok t st' := by
        cases hm : N - i with
        | zero =>
          rw [hm] at hg
          unfold eqGo at hg
          split at hg
          · rename_i xs ys e1 e2
            split at hg
            · rename_i hl
              exact ⟨xs, ys, e1, e2, hl.1, hl.2, fun m h => by cases h⟩
            · cases hg
          · cases hg
        | succ m =>
          rw [hm] at hg
          unfold eqGo at hg
          split at hg
          · rename_i xs ys e1 e2
            split at hg
            · rename_i hl
              refine ⟨xs, ys, e1, e2, hl.1, hl.2, fun m' h => ?_⟩
              cases h
              have ei : N - (m + 1) = i := by omega
              rw [ei] at hg
              split at hg
              · rename_i j k e3 e4
                split at hg
                · rename_i u v e5 e6
                  exact ⟨j, k, u, v, e3, e4, e5, e6, hg⟩
                · cases hg
              · cases hg
            · cases hg
          · cases hg
      obtain ⟨xs, ys, e1, e2, l1, l2, nx⟩ := key
      obtain ⟨la', zs, q1, hA, rA⟩ := lstOf_ok ok' ra' e1
      cases q1
      obtain ⟨lb', ws, q2, hB, rB⟩ := lstOf_ok ok' rb' e2
      cases q2
      obtain ⟨_, its, c1, r1, g1⟩ := (show ObjOk X.prog X.w H' s'.heap la (.lst zs) from I'.hok _ _ hA)
      obtain ⟨_, its2, c2, r2, g2⟩ := (show ObjOk X.prog X.w H' s'.heap lb (.lst ws) from I'.hok _ _ hB)
      refine ⟨its.toArray, its2.toArray, c1, c2, g1, g2, by rw [List.size_toArray, ← r1.length, ← rA.length, l1], by rw [List.size_toArray, ← r2.length, ← rB.length, l2], fun h1 h2 => ?_⟩
      have hlt : i < N := by rw [List.size_toArray, ← r1.length, ← rA.length, l1] at h1; exact h1
      obtain ⟨m, hm⟩ : ∃ m, N - i = m + 1 := ⟨N - i - 1, by omega⟩
      obtain ⟨j, k', u', v', e3, e4, e5, e6, hgo⟩ := nx m hm
      have hm2 : N - (i + 1) = m := by omega
      obtain ⟨y1, e7, p1⟩ := rA.get e3
      obtain ⟨y2, e8, p2⟩ := rB.get e4
      cases p1
      cases p2
      obtain ⟨w1, e9, p3⟩ := r1.get e7
      obtain ⟨w2, e10, p4⟩ := r2.get e8
      cases p3
      cases p4
      have x1 : its.toArray[i] = Value.ref (μ' j) := by
        have := (List.getElem?_eq_some_iff.mp e9).2
        simpa using this
      have x2 : its2.toArray[i] = Value.ref (μ' k') := by
        have := (List.getElem?_eq_some_iff.mp e10).2
        simpa using this
      rw [x1, x2]
      by_cases hjk : j = k'
      · subst hjk
        rw [if_pos rfl] at hgo
        refine SeqAt.EqAt.same (A := X.A.in1) (s := s') (.ref (μ' j)) X.prog X.w X.xe _ ⟨rfl, n', μ', H', st2, I', ok', ra', rb', hlt, ?_, an'⟩
        rw [hm2]; exact hgo
      · rw [if_neg hjk] at hgo
        obtain ⟨rr, s3, h5, hgo⟩ := bind_eq_ok hgo
        have hne : μ' j ≠ μ' k' := fun q => hjk (ok'.inj j k' (by
          cases e : st2[j]? with
          | none => simp [isIns, e] at e5
          | some o => exact ok'.lt e) (by
          cases e : st2[k']? with
          | none => simp [isIns, e] at e6
          | some o => exact ok'.lt e) q)
        cases rr with
        | l _ => cases hgo
        | v rr =>
          cases rr with
          | bool bb =>
            cases bb with
            | false => cases hgo
            | true =>
              refine GQ.eqBool_refG hne (ins_eq_at d hr.in1 rfl I' ok' e5 e6 h5 fun n3 μ3 H3 s4 I3 ok3 l3 => ⟨true, rfl, rfl, n3, μ3, H3, s3, I3, ok3, ra'.mono l3, rb'.mono l3, hlt, ?_, an'.le l3⟩)
              rw [hm2]; exact hgo
          | _ => cases hgo
    · intro s' ⟨n', μ', H', st2, I', ok', ra', rb', hi, hg, an'⟩
      rw [Nat.sub_self] at hg
      unfold eqGo at hg
      split at hg
      · split at hg
        · cases hg
          exact ⟨.bl true, H', I', rfl, ans_v an' ok' (.bool true)⟩
        · cases hg
      · cases hg
end
end VI
end
section
set_option Elab.async false
set_option linter.all false
set_option maxRecDepth 100000
set_option maxHeartbeats 4000000
/-! VI19: a list taken apart. -/
namespace VI
open PySem PySem.Spec PyProof.Rows L2
section
variable {X : Cx} {D : Wd} {pos : Pos}
theorem g_L [C : Cok X D] {is : List Nat} {es : List Expr} {k : Nat} (h : PGs X es (rGs D is)) (hn : (assignEach es X.env).length = is.length := by rfl) (hst : (assignEach es X.env).findIdx? (·.1) = none := by rfl) : SG X D (.Tuple es k pos) is (gL is) :=
  PG_imp (pg_unl C.calm h hn hst) fun v σ H Q ⟨n, μ, ρ, st, x, ρ', st', ok, er, rx, hg, q⟩ => by
    unfold gL at hg
    cases h1 : lstOf (.v x) st with
    | none => rw [h1] at hg; cases hg
    | some xs =>
      rw [h1] at hg
      cases h2 : setAll is xs ρ with
      | none => simp only [h2] at hg; cases hg
      | some ρ2 =>
        simp only [h2] at hg
        cases hg
        obtain ⟨a, ys, e, ha, ra⟩ := lstOf_ok (t := .v x) ok rx h1
        subst e
        exact ⟨a, ys, rfl, by rw [C.hK]; exact SqL.of ha, by rw [← ra.length]; exact setAll_len h2, n, μ, ρ, st, xs, ρ', ok, er, ra, h2, fun σ' er' w => q n μ H σ' ok (Le.refl _ _ _) er' w⟩
end
end VI
end
section
set_option Elab.async false
set_option linter.all false
set_option maxRecDepth 100000
set_option maxHeartbeats 4000000
/-! VI20: properties of an own class, and len by an own __len__. -/
namespace VI
open PySem PySem.Spec PyProof.Rows L2
structure PropM (P : Program) (w : World) (K : PySem.W.Frag) (mg : Str → Option Value) (base : Heap) (D : Wd) (k : Nat) (c m : Nat) (z : Str) (F : Fn) : Prop where
  ex : ∃ p f fd ps, Cls K (D.C c) ∧ L2.PropOf K (D.C c) z p f ∧ L2.Binds K fd ps [] ∧ FnOk P w K mg base C8.CX0 k f fd ps (spF D 1 F)
  nm : D.S[m]? = some z
structure LenM (P : Program) (w : World) (K : PySem.W.Frag) (mg : Str → Option Value) (base : Heap) (D : Wd) (k : Nat) (c : Nat) (F : Fn) : Prop where
  ex : ∃ f fd ps, PySem.W.findIn K (.ref (D.C c)) "__len__" = some (some (.ref f)) ∧ PySem.W.isFn K (.ref f) = true ∧ L2.Binds K fd ps [] ∧ FnOk P w K mg base C8.CX0 k f fd ps (spF D 1 F)
section
variable {X : Cx} {D : Wd} {o e : Expr} {fe : Ev} {pos p : Pos} {k : Nat} {x : Str} {F : Fn}
theorem e_prop [W : Wok D] {c m : Nat} {z : Str} (d : PropM X.prog X.w X.K X.mg X.base D k c m z F) (hr : Room (k + 1) X.A) (ho : SE X D o fe)
    (hb : attributeBase o z X.env (eval o X.env) = eval o X.env := by rfl) : SE X D (.Attribute o z pos) (eMeth c m F fe aNil) := by
  obtain ⟨pa, f, fd, ps, h1, h2, h3, h4⟩ := d.ex
  refine PE_imp (pe_prop ho h1 h2 h4 hr h3 .nil (C8.pass0 (E := C8.E0)) hb) fun σ H Q h => ?_
  obtain ⟨n, μ, ρ, st, w, st', ok, er, hf, an⟩ := h
  obtain ⟨x, s1, g1, hf⟩ := bind_eq_ok hf
  refine ⟨n, μ, ρ, st, x, s1, ok, er, g1, fun n1 μ1 H1 y1 ok1 l1 r1 f1 => ?_⟩
  cases x with
  | l _ => cases hf
  | v x =>
    by_cases hc : isCls x c m s1 = true
    · simp only [if_pos hc] at hf
      obtain ⟨a, dx, gs, rfl, g3, g4⟩ := isCls_ok d.nm ok1 r1 hc
      exact ⟨a, dx, gs, rfl, g3, rfl, n1, μ1, s1, [x], w, st', ok1, .cons r1 .nil, hf, an.le l1⟩
    · simp only [if_neg hc] at hf; cases hf
theorem r_lenI {c : Nat} (d : LenM X.prog X.w X.K X.mg X.base D k c F) (hr : Room (k + 1) X.A) : CallR X (.builtin "len") (rB D (bLenI c F)) := by
  intro pins s σ H xs us Q I r ⟨n, μ, st, a, y, z, st', e, ok, ra, hf, an⟩
  subst e
  obtain ⟨f, fd, ps, hs, hfn, hb, hF⟩ := d.ex
  unfold bLenI at hf
  cases h1 : isIns a c st with
  | none => rw [h1] at hf; cases hf
  | some va =>
    rw [h1] at hf
    obtain ⟨t, s1, h3, hf⟩ := bind_eq_ok hf
    obtain ⟨aa, dx, gs, rfl, rfl, hA⟩ := isIns_ok ok ra h1
    obtain ⟨u, rfl, ru⟩ := vals1 r
    obtain rfl : u = Value.ref aa := ru
    obtain ⟨mA, J, _⟩ := ins_get I.hok hA
    obtain ⟨od, J, _⟩ := J.look
    have hsp : spF D 1 F [.ref aa] H (fun v H' => ∃ i : Int, v = .int i ∧ 0 ≤ i ∧ i < 9223372036854775808 ∧ Q (.int i) H') C8.E0 := ⟨rfl, n, μ, st, [va], t, s1, ok, .cons ra .nil, h3, fun n' μ' H' y' ok' l' r' f' => by
      cases t with
      | l _ => cases hf
      | v t =>
        cases t with
        | int i =>
          by_cases hi : 0 ≤ i ∧ i < 9223372036854775808
          · simp only [if_pos hi] at hf
            cases hf
            cases r'
            exact ⟨i, rfl, hi.1, hi.2, an n' μ' H' _ ok' l' (.int i) trivial⟩
          · simp only [if_neg hi] at hf
            cases hf
        | _ => cases hf⟩
    have hl := hF.len _ _ _ _ hsp
    have r2 : Vals [V.ref aa] [Value.ref aa] := .cons rfl .nil
    refine Calls.call_function_entry kind_len plain_len entry_len (args_len1 _) ?_
    unfold Builtin.«len»
    refine wpAny_bind (m := oneArg "len" _) (wpAny_pure ?_)
    refine wpAny_bind (m := callSpecial? (.ref aa) (PySem.Str.ofString "__len__")) (PySem.W.special_fn I.kIn J hs (beq_iff_eq.mp hfn) ?_)
    refine wpAny_call (codeAny_mono (hF.run X.A.in1 X.stack s H ⟨[.ref aa], []⟩ [.ref aa] [.ref aa] _ C8.E0 hr.in1 I.env0.in1 (by
        have := hb s [.ref aa] I.kIn (by simpa using hl)
        simpa using this) r2 hsp) fun r s' hq => ?_)
    cases r with
    | error e => exact (show False from hq).elim
    | ok fl =>
      cases fl with
      | ret w =>
        obtain ⟨z, H', I', rz, i, ez, i1, i2, q⟩ := I.after hq
        subst ez
        obtain ⟨tk, rfl⟩ := rz
        show wpAny _ _ _ _ _ s'
        refine wpAny_bind (wpAny_holding (wpAny_pure ?_))
        refine wpAny_bind (wpAny_letGo ?_)
        show wpAny _ _ (if i < 0 then _ else _) _ _ _
        rw [if_neg (by omega)]
        show wpAny _ _ (if i ≥ 2 ^ 63 then _ else _) _ _ _
        rw [if_neg (by omega)]
        exact wpAny_bind (wpAny_mkInt (wpAny_pure ⟨_, rfl, ⟨.int i, H', I'.tok _, ⟨_, rfl⟩, q⟩⟩))
      | next => exact False.elim hq
      | brk => exact False.elim hq
      | cont => exact False.elim hq
theorem e_lenI {c : Nat} (d : LenM X.prog X.w X.K X.mg X.base D k c F) (hr : Room (k + 1) X.A) (hg : Gl X "len") (hm : X.mg "len" = none) (ha : SE X D e fe)
    (he : starEach [e] X.env = (false, eval e X.env) :: starEach [] X.env := by rfl) : SE X D (.Call (.Name "len" p) [e] [] pos) (eB1 (bLenI c F) fe) := e_bB (r_lenI d hr) hg hm (by decide +kernel) ha (by decide) (by decide) he
end
end VI
end
section
set_option Elab.async false
set_option linter.all false
set_option maxRecDepth 100000
set_option maxHeartbeats 4000000
/-! VI21: the head's Hook with getters of properties. -/
namespace VI
open PySem PySem.Spec PyProof.Rows L2
/-- the getter behind the name of a class -/
def getA (K : PySem.W.Frag) (c m : Str) : Addr := match PySem.W.recIn K (He.ma K (He.ga K c) m) "property" with
  | some (.ref g :: _) => g
  | _ => 0
structure GetD where
  cls : Str
  prop : Str
  name : Str
  qual : Str
  params : Arguments
  body : List Stmt
  scope : Scope
def fnWA (K : PySem.W.Frag) (a : Addr) : He.FnW := match K.lookup a with
  | some ⟨_, _, .func fd, _⟩ => some (fd.name, fd.qualname, fd.params, fd.body, fd.scope, fd.globals, fd.closure, fd.builtins)
  | _ => none
def GetD.at_ (d : GetD) (K : PySem.W.Frag) : Addr := getA K d.cls d.prop
def GetD.val (d : GetD) : He.FnW := some (d.name, d.qual, d.params, .stmts d.body, d.scope, mainGlobals, [], builtinsNs)
def GetD.ok (K : PySem.W.Frag) (d : GetD) : Bool := PySem.W.keepIn K (.ref (d.at_ K)) && (match K.lookup (d.at_ K) with
  | some ⟨_, _, .func fd, _⟩ => PySem.W.codeIn K fd.code d.qual && (He.dflB K fd.defaults [] && He.kwdB K fd.kwdefaults [])
  | _ => false)
theorem GetD.funD {K : PySem.W.Frag} {d : GetD} (e : fnWA K (d.at_ K) = d.val) (c : d.ok K = true) : ∃ fd, FunD K d.name d.qual d.params d.body d.scope [] [] (d.at_ K) fd := by
  obtain ⟨kp, c2⟩ := He.ba c
  unfold fnWA at e
  cases q : K.lookup (d.at_ K) with
  | none =>
    rw [q] at c2
    cases c2
  | some o =>
    obtain ⟨oc, od, dt, osl⟩ := o
    rw [q] at c2 e
    cases dt with
    | func fd =>
      obtain ⟨n1, n2, n3, n4, n5, n6, n7, n8, n9, n10, n11, n12, n13, n14, n15⟩ := fd
      have e2 : (some (n1, n2, n3, n4, n5, n6, n7, n15) : He.FnW) = some (d.name, d.qual, d.params, .stmts d.body, d.scope, mainGlobals, [], builtinsNs) := e
      simp only [Option.some.injEq, Prod.mk.injEq] at e2
      obtain ⟨h1, h2, h3, h4, h5, h6, h7, h8⟩ := e2
      subst h1 h2 h3 h4 h5 h6 h7 h8
      have c3 : (PySem.W.codeIn K n13 d.qual && (He.dflB K n8 [] && He.kwdB K n9 [])) = true := c2
      obtain ⟨k1, k2⟩ := He.ba c3
      obtain ⟨k3, k4⟩ := He.ba k2
      exact ⟨_, ⟨oc, od, n8, n9, n10, n11, n12, n13, n14, osl, rfl, q, k1, He.dflB_ok k3, He.kwdB_ok k4⟩, kp⟩
    | _ => cases c2
def propB (K : PySem.W.Frag) (c m : Str) : Bool :=
  He.eqO (PySem.W.findIn K (.ref (He.ga K c)) m) (some (some (.ref (He.ma K (He.ga K c) m)))) && (He.eqO (PySem.W.specialIn K (.ref (He.ma K (He.ga K c) m)) "__get__") (some (some (.builtin "property.__get__"))) &&
    (decide (PySem.W.takesIn K (.ref (He.ma K (He.ga K c) m)) = some true) && (match PySem.W.recIn K (He.ma K (He.ga K c) m) "property" with
      | some (.ref _ :: _) => true
      | _ => false)))
theorem propB_ok {K : PySem.W.Frag} {c m : Str} (h : propB K c m = true) : L2.PropOf K (He.ga K c) m (He.ma K (He.ga K c) m) (getA K c m) := by
  obtain ⟨h1, h⟩ := He.ba h
  obtain ⟨h2, h⟩ := He.ba h
  obtain ⟨h3, h4⟩ := He.ba h
  refine ⟨He.eqO_ok h1, He.eqO_ok h2, of_decide_eq_true h3, ?_⟩
  unfold getA
  split at h4
  · rename_i g r e
    exact ⟨r, by rw [e]⟩
  · cases h4
structure SaysP (ck : PySem.W.Frag → List Bool) (fn : List He.DefD) (gn : List GetD) (lams : List (Str × Option Str)) (K : PySem.W.Frag) (h : Heap) : Prop where
  v : SaysV ck fn lams K h
  g : ∀ d ∈ gn, fnWA K (d.at_ K) = d.val
def obsP (as : List Addr) (ck : PySem.W.Frag → List Bool) (fn : List He.DefD) (gn : List GetD) (lams : List (Str × Option Str)) (g : Addr → Option Obj) : He.AlD × List He.FnW :=
  (obsV as ck fn lams g, gn.map fun d => fnWA (He.frG g as) (d.at_ (He.frG g as)))
def hookP (as : List Addr) (ck : PySem.W.Frag → List Bool) (fn : List He.DefD) (gn : List GetD) (lams : List (Str × Option Str)) : PySem.W.Hook where
  α := He.AlD × List He.FnW
  obs := fun s => obsP as ck fn gn lams s.heap.get?
  val := fun _ => (He.valD fn, gn.map GetD.val)
  says := fun _ h => ∃ K : PySem.W.Frag, SaysP ck fn gn lams K h
  of := fun _ s e0 => by
    have e : obsV as ck fn lams s.heap.get? = He.valD fn := congrArg (fun z : He.AlD × List He.FnW => z.1) e0
    have eg : (gn.map fun d => fnWA (He.frG s.heap.get? as) (d.at_ (He.frG s.heap.get? as))) = gn.map GetD.val := congrArg (fun z : He.AlD × List He.FnW => z.2) e0
    refine ⟨He.frG s.heap.get? as, ⟨He.frG_in, ?_, ?_, ?_⟩, fun d hd => List.map_inj_left.mp eg d hd⟩
    · exact (He.ba (congrArg (fun z : He.AlD => z.1) e)).1
    · have e2 : fn.map (fun d => He.fnW (He.frG s.heap.get? as) d.at_) = fn.map He.DefD.val := congrArg (fun z : He.AlD => z.2) e
      obtain ⟨h1, _⟩ := He.ba (He.ba (congrArg (fun z : He.AlD => z.1) e)).2
      exact fun d hd => ⟨List.all_eq_true.mp h1 d hd, List.map_inj_left.mp e2 d hd⟩
    · obtain ⟨_, h2⟩ := He.ba (He.ba (congrArg (fun z : He.AlD => z.1) e)).2
      intro p hp
      have h3 := List.all_eq_true.mp h2 p hp
      simp only [Bool.and_eq_true] at h3
      obtain ⟨k1, k2, k3, k4⟩ := h3
      exact ⟨k1, k2, emptyB_ok k3, by simpa using k4⟩
  keeps := fun _ _ _ ⟨K, s⟩ k => ⟨K, ⟨PySem.W.Frag.In.keeps s.v.kin k, s.v.ck, s.v.fn, fun p hp => let ⟨a, b, c, d⟩ := s.v.lam p hp; ⟨a, b, k _ _ c, d⟩⟩, s.g⟩
theorem obsP_eq {as : List Addr} {ck : PySem.W.Frag → List Bool} {fn : List He.DefD} {gn : List GetD} {lams : List (Str × Option Str)} {g : Addr → Option Obj} {s : Shared} (h : ∀ a, g a = s.heap.get? a) : obsP as ck fn gn lams g = (hookP as ck fn gn lams).obs s := by
  have e : g = s.heap.get? := funext h
  rw [e] <;> rfl
theorem SaysP.get_ {ck : PySem.W.Frag → List Bool} {fn : List He.DefD} {gn : List GetD} {lams : List (Str × Option Str)} {K : PySem.W.Frag} {h : Heap} (s : SaysP ck fn gn lams K h) {d : GetD} (hd : d ∈ gn) (ok : d.ok K = true) : ∃ fd, FunD K d.name d.qual d.params d.body d.scope [] [] (d.at_ K) fd := GetD.funD (s.g d hd) ok
theorem walkP {l : PySem.W.OpenLaw} {n k : Nat} {q : Program} {loose : List Str} {XP : (Str → Option Value) → Heap → Prop} {d : DefRec} {as : List Addr} {ck : PySem.W.Frag → List Bool} {fn : List He.DefD} {gn : List GetD} {ls : List ((Str × Option Str) × Str)} {S : List Str} {Cn : Nat → Str} {F : Fn} {x : Str}
    (hn : l.most = some n) (hn2 : n ≤ sizeLine) (hdf : d.params.defaults = []) (hr : Room k callerA) (hnl : ∀ K, (ck K)[0]? = some (noListB K))
    (hfd : ∀ (w : World) (mg : Str → Option Value) (fa : Addr) (h : Heap) (K : PySem.W.Frag), SaysP ck fn gn (ls.map (·.1)) K h → h.Ns mainGlobals mg → mg d.name = some (.ref fa) → ∃ fd : FuncData, (∀ (s : Shared) (u : Value), BindsTo s fd ⟨[u], []⟩ [(x, u)]) ∧
      ∀ base, (∀ p ∈ ls.map (·.1), LamX.TabB base mg (codeA K p) (tabA K (codeA K p))) → FnOk l.prog w K mg base C8.CX0 k fa fd [x] (spF (mkW S Cn K (tabsOf K ls) none) 1 F))
    (law : ∀ ns : List Int, ns.length ≤ n → (∀ z ∈ ns, Builtin.Int.intBits z ≤ 1048576) → ∀ o : Ob, o = .lst (ns.map .int) ∨ o = .frz (ns.map .int) → ∃ st, F [.ref 0] [o] = .ok (.v (.bool true)) st) :
    PySem.W.WalkO q loose XP (hookP as ck fn gn (ls.map (·.1))).says l.row.toRowW d [] (fun f vs => PySem.call f vs) := by
  refine Att.attach_callB hn hdf fun w s₀ s₁ mg mb fa o pm cd doc a vs ns G Y ho hd hcd hmg hobj hints hlen hbits hg => ?_
  obtain ⟨K, Y⟩ := Y
  obtain ⟨fd, hb, hF⟩ := hfd w mg fa _ K Y G.T.g hmg
  have hcs : ∀ {R : Addr × Addr → Prop}, (∀ p ∈ ls.map (·.1), R (codeA K p, tabA K (codeA K p))) → ∀ p ∈ ls.map (fun p => (codeA K p.1, tabA K (codeA K p.1))), R p := fun {R} hR p hp => by
    obtain ⟨x, hx, rfl⟩ := List.mem_map.mp hp
    exact hR x.1 (List.mem_map.mpr ⟨x, hx, rfl⟩)
  refine LamX.law_callTs (cs := ls.map fun p => (codeA K p.1, tabA K (codeA K p.1))) (CX := C8.CX0) Y.v.kin G.T.g G.T.b G.T.builtins G.T.nolimit hg
    (hcs (R := fun p => s₁.heap.get? p.2 = some { cls := .none, data := .fields #[] }) fun p hp => (Y.v.lam p hp).2.2.1) (hcs (R := fun p => K.lookup p.2 = none) fun p hp => (Y.v.lam p hp).2.2.2) (hcs (R := fun p => PySem.W.CodeHd s₁.heap p.1 p.2) fun p hp => codeHdB_ok Y.v.kin (Y.v.lam p hp).2.1)
    G.T.bmain hobj hints (Nat.le_trans hlen hn2) hr (fun base _ _ TB => hF base fun p hp => ?_) hb (fun H hH hS => law_sp (Y.v.at_ 0 (hnl K)) (fun p hp => ?_) hS (law ns hlen hbits)) fun H e s' h => h
  · obtain ⟨x, hx, rfl⟩ := List.mem_map.mp hp
    exact TB _ (List.mem_map.mpr ⟨x, hx, rfl⟩)
  · obtain ⟨x, hx, rfl⟩ := List.mem_map.mp hp
    exact hH _ (List.mem_map.mpr ⟨x, hx, rfl⟩)
end VI
end
section
set_option Elab.async false
set_option linter.all false
set_option maxRecDepth 100000
set_option maxHeartbeats 4000000
/-! VI22: a name and a field as targets of one pair; l.clear(). -/
namespace VI
open PySem PySem.Spec PyProof.Rows L2
def gFld (K : PySem.W.Frag) (ta : TE) (f : Str) : TG := fun v σ H Q => ta σ H fun x H2 => ∃ a C dx fs, x = .ref a ∧ H2 a = some (.ins C dx fs) ∧ Cls K C ∧ NoAttr K C f ∧ fs.length < 1000 ∧ Q σ (upd H2 a (.ins C dx (L2.putF f v fs)))
section
variable {X : Cx} {D : Wd} {o : Expr} {fo : Ev} {pos p px : Pos} {x : Str} {i : Nat}
theorem pg_fld {f : Str} {ta : TE} (ha : PE X o ta) : PG X (.Attribute o f pos) (gFld X.K ta f) := by
  refine ⟨fun pins s σ H v u Q I r h => ?_⟩
  rw [assign_Attribute]
  refine wpAny_bind (wpAny_holding (thn (ha.run pins s σ H _ I h) fun ov s2 ⟨y, H2, I2, rx, a, C, dx, fs, ex, ea, c, n, l, q2⟩ => ?_))
  subst ex
  obtain rfl : ov = Value.ref a := rx
  exact wpAny_bind (wpAny_standAt (wpAny_bind (wpAny_holding (setattr_ok I2 ea c n l r fun s3 I3 => wpAny_release ⟨σ, _, I3, q2⟩))))
theorem g_NF [C : Cok X D] [W : Wok D] {cs : List Nat} {f k : Nat} {z : Str} (F : CF D cs f z) (hi : X.N[i]? = some x) (hx : Loc X.env.scope x) (ho : SE X D o fo) (hf : X.fn x = true ∨ X.env.scope.names.lookup x = some .local := by first | exact .inl rfl | exact .inr rfl | assumption)
    (h1 : (assignEach [.Name x px, .Attribute o z p] X.env).map (·.2) = assign (.Name x px) X.env :: (assignEach [.Attribute o z p] X.env).map (·.2) := by rfl)
    (h2 : (assignEach [.Attribute o z p] X.env).map (·.2) = assign (.Attribute o z p) X.env :: (assignEach [] X.env).map (·.2) := by rfl)
    (hn : (assignEach [.Name x px, .Attribute o z p] X.env).length = 2 := by rfl) (hst : (assignEach [.Name x px, .Attribute o z p] X.env).findIdx? (·.1) = none := by rfl) :
    SG X D (.Tuple [.Name x px, .Attribute o z p] k pos) [i] (gNF i cs fo f) :=
  PG_imp (pg_tup C.calm (pgs_cons (pg_name C.nd hi hx hf) (pgs_cons (pg_fld ho) pgs_nil h2) h1) hn hst) fun v σ H Q ⟨n, μ, ρ, st, zv, ρ', st', ok, er, rz, hg, q⟩ => by
    unfold gNF at hg
    cases zv with
    | tup xs =>
      match xs, rz, hg with
      | [a, b], rz, hg =>
        obtain ⟨aT, ys, rfl, hT, r⟩ : ∃ aT ys, v = .ref aT ∧ SqT D.K H aT ys ∧ RpAll D n μ H [a, b] ys := by
          cases rz with
          | tup hT r => exact ⟨_, _, rfl, hT.sq, r⟩
        obtain ⟨v1, v2, rfl, ra, rb⟩ : ∃ v1 v2, ys = [v1, v2] ∧ Rp D n μ H a v1 ∧ Rp D n μ H b v2 := by
          cases r with
          | cons ra r =>
            cases r with
            | cons rb r =>
              cases r
              exact ⟨_, _, rfl, ra, rb⟩
        obtain ⟨t, s1, g1, hg⟩ := bind_eq_ok hg
        refine ⟨_, [v1, v2], rfl, ?_, rfl, _, _, rfl, _, _, rfl, n, μ, ρ.set i (some a), st, t, s1, ok, er.set i ra, g1, fun n1 μ1 H1 x1 ok1 l1 r1 f1 => ?_⟩
        · rw [C.hK]; exact hT
        · cases h4 : refI cs t s1 with
          | none => simp only [h4] at hg; cases hg
          | some pr =>
            obtain ⟨k', c, fs⟩ := pr
            simp only [h4] at hg
            by_cases hl : fs.length < 1000
            · rw [if_pos hl] at hg
              cases hg
              obtain ⟨rfl, rfl, hk, hs1, hc, dx, gs, hH, hgs⟩ := refI_ok ok1 r1 h4
              obtain ⟨c1, c2⟩ := F.cl c hc
              have kt : ∀ u a zs, H1 a = some (.tup zs) → upd H1 (μ1 k') u a = some (.tup zs) := fun u a zs e => by
                rw [upd_ne fun z => ?_]; exact e
                rw [← z, e] at hH; cases hH
              obtain ⟨ok4, l4⟩ := ok1.set (k := k') (o := .ins c (putF f b fs)) (u := .ins (D.C c) dx (L2.putF z _ gs)) hk
                ⟨dx, _, upd_same, (FsR.put F.nm (rb.mono l1) hgs).mono (Nat.le_refl _) (fun _ _ => rfl) (kt _)⟩
              refine ⟨_, _, dx, gs, rfl, hH, ?_, ?_, by rw [← hgs.length]; exact hl, rfl, q n1 μ1 _ _ ok4 (l1.trans l4) ((er.set i ra).mono (l1.trans l4)) fun vs h => wipe_set (h i (by simp))⟩
              · rw [C.hK]; exact c1
              · rw [C.hK]; exact c2
            · rw [if_neg hl] at hg; cases hg
      | [], _, hg => cases hg
      | [_], _, hg => cases hg
      | _ :: _ :: _ :: _, _, hg => cases hg
    | _ => cases hg
end
section
variable {X : Cx} {D : Wd} {o : Expr} {fo : Ev} {apos cpos : Pos}
theorem e_clear (ho : SE X D o fo) (hbase : attributeBase o "clear" X.env (eval o X.env) = eval o X.env := by rfl) (hline : (apos.endLine == cpos.line) = true := by rfl) : SE X D (.Call (.Attribute o "clear" apos) [] [] cpos) (eClear fo) :=
  PE_imp (pe_bm0 PySem.F.plainAttrs_list PySem.F.slot_list_clear PySem.F.type_list_clear mt_clear ho hbase hline) fun σ H Q ⟨n, μ, ρ, st, z, st', ok, er, hf, an⟩ => by
    obtain ⟨x, s1, h1, hf⟩ := bind_eq_ok hf
    refine ⟨n, μ, ρ, st, x, s1, ok, er, h1, fun n1 μ1 H1 y1 ok1 l1 r1 f1 => ?_⟩
    cases h4 : refL x s1 with
    | none => simp only [h4] at hf; cases hf
    | some pr =>
      obtain ⟨j, xs⟩ := pr
      simp only [h4] at hf
      cases hf
      refine ⟨ref_ty ok1 r1 (by rw [h4]; rfl), ?_⟩
      obtain ⟨rfl, rfl, hj, hst, ys, hy, ra⟩ := refL_ok ok1 r1 h4
      obtain ⟨ok4, l4⟩ := wr_lst ok1 hj .nil
      exact ⟨_, ys, rfl, rfl, hy, an n1 μ1 _ _ ok4 (l1.trans l4) .non trivial⟩
end
end VI
end
section
set_option Elab.async false
set_option linter.all false
set_option maxRecDepth 100000
set_option maxHeartbeats 4000000
/-! each def of law k36 keeps its promise, printed by gen.py -/
namespace L_k36
open PySem PySem.Spec PyProof.Rows L2 VI
def top (i : Nat) : Stmt := PySem.Challenge.pw_wipedtalk_k36_talks_by_hand.main.body.getD i (.Pass ⟨0, 0, 0, 0⟩)
def SS : List Str := "" :: "0" :: "01" :: "1" :: "2" :: "Send" :: "Sender" :: "a" :: "ab" :: "abc" :: "answer" :: "append" :: "b" :: "back" :: "backward" :: "behind" :: "both" :: "clear" :: "count" :: "crash" :: "crashes" :: "delivered" :: "do" :: "event" :: "events" :: "excusing" :: "extend" :: "far" :: "forward" :: "gives" :: "gone" :: "good" :: "hand" :: "heard" :: "hears" :: "held" :: "index" :: "keeps" :: "law_wipedtalk_k01_programs_and_pairs" :: "law_wipedtalk_k02_programs_refused" :: "law_wipedtalk_k05_runs_walked" :: "law_wipedtalk_k06_runs_refused" :: "law_wipedtalk_k10_rests_and_verdicts" :: "law_wipedtalk_k15_least_broken_runs" :: "law_wipedtalk_k20_live_talks" :: "law_wipedtalk_k30_broken_runs_or_writes" :: "law_wipedtalk_k31_recorded_messages" :: "law_wipedtalk_k32_one_crash_of_the_receiver" :: "law_wipedtalk_k33_pairs_that_hold_out" :: "law_wipedtalk_k34_replays_and_families_refus" :: "law_wipedtalk_k35_asked_by_turns" :: "law_wipedtalk_k36_talks_by_hand" :: "law_wipedtalk_k92_whole_nothing_kept_nothing" :: "law_wipedtalk_k93_whole_room_against_rounds" :: "law_wipedtalk_k94_whole_who_holds_out_writes" :: "law_wipedtalk_k95_whole_more_excused_is_no_w" :: "law_wipedtalk_k96_whole_rests_go_on" :: "law_wipedtalk_k97_whole_live_talks_and_runs" :: "law_wipedtalk_k99_whole_errors_and_their_fie" :: "lose" :: "lost" :: "message" :: "name" :: "nothing" :: "number" :: "other" :: "pair" :: "pass" :: "place" :: "pop" :: "possible" :: "program" :: "receiver" :: "rest" :: "row" :: "run" :: "send" :: "sender" :: "sends" :: "settled" :: "state" :: "states" :: "stuck" :: "tables" :: "takes" :: "there" :: "thing" :: "ticks" :: "unlike" :: "up" :: "value" :: "value_count" :: "verdict" :: "wipedtalk.errors" :: "wipedtalk.families" :: "wipedtalk.live" :: "wipedtalk.programs" :: "wipedtalk.replays" :: "wipedtalk.runs" :: "wipedtalk.searching" :: "wipedtalk.verdicts" :: "writes" :: "wrong" :: "x" :: []
instance : SOK SS := ⟨by decide +kernel, by decide +kernel⟩
def Cn : Nat → Str
  | 0 => "Sender"
  | 1 => "Receiver"
  | 2 => "Pair"
  | 3 => "Live"
  | 4 => "InvalidEvent"
  | 5 => "InvalidExcusing"
  | 6 => "InvalidNumber"
  | 7 => "InvalidPair"
  | 8 => "InvalidProgram"
  | 9 => "InvalidTable"
  | 10 => "KeepsSomething"
  | 11 => "NotPossible"
  | 12 => "NotSettled"
  | 13 => "NothingDone"
  | 14 => "Round"
  | 15 => "TalkError"
  | 16 => "UnlikePrograms"
  | _ => ""
structure Fx (K : PySem.W.Frag) (mg : Str → Option Value) (base : Heap) (T0 : List (Addr × Str)) : Prop where
  b_all : mg "all" = none
  b_any : mg "any" = none
  b_bool : mg "bool" = none
  b_enumerate : mg "enumerate" = none
  b_int : mg "int" = none
  b_isinstance : mg "isinstance" = none
  b_len : mg "len" = none
  b_list : mg "list" = none
  b_max : mg "max" = none
  b_min : mg "min" = none
  b_range : mg "range" = none
  b_set : mg "set" = none
  b_str : mg "str" = none
  b_tuple : mg "tuple" = none
  b_zip : mg "zip" = none
  g__law_purse : mg "_law_purse" = some (.ref (He.ga K "_law_purse"))
  g__law_mixed : mg "_law_mixed" = some (.ref (He.ga K "_law_mixed"))
  g__law_draw : mg "_law_draw" = some (.ref (He.ga K "_law_draw"))
  g_require_positive : mg "require_positive" = some (.ref (He.ga K "require_positive"))
  g_is_below : mg "is_below" = some (.ref (He.ga K "is_below"))
  g_is_row : mg "is_row" = some (.ref (He.ga K "is_row"))
  g_is_given : mg "is_given" = some (.ref (He.ga K "is_given"))
  g_checked : mg "checked" = some (.ref (He.ga K "checked"))
  g_checked_sends : mg "checked_sends" = some (.ref (He.ga K "checked_sends"))
  g_checked_states : mg "checked_states" = some (.ref (He.ga K "checked_states"))
  g_checked_hears : mg "checked_hears" = some (.ref (He.ga K "checked_hears"))
  g_checked_takes : mg "checked_takes" = some (.ref (He.ga K "checked_takes"))
  g__law_sender : mg "_law_sender" = some (.ref (He.ga K "_law_sender"))
  g__law_receiver : mg "_law_receiver" = some (.ref (He.ga K "_law_receiver"))
  g__law_later : mg "_law_later" = some (.ref (He.ga K "_law_later"))
  g__law_quick : mg "_law_quick" = some (.ref (He.ga K "_law_quick"))
  g__law_third : mg "_law_third" = some (.ref (He.ga K "_law_third"))
  g__law_laps : mg "_law_laps" = some (.ref (He.ga K "_law_laps"))
  g__law_rows : mg "_law_rows" = some (.ref (He.ga K "_law_rows"))
  g_require_pair : mg "require_pair" = some (.ref (He.ga K "require_pair"))
  g_is_name : mg "is_name" = some (.ref (He.ga K "is_name"))
  g_is_place : mg "is_place" = some (.ref (He.ga K "is_place"))
  g_is_event : mg "is_event" = some (.ref (He.ga K "is_event"))
  g_checked_events : mg "checked_events" = some (.ref (He.ga K "checked_events"))
  g_is_possible : mg "is_possible" = some (.ref (He.ga K "is_possible"))
  g_ticked : mg "ticked" = some (.ref (He.ga K "ticked"))
  g_passed : mg "passed" = some (.ref (He.ga K "passed"))
  g_without : mg "without" = some (.ref (He.ga K "without"))
  g_stepped : mg "stepped" = some (.ref (He.ga K "stepped"))
  g_trail : mg "trail" = some (.ref (He.ga K "trail"))
  g_checked_trail : mg "checked_trail" = some (.ref (He.ga K "checked_trail"))
  g_require_excusing : mg "require_excusing" = some (.ref (He.ga K "require_excusing"))
  g_is_free : mg "is_free" = some (.ref (He.ga K "is_free"))
  g_round_of : mg "round_of" = some (.ref (He.ga K "round_of"))
  g_emptied : mg "emptied" = some (.ref (He.ga K "emptied"))
  g_rest_of : mg "rest_of" = some (.ref (He.ga K "rest_of"))
  g_can_give : mg "can_give" = some (.ref (He.ga K "can_give"))
  g_judged : mg "judged" = some (.ref (He.ga K "judged"))
  g_verdict : mg "verdict" = some (.ref (He.ga K "verdict"))
  g_rounds_of : mg "rounds_of" = some (.ref (He.ga K "rounds_of"))
  g_sends_by : mg "sends_by" = some (.ref (He.ga K "sends_by"))
  g_answers_by : mg "answers_by" = some (.ref (He.ga K "answers_by"))
  g_recorded_by : mg "recorded_by" = some (.ref (He.ga K "recorded_by"))
  g_is_good : mg "is_good" = some (.ref (He.ga K "is_good"))
  g_whole_round : mg "whole_round" = some (.ref (He.ga K "whole_round"))
  g_up_to_send : mg "up_to_send" = some (.ref (He.ga K "up_to_send"))
  g_delivers_again : mg "delivers_again" = some (.ref (He.ga K "delivers_again"))
  g_writes_of : mg "writes_of" = some (.ref (He.ga K "writes_of"))
  g_is_settled : mg "is_settled" = some (.ref (He.ga K "is_settled"))
  g_breaking : mg "breaking" = some (.ref (He.ga K "breaking"))
  g__law_told_right : mg "_law_told_right" = some (.ref (He.ga K "_law_told_right"))
  g__law_grown_right : mg "_law_grown_right" = some (.ref (He.ga K "_law_grown_right"))
  g_law : mg "law" = some (.ref (He.ga K "law"))
  g_BOTH : mg "BOTH" = some (.ref (He.ga K "BOTH"))
  g_Pair : mg "Pair" = some (.ref (He.ga K "Pair"))
  g_Receiver : mg "Receiver" = some (.ref (He.ga K "Receiver"))
  g_Round : mg "Round" = some (.ref (He.ga K "Round"))
  g_Sender : mg "Sender" = some (.ref (He.ga K "Sender"))
  gv_BOTH : ∀ L, GV (mkW SS Cn K T0 L) mg "BOTH" G_BOTH
  gv_CHANNELS : ∀ L, GV (mkW SS Cn K T0 L) mg "CHANNELS" G_CHANNELS
  gv_HAND : ∀ L, GV (mkW SS Cn K T0 L) mg "HAND" G_HAND
  gv_PROGRAMS : ∀ L, GV (mkW SS Cn K T0 L) mg "PROGRAMS" G_PROGRAMS
  gv_START : ∀ L, GV (mkW SS Cn K T0 L) mg "START" G_START
  cf_answer : ∀ L, CF (mkW SS Cn K T0 L) [14] 10 "answer"
  cf_backward : ∀ L, CF (mkW SS Cn K T0 L) [0, 1] 14 "backward"
  cf_behind : ∀ L, CF (mkW SS Cn K T0 L) [14] 15 "behind"
  cf_crashes : ∀ L, CF (mkW SS Cn K T0 L) [0, 1] 20 "crashes"
  cf_forward : ∀ L, CF (mkW SS Cn K T0 L) [0, 1] 28 "forward"
  cf_gives : ∀ L, CF (mkW SS Cn K T0 L) [1] 29 "gives"
  cf_heard : ∀ L, CF (mkW SS Cn K T0 L) [14] 33 "heard"
  cf_hears : ∀ L, CF (mkW SS Cn K T0 L) [0, 1] 34 "hears"
  cf_message : ∀ L, CF (mkW SS Cn K T0 L) [14] 61 "message"
  cf_receiver : ∀ L, CF (mkW SS Cn K T0 L) [2, 14] 72 "receiver"
  cf_sender : ∀ L, CF (mkW SS Cn K T0 L) [2, 14] 77 "sender"
  cf_sends : ∀ L, CF (mkW SS Cn K T0 L) [0, 1] 78 "sends"
  cf_takes : ∀ L, CF (mkW SS Cn K T0 L) [0] 84 "takes"
  cf_ticks : ∀ L, CF (mkW SS Cn K T0 L) [0, 1] 87 "ticks"
  cf_value : ∀ L, CF (mkW SS Cn K T0 L) [14] 90 "value"
  cf_value_count : ∀ L, CF (mkW SS Cn K T0 L) [0, 1] 91 "value_count"
  kf_Pair : ∀ L, KF (mkW SS Cn K T0 L) [0, 1, 2] (.cls 2) (fun t => PySem.W.kitOne K t (.ref (He.ga K "Pair")))
  kf_Receiver : ∀ L, KF (mkW SS Cn K T0 L) [0, 1, 2] (.cls 1) (fun t => PySem.W.kitOne K t (.ref (He.ga K "Receiver")))
  kf_Sender : ∀ L, KF (mkW SS Cn K T0 L) [0, 1, 2] (.cls 0) (fun t => PySem.W.kitOne K t (.ref (He.ga K "Sender")))
  kf_bool : ∀ L, KF (mkW SS Cn K T0 L) [0, 1, 2] .bool (fun t => PySem.W.kitOne K t (.type "bool"))
  kf_int : ∀ L, KF (mkW SS Cn K T0 L) [0, 1, 2] .int (fun t => PySem.W.kitOne K t (.type "int"))
  kf_lot : ∀ L, KF (mkW SS Cn K T0 L) [0, 1, 2] .lot (fun t => PySem.W.kitAny K t [.type "list", .type "tuple"])
  kf_str : ∀ L, KF (mkW SS Cn K T0 L) [0, 1, 2] .str (fun t => PySem.W.kitOne K t (.type "str"))
  kf_tuple : ∀ L, KF (mkW SS Cn K T0 L) [0, 1, 2] .tuple (fun t => PySem.W.kitOne K t (.type "tuple"))
  mk_Pair : Mk K (He.ga K "Pair") (He.ma K (He.ga K "Pair") "__init__")
  mk_Receiver : Mk K (He.ga K "Receiver") (He.ma K (He.ga K "Receiver") "__init__")
  mk_Round : Mk K (He.ga K "Round") (He.ma K (He.ga K "Round") "__init__")
  mk_Sender : Mk K (He.ga K "Sender") (He.ma K (He.ga K "Sender") "__init__")
  me_Receiver_tables : Cls K (He.ga K "Receiver") ∧ Meth K (He.ga K "Receiver") "tables" (He.ma K (He.ga K "Receiver") "tables")
  me_Sender_tables : Cls K (He.ga K "Sender") ∧ Meth K (He.ga K "Sender") "tables" (He.ma K (He.ga K "Sender") "tables")
  d__law_purse : ∃ fd, FunD K "_law_purse" "_law_purse" (defArgs (top 66)) (defBody (top 66)) (defScope (top 66)) [] [] (He.ga K "_law_purse") fd
  d__law_mixed : ∃ fd, FunD K "_law_mixed" "_law_mixed" (defArgs (top 65)) (defBody (top 65)) (defScope (top 65)) [] [] (He.ga K "_law_mixed") fd
  d__law_draw : ∃ fd, FunD K "_law_draw" "_law_draw" (defArgs (top 67)) (defBody (top 67)) (defScope (top 67)) [] [] (He.ga K "_law_draw") fd
  d_Sender_tables : ∃ fd, FunD K "tables" "Sender.tables" (defArgs (inClass (top 21) 1)) (defBody (inClass (top 21) 1)) (defScope (inClass (top 21) 1)) [] [] (He.ma K (He.ga K "Sender") "tables") fd
  d_Receiver_tables : ∃ fd, FunD K "tables" "Receiver.tables" (defArgs (inClass (top 22) 1)) (defBody (inClass (top 22) 1)) (defScope (inClass (top 22) 1)) [] [] (He.ma K (He.ga K "Receiver") "tables") fd
  d_Pair___init__ : ∃ fd, FunD K "__init__" "Pair.__init__" (defArgs (inClass (top 23) 0)) (defBody (inClass (top 23) 0)) (defScope (inClass (top 23) 0)) [] [] (He.ma K (He.ga K "Pair") "__init__") fd
  d_require_positive : ∃ fd, FunD K "require_positive" "require_positive" (defArgs (top 14)) (defBody (top 14)) (defScope (top 14)) [] [] (He.ga K "require_positive") fd
  d_is_below : ∃ fd, FunD K "is_below" "is_below" (defArgs (top 12)) (defBody (top 12)) (defScope (top 12)) [] [] (He.ga K "is_below") fd
  d_is_row : ∃ fd, FunD K "is_row" "is_row" (defArgs (top 13)) (defBody (top 13)) (defScope (top 13)) [] [] (He.ga K "is_row") fd
  d_is_given : ∃ fd, FunD K "is_given" "is_given" (defArgs (top 20)) (defBody (top 20)) (defScope (top 20)) [] [] (He.ga K "is_given") fd
  d_checked : ∃ fd, FunD K "checked" "checked" (defArgs (top 15)) (defBody (top 15)) (defScope (top 15)) [] [] (He.ga K "checked") fd
  d_checked_sends : ∃ fd c P, FunD K "checked_sends" "checked_sends" (defArgs (top 16)) (defBody (top 16)) (defScope (top 16)) [] [] (He.ga K "checked_sends") fd ∧ fd.code = .ref c ∧ LamX.TabB base mg c P ∧ (P, ("checked_sends.<locals>.<lambda>" : Str)) ∈ T0 ∧ ∀ p ∈ T0, p.1 = P → p.2 = ("checked_sends.<locals>.<lambda>" : Str)
  d_checked_states : ∃ fd c P, FunD K "checked_states" "checked_states" (defArgs (top 17)) (defBody (top 17)) (defScope (top 17)) [] [] (He.ga K "checked_states") fd ∧ fd.code = .ref c ∧ LamX.TabB base mg c P ∧ (P, ("checked_states.<locals>.<lambda>" : Str)) ∈ T0 ∧ ∀ p ∈ T0, p.1 = P → p.2 = ("checked_states.<locals>.<lambda>" : Str)
  d_checked_hears : ∃ fd c P, FunD K "checked_hears" "checked_hears" (defArgs (top 18)) (defBody (top 18)) (defScope (top 18)) [] [] (He.ga K "checked_hears") fd ∧ fd.code = .ref c ∧ LamX.TabB base mg c P ∧ (P, ("checked_hears.<locals>.<lambda>" : Str)) ∈ T0 ∧ ∀ p ∈ T0, p.1 = P → p.2 = ("checked_hears.<locals>.<lambda>" : Str)
  d_checked_takes : ∃ fd c P, FunD K "checked_takes" "checked_takes" (defArgs (top 19)) (defBody (top 19)) (defScope (top 19)) [] [] (He.ga K "checked_takes") fd ∧ fd.code = .ref c ∧ LamX.TabB base mg c P ∧ (P, ("checked_takes.<locals>.<lambda>" : Str)) ∈ T0 ∧ ∀ p ∈ T0, p.1 = P → p.2 = ("checked_takes.<locals>.<lambda>" : Str)
  d_Sender___init__ : ∃ fd, FunD K "__init__" "Sender.__init__" (defArgs (inClass (top 21) 0)) (defBody (inClass (top 21) 0)) (defScope (inClass (top 21) 0)) [] [] (He.ma K (He.ga K "Sender") "__init__") fd
  d__law_sender : ∃ fd, FunD K "_law_sender" "_law_sender" (defArgs (top 68)) (defBody (top 68)) (defScope (top 68)) [] [] (He.ga K "_law_sender") fd
  d_Receiver___init__ : ∃ fd c P, FunD K "__init__" "Receiver.__init__" (defArgs (inClass (top 22) 0)) (defBody (inClass (top 22) 0)) (defScope (inClass (top 22) 0)) [] [] (He.ma K (He.ga K "Receiver") "__init__") fd ∧ fd.code = .ref c ∧ LamX.TabB base mg c P ∧ (P, ("Receiver.__init__.<locals>.<lambda>" : Str)) ∈ T0 ∧ ∀ p ∈ T0, p.1 = P → p.2 = ("Receiver.__init__.<locals>.<lambda>" : Str)
  d__law_receiver : ∃ fd, FunD K "_law_receiver" "_law_receiver" (defArgs (top 69)) (defBody (top 69)) (defScope (top 69)) [] [] (He.ga K "_law_receiver") fd
  d__law_later : ∃ fd, FunD K "_law_later" "_law_later" (defArgs (top 70)) (defBody (top 70)) (defScope (top 70)) [] [] (He.ga K "_law_later") fd
  d__law_quick : ∃ fd, FunD K "_law_quick" "_law_quick" (defArgs (top 71)) (defBody (top 71)) (defScope (top 71)) [] [] (He.ga K "_law_quick") fd
  d__law_third : ∃ fd, FunD K "_law_third" "_law_third" (defArgs (top 72)) (defBody (top 72)) (defScope (top 72)) [] [] (He.ga K "_law_third") fd
  d__law_laps : ∃ fd, FunD K "_law_laps" "_law_laps" (defArgs (top 73)) (defBody (top 73)) (defScope (top 73)) [] [] (He.ga K "_law_laps") fd
  d__law_rows : ∃ fd, FunD K "_law_rows" "_law_rows" (defArgs (top 74)) (defBody (top 74)) (defScope (top 74)) [] [] (He.ga K "_law_rows") fd
  d_require_pair : ∃ fd, FunD K "require_pair" "require_pair" (defArgs (top 24)) (defBody (top 24)) (defScope (top 24)) [] [] (He.ga K "require_pair") fd
  d_is_name : ∃ fd, FunD K "is_name" "is_name" (defArgs (top 29)) (defBody (top 29)) (defScope (top 29)) [] [] (He.ga K "is_name") fd
  d_is_place : ∃ fd, FunD K "is_place" "is_place" (defArgs (top 30)) (defBody (top 30)) (defScope (top 30)) [] [] (He.ga K "is_place") fd
  d_is_event : ∃ fd, FunD K "is_event" "is_event" (defArgs (top 31)) (defBody (top 31)) (defScope (top 31)) [] [] (He.ga K "is_event") fd
  d_checked_events : ∃ fd, FunD K "checked_events" "checked_events" (defArgs (top 37)) (defBody (top 37)) (defScope (top 37)) [] [] (He.ga K "checked_events") fd
  d_is_possible : ∃ fd, FunD K "is_possible" "is_possible" (defArgs (top 32)) (defBody (top 32)) (defScope (top 32)) [] [] (He.ga K "is_possible") fd
  d_ticked : ∃ fd, FunD K "ticked" "ticked" (defArgs (top 33)) (defBody (top 33)) (defScope (top 33)) [] [] (He.ga K "ticked") fd
  d_passed : ∃ fd, FunD K "passed" "passed" (defArgs (top 34)) (defBody (top 34)) (defScope (top 34)) [] [] (He.ga K "passed") fd
  d_without : ∃ fd, FunD K "without" "without" (defArgs (top 35)) (defBody (top 35)) (defScope (top 35)) [] [] (He.ga K "without") fd
  d_stepped : ∃ fd, FunD K "stepped" "stepped" (defArgs (top 36)) (defBody (top 36)) (defScope (top 36)) [] [] (He.ga K "stepped") fd
  d_trail : ∃ fd, FunD K "trail" "trail" (defArgs (top 38)) (defBody (top 38)) (defScope (top 38)) [] [] (He.ga K "trail") fd
  d_checked_trail : ∃ fd, FunD K "checked_trail" "checked_trail" (defArgs (top 39)) (defBody (top 39)) (defScope (top 39)) [] [] (He.ga K "checked_trail") fd
  d_require_excusing : ∃ fd, FunD K "require_excusing" "require_excusing" (defArgs (top 42)) (defBody (top 42)) (defScope (top 42)) [] [] (He.ga K "require_excusing") fd
  d_is_free : ∃ fd, FunD K "is_free" "is_free" (defArgs (top 43)) (defBody (top 43)) (defScope (top 43)) [] [] (He.ga K "is_free") fd
  d_round_of : ∃ fd, FunD K "round_of" "round_of" (defArgs (top 44)) (defBody (top 44)) (defScope (top 44)) [] [] (He.ga K "round_of") fd
  d_emptied : ∃ fd, FunD K "emptied" "emptied" (defArgs (top 45)) (defBody (top 45)) (defScope (top 45)) [] [] (He.ga K "emptied") fd
  d_rest_of : ∃ fd, FunD K "rest_of" "rest_of" (defArgs (top 46)) (defBody (top 46)) (defScope (top 46)) [] [] (He.ga K "rest_of") fd
  d_can_give : ∃ fd, FunD K "can_give" "can_give" (defArgs (top 47)) (defBody (top 47)) (defScope (top 47)) [] [] (He.ga K "can_give") fd
  d_judged : ∃ fd, FunD K "judged" "judged" (defArgs (top 48)) (defBody (top 48)) (defScope (top 48)) [] [] (He.ga K "judged") fd
  d_verdict : ∃ fd, FunD K "verdict" "verdict" (defArgs (top 49)) (defBody (top 49)) (defScope (top 49)) [] [("excusing", V.ref (He.ga K "BOTH"))] (He.ga K "verdict") fd
  d_Round___init__ : ∃ fd, FunD K "__init__" "Round.__init__" (defArgs (inClass (top 52) 0)) (defBody (inClass (top 52) 0)) (defScope (inClass (top 52) 0)) [] [] (He.ma K (He.ga K "Round") "__init__") fd
  d_rounds_of : ∃ fd, FunD K "rounds_of" "rounds_of" (defArgs (top 53)) (defBody (top 53)) (defScope (top 53)) [] [] (He.ga K "rounds_of") fd
  d_sends_by : ∃ fd, FunD K "sends_by" "sends_by" (defArgs (top 55)) (defBody (top 55)) (defScope (top 55)) [] [] (He.ga K "sends_by") fd
  d_answers_by : ∃ fd, FunD K "answers_by" "answers_by" (defArgs (top 56)) (defBody (top 56)) (defScope (top 56)) [] [] (He.ga K "answers_by") fd
  d_recorded_by : ∃ fd, FunD K "recorded_by" "recorded_by" (defArgs (top 57)) (defBody (top 57)) (defScope (top 57)) [] [] (He.ga K "recorded_by") fd
  d_is_good : ∃ fd, FunD K "is_good" "is_good" (defArgs (top 58)) (defBody (top 58)) (defScope (top 58)) [] [] (He.ga K "is_good") fd
  d_whole_round : ∃ fd, FunD K "whole_round" "whole_round" (defArgs (top 54)) (defBody (top 54)) (defScope (top 54)) [] [] (He.ga K "whole_round") fd
  d_up_to_send : ∃ fd, FunD K "up_to_send" "up_to_send" (defArgs (top 59)) (defBody (top 59)) (defScope (top 59)) [] [] (He.ga K "up_to_send") fd
  d_delivers_again : ∃ fd, FunD K "delivers_again" "delivers_again" (defArgs (top 60)) (defBody (top 60)) (defScope (top 60)) [] [] (He.ga K "delivers_again") fd
  d_writes_of : ∃ fd, FunD K "writes_of" "writes_of" (defArgs (top 61)) (defBody (top 61)) (defScope (top 61)) [] [] (He.ga K "writes_of") fd
  d_is_settled : ∃ fd, FunD K "is_settled" "is_settled" (defArgs (top 62)) (defBody (top 62)) (defScope (top 62)) [] [] (He.ga K "is_settled") fd
  d_breaking : ∃ fd, FunD K "breaking" "breaking" (defArgs (top 63)) (defBody (top 63)) (defScope (top 63)) [] [] (He.ga K "breaking") fd
  d__law_told_right : ∃ fd, FunD K "_law_told_right" "_law_told_right" (defArgs (top 75)) (defBody (top 75)) (defScope (top 75)) [] [] (He.ga K "_law_told_right") fd
  d__law_grown_right : ∃ fd, FunD K "_law_grown_right" "_law_grown_right" (defArgs (top 76)) (defBody (top 76)) (defScope (top 76)) [] [] (He.ga K "_law_grown_right") fd
  d_law : ∃ fd, FunD K "law" "law" (defArgs (top 77)) (defBody (top 77)) (defScope (top 77)) [] [] (He.ga K "law") fd
section
variable {P : Program} {w : World} {K : PySem.W.Frag} {mg : Str → Option Value} {base : Heap} {T0 : List (Addr × Str)}
theorem fn__law_purse (Z : Fx K mg base T0) : ∃ fd, FunD K "_law_purse" "_law_purse" (defArgs (top 66)) (defBody (top 66)) (defScope (top 66)) [] [] (He.ga K "_law_purse") fd ∧ FnOk P w K mg base C8.CX0 1 (He.ga K "_law_purse") fd ["cells", "at"] (spF (mkW SS Cn K T0 none) 2 F__law_purse) := by
  obtain ⟨fd, F⟩ := Z.d__law_purse
  exact ⟨fd, F, (fn_okW (k := 0) (N := ["cells", "at", "cell"]) (ps := ["cells", "at"]) F (by decide +kernel) rfl rfl fun cdv A outer s H E hr hC => (ss_cons (s_set (i := 2) rfl (.inl rfl) e_int) (ss_cons (s_if (t_cmp s_lt (e_V rfl (.inl rfl) rfl rfl) (e_len rfl Z.b_len (e_V rfl (.inl rfl) rfl rfl))) (ss_one (s_set (i := 2) rfl (.inl rfl) (e_idx (e_V rfl (.inl rfl) rfl rfl) (e_V rfl (.inl rfl) rfl rfl) (fun _ _ => rfl)))) ss_nil) (ss_one (s_ret (e_lst (a_cons (e_bin s_mod (e_intF rfl Z.b_int (e_max2 rfl Z.b_max (e_bin s_sub (e_V rfl (.inl rfl) rfl rfl) (e_bin s_pow e_int e_int)) e_int)) (e_bin s_pow (e_bin s_pow e_int e_int) e_int)) (a_cons (e_bin s_mod (e_intF rfl Z.b_int (e_V rfl (.inl rfl) rfl rfl)) e_int) (a_cons (e_bin s_mul e_int (e_V rfl (.inl rfl) rfl rfl)) a_nil)))))))))⟩
theorem ok__law_purse (Z : Fx K mg base T0) : Def P w K mg base (mkW SS Cn K T0 none) 1 "_law_purse" 2 F__law_purse := by
  obtain ⟨fd, F, hF⟩ := fn__law_purse (P := P) (w := w) Z
  exact ⟨⟨_, fd, ["cells", "at"], Z.g__law_purse, F.kp, (F.bindsN (ps := ["cells", "at"]) fun _ _ _ _ _ _ us hl => match us, hl with | [_, _], _ => rfl), hF⟩, rfl⟩
theorem fn__law_mixed (Z : Fx K mg base T0) : ∃ fd, FunD K "_law_mixed" "_law_mixed" (defArgs (top 65)) (defBody (top 65)) (defScope (top 65)) [] [] (He.ga K "_law_mixed") fd ∧ FnOk P w K mg base C8.CX0 1 (He.ga K "_law_mixed") fd ["cell", "k"] (spF (mkW SS Cn K T0 none) 2 F__law_mixed) := by
  obtain ⟨fd, F⟩ := Z.d__law_mixed
  exact ⟨fd, F, (fn_okW (k := 0) (N := ["cell", "k", "stirred"]) (ps := ["cell", "k"]) F (by decide +kernel) rfl rfl fun cdv A outer s H E hr hC => (ss_cons (s_set (i := 2) rfl (.inl rfl) (e_bin s_mod (e_intF rfl Z.b_int (e_bin s_add (e_bin s_add (e_bin s_add (e_bin s_mul (e_V rfl (.inl rfl) rfl rfl) e_int) (e_bin s_mul (e_bin s_mul e_int (e_V rfl (.inl rfl) rfl rfl)) (e_V rfl (.inl rfl) rfl rfl))) (e_bin s_mul e_int (e_V rfl (.inl rfl) rfl rfl))) e_int)) e_int)) (ss_one (s_ret (e_bin s_div (e_bin s_mod (e_intF rfl Z.b_int (e_bin s_add (e_bin s_add (e_bin s_mul (e_V rfl (.inl rfl) rfl rfl) (e_V rfl (.inl rfl) rfl rfl)) (e_bin s_mul e_int (e_V rfl (.inl rfl) rfl rfl))) e_int)) e_int) e_int)))))⟩
theorem ok__law_mixed (Z : Fx K mg base T0) : Def P w K mg base (mkW SS Cn K T0 none) 1 "_law_mixed" 2 F__law_mixed := by
  obtain ⟨fd, F, hF⟩ := fn__law_mixed (P := P) (w := w) Z
  exact ⟨⟨_, fd, ["cell", "k"], Z.g__law_mixed, F.kp, (F.bindsN (ps := ["cell", "k"]) fun _ _ _ _ _ _ us hl => match us, hl with | [_, _], _ => rfl), hF⟩, rfl⟩
theorem fn__law_draw (Z : Fx K mg base T0) : ∃ fd, FunD K "_law_draw" "_law_draw" (defArgs (top 67)) (defBody (top 67)) (defScope (top 67)) [] [] (He.ga K "_law_draw") fd ∧ FnOk P w K mg base C8.CX0 2 (He.ga K "_law_draw") fd ["purse", "out_of"] (spF (mkW SS Cn K T0 none) 2 F__law_draw) := by
  obtain ⟨fd, F⟩ := Z.d__law_draw
  exact ⟨fd, F, (fn_okW (k := 1) (N := ["purse", "out_of", "drawn"]) (ps := ["purse", "out_of"]) F (by decide +kernel) rfl rfl fun cdv A outer s H E hr hC => (ss_cons (s_if (t_cmp s_gt (e_idx (e_V rfl (.inl rfl) rfl rfl) e_int (fun _ _ => rfl)) e_int) (ss_cons (s_set (i := 2) rfl (.inl rfl) (e_bin s_mod (e_intF rfl Z.b_int (e_idx (e_V rfl (.inl rfl) rfl rfl) e_int (fun _ _ => rfl))) (e_V rfl (.inl rfl) rfl rfl))) (ss_cons (s_put (e_V rfl (.inl rfl) rfl rfl) e_int (e_bin s_div (e_idx (e_V rfl (.inl rfl) rfl rfl) e_int (fun _ _ => rfl)) (e_V rfl (.inl rfl) rfl rfl))) (ss_one (s_ret (e_V rfl (.inl rfl) rfl rfl))))) ss_nil) (ss_cons (s_put (e_V rfl (.inl rfl) rfl rfl) e_int (e_bin s_add (e_idx (e_V rfl (.inl rfl) rfl rfl) e_int (fun _ _ => rfl)) e_int)) (ss_one (s_ret (e_bin s_mod (e_intF rfl Z.b_int (e_call (ok__law_mixed Z) (hr.mono (by decide)) rfl (a_cons (e_idx (e_V rfl (.inl rfl) rfl rfl) e_int (fun _ _ => rfl)) (a_cons (e_idx (e_V rfl (.inl rfl) rfl rfl) e_int (fun _ _ => rfl)) a_nil)) (ar_cons (ar_cons ar_nil)))) (e_V rfl (.inl rfl) rfl rfl)))))))⟩
theorem ok__law_draw (Z : Fx K mg base T0) : Def P w K mg base (mkW SS Cn K T0 none) 2 "_law_draw" 2 F__law_draw := by
  obtain ⟨fd, F, hF⟩ := fn__law_draw (P := P) (w := w) Z
  exact ⟨⟨_, fd, ["purse", "out_of"], Z.g__law_draw, F.kp, (F.bindsN (ps := ["purse", "out_of"]) fun _ _ _ _ _ _ us hl => match us, hl with | [_, _], _ => rfl), hF⟩, rfl⟩
theorem fn_Sender_tables (Z : Fx K mg base T0) : ∃ fd, FunD K "tables" "Sender.tables" (defArgs (inClass (top 21) 1)) (defBody (inClass (top 21) 1)) (defScope (inClass (top 21) 1)) [] [] (He.ma K (He.ga K "Sender") "tables") fd ∧ FnOk P w K mg base C8.CX0 1 (He.ma K (He.ga K "Sender") "tables") fd ["self"] (spF (mkW SS Cn K T0 none) 1 F_Sender_tables) := by
  obtain ⟨fd, F⟩ := Z.d_Sender_tables
  exact ⟨fd, F, (fn_okW (k := 0) (N := ["self", "kinds"]) (ps := ["self"]) F (by decide +kernel) rfl rfl fun cdv A outer s H E hr hC => (ss_cons (s_set (i := 1) rfl (.inl rfl) (e_tup (a_cons (e_fld (Z.cf_value_count _) (e_V rfl (.inl rfl) rfl rfl)) (a_cons (e_fld (Z.cf_forward _) (e_V rfl (.inl rfl) rfl rfl)) (a_cons (e_fld (Z.cf_backward _) (e_V rfl (.inl rfl) rfl rfl)) a_nil))))) (ss_one (s_ret (e_bin s_add (e_V rfl (.inl rfl) rfl rfl) (e_tup (a_cons (e_fld (Z.cf_sends _) (e_V rfl (.inl rfl) rfl rfl)) (a_cons (e_fld (Z.cf_ticks _) (e_V rfl (.inl rfl) rfl rfl)) (a_cons (e_fld (Z.cf_hears _) (e_V rfl (.inl rfl) rfl rfl)) (a_cons (e_fld (Z.cf_takes _) (e_V rfl (.inl rfl) rfl rfl)) (a_cons (e_fld (Z.cf_crashes _) (e_V rfl (.inl rfl) rfl rfl)) a_nil)))))))))))⟩
theorem met_Sender_tables (Z : Fx K mg base T0) : Met P w K mg base (mkW SS Cn K T0 none) 1 0 83 "tables" 1 F_Sender_tables := by
  obtain ⟨fd, F, hF⟩ := fn_Sender_tables (P := P) (w := w) Z
  exact ⟨⟨_, fd, ["self"], Z.me_Sender_tables.1, Z.me_Sender_tables.2, (F.bindsN (ps := ["self"]) fun _ _ _ _ _ _ us hl => match us, hl with | [_], _ => rfl), hF⟩, rfl⟩
theorem fn_Receiver_tables (Z : Fx K mg base T0) : ∃ fd, FunD K "tables" "Receiver.tables" (defArgs (inClass (top 22) 1)) (defBody (inClass (top 22) 1)) (defScope (inClass (top 22) 1)) [] [] (He.ma K (He.ga K "Receiver") "tables") fd ∧ FnOk P w K mg base C8.CX0 1 (He.ma K (He.ga K "Receiver") "tables") fd ["self"] (spF (mkW SS Cn K T0 none) 1 F_Receiver_tables) := by
  obtain ⟨fd, F⟩ := Z.d_Receiver_tables
  exact ⟨fd, F, (fn_okW (k := 0) (N := ["self", "kinds"]) (ps := ["self"]) F (by decide +kernel) rfl rfl fun cdv A outer s H E hr hC => (ss_cons (s_set (i := 1) rfl (.inl rfl) (e_tup (a_cons (e_fld (Z.cf_value_count _) (e_V rfl (.inl rfl) rfl rfl)) (a_cons (e_fld (Z.cf_forward _) (e_V rfl (.inl rfl) rfl rfl)) (a_cons (e_fld (Z.cf_backward _) (e_V rfl (.inl rfl) rfl rfl)) a_nil))))) (ss_one (s_ret (e_bin s_add (e_V rfl (.inl rfl) rfl rfl) (e_tup (a_cons (e_fld (Z.cf_sends _) (e_V rfl (.inl rfl) rfl rfl)) (a_cons (e_fld (Z.cf_ticks _) (e_V rfl (.inl rfl) rfl rfl)) (a_cons (e_fld (Z.cf_hears _) (e_V rfl (.inl rfl) rfl rfl)) (a_cons (e_fld (Z.cf_gives _) (e_V rfl (.inl rfl) rfl rfl)) (a_cons (e_fld (Z.cf_crashes _) (e_V rfl (.inl rfl) rfl rfl)) a_nil)))))))))))⟩
theorem met_Receiver_tables (Z : Fx K mg base T0) : Met P w K mg base (mkW SS Cn K T0 none) 1 1 83 "tables" 1 F_Receiver_tables := by
  obtain ⟨fd, F, hF⟩ := fn_Receiver_tables (P := P) (w := w) Z
  exact ⟨⟨_, fd, ["self"], Z.me_Receiver_tables.1, Z.me_Receiver_tables.2, (F.bindsN (ps := ["self"]) fun _ _ _ _ _ _ us hl => match us, hl with | [_], _ => rfl), hF⟩, rfl⟩
theorem fn_Pair___init__ (Z : Fx K mg base T0) : ∃ fd, FunD K "__init__" "Pair.__init__" (defArgs (inClass (top 23) 0)) (defBody (inClass (top 23) 0)) (defScope (inClass (top 23) 0)) [] [] (He.ma K (He.ga K "Pair") "__init__") fd ∧ FnOk P w K mg base C8.CX0 2 (He.ma K (He.ga K "Pair") "__init__") fd ["self", "sender", "receiver"] (spF (mkW SS Cn K T0 none) 3 F_Pair___init__) := by
  obtain ⟨fd, F⟩ := Z.d_Pair___init__
  exact ⟨fd, F, (fn_okW (k := 1) (N := ["self", "sender", "receiver"]) (ps := ["self", "sender", "receiver"]) F (by decide +kernel) rfl rfl fun cdv A outer s H E hr hC => (ss_cons (s_if (t_not (t_B (fun _ => rfl) (e_is (Z.kf_Sender _) (pe_glob (v := .ref (He.ga K "Sender")) rfl Z.g_Sender rfl rfl) (.own _) rfl Z.b_isinstance (e_V rfl (.inl rfl) rfl rfl)))) (ss_one s_raise) ss_nil) (ss_cons (s_if (t_not (t_B (fun _ => rfl) (e_is (Z.kf_Receiver _) (pe_glob (v := .ref (He.ga K "Receiver")) rfl Z.g_Receiver rfl rfl) (.own _) rfl Z.b_isinstance (e_V rfl (.inl rfl) rfl rfl)))) (ss_one s_raise) ss_nil) (ss_cons (s_if (t_cmp (s_ne (u64 hr)) (e_sl (e_meth0 (pl := _) (met_Sender_tables Z) (hr.mono (by decide)) (e_V rfl (.inl rfl) rfl rfl) rfl) o_none (o_some e_int)) (e_sl (e_meth0 (pl := _) (met_Receiver_tables Z) (hr.mono (by decide)) (e_V rfl (.inl rfl) rfl rfl) rfl) o_none (o_some e_int))) (ss_one s_raise) ss_nil) (ss_cons (s_fld (Z.cf_sender _) (e_V rfl (.inl rfl) rfl rfl) (e_V rfl (.inl rfl) rfl rfl)) (ss_one (s_fld (Z.cf_receiver _) (e_V rfl (.inl rfl) rfl rfl) (e_V rfl (.inl rfl) rfl rfl))))))))⟩
theorem mak_Pair (Z : Fx K mg base T0) : Mak P w K mg base (mkW SS Cn K T0 none) 2 "Pair" 2 3 F_Pair___init__ := by
  obtain ⟨fd, F, hF⟩ := fn_Pair___init__ (P := P) (w := w) Z
  exact ⟨⟨_, fd, ["self", "sender", "receiver"], Z.g_Pair, Z.mk_Pair, (F.bindsN (ps := ["self", "sender", "receiver"]) fun _ _ _ _ _ _ us hl => match us, hl with | [_, _, _], _ => rfl), hF⟩, rfl⟩
theorem fn_require_positive (Z : Fx K mg base T0) : ∃ fd, FunD K "require_positive" "require_positive" (defArgs (top 14)) (defBody (top 14)) (defScope (top 14)) [] [] (He.ga K "require_positive") fd ∧ FnOk P w K mg base C8.CX0 1 (He.ga K "require_positive") fd ["thing"] (spF (mkW SS Cn K T0 none) 1 F_require_positive) := by
  obtain ⟨fd, F⟩ := Z.d_require_positive
  exact ⟨fd, F, (fn_okW (k := 0) (N := ["thing"]) (ps := ["thing"]) F (by decide +kernel) rfl rfl fun cdv A outer s H E hr hC => (ss_one (s_if (t_w (w_or (t_B (fun _ => rfl) (e_is (Z.kf_bool _) (pe_bt rfl Z.b_bool bb_bool (by decide) rfl) (.ty _) rfl Z.b_isinstance (e_V rfl (.inl rfl) rfl rfl))) (w_or (t_not (t_B (fun _ => rfl) (e_is (Z.kf_int _) (pe_bt rfl Z.b_int bb_int (by decide) rfl) (.ty _) rfl Z.b_isinstance (e_V rfl (.inl rfl) rfl rfl)))) (w_or1 (t_cmp s_lt (e_V rfl (.inl rfl) rfl rfl) e_int))))) (ss_one s_raise) ss_nil)))⟩
theorem ok_require_positive (Z : Fx K mg base T0) : Def P w K mg base (mkW SS Cn K T0 none) 1 "require_positive" 1 F_require_positive := by
  obtain ⟨fd, F, hF⟩ := fn_require_positive (P := P) (w := w) Z
  exact ⟨⟨_, fd, ["thing"], Z.g_require_positive, F.kp, (F.bindsN (ps := ["thing"]) fun _ _ _ _ _ _ us hl => match us, hl with | [_], _ => rfl), hF⟩, rfl⟩
theorem fn_is_below (Z : Fx K mg base T0) : ∃ fd, FunD K "is_below" "is_below" (defArgs (top 12)) (defBody (top 12)) (defScope (top 12)) [] [] (He.ga K "is_below") fd ∧ FnOk P w K mg base C8.CX0 1 (He.ga K "is_below") fd ["thing", "most"] (spF (mkW SS Cn K T0 none) 2 F_is_below) := by
  obtain ⟨fd, F⟩ := Z.d_is_below
  exact ⟨fd, F, (fn_okW (k := 0) (N := ["thing", "most"]) (ps := ["thing", "most"]) F (by decide +kernel) rfl rfl fun cdv A outer s H E hr hC => (ss_one (s_ret (e_and (e_is (Z.kf_int _) (pe_bt rfl Z.b_int bb_int (by decide) rfl) (.ty _) rfl Z.b_isinstance (e_V rfl (.inl rfl) rfl rfl)) (e_and (e_not (e_is (Z.kf_bool _) (pe_bt rfl Z.b_bool bb_bool (by decide) rfl) (.ty _) rfl Z.b_isinstance (e_V rfl (.inl rfl) rfl rfl))) (e_one (e_chain s_le s_lt e_int (e_V rfl (.inl rfl) rfl rfl) (e_V rfl (.inl rfl) rfl rfl))))))))⟩
theorem ok_is_below (Z : Fx K mg base T0) : Def P w K mg base (mkW SS Cn K T0 none) 1 "is_below" 2 F_is_below := by
  obtain ⟨fd, F, hF⟩ := fn_is_below (P := P) (w := w) Z
  exact ⟨⟨_, fd, ["thing", "most"], Z.g_is_below, F.kp, (F.bindsN (ps := ["thing", "most"]) fun _ _ _ _ _ _ us hl => match us, hl with | [_, _], _ => rfl), hF⟩, rfl⟩
theorem fn_is_row (Z : Fx K mg base T0) : ∃ fd, FunD K "is_row" "is_row" (defArgs (top 13)) (defBody (top 13)) (defScope (top 13)) [] [] (He.ga K "is_row") fd ∧ FnOk P w K mg base C8.CX0 2 (He.ga K "is_row") fd ["thing", "many", "most"] (spF (mkW SS Cn K T0 none) 3 F_is_row) := by
  obtain ⟨fd, F⟩ := Z.d_is_row
  exact ⟨fd, F, (fn_okW (k := 1) (N := ["thing", "many", "most", "one"]) (ps := ["thing", "many", "most"]) F (by decide +kernel) rfl rfl fun cdv A outer s H E hr hC => (ss_one (s_ret (e_and (e_is (Z.kf_tuple _) (pe_bt rfl Z.b_tuple bb_tuple (by decide) rfl) (.ty _) rfl Z.b_isinstance (e_V rfl (.inl rfl) rfl rfl)) (e_and (e_cmp (s_eq (u64 hr)) (e_len rfl Z.b_len (e_V rfl (.inl rfl) rfl rfl)) (e_V rfl (.inl rfl) rfl rfl)) (e_one (e_all rfl Z.b_all (e_comp (own := [("one", 3)]) rfl (i_E (e_V rfl (.inl rfl) rfl rfl)) rfl (fun _ _ _ _ _ => (g_V (i := 3) rfl (.inl rfl))) (fun _ _ _ _ _ => ts_nil) (fun _ _ _ _ _ => (e_call (ok_is_below Z) (hr.mono (by decide)) rfl (a_cons (e_V rfl (.inl rfl) rfl rfl) (a_cons (e_V rfl (.inr (.inl rfl)) rfl rfl) a_nil)) (ar_cons (ar_cons ar_nil)))) (by decide)))))))))⟩
theorem ok_is_row (Z : Fx K mg base T0) : Def P w K mg base (mkW SS Cn K T0 none) 2 "is_row" 3 F_is_row := by
  obtain ⟨fd, F, hF⟩ := fn_is_row (P := P) (w := w) Z
  exact ⟨⟨_, fd, ["thing", "many", "most"], Z.g_is_row, F.kp, (F.bindsN (ps := ["thing", "many", "most"]) fun _ _ _ _ _ _ us hl => match us, hl with | [_, _, _], _ => rfl), hF⟩, rfl⟩
theorem fn_is_given (Z : Fx K mg base T0) : ∃ fd, FunD K "is_given" "is_given" (defArgs (top 20)) (defBody (top 20)) (defScope (top 20)) [] [] (He.ga K "is_given") fd ∧ FnOk P w K mg base C8.CX0 2 (He.ga K "is_given") fd ["thing", "many", "values"] (spF (mkW SS Cn K T0 none) 3 F_is_given) := by
  obtain ⟨fd, F⟩ := Z.d_is_given
  exact ⟨fd, F, (fn_okW (k := 1) (N := ["thing", "many", "values", "one"]) (ps := ["thing", "many", "values"]) F (by decide +kernel) rfl rfl fun cdv A outer s H E hr hC => (ss_cons (s_if (t_w (w_or (t_not (t_B (fun _ => rfl) (e_is (Z.kf_tuple _) (pe_bt rfl Z.b_tuple bb_tuple (by decide) rfl) (.ty _) rfl Z.b_isinstance (e_V rfl (.inl rfl) rfl rfl)))) (w_or1 (t_cmp (s_ne (u64 hr)) (e_len rfl Z.b_len (e_V rfl (.inl rfl) rfl rfl)) (e_V rfl (.inl rfl) rfl rfl))))) (ss_one (s_ret e_bool)) ss_nil) (ss_one (s_ret (e_all rfl Z.b_all (e_comp (own := [("one", 3)]) rfl (i_E (e_V rfl (.inl rfl) rfl rfl)) rfl (fun _ _ _ _ _ => (g_V (i := 3) rfl (.inl rfl))) (fun _ _ _ _ _ => ts_nil) (fun _ _ _ _ _ => (e_or (e_cmp s_isN (e_V rfl (.inl rfl) rfl rfl) e_non) (e_one (e_call (ok_is_below Z) (hr.mono (by decide)) rfl (a_cons (e_V rfl (.inl rfl) rfl rfl) (a_cons (e_V rfl (.inr (.inl rfl)) rfl rfl) a_nil)) (ar_cons (ar_cons ar_nil)))))) (by decide)))))))⟩
theorem ok_is_given (Z : Fx K mg base T0) : Def P w K mg base (mkW SS Cn K T0 none) 2 "is_given" 3 F_is_given := by
  obtain ⟨fd, F, hF⟩ := fn_is_given (P := P) (w := w) Z
  exact ⟨⟨_, fd, ["thing", "many", "values"], Z.g_is_given, F.kp, (F.bindsN (ps := ["thing", "many", "values"]) fun _ _ _ _ _ _ us hl => match us, hl with | [_, _, _], _ => rfl), hF⟩, rfl⟩
theorem ok_checked (Z : Fx K mg base T0) : LDef P w K mg base (mkW SS Cn K T0 none) 3 "checked" 3 F_checked := by
  obtain ⟨fd, F⟩ := Z.d_checked
  exact ldef_of (N := ["name", "thing", "states", "is_right", "state", "item"]) (ps := ["name", "thing", "states", "is_right"]) Z.g_checked F (by decide +kernel) (F.bindsN (ps := ["name", "thing", "states", "is_right"]) fun _ _ _ _ _ _ us hl => match us, hl with | [_, _, _, _], _ => rfl) rfl rfl rfl (.inl rfl) rfl rfl rfl fun L Lf cdv A outer s H E hr hC act => (ss_cons (s_if (t_w (w_or (t_not (t_B (fun _ => rfl) (e_isT (Z.kf_lot _) (pe_bt rfl Z.b_list bb_list (by decide) rfl) (.ty _) (pe_bt rfl Z.b_tuple bb_tuple (by decide) rfl) (.ty _) rfl Z.b_isinstance (e_V rfl (.inl rfl) rfl rfl)))) (w_or (t_cmp (s_eq (u64 hr)) (e_len rfl Z.b_len (e_V rfl (.inl rfl) rfl rfl)) e_int) (w_or1 (t_w (w_and (t_cmp s_notN (e_V rfl (.inl rfl) rfl rfl) e_non) (w_and1 (t_cmp (s_ne (u64 hr)) (e_len rfl Z.b_len (e_V rfl (.inl rfl) rfl rfl)) (e_V rfl (.inl rfl) rfl rfl))))))))) (ss_one s_raise) ss_nil) (ss_cons (s_for (i_enum rfl Z.b_enumerate (e_V rfl (.inl rfl) rfl rfl)) (g_T (is := [4, 5]) (gs_cons (i := 4) rfl (.inl rfl) (gs_cons (i := 5) rfl (.inl rfl) gs_nil))) (ss_one (s_if (t_not (t_B (fun _ => rfl) (act _ _ _ _ rfl rfl (e_V rfl (.inl rfl) rfl rfl)))) (ss_one s_raise) ss_nil))) (ss_one (s_ret (e_tupF rfl Z.b_tuple (e_V rfl (.inl rfl) rfl rfl))))))
theorem fn_checked_sends (Z : Fx K mg base T0) : ∃ fd, FunD K "checked_sends" "checked_sends" (defArgs (top 16)) (defBody (top 16)) (defScope (top 16)) [] [] (He.ga K "checked_sends") fd ∧ FnOk P w K mg base C8.CX0 5 (He.ga K "checked_sends") fd ["thing", "most"] (spF (mkW SS Cn K T0 none) 2 F_checked_sends) := by
  obtain ⟨fd, c, Pt, F, hcd, TB, hmT, hu⟩ := Z.d_checked_sends
  exact ⟨fd, F, (fn_okCW (k := 4) (N := ["thing", "most"]) (ps := ["thing", "most"]) F hcd (by decide +kernel) rfl rfl fun A outer s H E hr hC => (ss_one (s_ret (e_callL (kl := 1) (fr := ["most"]) (Nl := ["item", "most"]) (par := "item") rfl (ok_checked Z) (by decide) (hr.mono (by decide)) rfl (.cons (e_str rfl) (.cons (e_V rfl (.inl rfl) rfl rfl) (.cons e_non .nil rfl) rfl) rfl) (ar_cons (ar_cons (ar_cons ar_nil))) TB rfl hmT hu rfl rfl rfl (fun c' => LBody.mk' rfl rfl (fun _ _ _ => rfl) fun f A outer s H E hr hC => (e_or (e_cmp s_isN (e_V rfl (.inl rfl) rfl rfl) e_non) (e_one (e_call (ok_is_below Z) (hr.mono (by decide)) rfl (a_cons (e_V rfl (.inl rfl) rfl rfl) (a_cons (e_V rfl (.inr (.inr rfl)) rfl rfl) a_nil)) (ar_cons (ar_cons ar_nil))))))))))⟩
theorem ok_checked_sends (Z : Fx K mg base T0) : Def P w K mg base (mkW SS Cn K T0 none) 5 "checked_sends" 2 F_checked_sends := by
  obtain ⟨fd, F, hF⟩ := fn_checked_sends (P := P) (w := w) Z
  exact ⟨⟨_, fd, ["thing", "most"], Z.g_checked_sends, F.kp, (F.bindsN (ps := ["thing", "most"]) fun _ _ _ _ _ _ us hl => match us, hl with | [_, _], _ => rfl), hF⟩, rfl⟩
theorem fn_checked_states (Z : Fx K mg base T0) : ∃ fd, FunD K "checked_states" "checked_states" (defArgs (top 17)) (defBody (top 17)) (defScope (top 17)) [] [] (He.ga K "checked_states") fd ∧ FnOk P w K mg base C8.CX0 5 (He.ga K "checked_states") fd ["name", "thing", "states"] (spF (mkW SS Cn K T0 none) 3 F_checked_states) := by
  obtain ⟨fd, c, Pt, F, hcd, TB, hmT, hu⟩ := Z.d_checked_states
  exact ⟨fd, F, (fn_okCW (k := 4) (N := ["name", "thing", "states"]) (ps := ["name", "thing", "states"]) F hcd (by decide +kernel) rfl rfl fun A outer s H E hr hC => (ss_one (s_ret (e_callL (kl := 1) (fr := ["states"]) (Nl := ["item", "states"]) (par := "item") rfl (ok_checked Z) (by decide) (hr.mono (by decide)) rfl (.cons (e_V rfl (.inl rfl) rfl rfl) (.cons (e_V rfl (.inl rfl) rfl rfl) (.cons (e_V rfl (.inr (.inl rfl)) rfl rfl) .nil rfl) rfl) rfl) (ar_cons (ar_cons (ar_cons ar_nil))) TB rfl hmT hu rfl rfl rfl (fun c' => LBody.mk' rfl rfl (fun _ _ _ => rfl) fun f A outer s H E hr hC => (e_call (ok_is_below Z) (hr.mono (by decide)) rfl (a_cons (e_V rfl (.inl rfl) rfl rfl) (a_cons (e_V rfl (.inr (.inr rfl)) rfl rfl) a_nil)) (ar_cons (ar_cons ar_nil))))))))⟩
theorem ok_checked_states (Z : Fx K mg base T0) : Def P w K mg base (mkW SS Cn K T0 none) 5 "checked_states" 3 F_checked_states := by
  obtain ⟨fd, F, hF⟩ := fn_checked_states (P := P) (w := w) Z
  exact ⟨⟨_, fd, ["name", "thing", "states"], Z.g_checked_states, F.kp, (F.bindsN (ps := ["name", "thing", "states"]) fun _ _ _ _ _ _ us hl => match us, hl with | [_, _, _], _ => rfl), hF⟩, rfl⟩
theorem fn_checked_hears (Z : Fx K mg base T0) : ∃ fd, FunD K "checked_hears" "checked_hears" (defArgs (top 18)) (defBody (top 18)) (defScope (top 18)) [] [] (He.ga K "checked_hears") fd ∧ FnOk P w K mg base C8.CX0 5 (He.ga K "checked_hears") fd ["thing", "many", "states"] (spF (mkW SS Cn K T0 none) 3 F_checked_hears) := by
  obtain ⟨fd, c, Pt, F, hcd, TB, hmT, hu⟩ := Z.d_checked_hears
  exact ⟨fd, F, (fn_okCW (k := 4) (N := ["thing", "many", "states"]) (ps := ["thing", "many", "states"]) F hcd (by decide +kernel) rfl rfl fun A outer s H E hr hC => (ss_one (s_ret (e_callL (kl := 2) (fr := ["many", "states"]) (Nl := ["item", "many", "states"]) (par := "item") rfl (ok_checked Z) (by decide) (hr.mono (by decide)) rfl (.cons (e_str rfl) (.cons (e_V rfl (.inl rfl) rfl rfl) (.cons (e_V rfl (.inr (.inl rfl)) rfl rfl) .nil rfl) rfl) rfl) (ar_cons (ar_cons (ar_cons ar_nil))) TB rfl hmT hu rfl rfl rfl (fun c' => LBody.mk' rfl rfl (fun _ _ _ => rfl) fun f A outer s H E hr hC => (e_call (ok_is_row Z) (hr.mono (by decide)) rfl (a_cons (e_V rfl (.inl rfl) rfl rfl) (a_cons (e_V rfl (.inr (.inr rfl)) rfl rfl) (a_cons (e_V rfl (.inr (.inr rfl)) rfl rfl) a_nil))) (ar_cons (ar_cons (ar_cons ar_nil)))))))))⟩
theorem ok_checked_hears (Z : Fx K mg base T0) : Def P w K mg base (mkW SS Cn K T0 none) 5 "checked_hears" 3 F_checked_hears := by
  obtain ⟨fd, F, hF⟩ := fn_checked_hears (P := P) (w := w) Z
  exact ⟨⟨_, fd, ["thing", "many", "states"], Z.g_checked_hears, F.kp, (F.bindsN (ps := ["thing", "many", "states"]) fun _ _ _ _ _ _ us hl => match us, hl with | [_, _, _], _ => rfl), hF⟩, rfl⟩
theorem fn_checked_takes (Z : Fx K mg base T0) : ∃ fd, FunD K "checked_takes" "checked_takes" (defArgs (top 19)) (defBody (top 19)) (defScope (top 19)) [] [] (He.ga K "checked_takes") fd ∧ FnOk P w K mg base C8.CX0 5 (He.ga K "checked_takes") fd ["thing", "values", "states"] (spF (mkW SS Cn K T0 none) 3 F_checked_takes) := by
  obtain ⟨fd, c, Pt, F, hcd, TB, hmT, hu⟩ := Z.d_checked_takes
  exact ⟨fd, F, (fn_okCW (k := 4) (N := ["thing", "values", "states"]) (ps := ["thing", "values", "states"]) F hcd (by decide +kernel) rfl rfl fun A outer s H E hr hC => (ss_cons (s_if (t_w (w_and (t_B (fun _ => rfl) (e_isT (Z.kf_lot _) (pe_bt rfl Z.b_list bb_list (by decide) rfl) (.ty _) (pe_bt rfl Z.b_tuple bb_tuple (by decide) rfl) (.ty _) rfl Z.b_isinstance (e_V rfl (.inl rfl) rfl rfl))) (w_and (t_cmp (s_eq (u64 hr)) (e_len rfl Z.b_len (e_V rfl (.inl rfl) rfl rfl)) (e_V rfl (.inr (.inl rfl)) rfl rfl)) (w_and1 (t_cmp s_isN (e_idx (e_V rfl (.inl rfl) rfl rfl) e_int (fun _ _ => rfl)) e_non))))) (ss_one s_raise) ss_nil) (ss_one (s_ret (e_callL (kl := 2) (fr := ["values", "states"]) (Nl := ["item", "values", "states"]) (par := "item") rfl (ok_checked Z) (by decide) (hr.mono (by decide)) rfl (.cons (e_str rfl) (.cons (e_V rfl (.inl rfl) rfl rfl) (.cons (e_V rfl (.inr (.inl rfl)) rfl rfl) .nil rfl) rfl) rfl) (ar_cons (ar_cons (ar_cons ar_nil))) TB rfl hmT hu rfl rfl rfl (fun c' => LBody.mk' rfl rfl (fun _ _ _ => rfl) fun f A outer s H E hr hC => (e_or (e_cmp s_isN (e_V rfl (.inl rfl) rfl rfl) e_non) (e_one (e_call (ok_is_row Z) (hr.mono (by decide)) rfl (a_cons (e_V rfl (.inl rfl) rfl rfl) (a_cons (e_V rfl (.inr (.inr rfl)) rfl rfl) (a_cons (e_V rfl (.inr (.inr rfl)) rfl rfl) a_nil))) (ar_cons (ar_cons (ar_cons ar_nil))))))))))))⟩
theorem ok_checked_takes (Z : Fx K mg base T0) : Def P w K mg base (mkW SS Cn K T0 none) 5 "checked_takes" 3 F_checked_takes := by
  obtain ⟨fd, F, hF⟩ := fn_checked_takes (P := P) (w := w) Z
  exact ⟨⟨_, fd, ["thing", "values", "states"], Z.g_checked_takes, F.kp, (F.bindsN (ps := ["thing", "values", "states"]) fun _ _ _ _ _ _ us hl => match us, hl with | [_, _, _], _ => rfl), hF⟩, rfl⟩
theorem fn_Sender___init__ (Z : Fx K mg base T0) : ∃ fd, FunD K "__init__" "Sender.__init__" (defArgs (inClass (top 21) 0)) (defBody (inClass (top 21) 0)) (defScope (inClass (top 21) 0)) [] [] (He.ma K (He.ga K "Sender") "__init__") fd ∧ FnOk P w K mg base C8.CX0 6 (He.ma K (He.ga K "Sender") "__init__") fd ["self", "value_count", "forward", "backward", "sends", "ticks", "hears", "takes", "crashes"] (spF (mkW SS Cn K T0 none) 9 F_Sender___init__) := by
  obtain ⟨fd, F⟩ := Z.d_Sender___init__
  exact ⟨fd, F, (fn_okW (k := 5) (N := ["self", "value_count", "forward", "backward", "sends", "ticks", "hears", "takes", "crashes", "number", "many"]) (ps := ["self", "value_count", "forward", "backward", "sends", "ticks", "hears", "takes", "crashes"]) F (by decide +kernel) rfl rfl fun cdv A outer s H E hr hC => (ss_cons (s_for (i_E (e_tup (a_cons (e_V rfl (.inl rfl) rfl rfl) (a_cons (e_V rfl (.inl rfl) rfl rfl) (a_cons (e_V rfl (.inl rfl) rfl rfl) a_nil))))) (g_V (i := 9) rfl (.inl rfl)) (ss_one (s_exp (e_call (ok_require_positive Z) (hr.mono (by decide)) rfl (a_cons (e_V rfl (.inl rfl) rfl rfl) a_nil) (ar_cons ar_nil))))) (ss_cons (s_fld (Z.cf_value_count _) (e_V rfl (.inl rfl) rfl rfl) (e_V rfl (.inl rfl) rfl rfl)) (ss_cons (s_fld (Z.cf_forward _) (e_V rfl (.inl rfl) rfl rfl) (e_V rfl (.inl rfl) rfl rfl)) (ss_cons (s_fld (Z.cf_backward _) (e_V rfl (.inl rfl) rfl rfl) (e_V rfl (.inl rfl) rfl rfl)) (ss_cons (s_fld (Z.cf_sends _) (e_V rfl (.inl rfl) rfl rfl) (e_call (ok_checked_sends Z) (hr.mono (by decide)) rfl (a_cons (e_V rfl (.inl rfl) rfl rfl) (a_cons (e_V rfl (.inl rfl) rfl rfl) a_nil)) (ar_cons (ar_cons ar_nil)))) (ss_cons (s_set (i := 10) rfl (.inl rfl) (e_len rfl Z.b_len (e_fld (Z.cf_sends _) (e_V rfl (.inl rfl) rfl rfl)))) (ss_cons (s_fld (Z.cf_ticks _) (e_V rfl (.inl rfl) rfl rfl) (e_call (ok_checked_states Z) (hr.mono (by decide)) rfl (a_cons (e_str rfl) (a_cons (e_V rfl (.inl rfl) rfl rfl) (a_cons (e_V rfl (.inl rfl) rfl rfl) a_nil))) (ar_cons (ar_cons (ar_cons ar_nil))))) (ss_cons (s_fld (Z.cf_hears _) (e_V rfl (.inl rfl) rfl rfl) (e_call (ok_checked_hears Z) (hr.mono (by decide)) rfl (a_cons (e_V rfl (.inl rfl) rfl rfl) (a_cons (e_V rfl (.inl rfl) rfl rfl) (a_cons (e_V rfl (.inl rfl) rfl rfl) a_nil))) (ar_cons (ar_cons (ar_cons ar_nil))))) (ss_cons (s_fld (Z.cf_takes _) (e_V rfl (.inl rfl) rfl rfl) (e_call (ok_checked_takes Z) (hr.mono (by decide)) rfl (a_cons (e_V rfl (.inl rfl) rfl rfl) (a_cons (e_V rfl (.inl rfl) rfl rfl) (a_cons (e_V rfl (.inl rfl) rfl rfl) a_nil))) (ar_cons (ar_cons (ar_cons ar_nil))))) (ss_one (s_fld (Z.cf_crashes _) (e_V rfl (.inl rfl) rfl rfl) (e_call (ok_checked_states Z) (hr.mono (by decide)) rfl (a_cons (e_str rfl) (a_cons (e_V rfl (.inl rfl) rfl rfl) (a_cons (e_V rfl (.inl rfl) rfl rfl) a_nil))) (ar_cons (ar_cons (ar_cons ar_nil))))))))))))))))⟩
theorem kw_Sender___init___3_sends_ticks_hears_takes_crashes (Z : Fx K mg base T0) : MakK P w K mg base (mkW SS Cn K T0 none) 6 "Sender" 0 9 F_Sender___init__ 3 ["sends", "ticks", "hears", "takes", "crashes"] [0, 1, 2, 3, 4, 5, 6, 7, 8] := by
  obtain ⟨fd, F, hF⟩ := fn_Sender___init__ (P := P) (w := w) Z
  exact ⟨⟨_, fd, ["self", "value_count", "forward", "backward", "sends", "ticks", "hears", "takes", "crashes"], Z.g_Sender, Z.mk_Sender, (kb_of (is := [0, 1, 2, 3, 4, 5, 6, 7, 8]) F fun _ _ _ _ _ _ us ws h1 h2 => match us, h1, ws, h2 with | [_, _, _, _], _, [_, _, _, _, _], _ => rfl), hF⟩, rfl⟩
theorem fn__law_sender (Z : Fx K mg base T0) : ∃ fd, FunD K "_law_sender" "_law_sender" (defArgs (top 68)) (defBody (top 68)) (defScope (top 68)) [] [] (He.ga K "_law_sender") fd ∧ FnOk P w K mg base C8.CX0 8 (He.ga K "_law_sender") fd ["values_told", "grips", "falls"] (spF (mkW SS Cn K T0 none) 3 F__law_sender) := by
  obtain ⟨fd, F⟩ := Z.d__law_sender
  exact ⟨fd, F, (fn_okW (k := 7) (N := ["values_told", "grips", "falls", "ears", "voices"]) (ps := ["values_told", "grips", "falls"]) F (by decide +kernel) rfl rfl fun cdv A outer s H E hr hC => (ss_cons (s_set (i := 3) rfl (.inl rfl) (e_lst (a_cons (e_tup (a_cons e_int (a_cons e_int (a_cons e_int a_nil)))) (a_cons (e_tup (a_cons e_int (a_cons e_int (a_cons e_int a_nil)))) (a_cons (e_tup (a_cons e_int (a_cons e_int (a_cons e_int a_nil)))) (a_cons (e_tup (a_cons e_int (a_cons e_int (a_cons e_int a_nil)))) a_nil)))))) (ss_cons (s_set (i := 4) rfl (.inl rfl) (e_lst (a_cons e_non (a_cons e_non (a_cons e_int (a_cons e_int a_nil)))))) (ss_one (s_ret (e_mkK (kw_Sender___init___3_sends_ticks_hears_takes_crashes Z) (hr.mono (by decide)) rfl (a_cons (e_V rfl (.inl rfl) rfl rfl) (a_cons e_int (a_cons e_int a_nil))) (ar_cons (ar_cons (ar_cons ar_nil))) (k_cons (e_V rfl (.inl rfl) rfl rfl) (k_cons (e_lst (a_cons e_int (a_cons e_int (a_cons e_int (a_cons e_int a_nil))))) (k_cons (e_V rfl (.inl rfl) rfl rfl) (k_cons (e_V rfl (.inl rfl) rfl rfl) (k_cons (e_V rfl (.inl rfl) rfl rfl) k_nil))))) (ar_cons (ar_cons (ar_cons (ar_cons (ar_cons ar_nil))))) rfl (by decide)))))))⟩
theorem ok__law_sender (Z : Fx K mg base T0) : Def P w K mg base (mkW SS Cn K T0 none) 8 "_law_sender" 3 F__law_sender := by
  obtain ⟨fd, F, hF⟩ := fn__law_sender (P := P) (w := w) Z
  exact ⟨⟨_, fd, ["values_told", "grips", "falls"], Z.g__law_sender, F.kp, (F.bindsN (ps := ["values_told", "grips", "falls"]) fun _ _ _ _ _ _ us hl => match us, hl with | [_, _, _], _ => rfl), hF⟩, rfl⟩
theorem fn_Receiver___init__ (Z : Fx K mg base T0) : ∃ fd, FunD K "__init__" "Receiver.__init__" (defArgs (inClass (top 22) 0)) (defBody (inClass (top 22) 0)) (defScope (inClass (top 22) 0)) [] [] (He.ma K (He.ga K "Receiver") "__init__") fd ∧ FnOk P w K mg base C8.CX0 6 (He.ma K (He.ga K "Receiver") "__init__") fd ["self", "value_count", "forward", "backward", "sends", "ticks", "hears", "gives", "crashes"] (spF (mkW SS Cn K T0 none) 9 F_Receiver___init__) := by
  obtain ⟨fd, c, Pt, F, hcd, TB, hmT, hu⟩ := Z.d_Receiver___init__
  exact ⟨fd, F, (fn_okCW (k := 5) (N := ["self", "value_count", "forward", "backward", "sends", "ticks", "hears", "gives", "crashes", "number", "many"]) (ps := ["self", "value_count", "forward", "backward", "sends", "ticks", "hears", "gives", "crashes"]) F hcd (by decide +kernel) rfl rfl fun A outer s H E hr hC => (ss_cons (s_for (i_E (e_tup (a_cons (e_V rfl (.inr (.inl rfl)) rfl rfl) (a_cons (e_V rfl (.inr (.inl rfl)) rfl rfl) (a_cons (e_V rfl (.inl rfl) rfl rfl) a_nil))))) (g_V (i := 9) rfl (.inl rfl)) (ss_one (s_exp (e_call (ok_require_positive Z) (hr.mono (by decide)) rfl (a_cons (e_V rfl (.inl rfl) rfl rfl) a_nil) (ar_cons ar_nil))))) (ss_cons (s_fld (Z.cf_value_count _) (e_V rfl (.inl rfl) rfl rfl) (e_V rfl (.inr (.inl rfl)) rfl rfl)) (ss_cons (s_fld (Z.cf_forward _) (e_V rfl (.inl rfl) rfl rfl) (e_V rfl (.inr (.inl rfl)) rfl rfl)) (ss_cons (s_fld (Z.cf_backward _) (e_V rfl (.inl rfl) rfl rfl) (e_V rfl (.inl rfl) rfl rfl)) (ss_cons (s_fld (Z.cf_sends _) (e_V rfl (.inl rfl) rfl rfl) (e_call (ok_checked_sends Z) (hr.mono (by decide)) rfl (a_cons (e_V rfl (.inl rfl) rfl rfl) (a_cons (e_V rfl (.inl rfl) rfl rfl) a_nil)) (ar_cons (ar_cons ar_nil)))) (ss_cons (s_set (i := 10) rfl (.inl rfl) (e_len rfl Z.b_len (e_fld (Z.cf_sends _) (e_V rfl (.inl rfl) rfl rfl)))) (ss_cons (s_fld (Z.cf_ticks _) (e_V rfl (.inl rfl) rfl rfl) (e_call (ok_checked_states Z) (hr.mono (by decide)) rfl (a_cons (e_str rfl) (a_cons (e_V rfl (.inl rfl) rfl rfl) (a_cons (e_V rfl (.inl rfl) rfl rfl) a_nil))) (ar_cons (ar_cons (ar_cons ar_nil))))) (ss_cons (s_fld (Z.cf_hears _) (e_V rfl (.inl rfl) rfl rfl) (e_call (ok_checked_hears Z) (hr.mono (by decide)) rfl (a_cons (e_V rfl (.inl rfl) rfl rfl) (a_cons (e_V rfl (.inr (.inl rfl)) rfl rfl) (a_cons (e_V rfl (.inl rfl) rfl rfl) a_nil))) (ar_cons (ar_cons (ar_cons ar_nil))))) (ss_cons (s_fld (Z.cf_gives _) (e_V rfl (.inl rfl) rfl rfl) (e_callL (kl := 2) (fr := ["forward", "value_count"]) (Nl := ["item", "forward", "value_count"]) (par := "item") rfl (ok_checked Z) (by decide) (hr.mono (by decide)) rfl (.cons (e_str rfl) (.cons (e_V rfl (.inl rfl) rfl rfl) (.cons (e_V rfl (.inl rfl) rfl rfl) .nil rfl) rfl) rfl) (ar_cons (ar_cons (ar_cons ar_nil))) TB rfl hmT hu rfl rfl rfl (fun c' => LBody.mk' rfl rfl (fun _ _ _ => rfl) fun f A outer s H E hr hC => (e_call (ok_is_given Z) (hr.mono (by decide)) rfl (a_cons (e_V rfl (.inl rfl) rfl rfl) (a_cons (e_V rfl (.inr (.inr rfl)) rfl rfl) (a_cons (e_V rfl (.inr (.inr rfl)) rfl rfl) a_nil))) (ar_cons (ar_cons (ar_cons ar_nil))))))) (ss_one (s_fld (Z.cf_crashes _) (e_V rfl (.inl rfl) rfl rfl) (e_call (ok_checked_states Z) (hr.mono (by decide)) rfl (a_cons (e_str rfl) (a_cons (e_V rfl (.inl rfl) rfl rfl) (a_cons (e_V rfl (.inl rfl) rfl rfl) a_nil))) (ar_cons (ar_cons (ar_cons ar_nil))))))))))))))))⟩
theorem kw_Receiver___init___3_sends_ticks_hears_gives_crashes (Z : Fx K mg base T0) : MakK P w K mg base (mkW SS Cn K T0 none) 6 "Receiver" 1 9 F_Receiver___init__ 3 ["sends", "ticks", "hears", "gives", "crashes"] [0, 1, 2, 3, 4, 5, 6, 7, 8] := by
  obtain ⟨fd, F, hF⟩ := fn_Receiver___init__ (P := P) (w := w) Z
  exact ⟨⟨_, fd, ["self", "value_count", "forward", "backward", "sends", "ticks", "hears", "gives", "crashes"], Z.g_Receiver, Z.mk_Receiver, (kb_of (is := [0, 1, 2, 3, 4, 5, 6, 7, 8]) F fun _ _ _ _ _ _ us ws h1 h2 => match us, h1, ws, h2 with | [_, _, _, _], _, [_, _, _, _, _], _ => rfl), hF⟩, rfl⟩
theorem fn__law_receiver (Z : Fx K mg base T0) : ∃ fd, FunD K "_law_receiver" "_law_receiver" (defArgs (top 69)) (defBody (top 69)) (defScope (top 69)) [] [] (He.ga K "_law_receiver") fd ∧ FnOk P w K mg base C8.CX0 8 (He.ga K "_law_receiver") fd ["values_told", "voices", "steps", "ears", "gifts", "falls"] (spF (mkW SS Cn K T0 none) 6 F__law_receiver) := by
  obtain ⟨fd, F⟩ := Z.d__law_receiver
  exact ⟨fd, F, (fn_okW (k := 7) (N := ["values_told", "voices", "steps", "ears", "gifts", "falls"]) (ps := ["values_told", "voices", "steps", "ears", "gifts", "falls"]) F (by decide +kernel) rfl rfl fun cdv A outer s H E hr hC => (ss_one (s_ret (e_mkK (kw_Receiver___init___3_sends_ticks_hears_gives_crashes Z) (hr.mono (by decide)) rfl (a_cons (e_V rfl (.inl rfl) rfl rfl) (a_cons e_int (a_cons e_int a_nil))) (ar_cons (ar_cons (ar_cons ar_nil))) (k_cons (e_V rfl (.inl rfl) rfl rfl) (k_cons (e_V rfl (.inl rfl) rfl rfl) (k_cons (e_V rfl (.inl rfl) rfl rfl) (k_cons (e_V rfl (.inl rfl) rfl rfl) (k_cons (e_V rfl (.inl rfl) rfl rfl) k_nil))))) (ar_cons (ar_cons (ar_cons (ar_cons (ar_cons ar_nil))))) rfl (by decide)))))⟩
theorem ok__law_receiver (Z : Fx K mg base T0) : Def P w K mg base (mkW SS Cn K T0 none) 8 "_law_receiver" 6 F__law_receiver := by
  obtain ⟨fd, F, hF⟩ := fn__law_receiver (P := P) (w := w) Z
  exact ⟨⟨_, fd, ["values_told", "voices", "steps", "ears", "gifts", "falls"], Z.g__law_receiver, F.kp, (F.bindsN (ps := ["values_told", "voices", "steps", "ears", "gifts", "falls"]) fun _ _ _ _ _ _ us hl => match us, hl with | [_, _, _, _, _, _], _ => rfl), hF⟩, rfl⟩
theorem fn__law_later (Z : Fx K mg base T0) : ∃ fd, FunD K "_law_later" "_law_later" (defArgs (top 70)) (defBody (top 70)) (defScope (top 70)) [] [] (He.ga K "_law_later") fd ∧ FnOk P w K mg base C8.CX0 9 (He.ga K "_law_later") fd ["voices", "falls"] (spF (mkW SS Cn K T0 none) 2 F__law_later) := by
  obtain ⟨fd, F⟩ := Z.d__law_later
  exact ⟨fd, F, (fn_okW (k := 8) (N := ["voices", "falls", "ears", "gifts"]) (ps := ["voices", "falls"]) F (by decide +kernel) rfl rfl fun cdv A outer s H E hr hC => (ss_cons (s_par (i := 2) (j := 3) rfl rfl (by decide) rfl rfl (a_cons (e_lst (a_cons (e_tup (a_cons e_int (a_cons e_int a_nil))) (a_cons (e_tup (a_cons e_int (a_cons e_int a_nil))) (a_cons (e_tup (a_cons e_int (a_cons e_int a_nil))) (a_cons (e_tup (a_cons e_int (a_cons e_int a_nil))) a_nil))))) (a_cons (e_lst (a_cons (e_tup (a_cons e_non (a_cons e_non a_nil))) (a_cons (e_tup (a_cons e_non (a_cons e_non a_nil))) (a_cons (e_tup (a_cons e_non (a_cons e_int a_nil))) (a_cons (e_tup (a_cons e_non (a_cons e_non a_nil))) a_nil))))) a_nil)) rfl) (ss_one (s_ret (e_call (ok__law_receiver Z) (hr.mono (by decide)) rfl (a_cons e_int (a_cons (e_V rfl (.inl rfl) rfl rfl) (a_cons (e_lst (a_cons e_int (a_cons e_int (a_cons e_int (a_cons e_int a_nil))))) (a_cons (e_V rfl (.inl rfl) rfl rfl) (a_cons (e_V rfl (.inl rfl) rfl rfl) (a_cons (e_V rfl (.inl rfl) rfl rfl) a_nil)))))) (ar_cons (ar_cons (ar_cons (ar_cons (ar_cons (ar_cons ar_nil)))))))))))⟩
theorem ok__law_later (Z : Fx K mg base T0) : Def P w K mg base (mkW SS Cn K T0 none) 9 "_law_later" 2 F__law_later := by
  obtain ⟨fd, F, hF⟩ := fn__law_later (P := P) (w := w) Z
  exact ⟨⟨_, fd, ["voices", "falls"], Z.g__law_later, F.kp, (F.bindsN (ps := ["voices", "falls"]) fun _ _ _ _ _ _ us hl => match us, hl with | [_, _], _ => rfl), hF⟩, rfl⟩
theorem fn__law_quick (Z : Fx K mg base T0) : ∃ fd, FunD K "_law_quick" "_law_quick" (defArgs (top 71)) (defBody (top 71)) (defScope (top 71)) [] [] (He.ga K "_law_quick") fd ∧ FnOk P w K mg base C8.CX0 9 (He.ga K "_law_quick") fd ["values_told", "falls"] (spF (mkW SS Cn K T0 none) 2 F__law_quick) := by
  obtain ⟨fd, F⟩ := Z.d__law_quick
  exact ⟨fd, F, (fn_okW (k := 8) (N := ["values_told", "falls"]) (ps := ["values_told", "falls"]) F (by decide +kernel) rfl rfl fun cdv A outer s H E hr hC => (ss_one (s_ret (e_call (ok__law_receiver Z) (hr.mono (by decide)) rfl (a_cons (e_V rfl (.inl rfl) rfl rfl) (a_cons (e_lst (a_cons e_int (a_cons e_int a_nil))) (a_cons (e_lst (a_cons e_int (a_cons e_int a_nil))) (a_cons (e_lst (a_cons (e_tup (a_cons e_int (a_cons e_int a_nil))) (a_cons (e_tup (a_cons e_int (a_cons e_int a_nil))) a_nil))) (a_cons (e_lst (a_cons (e_tup (a_cons e_non (a_cons e_int a_nil))) (a_cons (e_tup (a_cons e_non (a_cons e_non a_nil))) a_nil))) (a_cons (e_V rfl (.inl rfl) rfl rfl) a_nil)))))) (ar_cons (ar_cons (ar_cons (ar_cons (ar_cons (ar_cons ar_nil))))))))))⟩
theorem ok__law_quick (Z : Fx K mg base T0) : Def P w K mg base (mkW SS Cn K T0 none) 9 "_law_quick" 2 F__law_quick := by
  obtain ⟨fd, F, hF⟩ := fn__law_quick (P := P) (w := w) Z
  exact ⟨⟨_, fd, ["values_told", "falls"], Z.g__law_quick, F.kp, (F.bindsN (ps := ["values_told", "falls"]) fun _ _ _ _ _ _ us hl => match us, hl with | [_, _], _ => rfl), hF⟩, rfl⟩
theorem fn__law_third (Z : Fx K mg base T0) : ∃ fd, FunD K "_law_third" "_law_third" (defArgs (top 72)) (defBody (top 72)) (defScope (top 72)) [] [] (He.ga K "_law_third") fd ∧ FnOk P w K mg base C8.CX0 9 (He.ga K "_law_third") fd ["falls"] (spF (mkW SS Cn K T0 none) 1 F__law_third) := by
  obtain ⟨fd, F⟩ := Z.d__law_third
  exact ⟨fd, F, (fn_okW (k := 8) (N := ["falls", "gifts"]) (ps := ["falls"]) F (by decide +kernel) rfl rfl fun cdv A outer s H E hr hC => (ss_cons (s_set (i := 1) rfl (.inl rfl) (e_lst (a_cons (e_tup (a_cons e_non (a_cons e_int a_nil))) (a_cons (e_tup (a_cons e_non (a_cons e_non a_nil))) (a_cons (e_tup (a_cons e_non (a_cons e_non a_nil))) a_nil))))) (ss_one (s_ret (e_call (ok__law_receiver Z) (hr.mono (by decide)) rfl (a_cons e_int (a_cons (e_lst (a_cons e_int (a_cons e_int (a_cons e_int a_nil)))) (a_cons (e_lst (a_cons e_int (a_cons e_int (a_cons e_int a_nil)))) (a_cons (e_lst (a_cons (e_tup (a_cons e_int (a_cons e_int a_nil))) (a_cons (e_tup (a_cons e_int (a_cons e_int a_nil))) (a_cons (e_tup (a_cons e_int (a_cons e_int a_nil))) a_nil)))) (a_cons (e_V rfl (.inl rfl) rfl rfl) (a_cons (e_V rfl (.inl rfl) rfl rfl) a_nil)))))) (ar_cons (ar_cons (ar_cons (ar_cons (ar_cons (ar_cons ar_nil)))))))))))⟩
theorem ok__law_third (Z : Fx K mg base T0) : Def P w K mg base (mkW SS Cn K T0 none) 9 "_law_third" 1 F__law_third := by
  obtain ⟨fd, F, hF⟩ := fn__law_third (P := P) (w := w) Z
  exact ⟨⟨_, fd, ["falls"], Z.g__law_third, F.kp, (F.bindsN (ps := ["falls"]) fun _ _ _ _ _ _ us hl => match us, hl with | [_], _ => rfl), hF⟩, rfl⟩
theorem fn__law_laps (Z : Fx K mg base T0) : ∃ fd, FunD K "_law_laps" "_law_laps" (defArgs (top 73)) (defBody (top 73)) (defScope (top 73)) [] [] (He.ga K "_law_laps") fd ∧ FnOk P w K mg base C8.CX0 1 (He.ga K "_law_laps") fd ["many", "is_mute"] (spF (mkW SS Cn K T0 none) 2 F__law_laps) := by
  obtain ⟨fd, F⟩ := Z.d__law_laps
  exact ⟨fd, F, (fn_okW (k := 0) (N := ["many", "is_mute", "found", "lap"]) (ps := ["many", "is_mute"]) F (by decide +kernel) rfl rfl fun cdv A outer s H E hr hC => (ss_cons (s_set (i := 2) rfl (.inl rfl) (e_lst (a_cons (e_tup (a_cons (e_str rfl) (a_cons e_int a_nil))) a_nil))) (ss_cons (s_for (i_R rfl Z.b_range (e_V rfl (.inl rfl) rfl rfl)) (g_V (i := 3) rfl (.inl rfl)) (ss_cons (s_set (i := 2) rfl (.inl rfl) (e_bin s_add (e_V rfl (.inl rfl) rfl rfl) (e_lst (a_cons (e_tup (a_cons (e_str rfl) a_nil)) (a_cons (e_tup (a_cons (e_str rfl) (a_cons (e_str rfl) a_nil))) (a_cons (e_tup (a_cons (e_str rfl) a_nil)) a_nil)))))) (ss_one (s_if (t_w (w_or (t_cmp s_gt (e_V rfl (.inl rfl) rfl rfl) e_int) (w_or1 (t_not (t_B (fun _ => rfl) (e_V rfl (.inl rfl) rfl rfl)))))) (ss_one (s_exp (e_append (e_V rfl (.inl rfl) rfl rfl) (e_tup (a_cons (e_str rfl) (a_cons (e_str rfl) a_nil)))))) ss_nil)))) (ss_one (s_ret (e_V rfl (.inl rfl) rfl rfl))))))⟩
theorem ok__law_laps (Z : Fx K mg base T0) : Def P w K mg base (mkW SS Cn K T0 none) 1 "_law_laps" 2 F__law_laps := by
  obtain ⟨fd, F, hF⟩ := fn__law_laps (P := P) (w := w) Z
  exact ⟨⟨_, fd, ["many", "is_mute"], Z.g__law_laps, F.kp, (F.bindsN (ps := ["many", "is_mute"]) fun _ _ _ _ _ _ us hl => match us, hl with | [_, _], _ => rfl), hF⟩, rfl⟩
theorem fn__law_rows (Z : Fx K mg base T0) : ∃ fd, FunD K "_law_rows" "_law_rows" (defArgs (top 74)) (defBody (top 74)) (defScope (top 74)) [] [] (He.ga K "_law_rows") fd ∧ FnOk P w K mg base C8.CX0 10 (He.ga K "_law_rows") fd [] (spF (mkW SS Cn K T0 none) 0 F__law_rows) := by
  obtain ⟨fd, F⟩ := Z.d__law_rows
  exact ⟨fd, F, (fn_okW (k := 9) (N := ["same", "own", "one", "kept", "ears", "gifts", "other", "later", "turned", "two", "found", "more"]) (ps := []) F (by decide +kernel) rfl rfl fun cdv A outer s H E hr hC => (ss_cons (s_par (i := 0) (j := 1) rfl rfl (by decide) rfl rfl (a_cons (e_lst (a_cons (e_tup (a_cons e_int a_nil)) (a_cons (e_tup (a_cons e_int a_nil)) (a_cons e_non (a_cons e_non a_nil))))) (a_cons (e_lst (a_cons e_int (a_cons e_int (a_cons e_int (a_cons e_int a_nil))))) a_nil)) rfl) (ss_cons (s_par (i := 2) (j := 3) rfl rfl (by decide) rfl rfl (a_cons (e_call (ok__law_sender Z) (hr.mono (by decide)) rfl (a_cons e_int (a_cons (e_V rfl (.inl rfl) rfl rfl) (a_cons (e_bin s_mul (e_lst (a_cons e_int a_nil)) e_int) a_nil))) (ar_cons (ar_cons (ar_cons ar_nil)))) (a_cons (e_call (ok__law_sender Z) (hr.mono (by decide)) rfl (a_cons e_int (a_cons (e_V rfl (.inl rfl) rfl rfl) (a_cons (e_V rfl (.inl rfl) rfl rfl) a_nil))) (ar_cons (ar_cons (ar_cons ar_nil)))) a_nil)) rfl) (ss_cons (s_par (i := 4) (j := 5) rfl rfl (by decide) rfl rfl (a_cons (e_lst (a_cons (e_tup (a_cons e_int (a_cons e_int a_nil))) (a_cons (e_tup (a_cons e_int (a_cons e_int a_nil))) (a_cons (e_tup (a_cons e_int (a_cons e_int a_nil))) (a_cons (e_tup (a_cons e_int (a_cons e_int a_nil))) a_nil))))) (a_cons (e_lst (a_cons (e_tup (a_cons e_non (a_cons e_non a_nil))) (a_cons (e_tup (a_cons e_non (a_cons e_int a_nil))) (a_cons (e_tup (a_cons e_non (a_cons e_non a_nil))) (a_cons (e_tup (a_cons e_non (a_cons e_non a_nil))) a_nil))))) a_nil)) rfl) (ss_cons (s_set (i := 6) rfl (.inl rfl) (e_call (ok__law_receiver Z) (hr.mono (by decide)) rfl (a_cons e_int (a_cons (e_lst (a_cons e_int (a_cons e_int (a_cons e_int (a_cons e_int a_nil))))) (a_cons (e_lst (a_cons e_int (a_cons e_int (a_cons e_int (a_cons e_int a_nil))))) (a_cons (e_V rfl (.inl rfl) rfl rfl) (a_cons (e_V rfl (.inl rfl) rfl rfl) (a_cons (e_lst (a_cons e_int (a_cons e_int (a_cons e_int (a_cons e_int a_nil))))) a_nil)))))) (ar_cons (ar_cons (ar_cons (ar_cons (ar_cons (ar_cons ar_nil)))))))) (ss_cons (s_set (i := 7) rfl (.inl rfl) (e_call (ok__law_later Z) (hr.mono (by decide)) rfl (a_cons (e_lst (a_cons e_int (a_cons e_int (a_cons e_int (a_cons e_int a_nil))))) (a_cons (e_lst (a_cons e_int (a_cons e_int (a_cons e_int (a_cons e_int a_nil))))) a_nil)) (ar_cons (ar_cons ar_nil)))) (ss_cons (s_par (i := 4) (j := 5) rfl rfl (by decide) rfl rfl (a_cons (e_lst (a_cons (e_tup (a_cons e_int (a_cons e_int a_nil))) (a_cons (e_tup (a_cons e_int (a_cons e_int a_nil))) (a_cons (e_tup (a_cons e_int (a_cons e_int a_nil))) (a_cons (e_tup (a_cons e_int (a_cons e_int a_nil))) a_nil))))) (a_cons (e_lst (a_cons (e_tup (a_cons e_non (a_cons e_non a_nil))) (a_cons (e_tup (a_cons e_non (a_cons e_int a_nil))) (a_cons (e_tup (a_cons e_non (a_cons e_int a_nil))) (a_cons (e_tup (a_cons e_non (a_cons e_non a_nil))) a_nil))))) a_nil)) rfl) (ss_cons (s_set (i := 8) rfl (.inl rfl) (e_call (ok__law_receiver Z) (hr.mono (by decide)) rfl (a_cons e_int (a_cons (e_lst (a_cons e_int (a_cons e_int (a_cons e_int (a_cons e_int a_nil))))) (a_cons (e_lst (a_cons e_int (a_cons e_int (a_cons e_int (a_cons e_int a_nil))))) (a_cons (e_V rfl (.inl rfl) rfl rfl) (a_cons (e_V rfl (.inl rfl) rfl rfl) (a_cons (e_bin s_mul (e_lst (a_cons e_int a_nil)) e_int) a_nil)))))) (ar_cons (ar_cons (ar_cons (ar_cons (ar_cons (ar_cons ar_nil)))))))) (ss_cons (s_set (i := 9) rfl (.inl rfl) (e_mk (mak_Pair Z) (hr.mono (by decide)) rfl (a_cons (e_call (ok__law_sender Z) (hr.mono (by decide)) rfl (a_cons e_int (a_cons (e_lst (a_cons (e_tup (a_cons e_int a_nil)) (a_cons (e_tup (a_cons e_int a_nil)) (a_cons e_non (a_cons e_non a_nil))))) (a_cons (e_bin s_mul (e_lst (a_cons e_int a_nil)) e_int) a_nil))) (ar_cons (ar_cons (ar_cons ar_nil)))) (a_cons (e_V rfl (.inl rfl) rfl rfl) a_nil)) (ar_cons (ar_cons ar_nil)))) (ss_cons (s_set (i := 10) rfl (.inl rfl) (e_lst (a_cons (e_tup (a_cons (e_V rfl (.inl rfl) rfl rfl) (a_cons (e_lst a_nil) (a_cons e_non a_nil)))) (a_cons (e_tup (a_cons (e_V rfl (.inl rfl) rfl rfl) (a_cons (e_call (ok__law_laps Z) (hr.mono (by decide)) rfl (a_cons e_int (a_cons e_bool a_nil)) (ar_cons (ar_cons ar_nil))) (a_cons (e_lst (a_cons (e_tup (a_cons (e_str rfl) (a_cons e_int a_nil))) a_nil)) a_nil)))) a_nil)))) (ss_cons (s_set (i := 10) rfl (.inl rfl) (e_bin s_add (e_V rfl (.inl rfl) rfl rfl) (e_lst (a_cons (e_tup (a_cons (e_mk (mak_Pair Z) (hr.mono (by decide)) rfl (a_cons (e_V rfl (.inl rfl) rfl rfl) (a_cons (e_V rfl (.inl rfl) rfl rfl) a_nil)) (ar_cons (ar_cons ar_nil))) (a_cons (e_lst a_nil) (a_cons (e_lst (a_cons (e_tup (a_cons (e_str rfl) (a_cons e_int a_nil))) a_nil)) a_nil)))) (a_cons (e_tup (a_cons (e_mk (mak_Pair Z) (hr.mono (by decide)) rfl (a_cons (e_V rfl (.inl rfl) rfl rfl) (a_cons (e_V rfl (.inl rfl) rfl rfl) a_nil)) (ar_cons (ar_cons ar_nil))) (a_cons (e_lst a_nil) (a_cons e_non a_nil)))) a_nil))))) (ss_cons (s_exp (e_append (e_V rfl (.inl rfl) rfl rfl) (e_tup (a_cons (e_mk (mak_Pair Z) (hr.mono (by decide)) rfl (a_cons (e_V rfl (.inl rfl) rfl rfl) (a_cons (e_call (ok__law_later Z) (hr.mono (by decide)) rfl (a_cons (e_lst (a_cons e_int (a_cons e_int (a_cons e_int (a_cons e_int a_nil))))) (a_cons (e_lst (a_cons e_int (a_cons e_int (a_cons e_int (a_cons e_int a_nil))))) a_nil)) (ar_cons (ar_cons ar_nil))) a_nil)) (ar_cons (ar_cons ar_nil))) (a_cons (e_call (ok__law_laps Z) (hr.mono (by decide)) rfl (a_cons e_int (a_cons e_bool a_nil)) (ar_cons (ar_cons ar_nil))) (a_cons (e_lst (a_cons (e_tup (a_cons (e_str rfl) (a_cons e_int a_nil))) a_nil)) a_nil)))))) (ss_cons (s_exp (e_append (e_V rfl (.inl rfl) rfl rfl) (e_tup (a_cons (e_mk (mak_Pair Z) (hr.mono (by decide)) rfl (a_cons (e_V rfl (.inl rfl) rfl rfl) (a_cons (e_V rfl (.inl rfl) rfl rfl) a_nil)) (ar_cons (ar_cons ar_nil))) (a_cons (e_call (ok__law_laps Z) (hr.mono (by decide)) rfl (a_cons e_int (a_cons e_bool a_nil)) (ar_cons (ar_cons ar_nil))) (a_cons e_non a_nil)))))) (ss_cons (s_exp (e_append (e_V rfl (.inl rfl) rfl rfl) (e_tup (a_cons (e_mk (mak_Pair Z) (hr.mono (by decide)) rfl (a_cons (e_V rfl (.inl rfl) rfl rfl) (a_cons (e_call (ok__law_later Z) (hr.mono (by decide)) rfl (a_cons (e_lst (a_cons e_int (a_cons e_non (a_cons e_int (a_cons e_int a_nil))))) (a_cons (e_lst (a_cons e_int (a_cons e_int (a_cons e_int (a_cons e_int a_nil))))) a_nil)) (ar_cons (ar_cons ar_nil))) a_nil)) (ar_cons (ar_cons ar_nil))) (a_cons (e_call (ok__law_laps Z) (hr.mono (by decide)) rfl (a_cons e_int (a_cons e_bool a_nil)) (ar_cons (ar_cons ar_nil))) (a_cons e_non a_nil)))))) (ss_cons (s_exp (e_append (e_V rfl (.inl rfl) rfl rfl) (e_tup (a_cons (e_mk (mak_Pair Z) (hr.mono (by decide)) rfl (a_cons (e_call (ok__law_sender Z) (hr.mono (by decide)) rfl (a_cons e_int (a_cons (e_V rfl (.inl rfl) rfl rfl) (a_cons (e_lst (a_cons e_int (a_cons e_int (a_cons e_int (a_cons e_int a_nil))))) a_nil))) (ar_cons (ar_cons (ar_cons ar_nil)))) (a_cons (e_call (ok__law_quick Z) (hr.mono (by decide)) rfl (a_cons e_int (a_cons (e_lst (a_cons e_int (a_cons e_int a_nil))) a_nil)) (ar_cons (ar_cons ar_nil))) a_nil)) (ar_cons (ar_cons ar_nil))) (a_cons (e_lst a_nil) (a_cons (e_lst (a_cons (e_tup (a_cons (e_str rfl) (a_cons e_int a_nil))) a_nil)) a_nil)))))) (ss_cons (s_exp (e_append (e_V rfl (.inl rfl) rfl rfl) (e_tup (a_cons (e_mk (mak_Pair Z) (hr.mono (by decide)) rfl (a_cons (e_V rfl (.inl rfl) rfl rfl) (a_cons (e_call (ok__law_third Z) (hr.mono (by decide)) rfl (a_cons (e_lst (a_cons e_int (a_cons e_int (a_cons e_int a_nil)))) a_nil) (ar_cons ar_nil)) a_nil)) (ar_cons (ar_cons ar_nil))) (a_cons (e_lst a_nil) (a_cons (e_lst (a_cons (e_tup (a_cons (e_str rfl) (a_cons e_int a_nil))) a_nil)) a_nil)))))) (ss_cons (s_exp (e_append (e_V rfl (.inl rfl) rfl rfl) (e_tup (a_cons (e_mk (mak_Pair Z) (hr.mono (by decide)) rfl (a_cons (e_V rfl (.inl rfl) rfl rfl) (a_cons (e_call (ok__law_third Z) (hr.mono (by decide)) rfl (a_cons (e_lst (a_cons e_int (a_cons e_int (a_cons e_int a_nil)))) a_nil) (ar_cons ar_nil)) a_nil)) (ar_cons (ar_cons ar_nil))) (a_cons (e_lst a_nil) (a_cons e_non a_nil)))))) (ss_cons (s_set (i := 11) rfl (.inl rfl) (e_call (ok__law_sender Z) (hr.mono (by decide)) rfl (a_cons e_int (a_cons (e_lst (a_cons (e_tup (a_cons e_int (a_cons e_int a_nil))) (a_cons (e_tup (a_cons e_int (a_cons e_int a_nil))) (a_cons e_non (a_cons e_non a_nil))))) (a_cons (e_bin s_mul (e_lst (a_cons e_int a_nil)) e_int) a_nil))) (ar_cons (ar_cons (ar_cons ar_nil))))) (ss_one (s_ret (e_bin s_add (e_V rfl (.inl rfl) rfl rfl) (e_lst (a_cons (e_tup (a_cons (e_mk (mak_Pair Z) (hr.mono (by decide)) rfl (a_cons (e_V rfl (.inl rfl) rfl rfl) (a_cons (e_call (ok__law_quick Z) (hr.mono (by decide)) rfl (a_cons e_int (a_cons (e_lst (a_cons e_int (a_cons e_int a_nil))) a_nil)) (ar_cons (ar_cons ar_nil))) a_nil)) (ar_cons (ar_cons ar_nil))) (a_cons (e_lst a_nil) (a_cons (e_lst (a_cons (e_tup (a_cons (e_str rfl) (a_cons e_int a_nil))) a_nil)) a_nil)))) a_nil)))))))))))))))))))))))⟩
theorem ok__law_rows (Z : Fx K mg base T0) : Def P w K mg base (mkW SS Cn K T0 none) 10 "_law_rows" 0 F__law_rows := by
  obtain ⟨fd, F, hF⟩ := fn__law_rows (P := P) (w := w) Z
  exact ⟨⟨_, fd, [], Z.g__law_rows, F.kp, (F.bindsN (ps := []) fun _ _ _ _ _ _ us hl => match us, hl with | [], _ => rfl), hF⟩, rfl⟩
theorem fn_require_pair (Z : Fx K mg base T0) : ∃ fd, FunD K "require_pair" "require_pair" (defArgs (top 24)) (defBody (top 24)) (defScope (top 24)) [] [] (He.ga K "require_pair") fd ∧ FnOk P w K mg base C8.CX0 1 (He.ga K "require_pair") fd ["thing"] (spF (mkW SS Cn K T0 none) 1 F_require_pair) := by
  obtain ⟨fd, F⟩ := Z.d_require_pair
  exact ⟨fd, F, (fn_okW (k := 0) (N := ["thing"]) (ps := ["thing"]) F (by decide +kernel) rfl rfl fun cdv A outer s H E hr hC => (ss_one (s_if (t_not (t_B (fun _ => rfl) (e_is (Z.kf_Pair _) (pe_glob (v := .ref (He.ga K "Pair")) rfl Z.g_Pair rfl rfl) (.own _) rfl Z.b_isinstance (e_V rfl (.inl rfl) rfl rfl)))) (ss_one s_raise) ss_nil)))⟩
theorem ok_require_pair (Z : Fx K mg base T0) : Def P w K mg base (mkW SS Cn K T0 none) 1 "require_pair" 1 F_require_pair := by
  obtain ⟨fd, F, hF⟩ := fn_require_pair (P := P) (w := w) Z
  exact ⟨⟨_, fd, ["thing"], Z.g_require_pair, F.kp, (F.bindsN (ps := ["thing"]) fun _ _ _ _ _ _ us hl => match us, hl with | [_], _ => rfl), hF⟩, rfl⟩
theorem fn_is_name (Z : Fx K mg base T0) : ∃ fd, FunD K "is_name" "is_name" (defArgs (top 29)) (defBody (top 29)) (defScope (top 29)) [] [] (He.ga K "is_name") fd ∧ FnOk P w K mg base C8.CX0 1 (He.ga K "is_name") fd ["thing", "names"] (spF (mkW SS Cn K T0 none) 2 F_is_name) := by
  obtain ⟨fd, F⟩ := Z.d_is_name
  exact ⟨fd, F, (fn_okW (k := 0) (N := ["thing", "names"]) (ps := ["thing", "names"]) F (by decide +kernel) rfl rfl fun cdv A outer s H E hr hC => (ss_one (s_ret (e_and (e_is (Z.kf_str _) (pe_bt rfl Z.b_str bb_str (by decide) rfl) (.ty _) rfl Z.b_isinstance (e_V rfl (.inl rfl) rfl rfl)) (e_one (e_cmp (s_in (u65 hr)) (e_V rfl (.inl rfl) rfl rfl) (e_V rfl (.inl rfl) rfl rfl)))))))⟩
theorem ok_is_name (Z : Fx K mg base T0) : Def P w K mg base (mkW SS Cn K T0 none) 1 "is_name" 2 F_is_name := by
  obtain ⟨fd, F, hF⟩ := fn_is_name (P := P) (w := w) Z
  exact ⟨⟨_, fd, ["thing", "names"], Z.g_is_name, F.kp, (F.bindsN (ps := ["thing", "names"]) fun _ _ _ _ _ _ us hl => match us, hl with | [_, _], _ => rfl), hF⟩, rfl⟩
theorem fn_is_place (Z : Fx K mg base T0) : ∃ fd, FunD K "is_place" "is_place" (defArgs (top 30)) (defBody (top 30)) (defScope (top 30)) [] [] (He.ga K "is_place") fd ∧ FnOk P w K mg base C8.CX0 1 (He.ga K "is_place") fd ["thing"] (spF (mkW SS Cn K T0 none) 1 F_is_place) := by
  obtain ⟨fd, F⟩ := Z.d_is_place
  exact ⟨fd, F, (fn_okW (k := 0) (N := ["thing"]) (ps := ["thing"]) F (by decide +kernel) rfl rfl fun cdv A outer s H E hr hC => (ss_one (s_ret (e_and (e_is (Z.kf_int _) (pe_bt rfl Z.b_int bb_int (by decide) rfl) (.ty _) rfl Z.b_isinstance (e_V rfl (.inl rfl) rfl rfl)) (e_and (e_not (e_is (Z.kf_bool _) (pe_bt rfl Z.b_bool bb_bool (by decide) rfl) (.ty _) rfl Z.b_isinstance (e_V rfl (.inl rfl) rfl rfl))) (e_one (e_cmp s_ge (e_V rfl (.inl rfl) rfl rfl) e_int)))))))⟩
theorem ok_is_place (Z : Fx K mg base T0) : Def P w K mg base (mkW SS Cn K T0 none) 1 "is_place" 1 F_is_place := by
  obtain ⟨fd, F, hF⟩ := fn_is_place (P := P) (w := w) Z
  exact ⟨⟨_, fd, ["thing"], Z.g_is_place, F.kp, (F.bindsN (ps := ["thing"]) fun _ _ _ _ _ _ us hl => match us, hl with | [_], _ => rfl), hF⟩, rfl⟩
theorem fn_is_event (Z : Fx K mg base T0) : ∃ fd, FunD K "is_event" "is_event" (defArgs (top 31)) (defBody (top 31)) (defScope (top 31)) [] [] (He.ga K "is_event") fd ∧ FnOk P w K mg base C8.CX0 2 (He.ga K "is_event") fd ["pair", "thing"] (spF (mkW SS Cn K T0 none) 2 F_is_event) := by
  obtain ⟨fd, F⟩ := Z.d_is_event
  exact ⟨fd, F, (fn_okW (k := 1) (N := ["pair", "thing", "name"]) (ps := ["pair", "thing"]) F (by decide +kernel) rfl rfl fun cdv A outer s H E hr hC => (ss_cons (s_if (t_w (w_or (t_not (t_B (fun _ => rfl) (e_is (Z.kf_tuple _) (pe_bt rfl Z.b_tuple bb_tuple (by decide) rfl) (.ty _) rfl Z.b_isinstance (e_V rfl (.inl rfl) rfl rfl)))) (w_or (t_cmp (s_eq (u64 hr)) (e_len rfl Z.b_len (e_V rfl (.inl rfl) rfl rfl)) e_int) (w_or1 (t_not (t_B (fun _ => rfl) (e_is (Z.kf_str _) (pe_bt rfl Z.b_str bb_str (by decide) rfl) (.ty _) rfl Z.b_isinstance (e_idx (e_V rfl (.inl rfl) rfl rfl) e_int (fun _ _ => rfl))))))))) (ss_one (s_ret e_bool)) ss_nil) (ss_cons (s_set (i := 2) rfl (.inl rfl) (e_idx (e_V rfl (.inl rfl) rfl rfl) e_int (fun _ _ => rfl))) (ss_cons (s_if (t_cmp (s_in (u65 hr)) (e_V rfl (.inl rfl) rfl rfl) (e_tup (a_cons (e_str rfl) (a_cons (e_str rfl) a_nil)))) (ss_one (s_ret (e_cmp (s_eq (u64 hr)) (e_len rfl Z.b_len (e_V rfl (.inl rfl) rfl rfl)) e_int))) ss_nil) (ss_cons (s_if (t_cmp (s_eq (u64 hr)) (e_V rfl (.inl rfl) rfl rfl) (e_str rfl)) (ss_one (s_ret (e_and (e_cmp (s_eq (u64 hr)) (e_len rfl Z.b_len (e_V rfl (.inl rfl) rfl rfl)) e_int) (e_and (e_call (ok_is_name Z) (hr.mono (by decide)) rfl (a_cons (e_idx (e_V rfl (.inl rfl) rfl rfl) e_int (fun _ _ => rfl)) (a_cons (e_glob (Z.gv_CHANNELS _) rfl rfl) a_nil)) (ar_cons (ar_cons ar_nil))) (e_one (e_call (ok_is_place Z) (hr.mono (by decide)) rfl (a_cons (e_idx (e_V rfl (.inl rfl) rfl rfl) e_int (fun _ _ => rfl)) a_nil) (ar_cons ar_nil))))))) ss_nil) (ss_cons (s_if (t_cmp (s_ne (u64 hr)) (e_len rfl Z.b_len (e_V rfl (.inl rfl) rfl rfl)) e_int) (ss_one (s_ret e_bool)) ss_nil) (ss_cons (s_if (t_cmp (s_eq (u64 hr)) (e_V rfl (.inl rfl) rfl rfl) (e_str rfl)) (ss_one (s_ret (e_call (ok_is_below Z) (hr.mono (by decide)) rfl (a_cons (e_idx (e_V rfl (.inl rfl) rfl rfl) e_int (fun _ _ => rfl)) (a_cons (e_fld (Z.cf_value_count _) (e_fld (Z.cf_sender _) (e_V rfl (.inl rfl) rfl rfl))) a_nil)) (ar_cons (ar_cons ar_nil))))) ss_nil) (ss_cons (s_if (t_cmp (s_eq (u64 hr)) (e_V rfl (.inl rfl) rfl rfl) (e_str rfl)) (ss_one (s_ret (e_call (ok_is_name Z) (hr.mono (by decide)) rfl (a_cons (e_idx (e_V rfl (.inl rfl) rfl rfl) e_int (fun _ _ => rfl)) (a_cons (e_glob (Z.gv_CHANNELS _) rfl rfl) a_nil)) (ar_cons (ar_cons ar_nil))))) ss_nil) (ss_one (s_ret (e_and (e_cmp (s_eq (u64 hr)) (e_V rfl (.inl rfl) rfl rfl) (e_str rfl)) (e_one (e_call (ok_is_name Z) (hr.mono (by decide)) rfl (a_cons (e_idx (e_V rfl (.inl rfl) rfl rfl) e_int (fun _ _ => rfl)) (a_cons (e_glob (Z.gv_PROGRAMS _) rfl rfl) a_nil)) (ar_cons (ar_cons ar_nil)))))))))))))))⟩
theorem ok_is_event (Z : Fx K mg base T0) : Def P w K mg base (mkW SS Cn K T0 none) 2 "is_event" 2 F_is_event := by
  obtain ⟨fd, F, hF⟩ := fn_is_event (P := P) (w := w) Z
  exact ⟨⟨_, fd, ["pair", "thing"], Z.g_is_event, F.kp, (F.bindsN (ps := ["pair", "thing"]) fun _ _ _ _ _ _ us hl => match us, hl with | [_, _], _ => rfl), hF⟩, rfl⟩
theorem fn_checked_events (Z : Fx K mg base T0) : ∃ fd, FunD K "checked_events" "checked_events" (defArgs (top 37)) (defBody (top 37)) (defScope (top 37)) [] [] (He.ga K "checked_events") fd ∧ FnOk P w K mg base C8.CX0 3 (He.ga K "checked_events") fd ["pair", "thing"] (spF (mkW SS Cn K T0 none) 2 F_checked_events) := by
  obtain ⟨fd, F⟩ := Z.d_checked_events
  exact ⟨fd, F, (fn_okW (k := 2) (N := ["pair", "thing", "place", "event"]) (ps := ["pair", "thing"]) F (by decide +kernel) rfl rfl fun cdv A outer s H E hr hC => (ss_cons (s_if (t_not (t_B (fun _ => rfl) (e_isT (Z.kf_lot _) (pe_bt rfl Z.b_list bb_list (by decide) rfl) (.ty _) (pe_bt rfl Z.b_tuple bb_tuple (by decide) rfl) (.ty _) rfl Z.b_isinstance (e_V rfl (.inl rfl) rfl rfl)))) (ss_one s_raise) ss_nil) (ss_cons (s_for (i_enum rfl Z.b_enumerate (e_V rfl (.inl rfl) rfl rfl)) (g_T (is := [2, 3]) (gs_cons (i := 2) rfl (.inl rfl) (gs_cons (i := 3) rfl (.inl rfl) gs_nil))) (ss_one (s_if (t_not (t_B (fun _ => rfl) (e_call (ok_is_event Z) (hr.mono (by decide)) rfl (a_cons (e_V rfl (.inl rfl) rfl rfl) (a_cons (e_V rfl (.inl rfl) rfl rfl) a_nil)) (ar_cons (ar_cons ar_nil))))) (ss_one s_raise) ss_nil))) (ss_one (s_ret (e_lstF rfl Z.b_list (e_V rfl (.inl rfl) rfl rfl)))))))⟩
theorem ok_checked_events (Z : Fx K mg base T0) : Def P w K mg base (mkW SS Cn K T0 none) 3 "checked_events" 2 F_checked_events := by
  obtain ⟨fd, F, hF⟩ := fn_checked_events (P := P) (w := w) Z
  exact ⟨⟨_, fd, ["pair", "thing"], Z.g_checked_events, F.kp, (F.bindsN (ps := ["pair", "thing"]) fun _ _ _ _ _ _ us hl => match us, hl with | [_, _], _ => rfl), hF⟩, rfl⟩
theorem fn_is_possible (Z : Fx K mg base T0) : ∃ fd, FunD K "is_possible" "is_possible" (defArgs (top 32)) (defBody (top 32)) (defScope (top 32)) [] [] (He.ga K "is_possible") fd ∧ FnOk P w K mg base C8.CX0 1 (He.ga K "is_possible") fd ["pair", "state", "event"] (spF (mkW SS Cn K T0 none) 3 F_is_possible) := by
  obtain ⟨fd, F⟩ := Z.d_is_possible
  exact ⟨fd, F, (fn_okW (k := 0) (N := ["pair", "state", "event", "sender", "receiver", "forward", "backward"]) (ps := ["pair", "state", "event"]) F (by decide +kernel) rfl rfl fun cdv A outer s H E hr hC => (ss_cons (s_asg (e_V rfl (.inl rfl) rfl rfl) (g_T (is := [3, 4, 5, 6]) (gs_cons (i := 3) rfl (.inl rfl) (gs_cons (i := 4) rfl (.inl rfl) (gs_cons (i := 5) rfl (.inl rfl) (gs_cons (i := 6) rfl (.inl rfl) gs_nil)))))) (ss_cons (s_if (t_cmp (s_eq (u64 hr)) (e_idx (e_V rfl (.inl rfl) rfl rfl) e_int (fun _ _ => rfl)) (e_str rfl)) (ss_one (s_ret (e_cmp s_notN (e_idx (e_fld (Z.cf_takes _) (e_fld (Z.cf_sender _) (e_V rfl (.inl rfl) rfl rfl))) (e_V rfl (.inl rfl) rfl rfl) (fun _ _ => rfl)) e_non))) ss_nil) (ss_cons (s_if (t_cmp (s_eq (u64 hr)) (e_idx (e_V rfl (.inl rfl) rfl rfl) e_int (fun _ _ => rfl)) (e_str rfl)) (ss_one (s_ret (e_cmp (s_ne (u64 hr)) (e_if (t_cmp (s_eq (u64 hr)) (e_idx (e_V rfl (.inl rfl) rfl rfl) e_int (fun _ _ => rfl)) (e_str rfl)) (e_V rfl (.inl rfl) rfl rfl) (e_V rfl (.inl rfl) rfl rfl)) (e_tup a_nil)))) ss_nil) (ss_cons (s_if (t_cmp (s_eq (u64 hr)) (e_idx (e_V rfl (.inl rfl) rfl rfl) e_int (fun _ _ => rfl)) (e_str rfl)) (ss_one (s_ret (e_cmp s_lt (e_idx (e_V rfl (.inl rfl) rfl rfl) e_int (fun _ _ => rfl)) (e_len rfl Z.b_len (e_if (t_cmp (s_eq (u64 hr)) (e_idx (e_V rfl (.inl rfl) rfl rfl) e_int (fun _ _ => rfl)) (e_str rfl)) (e_V rfl (.inl rfl) rfl rfl) (e_V rfl (.inl rfl) rfl rfl)))))) ss_nil) (ss_one (s_ret e_bool)))))))⟩
theorem ok_is_possible (Z : Fx K mg base T0) : Def P w K mg base (mkW SS Cn K T0 none) 1 "is_possible" 3 F_is_possible := by
  obtain ⟨fd, F, hF⟩ := fn_is_possible (P := P) (w := w) Z
  exact ⟨⟨_, fd, ["pair", "state", "event"], Z.g_is_possible, F.kp, (F.bindsN (ps := ["pair", "state", "event"]) fun _ _ _ _ _ _ us hl => match us, hl with | [_, _, _], _ => rfl), hF⟩, rfl⟩
theorem fn_ticked (Z : Fx K mg base T0) : ∃ fd, FunD K "ticked" "ticked" (defArgs (top 33)) (defBody (top 33)) (defScope (top 33)) [] [] (He.ga K "ticked") fd ∧ FnOk P w K mg base C8.CX0 1 (He.ga K "ticked") fd ["pair", "state", "is_sender"] (spF (mkW SS Cn K T0 none) 3 F_ticked) := by
  obtain ⟨fd, F⟩ := Z.d_ticked
  exact ⟨fd, F, (fn_okW (k := 0) (N := ["pair", "state", "is_sender", "sender", "receiver", "forward", "backward", "message"]) (ps := ["pair", "state", "is_sender"]) F (by decide +kernel) rfl rfl fun cdv A outer s H E hr hC => (ss_cons (s_asg (e_V rfl (.inl rfl) rfl rfl) (g_T (is := [3, 4, 5, 6]) (gs_cons (i := 3) rfl (.inl rfl) (gs_cons (i := 4) rfl (.inl rfl) (gs_cons (i := 5) rfl (.inl rfl) (gs_cons (i := 6) rfl (.inl rfl) gs_nil)))))) (ss_cons (s_if (t_B (fun _ => rfl) (e_V rfl (.inl rfl) rfl rfl)) (ss_cons (s_set (i := 7) rfl (.inl rfl) (e_idx (e_fld (Z.cf_sends _) (e_fld (Z.cf_sender _) (e_V rfl (.inl rfl) rfl rfl))) (e_V rfl (.inl rfl) rfl rfl) (fun _ _ => rfl))) (ss_one (s_ret (e_tup (a_cons (e_idx (e_fld (Z.cf_ticks _) (e_fld (Z.cf_sender _) (e_V rfl (.inl rfl) rfl rfl))) (e_V rfl (.inl rfl) rfl rfl) (fun _ _ => rfl)) (a_cons (e_V rfl (.inl rfl) rfl rfl) (a_cons (e_bin s_add (e_V rfl (.inl rfl) rfl rfl) (e_if (t_cmp s_isN (e_V rfl (.inl rfl) rfl rfl) e_non) (e_tup a_nil) (e_tup (a_cons (e_V rfl (.inl rfl) rfl rfl) a_nil)))) (a_cons (e_V rfl (.inl rfl) rfl rfl) a_nil)))))))) ss_nil) (ss_cons (s_set (i := 7) rfl (.inl rfl) (e_idx (e_fld (Z.cf_sends _) (e_fld (Z.cf_receiver _) (e_V rfl (.inl rfl) rfl rfl))) (e_V rfl (.inl rfl) rfl rfl) (fun _ _ => rfl))) (ss_one (s_ret (e_tup (a_cons (e_V rfl (.inl rfl) rfl rfl) (a_cons (e_idx (e_fld (Z.cf_ticks _) (e_fld (Z.cf_receiver _) (e_V rfl (.inl rfl) rfl rfl))) (e_V rfl (.inl rfl) rfl rfl) (fun _ _ => rfl)) (a_cons (e_V rfl (.inl rfl) rfl rfl) (a_cons (e_bin s_add (e_V rfl (.inl rfl) rfl rfl) (e_if (t_cmp s_isN (e_V rfl (.inl rfl) rfl rfl) e_non) (e_tup a_nil) (e_tup (a_cons (e_V rfl (.inl rfl) rfl rfl) a_nil)))) a_nil)))))))))))⟩
theorem ok_ticked (Z : Fx K mg base T0) : Def P w K mg base (mkW SS Cn K T0 none) 1 "ticked" 3 F_ticked := by
  obtain ⟨fd, F, hF⟩ := fn_ticked (P := P) (w := w) Z
  exact ⟨⟨_, fd, ["pair", "state", "is_sender"], Z.g_ticked, F.kp, (F.bindsN (ps := ["pair", "state", "is_sender"]) fun _ _ _ _ _ _ us hl => match us, hl with | [_, _, _], _ => rfl), hF⟩, rfl⟩
theorem fn_passed (Z : Fx K mg base T0) : ∃ fd, FunD K "passed" "passed" (defArgs (top 34)) (defBody (top 34)) (defScope (top 34)) [] [] (He.ga K "passed") fd ∧ FnOk P w K mg base C8.CX0 1 (He.ga K "passed") fd ["pair", "state", "is_forward"] (spF (mkW SS Cn K T0 none) 3 F_passed) := by
  obtain ⟨fd, F⟩ := Z.d_passed
  exact ⟨fd, F, (fn_okW (k := 0) (N := ["pair", "state", "is_forward", "sender", "receiver", "forward", "backward", "message", "value"]) (ps := ["pair", "state", "is_forward"]) F (by decide +kernel) rfl rfl fun cdv A outer s H E hr hC => (ss_cons (s_asg (e_V rfl (.inl rfl) rfl rfl) (g_T (is := [3, 4, 5, 6]) (gs_cons (i := 3) rfl (.inl rfl) (gs_cons (i := 4) rfl (.inl rfl) (gs_cons (i := 5) rfl (.inl rfl) (gs_cons (i := 6) rfl (.inl rfl) gs_nil)))))) (ss_cons (s_if (t_B (fun _ => rfl) (e_V rfl (.inl rfl) rfl rfl)) (ss_cons (s_set (i := 7) rfl (.inl rfl) (e_idx (e_V rfl (.inl rfl) rfl rfl) e_int (fun _ _ => rfl))) (ss_cons (s_set (i := 8) rfl (.inl rfl) (e_idx (e_idx (e_fld (Z.cf_gives _) (e_fld (Z.cf_receiver _) (e_V rfl (.inl rfl) rfl rfl))) (e_V rfl (.inl rfl) rfl rfl) (fun _ _ => rfl)) (e_V rfl (.inl rfl) rfl rfl) (fun _ _ => rfl))) (ss_one (s_ret (e_tup (a_cons (e_tup (a_cons (e_V rfl (.inl rfl) rfl rfl) (a_cons (e_idx (e_idx (e_fld (Z.cf_hears _) (e_fld (Z.cf_receiver _) (e_V rfl (.inl rfl) rfl rfl))) (e_V rfl (.inl rfl) rfl rfl) (fun _ _ => rfl)) (e_V rfl (.inl rfl) rfl rfl) (fun _ _ => rfl)) (a_cons (e_sl (e_V rfl (.inl rfl) rfl rfl) (o_some e_int) o_none) (a_cons (e_V rfl (.inl rfl) rfl rfl) a_nil))))) (a_cons (e_V rfl (.inl rfl) rfl rfl) a_nil))))))) ss_nil) (ss_one (s_ret (e_tup (a_cons (e_tup (a_cons (e_idx (e_idx (e_fld (Z.cf_hears _) (e_fld (Z.cf_sender _) (e_V rfl (.inl rfl) rfl rfl))) (e_V rfl (.inl rfl) rfl rfl) (fun _ _ => rfl)) (e_idx (e_V rfl (.inl rfl) rfl rfl) e_int (fun _ _ => rfl)) (fun _ _ => rfl)) (a_cons (e_V rfl (.inl rfl) rfl rfl) (a_cons (e_V rfl (.inl rfl) rfl rfl) (a_cons (e_sl (e_V rfl (.inl rfl) rfl rfl) (o_some e_int) o_none) a_nil))))) (a_cons e_non a_nil))))))))⟩
theorem ok_passed (Z : Fx K mg base T0) : Def P w K mg base (mkW SS Cn K T0 none) 1 "passed" 3 F_passed := by
  obtain ⟨fd, F, hF⟩ := fn_passed (P := P) (w := w) Z
  exact ⟨⟨_, fd, ["pair", "state", "is_forward"], Z.g_passed, F.kp, (F.bindsN (ps := ["pair", "state", "is_forward"]) fun _ _ _ _ _ _ us hl => match us, hl with | [_, _, _], _ => rfl), hF⟩, rfl⟩
theorem fn_without (Z : Fx K mg base T0) : ∃ fd, FunD K "without" "without" (defArgs (top 35)) (defBody (top 35)) (defScope (top 35)) [] [] (He.ga K "without") fd ∧ FnOk P w K mg base C8.CX0 1 (He.ga K "without") fd ["messages", "place"] (spF (mkW SS Cn K T0 none) 2 F_without) := by
  obtain ⟨fd, F⟩ := Z.d_without
  exact ⟨fd, F, (fn_okW (k := 0) (N := ["messages", "place"]) (ps := ["messages", "place"]) F (by decide +kernel) rfl rfl fun cdv A outer s H E hr hC => (ss_one (s_ret (e_bin s_add (e_sl (e_V rfl (.inl rfl) rfl rfl) o_none (o_some (e_V rfl (.inl rfl) rfl rfl))) (e_sl (e_V rfl (.inl rfl) rfl rfl) (o_some (e_bin s_add (e_V rfl (.inl rfl) rfl rfl) e_int)) o_none)))))⟩
theorem ok_without (Z : Fx K mg base T0) : Def P w K mg base (mkW SS Cn K T0 none) 1 "without" 2 F_without := by
  obtain ⟨fd, F, hF⟩ := fn_without (P := P) (w := w) Z
  exact ⟨⟨_, fd, ["messages", "place"], Z.g_without, F.kp, (F.bindsN (ps := ["messages", "place"]) fun _ _ _ _ _ _ us hl => match us, hl with | [_, _], _ => rfl), hF⟩, rfl⟩
theorem fn_stepped (Z : Fx K mg base T0) : ∃ fd, FunD K "stepped" "stepped" (defArgs (top 36)) (defBody (top 36)) (defScope (top 36)) [] [] (He.ga K "stepped") fd ∧ FnOk P w K mg base C8.CX0 2 (He.ga K "stepped") fd ["pair", "state", "event"] (spF (mkW SS Cn K T0 none) 3 F_stepped) := by
  obtain ⟨fd, F⟩ := Z.d_stepped
  exact ⟨fd, F, (fn_okW (k := 1) (N := ["pair", "state", "event", "sender", "receiver", "forward", "backward", "name"]) (ps := ["pair", "state", "event"]) F (by decide +kernel) rfl rfl fun cdv A outer s H E hr hC => (ss_cons (s_asg (e_V rfl (.inl rfl) rfl rfl) (g_T (is := [3, 4, 5, 6]) (gs_cons (i := 3) rfl (.inl rfl) (gs_cons (i := 4) rfl (.inl rfl) (gs_cons (i := 5) rfl (.inl rfl) (gs_cons (i := 6) rfl (.inl rfl) gs_nil)))))) (ss_cons (s_set (i := 7) rfl (.inl rfl) (e_idx (e_V rfl (.inl rfl) rfl rfl) e_int (fun _ _ => rfl))) (ss_cons (s_if (t_cmp (s_eq (u64 hr)) (e_V rfl (.inl rfl) rfl rfl) (e_str rfl)) (ss_one (s_ret (e_tup (a_cons (e_tup (a_cons (e_idx (e_idx (e_fld (Z.cf_takes _) (e_fld (Z.cf_sender _) (e_V rfl (.inl rfl) rfl rfl))) (e_V rfl (.inl rfl) rfl rfl) (fun _ _ => rfl)) (e_idx (e_V rfl (.inl rfl) rfl rfl) e_int (fun _ _ => rfl)) (fun _ _ => rfl)) (a_cons (e_V rfl (.inl rfl) rfl rfl) (a_cons (e_V rfl (.inl rfl) rfl rfl) (a_cons (e_V rfl (.inl rfl) rfl rfl) a_nil))))) (a_cons e_non a_nil))))) ss_nil) (ss_cons (s_if (t_cmp (s_in (u65 hr)) (e_V rfl (.inl rfl) rfl rfl) (e_tup (a_cons (e_str rfl) (a_cons (e_str rfl) a_nil)))) (ss_one (s_ret (e_tup (a_cons (e_call (ok_ticked Z) (hr.mono (by decide)) rfl (a_cons (e_V rfl (.inl rfl) rfl rfl) (a_cons (e_V rfl (.inl rfl) rfl rfl) (a_cons (e_cmp (s_eq (u64 hr)) (e_V rfl (.inl rfl) rfl rfl) (e_str rfl)) a_nil))) (ar_cons (ar_cons (ar_cons ar_nil)))) (a_cons e_non a_nil))))) ss_nil) (ss_cons (s_if (t_cmp (s_eq (u64 hr)) (e_V rfl (.inl rfl) rfl rfl) (e_str rfl)) (ss_one (s_ret (e_call (ok_passed Z) (hr.mono (by decide)) rfl (a_cons (e_V rfl (.inl rfl) rfl rfl) (a_cons (e_V rfl (.inl rfl) rfl rfl) (a_cons (e_cmp (s_eq (u64 hr)) (e_idx (e_V rfl (.inl rfl) rfl rfl) e_int (fun _ _ => rfl)) (e_str rfl)) a_nil))) (ar_cons (ar_cons (ar_cons ar_nil)))))) ss_nil) (ss_cons (s_if (t_cmp (s_eq (u64 hr)) (e_V rfl (.inl rfl) rfl rfl) (e_str rfl)) (ss_cons (s_if (t_cmp (s_eq (u64 hr)) (e_idx (e_V rfl (.inl rfl) rfl rfl) e_int (fun _ _ => rfl)) (e_str rfl)) (ss_one (s_ret (e_tup (a_cons (e_tup (a_cons (e_V rfl (.inl rfl) rfl rfl) (a_cons (e_V rfl (.inl rfl) rfl rfl) (a_cons (e_call (ok_without Z) (hr.mono (by decide)) rfl (a_cons (e_V rfl (.inl rfl) rfl rfl) (a_cons (e_idx (e_V rfl (.inl rfl) rfl rfl) e_int (fun _ _ => rfl)) a_nil)) (ar_cons (ar_cons ar_nil))) (a_cons (e_V rfl (.inl rfl) rfl rfl) a_nil))))) (a_cons e_non a_nil))))) ss_nil) (ss_one (s_ret (e_tup (a_cons (e_tup (a_cons (e_V rfl (.inl rfl) rfl rfl) (a_cons (e_V rfl (.inl rfl) rfl rfl) (a_cons (e_V rfl (.inl rfl) rfl rfl) (a_cons (e_call (ok_without Z) (hr.mono (by decide)) rfl (a_cons (e_V rfl (.inl rfl) rfl rfl) (a_cons (e_idx (e_V rfl (.inl rfl) rfl rfl) e_int (fun _ _ => rfl)) a_nil)) (ar_cons (ar_cons ar_nil))) a_nil))))) (a_cons e_non a_nil)))))) ss_nil) (ss_cons (s_if (t_cmp (s_eq (u64 hr)) (e_idx (e_V rfl (.inl rfl) rfl rfl) e_int (fun _ _ => rfl)) (e_str rfl)) (ss_one (s_ret (e_tup (a_cons (e_tup (a_cons (e_idx (e_fld (Z.cf_crashes _) (e_fld (Z.cf_sender _) (e_V rfl (.inl rfl) rfl rfl))) (e_V rfl (.inl rfl) rfl rfl) (fun _ _ => rfl)) (a_cons (e_V rfl (.inl rfl) rfl rfl) (a_cons (e_V rfl (.inl rfl) rfl rfl) (a_cons (e_V rfl (.inl rfl) rfl rfl) a_nil))))) (a_cons e_non a_nil))))) ss_nil) (ss_one (s_ret (e_tup (a_cons (e_tup (a_cons (e_V rfl (.inl rfl) rfl rfl) (a_cons (e_idx (e_fld (Z.cf_crashes _) (e_fld (Z.cf_receiver _) (e_V rfl (.inl rfl) rfl rfl))) (e_V rfl (.inl rfl) rfl rfl) (fun _ _ => rfl)) (a_cons (e_V rfl (.inl rfl) rfl rfl) (a_cons (e_V rfl (.inl rfl) rfl rfl) a_nil))))) (a_cons e_non a_nil)))))))))))))⟩
theorem ok_stepped (Z : Fx K mg base T0) : Def P w K mg base (mkW SS Cn K T0 none) 2 "stepped" 3 F_stepped := by
  obtain ⟨fd, F, hF⟩ := fn_stepped (P := P) (w := w) Z
  exact ⟨⟨_, fd, ["pair", "state", "event"], Z.g_stepped, F.kp, (F.bindsN (ps := ["pair", "state", "event"]) fun _ _ _ _ _ _ us hl => match us, hl with | [_, _, _], _ => rfl), hF⟩, rfl⟩
theorem fn_trail (Z : Fx K mg base T0) : ∃ fd, FunD K "trail" "trail" (defArgs (top 38)) (defBody (top 38)) (defScope (top 38)) [] [] (He.ga K "trail") fd ∧ FnOk P w K mg base C8.CX0 3 (He.ga K "trail") fd ["pair", "run"] (spF (mkW SS Cn K T0 none) 2 F_trail) := by
  obtain ⟨fd, F⟩ := Z.d_trail
  exact ⟨fd, F, (fn_okW (k := 2) (N := ["pair", "run", "state", "found", "place", "event", "value"]) (ps := ["pair", "run"]) F (by decide +kernel) rfl rfl fun cdv A outer s H E hr hC => (ss_cons (s_set (i := 2) rfl (.inl rfl) (e_glob (Z.gv_START _) rfl rfl)) (ss_cons (s_set (i := 3) rfl (.inl rfl) (e_lst a_nil)) (ss_cons (s_for (i_enum rfl Z.b_enumerate (e_V rfl (.inl rfl) rfl rfl)) (g_T (is := [4, 5]) (gs_cons (i := 4) rfl (.inl rfl) (gs_cons (i := 5) rfl (.inl rfl) gs_nil))) (ss_cons (s_if (t_not (t_B (fun _ => rfl) (e_call (ok_is_possible Z) (hr.mono (by decide)) rfl (a_cons (e_V rfl (.inl rfl) rfl rfl) (a_cons (e_V rfl (.inl rfl) rfl rfl) (a_cons (e_V rfl (.inl rfl) rfl rfl) a_nil))) (ar_cons (ar_cons (ar_cons ar_nil)))))) (ss_one s_raise) ss_nil) (ss_cons (s_asg (e_call (ok_stepped Z) (hr.mono (by decide)) rfl (a_cons (e_V rfl (.inl rfl) rfl rfl) (a_cons (e_V rfl (.inl rfl) rfl rfl) (a_cons (e_V rfl (.inl rfl) rfl rfl) a_nil))) (ar_cons (ar_cons (ar_cons ar_nil)))) (g_T (is := [2, 6]) (gs_cons (i := 2) rfl (.inl rfl) (gs_cons (i := 6) rfl (.inl rfl) gs_nil)))) (ss_one (s_if (t_cmp s_notN (e_V rfl (.inl rfl) rfl rfl) e_non) (ss_one (s_exp (e_append (e_V rfl (.inl rfl) rfl rfl) (e_tup (a_cons (e_V rfl (.inl rfl) rfl rfl) (a_cons (e_V rfl (.inl rfl) rfl rfl) a_nil)))))) ss_nil))))) (ss_one (s_ret (e_tup (a_cons (e_V rfl (.inl rfl) rfl rfl) (a_cons (e_V rfl (.inl rfl) rfl rfl) a_nil)))))))))⟩
theorem ok_trail (Z : Fx K mg base T0) : Def P w K mg base (mkW SS Cn K T0 none) 3 "trail" 2 F_trail := by
  obtain ⟨fd, F, hF⟩ := fn_trail (P := P) (w := w) Z
  exact ⟨⟨_, fd, ["pair", "run"], Z.g_trail, F.kp, (F.bindsN (ps := ["pair", "run"]) fun _ _ _ _ _ _ us hl => match us, hl with | [_, _], _ => rfl), hF⟩, rfl⟩
theorem fn_checked_trail (Z : Fx K mg base T0) : ∃ fd, FunD K "checked_trail" "checked_trail" (defArgs (top 39)) (defBody (top 39)) (defScope (top 39)) [] [] (He.ga K "checked_trail") fd ∧ FnOk P w K mg base C8.CX0 4 (He.ga K "checked_trail") fd ["pair", "run"] (spF (mkW SS Cn K T0 none) 2 F_checked_trail) := by
  obtain ⟨fd, F⟩ := Z.d_checked_trail
  exact ⟨fd, F, (fn_okW (k := 3) (N := ["pair", "run", "events", "state", "found"]) (ps := ["pair", "run"]) F (by decide +kernel) rfl rfl fun cdv A outer s H E hr hC => (ss_cons (s_set (i := 2) rfl (.inl rfl) (e_call (ok_checked_events Z) (hr.mono (by decide)) rfl (a_cons (e_V rfl (.inl rfl) rfl rfl) (a_cons (e_V rfl (.inl rfl) rfl rfl) a_nil)) (ar_cons (ar_cons ar_nil)))) (ss_cons (s_asg (e_call (ok_trail Z) (hr.mono (by decide)) rfl (a_cons (e_V rfl (.inl rfl) rfl rfl) (a_cons (e_V rfl (.inl rfl) rfl rfl) a_nil)) (ar_cons (ar_cons ar_nil))) (g_T (is := [3, 4]) (gs_cons (i := 3) rfl (.inl rfl) (gs_cons (i := 4) rfl (.inl rfl) gs_nil)))) (ss_one (s_ret (e_tup (a_cons (e_V rfl (.inl rfl) rfl rfl) (a_cons (e_V rfl (.inl rfl) rfl rfl) (a_cons (e_V rfl (.inl rfl) rfl rfl) a_nil)))))))))⟩
theorem ok_checked_trail (Z : Fx K mg base T0) : Def P w K mg base (mkW SS Cn K T0 none) 4 "checked_trail" 2 F_checked_trail := by
  obtain ⟨fd, F, hF⟩ := fn_checked_trail (P := P) (w := w) Z
  exact ⟨⟨_, fd, ["pair", "run"], Z.g_checked_trail, F.kp, (F.bindsN (ps := ["pair", "run"]) fun _ _ _ _ _ _ us hl => match us, hl with | [_, _], _ => rfl), hF⟩, rfl⟩
theorem fn_require_excusing (Z : Fx K mg base T0) : ∃ fd, FunD K "require_excusing" "require_excusing" (defArgs (top 42)) (defBody (top 42)) (defScope (top 42)) [] [] (He.ga K "require_excusing") fd ∧ FnOk P w K mg base C8.CX0 1 (He.ga K "require_excusing") fd ["thing"] (spF (mkW SS Cn K T0 none) 1 F_require_excusing) := by
  obtain ⟨fd, F⟩ := Z.d_require_excusing
  exact ⟨fd, F, (fn_okW (k := 0) (N := ["thing", "one"]) (ps := ["thing"]) F (by decide +kernel) rfl rfl fun cdv A outer s H E hr hC => (ss_cons (s_if (t_w (w_or (t_not (t_B (fun _ => rfl) (e_is (Z.kf_tuple _) (pe_bt rfl Z.b_tuple bb_tuple (by decide) rfl) (.ty _) rfl Z.b_isinstance (e_V rfl (.inl rfl) rfl rfl)))) (w_or1 (t_not (t_B (fun _ => rfl) (e_all rfl Z.b_all (e_comp (own := [("one", 1)]) rfl (i_E (e_V rfl (.inl rfl) rfl rfl)) rfl (fun _ _ _ _ _ => (g_V (i := 1) rfl (.inl rfl))) (fun _ _ _ _ _ => ts_nil) (fun _ _ _ _ _ => (e_and (e_is (Z.kf_str _) (pe_bt rfl Z.b_str bb_str (by decide) rfl) (.ty _) rfl Z.b_isinstance (e_V rfl (.inl rfl) rfl rfl)) (e_one (e_cmp (s_in (u65 hr)) (e_V rfl (.inl rfl) rfl rfl) (e_glob (Z.gv_PROGRAMS _) rfl rfl))))) (by decide)))))))) (ss_one s_raise) ss_nil) (ss_one (s_if (t_cmp (s_ne (u64 hr)) (e_lenSet rfl Z.b_len rfl Z.b_set (e_V rfl (.inl rfl) rfl rfl)) (e_len rfl Z.b_len (e_V rfl (.inl rfl) rfl rfl))) (ss_one s_raise) ss_nil))))⟩
theorem ok_require_excusing (Z : Fx K mg base T0) : Def P w K mg base (mkW SS Cn K T0 none) 1 "require_excusing" 1 F_require_excusing := by
  obtain ⟨fd, F, hF⟩ := fn_require_excusing (P := P) (w := w) Z
  exact ⟨⟨_, fd, ["thing"], Z.g_require_excusing, F.kp, (F.bindsN (ps := ["thing"]) fun _ _ _ _ _ _ us hl => match us, hl with | [_], _ => rfl), hF⟩, rfl⟩
theorem fn_is_free (Z : Fx K mg base T0) : ∃ fd, FunD K "is_free" "is_free" (defArgs (top 43)) (defBody (top 43)) (defScope (top 43)) [] [] (He.ga K "is_free") fd ∧ FnOk P w K mg base C8.CX0 1 (He.ga K "is_free") fd ["pair", "state"] (spF (mkW SS Cn K T0 none) 2 F_is_free) := by
  obtain ⟨fd, F⟩ := Z.d_is_free
  exact ⟨fd, F, (fn_okW (k := 0) (N := ["pair", "state"]) (ps := ["pair", "state"]) F (by decide +kernel) rfl rfl fun cdv A outer s H E hr hC => (ss_one (s_ret (e_cmp s_notN (e_idx (e_fld (Z.cf_takes _) (e_fld (Z.cf_sender _) (e_V rfl (.inl rfl) rfl rfl))) (e_idx (e_V rfl (.inl rfl) rfl rfl) e_int (fun _ _ => rfl)) (fun _ _ => rfl)) e_non))))⟩
theorem ok_is_free (Z : Fx K mg base T0) : Def P w K mg base (mkW SS Cn K T0 none) 1 "is_free" 2 F_is_free := by
  obtain ⟨fd, F, hF⟩ := fn_is_free (P := P) (w := w) Z
  exact ⟨⟨_, fd, ["pair", "state"], Z.g_is_free, F.kp, (F.bindsN (ps := ["pair", "state"]) fun _ _ _ _ _ _ us hl => match us, hl with | [_, _], _ => rfl), hF⟩, rfl⟩
theorem fn_round_of (Z : Fx K mg base T0) : ∃ fd, FunD K "round_of" "round_of" (defArgs (top 44)) (defBody (top 44)) (defScope (top 44)) [] [] (He.ga K "round_of") fd ∧ FnOk P w K mg base C8.CX0 2 (He.ga K "round_of") fd ["pair", "state"] (spF (mkW SS Cn K T0 none) 2 F_round_of) := by
  obtain ⟨fd, F⟩ := Z.d_round_of
  exact ⟨fd, F, (fn_okW (k := 1) (N := ["pair", "state", "way", "values", "value"]) (ps := ["pair", "state"]) F (by decide +kernel) rfl rfl fun cdv A outer s H E hr hC => (ss_cons (s_set (i := 2) rfl (.inl rfl) (e_lst (a_cons (e_call (ok_ticked Z) (hr.mono (by decide)) rfl (a_cons (e_V rfl (.inl rfl) rfl rfl) (a_cons (e_V rfl (.inl rfl) rfl rfl) (a_cons e_bool a_nil))) (ar_cons (ar_cons (ar_cons ar_nil)))) a_nil))) (ss_cons (s_set (i := 3) rfl (.inl rfl) (e_lst a_nil)) (ss_cons (s_if (t_cmp (s_ne (u64 hr)) (e_idx (e_idx (e_V rfl (.inl rfl) rfl rfl) (e_neg e_int) (fun _ _ => rfl)) e_int (fun _ _ => rfl)) (e_tup a_nil)) (ss_cons (s_asg (e_call (ok_passed Z) (hr.mono (by decide)) rfl (a_cons (e_V rfl (.inl rfl) rfl rfl) (a_cons (e_idx (e_V rfl (.inl rfl) rfl rfl) (e_neg e_int) (fun _ _ => rfl)) (a_cons e_bool a_nil))) (ar_cons (ar_cons (ar_cons ar_nil)))) (g_T (is := [1, 4]) (gs_cons (i := 1) rfl (.inl rfl) (gs_cons (i := 4) rfl (.inl rfl) gs_nil)))) (ss_cons (s_exp (e_append (e_V rfl (.inl rfl) rfl rfl) (e_V rfl (.inl rfl) rfl rfl))) (ss_one (s_set (i := 3) rfl (.inl rfl) (e_if (t_cmp s_isN (e_V rfl (.inl rfl) rfl rfl) e_non) (e_lst a_nil) (e_lst (a_cons (e_V rfl (.inl rfl) rfl rfl) a_nil))))))) ss_nil) (ss_cons (s_exp (e_append (e_V rfl (.inl rfl) rfl rfl) (e_call (ok_ticked Z) (hr.mono (by decide)) rfl (a_cons (e_V rfl (.inl rfl) rfl rfl) (a_cons (e_idx (e_V rfl (.inl rfl) rfl rfl) (e_neg e_int) (fun _ _ => rfl)) (a_cons e_bool a_nil))) (ar_cons (ar_cons (ar_cons ar_nil)))))) (ss_cons (s_if (t_cmp (s_ne (u64 hr)) (e_idx (e_idx (e_V rfl (.inl rfl) rfl rfl) (e_neg e_int) (fun _ _ => rfl)) e_int (fun _ _ => rfl)) (e_tup a_nil)) (ss_one (s_exp (e_append (e_V rfl (.inl rfl) rfl rfl) (e_idx (e_call (ok_passed Z) (hr.mono (by decide)) rfl (a_cons (e_V rfl (.inl rfl) rfl rfl) (a_cons (e_idx (e_V rfl (.inl rfl) rfl rfl) (e_neg e_int) (fun _ _ => rfl)) (a_cons e_bool a_nil))) (ar_cons (ar_cons (ar_cons ar_nil)))) e_int (fun _ _ => rfl))))) ss_nil) (ss_one (s_ret (e_tup (a_cons (e_V rfl (.inl rfl) rfl rfl) (a_cons (e_V rfl (.inl rfl) rfl rfl) a_nil)))))))))))⟩
theorem ok_round_of (Z : Fx K mg base T0) : Def P w K mg base (mkW SS Cn K T0 none) 2 "round_of" 2 F_round_of := by
  obtain ⟨fd, F, hF⟩ := fn_round_of (P := P) (w := w) Z
  exact ⟨⟨_, fd, ["pair", "state"], Z.g_round_of, F.kp, (F.bindsN (ps := ["pair", "state"]) fun _ _ _ _ _ _ us hl => match us, hl with | [_, _], _ => rfl), hF⟩, rfl⟩
theorem fn_emptied (Z : Fx K mg base T0) : ∃ fd, FunD K "emptied" "emptied" (defArgs (top 45)) (defBody (top 45)) (defScope (top 45)) [] [] (He.ga K "emptied") fd ∧ FnOk P w K mg base C8.CX0 2 (He.ga K "emptied") fd ["pair", "state"] (spF (mkW SS Cn K T0 none) 2 F_emptied) := by
  obtain ⟨fd, F⟩ := Z.d_emptied
  exact ⟨fd, F, (fn_okW (k := 1) (N := ["pair", "state", "way", "values", "value"]) (ps := ["pair", "state"]) F (by decide +kernel) rfl rfl fun cdv A outer s H E hr hC => (ss_cons (s_set (i := 2) rfl (.inl rfl) (e_lst (a_cons (e_V rfl (.inl rfl) rfl rfl) a_nil))) (ss_cons (s_set (i := 3) rfl (.inl rfl) (e_lst a_nil)) (ss_cons (s_while (t_cmp (s_ne (u64 hr)) (e_idx (e_idx (e_V rfl (.inl rfl) rfl rfl) (e_neg e_int) (fun _ _ => rfl)) e_int (fun _ _ => rfl)) (e_tup a_nil)) (ss_cons (s_asg (e_call (ok_passed Z) (hr.mono (by decide)) rfl (a_cons (e_V rfl (.inl rfl) rfl rfl) (a_cons (e_idx (e_V rfl (.inl rfl) rfl rfl) (e_neg e_int) (fun _ _ => rfl)) (a_cons e_bool a_nil))) (ar_cons (ar_cons (ar_cons ar_nil)))) (g_T (is := [1, 4]) (gs_cons (i := 1) rfl (.inl rfl) (gs_cons (i := 4) rfl (.inl rfl) gs_nil)))) (ss_cons (s_exp (e_append (e_V rfl (.inl rfl) rfl rfl) (e_V rfl (.inl rfl) rfl rfl))) (ss_one (s_if (t_cmp s_notN (e_V rfl (.inl rfl) rfl rfl) e_non) (ss_one (s_exp (e_append (e_V rfl (.inl rfl) rfl rfl) (e_V rfl (.inl rfl) rfl rfl)))) ss_nil))))) (ss_cons (s_while (t_cmp (s_ne (u64 hr)) (e_idx (e_idx (e_V rfl (.inl rfl) rfl rfl) (e_neg e_int) (fun _ _ => rfl)) e_int (fun _ _ => rfl)) (e_tup a_nil)) (ss_one (s_exp (e_append (e_V rfl (.inl rfl) rfl rfl) (e_idx (e_call (ok_passed Z) (hr.mono (by decide)) rfl (a_cons (e_V rfl (.inl rfl) rfl rfl) (a_cons (e_idx (e_V rfl (.inl rfl) rfl rfl) (e_neg e_int) (fun _ _ => rfl)) (a_cons e_bool a_nil))) (ar_cons (ar_cons (ar_cons ar_nil)))) e_int (fun _ _ => rfl)))))) (ss_one (s_ret (e_tup (a_cons (e_V rfl (.inl rfl) rfl rfl) (a_cons (e_V rfl (.inl rfl) rfl rfl) a_nil))))))))))⟩
theorem ok_emptied (Z : Fx K mg base T0) : Def P w K mg base (mkW SS Cn K T0 none) 2 "emptied" 2 F_emptied := by
  obtain ⟨fd, F, hF⟩ := fn_emptied (P := P) (w := w) Z
  exact ⟨⟨_, fd, ["pair", "state"], Z.g_emptied, F.kp, (F.bindsN (ps := ["pair", "state"]) fun _ _ _ _ _ _ us hl => match us, hl with | [_, _], _ => rfl), hF⟩, rfl⟩
theorem fn_rest_of (Z : Fx K mg base T0) : ∃ fd, FunD K "rest_of" "rest_of" (defArgs (top 46)) (defBody (top 46)) (defScope (top 46)) [] [] (He.ga K "rest_of") fd ∧ FnOk P w K mg base C8.CX0 3 (He.ga K "rest_of") fd ["pair", "state"] (spF (mkW SS Cn K T0 none) 2 F_rest_of) := by
  obtain ⟨fd, F⟩ := Z.d_rest_of
  exact ⟨fd, F, (fn_okW (k := 2) (N := ["pair", "state", "way", "values", "seen", "steps", "more", "endless", "one"]) (ps := ["pair", "state"]) F (by decide +kernel) rfl rfl fun cdv A outer s H E hr hC => (ss_cons (s_asg (e_call (ok_emptied Z) (hr.mono (by decide)) rfl (a_cons (e_V rfl (.inr (.inl rfl)) rfl rfl) (a_cons (e_V rfl (.inl rfl) rfl rfl) a_nil)) (ar_cons (ar_cons ar_nil))) (g_T (is := [2, 3]) (gs_cons (i := 2) rfl (.inl rfl) (gs_cons (i := 3) rfl (.inl rfl) gs_nil)))) (ss_cons (s_set (i := 1) rfl (.inl rfl) (e_idx (e_V rfl (.inl rfl) rfl rfl) (e_neg e_int) (fun _ _ => rfl))) (ss_cons (s_dict (i := 4) rfl (.inl rfl)) (ss_cons (s_while (t_dnotIn (u1 hr) (k_cut (e_V rfl (.inl rfl) rfl rfl) (o_some e_int)) (e_V rfl (.inl rfl) rfl rfl)) (ss_cons (s_dset (u1 hr) (e_V rfl (.inl rfl) rfl rfl) (k_cut (e_V rfl (.inl rfl) rfl rfl) (o_some e_int)) (e_len rfl Z.b_len (e_V rfl (.inl rfl) rfl rfl))) (ss_cons (s_asg (e_call (ok_round_of Z) (hr.mono (by decide)) rfl (a_cons (e_V rfl (.inr (.inl rfl)) rfl rfl) (a_cons (e_V rfl (.inl rfl) rfl rfl) a_nil)) (ar_cons (ar_cons ar_nil))) (g_T (is := [5, 6]) (gs_cons (i := 5) rfl (.inl rfl) (gs_cons (i := 6) rfl (.inl rfl) gs_nil)))) (ss_cons (s_exp (e_extend (e_V rfl (.inl rfl) rfl rfl) (e_V rfl (.inl rfl) rfl rfl))) (ss_cons (s_set (i := 3) rfl (.inl rfl) (e_bin s_add (e_V rfl (.inl rfl) rfl rfl) (e_V rfl (.inl rfl) rfl rfl))) (ss_one (s_set (i := 1) rfl (.inl rfl) (e_idx (e_V rfl (.inl rfl) rfl rfl) (e_neg e_int) (fun _ _ => rfl))))))))) (ss_cons (s_set (i := 7) rfl (.inl rfl) (e_cmp s_gt (e_len rfl Z.b_len (e_V rfl (.inl rfl) rfl rfl)) (e_dget (u1 hr) (e_V rfl (.inl rfl) rfl rfl) (k_cut (e_V rfl (.inl rfl) rfl rfl) (o_some e_int)) (fun _ _ => rfl)))) (ss_one (s_ret (e_tup (a_cons (e_V rfl (.inl rfl) rfl rfl) (a_cons (e_V rfl (.inl rfl) rfl rfl) (a_cons (e_any rfl Z.b_any (e_comp (own := [("one", 8)]) rfl (i_E (e_V rfl (.inl rfl) rfl rfl)) rfl (fun _ _ _ _ _ => (g_V (i := 8) rfl (.inl rfl))) (fun _ _ _ _ _ => ts_nil) (fun _ _ _ _ _ => (e_call (ok_is_free Z) (hr.mono (by decide)) rfl (a_cons (e_V rfl (.inr (.inl rfl)) rfl rfl) (a_cons (e_V rfl (.inl rfl) rfl rfl) a_nil)) (ar_cons (ar_cons ar_nil)))) (by decide))) a_nil))))))))))))⟩
theorem ok_rest_of (Z : Fx K mg base T0) : Def P w K mg base (mkW SS Cn K T0 none) 3 "rest_of" 2 F_rest_of := by
  obtain ⟨fd, F, hF⟩ := fn_rest_of (P := P) (w := w) Z
  exact ⟨⟨_, fd, ["pair", "state"], Z.g_rest_of, F.kp, (F.bindsN (ps := ["pair", "state"]) fun _ _ _ _ _ _ us hl => match us, hl with | [_, _], _ => rfl), hF⟩, rfl⟩
theorem fn_can_give (Z : Fx K mg base T0) : ∃ fd, FunD K "can_give" "can_give" (defArgs (top 47)) (defBody (top 47)) (defScope (top 47)) [] [] (He.ga K "can_give") fd ∧ FnOk P w K mg base C8.CX0 1 (He.ga K "can_give") fd ["deliveries", "handings"] (spF (mkW SS Cn K T0 none) 2 F_can_give) := by
  obtain ⟨fd, F⟩ := Z.d_can_give
  exact ⟨fd, F, (fn_okW (k := 0) (N := ["deliveries", "handings", "place", "number", "value"]) (ps := ["deliveries", "handings"]) F (by decide +kernel) rfl rfl fun cdv A outer s H E hr hC => (ss_cons (s_set (i := 2) rfl (.inl rfl) e_int) (ss_cons (s_for (i_E (e_V rfl (.inl rfl) rfl rfl)) (g_T (is := [3, 4]) (gs_cons (i := 3) rfl (.inl rfl) (gs_cons (i := 4) rfl (.inl rfl) gs_nil))) (ss_cons (s_while (t_w (w_and (t_cmp s_lt (e_V rfl (.inl rfl) rfl rfl) (e_len rfl Z.b_len (e_V rfl (.inl rfl) rfl rfl))) (w_and1 (t_cmp (s_ne (u64 hr)) (e_idx (e_idx (e_V rfl (.inl rfl) rfl rfl) (e_V rfl (.inl rfl) rfl rfl) (fun _ _ => rfl)) e_int (fun _ _ => rfl)) (e_V rfl (.inl rfl) rfl rfl))))) (ss_one (s_set (i := 2) rfl (.inl rfl) (e_bin s_add (e_V rfl (.inl rfl) rfl rfl) e_int)))) (ss_cons (s_if (t_w (w_or (t_cmp (s_eq (u64 hr)) (e_V rfl (.inl rfl) rfl rfl) (e_len rfl Z.b_len (e_V rfl (.inl rfl) rfl rfl))) (w_or1 (t_cmp s_gt (e_idx (e_idx (e_V rfl (.inl rfl) rfl rfl) (e_V rfl (.inl rfl) rfl rfl) (fun _ _ => rfl)) e_int (fun _ _ => rfl)) (e_V rfl (.inl rfl) rfl rfl))))) (ss_one (s_ret e_bool)) ss_nil) (ss_one (s_set (i := 2) rfl (.inl rfl) (e_bin s_add (e_V rfl (.inl rfl) rfl rfl) e_int)))))) (ss_one (s_ret e_bool)))))⟩
theorem ok_can_give (Z : Fx K mg base T0) : Def P w K mg base (mkW SS Cn K T0 none) 1 "can_give" 2 F_can_give := by
  obtain ⟨fd, F, hF⟩ := fn_can_give (P := P) (w := w) Z
  exact ⟨⟨_, fd, ["deliveries", "handings"], Z.g_can_give, F.kp, (F.bindsN (ps := ["deliveries", "handings"]) fun _ _ _ _ _ _ us hl => match us, hl with | [_, _], _ => rfl), hF⟩, rfl⟩
theorem fn_judged (Z : Fx K mg base T0) : ∃ fd, FunD K "judged" "judged" (defArgs (top 48)) (defBody (top 48)) (defScope (top 48)) [] [] (He.ga K "judged") fd ∧ FnOk P w K mg base C8.CX0 4 (He.ga K "judged") fd ["pair", "events", "state", "found", "excusing"] (spF (mkW SS Cn K T0 none) 5 F_judged) := by
  obtain ⟨fd, F⟩ := Z.d_judged
  exact ⟨fd, F, (fn_okW (k := 3) (N := ["pair", "events", "state", "found", "excusing", "values", "endless", "free", "deliveries", "handings", "crashes", "last", "due", "ahead", "delivery", "handing", "value", "place", "event"]) (ps := ["pair", "events", "state", "found", "excusing"]) F (by decide +kernel) rfl rfl fun cdv A outer s H E hr hC => (ss_cons (s_asg (e_call (ok_rest_of Z) (hr.mono (by decide)) rfl (a_cons (e_V rfl (.inl rfl) rfl rfl) (a_cons (e_V rfl (.inl rfl) rfl rfl) a_nil)) (ar_cons (ar_cons ar_nil))) (g_T (is := [5, 6, 7]) (gs_cons (i := 5) rfl (.inl rfl) (gs_cons (i := 6) rfl (.inl rfl) (gs_cons (i := 7) rfl (.inl rfl) gs_nil))))) (ss_cons (s_set (i := 8) rfl (.inl rfl) (e_bin s_add (e_V rfl (.inl rfl) rfl rfl) (e_comp (own := [("value", 16)]) rfl (i_E (e_V rfl (.inl rfl) rfl rfl)) rfl (fun _ _ _ _ _ => (g_V (i := 16) rfl (.inl rfl))) (fun _ _ _ _ _ => ts_nil) (fun _ _ _ _ _ => (e_tup (a_cons (e_len rfl Z.b_len (e_V rfl (.inr (.inl rfl)) rfl rfl)) (a_cons (e_V rfl (.inl rfl) rfl rfl) a_nil)))) (by decide)))) (ss_cons (s_setLc (own := [("place", 17), ("event", 18)]) rfl (i := 9) rfl rfl (L2.sw_true rfl rfl rfl rfl) (i_enum rfl Z.b_enumerate (e_V rfl (.inr (.inl rfl)) rfl rfl)) rfl (fun _ _ _ _ _ => (g_T (is := [17, 18]) (gs_cons (i := 17) rfl (.inl rfl) (gs_cons (i := 18) rfl (.inl rfl) gs_nil)))) (fun _ _ _ _ _ => (ts_one (t_cmp (s_eq (u64 hr)) (e_idx (e_V rfl (.inl rfl) rfl rfl) e_int (fun _ _ => rfl)) (e_str rfl)))) (fun _ _ _ _ _ => (e_tup (a_cons (e_V rfl (.inl rfl) rfl rfl) (a_cons (e_idx (e_V rfl (.inl rfl) rfl rfl) e_int (fun _ _ => rfl)) a_nil)))) (by decide)) (ss_cons (s_if (t_w (w_or (t_tru (fun _ => rfl) (e_V rfl (.inl rfl) rfl rfl)) (w_or1 (t_not (t_B (fun _ => rfl) (e_call (ok_can_give Z) (hr.mono (by decide)) rfl (a_cons (e_V rfl (.inl rfl) rfl rfl) (a_cons (e_V rfl (.inl rfl) rfl rfl) a_nil)) (ar_cons (ar_cons ar_nil)))))))) (ss_one (s_ret (e_str rfl))) ss_nil) (ss_cons (s_setLc (own := [("place", 17), ("event", 18)]) rfl (i := 10) rfl rfl (L2.sw_true rfl rfl rfl rfl) (i_enum rfl Z.b_enumerate (e_V rfl (.inr (.inl rfl)) rfl rfl)) rfl (fun _ _ _ _ _ => (g_T (is := [17, 18]) (gs_cons (i := 17) rfl (.inl rfl) (gs_cons (i := 18) rfl (.inl rfl) gs_nil)))) (fun _ _ _ _ _ => (ts_one (t_w (w_and (t_cmp (s_eq (u64 hr)) (e_idx (e_V rfl (.inl rfl) rfl rfl) e_int (fun _ _ => rfl)) (e_str rfl)) (w_and1 (t_cmp (s_in (u65 hr)) (e_idx (e_V rfl (.inl rfl) rfl rfl) e_int (fun _ _ => rfl)) (e_V rfl (.inr (.inl rfl)) rfl rfl))))))) (fun _ _ _ _ _ => (e_V rfl (.inl rfl) rfl rfl)) (by decide)) (ss_cons (s_set (i := 11) rfl (.inr rfl) (e_max rfl Z.b_max (e_bin s_add (e_V rfl (.inl rfl) rfl rfl) (e_lst (a_cons (e_neg e_int) a_nil))))) (ss_cons (s_setLc (own := [("place", 17), ("value", 16)]) rfl (i := 12) rfl rfl (L2.sw_true rfl rfl rfl rfl) (i_E (e_V rfl (.inl rfl) rfl rfl)) rfl (fun _ _ _ _ _ => (g_T (is := [17, 16]) (gs_cons (i := 17) rfl (.inl rfl) (gs_cons (i := 16) rfl (.inl rfl) gs_nil)))) (fun _ _ _ _ _ => (ts_one (t_cmp s_gt (e_V rfl (.inl rfl) rfl rfl) (e_V rfl (.inr (.inl rfl)) rfl rfl)))) (fun _ _ _ _ _ => (e_tup (a_cons (e_V rfl (.inl rfl) rfl rfl) (a_cons (e_V rfl (.inl rfl) rfl rfl) a_nil)))) (by decide)) (ss_cons (s_set (i := 13) rfl (.inl rfl) (e_bin s_sub (e_len rfl Z.b_len (e_V rfl (.inl rfl) rfl rfl)) (e_len rfl Z.b_len (e_V rfl (.inl rfl) rfl rfl)))) (ss_cons (s_if (t_w (w_or (t_cmp s_lt (e_V rfl (.inl rfl) rfl rfl) e_int) (w_or1 (t_not (t_B (fun _ => rfl) (e_call (ok_can_give Z) (hr.mono (by decide)) rfl (a_cons (e_sl (e_V rfl (.inl rfl) rfl rfl) o_none (o_some (e_V rfl (.inl rfl) rfl rfl))) (a_cons (e_sl (e_V rfl (.inl rfl) rfl rfl) o_none (o_some (e_bin s_sub (e_len rfl Z.b_len (e_V rfl (.inl rfl) rfl rfl)) (e_len rfl Z.b_len (e_V rfl (.inl rfl) rfl rfl))))) a_nil)) (ar_cons (ar_cons ar_nil)))))))) (ss_one (s_ret (e_str rfl))) ss_nil) (ss_cons (s_for (i_zip rfl Z.b_zip (e_sl (e_V rfl (.inl rfl) rfl rfl) (o_some (e_V rfl (.inl rfl) rfl rfl)) o_none) (e_V rfl (.inl rfl) rfl rfl)) (g_T (is := [14, 15]) (gs_cons (i := 14) rfl (.inl rfl) (gs_cons (i := 15) rfl (.inl rfl) gs_nil))) (ss_one (s_if (t_w (w_or (t_cmp (s_ne (u64 hr)) (e_idx (e_V rfl (.inl rfl) rfl rfl) e_int (fun _ _ => rfl)) (e_idx (e_V rfl (.inl rfl) rfl rfl) e_int (fun _ _ => rfl))) (w_or1 (t_cmp s_gt (e_idx (e_V rfl (.inl rfl) rfl rfl) e_int (fun _ _ => rfl)) (e_idx (e_V rfl (.inl rfl) rfl rfl) e_int (fun _ _ => rfl)))))) (ss_one (s_ret (e_str rfl))) ss_nil))) (ss_one (s_ret (e_if (t_tru (fun _ => rfl) (e_V rfl (.inl rfl) rfl rfl)) (e_str rfl) (e_str rfl)))))))))))))))⟩
theorem ok_judged (Z : Fx K mg base T0) : Def P w K mg base (mkW SS Cn K T0 none) 4 "judged" 5 F_judged := by
  obtain ⟨fd, F, hF⟩ := fn_judged (P := P) (w := w) Z
  exact ⟨⟨_, fd, ["pair", "events", "state", "found", "excusing"], Z.g_judged, F.kp, (F.bindsN (ps := ["pair", "events", "state", "found", "excusing"]) fun _ _ _ _ _ _ us hl => match us, hl with | [_, _, _, _, _], _ => rfl), hF⟩, rfl⟩
theorem fn_verdict (Z : Fx K mg base T0) : ∃ fd, FunD K "verdict" "verdict" (defArgs (top 49)) (defBody (top 49)) (defScope (top 49)) [] [("excusing", V.ref (He.ga K "BOTH"))] (He.ga K "verdict") fd ∧ FnOk P w K mg base C8.CX0 5 (He.ga K "verdict") fd ["pair", "run", "excusing"] (spF (mkW SS Cn K T0 none) 3 F_verdict) := by
  obtain ⟨fd, F⟩ := Z.d_verdict
  exact ⟨fd, F, (fn_okW (k := 4) (N := ["pair", "run", "excusing", "events", "state", "found"]) (ps := ["pair", "run", "excusing"]) F (by decide +kernel) rfl rfl fun cdv A outer s H E hr hC => (ss_cons (s_exp (e_call (ok_require_pair Z) (hr.mono (by decide)) rfl (a_cons (e_V rfl (.inl rfl) rfl rfl) a_nil) (ar_cons ar_nil))) (ss_cons (s_asg (e_call (ok_checked_trail Z) (hr.mono (by decide)) rfl (a_cons (e_V rfl (.inl rfl) rfl rfl) (a_cons (e_V rfl (.inl rfl) rfl rfl) a_nil)) (ar_cons (ar_cons ar_nil))) (g_T (is := [3, 4, 5]) (gs_cons (i := 3) rfl (.inl rfl) (gs_cons (i := 4) rfl (.inl rfl) (gs_cons (i := 5) rfl (.inl rfl) gs_nil))))) (ss_cons (s_exp (e_call (ok_require_excusing Z) (hr.mono (by decide)) rfl (a_cons (e_V rfl (.inl rfl) rfl rfl) a_nil) (ar_cons ar_nil))) (ss_one (s_ret (e_call (ok_judged Z) (hr.mono (by decide)) rfl (a_cons (e_V rfl (.inl rfl) rfl rfl) (a_cons (e_V rfl (.inl rfl) rfl rfl) (a_cons (e_V rfl (.inl rfl) rfl rfl) (a_cons (e_V rfl (.inl rfl) rfl rfl) (a_cons (e_V rfl (.inl rfl) rfl rfl) a_nil))))) (ar_cons (ar_cons (ar_cons (ar_cons (ar_cons ar_nil))))))))))))⟩
theorem defU_verdict (Z : Fx K mg base T0) : DefU P w K mg base (mkW SS Cn K T0 none) 5 "verdict" 3 F_verdict [G_BOTH] := by
  obtain ⟨fd, F, hF⟩ := fn_verdict (P := P) (w := w) Z
  exact defU_of Z.g_verdict F rfl Z.gv_BOTH Z.g_BOTH (fun _ _ _ _ _ _ us ks h1 h2 => match us, h1, ks, h2 with | [_, _], _, [_], _ => ⟨_, _, _, _, _, _, rfl, rfl, rfl⟩) hF rfl
theorem fn_Round___init__ (Z : Fx K mg base T0) : ∃ fd, FunD K "__init__" "Round.__init__" (defArgs (inClass (top 52) 0)) (defBody (inClass (top 52) 0)) (defScope (inClass (top 52) 0)) [] [] (He.ma K (He.ga K "Round") "__init__") fd ∧ FnOk P w K mg base C8.CX0 2 (He.ma K (He.ga K "Round") "__init__") fd ["self", "pair", "state"] (spF (mkW SS Cn K T0 none) 3 F_Round___init__) := by
  obtain ⟨fd, F⟩ := Z.d_Round___init__
  exact ⟨fd, F, (fn_okW (k := 1) (N := ["self", "pair", "state"]) (ps := ["self", "pair", "state"]) F (by decide +kernel) rfl rfl fun cdv A outer s H E hr hC => (ss_cons (s_set (i := 2) rfl (.inl rfl) (e_call (ok_ticked Z) (hr.mono (by decide)) rfl (a_cons (e_V rfl (.inl rfl) rfl rfl) (a_cons (e_V rfl (.inl rfl) rfl rfl) (a_cons e_bool a_nil))) (ar_cons (ar_cons (ar_cons ar_nil))))) (ss_cons (s_fld (Z.cf_sender _) (e_V rfl (.inl rfl) rfl rfl) (e_idx (e_V rfl (.inl rfl) rfl rfl) e_int (fun _ _ => rfl))) (ss_cons (s_fld (Z.cf_message _) (e_V rfl (.inl rfl) rfl rfl) (e_if (t_cmp (s_ne (u64 hr)) (e_idx (e_V rfl (.inl rfl) rfl rfl) e_int (fun _ _ => rfl)) (e_tup a_nil)) (e_idx (e_idx (e_V rfl (.inl rfl) rfl rfl) e_int (fun _ _ => rfl)) e_int (fun _ _ => rfl)) e_non)) (ss_cons (s_fld (Z.cf_value _) (e_V rfl (.inl rfl) rfl rfl) e_non) (ss_cons (s_if (t_cmp s_notN (e_fld (Z.cf_message _) (e_V rfl (.inl rfl) rfl rfl)) e_non) (ss_one (s_asg (e_call (ok_passed Z) (hr.mono (by decide)) rfl (a_cons (e_V rfl (.inl rfl) rfl rfl) (a_cons (e_V rfl (.inl rfl) rfl rfl) (a_cons e_bool a_nil))) (ar_cons (ar_cons (ar_cons ar_nil)))) (g_NF (i := 2) (Z.cf_value _) rfl (.inl rfl) (e_V rfl (.inl rfl) rfl rfl)))) ss_nil) (ss_cons (s_fld (Z.cf_heard _) (e_V rfl (.inl rfl) rfl rfl) (e_idx (e_V rfl (.inl rfl) rfl rfl) e_int (fun _ _ => rfl))) (ss_cons (s_set (i := 2) rfl (.inl rfl) (e_call (ok_ticked Z) (hr.mono (by decide)) rfl (a_cons (e_V rfl (.inl rfl) rfl rfl) (a_cons (e_V rfl (.inl rfl) rfl rfl) (a_cons e_bool a_nil))) (ar_cons (ar_cons (ar_cons ar_nil))))) (ss_cons (s_fld (Z.cf_receiver _) (e_V rfl (.inl rfl) rfl rfl) (e_idx (e_V rfl (.inl rfl) rfl rfl) e_int (fun _ _ => rfl))) (ss_cons (s_fld (Z.cf_answer _) (e_V rfl (.inl rfl) rfl rfl) (e_if (t_cmp (s_ne (u64 hr)) (e_idx (e_V rfl (.inl rfl) rfl rfl) e_int (fun _ _ => rfl)) (e_tup a_nil)) (e_idx (e_idx (e_V rfl (.inl rfl) rfl rfl) e_int (fun _ _ => rfl)) e_int (fun _ _ => rfl)) e_non)) (ss_cons (s_if (t_cmp s_notN (e_fld (Z.cf_answer _) (e_V rfl (.inl rfl) rfl rfl)) e_non) (ss_one (s_set (i := 2) rfl (.inl rfl) (e_idx (e_call (ok_passed Z) (hr.mono (by decide)) rfl (a_cons (e_V rfl (.inl rfl) rfl rfl) (a_cons (e_V rfl (.inl rfl) rfl rfl) (a_cons e_bool a_nil))) (ar_cons (ar_cons (ar_cons ar_nil)))) e_int (fun _ _ => rfl)))) ss_nil) (ss_one (s_fld (Z.cf_behind _) (e_V rfl (.inl rfl) rfl rfl) (e_V rfl (.inl rfl) rfl rfl))))))))))))))⟩
theorem mak_Round (Z : Fx K mg base T0) : Mak P w K mg base (mkW SS Cn K T0 none) 2 "Round" 14 3 F_Round___init__ := by
  obtain ⟨fd, F, hF⟩ := fn_Round___init__ (P := P) (w := w) Z
  exact ⟨⟨_, fd, ["self", "pair", "state"], Z.g_Round, Z.mk_Round, (F.bindsN (ps := ["self", "pair", "state"]) fun _ _ _ _ _ _ us hl => match us, hl with | [_, _, _], _ => rfl), hF⟩, rfl⟩
theorem fn_rounds_of (Z : Fx K mg base T0) : ∃ fd, FunD K "rounds_of" "rounds_of" (defArgs (top 53)) (defBody (top 53)) (defScope (top 53)) [] [] (He.ga K "rounds_of") fd ∧ FnOk P w K mg base C8.CX0 4 (He.ga K "rounds_of") fd ["pair", "state", "most"] (spF (mkW SS Cn K T0 none) 3 F_rounds_of) := by
  obtain ⟨fd, F⟩ := Z.d_rounds_of
  exact ⟨fd, F, (fn_okW (k := 3) (N := ["pair", "state", "most", "found"]) (ps := ["pair", "state", "most"]) F (by decide +kernel) rfl rfl fun cdv A outer s H E hr hC => (ss_cons (s_set (i := 1) rfl (.inl rfl) (e_tup (a_cons (e_idx (e_idx (e_fld (Z.cf_takes _) (e_fld (Z.cf_sender _) (e_V rfl (.inl rfl) rfl rfl))) (e_idx (e_V rfl (.inl rfl) rfl rfl) e_int (fun _ _ => rfl)) (fun _ _ => rfl)) e_int (fun _ _ => rfl)) (a_cons (e_idx (e_V rfl (.inl rfl) rfl rfl) e_int (fun _ _ => rfl)) (a_cons (e_tup a_nil) (a_cons (e_tup a_nil) a_nil)))))) (ss_cons (s_set (i := 3) rfl (.inl rfl) (e_lst a_nil)) (ss_cons (s_while (t_cmp (s_ne (u64 hr)) (e_len rfl Z.b_len (e_V rfl (.inl rfl) rfl rfl)) (e_V rfl (.inl rfl) rfl rfl)) (ss_cons (s_exp (e_append (e_V rfl (.inl rfl) rfl rfl) (e_mk (mak_Round Z) (hr.mono (by decide)) rfl (a_cons (e_V rfl (.inl rfl) rfl rfl) (a_cons (e_V rfl (.inl rfl) rfl rfl) a_nil)) (ar_cons (ar_cons ar_nil))))) (ss_cons (s_set (i := 1) rfl (.inl rfl) (e_fld (Z.cf_behind _) (e_idx (e_V rfl (.inl rfl) rfl rfl) (e_neg e_int) (fun _ _ => rfl)))) (ss_one (s_if (t_w (w_and (t_cmp s_isN (e_V rfl (.inl rfl) rfl rfl) e_non) (w_and1 (t_cmp s_notN (e_fld (Z.cf_value _) (e_idx (e_V rfl (.inl rfl) rfl rfl) (e_neg e_int) (fun _ _ => rfl))) e_non)))) (ss_one (s_ret (e_V rfl (.inl rfl) rfl rfl))) ss_nil))))) (ss_one (s_ret (e_V rfl (.inl rfl) rfl rfl)))))))⟩
theorem ok_rounds_of (Z : Fx K mg base T0) : Def P w K mg base (mkW SS Cn K T0 none) 4 "rounds_of" 3 F_rounds_of := by
  obtain ⟨fd, F, hF⟩ := fn_rounds_of (P := P) (w := w) Z
  exact ⟨⟨_, fd, ["pair", "state", "most"], Z.g_rounds_of, F.kp, (F.bindsN (ps := ["pair", "state", "most"]) fun _ _ _ _ _ _ us hl => match us, hl with | [_, _, _], _ => rfl), hF⟩, rfl⟩
theorem fn_sends_by (Z : Fx K mg base T0) : ∃ fd, FunD K "sends_by" "sends_by" (defArgs (top 55)) (defBody (top 55)) (defScope (top 55)) [] [] (He.ga K "sends_by") fd ∧ FnOk P w K mg base C8.CX0 1 (He.ga K "sends_by") fd ["rounds", "many", "is_lost"] (spF (mkW SS Cn K T0 none) 3 F_sends_by) := by
  obtain ⟨fd, F⟩ := Z.d_sends_by
  exact ⟨fd, F, (fn_okW (k := 0) (N := ["rounds", "many", "is_lost", "events", "number"]) (ps := ["rounds", "many", "is_lost"]) F (by decide +kernel) rfl rfl fun cdv A outer s H E hr hC => (ss_cons (s_set (i := 3) rfl (.inl rfl) (e_lst (a_cons (e_glob (Z.gv_HAND _) rfl rfl) a_nil))) (ss_cons (s_for (i_R rfl Z.b_range (e_V rfl (.inl rfl) rfl rfl)) (g_V (i := 4) rfl (.inl rfl)) (ss_cons (s_if (t_w (w_and (t_cmp s_gt (e_V rfl (.inl rfl) rfl rfl) e_int) (w_and1 (t_cmp s_notN (e_fld (Z.cf_answer _) (e_idx (e_V rfl (.inl rfl) rfl rfl) (e_bin s_sub (e_V rfl (.inl rfl) rfl rfl) e_int) (fun _ _ => rfl))) e_non)))) (ss_one (s_exp (e_append (e_V rfl (.inl rfl) rfl rfl) (e_tup (a_cons (e_str rfl) (a_cons (e_str rfl) a_nil)))))) ss_nil) (ss_cons (s_exp (e_append (e_V rfl (.inl rfl) rfl rfl) (e_tup (a_cons (e_str rfl) a_nil)))) (ss_one (s_if (t_w (w_and (t_B (fun _ => rfl) (e_V rfl (.inl rfl) rfl rfl)) (w_and1 (t_cmp s_notN (e_fld (Z.cf_message _) (e_idx (e_V rfl (.inl rfl) rfl rfl) (e_V rfl (.inl rfl) rfl rfl) (fun _ _ => rfl))) e_non)))) (ss_one (s_exp (e_append (e_V rfl (.inl rfl) rfl rfl) (e_tup (a_cons (e_str rfl) (a_cons (e_str rfl) (a_cons e_int a_nil))))))) ss_nil))))) (ss_one (s_ret (e_V rfl (.inl rfl) rfl rfl))))))⟩
theorem ok_sends_by (Z : Fx K mg base T0) : Def P w K mg base (mkW SS Cn K T0 none) 1 "sends_by" 3 F_sends_by := by
  obtain ⟨fd, F, hF⟩ := fn_sends_by (P := P) (w := w) Z
  exact ⟨⟨_, fd, ["rounds", "many", "is_lost"], Z.g_sends_by, F.kp, (F.bindsN (ps := ["rounds", "many", "is_lost"]) fun _ _ _ _ _ _ us hl => match us, hl with | [_, _, _], _ => rfl), hF⟩, rfl⟩
theorem fn_answers_by (Z : Fx K mg base T0) : ∃ fd, FunD K "answers_by" "answers_by" (defArgs (top 56)) (defBody (top 56)) (defScope (top 56)) [] [] (He.ga K "answers_by") fd ∧ FnOk P w K mg base C8.CX0 1 (He.ga K "answers_by") fd ["rounds", "many"] (spF (mkW SS Cn K T0 none) 2 F_answers_by) := by
  obtain ⟨fd, F⟩ := Z.d_answers_by
  exact ⟨fd, F, (fn_okW (k := 0) (N := ["rounds", "many", "events", "number"]) (ps := ["rounds", "many"]) F (by decide +kernel) rfl rfl fun cdv A outer s H E hr hC => (ss_cons (s_set (i := 2) rfl (.inl rfl) (e_lst a_nil)) (ss_cons (s_for (i_R rfl Z.b_range (e_V rfl (.inl rfl) rfl rfl)) (g_V (i := 3) rfl (.inl rfl)) (ss_cons (s_if (t_cmp s_notN (e_fld (Z.cf_message _) (e_idx (e_V rfl (.inl rfl) rfl rfl) (e_V rfl (.inl rfl) rfl rfl) (fun _ _ => rfl))) e_non) (ss_one (s_exp (e_append (e_V rfl (.inl rfl) rfl rfl) (e_tup (a_cons (e_str rfl) (a_cons (e_str rfl) a_nil)))))) ss_nil) (ss_one (s_exp (e_append (e_V rfl (.inl rfl) rfl rfl) (e_tup (a_cons (e_str rfl) a_nil))))))) (ss_one (s_ret (e_bin s_add (e_V rfl (.inl rfl) rfl rfl) (e_lst (a_cons (e_tup (a_cons (e_str rfl) (a_cons (e_str rfl) a_nil))) a_nil))))))))⟩
theorem ok_answers_by (Z : Fx K mg base T0) : Def P w K mg base (mkW SS Cn K T0 none) 1 "answers_by" 2 F_answers_by := by
  obtain ⟨fd, F, hF⟩ := fn_answers_by (P := P) (w := w) Z
  exact ⟨⟨_, fd, ["rounds", "many"], Z.g_answers_by, F.kp, (F.bindsN (ps := ["rounds", "many"]) fun _ _ _ _ _ _ us hl => match us, hl with | [_, _], _ => rfl), hF⟩, rfl⟩
theorem fn_recorded_by (Z : Fx K mg base T0) : ∃ fd, FunD K "recorded_by" "recorded_by" (defArgs (top 57)) (defBody (top 57)) (defScope (top 57)) [] [] (He.ga K "recorded_by") fd ∧ FnOk P w K mg base C8.CX0 2 (He.ga K "recorded_by") fd ["rounds", "many", "is_forward"] (spF (mkW SS Cn K T0 none) 3 F_recorded_by) := by
  obtain ⟨fd, F⟩ := Z.d_recorded_by
  exact ⟨fd, F, (fn_okW (k := 1) (N := ["rounds", "many", "is_forward", "events", "number"]) (ps := ["rounds", "many", "is_forward"]) F (by decide +kernel) rfl rfl fun cdv A outer s H E hr hC => (ss_cons (s_set (i := 3) rfl (.inl rfl) (e_lst a_nil)) (ss_cons (s_for (i_R2 rfl Z.b_range e_int (e_bin s_add (e_V rfl (.inl rfl) rfl rfl) e_int)) (g_V (i := 4) rfl (.inl rfl)) (ss_cons (s_exp (e_extend (e_V rfl (.inl rfl) rfl rfl) (e_bin s_add (e_call (ok_sends_by Z) (hr.mono (by decide)) rfl (a_cons (e_V rfl (.inl rfl) rfl rfl) (a_cons (e_V rfl (.inl rfl) rfl rfl) (a_cons e_bool a_nil))) (ar_cons (ar_cons (ar_cons ar_nil)))) (e_lst (a_cons (e_tup (a_cons (e_str rfl) (a_cons (e_str rfl) a_nil))) a_nil))))) (ss_one (s_if (t_w (w_or (t_cmp s_lt (e_V rfl (.inl rfl) rfl rfl) (e_V rfl (.inl rfl) rfl rfl)) (w_or1 (t_not (t_B (fun _ => rfl) (e_V rfl (.inl rfl) rfl rfl)))))) (ss_one (s_exp (e_extend (e_V rfl (.inl rfl) rfl rfl) (e_call (ok_answers_by Z) (hr.mono (by decide)) rfl (a_cons (e_V rfl (.inl rfl) rfl rfl) (a_cons (e_V rfl (.inl rfl) rfl rfl) a_nil)) (ar_cons (ar_cons ar_nil)))))) ss_nil)))) (ss_one (s_ret (e_V rfl (.inl rfl) rfl rfl))))))⟩
theorem ok_recorded_by (Z : Fx K mg base T0) : Def P w K mg base (mkW SS Cn K T0 none) 2 "recorded_by" 3 F_recorded_by := by
  obtain ⟨fd, F, hF⟩ := fn_recorded_by (P := P) (w := w) Z
  exact ⟨⟨_, fd, ["rounds", "many", "is_forward"], Z.g_recorded_by, F.kp, (F.bindsN (ps := ["rounds", "many", "is_forward"]) fun _ _ _ _ _ _ us hl => match us, hl with | [_, _, _], _ => rfl), hF⟩, rfl⟩
theorem fn_is_good (Z : Fx K mg base T0) : ∃ fd, FunD K "is_good" "is_good" (defArgs (top 58)) (defBody (top 58)) (defScope (top 58)) [] [] (He.ga K "is_good") fd ∧ FnOk P w K mg base C8.CX0 5 (He.ga K "is_good") fd ["pair", "run", "excusing"] (spF (mkW SS Cn K T0 none) 3 F_is_good) := by
  obtain ⟨fd, F⟩ := Z.d_is_good
  exact ⟨fd, F, (fn_okW (k := 4) (N := ["pair", "run", "excusing", "state", "found"]) (ps := ["pair", "run", "excusing"]) F (by decide +kernel) rfl rfl fun cdv A outer s H E hr hC => (ss_cons (s_asg (e_call (ok_trail Z) (hr.mono (by decide)) rfl (a_cons (e_V rfl (.inl rfl) rfl rfl) (a_cons (e_V rfl (.inl rfl) rfl rfl) a_nil)) (ar_cons (ar_cons ar_nil))) (g_T (is := [3, 4]) (gs_cons (i := 3) rfl (.inl rfl) (gs_cons (i := 4) rfl (.inl rfl) gs_nil)))) (ss_one (s_ret (e_cmp (s_eq (u64 hr)) (e_call (ok_judged Z) (hr.mono (by decide)) rfl (a_cons (e_V rfl (.inl rfl) rfl rfl) (a_cons (e_V rfl (.inl rfl) rfl rfl) (a_cons (e_V rfl (.inl rfl) rfl rfl) (a_cons (e_V rfl (.inl rfl) rfl rfl) (a_cons (e_V rfl (.inl rfl) rfl rfl) a_nil))))) (ar_cons (ar_cons (ar_cons (ar_cons (ar_cons ar_nil)))))) (e_str rfl))))))⟩
theorem ok_is_good (Z : Fx K mg base T0) : Def P w K mg base (mkW SS Cn K T0 none) 5 "is_good" 3 F_is_good := by
  obtain ⟨fd, F, hF⟩ := fn_is_good (P := P) (w := w) Z
  exact ⟨⟨_, fd, ["pair", "run", "excusing"], Z.g_is_good, F.kp, (F.bindsN (ps := ["pair", "run", "excusing"]) fun _ _ _ _ _ _ us hl => match us, hl with | [_, _, _], _ => rfl), hF⟩, rfl⟩
theorem fn_whole_round (Z : Fx K mg base T0) : ∃ fd, FunD K "whole_round" "whole_round" (defArgs (top 54)) (defBody (top 54)) (defScope (top 54)) [] [] (He.ga K "whole_round") fd ∧ FnOk P w K mg base C8.CX0 1 (He.ga K "whole_round") fd ["one"] (spF (mkW SS Cn K T0 none) 1 F_whole_round) := by
  obtain ⟨fd, F⟩ := Z.d_whole_round
  exact ⟨fd, F, (fn_okW (k := 0) (N := ["one", "events"]) (ps := ["one"]) F (by decide +kernel) rfl rfl fun cdv A outer s H E hr hC => (ss_cons (s_set (i := 1) rfl (.inl rfl) (e_lst (a_cons (e_tup (a_cons (e_str rfl) a_nil)) a_nil))) (ss_cons (s_if (t_cmp s_notN (e_fld (Z.cf_message _) (e_V rfl (.inl rfl) rfl rfl)) e_non) (ss_one (s_exp (e_append (e_V rfl (.inl rfl) rfl rfl) (e_tup (a_cons (e_str rfl) (a_cons (e_str rfl) a_nil)))))) ss_nil) (ss_cons (s_exp (e_append (e_V rfl (.inl rfl) rfl rfl) (e_tup (a_cons (e_str rfl) a_nil)))) (ss_one (s_ret (e_bin s_add (e_V rfl (.inl rfl) rfl rfl) (e_bin s_mul (e_lst (a_cons (e_tup (a_cons (e_str rfl) (a_cons (e_str rfl) a_nil))) a_nil)) (e_intF rfl Z.b_int (e_cmp s_notN (e_fld (Z.cf_answer _) (e_V rfl (.inl rfl) rfl rfl)) e_non))))))))))⟩
theorem ok_whole_round (Z : Fx K mg base T0) : Def P w K mg base (mkW SS Cn K T0 none) 1 "whole_round" 1 F_whole_round := by
  obtain ⟨fd, F, hF⟩ := fn_whole_round (P := P) (w := w) Z
  exact ⟨⟨_, fd, ["one"], Z.g_whole_round, F.kp, (F.bindsN (ps := ["one"]) fun _ _ _ _ _ _ us hl => match us, hl with | [_], _ => rfl), hF⟩, rfl⟩
theorem fn_up_to_send (Z : Fx K mg base T0) : ∃ fd, FunD K "up_to_send" "up_to_send" (defArgs (top 59)) (defBody (top 59)) (defScope (top 59)) [] [] (He.ga K "up_to_send") fd ∧ FnOk P w K mg base C8.CX0 2 (He.ga K "up_to_send") fd ["rounds"] (spF (mkW SS Cn K T0 none) 1 F_up_to_send) := by
  obtain ⟨fd, F⟩ := Z.d_up_to_send
  exact ⟨fd, F, (fn_okW (k := 1) (N := ["rounds", "events", "one"]) (ps := ["rounds"]) F (by decide +kernel) rfl rfl fun cdv A outer s H E hr hC => (ss_cons (s_set (i := 1) rfl (.inl rfl) (e_lst (a_cons (e_glob (Z.gv_HAND _) rfl rfl) a_nil))) (ss_cons (s_for (i_E (e_sl (e_V rfl (.inl rfl) rfl rfl) o_none (o_some (e_neg e_int)))) (g_V (i := 2) rfl (.inl rfl)) (ss_one (s_exp (e_extend (e_V rfl (.inl rfl) rfl rfl) (e_call (ok_whole_round Z) (hr.mono (by decide)) rfl (a_cons (e_V rfl (.inl rfl) rfl rfl) a_nil) (ar_cons ar_nil)))))) (ss_one (s_ret (e_bin s_add (e_V rfl (.inl rfl) rfl rfl) (e_lst (a_cons (e_tup (a_cons (e_str rfl) a_nil)) a_nil))))))))⟩
theorem ok_up_to_send (Z : Fx K mg base T0) : Def P w K mg base (mkW SS Cn K T0 none) 2 "up_to_send" 1 F_up_to_send := by
  obtain ⟨fd, F, hF⟩ := fn_up_to_send (P := P) (w := w) Z
  exact ⟨⟨_, fd, ["rounds"], Z.g_up_to_send, F.kp, (F.bindsN (ps := ["rounds"]) fun _ _ _ _ _ _ us hl => match us, hl with | [_], _ => rfl), hF⟩, rfl⟩
theorem fn_delivers_again (Z : Fx K mg base T0) : ∃ fd, FunD K "delivers_again" "delivers_again" (defArgs (top 60)) (defBody (top 60)) (defScope (top 60)) [] [] (He.ga K "delivers_again") fd ∧ FnOk P w K mg base C8.CX0 4 (He.ga K "delivers_again") fd ["pair", "rounds", "receiver"] (spF (mkW SS Cn K T0 none) 3 F_delivers_again) := by
  obtain ⟨fd, F⟩ := Z.d_delivers_again
  exact ⟨fd, F, (fn_okW (k := 3) (N := ["pair", "rounds", "receiver"]) (ps := ["pair", "rounds", "receiver"]) F (by decide +kernel) rfl rfl fun cdv A outer s H E hr hC => (ss_one (s_ret (e_cmp (s_ne (u64 hr)) (e_idx (e_call (ok_rest_of Z) (hr.mono (by decide)) rfl (a_cons (e_V rfl (.inl rfl) rfl rfl) (a_cons (e_tup (a_cons (e_fld (Z.cf_sender _) (e_idx (e_V rfl (.inl rfl) rfl rfl) (e_neg e_int) (fun _ _ => rfl))) (a_cons (e_V rfl (.inl rfl) rfl rfl) (a_cons (e_tup a_nil) (a_cons (e_tup a_nil) a_nil))))) a_nil)) (ar_cons (ar_cons ar_nil))) e_int (fun _ _ => rfl)) (e_lst a_nil)))))⟩
theorem ok_delivers_again (Z : Fx K mg base T0) : Def P w K mg base (mkW SS Cn K T0 none) 4 "delivers_again" 3 F_delivers_again := by
  obtain ⟨fd, F, hF⟩ := fn_delivers_again (P := P) (w := w) Z
  exact ⟨⟨_, fd, ["pair", "rounds", "receiver"], Z.g_delivers_again, F.kp, (F.bindsN (ps := ["pair", "rounds", "receiver"]) fun _ _ _ _ _ _ us hl => match us, hl with | [_, _, _], _ => rfl), hF⟩, rfl⟩
theorem fn_writes_of (Z : Fx K mg base T0) : ∃ fd, FunD K "writes_of" "writes_of" (defArgs (top 61)) (defBody (top 61)) (defScope (top 61)) [] [] (He.ga K "writes_of") fd ∧ FnOk P w K mg base C8.CX0 1 (He.ga K "writes_of") fd ["pair", "rounds", "start", "is_again"] (spF (mkW SS Cn K T0 none) 4 F_writes_of) := by
  obtain ⟨fd, F⟩ := Z.d_writes_of
  exact ⟨fd, F, (fn_okW (k := 0) (N := ["pair", "rounds", "start", "is_again", "sender", "receiver", "last", "found", "number", "one"]) (ps := ["pair", "rounds", "start", "is_again"]) F (by decide +kernel) rfl rfl fun cdv A outer s H E hr hC => (ss_cons (s_asg (e_V rfl (.inl rfl) rfl rfl) (g_T (is := [4, 5]) (gs_cons (i := 4) rfl (.inl rfl) (gs_cons (i := 5) rfl (.inl rfl) gs_nil)))) (ss_cons (s_if (t_B (fun _ => rfl) (e_V rfl (.inl rfl) rfl rfl)) (ss_cons (s_set (i := 6) rfl (.inl rfl) (e_idx (e_V rfl (.inl rfl) rfl rfl) (e_neg e_int) (fun _ _ => rfl))) (ss_one (s_ret (e_bin s_mul (e_lst (a_cons (e_tup (a_cons (e_str rfl) (a_cons (e_len rfl Z.b_len (e_V rfl (.inl rfl) rfl rfl)) a_nil))) a_nil)) (e_intF rfl Z.b_int (e_cmp (s_ne (u64 hr)) (e_idx (e_fld (Z.cf_crashes _) (e_fld (Z.cf_receiver _) (e_V rfl (.inl rfl) rfl rfl))) (e_fld (Z.cf_heard _) (e_V rfl (.inl rfl) rfl rfl)) (fun _ _ => rfl)) (e_V rfl (.inl rfl) rfl rfl))))))) ss_nil) (ss_cons (s_set (i := 7) rfl (.inl rfl) (e_lst a_nil)) (ss_cons (s_for (i_enum rfl Z.b_enumerate (e_sl (e_V rfl (.inl rfl) rfl rfl) o_none (o_some (e_neg e_int)))) (g_T (is := [8, 9]) (gs_cons (i := 8) rfl (.inl rfl) (gs_cons (i := 9) rfl (.inl rfl) gs_nil))) (ss_cons (s_if (t_cmp (s_ne (u64 hr)) (e_idx (e_fld (Z.cf_crashes _) (e_fld (Z.cf_sender _) (e_V rfl (.inl rfl) rfl rfl))) (e_fld (Z.cf_sender _) (e_V rfl (.inl rfl) rfl rfl)) (fun _ _ => rfl)) (e_V rfl (.inl rfl) rfl rfl)) (ss_one (s_exp (e_append (e_V rfl (.inl rfl) rfl rfl) (e_tup (a_cons (e_str rfl) (a_cons (e_bin s_add (e_V rfl (.inl rfl) rfl rfl) e_int) a_nil)))))) ss_nil) (ss_one (s_if (t_cmp (s_ne (u64 hr)) (e_idx (e_fld (Z.cf_crashes _) (e_fld (Z.cf_receiver _) (e_V rfl (.inl rfl) rfl rfl))) (e_fld (Z.cf_receiver _) (e_V rfl (.inl rfl) rfl rfl)) (fun _ _ => rfl)) (e_V rfl (.inl rfl) rfl rfl)) (ss_one (s_exp (e_append (e_V rfl (.inl rfl) rfl rfl) (e_tup (a_cons (e_str rfl) (a_cons (e_bin s_add (e_V rfl (.inl rfl) rfl rfl) e_int) a_nil)))))) ss_nil)))) (ss_one (s_ret (e_V rfl (.inl rfl) rfl rfl))))))))⟩
theorem ok_writes_of (Z : Fx K mg base T0) : Def P w K mg base (mkW SS Cn K T0 none) 1 "writes_of" 4 F_writes_of := by
  obtain ⟨fd, F, hF⟩ := fn_writes_of (P := P) (w := w) Z
  exact ⟨⟨_, fd, ["pair", "rounds", "start", "is_again"], Z.g_writes_of, F.kp, (F.bindsN (ps := ["pair", "rounds", "start", "is_again"]) fun _ _ _ _ _ _ us hl => match us, hl with | [_, _, _, _], _ => rfl), hF⟩, rfl⟩
theorem fn_is_settled (Z : Fx K mg base T0) : ∃ fd, FunD K "is_settled" "is_settled" (defArgs (top 62)) (defBody (top 62)) (defScope (top 62)) [] [] (He.ga K "is_settled") fd ∧ FnOk P w K mg base C8.CX0 2 (He.ga K "is_settled") fd ["pair", "events", "state", "found"] (spF (mkW SS Cn K T0 none) 4 F_is_settled) := by
  obtain ⟨fd, F⟩ := Z.d_is_settled
  exact ⟨fd, F, (fn_okW (k := 1) (N := ["pair", "events", "state", "found", "handed", "event", "place", "value"]) (ps := ["pair", "events", "state", "found"]) F (by decide +kernel) rfl rfl fun cdv A outer s H E hr hC => (ss_cons (s_setLc (own := [("event", 5)]) rfl (i := 4) rfl rfl (L2.sw_true rfl rfl rfl rfl) (i_E (e_V rfl (.inl rfl) rfl rfl)) rfl (fun _ _ _ _ _ => (g_V (i := 5) rfl (.inl rfl))) (fun _ _ _ _ _ => (ts_one (t_cmp (s_eq (u64 hr)) (e_idx (e_V rfl (.inl rfl) rfl rfl) e_int (fun _ _ => rfl)) (e_str rfl)))) (fun _ _ _ _ _ => (e_idx (e_V rfl (.inl rfl) rfl rfl) e_int (fun _ _ => rfl))) (by decide)) (ss_one (s_ret (e_and (e_cmp (s_eq (u64 hr)) (e_comp (own := [("place", 6), ("value", 7)]) rfl (i_E (e_V rfl (.inl rfl) rfl rfl)) rfl (fun _ _ _ _ _ => (g_T (is := [6, 7]) (gs_cons (i := 6) rfl (.inl rfl) (gs_cons (i := 7) rfl (.inl rfl) gs_nil)))) (fun _ _ _ _ _ => ts_nil) (fun _ _ _ _ _ => (e_V rfl (.inl rfl) rfl rfl)) (by decide)) (e_V rfl (.inl rfl) rfl rfl)) (e_and (e_cmp (s_eq (u64 hr)) (e_sl (e_V rfl (.inl rfl) rfl rfl) (o_some e_int) o_none) (e_tup (a_cons (e_tup a_nil) (a_cons (e_tup a_nil) a_nil)))) (e_one (e_call (ok_is_free Z) (hr.mono (by decide)) rfl (a_cons (e_V rfl (.inl rfl) rfl rfl) (a_cons (e_V rfl (.inl rfl) rfl rfl) a_nil)) (ar_cons (ar_cons ar_nil))))))))))⟩
theorem ok_is_settled (Z : Fx K mg base T0) : Def P w K mg base (mkW SS Cn K T0 none) 2 "is_settled" 4 F_is_settled := by
  obtain ⟨fd, F, hF⟩ := fn_is_settled (P := P) (w := w) Z
  exact ⟨⟨_, fd, ["pair", "events", "state", "found"], Z.g_is_settled, F.kp, (F.bindsN (ps := ["pair", "events", "state", "found"]) fun _ _ _ _ _ _ us hl => match us, hl with | [_, _, _, _], _ => rfl), hF⟩, rfl⟩
theorem fn_breaking (Z : Fx K mg base T0) : ∃ fd, FunD K "breaking" "breaking" (defArgs (top 63)) (defBody (top 63)) (defScope (top 63)) [] [] (He.ga K "breaking") fd ∧ FnOk P w K mg base C8.CX0 6 (He.ga K "breaking") fd ["pair", "settled"] (spF (mkW SS Cn K T0 none) 2 F_breaking) := by
  obtain ⟨fd, F⟩ := Z.d_breaking
  exact ⟨fd, F, (fn_okW (k := 5) (N := ["pair", "settled", "events", "state", "found", "rounds", "is_again", "writes", "many"]) (ps := ["pair", "settled"]) F (by decide +kernel) rfl rfl fun cdv A outer s H E hr hC => (ss_cons (s_exp (e_call (ok_require_pair Z) (hr.mono (by decide)) rfl (a_cons (e_V rfl (.inl rfl) rfl rfl) a_nil) (ar_cons ar_nil))) (ss_cons (s_asg (e_call (ok_checked_trail Z) (hr.mono (by decide)) rfl (a_cons (e_V rfl (.inl rfl) rfl rfl) (a_cons (e_V rfl (.inl rfl) rfl rfl) a_nil)) (ar_cons (ar_cons ar_nil))) (g_T (is := [2, 3, 4]) (gs_cons (i := 2) rfl (.inl rfl) (gs_cons (i := 3) rfl (.inl rfl) (gs_cons (i := 4) rfl (.inl rfl) gs_nil))))) (ss_cons (s_if (t_not (t_B (fun _ => rfl) (e_call (ok_is_settled Z) (hr.mono (by decide)) rfl (a_cons (e_V rfl (.inl rfl) rfl rfl) (a_cons (e_V rfl (.inl rfl) rfl rfl) (a_cons (e_V rfl (.inl rfl) rfl rfl) (a_cons (e_V rfl (.inl rfl) rfl rfl) a_nil)))) (ar_cons (ar_cons (ar_cons (ar_cons ar_nil))))))) (ss_one s_raise) ss_nil) (ss_cons (s_if (t_not (t_B (fun _ => rfl) (e_call (ok_is_good Z) (hr.mono (by decide)) rfl (a_cons (e_V rfl (.inl rfl) rfl rfl) (a_cons (e_bin s_add (e_V rfl (.inl rfl) rfl rfl) (e_lst (a_cons (e_glob (Z.gv_HAND _) rfl rfl) a_nil))) (a_cons (e_glob (Z.gv_BOTH _) rfl rfl) a_nil))) (ar_cons (ar_cons (ar_cons ar_nil)))))) (ss_one (s_ret (e_tup (a_cons (e_str rfl) (a_cons (e_bin s_add (e_V rfl (.inl rfl) rfl rfl) (e_lst (a_cons (e_glob (Z.gv_HAND _) rfl rfl) a_nil))) a_nil))))) ss_nil) (ss_cons (s_set (i := 5) rfl (.inl rfl) (e_call (ok_rounds_of Z) (hr.mono (by decide)) rfl (a_cons (e_V rfl (.inl rfl) rfl rfl) (a_cons (e_V rfl (.inl rfl) rfl rfl) (a_cons e_non a_nil))) (ar_cons (ar_cons (ar_cons ar_nil))))) (ss_cons (s_set (i := 6) rfl (.inl rfl) (e_call (ok_delivers_again Z) (hr.mono (by decide)) rfl (a_cons (e_V rfl (.inl rfl) rfl rfl) (a_cons (e_V rfl (.inl rfl) rfl rfl) (a_cons (e_idx (e_V rfl (.inl rfl) rfl rfl) e_int (fun _ _ => rfl)) a_nil))) (ar_cons (ar_cons (ar_cons ar_nil))))) (ss_cons (s_set (i := 7) rfl (.inl rfl) (e_call (ok_writes_of Z) (hr.mono (by decide)) rfl (a_cons (e_V rfl (.inl rfl) rfl rfl) (a_cons (e_V rfl (.inl rfl) rfl rfl) (a_cons (e_sl (e_V rfl (.inl rfl) rfl rfl) o_none (o_some e_int)) (a_cons (e_V rfl (.inl rfl) rfl rfl) a_nil)))) (ar_cons (ar_cons (ar_cons (ar_cons ar_nil)))))) (ss_cons (s_if (t_cmp (s_ne (u64 hr)) (e_V rfl (.inl rfl) rfl rfl) (e_lst a_nil)) (ss_one (s_ret (e_tup (a_cons (e_str rfl) (a_cons (e_V rfl (.inl rfl) rfl rfl) a_nil))))) ss_nil) (ss_cons (s_if (t_B (fun _ => rfl) (e_V rfl (.inl rfl) rfl rfl)) (ss_one (s_ret (e_tup (a_cons (e_str rfl) (a_cons (e_bin s_add (e_bin s_add (e_V rfl (.inl rfl) rfl rfl) (e_call (ok_up_to_send Z) (hr.mono (by decide)) rfl (a_cons (e_V rfl (.inl rfl) rfl rfl) a_nil) (ar_cons ar_nil))) (e_lst (a_cons (e_tup (a_cons (e_str rfl) (a_cons (e_str rfl) a_nil))) (a_cons (e_tup (a_cons (e_str rfl) (a_cons (e_str rfl) a_nil))) a_nil)))) a_nil))))) ss_nil) (ss_cons (s_set (i := 8) rfl (.inl rfl) (e_len rfl Z.b_len (e_V rfl (.inl rfl) rfl rfl))) (ss_one (s_ret (e_tup (a_cons (e_str rfl) (a_cons (e_bin s_add (e_bin s_add (e_V rfl (.inl rfl) rfl rfl) (e_call (ok_recorded_by Z) (hr.mono (by decide)) rfl (a_cons (e_V rfl (.inl rfl) rfl rfl) (a_cons (e_bin s_sub (e_V rfl (.inl rfl) rfl rfl) e_int) (a_cons e_bool a_nil))) (ar_cons (ar_cons (ar_cons ar_nil))))) (e_call (ok_sends_by Z) (hr.mono (by decide)) rfl (a_cons (e_V rfl (.inl rfl) rfl rfl) (a_cons (e_V rfl (.inl rfl) rfl rfl) (a_cons e_bool a_nil))) (ar_cons (ar_cons (ar_cons ar_nil))))) a_nil))))))))))))))))⟩
theorem ok_breaking (Z : Fx K mg base T0) : Def P w K mg base (mkW SS Cn K T0 none) 6 "breaking" 2 F_breaking := by
  obtain ⟨fd, F, hF⟩ := fn_breaking (P := P) (w := w) Z
  exact ⟨⟨_, fd, ["pair", "settled"], Z.g_breaking, F.kp, (F.bindsN (ps := ["pair", "settled"]) fun _ _ _ _ _ _ us hl => match us, hl with | [_, _], _ => rfl), hF⟩, rfl⟩
theorem fn__law_told_right (Z : Fx K mg base T0) : ∃ fd, FunD K "_law_told_right" "_law_told_right" (defArgs (top 75)) (defBody (top 75)) (defScope (top 75)) [] [] (He.ga K "_law_told_right") fd ∧ FnOk P w K mg base C8.CX0 7 (He.ga K "_law_told_right") fd ["made", "begun", "due"] (spF (mkW SS Cn K T0 none) 3 F__law_told_right) := by
  obtain ⟨fd, F⟩ := Z.d__law_told_right
  exact ⟨fd, F, (fn_okW (k := 6) (N := ["made", "begun", "due", "told"]) (ps := ["made", "begun", "due"]) F (by decide +kernel) rfl rfl fun cdv A outer s H E hr hC => (ss_cons (s_set (i := 3) rfl (.inl rfl) (e_call (ok_breaking Z) (hr.mono (by decide)) rfl (a_cons (e_V rfl (.inl rfl) rfl rfl) (a_cons (e_lstF rfl Z.b_list (e_V rfl (.inl rfl) rfl rfl)) a_nil)) (ar_cons (ar_cons ar_nil)))) (ss_cons (s_if (t_cmp s_notN (e_V rfl (.inl rfl) rfl rfl) e_non) (ss_one (s_ret (e_cmp (s_eq (u64 hr)) (e_V rfl (.inl rfl) rfl rfl) (e_tup (a_cons (e_str rfl) (a_cons (e_V rfl (.inl rfl) rfl rfl) a_nil)))))) ss_nil) (ss_one (s_ret (e_and (e_cmp (s_eq (u64 hr)) (e_idx (e_V rfl (.inl rfl) rfl rfl) e_int (fun _ _ => rfl)) (e_str rfl)) (e_and (e_cmp (s_eq (u64 hr)) (e_sl (e_idx (e_V rfl (.inl rfl) rfl rfl) e_int (fun _ _ => rfl)) o_none (o_some (e_len rfl Z.b_len (e_V rfl (.inl rfl) rfl rfl)))) (e_V rfl (.inl rfl) rfl rfl)) (e_one (e_cmp (s_ne (u64 hr)) (e_callU (defU_verdict Z) (hr.mono (by decide)) rfl (a_cons (e_V rfl (.inl rfl) rfl rfl) (a_cons (e_idx (e_V rfl (.inl rfl) rfl rfl) e_int (fun _ _ => rfl)) a_nil)) (ar_cons (ar_cons ar_nil)) rfl) (e_str rfl))))))))))⟩
theorem ok__law_told_right (Z : Fx K mg base T0) : Def P w K mg base (mkW SS Cn K T0 none) 7 "_law_told_right" 3 F__law_told_right := by
  obtain ⟨fd, F, hF⟩ := fn__law_told_right (P := P) (w := w) Z
  exact ⟨⟨_, fd, ["made", "begun", "due"], Z.g__law_told_right, F.kp, (F.bindsN (ps := ["made", "begun", "due"]) fun _ _ _ _ _ _ us hl => match us, hl with | [_, _, _], _ => rfl), hF⟩, rfl⟩
theorem fn__law_grown_right (Z : Fx K mg base T0) : ∃ fd, FunD K "_law_grown_right" "_law_grown_right" (defArgs (top 76)) (defBody (top 76)) (defScope (top 76)) [] [] (He.ga K "_law_grown_right") fd ∧ FnOk P w K mg base C8.CX0 11 (He.ga K "_law_grown_right") fd [] (spF (mkW SS Cn K T0 none) 0 F__law_grown_right) := by
  obtain ⟨fd, F⟩ := Z.d__law_grown_right
  exact ⟨fd, F, (fn_okW (k := 10) (N := ["two", "begun", "told", "lap"]) (ps := []) F (by decide +kernel) rfl rfl fun cdv A outer s H E hr hC => (ss_cons (s_par3 (i := 0) (j := 1) (l := 2) rfl rfl rfl (by decide) (by decide) (by decide) rfl rfl rfl (a_cons (e_idx (e_idx (e_call0 (ok__law_rows Z) (hr.mono (by decide)) rfl) e_int (fun _ _ => rfl)) e_int (fun _ _ => rfl)) (a_cons (e_lst a_nil) (a_cons (e_lst a_nil) a_nil))) rfl) (ss_cons (s_for (i_R rfl Z.b_range e_int) (g_V (i := 3) rfl (.inl rfl)) (ss_cons (s_exp (e_append (e_V rfl (.inl rfl) rfl rfl) (e_idx (e_call (ok_breaking Z) (hr.mono (by decide)) rfl (a_cons (e_V rfl (.inl rfl) rfl rfl) (a_cons (e_V rfl (.inl rfl) rfl rfl) a_nil)) (ar_cons (ar_cons ar_nil))) e_int (fun _ _ => rfl)))) (ss_one (s_if (t_cmp (s_eq (u64 hr)) (e_V rfl (.inl rfl) rfl rfl) (e_lst a_nil)) (ss_one (s_exp (e_extend (e_V rfl (.inl rfl) rfl rfl) (e_call (ok__law_laps Z) (hr.mono (by decide)) rfl (a_cons e_int (a_cons e_bool a_nil)) (ar_cons (ar_cons ar_nil)))))) (ss_one (s_exp (e_clear (e_V rfl (.inl rfl) rfl rfl)))))))) (ss_one (s_ret (e_cmp (s_eq (u64 hr)) (e_V rfl (.inl rfl) rfl rfl) (e_lst (a_cons (e_str rfl) (a_cons (e_str rfl) (a_cons (e_str rfl) (a_cons (e_str rfl) a_nil)))))))))))⟩
theorem ok__law_grown_right (Z : Fx K mg base T0) : Def P w K mg base (mkW SS Cn K T0 none) 11 "_law_grown_right" 0 F__law_grown_right := by
  obtain ⟨fd, F, hF⟩ := fn__law_grown_right (P := P) (w := w) Z
  exact ⟨⟨_, fd, [], Z.g__law_grown_right, F.kp, (F.bindsN (ps := []) fun _ _ _ _ _ _ us hl => match us, hl with | [], _ => rfl), hF⟩, rfl⟩
theorem fn_law (Z : Fx K mg base T0) : ∃ fd, FunD K "law" "law" (defArgs (top 77)) (defBody (top 77)) (defScope (top 77)) [] [] (He.ga K "law") fd ∧ FnOk P w K mg base C8.CX0 12 (He.ga K "law") fd ["script"] (spF (mkW SS Cn K T0 none) 1 F_law) := by
  obtain ⟨fd, F⟩ := Z.d_law
  exact ⟨fd, F, (fn_okW (k := 11) (N := ["script", "at", "purse", "rows", "lap", "made", "begun", "due", "row"]) (ps := ["script"]) F (by decide +kernel) rfl rfl fun cdv A outer s H E hr hC => (ss_cons (s_for (i_R rfl Z.b_range (e_bin s_add e_int (e_min2 rfl Z.b_min e_int (e_len rfl Z.b_len (e_V rfl (.inl rfl) rfl rfl))))) (g_V (i := 1) rfl (.inl rfl)) (ss_cons (s_par (i := 2) (j := 3) rfl rfl (by decide) rfl rfl (a_cons (e_call (ok__law_purse Z) (hr.mono (by decide)) rfl (a_cons (e_V rfl (.inl rfl) rfl rfl) (a_cons (e_V rfl (.inl rfl) rfl rfl) a_nil)) (ar_cons (ar_cons ar_nil))) (a_cons (e_call0 (ok__law_rows Z) (hr.mono (by decide)) rfl) a_nil)) rfl) (ss_one (s_for (i_R rfl Z.b_range e_int) (g_V (i := 4) rfl (.inl rfl)) (ss_cons (s_asg (e_idx (e_V rfl (.inl rfl) rfl rfl) (e_call (ok__law_draw Z) (hr.mono (by decide)) rfl (a_cons (e_V rfl (.inl rfl) rfl rfl) (a_cons (e_len rfl Z.b_len (e_V rfl (.inl rfl) rfl rfl)) a_nil)) (ar_cons (ar_cons ar_nil))) (fun _ _ => rfl)) (g_T (is := [5, 6, 7]) (gs_cons (i := 5) rfl (.inl rfl) (gs_cons (i := 6) rfl (.inl rfl) (gs_cons (i := 7) rfl (.inl rfl) gs_nil))))) (ss_one (s_if (t_not (t_B (fun _ => rfl) (e_call (ok__law_told_right Z) (hr.mono (by decide)) rfl (a_cons (e_V rfl (.inl rfl) rfl rfl) (a_cons (e_V rfl (.inl rfl) rfl rfl) (a_cons (e_V rfl (.inl rfl) rfl rfl) a_nil))) (ar_cons (ar_cons (ar_cons ar_nil)))))) (ss_one (s_ret e_bool)) ss_nil))))))) (ss_cons (s_if (t_cmp (s_ne (u64 hr)) (e_comp (own := [("row", 8)]) rfl (i_E (e_call0 (ok__law_rows Z) (hr.mono (by decide)) rfl)) rfl (fun _ _ _ _ _ => (g_V (i := 8) rfl (.inl rfl))) (fun _ _ _ _ _ => (ts_one (t_not (t_B (fun _ => rfl) (e_call (ok__law_told_right Z) (hr.mono (by decide)) rfl (a_cons (e_idx (e_V rfl (.inl rfl) rfl rfl) e_int (fun _ _ => rfl)) (a_cons (e_idx (e_V rfl (.inl rfl) rfl rfl) e_int (fun _ _ => rfl)) (a_cons (e_idx (e_V rfl (.inl rfl) rfl rfl) e_int (fun _ _ => rfl)) a_nil))) (ar_cons (ar_cons (ar_cons ar_nil)))))))) (fun _ _ _ _ _ => (e_V rfl (.inl rfl) rfl rfl)) (by decide)) (e_lst a_nil)) (ss_one (s_ret e_bool)) ss_nil) (ss_one (s_ret (e_call0 (ok__law_grown_right Z) (hr.mono (by decide)) rfl))))))⟩
theorem ok_law (Z : Fx K mg base T0) : Def P w K mg base (mkW SS Cn K T0 none) 12 "law" 1 F_law := by
  obtain ⟨fd, F, hF⟩ := fn_law (P := P) (w := w) Z
  exact ⟨⟨_, fd, ["script"], Z.g_law, F.kp, (F.bindsN (ps := ["script"]) fun _ _ _ _ _ _ us hl => match us, hl with | [_], _ => rfl), hF⟩, rfl⟩
end
end L_k36
end
section
set_option Elab.async false
set_option linter.all false
set_option maxRecDepth 100000
set_option maxHeartbeats 0
/-! the head of law k36, printed by head.py -/
namespace L_k36
open PySem PySem.Spec PyProof.Rows L2 VI
def as0 : List Nat := [3, 0, 191, 196, 203, 210, 217, 224, 231, 238, 243, 274, 309, 337, 348, 351, 352, 353, 360, 367, 374, 381, 388, 395, 402, 409, 416, 423, 430, 431]
def as1 : List Nat := [436, 443, 450, 457, 462, 469, 474, 482, 483, 500, 511, 518, 525, 532, 539, 546, 553, 560, 567, 572, 579, 586, 593, 600, 607, 614, 621, 628, 635, 642]
def as2 : List Nat := [649, 656, 663, 668, 190, 195, 202, 209, 216, 223, 230, 237, 242, 273, 308, 336, 347, 349, 350, 359, 366, 373, 380, 387, 394, 401, 408, 415, 422, 429]
def as3 : List Nat := [435, 442, 449, 456, 461, 468, 473, 481, 475, 499, 510, 517, 524, 531, 538, 545, 552, 559, 566, 571, 578, 585, 592, 599, 606, 613, 620, 627, 634, 641]
def as4 : List Nat := [648, 655, 662, 667, 257, 264, 271, 292, 299, 306, 327, 334, 497, 256, 263, 270, 291, 298, 305, 326, 333, 496]
def as : List Nat := as0 ++ as1 ++ as2 ++ as3 ++ as4
def d0 : He.DefD := ⟨("_law_purse", none), "_law_purse", "_law_purse", defArgs (top 66), defBody (top 66), defScope (top 66), [], []⟩
def d1 : He.DefD := ⟨("_law_mixed", none), "_law_mixed", "_law_mixed", defArgs (top 65), defBody (top 65), defScope (top 65), [], []⟩
def d2 : He.DefD := ⟨("_law_draw", none), "_law_draw", "_law_draw", defArgs (top 67), defBody (top 67), defScope (top 67), [], []⟩
def d3 : He.DefD := ⟨("Sender", some "tables"), "tables", "Sender.tables", defArgs (inClass (top 21) 1), defBody (inClass (top 21) 1), defScope (inClass (top 21) 1), [], []⟩
def d4 : He.DefD := ⟨("Receiver", some "tables"), "tables", "Receiver.tables", defArgs (inClass (top 22) 1), defBody (inClass (top 22) 1), defScope (inClass (top 22) 1), [], []⟩
def d5 : He.DefD := ⟨("Pair", some "__init__"), "__init__", "Pair.__init__", defArgs (inClass (top 23) 0), defBody (inClass (top 23) 0), defScope (inClass (top 23) 0), [], []⟩
def d6 : He.DefD := ⟨("require_positive", none), "require_positive", "require_positive", defArgs (top 14), defBody (top 14), defScope (top 14), [], []⟩
def d7 : He.DefD := ⟨("is_below", none), "is_below", "is_below", defArgs (top 12), defBody (top 12), defScope (top 12), [], []⟩
def d8 : He.DefD := ⟨("is_row", none), "is_row", "is_row", defArgs (top 13), defBody (top 13), defScope (top 13), [], []⟩
def d9 : He.DefD := ⟨("is_given", none), "is_given", "is_given", defArgs (top 20), defBody (top 20), defScope (top 20), [], []⟩
def d10 : He.DefD := ⟨("checked", none), "checked", "checked", defArgs (top 15), defBody (top 15), defScope (top 15), [], []⟩
def d11 : He.DefD := ⟨("checked_sends", none), "checked_sends", "checked_sends", defArgs (top 16), defBody (top 16), defScope (top 16), [], []⟩
def d12 : He.DefD := ⟨("checked_states", none), "checked_states", "checked_states", defArgs (top 17), defBody (top 17), defScope (top 17), [], []⟩
def d13 : He.DefD := ⟨("checked_hears", none), "checked_hears", "checked_hears", defArgs (top 18), defBody (top 18), defScope (top 18), [], []⟩
def d14 : He.DefD := ⟨("checked_takes", none), "checked_takes", "checked_takes", defArgs (top 19), defBody (top 19), defScope (top 19), [], []⟩
def d15 : He.DefD := ⟨("Sender", some "__init__"), "__init__", "Sender.__init__", defArgs (inClass (top 21) 0), defBody (inClass (top 21) 0), defScope (inClass (top 21) 0), [], []⟩
def d16 : He.DefD := ⟨("_law_sender", none), "_law_sender", "_law_sender", defArgs (top 68), defBody (top 68), defScope (top 68), [], []⟩
def d17 : He.DefD := ⟨("Receiver", some "__init__"), "__init__", "Receiver.__init__", defArgs (inClass (top 22) 0), defBody (inClass (top 22) 0), defScope (inClass (top 22) 0), [], []⟩
def d18 : He.DefD := ⟨("_law_receiver", none), "_law_receiver", "_law_receiver", defArgs (top 69), defBody (top 69), defScope (top 69), [], []⟩
def d19 : He.DefD := ⟨("_law_later", none), "_law_later", "_law_later", defArgs (top 70), defBody (top 70), defScope (top 70), [], []⟩
def d20 : He.DefD := ⟨("_law_quick", none), "_law_quick", "_law_quick", defArgs (top 71), defBody (top 71), defScope (top 71), [], []⟩
def d21 : He.DefD := ⟨("_law_third", none), "_law_third", "_law_third", defArgs (top 72), defBody (top 72), defScope (top 72), [], []⟩
def d22 : He.DefD := ⟨("_law_laps", none), "_law_laps", "_law_laps", defArgs (top 73), defBody (top 73), defScope (top 73), [], []⟩
def d23 : He.DefD := ⟨("_law_rows", none), "_law_rows", "_law_rows", defArgs (top 74), defBody (top 74), defScope (top 74), [], []⟩
def d24 : He.DefD := ⟨("require_pair", none), "require_pair", "require_pair", defArgs (top 24), defBody (top 24), defScope (top 24), [], []⟩
def d25 : He.DefD := ⟨("is_name", none), "is_name", "is_name", defArgs (top 29), defBody (top 29), defScope (top 29), [], []⟩
def d26 : He.DefD := ⟨("is_place", none), "is_place", "is_place", defArgs (top 30), defBody (top 30), defScope (top 30), [], []⟩
def d27 : He.DefD := ⟨("is_event", none), "is_event", "is_event", defArgs (top 31), defBody (top 31), defScope (top 31), [], []⟩
def d28 : He.DefD := ⟨("checked_events", none), "checked_events", "checked_events", defArgs (top 37), defBody (top 37), defScope (top 37), [], []⟩
def d29 : He.DefD := ⟨("is_possible", none), "is_possible", "is_possible", defArgs (top 32), defBody (top 32), defScope (top 32), [], []⟩
def d30 : He.DefD := ⟨("ticked", none), "ticked", "ticked", defArgs (top 33), defBody (top 33), defScope (top 33), [], []⟩
def d31 : He.DefD := ⟨("passed", none), "passed", "passed", defArgs (top 34), defBody (top 34), defScope (top 34), [], []⟩
def d32 : He.DefD := ⟨("without", none), "without", "without", defArgs (top 35), defBody (top 35), defScope (top 35), [], []⟩
def d33 : He.DefD := ⟨("stepped", none), "stepped", "stepped", defArgs (top 36), defBody (top 36), defScope (top 36), [], []⟩
def d34 : He.DefD := ⟨("trail", none), "trail", "trail", defArgs (top 38), defBody (top 38), defScope (top 38), [], []⟩
def d35 : He.DefD := ⟨("checked_trail", none), "checked_trail", "checked_trail", defArgs (top 39), defBody (top 39), defScope (top 39), [], []⟩
def d36 : He.DefD := ⟨("require_excusing", none), "require_excusing", "require_excusing", defArgs (top 42), defBody (top 42), defScope (top 42), [], []⟩
def d37 : He.DefD := ⟨("is_free", none), "is_free", "is_free", defArgs (top 43), defBody (top 43), defScope (top 43), [], []⟩
def d38 : He.DefD := ⟨("round_of", none), "round_of", "round_of", defArgs (top 44), defBody (top 44), defScope (top 44), [], []⟩
def d39 : He.DefD := ⟨("emptied", none), "emptied", "emptied", defArgs (top 45), defBody (top 45), defScope (top 45), [], []⟩
def d40 : He.DefD := ⟨("rest_of", none), "rest_of", "rest_of", defArgs (top 46), defBody (top 46), defScope (top 46), [], []⟩
def d41 : He.DefD := ⟨("can_give", none), "can_give", "can_give", defArgs (top 47), defBody (top 47), defScope (top 47), [], []⟩
def d42 : He.DefD := ⟨("judged", none), "judged", "judged", defArgs (top 48), defBody (top 48), defScope (top 48), [], []⟩
def d43 : He.DefD := ⟨("verdict", none), "verdict", "verdict", defArgs (top 49), defBody (top 49), defScope (top 49), [], [("excusing", He.Dv.glo "BOTH")]⟩
def d44 : He.DefD := ⟨("Round", some "__init__"), "__init__", "Round.__init__", defArgs (inClass (top 52) 0), defBody (inClass (top 52) 0), defScope (inClass (top 52) 0), [], []⟩
def d45 : He.DefD := ⟨("rounds_of", none), "rounds_of", "rounds_of", defArgs (top 53), defBody (top 53), defScope (top 53), [], []⟩
def d46 : He.DefD := ⟨("sends_by", none), "sends_by", "sends_by", defArgs (top 55), defBody (top 55), defScope (top 55), [], []⟩
def d47 : He.DefD := ⟨("answers_by", none), "answers_by", "answers_by", defArgs (top 56), defBody (top 56), defScope (top 56), [], []⟩
def d48 : He.DefD := ⟨("recorded_by", none), "recorded_by", "recorded_by", defArgs (top 57), defBody (top 57), defScope (top 57), [], []⟩
def d49 : He.DefD := ⟨("is_good", none), "is_good", "is_good", defArgs (top 58), defBody (top 58), defScope (top 58), [], []⟩
def d50 : He.DefD := ⟨("whole_round", none), "whole_round", "whole_round", defArgs (top 54), defBody (top 54), defScope (top 54), [], []⟩
def d51 : He.DefD := ⟨("up_to_send", none), "up_to_send", "up_to_send", defArgs (top 59), defBody (top 59), defScope (top 59), [], []⟩
def d52 : He.DefD := ⟨("delivers_again", none), "delivers_again", "delivers_again", defArgs (top 60), defBody (top 60), defScope (top 60), [], []⟩
def d53 : He.DefD := ⟨("writes_of", none), "writes_of", "writes_of", defArgs (top 61), defBody (top 61), defScope (top 61), [], []⟩
def d54 : He.DefD := ⟨("is_settled", none), "is_settled", "is_settled", defArgs (top 62), defBody (top 62), defScope (top 62), [], []⟩
def d55 : He.DefD := ⟨("breaking", none), "breaking", "breaking", defArgs (top 63), defBody (top 63), defScope (top 63), [], []⟩
def d56 : He.DefD := ⟨("_law_told_right", none), "_law_told_right", "_law_told_right", defArgs (top 75), defBody (top 75), defScope (top 75), [], []⟩
def d57 : He.DefD := ⟨("_law_grown_right", none), "_law_grown_right", "_law_grown_right", defArgs (top 76), defBody (top 76), defScope (top 76), [], []⟩
def d58 : He.DefD := ⟨("law", none), "law", "law", defArgs (top 77), defBody (top 77), defScope (top 77), [], []⟩
def fn0 : List He.DefD := [d0, d1, d2, d3, d4, d5, d6, d7, d8, d9, d10, d11, d12, d13, d14, d15, d16, d17, d18, d19]
def fn1 : List He.DefD := [d20, d21, d22, d23, d24, d25, d26, d27, d28, d29, d30, d31, d32, d33, d34, d35, d36, d37, d38, d39]
def fn2 : List He.DefD := [d40, d41, d42, d43, d44, d45, d46, d47, d48, d49, d50, d51, d52, d53, d54, d55, d56, d57, d58]
def fn : List He.DefD := fn0 ++ fn1 ++ fn2
def ls : List ((Str × Option Str) × Str) := [(("checked_sends", none), "checked_sends.<locals>.<lambda>"), (("checked_states", none), "checked_states.<locals>.<lambda>"), (("checked_hears", none), "checked_hears.<locals>.<lambda>"), (("checked_takes", none), "checked_takes.<locals>.<lambda>"), (("Receiver", some "__init__"), "Receiver.__init__.<locals>.<lambda>")]
def ck0 (K : PySem.W.Frag) : List Bool := [noListB K, apartB K ls, (He.Fa.free "all").ok K, (He.Fa.free "any").ok K, (He.Fa.free "bool").ok K, (He.Fa.free "enumerate").ok K, (He.Fa.free "int").ok K, (He.Fa.free "isinstance").ok K, (He.Fa.free "len").ok K, (He.Fa.free "list").ok K, (He.Fa.free "max").ok K, (He.Fa.free "min").ok K, (He.Fa.free "range").ok K, (He.Fa.free "set").ok K, (He.Fa.free "str").ok K, (He.Fa.free "tuple").ok K, (He.Fa.free "zip").ok K, (He.Fa.glo "_law_purse").ok K, (He.Fa.glo "_law_mixed").ok K, (He.Fa.glo "_law_draw").ok K]
def ck1 (K : PySem.W.Frag) : List Bool := [(He.Fa.glo "require_positive").ok K, (He.Fa.glo "is_below").ok K, (He.Fa.glo "is_row").ok K, (He.Fa.glo "is_given").ok K, (He.Fa.glo "checked").ok K, (He.Fa.glo "checked_sends").ok K, (He.Fa.glo "checked_states").ok K, (He.Fa.glo "checked_hears").ok K, (He.Fa.glo "checked_takes").ok K, (He.Fa.glo "_law_sender").ok K, (He.Fa.glo "_law_receiver").ok K, (He.Fa.glo "_law_later").ok K, (He.Fa.glo "_law_quick").ok K, (He.Fa.glo "_law_third").ok K, (He.Fa.glo "_law_laps").ok K, (He.Fa.glo "_law_rows").ok K, (He.Fa.glo "require_pair").ok K, (He.Fa.glo "is_name").ok K, (He.Fa.glo "is_place").ok K, (He.Fa.glo "is_event").ok K]
def ck2 (K : PySem.W.Frag) : List Bool := [(He.Fa.glo "checked_events").ok K, (He.Fa.glo "is_possible").ok K, (He.Fa.glo "ticked").ok K, (He.Fa.glo "passed").ok K, (He.Fa.glo "without").ok K, (He.Fa.glo "stepped").ok K, (He.Fa.glo "trail").ok K, (He.Fa.glo "checked_trail").ok K, (He.Fa.glo "require_excusing").ok K, (He.Fa.glo "is_free").ok K, (He.Fa.glo "round_of").ok K, (He.Fa.glo "emptied").ok K, (He.Fa.glo "rest_of").ok K, (He.Fa.glo "can_give").ok K, (He.Fa.glo "judged").ok K, (He.Fa.glo "verdict").ok K, (He.Fa.glo "rounds_of").ok K, (He.Fa.glo "sends_by").ok K, (He.Fa.glo "answers_by").ok K, (He.Fa.glo "recorded_by").ok K]
def ck3 (K : PySem.W.Frag) : List Bool := [(He.Fa.glo "is_good").ok K, (He.Fa.glo "whole_round").ok K, (He.Fa.glo "up_to_send").ok K, (He.Fa.glo "delivers_again").ok K, (He.Fa.glo "writes_of").ok K, (He.Fa.glo "is_settled").ok K, (He.Fa.glo "breaking").ok K, (He.Fa.glo "_law_told_right").ok K, (He.Fa.glo "_law_grown_right").ok K, (He.Fa.glo "law").ok K, (He.Fa.glo "BOTH").ok K, (He.Fa.glo "Pair").ok K, (He.Fa.glo "Receiver").ok K, (He.Fa.glo "Round").ok K, (He.Fa.glo "Sender").ok K, gvB K SS "BOTH" G_BOTH, gvB K SS "CHANNELS" G_CHANNELS, gvB K SS "HAND" G_HAND, gvB K SS "PROGRAMS" G_PROGRAMS, gvB K SS "START" G_START]
def ck4 (K : PySem.W.Frag) : List Bool := [cfB K Cn [14] "answer", cfB K Cn [0, 1] "backward", cfB K Cn [14] "behind", cfB K Cn [0, 1] "crashes", cfB K Cn [0, 1] "forward", cfB K Cn [1] "gives", cfB K Cn [14] "heard", cfB K Cn [0, 1] "hears", cfB K Cn [14] "message", cfB K Cn [2, 14] "receiver", cfB K Cn [2, 14] "sender", cfB K Cn [0, 1] "sends", cfB K Cn [0] "takes", cfB K Cn [0, 1] "ticks", cfB K Cn [14] "value", cfB K Cn [0, 1] "value_count", kfW (fun t => PySem.W.kitOne K t (.ref (He.ga K "Pair"))) K Cn [0, 1, 2] (.cls 2), kfW (fun t => PySem.W.kitOne K t (.ref (He.ga K "Receiver"))) K Cn [0, 1, 2] (.cls 1), kfW (fun t => PySem.W.kitOne K t (.ref (He.ga K "Sender"))) K Cn [0, 1, 2] (.cls 0), kfW (fun t => PySem.W.kitOne K t (.type "bool")) K Cn [0, 1, 2] .bool]
def ck5 (K : PySem.W.Frag) : List Bool := [kfW (fun t => PySem.W.kitOne K t (.type "int")) K Cn [0, 1, 2] .int, kfW (fun t => PySem.W.kitAny K t [.type "list", .type "tuple"]) K Cn [0, 1, 2] .lot, kfW (fun t => PySem.W.kitOne K t (.type "str")) K Cn [0, 1, 2] .str, kfW (fun t => PySem.W.kitOne K t (.type "tuple")) K Cn [0, 1, 2] .tuple, (He.Fa.mkr "Pair").ok K, (He.Fa.mkr "Receiver").ok K, (He.Fa.mkr "Round").ok K, (He.Fa.mkr "Sender").ok K, (He.Fa.cls "Receiver").ok K, (He.Fa.meth "Receiver" "tables").ok K, (He.Fa.cls "Sender").ok K, (He.Fa.meth "Sender" "tables").ok K]
def ck (K : PySem.W.Frag) : List Bool := ck0 K ++ ck1 K ++ ck2 K ++ ck3 K ++ ck4 K ++ ck5 K
theorem fx {K : PySem.W.Frag} {h base : Heap} {mg : Str → Option Value} (Y : SaysV ck fn (ls.map (·.1)) K h) (G : h.Ns mainGlobals mg) (TB : ∀ p ∈ ls.map (·.1), LamX.TabB base mg (codeA K p) (tabA K (codeA K p))) : Fx K mg base (tabsOf K ls) where
  b_all := He.free_ok Y.kin G (Y.at_ 2 rfl)
  b_any := He.free_ok Y.kin G (Y.at_ 3 rfl)
  b_bool := He.free_ok Y.kin G (Y.at_ 4 rfl)
  b_enumerate := He.free_ok Y.kin G (Y.at_ 5 rfl)
  b_int := He.free_ok Y.kin G (Y.at_ 6 rfl)
  b_isinstance := He.free_ok Y.kin G (Y.at_ 7 rfl)
  b_len := He.free_ok Y.kin G (Y.at_ 8 rfl)
  b_list := He.free_ok Y.kin G (Y.at_ 9 rfl)
  b_max := He.free_ok Y.kin G (Y.at_ 10 rfl)
  b_min := He.free_ok Y.kin G (Y.at_ 11 rfl)
  b_range := He.free_ok Y.kin G (Y.at_ 12 rfl)
  b_set := He.free_ok Y.kin G (Y.at_ 13 rfl)
  b_str := He.free_ok Y.kin G (Y.at_ 14 rfl)
  b_tuple := He.free_ok Y.kin G (Y.at_ 15 rfl)
  b_zip := He.free_ok Y.kin G (Y.at_ 16 rfl)
  g__law_purse := He.glo_ok Y.kin G (Y.at_ 17 rfl)
  g__law_mixed := He.glo_ok Y.kin G (Y.at_ 18 rfl)
  g__law_draw := He.glo_ok Y.kin G (Y.at_ 19 rfl)
  g_require_positive := He.glo_ok Y.kin G (Y.at_ 20 rfl)
  g_is_below := He.glo_ok Y.kin G (Y.at_ 21 rfl)
  g_is_row := He.glo_ok Y.kin G (Y.at_ 22 rfl)
  g_is_given := He.glo_ok Y.kin G (Y.at_ 23 rfl)
  g_checked := He.glo_ok Y.kin G (Y.at_ 24 rfl)
  g_checked_sends := He.glo_ok Y.kin G (Y.at_ 25 rfl)
  g_checked_states := He.glo_ok Y.kin G (Y.at_ 26 rfl)
  g_checked_hears := He.glo_ok Y.kin G (Y.at_ 27 rfl)
  g_checked_takes := He.glo_ok Y.kin G (Y.at_ 28 rfl)
  g__law_sender := He.glo_ok Y.kin G (Y.at_ 29 rfl)
  g__law_receiver := He.glo_ok Y.kin G (Y.at_ 30 rfl)
  g__law_later := He.glo_ok Y.kin G (Y.at_ 31 rfl)
  g__law_quick := He.glo_ok Y.kin G (Y.at_ 32 rfl)
  g__law_third := He.glo_ok Y.kin G (Y.at_ 33 rfl)
  g__law_laps := He.glo_ok Y.kin G (Y.at_ 34 rfl)
  g__law_rows := He.glo_ok Y.kin G (Y.at_ 35 rfl)
  g_require_pair := He.glo_ok Y.kin G (Y.at_ 36 rfl)
  g_is_name := He.glo_ok Y.kin G (Y.at_ 37 rfl)
  g_is_place := He.glo_ok Y.kin G (Y.at_ 38 rfl)
  g_is_event := He.glo_ok Y.kin G (Y.at_ 39 rfl)
  g_checked_events := He.glo_ok Y.kin G (Y.at_ 40 rfl)
  g_is_possible := He.glo_ok Y.kin G (Y.at_ 41 rfl)
  g_ticked := He.glo_ok Y.kin G (Y.at_ 42 rfl)
  g_passed := He.glo_ok Y.kin G (Y.at_ 43 rfl)
  g_without := He.glo_ok Y.kin G (Y.at_ 44 rfl)
  g_stepped := He.glo_ok Y.kin G (Y.at_ 45 rfl)
  g_trail := He.glo_ok Y.kin G (Y.at_ 46 rfl)
  g_checked_trail := He.glo_ok Y.kin G (Y.at_ 47 rfl)
  g_require_excusing := He.glo_ok Y.kin G (Y.at_ 48 rfl)
  g_is_free := He.glo_ok Y.kin G (Y.at_ 49 rfl)
  g_round_of := He.glo_ok Y.kin G (Y.at_ 50 rfl)
  g_emptied := He.glo_ok Y.kin G (Y.at_ 51 rfl)
  g_rest_of := He.glo_ok Y.kin G (Y.at_ 52 rfl)
  g_can_give := He.glo_ok Y.kin G (Y.at_ 53 rfl)
  g_judged := He.glo_ok Y.kin G (Y.at_ 54 rfl)
  g_verdict := He.glo_ok Y.kin G (Y.at_ 55 rfl)
  g_rounds_of := He.glo_ok Y.kin G (Y.at_ 56 rfl)
  g_sends_by := He.glo_ok Y.kin G (Y.at_ 57 rfl)
  g_answers_by := He.glo_ok Y.kin G (Y.at_ 58 rfl)
  g_recorded_by := He.glo_ok Y.kin G (Y.at_ 59 rfl)
  g_is_good := He.glo_ok Y.kin G (Y.at_ 60 rfl)
  g_whole_round := He.glo_ok Y.kin G (Y.at_ 61 rfl)
  g_up_to_send := He.glo_ok Y.kin G (Y.at_ 62 rfl)
  g_delivers_again := He.glo_ok Y.kin G (Y.at_ 63 rfl)
  g_writes_of := He.glo_ok Y.kin G (Y.at_ 64 rfl)
  g_is_settled := He.glo_ok Y.kin G (Y.at_ 65 rfl)
  g_breaking := He.glo_ok Y.kin G (Y.at_ 66 rfl)
  g__law_told_right := He.glo_ok Y.kin G (Y.at_ 67 rfl)
  g__law_grown_right := He.glo_ok Y.kin G (Y.at_ 68 rfl)
  g_law := He.glo_ok Y.kin G (Y.at_ 69 rfl)
  g_BOTH := He.glo_ok Y.kin G (Y.at_ 70 rfl)
  g_Pair := He.glo_ok Y.kin G (Y.at_ 71 rfl)
  g_Receiver := He.glo_ok Y.kin G (Y.at_ 72 rfl)
  g_Round := He.glo_ok Y.kin G (Y.at_ 73 rfl)
  g_Sender := He.glo_ok Y.kin G (Y.at_ 74 rfl)
  gv_BOTH := fun L => gvB_ok Y.kin G (Y.at_ 75 rfl) L
  gv_CHANNELS := fun L => gvB_ok Y.kin G (Y.at_ 76 rfl) L
  gv_HAND := fun L => gvB_ok Y.kin G (Y.at_ 77 rfl) L
  gv_PROGRAMS := fun L => gvB_ok Y.kin G (Y.at_ 78 rfl) L
  gv_START := fun L => gvB_ok Y.kin G (Y.at_ 79 rfl) L
  cf_answer := fun L => cf_of rfl (Y.at_ 80 rfl) L
  cf_backward := fun L => cf_of rfl (Y.at_ 81 rfl) L
  cf_behind := fun L => cf_of rfl (Y.at_ 82 rfl) L
  cf_crashes := fun L => cf_of rfl (Y.at_ 83 rfl) L
  cf_forward := fun L => cf_of rfl (Y.at_ 84 rfl) L
  cf_gives := fun L => cf_of rfl (Y.at_ 85 rfl) L
  cf_heard := fun L => cf_of rfl (Y.at_ 86 rfl) L
  cf_hears := fun L => cf_of rfl (Y.at_ 87 rfl) L
  cf_message := fun L => cf_of rfl (Y.at_ 88 rfl) L
  cf_receiver := fun L => cf_of rfl (Y.at_ 89 rfl) L
  cf_sender := fun L => cf_of rfl (Y.at_ 90 rfl) L
  cf_sends := fun L => cf_of rfl (Y.at_ 91 rfl) L
  cf_takes := fun L => cf_of rfl (Y.at_ 92 rfl) L
  cf_ticks := fun L => cf_of rfl (Y.at_ 93 rfl) L
  cf_value := fun L => cf_of rfl (Y.at_ 94 rfl) L
  cf_value_count := fun L => cf_of rfl (Y.at_ 95 rfl) L
  kf_Pair := fun L => kf_of (Y.at_ 96 rfl) L
  kf_Receiver := fun L => kf_of (Y.at_ 97 rfl) L
  kf_Sender := fun L => kf_of (Y.at_ 98 rfl) L
  kf_bool := fun L => kf_of (Y.at_ 99 rfl) L
  kf_int := fun L => kf_of (Y.at_ 100 rfl) L
  kf_lot := fun L => kf_of (Y.at_ 101 rfl) L
  kf_str := fun L => kf_of (Y.at_ 102 rfl) L
  kf_tuple := fun L => kf_of (Y.at_ 103 rfl) L
  mk_Pair := He.mkr_ok (Y.at_ 104 rfl)
  mk_Receiver := He.mkr_ok (Y.at_ 105 rfl)
  mk_Round := He.mkr_ok (Y.at_ 106 rfl)
  mk_Sender := He.mkr_ok (Y.at_ 107 rfl)
  me_Receiver_tables := ⟨He.cls_ok (Y.at_ 108 rfl), He.meth_ok (Y.at_ 109 rfl)⟩
  me_Sender_tables := ⟨He.cls_ok (Y.at_ 110 rfl), He.meth_ok (Y.at_ 111 rfl)⟩
  d__law_purse := Y.def_ (d := d0) (List.mem_of_getElem? (i := 0) rfl)
  d__law_mixed := Y.def_ (d := d1) (List.mem_of_getElem? (i := 1) rfl)
  d__law_draw := Y.def_ (d := d2) (List.mem_of_getElem? (i := 2) rfl)
  d_Sender_tables := Y.def_ (d := d3) (List.mem_of_getElem? (i := 3) rfl)
  d_Receiver_tables := Y.def_ (d := d4) (List.mem_of_getElem? (i := 4) rfl)
  d_Pair___init__ := Y.def_ (d := d5) (List.mem_of_getElem? (i := 5) rfl)
  d_require_positive := Y.def_ (d := d6) (List.mem_of_getElem? (i := 6) rfl)
  d_is_below := Y.def_ (d := d7) (List.mem_of_getElem? (i := 7) rfl)
  d_is_row := Y.def_ (d := d8) (List.mem_of_getElem? (i := 8) rfl)
  d_is_given := Y.def_ (d := d9) (List.mem_of_getElem? (i := 9) rfl)
  d_checked := Y.def_ (d := d10) (List.mem_of_getElem? (i := 10) rfl)
  d_checked_sends := lam_fact Y (d := d11) (q := "checked_sends.<locals>.<lambda>") (ls := ls) (List.mem_of_getElem? (i := 11) rfl) (List.mem_of_getElem? (i := 0) rfl) (List.mem_of_getElem? (i := 0) rfl) (Y.at_ 1 rfl) TB
  d_checked_states := lam_fact Y (d := d12) (q := "checked_states.<locals>.<lambda>") (ls := ls) (List.mem_of_getElem? (i := 12) rfl) (List.mem_of_getElem? (i := 1) rfl) (List.mem_of_getElem? (i := 1) rfl) (Y.at_ 1 rfl) TB
  d_checked_hears := lam_fact Y (d := d13) (q := "checked_hears.<locals>.<lambda>") (ls := ls) (List.mem_of_getElem? (i := 13) rfl) (List.mem_of_getElem? (i := 2) rfl) (List.mem_of_getElem? (i := 2) rfl) (Y.at_ 1 rfl) TB
  d_checked_takes := lam_fact Y (d := d14) (q := "checked_takes.<locals>.<lambda>") (ls := ls) (List.mem_of_getElem? (i := 14) rfl) (List.mem_of_getElem? (i := 3) rfl) (List.mem_of_getElem? (i := 3) rfl) (Y.at_ 1 rfl) TB
  d_Sender___init__ := Y.def_ (d := d15) (List.mem_of_getElem? (i := 15) rfl)
  d__law_sender := Y.def_ (d := d16) (List.mem_of_getElem? (i := 16) rfl)
  d_Receiver___init__ := lam_fact Y (d := d17) (q := "Receiver.__init__.<locals>.<lambda>") (ls := ls) (List.mem_of_getElem? (i := 17) rfl) (List.mem_of_getElem? (i := 4) rfl) (List.mem_of_getElem? (i := 4) rfl) (Y.at_ 1 rfl) TB
  d__law_receiver := Y.def_ (d := d18) (List.mem_of_getElem? (i := 18) rfl)
  d__law_later := Y.def_ (d := d19) (List.mem_of_getElem? (i := 19) rfl)
  d__law_quick := Y.def_ (d := d20) (List.mem_of_getElem? (i := 20) rfl)
  d__law_third := Y.def_ (d := d21) (List.mem_of_getElem? (i := 21) rfl)
  d__law_laps := Y.def_ (d := d22) (List.mem_of_getElem? (i := 22) rfl)
  d__law_rows := Y.def_ (d := d23) (List.mem_of_getElem? (i := 23) rfl)
  d_require_pair := Y.def_ (d := d24) (List.mem_of_getElem? (i := 24) rfl)
  d_is_name := Y.def_ (d := d25) (List.mem_of_getElem? (i := 25) rfl)
  d_is_place := Y.def_ (d := d26) (List.mem_of_getElem? (i := 26) rfl)
  d_is_event := Y.def_ (d := d27) (List.mem_of_getElem? (i := 27) rfl)
  d_checked_events := Y.def_ (d := d28) (List.mem_of_getElem? (i := 28) rfl)
  d_is_possible := Y.def_ (d := d29) (List.mem_of_getElem? (i := 29) rfl)
  d_ticked := Y.def_ (d := d30) (List.mem_of_getElem? (i := 30) rfl)
  d_passed := Y.def_ (d := d31) (List.mem_of_getElem? (i := 31) rfl)
  d_without := Y.def_ (d := d32) (List.mem_of_getElem? (i := 32) rfl)
  d_stepped := Y.def_ (d := d33) (List.mem_of_getElem? (i := 33) rfl)
  d_trail := Y.def_ (d := d34) (List.mem_of_getElem? (i := 34) rfl)
  d_checked_trail := Y.def_ (d := d35) (List.mem_of_getElem? (i := 35) rfl)
  d_require_excusing := Y.def_ (d := d36) (List.mem_of_getElem? (i := 36) rfl)
  d_is_free := Y.def_ (d := d37) (List.mem_of_getElem? (i := 37) rfl)
  d_round_of := Y.def_ (d := d38) (List.mem_of_getElem? (i := 38) rfl)
  d_emptied := Y.def_ (d := d39) (List.mem_of_getElem? (i := 39) rfl)
  d_rest_of := Y.def_ (d := d40) (List.mem_of_getElem? (i := 40) rfl)
  d_can_give := Y.def_ (d := d41) (List.mem_of_getElem? (i := 41) rfl)
  d_judged := Y.def_ (d := d42) (List.mem_of_getElem? (i := 42) rfl)
  d_verdict := Y.def_ (d := d43) (List.mem_of_getElem? (i := 43) rfl)
  d_Round___init__ := Y.def_ (d := d44) (List.mem_of_getElem? (i := 44) rfl)
  d_rounds_of := Y.def_ (d := d45) (List.mem_of_getElem? (i := 45) rfl)
  d_sends_by := Y.def_ (d := d46) (List.mem_of_getElem? (i := 46) rfl)
  d_answers_by := Y.def_ (d := d47) (List.mem_of_getElem? (i := 47) rfl)
  d_recorded_by := Y.def_ (d := d48) (List.mem_of_getElem? (i := 48) rfl)
  d_is_good := Y.def_ (d := d49) (List.mem_of_getElem? (i := 49) rfl)
  d_whole_round := Y.def_ (d := d50) (List.mem_of_getElem? (i := 50) rfl)
  d_up_to_send := Y.def_ (d := d51) (List.mem_of_getElem? (i := 51) rfl)
  d_delivers_again := Y.def_ (d := d52) (List.mem_of_getElem? (i := 52) rfl)
  d_writes_of := Y.def_ (d := d53) (List.mem_of_getElem? (i := 53) rfl)
  d_is_settled := Y.def_ (d := d54) (List.mem_of_getElem? (i := 54) rfl)
  d_breaking := Y.def_ (d := d55) (List.mem_of_getElem? (i := 55) rfl)
  d__law_told_right := Y.def_ (d := d56) (List.mem_of_getElem? (i := 56) rfl)
  d__law_grown_right := Y.def_ (d := d57) (List.mem_of_getElem? (i := 57) rfl)
  d_law := Y.def_ (d := d58) (List.mem_of_getElem? (i := 58) rfl)
def loose0 : List PySem.Str := ["TalkError", "InvalidNumber", "InvalidTable", "InvalidProgram", "InvalidPair", "InvalidEvent", "InvalidExcusing", "NotSettled", "UnlikePrograms", "NotPossible", "is_below", "is_row", "require_positive", "checked", "checked_sends", "checked_states", "checked_hears", "checked_takes", "is_given", "Sender"]
def loose1 : List PySem.Str := ["Receiver", "Pair", "require_pair", "START", "CHANNELS", "PROGRAMS", "is_name", "is_place", "is_event", "is_possible", "ticked", "passed", "without", "stepped", "checked_events", "trail", "checked_trail", "BOTH", "require_excusing", "is_free"]
def loose2 : List PySem.Str := ["round_of", "emptied", "rest_of", "can_give", "judged", "verdict", "HAND", "Round", "rounds_of", "whole_round", "sends_by", "answers_by", "recorded_by", "is_good", "up_to_send", "delivers_again", "writes_of", "is_settled", "breaking", "_law_mixed"]
def loose3 : List PySem.Str := ["_law_purse", "_law_draw", "_law_sender", "_law_receiver", "_law_later", "_law_quick", "_law_third", "_law_laps", "_law_rows", "_law_told_right", "_law_grown_right"]
def loose : List PySem.Str := loose0 ++ loose1 ++ loose2 ++ loose3
abbrev R : PySem.W.OpenRow := PySem.W.OpenLaw.row PySem.Challenge.rw_wipedtalk_k36_talks_by_hand
abbrev hk : PySem.W.Hook := hookV as ck fn (ls.map (·.1))
def ob (s : PySem.W.SharedT) : He.AlD := obsV as ck fn (ls.map (·.1)) (HandSHeadRun.getT s)
theorem ob_eq (s : PySem.W.SharedT) : ob s = hk.obs s.abs := obsV_eq (HandSHeadRun.getT_eq s)
theorem run (w : World) : HandSHeadRun.RunEq R (PySem.W.view R.prog [77]) hk ob 20000 loose w := by
  intro os
  kernel_rfl
theorem hfd (w : World) (mg : Str → Option Value) (fa : Addr) (h : Heap) (K : PySem.W.Frag) (Y : SaysV ck fn (ls.map (·.1)) K h) (G : h.Ns mainGlobals mg) (hmg : mg "law" = some (.ref fa)) :
    ∃ fd : FuncData, (∀ (s : Shared) (u : Value), BindsTo s fd ⟨[u], []⟩ [("script", u)]) ∧ ∀ base, (∀ p ∈ ls.map (·.1), LamX.TabB base mg (codeA K p) (tabA K (codeA K p))) → FnOk (PySem.Challenge.rw_wipedtalk_k36_talks_by_hand).prog w K mg base C8.CX0 12 fa fd ["script"] (spF (mkW SS Cn K (tabsOf K ls) none) 1 F_law) := by
  obtain ⟨fd, F⟩ := Y.def_ (d := d58) (List.mem_of_getElem? (i := 58) rfl)
  have b := FunD.bindsA (ps := ["script"]) F fun _ _ _ _ _ _ us hl => match us, hl with | [_], _ => rfl
  refine ⟨fd, fun s u => b s [u] rfl, fun base TB => ?_⟩
  have Z := fx (base := base) Y G TB
  obtain ⟨fd', F', hF⟩ := fn_law (P := (PySem.Challenge.rw_wipedtalk_k36_talks_by_hand).prog) (w := w) Z
  have e := hmg.symm.trans Z.g_law
  cases e
  have e2 : fd' = fd := FunD_uniq F' F
  rw [← e2]
  exact hF
end L_k36
open PySem PySem.W PySem.Calls PyProof.Rows
theorem L_k36.holds_of (law : ∀ ns : List Int, ns.length ≤ 63 → (∀ z ∈ ns, Builtin.Int.intBits z ≤ 1048576) → ∀ o : VI.Ob, o = .lst (ns.map .int) ∨ o = .frz (ns.map .int) → ∃ st, L_k36.F_law [.ref 0] [o] = .ok (.v (.bool true)) st) : PySem.Challenge.rw_wipedtalk_k36_talks_by_hand.Holds := by
  w_on; o_law
  refine HandSHeadRun.head_any (r := OpenLaw.row PySem.Challenge.rw_wipedtalk_k36_talks_by_hand) (q := view (OpenLaw.row PySem.Challenge.rw_wipedtalk_k36_talks_by_hand).prog [77]) (H := L_k36.hk) (ob := L_k36.ob) (M := 20000) (loose := L_k36.loose) (d := HandSHeadRun.topDef (OpenLaw.row PySem.Challenge.rw_wipedtalk_k36_talks_by_hand).prog 77) (kwd := []) L_k36.ob_eq
    (by kernel_rfl) (fun s => by kernel_rfl) L_k36.run (by kernel_rfl) (by kernel_rfl) (by kernel_rfl) (by rfl) (by first | assumption | decide +kernel) (by decide +kernel) ⟨rfl, rfl, rfl, rfl, rfl, by decide +kernel⟩ ?hw ?hc
  case hw => w_witness2
  case hc =>
    refine VI.walkV (l := PySem.Challenge.rw_wipedtalk_k36_talks_by_hand) (n := 63) (k := 12) (x := "script") rfl (by decide) (by kernel_rfl) ⟨rfl, by decide, by decide⟩ (fun K => rfl) (fun w mg fa h K Y G hmg => L_k36.hfd w mg fa h K Y G ?_) law
    have e : (HandSHeadRun.topDef (OpenLaw.row PySem.Challenge.rw_wipedtalk_k36_talks_by_hand).prog 77).name = ("law" : PySem.Str) := by kernel_rfl
    rw [← e]
    exact hmg
end

theorem PySem.Challenge.cw_wipedtalk_k36_talks_by_hand_holds : PySem.Challenge.rw_wipedtalk_k36_talks_by_hand.Holds := by
  exact L_k36.holds_of fun ns hl _ o ho => L_k36.law_ok ns hl o ho
