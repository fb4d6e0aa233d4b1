import PyProof.Rows.All
import Wide.All
import OpenK.AllK
import Wide.FinOn
import PyProof.EqAt
import PyProof.EqKinds
import PyProof.TupleCall
import KE.KLam
import PyProof.CodeObj
import HandS.Base
import HandS.Call
import HandS.Ends
import HandS.List
import HandS.Comp
import HandS.Iter
import HandS.Text
import HandS.Exc
import HandS.Codes
import HandS.TryOnly
import HandS.Lambda
import HandS.Nested
import HandS.EndTab
import HandS.Flow
import HandS.IsInst
import HandS.Deep
import HandS.TupAny
import HandS.TupMul
import HandS.Zip
import HandS.More
import HandS.Words
import HandS.Defaults
import HandS.Dict
import HandS.DictTup
import HandS.Property
import HandS.MakeKw
import HandS.MakeKwOnly
import HandS.Conv
import KE.GoesEnum
import HandS.Style
import HandS.HeadHook1
import HandS.HeadHook2
import KE.KStateDown
import HandS.EndBits
import HandS.Head0
import HandS.Head1
import HandS.Head2
import HandS.HeadEnd
import HandS.NoneIn
import HandS.NamedTupGet
import HandS.ExcOwn
import HandS.ExcInit
import HandS.ExcField
import HandS.Small
import HandS.TryMany
import PyProof.ReprRoads
import PyProof.ReprLen
import HandS.Set
import HandS.SetFor
import HandS.Strs
import HandS.OwnEq
import PyProof.InstNe
import PyProof.SeqIndex
import PySem.Challenge.RW_wipedtalk_k01_programs_and_pairs
section
set_option linter.all false
set_option autoImplicit false
/-! VI0: a small value interpreter, in plain Lean: values (tuples by value), a store of lists, dicts and instances,
and the combinators in which each def of the program is written down. Nothing of the model stands here. -/
namespace VI
abbrev LIM : Nat := 16777216

inductive Val where
  | non | bool (b : Bool) | int (i : Int) | str (s : Nat) | tup (l : List Val) | ref (n : Nat)
  deriving Inhabited
inductive Ob where
  | lst (l : List Val)
  | frz (l : List Val)
  | ins (c : Nat) (fs : List (Nat × Val))
  | dct (kvs : List (List Int × Val))
  deriving Inhabited
abbrev Store := List Ob
/-- a value, or a list that nobody else holds yet -/
inductive Tv where
  | v (x : Val) | l (xs : List Val)
  deriving Inhabited
inductive Res (α : Type) where
  | ok (a : α) (s : Store) | exc (c : Nat) (fs : List Val) (s : Store) | bad
  deriving Inhabited
abbrev Env := List (Option Val)
inductive Fl where
  | next | ret (x : Tv) | brk
abbrev Ev := Env → Store → Res Tv
abbrev Tst := Env → Store → Res Bool
abbrev Avs := Env → Store → Res (List Val)
abbrev Sx := Env → Store → Res (Fl × Env)
abbrev Fn := List Val → Store → Res Tv
abbrev Tgt := Val → Env → Store → Res Env

def Res.bind {α β : Type} (r : Res α) (f : α → Store → Res β) : Res β := match r with
  | .ok a s => f a s
  | .exc c fs s => .exc c fs s
  | .bad => .bad
@[simp] theorem bind_ok {α β : Type} (a : α) (s : Store) (f : α → Store → Res β) : (Res.ok a s).bind f = f a s := (rfl)
@[simp] theorem bind_exc {α β : Type} (c fs) (s : Store) (f : α → Store → Res β) : (Res.exc c fs s).bind f = .exc c fs s := (rfl)
@[simp] theorem bind_bad {α β : Type} (f : α → Store → Res β) : (Res.bad : Res α).bind f = .bad := (rfl)
theorem bind_eq_ok {α β : Type} {r : Res α} {f : α → Store → Res β} {b : β} {s' : Store} (h : r.bind f = .ok b s') : ∃ a s, r = .ok a s ∧ f a s = .ok b s' := by
  cases r with
  | ok a s => exact ⟨a, s, rfl, h⟩
  | exc c fs s => cases h
  | bad => cases h
/-- a list is laid down in the store -/
def mat (t : Tv) (s : Store) : Res Val := match t with
  | .v x => .ok x s
  | .l xs => .ok (.ref s.length) (s ++ [.lst xs])

/-! ### data, for == and in -/
inductive Dt where
  | non | bool (b : Bool) | int (i : Int) | str (s : Nat) | lst (l : List Dt) | tup (l : List Dt)
  deriving Inhabited
mutual
def Dt.eqv : Dt → Dt → Bool
  | .non, .non => true
  | .bool a, .bool b => a == b
  | .bool a, .int j => (if a then 1 else 0) == j
  | .int i, .bool b => i == (if b then 1 else 0)
  | .int i, .int j => i == j
  | .str x, .str y => x == y
  | .lst xs, .lst ys => Dt.eqvAll xs ys
  | .tup xs, .tup ys => Dt.eqvAll xs ys
  | .non, .bool _ | .non, .int _ | .non, .str _ | .non, .lst _ | .non, .tup _ => false
  | .bool _, .non | .bool _, .str _ | .bool _, .lst _ | .bool _, .tup _ => false
  | .int _, .non | .int _, .str _ | .int _, .lst _ | .int _, .tup _ => false
  | .str _, .non | .str _, .bool _ | .str _, .int _ | .str _, .lst _ | .str _, .tup _ => false
  | .lst _, .non | .lst _, .bool _ | .lst _, .int _ | .lst _, .str _ | .lst _, .tup _ => false
  | .tup _, .non | .tup _, .bool _ | .tup _, .int _ | .tup _, .str _ | .tup _, .lst _ => false
termination_by structural x => x
def Dt.eqvAll : List Dt → List Dt → Bool
  | [], [] => true
  | x :: xs, y :: ys => Dt.eqv x y && Dt.eqvAll xs ys
  | [], _ :: _ => false
  | _ :: _, [] => false
termination_by structural x => x
end
def mapO {α β : Type} (f : α → Option β) : List α → Option (List β)
  | [] => some []
  | x :: r => match f x with
    | some d => match mapO f r with
      | some ds => some (d :: ds)
      | none => none
    | none => none
/-- what a value is as data; n: how deep it is followed -/
def toD (st : Store) : Nat → Val → Option Dt
  | 0, x => match x with
    | .non => some .non
    | .bool b => some (.bool b)
    | .int i => some (.int i)
    | .str s => some (.str s)
    | _ => none
  | n + 1, x => match x with
    | .non => some .non
    | .bool b => some (.bool b)
    | .int i => some (.int i)
    | .str s => some (.str s)
    | .tup l => (mapO (toD st n) l).map .tup
    | .ref k => match st[k]? with
      | some (.lst l) => (mapO (toD st n) l).map .lst
      | some (.frz l) => (mapO (toD st n) l).map .lst
      | _ => none
def toDs (st : Store) (n : Nat) (l : List Val) : Option (List Dt) := mapO (toD st n) l
/-- how deep == looks -/
abbrev DEEP : Nat := 20
def tvD (st : Store) : Tv → Option Dt
  | .v x => toD st DEEP x
  | .l xs => (toDs st DEEP xs).map .lst
def lstOf (t : Tv) (s : Store) : Option (List Val) := match t with
  | .l xs => some xs
  | .v (.ref n) => match s[n]? with
    | some (.lst xs) => some xs
    | _ => none
  | _ => none
/-- a list or a tuple that is read -/
def seqOf (t : Tv) (s : Store) : Option (List Val) := match t with
  | .l xs => some xs
  | .v (.tup xs) => some xs
  | .v (.ref n) => match s[n]? with
    | some (.lst xs) => some xs
    | some (.frz xs) => some xs
    | _ => none
  | _ => none

/-! ### expressions -/
def eC (x : Val) : Ev := fun _ s => .ok (.v x) s
def eV (i : Nat) : Ev := fun ρ s => match ρ[i]? with
  | some (some x) => .ok (.v x) s
  | _ => .bad
def aNil : Avs := fun _ s => .ok [] s
def aCons (e : Ev) (r : Avs) : Avs := fun ρ s => (e ρ s).bind fun t s => (mat t s).bind fun x s => (r ρ s).bind fun xs s => .ok (x :: xs) s
def eTup (a : Avs) : Ev := fun ρ s => (a ρ s).bind fun xs s => if xs.length ≤ LIM then .ok (.v (.tup xs)) s else .bad
def eLst (a : Avs) : Ev := fun ρ s => (a ρ s).bind fun xs s => if xs.length ≤ LIM then .ok (.l xs) s else .bad
abbrev Op2 := Tv → Tv → Store → Res Tv
def eBin (o : Op2) (a b : Ev) : Ev := fun ρ s => (a ρ s).bind fun x s => (b ρ s).bind fun y s => o x y s

def oAdd : Op2
  | .v (.int i), .v (.int j), s => .ok (.v (.int (i + j))) s
  | .v (.tup a), .v (.tup b), s => if a.length + b.length ≤ LIM then .ok (.v (.tup (a ++ b))) s else .bad
  | x, y, s => match lstOf x s, lstOf y s with
    | some a, some b => if a.length + b.length ≤ LIM then .ok (.l (a ++ b)) s else .bad
    | _, _ => .bad
def oSub : Op2
  | .v (.int i), .v (.int j), s => .ok (.v (.int (i - j))) s
  | _, _, _ => .bad
def small (i : Int) : Bool := decide (-(2 ^ 64) < i) && decide (i < 2 ^ 64)
def oMul : Op2
  | .v (.int i), .v (.int j), s => if small i || small j then .ok (.v (.int (i * j))) s else .bad
  | .v (.tup a), .v (.int k), s => if -1000 ≤ k ∧ k ≤ 1000 ∧ a.length ≤ 1000 ∧ a.isEmpty = false then .ok (.v (.tup (List.replicate k.toNat a).flatten)) s else .bad
  | x, .v (.int k), s => match lstOf x s with
    | some a => if -(2 ^ 63) ≤ k ∧ k < 2 ^ 63 ∧ a.length * k.toNat ≤ LIM then .ok (.l (List.replicate k.toNat a).flatten) s else .bad
    | none => .bad
  | _, _, _ => .bad
def oMod : Op2
  | .v (.int i), .v (.int j), s => if j ≠ 0 then .ok (.v (.int (i.fmod j))) s else .bad
  | _, _, _ => .bad
def oDiv : Op2
  | .v (.int i), .v (.int j), s => if j ≠ 0 ∧ j.natAbs < 1073741824 then .ok (.v (.int (i.fdiv j))) s else .bad
  | _, _, _ => .bad
def oPow : Op2
  | .v (.int i), .v (.int j), s => if 0 ≤ j ∧ j ≤ 64 ∧ i.natAbs < 2 ^ 200 then .ok (.v (.int (i ^ j.toNat))) s else .bad
  | _, _, _ => .bad
def eNeg (a : Ev) : Ev := fun ρ s => (a ρ s).bind fun x s => match x with
  | .v (.int i) => .ok (.v (.int (-i))) s
  | _ => .bad
/-- not, and, or of truth values, as values -/
def eNot (a : Ev) : Ev := fun ρ s => (a ρ s).bind fun x s => match x with
  | .v (.bool b) => .ok (.v (.bool (!b))) s
  | _ => .bad
def eAnd (a b : Ev) : Ev := fun ρ s => (a ρ s).bind fun x s => match x with
  | .v (.bool c) => if c = true then b ρ s else .ok (.v (.bool false)) s
  | _ => .bad
def eOr (a b : Ev) : Ev := fun ρ s => (a ρ s).bind fun x s => match x with
  | .v (.bool c) => if c = true then .ok (.v (.bool true)) s else b ρ s
  | _ => .bad
/-! ### comparisons, as operations -/
def ans (b : Option Bool) (s : Store) : Res Tv := match b with
  | some b => .ok (.v (.bool b)) s
  | none => .bad
def eqT (x y : Tv) (s : Store) : Option Bool := match tvD s x, tvD s y with
  | some d, some e => some (Dt.eqv d e)
  | _, _ => none
def cEq : Op2 := fun x y s => ans (eqT x y s) s
def cNe : Op2 := fun x y s => ans ((eqT x y s).map not) s
def cInt (p : Int → Int → Bool) : Op2
  | .v (.int i), .v (.int j), s => .ok (.v (.bool (p i j))) s
  | _, _, _ => .bad
def cLt : Op2 := cInt fun i j => decide (i < j)
def cLe : Op2 := cInt fun i j => decide (i ≤ j)
def cGt : Op2 := cInt fun i j => decide (j < i)
def cGe : Op2 := cInt fun i j => decide (j ≤ i)
def isN : Tv → Bool
  | .v .non => true
  | _ => false
def cIsN : Op2
  | x, .v .non, s => .ok (.v (.bool (isN x))) s
  | _, _, _ => .bad
def cNotN : Op2
  | x, .v .non, s => .ok (.v (.bool (!isN x))) s
  | _, _, _ => .bad
def flat : Val → Bool
  | .non => true
  | .bool _ => true
  | .int _ => true
  | .str _ => true
  | _ => false
def ints? : List Val → Option (List Int)
  | [] => some []
  | .int i :: r => (ints? r).map (i :: ·)
  | _ :: _ => none
def flatEq : Val → Val → Bool
  | .non, .non => true
  | .bool a, .bool b => a == b
  | .bool a, .int b => (if a then 1 else 0) == b
  | .int a, .bool b => a == (if b then 1 else 0)
  | .int a, .int b => a == b
  | .str a, .str b => a == b
  | _, _ => false
def isIn (x y : Tv) (s : Store) : Option Bool := match y with
  | .v (.tup ys) => match x with
    | .v x => if flat x && ys.all flat then some (ys.any fun z => flatEq z x) else none
    | _ => none
  | y => match lstOf y s, tvD s x with
    | some ys, some d => match toDs s DEEP ys with
      | some ds => some (ds.any fun z => Dt.eqv z d)
      | none => none
    | _, _ => none
def cIn : Op2 := fun x y s => ans (isIn x y s) s
def cNotIn : Op2 := fun x y s => ans ((isIn x y s).map not) s
/-- a op1 b op2 c -/
def eChain (o o' : Op2) (a b c : Ev) : Ev := fun ρ s => (a ρ s).bind fun x s => (b ρ s).bind fun y s => (o x y s).bind fun r s => match r with
  | .v (.bool k) => if k = true then (c ρ s).bind fun z s => o' y z s else .ok (.v (.bool false)) s
  | _ => .bad

/-! ### tests -/
def tru (t : Tv) (s : Store) : Option Bool := match t with
  | .v .non => some false
  | .v (.bool b) => some b
  | .v (.int i) => some (i != 0)
  | .l xs => some (!xs.isEmpty)
  | .v (.tup xs) => some (!xs.isEmpty)
  | .v (.ref n) => match s[n]? with
    | some (.lst xs) => some (!xs.isEmpty)
    | some (.frz xs) => some (!xs.isEmpty)
    | _ => none
  | _ => none
/-- an expression that gives True or False, as a test -/
def tB (e : Ev) : Tst := fun ρ s => (e ρ s).bind fun x s => match x with
  | .v (.bool b) => .ok b s
  | _ => .bad
/-- any expression as a test -/
def tTru (e : Ev) : Tst := fun ρ s => (e ρ s).bind fun x s => match tru x s with
  | some b => .ok b s
  | none => .bad
def tNot (t : Tst) : Tst := fun ρ s => (t ρ s).bind fun b s => .ok (!b) s
def tAnd (t u : Tst) : Tst := fun ρ s => (t ρ s).bind fun b s => if b = true then u ρ s else .ok false s
def tOr (t u : Tst) : Tst := fun ρ s => (t ρ s).bind fun b s => if b = true then .ok true s else u ρ s
def eIf (t : Tst) (a b : Ev) : Ev := fun ρ s => (t ρ s).bind fun c s => if c = true then a ρ s else b ρ s

/-! ### subscripts, fields -/
def ixN (n : Nat) (i : Int) : Option Nat := if 0 ≤ i then (if i < n then some i.toNat else none) else if -(n : Int) ≤ i then some (i + n).toNat else none
def atI {α : Type} (xs : List α) (i : Int) : Option α := (ixN xs.length i).bind fun j => xs[j]?
def oIdx : Op2 := fun x y s => match y with
  | .v (.int i) => match seqOf x s with
    | some xs => match atI xs i with
      | some z => .ok (.v z) s
      | none => .bad
    | none => .bad
  | _ => .bad
def sIx (n d : Nat) : Option Int → Nat
  | none => d
  | some i => if i < 0 then (i + (n : Int)).toNat else min i.toNat n
def cutV (xs : List Val) (lo hi : Option Int) : List Val := (xs.drop (sIx xs.length 0 lo)).take (sIx xs.length xs.length hi - sIx xs.length 0 lo)
def slc (x : Tv) (lo hi : Option Int) (s : Store) : Res Tv := match x with
  | .v (.tup xs) => .ok (.v (.tup (cutV xs lo hi))) s
  | x => match seqOf x s with
    | some xs => .ok (.l (cutV xs lo hi)) s
    | none => .bad
def optI (e : Option Ev) (ρ : Env) (s : Store) : Res (Option Int) := match e with
  | none => .ok none s
  | some e => (e ρ s).bind fun x s => match x with
    | .v (.int i) => .ok (some i) s
    | _ => .bad
def eSl (e : Ev) (lo hi : Option Ev) : Ev := fun ρ s => (e ρ s).bind fun x s => (optI lo ρ s).bind fun i s => (optI hi ρ s).bind fun j s => slc x i j s
def fldOf (cs : List Nat) (x : Tv) (f : Nat) (s : Store) : Option Val := match x with
  | .v (.ref n) => match s[n]? with
    | some (.ins c fs) => if cs.contains c = true then fs.lookup f else none
    | _ => none
  | _ => none
/-- e.f, e an instance of one of the classes cs -/
def eFld (cs : List Nat) (e : Ev) (f : Nat) : Ev := fun ρ s => (e ρ s).bind fun x s => match fldOf cs x f s with
  | some z => .ok (.v z) s
  | none => .bad
/-! ### calls -/
def eCall (F : Fn) (a : Avs) : Ev := fun ρ s => (a ρ s).bind fun xs s => F xs s
/-- C(..) -/
def eMk (c : Nat) (F : Fn) (a : Avs) : Ev := fun ρ s => (a ρ s).bind fun xs s => (F (.ref s.length :: xs) (s ++ [.ins c []])).bind fun r s' => match r with
  | .v .non => .ok (.v (.ref s.length)) s'
  | _ => .bad
/-- keywords: the values in the parameters' order -/
def aPerm (g : List Val → List Val) (a : Avs) : Avs := fun ρ s => (a ρ s).bind fun xs s => .ok (g xs) s
/-- x is an instance of the class c that has no attribute m of its own -/
def isCls (x : Val) (c m : Nat) (s : Store) : Bool := match x with
  | .ref n => match s[n]? with
    | some (.ins d fs) => d == c && (fs.lookup m).isNone
    | _ => false
  | _ => false
/-- o.m(..), o an instance of the class c -/
def eMeth (c m : Nat) (F : Fn) (e : Ev) (a : Avs) : Ev := fun ρ s => (e ρ s).bind fun x s => match x with
  | .v o => if isCls o c m s = true then (a ρ s).bind fun xs s => F (o :: xs) s else .bad
  | _ => .bad
abbrev B1 := Tv → Store → Res Tv
def eB1 (b : B1) (a : Ev) : Ev := fun ρ s => (a ρ s).bind b
def bLen : B1 := fun x s => match seqOf x s with
  | some xs => .ok (.v (.int xs.length)) s
  | none => .bad
def bInt : B1 := fun x s => match x with
  | .v (.int i) => .ok (.v (.int i)) s
  | .v (.bool b) => .ok (.v (.int (if b then 1 else 0))) s
  | _ => .bad
def bTuple : B1 := fun x s => match seqOf x s with
  | some xs => .ok (.v (.tup xs)) s
  | none => .bad
def bList : B1 := fun x s => match seqOf x s with
  | some xs => .ok (.l xs) s
  | none => .bad
def bools? : List Val → Option (List Bool)
  | [] => some []
  | .bool i :: r => (bools? r).map (i :: ·)
  | _ :: _ => none
def bAll : B1 := fun x s => match lstOf x s with
  | some xs => match bools? xs with
    | some bs => .ok (.v (.bool (bs.all id))) s
    | none => .bad
  | none => .bad
def bAny : B1 := fun x s => match lstOf x s with
  | some xs => match bools? xs with
    | some bs => .ok (.v (.bool (bs.any id))) s
    | none => .bad
  | none => .bad
def maxI : List Int → Int
  | [] => 0
  | [i] => i
  | i :: r => max i (maxI r)
def bMax : B1 := fun x s => match lstOf x s with
  | some xs => match ints? xs with
    | some (i :: is) => .ok (.v (.int (maxI (i :: is)))) s
    | _ => .bad
  | none => .bad
def oMax : Op2
  | .v (.int i), .v (.int j), s => .ok (.v (.int (if j > i then j else i))) s
  | _, _, _ => .bad
def oMin : Op2
  | .v (.int i), .v (.int j), s => .ok (.v (.int (if j < i then j else i))) s
  | _, _, _ => .bad
/-- tuple(range(..)), list(range(..)) -/
def rngV (i j : Int) : List Val := (List.range (j - i).toNat).map fun k => .int (i + (k : Nat))
abbrev Rg := Env → Store → Res (Int × Int)
def rg1 (e : Ev) : Rg := fun ρ s => (e ρ s).bind fun t s => match t with
  | .v (.int j) => .ok (0, j) s
  | _ => .bad
def rg2 (e e' : Ev) : Rg := fun ρ s => (e ρ s).bind fun t s => (e' ρ s).bind fun t' s => match t, t' with
  | .v (.int i), .v (.int j) => .ok (i, j) s
  | _, _ => .bad
def fitR (i j : Int) : Bool := decide (-(2 ^ 62) ≤ i) && decide (i < 2 ^ 62) && decide (-(2 ^ 62) ≤ j) && decide (j < 2 ^ 62) && decide ((j - i).toNat ≤ LIM)
def eLstR (r : Rg) : Ev := fun ρ s => (r ρ s).bind fun p s => if fitR p.1 p.2 then .ok (.l (rngV p.1 p.2)) s else .bad
def eTupR (r : Rg) : Ev := fun ρ s => (r ρ s).bind fun p s => if fitR p.1 p.2 then .ok (.v (.tup (rngV p.1 p.2))) s else .bad
inductive Ty where
  | int | bool | str | list | tuple | lot | cls (c : Nat)
def insB (ty : Ty) (d : Nat) : Bool := match ty with
  | .cls c => d == c
  | _ => false
def isTy (cs : List Nat) (ty : Ty) (x : Tv) (s : Store) : Option Bool := match x with
  | .v .non => some false
  | .v (.bool _) => some (match ty with | .int => true | .bool => true | _ => false)
  | .v (.int _) => some (match ty with | .int => true | _ => false)
  | .v (.str _) => some (match ty with | .str => true | _ => false)
  | .v (.tup _) => some (match ty with | .tuple => true | .lot => true | _ => false)
  | .l _ => some (match ty with | .list => true | .lot => true | _ => false)
  | .v (.ref n) => match s[n]? with
    | some (.lst _) => some (match ty with | .list => true | .lot => true | _ => false)
    | some (.ins d _) => if cs.contains d = true then some (insB ty d) else none
    | some (.dct _) => some false
    | _ => none
def bIs (cs : List Nat) (ty : Ty) : B1 := fun x s => ans (isTy cs ty x s) s

/-! ### methods of lists -/
def inR (i : Int) : Bool := decide (-(2 ^ 62) ≤ i) && decide (i < 2 ^ 62)
def updL (n : Nat) (xs : List Val) (s : Store) : Store := s.set n (.lst xs)
def refL (t : Tv) (s : Store) : Option (Nat × List Val) := match t with
  | .v (.ref n) => match s[n]? with
    | some (.lst xs) => some (n, xs)
    | _ => none
  | _ => none
def eAppend (e a : Ev) : Ev := fun ρ s => (e ρ s).bind fun o s => if (refL o s).isSome = true then (a ρ s).bind fun t s => (mat t s).bind fun x s => match refL o s with
    | some (n, xs) => if xs.length < LIM then .ok (.v .non) (updL n (xs ++ [x]) s) else .bad
    | none => .bad
  else .bad
def eExtend (e a : Ev) : Ev := fun ρ s => (e ρ s).bind fun o s => if (refL o s).isSome = true then (a ρ s).bind fun t s => match refL o s, lstOf t s with
    | some (n, xs), some ys => if xs.length + ys.length ≤ LIM then .ok (.v .non) (updL n (xs ++ ys) s) else .bad
    | _, _ => .bad
  else .bad
def ePop (e : Ev) : Ev := fun ρ s => (e ρ s).bind fun o s => match refL o s with
  | some (n, xs) => match xs[xs.length - 1]? with
    | some y => .ok (.v y) (updL n xs.dropLast s)
    | none => .bad
  | none => .bad
def ePopAt (e a : Ev) : Ev := fun ρ s => (e ρ s).bind fun o s => if (refL o s).isSome = true then (a ρ s).bind fun t s => match t with
    | .v (.int i) => match refL o s with
      | some (n, xs) => match (if inR i then ixN xs.length i else none) with
        | some k => match xs[k]? with
          | some y => .ok (.v y) (updL n (xs.eraseIdx k) s)
          | none => .bad
        | none => .bad
      | none => .bad
    | _ => .bad
  else .bad
def eClear (e : Ev) : Ev := fun ρ s => (e ρ s).bind fun o s => match refL o s with
  | some (n, _) => .ok (.v .non) (updL n [] s)
  | none => .bad
def firstIx (d : Dt) : List Dt → Nat → Option Nat
  | [], _ => none
  | e :: r, j => if Dt.eqv e d then some j else firstIx d r (j + 1)
def eIndex (e a : Ev) : Ev := fun ρ s => (e ρ s).bind fun o s => if (lstOf o s).isSome = true then (a ρ s).bind fun t s => match lstOf o s, tvD s t with
  | some xs, some d => match toDs s DEEP xs with
    | some ds => match firstIx d ds 0 with
      | some j => .ok (.v (.int j)) s
      | none => .bad
    | none => .bad
  | _, _ => .bad
  else .bad

/-! ### what is walked -/
/-- the items as they stand at a state; a tuple's, a new list's, a range's stay -/
abbrev Its := Store → Option (List Val)
abbrev Ix := Env → Store → Res Its
def itsOf (t : Tv) (s : Store) : Option Its := match t with
  | .l xs => some fun _ => some xs
  | .v (.tup xs) => some fun _ => some xs
  | .v (.ref n) => match s[n]? with
    | some (.lst _) => some fun s => match s[n]? with
      | some (.lst xs) => some xs
      | _ => none
    | some (.frz _) => some fun s => match s[n]? with
      | some (.frz xs) => some xs
      | _ => none
    | _ => none
  | _ => none
def ixE (e : Ev) : Ix := fun ρ s => (e ρ s).bind fun t s => match itsOf t s with
  | some f => .ok f s
  | none => .bad
def ixR (e : Ev) : Ix := fun ρ s => (e ρ s).bind fun t s => match t with
  | .v (.int j) => if inR j then .ok (fun _ => some (rngV 0 j)) s else .bad
  | _ => .bad
def ixR2 (e e' : Ev) : Ix := fun ρ s => (e ρ s).bind fun t s => (e' ρ s).bind fun t' s => match t, t' with
  | .v (.int i), .v (.int j) => if inR i && inR j then .ok (fun _ => some (rngV i j)) s else .bad
  | _, _ => .bad
def numbered : List Val → Nat → List Val
  | [], _ => []
  | x :: r, i => .tup [.int (i : Nat), x] :: numbered r (i + 1)
def ixEnum (e : Ev) : Ix := fun ρ s => (e ρ s).bind fun t s => match itsOf t s with
  | some f => .ok (fun s => (f s).map fun xs => numbered xs 0) s
  | none => .bad
def paired : List Val → List Val → List Val
  | x :: r, y :: q => .tup [x, y] :: paired r q
  | _, _ => []
def zipI (f g : Its) : Its := fun s => match f s, g s with
  | some xs, some ys => some (paired xs ys)
  | _, _ => none
def isTupT (t : Tv) : Bool := match t with
  | .v (.tup _) => true
  | _ => false
def ixZip (e e' : Ev) : Ix := fun ρ s => (e ρ s).bind fun t s => (e' ρ s).bind fun t' s => match itsOf t s, itsOf t' s with
  | some f, some g => if isTupT t == isTupT t' then .ok (zipI f g) s else .bad
  | _, _ => .bad
/-! ### targets -/
def gV (i : Nat) : Tgt := fun x ρ s => .ok (ρ.set i (some x)) s
def setAll : List Nat → List Val → Env → Option Env
  | [], [], ρ => some ρ
  | i :: is, x :: xs, ρ => setAll is xs (ρ.set i (some x))
  | _, _, _ => none
def gT (is : List Nat) : Tgt := fun x ρ s => match x with
  | .tup xs => match setAll is xs ρ with
    | some ρ => .ok ρ s
    | none => .bad
  | _ => .bad
/-! ### comprehensions -/
def wipe (ρ : Env) : List Nat → Env
  | [] => ρ
  | v :: vs => (wipe ρ vs).set v none
/-- the turns: f turns at most, i the turn's number, acc what was made -/
def compGo (its : Its) (g : Tgt) (c : Tst) (e : Ev) (ρ : Env) : Nat → Nat → List Val → Store → Res Tv
  | 0, _, _, _ => .bad
  | f + 1, i, acc, s => match its s with
    | none => .bad
    | some xs => match xs[i]? with
      | none => .ok (.l acc) s
      | some x => (g x ρ s).bind fun ρ' s => (c ρ' s).bind fun b s => if b = true then (e ρ' s).bind fun t s => (mat t s).bind fun y s => if acc.length < LIM then compGo its g c e ρ f (i + 1) (acc ++ [y]) s else .bad
        else compGo its g c e ρ f (i + 1) acc s
def tYes : Tst := fun _ s => .ok true s
def eComp (ix : Ix) (g : Tgt) (own : List Nat) (c : Tst) (e : Ev) : Ev := fun ρ s => (ix ρ s).bind fun its s => match its s with
  | some xs => compGo its g c e (wipe ρ own) (xs.length + 1) 0 [] s
  | none => .bad

/-! ### statements -/
def sNop : Sx := fun ρ s => .ok (.next, ρ) s
def sSeq (a b : Sx) : Sx := fun ρ s => (a ρ s).bind fun r s => match r with
  | (.next, ρ) => b ρ s
  | r => .ok r s
def sAsg (g : Tgt) (e : Ev) : Sx := fun ρ s => (e ρ s).bind fun t s => (mat t s).bind fun x s => (g x ρ s).bind fun ρ s => .ok (.next, ρ) s
/-- a, b = e1, e2 with two local names -/
def sPar (i j : Nat) (a : Avs) : Sx := fun ρ s => (a ρ s).bind fun xs s => match xs with
  | [x, y] => .ok (.next, (ρ.set i (some x)).set j (some y)) s
  | _ => .bad
def sPar3 (i j k : Nat) (a : Avs) : Sx := fun ρ s => (a ρ s).bind fun xs s => match xs with
  | [x, y, z] => .ok (.next, ((ρ.set i (some x)).set j (some y)).set k (some z)) s
  | _ => .bad
def sExp (e : Ev) : Sx := fun ρ s => (e ρ s).bind fun _ s => .ok (.next, ρ) s
def sRet (e : Ev) : Sx := fun ρ s => (e ρ s).bind fun t s => .ok (.ret t, ρ) s
def sRetN : Sx := fun ρ s => .ok (.ret (.v .non), ρ) s
def sIf (t : Tst) (a b : Sx) : Sx := fun ρ s => (t ρ s).bind fun c s => if c = true then a ρ s else b ρ s
def sBrk : Sx := fun ρ s => .ok (.brk, ρ) s
def sRaise (c : Nat) (a : Avs) : Sx := fun ρ s => (a ρ s).bind fun xs s => .exc c xs s
def putF (f : Nat) (v : Val) : List (Nat × Val) → List (Nat × Val)
  | [] => [(f, v)]
  | (g, x) :: r => if g = f then (g, v) :: r else (g, x) :: putF f v r
/-- o.f = e, o an instance of one of the classes cs -/
def refI (cs : List Nat) (x : Tv) (s : Store) : Option (Nat × Nat × List (Nat × Val)) := match x with
  | .v (.ref n) => match s[n]? with
    | some (.ins c fs) => if cs.contains c = true then some (n, c, fs) else none
    | _ => none
  | _ => none
def sFld (cs : List Nat) (o : Ev) (f : Nat) (e : Ev) : Sx := fun ρ s => (e ρ s).bind fun t s => (mat t s).bind fun y s => (o ρ s).bind fun x s => match refI cs x s with
  | some (n, c, fs) => if fs.length < 1000 then .ok (.next, ρ) (s.set n (.ins c (putF f y fs))) else .bad
  | none => .bad
/-- o[i] = e, a list -/
def sSub (o i e : Ev) : Sx := fun ρ s => (e ρ s).bind fun t s => (mat t s).bind fun y s => (o ρ s).bind fun x s => (i ρ s).bind fun k s => match refL x s, k with
  | some (n, xs), .v (.int k) => match ixN xs.length k with
    | some j => .ok (.next, ρ) (updL n (xs.set j y) s)
    | none => .bad
  | _, _ => .bad
/-! ### dicts whose keys are tuples of ints -/
def putK (k : List Int) (v : Val) : List (List Int × Val) → List (List Int × Val)
  | [] => [(k, v)]
  | (g, x) :: r => if g = k then (g, v) :: r else (g, x) :: putK k v r
/-- a key e[:hi], shorter than e -/
abbrev Ek := Env → Store → Res (List Int)
def eKey (e : Ev) (hi : Int) : Ek := fun ρ s => (e ρ s).bind fun t s => match t with
  | .v (.tup xs) => if (cutV xs none (some hi)).length < xs.length then match ints? (cutV xs none (some hi)) with
      | some k => .ok k s
      | none => .bad
    else .bad
  | _ => .bad
def refK (t : Tv) (s : Store) : Option (Nat × List (List Int × Val)) := match t with
  | .v (.ref n) => match s[n]? with
    | some (.dct kvs) => some (n, kvs)
    | _ => none
  | _ => none
def eDIn (k : Ek) (d : Ev) : Ev := fun ρ s => (k ρ s).bind fun k s => (d ρ s).bind fun t s => match refK t s with
  | some (_, kvs) => .ok (.v (.bool (kvs.lookup k).isSome)) s
  | none => .bad
def eDNotIn (k : Ek) (d : Ev) : Ev := fun ρ s => (k ρ s).bind fun k s => (d ρ s).bind fun t s => match refK t s with
  | some (_, kvs) => .ok (.v (.bool (!(kvs.lookup k).isSome))) s
  | none => .bad
def eDGet (d : Ev) (k : Ek) : Ev := fun ρ s => (d ρ s).bind fun t s => (k ρ s).bind fun k s => match refK t s with
  | some (_, kvs) => match kvs.lookup k with
    | some z => .ok (.v z) s
    | none => .bad
  | none => .bad
def sDPut (d : Ev) (k : Ek) (e : Ev) : Sx := fun ρ s => (e ρ s).bind fun t s => (mat t s).bind fun y s => (d ρ s).bind fun t s => (k ρ s).bind fun k s => match refK t s with
  | some (n, kvs) => if kvs.length < LIM then .ok (.next, ρ) (s.set n (.dct (putK k y kvs))) else .bad
  | none => .bad
/-- x = {} whose keys will be tuples -/
def sDict (i : Nat) : Sx := fun ρ s => .ok (.next, ρ.set i (some (.ref s.length))) (s ++ [.dct []])
def forGo (its : Its) (g : Tgt) (b : Sx) : Nat → Nat → Env → Store → Res (Fl × Env)
  | 0, _, _, _ => .bad
  | f + 1, i, ρ, s => match its s with
    | none => .bad
    | some xs => match xs[i]? with
      | none => .ok (.next, ρ) s
      | some x => (g x ρ s).bind fun ρ s => (b ρ s).bind fun r s => match r with
        | (.next, ρ) => forGo its g b f (i + 1) ρ s
        | (.brk, ρ) => .ok (.next, ρ) s
        | r => .ok r s
def sFor (ix : Ix) (g : Tgt) (b : Sx) : Sx := fun ρ s => (ix ρ s).bind fun its s => match its s with
  | some xs => forGo its g b (xs.length + 1) 0 ρ s
  | none => .bad
def whGo (t : Tst) (b : Sx) : Nat → Env → Store → Res (Fl × Env)
  | 0, _, _ => .bad
  | f + 1, ρ, s => (t ρ s).bind fun c s => if c = true then (b ρ s).bind fun r s => match r with
      | (.next, ρ) => whGo t b f ρ s
      | (.brk, ρ) => .ok (.next, ρ) s
      | r => .ok r s
    else .ok (.next, ρ) s
/-- so many turns a while may take -/
abbrev WHILE : Nat := 100000
def sWh (t : Tst) (b : Sx) : Sx := whGo t b WHILE
/-- a def: np parameters, nl names in all -/
def fnOf (np nl : Nat) (b : Sx) : Fn := fun vs s => if vs.length = np then (b (vs.map some ++ List.replicate (nl - np) none) s).bind fun r s => match r with
    | (.next, _) => .ok (.v .non) s
    | (.ret x, _) => .ok x s
    | (.brk, _) => .bad
  else .bad
/-! ### functions as arguments, keywords, own == -/
/-- the ints that the names hold -/
def capI (ρ : Env) : List Nat → Option (List Int)
  | [] => some []
  | j :: js => match ρ[j]? with
    | some (some (.int i)) => (capI ρ js).map (i :: ·)
    | _ => none
def eCallL (F : (Val → Store → Res Tv) → Fn) (a : Avs) (js : List Nat) (Lb : Ev) : Ev := fun ρ s => match capI ρ js with
  | some is => (a ρ s).bind fun xs s => F (fun x s => Lb (some x :: is.map fun i => some (.int i)) s) xs s
  | none => .bad
/-- f(e), f the lambda's name -/
def eLamC (i : Nat) (L : Val → Store → Res Tv) (e : Ev) : Ev := fun ρ s => match ρ[i]? with
  | some none => (e ρ s).bind fun t s => (mat t s).bind fun x s => L x s
  | _ => .bad

def pick {α : Type} (is : List Nat) (l : List α) : List α := is.filterMap fun i => l[i]?
def aApp (a b : Avs) : Avs := fun ρ s => (a ρ s).bind fun xs s => (b ρ s).bind fun ys s => .ok (xs ++ ys) s
def eCallK (F : Fn) (is : List Nat) (a b : Avs) : Ev := eCall F (aPerm (pick is) (aApp a b))
/-- C(..) with keywords; self stands first -/
def eMkK (c : Nat) (F : Fn) (is : List Nat) (a b : Avs) : Ev := fun ρ s => (a ρ s).bind fun xs s => (b ρ s).bind fun ys s => (F (pick is (.ref s.length :: xs ++ ys)) (s ++ [.ins c []])).bind fun r s' => match r with
  | .v .non => .ok (.v (.ref s.length)) s'
  | _ => .bad
def isIns (x : Tv) (c : Nat) (s : Store) : Option Val := match x with
  | .v (.ref n) => match s[n]? with
    | some (.ins d _) => if d = c then some (.ref n) else none
    | _ => none
  | _ => none
def cEqI (c : Nat) (F : Fn) : Op2 := fun x y s => match isIns x c s, isIns y c s with
  | some a, some b => (F [a, b] s).bind fun r s => match r with
    | .v (.bool k) => .ok (.v (.bool k)) s
    | _ => .bad
  | _, _ => .bad
end VI
end
section
set_option linter.all false
set_option autoImplicit false
/-! VI0b: further combinators, in plain Lean: dicts written to, sets that are sorted or counted at once, defaults. -/
namespace VI
/-- in its place, or at the end -/
def putKs (k : List Int) (v : Val) (kvs : List (List Int × Val)) : List (List Int × Val) :=
  if (kvs.any fun kv => decide (kv.1 = k)) = true then kvs.map (fun kv => if kv.1 = k then (kv.1, v) else kv) else kvs ++ [(k, v)]
/-- d[k] = e -/
def sDSet (d : Ev) (k : Ek) (e : Ev) : Sx := fun ρ s => (e ρ s).bind fun t s => (mat t s).bind fun y s => (d ρ s).bind fun t s => (k ρ s).bind fun k s => match refK t s with
  | some (n, kvs) => if kvs.length < LIM then .ok (.next, ρ) (s.set n (.dct (putKs k y kvs))) else .bad
  | none => .bad
/-- an int into its place in a rising list -/
def insI (i : Int) : List Int → List Int
  | [] => [i]
  | j :: r => if i < j then i :: j :: r else if i = j then j :: r else j :: insI i r
def srtI : List Int → List Int
  | [] => []
  | i :: r => insI i (srtI r)
/-- sorted(set(e)), e a list of ints -/
def bSrtSet : B1 := fun x s => match lstOf x s with
  | some xs => match ints? xs with
    | some is => if is.length ≤ 1000 ∧ (srtI is).length < 64 then .ok (.l ((srtI is).map .int)) s else .bad
    | none => .bad
  | none => .bad
theorem srt_mem (i : Int) : ∀ l : List Int, i ∈ srtI l ↔ i ∈ l := by
  have one : ∀ (j : Int) (l : List Int), i ∈ insI j l ↔ i = j ∨ i ∈ l := fun j l => by
    induction l with
    | nil => simp [insI]
    | cons k r ih =>
      unfold insI
      by_cases h1 : j < k
      · rw [if_pos h1]; simp
      · rw [if_neg h1]
        by_cases h2 : j = k
        · rw [if_pos h2]; subst h2; simp
        · rw [if_neg h2, List.mem_cons, ih, List.mem_cons]
          constructor
          · rintro (a | a | a)
            · exact .inr (.inl a)
            · exact .inl a
            · exact .inr (.inr a)
          · rintro (a | a | a)
            · exact .inr (.inl a)
            · exact .inl a
            · exact .inr (.inr a)
  intro l
  induction l with
  | nil => simp [srtI]
  | cons j r ih => unfold srtI; rw [one, ih, List.mem_cons]
theorem srt_rise : ∀ l : List Int, (srtI l).Pairwise (· < ·) := by
  have mem : ∀ (i j : Int) (l : List Int), i ∈ insI j l → i = j ∨ i ∈ l := fun i j l => by
    induction l with
    | nil => simp [insI]
    | cons k r ih =>
      unfold insI
      by_cases h1 : j < k
      · rw [if_pos h1]; simp
      · rw [if_neg h1]
        by_cases h2 : j = k
        · rw [if_pos h2]; intro h; exact .inr h
        · rw [if_neg h2, List.mem_cons, List.mem_cons]
          rintro (a | a)
          · exact .inr (.inl a)
          · rcases ih a with b | b
            · exact .inl b
            · exact .inr (.inr b)
  have one : ∀ (j : Int) (l : List Int), l.Pairwise (· < ·) → (insI j l).Pairwise (· < ·) := fun j l => by
    induction l with
    | nil => intro _; simp [insI]
    | cons k r ih =>
      intro h
      obtain ⟨h1, h2⟩ := List.pairwise_cons.mp h
      unfold insI
      by_cases c1 : j < k
      · rw [if_pos c1]
        refine List.pairwise_cons.mpr ⟨fun a ha => ?_, h⟩
        rcases List.mem_cons.mp ha with rfl | ha
        · exact c1
        · exact Int.lt_trans c1 (h1 a ha)
      · rw [if_neg c1]
        by_cases c2 : j = k
        · rw [if_pos c2]; exact h
        · rw [if_neg c2]
          refine List.pairwise_cons.mpr ⟨fun a ha => ?_, ih h2⟩
          rcases mem a j r ha with rfl | ha
          · omega
          · exact h1 a ha
  intro l
  induction l with
  | nil => exact .nil
  | cons j r ih => exact one j _ ih
theorem rise_eq : ∀ {a b : List Int}, a.Pairwise (· < ·) → b.Pairwise (· < ·) → (∀ i, i ∈ a ↔ i ∈ b) → a = b
  | [], [], _, _, _ => rfl
  | [], y :: b, _, _, h => absurd ((h y).mpr List.mem_cons_self) List.not_mem_nil
  | x :: a, [], _, _, h => absurd ((h x).mp List.mem_cons_self) List.not_mem_nil
  | x :: a, y :: b, ha, hb, h => by
    obtain ⟨a1, a2⟩ := List.pairwise_cons.mp ha
    obtain ⟨b1, b2⟩ := List.pairwise_cons.mp hb
    have e : x = y := by
      rcases List.mem_cons.mp ((h x).mp List.mem_cons_self) with e | e
      · exact e
      · rcases List.mem_cons.mp ((h y).mpr List.mem_cons_self) with e' | e'
        · exact e'.symm
        · have := b1 x e; have := a1 y e'; omega
    subst e
    rw [rise_eq a2 b2 fun i => ?_]
    have hi := h i
    rw [List.mem_cons, List.mem_cons] at hi
    constructor
    · intro m
      have := a1 i m
      rcases hi.mp (.inr m) with e | e
      · omega
      · exact e
    · intro m
      have := b1 i m
      rcases hi.mpr (.inr m) with e | e
      · omega
      · exact e
def strs? : List Val → Option (List Nat)
  | [] => some []
  | .str i :: r => (strs? r).map (i :: ·)
  | _ :: _ => none
/-- each one once, as first met -/
def dedS {α : Type} [BEq α] (l : List α) : List α := l.foldl (fun acc x => if acc.contains x then acc else acc ++ [x]) []
/-- len(set(e)), e a tuple of texts -/
def bLenSet : B1 := fun x s => match x with
  | .v (.tup xs) => match strs? xs with
    | some is => if is.length ≤ 1000 then .ok (.v (.int ((dedS is).length : Nat))) s else .bad
    | none => .bad
  | _ => .bad
/-- two lists of N instances of the class c, each pair equal by F (or the same); the lists are read anew at each turn -/
def eqGo (c : Nat) (F : Fn) (x y : Tv) (N : Nat) : Nat → Store → Res Bool
  | 0, s => match lstOf x s, lstOf y s with
    | some xs, some ys => if xs.length = N ∧ ys.length = N then .ok true s else .bad
    | _, _ => .bad
  | m + 1, s => match lstOf x s, lstOf y s with
    | some xs, some ys => if xs.length = N ∧ ys.length = N then match xs[N - (m + 1)]?, ys[N - (m + 1)]? with
        | some (.ref j), some (.ref k) => match isIns (.v (.ref j)) c s, isIns (.v (.ref k)) c s with
          | some _, some _ => if j = k then eqGo c F x y N m s else (F [.ref j, .ref k] s).bind fun r s => match r with
            | .v (.bool b) => if b = true then eqGo c F x y N m s else .bad
            | _ => .bad
          | _, _ => .bad
        | _, _ => .bad
      else .bad
    | _, _ => .bad
def cEqIL (c : Nat) (F : Fn) : Op2 := fun x y s => match lstOf x s with
  | some xs => (eqGo c F x y xs.length xs.length s).bind fun _ s => .ok (.v (.bool true)) s
  | none => .bad
/-- a, b, .. = a list in the store -/
def gL (is : List Nat) : Tgt := fun x ρ s => match lstOf (.v x) s with
  | some xs => match setAll is xs ρ with
    | some ρ => .ok ρ s
    | none => .bad
  | none => .bad
/-- values that fill up -/
def aDs (ds : List Val) : Avs := fun _ s => .ok ds s
end VI
end
section
set_option Elab.async false
set_option linter.all false
/-! VI0c: len of an instance by its own __len__. -/
namespace VI
def bLenI (c : Nat) (F : Fn) : B1 := fun x s => match isIns x c s with
  | some a => (F [a] s).bind fun r s => match r with
    | .v (.int n) => if 0 ≤ n ∧ n < 9223372036854775808 then .ok (.v (.int n)) s else .bad
    | _ => .bad
  | none => .bad
end VI
end
section
set_option Elab.async false
set_option linter.all false
/-! VI0d: a name and a field as targets of one pair. -/
namespace VI
def gNF (i : Nat) (cs : List Nat) (o : Ev) (f : Nat) : Tgt := fun x ρ s => match x with
  | .tup [a, b] => (o (ρ.set i (some a)) s).bind fun t s => match refI cs t s with
    | some (n, c, fs) => if fs.length < 1000 then .ok (ρ.set i (some a)) (s.set n (.ins c (putF f b fs))) else .bad
    | none => .bad
  | _ => .bad
end VI
end
section
set_option Elab.async false
set_option linter.all false
/-! VI0e: places of lists as targets, two targets of one pair. -/
namespace VI
def gSub (o i : Ev) : Tgt := fun x ρ s => (o ρ s).bind fun t s => (i ρ s).bind fun k s => match refL t s, k with
  | some (n, xs), .v (.int k) => match ixN xs.length k with
    | some j => .ok ρ (updL n (xs.set j x) s)
    | none => .bad
  | _, _ => .bad
def gPr (g h : Tgt) : Tgt := fun x ρ s => match x with
  | .tup [a, b] => (g a ρ s).bind fun ρ s => h b ρ s
  | _ => .bad
/-- l.index(x), l a list in the store -/
def eIxL (e a : Ev) : Ev := fun ρ s => (e ρ s).bind fun o s => if (refL o s).isSome = true then (a ρ s).bind fun t s => match refL o s, tvD s t with
  | some (_, xs), some d => match toDs s DEEP xs with
    | some ds => match firstIx d ds 0 with
      | some j => .ok (.v (.int (j : Nat))) s
      | none => .bad
    | none => .bad
  | _, _ => .bad
  else .bad
theorem firstIx_ok {d : Dt} : ∀ {ds : List Dt} {k j : Nat}, firstIx d ds k = some j → k ≤ j ∧ (∃ e, ds[j - k]? = some e ∧ Dt.eqv e d = true) ∧ ∀ m e, m < j - k → ds[m]? = some e → Dt.eqv e d = false
  | [], _, _, h => by cases h
  | e :: r, k, j, h => by
    unfold firstIx at h
    by_cases he : Dt.eqv e d = true
    · rw [if_pos he] at h
      cases h
      exact ⟨Nat.le_refl _, ⟨e, by rw [Nat.sub_self]; rfl, he⟩, fun m _ hm _ => by omega⟩
    · rw [if_neg he] at h
      obtain ⟨h1, ⟨e', h2, h3⟩, h4⟩ := firstIx_ok h
      refine ⟨by omega, ⟨e', ?_, h3⟩, fun m e'' hm hx => ?_⟩
      · have : j - k = (j - (k + 1)) + 1 := by omega
        rw [this, List.getElem?_cons_succ]; exact h2
      · cases m with
        | zero =>
          simp at hx
          subst hx
          exact eq_false_of_ne_true he
        | succ m => exact h4 m e'' (by omega) (by simpa using hx)
end VI
end
section
set_option Elab.async false
set_option linter.all false
set_option maxRecDepth 100000
/-! VI0f: x in (a, b) where a, b are lists. -/
namespace VI
def isInD (x y : Tv) (s : Store) : Option Bool := match y with
  | .v (.tup ys) => match tvD s x, toDs s DEEP ys with
    | some d, some ds => some (ds.any fun z => Dt.eqv z d)
    | _, _ => none
  | _ => none
def cInD : Op2 := fun x y s => ans (isInD x y s) s
def cNotInD : Op2 := fun x y s => ans ((isInD x y s).map not) s
end VI
end
section
set_option linter.all false
set_option autoImplicit false
set_option synthInstance.maxHeartbeats 400000
set_option synthInstance.maxSize 4096
/-! VI26: what lets no exception out; raise, try, str(a) == str(b). Printed by genx.py. -/
namespace VI
abbrev NE {α : Type} (r : Res α) : Prop := ∀ c fs s, r ≠ .exc c fs s
class NXe (f : Ev) : Prop where nx : ∀ ρ s, NE (f ρ s)
class NXt (f : Tst) : Prop where nx : ∀ ρ s, NE (f ρ s)
class NXa (f : Avs) : Prop where nx : ∀ ρ s, NE (f ρ s)
class NXs (f : Sx) : Prop where nx : ∀ ρ s, NE (f ρ s)
class NXf (f : Fn) : Prop where nx : ∀ xs s, NE (f xs s)
class NXg (f : Tgt) : Prop where nx : ∀ x ρ s, NE (f x ρ s)
class NXi (f : Ix) : Prop where nx : ∀ ρ s, NE (f ρ s)
class NXk (f : Ek) : Prop where nx : ∀ ρ s, NE (f ρ s)
class NXr (f : Rg) : Prop where nx : ∀ ρ s, NE (f ρ s)
class NXo (f : Op2) : Prop where nx : ∀ x y s, NE (f x y s)
class NXb (f : B1) : Prop where nx : ∀ x s, NE (f x s)
class NXm (o : Option Ev) : Prop where nx : ∀ e, o = some e → NXe e
section
variable {α β : Type}
theorem ne_ok (a : α) (s : Store) : NE (Res.ok a s) := fun _ _ _ h => by cases h
theorem ne_bad : NE (Res.bad : Res α) := fun _ _ _ h => by cases h
theorem ne_bind {r : Res α} {f : α → Store → Res β} (h : NE r) (k : ∀ a s, NE (f a s)) : NE (r.bind f) := fun c fs s q => by
  cases r with
  | ok a s1 => exact k a s1 c fs s q
  | exc c' fs' s' => exact h c' fs' s' rfl
  | bad => cases q
end
theorem ne_mat (t : Tv) (s : Store) : NE (mat t s) := by
  unfold mat
  split <;> exact ne_ok _ _
theorem ne_ans (b : Option Bool) (s : Store) : NE (ans b s) := by
  unfold ans
  split
  · exact ne_ok _ _
  · exact ne_bad
instance : NXm none := ⟨fun _ h => by cases h⟩
instance {e : Ev} [h : NXe e] : NXm (some e) := ⟨fun _ q => by cases q; exact h⟩
theorem ne_opt {o : Option Ev} [h : NXm o] (ρ : Env) (s : Store) : NE (optI o ρ s) := by
  cases o with
  | none => exact ne_ok _ _
  | some e =>
    have := h.nx e rfl
    unfold optI
    repeat' (first | exact ne_ok _ _ | exact ne_bad | exact NXe.nx _ _ | exact NXt.nx _ _ | exact NXa.nx _ _ | exact NXs.nx _ _ | exact NXf.nx _ _ | exact NXg.nx _ _ _ | exact NXi.nx _ _ | exact NXk.nx _ _ | exact NXr.nx _ _ | exact NXo.nx _ _ _ | exact NXb.nx _ _ | exact ne_mat _ _ | exact ne_opt _ _ | exact ne_ans _ _ | refine ne_bind ?_ fun _ _ => ?_ | split)
instance {x : Val} : NXe (eC x) := ⟨fun ρ s => by
  unfold eC
  repeat' (first | exact ne_ok _ _ | exact ne_bad | exact NXe.nx _ _ | exact NXt.nx _ _ | exact NXa.nx _ _ | exact NXs.nx _ _ | exact NXf.nx _ _ | exact NXg.nx _ _ _ | exact NXi.nx _ _ | exact NXk.nx _ _ | exact NXr.nx _ _ | exact NXo.nx _ _ _ | exact NXb.nx _ _ | exact ne_mat _ _ | exact ne_opt _ _ | exact ne_ans _ _ | refine ne_bind ?_ fun _ _ => ?_ | split)⟩
instance {i : Nat} : NXe (eV i) := ⟨fun ρ s => by
  unfold eV
  repeat' (first | exact ne_ok _ _ | exact ne_bad | exact NXe.nx _ _ | exact NXt.nx _ _ | exact NXa.nx _ _ | exact NXs.nx _ _ | exact NXf.nx _ _ | exact NXg.nx _ _ _ | exact NXi.nx _ _ | exact NXk.nx _ _ | exact NXr.nx _ _ | exact NXo.nx _ _ _ | exact NXb.nx _ _ | exact ne_mat _ _ | exact ne_opt _ _ | exact ne_ans _ _ | refine ne_bind ?_ fun _ _ => ?_ | split)⟩
instance : NXa aNil := ⟨fun ρ s => by
  unfold aNil
  repeat' (first | exact ne_ok _ _ | exact ne_bad | exact NXe.nx _ _ | exact NXt.nx _ _ | exact NXa.nx _ _ | exact NXs.nx _ _ | exact NXf.nx _ _ | exact NXg.nx _ _ _ | exact NXi.nx _ _ | exact NXk.nx _ _ | exact NXr.nx _ _ | exact NXo.nx _ _ _ | exact NXb.nx _ _ | exact ne_mat _ _ | exact ne_opt _ _ | exact ne_ans _ _ | refine ne_bind ?_ fun _ _ => ?_ | split)⟩
instance {e : Ev} [NXe e] {r : Avs} [NXa r] : NXa (aCons e r) := ⟨fun ρ s => by
  unfold aCons
  repeat' (first | exact ne_ok _ _ | exact ne_bad | exact NXe.nx _ _ | exact NXt.nx _ _ | exact NXa.nx _ _ | exact NXs.nx _ _ | exact NXf.nx _ _ | exact NXg.nx _ _ _ | exact NXi.nx _ _ | exact NXk.nx _ _ | exact NXr.nx _ _ | exact NXo.nx _ _ _ | exact NXb.nx _ _ | exact ne_mat _ _ | exact ne_opt _ _ | exact ne_ans _ _ | refine ne_bind ?_ fun _ _ => ?_ | split)⟩
instance {a : Avs} [NXa a] : NXe (eTup a) := ⟨fun ρ s => by
  unfold eTup
  repeat' (first | exact ne_ok _ _ | exact ne_bad | exact NXe.nx _ _ | exact NXt.nx _ _ | exact NXa.nx _ _ | exact NXs.nx _ _ | exact NXf.nx _ _ | exact NXg.nx _ _ _ | exact NXi.nx _ _ | exact NXk.nx _ _ | exact NXr.nx _ _ | exact NXo.nx _ _ _ | exact NXb.nx _ _ | exact ne_mat _ _ | exact ne_opt _ _ | exact ne_ans _ _ | refine ne_bind ?_ fun _ _ => ?_ | split)⟩
instance {a : Avs} [NXa a] : NXe (eLst a) := ⟨fun ρ s => by
  unfold eLst
  repeat' (first | exact ne_ok _ _ | exact ne_bad | exact NXe.nx _ _ | exact NXt.nx _ _ | exact NXa.nx _ _ | exact NXs.nx _ _ | exact NXf.nx _ _ | exact NXg.nx _ _ _ | exact NXi.nx _ _ | exact NXk.nx _ _ | exact NXr.nx _ _ | exact NXo.nx _ _ _ | exact NXb.nx _ _ | exact ne_mat _ _ | exact ne_opt _ _ | exact ne_ans _ _ | refine ne_bind ?_ fun _ _ => ?_ | split)⟩
instance {o : Op2} [NXo o] {a : Ev} [NXe a] {b : Ev} [NXe b] : NXe (eBin o a b) := ⟨fun ρ s => by
  unfold eBin
  repeat' (first | exact ne_ok _ _ | exact ne_bad | exact NXe.nx _ _ | exact NXt.nx _ _ | exact NXa.nx _ _ | exact NXs.nx _ _ | exact NXf.nx _ _ | exact NXg.nx _ _ _ | exact NXi.nx _ _ | exact NXk.nx _ _ | exact NXr.nx _ _ | exact NXo.nx _ _ _ | exact NXb.nx _ _ | exact ne_mat _ _ | exact ne_opt _ _ | exact ne_ans _ _ | refine ne_bind ?_ fun _ _ => ?_ | split)⟩
instance : NXo oAdd := ⟨fun x y s => by
  unfold oAdd
  repeat' (first | exact ne_ok _ _ | exact ne_bad | exact NXe.nx _ _ | exact NXt.nx _ _ | exact NXa.nx _ _ | exact NXs.nx _ _ | exact NXf.nx _ _ | exact NXg.nx _ _ _ | exact NXi.nx _ _ | exact NXk.nx _ _ | exact NXr.nx _ _ | exact NXo.nx _ _ _ | exact NXb.nx _ _ | exact ne_mat _ _ | exact ne_opt _ _ | exact ne_ans _ _ | refine ne_bind ?_ fun _ _ => ?_ | split)⟩
instance : NXo oSub := ⟨fun x y s => by
  unfold oSub
  repeat' (first | exact ne_ok _ _ | exact ne_bad | exact NXe.nx _ _ | exact NXt.nx _ _ | exact NXa.nx _ _ | exact NXs.nx _ _ | exact NXf.nx _ _ | exact NXg.nx _ _ _ | exact NXi.nx _ _ | exact NXk.nx _ _ | exact NXr.nx _ _ | exact NXo.nx _ _ _ | exact NXb.nx _ _ | exact ne_mat _ _ | exact ne_opt _ _ | exact ne_ans _ _ | refine ne_bind ?_ fun _ _ => ?_ | split)⟩
instance : NXo oMul := ⟨fun x y s => by
  unfold oMul
  repeat' (first | exact ne_ok _ _ | exact ne_bad | exact NXe.nx _ _ | exact NXt.nx _ _ | exact NXa.nx _ _ | exact NXs.nx _ _ | exact NXf.nx _ _ | exact NXg.nx _ _ _ | exact NXi.nx _ _ | exact NXk.nx _ _ | exact NXr.nx _ _ | exact NXo.nx _ _ _ | exact NXb.nx _ _ | exact ne_mat _ _ | exact ne_opt _ _ | exact ne_ans _ _ | refine ne_bind ?_ fun _ _ => ?_ | split)⟩
instance : NXo oMod := ⟨fun x y s => by
  unfold oMod
  repeat' (first | exact ne_ok _ _ | exact ne_bad | exact NXe.nx _ _ | exact NXt.nx _ _ | exact NXa.nx _ _ | exact NXs.nx _ _ | exact NXf.nx _ _ | exact NXg.nx _ _ _ | exact NXi.nx _ _ | exact NXk.nx _ _ | exact NXr.nx _ _ | exact NXo.nx _ _ _ | exact NXb.nx _ _ | exact ne_mat _ _ | exact ne_opt _ _ | exact ne_ans _ _ | refine ne_bind ?_ fun _ _ => ?_ | split)⟩
instance : NXo oDiv := ⟨fun x y s => by
  unfold oDiv
  repeat' (first | exact ne_ok _ _ | exact ne_bad | exact NXe.nx _ _ | exact NXt.nx _ _ | exact NXa.nx _ _ | exact NXs.nx _ _ | exact NXf.nx _ _ | exact NXg.nx _ _ _ | exact NXi.nx _ _ | exact NXk.nx _ _ | exact NXr.nx _ _ | exact NXo.nx _ _ _ | exact NXb.nx _ _ | exact ne_mat _ _ | exact ne_opt _ _ | exact ne_ans _ _ | refine ne_bind ?_ fun _ _ => ?_ | split)⟩
instance : NXo oPow := ⟨fun x y s => by
  unfold oPow
  repeat' (first | exact ne_ok _ _ | exact ne_bad | exact NXe.nx _ _ | exact NXt.nx _ _ | exact NXa.nx _ _ | exact NXs.nx _ _ | exact NXf.nx _ _ | exact NXg.nx _ _ _ | exact NXi.nx _ _ | exact NXk.nx _ _ | exact NXr.nx _ _ | exact NXo.nx _ _ _ | exact NXb.nx _ _ | exact ne_mat _ _ | exact ne_opt _ _ | exact ne_ans _ _ | refine ne_bind ?_ fun _ _ => ?_ | split)⟩
instance : NXo cEq := ⟨fun x y s => by
  unfold cEq
  repeat' (first | exact ne_ok _ _ | exact ne_bad | exact NXe.nx _ _ | exact NXt.nx _ _ | exact NXa.nx _ _ | exact NXs.nx _ _ | exact NXf.nx _ _ | exact NXg.nx _ _ _ | exact NXi.nx _ _ | exact NXk.nx _ _ | exact NXr.nx _ _ | exact NXo.nx _ _ _ | exact NXb.nx _ _ | exact ne_mat _ _ | exact ne_opt _ _ | exact ne_ans _ _ | refine ne_bind ?_ fun _ _ => ?_ | split)⟩
instance : NXo cNe := ⟨fun x y s => by
  unfold cNe
  repeat' (first | exact ne_ok _ _ | exact ne_bad | exact NXe.nx _ _ | exact NXt.nx _ _ | exact NXa.nx _ _ | exact NXs.nx _ _ | exact NXf.nx _ _ | exact NXg.nx _ _ _ | exact NXi.nx _ _ | exact NXk.nx _ _ | exact NXr.nx _ _ | exact NXo.nx _ _ _ | exact NXb.nx _ _ | exact ne_mat _ _ | exact ne_opt _ _ | exact ne_ans _ _ | refine ne_bind ?_ fun _ _ => ?_ | split)⟩
instance : NXo cIsN := ⟨fun x y s => by
  unfold cIsN
  repeat' (first | exact ne_ok _ _ | exact ne_bad | exact NXe.nx _ _ | exact NXt.nx _ _ | exact NXa.nx _ _ | exact NXs.nx _ _ | exact NXf.nx _ _ | exact NXg.nx _ _ _ | exact NXi.nx _ _ | exact NXk.nx _ _ | exact NXr.nx _ _ | exact NXo.nx _ _ _ | exact NXb.nx _ _ | exact ne_mat _ _ | exact ne_opt _ _ | exact ne_ans _ _ | refine ne_bind ?_ fun _ _ => ?_ | split)⟩
instance : NXo cNotN := ⟨fun x y s => by
  unfold cNotN
  repeat' (first | exact ne_ok _ _ | exact ne_bad | exact NXe.nx _ _ | exact NXt.nx _ _ | exact NXa.nx _ _ | exact NXs.nx _ _ | exact NXf.nx _ _ | exact NXg.nx _ _ _ | exact NXi.nx _ _ | exact NXk.nx _ _ | exact NXr.nx _ _ | exact NXo.nx _ _ _ | exact NXb.nx _ _ | exact ne_mat _ _ | exact ne_opt _ _ | exact ne_ans _ _ | refine ne_bind ?_ fun _ _ => ?_ | split)⟩
instance : NXo cIn := ⟨fun x y s => by
  unfold cIn
  repeat' (first | exact ne_ok _ _ | exact ne_bad | exact NXe.nx _ _ | exact NXt.nx _ _ | exact NXa.nx _ _ | exact NXs.nx _ _ | exact NXf.nx _ _ | exact NXg.nx _ _ _ | exact NXi.nx _ _ | exact NXk.nx _ _ | exact NXr.nx _ _ | exact NXo.nx _ _ _ | exact NXb.nx _ _ | exact ne_mat _ _ | exact ne_opt _ _ | exact ne_ans _ _ | refine ne_bind ?_ fun _ _ => ?_ | split)⟩
instance : NXo cNotIn := ⟨fun x y s => by
  unfold cNotIn
  repeat' (first | exact ne_ok _ _ | exact ne_bad | exact NXe.nx _ _ | exact NXt.nx _ _ | exact NXa.nx _ _ | exact NXs.nx _ _ | exact NXf.nx _ _ | exact NXg.nx _ _ _ | exact NXi.nx _ _ | exact NXk.nx _ _ | exact NXr.nx _ _ | exact NXo.nx _ _ _ | exact NXb.nx _ _ | exact ne_mat _ _ | exact ne_opt _ _ | exact ne_ans _ _ | refine ne_bind ?_ fun _ _ => ?_ | split)⟩
instance : NXo oIdx := ⟨fun x y s => by
  unfold oIdx
  repeat' (first | exact ne_ok _ _ | exact ne_bad | exact NXe.nx _ _ | exact NXt.nx _ _ | exact NXa.nx _ _ | exact NXs.nx _ _ | exact NXf.nx _ _ | exact NXg.nx _ _ _ | exact NXi.nx _ _ | exact NXk.nx _ _ | exact NXr.nx _ _ | exact NXo.nx _ _ _ | exact NXb.nx _ _ | exact ne_mat _ _ | exact ne_opt _ _ | exact ne_ans _ _ | refine ne_bind ?_ fun _ _ => ?_ | split)⟩
instance : NXo oMax := ⟨fun x y s => by
  unfold oMax
  repeat' (first | exact ne_ok _ _ | exact ne_bad | exact NXe.nx _ _ | exact NXt.nx _ _ | exact NXa.nx _ _ | exact NXs.nx _ _ | exact NXf.nx _ _ | exact NXg.nx _ _ _ | exact NXi.nx _ _ | exact NXk.nx _ _ | exact NXr.nx _ _ | exact NXo.nx _ _ _ | exact NXb.nx _ _ | exact ne_mat _ _ | exact ne_opt _ _ | exact ne_ans _ _ | refine ne_bind ?_ fun _ _ => ?_ | split)⟩
instance : NXo oMin := ⟨fun x y s => by
  unfold oMin
  repeat' (first | exact ne_ok _ _ | exact ne_bad | exact NXe.nx _ _ | exact NXt.nx _ _ | exact NXa.nx _ _ | exact NXs.nx _ _ | exact NXf.nx _ _ | exact NXg.nx _ _ _ | exact NXi.nx _ _ | exact NXk.nx _ _ | exact NXr.nx _ _ | exact NXo.nx _ _ _ | exact NXb.nx _ _ | exact ne_mat _ _ | exact ne_opt _ _ | exact ne_ans _ _ | refine ne_bind ?_ fun _ _ => ?_ | split)⟩
instance : NXo cNotInD := ⟨fun x y s => by
  unfold cNotInD
  repeat' (first | exact ne_ok _ _ | exact ne_bad | exact NXe.nx _ _ | exact NXt.nx _ _ | exact NXa.nx _ _ | exact NXs.nx _ _ | exact NXf.nx _ _ | exact NXg.nx _ _ _ | exact NXi.nx _ _ | exact NXk.nx _ _ | exact NXr.nx _ _ | exact NXo.nx _ _ _ | exact NXb.nx _ _ | exact ne_mat _ _ | exact ne_opt _ _ | exact ne_ans _ _ | refine ne_bind ?_ fun _ _ => ?_ | split)⟩
instance : NXo cInD := ⟨fun x y s => by
  unfold cInD
  repeat' (first | exact ne_ok _ _ | exact ne_bad | exact NXe.nx _ _ | exact NXt.nx _ _ | exact NXa.nx _ _ | exact NXs.nx _ _ | exact NXf.nx _ _ | exact NXg.nx _ _ _ | exact NXi.nx _ _ | exact NXk.nx _ _ | exact NXr.nx _ _ | exact NXo.nx _ _ _ | exact NXb.nx _ _ | exact ne_mat _ _ | exact ne_opt _ _ | exact ne_ans _ _ | refine ne_bind ?_ fun _ _ => ?_ | split)⟩
instance {p : Int → Int → Bool} : NXo (cInt p) := ⟨fun x y s => by
  unfold cInt
  repeat' (first | exact ne_ok _ _ | exact ne_bad | exact NXe.nx _ _ | exact NXt.nx _ _ | exact NXa.nx _ _ | exact NXs.nx _ _ | exact NXf.nx _ _ | exact NXg.nx _ _ _ | exact NXi.nx _ _ | exact NXk.nx _ _ | exact NXr.nx _ _ | exact NXo.nx _ _ _ | exact NXb.nx _ _ | exact ne_mat _ _ | exact ne_opt _ _ | exact ne_ans _ _ | refine ne_bind ?_ fun _ _ => ?_ | split)⟩
instance : NXo cLt := by
  unfold cLt
  infer_instance
instance : NXo cLe := by
  unfold cLe
  infer_instance
instance : NXo cGt := by
  unfold cGt
  infer_instance
instance : NXo cGe := by
  unfold cGe
  infer_instance
instance {a : Ev} [NXe a] : NXe (eNeg a) := ⟨fun ρ s => by
  unfold eNeg
  repeat' (first | exact ne_ok _ _ | exact ne_bad | exact NXe.nx _ _ | exact NXt.nx _ _ | exact NXa.nx _ _ | exact NXs.nx _ _ | exact NXf.nx _ _ | exact NXg.nx _ _ _ | exact NXi.nx _ _ | exact NXk.nx _ _ | exact NXr.nx _ _ | exact NXo.nx _ _ _ | exact NXb.nx _ _ | exact ne_mat _ _ | exact ne_opt _ _ | exact ne_ans _ _ | refine ne_bind ?_ fun _ _ => ?_ | split)⟩
instance {a : Ev} [NXe a] : NXe (eNot a) := ⟨fun ρ s => by
  unfold eNot
  repeat' (first | exact ne_ok _ _ | exact ne_bad | exact NXe.nx _ _ | exact NXt.nx _ _ | exact NXa.nx _ _ | exact NXs.nx _ _ | exact NXf.nx _ _ | exact NXg.nx _ _ _ | exact NXi.nx _ _ | exact NXk.nx _ _ | exact NXr.nx _ _ | exact NXo.nx _ _ _ | exact NXb.nx _ _ | exact ne_mat _ _ | exact ne_opt _ _ | exact ne_ans _ _ | refine ne_bind ?_ fun _ _ => ?_ | split)⟩
instance {a : Ev} [NXe a] {b : Ev} [NXe b] : NXe (eAnd a b) := ⟨fun ρ s => by
  unfold eAnd
  repeat' (first | exact ne_ok _ _ | exact ne_bad | exact NXe.nx _ _ | exact NXt.nx _ _ | exact NXa.nx _ _ | exact NXs.nx _ _ | exact NXf.nx _ _ | exact NXg.nx _ _ _ | exact NXi.nx _ _ | exact NXk.nx _ _ | exact NXr.nx _ _ | exact NXo.nx _ _ _ | exact NXb.nx _ _ | exact ne_mat _ _ | exact ne_opt _ _ | exact ne_ans _ _ | refine ne_bind ?_ fun _ _ => ?_ | split)⟩
instance {a : Ev} [NXe a] {b : Ev} [NXe b] : NXe (eOr a b) := ⟨fun ρ s => by
  unfold eOr
  repeat' (first | exact ne_ok _ _ | exact ne_bad | exact NXe.nx _ _ | exact NXt.nx _ _ | exact NXa.nx _ _ | exact NXs.nx _ _ | exact NXf.nx _ _ | exact NXg.nx _ _ _ | exact NXi.nx _ _ | exact NXk.nx _ _ | exact NXr.nx _ _ | exact NXo.nx _ _ _ | exact NXb.nx _ _ | exact ne_mat _ _ | exact ne_opt _ _ | exact ne_ans _ _ | refine ne_bind ?_ fun _ _ => ?_ | split)⟩
instance {o : Op2} [NXo o] {o' : Op2} [NXo o'] {a : Ev} [NXe a] {b : Ev} [NXe b] {c : Ev} [NXe c] : NXe (eChain o o' a b c) := ⟨fun ρ s => by
  unfold eChain
  repeat' (first | exact ne_ok _ _ | exact ne_bad | exact NXe.nx _ _ | exact NXt.nx _ _ | exact NXa.nx _ _ | exact NXs.nx _ _ | exact NXf.nx _ _ | exact NXg.nx _ _ _ | exact NXi.nx _ _ | exact NXk.nx _ _ | exact NXr.nx _ _ | exact NXo.nx _ _ _ | exact NXb.nx _ _ | exact ne_mat _ _ | exact ne_opt _ _ | exact ne_ans _ _ | refine ne_bind ?_ fun _ _ => ?_ | split)⟩
instance {e : Ev} [NXe e] : NXt (tB e) := ⟨fun ρ s => by
  unfold tB
  repeat' (first | exact ne_ok _ _ | exact ne_bad | exact NXe.nx _ _ | exact NXt.nx _ _ | exact NXa.nx _ _ | exact NXs.nx _ _ | exact NXf.nx _ _ | exact NXg.nx _ _ _ | exact NXi.nx _ _ | exact NXk.nx _ _ | exact NXr.nx _ _ | exact NXo.nx _ _ _ | exact NXb.nx _ _ | exact ne_mat _ _ | exact ne_opt _ _ | exact ne_ans _ _ | refine ne_bind ?_ fun _ _ => ?_ | split)⟩
instance {e : Ev} [NXe e] : NXt (tTru e) := ⟨fun ρ s => by
  unfold tTru
  repeat' (first | exact ne_ok _ _ | exact ne_bad | exact NXe.nx _ _ | exact NXt.nx _ _ | exact NXa.nx _ _ | exact NXs.nx _ _ | exact NXf.nx _ _ | exact NXg.nx _ _ _ | exact NXi.nx _ _ | exact NXk.nx _ _ | exact NXr.nx _ _ | exact NXo.nx _ _ _ | exact NXb.nx _ _ | exact ne_mat _ _ | exact ne_opt _ _ | exact ne_ans _ _ | refine ne_bind ?_ fun _ _ => ?_ | split)⟩
instance {t : Tst} [NXt t] : NXt (tNot t) := ⟨fun ρ s => by
  unfold tNot
  repeat' (first | exact ne_ok _ _ | exact ne_bad | exact NXe.nx _ _ | exact NXt.nx _ _ | exact NXa.nx _ _ | exact NXs.nx _ _ | exact NXf.nx _ _ | exact NXg.nx _ _ _ | exact NXi.nx _ _ | exact NXk.nx _ _ | exact NXr.nx _ _ | exact NXo.nx _ _ _ | exact NXb.nx _ _ | exact ne_mat _ _ | exact ne_opt _ _ | exact ne_ans _ _ | refine ne_bind ?_ fun _ _ => ?_ | split)⟩
instance {t : Tst} [NXt t] {u : Tst} [NXt u] : NXt (tAnd t u) := ⟨fun ρ s => by
  unfold tAnd
  repeat' (first | exact ne_ok _ _ | exact ne_bad | exact NXe.nx _ _ | exact NXt.nx _ _ | exact NXa.nx _ _ | exact NXs.nx _ _ | exact NXf.nx _ _ | exact NXg.nx _ _ _ | exact NXi.nx _ _ | exact NXk.nx _ _ | exact NXr.nx _ _ | exact NXo.nx _ _ _ | exact NXb.nx _ _ | exact ne_mat _ _ | exact ne_opt _ _ | exact ne_ans _ _ | refine ne_bind ?_ fun _ _ => ?_ | split)⟩
instance {t : Tst} [NXt t] {u : Tst} [NXt u] : NXt (tOr t u) := ⟨fun ρ s => by
  unfold tOr
  repeat' (first | exact ne_ok _ _ | exact ne_bad | exact NXe.nx _ _ | exact NXt.nx _ _ | exact NXa.nx _ _ | exact NXs.nx _ _ | exact NXf.nx _ _ | exact NXg.nx _ _ _ | exact NXi.nx _ _ | exact NXk.nx _ _ | exact NXr.nx _ _ | exact NXo.nx _ _ _ | exact NXb.nx _ _ | exact ne_mat _ _ | exact ne_opt _ _ | exact ne_ans _ _ | refine ne_bind ?_ fun _ _ => ?_ | split)⟩
instance : NXt tYes := ⟨fun ρ s => by
  unfold tYes
  repeat' (first | exact ne_ok _ _ | exact ne_bad | exact NXe.nx _ _ | exact NXt.nx _ _ | exact NXa.nx _ _ | exact NXs.nx _ _ | exact NXf.nx _ _ | exact NXg.nx _ _ _ | exact NXi.nx _ _ | exact NXk.nx _ _ | exact NXr.nx _ _ | exact NXo.nx _ _ _ | exact NXb.nx _ _ | exact ne_mat _ _ | exact ne_opt _ _ | exact ne_ans _ _ | refine ne_bind ?_ fun _ _ => ?_ | split)⟩
instance {t : Tst} [NXt t] {a : Ev} [NXe a] {b : Ev} [NXe b] : NXe (eIf t a b) := ⟨fun ρ s => by
  unfold eIf
  repeat' (first | exact ne_ok _ _ | exact ne_bad | exact NXe.nx _ _ | exact NXt.nx _ _ | exact NXa.nx _ _ | exact NXs.nx _ _ | exact NXf.nx _ _ | exact NXg.nx _ _ _ | exact NXi.nx _ _ | exact NXk.nx _ _ | exact NXr.nx _ _ | exact NXo.nx _ _ _ | exact NXb.nx _ _ | exact ne_mat _ _ | exact ne_opt _ _ | exact ne_ans _ _ | refine ne_bind ?_ fun _ _ => ?_ | split)⟩
theorem ne_slc (x : Tv) (lo hi : Option Int) (s : Store) : NE (slc x lo hi s) := by
  unfold slc
  repeat' (first | exact ne_ok _ _ | exact ne_bad | exact NXe.nx _ _ | exact NXt.nx _ _ | exact NXa.nx _ _ | exact NXs.nx _ _ | exact NXf.nx _ _ | exact NXg.nx _ _ _ | exact NXi.nx _ _ | exact NXk.nx _ _ | exact NXr.nx _ _ | exact NXo.nx _ _ _ | exact NXb.nx _ _ | exact ne_mat _ _ | exact ne_opt _ _ | exact ne_ans _ _ | refine ne_bind ?_ fun _ _ => ?_ | split)
instance {e : Ev} [NXe e] {lo : Option Ev} [NXm lo] {hi : Option Ev} [NXm hi] : NXe (eSl e lo hi) := ⟨fun ρ s => by
  unfold eSl
  exact ne_bind (NXe.nx _ _) fun _ _ => ne_bind (ne_opt _ _) fun _ _ => ne_bind (ne_opt _ _) fun _ _ => ne_slc _ _ _ _⟩
instance {cs : List Nat} {e : Ev} [NXe e] {f : Nat} : NXe (eFld cs e f) := ⟨fun ρ s => by
  unfold eFld
  repeat' (first | exact ne_ok _ _ | exact ne_bad | exact NXe.nx _ _ | exact NXt.nx _ _ | exact NXa.nx _ _ | exact NXs.nx _ _ | exact NXf.nx _ _ | exact NXg.nx _ _ _ | exact NXi.nx _ _ | exact NXk.nx _ _ | exact NXr.nx _ _ | exact NXo.nx _ _ _ | exact NXb.nx _ _ | exact ne_mat _ _ | exact ne_opt _ _ | exact ne_ans _ _ | refine ne_bind ?_ fun _ _ => ?_ | split)⟩
instance {F : Fn} [NXf F] {a : Avs} [NXa a] : NXe (eCall F a) := ⟨fun ρ s => by
  unfold eCall
  repeat' (first | exact ne_ok _ _ | exact ne_bad | exact NXe.nx _ _ | exact NXt.nx _ _ | exact NXa.nx _ _ | exact NXs.nx _ _ | exact NXf.nx _ _ | exact NXg.nx _ _ _ | exact NXi.nx _ _ | exact NXk.nx _ _ | exact NXr.nx _ _ | exact NXo.nx _ _ _ | exact NXb.nx _ _ | exact ne_mat _ _ | exact ne_opt _ _ | exact ne_ans _ _ | refine ne_bind ?_ fun _ _ => ?_ | split)⟩
instance {c : Nat} {F : Fn} [NXf F] {a : Avs} [NXa a] : NXe (eMk c F a) := ⟨fun ρ s => by
  unfold eMk
  repeat' (first | exact ne_ok _ _ | exact ne_bad | exact NXe.nx _ _ | exact NXt.nx _ _ | exact NXa.nx _ _ | exact NXs.nx _ _ | exact NXf.nx _ _ | exact NXg.nx _ _ _ | exact NXi.nx _ _ | exact NXk.nx _ _ | exact NXr.nx _ _ | exact NXo.nx _ _ _ | exact NXb.nx _ _ | exact ne_mat _ _ | exact ne_opt _ _ | exact ne_ans _ _ | refine ne_bind ?_ fun _ _ => ?_ | split)⟩
instance {g : List Val → List Val} {a : Avs} [NXa a] : NXa (aPerm g a) := ⟨fun ρ s => by
  unfold aPerm
  repeat' (first | exact ne_ok _ _ | exact ne_bad | exact NXe.nx _ _ | exact NXt.nx _ _ | exact NXa.nx _ _ | exact NXs.nx _ _ | exact NXf.nx _ _ | exact NXg.nx _ _ _ | exact NXi.nx _ _ | exact NXk.nx _ _ | exact NXr.nx _ _ | exact NXo.nx _ _ _ | exact NXb.nx _ _ | exact ne_mat _ _ | exact ne_opt _ _ | exact ne_ans _ _ | refine ne_bind ?_ fun _ _ => ?_ | split)⟩
instance {c : Nat} {m : Nat} {F : Fn} [NXf F] {e : Ev} [NXe e] {a : Avs} [NXa a] : NXe (eMeth c m F e a) := ⟨fun ρ s => by
  unfold eMeth
  repeat' (first | exact ne_ok _ _ | exact ne_bad | exact NXe.nx _ _ | exact NXt.nx _ _ | exact NXa.nx _ _ | exact NXs.nx _ _ | exact NXf.nx _ _ | exact NXg.nx _ _ _ | exact NXi.nx _ _ | exact NXk.nx _ _ | exact NXr.nx _ _ | exact NXo.nx _ _ _ | exact NXb.nx _ _ | exact ne_mat _ _ | exact ne_opt _ _ | exact ne_ans _ _ | refine ne_bind ?_ fun _ _ => ?_ | split)⟩
instance {b : B1} [NXb b] {a : Ev} [NXe a] : NXe (eB1 b a) := ⟨fun ρ s => by
  unfold eB1
  repeat' (first | exact ne_ok _ _ | exact ne_bad | exact NXe.nx _ _ | exact NXt.nx _ _ | exact NXa.nx _ _ | exact NXs.nx _ _ | exact NXf.nx _ _ | exact NXg.nx _ _ _ | exact NXi.nx _ _ | exact NXk.nx _ _ | exact NXr.nx _ _ | exact NXo.nx _ _ _ | exact NXb.nx _ _ | exact ne_mat _ _ | exact ne_opt _ _ | exact ne_ans _ _ | refine ne_bind ?_ fun _ _ => ?_ | split)⟩
instance : NXb bLen := ⟨fun x s => by
  unfold bLen
  repeat' (first | exact ne_ok _ _ | exact ne_bad | exact NXe.nx _ _ | exact NXt.nx _ _ | exact NXa.nx _ _ | exact NXs.nx _ _ | exact NXf.nx _ _ | exact NXg.nx _ _ _ | exact NXi.nx _ _ | exact NXk.nx _ _ | exact NXr.nx _ _ | exact NXo.nx _ _ _ | exact NXb.nx _ _ | exact ne_mat _ _ | exact ne_opt _ _ | exact ne_ans _ _ | refine ne_bind ?_ fun _ _ => ?_ | split)⟩
instance : NXb bInt := ⟨fun x s => by
  unfold bInt
  repeat' (first | exact ne_ok _ _ | exact ne_bad | exact NXe.nx _ _ | exact NXt.nx _ _ | exact NXa.nx _ _ | exact NXs.nx _ _ | exact NXf.nx _ _ | exact NXg.nx _ _ _ | exact NXi.nx _ _ | exact NXk.nx _ _ | exact NXr.nx _ _ | exact NXo.nx _ _ _ | exact NXb.nx _ _ | exact ne_mat _ _ | exact ne_opt _ _ | exact ne_ans _ _ | refine ne_bind ?_ fun _ _ => ?_ | split)⟩
instance : NXb bTuple := ⟨fun x s => by
  unfold bTuple
  repeat' (first | exact ne_ok _ _ | exact ne_bad | exact NXe.nx _ _ | exact NXt.nx _ _ | exact NXa.nx _ _ | exact NXs.nx _ _ | exact NXf.nx _ _ | exact NXg.nx _ _ _ | exact NXi.nx _ _ | exact NXk.nx _ _ | exact NXr.nx _ _ | exact NXo.nx _ _ _ | exact NXb.nx _ _ | exact ne_mat _ _ | exact ne_opt _ _ | exact ne_ans _ _ | refine ne_bind ?_ fun _ _ => ?_ | split)⟩
instance : NXb bList := ⟨fun x s => by
  unfold bList
  repeat' (first | exact ne_ok _ _ | exact ne_bad | exact NXe.nx _ _ | exact NXt.nx _ _ | exact NXa.nx _ _ | exact NXs.nx _ _ | exact NXf.nx _ _ | exact NXg.nx _ _ _ | exact NXi.nx _ _ | exact NXk.nx _ _ | exact NXr.nx _ _ | exact NXo.nx _ _ _ | exact NXb.nx _ _ | exact ne_mat _ _ | exact ne_opt _ _ | exact ne_ans _ _ | refine ne_bind ?_ fun _ _ => ?_ | split)⟩
instance : NXb bAll := ⟨fun x s => by
  unfold bAll
  repeat' (first | exact ne_ok _ _ | exact ne_bad | exact NXe.nx _ _ | exact NXt.nx _ _ | exact NXa.nx _ _ | exact NXs.nx _ _ | exact NXf.nx _ _ | exact NXg.nx _ _ _ | exact NXi.nx _ _ | exact NXk.nx _ _ | exact NXr.nx _ _ | exact NXo.nx _ _ _ | exact NXb.nx _ _ | exact ne_mat _ _ | exact ne_opt _ _ | exact ne_ans _ _ | refine ne_bind ?_ fun _ _ => ?_ | split)⟩
instance : NXb bAny := ⟨fun x s => by
  unfold bAny
  repeat' (first | exact ne_ok _ _ | exact ne_bad | exact NXe.nx _ _ | exact NXt.nx _ _ | exact NXa.nx _ _ | exact NXs.nx _ _ | exact NXf.nx _ _ | exact NXg.nx _ _ _ | exact NXi.nx _ _ | exact NXk.nx _ _ | exact NXr.nx _ _ | exact NXo.nx _ _ _ | exact NXb.nx _ _ | exact ne_mat _ _ | exact ne_opt _ _ | exact ne_ans _ _ | refine ne_bind ?_ fun _ _ => ?_ | split)⟩
instance : NXb bMax := ⟨fun x s => by
  unfold bMax
  repeat' (first | exact ne_ok _ _ | exact ne_bad | exact NXe.nx _ _ | exact NXt.nx _ _ | exact NXa.nx _ _ | exact NXs.nx _ _ | exact NXf.nx _ _ | exact NXg.nx _ _ _ | exact NXi.nx _ _ | exact NXk.nx _ _ | exact NXr.nx _ _ | exact NXo.nx _ _ _ | exact NXb.nx _ _ | exact ne_mat _ _ | exact ne_opt _ _ | exact ne_ans _ _ | refine ne_bind ?_ fun _ _ => ?_ | split)⟩
instance : NXb bSrtSet := ⟨fun x s => by
  unfold bSrtSet
  repeat' (first | exact ne_ok _ _ | exact ne_bad | exact NXe.nx _ _ | exact NXt.nx _ _ | exact NXa.nx _ _ | exact NXs.nx _ _ | exact NXf.nx _ _ | exact NXg.nx _ _ _ | exact NXi.nx _ _ | exact NXk.nx _ _ | exact NXr.nx _ _ | exact NXo.nx _ _ _ | exact NXb.nx _ _ | exact ne_mat _ _ | exact ne_opt _ _ | exact ne_ans _ _ | refine ne_bind ?_ fun _ _ => ?_ | split)⟩
instance : NXb bLenSet := ⟨fun x s => by
  unfold bLenSet
  repeat' (first | exact ne_ok _ _ | exact ne_bad | exact NXe.nx _ _ | exact NXt.nx _ _ | exact NXa.nx _ _ | exact NXs.nx _ _ | exact NXf.nx _ _ | exact NXg.nx _ _ _ | exact NXi.nx _ _ | exact NXk.nx _ _ | exact NXr.nx _ _ | exact NXo.nx _ _ _ | exact NXb.nx _ _ | exact ne_mat _ _ | exact ne_opt _ _ | exact ne_ans _ _ | refine ne_bind ?_ fun _ _ => ?_ | split)⟩
instance {cs : List Nat} {ty : Ty} : NXb (bIs cs ty) := ⟨fun x s => by
  unfold bIs
  repeat' (first | exact ne_ok _ _ | exact ne_bad | exact NXe.nx _ _ | exact NXt.nx _ _ | exact NXa.nx _ _ | exact NXs.nx _ _ | exact NXf.nx _ _ | exact NXg.nx _ _ _ | exact NXi.nx _ _ | exact NXk.nx _ _ | exact NXr.nx _ _ | exact NXo.nx _ _ _ | exact NXb.nx _ _ | exact ne_mat _ _ | exact ne_opt _ _ | exact ne_ans _ _ | refine ne_bind ?_ fun _ _ => ?_ | split)⟩
instance {c : Nat} {F : Fn} [NXf F] : NXb (bLenI c F) := ⟨fun x s => by
  unfold bLenI
  repeat' (first | exact ne_ok _ _ | exact ne_bad | exact NXe.nx _ _ | exact NXt.nx _ _ | exact NXa.nx _ _ | exact NXs.nx _ _ | exact NXf.nx _ _ | exact NXg.nx _ _ _ | exact NXi.nx _ _ | exact NXk.nx _ _ | exact NXr.nx _ _ | exact NXo.nx _ _ _ | exact NXb.nx _ _ | exact ne_mat _ _ | exact ne_opt _ _ | exact ne_ans _ _ | refine ne_bind ?_ fun _ _ => ?_ | split)⟩
instance {e : Ev} [NXe e] : NXr (rg1 e) := ⟨fun ρ s => by
  unfold rg1
  repeat' (first | exact ne_ok _ _ | exact ne_bad | exact NXe.nx _ _ | exact NXt.nx _ _ | exact NXa.nx _ _ | exact NXs.nx _ _ | exact NXf.nx _ _ | exact NXg.nx _ _ _ | exact NXi.nx _ _ | exact NXk.nx _ _ | exact NXr.nx _ _ | exact NXo.nx _ _ _ | exact NXb.nx _ _ | exact ne_mat _ _ | exact ne_opt _ _ | exact ne_ans _ _ | refine ne_bind ?_ fun _ _ => ?_ | split)⟩
instance {e : Ev} [NXe e] {e' : Ev} [NXe e'] : NXr (rg2 e e') := ⟨fun ρ s => by
  unfold rg2
  repeat' (first | exact ne_ok _ _ | exact ne_bad | exact NXe.nx _ _ | exact NXt.nx _ _ | exact NXa.nx _ _ | exact NXs.nx _ _ | exact NXf.nx _ _ | exact NXg.nx _ _ _ | exact NXi.nx _ _ | exact NXk.nx _ _ | exact NXr.nx _ _ | exact NXo.nx _ _ _ | exact NXb.nx _ _ | exact ne_mat _ _ | exact ne_opt _ _ | exact ne_ans _ _ | refine ne_bind ?_ fun _ _ => ?_ | split)⟩
instance {r : Rg} [NXr r] : NXe (eLstR r) := ⟨fun ρ s => by
  unfold eLstR
  repeat' (first | exact ne_ok _ _ | exact ne_bad | exact NXe.nx _ _ | exact NXt.nx _ _ | exact NXa.nx _ _ | exact NXs.nx _ _ | exact NXf.nx _ _ | exact NXg.nx _ _ _ | exact NXi.nx _ _ | exact NXk.nx _ _ | exact NXr.nx _ _ | exact NXo.nx _ _ _ | exact NXb.nx _ _ | exact ne_mat _ _ | exact ne_opt _ _ | exact ne_ans _ _ | refine ne_bind ?_ fun _ _ => ?_ | split)⟩
instance {r : Rg} [NXr r] : NXe (eTupR r) := ⟨fun ρ s => by
  unfold eTupR
  repeat' (first | exact ne_ok _ _ | exact ne_bad | exact NXe.nx _ _ | exact NXt.nx _ _ | exact NXa.nx _ _ | exact NXs.nx _ _ | exact NXf.nx _ _ | exact NXg.nx _ _ _ | exact NXi.nx _ _ | exact NXk.nx _ _ | exact NXr.nx _ _ | exact NXo.nx _ _ _ | exact NXb.nx _ _ | exact ne_mat _ _ | exact ne_opt _ _ | exact ne_ans _ _ | refine ne_bind ?_ fun _ _ => ?_ | split)⟩
instance {e : Ev} [NXe e] {a : Ev} [NXe a] : NXe (eAppend e a) := ⟨fun ρ s => by
  unfold eAppend
  repeat' (first | exact ne_ok _ _ | exact ne_bad | exact NXe.nx _ _ | exact NXt.nx _ _ | exact NXa.nx _ _ | exact NXs.nx _ _ | exact NXf.nx _ _ | exact NXg.nx _ _ _ | exact NXi.nx _ _ | exact NXk.nx _ _ | exact NXr.nx _ _ | exact NXo.nx _ _ _ | exact NXb.nx _ _ | exact ne_mat _ _ | exact ne_opt _ _ | exact ne_ans _ _ | refine ne_bind ?_ fun _ _ => ?_ | split)⟩
instance {e : Ev} [NXe e] {a : Ev} [NXe a] : NXe (eExtend e a) := ⟨fun ρ s => by
  unfold eExtend
  repeat' (first | exact ne_ok _ _ | exact ne_bad | exact NXe.nx _ _ | exact NXt.nx _ _ | exact NXa.nx _ _ | exact NXs.nx _ _ | exact NXf.nx _ _ | exact NXg.nx _ _ _ | exact NXi.nx _ _ | exact NXk.nx _ _ | exact NXr.nx _ _ | exact NXo.nx _ _ _ | exact NXb.nx _ _ | exact ne_mat _ _ | exact ne_opt _ _ | exact ne_ans _ _ | refine ne_bind ?_ fun _ _ => ?_ | split)⟩
instance {e : Ev} [NXe e] {a : Ev} [NXe a] : NXe (ePopAt e a) := ⟨fun ρ s => by
  unfold ePopAt
  repeat' (first | exact ne_ok _ _ | exact ne_bad | exact NXe.nx _ _ | exact NXt.nx _ _ | exact NXa.nx _ _ | exact NXs.nx _ _ | exact NXf.nx _ _ | exact NXg.nx _ _ _ | exact NXi.nx _ _ | exact NXk.nx _ _ | exact NXr.nx _ _ | exact NXo.nx _ _ _ | exact NXb.nx _ _ | exact ne_mat _ _ | exact ne_opt _ _ | exact ne_ans _ _ | refine ne_bind ?_ fun _ _ => ?_ | split)⟩
instance {e : Ev} [NXe e] {a : Ev} [NXe a] : NXe (eIndex e a) := ⟨fun ρ s => by
  unfold eIndex
  repeat' (first | exact ne_ok _ _ | exact ne_bad | exact NXe.nx _ _ | exact NXt.nx _ _ | exact NXa.nx _ _ | exact NXs.nx _ _ | exact NXf.nx _ _ | exact NXg.nx _ _ _ | exact NXi.nx _ _ | exact NXk.nx _ _ | exact NXr.nx _ _ | exact NXo.nx _ _ _ | exact NXb.nx _ _ | exact ne_mat _ _ | exact ne_opt _ _ | exact ne_ans _ _ | refine ne_bind ?_ fun _ _ => ?_ | split)⟩
instance {e : Ev} [NXe e] {a : Ev} [NXe a] : NXe (eIxL e a) := ⟨fun ρ s => by
  unfold eIxL
  repeat' (first | exact ne_ok _ _ | exact ne_bad | exact NXe.nx _ _ | exact NXt.nx _ _ | exact NXa.nx _ _ | exact NXs.nx _ _ | exact NXf.nx _ _ | exact NXg.nx _ _ _ | exact NXi.nx _ _ | exact NXk.nx _ _ | exact NXr.nx _ _ | exact NXo.nx _ _ _ | exact NXb.nx _ _ | exact ne_mat _ _ | exact ne_opt _ _ | exact ne_ans _ _ | refine ne_bind ?_ fun _ _ => ?_ | split)⟩
instance {e : Ev} [NXe e] : NXe (ePop e) := ⟨fun ρ s => by
  unfold ePop
  repeat' (first | exact ne_ok _ _ | exact ne_bad | exact NXe.nx _ _ | exact NXt.nx _ _ | exact NXa.nx _ _ | exact NXs.nx _ _ | exact NXf.nx _ _ | exact NXg.nx _ _ _ | exact NXi.nx _ _ | exact NXk.nx _ _ | exact NXr.nx _ _ | exact NXo.nx _ _ _ | exact NXb.nx _ _ | exact ne_mat _ _ | exact ne_opt _ _ | exact ne_ans _ _ | refine ne_bind ?_ fun _ _ => ?_ | split)⟩
instance {e : Ev} [NXe e] : NXe (eClear e) := ⟨fun ρ s => by
  unfold eClear
  repeat' (first | exact ne_ok _ _ | exact ne_bad | exact NXe.nx _ _ | exact NXt.nx _ _ | exact NXa.nx _ _ | exact NXs.nx _ _ | exact NXf.nx _ _ | exact NXg.nx _ _ _ | exact NXi.nx _ _ | exact NXk.nx _ _ | exact NXr.nx _ _ | exact NXo.nx _ _ _ | exact NXb.nx _ _ | exact ne_mat _ _ | exact ne_opt _ _ | exact ne_ans _ _ | refine ne_bind ?_ fun _ _ => ?_ | split)⟩
instance {e : Ev} [NXe e] : NXi (ixE e) := ⟨fun ρ s => by
  unfold ixE
  repeat' (first | exact ne_ok _ _ | exact ne_bad | exact NXe.nx _ _ | exact NXt.nx _ _ | exact NXa.nx _ _ | exact NXs.nx _ _ | exact NXf.nx _ _ | exact NXg.nx _ _ _ | exact NXi.nx _ _ | exact NXk.nx _ _ | exact NXr.nx _ _ | exact NXo.nx _ _ _ | exact NXb.nx _ _ | exact ne_mat _ _ | exact ne_opt _ _ | exact ne_ans _ _ | refine ne_bind ?_ fun _ _ => ?_ | split)⟩
instance {e : Ev} [NXe e] : NXi (ixR e) := ⟨fun ρ s => by
  unfold ixR
  repeat' (first | exact ne_ok _ _ | exact ne_bad | exact NXe.nx _ _ | exact NXt.nx _ _ | exact NXa.nx _ _ | exact NXs.nx _ _ | exact NXf.nx _ _ | exact NXg.nx _ _ _ | exact NXi.nx _ _ | exact NXk.nx _ _ | exact NXr.nx _ _ | exact NXo.nx _ _ _ | exact NXb.nx _ _ | exact ne_mat _ _ | exact ne_opt _ _ | exact ne_ans _ _ | refine ne_bind ?_ fun _ _ => ?_ | split)⟩
instance {e : Ev} [NXe e] {e' : Ev} [NXe e'] : NXi (ixR2 e e') := ⟨fun ρ s => by
  unfold ixR2
  repeat' (first | exact ne_ok _ _ | exact ne_bad | exact NXe.nx _ _ | exact NXt.nx _ _ | exact NXa.nx _ _ | exact NXs.nx _ _ | exact NXf.nx _ _ | exact NXg.nx _ _ _ | exact NXi.nx _ _ | exact NXk.nx _ _ | exact NXr.nx _ _ | exact NXo.nx _ _ _ | exact NXb.nx _ _ | exact ne_mat _ _ | exact ne_opt _ _ | exact ne_ans _ _ | refine ne_bind ?_ fun _ _ => ?_ | split)⟩
instance {e : Ev} [NXe e] : NXi (ixEnum e) := ⟨fun ρ s => by
  unfold ixEnum
  repeat' (first | exact ne_ok _ _ | exact ne_bad | exact NXe.nx _ _ | exact NXt.nx _ _ | exact NXa.nx _ _ | exact NXs.nx _ _ | exact NXf.nx _ _ | exact NXg.nx _ _ _ | exact NXi.nx _ _ | exact NXk.nx _ _ | exact NXr.nx _ _ | exact NXo.nx _ _ _ | exact NXb.nx _ _ | exact ne_mat _ _ | exact ne_opt _ _ | exact ne_ans _ _ | refine ne_bind ?_ fun _ _ => ?_ | split)⟩
instance {e : Ev} [NXe e] {e' : Ev} [NXe e'] : NXi (ixZip e e') := ⟨fun ρ s => by
  unfold ixZip
  repeat' (first | exact ne_ok _ _ | exact ne_bad | exact NXe.nx _ _ | exact NXt.nx _ _ | exact NXa.nx _ _ | exact NXs.nx _ _ | exact NXf.nx _ _ | exact NXg.nx _ _ _ | exact NXi.nx _ _ | exact NXk.nx _ _ | exact NXr.nx _ _ | exact NXo.nx _ _ _ | exact NXb.nx _ _ | exact ne_mat _ _ | exact ne_opt _ _ | exact ne_ans _ _ | refine ne_bind ?_ fun _ _ => ?_ | split)⟩
instance {i : Nat} : NXg (gV i) := ⟨fun x ρ s => by
  unfold gV
  repeat' (first | exact ne_ok _ _ | exact ne_bad | exact NXe.nx _ _ | exact NXt.nx _ _ | exact NXa.nx _ _ | exact NXs.nx _ _ | exact NXf.nx _ _ | exact NXg.nx _ _ _ | exact NXi.nx _ _ | exact NXk.nx _ _ | exact NXr.nx _ _ | exact NXo.nx _ _ _ | exact NXb.nx _ _ | exact ne_mat _ _ | exact ne_opt _ _ | exact ne_ans _ _ | refine ne_bind ?_ fun _ _ => ?_ | split)⟩
instance {is : List Nat} : NXg (gT is) := ⟨fun x ρ s => by
  unfold gT
  repeat' (first | exact ne_ok _ _ | exact ne_bad | exact NXe.nx _ _ | exact NXt.nx _ _ | exact NXa.nx _ _ | exact NXs.nx _ _ | exact NXf.nx _ _ | exact NXg.nx _ _ _ | exact NXi.nx _ _ | exact NXk.nx _ _ | exact NXr.nx _ _ | exact NXo.nx _ _ _ | exact NXb.nx _ _ | exact ne_mat _ _ | exact ne_opt _ _ | exact ne_ans _ _ | refine ne_bind ?_ fun _ _ => ?_ | split)⟩
instance {is : List Nat} : NXg (gL is) := ⟨fun x ρ s => by
  unfold gL
  repeat' (first | exact ne_ok _ _ | exact ne_bad | exact NXe.nx _ _ | exact NXt.nx _ _ | exact NXa.nx _ _ | exact NXs.nx _ _ | exact NXf.nx _ _ | exact NXg.nx _ _ _ | exact NXi.nx _ _ | exact NXk.nx _ _ | exact NXr.nx _ _ | exact NXo.nx _ _ _ | exact NXb.nx _ _ | exact ne_mat _ _ | exact ne_opt _ _ | exact ne_ans _ _ | refine ne_bind ?_ fun _ _ => ?_ | split)⟩
instance {i : Nat} {cs : List Nat} {o : Ev} [NXe o] {f : Nat} : NXg (gNF i cs o f) := ⟨fun x ρ s => by
  unfold gNF
  repeat' (first | exact ne_ok _ _ | exact ne_bad | exact NXe.nx _ _ | exact NXt.nx _ _ | exact NXa.nx _ _ | exact NXs.nx _ _ | exact NXf.nx _ _ | exact NXg.nx _ _ _ | exact NXi.nx _ _ | exact NXk.nx _ _ | exact NXr.nx _ _ | exact NXo.nx _ _ _ | exact NXb.nx _ _ | exact ne_mat _ _ | exact ne_opt _ _ | exact ne_ans _ _ | refine ne_bind ?_ fun _ _ => ?_ | split)⟩
instance {o : Ev} [NXe o] {i : Ev} [NXe i] : NXg (gSub o i) := ⟨fun x ρ s => by
  unfold gSub
  repeat' (first | exact ne_ok _ _ | exact ne_bad | exact NXe.nx _ _ | exact NXt.nx _ _ | exact NXa.nx _ _ | exact NXs.nx _ _ | exact NXf.nx _ _ | exact NXg.nx _ _ _ | exact NXi.nx _ _ | exact NXk.nx _ _ | exact NXr.nx _ _ | exact NXo.nx _ _ _ | exact NXb.nx _ _ | exact ne_mat _ _ | exact ne_opt _ _ | exact ne_ans _ _ | refine ne_bind ?_ fun _ _ => ?_ | split)⟩
instance {g : Tgt} [NXg g] {h : Tgt} [NXg h] : NXg (gPr g h) := ⟨fun x ρ s => by
  unfold gPr
  repeat' (first | exact ne_ok _ _ | exact ne_bad | exact NXe.nx _ _ | exact NXt.nx _ _ | exact NXa.nx _ _ | exact NXs.nx _ _ | exact NXf.nx _ _ | exact NXg.nx _ _ _ | exact NXi.nx _ _ | exact NXk.nx _ _ | exact NXr.nx _ _ | exact NXo.nx _ _ _ | exact NXb.nx _ _ | exact ne_mat _ _ | exact ne_opt _ _ | exact ne_ans _ _ | refine ne_bind ?_ fun _ _ => ?_ | split)⟩
theorem ne_compGo {its : Its} {g : Tgt} [NXg g] {c : Tst} [NXt c] {e : Ev} [NXe e] {ρ : Env} : ∀ (f i : Nat) (acc : List Val) (s : Store), NE (compGo its g c e ρ f i acc s)
  | 0, _, _, _ => ne_bad
  | f + 1, i, acc, s => by
    unfold compGo
    repeat' (first | exact ne_compGo f _ _ _ | exact ne_ok _ _ | exact ne_bad | exact NXe.nx _ _ | exact NXt.nx _ _ | exact NXg.nx _ _ _ | exact ne_mat _ _ | refine ne_bind ?_ fun _ _ => ?_ | split)
instance {ix : Ix} [NXi ix] {g : Tgt} [NXg g] {own : List Nat} {c : Tst} [NXt c] {e : Ev} [NXe e] : NXe (eComp ix g own c e) := ⟨fun ρ s => by
  unfold eComp
  refine ne_bind (NXi.nx _ _) fun _ _ => ?_
  split
  · exact ne_compGo _ _ _ _
  · exact ne_bad⟩
instance : NXs sNop := ⟨fun ρ s => by
  unfold sNop
  repeat' (first | exact ne_ok _ _ | exact ne_bad | exact NXe.nx _ _ | exact NXt.nx _ _ | exact NXa.nx _ _ | exact NXs.nx _ _ | exact NXf.nx _ _ | exact NXg.nx _ _ _ | exact NXi.nx _ _ | exact NXk.nx _ _ | exact NXr.nx _ _ | exact NXo.nx _ _ _ | exact NXb.nx _ _ | exact ne_mat _ _ | exact ne_opt _ _ | exact ne_ans _ _ | refine ne_bind ?_ fun _ _ => ?_ | split)⟩
instance {a : Sx} [NXs a] {b : Sx} [NXs b] : NXs (sSeq a b) := ⟨fun ρ s => by
  unfold sSeq
  repeat' (first | exact ne_ok _ _ | exact ne_bad | exact NXe.nx _ _ | exact NXt.nx _ _ | exact NXa.nx _ _ | exact NXs.nx _ _ | exact NXf.nx _ _ | exact NXg.nx _ _ _ | exact NXi.nx _ _ | exact NXk.nx _ _ | exact NXr.nx _ _ | exact NXo.nx _ _ _ | exact NXb.nx _ _ | exact ne_mat _ _ | exact ne_opt _ _ | exact ne_ans _ _ | refine ne_bind ?_ fun _ _ => ?_ | split)⟩
instance {g : Tgt} [NXg g] {e : Ev} [NXe e] : NXs (sAsg g e) := ⟨fun ρ s => by
  unfold sAsg
  repeat' (first | exact ne_ok _ _ | exact ne_bad | exact NXe.nx _ _ | exact NXt.nx _ _ | exact NXa.nx _ _ | exact NXs.nx _ _ | exact NXf.nx _ _ | exact NXg.nx _ _ _ | exact NXi.nx _ _ | exact NXk.nx _ _ | exact NXr.nx _ _ | exact NXo.nx _ _ _ | exact NXb.nx _ _ | exact ne_mat _ _ | exact ne_opt _ _ | exact ne_ans _ _ | refine ne_bind ?_ fun _ _ => ?_ | split)⟩
instance {i : Nat} {j : Nat} {a : Avs} [NXa a] : NXs (sPar i j a) := ⟨fun ρ s => by
  unfold sPar
  repeat' (first | exact ne_ok _ _ | exact ne_bad | exact NXe.nx _ _ | exact NXt.nx _ _ | exact NXa.nx _ _ | exact NXs.nx _ _ | exact NXf.nx _ _ | exact NXg.nx _ _ _ | exact NXi.nx _ _ | exact NXk.nx _ _ | exact NXr.nx _ _ | exact NXo.nx _ _ _ | exact NXb.nx _ _ | exact ne_mat _ _ | exact ne_opt _ _ | exact ne_ans _ _ | refine ne_bind ?_ fun _ _ => ?_ | split)⟩
instance {i : Nat} {j : Nat} {k : Nat} {a : Avs} [NXa a] : NXs (sPar3 i j k a) := ⟨fun ρ s => by
  unfold sPar3
  repeat' (first | exact ne_ok _ _ | exact ne_bad | exact NXe.nx _ _ | exact NXt.nx _ _ | exact NXa.nx _ _ | exact NXs.nx _ _ | exact NXf.nx _ _ | exact NXg.nx _ _ _ | exact NXi.nx _ _ | exact NXk.nx _ _ | exact NXr.nx _ _ | exact NXo.nx _ _ _ | exact NXb.nx _ _ | exact ne_mat _ _ | exact ne_opt _ _ | exact ne_ans _ _ | refine ne_bind ?_ fun _ _ => ?_ | split)⟩
instance {e : Ev} [NXe e] : NXs (sExp e) := ⟨fun ρ s => by
  unfold sExp
  repeat' (first | exact ne_ok _ _ | exact ne_bad | exact NXe.nx _ _ | exact NXt.nx _ _ | exact NXa.nx _ _ | exact NXs.nx _ _ | exact NXf.nx _ _ | exact NXg.nx _ _ _ | exact NXi.nx _ _ | exact NXk.nx _ _ | exact NXr.nx _ _ | exact NXo.nx _ _ _ | exact NXb.nx _ _ | exact ne_mat _ _ | exact ne_opt _ _ | exact ne_ans _ _ | refine ne_bind ?_ fun _ _ => ?_ | split)⟩
instance {e : Ev} [NXe e] : NXs (sRet e) := ⟨fun ρ s => by
  unfold sRet
  repeat' (first | exact ne_ok _ _ | exact ne_bad | exact NXe.nx _ _ | exact NXt.nx _ _ | exact NXa.nx _ _ | exact NXs.nx _ _ | exact NXf.nx _ _ | exact NXg.nx _ _ _ | exact NXi.nx _ _ | exact NXk.nx _ _ | exact NXr.nx _ _ | exact NXo.nx _ _ _ | exact NXb.nx _ _ | exact ne_mat _ _ | exact ne_opt _ _ | exact ne_ans _ _ | refine ne_bind ?_ fun _ _ => ?_ | split)⟩
instance : NXs sRetN := ⟨fun ρ s => by
  unfold sRetN
  repeat' (first | exact ne_ok _ _ | exact ne_bad | exact NXe.nx _ _ | exact NXt.nx _ _ | exact NXa.nx _ _ | exact NXs.nx _ _ | exact NXf.nx _ _ | exact NXg.nx _ _ _ | exact NXi.nx _ _ | exact NXk.nx _ _ | exact NXr.nx _ _ | exact NXo.nx _ _ _ | exact NXb.nx _ _ | exact ne_mat _ _ | exact ne_opt _ _ | exact ne_ans _ _ | refine ne_bind ?_ fun _ _ => ?_ | split)⟩
instance {t : Tst} [NXt t] {a : Sx} [NXs a] {b : Sx} [NXs b] : NXs (sIf t a b) := ⟨fun ρ s => by
  unfold sIf
  repeat' (first | exact ne_ok _ _ | exact ne_bad | exact NXe.nx _ _ | exact NXt.nx _ _ | exact NXa.nx _ _ | exact NXs.nx _ _ | exact NXf.nx _ _ | exact NXg.nx _ _ _ | exact NXi.nx _ _ | exact NXk.nx _ _ | exact NXr.nx _ _ | exact NXo.nx _ _ _ | exact NXb.nx _ _ | exact ne_mat _ _ | exact ne_opt _ _ | exact ne_ans _ _ | refine ne_bind ?_ fun _ _ => ?_ | split)⟩
instance : NXs sBrk := ⟨fun ρ s => by
  unfold sBrk
  repeat' (first | exact ne_ok _ _ | exact ne_bad | exact NXe.nx _ _ | exact NXt.nx _ _ | exact NXa.nx _ _ | exact NXs.nx _ _ | exact NXf.nx _ _ | exact NXg.nx _ _ _ | exact NXi.nx _ _ | exact NXk.nx _ _ | exact NXr.nx _ _ | exact NXo.nx _ _ _ | exact NXb.nx _ _ | exact ne_mat _ _ | exact ne_opt _ _ | exact ne_ans _ _ | refine ne_bind ?_ fun _ _ => ?_ | split)⟩
instance {cs : List Nat} {o : Ev} [NXe o] {f : Nat} {e : Ev} [NXe e] : NXs (sFld cs o f e) := ⟨fun ρ s => by
  unfold sFld
  repeat' (first | exact ne_ok _ _ | exact ne_bad | exact NXe.nx _ _ | exact NXt.nx _ _ | exact NXa.nx _ _ | exact NXs.nx _ _ | exact NXf.nx _ _ | exact NXg.nx _ _ _ | exact NXi.nx _ _ | exact NXk.nx _ _ | exact NXr.nx _ _ | exact NXo.nx _ _ _ | exact NXb.nx _ _ | exact ne_mat _ _ | exact ne_opt _ _ | exact ne_ans _ _ | refine ne_bind ?_ fun _ _ => ?_ | split)⟩
instance {o : Ev} [NXe o] {i : Ev} [NXe i] {e : Ev} [NXe e] : NXs (sSub o i e) := ⟨fun ρ s => by
  unfold sSub
  repeat' (first | exact ne_ok _ _ | exact ne_bad | exact NXe.nx _ _ | exact NXt.nx _ _ | exact NXa.nx _ _ | exact NXs.nx _ _ | exact NXf.nx _ _ | exact NXg.nx _ _ _ | exact NXi.nx _ _ | exact NXk.nx _ _ | exact NXr.nx _ _ | exact NXo.nx _ _ _ | exact NXb.nx _ _ | exact ne_mat _ _ | exact ne_opt _ _ | exact ne_ans _ _ | refine ne_bind ?_ fun _ _ => ?_ | split)⟩
instance {e : Ev} [NXe e] {hi : Int} : NXk (eKey e hi) := ⟨fun ρ s => by
  unfold eKey
  repeat' (first | exact ne_ok _ _ | exact ne_bad | exact NXe.nx _ _ | exact NXt.nx _ _ | exact NXa.nx _ _ | exact NXs.nx _ _ | exact NXf.nx _ _ | exact NXg.nx _ _ _ | exact NXi.nx _ _ | exact NXk.nx _ _ | exact NXr.nx _ _ | exact NXo.nx _ _ _ | exact NXb.nx _ _ | exact ne_mat _ _ | exact ne_opt _ _ | exact ne_ans _ _ | refine ne_bind ?_ fun _ _ => ?_ | split)⟩
instance {k : Ek} [NXk k] {d : Ev} [NXe d] : NXe (eDIn k d) := ⟨fun ρ s => by
  unfold eDIn
  repeat' (first | exact ne_ok _ _ | exact ne_bad | exact NXe.nx _ _ | exact NXt.nx _ _ | exact NXa.nx _ _ | exact NXs.nx _ _ | exact NXf.nx _ _ | exact NXg.nx _ _ _ | exact NXi.nx _ _ | exact NXk.nx _ _ | exact NXr.nx _ _ | exact NXo.nx _ _ _ | exact NXb.nx _ _ | exact ne_mat _ _ | exact ne_opt _ _ | exact ne_ans _ _ | refine ne_bind ?_ fun _ _ => ?_ | split)⟩
instance {k : Ek} [NXk k] {d : Ev} [NXe d] : NXe (eDNotIn k d) := ⟨fun ρ s => by
  unfold eDNotIn
  repeat' (first | exact ne_ok _ _ | exact ne_bad | exact NXe.nx _ _ | exact NXt.nx _ _ | exact NXa.nx _ _ | exact NXs.nx _ _ | exact NXf.nx _ _ | exact NXg.nx _ _ _ | exact NXi.nx _ _ | exact NXk.nx _ _ | exact NXr.nx _ _ | exact NXo.nx _ _ _ | exact NXb.nx _ _ | exact ne_mat _ _ | exact ne_opt _ _ | exact ne_ans _ _ | refine ne_bind ?_ fun _ _ => ?_ | split)⟩
instance {d : Ev} [NXe d] {k : Ek} [NXk k] : NXe (eDGet d k) := ⟨fun ρ s => by
  unfold eDGet
  repeat' (first | exact ne_ok _ _ | exact ne_bad | exact NXe.nx _ _ | exact NXt.nx _ _ | exact NXa.nx _ _ | exact NXs.nx _ _ | exact NXf.nx _ _ | exact NXg.nx _ _ _ | exact NXi.nx _ _ | exact NXk.nx _ _ | exact NXr.nx _ _ | exact NXo.nx _ _ _ | exact NXb.nx _ _ | exact ne_mat _ _ | exact ne_opt _ _ | exact ne_ans _ _ | refine ne_bind ?_ fun _ _ => ?_ | split)⟩
instance {d : Ev} [NXe d] {k : Ek} [NXk k] {e : Ev} [NXe e] : NXs (sDPut d k e) := ⟨fun ρ s => by
  unfold sDPut
  repeat' (first | exact ne_ok _ _ | exact ne_bad | exact NXe.nx _ _ | exact NXt.nx _ _ | exact NXa.nx _ _ | exact NXs.nx _ _ | exact NXf.nx _ _ | exact NXg.nx _ _ _ | exact NXi.nx _ _ | exact NXk.nx _ _ | exact NXr.nx _ _ | exact NXo.nx _ _ _ | exact NXb.nx _ _ | exact ne_mat _ _ | exact ne_opt _ _ | exact ne_ans _ _ | refine ne_bind ?_ fun _ _ => ?_ | split)⟩
instance {d : Ev} [NXe d] {k : Ek} [NXk k] {e : Ev} [NXe e] : NXs (sDSet d k e) := ⟨fun ρ s => by
  unfold sDSet
  repeat' (first | exact ne_ok _ _ | exact ne_bad | exact NXe.nx _ _ | exact NXt.nx _ _ | exact NXa.nx _ _ | exact NXs.nx _ _ | exact NXf.nx _ _ | exact NXg.nx _ _ _ | exact NXi.nx _ _ | exact NXk.nx _ _ | exact NXr.nx _ _ | exact NXo.nx _ _ _ | exact NXb.nx _ _ | exact ne_mat _ _ | exact ne_opt _ _ | exact ne_ans _ _ | refine ne_bind ?_ fun _ _ => ?_ | split)⟩
instance {i : Nat} : NXs (sDict i) := ⟨fun ρ s => by
  unfold sDict
  repeat' (first | exact ne_ok _ _ | exact ne_bad | exact NXe.nx _ _ | exact NXt.nx _ _ | exact NXa.nx _ _ | exact NXs.nx _ _ | exact NXf.nx _ _ | exact NXg.nx _ _ _ | exact NXi.nx _ _ | exact NXk.nx _ _ | exact NXr.nx _ _ | exact NXo.nx _ _ _ | exact NXb.nx _ _ | exact ne_mat _ _ | exact ne_opt _ _ | exact ne_ans _ _ | refine ne_bind ?_ fun _ _ => ?_ | split)⟩
theorem ne_forGo {its : Its} {g : Tgt} [NXg g] {b : Sx} [NXs b] : ∀ (f i : Nat) (ρ : Env) (s : Store), NE (forGo its g b f i ρ s)
  | 0, _, _, _ => ne_bad
  | f + 1, i, ρ, s => by
    unfold forGo
    repeat' (first | exact ne_forGo f _ _ _ | exact ne_ok _ _ | exact ne_bad | exact NXs.nx _ _ | exact NXg.nx _ _ _ | refine ne_bind ?_ fun _ _ => ?_ | split)
instance {ix : Ix} [NXi ix] {g : Tgt} [NXg g] {b : Sx} [NXs b] : NXs (sFor ix g b) := ⟨fun ρ s => by
  unfold sFor
  refine ne_bind (NXi.nx _ _) fun _ _ => ?_
  split
  · exact ne_forGo _ _ _ _
  · exact ne_bad⟩
theorem ne_whGo {t : Tst} [NXt t] {b : Sx} [NXs b] : ∀ (f : Nat) (ρ : Env) (s : Store), NE (whGo t b f ρ s)
  | 0, _, _ => ne_bad
  | f + 1, ρ, s => by
    unfold whGo
    repeat' (first | exact ne_whGo f _ _ | exact ne_ok _ _ | exact ne_bad | exact NXs.nx _ _ | exact NXt.nx _ _ | refine ne_bind ?_ fun _ _ => ?_ | split)
instance {t : Tst} [NXt t] {b : Sx} [NXs b] : NXs (sWh t b) := ⟨fun ρ s => ne_whGo _ _ _⟩
instance {np : Nat} {nl : Nat} {b : Sx} [NXs b] : NXf (fnOf np nl b) := ⟨fun xs s => by
  unfold fnOf
  repeat' (first | exact ne_ok _ _ | exact ne_bad | exact NXe.nx _ _ | exact NXt.nx _ _ | exact NXa.nx _ _ | exact NXs.nx _ _ | exact NXf.nx _ _ | exact NXg.nx _ _ _ | exact NXi.nx _ _ | exact NXk.nx _ _ | exact NXr.nx _ _ | exact NXo.nx _ _ _ | exact NXb.nx _ _ | exact ne_mat _ _ | exact ne_opt _ _ | exact ne_ans _ _ | refine ne_bind ?_ fun _ _ => ?_ | split)⟩
instance {a : Avs} [NXa a] {b : Avs} [NXa b] : NXa (aApp a b) := ⟨fun ρ s => by
  unfold aApp
  repeat' (first | exact ne_ok _ _ | exact ne_bad | exact NXe.nx _ _ | exact NXt.nx _ _ | exact NXa.nx _ _ | exact NXs.nx _ _ | exact NXf.nx _ _ | exact NXg.nx _ _ _ | exact NXi.nx _ _ | exact NXk.nx _ _ | exact NXr.nx _ _ | exact NXo.nx _ _ _ | exact NXb.nx _ _ | exact ne_mat _ _ | exact ne_opt _ _ | exact ne_ans _ _ | refine ne_bind ?_ fun _ _ => ?_ | split)⟩
instance {ds : List Val} : NXa (aDs ds) := ⟨fun ρ s => by
  unfold aDs
  repeat' (first | exact ne_ok _ _ | exact ne_bad | exact NXe.nx _ _ | exact NXt.nx _ _ | exact NXa.nx _ _ | exact NXs.nx _ _ | exact NXf.nx _ _ | exact NXg.nx _ _ _ | exact NXi.nx _ _ | exact NXk.nx _ _ | exact NXr.nx _ _ | exact NXo.nx _ _ _ | exact NXb.nx _ _ | exact ne_mat _ _ | exact ne_opt _ _ | exact ne_ans _ _ | refine ne_bind ?_ fun _ _ => ?_ | split)⟩
instance {F : Fn} [NXf F] {is : List Nat} {a : Avs} [NXa a] {b : Avs} [NXa b] : NXe (eCallK F is a b) := ⟨fun ρ s => by
  unfold eCallK eCall
  repeat' (first | exact ne_ok _ _ | exact ne_bad | exact NXe.nx _ _ | exact NXt.nx _ _ | exact NXa.nx _ _ | exact NXs.nx _ _ | exact NXf.nx _ _ | exact NXg.nx _ _ _ | exact NXi.nx _ _ | exact NXk.nx _ _ | exact NXr.nx _ _ | exact NXo.nx _ _ _ | exact NXb.nx _ _ | exact ne_mat _ _ | exact ne_opt _ _ | exact ne_ans _ _ | refine ne_bind ?_ fun _ _ => ?_ | split)⟩
instance {c : Nat} {F : Fn} [NXf F] {is : List Nat} {a : Avs} [NXa a] {b : Avs} [NXa b] : NXe (eMkK c F is a b) := ⟨fun ρ s => by
  unfold eMkK
  repeat' (first | exact ne_ok _ _ | exact ne_bad | exact NXe.nx _ _ | exact NXt.nx _ _ | exact NXa.nx _ _ | exact NXs.nx _ _ | exact NXf.nx _ _ | exact NXg.nx _ _ _ | exact NXi.nx _ _ | exact NXk.nx _ _ | exact NXr.nx _ _ | exact NXo.nx _ _ _ | exact NXb.nx _ _ | exact ne_mat _ _ | exact ne_opt _ _ | exact ne_ans _ _ | refine ne_bind ?_ fun _ _ => ?_ | split)⟩
instance {c : Nat} {F : Fn} [NXf F] : NXo (cEqI c F) := ⟨fun x y s => by
  unfold cEqI
  repeat' (first | exact ne_ok _ _ | exact ne_bad | exact NXe.nx _ _ | exact NXt.nx _ _ | exact NXa.nx _ _ | exact NXs.nx _ _ | exact NXf.nx _ _ | exact NXg.nx _ _ _ | exact NXi.nx _ _ | exact NXk.nx _ _ | exact NXr.nx _ _ | exact NXo.nx _ _ _ | exact NXb.nx _ _ | exact ne_mat _ _ | exact ne_opt _ _ | exact ne_ans _ _ | refine ne_bind ?_ fun _ _ => ?_ | split)⟩
theorem ne_eqGo {c : Nat} {F : Fn} [NXf F] {x y : Tv} {N : Nat} : ∀ (f : Nat) (s : Store), NE (eqGo c F x y N f s)
  | 0, s => by
    unfold eqGo
    repeat' (first | exact ne_ok _ _ | exact ne_bad | exact NXe.nx _ _ | exact NXt.nx _ _ | exact NXa.nx _ _ | exact NXs.nx _ _ | exact NXf.nx _ _ | exact NXg.nx _ _ _ | exact NXi.nx _ _ | exact NXk.nx _ _ | exact NXr.nx _ _ | exact NXo.nx _ _ _ | exact NXb.nx _ _ | exact ne_mat _ _ | exact ne_opt _ _ | exact ne_ans _ _ | refine ne_bind ?_ fun _ _ => ?_ | split)
  | f + 1, s => by
    unfold eqGo
    repeat' (first | exact ne_eqGo f _ | exact ne_ok _ _ | exact ne_bad | exact NXf.nx _ _ | refine ne_bind ?_ fun _ _ => ?_ | split)
instance {c : Nat} {F : Fn} [NXf F] : NXo (cEqIL c F) := ⟨fun x y s => by
  unfold cEqIL
  repeat' (first | exact ne_eqGo _ _ | exact ne_ok _ _ | exact ne_bad | refine ne_bind ?_ fun _ _ => ?_ | split)⟩
/-! ### raise, try -/
/-- the fields of an exception: names and values by turns -/
def xlook (f : Nat) : List Val → Option Val
  | .str g :: x :: r => if g = f then some x else xlook f r
  | _ => none
def eXf (fs : List Val) (f : Nat) : Ev := fun _ s => match xlook f fs with
  | some x => .ok (.v x) s
  | none => .bad
/-- raise C(e) | raise C(e, e2): the fields f, f2 -/
def sRaise1 (c f : Nat) (e : Ev) : Sx := fun ρ s => (e ρ s).bind fun t s => (mat t s).bind fun x s => .exc c [.str f, x] s
def sRaise2 (c f g : Nat) (e e2 : Ev) : Sx := fun ρ s => (e ρ s).bind fun t s => (mat t s).bind fun x s => (e2 ρ s).bind fun t s => (mat t s).bind fun y s => .exc c [.str g, y, .str f, x] s
def sRaise0 (c : Nat) : Sx := fun _ s => .exc c [] s
/-- except C as name: suite; the class C, the classes that it takes, the name's slot -/
structure Hd where
  c : Nat
  cs : List Nat
  slot : Option Nat
  su : List Val → Sx
def nonAt (ρ : Env) : Option Nat → Bool
  | none => true
  | some i => match ρ[i]? with
    | some none => true
    | _ => false
/-- the suite binds nothing at the exception's name -/
def hdGo (ρ : Env) (s : Store) (c : Nat) (fs : List Val) : List Hd → Res (Fl × Env)
  | [] => .exc c fs s
  | h :: r => if h.cs.contains c = true then (if nonAt ρ h.slot = true then (h.su fs ρ s).bind fun q s => if nonAt q.2 h.slot = true then .ok q s else .bad else .bad) else hdGo ρ s c fs r
/-- er: the classes of errors -/
def sTry (er : List Nat) (b : Sx) (hs : List Hd) : Sx := fun ρ s => match b ρ s with
  | .ok r s => .ok r s
  | .exc c fs s => if er.contains c = true then hdGo ρ s c fs hs else .bad
  | .bad => .bad
/-! ### str(a) == str(b) -/
/-- what is shown: data, an empty dict too -/
inductive Sh where
  | non | bool (b : Bool) | int (i : Int) | str (s : Nat) | lst (l : List Sh) | tup (l : List Sh) | emp
  deriving Inhabited
mutual
def Sh.same : Sh → Sh → Bool
  | .non, .non => true
  | .bool a, .bool b => a == b
  | .int i, .int j => i == j
  | .str x, .str y => x == y
  | .lst xs, .lst ys => Sh.sames xs ys
  | .tup xs, .tup ys => Sh.sames xs ys
  | .emp, .emp => true
  | _, _ => false
termination_by structural x => x
def Sh.sames : List Sh → List Sh → Bool
  | [], [] => true
  | x :: xs, y :: ys => Sh.same x y && Sh.sames xs ys
  | _, _ => false
termination_by structural x => x
end
mutual
/-- how much is shown: a text of the program is shorter than 200 signs -/
def Sh.wt : Sh → Nat
  | .int _ => 64
  | .str _ => 200
  | .lst xs => Sh.wts xs
  | .tup xs => Sh.wts xs
  | _ => 0
termination_by structural x => x
def Sh.wts : List Sh → Nat
  | [] => 0
  | x :: xs => Sh.wt x + 1 + Sh.wts xs
termination_by structural x => x
end
mutual
def Sh.fine : Sh → Bool
  | .int i => decide (i.natAbs < 1000000000000)
  | .lst xs => Sh.fines xs
  | .tup xs => Sh.fines xs
  | _ => true
termination_by structural x => x
def Sh.fines : List Sh → Bool
  | [] => true
  | x :: xs => Sh.fine x && Sh.fines xs
termination_by structural x => x
end
def toS (st : Store) : Nat → Val → Option Sh
  | 0, x => match x with
    | .non => some .non
    | .bool b => some (.bool b)
    | .int i => some (.int i)
    | .str s => some (.str s)
    | _ => none
  | n + 1, x => match x with
    | .non => some .non
    | .bool b => some (.bool b)
    | .int i => some (.int i)
    | .str s => some (.str s)
    | .tup l => (mapO (toS st n) l).map .tup
    | .ref k => match st[k]? with
      | some (.lst l) => (mapO (toS st n) l).map .lst
      | some (.frz l) => (mapO (toS st n) l).map .lst
      | some (.dct []) => some .emp
      | _ => none
def tvS (st : Store) : Tv → Option Sh
  | .v (.str _) => none
  | .v x => toS st DEEP x
  | .l xs => (mapO (toS st DEEP) xs).map .lst
def shown (t : Tv) (s : Store) : Option Sh := match tvS s t with
  | some d => if d.fine && decide (d.wt ≤ 100000) then some d else none
  | none => none
/-- str(a) == str(b), where both are the same -/
def eSame (k : Bool) (a b : Ev) : Ev := fun ρ s => (a ρ s).bind fun t s => match shown t s with
  | some d => (b ρ s).bind fun t s => match shown t s with
    | some e => if Sh.same d e = true then .ok (.v (.bool k)) s else .bad
    | none => .bad
  | none => .bad
/-- {} -/
def eDct : Ev := fun _ s => .ok (.v (.ref s.length)) (s ++ [.dct []])
/-- x != y, two instances of the class c, by its own __eq__ -/
def cNeI (c : Nat) (F : Fn) : Op2 := fun x y s => match isIns x c s, isIns y c s with
  | some a, some b => (F [a, b] s).bind fun r s => match r with
    | .v (.bool k) => .ok (.v (.bool (!k))) s
    | _ => .bad
  | _, _ => .bad
instance {c : Nat} {F : Fn} [NXf F] : NXo (cNeI c F) := ⟨fun x y s => by
  unfold cNeI
  repeat' (first | exact ne_ok _ _ | exact ne_bad | exact NXe.nx _ _ | exact NXt.nx _ _ | exact NXa.nx _ _ | exact NXs.nx _ _ | exact NXf.nx _ _ | exact NXg.nx _ _ _ | exact NXi.nx _ _ | exact NXk.nx _ _ | exact NXr.nx _ _ | exact NXo.nx _ _ _ | exact NXb.nx _ _ | exact ne_mat _ _ | exact ne_opt _ _ | exact ne_ans _ _ | refine ne_bind ?_ fun _ _ => ?_ | split)⟩
instance : NXe eDct := ⟨fun ρ s => by
  unfold eDct
  repeat' (first | exact ne_ok _ _ | exact ne_bad | exact NXe.nx _ _ | exact NXt.nx _ _ | exact NXa.nx _ _ | exact NXs.nx _ _ | exact NXf.nx _ _ | exact NXg.nx _ _ _ | exact NXi.nx _ _ | exact NXk.nx _ _ | exact NXr.nx _ _ | exact NXo.nx _ _ _ | exact NXb.nx _ _ | exact ne_mat _ _ | exact ne_opt _ _ | exact ne_ans _ _ | refine ne_bind ?_ fun _ _ => ?_ | split)⟩
end VI
end
section
set_option Elab.async false
set_option linter.all false
/-! VI0i: == of an instance with anything else; in and index by own __eq__s. -/
namespace VI
/-- x is y, both bools -/
def cIsB : Op2 := fun x y s => match x, y with
  | .v (.bool a), .v (.bool b) => .ok (.v (.bool (a == b))) s
  | _, _ => .bad
abbrev Tbl := List (Nat × Fn)
def tblF : Tbl → Nat → Option Fn
  | [], _ => none
  | (c, F) :: r, d => if d = c then some F else tblF r d
/-- the own __eq__ of an instance -/
def ownF (tbl : Tbl) (x : Val) (s : Store) : Option Fn := match x with
  | .ref n => match s[n]? with
    | some (.ins d _) => tblF tbl d
    | _ => none
  | _ => none
def flatL : Val → Bool
  | .non => true
  | .int _ => true
  | .str _ => true
  | _ => false
def anyR (tbl : Tbl) (y : Val) (s : Store) : Bool := match y with
  | .ref _ => (ownF tbl y s).isSome
  | _ => true
def asB (r : Res Tv) : Res Bool := r.bind fun t s => match t with
  | .v (.bool k) => .ok k s
  | _ => .bad
/-- x == y where one of the two is an instance: its own __eq__, of the left one first -/
def eqU (tbl : Tbl) (x y : Val) (s : Store) : Res Bool := match ownF tbl x s with
  | some F => if anyR tbl y s = true then asB (F [x, y] s) else .bad
  | none => match ownF tbl y s with
    | some F => if flatL x = true then asB (F [y, x] s) else .bad
    | none => .bad
def cEqW (tbl : Tbl) : Op2 := fun x y s => match x, y with
  | .v x, .v y => (eqU tbl x y s).bind fun k s => .ok (.v (.bool k)) s
  | _, _ => .bad
def sameR : Val → Val → Bool
  | .ref i, .ref j => decide (i = j)
  | _, _ => false
def inGo (tbl : Tbl) (x : Val) : List Val → Store → Res Bool
  | [], s => .ok false s
  | y :: ys, s => if sameR y x = true then .ok true s else (eqU tbl y x s).bind fun k s => if k = true then .ok true s else inGo tbl x ys s
/-- x in [.., ..]: x an instance, the list written there -/
def cInW (tbl : Tbl) : Op2 := fun x y s => match x, y with
  | .v x, .l ys => if (ownF tbl x s).isSome = true then (inGo tbl x ys s).bind fun k s => .ok (.v (.bool k)) s else .bad
  | _, _ => .bad
def ixGo (tbl : Tbl) (o : Tv) (x : Val) (N : Nat) : Nat → Store → Res Nat
  | 0, _ => .bad
  | m + 1, s => match refL o s with
    | some (_, xs) => if xs.length = N then match xs[N - (m + 1)]? with
        | some y => if sameR y x = true then .ok (N - (m + 1)) s else (eqU tbl y x s).bind fun k s => if k = true then .ok (N - (m + 1)) s else ixGo tbl o x N m s
        | none => .bad
      else .bad
    | none => .bad
/-- l.index(x), l a list in the store, x an instance -/
def eIxW (tbl : Tbl) (e a : Ev) : Ev := fun ρ s => (e ρ s).bind fun o s => if (refL o s).isSome = true then (a ρ s).bind fun t s => match t, refL o s with
  | .v x, some (_, xs) => if (ownF tbl x s).isSome = true then (ixGo tbl o x xs.length xs.length s).bind fun j s => .ok (.v (.int (j : Nat))) s else .bad
  | _, _ => .bad
  else .bad
end VI
end
section
set_option Elab.async false
set_option linter.all false
set_option maxRecDepth 100000
set_option maxHeartbeats 2000000
/-! WP: what a reading gives, said by postconditions; simp lemmas for the combinators. -/
namespace VI
inductive Wp {α : Type} (r : Res α) (Q : α → Store → Prop) : Prop
  | mk (a : α) (s : Store) (e : r = .ok a s) (q : Q a s) : Wp r Q
section
variable {α β : Type} {r : Res α} {Q Q' : α → Store → Prop}
@[simp] theorem wp_ok (a : α) (s : Store) : Wp (.ok a s) Q ↔ Q a s := ⟨fun ⟨_, _, e, q⟩ => by cases e; exact q, fun h => ⟨a, s, rfl, h⟩⟩
@[simp] theorem wp_bad : Wp (.bad : Res α) Q ↔ False := ⟨fun ⟨_, _, e, _⟩ => (by cases e), False.elim⟩
@[simp] theorem wp_exc (c fs) (s : Store) : Wp (.exc c fs s : Res α) Q ↔ False := ⟨fun ⟨_, _, e, _⟩ => (by cases e), False.elim⟩
@[simp] theorem wp_bind (f : α → Store → Res β) (Q : β → Store → Prop) : Wp (r.bind f) Q ↔ Wp r fun a s => Wp (f a s) Q := by
  cases r with
  | ok a s => simp
  | exc => simp
  | bad => simp
theorem Wp.mono (h : Wp r Q) (k : ∀ a s, Q a s → Q' a s) : Wp r Q' := by
  obtain ⟨a, s, e, q⟩ := h
  exact ⟨a, s, e, k a s q⟩
theorem wp_iff : Wp r Q ↔ ∃ a s, r = .ok a s ∧ Q a s := ⟨fun ⟨a, s, e, q⟩ => ⟨a, s, e, q⟩, fun ⟨a, s, e, q⟩ => ⟨a, s, e, q⟩⟩
theorem wp_of_eq {a : α} {s : Store} (e : r = .ok a s) (h : Q a s) : Wp r Q := ⟨a, s, e, h⟩
end
/-! ### combinators -/
section
variable {ρ : Env} {s : Store}
@[simp] theorem LIM_eq : LIM = 16777216 := (rfl)
@[simp] theorem mat_v (x : Val) : mat (.v x) s = .ok x s := (rfl)
@[simp] theorem mat_l (xs : List Val) : mat (.l xs) s = .ok (.ref s.length) (s ++ [.lst xs]) := (rfl)
@[simp] theorem eC_r (x : Val) : eC x ρ s = .ok (.v x) s := (rfl)
@[simp] theorem eV_r (i : Nat) : eV i ρ s = match ρ[i]? with
  | some (some x) => .ok (.v x) s
  | _ => .bad := (rfl)
@[simp] theorem aNil_r : aNil ρ s = .ok [] s := (rfl)
@[simp] theorem aCons_r (e : Ev) (r : Avs) : aCons e r ρ s = (e ρ s).bind fun t s => (mat t s).bind fun x s => (r ρ s).bind fun xs s => .ok (x :: xs) s := (rfl)
@[simp] theorem eTup_r (a : Avs) : eTup a ρ s = (a ρ s).bind fun xs s => if xs.length ≤ LIM then .ok (.v (.tup xs)) s else .bad := (rfl)
@[simp] theorem eLst_r (a : Avs) : eLst a ρ s = (a ρ s).bind fun xs s => if xs.length ≤ LIM then .ok (.l xs) s else .bad := (rfl)
@[simp] theorem eBin_r (o : Op2) (a b : Ev) : eBin o a b ρ s = (a ρ s).bind fun x s => (b ρ s).bind fun y s => o x y s := (rfl)
@[simp] theorem oAdd_i (i j : Int) : oAdd (.v (.int i)) (.v (.int j)) s = .ok (.v (.int (i + j))) s := (rfl)
@[simp] theorem oAdd_t (a b : List Val) : oAdd (.v (.tup a)) (.v (.tup b)) s = if a.length + b.length ≤ LIM then .ok (.v (.tup (a ++ b))) s else .bad := (rfl)
@[simp] theorem oAdd_ll (a b : List Val) : oAdd (.l a) (.l b) s = if a.length + b.length ≤ LIM then .ok (.l (a ++ b)) s else .bad := (rfl)
@[simp] theorem oAdd_rl (n : Nat) (b : List Val) : oAdd (.v (.ref n)) (.l b) s = match lstOf (.v (.ref n)) s with
  | some a => if a.length + b.length ≤ LIM then .ok (.l (a ++ b)) s else .bad
  | none => .bad := by
  unfold oAdd
  simp only [lstOf]
  cases h : s[n]? with
  | none => rfl
  | some o => cases o <;> rfl
@[simp] theorem oSub_i (i j : Int) : oSub (.v (.int i)) (.v (.int j)) s = .ok (.v (.int (i - j))) s := (rfl)
@[simp] theorem oMul_i (i j : Int) : oMul (.v (.int i)) (.v (.int j)) s = if small i || small j then .ok (.v (.int (i * j))) s else .bad := (rfl)
@[simp] theorem oMul_t (a : List Val) (k : Int) : oMul (.v (.tup a)) (.v (.int k)) s = if -1000 ≤ k ∧ k ≤ 1000 ∧ a.length ≤ 1000 ∧ a.isEmpty = false then .ok (.v (.tup (List.replicate k.toNat a).flatten)) s else .bad := (rfl)
@[simp] theorem oMul_l (a : List Val) (k : Int) : oMul (.l a) (.v (.int k)) s = if -(2 ^ 63) ≤ k ∧ k < 2 ^ 63 ∧ a.length * k.toNat ≤ LIM then .ok (.l (List.replicate k.toNat a).flatten) s else .bad := (rfl)
@[simp] theorem oMod_i (i j : Int) : oMod (.v (.int i)) (.v (.int j)) s = if j ≠ 0 then .ok (.v (.int (i.fmod j))) s else .bad := (rfl)
@[simp] theorem oDiv_i (i j : Int) : oDiv (.v (.int i)) (.v (.int j)) s = if j ≠ 0 ∧ j.natAbs < 1073741824 then .ok (.v (.int (i.fdiv j))) s else .bad := (rfl)
@[simp] theorem oPow_i (i j : Int) : oPow (.v (.int i)) (.v (.int j)) s = if 0 ≤ j ∧ j ≤ 64 ∧ i.natAbs < 2 ^ 200 then .ok (.v (.int (i ^ j.toNat))) s else .bad := (rfl)
@[simp] theorem eNeg_r (a : Ev) : eNeg a ρ s = (a ρ s).bind fun x s => match x with
  | .v (.int i) => .ok (.v (.int (-i))) s
  | _ => .bad := (rfl)
@[simp] theorem eNot_r (a : Ev) : eNot a ρ s = (a ρ s).bind fun x s => match x with
  | .v (.bool b) => .ok (.v (.bool (!b))) s
  | _ => .bad := (rfl)
@[simp] theorem eAnd_r (a b : Ev) : eAnd a b ρ s = (a ρ s).bind fun x s => match x with
  | .v (.bool c) => if c = true then b ρ s else .ok (.v (.bool false)) s
  | _ => .bad := (rfl)
@[simp] theorem eOr_r (a b : Ev) : eOr a b ρ s = (a ρ s).bind fun x s => match x with
  | .v (.bool c) => if c = true then .ok (.v (.bool true)) s else b ρ s
  | _ => .bad := (rfl)
@[simp] theorem cLt_i (i j : Int) : cLt (.v (.int i)) (.v (.int j)) s = .ok (.v (.bool (decide (i < j)))) s := (rfl)
@[simp] theorem cLe_i (i j : Int) : cLe (.v (.int i)) (.v (.int j)) s = .ok (.v (.bool (decide (i ≤ j)))) s := (rfl)
@[simp] theorem cGt_i (i j : Int) : cGt (.v (.int i)) (.v (.int j)) s = .ok (.v (.bool (decide (j < i)))) s := (rfl)
@[simp] theorem cGe_i (i j : Int) : cGe (.v (.int i)) (.v (.int j)) s = .ok (.v (.bool (decide (j ≤ i)))) s := (rfl)
@[simp] theorem cIsN_r (x : Tv) : cIsN x (.v .non) s = .ok (.v (.bool (isN x))) s := (rfl)
@[simp] theorem cNotN_r (x : Tv) : cNotN x (.v .non) s = .ok (.v (.bool (!isN x))) s := (rfl)
@[simp] theorem isN_non : isN (.v .non) = true := (rfl)
@[simp] theorem isN_int (i : Int) : isN (.v (.int i)) = false := (rfl)
@[simp] theorem isN_tup (l : List Val) : isN (.v (.tup l)) = false := (rfl)
@[simp] theorem toD_non (n : Nat) : toD s n .non = some .non := by cases n <;> rfl
@[simp] theorem toD_bool (n : Nat) (b : Bool) : toD s n (.bool b) = some (.bool b) := by cases n <;> rfl
@[simp] theorem toD_int (n : Nat) (i : Int) : toD s n (.int i) = some (.int i) := by cases n <;> rfl
@[simp] theorem toD_str (n : Nat) (i : Nat) : toD s n (.str i) = some (.str i) := by cases n <;> rfl
@[simp] theorem eqT_i (i j : Int) : eqT (.v (.int i)) (.v (.int j)) s = some (decide (i = j)) := by simp [eqT, tvD, Dt.eqv]; rfl
@[simp] theorem eqT_s (i j : Nat) : eqT (.v (.str i)) (.v (.str j)) s = some (decide (i = j)) := by simp [eqT, tvD, Dt.eqv]; rfl
@[simp] theorem cEq_r (x y : Tv) : cEq x y s = ans (eqT x y s) s := (rfl)
@[simp] theorem cNe_r (x y : Tv) : cNe x y s = ans ((eqT x y s).map not) s := (rfl)
@[simp] theorem ans_s (b : Bool) : ans (some b) s = .ok (.v (.bool b)) s := (rfl)
@[simp] theorem cIn_r (x y : Tv) : cIn x y s = ans (isIn x y s) s := (rfl)
@[simp] theorem cNotIn_r (x y : Tv) : cNotIn x y s = ans ((isIn x y s).map not) s := (rfl)
@[simp] theorem isIn_t (x : Val) (ys : List Val) : isIn (.v x) (.v (.tup ys)) s = if flat x && ys.all flat then some (ys.any fun z => flatEq z x) else none := (rfl)
@[simp] theorem eChain_r (o o' : Op2) (a b c : Ev) : eChain o o' a b c ρ s = (a ρ s).bind fun x s => (b ρ s).bind fun y s => (o x y s).bind fun r s => match r with
  | .v (.bool k) => if k = true then (c ρ s).bind fun z s => o' y z s else .ok (.v (.bool false)) s
  | _ => .bad := (rfl)
@[simp] theorem tB_r (e : Ev) : tB e ρ s = (e ρ s).bind fun x s => match x with
  | .v (.bool b) => .ok b s
  | _ => .bad := (rfl)
@[simp] theorem tTru_r (e : Ev) : tTru e ρ s = (e ρ s).bind fun x s => match tru x s with
  | some b => .ok b s
  | none => .bad := (rfl)
@[simp] theorem tNot_r (t : Tst) : tNot t ρ s = (t ρ s).bind fun b s => .ok (!b) s := (rfl)
@[simp] theorem tAnd_r (t u : Tst) : tAnd t u ρ s = (t ρ s).bind fun b s => if b = true then u ρ s else .ok false s := (rfl)
@[simp] theorem tOr_r (t u : Tst) : tOr t u ρ s = (t ρ s).bind fun b s => if b = true then .ok true s else u ρ s := (rfl)
@[simp] theorem eIf_r (t : Tst) (a b : Ev) : eIf t a b ρ s = (t ρ s).bind fun c s => if c = true then a ρ s else b ρ s := (rfl)
@[simp] theorem oIdx_r (x : Tv) (i : Int) : oIdx x (.v (.int i)) s = match seqOf x s with
    | some xs => match atI xs i with
      | some z => .ok (.v z) s
      | none => .bad
    | none => .bad := (rfl)
@[simp] theorem seqOf_t (xs : List Val) : seqOf (.v (.tup xs)) s = some xs := (rfl)
@[simp] theorem seqOf_l (xs : List Val) : seqOf (.l xs) s = some xs := (rfl)
@[simp] theorem lstOf_l (xs : List Val) : lstOf (.l xs) s = some xs := (rfl)
@[simp] theorem eSl_r (e : Ev) (lo hi : Option Ev) : eSl e lo hi ρ s = (e ρ s).bind fun x s => (optI lo ρ s).bind fun i s => (optI hi ρ s).bind fun j s => slc x i j s := (rfl)
@[simp] theorem optI_n : optI none ρ s = .ok none s := (rfl)
@[simp] theorem optI_s (e : Ev) : optI (some e) ρ s = (e ρ s).bind fun x s => match x with
    | .v (.int i) => .ok (some i) s
    | _ => .bad := (rfl)
@[simp] theorem slc_t (xs : List Val) (lo hi : Option Int) : slc (.v (.tup xs)) lo hi s = .ok (.v (.tup (cutV xs lo hi))) s := (rfl)
@[simp] theorem slc_l (xs : List Val) (lo hi : Option Int) : slc (.l xs) lo hi s = .ok (.l (cutV xs lo hi)) s := (rfl)
@[simp] theorem eFld_r (cs : List Nat) (e : Ev) (f : Nat) : eFld cs e f ρ s = (e ρ s).bind fun x s => match fldOf cs x f s with
  | some z => .ok (.v z) s
  | none => .bad := (rfl)
@[simp] theorem eCall_r (F : Fn) (a : Avs) : eCall F a ρ s = (a ρ s).bind fun xs s => F xs s := (rfl)
@[simp] theorem eB1_r (b : B1) (a : Ev) : eB1 b a ρ s = (a ρ s).bind b := (rfl)
@[simp] theorem bLen_r (x : Tv) : bLen x s = match seqOf x s with
  | some xs => .ok (.v (.int xs.length)) s
  | none => .bad := (rfl)
@[simp] theorem bInt_i (i : Int) : bInt (.v (.int i)) s = .ok (.v (.int i)) s := (rfl)
@[simp] theorem bInt_b (b : Bool) : bInt (.v (.bool b)) s = .ok (.v (.int (if b then 1 else 0))) s := (rfl)
@[simp] theorem bTuple_r (x : Tv) : bTuple x s = match seqOf x s with
  | some xs => .ok (.v (.tup xs)) s
  | none => .bad := (rfl)
@[simp] theorem bList_r (x : Tv) : bList x s = match seqOf x s with
  | some xs => .ok (.l xs) s
  | none => .bad := (rfl)
@[simp] theorem oMax_i (i j : Int) : oMax (.v (.int i)) (.v (.int j)) s = .ok (.v (.int (if j > i then j else i))) s := (rfl)
@[simp] theorem oMin_i (i j : Int) : oMin (.v (.int i)) (.v (.int j)) s = .ok (.v (.int (if j < i then j else i))) s := (rfl)
@[simp] theorem rg1_r (e : Ev) : rg1 e ρ s = (e ρ s).bind fun t s => match t with
  | .v (.int j) => .ok ((0 : Int), j) s
  | _ => .bad := (rfl)
@[simp] theorem rg2_r (e e' : Ev) : rg2 e e' ρ s = (e ρ s).bind fun t s => (e' ρ s).bind fun t' s => match t, t' with
  | .v (.int i), .v (.int j) => .ok (i, j) s
  | _, _ => .bad := (rfl)
@[simp] theorem eLstR_r (r : Rg) : eLstR r ρ s = (r ρ s).bind fun p s => if fitR p.1 p.2 then .ok (.l (rngV p.1 p.2)) s else .bad := (rfl)
@[simp] theorem eTupR_r (r : Rg) : eTupR r ρ s = (r ρ s).bind fun p s => if fitR p.1 p.2 then .ok (.v (.tup (rngV p.1 p.2))) s else .bad := (rfl)
@[simp] theorem bIs_r (cs : List Nat) (ty : Ty) (x : Tv) : bIs cs ty x s = ans (isTy cs ty x s) s := (rfl)
@[simp] theorem isTy_int (cs : List Nat) (ty : Ty) (i : Int) : isTy cs ty (.v (.int i)) s = some (match ty with | .int => true | _ => false) := (rfl)
@[simp] theorem isTy_non (cs : List Nat) (ty : Ty) : isTy cs ty (.v .non) s = some false := (rfl)
@[simp] theorem isTy_str (cs : List Nat) (ty : Ty) (i : Nat) : isTy cs ty (.v (.str i)) s = some (match ty with | .str => true | _ => false) := (rfl)
@[simp] theorem isTy_tup (cs : List Nat) (ty : Ty) (l : List Val) : isTy cs ty (.v (.tup l)) s = some (match ty with | .tuple => true | .lot => true | _ => false) := (rfl)
@[simp] theorem isTy_l (cs : List Nat) (ty : Ty) (l : List Val) : isTy cs ty (.l l) s = some (match ty with | .list => true | .lot => true | _ => false) := (rfl)
/-! ### statements -/
@[simp] theorem sNop_r : sNop ρ s = .ok (.next, ρ) s := (rfl)
@[simp] theorem sSeq_r (a b : Sx) : sSeq a b ρ s = (a ρ s).bind fun r s => match r with
  | (.next, ρ) => b ρ s
  | r => .ok r s := (rfl)
@[simp] theorem sAsg_r (g : Tgt) (e : Ev) : sAsg g e ρ s = (e ρ s).bind fun t s => (mat t s).bind fun x s => (g x ρ s).bind fun ρ s => .ok (.next, ρ) s := (rfl)
@[simp] theorem gV_r (i : Nat) (x : Val) : gV i x ρ s = .ok (ρ.set i (some x)) s := (rfl)
@[simp] theorem gT_r (is : List Nat) (xs : List Val) : gT is (.tup xs) ρ s = match setAll is xs ρ with
    | some ρ => .ok ρ s
    | none => .bad := (rfl)
@[simp] theorem setAll_n : setAll [] [] ρ = some ρ := (rfl)
@[simp] theorem setAll_c (i : Nat) (is : List Nat) (x : Val) (xs : List Val) : setAll (i :: is) (x :: xs) ρ = setAll is xs (ρ.set i (some x)) := (rfl)
@[simp] theorem sPar_r (i j : Nat) (a : Avs) : sPar i j a ρ s = (a ρ s).bind fun xs s => match xs with
  | [x, y] => .ok (.next, (ρ.set i (some x)).set j (some y)) s
  | _ => .bad := (rfl)
@[simp] theorem sExp_r (e : Ev) : sExp e ρ s = (e ρ s).bind fun _ s => .ok (.next, ρ) s := (rfl)
@[simp] theorem sRet_r (e : Ev) : sRet e ρ s = (e ρ s).bind fun t s => .ok (.ret t, ρ) s := (rfl)
@[simp] theorem sIf_r (t : Tst) (a b : Sx) : sIf t a b ρ s = (t ρ s).bind fun c s => if c = true then a ρ s else b ρ s := (rfl)
@[simp] theorem sFor_r (ix : Ix) (g : Tgt) (b : Sx) : sFor ix g b ρ s = (ix ρ s).bind fun its s => match its s with
  | some xs => forGo its g b (xs.length + 1) 0 ρ s
  | none => .bad := (rfl)
theorem fnOf_r (np nl : Nat) (b : Sx) (vs : List Val) (h : vs.length = np) : fnOf np nl b vs s = (b (vs.map some ++ List.replicate (nl - np) none) s).bind fun r s => match r with
    | (.next, _) => .ok (.v .non) s
    | (.ret x, _) => .ok x s
    | (.brk, _) => .bad := by unfold fnOf; rw [if_pos h] <;> rfl
/-- what a body's end means for its def -/
def FinQ (Q : Tv → Store → Prop) (r : Fl × Env) (s : Store) : Prop := match r.1 with
  | .next => Q (.v .non) s
  | .ret x => Q x s
  | .brk => False
@[simp] theorem FinQ_n (Q : Tv → Store → Prop) (ρ : Env) (s : Store) : FinQ Q (.next, ρ) s ↔ Q (.v .non) s := Iff.rfl
@[simp] theorem FinQ_r (Q : Tv → Store → Prop) (x : Tv) (ρ : Env) (s : Store) : FinQ Q (.ret x, ρ) s ↔ Q x s := Iff.rfl
theorem wp_fnI {np nl : Nat} {b : Sx} {vs : List Val} {s : Store} {Q : Tv → Store → Prop} (h : vs.length = np) : Wp (fnOf np nl b vs s) Q ↔ Wp (b (vs.map some ++ List.replicate (nl - np) none) s) (FinQ Q) := by
  rw [fnOf_r np nl b vs h, wp_bind]
  constructor
  · intro k
    refine k.mono fun r s h => ?_
    obtain ⟨f, ρ⟩ := r
    cases f with
    | next => simpa [FinQ] using h
    | ret x => simpa [FinQ] using h
    | brk => simp at h
  · intro k
    refine k.mono fun r s h => ?_
    obtain ⟨f, ρ⟩ := r
    cases f with
    | next => simpa [FinQ] using h
    | ret x => simpa [FinQ] using h
    | brk => simp [FinQ] at h
theorem wp_fn0 {nl : Nat} {b : Sx} {s : Store} {Q : Tv → Store → Prop} : Wp (fnOf 0 nl b [] s) Q ↔ Wp (b (List.replicate nl none) s) (FinQ Q) := wp_fnI rfl
theorem wp_fn1 {nl : Nat} {b : Sx} {x : Val} {s : Store} {Q : Tv → Store → Prop} : Wp (fnOf 1 nl b [x] s) Q ↔ Wp (b (some x :: List.replicate (nl - 1) none) s) (FinQ Q) := wp_fnI rfl
theorem wp_fn2 {nl : Nat} {b : Sx} {x y : Val} {s : Store} {Q : Tv → Store → Prop} : Wp (fnOf 2 nl b [x, y] s) Q ↔ Wp (b (some x :: some y :: List.replicate (nl - 2) none) s) (FinQ Q) := wp_fnI rfl
theorem wp_fn3 {nl : Nat} {b : Sx} {x y z : Val} {s : Store} {Q : Tv → Store → Prop} : Wp (fnOf 3 nl b [x, y, z] s) Q ↔ Wp (b (some x :: some y :: some z :: List.replicate (nl - 3) none) s) (FinQ Q) := wp_fnI rfl
theorem wp_fn4 {nl : Nat} {b : Sx} {x y z w : Val} {s : Store} {Q : Tv → Store → Prop} : Wp (fnOf 4 nl b [x, y, z, w] s) Q ↔ Wp (b (some x :: some y :: some z :: some w :: List.replicate (nl - 4) none) s) (FinQ Q) := wp_fnI rfl
@[simp] theorem atI_0 {α : Type} (x : α) (xs : List α) : atI (x :: xs) 0 = some x := by simp [atI, ixN]
end
/-! ### loops over items that stay -/
theorem wp_forGo {its : Its} {xs : List Val} {g : Tgt} {b : Sx} {Q : Fl × Env → Store → Prop} (I : Nat → Env → Store → Prop) (hs : ∀ i ρ s, I i ρ s → its s = some xs)
    (step : ∀ i x ρ s, xs[i]? = some x → I i ρ s → Wp (g x ρ s) fun ρ s => Wp (b ρ s) fun r s => match r with
      | (.next, ρ) => I (i + 1) ρ s
      | (.brk, ρ) => Q (.next, ρ) s
      | r => Q r s) (fin : ∀ ρ s, I xs.length ρ s → Q (.next, ρ) s) :
    ∀ (f i : Nat) (ρ : Env) (s : Store), i ≤ xs.length → xs.length - i < f → I i ρ s → Wp (forGo its g b f i ρ s) Q
  | 0, i, ρ, s, _, h, _ => absurd h (Nat.not_lt_zero _)
  | f + 1, i, ρ, s, hi, h, hI => by
    unfold forGo
    simp only [hs i ρ s hI]
    cases e : xs[i]? with
    | none =>
      have : i = xs.length := Nat.le_antisymm hi (List.getElem?_eq_none_iff.mp e)
      subst this
      exact (wp_ok _ _).mpr (fin ρ s hI)
    | some x =>
      have hlt : i < xs.length := (List.getElem?_eq_some_iff.mp e).1
      simp only [wp_bind]
      refine (step i x ρ s e hI).mono fun ρ1 s1 h1 => h1.mono fun r s2 h2 => ?_
      obtain ⟨fl, ρ2⟩ := r
      cases fl with
      | next => exact wp_forGo I hs step fin f (i + 1) ρ2 s2 hlt (by omega) h2
      | brk => exact (wp_ok _ _).mpr h2
      | ret t => exact (wp_ok _ _).mpr h2
theorem wp_for {ix : Ix} {its : Its} {xs : List Val} {g : Tgt} {b : Sx} {ρ : Env} {s s1 : Store} {Q : Fl × Env → Store → Prop} (hix : ix ρ s = .ok its s1) (I : Nat → Env → Store → Prop) (hs : ∀ i ρ s, I i ρ s → its s = some xs) (h0 : I 0 ρ s1)
    (step : ∀ i x ρ s, xs[i]? = some x → I i ρ s → Wp (g x ρ s) fun ρ s => Wp (b ρ s) fun r s => match r with
      | (.next, ρ) => I (i + 1) ρ s
      | (.brk, ρ) => Q (.next, ρ) s
      | r => Q r s) (fin : ∀ ρ s, I xs.length ρ s → Q (.next, ρ) s) : Wp (sFor ix g b ρ s) Q := by
  rw [sFor_r, hix, bind_ok, hs 0 ρ s1 h0]
  exact wp_forGo I hs step fin _ 0 ρ s1 (Nat.zero_le _) (by omega) h0
/-- comprehensions -/
theorem wp_compGo {its : Its} {xs : List Val} {g : Tgt} {c : Tst} {e : Ev} {ρ : Env} {Q : Tv → Store → Prop} (I : Nat → List Val → Store → Prop) (hs : ∀ i acc s, I i acc s → its s = some xs)
    (step : ∀ i x acc s, xs[i]? = some x → I i acc s → Wp (g x ρ s) fun ρ' s => Wp (c ρ' s) fun k s => if k = true then Wp (e ρ' s) fun t s => Wp (mat t s) fun y s => acc.length < LIM ∧ I (i + 1) (acc ++ [y]) s else I (i + 1) acc s)
    (fin : ∀ acc s, I xs.length acc s → Q (.l acc) s) :
    ∀ (f i : Nat) (acc : List Val) (s : Store), i ≤ xs.length → xs.length - i < f → I i acc s → Wp (compGo its g c e ρ f i acc s) Q
  | 0, i, acc, s, _, h, _ => absurd h (Nat.not_lt_zero _)
  | f + 1, i, acc, s, hi, h, hI => by
    unfold compGo
    simp only [hs i acc s hI]
    cases ex : xs[i]? with
    | none =>
      have : i = xs.length := Nat.le_antisymm hi (List.getElem?_eq_none_iff.mp ex)
      subst this
      exact (wp_ok _ _).mpr (fin acc s hI)
    | some x =>
      have hlt : i < xs.length := (List.getElem?_eq_some_iff.mp ex).1
      simp only [wp_bind]
      refine (step i x acc s ex hI).mono fun ρ1 s1 h1 => h1.mono fun k s2 h2 => ?_
      cases k with
      | true =>
        simp only [if_true, wp_bind] at h2 ⊢
        refine h2.mono fun t s3 h3 => h3.mono fun y s4 h4 => ?_
        rw [if_pos h4.1]
        exact wp_compGo I hs step fin f (i + 1) (acc ++ [y]) s4 hlt (by omega) h4.2
      | false =>
        simp only [Bool.false_eq_true, if_false] at h2 ⊢
        exact wp_compGo I hs step fin f (i + 1) acc s2 hlt (by omega) h2
theorem wp_comp {ix : Ix} {its : Its} {xs : List Val} {g : Tgt} {own : List Nat} {c : Tst} {e : Ev} {ρ : Env} {s s1 : Store} {Q : Tv → Store → Prop} (hix : ix ρ s = .ok its s1) (I : Nat → List Val → Store → Prop) (hs : ∀ i acc s, I i acc s → its s = some xs) (h0 : I 0 [] s1)
    (step : ∀ i x acc s, xs[i]? = some x → I i acc s → Wp (g x (wipe ρ own) s) fun ρ' s => Wp (c ρ' s) fun k s => if k = true then Wp (e ρ' s) fun t s => Wp (mat t s) fun y s => acc.length < LIM ∧ I (i + 1) (acc ++ [y]) s else I (i + 1) acc s)
    (fin : ∀ acc s, I xs.length acc s → Q (.l acc) s) : Wp (eComp ix g own c e ρ s) Q := by
  unfold eComp
  rw [hix, bind_ok, hs 0 [] s1 h0]
  exact wp_compGo I hs step fin _ 0 [] s1 (Nat.zero_le _) (by omega) h0
end VI
end
section
set_option Elab.async false
set_option linter.all false
set_option maxRecDepth 100000
set_option maxHeartbeats 4000000
/-! the defs of law k01, printed by gen.py -/
namespace L_k01
open VI
def B_Sender_tables : Sx := (sSeq (sAsg (gV 1) (eTup (aCons (eFld [0, 1] (eV 0) 91) (aCons (eFld [0, 1] (eV 0) 28) (aCons (eFld [0, 1] (eV 0) 14) aNil))))) (sRet (eBin oAdd (eV 1) (eTup (aCons (eFld [0, 1] (eV 0) 78) (aCons (eFld [0, 1] (eV 0) 87) (aCons (eFld [0, 1] (eV 0) 34) (aCons (eFld [0] (eV 0) 84) (aCons (eFld [0, 1] (eV 0) 20) aNil)))))))))
def F_Sender_tables : Fn := fnOf 1 2 B_Sender_tables
def B_Sender___eq__ : Sx := (sRet (eAnd (eB1 (bIs [0, 1, 2] (.cls 0)) (eV 1)) (eBin cEq (eMeth 0 83 F_Sender_tables (eV 0) aNil) (eMeth 0 83 F_Sender_tables (eV 1) aNil))))
def F_Sender___eq__ : Fn := fnOf 2 2 B_Sender___eq__
def B_require_positive : Sx := (sIf (tOr (tB (eB1 (bIs [0, 1, 2] .bool) (eV 0))) (tOr (VI.tNot (tB (eB1 (bIs [0, 1, 2] .int) (eV 0)))) (tB (eBin cLt (eV 0) (eC (.int 1)))))) (sRaise 6 aNil) sNop)
def F_require_positive : Fn := fnOf 1 1 B_require_positive
def B_is_below : Sx := (sRet (eAnd (eB1 (bIs [0, 1, 2] .int) (eV 0)) (eAnd (eNot (eB1 (bIs [0, 1, 2] .bool) (eV 0))) (eChain cLe cLt (eC (.int 0)) (eV 0) (eV 1)))))
def F_is_below : Fn := fnOf 2 2 B_is_below
def B_is_row : Sx := (sRet (eAnd (eB1 (bIs [0, 1, 2] .tuple) (eV 0)) (eAnd (eBin cEq (eB1 bLen (eV 0)) (eV 1)) (eB1 bAll (eComp (ixE (eV 0)) (gV 3) [3] tYes (eCall F_is_below (aCons (eV 3) (aCons (eV 2) aNil))))))))
def F_is_row : Fn := fnOf 3 4 B_is_row
def B_is_given : Sx := (sSeq (sIf (tOr (VI.tNot (tB (eB1 (bIs [0, 1, 2] .tuple) (eV 0)))) (tB (eBin cNe (eB1 bLen (eV 0)) (eV 1)))) (sRet (eC (.bool false))) sNop) (sRet (eB1 bAll (eComp (ixE (eV 0)) (gV 3) [3] tYes (eOr (eBin cIsN (eV 3) (eC .non)) (eCall F_is_below (aCons (eV 3) (aCons (eV 2) aNil))))))))
def F_is_given : Fn := fnOf 3 4 B_is_given
def B_checked (Lf : Val → Store → Res Tv) : Sx := (sSeq (sIf (tOr (VI.tNot (tB (eB1 (bIs [0, 1, 2] .lot) (eV 1)))) (tOr (tB (eBin cEq (eB1 bLen (eV 1)) (eC (.int 0)))) (tAnd (tB (eBin cNotN (eV 2) (eC .non))) (tB (eBin cNe (eB1 bLen (eV 1)) (eV 2)))))) (sRaise 9 aNil) sNop) (sSeq (sFor (ixEnum (eV 1)) (gT [4, 5]) (sIf (VI.tNot (tB (eLamC 3 Lf (eV 5)))) (sRaise 9 aNil) sNop)) (sRet (eB1 bTuple (eV 1)))))
def F_checked (Lf : Val → Store → Res Tv) : Fn := fnOf 3 6 (B_checked Lf)
def B_checked_sends : Sx := (sRet (eCallL F_checked (aCons (eC (.str 78)) (aCons (eV 0) (aCons (eC .non) aNil))) [1] (eOr (eBin cIsN (eV 0) (eC .non)) (eCall F_is_below (aCons (eV 0) (aCons (eV 1) aNil))))))
def F_checked_sends : Fn := fnOf 2 2 B_checked_sends
def B_checked_states : Sx := (sRet (eCallL F_checked (aCons (eV 0) (aCons (eV 1) (aCons (eV 2) aNil))) [2] (eCall F_is_below (aCons (eV 0) (aCons (eV 1) aNil)))))
def F_checked_states : Fn := fnOf 3 3 B_checked_states
def B_checked_hears : Sx := (sRet (eCallL F_checked (aCons (eC (.str 34)) (aCons (eV 0) (aCons (eV 2) aNil))) [1, 2] (eCall F_is_row (aCons (eV 0) (aCons (eV 1) (aCons (eV 2) aNil))))))
def F_checked_hears : Fn := fnOf 3 3 B_checked_hears
def B_Receiver___init__ : Sx := (sSeq (sFor (ixE (eTup (aCons (eV 1) (aCons (eV 2) (aCons (eV 3) aNil))))) (gV 9) (sExp (eCall F_require_positive (aCons (eV 9) aNil)))) (sSeq (sFld [0, 1] (eV 0) 91 (eV 1)) (sSeq (sFld [0, 1] (eV 0) 28 (eV 2)) (sSeq (sFld [0, 1] (eV 0) 14 (eV 3)) (sSeq (sFld [0, 1] (eV 0) 78 (eCall F_checked_sends (aCons (eV 4) (aCons (eV 3) aNil)))) (sSeq (sAsg (gV 10) (eB1 bLen (eFld [0, 1] (eV 0) 78))) (sSeq (sFld [0, 1] (eV 0) 87 (eCall F_checked_states (aCons (eC (.str 87)) (aCons (eV 5) (aCons (eV 10) aNil))))) (sSeq (sFld [0, 1] (eV 0) 34 (eCall F_checked_hears (aCons (eV 6) (aCons (eV 2) (aCons (eV 10) aNil))))) (sSeq (sFld [1] (eV 0) 29 (eCallL F_checked (aCons (eC (.str 29)) (aCons (eV 7) (aCons (eV 10) aNil))) [2, 1] (eCall F_is_given (aCons (eV 0) (aCons (eV 1) (aCons (eV 2) aNil)))))) (sFld [0, 1] (eV 0) 20 (eCall F_checked_states (aCons (eC (.str 20)) (aCons (eV 8) (aCons (eV 10) aNil))))))))))))))
def F_Receiver___init__ : Fn := fnOf 9 11 B_Receiver___init__
def B_Receiver_tables : Sx := (sSeq (sAsg (gV 1) (eTup (aCons (eFld [0, 1] (eV 0) 91) (aCons (eFld [0, 1] (eV 0) 28) (aCons (eFld [0, 1] (eV 0) 14) aNil))))) (sRet (eBin oAdd (eV 1) (eTup (aCons (eFld [0, 1] (eV 0) 78) (aCons (eFld [0, 1] (eV 0) 87) (aCons (eFld [0, 1] (eV 0) 34) (aCons (eFld [1] (eV 0) 29) (aCons (eFld [0, 1] (eV 0) 20) aNil)))))))))
def F_Receiver_tables : Fn := fnOf 1 2 B_Receiver_tables
def B_Receiver___eq__ : Sx := (sRet (eAnd (eB1 (bIs [0, 1, 2] (.cls 1)) (eV 1)) (eBin cEq (eMeth 1 83 F_Receiver_tables (eV 0) aNil) (eMeth 1 83 F_Receiver_tables (eV 1) aNil))))
def F_Receiver___eq__ : Fn := fnOf 2 2 B_Receiver___eq__
def B_Pair___eq__ : Sx := (sSeq (sIf (VI.tNot (tB (eB1 (bIs [0, 1, 2] (.cls 2)) (eV 1)))) (sRet (eC (.bool false))) sNop) (sRet (eAnd (eBin (cEqI 0 F_Sender___eq__) (eFld [2] (eV 0) 77) (eFld [2] (eV 1) 77)) (eBin (cEqI 1 F_Receiver___eq__) (eFld [2] (eV 0) 72) (eFld [2] (eV 1) 72)))))
def F_Pair___eq__ : Fn := fnOf 2 2 B_Pair___eq__
def B_require_pair : Sx := (sIf (VI.tNot (tB (eB1 (bIs [0, 1, 2] (.cls 2)) (eV 0)))) (sRaise 7 aNil) sNop)
def F_require_pair : Fn := fnOf 1 1 B_require_pair
def B_forgets : Sx := (sSeq (sAsg (gV 2) (eIf (tB (eBin cEq (eV 1) (eC (.str 77)))) (eFld [0, 1] (eFld [2] (eV 0) 77) 20) (eFld [0, 1] (eFld [2] (eV 0) 72) 20))) (sRet (eB1 bAll (eComp (ixE (eV 2)) (gV 3) [3] tYes (eBin cEq (eV 3) (eC (.int 0)))))))
def F_forgets : Fn := fnOf 2 4 B_forgets
def B_keeps_nothing : Sx := (sSeq (sExp (eCall F_require_pair (aCons (eV 0) aNil))) (sSeq (sIf (tOr (VI.tNot (tB (eB1 (bIs [0, 1, 2] .str) (eV 1)))) (tB (eBin cNotIn (eV 1) (eTup (aCons (eC (.str 77)) (aCons (eC (.str 72)) aNil)))))) (sRaise 8 aNil) sNop) (sRet (eCall F_forgets (aCons (eV 0) (aCons (eV 1) aNil))))))
def F_keeps_nothing : Fn := fnOf 2 2 B_keeps_nothing
def B__law_purse : Sx := (sSeq (sAsg (gV 2) (eC (.int 0))) (sSeq (sIf (tB (eBin cLt (eV 1) (eB1 bLen (eV 0)))) (sAsg (gV 2) (eBin oIdx (eV 0) (eV 1))) sNop) (sRet (eLst (aCons (eBin oMod (eB1 bInt (eBin oMax (eBin oSub (eV 2) (eBin oPow (eC (.int 10)) (eC (.int 18)))) (eC (.int 0)))) (eBin oPow (eBin oPow (eC (.int 10)) (eC (.int 60))) (eC (.int 8)))) (aCons (eBin oMod (eB1 bInt (eV 2)) (eC (.int 2147483647))) (aCons (eBin oMul (eC (.int 1000)) (eV 1)) aNil)))))))
def F__law_purse : Fn := fnOf 2 3 B__law_purse
def B__law_turns : Sx := (sSeq (sAsg (gV 1) (eTup (aCons (eTup (aCons (eC .non) (aCons (eC (.int 0)) (aCons (eC .non) (aCons (eC (.int 1)) aNil))))) (aCons (eTup (aCons (eC (.int 0)) (aCons (eC (.int 1)) (aCons (eC (.int 2)) (aCons (eC (.int 3)) aNil))))) (aCons (eTup (aCons (eTup (aCons (eC (.int 0)) (aCons (eC (.int 0)) aNil))) (aCons (eTup (aCons (eC (.int 2)) (aCons (eC (.int 1)) aNil))) (aCons (eTup (aCons (eC (.int 2)) (aCons (eC (.int 2)) aNil))) (aCons (eTup (aCons (eC (.int 3)) (aCons (eC (.int 0)) aNil))) aNil))))) (aCons (eTup (aCons (eTup (aCons (eC (.int 1)) aNil)) (aCons (eC .non) (aCons (eTup (aCons (eC (.int 3)) aNil)) (aCons (eC .non) aNil))))) aNil)))))) (sSeq (sAsg (gV 2) (eTup (aCons (eTup (aCons (eC (.int 1)) (aCons (eC (.int 0)) aNil))) (aCons (eTup (aCons (eC (.int 0)) (aCons (eC (.int 1)) aNil))) (aCons (eTup (aCons (eTup (aCons (eC (.int 1)) (aCons (eC (.int 0)) aNil))) (aCons (eTup (aCons (eC (.int 1)) (aCons (eC (.int 0)) aNil))) aNil))) (aCons (eTup (aCons (eTup (aCons (eC (.int 0)) (aCons (eC .non) aNil))) (aCons (eTup (aCons (eC .non) (aCons (eC (.int 0)) aNil))) aNil))) aNil)))))) (sSeq (sAsg (gV 3) (eBin oIdx (eLst (aCons (eTup (aCons (eBin oMul (eTup (aCons (eC (.int 0)) aNil)) (eC (.int 4))) (aCons (eBin oMul (eTup (aCons (eC (.int 0)) aNil)) (eC (.int 2))) aNil))) (aCons (eTup (aCons (eTup (aCons (eC (.int 0)) (aCons (eC (.int 0)) (aCons (eC (.int 2)) (aCons (eC (.int 2)) aNil))))) (aCons (eTup (aCons (eC (.int 0)) (aCons (eC (.int 1)) aNil))) aNil))) aNil))) (eB1 bInt (eV 0)))) (sRet (eTup (aCons (eTup (aCons (eC (.int 1)) (aCons (eC (.int 2)) (aCons (eC (.int 2)) aNil)))) (aCons (eBin oAdd (eV 1) (eTup (aCons (eBin oIdx (eV 3) (eC (.int 0))) aNil))) (aCons (eBin oAdd (eV 2) (eTup (aCons (eBin oIdx (eV 3) (eC (.int 1))) aNil))) aNil))))))))
def F__law_turns : Fn := fnOf 1 4 B__law_turns
def B__law_repeats : Sx := (sSeq (sAsg (gV 1) (eTup (aCons (eBin oAdd (eTup (aCons (eC .non) aNil)) (eTupR (rg1 (eV 0)))) (aCons (eTupR (rg1 (eBin oAdd (eV 0) (eC (.int 1))))) (aCons (eBin oMul (eTup (aCons (eTup (aCons (eC (.int 0)) aNil)) aNil)) (eBin oAdd (eV 0) (eC (.int 1)))) aNil))))) (sSeq (sAsg (gV 1) (eBin oAdd (eV 1) (eTup (aCons (eBin oAdd (eTup (aCons (eTupR (rg2 (eC (.int 1)) (eBin oAdd (eV 0) (eC (.int 1))))) aNil)) (eBin oMul (eTup (aCons (eC .non) aNil)) (eV 0))) (aCons (eBin oMul (eTup (aCons (eC (.int 0)) aNil)) (eBin oAdd (eV 0) (eC (.int 1)))) aNil))))) (sRet (eTup (aCons (eTup (aCons (eV 0) (aCons (eV 0) (aCons (eC (.int 1)) aNil)))) (aCons (eV 1) (aCons (eTup (aCons (eTup (aCons (eC (.int 0)) aNil)) (aCons (eTup (aCons (eC (.int 0)) aNil)) (aCons (eTup (aCons (eBin oMul (eTup (aCons (eC (.int 0)) aNil)) (eV 0)) aNil)) (aCons (eTup (aCons (eTupR (rg1 (eV 0))) aNil)) (aCons (eTup (aCons (eC (.int 0)) aNil)) aNil)))))) aNil)))))))
def F__law_repeats : Fn := fnOf 1 2 B__law_repeats
def B_checked_takes : Sx := (sSeq (sIf (tAnd (tB (eB1 (bIs [0, 1, 2] .lot) (eV 0))) (tAnd (tB (eBin cEq (eB1 bLen (eV 0)) (eV 2))) (tB (eBin cIsN (eBin oIdx (eV 0) (eC (.int 0))) (eC .non))))) (sRaise 9 aNil) sNop) (sRet (eCallL F_checked (aCons (eC (.str 84)) (aCons (eV 0) (aCons (eV 2) aNil))) [1, 2] (eOr (eBin cIsN (eV 0) (eC .non)) (eCall F_is_row (aCons (eV 0) (aCons (eV 1) (aCons (eV 2) aNil))))))))
def F_checked_takes : Fn := fnOf 3 3 B_checked_takes
def B_Sender___init__ : Sx := (sSeq (sFor (ixE (eTup (aCons (eV 1) (aCons (eV 2) (aCons (eV 3) aNil))))) (gV 9) (sExp (eCall F_require_positive (aCons (eV 9) aNil)))) (sSeq (sFld [0, 1] (eV 0) 91 (eV 1)) (sSeq (sFld [0, 1] (eV 0) 28 (eV 2)) (sSeq (sFld [0, 1] (eV 0) 14 (eV 3)) (sSeq (sFld [0, 1] (eV 0) 78 (eCall F_checked_sends (aCons (eV 4) (aCons (eV 2) aNil)))) (sSeq (sAsg (gV 10) (eB1 bLen (eFld [0, 1] (eV 0) 78))) (sSeq (sFld [0, 1] (eV 0) 87 (eCall F_checked_states (aCons (eC (.str 87)) (aCons (eV 5) (aCons (eV 10) aNil))))) (sSeq (sFld [0, 1] (eV 0) 34 (eCall F_checked_hears (aCons (eV 6) (aCons (eV 3) (aCons (eV 10) aNil))))) (sSeq (sFld [0] (eV 0) 84 (eCall F_checked_takes (aCons (eV 7) (aCons (eV 1) (aCons (eV 10) aNil))))) (sFld [0, 1] (eV 0) 20 (eCall F_checked_states (aCons (eC (.str 20)) (aCons (eV 8) (aCons (eV 10) aNil))))))))))))))
def F_Sender___init__ : Fn := fnOf 9 11 B_Sender___init__
def B__law_made_sender : Sx := (sRet (eMkK 0 F_Sender___init__ [0, 1, 2, 3, 4, 5, 6, 7, 8] (aCons (eBin oIdx (eV 0) (eC (.int 0))) (aCons (eBin oIdx (eV 0) (eC (.int 1))) (aCons (eBin oIdx (eV 0) (eC (.int 2))) aNil))) (aCons (eBin oIdx (eV 1) (eC (.int 0))) (aCons (eBin oIdx (eV 1) (eC (.int 1))) (aCons (eBin oIdx (eV 1) (eC (.int 2))) (aCons (eBin oIdx (eV 1) (eC (.int 3))) (aCons (eBin oIdx (eV 1) (eC (.int 4))) aNil)))))))
def F__law_made_sender : Fn := fnOf 2 2 B__law_made_sender
def B_Pair___init__ : Sx := (sSeq (sIf (VI.tNot (tB (eB1 (bIs [0, 1, 2] (.cls 0)) (eV 1)))) (sRaise 8 aNil) sNop) (sSeq (sIf (VI.tNot (tB (eB1 (bIs [0, 1, 2] (.cls 1)) (eV 2)))) (sRaise 8 aNil) sNop) (sSeq (sIf (tB (eBin cNe (eSl (eMeth 0 83 F_Sender_tables (eV 1) aNil) none (some (eC (.int 3)))) (eSl (eMeth 1 83 F_Receiver_tables (eV 2) aNil) none (some (eC (.int 3)))))) (sRaise 16 aNil) sNop) (sSeq (sFld [2] (eV 0) 77 (eV 1)) (sFld [2] (eV 0) 72 (eV 2))))))
def F_Pair___init__ : Fn := fnOf 3 3 B_Pair___init__
def B__law_made_receiver : Sx := (sSeq (sAsg (gT [2, 3, 4]) (eV 0)) (sRet (eMkK 1 F_Receiver___init__ [0, 1, 2, 3, 4, 5, 6, 7, 8] (aCons (eV 2) (aCons (eV 3) (aCons (eV 4) aNil))) (aCons (eBin oIdx (eV 1) (eC (.int 0))) (aCons (eBin oIdx (eV 1) (eC (.int 1))) (aCons (eBin oIdx (eV 1) (eC (.int 2))) (aCons (eBin oIdx (eV 1) (eC (.int 3))) (aCons (eBin oIdx (eV 1) (eC (.int 4))) aNil))))))))
def F__law_made_receiver : Fn := fnOf 2 5 B__law_made_receiver
def B__law_made : Sx := (sRet (eMk 2 F_Pair___init__ (aCons (eCall F__law_made_sender (aCons (eBin oIdx (eV 0) (eC (.int 0))) (aCons (eBin oIdx (eV 0) (eC (.int 1))) aNil))) (aCons (eCall F__law_made_receiver (aCons (eBin oIdx (eV 0) (eC (.int 0))) (aCons (eBin oIdx (eV 0) (eC (.int 2))) aNil))) aNil))))
def F__law_made : Fn := fnOf 1 1 B__law_made
def B__law_mixed : Sx := (sSeq (sAsg (gV 2) (eBin oMod (eB1 bInt (eBin oAdd (eBin oAdd (eBin oAdd (eBin oMul (eV 0) (eC (.int 2654435761))) (eBin oMul (eBin oMul (eC (.int 40503)) (eV 1)) (eV 1))) (eBin oMul (eC (.int 97)) (eV 1))) (eC (.int 13)))) (eC (.int 2147483647)))) (sRet (eBin oDiv (eBin oMod (eB1 bInt (eBin oAdd (eBin oAdd (eBin oMul (eV 2) (eV 2)) (eBin oMul (eC (.int 7)) (eV 2))) (eC (.int 11)))) (eC (.int 2147483629))) (eC (.int 3)))))
def F__law_mixed : Fn := fnOf 2 3 B__law_mixed
def B__law_draw : Sx := (sSeq (sIf (tB (eBin cGt (eBin oIdx (eV 0) (eC (.int 0))) (eC (.int 0)))) (sSeq (sAsg (gV 2) (eBin oMod (eB1 bInt (eBin oIdx (eV 0) (eC (.int 0)))) (eV 1))) (sSeq (sSub (eV 0) (eC (.int 0)) (eBin oDiv (eBin oIdx (eV 0) (eC (.int 0))) (eV 1))) (sRet (eV 2)))) sNop) (sSeq (sSub (eV 0) (eC (.int 2)) (eBin oAdd (eBin oIdx (eV 0) (eC (.int 2))) (eC (.int 1)))) (sRet (eBin oMod (eB1 bInt (eCall F__law_mixed (aCons (eBin oIdx (eV 0) (eC (.int 1))) (aCons (eBin oIdx (eV 0) (eC (.int 2))) aNil)))) (eV 1)))))
def F__law_draw : Fn := fnOf 2 3 B__law_draw
def B__law_row : Sx := (sRet (eB1 bTuple (eComp (ixR (eV 1)) (gV 3) [3] tYes (eCall F__law_draw (aCons (eV 0) (aCons (eV 2) aNil))))))
def F__law_row : Fn := fnOf 3 4 B__law_row
def B__law_falls : Sx := (sSeq (sAsg (gV 2) (eCall F__law_draw (aCons (eV 0) (aCons (eC (.int 3)) aNil)))) (sRet (eIf (tB (eBin cEq (eV 2) (eC (.int 0)))) (eBin oMul (eTup (aCons (eC (.int 0)) aNil)) (eV 1)) (eIf (tB (eBin cEq (eV 2) (eC (.int 1)))) (eTupR (rg1 (eV 1))) (eCall F__law_row (aCons (eV 0) (aCons (eV 1) (aCons (eV 1) aNil))))))))
def F__law_falls : Fn := fnOf 2 3 B__law_falls
def B__law_letters : Sx := (sRet (eB1 bTuple (eComp (ixR (eV 1)) (gV 3) [3] tYes (eIf (tB (eBin cEq (eCall F__law_draw (aCons (eV 0) (aCons (eC (.int 3)) aNil))) (eC (.int 0)))) (eC .non) (eCall F__law_draw (aCons (eV 0) (aCons (eV 2) aNil)))))))
def F__law_letters : Fn := fnOf 3 4 B__law_letters
def B__law_sender : Sx := (sSeq (sAsg (gV 3) (eBin oAdd (eC (.int 1)) (eCall F__law_draw (aCons (eV 0) (aCons (eV 2) aNil))))) (sSeq (sAsg (gV 4) (eB1 bTuple (eComp (ixR (eV 3)) (gV 7) [7] tYes (eCall F__law_row (aCons (eV 0) (aCons (eBin oIdx (eV 1) (eC (.int 2))) (aCons (eV 3) aNil))))))) (sSeq (sAsg (gV 5) (eComp (ixR (eV 3)) (gV 7) [7] tYes (eCall F__law_row (aCons (eV 0) (aCons (eBin oIdx (eV 1) (eC (.int 0))) (aCons (eV 3) aNil)))))) (sSeq (sAsg (gV 5) (eBin oAdd (eSl (eV 5) none (some (eC (.int 1)))) (eComp (ixE (eSl (eV 5) (some (eC (.int 1))) none)) (gV 8) [8] tYes (eIf (tB (eBin cEq (eCall F__law_draw (aCons (eV 0) (aCons (eC (.int 2)) aNil))) (eC (.int 0)))) (eC .non) (eV 8))))) (sSeq (sAsg (gV 6) (eIf (tB (eBin cEq (eCall F__law_draw (aCons (eV 0) (aCons (eC (.int 2)) aNil))) (eC (.int 0)))) (eTupR (rg1 (eV 3))) (eCall F__law_row (aCons (eV 0) (aCons (eV 3) (aCons (eV 3) aNil)))))) (sRet (eTup (aCons (eCall F__law_letters (aCons (eV 0) (aCons (eV 3) (aCons (eBin oIdx (eV 1) (eC (.int 1))) aNil)))) (aCons (eV 6) (aCons (eV 4) (aCons (eB1 bTuple (eV 5)) (aCons (eCall F__law_falls (aCons (eV 0) (aCons (eV 3) aNil))) aNil))))))))))))
def F__law_sender : Fn := fnOf 3 9 B__law_sender
def B__law_receiver : Sx := (sSeq (sAsg (gV 3) (eBin oAdd (eC (.int 1)) (eCall F__law_draw (aCons (eV 0) (aCons (eV 2) aNil))))) (sSeq (sAsg (gV 4) (eB1 bTuple (eComp (ixR (eV 3)) (gV 6) [6] tYes (eCall F__law_row (aCons (eV 0) (aCons (eBin oIdx (eV 1) (eC (.int 1))) (aCons (eV 3) aNil))))))) (sSeq (sAsg (gV 5) (eLst aNil)) (sSeq (sFor (ixR (eV 3)) (gV 6) (sSeq (sAsg (gV 7) (eComp (ixR (eBin oIdx (eV 1) (eC (.int 1)))) (gV 9) [9] tYes (eIf (tB (eBin cGt (eCall F__law_draw (aCons (eV 0) (aCons (eC (.int 3)) aNil))) (eC (.int 0)))) (eC .non) (eCall F__law_draw (aCons (eV 0) (aCons (eBin oIdx (eV 1) (eC (.int 0))) aNil)))))) (sExp (eAppend (eV 5) (eB1 bTuple (eV 7)))))) (sSeq (sAsg (gV 8) (eIf (tB (eBin cEq (eCall F__law_draw (aCons (eV 0) (aCons (eC (.int 2)) aNil))) (eC (.int 0)))) (eTupR (rg1 (eV 3))) (eCall F__law_row (aCons (eV 0) (aCons (eV 3) (aCons (eV 3) aNil)))))) (sRet (eTup (aCons (eCall F__law_letters (aCons (eV 0) (aCons (eV 3) (aCons (eBin oIdx (eV 1) (eC (.int 2))) aNil)))) (aCons (eV 8) (aCons (eV 4) (aCons (eB1 bTuple (eV 5)) (aCons (eCall F__law_falls (aCons (eV 0) (aCons (eV 3) aNil))) aNil))))))))))))
def F__law_receiver : Fn := fnOf 3 10 B__law_receiver
def B__law_greets : Sx := (sSeq (sAsg (gV 1) (eTup (aCons (eTup (aCons (eC .non) (aCons (eC (.int 0)) (aCons (eC (.int 1)) aNil)))) (aCons (eTup (aCons (eC (.int 0)) (aCons (eC (.int 1)) (aCons (eC (.int 2)) aNil)))) (aCons (eTup (aCons (eTup (aCons (eC (.int 0)) (aCons (eC (.int 0)) aNil))) (aCons (eTup (aCons (eC (.int 1)) (aCons (eC (.int 2)) aNil))) (aCons (eTup (aCons (eC (.int 0)) (aCons (eC (.int 2)) aNil))) aNil)))) (aCons (eTup (aCons (eTup (aCons (eC (.int 1)) aNil)) (aCons (eC .non) (aCons (eC .non) aNil)))) (aCons (eTup (aCons (eC (.int 0)) (aCons (eC (.int 0)) (aCons (eC (.int 0)) aNil)))) aNil))))))) (sSeq (sAsg (gV 2) (eTup (aCons (eTup (aCons (eC .non) (aCons (eC (.int 1)) (aCons (eC (.int 0)) aNil)))) (aCons (eTup (aCons (eC (.int 0)) (aCons (eC (.int 1)) (aCons (eC (.int 2)) aNil)))) (aCons (eTup (aCons (eTup (aCons (eC (.int 1)) (aCons (eC (.int 0)) aNil))) (aCons (eTup (aCons (eC (.int 1)) (aCons (eC (.int 2)) aNil))) (aCons (eTup (aCons (eC (.int 2)) (aCons (eC (.int 2)) aNil))) aNil)))) (aCons (eTup (aCons (eTup (aCons (eC .non) (aCons (eC .non) aNil))) (aCons (eTup (aCons (eC .non) (aCons (eC (.int 0)) aNil))) (aCons (eTup (aCons (eC .non) (aCons (eC .non) aNil))) aNil)))) (aCons (eTup (aCons (eC (.int 0)) (aCons (eC (.int 0)) (aCons (eC (.int 0)) aNil)))) aNil))))))) (sSeq (sIf (tB (eV 0)) (sAsg (gV 2) (eBin oAdd (eSl (eV 2) none (some (eC (.int 4)))) (eTup (aCons (eTup (aCons (eC (.int 0)) (aCons (eC (.int 1)) (aCons (eC (.int 2)) aNil)))) aNil)))) sNop) (sRet (eTup (aCons (eTup (aCons (eC (.int 1)) (aCons (eC (.int 2)) (aCons (eC (.int 2)) aNil)))) (aCons (eV 1) (aCons (eV 2) aNil))))))))
def F__law_greets : Fn := fnOf 1 3 B__law_greets
def B__law_raw : Sx := (sSeq (sAsg (gV 1) (eCall F__law_draw (aCons (eV 0) (aCons (eC (.int 10)) aNil)))) (sSeq (sIf (tB (eBin cLt (eV 1) (eC (.int 2)))) (sRet (eCall F__law_turns (aCons (eBin cEq (eV 1) (eC (.int 0))) aNil))) sNop) (sSeq (sIf (tB (eBin cLt (eV 1) (eC (.int 4)))) (sRet (eCall F__law_greets (aCons (eBin cEq (eV 1) (eC (.int 2))) aNil))) sNop) (sSeq (sIf (tB (eBin cLt (eV 1) (eC (.int 6)))) (sRet (eCall F__law_repeats (aCons (eBin oAdd (eC (.int 1)) (eCall F__law_draw (aCons (eV 0) (aCons (eC (.int 2)) aNil)))) aNil))) sNop) (sSeq (sAsg (gV 2) (eTup (aCons (eBin oAdd (eC (.int 1)) (eCall F__law_draw (aCons (eV 0) (aCons (eC (.int 2)) aNil)))) (aCons (eBin oAdd (eC (.int 1)) (eCall F__law_draw (aCons (eV 0) (aCons (eC (.int 3)) aNil)))) (aCons (eBin oAdd (eC (.int 1)) (eCall F__law_draw (aCons (eV 0) (aCons (eC (.int 3)) aNil)))) aNil))))) (sRet (eTup (aCons (eV 2) (aCons (eCall F__law_sender (aCons (eV 0) (aCons (eV 2) (aCons (eC (.int 4)) aNil)))) (aCons (eCall F__law_receiver (aCons (eV 0) (aCons (eV 2) (aCons (eC (.int 4)) aNil)))) aNil))))))))))
def F__law_raw : Fn := fnOf 1 3 B__law_raw
def B__law_told : Sx := (sSeq (sAsg (gV 1) (eTup (aCons (eFld [0, 1] (eV 0) 91) (aCons (eFld [0, 1] (eV 0) 28) (aCons (eFld [0, 1] (eV 0) 14) aNil))))) (sSeq (sIf (tB (eB1 (bIs [0, 1, 2] (.cls 0)) (eV 0))) (sRet (eTup (aCons (eV 1) (aCons (eTup (aCons (eFld [0, 1] (eV 0) 78) (aCons (eFld [0, 1] (eV 0) 87) (aCons (eFld [0, 1] (eV 0) 34) (aCons (eFld [0] (eV 0) 84) (aCons (eFld [0, 1] (eV 0) 20) aNil)))))) aNil)))) sNop) (sRet (eTup (aCons (eV 1) (aCons (eTup (aCons (eFld [0, 1] (eV 0) 78) (aCons (eFld [0, 1] (eV 0) 87) (aCons (eFld [0, 1] (eV 0) 34) (aCons (eFld [1] (eV 0) 29) (aCons (eFld [0, 1] (eV 0) 20) aNil)))))) aNil))))))
def F__law_told : Fn := fnOf 1 2 B__law_told
def B__law_bent : Sx := (sSeq (sAsg (gT [4, 5, 6]) (eTup (aCons (eB1 bLen (eBin oIdx (eV 2) (eC (.int 0)))) (aCons (eCall F__law_draw (aCons (eV 0) (aCons (eB1 bLen (eBin oIdx (eV 2) (eC (.int 0)))) aNil))) (aCons (eCall F__law_draw (aCons (eV 0) (aCons (eC (.int 5)) aNil))) aNil))))) (sSeq (sAsg (gV 7) (eB1 bList (eBin oIdx (eV 2) (eV 6)))) (sSeq (sIf (tB (eBin cEq (eV 6) (eC (.int 0)))) (sSub (eV 7) (eV 5) (eBin oIdx (eLst (aCons (eC .non) (aCons (eCall F__law_draw (aCons (eV 0) (aCons (eBin oIdx (eV 1) (eBin oAdd (eC (.int 1)) (eB1 bInt (eNot (eV 3))))) aNil))) aNil))) (eCall F__law_draw (aCons (eV 0) (aCons (eC (.int 2)) aNil))))) (sIf (tB (eBin cIn (eV 6) (eTup (aCons (eC (.int 1)) (aCons (eC (.int 4)) aNil))))) (sSub (eV 7) (eV 5) (eCall F__law_draw (aCons (eV 0) (aCons (eV 4) aNil)))) (sIf (tAnd (tB (eBin cEq (eV 6) (eC (.int 3)))) (tB (eV 3))) (sSeq (sAsg (gV 8) (eB1 bTuple (eComp (ixR (eBin oIdx (eV 1) (eC (.int 0)))) (gV 10) [10] tYes (eCall F__law_draw (aCons (eV 0) (aCons (eV 4) aNil)))))) (sSub (eV 7) (eV 5) (eIf (tAnd (tB (eBin cGt (eV 5) (eC (.int 0)))) (tB (eBin cEq (eCall F__law_draw (aCons (eV 0) (aCons (eC (.int 2)) aNil))) (eC (.int 0))))) (eC .non) (eV 8)))) (sSeq (sAsg (gV 8) (eB1 bList (eBin oIdx (eV 7) (eV 5)))) (sSeq (sAsg (gV 9) (eCall F__law_draw (aCons (eV 0) (aCons (eB1 bLen (eV 8)) aNil)))) (sSeq (sSub (eV 8) (eV 9) (eIf (tB (eBin cEq (eV 6) (eC (.int 2)))) (eCall F__law_draw (aCons (eV 0) (aCons (eV 4) aNil))) (eBin oIdx (eLst (aCons (eC .non) (aCons (eCall F__law_draw (aCons (eV 0) (aCons (eBin oIdx (eV 1) (eC (.int 0))) aNil))) aNil))) (eCall F__law_draw (aCons (eV 0) (aCons (eC (.int 2)) aNil)))))) (sSub (eV 7) (eV 5) (eB1 bTuple (eV 8))))))))) (sRet (eBin oAdd (eBin oAdd (eSl (eV 2) none (some (eV 6))) (eTup (aCons (eB1 bTuple (eV 7)) aNil))) (eSl (eV 2) (some (eBin oAdd (eV 6) (eC (.int 1)))) none))))))
def F__law_bent : Fn := fnOf 4 11 B__law_bent
def TB : Tbl := [(0, F_Sender___eq__), (1, F_Receiver___eq__), (2, F_Pair___eq__)]
def B__law_kept_right : Sx := (sSeq (sAsg (gV 3) (eComp (ixE (eV 1)) (gV 5) [5] tYes (eB1 bList (eV 5)))) (sSeq (sIf (tB (eV 2)) (sAsg (gV 4) (eMkK 0 F_Sender___init__ [0, 8, 7, 6, 5, 4, 3, 2, 1] aNil (aCons (eBin oIdx (eV 3) (eC (.int 4))) (aCons (eBin oIdx (eV 3) (eC (.int 3))) (aCons (eBin oIdx (eV 3) (eC (.int 2))) (aCons (eBin oIdx (eV 3) (eC (.int 1))) (aCons (eBin oIdx (eV 3) (eC (.int 0))) (aCons (eBin oIdx (eV 0) (eC (.int 2))) (aCons (eBin oIdx (eV 0) (eC (.int 1))) (aCons (eBin oIdx (eV 0) (eC (.int 0))) aNil)))))))))) (sAsg (gV 4) (eMkK 1 F_Receiver___init__ [0, 8, 7, 6, 5, 4, 3, 2, 1] aNil (aCons (eBin oIdx (eV 3) (eC (.int 4))) (aCons (eBin oIdx (eV 3) (eC (.int 3))) (aCons (eBin oIdx (eV 3) (eC (.int 2))) (aCons (eBin oIdx (eV 3) (eC (.int 1))) (aCons (eBin oIdx (eV 3) (eC (.int 0))) (aCons (eBin oIdx (eV 0) (eC (.int 2))) (aCons (eBin oIdx (eV 0) (eC (.int 1))) (aCons (eBin oIdx (eV 0) (eC (.int 0))) aNil))))))))))) (sSeq (sFor (ixE (eV 3)) (gV 5) (sSeq (sSub (eV 5) (eC (.int 0)) (eC (.str 30))) (sExp (eAppend (eV 5) (eC .non))))) (sSeq (sAsg (gV 6) (eIf (tB (eV 2)) (eCall F__law_made_sender (aCons (eV 0) (aCons (eV 1) aNil))) (eCall F__law_made_receiver (aCons (eV 0) (aCons (eV 1) aNil))))) (sRet (eAnd (eBin cEq (eCall F__law_told (aCons (eV 4) aNil)) (eTup (aCons (eV 0) (aCons (eV 1) aNil)))) (eBin (cEqW TB) (eV 4) (eV 6))))))))
def F__law_kept_right : Fn := fnOf 3 7 B__law_kept_right
def B__law_right : Sx := (sSeq (sAsg (gV 1) (eCall F__law_raw (aCons (eV 0) aNil))) (sSeq (sAsg (gV 2) (eCall F__law_made (aCons (eV 1) aNil))) (sSeq (sIf (tOr (tB (eBin cNe (eCall F__law_told (aCons (eFld [2] (eV 2) 77) aNil)) (eTup (aCons (eBin oIdx (eV 1) (eC (.int 0))) (aCons (eBin oIdx (eV 1) (eC (.int 1))) aNil))))) (tB (eBin cNe (eCall F__law_told (aCons (eFld [2] (eV 2) 72) aNil)) (eTup (aCons (eBin oIdx (eV 1) (eC (.int 0))) (aCons (eBin oIdx (eV 1) (eC (.int 2))) aNil)))))) (sRet (eC (.bool false))) sNop) (sSeq (sIf (tOr (VI.tNot (tB (eCall F__law_kept_right (aCons (eBin oIdx (eV 1) (eC (.int 0))) (aCons (eBin oIdx (eV 1) (eC (.int 1))) (aCons (eC (.bool true)) aNil)))))) (VI.tNot (tB (eCall F__law_kept_right (aCons (eBin oIdx (eV 1) (eC (.int 0))) (aCons (eBin oIdx (eV 1) (eC (.int 2))) (aCons (eC (.bool false)) aNil))))))) (sRet (eC (.bool false))) sNop) (sSeq (sFor (ixE (eTup (aCons (eTup (aCons (eC (.str 77)) (aCons (eBin oIdx (eV 1) (eC (.int 1))) aNil))) (aCons (eTup (aCons (eC (.str 72)) (aCons (eBin oIdx (eV 1) (eC (.int 2))) aNil))) aNil)))) (gT [3, 4]) (sSeq (sAsg (gV 5) (eBin cEq (eComp (ixE (eBin oIdx (eV 4) (eC (.int 4)))) (gV 9) [9] (tB (eBin cNe (eV 9) (eC (.int 0)))) (eV 9)) (eLst aNil))) (sIf (tOr (tB (eBin cNe (eCall F_keeps_nothing (aCons (eV 2) (aCons (eV 3) aNil))) (eV 5))) (tB (eBin cNe (eCallK F_keeps_nothing [1, 0] aNil (aCons (eV 3) (aCons (eV 2) aNil))) (eV 5)))) (sRet (eC (.bool false))) sNop))) (sSeq (sAsg (gV 6) (eTup (aCons (eBin oIdx (eV 1) (eC (.int 0))) (aCons (eCall F__law_bent (aCons (eV 0) (aCons (eBin oIdx (eV 1) (eC (.int 0))) (aCons (eBin oIdx (eV 1) (eC (.int 1))) (aCons (eC (.bool true)) aNil))))) (aCons (eCall F__law_bent (aCons (eV 0) (aCons (eBin oIdx (eV 1) (eC (.int 0))) (aCons (eBin oIdx (eV 1) (eC (.int 2))) (aCons (eC (.bool false)) aNil))))) aNil))))) (sSeq (sAsg (gV 7) (eCall F__law_made (aCons (eV 6) aNil))) (sSeq (sAsg (gV 8) (eLst (aCons (eBin (cEqW TB) (eFld [2] (eV 7) 77) (eFld [2] (eV 2) 77)) (aCons (eBin (cEqW TB) (eFld [2] (eV 7) 72) (eFld [2] (eV 2) 72)) (aCons (eBin (cEqW TB) (eV 7) (eV 2)) aNil))))) (sSeq (sAsg (gV 5) (eLst (aCons (eBin cEq (eBin oIdx (eV 6) (eC (.int 1))) (eBin oIdx (eV 1) (eC (.int 1)))) (aCons (eBin cEq (eBin oIdx (eV 6) (eC (.int 2))) (eBin oIdx (eV 1) (eC (.int 2)))) (aCons (eBin cEq (eV 6) (eV 1)) aNil))))) (sSeq (sIf (tOr (tB (eBin cNe (eV 8) (eV 5))) (tOr (tB (eBin (cEqW TB) (eV 2) (eFld [2] (eV 2) 77))) (tOr (tB (eBin (cEqW TB) (eFld [2] (eV 2) 77) (eFld [2] (eV 2) 72))) (tB (eBin (cEqW TB) (eV 2) (eV 1)))))) (sRet (eC (.bool false))) sNop) (sSeq (sIf (tOr (tB (eBin (cInW TB) (eFld [2] (eV 2) 77) (eLst (aCons (eC .non) (aCons (eC (.int 5)) (aCons (eC (.str 103)) (aCons (eV 2) aNil))))))) (tB (eBin (cInW TB) (eFld [2] (eV 2) 72) (eLst (aCons (eC .non) (aCons (eC (.int 5)) (aCons (eC (.str 103)) (aCons (eV 2) aNil)))))))) (sRet (eC (.bool false))) sNop) (sSeq (sIf (tB (eBin (cInW TB) (eV 2) (eLst (aCons (eC .non) (aCons (eC (.int 5)) (aCons (eFld [2] (eV 2) 77) (aCons (eFld [2] (eV 2) 72) aNil))))))) (sRet (eC (.bool false))) sNop) (sSeq (sIf (tB (eBin (cNeI 2 F_Pair___eq__) (eMkK 2 F_Pair___init__ [0, 2, 1] aNil (aCons (eFld [2] (eV 2) 72) (aCons (eFld [2] (eV 2) 77) aNil))) (eV 2))) (sRet (eC (.bool false))) sNop) (sRet (eSame true (eBin (cEqW TB) (eMk 2 F_Pair___init__ (aCons (eFld [2] (eV 2) 77) (aCons (eFld [2] (eV 7) 72) aNil))) (eV 2)) (eBin cEq (eBin oIdx (eV 6) (eC (.int 2))) (eBin oIdx (eV 1) (eC (.int 2)))))))))))))))))))
def F__law_right : Fn := fnOf 1 10 B__law_right
def B_law : Sx := (sSeq (sFor (ixR (eBin oAdd (eC (.int 1)) (eBin oMin (eC (.int 8)) (eB1 bLen (eV 0))))) (gV 1) (sSeq (sAsg (gV 2) (eCall F__law_purse (aCons (eV 0) (aCons (eV 1) aNil)))) (sFor (ixR (eC (.int 3))) (gV 3) (sIf (VI.tNot (tB (eCall F__law_right (aCons (eV 2) aNil)))) (sRet (eC (.bool false))) sNop)))) (sSeq (sAsg (gV 4) (eLst (aCons (eMkK 1 F_Receiver___init__ [0, 1, 2, 3, 4, 5, 6, 7, 8] (aCons (eC (.int 1)) (aCons (eC (.int 1)) (aCons (eC (.int 1)) aNil))) (aCons (eLst (aCons (eC (.int 0)) aNil)) (aCons (eLst (aCons (eC (.int 0)) aNil)) (aCons (eLst (aCons (eTup (aCons (eC (.int 0)) aNil)) aNil)) (aCons (eLst (aCons (eTup (aCons (eC (.int 0)) aNil)) aNil)) (aCons (eLst (aCons (eC (.int 0)) aNil)) aNil)))))) aNil))) (sSeq (sExp (eAppend (eV 4) (eMkK 1 F_Receiver___init__ [0, 1, 2, 3, 4, 5, 6, 7, 8] (aCons (eC (.int 2)) (aCons (eC (.int 1)) (aCons (eC (.int 1)) aNil))) (aCons (eLst (aCons (eC (.int 0)) aNil)) (aCons (eLst (aCons (eC (.int 0)) aNil)) (aCons (eLst (aCons (eTup (aCons (eC (.int 0)) aNil)) aNil)) (aCons (eLst (aCons (eTup (aCons (eC (.int 0)) aNil)) aNil)) (aCons (eLst (aCons (eC (.int 0)) aNil)) aNil)))))))) (sSeq (sExp (eAppend (eV 4) (eMkK 1 F_Receiver___init__ [0, 1, 2, 3, 4, 5, 6, 7, 8] (aCons (eC (.int 1)) (aCons (eC (.int 1)) (aCons (eC (.int 2)) aNil))) (aCons (eLst (aCons (eC (.int 0)) aNil)) (aCons (eLst (aCons (eC (.int 0)) aNil)) (aCons (eLst (aCons (eTup (aCons (eC (.int 0)) aNil)) aNil)) (aCons (eLst (aCons (eTup (aCons (eC (.int 0)) aNil)) aNil)) (aCons (eLst (aCons (eC (.int 0)) aNil)) aNil)))))))) (sSeq (sIf (tB (eBin cNe (eComp (ixE (eV 4)) (gV 7) [7] tYes (eIxW TB (eV 4) (eV 7))) (eLst (aCons (eC (.int 0)) (aCons (eC (.int 1)) (aCons (eC (.int 2)) aNil)))))) (sRet (eC (.bool false))) sNop) (sSeq (sPar 5 6 (aCons (eCall F__law_repeats (aCons (eC (.int 1)) aNil)) (aCons (eCall F__law_made_sender (aCons (eTup (aCons (eC (.int 1)) (aCons (eC (.int 2)) (aCons (eC (.int 1)) aNil)))) (aCons (eBin oIdx (eCall F__law_repeats (aCons (eC (.int 1)) aNil)) (eC (.int 1))) aNil))) aNil))) (sRet (eAnd (eBin (cNeI 0 F_Sender___eq__) (eFld [2] (eCall F__law_made (aCons (eV 5) aNil)) 77) (eV 6)) (eBin cIsB (eCall F_keeps_nothing (aCons (eCall F__law_made (aCons (eCall F__law_turns (aCons (eC (.bool true)) aNil)) aNil)) (aCons (eC (.str 72)) aNil))) (eC (.bool false)))))))))))
def F_law : Fn := fnOf 1 8 B_law
end L_k01
end
section
set_option Elab.async false
set_option linter.all false
set_option maxRecDepth 100000
set_option maxHeartbeats 4000000
namespace L_k01
open VI
section
set_option Elab.async false
set_option linter.all false
set_option maxRecDepth 100000
set_option maxHeartbeats 2000000
def Pu (p n : Nat) (s : Store) : Prop := ∃ a b c : Int, s[p]? = some (.lst [.int a, .int b, .int c]) ∧ 0 ≤ c ∧ c ≤ n
def Fr (p : Nat) (s s' : Store) : Prop := s.length ≤ s'.length ∧ ∀ k, k < s.length → k ≠ p → s'[k]? = s[k]?
theorem Fr.refl (p : Nat) (s : Store) : Fr p s s := ⟨Nat.le_refl _, fun _ _ _ => rfl⟩
theorem Fr.trans {p : Nat} {s s1 s2 : Store} (a : Fr p s s1) (b : Fr p s1 s2) : Fr p s s2 := ⟨Nat.le_trans a.1 b.1, fun k hk hp => (b.2 k (Nat.lt_of_lt_of_le hk a.1) hp).trans (a.2 k hk hp)⟩
theorem Fr.set {p : Nat} {s : Store} {o : Ob} : Fr p s (s.set p o) := ⟨by rw [List.length_set]; exact Nat.le_refl _, fun k hk hp => by rw [List.getElem?_set_ne (Ne.symm hp)]⟩
theorem Fr.app {p : Nat} {s : Store} {l : List Ob} : Fr p s (s ++ l) := ⟨by rw [List.length_append]; exact Nat.le_add_right _ _, fun k hk hp => by rw [List.getElem?_append_left hk]⟩
theorem Pu.lt {p n : Nat} {s : Store} (h : Pu p n s) : p < s.length := by
  obtain ⟨a, b, c, h, _⟩ := h
  exact (List.getElem?_eq_some_iff.mp h).1
theorem Pu.app {p n : Nat} {s : Store} (h : Pu p n s) (l : List Ob) : Pu p n (s ++ l) := by
  have hl := h.lt
  obtain ⟨a, b, c, h, q⟩ := h
  exact ⟨a, b, c, by rw [List.getElem?_append_left hl]; exact h, q⟩
theorem Pu.le {p n m : Nat} {s : Store} (h : Pu p n s) (hm : n ≤ m) : Pu p m s := by
  obtain ⟨a, b, c, h, h1, h2⟩ := h
  exact ⟨a, b, c, h, h1, by omega⟩
theorem is_below_i (i m : Int) (s : Store) : F_is_below [.int i, .int m] s = .ok (.v (.bool (decide (0 ≤ i) && decide (i < m)))) s := by
  simp [F_is_below, B_is_below, fnOf_r]
  by_cases h : 0 ≤ i <;> simp [h]
theorem is_below_n (m : Int) (s : Store) : F_is_below [.non, .int m] s = .ok (.v (.bool false)) s := by
  simp [F_is_below, B_is_below, fnOf_r]
theorem mixed_ok (b c : Int) (h0 : 0 ≤ c) (h1 : c < 2 ^ 60) (s : Store) : ∃ r : Int, F__law_mixed [.int b, .int c] s = .ok (.v (.int r)) s ∧ 0 ≤ r := by
  have e1 : small 2654435761 = true := by decide
  have e2 : small 40503 = true := by decide
  have e3 : small c = true := by unfold small; simp only [Bool.and_eq_true, decide_eq_true_eq]; omega
  have e4 : small 97 = true := by decide
  have e5 : ∀ x : Int, small (x.fmod 2147483647) = true := fun x => by
    have h := Int.fmod_nonneg_of_pos x (b := 2147483647) (by decide)
    have h' := Int.fmod_lt_of_pos x (b := 2147483647) (by decide)
    unfold small; simp only [Bool.and_eq_true, decide_eq_true_eq]; omega
  have e6 : small 7 = true := by decide
  refine ⟨_, by simp [F__law_mixed, B__law_mixed, fnOf_r, e1, e2, e3, e4, e5, e6]; rfl, ?_⟩
  exact Int.fdiv_nonneg (Int.fmod_nonneg_of_pos _ (by decide)) (by decide)
theorem atI_of {α : Type} {xs : List α} {i : Nat} {x : α} (h : xs[i]? = some x) : atI xs (i : Int) = some x := by
  have hl := (List.getElem?_eq_some_iff.mp h).1
  unfold atI ixN
  rw [if_pos (by omega), if_pos (by omega)]
  exact h
theorem atI_1 {α : Type} (x y : α) (xs : List α) : atI (x :: y :: xs) 1 = some y := atI_of (i := 1) rfl
theorem atI_2 {α : Type} (x y z : α) (xs : List α) : atI (x :: y :: z :: xs) 2 = some z := atI_of (i := 2) rfl
theorem atI_3 {α : Type} (x y z w : α) (xs : List α) : atI (x :: y :: z :: w :: xs) 3 = some w := atI_of (i := 3) rfl
theorem atI_4 {α : Type} (x y z w u : α) (xs : List α) : atI (x :: y :: z :: w :: u :: xs) 4 = some u := atI_of (i := 4) rfl
theorem draw_ok {p n : Nat} {k : Int} {s : Store} (h : Pu p n s) (hn : n < 2 ^ 50) (hk : 1 ≤ k) (hk2 : k < 1073741824) :
    Wp (F__law_draw [.ref p, .int k] s) fun t s' => ∃ r : Nat, t = .v (.int r) ∧ (r : Int) < k ∧ Pu p (n + 1) s' ∧ Fr p s s' := by
  have hp := h.lt
  obtain ⟨a, b, c, h, h0, h1⟩ := h
  have hk0 : k ≠ 0 := by omega
  have hkn : k.natAbs < 1073741824 := by omega
  have sq : seqOf (.v (.ref p)) s = some [.int a, .int b, .int c] := by simp [seqOf, h]
  have rf : refL (.v (.ref p)) s = some (p, [.int a, .int b, .int c]) := by simp [refL, h]
  by_cases ha : 0 < a
  · simp [F__law_draw, B__law_draw, fnOf_r, sq, ha, hk0, hkn, sSub, rf, ixN, updL]
    have f1 := Int.fmod_nonneg_of_pos a (b := k) (by omega)
    have f2 := Int.fmod_lt_of_pos a (b := k) (by omega)
    refine ⟨(a.fmod k).toNat, by omega, by omega, ?_, Fr.set⟩
    exact ⟨_, b, c, List.getElem?_set_self hp, h0, by omega⟩
  · have sq2 : seqOf (.v (.ref p)) (s.set p (.lst [.int a, .int b, .int (c + 1)])) = some [.int a, .int b, .int (c + 1)] := by simp [seqOf, hp]
    obtain ⟨r, hr, hr0⟩ := mixed_ok b (c + 1) (by omega) (by omega) (s.set p (.lst [.int a, .int b, .int (c + 1)]))
    simp [F__law_draw, B__law_draw, fnOf_r, sq, ha, hk0, hkn, sSub, rf, ixN, updL, atI_1, atI_2, sq2, hr]
    have f1 := Int.fmod_nonneg_of_pos r (b := k) (by omega)
    have f2 := Int.fmod_lt_of_pos r (b := k) (by omega)
    refine ⟨(r.fmod k).toNat, by omega, by omega, ?_, Fr.set⟩
    exact ⟨a, b, c + 1, List.getElem?_set_self hp, by omega, by omega⟩
theorem comp_draw {α : Type} (enc : α → Val) (P : Nat → α → Prop) (K : Nat) {p n : Nat} {ix : Ix} {xs : List Val} {g : Tgt} {own : List Nat} {e : Ev} {ρ : Env} {s : Store} (hix : ix ρ s = .ok (fun _ => some xs) s) (hp : Pu p n s) (hl : xs.length ≤ 1000)
    (step : ∀ i x m s1, xs[i]? = some x → Pu p m s1 → m ≤ n + i * K → Wp (g x (wipe ρ own) s1) fun ρ' s2 => s2 = s1 ∧ Wp (e ρ' s1) fun t s3 => ∃ a, t = .v (enc a) ∧ P i a ∧ Pu p (m + K) s3 ∧ Fr p s1 s3) :
    Wp (eComp ix g own tYes e ρ s) fun t s' => ∃ l : List α, t = .l (l.map enc) ∧ l.length = xs.length ∧ (∀ i a, l[i]? = some a → P i a) ∧ Pu p (n + xs.length * K) s' ∧ Fr p s s' := by
  refine wp_comp hix (fun i acc s1 => ∃ l : List α, acc = l.map enc ∧ l.length = i ∧ i ≤ xs.length ∧ (∀ j a, l[j]? = some a → P j a) ∧ Pu p (n + i * K) s1 ∧ Fr p s s1) (fun _ _ _ _ => rfl)
    ⟨[], rfl, rfl, Nat.zero_le _, fun j a h => by simp at h, by simpa using hp, Fr.refl _ _⟩ (fun i x acc s1 hx ⟨l, e1, e2, e3, e4, e5, e6⟩ => ?_) fun acc s1 ⟨l, e1, e2, e3, e4, e5, e6⟩ => ⟨l, by rw [e1], e2, e4, e5, e6⟩
  refine (step i x _ s1 hx e5 (Nat.le_refl _)).mono fun ρ' s2 ⟨e7, h⟩ => ?_
  subst e7
  show Wp (Res.ok true s2) _
  simp only [wp_ok, if_true]
  refine h.mono fun t s3 ⟨a, ht, ha, h1, h2⟩ => ?_
  subst ht
  have hi : i < xs.length := (List.getElem?_eq_some_iff.mp hx).1
  simp only [mat_v, wp_ok]
  refine ⟨by rw [e1, List.length_map, e2]; unfold LIM; omega, l ++ [a], by rw [e1, List.map_append]; rfl, by rw [List.length_append, e2]; rfl, hi, fun j b hb => ?_, ?_, e6.trans h2⟩
  · by_cases hj : j < l.length
    · rw [List.getElem?_append_left hj] at hb; exact e4 j b hb
    · rw [List.getElem?_append_right (by omega)] at hb
      have : j - l.length = 0 := by
        have := (List.getElem?_eq_some_iff.mp hb).1
        simp at this; omega
      rw [this] at hb
      cases hb
      have : j = i := by omega
      rw [this]; exact ha
  · rw [Nat.succ_mul, ← Nat.add_assoc]; exact h1
abbrev nv (n : Nat) : Val := .int (n : Int)
abbrev rowV (l : List Nat) : Val := .tup (l.map nv)
def optV : Option Nat → Val
  | none => .non
  | some n => nv n
abbrev lettersV (l : List (Option Nat)) : Val := .tup (l.map optV)
abbrev tabV (l : List (List Nat)) : Val := .tup (l.map fun r => rowV r)
def takeV : Option (List Nat) → Val
  | none => .non
  | some r => rowV r
abbrev takesV (l : List (Option (List Nat))) : Val := .tup (l.map takeV)
abbrev givesV (l : List (List (Option Nat))) : Val := .tup (l.map fun r => lettersV r)
theorem rngV_len (j : Nat) : (rngV 0 (j : Int)).length = j := by simp [rngV]
theorem rngV_nv (j : Nat) : rngV 0 (j : Int) = (List.range j).map nv := by
  simp [rngV]
theorem rngV_get (j i : Nat) (h : i < j) : (rngV 0 (j : Int))[i]? = some (nv i) := by
  simp [rngV, h]
theorem inR_n {j : Nat} (h : j ≤ 1000) : inR (j : Int) = true := by
  unfold inR; simp only [Bool.and_eq_true, decide_eq_true_eq]; omega
@[simp] theorem ixR_r (e : Ev) (ρ : Env) (s : Store) : ixR e ρ s = (e ρ s).bind fun t s => match t with
  | .v (.int j) => if inR j then .ok ((fun _ => some (rngV 0 j)) : Its) s else .bad
  | _ => .bad := (rfl)
theorem row_ok {p n many most : Nat} {s : Store} (h : Pu p n s) (hn : n + many < 2 ^ 50) (hm : many ≤ 1000) (h1 : 1 ≤ most) (h2 : most ≤ 1000) :
    Wp (F__law_row [.ref p, nv many, nv most] s) fun t s' => ∃ l : List Nat, t = .v (rowV l) ∧ l.length = many ∧ (∀ x ∈ l, x < most) ∧ Pu p (n + many) s' ∧ Fr p s s' := by
  rw [F__law_row, wp_fn3]
  simp only [B__law_row, sRet_r, eB1_r, wp_bind, wp_ok, FinQ_r]
  refine Wp.mono (comp_draw nv (fun _ x => x < most) 1 (n := n) (xs := rngV 0 (many : Int)) ?_ h ?_ fun i x m s1 hx hp hmn => ?_) fun t s' ⟨l, ht, hl, hP, hp, hf⟩ => ?_
  · simp [inR_n hm]
  · rw [rngV_len]; exact hm
  · have hi : i < many := by have := (List.getElem?_eq_some_iff.mp hx).1; rwa [rngV_len] at this
    simp [wipe]
    refine (draw_ok hp (by omega) (by omega) (by omega)).mono fun t s' ⟨r, e, hr, h1, h2⟩ => ⟨r, e, by omega, h1, h2⟩
  · subst ht
    simp only [bTuple_r, seqOf_l, wp_ok]
    refine ⟨l, rfl, by rw [hl, rngV_len], fun x hx => ?_, by rw [rngV_len] at hp; simpa using hp, hf⟩
    obtain ⟨i, hi⟩ := List.mem_iff_getElem?.mp hx
    exact hP i x hi
theorem fitR_n {i j : Nat} (hi : i ≤ 1000) (h : j ≤ 1000) : fitR (i : Int) (j : Int) = true := by
  unfold fitR LIM; simp only [Bool.and_eq_true, decide_eq_true_eq]; omega
theorem fitR_0 {j : Nat} (h : j ≤ 1000) : fitR 0 (j : Int) = true := fitR_n (i := 0) (Nat.zero_le _) h
theorem rep1 {α : Type} (k : Nat) (x : α) : (List.replicate k [x]).flatten = List.replicate k x := by
  induction k with
  | zero => rfl
  | succ k ih => rw [List.replicate_succ, List.flatten_cons, ih, List.replicate_succ]; rfl
theorem mulT {k : Nat} (h : k ≤ 1000) (x : Val) (s : Store) : oMul (.v (.tup [x])) (.v (nv k)) s = .ok (.v (.tup (List.replicate k x))) s := by
  rw [oMul_t, if_pos ⟨by omega, by omega, by simp, rfl⟩]
  rw [show ((k : Int)).toNat = k from rfl, rep1]
theorem falls_ok {p n many : Nat} {s : Store} (h : Pu p n s) (hn : n + many + 1 < 2 ^ 50) (h1 : 1 ≤ many) (hm : many ≤ 1000) :
    Wp (F__law_falls [.ref p, nv many] s) fun t s' => ∃ l : List Nat, t = .v (rowV l) ∧ l.length = many ∧ (∀ x ∈ l, x < many) ∧ Pu p (n + 1 + many) s' ∧ Fr p s s' := by
  rw [F__law_falls, wp_fn2]
  simp [B__law_falls]
  refine (draw_ok h (by omega) (by omega) (by omega)).mono fun t s1 ⟨r, e, hr, q1, q2⟩ => ?_
  subst e
  by_cases r0 : r = 0
  · subst r0
    simp [show (many : Int) ≤ 1000 by omega, rep1]
    exact ⟨List.replicate many 0, by simp [rowV], by simp, fun x hx => by have := List.eq_of_mem_replicate hx; omega, q1.le (by omega), q2⟩
  · have r0' : ¬ ((r : Int) = 0) := by omega
    by_cases r1 : r = 1
    · subst r1
      simp [fitR_0 hm]
      refine ⟨List.range many, by rw [rngV_nv], by simp, fun x hx => by simpa using hx, q1.le (by omega), q2⟩
    · have r1' : ¬ ((r : Int) = 1) := by omega
      simp [r0, r1, r0', r1']
      refine (row_ok q1 (by omega) hm h1 hm).mono fun t s2 ⟨l, e, hl, hP, q3, q4⟩ => ?_
      subst e
      exact ⟨l, rfl, hl, hP, q3, q2.trans q4⟩
theorem letters_ok {p n many most : Nat} {s : Store} (h : Pu p n s) (hn : n + 2 * many < 2 ^ 50) (hm : many ≤ 1000) (h1 : 1 ≤ most) (h2 : most ≤ 1000) :
    Wp (F__law_letters [.ref p, nv many, nv most] s) fun t s' => ∃ l : List (Option Nat), t = .v (lettersV l) ∧ l.length = many ∧ (∀ x, some x ∈ l → x < most) ∧ Pu p (n + 2 * many) s' ∧ Fr p s s' := by
  rw [F__law_letters, wp_fn3]
  simp only [B__law_letters, sRet_r, eB1_r, wp_bind, wp_ok, FinQ_r]
  refine Wp.mono (comp_draw optV (fun _ x => ∀ y, x = some y → y < most) 2 (n := n) (xs := rngV 0 (many : Int)) ?_ h ?_ fun i x m s1 hx hp hmn => ?_) fun t s' ⟨l, ht, hl, hP, hp, hf⟩ => ?_
  · simp [inR_n hm]
  · rw [rngV_len]; exact hm
  · have hi : i < many := by have := (List.getElem?_eq_some_iff.mp hx).1; rwa [rngV_len] at this
    simp [wipe]
    refine (draw_ok hp (by omega) (by omega) (by omega)).mono fun t s' ⟨r, e, hr, q1, q2⟩ => ?_
    subst e
    by_cases r0 : r = 0
    · subst r0
      simp
      exact ⟨none, rfl, (fun y h => by cases h), q1.le (by omega), q2⟩
    · simp [r0]
      refine (draw_ok q1 (by omega) (by omega) (by omega)).mono fun t s'' ⟨r, e, hr, q3, q4⟩ => ⟨some r, e, fun y h => (by cases h; omega), q3, q2.trans q4⟩
  · subst ht
    simp only [bTuple_r, seqOf_l, wp_ok]
    refine ⟨l, rfl, by rw [hl, rngV_len], fun x hx => ?_, by rw [rngV_len] at hp; rw [Nat.mul_comm]; exact hp, hf⟩
    obtain ⟨i, hi⟩ := List.mem_iff_getElem?.mp hx
    exact hP i _ hi x rfl
structure Snd where
  sends : List (Option Nat)
  ticks : List Nat
  hears : List (List Nat)
  takes : List (Option (List Nat))
  crashes : List Nat
structure Rcv where
  sends : List (Option Nat)
  ticks : List Nat
  hears : List (List Nat)
  gives : List (List (Option Nat))
  crashes : List Nat
abbrev sndV (S : Snd) : Val := .tup [lettersV S.sends, rowV S.ticks, tabV S.hears, takesV S.takes, rowV S.crashes]
abbrev rcvV (S : Rcv) : Val := .tup [lettersV S.sends, rowV S.ticks, tabV S.hears, givesV S.gives, rowV S.crashes]
/-- v values, f letters there, b letters back -/
structure SndOk (v f b : Nat) (S : Snd) : Prop where
  len : 1 ≤ S.sends.length ∧ S.sends.length ≤ 4
  sends : ∀ x, some x ∈ S.sends → x < f
  ticks : S.ticks.length = S.sends.length ∧ ∀ x ∈ S.ticks, x < S.sends.length
  hears : S.hears.length = S.sends.length ∧ ∀ r ∈ S.hears, r.length = b ∧ ∀ x ∈ r, x < S.sends.length
  takes : S.takes.length = S.sends.length ∧ (∀ r, some r ∈ S.takes → r.length = v ∧ ∀ x ∈ r, x < S.sends.length) ∧ ∃ r t, S.takes = some r :: t
  crashes : S.crashes.length = S.sends.length ∧ ∀ x ∈ S.crashes, x < S.sends.length
structure RcvOk (v f b : Nat) (S : Rcv) : Prop where
  len : 1 ≤ S.sends.length ∧ S.sends.length ≤ 4
  sends : ∀ x, some x ∈ S.sends → x < b
  ticks : S.ticks.length = S.sends.length ∧ ∀ x ∈ S.ticks, x < S.sends.length
  hears : S.hears.length = S.sends.length ∧ ∀ r ∈ S.hears, r.length = f ∧ ∀ x ∈ r, x < S.sends.length
  gives : S.gives.length = S.sends.length ∧ ∀ r ∈ S.gives, r.length = f ∧ ∀ x, some x ∈ r → x < v
  crashes : S.crashes.length = S.sends.length ∧ ∀ x ∈ S.crashes, x < S.sends.length
structure Raw where
  v : Nat
  f : Nat
  b : Nat
  S : Snd
  R : Rcv
def Raw.val (r : Raw) : Val := .tup [.tup [nv r.v, nv r.f, nv r.b], sndV r.S, rcvV r.R]
structure RawOk (r : Raw) : Prop where
  v : 1 ≤ r.v ∧ r.v ≤ 1000
  f : 1 ≤ r.f ∧ r.f ≤ 1000
  b : 1 ≤ r.b ∧ r.b ≤ 1000
  S : SndOk r.v r.f r.b r.S
  R : RcvOk r.v r.f r.b r.R
theorem slc_ref {k : Nat} {s : Store} {xs : List Val} (lo hi : Option Int) (h : seqOf (.v (.ref k)) s = some xs) : slc (.v (.ref k)) lo hi s = .ok (.l (cutV xs lo hi)) s := by
  unfold slc
  simp only [h]
theorem seqOf_new (s : Store) (xs : List Val) : seqOf (.v (.ref s.length)) (s ++ [.lst xs]) = some xs := by simp [seqOf]
theorem cutV_to (xs : List Val) (k : Nat) : cutV xs none (some (k : Int)) = xs.take k := by
  unfold cutV sIx
  simp only [Nat.sub_zero, List.drop_zero]
  rw [if_neg (by omega)]
  rw [show ((k : Int)).toNat = k from rfl, List.take_eq_take_min, List.take_eq_take_min (i := k)]
  congr 1
  omega
theorem cutV_from (xs : List Val) (k : Nat) : cutV xs (some (k : Int)) none = xs.drop k := by
  unfold cutV sIx
  simp only
  rw [if_neg (by omega), show ((k : Int)).toNat = k from rfl]
  by_cases h : k ≤ xs.length
  · rw [Nat.min_eq_left h, List.take_of_length_le (by simp)]
  · rw [Nat.min_eq_right (by omega), List.drop_of_length_le (Nat.le_refl _), List.drop_of_length_le (by omega)]
    simp
theorem add1 (r : Nat) : (1 : Int) + (r : Int) = ((r + 1 : Nat) : Int) := by omega
/-- rows of a table -/
theorem rows_ok {p n many w : Nat} {ρ : Env} {own : Nat} {e : Ev} {s : Store} {i1 : Nat} (h : Pu p n s) (hn : n + many * w < 2 ^ 40) (hm : many ≤ 1000) (hm1 : 1 ≤ many) (hw : w ≤ 1000) (h1 : ρ[i1]? = some (some (nv many)))
    (he : ∀ x s1, (e ((wipe ρ [own]).set own (some x)) s1) = F__law_row [.ref p, nv w, nv many] s1) :
    Wp (eComp (ixR (eV i1)) (gV own) [own] tYes e ρ s) fun t s' => ∃ l : List (List Nat), t = .l (l.map fun r => rowV r) ∧ l.length = many ∧ (∀ r ∈ l, r.length = w ∧ ∀ x ∈ r, x < many) ∧ Pu p (n + many * w) s' ∧ Fr p s s' := by
  refine Wp.mono (comp_draw (fun r => rowV r) (fun _ (r : List Nat) => r.length = w ∧ ∀ x ∈ r, x < many) w (n := n) (xs := rngV 0 (many : Int)) ?_ h ?_ fun i x m s1 hx hp hmn => ?_) fun t s' ⟨l, ht, hl, hP, hp, hf⟩ => ?_
  · simp [inR_n hm, h1]
  · rw [rngV_len]; exact hm
  · have hi : i < many := by have := (List.getElem?_eq_some_iff.mp hx).1; rwa [rngV_len] at this
    simp only [gV_r, wp_ok]
    refine ⟨trivial, ?_⟩
    rw [he]
    have : i * w ≤ many * w := Nat.mul_le_mul_right _ (by omega)
    refine (row_ok hp (by omega) hw hm1 hm).mono fun t s2 ⟨l, e, hl, hP, q3, q4⟩ => ⟨l, e, ⟨hl, hP⟩, q3, q4⟩
  · refine ⟨l, ht, by rw [hl, rngV_len], fun r hr => ?_, by rw [rngV_len] at hp; exact hp, hf⟩
    obtain ⟨i, hi⟩ := List.mem_iff_getElem?.mp hr
    exact hP i r hi
theorem mat_wp {t : Tv} {s : Store} {Q : Val → Store → Prop} : Wp (mat t s) Q ↔ match t with
  | .v x => Q x s
  | .l xs => Q (.ref s.length) (s ++ [.lst xs]) := by cases t <;> simp
theorem sender_ok {p n v f b : Nat} {s : Store} (h : Pu p n s) (hn : n < 2 ^ 30) (hv : 1 ≤ v ∧ v ≤ 1000) (hf : 1 ≤ f ∧ f ≤ 1000) (hb : 1 ≤ b ∧ b ≤ 1000) :
    Wp (F__law_sender [.ref p, .tup [nv v, nv f, nv b], .int 4] s) fun t s' => ∃ S : Snd, t = .v (sndV S) ∧ SndOk v f b S ∧ Pu p (n + 20000) s' ∧ Fr p s s' := by
  rw [F__law_sender, wp_fn3]
  simp [B__law_sender]
  refine (draw_ok h (by omega) (by omega) (by omega)).mono fun t s1 ⟨r, e, hr, q1, f1⟩ => ?_
  subst e
  obtain ⟨many, hme⟩ : ∃ many : Nat, (1 : Int) + (r : Int) = (many : Int) := ⟨r + 1, by omega⟩
  have hm : many ≤ 4 := by omega
  have hm0 : 1 ≤ many := by omega
  simp [hme]
  refine (rows_ok (many := many) (w := b) q1 (by have : many * b ≤ 4 * 1000 := Nat.mul_le_mul hm hb.2; omega) (by omega) hm0 hb.2 (by simp) (fun x s1 => by simp [wipe, atI_2])).mono fun t s2 ⟨l, e, hl, hP, q2, f2⟩ => ?_
  subst e
  simp
  refine (rows_ok (many := many) (w := v) q2 (by have : many * b ≤ 4 * 1000 := Nat.mul_le_mul hm hb.2; have : many * v ≤ 4 * 1000 := Nat.mul_le_mul hm hv.2; omega) (by omega) hm0 hv.2 (by simp) (fun x s1 => by simp [wipe])).mono fun t s3 ⟨l2, e, hl2, hP2, q3, f3⟩ => ?_
  subst e
  simp
  obtain ⟨r0, tl, e0⟩ : ∃ r0 tl, l2 = r0 :: tl := by
    cases l2 with
    | nil => simp at hl2; omega
    | cons a b => exact ⟨a, b, rfl⟩
  subst e0
  rw [slc_ref _ _ (seqOf_new _ _)]
  simp only [wp_ok]
  rw [show (some (1 : Int)) = some ((1 : Nat) : Int) from rfl, cutV_to]
  have q3' := q3.app [Ob.lst (List.map (fun r => rowV r) (r0 :: tl))]
  have hb4 : many * b ≤ 4 * 1000 := Nat.mul_le_mul hm hb.2
  have hv4 : many * v ≤ 4 * 1000 := Nat.mul_le_mul hm hv.2
  have htl : tl.length + 1 = many := hl2
  refine Wp.mono (comp_draw takeV (fun i (a : Option (List Nat)) => a = none ∨ a = tl[i]?) 1 (n := n + 1 + many * b + many * v) (xs := tl.map fun r => rowV r) ?_ q3' (by simp; omega) fun i x m s5 hx hp hmn => ?_) fun t s5 ⟨l3, e3, hl3, hP3, q5, f5⟩ => ?_
  · simp only [ixE, eSl_r, eV_r, bind_ok, optI_s, optI_n, eC_r]
    simp
    rw [slc_ref _ _ (seqOf_new _ _), show (some (1 : Int)) = some ((1 : Nat) : Int) from rfl, cutV_from]
    simp [itsOf]
  · simp [wipe]
    have hi : i < tl.length := by simpa using (List.getElem?_eq_some_iff.mp hx).1
    refine (draw_ok hp (by omega) (by omega) (by omega)).mono fun t s' ⟨r, e, hr, q1, q2⟩ => ?_
    subst e
    by_cases r00 : r = 0
    · subst r00
      simp
      exact ⟨none, rfl, .inl rfl, q1, q2⟩
    · simp [r00]
      rw [List.getElem?_map, List.getElem?_eq_getElem hi] at hx
      refine ⟨some tl[i], by cases hx; rfl, .inr (List.getElem?_eq_getElem hi).symm, q1, q2⟩
  subst e3
  rw [List.length_map, Nat.mul_one] at q5
  rw [List.length_map] at hl3
  have eT : List.take 1 (List.map (fun r => rowV r) (r0 :: tl)) ++ List.map takeV l3 = List.map takeV (some r0 :: l3) := rfl
  rw [oAdd_ll, eT, if_pos (by simp; omega)]
  simp only [wp_ok, mat_l]
  have kp := q5.lt
  have q6 := q5.app [Ob.lst (List.map takeV (some r0 :: l3))]
  have f6 : Fr p s (s5 ++ [Ob.lst (List.map takeV (some r0 :: l3))]) := (f1.trans (f2.trans (f3.trans (Fr.app.trans f5)))).trans Fr.app
  generalize hs6 : s5 ++ [Ob.lst (List.map takeV (some r0 :: l3))] = s6 at q6 f6 ⊢
  have at6 : s6[s5.length]? = some (Ob.lst (List.map takeV (some r0 :: l3))) := by rw [← hs6]; simp
  have lt6 : s5.length < s6.length := by rw [← hs6]; simp
  refine (draw_ok q6 (by omega) (by omega) (by omega)).mono fun t s7 ⟨r, e, hr, q7, f7⟩ => ?_
  subst e
  have step : Wp (if decide ((r : Int) = 0) = true then if fitR 0 ↑many = true then Res.ok (Tv.v (Val.tup (rngV 0 ↑many))) s7 else Res.bad else F__law_row [Val.ref p, Val.int ↑many, Val.int ↑many] s7)
      fun t s8 => ∃ l : List Nat, t = .v (rowV l) ∧ l.length = many ∧ (∀ x ∈ l, x < many) ∧ Pu p (n + 1 + many * b + many * v + tl.length + 1 + many) s8 ∧ Fr p s7 s8 := by
    by_cases r00 : r = 0
    · subst r00
      simp [fitR_0 (show many ≤ 1000 by omega)]
      exact ⟨List.range many, by rw [rngV_nv], by simp, fun x hx => by simpa using hx, q7.le (by omega), Fr.refl _ _⟩
    · simp [r00]
      refine (row_ok q7 (by omega) (by omega) hm0 (by omega)).mono fun t s2 ⟨l, e, hl, hP, q3, q4⟩ => ⟨l, by rw [e], hl, hP, q3, q4⟩
  simp only [eqT_i, ans_s, wp_ok]
  refine step.mono fun t s8 ⟨lk, e, hlk, hPk, q8, f8⟩ => ?_
  subst e
  simp only [mat_v, wp_ok, atI_1]
  refine (letters_ok q8 (by omega) (by omega) hf.1 hf.2).mono fun t s9 ⟨le, e, hle, hPe, q9, f9⟩ => ?_
  subst e
  have at9 : s9[s5.length]? = some (Ob.lst (List.map takeV (some r0 :: l3))) := by
    have ff := f7.trans (f8.trans f9)
    rw [ff.2 _ lt6 (by omega), at6]
  have sq : seqOf (Tv.v (.ref s5.length)) s9 = some (List.map takeV (some r0 :: l3)) := by simp only [seqOf, at9]
  simp only [mat_v, wp_ok, sq]
  refine (falls_ok q9 (by omega) hm0 (by omega)).mono fun t s10 ⟨lf, e, hlf, hPf, q10, f10⟩ => ?_
  subst e
  simp only [mat_v, wp_ok]
  refine ⟨⟨le, lk, l, some r0 :: l3, lf⟩, ⟨rfl, rfl, rfl, rfl, rfl⟩, ⟨⟨by show 1 ≤ le.length; omega, by show le.length ≤ 4; omega⟩, hPe, ⟨by show lk.length = le.length; omega, fun x hx => by show x < le.length; have := hPk x hx; omega⟩, ⟨by show l.length = le.length; omega, fun r hr => ?_⟩, ⟨?_, fun r hr => ?_, r0, l3, rfl⟩, ⟨by show lf.length = le.length; omega, fun x hx => by show x < le.length; have := hPf x hx; omega⟩⟩, q10.le (by omega), f6.trans (f7.trans (f8.trans (f9.trans f10)))⟩
  · exact ⟨(hP r hr).1, fun x hx => by show x < le.length; have := (hP r hr).2 x hx; omega⟩
  · show (some r0 :: l3).length = le.length
    rw [List.length_cons]; omega
  · have key : ∀ r : List Nat, r ∈ r0 :: tl → r.length = v ∧ ∀ x ∈ r, x < le.length := fun r hr => ⟨(hP2 r hr).1, fun x hx => by have := (hP2 r hr).2 x hx; omega⟩
    rcases List.mem_cons.mp (show some r ∈ some r0 :: l3 from hr) with e | hr
    · cases e
      exact key r0 (List.mem_cons_self ..)
    · obtain ⟨i, hi⟩ := List.mem_iff_getElem?.mp hr
      rcases hP3 i _ hi with e | e
      · cases e
      · exact key r (List.mem_cons_of_mem _ (List.mem_of_getElem? e.symm))
end
section
set_option Elab.async false
set_option linter.all false
set_option maxRecDepth 100000
set_option maxHeartbeats 2000000
theorem Pu.set {p n k : Nat} {s : Store} {o : Ob} (h : Pu p n s) (hk : k ≠ p) : Pu p n (s.set k o) := by
  obtain ⟨a, b, c, h, q⟩ := h
  exact ⟨a, b, c, by rw [List.getElem?_set_ne hk]; exact h, q⟩
theorem Fr.set2 {p k : Nat} {s s1 : Store} {o : Ob} (h : Fr p s s1) (hk : s.length ≤ k) : Fr p s (s1.set k o) :=
  ⟨by rw [List.length_set]; exact h.1, fun j hj hp => by rw [List.getElem?_set_ne (by omega)]; exact h.2 j hj hp⟩
theorem steps_ok {p n many : Nat} {r : Nat} {s7 : Store} (q7 : Pu p n s7) (hn : n < 2 ^ 40) (hm0 : 1 ≤ many) (hm : many ≤ 4) :
    Wp (if decide ((r : Int) = 0) = true then if fitR 0 (many : Int) = true then Res.ok (Tv.v (Val.tup (rngV 0 (many : Int)))) s7 else Res.bad else F__law_row [Val.ref p, Val.int many, Val.int many] s7)
      fun t s8 => ∃ l : List Nat, t = .v (rowV l) ∧ l.length = many ∧ (∀ x ∈ l, x < many) ∧ Pu p (n + many) s8 ∧ Fr p s7 s8 := by
  by_cases r00 : r = 0
  · subst r00
    simp [fitR_0 (show many ≤ 1000 by omega)]
    exact ⟨List.range many, by rw [rngV_nv], by simp, fun x hx => by simpa using hx, q7.le (by omega), Fr.refl _ _⟩
  · simp [r00]
    refine (row_ok q7 (by omega) (by omega) hm0 (by omega)).mono fun t s2 ⟨l, e, hl, hP, q3, q4⟩ => ⟨l, by rw [e], hl, hP, q3, q4⟩
theorem receiver_ok {p n v f b : Nat} {s : Store} (h : Pu p n s) (hn : n < 2 ^ 30) (hv : 1 ≤ v ∧ v ≤ 1000) (hf : 1 ≤ f ∧ f ≤ 1000) (hb : 1 ≤ b ∧ b ≤ 1000) :
    Wp (F__law_receiver [.ref p, .tup [nv v, nv f, nv b], .int 4] s) fun t s' => ∃ S : Rcv, t = .v (rcvV S) ∧ RcvOk v f b S ∧ Pu p (n + 20000) s' ∧ Fr p s s' := by
  rw [F__law_receiver, wp_fn3]
  simp [B__law_receiver, -sFor_r]
  refine (draw_ok h (by omega) (by omega) (by omega)).mono fun t s1 ⟨r, e, hr, q1, f1⟩ => ?_
  subst e
  obtain ⟨many, hme⟩ : ∃ many : Nat, (1 : Int) + (r : Int) = (many : Int) := ⟨r + 1, by omega⟩
  have hm : many ≤ 4 := by omega
  have hm0 : 1 ≤ many := by omega
  have hf4 : many * f ≤ 4 * 1000 := Nat.mul_le_mul hm hf.2
  simp [hme, -sFor_r]
  refine (rows_ok (many := many) (w := f) q1 (by omega) (by omega) hm0 hf.2 (by simp) (fun x s1 => by simp [wipe, atI_1])).mono fun t s2 ⟨l, e, hl, hP, q2, f2⟩ => ?_
  subst e
  simp [-sFor_r]
  have q3 := q2.app [Ob.lst []]
  have loop : Wp (sFor (ixR (eV 3)) (gV 6) (sSeq (sAsg (gV 7) (eComp (ixR (eBin oIdx (eV 1) (eC (Val.int 1)))) (gV 9) [9] tYes
            (eIf (tB (eBin cGt (eCall F__law_draw (aCons (eV 0) (aCons (eC (Val.int 3)) aNil))) (eC (Val.int 0))))
              (eC Val.non) (eCall F__law_draw (aCons (eV 0) (aCons (eBin oIdx (eV 1) (eC (Val.int 0))) aNil))))))
        (sExp (eAppend (eV 5) (eB1 bTuple (eV 7)))))
      [some (Val.ref p), some (Val.tup [nv v, nv f, nv b]), some (Val.int 4), some (Val.int ↑many), some (Val.tup (List.map (fun r => rowV r) l)), some (Val.ref (List.length s2)), none, none, none, none] (s2 ++ [Ob.lst []]))
      (fun r s' => ∃ (x6 x7 : Option Val) (gl : List (List (Option Nat))), r = (Fl.next, [some (Val.ref p), some (Val.tup [nv v, nv f, nv b]), some (Val.int 4), some (Val.int many), some (Val.tup (List.map (fun r => rowV r) l)), some (Val.ref s2.length), x6, x7, none, none]) ∧
        gl.length = many ∧ (∀ r ∈ gl, r.length = f ∧ ∀ x, some x ∈ r → x < v) ∧ s'[s2.length]? = some (.lst (gl.map fun r => lettersV r)) ∧ Pu p (n + 1 + many * f + many * (f * 2)) s' ∧ Fr p s2 s') := by
    refine wp_for (xs := rngV 0 (many : Int)) (its := fun _ => some (rngV 0 (many : Int))) (s1 := s2 ++ [Ob.lst []]) (by simp [inR_n (show many ≤ 1000 by omega)])
      (fun i ρ s' => ∃ (x6 x7 : Option Val) (gl : List (List (Option Nat))), ρ = [some (Val.ref p), some (Val.tup [nv v, nv f, nv b]), some (Val.int 4), some (Val.int many), some (Val.tup (List.map (fun r => rowV r) l)), some (Val.ref s2.length), x6, x7, none, none] ∧
        gl.length = i ∧ i ≤ many ∧ (∀ r ∈ gl, r.length = f ∧ ∀ x, some x ∈ r → x < v) ∧ s'[s2.length]? = some (.lst (gl.map fun r => lettersV r)) ∧ Pu p (n + 1 + many * f + i * (f * 2)) s' ∧ Fr p s2 s')
      (fun _ _ _ _ => rfl) ⟨none, none, [], rfl, rfl, Nat.zero_le _, fun r h => by simp at h, by simp, by simpa using q3, Fr.app⟩ (fun i x ρ s3 hx ⟨x6, x7, gl, e, hgl, hi, hG, hat, q4, f4⟩ => ?_) (fun ρ s' ⟨x6, x7, gl, e, hgl, hi, hG, hat, q4, f4⟩ => ?_)
    · subst e
      simp
      have hi2 : i < many := by have := (List.getElem?_eq_some_iff.mp hx).1; rwa [rngV_len] at this
      have hif : i * (f * 2) ≤ 4 * (1000 * 2) := Nat.mul_le_mul (by omega) (by omega)
      refine Wp.mono (comp_draw optV (fun _ x => ∀ y, x = some y → y < v) 2 (n := n + 1 + many * f + i * (f * 2)) (xs := rngV 0 (f : Int)) ?_ q4 ?_ fun j x m s1 hx hp hmn => ?_) fun t s5 ⟨row, ht, hl, hP, q5, f5⟩ => ?_
      · simp [inR_n (show f ≤ 1000 by omega), atI_1]
      · rw [rngV_len]; omega
      · have hj : j < f := by have := (List.getElem?_eq_some_iff.mp hx).1; rwa [rngV_len] at this
        simp [wipe]
        refine (draw_ok hp (by omega) (by omega) (by omega)).mono fun t s' ⟨r, e, hr, q1, q2⟩ => ?_
        subst e
        by_cases r0 : 0 < r
        · simp [r0]
          exact ⟨none, rfl, (fun y h => by cases h), q1.le (by omega), q2⟩
        · simp [r0]
          refine (draw_ok q1 (by omega) (by omega) (by omega)).mono fun t s'' ⟨r, e, hr, q3, q4⟩ => ⟨some r, e, fun y h => (by cases h; omega), q3, q2.trans q4⟩
      · subst ht
        rw [rngV_len] at q5 hl
        have kp := q2.lt
        have hlt : s2.length < s3.length := (List.getElem?_eq_some_iff.mp hat).1
        have at5 : s5[s2.length]? = some (.lst (gl.map fun r => lettersV r)) := by rw [f5.2 _ hlt (by omega)]; exact hat
        have hlt5 : s2.length < s5.length := Nat.lt_of_lt_of_le hlt f5.1
        have at6 : (s5 ++ [Ob.lst (row.map optV)])[s2.length]? = some (.lst (gl.map fun r => lettersV r)) := by rw [List.getElem?_append_left hlt5]; exact at5
        simp only [mat_l, wp_ok]
        unfold eAppend
        simp [refL, at6, seqOf_new, updL, -List.getElem?_append, show gl.length < 16777216 by omega]
        refine ⟨gl ++ [row], by simp [hgl], by omega, fun r hr => ?_, ?_, ?_, ?_⟩
        · rcases List.mem_append.mp hr with hr | hr
          · exact hG r hr
          · have e : r = row := by simpa using hr
            subst e
            exact ⟨hl, fun x hx => by obtain ⟨j, hj⟩ := List.mem_iff_getElem?.mp hx; exact hP j _ hj x rfl⟩
        · rw [List.getElem?_set_self (by rw [List.length_append]; omega)]
          simp
        · refine (Pu.set (q5.app _) (by omega)).le ?_
          rw [Nat.succ_mul]; omega
        · exact Fr.set2 ((f4.trans f5).trans Fr.app) (Nat.le_refl _)
    · subst e
      rw [rngV_len] at hgl q4
      exact ⟨x6, x7, gl, rfl, hgl, hG, hat, q4, f4⟩
  refine loop.mono fun rr s3 ⟨x6, x7, gl, e, hgl, hG, hat, q4, f4⟩ => ?_
  subst e
  have hmf : many * (f * 2) ≤ 4 * (1000 * 2) := Nat.mul_le_mul hm (by omega)
  have kp := q2.lt
  have hlt : s2.length < s3.length := (List.getElem?_eq_some_iff.mp hat).1
  simp
  refine (draw_ok q4 (by omega) (by omega) (by omega)).mono fun t s7 ⟨r, e, hr, q7, f7⟩ => ?_
  subst e
  simp only [eqT_i, ans_s, wp_ok]
  refine (steps_ok q7 (by omega) hm0 hm).mono fun t s8 ⟨lk, e, hlk, hPk, q8, f8⟩ => ?_
  subst e
  simp only [mat_v, wp_ok, atI_2]
  refine (letters_ok q8 (by omega) (by omega) hb.1 hb.2).mono fun t s9 ⟨le, e, hle, hPe, q9, f9⟩ => ?_
  subst e
  have at9 : s9[s2.length]? = some (Ob.lst (gl.map fun r => lettersV r)) := by
    have ff := f7.trans (f8.trans f9)
    rw [ff.2 _ hlt (by omega), hat]
  have sq : seqOf (Tv.v (.ref s2.length)) s9 = some (gl.map fun r => lettersV r) := by simp only [seqOf, at9]
  simp only [mat_v, wp_ok, sq]
  refine (falls_ok q9 (by omega) hm0 (by omega)).mono fun t s10 ⟨lf, e, hlf, hPf, q10, f10⟩ => ?_
  subst e
  simp only [mat_v, wp_ok]
  refine ⟨⟨le, lk, l, gl, lf⟩, ⟨rfl, rfl, rfl, rfl, rfl⟩, ⟨⟨by show 1 ≤ le.length; omega, by show le.length ≤ 4; omega⟩, hPe, ⟨by show lk.length = le.length; omega, fun x hx => by show x < le.length; have := hPk x hx; omega⟩, ⟨by show l.length = le.length; omega, fun r hr => ?_⟩, ⟨by show gl.length = le.length; omega, hG⟩, ⟨by show lf.length = le.length; omega, fun x hx => by show x < le.length; have := hPf x hx; omega⟩⟩, q10.le (by omega), f1.trans (f2.trans (f4.trans (f7.trans (f8.trans (f9.trans f10)))))⟩
  exact ⟨(hP r hr).1, fun x hx => by show x < le.length; have := (hP r hr).2 x hx; omega⟩
end
section
set_option Elab.async false
set_option linter.all false
set_option maxRecDepth 100000
set_option maxHeartbeats 2000000
def turns0 (k : Bool) : Raw := ⟨1, 2, 2, ⟨[none, some 0, none, some 1], [0, 1, 2, 3], [[0, 0], [2, 1], [2, 2], [3, 0]], [some [1], none, some [3], none], if k then [0, 0, 2, 2] else [0, 0, 0, 0]⟩,
  ⟨[some 1, some 0], [0, 1], [[1, 0], [1, 0]], [[some 0, none], [none, some 0]], if k then [0, 1] else [0, 0]⟩⟩
def greets0 (k : Bool) : Raw := ⟨1, 2, 2, ⟨[none, some 0, some 1], [0, 1, 2], [[0, 0], [1, 2], [0, 2]], [some [1], none, none], [0, 0, 0]⟩,
  ⟨[none, some 1, some 0], [0, 1, 2], [[1, 0], [1, 2], [2, 2]], [[none, none], [none, some 0], [none, none]], if k then [0, 1, 2] else [0, 0, 0]⟩⟩
def reps0 : Bool → Raw
  | false => ⟨1, 1, 1, ⟨[none, some 0], [0, 1], [[0], [0]], [some [1], none], [0, 0]⟩, ⟨[some 0], [0], [[0]], [[some 0]], [0]⟩⟩
  | true => ⟨2, 2, 1, ⟨[none, some 0, some 1], [0, 1, 2], [[0], [0], [0]], [some [1, 2], none, none], [0, 0, 0]⟩, ⟨[some 0], [0], [[0, 0]], [[some 0, some 1]], [0]⟩⟩
theorem turns_ok (k : Bool) (s : Store) : F__law_turns [.bool k] s = .ok (.v (turns0 k).val) s := by cases k <;> rfl
theorem greets_ok (k : Bool) (s : Store) : F__law_greets [.bool k] s = .ok (.v (greets0 k).val) s := by cases k <;> rfl
theorem reps_ok (k : Bool) (s : Store) : F__law_repeats [.int (if k then 2 else 1)] s = .ok (.v (reps0 k).val) s := by cases k <;> rfl
theorem turns_raw (k : Bool) : RawOk (turns0 k) := by
  cases k <;> exact ⟨by decide, by decide, by decide, ⟨by decide, fun x hx => by simp [turns0] at hx ⊢; omega, by decide, by decide, ⟨by decide, fun r hr => by simp [turns0] at hr ⊢; rcases hr with rfl | rfl <;> simp, [1], _, rfl⟩, by decide⟩,
    ⟨by decide, fun x hx => by simp [turns0] at hx ⊢; omega, by decide, by decide, ⟨by decide, fun r hr => by simp [turns0] at hr ⊢; rcases hr with rfl | rfl <;> simp⟩, by decide⟩⟩
theorem greets_raw (k : Bool) : RawOk (greets0 k) := by
  cases k <;> exact ⟨by decide, by decide, by decide, ⟨by decide, fun x hx => by simp [greets0] at hx ⊢; omega, by decide, by decide, ⟨by decide, fun r hr => by simp [greets0] at hr ⊢; subst hr; simp, [1], _, rfl⟩, by decide⟩,
    ⟨by decide, fun x hx => by simp [greets0] at hx ⊢; omega, by decide, by decide, ⟨by decide, fun r hr => by simp [greets0] at hr ⊢; rcases hr with rfl | rfl | rfl <;> simp⟩, by decide⟩⟩
theorem reps_raw (k : Bool) : RawOk (reps0 k) := by
  cases k
  · exact ⟨by decide, by decide, by decide, ⟨by decide, fun x hx => by simp [reps0] at hx ⊢; omega, by decide, by decide, ⟨by decide, fun r hr => by simp [reps0] at hr ⊢; subst hr; simp, [1], _, rfl⟩, by decide⟩,
      ⟨by decide, fun x hx => by simp [reps0] at hx ⊢; omega, by decide, by decide, ⟨by decide, fun r hr => by simp [reps0] at hr ⊢; subst hr; simp⟩, by decide⟩⟩
  · exact ⟨by decide, by decide, by decide, ⟨by decide, fun x hx => by simp [reps0] at hx ⊢; omega, by decide, by decide, ⟨by decide, fun r hr => by simp [reps0] at hr ⊢; subst hr; simp, [1, 2], _, rfl⟩, by decide⟩,
      ⟨by decide, fun x hx => by simp [reps0] at hx ⊢; omega, by decide, by decide, ⟨by decide, fun r hr => by simp [reps0] at hr ⊢; subst hr; simp⟩, by decide⟩⟩
theorem raw_ok {p n : Nat} {s : Store} (h : Pu p n s) (hn : n < 2 ^ 29) : Wp (F__law_raw [.ref p] s) fun t s' => ∃ R : Raw, t = .v R.val ∧ RawOk R ∧ Pu p (n + 50000) s' ∧ Fr p s s' := by
  rw [F__law_raw, wp_fn1]
  simp [B__law_raw]
  refine (draw_ok h (by omega) (by omega) (by omega)).mono fun t s1 ⟨r, e, hr, q1, f1⟩ => ?_
  subst e
  simp
  by_cases h2 : r < 2
  · simp [show (r : Int) < 2 by omega, turns_ok]
    exact ⟨turns0 _, rfl, turns_raw _, q1.le (by omega), f1⟩
  · simp [show ¬ (r : Int) < 2 by omega]
    by_cases h4 : r < 4
    · simp [show (r : Int) < 4 by omega, greets_ok]
      exact ⟨greets0 _, rfl, greets_raw _, q1.le (by omega), f1⟩
    · simp [show ¬ (r : Int) < 4 by omega]
      by_cases h6 : r < 6
      · simp [show (r : Int) < 6 by omega]
        refine (draw_ok q1 (by omega) (by omega) (by omega)).mono fun t s2 ⟨r2, e, hr2, q2, f2⟩ => ?_
        subst e
        have e2 : (1 : Int) + (r2 : Int) = (if decide (r2 = 1) = true then 2 else 1) := by
          by_cases hh : r2 = 1
          · subst hh; simp
          · have : r2 = 0 := by omega
            subst this; simp
        simp only [oAdd_i, wp_ok, mat_v, e2, reps_ok]
        simp
        exact ⟨reps0 _, rfl, reps_raw _, q2.le (by omega), f1.trans f2⟩
      · simp [show ¬ (r : Int) < 6 by omega]
        refine (draw_ok q1 (by omega) (by omega) (by omega)).mono fun t s2 ⟨r2, e, hr2, q2, f2⟩ => ?_
        subst e
        simp
        refine (draw_ok q2 (by omega) (by omega) (by omega)).mono fun t s3 ⟨r3, e, hr3, q3, f3⟩ => ?_
        subst e
        simp
        refine (draw_ok q3 (by omega) (by omega) (by omega)).mono fun t s4 ⟨r4, e, hr4, q4, f4⟩ => ?_
        subst e
        obtain ⟨v, hv⟩ : ∃ v : Nat, (1 : Int) + (r2 : Int) = (v : Int) := ⟨r2 + 1, by omega⟩
        obtain ⟨f, hf⟩ : ∃ v : Nat, (1 : Int) + (r3 : Int) = (v : Int) := ⟨r3 + 1, by omega⟩
        obtain ⟨b, hb⟩ : ∃ v : Nat, (1 : Int) + (r4 : Int) = (v : Int) := ⟨r4 + 1, by omega⟩
        simp [hv, hf, hb]
        refine (sender_ok (v := v) (f := f) (b := b) q4 (by omega) (by omega) (by omega) (by omega)).mono fun t s5 ⟨S, e, hS, q5, f5⟩ => ?_
        subst e
        simp
        refine (receiver_ok (v := v) (f := f) (b := b) q5 (by omega) (by omega) (by omega) (by omega)).mono fun t s6 ⟨Rc, e, hR, q6, f6⟩ => ?_
        subst e
        simp
        exact ⟨⟨v, f, b, S, Rc⟩, rfl, ⟨by show 1 ≤ v ∧ v ≤ 1000; omega, by show 1 ≤ f ∧ f ≤ 1000; omega, by show 1 ≤ b ∧ b ≤ 1000; omega, hS, hR⟩, q6.le (by omega), f1.trans (f2.trans (f3.trans (f4.trans (f5.trans f6))))⟩
end
section
set_option Elab.async false
set_option linter.all false
set_option maxRecDepth 100000
set_option maxHeartbeats 2000000
theorem eq_of_wp {α : Type} {r : Res α} {a : α} {s : Store} (h : Wp r fun b s' => b = a ∧ s' = s) : r = .ok a s := by
  obtain ⟨b, s', e, rfl, rfl⟩ := h
  exact e
@[simp] theorem itsOf_t (xs : List Val) (s : Store) : itsOf (.v (.tup xs)) s = some fun _ => some xs := (rfl)
@[simp] theorem itsOf_l (xs : List Val) (s : Store) : itsOf (.l xs) s = some fun _ => some xs := (rfl)
@[simp] theorem ixE_r (e : Ev) (ρ : Env) (s : Store) : ixE e ρ s = (e ρ s).bind fun t s => match itsOf t s with
  | some f => .ok f s
  | none => .bad := (rfl)
@[simp] theorem ixEnum_r (e : Ev) (ρ : Env) (s : Store) : ixEnum e ρ s = (e ρ s).bind fun t s => match itsOf t s with
  | some f => .ok ((fun s => (f s).map fun xs => numbered xs 0) : Its) s
  | none => .bad := (rfl)
theorem num_at : ∀ (xs : List Val) (j i : Nat), (numbered xs j)[i]? = (xs[i]?).map fun x => Val.tup [.int ((j + i : Nat)), x]
  | [], _, _ => by simp [numbered]
  | x :: r, j, 0 => by simp [numbered]
  | x :: r, j, i + 1 => by
    unfold numbered
    rw [List.getElem?_cons_succ, List.getElem?_cons_succ, num_at r (j + 1) i, Nat.add_right_comm, Nat.add_assoc]
theorem num_len : ∀ (xs : List Val) (j : Nat), (numbered xs j).length = xs.length
  | [], _ => rfl
  | x :: r, j => by unfold numbered; rw [List.length_cons, List.length_cons, num_len r]
/-- a comprehension that changes nothing -/
theorem comp_pure {ix : Ix} {xs : List Val} {g : Tgt} {own : List Nat} {e : Ev} {ρ : Env} {s : Store} (h : Val → Val) (hix : ix ρ s = .ok (fun _ => some xs) s) (hl : xs.length ≤ 1000000)
    (step : ∀ x, x ∈ xs → Wp (g x (wipe ρ own) s) fun ρ' s2 => s2 = s ∧ e ρ' s = .ok (.v (h x)) s) : eComp ix g own tYes e ρ s = .ok (.l (xs.map h)) s := by
  refine eq_of_wp (wp_comp hix (fun i acc s1 => s1 = s ∧ acc = (xs.take i).map h) (fun _ _ _ _ => rfl) ⟨rfl, by simp⟩ (fun i x acc s1 hx ⟨e1, e2⟩ => ?_) fun acc s1 ⟨e1, e2⟩ => ⟨by rw [e2, List.take_of_length_le (Nat.le_refl _)], e1⟩)
  subst e1
  have hi := (List.getElem?_eq_some_iff.mp hx).1
  refine (step x (List.mem_of_getElem? hx)).mono fun ρ' s2 ⟨e3, e4⟩ => ?_
  subst e3
  show Wp (Res.ok true s2) _
  simp only [wp_ok, if_true]
  rw [e4]
  simp only [wp_ok, mat_v]
  refine ⟨by rw [e2, List.length_map, List.length_take]; unfold LIM; omega, trivial, ?_⟩
  rw [e2, List.take_add_one, hx]
  simp
theorem all_true {xs : List Val} {h : Val → Val} (hh : ∀ x ∈ xs, h x = .bool true) (s : Store) : bAll (.l (xs.map h)) s = .ok (.v (.bool true)) s := by
  have : ∀ ys : List Val, (∀ x ∈ ys, h x = .bool true) → bools? (ys.map h) = some (List.replicate ys.length true) := fun ys => by
    induction ys with
    | nil => intro _; rfl
    | cons y ys ih =>
      intro hy
      rw [List.map_cons, hy y (List.mem_cons_self ..)]
      unfold bools?
      rw [ih fun x hx => hy x (List.mem_cons_of_mem _ hx)]
      rfl
  unfold bAll
  simp [this xs hh]
theorem is_below_nv {i m : Nat} (h : i < m) (s : Store) : F_is_below [nv i, nv m] s = .ok (.v (.bool true)) s := by
  rw [is_below_i]; simp; omega
theorem res_fn {np nl : Nat} {b : Sx} {vs : List Val} {s s' : Store} {x : Tv} (h : vs.length = np) (k : Wp (b (vs.map some ++ List.replicate (nl - np) none) s) fun r s1 => ∃ ρ, r = (.ret x, ρ) ∧ s1 = s') : fnOf np nl b vs s = .ok x s' := by
  apply eq_of_wp
  rw [wp_fnI h]
  refine k.mono fun r s1 ⟨ρ, e1, e2⟩ => ?_
  subst e1
  exact ⟨rfl, e2⟩
theorem is_row_ok {l : List Nat} {m : Nat} (hl : l.length ≤ 1000) (h : ∀ x ∈ l, x < m) (s : Store) : F_is_row [rowV l, nv l.length, nv m] s = .ok (.v (.bool true)) s := by
  apply eq_of_wp
  rw [F_is_row, wp_fn3]
  simp [B_is_row]
  rw [comp_pure (xs := l.map nv) (fun _ => .bool true) (by simp) (by simp; omega) (fun x hx => ?_)]
  · simp only [wp_ok]
    rw [all_true (fun _ _ => rfl)]
    simp
  · obtain ⟨i, hi, rfl⟩ := List.mem_map.mp hx
    simp [wipe, is_below_nv (h i hi)]
theorem is_given_ok {l : List (Option Nat)} {m : Nat} (hl : l.length ≤ 1000) (h : ∀ x, some x ∈ l → x < m) (s : Store) : F_is_given [lettersV l, nv l.length, nv m] s = .ok (.v (.bool true)) s := by
  apply eq_of_wp
  rw [F_is_given, wp_fn3]
  simp [B_is_given]
  rw [comp_pure (xs := l.map optV) (fun _ => .bool true) (by simp) (by simp; omega) (fun x hx => ?_)]
  · simp only [wp_ok]
    rw [all_true (fun _ _ => rfl)]
    simp
  · obtain ⟨o, ho, rfl⟩ := List.mem_map.mp hx
    cases o with
    | none => simp [wipe, optV]
    | some i => simp [wipe, optV, is_below_nv (h i ho)]
theorem checked_ok {L : Val → Store → Res Tv} {nm st : Val} {xs : List Val} {s : Store} (hne : xs ≠ []) (hst : st = .non ∨ st = nv xs.length) (hl : xs.length ≤ 1000) (hL : ∀ x ∈ xs, L x s = .ok (.v (.bool true)) s) : F_checked L [nm, .tup xs, st] s = .ok (.v (.tup xs)) s := by
  apply eq_of_wp
  rw [F_checked, wp_fn3]
  have h0 : ¬ ((xs.length : Int) = 0) := by
    have := List.length_pos_iff.mpr hne
    omega
  have test : Wp ((tOr (VI.tNot (tB (eB1 (bIs [0, 1, 2] .lot) (eV 1)))) (tOr (tB (eBin cEq (eB1 bLen (eV 1)) (eC (.int 0)))) (tAnd (tB (eBin cNotN (eV 2) (eC .non))) (tB (eBin cNe (eB1 bLen (eV 1)) (eV 2))))))
      (some nm :: some (.tup xs) :: some st :: List.replicate (6 - 3) none) s) fun b s' => b = false ∧ s' = s := by
    rcases hst with rfl | rfl <;> simp [hne]
  unfold B_checked
  rw [sSeq_r, wp_bind, sIf_r, wp_bind]
  refine test.mono fun b s' ⟨e1, e2⟩ => ?_
  subst e1 e2
  simp only [Bool.false_eq_true, if_false, sNop_r, wp_ok]
  rw [sSeq_r, wp_bind]
  refine Wp.mono (wp_for (its := fun s => ((fun _ => some xs) s).map fun xs => numbered xs 0) (xs := numbered xs 0) (s1 := s') (by simp)
    (fun i ρ s1 => s1 = s' ∧ ∃ a b, ρ = [some nm, some (.tup xs), some st, none, a, b]) (fun _ _ _ _ => rfl) ⟨rfl, none, none, rfl⟩ (fun i x ρ s1 hx ⟨e, a, b, e2⟩ => ?_) (Q := fun r s1 => s1 = s' ∧ ∃ a b, r = (.next, [some nm, some (.tup xs), some st, none, a, b])) fun ρ s1 ⟨e, a, b, e2⟩ => ⟨e, a, b, by rw [e2]⟩) fun r s1 ⟨e, a, b, e2⟩ => ?_
  · subst e e2
    rw [num_at] at hx
    obtain ⟨y, hy, rfl⟩ := Option.map_eq_some_iff.mp hx
    have hm := hL y (List.mem_of_getElem? hy)
    simp [eLamC, hm]
  · subst e e2
    simp
theorem eCallL_r {F : (Val → Store → Res Tv) → Fn} {a : Avs} {js : List Nat} {Lb : Ev} {ρ : Env} {s : Store} {is : List Int} (h : capI ρ js = some is) : eCallL F a js Lb ρ s = (a ρ s).bind fun xs s => F (fun x s => Lb (some x :: is.map fun i => some (.int i)) s) xs s := by
  unfold eCallL; rw [h]
theorem sends_ok {l : List (Option Nat)} {m : Nat} (h0 : l ≠ []) (hl : l.length ≤ 1000) (h : ∀ x, some x ∈ l → x < m) (s : Store) : F_checked_sends [lettersV l, nv m] s = .ok (.v (lettersV l)) s := by
  apply eq_of_wp
  rw [F_checked_sends, wp_fn2]
  unfold B_checked_sends
  rw [sRet_r, wp_bind, eCallL_r (is := [(m : Int)]) rfl]
  simp only [aCons_r, eC_r, eV_r, aNil_r, bind_ok, mat_v, List.getElem?_cons_zero]
  rw [checked_ok (by simpa using h0) (.inl rfl) (by simpa using hl) fun x hx => ?_]
  · simp
  · obtain ⟨o, ho, rfl⟩ := List.mem_map.mp hx
    cases o with
    | none => simp [optV]
    | some i => simp [optV, is_below_nv (h i ho)]
theorem states_ok {l : List Nat} {m : Nat} {nm : Val} (h0 : l ≠ []) (hm : l.length = m) (hl : l.length ≤ 1000) (h : ∀ x ∈ l, x < m) (s : Store) : F_checked_states [nm, rowV l, nv m] s = .ok (.v (rowV l)) s := by
  apply eq_of_wp
  rw [F_checked_states, wp_fn3]
  unfold B_checked_states
  rw [sRet_r, wp_bind, eCallL_r (is := [(m : Int)]) rfl]
  simp only [aCons_r, eC_r, eV_r, aNil_r, bind_ok, mat_v, List.getElem?_cons_zero, List.getElem?_cons_succ]
  rw [checked_ok (by simpa using h0) (.inr (by simp [hm])) (by simpa using hl) fun x hx => ?_]
  · simp
  · obtain ⟨i, hi, rfl⟩ := List.mem_map.mp hx
    simp [is_below_nv (h i hi)]
theorem hears_ok {l : List (List Nat)} {w m : Nat} (h0 : l ≠ []) (hm : l.length = m) (hl : l.length ≤ 1000) (hw : w ≤ 1000) (h : ∀ r ∈ l, r.length = w ∧ ∀ x ∈ r, x < m) (s : Store) : F_checked_hears [tabV l, nv w, nv m] s = .ok (.v (tabV l)) s := by
  apply eq_of_wp
  rw [F_checked_hears, wp_fn3]
  unfold B_checked_hears
  rw [sRet_r, wp_bind, eCallL_r (is := [(w : Int), (m : Int)]) rfl]
  simp only [aCons_r, eC_r, eV_r, aNil_r, bind_ok, mat_v, List.getElem?_cons_zero, List.getElem?_cons_succ]
  rw [checked_ok (by simpa using h0) (.inr (by simp [hm])) (by simpa using hl) fun x hx => ?_]
  · simp
  · obtain ⟨r, hr, rfl⟩ := List.mem_map.mp hx
    obtain ⟨h1, h2⟩ := h r hr
    subst h1
    simp only [eCall_r, aCons_r, eC_r, eV_r, aNil_r, bind_ok, mat_v, List.getElem?_cons_zero, List.getElem?_cons_succ, List.map_cons, List.map_nil]
    exact is_row_ok hw h2 _
theorem takes_ok {l : List (Option (List Nat))} {w m : Nat} (hm : l.length = m) (hl : l.length ≤ 1000) (hw : w ≤ 1000) (h : ∀ r, some r ∈ l → r.length = w ∧ ∀ x ∈ r, x < m) (h1 : ∃ r t, l = some r :: t) (s : Store) : F_checked_takes [takesV l, nv w, nv m] s = .ok (.v (takesV l)) s := by
  apply eq_of_wp
  rw [F_checked_takes, wp_fn3]
  unfold B_checked_takes
  have h0 : l ≠ [] := by obtain ⟨r, t, rfl⟩ := h1; simp
  have test : Wp ((tAnd (tB (eB1 (bIs [0, 1, 2] .lot) (eV 0))) (tAnd (tB (eBin cEq (eB1 bLen (eV 0)) (eV 2))) (tB (eBin cIsN (eBin oIdx (eV 0) (eC (.int 0))) (eC .non)))))
      (some (takesV l) :: some (nv w) :: some (nv m) :: List.replicate (3 - 3) none) s) fun b s' => b = false ∧ s' = s := by
    obtain ⟨r, t, rfl⟩ := h1
    subst hm
    simp [takeV]
  rw [sSeq_r, wp_bind, sIf_r, wp_bind]
  refine test.mono fun b s' ⟨e1, e2⟩ => ?_
  subst e1 e2
  simp only [Bool.false_eq_true, if_false, sNop_r, wp_ok]
  rw [sRet_r, wp_bind, eCallL_r (is := [(w : Int), (m : Int)]) rfl]
  simp only [aCons_r, eC_r, eV_r, aNil_r, bind_ok, mat_v, List.getElem?_cons_zero, List.getElem?_cons_succ]
  rw [checked_ok (by simpa using h0) (.inr (by simp [hm])) (by simpa using hl) fun x hx => ?_]
  · simp
  · obtain ⟨o, ho, rfl⟩ := List.mem_map.mp hx
    cases o with
    | none => simp [takeV]
    | some r =>
      obtain ⟨h1, h2⟩ := h r ho
      subst h1
      simp [takeV]
      exact is_row_ok hw h2 _
theorem pos_ok {n : Nat} (h : 1 ≤ n) (s : Store) : F_require_positive [nv n] s = .ok (.v .non) s := by
  apply eq_of_wp
  rw [F_require_positive, wp_fn1]
  simp [B_require_positive, show ¬ (n : Int) < 1 by omega]
end
section
set_option Elab.async false
set_option linter.all false
set_option maxRecDepth 100000
set_option maxHeartbeats 2000000
abbrev sndF (R : Raw) : List (Nat × Val) := [(91, nv R.v), (28, nv R.f), (14, nv R.b), (78, lettersV R.S.sends), (87, rowV R.S.ticks), (34, tabV R.S.hears), (84, takesV R.S.takes), (20, rowV R.S.crashes)]
abbrev rcvF (R : Raw) : List (Nat × Val) := [(91, nv R.v), (28, nv R.f), (14, nv R.b), (78, lettersV R.R.sends), (87, rowV R.R.ticks), (34, tabV R.R.hears), (29, givesV R.R.gives), (20, rowV R.R.crashes)]
theorem refI_new (cs : List Nat) (c : Nat) (fs : List (Nat × Val)) (s : Store) (h : cs.contains c = true) : refI cs (.v (.ref s.length)) (s ++ [.ins c fs]) = some (s.length, c, fs) := by simp [refI, h] at *; exact h
theorem set_new (s : Store) (o o' : Ob) : (s ++ [o]).set s.length o' = s ++ [o'] := by simp
theorem sFld_r (cs : List Nat) (o : Ev) (f : Nat) (e : Ev) (ρ : Env) (s : Store) : sFld cs o f e ρ s = (e ρ s).bind fun t s => (mat t s).bind fun y s => (o ρ s).bind fun x s => match refI cs x s with
  | some (n, c, fs) => if fs.length < 1000 then .ok (.next, ρ) (s.set n (.ins c (putF f y fs))) else .bad
  | none => .bad := (rfl)
theorem fldOf_new (cs : List Nat) (c f : Nat) (fs : List (Nat × Val)) (s : Store) (h : cs.contains c = true) : fldOf cs (.v (.ref s.length)) f (s ++ [.ins c fs]) = fs.lookup f := by simp [fldOf, h] at *; intro hh; exact absurd h hh
/-- one field is set on the new instance -/
theorem fld_step {cs : List Nat} {f : Nat} {e : Ev} {ρ : Env} {s : Store} {c : Nat} {fs : List (Nat × Val)} {y : Val} {Q : Fl × Env → Store → Prop} (hs : ρ[0]? = some (some (.ref s.length))) (hc : cs.contains c = true) (hl : fs.length < 1000) (he : e ρ (s ++ [.ins c fs]) = .ok (.v y) (s ++ [.ins c fs]))
    (h : Q (.next, ρ) (s ++ [.ins c (putF f y fs)])) : Wp (sFld cs (eV 0) f e ρ (s ++ [.ins c fs])) Q := by
  rw [sFld_r, he]
  simp only [bind_ok, mat_v, eV_r, hs, refI_new _ _ _ _ hc, if_pos hl, set_new, wp_ok]
  exact h
theorem seq_step {a b : Sx} {ρ : Env} {s : Store} {Q : Fl × Env → Store → Prop} (h : Wp (a ρ s) fun r s => match r with
  | (.next, ρ) => Wp (b ρ s) Q
  | r => Q r s) : Wp (sSeq a b ρ s) Q := by
  rw [sSeq_r, wp_bind]
  refine h.mono fun r s h => ?_
  obtain ⟨f, ρ⟩ := r
  cases f with
  | next => exact h
  | brk => exact (wp_ok _ _).mpr h
  | ret t => exact (wp_ok _ _).mpr h
theorem pos_loop {i j : Nat} {v f b : Nat} {ρ : Env} {s : Store} (hv : 1 ≤ v) (hf : 1 ≤ f) (hb : 1 ≤ b) (h1 : ρ[1]? = some (some (nv v))) (h2 : ρ[2]? = some (some (nv f))) (h3 : ρ[3]? = some (some (nv b))) (hl : 9 < ρ.length) :
    Wp (sFor (ixE (eTup (aCons (eV 1) (aCons (eV 2) (aCons (eV 3) aNil))))) (gV 9) (sExp (eCall F_require_positive (aCons (eV 9) aNil))) ρ s) fun r s' => s' = s ∧ ∃ x, r = (.next, ρ.set 9 x) := by
  refine wp_for (its := fun _ => some [nv v, nv f, nv b]) (xs := [nv v, nv f, nv b]) (s1 := s) (by simp [h1, h2, h3]) (fun i ρ' s' => s' = s ∧ ∃ x, ρ' = ρ.set 9 x) (fun _ _ _ _ => rfl) ⟨rfl, ρ[9], by simp⟩ (fun i x ρ' s' hx ⟨e, y, e2⟩ => ?_) fun ρ' s' ⟨e, y, e2⟩ => ⟨e, y, by rw [e2]⟩
  subst e e2
  have hp : ∃ n : Nat, 1 ≤ n ∧ x = nv n := by
    have := List.mem_of_getElem? hx
    simp at this
    rcases this with rfl | rfl | rfl
    · exact ⟨v, hv, rfl⟩
    · exact ⟨f, hf, rfl⟩
    · exact ⟨b, hb, rfl⟩
  obtain ⟨n, hn, rfl⟩ := hp
  simp [hl, pos_ok hn]
  exact ⟨_, rfl⟩
theorem snd_init {R : Raw} (h : RawOk R) (s : Store) : F_Sender___init__ [.ref s.length, nv R.v, nv R.f, nv R.b, lettersV R.S.sends, rowV R.S.ticks, tabV R.S.hears, takesV R.S.takes, rowV R.S.crashes] (s ++ [.ins 0 []]) = .ok (.v .non) (s ++ [.ins 0 (sndF R)]) := by
  have hS := h.S
  have n0 : R.S.sends ≠ [] := by intro e; have := hS.len.1; rw [e] at this; simp at this
  apply eq_of_wp
  rw [F_Sender___init__, wp_fnI (np := 9) rfl]
  unfold B_Sender___init__
  refine seq_step ((pos_loop h.v.1 h.f.1 h.b.1 rfl rfl rfl (by simp) (i := 0) (j := 0)).mono fun r s' ⟨e, x, e2⟩ => ?_)
  subst e e2
  simp only [List.map_cons, List.map_nil, List.cons_append, List.nil_append, List.set_cons_succ, List.set_cons_zero, Nat.reduceSub, List.replicate]
  refine seq_step (fld_step rfl rfl (by simp [putF]) (y := nv R.v) (by simp) ?_)
  refine seq_step (fld_step rfl rfl (by simp [putF]) (y := nv R.f) (by simp) ?_)
  refine seq_step (fld_step rfl rfl (by simp [putF]) (y := nv R.b) (by simp) ?_)
  refine seq_step (fld_step rfl rfl (by simp [putF]) (y := lettersV R.S.sends) (by simp [sends_ok n0 (Nat.le_trans hS.len.2 (by decide)) hS.sends]) ?_)
  refine seq_step ?_
  have hlk : fldOf [0, 1] (.v (.ref s.length)) 78 (s ++ [.ins 0 (putF 78 (lettersV R.S.sends) (putF 14 (nv R.b) (putF 28 (nv R.f) (putF 91 (nv R.v) []))))]) = some (lettersV R.S.sends) := by
    rw [fldOf_new _ _ _ _ _ rfl]; simp [putF, List.lookup]
  simp only [sAsg_r, eB1_r, eFld_r, eV_r, bind_ok, List.getElem?_cons_zero, hlk, bLen_r, seqOf_t, mat_v, gV_r, wp_ok, List.length_map, List.set_cons_succ, List.set_cons_zero]
  have nt : R.S.ticks ≠ [] := by intro e; have h1 := hS.ticks.1; have := hS.len.1; rw [e] at h1; simp at h1; omega
  have nh : R.S.hears ≠ [] := by intro e; have h1 := hS.hears.1; have := hS.len.1; rw [e] at h1; simp at h1; omega
  have nc : R.S.crashes ≠ [] := by intro e; have h1 := hS.crashes.1; have := hS.len.1; rw [e] at h1; simp at h1; omega
  have b1 : R.S.ticks.length ≤ 1000 := by rw [hS.ticks.1]; exact (Nat.le_trans hS.len.2 (by decide))
  have b2 : R.S.hears.length ≤ 1000 := by rw [hS.hears.1]; exact (Nat.le_trans hS.len.2 (by decide))
  have b3 : R.S.takes.length ≤ 1000 := by rw [hS.takes.1]; exact (Nat.le_trans hS.len.2 (by decide))
  have b4 : R.S.crashes.length ≤ 1000 := by rw [hS.crashes.1]; exact (Nat.le_trans hS.len.2 (by decide))
  refine seq_step (fld_step rfl rfl (by simp [putF]) (y := rowV R.S.ticks) (by simp [states_ok nt hS.ticks.1 b1 hS.ticks.2]) ?_)
  refine seq_step (fld_step rfl rfl (by simp [putF]) (y := tabV R.S.hears) (by simp [hears_ok nh hS.hears.1 b2 h.b.2 hS.hears.2]) ?_)
  refine seq_step (fld_step rfl rfl (by simp [putF]) (y := takesV R.S.takes) (by simp [takes_ok hS.takes.1 b3 h.v.2 hS.takes.2.1 hS.takes.2.2]) ?_)
  refine fld_step rfl rfl (by simp [putF]) (y := rowV R.S.crashes) (by simp [states_ok nc hS.crashes.1 b4 hS.crashes.2]) ?_
  refine ⟨rfl, ?_⟩
  simp [putF]
theorem rcv_init {R : Raw} (h : RawOk R) (s : Store) : F_Receiver___init__ [.ref s.length, nv R.v, nv R.f, nv R.b, lettersV R.R.sends, rowV R.R.ticks, tabV R.R.hears, givesV R.R.gives, rowV R.R.crashes] (s ++ [.ins 1 []]) = .ok (.v .non) (s ++ [.ins 1 (rcvF R)]) := by
  have hS := h.R
  have n0 : R.R.sends ≠ [] := by intro e; have := hS.len.1; rw [e] at this; simp at this
  apply eq_of_wp
  rw [F_Receiver___init__, wp_fnI (np := 9) rfl]
  unfold B_Receiver___init__
  refine seq_step ((pos_loop h.v.1 h.f.1 h.b.1 rfl rfl rfl (by simp) (i := 0) (j := 0)).mono fun r s' ⟨e, x, e2⟩ => ?_)
  subst e e2
  simp only [List.map_cons, List.map_nil, List.cons_append, List.nil_append, List.set_cons_succ, List.set_cons_zero, Nat.reduceSub, List.replicate]
  refine seq_step (fld_step rfl rfl (by simp [putF]) (y := nv R.v) (by simp) ?_)
  refine seq_step (fld_step rfl rfl (by simp [putF]) (y := nv R.f) (by simp) ?_)
  refine seq_step (fld_step rfl rfl (by simp [putF]) (y := nv R.b) (by simp) ?_)
  refine seq_step (fld_step rfl rfl (by simp [putF]) (y := lettersV R.R.sends) (by simp [sends_ok n0 (Nat.le_trans hS.len.2 (by decide)) hS.sends]) ?_)
  refine seq_step ?_
  have hlk : fldOf [0, 1] (.v (.ref s.length)) 78 (s ++ [.ins 1 (putF 78 (lettersV R.R.sends) (putF 14 (nv R.b) (putF 28 (nv R.f) (putF 91 (nv R.v) []))))]) = some (lettersV R.R.sends) := by
    rw [fldOf_new _ _ _ _ _ rfl]; simp [putF, List.lookup]
  simp only [sAsg_r, eB1_r, eFld_r, eV_r, bind_ok, List.getElem?_cons_zero, hlk, bLen_r, seqOf_t, mat_v, gV_r, wp_ok, List.length_map, List.set_cons_succ, List.set_cons_zero]
  have nt : R.R.ticks ≠ [] := by intro e; have h1 := hS.ticks.1; have := hS.len.1; rw [e] at h1; simp at h1; omega
  have nh : R.R.hears ≠ [] := by intro e; have h1 := hS.hears.1; have := hS.len.1; rw [e] at h1; simp at h1; omega
  have nc : R.R.crashes ≠ [] := by intro e; have h1 := hS.crashes.1; have := hS.len.1; rw [e] at h1; simp at h1; omega
  have ng : R.R.gives ≠ [] := by intro e; have h1 := hS.gives.1; have := hS.len.1; rw [e] at h1; simp at h1; omega
  have b1 : R.R.ticks.length ≤ 1000 := by rw [hS.ticks.1]; exact (Nat.le_trans hS.len.2 (by decide))
  have b2 : R.R.hears.length ≤ 1000 := by rw [hS.hears.1]; exact (Nat.le_trans hS.len.2 (by decide))
  have b3 : R.R.gives.length ≤ 1000 := by rw [hS.gives.1]; exact (Nat.le_trans hS.len.2 (by decide))
  have b4 : R.R.crashes.length ≤ 1000 := by rw [hS.crashes.1]; exact (Nat.le_trans hS.len.2 (by decide))
  refine seq_step (fld_step rfl rfl (by simp [putF]) (y := rowV R.R.ticks) (by simp [states_ok nt hS.ticks.1 b1 hS.ticks.2]) ?_)
  refine seq_step (fld_step rfl rfl (by simp [putF]) (y := tabV R.R.hears) (by simp [hears_ok nh hS.hears.1 b2 h.f.2 hS.hears.2]) ?_)
  refine seq_step (fld_step rfl rfl (by simp [putF]) (y := givesV R.R.gives) ?_ ?_)
  · rw [eCallL_r (is := [(R.f : Int), (R.v : Int)]) rfl]
    simp only [aCons_r, eC_r, eV_r, aNil_r, bind_ok, mat_v, List.getElem?_cons_zero, List.getElem?_cons_succ]
    rw [checked_ok (by simpa using ng) (.inr (by simp [hS.gives.1])) (by simpa using b3) fun x hx => ?_]
    obtain ⟨r, hr, rfl⟩ := List.mem_map.mp hx
    obtain ⟨h1, h2⟩ := hS.gives.2 r hr
    simp only [eCall_r, aCons_r, eC_r, eV_r, aNil_r, bind_ok, mat_v, List.getElem?_cons_zero, List.getElem?_cons_succ, List.map_cons, List.map_nil]
    have := is_given_ok (l := r) (m := R.v) (by rw [h1]; exact h.f.2) h2
    rw [h1] at this
    exact this _
  refine fld_step rfl rfl (by simp [putF]) (y := rowV R.R.crashes) (by simp [states_ok nc hS.crashes.1 b4 hS.crashes.2]) ?_
  refine ⟨rfl, ?_⟩
  simp [putF]
end
section
set_option Elab.async false
set_option linter.all false
set_option maxRecDepth 100000
set_option maxHeartbeats 2000000
mutual
theorem eqv_refl : ∀ d : Dt, Dt.eqv d d = true
  | .non => by simp [Dt.eqv]
  | .bool b => by simp [Dt.eqv]
  | .int i => by simp [Dt.eqv]
  | .str k => by simp [Dt.eqv]
  | .lst l => by simp only [Dt.eqv]; exact eqvAll_refl l
  | .tup l => by simp only [Dt.eqv]; exact eqvAll_refl l
theorem eqvAll_refl : ∀ l : List Dt, Dt.eqvAll l l = true
  | [] => by simp [Dt.eqvAll]
  | d :: l => by simp only [Dt.eqvAll, eqv_refl d, eqvAll_refl l, Bool.and_self]
end
def Pl (n : Nat) (v : Val) : Prop := ∃ d, ∀ s, toD s n v = some d
theorem pl_int (n : Nat) (i : Int) : Pl n (.int i) := ⟨_, fun s => toD_int n i⟩
theorem pl_str (n : Nat) (i : Nat) : Pl n (.str i) := ⟨_, fun s => toD_str n i⟩
theorem pl_non (n : Nat) : Pl n .non := ⟨_, fun s => toD_non n⟩
theorem pl_all {n : Nat} : ∀ {l : List Val}, (∀ x ∈ l, Pl n x) → ∃ ds, ∀ s, mapO (toD s n) l = some ds
  | [], _ => ⟨[], fun _ => rfl⟩
  | x :: l, h => by
    obtain ⟨d, hd⟩ := h x (List.mem_cons_self ..)
    obtain ⟨ds, hds⟩ := pl_all fun y hy => h y (List.mem_cons_of_mem x hy)
    refine ⟨d :: ds, fun s => ?_⟩
    unfold mapO
    rw [hd s, hds s]
theorem pl_tup {n : Nat} {l : List Val} (h : ∀ x ∈ l, Pl n x) : Pl (n + 1) (.tup l) := by
  obtain ⟨ds, hds⟩ := pl_all h
  refine ⟨.tup ds, fun s => ?_⟩
  show (mapO (toD s n) l).map Dt.tup = _
  rw [hds s]
  rfl
theorem eqT_pl {v : Val} (h : Pl 20 v) (s : Store) : eqT (.v v) (.v v) s = some true := by
  obtain ⟨d, hd⟩ := h
  unfold eqT tvD
  simp only [DEEP, hd s, eqv_refl]
theorem eqT_pls {l : List Val} (h : ∀ x ∈ l, Pl 20 x) (s : Store) : eqT (.l l) (.l l) s = some true := by
  obtain ⟨ds, hds⟩ := pl_all h
  unfold eqT tvD toDs
  simp only [DEEP, hds s, Option.map_some, eqv_refl]
theorem pl_opt (n : Nat) (o : Option Nat) : Pl n (optV o) := by cases o; exact pl_non n; exact pl_int n _
theorem pl_row (n : Nat) (l : List Nat) : Pl (n + 1) (rowV l) := pl_tup fun x hx => by obtain ⟨i, _, rfl⟩ := List.mem_map.mp hx; exact pl_int n _
theorem pl_letters (n : Nat) (l : List (Option Nat)) : Pl (n + 1) (lettersV l) := pl_tup fun x hx => by obtain ⟨i, _, rfl⟩ := List.mem_map.mp hx; exact pl_opt n _
theorem pl_tab (n : Nat) (l : List (List Nat)) : Pl (n + 2) (tabV l) := pl_tup fun x hx => by obtain ⟨i, _, rfl⟩ := List.mem_map.mp hx; exact pl_row n _
theorem pl_takes (n : Nat) (l : List (Option (List Nat))) : Pl (n + 2) (takesV l) := pl_tup fun x hx => by
  obtain ⟨o, _, rfl⟩ := List.mem_map.mp hx
  cases o
  · exact pl_non _
  · exact pl_row n _
theorem pl_gives (n : Nat) (l : List (List (Option Nat))) : Pl (n + 2) (givesV l) := pl_tup fun x hx => by obtain ⟨i, _, rfl⟩ := List.mem_map.mp hx; exact pl_letters n _
theorem eMkK_r (c : Nat) (F : Fn) (is : List Nat) (a b : Avs) (ρ : Env) (s : Store) : eMkK c F is a b ρ s = (a ρ s).bind fun xs s => (b ρ s).bind fun ys s => (F (pick is (.ref s.length :: xs ++ ys)) (s ++ [.ins c []])).bind fun r s' => match r with
  | .v .non => .ok (.v (.ref s.length)) s'
  | _ => .bad := (rfl)
theorem eMk_r (c : Nat) (F : Fn) (a : Avs) (ρ : Env) (s : Store) : eMk c F a ρ s = (a ρ s).bind fun xs s => (F (.ref s.length :: xs) (s ++ [.ins c []])).bind fun r s' => match r with
  | .v .non => .ok (.v (.ref s.length)) s'
  | _ => .bad := (rfl)
theorem made_snd {R : Raw} (h : RawOk R) (s : Store) : F__law_made_sender [.tup [nv R.v, nv R.f, nv R.b], sndV R.S] s = .ok (.v (.ref s.length)) (s ++ [.ins 0 (sndF R)]) := by
  apply eq_of_wp
  rw [F__law_made_sender, wp_fn2]
  simp [B__law_made_sender, eMkK_r, atI_1, atI_2, atI_3, atI_4, pick, snd_init h]
theorem made_rcv {R : Raw} (h : RawOk R) (s : Store) : F__law_made_receiver [.tup [nv R.v, nv R.f, nv R.b], rcvV R.R] s = .ok (.v (.ref s.length)) (s ++ [.ins 1 (rcvF R)]) := by
  apply eq_of_wp
  rw [F__law_made_receiver, wp_fn2]
  simp [B__law_made_receiver, eMkK_r, atI_1, atI_2, atI_3, atI_4, pick, rcv_init h]
theorem isTy_ins (ty : Ty) {k c : Nat} {fs : List (Nat × Val)} {s : Store} (h : s[k]? = some (.ins c fs)) (hc : [0, 1, 2].contains c = true) : isTy [0, 1, 2] ty (.v (.ref k)) s = some (insB ty c) := by
  unfold isTy
  simp only [h, if_pos hc]
theorem fldOf_at {cs : List Nat} {f k c : Nat} {fs : List (Nat × Val)} {s : Store} (h : s[k]? = some (.ins c fs)) (hc : cs.contains c = true) : fldOf cs (.v (.ref k)) f s = fs.lookup f := by
  unfold fldOf
  simp only [h, if_pos hc]
abbrev sndT (R : Raw) : Val := .tup [nv R.v, nv R.f, nv R.b, lettersV R.S.sends, rowV R.S.ticks, tabV R.S.hears, takesV R.S.takes, rowV R.S.crashes]
abbrev rcvT (R : Raw) : Val := .tup [nv R.v, nv R.f, nv R.b, lettersV R.R.sends, rowV R.R.ticks, tabV R.R.hears, givesV R.R.gives, rowV R.R.crashes]
theorem snd_tables {R : Raw} {k : Nat} {s : Store} (h : s[k]? = some (.ins 0 (sndF R))) : F_Sender_tables [.ref k] s = .ok (.v (sndT R)) s := by
  apply eq_of_wp
  rw [F_Sender_tables, wp_fn1]
  have hf : ∀ cs f, cs.contains 0 = true → fldOf cs (.v (.ref k)) f s = (sndF R).lookup f := fun cs f hc => fldOf_at h hc
  simp [B_Sender_tables, hf, List.lookup]
theorem rcv_tables {R : Raw} {k : Nat} {s : Store} (h : s[k]? = some (.ins 1 (rcvF R))) : F_Receiver_tables [.ref k] s = .ok (.v (rcvT R)) s := by
  apply eq_of_wp
  rw [F_Receiver_tables, wp_fn1]
  have hf : ∀ cs f, cs.contains 1 = true → fldOf cs (.v (.ref k)) f s = (rcvF R).lookup f := fun cs f hc => fldOf_at h hc
  simp [B_Receiver_tables, hf, List.lookup]
@[simp] theorem eMeth_r (c m : Nat) (F : Fn) (e : Ev) (a : Avs) (ρ : Env) (s : Store) : eMeth c m F e a ρ s = (e ρ s).bind fun x s => match x with
  | .v o => if isCls o c m s = true then (a ρ s).bind fun xs s => F (o :: xs) s else .bad
  | _ => .bad := (rfl)
theorem isCls_at {k c m : Nat} {fs : List (Nat × Val)} {s : Store} (h : s[k]? = some (.ins c fs)) (hm : (fs.lookup m).isNone = true) : isCls (.ref k) c m s = true := by
  unfold isCls
  simp only [h]
  simpa using hm
theorem pair_init {R R' : Raw} {i j : Nat} {s : Store} (hi : s[i]? = some (.ins 0 (sndF R))) (hj : s[j]? = some (.ins 1 (rcvF R'))) (hv : R'.v = R.v) (hf : R'.f = R.f) (hb : R'.b = R.b) :
    F_Pair___init__ [.ref s.length, .ref i, .ref j] (s ++ [.ins 2 []]) = .ok (.v .non) (s ++ [.ins 2 [(77, .ref i), (72, .ref j)]]) := by
  have li : i < s.length := (List.getElem?_eq_some_iff.mp hi).1
  have lj : j < s.length := (List.getElem?_eq_some_iff.mp hj).1
  have hi' : ∀ o, (s ++ [o])[i]? = some (.ins 0 (sndF R)) := fun o => by rw [List.getElem?_append_left li]; exact hi
  have hj' : ∀ o, (s ++ [o])[j]? = some (.ins 1 (rcvF R')) := fun o => by rw [List.getElem?_append_left lj]; exact hj
  have c1 : cutV [nv R.v, nv R.f, nv R.b, lettersV R.S.sends, rowV R.S.ticks, tabV R.S.hears, takesV R.S.takes, rowV R.S.crashes] none (some 3) = [nv R.v, nv R.f, nv R.b] := rfl
  have c2 : cutV [nv R.v, nv R.f, nv R.b, lettersV R'.R.sends, rowV R'.R.ticks, tabV R'.R.hears, givesV R'.R.gives, rowV R'.R.crashes] none (some 3) = [nv R.v, nv R.f, nv R.b] := rfl
  have pl : Pl 20 (.tup [nv R.v, nv R.f, nv R.b]) := pl_tup (n := 19) fun x hx => by simp at hx; rcases hx with rfl | rfl | rfl <;> exact pl_int _ _
  have last : Wp (sSeq (sFld [2] (eV 0) 77 (eV 1)) (sFld [2] (eV 0) 72 (eV 2)) [some (Val.ref s.length), some (.ref i), some (.ref j)] (s ++ [.ins 2 []])) (FinQ fun b s' => b = Tv.v Val.non ∧ s' = s ++ [Ob.ins 2 [(77, Val.ref i), (72, Val.ref j)]]) := by
    refine seq_step (fld_step rfl rfl (by simp) (y := .ref i) (by simp) ?_)
    refine fld_step rfl rfl (by simp [putF]) (y := .ref j) (by simp) ?_
    exact ⟨rfl, by simp [putF]⟩
  apply eq_of_wp
  rw [F_Pair___init__, wp_fn3]
  unfold B_Pair___init__
  refine seq_step ?_
  simp only [sIf_r, tNot_r, tB_r, eB1_r, eV_r, bind_ok, bIs_r, List.getElem?_cons_succ, List.getElem?_cons_zero, isTy_ins _ (hi' _) rfl, insB, ans_s, wp_ok, Bool.not_true, Bool.false_eq_true, if_false, sNop_r, BEq.rfl, beq_self_eq_true]
  refine seq_step ?_
  simp only [sIf_r, tNot_r, tB_r, eB1_r, eV_r, bind_ok, bIs_r, List.getElem?_cons_succ, List.getElem?_cons_zero, isTy_ins _ (hj' _) rfl, insB, ans_s, wp_ok, Bool.not_true, Bool.false_eq_true, if_false, sNop_r, BEq.rfl, beq_self_eq_true]
  refine seq_step ?_
  simp only [sIf_r, tB_r, eBin_r, eSl_r, eMeth_r, aNil_r, eV_r, bind_ok, List.getElem?_cons_succ, List.getElem?_cons_zero, isCls_at (hi' _) (m := 83) rfl, isCls_at (hj' _) (m := 83) rfl, if_true, snd_tables (hi' _), rcv_tables (hj' _), optI_n, optI_s, eC_r, slc_t, c1, c2, hv, hf, hb, cNe_r, eqT_pl pl, Option.map_some, Bool.not_true, ans_s, wp_ok, Bool.false_eq_true, if_false, sNop_r, Nat.sub_self, List.replicate_zero]
  exact last
theorem made_ok {R : Raw} (h : RawOk R) (s : Store) : F__law_made [R.val] s = .ok (.v (.ref (s.length + 2))) (s ++ [.ins 0 (sndF R), .ins 1 (rcvF R), .ins 2 [(77, .ref s.length), (72, .ref (s.length + 1))]]) := by
  apply eq_of_wp
  rw [F__law_made, wp_fn1]
  have hp := pair_init (R := R) (R' := R) (i := s.length) (j := s.length + 1) (s := s ++ [.ins 0 (sndF R), .ins 1 (rcvF R)]) (by simp) (by simp) rfl rfl rfl
  rw [show (s ++ [Ob.ins 0 (sndF R), Ob.ins 1 (rcvF R)]).length = s.length + 2 by simp] at hp
  unfold Raw.val
  have r1 := made_rcv h (s ++ [.ins 0 (sndF R)])
  rw [List.length_append, List.append_assoc] at r1
  simp only [B__law_made, sRet_r, eMk_r, aCons_r, aNil_r, eCall_r, eBin_r, eV_r, eC_r, bind_ok, mat_v, oIdx_r, seqOf_t, atI_0, atI_1, atI_2, List.getElem?_cons_zero, made_snd h, r1, List.cons_append, List.nil_append, List.length_cons, List.length_nil]
  have e2 : (s ++ [Ob.ins 0 (sndF R), Ob.ins 1 (rcvF R)]).length = s.length + 2 := by simp
  simp only [Nat.zero_add, e2, hp, bind_ok, wp_ok, FinQ_r]
  exact ⟨trivial, by simp⟩
end
section
set_option Elab.async false
set_option linter.all false
set_option maxRecDepth 100000
set_option maxHeartbeats 4000000
def gd {α : Type} (l : List α) (i : Nat) (d : α) : α := l.getD i d
theorem atI_map {α : Type} {l : List α} {f : α → Val} {i : Nat} (d : α) (h : i < l.length) : atI (l.map f) (i : Int) = some (f (gd l i d)) := by
  unfold gd
  refine atI_of ?_
  rw [List.getElem?_map, List.getElem?_eq_getElem h, List.getD_eq_getElem?_getD, List.getElem?_eq_getElem h]
  rfl
theorem getD_mem {α : Type} {l : List α} {i : Nat} (d : α) (h : i < l.length) : gd l i d ∈ l := by
  unfold gd
  rw [List.getD_eq_getElem?_getD, List.getElem?_eq_getElem h]
  exact List.getElem_mem h
end
section
set_option Elab.async false
set_option linter.all false
set_option maxRecDepth 100000
set_option maxHeartbeats 4000000
structure PairAt (R : Raw) (k : Nat) (s : Store) : Prop where
  ex : ∃ i j, s[k]? = some (.ins 2 [(77, .ref i), (72, .ref j)]) ∧ s[i]? = some (.ins 0 (sndF R)) ∧ s[j]? = some (.ins 1 (rcvF R))
end
section
set_option Elab.async false
set_option linter.all false
set_option maxRecDepth 100000
set_option maxHeartbeats 4000000
theorem req_ok {R : Raw} {k : Nat} {s : Store} (hp : PairAt R k s) : F_require_pair [.ref k] s = .ok (.v .non) s := by
  obtain ⟨i, j, h1, h2, h3⟩ := hp.ex
  apply eq_of_wp
  rw [F_require_pair, wp_fn1]
  simp [B_require_pair, isTy_ins _ h1, insB]
end
section
set_option Elab.async false
set_option linter.all false
set_option maxRecDepth 100000
set_option maxHeartbeats 4000000
/-- the store has grown, nothing else -/
structure Ex (s0 s : Store) : Prop where
  len : s0.length ≤ s.length
  get : ∀ k, k < s0.length → s[k]? = s0[k]?
theorem Ex.refl (s : Store) : Ex s s := ⟨Nat.le_refl _, fun _ _ => rfl⟩
theorem Ex.trans {a b c : Store} (x : Ex a b) (y : Ex b c) : Ex a c := ⟨Nat.le_trans x.len y.len, fun k h => (y.get k (Nat.lt_of_lt_of_le h x.len)).trans (x.get k h)⟩
theorem Ex.app (s l : Store) : Ex s (s ++ l) := ⟨by rw [List.length_append]; omega, fun k h => List.getElem?_append_left h⟩
theorem Ex.set {s0 s : Store} (x : Ex s0 s) {q : Nat} {o : Ob} (h : s0.length ≤ q) : Ex s0 (s.set q o) := ⟨by rw [List.length_set]; exact x.len, fun k hk => by rw [List.getElem?_set_ne (by omega)]; exact x.get k hk⟩
theorem Ex.at {s0 s : Store} (x : Ex s0 s) {k : Nat} {o : Ob} (h : s0[k]? = some o) : s[k]? = some o := by rw [x.get k (List.getElem?_eq_some_iff.mp h).1]; exact h
theorem PairAt.ex' {R : Raw} {k : Nat} {s s' : Store} (h : PairAt R k s) (x : Ex s s') : PairAt R k s' := by
  obtain ⟨i, j, h1, h2, h3⟩ := h.ex
  exact ⟨i, j, x.at h1, x.at h2, x.at h3⟩
end
section
set_option Elab.async false
set_option linter.all false
set_option maxRecDepth 100000
set_option maxHeartbeats 4000000
theorem PairAt.fr {R : Raw} {p n k : Nat} {s s' : Store} (h : PairAt R k s) (hp : Pu p n s) (hf : Fr p s s') : PairAt R k s' := by
  obtain ⟨i, j, h1, h2, h3⟩ := h.ex
  obtain ⟨a, b, c, hp, _⟩ := hp
  have g : ∀ {z c : Nat} {fs}, s[z]? = some (.ins c fs) → s'[z]? = some (.ins c fs) := fun {z c fs} e => by
    rw [hf.2 z (List.getElem?_eq_some_iff.mp e).1 (fun e2 => by subst e2; rw [hp] at e; cases e)]; exact e
  exact ⟨i, j, g h1, g h2, g h3⟩
theorem PairAt.set {R : Raw} {q k : Nat} {X : List Val} {o : Ob} {s : Store} (h : PairAt R k s) (hq : s[q]? = some (.lst X)) : PairAt R k (s.set q o) := by
  obtain ⟨i, j, h1, h2, h3⟩ := h.ex
  have g : ∀ {z c : Nat} {fs}, s[z]? = some (.ins c fs) → (s.set q o)[z]? = some (.ins c fs) := fun {z c fs} e => by
    rw [List.getElem?_set_ne (fun e2 => by subst e2; rw [hq] at e; cases e)]; exact e
  exact ⟨i, j, g h1, g h2, g h3⟩
theorem made_at {R : Raw} (s : Store) : PairAt R (s.length + 2) (s ++ [.ins 0 (sndF R), .ins 1 (rcvF R), .ins 2 [(77, .ref s.length), (72, .ref (s.length + 1))]]) :=
  ⟨s.length, s.length + 1, by simp, by simp, by simp⟩
theorem comp_two {α : Type} (a b : α → Val) {ps : List α} {ix : Ix} {f : Its} {g : Tgt} {own : List Nat} {e : Ev} {ρ : Env} {s s1 : Store} (hix : ix ρ s = .ok f s1) (hf : f s1 = some (ps.map a)) (hl : ps.length ≤ 1000000)
    (step : ∀ p, p ∈ ps → Wp (g (a p) (wipe ρ own) s1) fun ρ' s2 => s2 = s1 ∧ e ρ' s1 = .ok (.v (b p)) s1) : eComp ix g own tYes e ρ s = .ok (.l (ps.map b)) s1 := by
  refine eq_of_wp (wp_comp hix (xs := ps.map a) (fun i acc s' => s' = s1 ∧ acc = (ps.take i).map b) (fun _ _ _ h => by rw [h.1]; exact hf) ⟨rfl, by simp⟩ (fun i x acc s' hx ⟨e1, e2⟩ => ?_) fun acc s' ⟨e1, e2⟩ => ⟨by rw [e2, List.length_map, List.take_of_length_le (Nat.le_refl _)], e1⟩)
  subst e1
  rw [List.getElem?_map] at hx
  obtain ⟨p, hp, rfl⟩ := Option.map_eq_some_iff.mp hx
  have hi := (List.getElem?_eq_some_iff.mp hp).1
  refine (step p (List.mem_of_getElem? hp)).mono fun ρ' s2 ⟨e3, e4⟩ => ?_
  subst e3
  show Wp (Res.ok true s2) _
  simp only [wp_ok, if_true]
  rw [e4]
  simp only [wp_ok, mat_v]
  refine ⟨by rw [e2, List.length_map, List.length_take]; unfold LIM; omega, trivial, ?_⟩
  rw [e2, List.take_add_one, hp]
  simp
end
section
set_option Elab.async false
set_option linter.all false
set_option maxRecDepth 100000
set_option maxHeartbeats 4000000
set_option autoImplicit true
theorem Pu.ex {p n : Nat} {s s' : Store} (h : Pu p n s) (x : Ex s s') : Pu p n s' := by
  obtain ⟨a, b, c, h1, h2⟩ := h
  exact ⟨a, b, c, x.at h1, h2⟩
end
section
set_option Elab.async false
set_option linter.all false
set_option maxRecDepth 100000
set_option maxHeartbeats 4000000
set_option autoImplicit true
theorem purse_ok {ns : List Int} {s : Store} (hs : seqOf (.v (.ref 0)) s = some (ns.map Val.int)) (i : Nat) : ∃ a b : Int, F__law_purse [.ref 0, nv i] s = .ok (.l [.int a, .int b, .int (1000 * (i : Int))]) s := by
  have sm : small 1000 = true := by decide
  suffices h : Wp (F__law_purse [.ref 0, nv i] s) fun x s' => s' = s ∧ ∃ a b : Int, x = .l [.int a, .int b, .int (1000 * (i : Int))] by
    obtain ⟨x, s', e, rfl, a, b, rfl⟩ := h
    exact ⟨a, b, e⟩
  rw [F__law_purse, wp_fn2]
  by_cases hi : i < ns.length
  · have at1 : atI (ns.map Val.int) (i : Int) = some (.int ns[i]) := atI_of (by rw [List.getElem?_map, List.getElem?_eq_getElem hi]; rfl)
    simp [B__law_purse, hs, show (i : Int) < (ns.length : Int) by omega, at1, sm]
  · simp [B__law_purse, hs, show ¬ (i : Int) < (ns.length : Int) by omega, sm]
section
variable {R : Raw} {k i : Nat} {De : Ev} {ρ : Env} {s : Store} {ds : List Dd}
end
end
end L_k01
end
section
set_option Elab.async false
set_option linter.all false
set_option maxRecDepth 100000
set_option maxHeartbeats 4000000
namespace L_k01
open VI
section
set_option Elab.async false
set_option linter.all false
set_option maxRecDepth 100000
set_option maxHeartbeats 4000000
set_option autoImplicit true
theorem all_bools (l : List Nat) (s : Store) : bAll (.l (l.map fun x => Val.bool (decide (x = 0)))) s = .ok (.v (.bool (l.all fun x => decide (x = 0)))) s := by
  have e : bools? (l.map fun x => Val.bool (decide (x = 0))) = some (l.map fun x => decide (x = 0)) := by
    induction l with
    | nil => rfl
    | cons x l ih =>
      rw [List.map_cons, List.map_cons]
      unfold bools?
      rw [ih]; rfl
  unfold bAll
  simp only [lstOf_l, e]
  rw [List.all_map]; rfl
theorem forgets_ok {R : Raw} {k : Nat} {s : Store} (hp : PairAt R k s) (hS : R.S.sends.length ≤ 20 ∧ R.S.crashes.length = R.S.sends.length) (hR : R.R.sends.length ≤ 20 ∧ R.R.crashes.length = R.R.sends.length) (b : Bool) : F_forgets [.ref k, .str (if b then 77 else 72)] s = .ok (.v (.bool ((if b then R.S.crashes else R.R.crashes).all fun x => decide (x = 0)))) s := by
  obtain ⟨i, j, hk, hi, hj⟩ := hp.ex
  have f1 : fldOf [2] (.v (.ref k)) 77 s = some (.ref i) := fldOf_at hk rfl
  have f2 : fldOf [2] (.v (.ref k)) 72 s = some (.ref j) := fldOf_at hk rfl
  have f3 : fldOf [0, 1] (.v (.ref i)) 20 s = some (rowV R.S.crashes) := fldOf_at hi rfl
  have f4 : fldOf [0, 1] (.v (.ref j)) 20 s = some (rowV R.R.crashes) := fldOf_at hj rfl
  apply eq_of_wp
  rw [F_forgets, wp_fn2]
  unfold B_forgets
  simp only [Nat.reduceSub, List.replicate]
  have c : ∀ (l : List Nat) (v0 v1 v3 : Option Val), l.length ≤ 20 → eComp (ixE (eV 2)) (gV 3) [3] tYes (eBin cEq (eV 3) (eC (.int 0))) [v0, v1, some (rowV l), v3] s = .ok (.l (l.map fun x => Val.bool (decide (x = 0)))) s := fun l v0 v1 v3 hl => by
    refine comp_two (α := Nat) nv _ (ps := l) (f := fun _ => some (l.map nv)) (by rw [ixE_r]; simp only [eV_r, bind_ok, List.getElem?_cons_succ, List.getElem?_cons_zero, itsOf]) rfl (by omega) fun x hx => ?_
    have e : decide ((x : Int) = 0) = decide (x = 0) := decide_eq_decide.mpr (by omega)
    simp only [wipe, gV_r, wp_ok, List.set_cons_succ, List.set_cons_zero, true_and, eBin_r, eV_r, eC_r, bind_ok, List.getElem?_cons_succ, List.getElem?_cons_zero, cEq_r, eqT_i, ans_s, e]
  cases b with
  | true =>
    refine seq_step ?_
    simp only [sAsg_r, eIf_r, tB_r, eBin_r, eFld_r, eV_r, eC_r, bind_ok, mat_v, List.getElem?_cons_succ, List.getElem?_cons_zero, cEq_r, eqT_s, if_true, decide_true, ans_s, f1, f3, gV_r, wp_ok, List.set_cons_succ, List.set_cons_zero]
    simp only [sRet_r, eB1_r, c R.S.crashes _ _ _ (by omega), bind_ok, all_bools, wp_ok, FinQ_r]
    exact ⟨trivial, trivial⟩
  | false =>
    refine seq_step ?_
    have ne : decide ((72 : Nat) = 77) = false := rfl
    simp only [sAsg_r, eIf_r, tB_r, eBin_r, eFld_r, eV_r, eC_r, bind_ok, mat_v, List.getElem?_cons_succ, List.getElem?_cons_zero, cEq_r, eqT_s, Bool.false_eq_true, if_false, ne, ans_s, f2, f4, gV_r, wp_ok, List.set_cons_succ, List.set_cons_zero]
    simp only [sRet_r, eB1_r, c R.R.crashes _ _ _ (by omega), bind_ok, all_bools, wp_ok, FinQ_r]
    exact ⟨trivial, trivial⟩
end
end L_k01
end
section
set_option Elab.async false
set_option linter.all false
set_option maxRecDepth 100000
set_option maxHeartbeats 4000000
/-! W01c: law k01's _law_bent. -/
namespace L_k01
open VI
theorem sSub_r (o i e : Ev) (ρ : Env) (s : Store) : sSub o i e ρ s = (e ρ s).bind fun t s => (mat t s).bind fun y s => (o ρ s).bind fun x s => (i ρ s).bind fun k s => match refL x s, k with
  | some (n, xs), .v (.int k) => match ixN xs.length k with
    | some j => .ok (.next, ρ) (updL n (xs.set j y) s)
    | none => .bad
  | _, _ => .bad := (rfl)
/-- l[i] = e, l a list in the store -/
theorem sub_step {o i : Nat} {ev : Ev} {ρ : Env} {s : Store} {Q : Fl × Env → Store → Prop} {q j : Nat} (ho : ρ[o]? = some (some (.ref q))) (hi : ρ[i]? = some (some (nv j)))
    (he : Wp (ev ρ s) fun t s' => ∃ y X, t = .v y ∧ s'[q]? = some (.lst X) ∧ j < X.length ∧ Q (.next, ρ) (s'.set q (.lst (X.set j y)))) : Wp (sSub (eV o) (eV i) ev ρ s) Q := by
  rw [sSub_r, wp_bind]
  refine he.mono fun t s' ⟨y, X, e1, e2, e3, e4⟩ => ?_
  subst e1
  have rf : refL (.v (.ref q)) s' = some (q, X) := by simp [refL, e2]
  have ix : ixN X.length (j : Int) = some j := by
    unfold ixN
    rw [if_pos (by omega), if_pos (by omega)]
    rfl
  simp only [mat_v, bind_ok, eV_r, ho, hi, rf, ix, updL, wp_ok]
  exact e4
theorem bent_tail {T X : List Val} {j q : Nat} {ρ : Env} {s : Store} (h2 : ρ[2]? = some (some (.tup T))) (hj : j < T.length) (hl : T.length ≤ 10) (h6 : ρ[6]? = some (some (nv j))) (h7 : ρ[7]? = some (some (.ref q))) (hq : s[q]? = some (.lst X)) :
    sRet (eBin oAdd (eBin oAdd (eSl (eV 2) none (some (eV 6))) (eTup (aCons (eB1 bTuple (eV 7)) aNil))) (eSl (eV 2) (some (eBin oAdd (eV 6) (eC (.int 1)))) none)) ρ s = .ok (.ret (.v (.tup (T.set j (.tup X)))), ρ) s := by
  have e1 : ((j : Int) + 1) = ((j + 1 : Nat) : Int) := by omega
  have sq : seqOf (.v (.ref q)) s = some X := by simp [seqOf, hq]
  simp only [sRet_r, eBin_r, eSl_r, eTup_r, aCons_r, aNil_r, eB1_r, eV_r, eC_r, h2, h6, h7, bind_ok, optI_n, optI_s, slc_t, bTuple_r, sq, mat_v, oAdd_i, e1, cutV_to, cutV_from, List.length_cons, List.length_nil, LIM_eq, Nat.reduceAdd, Nat.reduceLeDiff, if_true]
  rw [oAdd_t, if_pos (by simp; omega), bind_ok, oAdd_t, if_pos (by simp; omega), bind_ok]
  rw [List.set_eq_take_append_cons_drop, if_pos hj]
  simp
theorem pickN {k : Nat} (hk : k < 2) (x : Val) (s : Store) : oIdx (.l [.non, x]) (.v (nv k)) s = .ok (.v (if k = 0 then .non else x)) s := by
  match k, hk with
  | 0, _ => simp
  | 1, _ => simp [atI_1]
/-- what a bent item is -/
def Bent (v lt many at_ : Nat) (is_s : Bool) (a2 a3 : List Val) : Nat → Val → Prop
  | 0, y => ∃ o : Option Nat, y = optV o ∧ ∀ x, o = some x → x < lt
  | 1, y => ∃ x : Nat, y = nv x ∧ x < many
  | 2, y => ∃ (l : List Val) (i x : Nat), a2[at_]? = some (.tup l) ∧ i < l.length ∧ y = .tup (l.set i (nv x)) ∧ x < many
  | 3, y => if is_s = true then ∃ o : Option (List Nat), y = takeV o ∧ (at_ = 0 → o ≠ none) ∧ ∀ r, o = some r → r.length = v ∧ ∀ x ∈ r, x < many
      else ∃ (l : List Val) (i : Nat) (o : Option Nat), a3[at_]? = some (.tup l) ∧ i < l.length ∧ y = .tup (l.set i (optV o)) ∧ ∀ x, o = some x → x < v
  | _, y => ∃ x : Nat, y = nv x ∧ x < many
theorem opt_draw {p n m : Nat} {s : Store} {ρ : Env} {d : Ev} (h : Pu p n s) (hn : n < 2 ^ 40) (h0 : ρ[0]? = some (some (.ref p))) (hd : Wp (d ρ s) fun t s' => ∃ r : Nat, t = .v (nv r) ∧ r < m ∧ Pu p (n + 1) s' ∧ Fr p s s') :
    Wp (eBin oIdx (eLst (aCons (eC .non) (aCons d aNil))) (eCall F__law_draw (aCons (eV 0) (aCons (eC (.int 2)) aNil))) ρ s) fun t s' => ∃ o : Option Nat, t = .v (optV o) ∧ (∀ x, o = some x → x < m) ∧ Pu p (n + 2) s' ∧ Fr p s s' := by
  simp only [eBin_r, eLst_r, aCons_r, aNil_r, eC_r, bind_ok, mat_v, wp_bind]
  refine hd.mono fun t s1 ⟨r, e, hr, q1, f1⟩ => ?_
  subst e
  simp only [mat_v, wp_ok, List.length_cons, List.length_nil, LIM_eq, Nat.reduceAdd, Nat.reduceLeDiff, if_true, eCall_r, aCons_r, aNil_r, eV_r, eC_r, h0, bind_ok]
  refine (draw_ok q1 (by omega) (by omega) (by omega)).mono fun t s2 ⟨k, e, hk, q2, f2⟩ => ?_
  subst e
  have hk2 : k < 2 := by omega
  rw [pickN hk2, wp_ok]
  by_cases hk0 : k = 0
  · rw [if_pos hk0]
    exact ⟨none, rfl, (fun x e => by cases e), q2, f1.trans f2⟩
  · rw [if_neg hk0]
    exact ⟨some r, rfl, (fun x e => by cases e; exact hr), q2, f1.trans f2⟩
end L_k01
end
section
set_option Elab.async false
set_option linter.all false
set_option maxRecDepth 100000
set_option maxHeartbeats 4000000
/-! W01d: law k01's _law_bent walked. -/
namespace L_k01
open VI
theorem bent_walk {p n v f b many : Nat} {is_s : Bool} {a0 a1 a2 a3 a4 : List Val} {s : Store} (h : Pu p n s) (hn : n < 2 ^ 39) (hv : 1 ≤ v ∧ v ≤ 1000) (hf : 1 ≤ f ∧ f ≤ 1000) (hb : 1 ≤ b ∧ b ≤ 1000) (hm : 1 ≤ many ∧ many ≤ 1000)
    (l0 : a0.length = many) (l1 : a1.length = many) (l2 : a2.length = many) (l3 : a3.length = many) (l4 : a4.length = many)
    (h2 : ∀ x ∈ a2, ∃ l : List Val, x = .tup l ∧ 1 ≤ l.length ∧ l.length ≤ 1000) (h3 : is_s = false → ∀ x ∈ a3, ∃ l : List Val, x = .tup l ∧ 1 ≤ l.length ∧ l.length ≤ 1000) :
    Wp (F__law_bent [.ref p, .tup [nv v, nv f, nv b], .tup [.tup a0, .tup a1, .tup a2, .tup a3, .tup a4], .bool is_s] s) fun t s' => ∃ j at_ y X, [a0, a1, a2, a3, a4][j]? = some X ∧ at_ < many ∧ Bent v (if is_s = true then f else b) many at_ is_s a2 a3 j y ∧
      t = .v (.tup ([Val.tup a0, .tup a1, .tup a2, .tup a3, .tup a4].set j (.tup (X.set at_ y)))) ∧ Pu p (n + 4000) s' ∧ Fr p s s' := by
  rw [F__law_bent, wp_fn4]
  unfold B__law_bent
  simp only [Nat.reduceSub, List.replicate]
  refine seq_step ?_
  simp only [sAsg_r, eTup_r, aCons_r, aNil_r, eB1_r, eBin_r, eV_r, eC_r, eCall_r, bind_ok, List.getElem?_cons_zero, List.getElem?_cons_succ, oIdx_r, seqOf_t, atI_0, bLen_r, mat_v, wp_bind, l0]
  refine (draw_ok h (by omega) (by omega) (by omega)).mono fun t s1 ⟨at_, e, hat, q1, f1⟩ => ?_
  subst e
  simp only [mat_v, wp_ok]
  refine (draw_ok q1 (by omega) (by omega) (by omega)).mono fun t s2 ⟨j, e, hj, q2, f2⟩ => ?_
  subst e
  simp only [mat_v, wp_ok, List.length_cons, List.length_nil, LIM_eq, Nat.reduceAdd, Nat.reduceLeDiff, if_true, gT_r, setAll_c, setAll_n, List.set_cons_succ, List.set_cons_zero]
  have f12 := f1.trans f2
  clear f1 f2 q1
  have hat' : at_ < many := by omega
  have hj5 : j < 5 := by omega
  -- the rest, by the item that is bent
  have key : ∀ (X : List Val), [a0, a1, a2, a3, a4][j]? = some X → X.length = many := fun X hX => by
    match j, hj5, hX with
    | 0, _, hX => cases hX; exact l0
    | 1, _, hX => cases hX; exact l1
    | 2, _, hX => cases hX; exact l2
    | 3, _, hX => cases hX; exact l3
    | 4, _, hX => cases hX; exact l4
  obtain ⟨X, hX⟩ : ∃ X, [a0, a1, a2, a3, a4][j]? = some X := ⟨_, List.getElem?_eq_getElem (by simpa using hj5)⟩
  have lX := key X hX
  have aX : atI [Val.tup a0, .tup a1, .tup a2, .tup a3, .tup a4] (j : Int) = some (.tup X) := by
    match j, hj5, hX with
    | 0, _, hX => cases hX; rfl
    | 1, _, hX => cases hX; rfl
    | 2, _, hX => cases hX; rfl
    | 3, _, hX => cases hX; rfl
    | 4, _, hX => cases hX; rfl
  refine seq_step ?_
  simp only [sAsg_r, eB1_r, eBin_r, eV_r, bind_ok, List.getElem?_cons_zero, List.getElem?_cons_succ, oIdx_r, seqOf_t, aX, bList_r, mat_l, gV_r, wp_ok, List.set_cons_succ, List.set_cons_zero]
  have q3 := q2.app [Ob.lst X]
  have f3 : Fr p s (s2 ++ [Ob.lst X]) := f12.trans Fr.app
  have hq3 : (s2 ++ [Ob.lst X])[s2.length]? = some (.lst X) := by simp
  have hpq : p ≠ s2.length := by have := q2.lt; omega
  have hsq : s.length ≤ s2.length := f12.1
  generalize hs3 : s2 ++ [Ob.lst X] = s3 at q3 f3 hq3 ⊢
  generalize hq : s2.length = q at hq3 hpq hsq ⊢
  -- the end
  have fin : ∀ (y : Val) (s4 : Store) (m : Nat) (v8 v9 v10 : Option Val), Bent v (if is_s = true then f else b) many at_ is_s a2 a3 j y → Pu p m s4 → m ≤ n + 4000 → Fr p s s4 → s4[q]? = some (.lst X) →
      Wp (sRet (eBin oAdd (eBin oAdd (eSl (eV 2) none (some (eV 6))) (eTup (aCons (eB1 bTuple (eV 7)) aNil))) (eSl (eV 2) (some (eBin oAdd (eV 6) (eC (.int 1)))) none))
        [some (.ref p), some (.tup [nv v, nv f, nv b]), some (.tup [.tup a0, .tup a1, .tup a2, .tup a3, .tup a4]), some (.bool is_s), some (nv many), some (nv at_), some (nv j), some (.ref q), v8, v9, v10] (s4.set q (.lst (X.set at_ y))))
        (FinQ fun t s' => ∃ j at_ y X, [a0, a1, a2, a3, a4][j]? = some X ∧ at_ < many ∧ Bent v (if is_s = true then f else b) many at_ is_s a2 a3 j y ∧
          t = .v (.tup ([Val.tup a0, .tup a1, .tup a2, .tup a3, .tup a4].set j (.tup (X.set at_ y)))) ∧ Pu p (n + 4000) s' ∧ Fr p s s') := by
    intro y s4 m v8 v9 v10 hB hP hmn hF hQ
    have hql : q < s4.length := (List.getElem?_eq_some_iff.mp hQ).1
    rw [bent_tail (X := X.set at_ y) (q := q) rfl (by simpa using hj5) (by simp) rfl rfl (by rw [List.getElem?_set_self hql]), wp_ok, FinQ_r]
    exact ⟨j, at_, y, X, hX, hat', hB, rfl, (hP.set (by omega)).le hmn, hF.set2 hsq⟩
  have keepQ : ∀ {s4 s5 : Store}, Fr p s4 s5 → s4[q]? = some (.lst X) → s5[q]? = some (.lst X) := fun {s4 s5} hF hQ => by
    rw [hF.2 q (List.getElem?_eq_some_iff.mp hQ).1 (by omega)]; exact hQ
  refine seq_step ?_
  simp only [sIf_r, tB_r, eBin_r, eV_r, eC_r, cEq_r, eqT_i, ans_s, bind_ok, List.getElem?_cons_zero, List.getElem?_cons_succ, decide_eq_true_eq]
  by_cases j0 : j = 0
  · subst j0
    rw [if_pos (by simp)]
    refine sub_step (q := q) (j := at_) rfl rfl ?_
    have hlt : Wp (eCall F__law_draw (aCons (eV 0) (aCons (eBin oIdx (eV 1) (eBin oAdd (eC (.int 1)) (eB1 bInt (eNot (eV 3))))) aNil)) [some (.ref p), some (.tup [nv v, nv f, nv b]), some (.tup [.tup a0, .tup a1, .tup a2, .tup a3, .tup a4]), some (.bool is_s), some (nv many), some (nv at_), some (nv 0), some (.ref q), none, none, none] s3)
        fun t s' => ∃ r : Nat, t = .v (nv r) ∧ r < (if is_s = true then f else b) ∧ Pu p (n + 2 + 1) s' ∧ Fr p s3 s' := by
      cases is_s with
      | true =>
        simp [atI_1]
        refine (draw_ok q3 (by omega) (by omega) (by omega)).mono fun t s4 ⟨r, e, hr, q4, f4⟩ => ⟨r, e, by omega, q4, f4⟩
      | false =>
        simp [atI_2]
        refine (draw_ok q3 (by omega) (by omega) (by omega)).mono fun t s4 ⟨r, e, hr, q4, f4⟩ => ⟨r, e, by omega, q4, f4⟩
    refine (opt_draw q3 (by omega) rfl hlt).mono fun t s4 ⟨o, e, ho, q4, f4⟩ => ⟨optV o, X, e, keepQ f4 hq3, by omega, ?_⟩
    exact fin _ s4 _ _ _ _ ⟨o, rfl, ho⟩ q4 (by omega) (f3.trans f4) (keepQ f4 hq3)
  · rw [if_neg (by omega)]
    simp only [sIf_r, tB_r, tAnd_r, eBin_r, eV_r, eC_r, eTup_r, aCons_r, aNil_r, bind_ok, mat_v, List.length_cons, List.length_nil, LIM_eq, Nat.reduceAdd, Nat.reduceLeDiff, if_true, List.getElem?_cons_zero, List.getElem?_cons_succ, cIn_r, isIn_t, flat, List.all_cons, List.all_nil, Bool.and_self, List.any_cons, List.any_nil, flatEq, ans_s]
    by_cases j14 : j = 1 ∨ j = 4
    · rw [if_pos (by simp; omega)]
      refine sub_step (q := q) (j := at_) rfl rfl ?_
      simp only [eCall_r, aCons_r, aNil_r, eV_r, bind_ok, mat_v, List.getElem?_cons_zero, List.getElem?_cons_succ]
      refine (draw_ok q3 (by omega) (by omega) (by omega)).mono fun t s4 ⟨r, e, hr, q4, f4⟩ => ⟨nv r, X, e, keepQ f4 hq3, by omega, ?_⟩
      refine fin _ s4 _ _ _ _ ?_ q4 (by omega) (f3.trans f4) (keepQ f4 hq3)
      rcases j14 with rfl | rfl
      · exact ⟨r, rfl, by omega⟩
      · exact ⟨r, rfl, by omega⟩
    · rw [if_neg (by simp; omega)]
      by_cases j3 : j = 3 ∧ is_s = true
      · obtain ⟨rfl, rfl⟩ := j3
        simp only [sIf_r, tB_r, tAnd_r, eBin_r, eV_r, eC_r, bind_ok, List.getElem?_cons_zero, List.getElem?_cons_succ, cEq_r, eqT_i, ans_s]
        rw [if_pos (by decide), bind_ok, if_pos rfl]
        refine seq_step ?_
        simp only [sAsg_r, eB1_r, wp_bind]
        refine Wp.mono (comp_draw nv (fun _ x => x < many) 1 (n := n + 2) (xs := rngV 0 (v : Int)) ?_ q3 ?_ fun i x m s1 hx hp hmn => ?_) fun t s4 ⟨l, ht, hl, hP, q4, f4⟩ => ?_
        · simp [inR_n hv.2]
        · rw [rngV_len]; omega
        · have hi : i < v := by have := (List.getElem?_eq_some_iff.mp hx).1; rwa [rngV_len] at this
          simp only [wipe, gV_r, wp_ok, List.set_cons_succ, List.set_cons_zero, true_and, eCall_r, aCons_r, aNil_r, eV_r, bind_ok, mat_v, List.getElem?_cons_zero, List.getElem?_cons_succ]
          refine (draw_ok hp (by omega) (by omega) (by omega)).mono fun t s' ⟨r, e, hr, h1, h2⟩ => ⟨r, e, by omega, h1, h2⟩
        · subst ht
          rw [rngV_len] at q4 hl
          simp only [bTuple_r, seqOf_l, wp_ok, mat_v, gV_r, List.set_cons_succ, List.set_cons_zero]
          refine sub_step (q := q) (j := at_) rfl rfl ?_
          have hrow : ∀ x ∈ l, x < many := fun x hx => by
            obtain ⟨i, hi⟩ := List.mem_iff_getElem?.mp hx
            exact hP i x hi
          simp only [eIf_r, tAnd_r, tB_r, eBin_r, eV_r, eC_r, bind_ok, List.getElem?_cons_zero, List.getElem?_cons_succ, cGt_i]
          by_cases a0' : at_ = 0
          · rw [if_neg (by simp; omega), bind_ok, if_neg (by decide), wp_ok]
            refine ⟨rowV l, X, rfl, keepQ f4 hq3, by omega, ?_⟩
            exact fin _ s4 _ _ _ _ ⟨some l, rfl, (fun _ e => by cases e), fun r e => by cases e; exact ⟨hl, hrow⟩⟩ q4 (by omega) (f3.trans f4) (keepQ f4 hq3)
          · rw [if_pos (by simp; omega)]
            simp only [eCall_r, aCons_r, aNil_r, eV_r, eC_r, bind_ok, mat_v, List.getElem?_cons_zero, List.getElem?_cons_succ, wp_bind]
            refine (draw_ok q4 (by omega) (by omega) (by omega)).mono fun t s5 ⟨r, e, hr, q5, f5⟩ => ?_
            subst e
            simp only [cEq_r, eqT_i, ans_s, wp_ok]
            by_cases r0 : r = 0
            · subst r0
              rw [if_pos (by simp), wp_ok]
              refine ⟨.non, X, rfl, keepQ f5 (keepQ f4 hq3), by omega, ?_⟩
              exact fin _ s5 _ _ _ _ ⟨none, rfl, (fun e => absurd e a0'), fun r e => by cases e⟩ q5 (by omega) (f3.trans (f4.trans f5)) (keepQ f5 (keepQ f4 hq3))
            · rw [if_neg (by simp; omega), wp_ok]
              refine ⟨rowV l, X, rfl, keepQ f5 (keepQ f4 hq3), by omega, ?_⟩
              exact fin _ s5 _ _ _ _ ⟨some l, rfl, (fun _ e => by cases e), fun r e => by cases e; exact ⟨hl, hrow⟩⟩ q5 (by omega) (f3.trans (f4.trans f5)) (keepQ f5 (keepQ f4 hq3))
      · have hjj : j = 2 ∨ (j = 3 ∧ is_s = false) := by
          cases is_s <;> simp_all <;> omega
        have cnd : (if decide ((j : Int) = 3) = true then (Res.ok is_s s3 : Res Bool) else Res.ok false s3) = Res.ok false s3 := by
          rcases hjj with rfl | ⟨rfl, rfl⟩ <;> rfl
        simp only [sIf_r, tB_r, tAnd_r, eBin_r, eV_r, eC_r, bind_ok, List.getElem?_cons_zero, List.getElem?_cons_succ, cEq_r, eqT_i, ans_s, cnd]
        rw [if_neg (by decide)]
        obtain ⟨l, hl, l1', l2'⟩ : ∃ l : List Val, X[at_]? = some (.tup l) ∧ 1 ≤ l.length ∧ l.length ≤ 1000 := by
          have hlt : at_ < X.length := by omega
          have hmem : X[at_] ∈ X := List.getElem_mem hlt
          rcases hjj with rfl | ⟨rfl, rfl⟩
          · cases hX
            obtain ⟨l, e, h1, h2⟩ := h2 _ hmem
            exact ⟨l, by rw [List.getElem?_eq_getElem hlt, e], h1, h2⟩
          · cases hX
            obtain ⟨l, e, h1, h2⟩ := h3 rfl _ hmem
            exact ⟨l, by rw [List.getElem?_eq_getElem hlt, e], h1, h2⟩
        have sq3 : seqOf (.v (.ref q)) s3 = some X := by simp [seqOf, hq3]
        refine seq_step ?_
        simp only [sAsg_r, eB1_r, eBin_r, eV_r, bind_ok, List.getElem?_cons_zero, List.getElem?_cons_succ, oIdx_r, sq3, atI_of hl, bList_r, seqOf_t, mat_l, gV_r, wp_ok, List.set_cons_succ, List.set_cons_zero]
        have q4 := q3.app [Ob.lst l]
        have f4 : Fr p s3 (s3 ++ [Ob.lst l]) := Fr.app
        have hq4 : (s3 ++ [Ob.lst l])[s3.length]? = some (.lst l) := by simp
        have hp4 : p ≠ s3.length := by have := q3.lt; omega
        have hqq : q ≠ s3.length := by have := (List.getElem?_eq_some_iff.mp hq3).1; omega
        have hs34 : s.length ≤ s3.length := f3.1
        generalize s3 ++ [Ob.lst l] = s4 at q4 f4 hq4 ⊢
        generalize s3.length = q' at hq4 hp4 hqq hs34 ⊢
        have sq4 : seqOf (.v (.ref q')) s4 = some l := by simp [seqOf, hq4]
        refine seq_step ?_
        simp only [sAsg_r, eCall_r, aCons_r, aNil_r, eB1_r, eV_r, bind_ok, mat_v, List.getElem?_cons_zero, List.getElem?_cons_succ, bLen_r, sq4, wp_bind]
        refine (draw_ok q4 (by omega) (by omega) (by omega)).mono fun t s5 ⟨pl, e, hpl, q5, f5⟩ => ?_
        subst e
        simp only [mat_v, gV_r, wp_ok, List.set_cons_succ, List.set_cons_zero]
        have keepL : ∀ {s6 s7 : Store}, Fr p s6 s7 → s6[q']? = some (.lst l) → s7[q']? = some (.lst l) := fun {s6 s7} hF hQ => by
          rw [hF.2 q' (List.getElem?_eq_some_iff.mp hQ).1 (by omega)]; exact hQ
        have hq5 := keepL f5 hq4
        have hX5 := keepQ f5 (keepQ f4 hq3)
        refine seq_step ?_
        refine sub_step (q := q') (j := pl) rfl rfl ?_
        -- the new letter
        have hnew : Wp ((eIf (tB (eBin cEq (eV 6) (eC (.int 2)))) (eCall F__law_draw (aCons (eV 0) (aCons (eV 4) aNil))) (eBin oIdx (eLst (aCons (eC .non) (aCons (eCall F__law_draw (aCons (eV 0) (aCons (eBin oIdx (eV 1) (eC (.int 0))) aNil))) aNil))) (eCall F__law_draw (aCons (eV 0) (aCons (eC (.int 2)) aNil)))))
            [some (.ref p), some (.tup [nv v, nv f, nv b]), some (.tup [.tup a0, .tup a1, .tup a2, .tup a3, .tup a4]), some (.bool is_s), some (nv many), some (nv at_), some (nv j), some (.ref q), some (.ref q'), some (nv pl), none] s5)
            fun t s' => ∃ y, t = .v y ∧ (∀ w, w = Val.tup (l.set pl y) → Bent v (if is_s = true then f else b) many at_ is_s a2 a3 j w) ∧ Pu p (n + 2 + 1 + 2) s' ∧ Fr p s5 s' := by
          simp only [eIf_r, tB_r, eBin_r, eV_r, eC_r, bind_ok, List.getElem?_cons_zero, List.getElem?_cons_succ, cEq_r, eqT_i, ans_s]
          rcases hjj with rfl | ⟨rfl, rfl⟩
          · rw [if_pos (by decide)]
            simp only [eCall_r, aCons_r, aNil_r, eV_r, bind_ok, mat_v, List.getElem?_cons_zero, List.getElem?_cons_succ]
            refine (draw_ok q5 (by omega) (by omega) (by omega)).mono fun t s6 ⟨r, e, hr, q6, f6⟩ => ⟨nv r, e, fun w hw => ?_, q6.le (by omega), f6⟩
            cases hX
            exact ⟨l, pl, r, hl, by omega, hw, by omega⟩
          · rw [if_neg (by decide)]
            refine (opt_draw (m := v) q5 (by omega) rfl ?_).mono fun t s6 ⟨o, e, ho, q6, f6⟩ => ⟨optV o, e, fun w hw => ?_, q6, f6⟩
            · simp only [eCall_r, aCons_r, aNil_r, eBin_r, eV_r, eC_r, bind_ok, mat_v, List.getElem?_cons_zero, List.getElem?_cons_succ, oIdx_r, seqOf_t, atI_0]
              refine (draw_ok q5 (by omega) (by omega) (by omega)).mono fun t s6 ⟨r, e, hr, q6, f6⟩ => ⟨r, e, by omega, q6, f6⟩
            · cases hX
              exact ⟨l, pl, o, hl, by omega, hw, ho⟩
        refine hnew.mono fun t s6 ⟨y, e, hy, q6, f6⟩ => ⟨y, l, e, keepL f6 hq5, by omega, ?_⟩
        have hX6 := keepQ f6 hX5
        have hq6 := keepL f6 hq5
        have hl6 : q' < s6.length := (List.getElem?_eq_some_iff.mp hq6).1
        refine sub_step (q := q) (j := at_) rfl rfl ?_
        have sq7 : seqOf (.v (.ref q')) (s6.set q' (.lst (l.set pl y))) = some (l.set pl y) := by simp [seqOf, hl6]
        have hX7 : (s6.set q' (.lst (l.set pl y)))[q]? = some (.lst X) := by rw [List.getElem?_set_ne (Ne.symm hqq)]; exact hX6
        simp only [eB1_r, eV_r, bind_ok, List.getElem?_cons_zero, List.getElem?_cons_succ, bTuple_r, sq7, wp_ok]
        refine ⟨.tup (l.set pl y), X, rfl, hX7, by omega, ?_⟩
        exact fin _ _ _ _ _ _ (hy _ rfl) (q6.set (by omega)) (by omega) ((f3.trans (f4.trans (f5.trans f6))).set2 hs34) hX7
end L_k01
end
section
set_option Elab.async false
set_option linter.all false
set_option maxRecDepth 100000
set_option maxHeartbeats 4000000
/-! W01e: a bent table is a right one. -/
namespace L_k01
open VI
theorem mem_set {α : Type} {l : List α} {i : Nat} {a x : α} (h : x ∈ l.set i a) : x ∈ l ∨ x = a := List.mem_or_eq_of_mem_set h
theorem set_map {α : Type} (f : α → Val) (l : List α) (i : Nat) (a : α) : (l.map f).set i (f a) = (l.set i a).map f := by rw [List.map_set]
theorem bent_snd {R : Raw} (hR : RawOk R) {p n : Nat} {s : Store} (h : Pu p n s) (hn : n < 2 ^ 39) :
    Wp (F__law_bent [.ref p, .tup [nv R.v, nv R.f, nv R.b], sndV R.S, .bool true] s) fun t s' => ∃ S', t = .v (sndV S') ∧ SndOk R.v R.f R.b S' ∧ Pu p (n + 4000) s' ∧ Fr p s s' := by
  have hS := hR.S
  obtain ⟨S1, S2, S3, S4, S5⟩ := hR.S
  have w := bent_walk (is_s := true) h hn hR.v hR.f hR.b (many := R.S.sends.length) ⟨hS.len.1, by have := hS.len.2; omega⟩
    (a0 := R.S.sends.map optV) (a1 := R.S.ticks.map nv) (a2 := R.S.hears.map fun r => rowV r) (a3 := R.S.takes.map takeV) (a4 := R.S.crashes.map nv)
    (by simp) (by simp [hS.ticks.1]) (by simp [hS.hears.1]) (by simp [hS.takes.1]) (by simp [hS.crashes.1])
    (fun x hx => by
      obtain ⟨r, hr, rfl⟩ := List.mem_map.mp hx
      have := (hS.hears.2 r hr).1
      exact ⟨r.map nv, rfl, by rw [List.length_map, this]; exact hR.b.1, by rw [List.length_map, this]; exact hR.b.2⟩)
    (fun e => by cases e)
  refine w.mono fun t s' ⟨j, at_, y, X, hX, hat, hB, ht, hP, hF⟩ => ?_
  have L1 : ∀ o, (R.S.sends.set at_ o).length = R.S.sends.length := fun o => List.length_set
  match j, hX, hB, ht with
  | 0, hX, hB, ht =>
    cases hX
    obtain ⟨o, rfl, ho⟩ := hB
    rw [set_map] at ht
    refine ⟨{ R.S with sends := R.S.sends.set at_ o }, ht, ⟨?_, ?_, ?_, ?_, ?_, ?_⟩, hP, hF⟩ <;> simp only [L1]
    · exact hS.len
    · intro x hx
      rcases mem_set hx with hx | hx
      · exact hS.sends x hx
      · exact ho x hx.symm
    · exact hS.ticks
    · exact hS.hears
    · exact hS.takes
    · exact hS.crashes
  | 1, hX, hB, ht =>
    cases hX
    obtain ⟨k, rfl, hk⟩ := hB
    rw [set_map] at ht
    refine ⟨{ R.S with ticks := R.S.ticks.set at_ k }, ht, ⟨hS.len, hS.sends, ⟨by simp [hS.ticks.1], fun x hx => ?_⟩, hS.hears, hS.takes, hS.crashes⟩, hP, hF⟩
    rcases mem_set hx with hx | hx
    · exact hS.ticks.2 x hx
    · subst hx; exact hk
  | 2, hX, hB, ht =>
    cases hX
    obtain ⟨l, i, x, hl, hi, rfl, hx⟩ := hB
    rw [List.getElem?_map] at hl
    cases e : R.S.hears[at_]? with
    | none => rw [e] at hl; cases hl
    | some r =>
      rw [e] at hl
      cases hl
      have hr := hS.hears.2 r (List.mem_of_getElem? e)
      rw [set_map, show Val.tup ((r.set i x).map nv) = (fun r => rowV r) (r.set i x) from rfl, set_map] at ht
      refine ⟨{ R.S with hears := R.S.hears.set at_ (r.set i x) }, ht, ⟨hS.len, hS.sends, hS.ticks, ⟨by simp [hS.hears.1], fun r' hr' => ?_⟩, hS.takes, hS.crashes⟩, hP, hF⟩
      rcases mem_set hr' with h' | h'
      · exact hS.hears.2 r' h'
      · subst h'
        refine ⟨by rw [List.length_set]; exact hr.1, fun z hz => ?_⟩
        rcases mem_set hz with h' | h'
        · exact hr.2 z h'
        · subst h'; exact hx
  | 3, hX, hB, ht =>
    cases hX
    obtain ⟨o, rfl, h0, ho⟩ := (show ∃ o : Option (List Nat), y = takeV o ∧ (at_ = 0 → o ≠ none) ∧ ∀ r, o = some r → r.length = R.v ∧ ∀ x ∈ r, x < R.S.sends.length from hB)
    rw [set_map] at ht
    refine ⟨{ R.S with takes := R.S.takes.set at_ o }, ht, ⟨hS.len, hS.sends, hS.ticks, hS.hears, ⟨by simp [hS.takes.1], fun r hr => ?_, ?_⟩, hS.crashes⟩, hP, hF⟩
    · rcases mem_set hr with h' | h'
      · exact hS.takes.2.1 r h'
      · exact ho r h'.symm
    · obtain ⟨r, t, e⟩ := hS.takes.2.2
      show ∃ r t, R.S.takes.set at_ o = some r :: t
      rw [e]
      match at_, h0 with
      | 0, h0 =>
        cases o with
        | none => exact absurd rfl (h0 rfl)
        | some r' => exact ⟨r', t, rfl⟩
      | k + 1, _ => exact ⟨r, t.set k o, rfl⟩
  | 4, hX, hB, ht =>
    cases hX
    obtain ⟨k, rfl, hk⟩ := hB
    rw [set_map] at ht
    refine ⟨{ R.S with crashes := R.S.crashes.set at_ k }, ht, ⟨hS.len, hS.sends, hS.ticks, hS.hears, hS.takes, ⟨by simp [hS.crashes.1], fun x hx => ?_⟩⟩, hP, hF⟩
    rcases mem_set hx with hx | hx
    · exact hS.crashes.2 x hx
    · subst hx; exact hk
  | j + 5, hX, _, _ => simp at hX
theorem bent_rcv {R : Raw} (hR : RawOk R) {p n : Nat} {s : Store} (h : Pu p n s) (hn : n < 2 ^ 39) :
    Wp (F__law_bent [.ref p, .tup [nv R.v, nv R.f, nv R.b], rcvV R.R, .bool false] s) fun t s' => ∃ S', t = .v (rcvV S') ∧ RcvOk R.v R.f R.b S' ∧ Pu p (n + 4000) s' ∧ Fr p s s' := by
  have hS := hR.R
  have w := bent_walk (is_s := false) h hn hR.v hR.f hR.b (many := R.R.sends.length) ⟨hS.len.1, by have := hS.len.2; omega⟩
    (a0 := R.R.sends.map optV) (a1 := R.R.ticks.map nv) (a2 := R.R.hears.map fun r => rowV r) (a3 := R.R.gives.map fun r => lettersV r) (a4 := R.R.crashes.map nv)
    (by simp) (by simp [hS.ticks.1]) (by simp [hS.hears.1]) (by simp [hS.gives.1]) (by simp [hS.crashes.1])
    (fun x hx => by
      obtain ⟨r, hr, rfl⟩ := List.mem_map.mp hx
      have := (hS.hears.2 r hr).1
      exact ⟨r.map nv, rfl, by rw [List.length_map, this]; exact hR.f.1, by rw [List.length_map, this]; exact hR.f.2⟩)
    (fun _ x hx => by
      obtain ⟨r, hr, rfl⟩ := List.mem_map.mp hx
      have := (hS.gives.2 r hr).1
      exact ⟨r.map optV, rfl, by rw [List.length_map, this]; exact hR.f.1, by rw [List.length_map, this]; exact hR.f.2⟩)
  refine w.mono fun t s' ⟨j, at_, y, X, hX, hat, hB, ht, hP, hF⟩ => ?_
  have L1 : ∀ o, (R.R.sends.set at_ o).length = R.R.sends.length := fun o => List.length_set
  match j, hX, hB, ht with
  | 0, hX, hB, ht =>
    cases hX
    obtain ⟨o, rfl, ho⟩ := hB
    rw [set_map] at ht
    refine ⟨{ R.R with sends := R.R.sends.set at_ o }, ht, ⟨?_, ?_, ?_, ?_, ?_, ?_⟩, hP, hF⟩ <;> simp only [L1]
    · exact hS.len
    · intro x hx
      rcases mem_set hx with hx | hx
      · exact hS.sends x hx
      · exact ho x hx.symm
    · exact hS.ticks
    · exact hS.hears
    · exact hS.gives
    · exact hS.crashes
  | 1, hX, hB, ht =>
    cases hX
    obtain ⟨k, rfl, hk⟩ := hB
    rw [set_map] at ht
    refine ⟨{ R.R with ticks := R.R.ticks.set at_ k }, ht, ⟨hS.len, hS.sends, ⟨by simp [hS.ticks.1], fun x hx => ?_⟩, hS.hears, hS.gives, hS.crashes⟩, hP, hF⟩
    rcases mem_set hx with hx | hx
    · exact hS.ticks.2 x hx
    · subst hx; exact hk
  | 2, hX, hB, ht =>
    cases hX
    obtain ⟨l, i, x, hl, hi, rfl, hx⟩ := hB
    rw [List.getElem?_map] at hl
    cases e : R.R.hears[at_]? with
    | none => rw [e] at hl; cases hl
    | some r =>
      rw [e] at hl
      cases hl
      have hr := hS.hears.2 r (List.mem_of_getElem? e)
      rw [set_map, show Val.tup ((r.set i x).map nv) = (fun r => rowV r) (r.set i x) from rfl, set_map] at ht
      refine ⟨{ R.R with hears := R.R.hears.set at_ (r.set i x) }, ht, ⟨hS.len, hS.sends, hS.ticks, ⟨by simp [hS.hears.1], fun r' hr' => ?_⟩, hS.gives, hS.crashes⟩, hP, hF⟩
      rcases mem_set hr' with h' | h'
      · exact hS.hears.2 r' h'
      · subst h'
        refine ⟨by rw [List.length_set]; exact hr.1, fun z hz => ?_⟩
        rcases mem_set hz with h' | h'
        · exact hr.2 z h'
        · subst h'; exact hx
  | 3, hX, hB, ht =>
    cases hX
    obtain ⟨l, i, o, hl, hi, rfl, ho⟩ := (show ∃ (l : List Val) (i : Nat) (o : Option Nat), (R.R.gives.map fun r => lettersV r)[at_]? = some (.tup l) ∧ i < l.length ∧ y = .tup (l.set i (optV o)) ∧ ∀ x, o = some x → x < R.v from hB)
    rw [List.getElem?_map] at hl
    cases e : R.R.gives[at_]? with
    | none => rw [e] at hl; cases hl
    | some r =>
      rw [e] at hl
      cases hl
      have hr := hS.gives.2 r (List.mem_of_getElem? e)
      rw [set_map, show Val.tup ((r.set i o).map optV) = (fun r => lettersV r) (r.set i o) from rfl, set_map] at ht
      refine ⟨{ R.R with gives := R.R.gives.set at_ (r.set i o) }, ht, ⟨hS.len, hS.sends, hS.ticks, hS.hears, ⟨by simp [hS.gives.1], fun r' hr' => ?_⟩, hS.crashes⟩, hP, hF⟩
      rcases mem_set hr' with h' | h'
      · exact hS.gives.2 r' h'
      · subst h'
        refine ⟨by rw [List.length_set]; exact hr.1, fun z hz => ?_⟩
        rcases mem_set hz with h' | h'
        · exact hr.2 z h'
        · exact ho z h'.symm
  | 4, hX, hB, ht =>
    cases hX
    obtain ⟨k, rfl, hk⟩ := hB
    rw [set_map] at ht
    refine ⟨{ R.R with crashes := R.R.crashes.set at_ k }, ht, ⟨hS.len, hS.sends, hS.ticks, hS.hears, hS.gives, ⟨by simp [hS.crashes.1], fun x hx => ?_⟩⟩, hP, hF⟩
    rcases mem_set hx with hx | hx
    · exact hS.crashes.2 x hx
    · subst hx; exact hk
  | j + 5, hX, _, _ => simp at hX
end L_k01
end
section
set_option Elab.async false
set_option linter.all false
set_option maxRecDepth 100000
set_option maxHeartbeats 4000000
/-! W01f: == of tables, programs, pairs. -/
namespace L_k01
open VI
def optD : Option Nat → Dt
  | none => .non
  | some n => .int (n : Int)
def rowD (l : List Nat) : Dt := .tup (l.map fun i : Nat => Dt.int (i : Int))
def letD (l : List (Option Nat)) : Dt := .tup (l.map optD)
def tabD (l : List (List Nat)) : Dt := .tup (l.map rowD)
def takeD : Option (List Nat) → Dt
  | none => .non
  | some r => rowD r
def takesD (l : List (Option (List Nat))) : Dt := .tup (l.map takeD)
def givesD (l : List (List (Option Nat))) : Dt := .tup (l.map letD)
theorem mapO_map {α : Type} (f : α → Val) (g : α → Dt) {s : Store} {n : Nat} (h : ∀ x, toD s n (f x) = some (g x)) : ∀ l : List α, mapO (toD s n) (l.map f) = some (l.map g)
  | [] => rfl
  | x :: l => by
    rw [List.map_cons, List.map_cons]
    unfold mapO
    rw [h x, mapO_map f g h l]
theorem toD_map {α : Type} (f : α → Val) (g : α → Dt) {s : Store} {n : Nat} (h : ∀ x, toD s n (f x) = some (g x)) (l : List α) : toD s (n + 1) (.tup (l.map f)) = some (.tup (l.map g)) := by
  show (mapO (toD s n) (l.map f)).map Dt.tup = _
  rw [mapO_map f g h l]
  rfl
theorem d_opt (s : Store) (n : Nat) (o : Option Nat) : toD s n (optV o) = some (optD o) := by
  cases o with
  | none => exact toD_non n
  | some i => exact toD_int n _
theorem d_row (s : Store) (n : Nat) (l : List Nat) : toD s (n + 1) (rowV l) = some (rowD l) := toD_map nv _ (fun x => toD_int n _) l
theorem d_let (s : Store) (n : Nat) (l : List (Option Nat)) : toD s (n + 1) (lettersV l) = some (letD l) := toD_map optV _ (d_opt s n) l
theorem d_tab (s : Store) (n : Nat) (l : List (List Nat)) : toD s (n + 2) (tabV l) = some (tabD l) := toD_map _ _ (d_row s n) l
theorem d_take (s : Store) (n : Nat) (o : Option (List Nat)) : toD s (n + 1) (takeV o) = some (takeD o) := by
  cases o with
  | none => exact toD_non _
  | some i => exact d_row s n i
theorem d_takes (s : Store) (n : Nat) (l : List (Option (List Nat))) : toD s (n + 2) (takesV l) = some (takesD l) := toD_map _ _ (d_take s n) l
theorem d_gives (s : Store) (n : Nat) (l : List (List (Option Nat))) : toD s (n + 2) (givesV l) = some (givesD l) := toD_map _ _ (d_let s n) l
def szD (R : Raw) : List Dt := [.int (R.v : Int), .int (R.f : Int), .int (R.b : Int)]
def dS (S : Snd) : List Dt := [letD S.sends, rowD S.ticks, tabD S.hears, takesD S.takes, rowD S.crashes]
def dR (S : Rcv) : List Dt := [letD S.sends, rowD S.ticks, tabD S.hears, givesD S.gives, rowD S.crashes]
theorem toD_t {s : Store} {n : Nat} {l : List Val} {ds : List Dt} (h : mapO (toD s n) l = some ds) : toD s (n + 1) (.tup l) = some (.tup ds) := by
  show (mapO (toD s n) l).map Dt.tup = _
  rw [h]; rfl
theorem d_snd (s : Store) (n : Nat) (S : Snd) : toD s (n + 3) (sndV S) = some (.tup (dS S)) := toD_t (by
  simp only [mapO, d_let s (n + 1), d_row s (n + 1), d_tab s n, d_takes s n]; rfl)
theorem d_rcv (s : Store) (n : Nat) (S : Rcv) : toD s (n + 3) (rcvV S) = some (.tup (dR S)) := toD_t (by
  simp only [mapO, d_let s (n + 1), d_row s (n + 1), d_tab s n, d_gives s n]; rfl)
theorem d_sz (s : Store) (n : Nat) (R : Raw) : toD s (n + 1) (.tup [nv R.v, nv R.f, nv R.b]) = some (.tup (szD R)) := toD_t (by
  simp only [mapO, toD_int]; rfl)
theorem d_sndT (s : Store) (n : Nat) (R : Raw) : toD s (n + 3) (sndT R) = some (.tup (szD R ++ dS R.S)) := toD_t (by
  simp only [mapO, toD_int, d_let s (n + 1), d_row s (n + 1), d_tab s n, d_takes s n]; rfl)
theorem d_rcvT (s : Store) (n : Nat) (R : Raw) : toD s (n + 3) (rcvT R) = some (.tup (szD R ++ dR R.R)) := toD_t (by
  simp only [mapO, toD_int, d_let s (n + 1), d_row s (n + 1), d_tab s n, d_gives s n]; rfl)
theorem d_told (s : Store) (n : Nat) (R : Raw) : toD s (n + 4) (.tup [.tup [nv R.v, nv R.f, nv R.b], sndV R.S]) = some (.tup [.tup (szD R), .tup (dS R.S)]) := toD_t (by
  simp only [mapO, d_sz s (n + 2), d_snd s n])
theorem d_toldR (s : Store) (n : Nat) (R : Raw) : toD s (n + 4) (.tup [.tup [nv R.v, nv R.f, nv R.b], rcvV R.R]) = some (.tup [.tup (szD R), .tup (dR R.R)]) := toD_t (by
  simp only [mapO, d_sz s (n + 2), d_rcv s n])
theorem d_raw (s : Store) (n : Nat) (R : Raw) : toD s (n + 4) R.val = some (.tup [.tup (szD R), .tup (dS R.S), .tup (dR R.R)]) := toD_t (by
  simp only [mapO, d_sz s (n + 2), d_snd s n, d_rcv s n])
theorem eqT_of {x y : Val} {d e : Dt} {s : Store} (hx : toD s DEEP x = some d) (hy : toD s DEEP y = some e) : eqT (.v x) (.v y) s = some (Dt.eqv d e) := by
  unfold eqT tvD
  simp only [hx, hy]
/-- == of the tables of two of the same sizes -/
def eqS (R R' : Raw) : Bool := Dt.eqvAll (dS R.S) (dS R'.S)
def eqR (R R' : Raw) : Bool := Dt.eqvAll (dR R.R) (dR R'.R)
structure Same (R R' : Raw) : Prop where
  v : R.v = R'.v
  f : R.f = R'.f
  b : R.b = R'.b
theorem Same.refl (R : Raw) : Same R R := ⟨rfl, rfl, rfl⟩
theorem Same.symm {R R' : Raw} (h : Same R R') : Same R' R := ⟨h.v.symm, h.f.symm, h.b.symm⟩
theorem sz_eq {R R' : Raw} (h : Same R R') (a b : List Dt) : Dt.eqvAll (szD R ++ a) (szD R' ++ b) = Dt.eqvAll a b := by
  unfold szD
  rw [h.v, h.f, h.b]
  simp [Dt.eqvAll, Dt.eqv]
theorem eqT_snd (R R' : Raw) (s : Store) : eqT (.v (sndV R.S)) (.v (sndV R'.S)) s = some (eqS R R') := by
  rw [eqT_of (d_snd s 17 R.S) (d_snd s 17 R'.S)]
  simp only [Dt.eqv]; rfl
theorem eqT_rcv (R R' : Raw) (s : Store) : eqT (.v (rcvV R.R)) (.v (rcvV R'.R)) s = some (eqR R R') := by
  rw [eqT_of (d_rcv s 17 R.R) (d_rcv s 17 R'.R)]
  simp only [Dt.eqv]; rfl
theorem eqT_sndT {R R' : Raw} (h : Same R R') (s : Store) : eqT (.v (sndT R)) (.v (sndT R')) s = some (eqS R R') := by
  rw [eqT_of (d_sndT s 17 R) (d_sndT s 17 R')]
  simp only [Dt.eqv, sz_eq h]; rfl
theorem eqT_rcvT {R R' : Raw} (h : Same R R') (s : Store) : eqT (.v (rcvT R)) (.v (rcvT R')) s = some (eqR R R') := by
  rw [eqT_of (d_rcvT s 17 R) (d_rcvT s 17 R')]
  simp only [Dt.eqv, sz_eq h]; rfl
theorem eqT_raw {R R' : Raw} (h : Same R R') (s : Store) : eqT (.v R.val) (.v R'.val) s = some (eqS R R' && eqR R R') := by
  rw [eqT_of (d_raw s 16 R) (d_raw s 16 R')]
  simp only [Dt.eqv, Dt.eqvAll, Bool.and_true]
  have := sz_eq h [] []
  rw [List.append_nil, List.append_nil] at this
  rw [this]
  simp [Dt.eqvAll, eqS, eqR]
theorem eqT_told (R : Raw) (s : Store) : eqT (.v (.tup [.tup [nv R.v, nv R.f, nv R.b], sndV R.S])) (.v (.tup [.tup [nv R.v, nv R.f, nv R.b], sndV R.S])) s = some true := by
  rw [eqT_of (d_told s 16 R) (d_told s 16 R), eqv_refl]
theorem eqT_toldR (R : Raw) (s : Store) : eqT (.v (.tup [.tup [nv R.v, nv R.f, nv R.b], rcvV R.R])) (.v (.tup [.tup [nv R.v, nv R.f, nv R.b], rcvV R.R])) s = some true := by
  rw [eqT_of (d_toldR s 16 R) (d_toldR s 16 R), eqv_refl]
theorem eqS_refl (R : Raw) : eqS R R = true := eqvAll_refl _
theorem eqR_refl (R : Raw) : eqR R R = true := eqvAll_refl _
/-! ### programs and pairs -/
def SA (R : Raw) (i : Nat) (s : Store) : Prop := s[i]? = some (.ins 0 (sndF R))
def RA (R : Raw) (i : Nat) (s : Store) : Prop := s[i]? = some (.ins 1 (rcvF R))
theorem isIns_at {z c : Nat} {fs : List (Nat × Val)} {s : Store} (e : s[z]? = some (.ins c fs)) : isIns (.v (.ref z)) c s = some (.ref z) := by simp [isIns, e]
theorem eqF_S {R R' : Raw} {i j : Nat} {s : Store} (h : Same R R') (hi : SA R i s) (hj : SA R' j s) : F_Sender___eq__ [.ref i, .ref j] s = .ok (.v (.bool (eqS R R'))) s := by
  apply eq_of_wp
  rw [F_Sender___eq__, wp_fn2]
  simp [B_Sender___eq__, isTy_ins _ hj, insB, isCls_at hi (m := 83) rfl, isCls_at hj (m := 83) rfl, snd_tables hi, snd_tables hj, -cEq_r]
  simp only [cEq_r, eqT_sndT h, ans_s]
  simp
theorem eqF_R {R R' : Raw} {i j : Nat} {s : Store} (h : Same R R') (hi : RA R i s) (hj : RA R' j s) : F_Receiver___eq__ [.ref i, .ref j] s = .ok (.v (.bool (eqR R R'))) s := by
  apply eq_of_wp
  rw [F_Receiver___eq__, wp_fn2]
  simp [B_Receiver___eq__, isTy_ins _ hj, insB, isCls_at hi (m := 83) rfl, isCls_at hj (m := 83) rfl, rcv_tables hi, rcv_tables hj, -cEq_r]
  simp only [cEq_r, eqT_rcvT h, ans_s]
  simp
theorem eqF_P {Ra Rb Rc Rd : Raw} {k k' i j i' j' : Nat} {s : Store} (hk : s[k]? = some (.ins 2 [(77, .ref i), (72, .ref j)])) (hk' : s[k']? = some (.ins 2 [(77, .ref i'), (72, .ref j')])) (hS : Same Ra Rc) (hR : Same Rb Rd) (hi : SA Ra i s) (hj : RA Rb j s) (hi' : SA Rc i' s) (hj' : RA Rd j' s) :
    F_Pair___eq__ [.ref k, .ref k'] s = .ok (.v (.bool (eqS Ra Rc && eqR Rb Rd))) s := by
  have f : fldOf [2] (.v (.ref k)) 77 s = some (.ref i) := fldOf_at hk rfl
  have g : fldOf [2] (.v (.ref k)) 72 s = some (.ref j) := fldOf_at hk rfl
  have f' : fldOf [2] (.v (.ref k')) 77 s = some (.ref i') := fldOf_at hk' rfl
  have g' : fldOf [2] (.v (.ref k')) 72 s = some (.ref j') := fldOf_at hk' rfl
  have cS : cEqI 0 F_Sender___eq__ (.v (.ref i)) (.v (.ref i')) s = .ok (.v (.bool (eqS Ra Rc))) s := by
    simp [cEqI, isIns_at hi, isIns_at hi', eqF_S hS hi hi']
  have cR : cEqI 1 F_Receiver___eq__ (.v (.ref j)) (.v (.ref j')) s = .ok (.v (.bool (eqR Rb Rd))) s := by
    simp [cEqI, isIns_at hj, isIns_at hj', eqF_R hR hj hj']
  apply eq_of_wp
  rw [F_Pair___eq__, wp_fn2]
  simp [B_Pair___eq__, isTy_ins _ hk', insB, f, g, f', g', cS, cR]
  cases eqS Ra Rc <;> simp
/-- no one of them -/
theorem noF_S {x y : Val} {s : Store} (h : isTy [0, 1, 2] (.cls 0) (.v y) s = some false) : F_Sender___eq__ [x, y] s = .ok (.v (.bool false)) s := by
  apply eq_of_wp
  rw [F_Sender___eq__, wp_fn2]
  simp [B_Sender___eq__, h]
theorem noF_R {x y : Val} {s : Store} (h : isTy [0, 1, 2] (.cls 1) (.v y) s = some false) : F_Receiver___eq__ [x, y] s = .ok (.v (.bool false)) s := by
  apply eq_of_wp
  rw [F_Receiver___eq__, wp_fn2]
  simp [B_Receiver___eq__, h]
theorem noF_P {x y : Val} {s : Store} (h : isTy [0, 1, 2] (.cls 2) (.v y) s = some false) : F_Pair___eq__ [x, y] s = .ok (.v (.bool false)) s := by
  apply eq_of_wp
  rw [F_Pair___eq__, wp_fn2]
  simp [B_Pair___eq__, h]
theorem own0 {i : Nat} {fs : List (Nat × Val)} {s : Store} (h : s[i]? = some (.ins 0 fs)) : ownF TB (.ref i) s = some F_Sender___eq__ := by simp [ownF, h, TB, tblF]
theorem own1 {i : Nat} {fs : List (Nat × Val)} {s : Store} (h : s[i]? = some (.ins 1 fs)) : ownF TB (.ref i) s = some F_Receiver___eq__ := by simp [ownF, h, TB, tblF]
theorem own2 {i : Nat} {fs : List (Nat × Val)} {s : Store} (h : s[i]? = some (.ins 2 fs)) : ownF TB (.ref i) s = some F_Pair___eq__ := by simp [ownF, h, TB, tblF]
theorem eqU_l {x y : Val} {F : Fn} {s : Store} {b : Bool} (h : ownF TB x s = some F) (hy : anyR TB y s = true) (e : F [x, y] s = .ok (.v (.bool b)) s) : eqU TB x y s = .ok b s := by
  unfold eqU
  simp only [h, hy, if_true, asB, e, bind_ok]
theorem eqU_r {x y : Val} {F : Fn} {s : Store} {b : Bool} (hx : ownF TB x s = none) (h : ownF TB y s = some F) (hf : flatL x = true) (e : F [y, x] s = .ok (.v (.bool b)) s) : eqU TB x y s = .ok b s := by
  unfold eqU
  simp only [hx, h, hf, if_true, asB, e, bind_ok]
theorem anyR_own {y : Val} {F : Fn} {s : Store} (h : ownF TB y s = some F) : anyR TB y s = true := by
  unfold anyR
  cases y <;> simp [h]
theorem cEqW_r {x y : Val} {s : Store} {b : Bool} (h : eqU TB x y s = .ok b s) : cEqW TB (.v x) (.v y) s = .ok (.v (.bool b)) s := by
  unfold cEqW
  simp only [h, bind_ok]
end L_k01
end
section
set_option Elab.async false
set_option linter.all false
set_option maxRecDepth 100000
set_option maxHeartbeats 4000000
namespace L_k01
open VI
section
set_option Elab.async false
set_option linter.all false
set_option maxRecDepth 100000
set_option maxHeartbeats 4000000
/-- a list or a tuple of deeds -/
def Thing (th : Val) (s : Store) (xs : List Val) : Prop := th = .tup xs ∨ ∃ r, th = .ref r ∧ s[r]? = some (.lst xs)
theorem Thing.its {th : Val} {s : Store} {xs : List Val} (h : Thing th s xs) : ∃ f : Its, itsOf (.v th) s = some f ∧ ∀ l, f (s ++ l) = some xs := by
  rcases h with rfl | ⟨r, rfl, h⟩
  · exact ⟨_, rfl, fun _ => rfl⟩
  · have hl := (List.getElem?_eq_some_iff.mp h).1
    unfold itsOf
    simp only [h]
    exact ⟨_, rfl, fun l => by simp only [List.getElem?_append_left hl, h]⟩
theorem Thing.seq {th : Val} {s : Store} {xs : List Val} (h : Thing th s xs) : seqOf (.v th) s = some xs := by
  rcases h with rfl | ⟨r, rfl, h⟩
  · rfl
  · simp [seqOf, h]
theorem Thing.ty {th : Val} {s : Store} {xs : List Val} (h : Thing th s xs) : isTy [0, 1, 2] .lot (.v th) s = some true := by
  rcases h with rfl | ⟨r, rfl, h⟩
  · rfl
  · simp [isTy, h]
end
section
set_option Elab.async false
set_option linter.all false
set_option maxRecDepth 100000
set_option maxHeartbeats 4000000
theorem Thing.app {th : Val} {s : Store} {xs : List Val} (h : Thing th s xs) (l : List Ob) : Thing th (s ++ l) xs := by
  rcases h with rfl | ⟨r, rfl, h⟩
  · exact .inl rfl
  · exact .inr ⟨r, rfl, by rw [List.getElem?_append_left (List.getElem?_eq_some_iff.mp h).1]; exact h⟩
end
end L_k01
end
section
set_option Elab.async false
set_option linter.all false
set_option maxRecDepth 100000
set_option maxHeartbeats 4000000
namespace L_k01
open VI
section
set_option Elab.async false
set_option linter.all false
set_option maxRecDepth 100000
set_option maxHeartbeats 4000000
section
variable {α β : Type} {r : Res α} {Q Q' : α → Store → Prop} {X X' : Nat → List Val → Store → Prop}
end
section
variable {a b : Sx} {ρ : Env} {s : Store} {Q : Fl × Env → Store → Prop} {X : Nat → List Val → Store → Prop}
end
theorem its_thing {th : Val} {s : Store} {xs : List Val} (ht : Thing th s xs) : ∃ f : Its, itsOf (.v th) s = some f ∧ f s = some xs := by
  obtain ⟨f, hf, hfs⟩ := ht.its
  exact ⟨f, hf, by simpa using hfs []⟩
section
variable {L : Val → Store → Res Tv} {nm st th : Val} {xs : List Val} {s : Store}
theorem chk_head (ht : Thing th s xs) (h0 : xs ≠ []) (hst : st = .non ∨ st = nv xs.length) (l e1 e2 : Option Val) : (tOr (VI.tNot (tB (eB1 (bIs [0, 1, 2] .lot) (eV 1)))) (tOr (tB (eBin cEq (eB1 bLen (eV 1)) (eC (.int 0)))) (tAnd (tB (eBin cNotN (eV 2) (eC .non))) (tB (eBin cNe (eB1 bLen (eV 1)) (eV 2)))))) [some nm, some th, some st, l, e1, e2] s = .ok false s := by
  have hl : ¬ (xs.length : Int) = 0 := by
    cases xs with
    | nil => exact absurd rfl h0
    | cons x xs => simp; omega
  rcases hst with rfl | rfl <;> simp [ht.ty, ht.seq, hl, h0]
theorem checked_all (ht : Thing th s xs) (h0 : xs ≠ []) (hst : st = .non ∨ st = nv xs.length) (hg : ∀ x ∈ xs, L x s = .ok (.v (.bool true)) s) : F_checked L [nm, th, st] s = .ok (.v (.tup xs)) s := by
  obtain ⟨f, hf, hf0⟩ := its_thing ht
  have e := chk_head (nm := nm) ht h0 hst none none none
  apply eq_of_wp
  unfold F_checked
  rw [wp_fn3]
  unfold B_checked
  refine seq_step ?_
  simp only [Nat.reduceSub, List.replicate]
  rw [sIf_r, e]
  simp only [bind_ok, Bool.false_eq_true, if_false, sNop_r, wp_ok]
  refine seq_step (Wp.mono (wp_for (its := fun s => (f s).map fun xs => numbered xs 0) (xs := numbered xs 0) (s1 := s) (by simp [hf])
    (fun i ρ s1 => s1 = s ∧ ∃ a b, ρ = [some nm, some th, some st, none, a, b]) (fun i ρ s1 ⟨e, _⟩ => by subst e; rw [hf0]; rfl) ⟨rfl, none, none, rfl⟩ (fun i x ρ s1 hx' ⟨e, a, b, e2⟩ => ?_) (Q := fun r s1 => s1 = s ∧ ∃ a b, r = (.next, [some nm, some th, some st, none, a, b])) fun ρ s1 ⟨e, a, b, e2⟩ => ⟨e, a, b, by rw [e2]⟩) fun r s1 ⟨e, a, b, e2⟩ => ?_)
  · subst e e2
    rw [num_at] at hx'
    obtain ⟨y, hy, rfl⟩ := Option.map_eq_some_iff.mp hx'
    simp [eLamC, hg y (List.mem_of_getElem? hy)]
  · subst e e2
    simp [ht.seq]
end
end
end L_k01
end
section
set_option Elab.async false
set_option linter.all false
set_option maxRecDepth 100000
set_option maxHeartbeats 4000000
/-! W01i: programs made of lists. -/
namespace L_k01
open VI
theorem sendsL {l : List (Option Nat)} {m : Nat} {th : Val} {s : Store} (ht : Thing th s (l.map optV)) (h0 : l ≠ []) (h : ∀ x, some x ∈ l → x < m) : F_checked_sends [th, nv m] s = .ok (.v (lettersV l)) s := by
  apply eq_of_wp
  rw [F_checked_sends, wp_fn2]
  unfold B_checked_sends
  rw [sRet_r, wp_bind, eCallL_r (is := [(m : Int)]) rfl]
  simp only [aCons_r, eC_r, eV_r, aNil_r, bind_ok, mat_v, List.getElem?_cons_zero]
  rw [checked_all ht (by simpa using h0) (.inl rfl) fun x hx => ?_]
  · simp
  · obtain ⟨o, ho, rfl⟩ := List.mem_map.mp hx
    cases o with
    | none => simp [optV]
    | some i => simp [optV, is_below_nv (h i ho)]
theorem statesL {l : List Nat} {m : Nat} {nm th : Val} {s : Store} (ht : Thing th s (l.map nv)) (h0 : l ≠ []) (hm : l.length = m) (h : ∀ x ∈ l, x < m) : F_checked_states [nm, th, nv m] s = .ok (.v (rowV l)) s := by
  apply eq_of_wp
  rw [F_checked_states, wp_fn3]
  unfold B_checked_states
  rw [sRet_r, wp_bind, eCallL_r (is := [(m : Int)]) rfl]
  simp only [aCons_r, eC_r, eV_r, aNil_r, bind_ok, mat_v, List.getElem?_cons_zero, List.getElem?_cons_succ]
  rw [checked_all ht (by simpa using h0) (.inr (by simp [hm])) fun x hx => ?_]
  · simp
  · obtain ⟨i, hi, rfl⟩ := List.mem_map.mp hx
    simp [is_below_nv (h i hi)]
theorem hearsL {l : List (List Nat)} {w m : Nat} {th : Val} {s : Store} (ht : Thing th s (l.map fun r => rowV r)) (h0 : l ≠ []) (hm : l.length = m) (hw : w ≤ 1000) (h : ∀ r ∈ l, r.length = w ∧ ∀ x ∈ r, x < m) : F_checked_hears [th, nv w, nv m] s = .ok (.v (tabV l)) s := by
  apply eq_of_wp
  rw [F_checked_hears, wp_fn3]
  unfold B_checked_hears
  rw [sRet_r, wp_bind, eCallL_r (is := [(w : Int), (m : Int)]) rfl]
  simp only [aCons_r, eC_r, eV_r, aNil_r, bind_ok, mat_v, List.getElem?_cons_zero, List.getElem?_cons_succ]
  rw [checked_all ht (by simpa using h0) (.inr (by simp [hm])) fun x hx => ?_]
  · simp
  · obtain ⟨r, hr, rfl⟩ := List.mem_map.mp hx
    obtain ⟨h1, h2⟩ := h r hr
    subst h1
    simp only [eCall_r, aCons_r, eC_r, eV_r, aNil_r, bind_ok, mat_v, List.getElem?_cons_zero, List.getElem?_cons_succ, List.map_cons, List.map_nil]
    exact is_row_ok hw h2 _
theorem takesL {l : List (Option (List Nat))} {w m : Nat} {th : Val} {s : Store} (ht : Thing th s (l.map takeV)) (hm : l.length = m) (hw : w ≤ 1000) (h : ∀ r, some r ∈ l → r.length = w ∧ ∀ x ∈ r, x < m) (h1 : ∃ r t, l = some r :: t) : F_checked_takes [th, nv w, nv m] s = .ok (.v (takesV l)) s := by
  apply eq_of_wp
  rw [F_checked_takes, wp_fn3]
  unfold B_checked_takes
  have h0 : l ≠ [] := by obtain ⟨r, t, rfl⟩ := h1; simp
  have test : Wp ((tAnd (tB (eB1 (bIs [0, 1, 2] .lot) (eV 0))) (tAnd (tB (eBin cEq (eB1 bLen (eV 0)) (eV 2))) (tB (eBin cIsN (eBin oIdx (eV 0) (eC (.int 0))) (eC .non)))))
      (some th :: some (nv w) :: some (nv m) :: List.replicate (3 - 3) none) s) fun b s' => b = false ∧ s' = s := by
    have e1 := ht.ty
    have e2 := ht.seq
    obtain ⟨r, t, rfl⟩ := h1
    subst hm
    simp [e1, e2, takeV]
  rw [sSeq_r, wp_bind, sIf_r, wp_bind]
  refine test.mono fun b s' ⟨e1, e2⟩ => ?_
  subst e1 e2
  simp only [Bool.false_eq_true, if_false, sNop_r, wp_ok]
  rw [sRet_r, wp_bind, eCallL_r (is := [(w : Int), (m : Int)]) rfl]
  simp only [aCons_r, eC_r, eV_r, aNil_r, bind_ok, mat_v, List.getElem?_cons_zero, List.getElem?_cons_succ]
  rw [checked_all ht (by simpa using h0) (.inr (by simp [hm])) fun x hx => ?_]
  · simp
  · obtain ⟨o, ho, rfl⟩ := List.mem_map.mp hx
    cases o with
    | none => simp [takeV]
    | some r =>
      obtain ⟨h1, h2⟩ := h r ho
      subst h1
      simp [takeV]
      exact is_row_ok hw h2 _
theorem snd_initL {R : Raw} (h : RawOk R) {s : Store} {t1 t2 t3 t4 t5 : Val} (k1 : Thing t1 s (R.S.sends.map optV)) (k2 : Thing t2 s (R.S.ticks.map nv)) (k3 : Thing t3 s (R.S.hears.map fun r => rowV r)) (k4 : Thing t4 s (R.S.takes.map takeV)) (k5 : Thing t5 s (R.S.crashes.map nv)) :
    F_Sender___init__ [.ref s.length, nv R.v, nv R.f, nv R.b, t1, t2, t3, t4, t5] (s ++ [.ins 0 []]) = .ok (.v .non) (s ++ [.ins 0 (sndF R)]) := by
  have hS := h.S
  have n0 : R.S.sends ≠ [] := by intro e; have := hS.len.1; rw [e] at this; simp at this
  apply eq_of_wp
  rw [F_Sender___init__, wp_fnI (np := 9) rfl]
  unfold B_Sender___init__
  refine seq_step ((pos_loop h.v.1 h.f.1 h.b.1 rfl rfl rfl (by simp) (i := 0) (j := 0)).mono fun r s' ⟨e, x, e2⟩ => ?_)
  subst e e2
  simp only [List.map_cons, List.map_nil, List.cons_append, List.nil_append, List.set_cons_succ, List.set_cons_zero, Nat.reduceSub, List.replicate]
  refine seq_step (fld_step rfl rfl (by simp [putF]) (y := nv R.v) (by simp) ?_)
  refine seq_step (fld_step rfl rfl (by simp [putF]) (y := nv R.f) (by simp) ?_)
  refine seq_step (fld_step rfl rfl (by simp [putF]) (y := nv R.b) (by simp) ?_)
  refine seq_step (fld_step rfl rfl (by simp [putF]) (y := lettersV R.S.sends) (by simp [sendsL (k1.app _) n0 hS.sends]) ?_)
  refine seq_step ?_
  have hlk : fldOf [0, 1] (.v (.ref s.length)) 78 (s ++ [.ins 0 (putF 78 (lettersV R.S.sends) (putF 14 (nv R.b) (putF 28 (nv R.f) (putF 91 (nv R.v) []))))]) = some (lettersV R.S.sends) := by
    rw [fldOf_new _ _ _ _ _ rfl]; simp [putF, List.lookup]
  simp only [sAsg_r, eB1_r, eFld_r, eV_r, bind_ok, List.getElem?_cons_zero, hlk, bLen_r, seqOf_t, mat_v, gV_r, wp_ok, List.length_map, List.set_cons_succ, List.set_cons_zero]
  have nt : R.S.ticks ≠ [] := by intro e; have h1 := hS.ticks.1; have := hS.len.1; rw [e] at h1; simp at h1; omega
  have nh : R.S.hears ≠ [] := by intro e; have h1 := hS.hears.1; have := hS.len.1; rw [e] at h1; simp at h1; omega
  have nc : R.S.crashes ≠ [] := by intro e; have h1 := hS.crashes.1; have := hS.len.1; rw [e] at h1; simp at h1; omega
  refine seq_step (fld_step rfl rfl (by simp [putF]) (y := rowV R.S.ticks) (by simp [statesL (k2.app _) nt hS.ticks.1 hS.ticks.2]) ?_)
  refine seq_step (fld_step rfl rfl (by simp [putF]) (y := tabV R.S.hears) (by simp [hearsL (k3.app _) nh hS.hears.1 h.b.2 hS.hears.2]) ?_)
  refine seq_step (fld_step rfl rfl (by simp [putF]) (y := takesV R.S.takes) (by simp [takesL (k4.app _) hS.takes.1 h.v.2 hS.takes.2.1 hS.takes.2.2]) ?_)
  refine fld_step rfl rfl (by simp [putF]) (y := rowV R.S.crashes) (by simp [statesL (k5.app _) nc hS.crashes.1 hS.crashes.2]) ?_
  refine ⟨rfl, ?_⟩
  simp [putF]
theorem rcv_initL {R : Raw} (h : RawOk R) {s : Store} {t1 t2 t3 t4 t5 : Val} (k1 : Thing t1 s (R.R.sends.map optV)) (k2 : Thing t2 s (R.R.ticks.map nv)) (k3 : Thing t3 s (R.R.hears.map fun r => rowV r)) (k4 : Thing t4 s (R.R.gives.map fun r => lettersV r)) (k5 : Thing t5 s (R.R.crashes.map nv)) :
    F_Receiver___init__ [.ref s.length, nv R.v, nv R.f, nv R.b, t1, t2, t3, t4, t5] (s ++ [.ins 1 []]) = .ok (.v .non) (s ++ [.ins 1 (rcvF R)]) := by
  have hS := h.R
  have n0 : R.R.sends ≠ [] := by intro e; have := hS.len.1; rw [e] at this; simp at this
  apply eq_of_wp
  rw [F_Receiver___init__, wp_fnI (np := 9) rfl]
  unfold B_Receiver___init__
  refine seq_step ((pos_loop h.v.1 h.f.1 h.b.1 rfl rfl rfl (by simp) (i := 0) (j := 0)).mono fun r s' ⟨e, x, e2⟩ => ?_)
  subst e e2
  simp only [List.map_cons, List.map_nil, List.cons_append, List.nil_append, List.set_cons_succ, List.set_cons_zero, Nat.reduceSub, List.replicate]
  refine seq_step (fld_step rfl rfl (by simp [putF]) (y := nv R.v) (by simp) ?_)
  refine seq_step (fld_step rfl rfl (by simp [putF]) (y := nv R.f) (by simp) ?_)
  refine seq_step (fld_step rfl rfl (by simp [putF]) (y := nv R.b) (by simp) ?_)
  refine seq_step (fld_step rfl rfl (by simp [putF]) (y := lettersV R.R.sends) (by simp [sendsL (k1.app _) n0 hS.sends]) ?_)
  refine seq_step ?_
  have hlk : fldOf [0, 1] (.v (.ref s.length)) 78 (s ++ [.ins 1 (putF 78 (lettersV R.R.sends) (putF 14 (nv R.b) (putF 28 (nv R.f) (putF 91 (nv R.v) []))))]) = some (lettersV R.R.sends) := by
    rw [fldOf_new _ _ _ _ _ rfl]; simp [putF, List.lookup]
  simp only [sAsg_r, eB1_r, eFld_r, eV_r, bind_ok, List.getElem?_cons_zero, hlk, bLen_r, seqOf_t, mat_v, gV_r, wp_ok, List.length_map, List.set_cons_succ, List.set_cons_zero]
  have nt : R.R.ticks ≠ [] := by intro e; have h1 := hS.ticks.1; have := hS.len.1; rw [e] at h1; simp at h1; omega
  have nh : R.R.hears ≠ [] := by intro e; have h1 := hS.hears.1; have := hS.len.1; rw [e] at h1; simp at h1; omega
  have nc : R.R.crashes ≠ [] := by intro e; have h1 := hS.crashes.1; have := hS.len.1; rw [e] at h1; simp at h1; omega
  have ng : R.R.gives ≠ [] := by intro e; have h1 := hS.gives.1; have := hS.len.1; rw [e] at h1; simp at h1; omega
  refine seq_step (fld_step rfl rfl (by simp [putF]) (y := rowV R.R.ticks) (by simp [statesL (k2.app _) nt hS.ticks.1 hS.ticks.2]) ?_)
  refine seq_step (fld_step rfl rfl (by simp [putF]) (y := tabV R.R.hears) (by simp [hearsL (k3.app _) nh hS.hears.1 h.f.2 hS.hears.2]) ?_)
  refine seq_step (fld_step rfl rfl (by simp [putF]) (y := givesV R.R.gives) ?_ ?_)
  · rw [eCallL_r (is := [(R.f : Int), (R.v : Int)]) rfl]
    simp only [aCons_r, eC_r, eV_r, aNil_r, bind_ok, mat_v, List.getElem?_cons_zero, List.getElem?_cons_succ]
    rw [checked_all (k4.app _) (by simpa using ng) (.inr (by simp [hS.gives.1])) fun x hx => ?_]
    obtain ⟨r, hr, rfl⟩ := List.mem_map.mp hx
    obtain ⟨h1, h2⟩ := hS.gives.2 r hr
    simp only [eCall_r, aCons_r, eC_r, eV_r, aNil_r, bind_ok, mat_v, List.getElem?_cons_zero, List.getElem?_cons_succ, List.map_cons, List.map_nil]
    have := is_given_ok (l := r) (m := R.v) (by rw [h1]; exact h.f.2) h2
    rw [h1] at this
    exact this _
  refine fld_step rfl rfl (by simp [putF]) (y := rowV R.R.crashes) (by simp [statesL (k5.app _) nc hS.crashes.1 hS.crashes.2]) ?_
  refine ⟨rfl, ?_⟩
  simp [putF]
end L_k01
end
section
set_option Elab.async false
set_option linter.all false
set_option maxRecDepth 100000
set_option maxHeartbeats 4000000
/-! W01j: what is told of a program; lists that change behind the making. -/
namespace L_k01
open VI
theorem told_S {R : Raw} {i : Nat} {s : Store} (h : SA R i s) : F__law_told [.ref i] s = .ok (.v (.tup [.tup [nv R.v, nv R.f, nv R.b], sndV R.S])) s := by
  have f : ∀ cs k, cs.contains 0 = true → fldOf cs (.v (.ref i)) k s = (sndF R).lookup k := fun cs k hc => fldOf_at h hc
  apply eq_of_wp
  rw [F__law_told, wp_fn1]
  simp [B__law_told, isTy_ins _ h, insB, f, List.lookup]
theorem told_R {R : Raw} {i : Nat} {s : Store} (h : RA R i s) : F__law_told [.ref i] s = .ok (.v (.tup [.tup [nv R.v, nv R.f, nv R.b], rcvV R.R])) s := by
  have f : ∀ cs k, cs.contains 1 = true → fldOf cs (.v (.ref i)) k s = (rcvF R).lookup k := fun cs k hc => fldOf_at h hc
  apply eq_of_wp
  rw [F__law_told, wp_fn1]
  simp [B__law_told, isTy_ins _ h, insB, f, List.lookup]
theorem lists_ok {A : List (List Val)} {ρ : Env} {s : Store} (h1 : ρ[1]? = some (some (.tup (A.map Val.tup)))) (h5 : 5 < ρ.length) (hl : A.length ≤ 1000) :
    Wp (eComp (ixE (eV 1)) (gV 5) [5] tYes (eB1 bList (eV 5)) ρ s) fun t s1 => t = .l ((List.range A.length).map fun j => Val.ref (s.length + j)) ∧ s1 = s ++ A.map Ob.lst := by
  refine wp_comp (its := fun _ => some (A.map Val.tup)) (xs := A.map Val.tup) (s1 := s) (by rw [ixE_r]; simp only [eV_r, h1, bind_ok, itsOf]) (fun i acc s1 => acc = ((List.range i).map fun j => Val.ref (s.length + j)) ∧ s1 = s ++ (A.take i).map Ob.lst) (fun _ _ _ _ => rfl)
    ⟨rfl, by simp⟩ (fun i x acc s1 hx ⟨e1, e2⟩ => ?_) fun acc s1 ⟨e1, e2⟩ => ⟨by rw [e1, List.length_map], by rw [e2, List.length_map, List.take_length]⟩
  subst e1 e2
  rw [List.getElem?_map] at hx
  obtain ⟨a, ha, rfl⟩ := Option.map_eq_some_iff.mp hx
  have hi : i < A.length := (List.getElem?_eq_some_iff.mp ha).1
  simp only [gV_r, wp_ok, tYes]
  have l5 : (wipe ρ [5]).length = ρ.length := by simp [wipe]
  simp only [if_true, eB1_r, eV_r, List.getElem?_set_self (show 5 < (wipe ρ [5]).length by omega), bind_ok, bList_r, seqOf_t, wp_ok, mat_l]
  refine ⟨by simp; omega, ?_, ?_⟩
  · rw [List.range_succ, List.map_append]
    simp only [List.map_cons, List.map_nil, List.length_append, List.length_map, List.length_take]
    rw [Nat.min_eq_left (by omega)]
  · rw [List.append_assoc]
    congr 1
    rw [List.take_add_one, ha, List.map_append]
    rfl
theorem spoil_ok {q : Nat} {ps : List Nat} {ρ : Env} {s : Store} (h3 : ρ[3]? = some (some (.ref q))) (h5 : 5 < ρ.length) (hq : s[q]? = some (.lst (ps.map Val.ref))) (hl : ps.length ≤ 10) (hp : ∀ p ∈ ps, p ≠ q ∧ ∃ X, s[p]? = some (.lst X) ∧ X ≠ [] ∧ X.length ≤ 1000) :
    Wp (sFor (ixE (eV 3)) (gV 5) (sSeq (sSub (eV 5) (eC (.int 0)) (eC (.str 30))) (sExp (eAppend (eV 5) (eC .non)))) ρ s) fun r s' => (∃ v, r = (.next, ρ.set 5 v)) ∧ s'.length = s.length ∧ ∀ k, k ∉ ps → s'[k]? = s[k]? := by
  refine wp_for (its := fun s => match s[q]? with
      | some (.lst xs) => some xs
      | _ => none) (xs := ps.map Val.ref) (s1 := s) (by rw [ixE_r]; simp only [eV_r, h3, bind_ok, itsOf, hq] <;> rfl) (fun i ρ' s' => (∃ v, ρ' = ρ.set 5 v) ∧ s'.length = s.length ∧ (∀ k, k ∉ ps → s'[k]? = s[k]?) ∧ ∀ p ∈ ps, ∃ X, s'[p]? = some (.lst X) ∧ X ≠ [] ∧ X.length ≤ 1000 + i)
    (fun i ρ' s' ⟨_, _, h, _⟩ => ?_) ⟨⟨ρ[5], by simp⟩, rfl, fun _ _ => rfl, fun p h => (hp p h).2⟩ (fun i x ρ' s' hx ⟨⟨v, e⟩, h1, h2, h4⟩ => ?_) fun ρ' s' ⟨⟨v, e⟩, h1, h2, _⟩ => ⟨⟨v, by rw [e]⟩, h1, h2⟩
  · have : q ∉ ps := fun hm => (hp q hm).1 rfl
    simp only [h q this, hq]
  · subst e
    rw [List.getElem?_map] at hx
    obtain ⟨p, hpi, rfl⟩ := Option.map_eq_some_iff.mp hx
    have hm := List.mem_of_getElem? hpi
    have hi : i < ps.length := (List.getElem?_eq_some_iff.mp hpi).1
    obtain ⟨X, hX, hX0, hXl⟩ := h4 p hm
    have hlt : p < s'.length := (List.getElem?_eq_some_iff.mp hX).1
    have g5 : ((ρ.set 5 v).set 5 (some (.ref p)))[5]? = some (some (.ref p)) := List.getElem?_set_self (by simpa using h5)
    simp only [gV_r, wp_ok]
    refine seq_step ?_
    rw [sSub_r]
    have rf : refL (.v (.ref p)) s' = some (p, X) := by simp [refL, hX]
    have ix : ixN X.length 0 = some 0 := by
      have := List.length_pos_iff.mpr hX0
      unfold ixN
      rw [if_pos (by omega), if_pos (by omega)]
      rfl
    simp only [eC_r, bind_ok, mat_v, eV_r, g5, rf, ix, wp_ok, updL]
    have rf2 : refL (.v (.ref p)) (s'.set p (.lst (X.set 0 (.str 30)))) = some (p, X.set 0 (.str 30)) := by simp [refL, hlt]
    have lim : (X.set 0 (.str 30)).length < LIM := by rw [List.length_set, LIM_eq]; omega
    simp only [sExp_r, eAppend, eV_r, g5, bind_ok, rf2, Option.isSome_some, if_true, eC_r, mat_v, if_pos lim, updL, wp_ok]
    refine ⟨⟨some (.ref p), by simp⟩, by simp [h1], fun k hk => ?_, fun p' hp' => ?_⟩
    · have : p ≠ k := fun e => hk (e ▸ hm)
      rw [List.getElem?_set_ne this, List.getElem?_set_ne this, h2 k hk]
    · by_cases e : p' = p
      · subst e
        refine ⟨X.set 0 (.str 30) ++ [.non], by rw [List.set_set, List.getElem?_set_self hlt], by simp, by rw [List.length_append, List.length_set]; simp; omega⟩
      · obtain ⟨Y, hY, hY0, hYl⟩ := h4 p' hp'
        exact ⟨Y, by rw [List.getElem?_set_ne (Ne.symm e), List.getElem?_set_ne (Ne.symm e), hY], hY0, by omega⟩
end L_k01
end
section
set_option Elab.async false
set_option linter.all false
set_option maxRecDepth 100000
set_option maxHeartbeats 4000000
/-! W01k: _law_kept_right. -/
namespace L_k01
open VI
theorem kept_S {R : Raw} (hR : RawOk R) (s : Store) : Wp (F__law_kept_right [.tup [nv R.v, nv R.f, nv R.b], sndV R.S, .bool true] s) fun t s' => t = .v (.bool true) ∧ Ex s s' := by
  have hS := hR.S
  have ne : ∀ {α : Type} {l : List α} (g : α → Val), l.length = R.S.sends.length → l.map g ≠ [] ∧ (l.map g).length ≤ 1000 := fun {α l} g h => by
    have h1 := hS.len
    refine ⟨fun e => ?_, by rw [List.length_map]; omega⟩
    have := congrArg List.length e
    rw [List.length_map, List.length_nil] at this
    omega
  rw [F__law_kept_right, wp_fn3]
  unfold B__law_kept_right
  simp only [Nat.reduceSub, List.replicate]
  refine seq_step ?_
  rw [sAsg_r, wp_bind]
  refine (lists_ok (A := [R.S.sends.map optV, R.S.ticks.map nv, R.S.hears.map (fun r => rowV r), R.S.takes.map takeV, R.S.crashes.map nv]) rfl (by simp) (by simp)).mono fun t s1 ⟨e1, e2⟩ => ?_
  subst e1 e2
  have e3 : (List.range [R.S.sends.map optV, R.S.ticks.map nv, R.S.hears.map (fun r => rowV r), R.S.takes.map takeV, R.S.crashes.map nv].length).map (fun j => Val.ref (s.length + j)) = [s.length, s.length + 1, s.length + 2, s.length + 3, s.length + 4].map Val.ref := rfl
  rw [e3]
  simp only [mat_l, wp_ok, bind_ok, gV_r, List.set_cons_succ, List.set_cons_zero, List.map_cons, List.map_nil]
  have hlen : (s ++ [Ob.lst (R.S.sends.map optV), .lst (R.S.ticks.map nv), .lst (R.S.hears.map fun r => rowV r), .lst (R.S.takes.map takeV), .lst (R.S.crashes.map nv)]).length = s.length + 5 := by simp
  rw [hlen]
  have g0 : (s ++ [Ob.lst (R.S.sends.map optV), .lst (R.S.ticks.map nv), .lst (R.S.hears.map fun r => rowV r), .lst (R.S.takes.map takeV), .lst (R.S.crashes.map nv)] ++ [Ob.lst [.ref s.length, .ref (s.length + 1), .ref (s.length + 2), .ref (s.length + 3), .ref (s.length + 4)]])[s.length]? = some (.lst (R.S.sends.map optV)) := by simp
  have g1 : (s ++ [Ob.lst (R.S.sends.map optV), .lst (R.S.ticks.map nv), .lst (R.S.hears.map fun r => rowV r), .lst (R.S.takes.map takeV), .lst (R.S.crashes.map nv)] ++ [Ob.lst [.ref s.length, .ref (s.length + 1), .ref (s.length + 2), .ref (s.length + 3), .ref (s.length + 4)]])[s.length + 1]? = some (.lst (R.S.ticks.map nv)) := by simp
  have g2 : (s ++ [Ob.lst (R.S.sends.map optV), .lst (R.S.ticks.map nv), .lst (R.S.hears.map fun r => rowV r), .lst (R.S.takes.map takeV), .lst (R.S.crashes.map nv)] ++ [Ob.lst [.ref s.length, .ref (s.length + 1), .ref (s.length + 2), .ref (s.length + 3), .ref (s.length + 4)]])[s.length + 2]? = some (.lst (R.S.hears.map fun r => rowV r)) := by simp
  have g3 : (s ++ [Ob.lst (R.S.sends.map optV), .lst (R.S.ticks.map nv), .lst (R.S.hears.map fun r => rowV r), .lst (R.S.takes.map takeV), .lst (R.S.crashes.map nv)] ++ [Ob.lst [.ref s.length, .ref (s.length + 1), .ref (s.length + 2), .ref (s.length + 3), .ref (s.length + 4)]])[s.length + 3]? = some (.lst (R.S.takes.map takeV)) := by simp
  have g4 : (s ++ [Ob.lst (R.S.sends.map optV), .lst (R.S.ticks.map nv), .lst (R.S.hears.map fun r => rowV r), .lst (R.S.takes.map takeV), .lst (R.S.crashes.map nv)] ++ [Ob.lst [.ref s.length, .ref (s.length + 1), .ref (s.length + 2), .ref (s.length + 3), .ref (s.length + 4)]])[s.length + 4]? = some (.lst (R.S.crashes.map nv)) := by simp
  have gq : (s ++ [Ob.lst (R.S.sends.map optV), .lst (R.S.ticks.map nv), .lst (R.S.hears.map fun r => rowV r), .lst (R.S.takes.map takeV), .lst (R.S.crashes.map nv)] ++ [Ob.lst [.ref s.length, .ref (s.length + 1), .ref (s.length + 2), .ref (s.length + 3), .ref (s.length + 4)]])[s.length + 5]? = some (.lst [.ref s.length, .ref (s.length + 1), .ref (s.length + 2), .ref (s.length + 3), .ref (s.length + 4)]) := by simp
  have gl : (s ++ [Ob.lst (R.S.sends.map optV), .lst (R.S.ticks.map nv), .lst (R.S.hears.map fun r => rowV r), .lst (R.S.takes.map takeV), .lst (R.S.crashes.map nv)] ++ [Ob.lst [.ref s.length, .ref (s.length + 1), .ref (s.length + 2), .ref (s.length + 3), .ref (s.length + 4)]]).length = s.length + 6 := by simp
  have gx : Ex s (s ++ [Ob.lst (R.S.sends.map optV), .lst (R.S.ticks.map nv), .lst (R.S.hears.map fun r => rowV r), .lst (R.S.takes.map takeV), .lst (R.S.crashes.map nv)] ++ [Ob.lst [.ref s.length, .ref (s.length + 1), .ref (s.length + 2), .ref (s.length + 3), .ref (s.length + 4)]]) := by
    rw [List.append_assoc]; exact Ex.app _ _
  generalize s ++ [Ob.lst (R.S.sends.map optV), .lst (R.S.ticks.map nv), .lst (R.S.hears.map fun r => rowV r), .lst (R.S.takes.map takeV), .lst (R.S.crashes.map nv)] ++ [Ob.lst [.ref s.length, .ref (s.length + 1), .ref (s.length + 2), .ref (s.length + 3), .ref (s.length + 4)]] = s2 at g0 g1 g2 g3 g4 gq gl gx ⊢
  have sq : seqOf (.v (.ref (s.length + 5))) s2 = some [.ref s.length, .ref (s.length + 1), .ref (s.length + 2), .ref (s.length + 3), .ref (s.length + 4)] := by simp [seqOf, gq]
  have ini := snd_initL hR (s := s2) (.inr ⟨_, rfl, g0⟩) (.inr ⟨_, rfl, g1⟩) (.inr ⟨_, rfl, g2⟩) (.inr ⟨_, rfl, g3⟩) (.inr ⟨_, rfl, g4⟩)
  refine seq_step ?_
  simp only [sIf_r, tB_r, eV_r, List.getElem?_cons_zero, List.getElem?_cons_succ, bind_ok, if_true]
  rw [sAsg_r, eMkK_r]
  simp only [aNil_r, aCons_r, eBin_r, eV_r, eC_r, List.getElem?_cons_zero, List.getElem?_cons_succ, bind_ok, oIdx_r, sq, seqOf_t, atI_0, atI_1, atI_2, atI_3, atI_4, mat_v, pick, List.cons_append, List.nil_append, List.filterMap_cons, List.filterMap_nil, ini, gV_r, wp_ok, List.set_cons_succ, List.set_cons_zero]
  have h6 : SA R (s.length + 6) (s2 ++ [.ins 0 (sndF R)]) := by unfold SA; rw [← gl]; simp
  have e6 : Ex s2 (s2 ++ [.ins 0 (sndF R)]) := Ex.app _ _
  rw [gl]
  refine seq_step ((spoil_ok (q := s.length + 5) (ps := [s.length, s.length + 1, s.length + 2, s.length + 3, s.length + 4]) rfl (by simp) (e6.at gq) (by simp) (fun p hp => ?_)).mono fun r s4 ⟨⟨v5, e⟩, k1, k2⟩ => ?_)
  · simp only [List.mem_cons, List.mem_nil_iff, or_false] at hp
    rcases hp with rfl | rfl | rfl | rfl | rfl
    · exact ⟨by omega, _, e6.at g0, ne _ rfl⟩
    · exact ⟨by omega, _, e6.at g1, ne _ hS.ticks.1⟩
    · exact ⟨by omega, _, e6.at g2, ne _ hS.hears.1⟩
    · exact ⟨by omega, _, e6.at g3, ne _ hS.takes.1⟩
    · exact ⟨by omega, _, e6.at g4, ne _ hS.crashes.1⟩
  subst e
  simp only [List.set_cons_succ, List.set_cons_zero]
  have h4 : SA R (s.length + 6) s4 := by
    unfold SA
    rw [k2 _ (by simp)]; exact h6
  have x4 : Ex s s4 := by
    refine ⟨by rw [k1, List.length_append, gl]; omega, fun k hk => ?_⟩
    have hx := gx.trans e6
    rw [k2 k (by simp; omega)]
    exact hx.get k hk
  refine seq_step ?_
  rw [sAsg_r]
  simp only [eIf_r, tB_r, eV_r, eCall_r, aCons_r, aNil_r, List.getElem?_cons_zero, List.getElem?_cons_succ, bind_ok, mat_v, if_true, made_snd hR, gV_r, wp_ok, List.set_cons_succ, List.set_cons_zero]
  have h5 : SA R (s.length + 6) (s4 ++ [.ins 0 (sndF R)]) := (Ex.app s4 _).at h4
  have h7 : SA R s4.length (s4 ++ [.ins 0 (sndF R)]) := by unfold SA; simp
  have x5 : Ex s (s4 ++ [.ins 0 (sndF R)]) := x4.trans (Ex.app _ _)
  generalize s4 ++ [.ins 0 (sndF R)] = s5 at h5 h7 x5 ⊢
  have q1 : cEqW TB (.v (.ref (s.length + 6))) (.v (.ref s4.length)) s5 = .ok (.v (.bool true)) s5 := by
    have := cEqW_r (eqU_l (own0 h5) (anyR_own (own0 h7)) (eqF_S (Same.refl R) h5 h7))
    rw [eqS_refl] at this
    exact this
  simp only [sRet_r, eAnd_r, eBin_r, eCall_r, aCons_r, aNil_r, eV_r, eTup_r, List.getElem?_cons_zero, List.getElem?_cons_succ, bind_ok, mat_v, told_S h5, List.length_cons, List.length_nil, LIM_eq, Nat.reduceAdd, Nat.reduceLeDiff, if_true, cEq_r, eqT_told, ans_s, q1, wp_ok, FinQ_r]
  exact ⟨trivial, x5⟩
theorem kept_R {R : Raw} (hR : RawOk R) (s : Store) : Wp (F__law_kept_right [.tup [nv R.v, nv R.f, nv R.b], rcvV R.R, .bool false] s) fun t s' => t = .v (.bool true) ∧ Ex s s' := by
  have hS := hR.R
  have ne : ∀ {α : Type} {l : List α} (g : α → Val), l.length = R.R.sends.length → l.map g ≠ [] ∧ (l.map g).length ≤ 1000 := fun {α l} g h => by
    have h1 := hS.len
    refine ⟨fun e => ?_, by rw [List.length_map]; omega⟩
    have := congrArg List.length e
    rw [List.length_map, List.length_nil] at this
    omega
  rw [F__law_kept_right, wp_fn3]
  unfold B__law_kept_right
  simp only [Nat.reduceSub, List.replicate]
  refine seq_step ?_
  rw [sAsg_r, wp_bind]
  refine (lists_ok (A := [R.R.sends.map optV, R.R.ticks.map nv, R.R.hears.map (fun r => rowV r), R.R.gives.map (fun r => lettersV r), R.R.crashes.map nv]) rfl (by simp) (by simp)).mono fun t s1 ⟨e1, e2⟩ => ?_
  subst e1 e2
  have e3 : (List.range [R.R.sends.map optV, R.R.ticks.map nv, R.R.hears.map (fun r => rowV r), R.R.gives.map (fun r => lettersV r), R.R.crashes.map nv].length).map (fun j => Val.ref (s.length + j)) = [s.length, s.length + 1, s.length + 2, s.length + 3, s.length + 4].map Val.ref := rfl
  rw [e3]
  simp only [mat_l, wp_ok, bind_ok, gV_r, List.set_cons_succ, List.set_cons_zero, List.map_cons, List.map_nil]
  have hlen : (s ++ [Ob.lst (R.R.sends.map optV), .lst (R.R.ticks.map nv), .lst (R.R.hears.map fun r => rowV r), .lst (R.R.gives.map (fun r => lettersV r)), .lst (R.R.crashes.map nv)]).length = s.length + 5 := by simp
  rw [hlen]
  have g0 : (s ++ [Ob.lst (R.R.sends.map optV), .lst (R.R.ticks.map nv), .lst (R.R.hears.map fun r => rowV r), .lst (R.R.gives.map (fun r => lettersV r)), .lst (R.R.crashes.map nv)] ++ [Ob.lst [.ref s.length, .ref (s.length + 1), .ref (s.length + 2), .ref (s.length + 3), .ref (s.length + 4)]])[s.length]? = some (.lst (R.R.sends.map optV)) := by simp
  have g1 : (s ++ [Ob.lst (R.R.sends.map optV), .lst (R.R.ticks.map nv), .lst (R.R.hears.map fun r => rowV r), .lst (R.R.gives.map (fun r => lettersV r)), .lst (R.R.crashes.map nv)] ++ [Ob.lst [.ref s.length, .ref (s.length + 1), .ref (s.length + 2), .ref (s.length + 3), .ref (s.length + 4)]])[s.length + 1]? = some (.lst (R.R.ticks.map nv)) := by simp
  have g2 : (s ++ [Ob.lst (R.R.sends.map optV), .lst (R.R.ticks.map nv), .lst (R.R.hears.map fun r => rowV r), .lst (R.R.gives.map (fun r => lettersV r)), .lst (R.R.crashes.map nv)] ++ [Ob.lst [.ref s.length, .ref (s.length + 1), .ref (s.length + 2), .ref (s.length + 3), .ref (s.length + 4)]])[s.length + 2]? = some (.lst (R.R.hears.map fun r => rowV r)) := by simp
  have g3 : (s ++ [Ob.lst (R.R.sends.map optV), .lst (R.R.ticks.map nv), .lst (R.R.hears.map fun r => rowV r), .lst (R.R.gives.map (fun r => lettersV r)), .lst (R.R.crashes.map nv)] ++ [Ob.lst [.ref s.length, .ref (s.length + 1), .ref (s.length + 2), .ref (s.length + 3), .ref (s.length + 4)]])[s.length + 3]? = some (.lst (R.R.gives.map (fun r => lettersV r))) := by simp
  have g4 : (s ++ [Ob.lst (R.R.sends.map optV), .lst (R.R.ticks.map nv), .lst (R.R.hears.map fun r => rowV r), .lst (R.R.gives.map (fun r => lettersV r)), .lst (R.R.crashes.map nv)] ++ [Ob.lst [.ref s.length, .ref (s.length + 1), .ref (s.length + 2), .ref (s.length + 3), .ref (s.length + 4)]])[s.length + 4]? = some (.lst (R.R.crashes.map nv)) := by simp
  have gq : (s ++ [Ob.lst (R.R.sends.map optV), .lst (R.R.ticks.map nv), .lst (R.R.hears.map fun r => rowV r), .lst (R.R.gives.map (fun r => lettersV r)), .lst (R.R.crashes.map nv)] ++ [Ob.lst [.ref s.length, .ref (s.length + 1), .ref (s.length + 2), .ref (s.length + 3), .ref (s.length + 4)]])[s.length + 5]? = some (.lst [.ref s.length, .ref (s.length + 1), .ref (s.length + 2), .ref (s.length + 3), .ref (s.length + 4)]) := by simp
  have gl : (s ++ [Ob.lst (R.R.sends.map optV), .lst (R.R.ticks.map nv), .lst (R.R.hears.map fun r => rowV r), .lst (R.R.gives.map (fun r => lettersV r)), .lst (R.R.crashes.map nv)] ++ [Ob.lst [.ref s.length, .ref (s.length + 1), .ref (s.length + 2), .ref (s.length + 3), .ref (s.length + 4)]]).length = s.length + 6 := by simp
  have gx : Ex s (s ++ [Ob.lst (R.R.sends.map optV), .lst (R.R.ticks.map nv), .lst (R.R.hears.map fun r => rowV r), .lst (R.R.gives.map (fun r => lettersV r)), .lst (R.R.crashes.map nv)] ++ [Ob.lst [.ref s.length, .ref (s.length + 1), .ref (s.length + 2), .ref (s.length + 3), .ref (s.length + 4)]]) := by
    rw [List.append_assoc]; exact Ex.app _ _
  generalize s ++ [Ob.lst (R.R.sends.map optV), .lst (R.R.ticks.map nv), .lst (R.R.hears.map fun r => rowV r), .lst (R.R.gives.map (fun r => lettersV r)), .lst (R.R.crashes.map nv)] ++ [Ob.lst [.ref s.length, .ref (s.length + 1), .ref (s.length + 2), .ref (s.length + 3), .ref (s.length + 4)]] = s2 at g0 g1 g2 g3 g4 gq gl gx ⊢
  have sq : seqOf (.v (.ref (s.length + 5))) s2 = some [.ref s.length, .ref (s.length + 1), .ref (s.length + 2), .ref (s.length + 3), .ref (s.length + 4)] := by simp [seqOf, gq]
  have ini := rcv_initL hR (s := s2) (.inr ⟨_, rfl, g0⟩) (.inr ⟨_, rfl, g1⟩) (.inr ⟨_, rfl, g2⟩) (.inr ⟨_, rfl, g3⟩) (.inr ⟨_, rfl, g4⟩)
  refine seq_step ?_
  simp only [sIf_r, tB_r, eV_r, List.getElem?_cons_zero, List.getElem?_cons_succ, bind_ok, Bool.false_eq_true, if_false]
  rw [sAsg_r, eMkK_r]
  simp only [aNil_r, aCons_r, eBin_r, eV_r, eC_r, List.getElem?_cons_zero, List.getElem?_cons_succ, bind_ok, oIdx_r, sq, seqOf_t, atI_0, atI_1, atI_2, atI_3, atI_4, mat_v, pick, List.cons_append, List.nil_append, List.filterMap_cons, List.filterMap_nil, ini, gV_r, wp_ok, List.set_cons_succ, List.set_cons_zero]
  have h6 : RA R (s.length + 6) (s2 ++ [.ins 1 (rcvF R)]) := by unfold RA; rw [← gl]; simp
  have e6 : Ex s2 (s2 ++ [.ins 1 (rcvF R)]) := Ex.app _ _
  rw [gl]
  refine seq_step ((spoil_ok (q := s.length + 5) (ps := [s.length, s.length + 1, s.length + 2, s.length + 3, s.length + 4]) rfl (by simp) (e6.at gq) (by simp) (fun p hp => ?_)).mono fun r s4 ⟨⟨v5, e⟩, k1, k2⟩ => ?_)
  · simp only [List.mem_cons, List.mem_nil_iff, or_false] at hp
    rcases hp with rfl | rfl | rfl | rfl | rfl
    · exact ⟨by omega, _, e6.at g0, ne _ rfl⟩
    · exact ⟨by omega, _, e6.at g1, ne _ hS.ticks.1⟩
    · exact ⟨by omega, _, e6.at g2, ne _ hS.hears.1⟩
    · exact ⟨by omega, _, e6.at g3, ne _ hS.gives.1⟩
    · exact ⟨by omega, _, e6.at g4, ne _ hS.crashes.1⟩
  subst e
  simp only [List.set_cons_succ, List.set_cons_zero]
  have h4 : RA R (s.length + 6) s4 := by
    unfold RA
    rw [k2 _ (by simp)]; exact h6
  have x4 : Ex s s4 := by
    refine ⟨by rw [k1, List.length_append, gl]; omega, fun k hk => ?_⟩
    have hx := gx.trans e6
    rw [k2 k (by simp; omega)]
    exact hx.get k hk
  refine seq_step ?_
  rw [sAsg_r]
  simp only [eIf_r, tB_r, eV_r, eCall_r, aCons_r, aNil_r, List.getElem?_cons_zero, List.getElem?_cons_succ, bind_ok, mat_v, Bool.false_eq_true, if_false, made_rcv hR, gV_r, wp_ok, List.set_cons_succ, List.set_cons_zero]
  have h5 : RA R (s.length + 6) (s4 ++ [.ins 1 (rcvF R)]) := (Ex.app s4 _).at h4
  have h7 : RA R s4.length (s4 ++ [.ins 1 (rcvF R)]) := by unfold RA; simp
  have x5 : Ex s (s4 ++ [.ins 1 (rcvF R)]) := x4.trans (Ex.app _ _)
  generalize s4 ++ [.ins 1 (rcvF R)] = s5 at h5 h7 x5 ⊢
  have q1 : cEqW TB (.v (.ref (s.length + 6))) (.v (.ref s4.length)) s5 = .ok (.v (.bool true)) s5 := by
    have := cEqW_r (eqU_l (own1 h5) (anyR_own (own1 h7)) (eqF_R (Same.refl R) h5 h7))
    rw [eqR_refl] at this
    exact this
  simp only [sRet_r, eAnd_r, eBin_r, eCall_r, aCons_r, aNil_r, eV_r, eTup_r, List.getElem?_cons_zero, List.getElem?_cons_succ, bind_ok, mat_v, told_R h5, List.length_cons, List.length_nil, LIM_eq, Nat.reduceAdd, Nat.reduceLeDiff, if_true, cEq_r, eqT_toldR, ans_s, q1, wp_ok, FinQ_r]
  exact ⟨trivial, x5⟩
end L_k01
end
section
set_option Elab.async false
set_option linter.all false
set_option maxRecDepth 100000
set_option maxHeartbeats 4000000
namespace L_k01
open VI
section
set_option Elab.async false
set_option linter.all false
set_option maxRecDepth 100000
set_option maxHeartbeats 4000000
theorem keeps_ok {R : Raw} {k : Nat} {s : Store} (hp : PairAt R k s) (h : RawOk R) (b : Bool) : F_keeps_nothing [.ref k, .str (if b then 77 else 72)] s = .ok (.v (.bool ((if b then R.S.crashes else R.R.crashes).all fun x => decide (x = 0)))) s := by
  apply eq_of_wp
  rw [F_keeps_nothing, wp_fn2]
  have := forgets_ok hp ⟨Nat.le_trans h.S.len.2 (by decide), h.S.crashes.1⟩ ⟨Nat.le_trans h.R.len.2 (by decide), h.R.crashes.1⟩ b
  cases b with
  | true =>
    simp only [if_true] at this ⊢
    simp [B_keeps_nothing, req_ok hp, this, isTy, flat, flatEq]
  | false =>
    simp only [Bool.false_eq_true, if_false] at this ⊢
    simp [B_keeps_nothing, req_ok hp, this, isTy, flat, flatEq]
end
end L_k01
end
section
set_option Elab.async false
set_option linter.all false
set_option maxRecDepth 100000
set_option maxHeartbeats 4000000
/-! W01m: pieces of _law_right. -/
namespace L_k01
open VI
theorem Ex.fr {p : Nat} {s s' : Store} (h : Ex s s') : Fr p s s' := ⟨h.len, fun k hk _ => h.get k hk⟩
theorem at_fr {p n k c : Nat} {fs : List (Nat × Val)} {s s' : Store} (h : s[k]? = some (.ins c fs)) (hp : Pu p n s) (hf : Fr p s s') : s'[k]? = some (.ins c fs) := by
  have hk := (List.getElem?_eq_some_iff.mp h).1
  have : k ≠ p := fun e => by
    subst e
    obtain ⟨a, b, c, q, _⟩ := hp
    rw [h] at q; cases q
  rw [hf.2 k hk this]; exact h
@[simp] theorem eCallK2_r (F : Fn) (a b : Ev) (ρ : Env) (s : Store) : eCallK F [1, 0] aNil (aCons a (aCons b aNil)) ρ s = (a ρ s).bind fun t s => (mat t s).bind fun x s => (b ρ s).bind fun t s => (mat t s).bind fun y s => F [y, x] s := by
  simp only [eCallK, eCall_r, aPerm, aApp, aNil_r, aCons_r, bind_ok, List.nil_append]
  cases e : a ρ s with
  | ok t s1 =>
    simp only [bind_ok]
    cases e2 : mat t s1 with
    | ok x s2 =>
      simp only [bind_ok]
      cases e3 : b ρ s2 with
      | ok t s3 =>
        simp only [bind_ok]
        cases e4 : mat t s3 with
        | ok y s4 => simp [pick]
        | _ => rfl
      | _ => rfl
    | _ => rfl
  | _ => rfl
theorem fil_nil : ∀ l : List Nat, Dt.eqvAll ((l.filter fun x => !decide (x = 0)).map fun i : Nat => Dt.int (i : Int)) [] = l.all fun x => decide (x = 0)
  | [] => rfl
  | x :: l => by
    rw [List.all_cons, ← fil_nil l]
    by_cases x0 : x = 0
    · simp [x0]
    · simp [x0, Dt.eqvAll]
/-- the states from which a program falls elsewhere -/
theorem due_ok {l : List Nat} {T : List Val} {ρ : Env} {s : Store} (h4 : ρ[4]? = some (some (.tup T))) (hT : atI T 4 = some (rowV l)) (hl : l.length ≤ 1000) (h9 : 9 < ρ.length) :
    Wp (eBin cEq (eComp (ixE (eBin oIdx (eV 4) (eC (.int 4)))) (gV 9) [9] (tB (eBin cNe (eV 9) (eC (.int 0)))) (eV 9)) (eLst aNil) ρ s) fun t s' => t = .v (.bool (l.all fun x => decide (x = 0))) ∧ s' = s := by
  rw [eBin_r, wp_bind]
  refine Wp.mono (wp_comp (its := fun _ => some (l.map nv)) (xs := l.map nv) (s1 := s) (by rw [ixE_r]; simp only [eBin_r, eV_r, eC_r, h4, bind_ok, oIdx_r, seqOf_t, hT, itsOf]) (fun i acc s1 => acc = ((l.take i).filter fun x => !decide (x = 0)).map nv ∧ s1 = s) (fun _ _ _ _ => rfl)
    ⟨by simp, rfl⟩ (fun i x acc s1 hx ⟨e1, e2⟩ => ?_) (Q := fun t s1 => t = .l ((l.filter fun x => !decide (x = 0)).map nv) ∧ s1 = s) fun acc s1 ⟨e1, e2⟩ => ⟨by rw [e1, List.length_map, List.take_length], e2⟩) fun t s1 ⟨e1, e2⟩ => ?_
  · subst e1 e2
    rw [List.getElem?_map] at hx
    obtain ⟨a, ha, rfl⟩ := Option.map_eq_some_iff.mp hx
    have hi : i < l.length := (List.getElem?_eq_some_iff.mp ha).1
    have l9 : (wipe ρ [9]).length = ρ.length := by simp [wipe]
    have e0 : decide ((a : Int) = 0) = decide (a = 0) := decide_eq_decide.mpr (by omega)
    simp only [gV_r, wp_ok, tB_r, eBin_r, eV_r, eC_r, List.getElem?_set_self (show 9 < (wipe ρ [9]).length by omega), bind_ok, cNe_r, eqT_i, Option.map_some, ans_s, e0]
    have tk : List.take (i + 1) l = List.take i l ++ [a] := by rw [List.take_add_one, ha]; rfl
    by_cases a0 : a = 0
    · simp only [a0, decide_true, Bool.not_true, Bool.false_eq_true, if_false]
      refine ⟨?_, trivial⟩
      rw [tk, List.filter_append]
      simp [a0]
    · simp only [a0, decide_false, Bool.not_false, if_true, wp_ok, mat_v]
      refine ⟨?_, ?_, trivial⟩
      · rw [List.length_map, LIM_eq]
        have := List.length_filter_le (fun x => !decide (x = 0)) (l.take i)
        rw [List.length_take] at this
        omega
      · rw [tk, List.filter_append, List.map_append]
        simp [a0]
  · subst e1 e2
    simp only [eLst_r, aNil_r, bind_ok, List.length_nil, LIM_eq, Nat.zero_le, if_true, cEq_r]
    have e : eqT (.l ((l.filter fun x => !decide (x = 0)).map nv)) (.l []) s1 = some (l.all fun x => decide (x = 0)) := by
      have d : toDs s1 DEEP ((l.filter fun x => !decide (x = 0)).map nv) = some ((l.filter fun x => !decide (x = 0)).map fun i : Nat => Dt.int (i : Int)) := mapO_map nv _ (fun x => toD_int _ _) _
      have d0 : toDs s1 DEEP [] = some [] := rfl
      unfold eqT tvD
      simp only [d, d0, Option.map_some, Dt.eqv, Option.some.injEq]
      exact fil_nil l
    rw [e, ans_s, wp_ok]
    exact ⟨rfl, rfl⟩
end L_k01
end
section
set_option Elab.async false
set_option linter.all false
set_option maxRecDepth 100000
set_option maxHeartbeats 4000000
/-! W01n: _law_right. -/
namespace L_k01
open VI
theorem in_no {x : Val} {ys : List Val} {s : Store} (hx : (ownF TB x s).isSome = true) (h : ∀ y ∈ ys, sameR y x = false ∧ eqU TB y x s = .ok false s) : cInW TB (.v x) (.l ys) s = .ok (.v (.bool false)) s := by
  have go : ∀ ys : List Val, (∀ y ∈ ys, sameR y x = false ∧ eqU TB y x s = .ok false s) → inGo TB x ys s = .ok false s := fun ys => by
    induction ys with
    | nil => intro _; rfl
    | cons y ys ih =>
      intro h
      obtain ⟨h1, h2⟩ := h y List.mem_cons_self
      unfold inGo
      simp only [h1, h2, Bool.false_eq_true, if_false, bind_ok]
      exact ih fun z hz => h z (List.mem_cons_of_mem _ hz)
  unfold cInW
  simp only [hx, if_true, go ys h, bind_ok]
theorem eqT_bools {a b : Nat} {L : List Bool} {s : Store} (ha : s[a]? = some (.lst (L.map Val.bool))) (hb : s[b]? = some (.lst (L.map Val.bool))) : eqT (.v (.ref a)) (.v (.ref b)) s = some true := by
  have d : mapO (toD s 19) (L.map Val.bool) = some (L.map Dt.bool) := mapO_map Val.bool Dt.bool (fun x => toD_bool 19 x) L
  have t : ∀ {k : Nat}, s[k]? = some (.lst (L.map Val.bool)) → toD s DEEP (.ref k) = some (.lst (L.map Dt.bool)) := fun {k} h => by
    show (match s[k]? with
      | some (.lst l) => (mapO (toD s 19) l).map Dt.lst
      | some (.frz l) => (mapO (toD s 19) l).map Dt.lst
      | _ => none) = _
    rw [h]
    simp only [d]; rfl
  rw [eqT_of (t ha) (t hb), eqv_refl]
section
variable {i j k : Nat} {R : Raw} {s : Store} {fs : List (Nat × Val)}
theorem ty_no {c d : Nat} {k : Nat} {fs : List (Nat × Val)} (h : s[k]? = some (.ins c fs)) (hc : [0, 1, 2].contains c = true) (hd : insB (.cls d) c = false) : isTy [0, 1, 2] (.cls d) (.v (.ref k)) s = some false := by
  rw [isTy_ins _ h hc, hd]
end
end L_k01
end
section
set_option Elab.async false
set_option linter.all false
set_option maxRecDepth 100000
set_option maxHeartbeats 4000000
/-! W01o: _law_right. -/
namespace L_k01
open VI
theorem law_right_ok {p n : Nat} {s : Store} (h : Pu p n s) (hn : n < 2 ^ 28) : Wp (F__law_right [.ref p] s) fun t s' => t = .v (.bool true) ∧ Pu p (n + 60000) s' ∧ Fr p s s' := by
  rw [F__law_right, wp_fn1]
  unfold B__law_right
  simp only [Nat.reduceSub, List.replicate]
  refine seq_step ?_
  rw [sAsg_r]
  simp only [eCall_r, aCons_r, aNil_r, eV_r, List.getElem?_cons_zero, List.getElem?_cons_succ, bind_ok, mat_v, wp_bind]
  refine (raw_ok h (by omega)).mono fun t s1 ⟨R, e, hR, q1, f1⟩ => ?_
  subst e
  simp only [mat_v, gV_r, wp_ok, List.set_cons_succ, List.set_cons_zero]
  refine seq_step ?_
  rw [sAsg_r]
  simp only [eCall_r, aCons_r, aNil_r, eV_r, List.getElem?_cons_zero, List.getElem?_cons_succ, bind_ok, mat_v, made_ok hR, gV_r, wp_ok, List.set_cons_succ, List.set_cons_zero]
  have hv : ∀ (R : Raw) (s : Store), seqOf (.v R.val) s = some [.tup [nv R.v, nv R.f, nv R.b], sndV R.S, rcvV R.R] := fun R s => rfl
  have hk : (s1 ++ [Ob.ins 0 (sndF R), .ins 1 (rcvF R), .ins 2 [(77, .ref s1.length), (72, .ref (s1.length + 1))]])[s1.length + 2]? = some (.ins 2 [(77, .ref s1.length), (72, .ref (s1.length + 1))]) := by simp
  have hi : SA R s1.length (s1 ++ [Ob.ins 0 (sndF R), .ins 1 (rcvF R), .ins 2 [(77, .ref s1.length), (72, .ref (s1.length + 1))]]) := by unfold SA; simp
  have hj : RA R (s1.length + 1) (s1 ++ [Ob.ins 0 (sndF R), .ins 1 (rcvF R), .ins 2 [(77, .ref s1.length), (72, .ref (s1.length + 1))]]) := by unfold RA; simp
  have q2 := q1.app [Ob.ins 0 (sndF R), .ins 1 (rcvF R), .ins 2 [(77, .ref s1.length), (72, .ref (s1.length + 1))]]
  have f2 : Fr p s (s1 ++ [Ob.ins 0 (sndF R), .ins 1 (rcvF R), .ins 2 [(77, .ref s1.length), (72, .ref (s1.length + 1))]]) := f1.trans Fr.app
  generalize s1 ++ [Ob.ins 0 (sndF R), .ins 1 (rcvF R), .ins 2 [(77, .ref s1.length), (72, .ref (s1.length + 1))]] = s2 at hk hi hj q2 f2 ⊢
  generalize s1.length + 2 = k at hk ⊢
  generalize s1.length + 1 = j at hk hj ⊢
  generalize s1.length = i at hk hi ⊢
  clear q1 f1
  have F77 : ∀ {s}, s[k]? = some (.ins 2 [(77, .ref i), (72, .ref j)]) → fldOf [2] (.v (.ref k)) 77 s = some (.ref i) := fun h => fldOf_at h rfl
  have F72 : ∀ {s}, s[k]? = some (.ins 2 [(77, .ref i), (72, .ref j)]) → fldOf [2] (.v (.ref k)) 72 s = some (.ref j) := fun h => fldOf_at h rfl
  -- the properties
  refine seq_step ?_
  simp only [sIf_r, tOr_r, tB_r, eBin_r, eCall_r, aCons_r, aNil_r, eFld_r, eV_r, eC_r, eTup_r, List.getElem?_cons_zero, List.getElem?_cons_succ, bind_ok, mat_v, F77 hk, F72 hk, told_S hi, told_R hj, oIdx_r, hv, atI_0, atI_1, atI_2, List.length_cons, List.length_nil, LIM_eq, Nat.reduceAdd, Nat.reduceLeDiff, if_true, cNe_r, eqT_told, eqT_toldR, Option.map_some, Bool.not_true, ans_s, Bool.false_eq_true, if_false, sNop_r, wp_ok]
  -- lists that change
  refine seq_step ?_
  simp only [sIf_r, tOr_r, tNot_r, tB_r, eBin_r, eCall_r, aCons_r, aNil_r, eV_r, eC_r, List.getElem?_cons_zero, List.getElem?_cons_succ, bind_ok, mat_v, oIdx_r, hv, atI_0, atI_1, atI_2, wp_bind]
  refine (kept_S hR s2).mono fun t s3 ⟨e, x3⟩ => ?_
  subst e
  simp only [wp_ok, Bool.not_true, Bool.false_eq_true, if_false, wp_bind]
  refine (kept_R hR s3).mono fun t s4 ⟨e, x4⟩ => ?_
  subst e
  simp only [wp_ok, Bool.not_true, Bool.false_eq_true, if_false, sNop_r]
  have x24 := x3.trans x4
  have hk := x24.at hk
  have hi : SA R i s4 := x24.at hi
  have hj : RA R j s4 := x24.at hj
  have q4 := q2.ex x24
  have f4 := f2.trans (Ex.fr (p := p) x24)
  clear x24 x3 x4 q2 f2
  -- keeps_nothing
  have hP : PairAt R k s4 := ⟨i, j, hk, hi, hj⟩
  have kn := keeps_ok hP hR
  have knS : F_keeps_nothing [.ref k, .str 77] s4 = .ok (.v (.bool (R.S.crashes.all fun x => decide (x = 0)))) s4 := kn true
  have knR : F_keeps_nothing [.ref k, .str 72] s4 = .ok (.v (.bool (R.R.crashes.all fun x => decide (x = 0)))) s4 := kn false
  refine seq_step (Wp.mono (wp_for (its := fun _ => some [.tup [.str 77, sndV R.S], .tup [.str 72, rcvV R.R]]) (xs := [.tup [.str 77, sndV R.S], .tup [.str 72, rcvV R.R]]) (s1 := s4)
    (by rw [ixE_r]; simp only [eTup_r, aCons_r, aNil_r, eC_r, eBin_r, eV_r, List.getElem?_cons_zero, List.getElem?_cons_succ, bind_ok, mat_v, oIdx_r, hv, atI_1, atI_2, List.length_cons, List.length_nil, LIM_eq, Nat.reduceAdd, Nat.reduceLeDiff, if_true, itsOf])
    (fun m ρ s' => s' = s4 ∧ ∃ v3 v4 v5, ρ = [some (.ref p), some R.val, some (.ref k), v3, v4, v5, none, none, none, none]) (fun _ _ _ _ => rfl) ⟨rfl, none, none, none, rfl⟩ (fun m x ρ s' hx ⟨e, v3, v4, v5, e2⟩ => ?_) (Q := fun r s' => s' = s4 ∧ ∃ v3 v4 v5, r = (.next, [some (.ref p), some R.val, some (.ref k), v3, v4, v5, none, none, none, none])) fun ρ s' ⟨e, v3, v4, v5, e2⟩ => ⟨e, v3, v4, v5, by rw [e2]⟩) fun r s' ⟨e, v3, v4, v5, e2⟩ => ?_)
  · subst e e2
    have step : ∀ (w : Nat) (T : List Val) (l : List Nat), x = .tup [.str w, .tup T] → atI T 4 = some (rowV l) → l.length ≤ 1000 → F_keeps_nothing [.ref k, .str w] s' = .ok (.v (.bool (l.all fun x => decide (x = 0)))) s' →
        Wp (gT [3, 4] x [some (.ref p), some R.val, some (.ref k), v3, v4, v5, none, none, none, none] s') fun ρ s => Wp ((sSeq (sAsg (gV 5) (eBin cEq (eComp (ixE (eBin oIdx (eV 4) (eC (.int 4)))) (gV 9) [9] (tB (eBin cNe (eV 9) (eC (.int 0)))) (eV 9)) (eLst aNil))) (sIf (tOr (tB (eBin cNe (eCall F_keeps_nothing (aCons (eV 2) (aCons (eV 3) aNil))) (eV 5))) (tB (eBin cNe (eCallK F_keeps_nothing [1, 0] aNil (aCons (eV 3) (aCons (eV 2) aNil))) (eV 5)))) (sRet (eC (.bool false))) sNop)) ρ s) fun r s => match r with
          | (.next, ρ) => s = s' ∧ ∃ v3 v4 v5, ρ = [some (.ref p), some R.val, some (.ref k), v3, v4, v5, none, none, none, none]
          | (.brk, ρ) => s = s' ∧ ∃ v3 v4 v5, ((Fl.next, ρ) : Fl × Env) = (.next, [some (.ref p), some R.val, some (.ref k), v3, v4, v5, none, none, none, none])
          | r => s = s' ∧ ∃ v3 v4 v5, r = (.next, [some (.ref p), some R.val, some (.ref k), v3, v4, v5, none, none, none, none]) := by
      intro w T l ex hT hl hkn
      subst ex
      simp only [gT_r, setAll_c, setAll_n, List.set_cons_succ, List.set_cons_zero, wp_ok]
      refine seq_step ?_
      rw [sAsg_r, wp_bind]
      refine (due_ok (l := l) rfl hT hl (by simp)).mono fun t s5 ⟨e, e2⟩ => ?_
      subst e e2
      have eb : ∀ b : Bool, eqT (.v (.bool b)) (.v (.bool b)) s5 = some true := fun b => by cases b <;> rfl
      simp only [mat_v, bind_ok, gV_r, wp_ok, List.set_cons_succ, List.set_cons_zero, sIf_r, tOr_r, tB_r, eBin_r, eCall_r, eCallK2_r, aCons_r, aNil_r, eV_r, List.getElem?_cons_zero, List.getElem?_cons_succ, hkn, cNe_r, eb, Option.map_some, Bool.not_true, ans_s, Bool.false_eq_true, if_false, sNop_r]
      exact ⟨trivial, _, _, _, rfl⟩
    have lS : R.S.crashes.length ≤ 1000 := by have h1 := hR.S.crashes.1; have h2 := hR.S.len.2; omega
    have lR : R.R.crashes.length ≤ 1000 := by have h1 := hR.R.crashes.1; have h2 := hR.R.len.2; omega
    match m, hx with
    | 0, hx => cases hx; exact step 77 _ R.S.crashes rfl rfl lS knS
    | 1, hx => cases hx; exact step 72 _ R.R.crashes rfl rfl lR knR
  subst e e2
  -- one thing changed
  refine seq_step ?_
  rw [sAsg_r]
  simp only [eTup_r, eCall_r, aCons_r, aNil_r, eBin_r, eV_r, eC_r, List.getElem?_cons_zero, List.getElem?_cons_succ, bind_ok, mat_v, oIdx_r, hv, atI_0, atI_1, atI_2, wp_bind, wp_ok]
  refine (bent_snd hR q4 (by omega)).mono fun t s5 ⟨S', e, hS', q5, f5⟩ => ?_
  subst e
  simp only [mat_v, wp_ok]
  refine (bent_rcv hR q5 (by omega)).mono fun t s6 ⟨R', e, hR', q6, f6⟩ => ?_
  subst e
  simp only [mat_v, wp_ok, List.length_cons, List.length_nil, LIM_eq, Nat.reduceAdd, Nat.reduceLeDiff, if_true, gV_r, List.set_cons_succ, List.set_cons_zero]
  have hk := at_fr (at_fr hk q4 f5) q5 f6
  have hi : SA R i s6 := at_fr (at_fr hi q4 f5) q5 f6
  have hj : RA R j s6 := at_fr (at_fr hj q4 f5) q5 f6
  have f06 := f4.trans (f5.trans f6)
  clear q4 f4 q5 f5 f6 hP kn knS knR
  obtain ⟨B, hB⟩ : ∃ B : Raw, B = ⟨R.v, R.f, R.b, S', R'⟩ := ⟨_, rfl⟩
  have hBv : Val.tup [.tup [nv R.v, nv R.f, nv R.b], sndV S', rcvV R'] = B.val := by rw [hB]; rfl
  have hBo : RawOk B := by rw [hB]; exact ⟨hR.v, hR.f, hR.b, hS', hR'⟩
  have sm : Same B R := by rw [hB]; exact ⟨rfl, rfl, rfl⟩
  rw [hBv]
  clear hBv hB hS' hR'
  refine seq_step ?_
  rw [sAsg_r]
  simp only [eCall_r, aCons_r, aNil_r, eV_r, List.getElem?_cons_zero, List.getElem?_cons_succ, bind_ok, mat_v, made_ok hBo, gV_r, wp_ok, List.set_cons_succ, List.set_cons_zero]
  have ex := Ex.app s6 [Ob.ins 0 (sndF B), .ins 1 (rcvF B), .ins 2 [(77, .ref s6.length), (72, .ref (s6.length + 1))]]
  have hk := ex.at hk
  have hi : SA R i _ := ex.at hi
  have hj : RA R j _ := ex.at hj
  have hk' : (s6 ++ [Ob.ins 0 (sndF B), .ins 1 (rcvF B), .ins 2 [(77, .ref s6.length), (72, .ref (s6.length + 1))]])[s6.length + 2]? = some (.ins 2 [(77, .ref s6.length), (72, .ref (s6.length + 1))]) := by simp
  have hi' : SA B s6.length (s6 ++ [Ob.ins 0 (sndF B), .ins 1 (rcvF B), .ins 2 [(77, .ref s6.length), (72, .ref (s6.length + 1))]]) := by unfold SA; simp
  have hj' : RA B (s6.length + 1) (s6 ++ [Ob.ins 0 (sndF B), .ins 1 (rcvF B), .ins 2 [(77, .ref s6.length), (72, .ref (s6.length + 1))]]) := by unfold RA; simp
  have q7 := q6.app [Ob.ins 0 (sndF B), .ins 1 (rcvF B), .ins 2 [(77, .ref s6.length), (72, .ref (s6.length + 1))]]
  have f7 := f06.trans (Ex.fr (p := p) ex)
  clear ex
  generalize s6 ++ [Ob.ins 0 (sndF B), .ins 1 (rcvF B), .ins 2 [(77, .ref s6.length), (72, .ref (s6.length + 1))]] = s7 at hk hi hj hk' hi' hj' q7 f7 ⊢
  generalize s6.length + 2 = k' at hk' ⊢
  generalize s6.length + 1 = j' at hk' hj' ⊢
  generalize s6.length = i' at hk' hi' ⊢
  clear q6 f06
  have G77 : ∀ {s}, s[k']? = some (.ins 2 [(77, .ref i'), (72, .ref j')]) → fldOf [2] (.v (.ref k')) 77 s = some (.ref i') := fun h => fldOf_at h rfl
  have G72 : ∀ {s}, s[k']? = some (.ins 2 [(77, .ref i'), (72, .ref j')]) → fldOf [2] (.v (.ref k')) 72 s = some (.ref j') := fun h => fldOf_at h rfl
  -- told
  have t1 := cEqW_r (eqU_l (own0 hi') (anyR_own (own0 hi)) (eqF_S sm hi' hi))
  have t2 := cEqW_r (eqU_l (own1 hj') (anyR_own (own1 hj)) (eqF_R sm hj' hj))
  have t3 := cEqW_r (eqU_l (own2 hk') (anyR_own (own2 hk)) (eqF_P hk' hk sm sm hi' hj' hi hj))
  refine seq_step ?_
  rw [sAsg_r]
  simp only [eLst_r, aCons_r, aNil_r, eBin_r, eFld_r, eV_r, List.getElem?_cons_zero, List.getElem?_cons_succ, bind_ok, mat_v, F77 hk, F72 hk, G77 hk', G72 hk', t1, t2, t3, List.length_cons, List.length_nil, LIM_eq, Nat.reduceAdd, Nat.reduceLeDiff, if_true, mat_l, gV_r, wp_ok, List.set_cons_succ, List.set_cons_zero]
  have b1 : (s7 ++ [Ob.lst ([eqS B R, eqR B R, eqS B R && eqR B R].map Val.bool)])[s7.length]? = some (.lst ([eqS B R, eqR B R, eqS B R && eqR B R].map Val.bool)) := by simp
  have ex := Ex.app s7 [Ob.lst ([eqS B R, eqR B R, eqS B R && eqR B R].map Val.bool)]
  have hk := ex.at hk
  have hi : SA R i _ := ex.at hi
  have hj : RA R j _ := ex.at hj
  have hk' := ex.at hk'
  have hi' : SA B i' _ := ex.at hi'
  have hj' : RA B j' _ := ex.at hj'
  have q8 := q7.ex ex
  have f8 := f7.trans (Ex.fr (p := p) ex)
  clear ex t1 t2 t3 q7 f7
  have em : [Val.bool (eqS B R), .bool (eqR B R), .bool (eqS B R && eqR B R)] = [eqS B R, eqR B R, eqS B R && eqR B R].map Val.bool := rfl
  rw [em]
  generalize hs8 : s7 ++ [Ob.lst ([eqS B R, eqR B R, eqS B R && eqR B R].map Val.bool)] = s8 at b1 hk hi hj hk' hi' hj' q8 f8 ⊢
  generalize s7.length = d1 at b1 ⊢
  refine seq_step ?_
  rw [sAsg_r]
  simp only [eLst_r, aCons_r, aNil_r, eBin_r, eV_r, eC_r, List.getElem?_cons_zero, List.getElem?_cons_succ, bind_ok, mat_v, oIdx_r, hv, atI_1, atI_2, cEq_r, eqT_snd, eqT_rcv, eqT_raw sm, ans_s, List.length_cons, List.length_nil, LIM_eq, Nat.reduceAdd, Nat.reduceLeDiff, if_true, mat_l, gV_r, wp_ok, List.set_cons_succ, List.set_cons_zero]
  have b2 : (s8 ++ [Ob.lst ([eqS B R, eqR B R, eqS B R && eqR B R].map Val.bool)])[s8.length]? = some (.lst ([eqS B R, eqR B R, eqS B R && eqR B R].map Val.bool)) := by simp
  have ex := Ex.app s8 [Ob.lst ([eqS B R, eqR B R, eqS B R && eqR B R].map Val.bool)]
  have b1 := ex.at b1
  have hk := ex.at hk
  have hi : SA R i _ := ex.at hi
  have hj : RA R j _ := ex.at hj
  have hk' := ex.at hk'
  have hi' : SA B i' _ := ex.at hi'
  have hj' : RA B j' _ := ex.at hj'
  have q9 := q8.ex ex
  have f9 := f8.trans (Ex.fr (p := p) ex)
  clear ex q8 f8 hs8
  rw [em]
  clear em
  generalize s8 ++ [Ob.lst ([eqS B R, eqR B R, eqS B R && eqR B R].map Val.bool)] = s9 at b1 b2 hk hi hj hk' hi' hj' q9 f9 ⊢
  generalize s8.length = d2 at b2 ⊢
  -- unlike things
  have oi : ∀ {s}, SA R i s → (ownF TB (.ref i) s).isSome = true := fun h => by rw [own0 h]; rfl
  have u1 := cEqW_r (eqU_l (own2 hk) (anyR_own (own0 hi)) (noF_P (x := .ref k) (ty_no hi rfl rfl)))
  have u2 := cEqW_r (eqU_l (own0 hi) (anyR_own (own1 hj)) (noF_S (x := .ref i) (ty_no hj rfl rfl)))
  have u3 := cEqW_r (eqU_l (y := R.val) (own2 hk) rfl (noF_P (x := .ref k) rfl))
  refine seq_step ?_
  simp only [sIf_r, tOr_r, tB_r, eBin_r, eFld_r, eV_r, List.getElem?_cons_zero, List.getElem?_cons_succ, bind_ok, F77 hk, F72 hk, cNe_r, eqT_bools b1 b2, Option.map_some, Bool.not_true, ans_s, Bool.false_eq_true, if_false, u1, u2, u3, sNop_r, wp_ok]
  have nonS : eqU TB .non (.ref i) s9 = .ok false s9 := eqU_r rfl (own0 hi) rfl (noF_S rfl)
  have intS : eqU TB (.int 5) (.ref i) s9 = .ok false s9 := eqU_r rfl (own0 hi) rfl (noF_S rfl)
  have strS : eqU TB (.str 103) (.ref i) s9 = .ok false s9 := eqU_r rfl (own0 hi) rfl (noF_S rfl)
  have nonR : eqU TB .non (.ref j) s9 = .ok false s9 := eqU_r rfl (own1 hj) rfl (noF_R rfl)
  have intR : eqU TB (.int 5) (.ref j) s9 = .ok false s9 := eqU_r rfl (own1 hj) rfl (noF_R rfl)
  have strR : eqU TB (.str 103) (.ref j) s9 = .ok false s9 := eqU_r rfl (own1 hj) rfl (noF_R rfl)
  have nonP : eqU TB .non (.ref k) s9 = .ok false s9 := eqU_r rfl (own2 hk) rfl (noF_P rfl)
  have intP : eqU TB (.int 5) (.ref k) s9 = .ok false s9 := eqU_r rfl (own2 hk) rfl (noF_P rfl)
  have pS : eqU TB (.ref k) (.ref i) s9 = .ok false s9 := eqU_l (own2 hk) (anyR_own (own0 hi)) (noF_P (ty_no hi rfl rfl))
  have pR : eqU TB (.ref k) (.ref j) s9 = .ok false s9 := eqU_l (own2 hk) (anyR_own (own1 hj)) (noF_P (ty_no hj rfl rfl))
  have sP : eqU TB (.ref i) (.ref k) s9 = .ok false s9 := eqU_l (own0 hi) (anyR_own (own2 hk)) (noF_S (ty_no hk rfl rfl))
  have rP : eqU TB (.ref j) (.ref k) s9 = .ok false s9 := eqU_l (own1 hj) (anyR_own (own2 hk)) (noF_R (ty_no hk rfl rfl))
  have nki : k ≠ i := fun e => by subst e; unfold SA at hi; rw [hk] at hi; cases hi
  have nkj : k ≠ j := fun e => by subst e; unfold RA at hj; rw [hk] at hj; cases hj
  have w1 : cInW TB (.v (.ref i)) (.l [.non, .int 5, .str 103, .ref k]) s9 = .ok (.v (.bool false)) s9 := in_no (oi hi) fun y hy => by
    simp only [List.mem_cons, List.mem_nil_iff, or_false] at hy
    rcases hy with rfl | rfl | rfl | rfl
    · exact ⟨rfl, nonS⟩
    · exact ⟨rfl, intS⟩
    · exact ⟨rfl, strS⟩
    · exact ⟨decide_eq_false nki, pS⟩
  have w2 : cInW TB (.v (.ref j)) (.l [.non, .int 5, .str 103, .ref k]) s9 = .ok (.v (.bool false)) s9 := in_no (by rw [own1 hj]; rfl) fun y hy => by
    simp only [List.mem_cons, List.mem_nil_iff, or_false] at hy
    rcases hy with rfl | rfl | rfl | rfl
    · exact ⟨rfl, nonR⟩
    · exact ⟨rfl, intR⟩
    · exact ⟨rfl, strR⟩
    · exact ⟨decide_eq_false nkj, pR⟩
  have w3 : cInW TB (.v (.ref k)) (.l [.non, .int 5, .ref i, .ref j]) s9 = .ok (.v (.bool false)) s9 := in_no (by rw [own2 hk]; rfl) fun y hy => by
    simp only [List.mem_cons, List.mem_nil_iff, or_false] at hy
    rcases hy with rfl | rfl | rfl | rfl
    · exact ⟨rfl, nonP⟩
    · exact ⟨rfl, intP⟩
    · exact ⟨decide_eq_false (Ne.symm nki), sP⟩
    · exact ⟨decide_eq_false (Ne.symm nkj), rP⟩
  refine seq_step ?_
  simp only [sIf_r, tOr_r, tB_r, eBin_r, eFld_r, eLst_r, aCons_r, aNil_r, eV_r, eC_r, List.getElem?_cons_zero, List.getElem?_cons_succ, bind_ok, mat_v, F77 hk, F72 hk, List.length_cons, List.length_nil, LIM_eq, Nat.reduceAdd, Nat.reduceLeDiff, if_true, w1, w2, Bool.false_eq_true, if_false, sNop_r, wp_ok]
  refine seq_step ?_
  simp only [sIf_r, tOr_r, tB_r, eBin_r, eFld_r, eLst_r, aCons_r, aNil_r, eV_r, eC_r, List.getElem?_cons_zero, List.getElem?_cons_succ, bind_ok, mat_v, F77 hk, F72 hk, List.length_cons, List.length_nil, LIM_eq, Nat.reduceAdd, Nat.reduceLeDiff, if_true, w3, Bool.false_eq_true, if_false, sNop_r, wp_ok]
  clear u1 u2 u3 w1 w2 w3 nonS intS strS nonR intR strR nonP intP pS pR sP rP
  -- made anew of its parts
  refine seq_step ?_
  have p1 := pair_init hi hj rfl rfl rfl
  simp only [sIf_r, tB_r, eBin_r, eMkK_r, eFld_r, aCons_r, aNil_r, eV_r, List.getElem?_cons_zero, List.getElem?_cons_succ, bind_ok, mat_v, F77 hk, F72 hk, pick, List.cons_append, List.nil_append, List.filterMap_cons, List.filterMap_nil, p1]
  have hk2 : (s9 ++ [Ob.ins 2 [(77, .ref i), (72, .ref j)]])[s9.length]? = some (.ins 2 [(77, .ref i), (72, .ref j)]) := by simp
  have ex := Ex.app s9 [Ob.ins 2 [(77, .ref i), (72, .ref j)]]
  have hk := ex.at hk
  have hi : SA R i _ := ex.at hi
  have hj : RA R j _ := ex.at hj
  have hk' := ex.at hk'
  have hi' : SA B i' _ := ex.at hi'
  have hj' : RA B j' _ := ex.at hj'
  have q10 := q9.ex ex
  have f10 := f9.trans (Ex.fr (p := p) ex)
  clear ex q9 f9 p1 b1 b2
  generalize s9 ++ [Ob.ins 2 [(77, .ref i), (72, .ref j)]] = s10 at hk2 hk hi hj hk' hi' hj' q10 f10 ⊢
  generalize s9.length = k2 at hk2 ⊢
  have c1 : cNeI 2 F_Pair___eq__ (.v (.ref k2)) (.v (.ref k)) s10 = .ok (.v (.bool false)) s10 := by
    unfold cNeI
    simp only [isIns_at hk2, isIns_at hk, eqF_P hk2 hk (Same.refl R) (Same.refl R) hi hj hi hj, eqS_refl, eqR_refl, bind_ok]
    rfl
  simp only [c1, bind_ok, Bool.false_eq_true, if_false, sNop_r, wp_ok]
  have p2 := pair_init hi hj' sm.v sm.f sm.b
  have hk3 : (s10 ++ [Ob.ins 2 [(77, .ref i), (72, .ref j')]])[s10.length]? = some (.ins 2 [(77, .ref i), (72, .ref j')]) := by simp
  have ex := Ex.app s10 [Ob.ins 2 [(77, .ref i), (72, .ref j')]]
  have hi3 : SA R i _ := ex.at hi
  have hj3 : RA R j _ := ex.at hj
  have hk3' := ex.at hk
  have hj3' : RA B j' _ := ex.at hj'
  have q11 := q10.ex ex
  have f11 := f10.trans (Ex.fr (p := p) ex)
  simp only [sRet_r, eSame, eBin_r, eMk_r, eFld_r, aCons_r, aNil_r, eV_r, eC_r, List.getElem?_cons_zero, List.getElem?_cons_succ, bind_ok, mat_v, F77 hk, G72 hk', p2]
  generalize s10 ++ [Ob.ins 2 [(77, .ref i), (72, .ref j')]] = s11 at hk3 hk3' hi3 hj3 hj3' q11 f11 ⊢
  have l1 := cEqW_r (eqU_l (own2 hk3) (anyR_own (own2 hk3')) (eqF_P hk3 hk3' (Same.refl R) sm hi3 hj3' hi3 hj3))
  rw [eqS_refl, Bool.true_and] at l1
  have sh : ∀ b : Bool, shown (.v (.bool b)) s11 = some (.bool b) := fun b => by cases b <;> rfl
  have ss : ∀ b : Bool, Sh.same (.bool b) (.bool b) = true := fun b => by cases b <;> rfl
  simp only [l1, bind_ok, sh, oIdx_r, hv, atI_2, cEq_r, eqT_rcv, ans_s, ss, if_true, wp_ok, FinQ_r]
  exact ⟨trivial, q11.le (by omega), f11⟩
end L_k01
end
section
set_option Elab.async false
set_option linter.all false
set_option maxRecDepth 100000
set_option maxHeartbeats 4000000
/-! W01p: the law k01. -/
namespace L_k01
open VI
def rr (v b : Nat) : Raw := ⟨v, 1, b, ⟨[none], [0], [List.replicate b 0], [some (List.replicate v 0)], [0]⟩, ⟨[some 0], [0], [[0]], [[some 0]], [0]⟩⟩
theorem rr_ok {v b : Nat} (hv : 1 ≤ v ∧ v ≤ 1000) (hb : 1 ≤ b ∧ b ≤ 1000) : RawOk (rr v b) := by
  refine ⟨hv, ⟨by show 1 ≤ 1; omega, by show 1 ≤ 1000; omega⟩, hb, ⟨⟨by show 1 ≤ 1; omega, by show 1 ≤ 4; omega⟩, fun x hx => ?_, ⟨rfl, fun x hx => ?_⟩, ⟨rfl, fun r hr => ?_⟩, ⟨rfl, fun r hr => ?_, _, _, rfl⟩, ⟨rfl, fun x hx => ?_⟩⟩, ⟨⟨by show 1 ≤ 1; omega, by show 1 ≤ 4; omega⟩, fun x hx => ?_, ⟨rfl, fun x hx => ?_⟩, ⟨rfl, fun r hr => ?_⟩, ⟨rfl, fun r hr => ?_⟩, ⟨rfl, fun x hx => ?_⟩⟩⟩
  all_goals simp [rr] at *
  all_goals first
    | omega
    | (subst_vars; simp; done)
    | (subst_vars; exact hb.1)
    | (subst_vars; exact hv.1)
    | (subst_vars; refine ⟨rfl, fun x hx => ?_⟩; simp at hx; omega)
    | skip
theorem eqF_Rne {R R' : Raw} {i j : Nat} {s : Store} (h : eqT (.v (rcvT R)) (.v (rcvT R')) s = some false) (hi : RA R i s) (hj : RA R' j s) : F_Receiver___eq__ [.ref i, .ref j] s = .ok (.v (.bool false)) s := by
  apply eq_of_wp
  rw [F_Receiver___eq__, wp_fn2]
  simp [B_Receiver___eq__, isTy_ins _ hj, insB, isCls_at hi (m := 83) rfl, isCls_at hj (m := 83) rfl, rcv_tables hi, rcv_tables hj, -cEq_r]
  simp only [cEq_r, h, ans_s]
  simp
theorem eqF_Sne {R R' : Raw} {i j : Nat} {s : Store} (h : eqT (.v (sndT R)) (.v (sndT R')) s = some false) (hi : SA R i s) (hj : SA R' j s) : F_Sender___eq__ [.ref i, .ref j] s = .ok (.v (.bool false)) s := by
  apply eq_of_wp
  rw [F_Sender___eq__, wp_fn2]
  simp [B_Sender___eq__, isTy_ins _ hj, insB, isCls_at hi (m := 83) rfl, isCls_at hj (m := 83) rfl, snd_tables hi, snd_tables hj, -cEq_r]
  simp only [cEq_r, h, ans_s]
  simp
abbrev mkE (v b : Int) : Ev := eMkK 1 F_Receiver___init__ [0, 1, 2, 3, 4, 5, 6, 7, 8] (aCons (eC (.int v)) (aCons (eC (.int 1)) (aCons (eC (.int b)) aNil))) (aCons (eLst (aCons (eC (.int 0)) aNil)) (aCons (eLst (aCons (eC (.int 0)) aNil)) (aCons (eLst (aCons (eTup (aCons (eC (.int 0)) aNil)) aNil)) (aCons (eLst (aCons (eTup (aCons (eC (.int 0)) aNil)) aNil)) (aCons (eLst (aCons (eC (.int 0)) aNil)) aNil)))))
theorem mk_one {v b : Nat} (hv : 1 ≤ v ∧ v ≤ 1000) (hb : 1 ≤ b ∧ b ≤ 1000) (ρ : Env) (s : Store) : Wp (mkE v b ρ s) fun t s' => ∃ r, t = .v (.ref r) ∧ RA (rr v b) r s' ∧ Ex s s' ∧ s.length ≤ r := by
  have e : ∀ s2, s2 = s ++ [Ob.lst [.int 0]] ++ [Ob.lst [.int 0]] ++ [Ob.lst [.tup [.int 0]]] ++ [Ob.lst [.tup [.int 0]]] ++ [Ob.lst [.int 0]] → F_Receiver___init__ [.ref s2.length, .int (v : Int), .int 1, .int (b : Int), .ref s.length, .ref (s.length + 1), .ref (s.length + 2), .ref (s.length + 3), .ref (s.length + 4)] (s2 ++ [.ins 1 []]) = .ok (.v .non) (s2 ++ [.ins 1 (rcvF (rr v b))]) := fun s2 h => by
    refine rcv_initL (R := rr v b) (rr_ok hv hb) (.inr ⟨_, rfl, ?_⟩) (.inr ⟨_, rfl, ?_⟩) (.inr ⟨_, rfl, ?_⟩) (.inr ⟨_, rfl, ?_⟩) (.inr ⟨_, rfl, ?_⟩) <;> rw [h] <;> simp [rr, optV]
  simp only [eMkK_r, aCons_r, aNil_r, eC_r, eLst_r, eTup_r, bind_ok, mat_v, mat_l, List.length_cons, List.length_nil, LIM_eq, Nat.reduceAdd, Nat.reduceLeDiff, if_true]
  have l1 : (s ++ [Ob.lst [.int 0]]).length = s.length + 1 := by simp
  have l2 : (s ++ [Ob.lst [.int 0]] ++ [Ob.lst [.int 0]]).length = s.length + 2 := by simp
  have l3 : (s ++ [Ob.lst [.int 0]] ++ [Ob.lst [.int 0]] ++ [Ob.lst [.tup [.int 0]]]).length = s.length + 3 := by simp
  have l4 : (s ++ [Ob.lst [.int 0]] ++ [Ob.lst [.int 0]] ++ [Ob.lst [.tup [.int 0]]] ++ [Ob.lst [.tup [.int 0]]]).length = s.length + 4 := by simp
  rw [l1, l2, l3, l4]
  have pk : ∀ a b c d e f g h i : Val, pick [0, 1, 2, 3, 4, 5, 6, 7, 8] (a :: [b, c, d] ++ [e, f, g, h, i]) = [a, b, c, d, e, f, g, h, i] := fun _ _ _ _ _ _ _ _ _ => rfl
  rw [pk, e _ rfl]
  simp only [bind_ok, wp_ok]
  refine ⟨_, rfl, by unfold RA; simp, ?_, by simp⟩
  rw [List.append_assoc, List.append_assoc, List.append_assoc, List.append_assoc, List.append_assoc]
  exact Ex.app _ _
/-- l.index(each) -/
theorem index_at {q m : Nat} {L : List Nat} {ρ : Env} {s : Store} {a e : Ev} (ha : a ρ s = .ok (.v (.ref q)) s) (hq : s[q]? = some (.lst (L.map Val.ref))) (he : ∀ x, L[m]? = some x → e ρ s = .ok (.v (.ref x)) s) (hm : m < L.length) (ho : ∀ x, L[m]? = some x → (ownF TB (.ref x) s).isSome = true)
    (hno : ∀ i x y, i < m → L[i]? = some x → L[m]? = some y → x ≠ y ∧ eqU TB (.ref x) (.ref y) s = .ok false s) : eIxW TB a e ρ s = .ok (.v (nv m)) s := by
  have hx := List.getElem?_eq_getElem hm
  generalize L[m] = x at hx
  have rf : refL (.v (.ref q)) s = some (q, L.map Val.ref) := by simp [refL, hq]
  have go : ∀ d i, i + d = m → ixGo TB (.v (.ref q)) (.ref x) L.length (L.length - i) s = .ok m s := fun d => by
    induction d with
    | zero =>
      intro i hi
      have : i = m := by omega
      subst this
      obtain ⟨z, hz⟩ : ∃ z, L.length - i = z + 1 := ⟨L.length - i - 1, by omega⟩
      rw [hz]
      unfold ixGo
      have e2 : L.length - (z + 1) = i := by omega
      simp only [rf, List.length_map, if_true, e2, List.getElem?_map, hx, Option.map_some]
      rw [if_pos (by simp [sameR])]
    | succ d ih =>
      intro i hi
      obtain ⟨z, hz⟩ : ∃ z, L.length - i = z + 1 := ⟨L.length - i - 1, by omega⟩
      have hlt : i < L.length := by omega
      have e2 : L.length - (z + 1) = i := by omega
      have e3 : z = L.length - (i + 1) := by omega
      obtain ⟨h1, h2⟩ := hno i L[i] x (by omega) (List.getElem?_eq_getElem hlt) hx
      rw [hz]
      unfold ixGo
      simp only [rf, List.length_map, if_true, e2, List.getElem?_map, List.getElem?_eq_getElem hlt, Option.map_some]
      rw [if_neg (by simp [sameR, h1]), h2, bind_ok, if_neg (by decide), e3]
      exact ih (i + 1) (by omega)
  have g0 := go m 0 (by omega)
  rw [Nat.sub_zero] at g0
  unfold eIxW
  simp only [ha, bind_ok, rf, Option.isSome_some, if_true, he x hx, ho x hx, List.length_map, g0]
theorem ne_12 (s : Store) : eqT (.v (rcvT (rr 1 1))) (.v (rcvT (rr 2 1))) s = some false := by rfl
theorem ne_13 (s : Store) : eqT (.v (rcvT (rr 1 1))) (.v (rcvT (rr 1 2))) s = some false := by rfl
theorem ne_23 (s : Store) : eqT (.v (rcvT (rr 2 1))) (.v (rcvT (rr 1 2))) s = some false := by rfl
def wd : Raw := ⟨1, 2, 1, (reps0 false).S, ⟨[some 0], [0], [[0, 0]], [[some 0, some 0]], [0]⟩⟩
theorem wd_ok : RawOk wd :=
  ⟨by decide, by decide, by decide, ⟨by decide, fun x hx => by simp [wd, reps0] at hx ⊢; omega, by decide, by decide, ⟨by decide, fun r hr => by simp [wd, reps0] at hr ⊢; subst hr; simp, [1], _, rfl⟩, by decide⟩,
    ⟨by decide, fun x hx => by simp [wd] at hx ⊢; omega, by decide, by decide, ⟨by decide, fun r hr => by simp [wd] at hr ⊢; subst hr; simp⟩, by decide⟩⟩
theorem ne_wd (s : Store) : eqT (.v (sndT (reps0 false))) (.v (sndT wd)) s = some false := by rfl
theorem law_ok (ns : List Int) (hl : ns.length ≤ 63) (o : Ob) (ho : o = .lst (ns.map .int) ∨ o = .frz (ns.map .int)) : ∃ st, F_law [.ref 0] [o] = .ok (.v (.bool true)) st := by
  suffices h : Wp (F_law [.ref 0] [o]) fun x _ => x = .v (.bool true) by
    obtain ⟨a, s, e, q⟩ := h
    exact ⟨s, by rw [e, q]⟩
  have sq : ∀ s : Store, s[0]? = some o → seqOf (.v (.ref 0)) s = some (ns.map Val.int) := fun s e => by
    rcases ho with rfl | rfl <;> simp [seqOf, e]
  obtain ⟨m, hm, hm9⟩ : ∃ m : Nat, (1 : Int) + (if (ns.length : Int) < 8 then (ns.length : Int) else 8) = (m : Int) ∧ m ≤ 9 := by
    by_cases h : (ns.length : Int) < 8
    · rw [if_pos h]; exact ⟨ns.length + 1, by omega, by omega⟩
    · rw [if_neg h]; exact ⟨9, by omega, by omega⟩
  rw [F_law, wp_fn1]
  unfold B_law
  simp only [Nat.reduceSub, List.replicate]
  refine seq_step (Wp.mono (wp_for (its := fun _ => some (rngV 0 (m : Int))) (xs := rngV 0 (m : Int)) (s1 := [o]) (by simp [sq [o] rfl, hm, inR_n (show m ≤ 1000 by omega)])
    (fun i ρ s1 => s1[0]? = some o ∧ ∃ a b c, ρ = [some (.ref 0), a, b, c, none, none, none, none]) (fun _ _ _ _ => rfl) ⟨rfl, none, none, none, rfl⟩ (fun i x ρ s1 hx ⟨h0, a, b, c, e2⟩ => ?_)
    (Q := fun r s1 => ∃ a b c, r = (.next, [some (.ref 0), a, b, c, none, none, none, none])) fun ρ s1 ⟨h0, a, b, c, e2⟩ => ⟨a, b, c, by rw [e2]⟩) fun r s1 ⟨a, b, c, e2⟩ => ?_)
  · subst e2
    have him : i < m := by have := (List.getElem?_eq_some_iff.mp hx).1; rwa [rngV_len] at this
    rw [rngV_get m i him] at hx
    cases hx
    obtain ⟨pa, pb, hpu⟩ := purse_ok (sq s1 h0) i
    simp only [gV_r, wp_ok, List.set_cons_succ, List.set_cons_zero]
    refine seq_step ?_
    simp only [sAsg_r, eCall_r, aCons_r, aNil_r, eV_r, bind_ok, mat_v, List.getElem?_cons_succ, List.getElem?_cons_zero, hpu, mat_l, gV_r, wp_ok, List.set_cons_succ, List.set_cons_zero]
    have hl0 : 0 < s1.length := (List.getElem?_eq_some_iff.mp h0).1
    have h0' : (s1 ++ [Ob.lst [.int pa, .int pb, .int (1000 * (i : Int))]])[0]? = some o := by rw [List.getElem?_append_left hl0]; exact h0
    refine wp_for (its := fun _ => some (rngV 0 3)) (xs := rngV 0 3) (s1 := s1 ++ [.lst [.int pa, .int pb, .int (1000 * (i : Int))]]) (by simp [show inR 3 = true from rfl])
      (fun j ρ s2 => j ≤ 3 ∧ s2[0]? = some o ∧ Pu s1.length (9000 + 60000 * j) s2 ∧ ∃ c, ρ = [some (.ref 0), some (nv i), some (.ref s1.length), c, none, none, none, none]) (fun _ _ _ _ => rfl) ⟨by omega, h0', ⟨pa, pb, 1000 * (i : Int), by simp, by omega, by omega⟩, _, rfl⟩ (fun j x ρ s2 hx ⟨hj, g0, hp, c', e2⟩ => ?_) fun ρ s2 ⟨hj, g0, hp, c', e2⟩ => ⟨g0, _, _, c', e2⟩
    subst e2
    have hj3 : j < 3 := (List.getElem?_eq_some_iff.mp hx).1
    simp only [gV_r, wp_ok, List.set_cons_succ, List.set_cons_zero, sIf_r, tNot_r, tB_r, eCall_r, aCons_r, aNil_r, eV_r, bind_ok, mat_v, List.getElem?_cons_succ, List.getElem?_cons_zero, wp_bind]
    refine (law_right_ok hp (by omega)).mono fun t s3 ⟨e, p3, f3⟩ => ?_
    subst e
    simp only [wp_ok, Bool.not_true, Bool.false_eq_true, if_false, sNop_r]
    have g3 : s3[0]? = some o := by rw [f3.2 0 (List.getElem?_eq_some_iff.mp g0).1 (by omega)]; exact g0
    exact ⟨by omega, g3, p3.le (by omega), _, rfl⟩
  · subst e2
    try dsimp only
    clear sq hm hm9
    -- three receivers
    refine seq_step ?_
    simp only [sAsg_r, eLst_r, aCons_r, aNil_r, wp_bind]
    refine (mk_one (v := 1) (b := 1) (by decide) (by decide) _ s1).mono fun t s2 ⟨r0, e, A0, E1, L0⟩ => ?_
    subst e
    simp only [mat_v, wp_ok, List.length_cons, List.length_nil, LIM_eq, Nat.reduceAdd, Nat.reduceLeDiff, if_true, mat_l, gV_r, List.set_cons_succ, List.set_cons_zero]
    have Q0 : (s2 ++ [Ob.lst [.ref r0]])[s2.length]? = some (.lst [.ref r0]) := by simp
    have A0' : RA (rr 1 1) r0 (s2 ++ [Ob.lst [.ref r0]]) := (Ex.app s2 _).at A0
    have n0 : r0 ≠ s2.length := by have := (List.getElem?_eq_some_iff.mp A0).1; omega
    clear A0
    generalize s2 ++ [Ob.lst [.ref r0]] = s3 at Q0 A0' ⊢
    generalize s2.length = q at Q0 n0 ⊢
    have rf0 : refL (.v (.ref q)) s3 = some (q, [.ref r0]) := by simp [refL, Q0]
    refine seq_step ?_
    simp only [sExp_r, eAppend, eV_r, List.getElem?_cons_zero, List.getElem?_cons_succ, bind_ok, rf0, Option.isSome_some, if_true, wp_bind]
    refine (mk_one (v := 2) (b := 1) (by decide) (by decide) _ s3).mono fun t s4 ⟨r1, e, A1, E2, L1⟩ => ?_
    subst e
    have Q1 := E2.at Q0
    have A0 : RA (rr 1 1) r0 s4 := E2.at A0'
    have q4 : q < s4.length := (List.getElem?_eq_some_iff.mp Q1).1
    have rf1 : refL (.v (.ref q)) s4 = some (q, [.ref r0]) := by simp [refL, Q1]
    have n1 : r1 ≠ q := by have := (List.getElem?_eq_some_iff.mp Q0).1; omega
    have n01 : r0 ≠ r1 := by have := (List.getElem?_eq_some_iff.mp A0').1; omega
    simp only [mat_v, bind_ok, wp_ok, rf1, List.length_cons, List.length_nil, LIM_eq, Nat.reduceAdd, updL, List.cons_append, List.nil_append]
    rw [if_pos (by decide), wp_ok]
    have Q2 : (s4.set q (Ob.lst [.ref r0, .ref r1]))[q]? = some (.lst [.ref r0, .ref r1]) := List.getElem?_set_self q4
    have A02 : RA (rr 1 1) r0 (s4.set q (Ob.lst [.ref r0, .ref r1])) := by unfold RA; rw [List.getElem?_set_ne (Ne.symm n0)]; exact A0
    have A12 : RA (rr 2 1) r1 (s4.set q (Ob.lst [.ref r0, .ref r1])) := by unfold RA; rw [List.getElem?_set_ne (Ne.symm n1)]; exact A1
    clear Q0 Q1 A0 A0' A1 rf0 rf1 E1 E2 L0 L1 q4
    generalize s4.set q (Ob.lst [.ref r0, .ref r1]) = s5 at Q2 A02 A12 ⊢
    have rf2 : refL (.v (.ref q)) s5 = some (q, [.ref r0, .ref r1]) := by simp [refL, Q2]
    refine seq_step ?_
    simp only [sExp_r, eAppend, eV_r, List.getElem?_cons_zero, List.getElem?_cons_succ, bind_ok, rf2, Option.isSome_some, if_true, wp_bind]
    refine (mk_one (v := 1) (b := 2) (by decide) (by decide) _ s5).mono fun t s6 ⟨r2, e, A2, E3, L2⟩ => ?_
    subst e
    have Q3 := E3.at Q2
    have A03 : RA (rr 1 1) r0 s6 := E3.at A02
    have A13 : RA (rr 2 1) r1 s6 := E3.at A12
    have q6 : q < s6.length := (List.getElem?_eq_some_iff.mp Q3).1
    have rf3 : refL (.v (.ref q)) s6 = some (q, [.ref r0, .ref r1]) := by simp [refL, Q3]
    have n2 : r2 ≠ q := by have := (List.getElem?_eq_some_iff.mp Q2).1; omega
    have n02 : r0 ≠ r2 := by have := (List.getElem?_eq_some_iff.mp A02).1; omega
    have n12 : r1 ≠ r2 := by have := (List.getElem?_eq_some_iff.mp A12).1; omega
    simp only [mat_v, bind_ok, wp_ok, rf3, updL, List.cons_append, List.nil_append]
    rw [if_pos (by simp), wp_ok]
    have Q4 : (s6.set q (Ob.lst [.ref r0, .ref r1, .ref r2]))[q]? = some (.lst ([r0, r1, r2].map Val.ref)) := List.getElem?_set_self q6
    have B0 : RA (rr 1 1) r0 (s6.set q (Ob.lst [.ref r0, .ref r1, .ref r2])) := by unfold RA; rw [List.getElem?_set_ne (Ne.symm n0)]; exact A03
    have B1 : RA (rr 2 1) r1 (s6.set q (Ob.lst [.ref r0, .ref r1, .ref r2])) := by unfold RA; rw [List.getElem?_set_ne (Ne.symm n1)]; exact A13
    have B2 : RA (rr 1 2) r2 (s6.set q (Ob.lst [.ref r0, .ref r1, .ref r2])) := by unfold RA; rw [List.getElem?_set_ne (Ne.symm n2)]; exact A2
    clear Q2 Q3 A02 A12 A03 A13 A2 rf2 rf3 E3 L2 q6
    generalize s6.set q (Ob.lst [.ref r0, .ref r1, .ref r2]) = s7 at Q4 B0 B1 B2 ⊢
    -- the places
    have u01 : eqU TB (.ref r0) (.ref r1) s7 = .ok false s7 := eqU_l (own1 B0) (anyR_own (own1 B1)) (eqF_Rne (ne_12 s7) B0 B1)
    have u02 : eqU TB (.ref r0) (.ref r2) s7 = .ok false s7 := eqU_l (own1 B0) (anyR_own (own1 B2)) (eqF_Rne (ne_13 s7) B0 B2)
    have u12 : eqU TB (.ref r1) (.ref r2) s7 = .ok false s7 := eqU_l (own1 B1) (anyR_own (own1 B2)) (eqF_Rne (ne_23 s7) B1 B2)
    have places : Wp (eComp (ixE (eV 4)) (gV 7) [7] tYes (eIxW TB (eV 4) (eV 7)) [some (.ref 0), a, b, c, some (.ref q), none, none, none] s7) fun t s' => t = .l [.int 0, .int 1, .int 2] ∧ s' = s7 := by
      refine wp_comp (its := fun s => match s[q]? with
        | some (.lst xs) => some xs
        | _ => none) (xs := [r0, r1, r2].map Val.ref) (s1 := s7) (by rw [ixE_r]; simp only [eV_r, List.getElem?_cons_zero, List.getElem?_cons_succ, bind_ok, itsOf, Q4] <;> rfl) (fun i acc s1 => acc = (List.range i).map nv ∧ s1 = s7) (fun i acc s1 ⟨_, e⟩ => by subst e; simp only [Q4])
        ⟨rfl, rfl⟩ (fun i x acc s1 hx ⟨e1, e2⟩ => ?_) fun acc s1 ⟨e1, e2⟩ => ⟨by rw [e1]; rfl, e2⟩
      subst e1 e2
      rw [List.getElem?_map] at hx
      obtain ⟨y, hy, rfl⟩ := Option.map_eq_some_iff.mp hx
      have hi : i < 3 := (List.getElem?_eq_some_iff.mp hy).1
      have key : eIxW TB (eV 4) (eV 7) ((wipe [some (.ref 0), a, b, c, some (.ref q), none, none, none] [7]).set 7 (some (.ref y))) s1 = .ok (.v (nv i)) s1 := by
        refine index_at (q := q) (L := [r0, r1, r2]) rfl Q4 (fun x hx => ?_) hi (fun x hx => ?_) fun d x z hd hx hz => ?_
        · rw [hy] at hx; cases hx; rfl
        · match i, hi, hx with
          | 0, _, hx => cases hx; rw [own1 B0]; rfl
          | 1, _, hx => cases hx; rw [own1 B1]; rfl
          | 2, _, hx => cases hx; rw [own1 B2]; rfl
        · match i, hi, hz, d, hd, hx with
          | 1, _, hz, 0, _, hx => cases hx; cases hz; exact ⟨n01, u01⟩
          | 2, _, hz, 0, _, hx => cases hx; cases hz; exact ⟨n02, u02⟩
          | 2, _, hz, 1, _, hx => cases hx; cases hz; exact ⟨n12, u12⟩
      simp only [gV_r, wp_ok, tYes, if_true, key, mat_v]
      refine ⟨by simp; omega, ?_, trivial⟩
      rw [List.range_succ, List.map_append]; rfl
    refine seq_step ?_
    rw [sIf_r, tB_r, eBin_r]
    simp only [wp_bind]
    refine places.mono fun t s8 ⟨e, e2⟩ => ?_
    subst e e2
    have ce : eqT (.l [.int 0, .int 1, .int 2]) (.l [.int 0, .int 1, .int 2]) s8 = some true := by rfl
    simp only [eLst_r, aCons_r, aNil_r, eC_r, bind_ok, mat_v, wp_ok, List.length_cons, List.length_nil, LIM_eq, Nat.reduceAdd, Nat.reduceLeDiff, if_true, cNe_r, ce, Option.map_some, Bool.not_true, ans_s, Bool.false_eq_true, if_false, sNop_r]
    -- the last two
    have rp : ∀ s, F__law_repeats [.int 1] s = .ok (.v (reps0 false).val) s := fun s => reps_ok false s
    have ms : ∀ s, F__law_made_sender [.tup [.int 1, .int 2, .int 1], sndV (reps0 false).S] s = .ok (.v (.ref s.length)) (s ++ [.ins 0 (sndF wd)]) := fun s => made_snd wd_ok s
    have hv : ∀ (R : Raw) (s : Store), seqOf (.v R.val) s = some [.tup [nv R.v, nv R.f, nv R.b], sndV R.S, rcvV R.R] := fun R s => rfl
    refine seq_step ?_
    simp only [sPar_r, eCall_r, aCons_r, aNil_r, eC_r, eTup_r, eBin_r, bind_ok, mat_v, rp, oIdx_r, hv, atI_1, List.length_cons, List.length_nil, LIM_eq, Nat.reduceAdd, Nat.reduceLeDiff, if_true, ms, wp_ok, List.set_cons_succ, List.set_cons_zero]
    have W0 : SA wd s8.length (s8 ++ [.ins 0 (sndF wd)]) := by unfold SA; simp
    generalize s8 ++ [.ins 0 (sndF wd)] = s9 at W0 ⊢
    generalize s8.length = w at W0 ⊢
    simp only [sRet_r, eAnd_r, eBin_r, eFld_r, eCall_r, aCons_r, aNil_r, eV_r, eC_r, List.getElem?_cons_zero, List.getElem?_cons_succ, bind_ok, mat_v, made_ok (reps_raw false)]
    have hk : (s9 ++ [Ob.ins 0 (sndF (reps0 false)), .ins 1 (rcvF (reps0 false)), .ins 2 [(77, .ref s9.length), (72, .ref (s9.length + 1))]])[s9.length + 2]? = some (.ins 2 [(77, .ref s9.length), (72, .ref (s9.length + 1))]) := by simp
    have hi : SA (reps0 false) s9.length (s9 ++ [Ob.ins 0 (sndF (reps0 false)), .ins 1 (rcvF (reps0 false)), .ins 2 [(77, .ref s9.length), (72, .ref (s9.length + 1))]]) := by unfold SA; simp
    have W1 : SA wd w (s9 ++ [Ob.ins 0 (sndF (reps0 false)), .ins 1 (rcvF (reps0 false)), .ins 2 [(77, .ref s9.length), (72, .ref (s9.length + 1))]]) := (Ex.app s9 _).at W0
    generalize s9 ++ [Ob.ins 0 (sndF (reps0 false)), .ins 1 (rcvF (reps0 false)), .ins 2 [(77, .ref s9.length), (72, .ref (s9.length + 1))]] = s10 at hk hi W1 ⊢
    generalize s9.length + 2 = k at hk ⊢
    generalize s9.length + 1 = j at hk ⊢
    generalize s9.length = i at hk hi ⊢
    have f7 : fldOf [2] (.v (.ref k)) 77 s10 = some (.ref i) := fldOf_at hk rfl
    have c1 : cNeI 0 F_Sender___eq__ (.v (.ref i)) (.v (.ref w)) s10 = .ok (.v (.bool true)) s10 := by
      unfold cNeI
      simp only [isIns_at hi, isIns_at W1, eqF_Sne (ne_wd s10) hi W1, bind_ok]
      rfl
    have tr : ∀ s, F__law_turns [.bool true] s = .ok (.v (turns0 true).val) s := fun s => turns_ok true s
    simp only [f7, c1, bind_ok, if_true, tr, mat_v, made_ok (turns_raw true)]
    have kn := keeps_ok (made_at (R := turns0 true) s10) (turns_raw true) false
    have kn2 : ((turns0 true).R.crashes.all fun x => decide (x = 0)) = false := rfl
    simp only [Bool.false_eq_true, if_false, kn2] at kn
    simp only [kn, bind_ok, cIsB, wp_ok, FinQ_r]
    rfl
end L_k01
end
section
set_option Elab.async false
set_option linter.all false
set_option maxRecDepth 100000
set_option maxHeartbeats 2000000
/-! VI1: what stands between VI's values and the model's heap; the readings of VI's combinators over the hand layer. -/
namespace VI
open PySem PySem.Spec PyProof.Rows L2

/-- a lambda's words, its cells, its code object -/
structure LF where
  qual : Str
  params : Arguments
  body : Expr
  scope : Scope
  cl : List (Str × Addr)
  c : Addr
/-- the object at f is the lambda F -/
def LamO (f : Addr) (F : LF) : HO := .ext fun h => ∃ (od : Option Addr) (sl : Array (Option Value)) (pm ctv : Value), h.get? f = some (⟨.type "function", od, .func (PySem.W.kla_fn "<lambda>" F.qual F.params F.body F.scope F.cl pm (.ref F.c) ctv), sl⟩ : Obj)
theorem lamO_ne {f : Addr} {F : LF} (ps : Array Value) : LamO f F ≠ .tbl ps := fun z => by
  unfold LamO at z
  cases z
/-- the world: the written part, the texts by number, the classes by number, the tables of code objects -/
structure Wd where
  K : PySem.W.Frag
  S : List Str
  C : Nat → Addr
  T : List (Addr × Str)
  L : Option (Nat × Addr × LF) := none

/-- a tuple, tracked or of the written part -/
def Tp (K : PySem.W.Frag) (H : Hp) (a : Addr) (xs : List V) : Prop :=
  H a = some (.tup xs) ∨
    ∃ (o : Obj) (its : Array Value) (n : Nat), K.lookup a = some o ∧ o.cls = .type "tuple" ∧ o.data = .seq its n ∧ its.size ≤ sizeLine ∧ Vals xs its.toList
theorem Tp.sq {K : PySem.W.Frag} {H : Hp} {a : Addr} {xs : List V} (h : Tp K H a xs) : SqT K H a xs := by
  rcases h with h | h
  · exact .inl (.inl h)
  · exact .inr h

mutual
inductive Rp (D : Wd) (n : Nat) (μ : Nat → Addr) (H : Hp) : Val → V → Prop
  | non : Rp D n μ H .non .non
  | bool (b : Bool) : Rp D n μ H (.bool b) (.bl b)
  | int (i : Int) : Rp D n μ H (.int i) (.int i)
  | str {k : Nat} {z : Str} (h : D.S[k]? = some z) : Rp D n μ H (.str k) (.str z)
  | tup {l : List Val} {a : Addr} {ys : List V} (h : Tp D.K H a ys) (r : RpAll D n μ H l ys) : Rp D n μ H (.tup l) (.ref a)
  | ref {k : Nat} (h : k < n) : Rp D n μ H (.ref k) (.ref (μ k))
inductive RpAll (D : Wd) (n : Nat) (μ : Nat → Addr) (H : Hp) : List Val → List V → Prop
  | nil : RpAll D n μ H [] []
  | cons {x : Val} {l : List Val} {y : V} {ys : List V} (h : Rp D n μ H x y) (r : RpAll D n μ H l ys) : RpAll D n μ H (x :: l) (y :: ys)
end

/-- a later state -/
structure Le (n : Nat) (μ : Nat → Addr) (H : Hp) (n' : Nat) (μ' : Nat → Addr) (H' : Hp) : Prop where
  le : n ≤ n'
  mu : ∀ k, k < n → μ' k = μ k
  new : ∀ k, n ≤ k → k < n' → H (μ' k) = none
  tup : ∀ a xs, H a = some (.tup xs) → H' a = some (.tup xs)
  fr : ∀ a o, H a = some o → (∀ ps, o ≠ .tbl ps) → (∀ k, k < n → μ k ≠ a) → H' a = some o
  dom : ∀ a o, H a = some o → ∃ o', H' a = some o'
theorem Le.refl (n : Nat) (μ : Nat → Addr) (H : Hp) : Le n μ H n μ H :=
  ⟨Nat.le_refl _, fun _ _ => rfl, fun k h1 h2 => absurd (Nat.lt_of_lt_of_le h2 h1) (Nat.lt_irrefl _), fun _ _ h => h, fun _ _ h _ _ => h, fun _ o h => ⟨o, h⟩⟩
theorem Le.no {n n' : Nat} {μ μ' : Nat → Addr} {H H' : Hp} (l : Le n μ H n' μ' H') {a : Addr} (h : H' a = none) : H a = none := by
  cases e : H a with
  | none => rfl
  | some o =>
    obtain ⟨o', e'⟩ := l.dom a o e
    rw [h] at e'; cases e'
theorem Le.trans {n n1 n2 : Nat} {μ μ1 μ2 : Nat → Addr} {H H1 H2 : Hp} (a : Le n μ H n1 μ1 H1) (b : Le n1 μ1 H1 n2 μ2 H2) : Le n μ H n2 μ2 H2 where
  le := Nat.le_trans a.le b.le
  mu := fun k h => (b.mu k (Nat.lt_of_lt_of_le h a.le)).trans (a.mu k h)
  new := fun k h1 h2 => by
    by_cases hk : k < n1
    · rw [b.mu k hk]; exact a.new k h1 hk
    · exact a.no (b.new k (Nat.le_of_not_lt hk) h2)
  tup := fun c xs h => b.tup c xs (a.tup c xs h)
  fr := fun c o h ht hm => b.fr c o (a.fr c o h ht hm) ht fun k hk e => by
    by_cases hk' : k < n
    · rw [a.mu k hk'] at e; exact hm k hk' e
    · have := a.new k (Nat.le_of_not_lt hk') hk
      rw [e, h] at this; cases this
  dom := fun c o h => let ⟨o', h'⟩ := a.dom c o h; b.dom c o' h'

section
variable {D : Wd} {n n' : Nat} {μ μ' : Nat → Addr} {H H' : Hp}
theorem Tp.mono {K : PySem.W.Frag} {a : Addr} {xs : List V} (ht : ∀ a xs, H a = some (.tup xs) → H' a = some (.tup xs)) (h : Tp K H a xs) : Tp K H' a xs := by
  rcases h with h | h
  · exact .inl (ht _ _ h)
  · exact .inr h
mutual
theorem Rp.mono' (hn : n ≤ n') (hm : ∀ k, k < n → μ' k = μ k) (ht : ∀ a xs, H a = some (.tup xs) → H' a = some (.tup xs)) : ∀ {x : Val} {y : V}, Rp D n μ H x y → Rp D n' μ' H' x y
  | _, _, .non => .non
  | _, _, .bool b => .bool b
  | _, _, .int i => .int i
  | _, _, .str h => .str h
  | _, _, .tup h r => .tup (h.mono ht) (RpAll.mono' hn hm ht r)
  | _, _, .ref (k := k) h => by
    rw [← hm k h]
    exact .ref (Nat.lt_of_lt_of_le h hn)
theorem RpAll.mono' (hn : n ≤ n') (hm : ∀ k, k < n → μ' k = μ k) (ht : ∀ a xs, H a = some (.tup xs) → H' a = some (.tup xs)) : ∀ {l : List Val} {ys : List V}, RpAll D n μ H l ys → RpAll D n' μ' H' l ys
  | _, _, .nil => .nil
  | _, _, .cons h r => .cons (Rp.mono' hn hm ht h) (RpAll.mono' hn hm ht r)
end
theorem Rp.mono {x : Val} {y : V} (l : Le n μ H n' μ' H') (h : Rp D n μ H x y) : Rp D n' μ' H' x y := h.mono' l.le l.mu l.tup
theorem RpAll.mono {xs : List Val} {ys : List V} (l : Le n μ H n' μ' H') (h : RpAll D n μ H xs ys) : RpAll D n' μ' H' xs ys := h.mono' l.le l.mu l.tup
theorem RpAll.length : ∀ {l : List Val} {ys : List V}, RpAll D n μ H l ys → l.length = ys.length
  | _, _, .nil => rfl
  | _, _, .cons _ r => congrArg (· + 1) r.length
theorem RpAll.append : ∀ {l : List Val} {ys : List V} {l' : List Val} {ys' : List V}, RpAll D n μ H l ys → RpAll D n μ H l' ys' → RpAll D n μ H (l ++ l') (ys ++ ys')
  | _, _, _, _, .nil, q => q
  | _, _, _, _, .cons h r, q => .cons h (r.append q)
theorem RpAll.get : ∀ {l : List Val} {ys : List V} {i : Nat} {x : Val}, RpAll D n μ H l ys → l[i]? = some x → ∃ y, ys[i]? = some y ∧ Rp D n μ H x y
  | _, _, _, _, .nil, e => by simp at e
  | _, _, 0, _, .cons h _, e => by simp at e; subst e; exact ⟨_, rfl, h⟩
  | _, _, i + 1, x, .cons _ r, e => by
    obtain ⟨y, h1, h2⟩ := RpAll.get (i := i) (x := x) r (by simpa using e)
    exact ⟨y, by simpa using h1, h2⟩
theorem RpAll.take : ∀ {l : List Val} {ys : List V} (k : Nat), RpAll D n μ H l ys → RpAll D n μ H (l.take k) (ys.take k)
  | _, _, 0, _ => .nil
  | _, _, _ + 1, .nil => .nil
  | _, _, k + 1, .cons h r => .cons h (r.take k)
theorem RpAll.drop : ∀ {l : List Val} {ys : List V} (k : Nat), RpAll D n μ H l ys → RpAll D n μ H (l.drop k) (ys.drop k)
  | _, _, 0, r => r
  | _, _, _ + 1, .nil => .nil
  | _, _, k + 1, .cons _ r => r.drop k
theorem RpAll.set {x : Val} {y : V} (h : Rp D n μ H x y) : ∀ {l : List Val} {ys : List V} (k : Nat), RpAll D n μ H l ys → RpAll D n μ H (l.set k x) (ys.set k y)
  | _, _, _, .nil => .nil
  | _, _, 0, .cons _ r => .cons h r
  | _, _, k + 1, .cons h' r => .cons h' (RpAll.set h k r)
theorem RpAll.eraseIdx : ∀ {l : List Val} {ys : List V} (k : Nat), RpAll D n μ H l ys → RpAll D n μ H (l.eraseIdx k) (ys.eraseIdx k)
  | _, _, _, .nil => .nil
  | _, _, 0, .cons _ r => r
  | _, _, k + 1, .cons h' r => .cons h' (r.eraseIdx k)
theorem RpAll.dropLast {l : List Val} {ys : List V} (r : RpAll D n μ H l ys) : RpAll D n μ H l.dropLast ys.dropLast := by
  rw [List.dropLast_eq_take, List.dropLast_eq_take, r.length]
  exact r.take _
theorem RpAll.rep {l : List Val} {ys : List V} (r : RpAll D n μ H l ys) : ∀ k, RpAll D n μ H (List.replicate k l).flatten (List.replicate k ys).flatten
  | 0 => .nil
  | k + 1 => by
    rw [List.replicate_succ, List.replicate_succ, List.flatten_cons, List.flatten_cons]
    exact r.append (RpAll.rep r k)
end

/-- an object of the store at an address -/
inductive FsR (D : Wd) (n : Nat) (μ : Nat → Addr) (H : Hp) : List (Nat × Val) → List (Str × V) → Prop
  | nil : FsR D n μ H [] []
  | cons {f : Nat} {z : Str} {x : Val} {y : V} {fs : List (Nat × Val)} {gs : List (Str × V)} (h : D.S[f]? = some z) (h' : Rp D n μ H x y) (r : FsR D n μ H fs gs) : FsR D n μ H ((f, x) :: fs) ((z, y) :: gs)
inductive KvR (D : Wd) (n : Nat) (μ : Nat → Addr) (H : Hp) : List (List Int × Val) → List (List Key × V) → Prop
  | nil : KvR D n μ H [] []
  | cons {k : List Int} {x : Val} {y : V} {fs : List (List Int × Val)} {gs : List (List Key × V)} (h' : Rp D n μ H x y) (r : KvR D n μ H fs gs) : KvR D n μ H ((k, x) :: fs) ((k.map Sum.inl, y) :: gs)
def ObR (D : Wd) (n : Nat) (μ : Nat → Addr) (H : Hp) (a : Addr) : Ob → Prop
  | .lst l => ∃ ys, H a = some (.lst ys) ∧ RpAll D n μ H l ys
  | .frz l => ∃ o ys, H a = some (.frz o (.lst ys)) ∧ RpAll D n μ H l ys
  | .ins c fs => ∃ dx gs, H a = some (.ins (D.C c) dx gs) ∧ FsR D n μ H fs gs
  | .dct kvs => ∃ ks, H a = some (.dT ks) ∧ KvR D n μ H kvs ks
section
variable {D : Wd} {n n' : Nat} {μ μ' : Nat → Addr} {H H' : Hp}
theorem FsR.mono (hn : n ≤ n') (hm : ∀ k, k < n → μ' k = μ k) (ht : ∀ a xs, H a = some (.tup xs) → H' a = some (.tup xs)) : ∀ {fs : List (Nat × Val)} {gs : List (Str × V)}, FsR D n μ H fs gs → FsR D n' μ' H' fs gs
  | _, _, .nil => .nil
  | _, _, .cons h h' r => .cons h (h'.mono' hn hm ht) (FsR.mono hn hm ht r)
theorem KvR.mono (hn : n ≤ n') (hm : ∀ k, k < n → μ' k = μ k) (ht : ∀ a xs, H a = some (.tup xs) → H' a = some (.tup xs)) : ∀ {fs : List (List Int × Val)} {gs : List (List Key × V)}, KvR D n μ H fs gs → KvR D n' μ' H' fs gs
  | _, _, .nil => .nil
  | _, _, .cons h' r => .cons (h'.mono' hn hm ht) (KvR.mono hn hm ht r)
theorem ObR.mono (hn : n ≤ n') (hm : ∀ k, k < n → μ' k = μ k) (ht : ∀ a xs, H a = some (.tup xs) → H' a = some (.tup xs)) {a : Addr} (ha : H' a = H a) : ∀ {o : Ob}, ObR D n μ H a o → ObR D n' μ' H' a o
  | .lst _, ⟨ys, h, r⟩ => ⟨ys, ha.trans h, r.mono' hn hm ht⟩
  | .frz _, ⟨o, ys, h, r⟩ => ⟨o, ys, ha.trans h, r.mono' hn hm ht⟩
  | .ins _ _, ⟨dx, gs, h, r⟩ => ⟨dx, gs, ha.trans h, r.mono hn hm ht⟩
  | .dct _, ⟨ks, h, r⟩ => ⟨ks, ha.trans h, r.mono hn hm ht⟩
theorem ObR.some {a : Addr} {o : Ob} (h : ObR D n μ H a o) : ∃ u, H a = some u ∧ (∀ xs, u ≠ .tup xs) ∧ (∀ ps, u ≠ .tbl ps) ∧ (∀ φ, u ≠ .ext φ) := by
  cases o with
  | lst l => obtain ⟨ys, h, _⟩ := h; exact ⟨_, h, fun _ q => (nomatch q), fun _ q => (nomatch q), fun _ q => (nomatch q)⟩
  | frz l => obtain ⟨_, ys, h, _⟩ := h; exact ⟨_, h, fun _ q => (nomatch q), fun _ q => (nomatch q), fun _ q => (nomatch q)⟩
  | ins c fs => obtain ⟨_, _, h, _⟩ := h; exact ⟨_, h, fun _ q => (nomatch q), fun _ q => (nomatch q), fun _ q => (nomatch q)⟩
  | dct kvs => obtain ⟨_, h, _⟩ := h; exact ⟨_, h, fun _ q => (nomatch q), fun _ q => (nomatch q), fun _ q => (nomatch q)⟩
end

/-- the store is held -/
structure Ok (D : Wd) (n : Nat) (μ : Nat → Addr) (H : Hp) (st : Store) : Prop where
  len : st.length = n
  inj : ∀ i j, i < n → j < n → μ i = μ j → i = j
  ob : ∀ k o, st[k]? = some o → ObR D n μ H (μ k) o
  tabs : LamX.Tabs D.T H
  lamc : ∀ i f F, D.L = some (i, f, F) → H f = some (LamO f F) ∧ H F.c = some (LamX.CodeO F.c F.qual)
section
variable {D : Wd} {n n' : Nat} {μ μ' : Nat → Addr} {H H' : Hp} {st st' : Store}
theorem Ok.at (ok : Ok D n μ H st) {k : Nat} (h : k < n) : ∃ o, st[k]? = some o ∧ ObR D n μ H (μ k) o := by
  have hk : k < st.length := by rw [ok.len]; exact h
  exact ⟨st[k], List.getElem?_eq_getElem hk, ok.ob k _ (List.getElem?_eq_getElem hk)⟩
theorem Ok.lt (ok : Ok D n μ H st) {k : Nat} {o : Ob} (h : st[k]? = some o) : k < n := by
  rw [← ok.len]; exact (List.getElem?_eq_some_iff.mp h).1
theorem Ok.fresh (ok : Ok D n μ H st) {p : Addr} (h : H p = none) : ∀ k, k < n → μ k ≠ p := fun k hk e => by
  obtain ⟨o, _, r⟩ := ok.at hk
  obtain ⟨u, hu, _⟩ := r.some
  rw [e, h] at hu; cases hu
theorem tabs_keep {T : List (Addr × Str)} (h : LamX.Tabs T H) (k1 : ∀ b ps, H b = some (.tbl ps) → H' b = some (.tbl ps)) (k2 : ∀ b φ, H b = some (.ext φ) → H' b = some (.ext φ)) : LamX.Tabs T H' := fun p hp => by
  obtain ⟨ps, h1, h2, h3⟩ := h p hp
  refine ⟨ps, k1 _ _ h1, h2, fun pos cv hc => ?_⟩
  obtain ⟨c, e1, e2⟩ := h3 pos cv hc
  exact ⟨c, e1, k2 _ _ e2⟩
/-- the heap turns at mapped places, or grows; the store's objects are told anew -/
theorem Ok.turn (ok : Ok D n μ H st) (keep : ∀ b o, H b = some o → (∀ k, k < n → μ k ≠ b) → H' b = some o) (len : st'.length = n) (ob : ∀ k o, st'[k]? = some o → ObR D n μ H' (μ k) o) :
    Ok D n μ H' st' ∧ Le n μ H n μ H' := by
  have nm : ∀ b o, H b = some o → ((∃ xs, o = .tup xs) ∨ (∃ ps, o = .tbl ps) ∨ (∃ φ, o = .ext φ)) → ∀ k, k < n → μ k ≠ b := fun b o e hq k hk z => by
    obtain ⟨o2, _, r⟩ := ok.at hk
    obtain ⟨u, hu, h1, h2, h3⟩ := r.some
    rw [z, e] at hu; cases hu
    rcases hq with ⟨_, q⟩ | ⟨_, q⟩ | ⟨_, q⟩
    · exact h1 _ q
    · exact h2 _ q
    · exact h3 _ q
  refine ⟨⟨len, ok.inj, ob, tabs_keep ok.tabs (fun b ps e => keep b _ e (nm b _ e (.inr (.inl ⟨_, rfl⟩)))) fun b φ e => keep b _ e (nm b _ e (.inr (.inr ⟨_, rfl⟩))), fun i f F e => ?_⟩,
    ⟨Nat.le_refl _, fun _ _ => rfl, fun k h1 h2 => absurd (Nat.lt_of_lt_of_le h2 h1) (Nat.lt_irrefl _), fun a xs e => keep a _ e (nm a _ e (.inl ⟨_, rfl⟩)), fun a o e _ hm => keep a o e hm, fun a o e => ?_⟩⟩
  · obtain ⟨e1, e2⟩ := ok.lamc i f F e
    unfold LamO at e1 ⊢
    unfold LamX.CodeO at e2 ⊢
    exact ⟨keep _ _ e1 (nm _ _ e1 (.inr (.inr ⟨_, rfl⟩))), keep _ _ e2 (nm _ _ e2 (.inr (.inr ⟨_, rfl⟩)))⟩
  by_cases hm : ∃ k, k < n ∧ μ k = a
  · obtain ⟨k, hk, rfl⟩ := hm
    have hk' : k < st'.length := by rw [len]; exact hk
    obtain ⟨u, hu, _⟩ := (ob k _ (List.getElem?_eq_getElem hk')).some
    exact ⟨u, hu⟩
  · exact ⟨o, keep a o e fun k hk z => hm ⟨k, hk, z⟩⟩
/-- a new object of the heap -/
theorem Ok.upd (ok : Ok D n μ H st) {p : Addr} {u : HO} (hp : H p = none) : Ok D n μ (upd H p u) st ∧ Le n μ H n μ (upd H p u) := by
  have k0 : ∀ b o, H b = some o → L2.upd H p u b = some o := fun b o e => by rw [upd_ne (ne_of_none e hp)]; exact e
  refine ok.turn (fun b o e _ => k0 b o e) ok.len fun k o e => (ok.ob k o e).mono (Nat.le_refl _) (fun _ _ => rfl) (fun a xs e => k0 a _ e) (upd_ne (ok.fresh hp k (ok.lt e)))
/-- an object of the store is written -/
theorem Ok.set (ok : Ok D n μ H st) {k : Nat} {o : Ob} {u : HO} (hk : k < n) (hr : ObR D n μ (L2.upd H (μ k) u) (μ k) o) : Ok D n μ (L2.upd H (μ k) u) (st.set k o) ∧ Le n μ H n μ (L2.upd H (μ k) u) := by
  have k0 : ∀ b o, H b = some o → (∀ k, k < n → μ k ≠ b) → L2.upd H (μ k) u b = some o := fun b o e hm => by
    rw [upd_ne (Ne.symm (hm k hk))]; exact e
  have kt : ∀ a xs, H a = some (.tup xs) → L2.upd H (μ k) u a = some (.tup xs) := fun a xs e => k0 a _ e fun j hj z => by
    obtain ⟨_, _, r⟩ := ok.at hj
    obtain ⟨v, hv, h1, _⟩ := r.some
    rw [z, e] at hv; cases hv; exact h1 _ rfl
  refine ok.turn k0 (by rw [List.length_set]; exact ok.len) fun j o' e => ?_
  by_cases hj : j = k
  · subst hj
    rw [List.getElem?_set_self (by rw [ok.len]; exact hk)] at e
    cases e; exact hr
  · rw [List.getElem?_set_ne (Ne.symm hj)] at e
    exact (ok.ob j o' e).mono (Nat.le_refl _) (fun _ _ => rfl) kt (upd_ne fun z => hj (ok.inj j k (ok.lt e) hk z))
/-- an object of the heap that nobody holds becomes the store's -/
theorem Ok.map (ok : Ok D n μ H st) {a : Addr} {o : Ob} (ha : ∀ k, k < n → μ k ≠ a) (hr : ObR D n μ H a o) :
    Ok D (n + 1) (fun k => if k = n then a else μ k) H (st ++ [o]) := by
  have hm : ∀ k, k < n → (fun k => if k = n then a else μ k) k = μ k := fun k hk => if_neg (Nat.ne_of_lt hk)
  refine ⟨by rw [List.length_append, ok.len]; rfl, fun i j hi hj e => ?_, fun k o' e => ?_, ok.tabs, ok.lamc⟩
  · by_cases h1 : i = n
    · by_cases h2 : j = n
      · rw [h1, h2]
      · have hj' : j < n := by omega
        rw [if_pos h1, if_neg h2] at e
        exact absurd e.symm (ha j hj')
    · have hi' : i < n := by omega
      by_cases h2 : j = n
      · rw [if_neg h1, if_pos h2] at e
        exact absurd e (ha i hi')
      · have hj' : j < n := by omega
        rw [if_neg h1, if_neg h2] at e
        exact ok.inj i j hi' hj' e
  · by_cases hk : k = n
    · subst hk
      rw [← ok.len, List.getElem?_append_right (Nat.le_refl _)] at e
      simp at e; subst e
      simp only [if_pos]
      exact hr.mono (Nat.le_succ _) hm (fun _ _ h => h) rfl
    · have hk' : k < st.length := by
        have := (List.getElem?_eq_some_iff.mp e).1
        rw [List.length_append] at this
        have hl := ok.len
        simp at this; omega
      rw [List.getElem?_append_left hk'] at e
      simp only [if_neg hk]
      exact (ok.ob k o' e).mono (Nat.le_succ _) hm (fun _ _ h => h) rfl
theorem Le.map {n0 : Nat} {μ0 : Nat → Addr} {H0 : Hp} (l : Le n0 μ0 H0 n μ H) {a : Addr} (ha : H0 a = none) : Le n0 μ0 H0 (n + 1) (fun k => if k = n then a else μ k) H where
  le := Nat.le_succ_of_le l.le
  mu := fun k hk => by
    have : k ≠ n := Nat.ne_of_lt (Nat.lt_of_lt_of_le hk l.le)
    rw [if_neg this]; exact l.mu k hk
  new := fun k h1 h2 => by
    by_cases hk : k = n
    · rw [if_pos hk]; exact ha
    · rw [if_neg hk]; exact l.new k h1 (by omega)
  tup := l.tup
  fr := l.fr
  dom := l.dom
end

/-! ### values that are new lists -/
def Rt (D : Wd) (n : Nat) (μ : Nat → Addr) (H : Hp) : Tv → V → Prop
  | .v x, y => Rp D n μ H x y
  | .l xs, y => ∃ a ys, y = .ref a ∧ H a = some (.lst ys) ∧ RpAll D n μ H xs ys ∧ ∀ k, k < n → μ k ≠ a
/-- a new list was not there before -/
def Fre (H : Hp) : Tv → V → Prop
  | .v _, _ => True
  | .l _, y => ∀ a, y = .ref a → H a = none
/-- what holds of an answer -/
def Ans (D : Wd) (n : Nat) (μ : Nat → Addr) (H : Hp) (x : Tv) (st : Store) (Q : VK) : Prop :=
  ∀ n' μ' H' y, Ok D n' μ' H' st → Le n μ H n' μ' H' → Rt D n' μ' H' x y → Fre H x y → Q y H'
theorem Ans.le {D : Wd} {n n1 : Nat} {μ μ1 : Nat → Addr} {H H1 : Hp} {x : Tv} {st : Store} {Q : VK} (h : Ans D n μ H x st Q) (l : Le n μ H n1 μ1 H1) : Ans D n1 μ1 H1 x st Q :=
  fun n' μ' H' y ok l' r f => h n' μ' H' y ok (l.trans l') r (by
    cases x with
    | v _ => trivial
    | l _ => exact fun a e => l.no (f a e))
/-- a value at the state as it is -/
theorem Ans.here {D : Wd} {n : Nat} {μ : Nat → Addr} {H : Hp} {x : Val} {y : V} {st : Store} {Q : VK} (h : Ans D n μ H (.v x) st Q) (ok : Ok D n μ H st) (r : Rp D n μ H x y) : Q y H :=
  h n μ H y ok (Le.refl _ _ _) r trivial
theorem Rt.mono {D : Wd} {n n' : Nat} {μ μ' : Nat → Addr} {H H' : Hp} {x : Tv} {y : V} (l : Le n μ H n' μ' H') (h : Rt D n μ H x y) : Rt D n' μ' H' x y := by
  cases x with
  | v x => exact Rp.mono l h
  | l xs =>
    obtain ⟨a, ys, e, ha, r, hm⟩ := h
    refine ⟨a, ys, e, l.fr a _ ha (fun _ q => (nomatch q)) hm, r.mono l, fun k hk z => ?_⟩
    by_cases hk' : k < n
    · rw [l.mu k hk'] at z; exact hm k hk' z
    · have := l.new k (Nat.le_of_not_lt hk') hk
      rw [z, ha] at this; cases this

/-- a name's value -/
def EnvR (D : Wd) (n : Nat) (μ : Nat → Addr) (H : Hp) (ρ : Env) (σ : L2.St) : Prop :=
  σ.length = ρ.length ∧ (∀ (i : Nat) (x : Val), ρ[i]? = some (some x) → ∃ y, σ[i]? = some (some y) ∧ Rp D n μ H x y) ∧ ∀ i f F, D.L = some (i, f, F) → ρ[i]? = some none → σ[i]? = some (some (.ref f))
theorem EnvR.mono {D : Wd} {n n' : Nat} {μ μ' : Nat → Addr} {H H' : Hp} {ρ : Env} {σ : L2.St} (l : Le n μ H n' μ' H') (h : EnvR D n μ H ρ σ) : EnvR D n' μ' H' ρ σ :=
  ⟨h.1, fun i x e => let ⟨y, h1, h2⟩ := h.2.1 i x e; ⟨y, h1, h2.mono l⟩, h.2.2⟩
theorem EnvR.set {D : Wd} {n : Nat} {μ : Nat → Addr} {H : Hp} {ρ : Env} {σ : L2.St} {x : Val} {y : V} (i : Nat) (h : EnvR D n μ H ρ σ) (r : Rp D n μ H x y) : EnvR D n μ H (ρ.set i (some x)) (σ.set i (some y)) := by
  refine ⟨by rw [List.length_set, List.length_set]; exact h.1, fun j z e => ?_, fun j f F eL e => ?_⟩
  · by_cases hj : i = j
    · subst hj
      have hi : i < ρ.length := by
        have := (List.getElem?_eq_some_iff.mp e).1
        rwa [List.length_set] at this
      rw [List.getElem?_set_self hi] at e
      cases e
      exact ⟨y, List.getElem?_set_self (by rw [h.1]; exact hi), r⟩
    · rw [List.getElem?_set_ne hj] at e ⊢
      exact h.2.1 j z e
  · by_cases hj : i = j
    · subst hj
      have hi : i < ρ.length := by
        have := (List.getElem?_eq_some_iff.mp e).1
        rwa [List.length_set] at this
      rw [List.getElem?_set_self hi] at e
      cases e
    · rw [List.getElem?_set_ne hj] at e ⊢
      exact h.2.2 j f F eL e

/-- a new list is laid down -/
theorem mat_ok {D : Wd} {n n0 : Nat} {μ μ0 : Nat → Addr} {H H0 : Hp} {t : Tv} {y : V} {st st' : Store} {x : Val} (e : mat t st = .ok x st') (ok : Ok D n μ H st) (l : Le n0 μ0 H0 n μ H) (r : Rt D n μ H t y) (f : Fre H0 t y) :
    ∃ n' μ', Ok D n' μ' H st' ∧ Le n0 μ0 H0 n' μ' H ∧ Rp D n' μ' H x y ∧ (∀ z w, Rp D n μ H z w → Rp D n' μ' H z w) ∧ n ≤ n' ∧ ∀ k, k < n → μ' k = μ k := by
  cases t with
  | v z =>
    cases e
    exact ⟨n, μ, ok, l, r, fun _ _ h => h, Nat.le_refl _, fun _ _ => rfl⟩
  | l xs =>
    cases e
    obtain ⟨a, ys, rfl, ha, ra, hm⟩ := r
    have hmu : ∀ k, k < n → (fun k => if k = n then a else μ k) k = μ k := fun k hk => if_neg (Nat.ne_of_lt hk)
    refine ⟨n + 1, fun k => if k = n then a else μ k, ok.map hm ⟨ys, ha, ra⟩, l.map (f a rfl), ?_, fun z w h => h.mono' (Nat.le_succ _) hmu fun _ _ h => h, Nat.le_succ _, hmu⟩
    rw [ok.len]
    have q : Rp D (n + 1) (fun k => if k = n then a else μ k) H (.ref n) (.ref ((fun k => if k = n then a else μ k) n)) := .ref (Nat.lt_succ_self n)
    simp only [if_pos] at q
    exact q
end VI
end
section
set_option Elab.async false
set_option linter.all false
set_option maxRecDepth 100000
set_option maxHeartbeats 2000000
/-! VI2: readings and rules of expressions. -/
namespace VI
open PySem PySem.Spec PyProof.Rows L2

def rE (D : Wd) (f : Ev) : TE := fun σ H Q => ∃ n μ ρ st x st', Ok D n μ H st ∧ EnvR D n μ H ρ σ ∧ f ρ st = .ok x st' ∧ Ans D n μ H x st' Q
def rT (D : Wd) (f : Tst) : TT := fun σ H Q => ∃ n μ ρ st b st', Ok D n μ H st ∧ EnvR D n μ H ρ σ ∧ f ρ st = .ok b st' ∧ ∀ n' μ' H', Ok D n' μ' H' st' → Le n μ H n' μ' H' → Q b H'
def rA (D : Wd) (f : Avs) : TA := fun σ H Q => ∃ n μ ρ st xs st', Ok D n μ H st ∧ EnvR D n μ H ρ σ ∧ f ρ st = .ok xs st' ∧ ∀ n' μ' H' ys, Ok D n' μ' H' st' → Le n μ H n' μ' H' → RpAll D n' μ' H' xs ys → Q ys H'
def rO (D : Wd) (o : Op2) : R2 := fun x y H Q => ∃ n μ st a b z st', Ok D n μ H st ∧ Rt D n μ H a x ∧ Rt D n μ H b y ∧ o a b st = .ok z st' ∧ Ans D n μ H z st' Q
def rB (D : Wd) (b : B1) : List V → Hp → VK → Prop := fun ys H Q => ∃ n μ st a y z st', ys = [y] ∧ Ok D n μ H st ∧ Rt D n μ H a y ∧ b a st = .ok z st' ∧ Ans D n μ H z st' Q
abbrev SE (X : Cx) (D : Wd) (e : Expr) (f : Ev) : Prop := PE X e (rE D f)
abbrev ST (X : Cx) (D : Wd) (e : Expr) (f : Tst) : Prop := PT X e (rT D f)
abbrev SA (X : Cx) (D : Wd) (es : List Expr) (f : Avs) : Prop := PA X es (rA D f)
/-- the context: its written part, calm, its names apart -/
class Cok (X : Cx) (D : Wd) : Prop where
  hK : X.K = D.K
  calm : X.calm = true
  nd : X.N.Nodup
theorem PE_imp {X : Cx} {e : Expr} {t t' : TE} (h : PE X e t) (k : ∀ σ H Q, t' σ H Q → t σ H Q) : PE X e t' := ⟨fun pins s σ H Q I q => h.run pins s σ H Q I (k σ H Q q)⟩
theorem PT_imp {X : Cx} {e : Expr} {t t' : TT} (h : PT X e t) (k : ∀ σ H Q, t' σ H Q → t σ H Q) : PT X e t' := ⟨fun pins s σ H Q I q => h.run pins s σ H Q I (k σ H Q q)⟩
theorem PW_imp {X : Cx} {e : Expr} {t t' : TT} (h : PW X e t) (k : ∀ σ H Q, t' σ H Q → t σ H Q) : PW X e t' := ⟨fun wh pins s σ H Q I q => h.run wh pins s σ H Q I (k σ H Q q)⟩
theorem PA_imp {X : Cx} {e : List Expr} {t t' : TA} (h : PA X e t) (k : ∀ σ H Q, t' σ H Q → t σ H Q) : PA X e t' := ⟨fun pos pins s σ H Q I q => h.run pos pins s σ H Q I (k σ H Q q)⟩
theorem PS_imp {X : Cx} {e : Stmt} {t t' : TS} (h : PS X e t) (k : ∀ D σ H, t' D σ H → t D σ H) : PS X e t' := ⟨fun pins s σ H D I q => h.run pins s σ H D I (k D σ H q)⟩
theorem PSs_imp {X : Cx} {e : List Stmt} {t t' : TS} (h : PSs X e t) (k : ∀ D σ H, t' D σ H → t D σ H) : PSs X e t' := ⟨fun pins s σ H D I q => h.run pins s σ H D I (k D σ H q)⟩
theorem PI_imp {X : Cx} {tg e : Expr} {t t' : TI} (h : PI X tg e t) (k : ∀ σ H R, t' σ H R → t σ H R) : PI X tg e t' := ⟨fun pins s σ H R I q => h.run pins s σ H R I (k σ H R q)⟩

section
variable {D : Wd} {n : Nat} {μ : Nat → Addr} {H : Hp} {st st' : Store}
theorem ans_v {x : Val} {Q : VK} (h : Ans D n μ H (.v x) st Q) (ok : Ok D n μ H st) {y : V} (r : Rp D n μ H x y) : Q y H := h n μ H y ok (Le.refl _ _ _) r trivial
/-- a new tuple as the answer -/
theorem ans_tup {l : List Val} {Q : VK} (h : Ans D n μ H (.v (.tup l)) st Q) (ok : Ok D n μ H st) {ys : List V} (r : RpAll D n μ H l ys) {p : Addr} (hp : H p = none) : Q (.ref p) (upd H p (.tup ys)) := by
  obtain ⟨ok', l'⟩ := ok.upd (u := .tup ys) hp
  exact h n μ _ _ ok' l' (.tup (.inl upd_same) (r.mono l')) trivial
/-- a new list as the answer -/
theorem ans_lst {l : List Val} {Q : VK} (h : Ans D n μ H (.l l) st Q) (ok : Ok D n μ H st) {ys : List V} (r : RpAll D n μ H l ys) {p : Addr} (hp : H p = none) : Q (.ref p) (upd H p (.lst ys)) := by
  obtain ⟨ok', l'⟩ := ok.upd (u := .lst ys) hp
  exact h n μ _ _ ok' l' ⟨p, ys, rfl, upd_same, r.mono l', ok.fresh hp⟩ fun a e => by cases e; exact hp
theorem lstOf_ok {t : Tv} {y : V} {xs : List Val} (ok : Ok D n μ H st) (r : Rt D n μ H t y) (e : lstOf t st = some xs) : ∃ a ys, y = .ref a ∧ H a = some (.lst ys) ∧ RpAll D n μ H xs ys := by
  cases t with
  | l zs =>
    cases e
    obtain ⟨a, ys, e1, ha, ra, _⟩ := r
    exact ⟨a, ys, e1, ha, ra⟩
  | v x =>
    cases x with
    | ref k =>
      cases r
      skip
      cases hk : st[k]? with
      | none => simp [lstOf, hk] at e
      | some o =>
        cases o with
        | lst zs =>
          simp [lstOf, hk] at e; subst e
          obtain ⟨ys, h, ra⟩ := ok.ob k _ hk
          exact ⟨_, ys, rfl, h, ra⟩
        | _ => simp [lstOf, hk] at e
    | _ => cases e
theorem seqOf_ok {t : Tv} {y : V} {xs : List Val} (ok : Ok D n μ H st) (r : Rt D n μ H t y) (e : seqOf t st = some xs) :
    ∃ a ys, y = .ref a ∧ RpAll D n μ H xs ys ∧ (SqL D.K H a ys ∨ (t = .v (.tup xs) ∧ SqT D.K H a ys)) := by
  cases t with
  | l zs =>
    cases e
    obtain ⟨a, ys, e1, ha, ra, _⟩ := r
    exact ⟨a, ys, e1, ra, .inl (SqL.of ha)⟩
  | v x =>
    cases x with
    | tup zs =>
      cases e
      cases r with
      | tup h ra => exact ⟨_, _, rfl, ra, .inr ⟨rfl, h.sq⟩⟩
    | ref k =>
      cases r
      skip
      cases hk : st[k]? with
      | none => simp [seqOf, hk] at e
      | some o =>
        cases o with
        | lst zs =>
          simp [seqOf, hk] at e; subst e
          obtain ⟨ys, h, ra⟩ := ok.ob k _ hk
          exact ⟨_, ys, rfl, ra, .inl (SqL.of h)⟩
        | frz zs =>
          simp [seqOf, hk] at e; subst e
          obtain ⟨o, ys, h, ra⟩ := ok.ob k _ hk
          exact ⟨_, ys, rfl, ra, .inl (.inl (.inr ⟨o, h⟩))⟩
        | _ => simp [seqOf, hk] at e
    | _ => cases e
end

section
variable {X : Cx} {D : Wd} {a b c e : Expr} {es : List Expr} {fa fb fc : Ev} {pos : Pos}
/-! ### constants, names -/
theorem e_C {x : Val} {y : V} (h : PE X e (tC y)) (r : ∀ n μ H, Rp D n μ H x y) : SE X D e (eC x) := PE_imp h fun σ H Q ⟨n, μ, ρ, st, z, st', ok, er, hf, an⟩ => by
  cases hf
  exact ans_v an ok (r _ _ _)
theorem e_int {i : Int} {j : Nat} : SE X D (.Constant (.int i) j pos) (eC (.int i)) := e_C pe_int fun _ _ _ => .int i
theorem e_bool {i : Bool} {j : Nat} : SE X D (.Constant (.bool i) j pos) (eC (.bool i)) := e_C pe_bl fun _ _ _ => .bool i
theorem e_non {j : Nat} : SE X D (.Constant .none j pos) (eC .non) := e_C pe_non fun _ _ _ => .non
theorem e_str {k : Nat} {z : Str} {j : Nat} (h : D.S[k]? = some z) : SE X D (.Constant (.str z) j pos) (eC (.str k)) := e_C pe_str fun _ _ _ => .str h
theorem e_V {i : Nat} {x : Str} (hN : X.N[i]? = some x) (hv : Vis X.env.scope x) (hd : (x == ("__debug__" : Str)) = false) (hcd : (x == ("__classdict__" : Str)) = false) : SE X D (.Name x pos) (eV i) :=
  PE_imp (pe_var hN hv hd hcd) fun σ H Q ⟨n, μ, ρ, st, z, st', ok, er, hf, an⟩ => by
    unfold eV at hf
    cases h1 : ρ[i]? with
    | none => rw [h1] at hf; cases hf
    | some o =>
      cases o with
      | none => rw [h1] at hf; cases hf
      | some w =>
        rw [h1] at hf
        cases hf
        obtain ⟨y, hy, r⟩ := er.2.1 i _ h1
        exact ⟨y, hy, ans_v an ok r⟩

/-! ### arguments, displays -/
theorem a_nil : SA X D [] aNil := PA_imp pa_nil fun σ H Q ⟨n, μ, ρ, st, z, st', ok, er, hf, an⟩ => by
  cases hf
  exact an n μ H [] ok (Le.refl _ _ _) .nil
theorem cons_rd {r : Avs} {σ : L2.St} {H : Hp} {Q : List V → Hp → Prop} (h : rA D (aCons fa r) σ H Q) : tCons (rE D fa) (rA D r) σ H Q := by
  obtain ⟨n, μ, ρ, st, z, st', ok, er, hf, an⟩ := h
  obtain ⟨t, s1, h1, hf⟩ := bind_eq_ok hf
  obtain ⟨x, s2, h2, hf⟩ := bind_eq_ok hf
  obtain ⟨xs, s3, h3, hf⟩ := bind_eq_ok hf
  cases hf
  refine ⟨n, μ, ρ, st, t, s1, ok, er, h1, fun n1 μ1 H1 y1 ok1 l1 r1 f1 => ?_⟩
  obtain ⟨n2, μ2, ok2, l2, r2, tr, hn, hm⟩ := mat_ok h2 ok1 l1 r1 f1
  refine ⟨n2, μ2, ρ, s2, xs, _, ok2, er.mono l2, h3, fun n3 μ3 H3 ys ok3 l3 r3 => ?_⟩
  exact an n3 μ3 H3 _ ok3 (l2.trans l3) (.cons (r2.mono l3) r3)
theorem a_cons {r : Avs} (ha : SE X D e fa) (hr : SA X D es r) (hs : starEach (e :: es) X.env = (false, eval e X.env) :: starEach es X.env := by rfl) : SA X D (e :: es) (aCons fa r) :=
  PA_imp (pa_cons ha hr hs) fun _ _ _ h => cons_rd h
theorem e_tup {r : Avs} {k : Nat} (h : SA X D es r) : SE X D (.Tuple es k pos) (eTup r) := PE_imp (pe_tup h) fun σ H Q ⟨n, μ, ρ, st, z, st', ok, er, hf, an⟩ => by
  obtain ⟨xs, s1, h1, hf⟩ := bind_eq_ok hf
  by_cases hl : xs.length ≤ LIM
  · rw [if_pos hl] at hf
    cases hf
    refine ⟨n, μ, ρ, st, xs, _, ok, er, h1, fun n1 μ1 H1 ys ok1 l1 r1 => ⟨by rw [← r1.length, sizeLine_eq]; exact hl, fun p hp => ans_tup (an.le l1) ok1 r1 hp⟩⟩
  · rw [if_neg hl] at hf; cases hf
theorem e_lst {r : Avs} (h : SA X D es r) : SE X D (.List es pos) (eLst r) := PE_imp (pe_lst h) fun σ H Q ⟨n, μ, ρ, st, z, st', ok, er, hf, an⟩ => by
  obtain ⟨xs, s1, h1, hf⟩ := bind_eq_ok hf
  by_cases hl : xs.length ≤ LIM
  · rw [if_pos hl] at hf
    cases hf
    refine ⟨n, μ, ρ, st, xs, _, ok, er, h1, fun n1 μ1 H1 ys ok1 l1 r1 => ⟨by rw [← r1.length, sizeLine_eq]; exact hl, fun p hp => ans_lst (an.le l1) ok1 r1 hp⟩⟩
  · rw [if_neg hl] at hf; cases hf

/-! ### two-place operations -/
theorem bin_rd {o : Op2} {σ : L2.St} {H : Hp} {Q : VK} (h : rE D (eBin o fa fb) σ H Q) : tOp (rO D o) (rE D fa) (rE D fb) σ H Q := by
  obtain ⟨n, μ, ρ, st, z, st', ok, er, hf, an⟩ := h
  obtain ⟨x, s1, h1, hf⟩ := bind_eq_ok hf
  obtain ⟨y, s2, h2, hf⟩ := bind_eq_ok hf
  exact ⟨n, μ, ρ, st, x, s1, ok, er, h1, fun n1 μ1 H1 y1 ok1 l1 r1 f1 => ⟨n1, μ1, ρ, s1, y, s2, ok1, er.mono l1, h2, fun n2 μ2 H2 y2 ok2 l2 r2 f2 => ⟨n2, μ2, s2, x, y, z, st', ok2, r1.mono l2, r2, hf, an.le (l1.trans l2)⟩⟩⟩
theorem e_bin {op : Operator} {o : Op2} (ho : OpR X (binaryOp op) (rO D o)) (ha : SE X D a fa) (hb : SE X D b fb) : SE X D (.BinOp a op b pos) (eBin o fa fb) :=
  PE_imp (pe_op ho ha hb) fun _ _ _ h => bin_rd h
theorem e_cmp {op : CmpOp} {o : Op2} (ho : OpR X (compareOp op) (rO D o)) (ha : SE X D a fa) (hb : SE X D b fb) (hm : behindInMarks op b = false := by rfl) : SE X D (.Compare a [op] [b] pos) (eBin o fa fb) :=
  PE_imp (pe_cmpR ho ha hb hm) fun _ _ _ h => bin_rd h
theorem e_neg (ha : SE X D a fa) : SE X D (.UnaryOp .USub a pos) (eNeg fa) := PE_imp (pe_un un_neg ha) fun σ H Q ⟨n, μ, ρ, st, z, st', ok, er, hf, an⟩ => by
  obtain ⟨x, s1, h1, hf⟩ := bind_eq_ok hf
  refine ⟨n, μ, ρ, st, x, s1, ok, er, h1, fun n1 μ1 H1 y1 ok1 l1 r1 f1 => ?_⟩
  cases x with
  | l _ => cases hf
  | v x =>
    cases x with
    | int i => cases hf; cases r1; exact ⟨i, rfl, ans_v (an.le l1) ok1 (.int _)⟩
    | _ => cases hf
theorem e_not (ha : SE X D a fa) : SE X D (.UnaryOp .Not a pos) (eNot fa) := PE_imp (pe_not ha) fun σ H Q ⟨n, μ, ρ, st, z, st', ok, er, hf, an⟩ => by
  obtain ⟨x, s1, h1, hf⟩ := bind_eq_ok hf
  refine ⟨n, μ, ρ, st, x, s1, ok, er, h1, fun n1 μ1 H1 y1 ok1 l1 r1 f1 => ?_⟩
  cases x with
  | l _ => cases hf
  | v x =>
    cases x with
    | bool i => cases hf; cases r1; exact ⟨i, rfl, ans_v (an.le l1) ok1 (.bool _)⟩
    | _ => cases hf
theorem e_one {op : BoolOp} (ha : SE X D a fa) : SE X D (.BoolOp op [a] pos) fa := pe_one ha
theorem e_and {rest : List Expr} (ha : SE X D a fa) (hb : SE X D (.BoolOp .And (b :: rest) pos) fb) : SE X D (.BoolOp .And (a :: b :: rest) pos) (eAnd fa fb) := PE_imp (pe_and ha hb) fun σ H Q ⟨n, μ, ρ, st, z, st', ok, er, hf, an⟩ => by
  obtain ⟨x, s1, h1, hf⟩ := bind_eq_ok hf
  refine ⟨n, μ, ρ, st, x, s1, ok, er, h1, fun n1 μ1 H1 y1 ok1 l1 r1 f1 => ?_⟩
  cases x with
  | l _ => cases hf
  | v x =>
    cases x with
    | bool i =>
      cases r1
      refine ⟨i, rfl, ?_⟩
      cases i with
      | true => exact ⟨n1, μ1, ρ, s1, z, st', ok1, er.mono l1, hf, an.le l1⟩
      | false => cases hf; exact ans_v (an.le l1) ok1 (.bool _)
    | _ => cases hf
theorem e_or {rest : List Expr} (ha : SE X D a fa) (hb : SE X D (.BoolOp .Or (b :: rest) pos) fb) : SE X D (.BoolOp .Or (a :: b :: rest) pos) (eOr fa fb) := PE_imp (pe_or ha hb) fun σ H Q ⟨n, μ, ρ, st, z, st', ok, er, hf, an⟩ => by
  obtain ⟨x, s1, h1, hf⟩ := bind_eq_ok hf
  refine ⟨n, μ, ρ, st, x, s1, ok, er, h1, fun n1 μ1 H1 y1 ok1 l1 r1 f1 => ?_⟩
  cases x with
  | l _ => cases hf
  | v x =>
    cases x with
    | bool i =>
      cases r1
      refine ⟨i, rfl, ?_⟩
      cases i with
      | false => exact ⟨n1, μ1, ρ, s1, z, st', ok1, er.mono l1, hf, an.le l1⟩
      | true => cases hf; exact ans_v (an.le l1) ok1 (.bool _)
    | _ => cases hf
theorem e_chain {op op' : CmpOp} {o o' : Op2} (ho : OpR X (compareOp op) (rO D o)) (ho' : OpR X (compareOp op') (rO D o')) (ha : SE X D a fa) (hb : SE X D b fb) (hc : SE X D c fc)
    (hm : lastMarks [op, op'] [b, c] = false := by rfl) : SE X D (.Compare a [op, op'] [b, c] pos) (eChain o o' fa fb fc) := PE_imp (pe_chain ho ho' ha hb hc hm) fun σ H Q ⟨n, μ, ρ, st, z, st', ok, er, hf, an⟩ => by
  obtain ⟨x, s1, h1, hf⟩ := bind_eq_ok hf
  obtain ⟨y, s2, h2, hf⟩ := bind_eq_ok hf
  obtain ⟨w, s3, h3, hf⟩ := bind_eq_ok hf
  refine ⟨n, μ, ρ, st, x, s1, ok, er, h1, fun n1 μ1 H1 y1 ok1 l1 r1 f1 => ⟨n1, μ1, ρ, s1, y, s2, ok1, er.mono l1, h2, fun n2 μ2 H2 y2 ok2 l2 r2 f2 => ⟨n2, μ2, s2, x, y, w, s3, ok2, r1.mono l2, r2, h3, fun n3 μ3 H3 y3 ok3 l3 r3 f3 => ?_⟩⟩⟩
  cases w with
  | l _ => cases hf
  | v w =>
    cases w with
    | bool k =>
      cases r3
      refine ⟨k, rfl, ?_⟩
      cases k with
      | false => cases hf; exact ans_v (an.le (l1.trans (l2.trans l3))) ok3 (.bool _)
      | true =>
        simp only [if_true] at hf ⊢
        obtain ⟨q, s4, h4, hf⟩ := bind_eq_ok hf
        exact ⟨n3, μ3, ρ, s3, q, s4, ok3, er.mono (l1.trans (l2.trans l3)), h4, fun n4 μ4 H4 y4 ok4 l4 r4 f4 => ⟨n4, μ4, s4, y, q, z, st', ok4, (r2.mono l3).mono l4, r4, hf, an.le (l1.trans (l2.trans (l3.trans l4)))⟩⟩
    | _ => cases hf

/-! ### tests -/
theorem t_B (h : ∀ whole, isTrue e X.env whole = (do let v ← whole; standAt e.pos; holding [v] (truthy v))) (he : SE X D e fa) : ST X D e (tB fa) := PT_imp (pt_val he h) fun σ H Q ⟨n, μ, ρ, st, z, st', ok, er, hf, an⟩ => by
  obtain ⟨x, s1, h1, hf⟩ := bind_eq_ok hf
  refine ⟨n, μ, ρ, st, x, s1, ok, er, h1, fun n1 μ1 H1 y1 ok1 l1 r1 f1 => ?_⟩
  cases x with
  | l _ => cases hf
  | v x =>
    cases x with
    | bool i => cases hf; cases r1; exact ⟨_, rfl, an n1 μ1 H1 ok1 l1⟩
    | _ => cases hf
theorem t_cmp {op : CmpOp} {o : Op2} (ho : OpR X (compareOp op) (rO D o)) (ha : SE X D a fa) (hb : SE X D b fb) (hm : behindInMarks op b = false := by rfl) : ST X D (.Compare a [op] [b] pos) (tB (eBin o fa fb)) :=
  PT_imp (pt_cmpR ho ha hb hm) fun σ H Q ⟨n, μ, ρ, st, z, st', ok, er, hf, an⟩ => by
    obtain ⟨x, s1, h1, hf⟩ := bind_eq_ok hf
    refine bin_rd (fa := fa) (fb := fb) ⟨n, μ, ρ, st, x, s1, ok, er, h1, fun n1 μ1 H1 y1 ok1 l1 r1 f1 => ?_⟩
    cases x with
    | l _ => cases hf
    | v x =>
      cases x with
      | bool i => cases hf; cases r1; exact ⟨_, rfl, an n1 μ1 H1 ok1 l1⟩
      | _ => cases hf
theorem t_not {t : Tst} (h : ST X D a t) : ST X D (.UnaryOp .Not a pos) (VI.tNot t) := PT_imp (pt_not h) fun σ H Q ⟨n, μ, ρ, st, z, st', ok, er, hf, an⟩ => by
  obtain ⟨x, s1, h1, hf⟩ := bind_eq_ok hf
  cases hf
  exact ⟨n, μ, ρ, st, x, _, ok, er, h1, fun n1 μ1 H1 ok1 l1 => an n1 μ1 H1 ok1 l1⟩
abbrev SW (X : Cx) (D : Wd) (e : Expr) (f : Tst) : Prop := PW X e (rT D f)
theorem w_and1 {t : Tst} (h : ST X D a t) : SW X D (.BoolOp .And [a] pos) t := pw_and1 h
theorem w_or1 {t : Tst} (h : ST X D a t) : SW X D (.BoolOp .Or [a] pos) t := pw_or1 h
theorem w_and {t u : Tst} {rest : List Expr} (ha : ST X D a t) (hb : SW X D (.BoolOp .And (b :: rest) pos) u) : SW X D (.BoolOp .And (a :: b :: rest) pos) (VI.tAnd t u) := PW_imp (pw_and ha hb) fun σ H Q ⟨n, μ, ρ, st, z, st', ok, er, hf, an⟩ => by
  obtain ⟨x, s1, h1, hf⟩ := bind_eq_ok hf
  refine ⟨n, μ, ρ, st, x, s1, ok, er, h1, fun n1 μ1 H1 ok1 l1 => ?_⟩
  cases x with
  | true => exact ⟨n1, μ1, ρ, s1, z, st', ok1, er.mono l1, hf, fun n2 μ2 H2 ok2 l2 => an n2 μ2 H2 ok2 (l1.trans l2)⟩
  | false => cases hf; exact an n1 μ1 H1 ok1 l1
theorem w_or {t u : Tst} {rest : List Expr} (ha : ST X D a t) (hb : SW X D (.BoolOp .Or (b :: rest) pos) u) : SW X D (.BoolOp .Or (a :: b :: rest) pos) (VI.tOr t u) := PW_imp (pw_or ha hb) fun σ H Q ⟨n, μ, ρ, st, z, st', ok, er, hf, an⟩ => by
  obtain ⟨x, s1, h1, hf⟩ := bind_eq_ok hf
  refine ⟨n, μ, ρ, st, x, s1, ok, er, h1, fun n1 μ1 H1 ok1 l1 => ?_⟩
  cases x with
  | false => exact ⟨n1, μ1, ρ, s1, z, st', ok1, er.mono l1, hf, fun n2 μ2 H2 ok2 l2 => an n2 μ2 H2 ok2 (l1.trans l2)⟩
  | true => cases hf; exact an n1 μ1 H1 ok1 l1
theorem t_w {t : Tst} (h : SW X D e t) : ST X D e t := h.pt
theorem e_if {t : Tst} (hc : ST X D c t) (ha : SE X D a fa) (hb : SE X D b fb) : SE X D (.IfExp c a b pos) (eIf t fa fb) := PE_imp (pe_ifExp hc ha hb) fun σ H Q ⟨n, μ, ρ, st, z, st', ok, er, hf, an⟩ => by
  obtain ⟨x, s1, h1, hf⟩ := bind_eq_ok hf
  refine ⟨n, μ, ρ, st, x, s1, ok, er, h1, fun n1 μ1 H1 ok1 l1 => ?_⟩
  cases x with
  | true => exact ⟨n1, μ1, ρ, s1, z, st', ok1, er.mono l1, hf, an.le l1⟩
  | false => exact ⟨n1, μ1, ρ, s1, z, st', ok1, er.mono l1, hf, an.le l1⟩
theorem t_tru [Cok X D] (h : ∀ whole, isTrue e X.env whole = (do let v ← whole; standAt e.pos; holding [v] (truthy v))) (he : SE X D e fa) : ST X D e (tTru fa) := PT_imp (pt_truth he h) fun σ H Q ⟨n, μ, ρ, st, z, st', ok, er, hf, an⟩ => by
  obtain ⟨x, s1, h1, hf⟩ := bind_eq_ok hf
  refine ⟨n, μ, ρ, st, x, s1, ok, er, h1, fun n1 μ1 H1 y1 ok1 l1 r1 f1 => ?_⟩
  have hK := Cok.hK (X := X) (D := D)
  cases ht : tru x s1 with
  | none => rw [ht] at hf; cases hf
  | some k =>
    rw [ht] at hf
    cases hf
    have em : ∀ {xs : List Val} {ys : List V}, RpAll D n1 μ1 H1 xs ys → (!xs.isEmpty) = !ys.isEmpty := fun r => by cases r <;> rfl
    refine ⟨_, ?_, an n1 μ1 H1 ok1 l1⟩
    rw [hK]
    cases x with
    | l xs =>
      cases ht
      obtain ⟨p, ys, rfl, hp, ra, _⟩ := r1
      exact .inl ⟨ys, SqL.of hp, em ra⟩
    | v x =>
      cases x with
      | non => cases ht; cases r1; exact rfl
      | bool b => cases ht; cases r1; exact rfl
      | int i => cases ht; cases r1; exact rfl
      | str i => cases ht
      | tup xs =>
        cases ht
        cases r1 with
        | tup h ra => exact .inr (.inl ⟨_, h.sq, em ra⟩)
      | ref k =>
        cases r1
        skip
        cases hk : st'[k]? with
        | none => simp [tru, hk] at ht
        | some o =>
          cases o with
          | lst xs =>
            simp only [tru, hk, Option.some.injEq] at ht; subst ht
            obtain ⟨ys, h, ra⟩ := ok1.ob k _ hk
            exact .inl ⟨ys, SqL.of h, em ra⟩
          | frz xs =>
            simp only [tru, hk, Option.some.injEq] at ht; subst ht
            obtain ⟨o, ys, h, ra⟩ := ok1.ob k _ hk
            exact .inl ⟨ys, .inl (.inr ⟨o, h⟩), em ra⟩
          | _ => simp [tru, hk] at ht
end
end VI
end
section
set_option Elab.async false
set_option linter.all false
set_option maxRecDepth 100000
set_option maxHeartbeats 4000000
/-! VI3: operators and comparisons by values. -/
namespace VI
open PySem PySem.Spec PyProof.Rows L2
section
variable {X : Cx} {D : Wd}
theorem s_add [C : Cok X D] : OpR X (binaryOp .Add) (rO D oAdd) := by
  intro pins s σ H x y v u Q I rx ry ⟨n, μ, st, a, b, z, st', ok, ra, rb, hf, an⟩
  unfold oAdd at hf
  split at hf
  · cases hf; cases ra; cases rb
    exact op_add pins s σ H _ _ v u Q I rx ry ⟨_, _, rfl, rfl, ans_v an ok (.int _)⟩
  · rename_i sx l l'
    by_cases hl : l.length + l'.length ≤ LIM
    · rw [if_pos hl] at hf
      cases hf
      cases ra with
      | tup h1 q1 =>
        cases rb with
        | tup h2 q2 =>
          refine op_catA pins s σ H _ _ v u Q I rx ry ⟨_, _, _, _, rfl, rfl, ?_, ?_, ?_, fun e => ?_, fun e1 e2 => ?_, fun e1 e2 p hp => ans_tup an ok (q1.append q2) hp⟩
          · rw [C.hK]; exact h1.sq
          · rw [C.hK]; exact h2.sq
          · rw [← q1.length, ← q2.length, sizeLine_eq]; exact hl
          · subst e; cases q1; exact ans_v an ok (.tup h2 q2)
          · subst e2
            cases q2
            exact ans_v an ok (.tup h1 (by rw [List.append_nil]; exact q1))
    · rw [if_neg hl] at hf; cases hf
  · cases h1 : lstOf a st with
    | none => rw [h1] at hf; simp at hf
    | some l =>
      cases h2 : lstOf b st with
      | none => rw [h1, h2] at hf; cases hf
      | some l' =>
        rw [h1, h2] at hf
        by_cases hl : l.length + l'.length ≤ LIM
        · simp only [if_pos hl] at hf
          cases hf
          obtain ⟨a1, ys, rfl, ha, qa⟩ := lstOf_ok ok ra h1
          obtain ⟨b1, zs, rfl, hb, qb⟩ := lstOf_ok ok rb h2
          exact op_cat pins s σ H _ _ v u Q I rx ry ⟨_, _, _, _, rfl, rfl, ha, hb, by rw [← qa.length, ← qb.length, sizeLine_eq]; exact hl, fun p hp => ans_lst an ok (qa.append qb) hp⟩
        · simp only [if_neg hl] at hf; cases hf
theorem s_sub : OpR X (binaryOp .Sub) (rO D oSub) := by
  intro pins s σ H x y v u Q I rx ry ⟨n, μ, st, a, b, z, st', ok, ra, rb, hf, an⟩
  unfold oSub at hf
  split at hf
  · cases hf; cases ra; cases rb
    exact op_sub pins s σ H _ _ v u Q I rx ry ⟨_, _, rfl, rfl, ans_v an ok (.int _)⟩
  · cases hf
theorem s_mod : OpR X (binaryOp .Mod) (rO D oMod) := by
  intro pins s σ H x y v u Q I rx ry ⟨n, μ, st, a, b, z, st', ok, ra, rb, hf, an⟩
  unfold oMod at hf
  split at hf
  · rename_i sx i j
    by_cases hj : j ≠ 0
    · rw [if_pos hj] at hf
      cases hf; cases ra; cases rb
      exact op_modN pins s σ H _ _ v u Q I rx ry ⟨_, _, rfl, rfl, hj, ans_v an ok (.int _)⟩
    · rw [if_neg hj] at hf; cases hf
  · cases hf
theorem s_div : OpR X (binaryOp .FloorDiv) (rO D oDiv) := by
  intro pins s σ H x y v u Q I rx ry ⟨n, μ, st, a, b, z, st', ok, ra, rb, hf, an⟩
  unfold oDiv at hf
  split at hf
  · rename_i sx i j
    by_cases hj : j ≠ 0 ∧ j.natAbs < 1073741824
    · rw [if_pos hj] at hf
      cases hf; cases ra; cases rb
      exact op_fdivN pins s σ H _ _ v u Q I rx ry ⟨_, _, rfl, rfl, hj, ans_v an ok (.int _)⟩
    · rw [if_neg hj] at hf; cases hf
  · cases hf
theorem s_pow : OpR X (binaryOp .Pow) (rO D oPow) := by
  intro pins s σ H x y v u Q I rx ry ⟨n, μ, st, a, b, z, st', ok, ra, rb, hf, an⟩
  unfold oPow at hf
  split at hf
  · rename_i sx i j
    by_cases hj : 0 ≤ j ∧ j ≤ 64 ∧ i.natAbs < 2 ^ 200
    · rw [if_pos hj] at hf
      cases hf; cases ra; cases rb
      obtain ⟨t, rfl⟩ := rx
      obtain ⟨t', rfl⟩ := ry
      refine pow_int hj.1 ?_ ⟨.int _, H, I.tok _, ⟨_, rfl⟩, ans_v an ok (.int _)⟩
      have hb : Builtin.Int.intBits i ≤ 200 := intBits_le hj.2.2
      have h1 : ((Builtin.Int.intBits i : Nat) : Int) * j ≤ 200 * j := Int.mul_le_mul_of_nonneg_right (by omega) hj.1
      have h2 : (200 : Int) * j ≤ 200 * 64 := by have := hj.2.1; omega
      have h3 : (2 : Int) ^ 27 = 134217728 := by decide
      omega
    · rw [if_neg hj] at hf; cases hf
  · cases hf
end
/-! ### a tuple times 1, or 0 -/
theorem tuple_mul1 (l : Addr) (items : Array Value) (n : Nat) (dd : Option Addr) (sl : Array (Option Value)) (x : Int) (u : Tok) (c0 : (decide (x < -(2 ^ 63)) || decide (x ≥ 2 ^ 63)) = false) (c1 : (items.isEmpty || x == 1) = true) :
    Meets (Builtin.«tuple.__mul__» ⟨[.ref l, .int x u], []⟩) (fun _ R s => s.heap.get? l = some { cls := .type "tuple", dict := dd, data := .seq items n, slots := sl } ∧ R (.ok (.ret (Value.ref l))) s) :=
  .of_wp fun prog w A R s h => by
    obtain ⟨hp, g, d, tk, os⟩ := s
    obtain ⟨hl, h⟩ := h
    have f1 := AutoSeq1.idx_int
    wp_walk using wpAny_loadPart' hl
    repeat (first
      | (refine wpAny_ite_false (decide_eq_false (by rw [c0]; exact Bool.false_ne_true)) ?_; wp_walk using wpAny_loadPart' hl)
      | (refine wpAny_ite_true (decide_eq_true (by rw [c1])) ?_; wp_walk using wpAny_loadPart' hl))
    exact ⟨_, rfl, h⟩
theorem tuple_mul0 (l : Addr) (items : Array Value) (n : Nat) (dd : Option Addr) (sl : Array (Option Value)) (x : Int) (u : Tok) (c0 : (decide (x < -(2 ^ 63)) || decide (x ≥ 2 ^ 63)) = false) (c1 : (items.isEmpty || x == 1) = false) (c2 : (decide (x ≤ 0) || items.isEmpty) = true) :
    Meets (Builtin.«tuple.__mul__» ⟨[.ref l, .int x u], []⟩) (fun _ R s => s.heap.get? l = some { cls := .type "tuple", dict := dd, data := .seq items n, slots := sl } ∧
      R (.ok (.ret (Value.ref s.heap.objs.size))) { s with heap := s.heap.push { cls := Value.type "tuple", data := Data.seq #[] }, toks := s.toks }) :=
  .of_wp fun prog w A R s h => by
    obtain ⟨hp, g, d, tk, os⟩ := s
    obtain ⟨hl, h⟩ := h
    have f1 := AutoSeq1.idx_int
    wp_walk using wpAny_loadPart' hl
    repeat (first
      | (refine wpAny_ite_false (decide_eq_false (by rw [c0]; exact Bool.false_ne_true)) ?_; wp_walk using wpAny_loadPart' hl)
      | (refine wpAny_ite_false (decide_eq_false (by rw [c1]; exact Bool.false_ne_true)) ?_; wp_walk using wpAny_loadPart' hl)
      | (refine wpAny_ite_true (decide_eq_true (by rw [c2])) ?_; wp_walk using wpAny_loadPart' hl))
    exact ⟨_, rfl, h⟩
/-- a tuple that is not empty, times a small int -/
def rRepA (K : PySem.W.Frag) : R2 := fun x y H Q => ∃ l k xs, x = .ref l ∧ y = .int k ∧ SqT K H l xs ∧ xs ≠ [] ∧ -1000 ≤ k ∧ k ≤ 1000 ∧ xs.length ≤ 1000 ∧ (k = 1 → Q (.ref l) H) ∧ (k ≤ 0 → ∀ p, H p = none → Q (.ref p) (upd H p (.tup []))) ∧
  (2 ≤ k → ∀ p, H p = none → Q (.ref p) (upd H p (.tup (List.replicate k.toNat xs).flatten)))
theorem op_repA {X : Cx} : OpR X (binaryOp .Mult) (rRepA X.K) := by
  intro pins s σ H x y v u Q I rx ry h
  obtain ⟨l, k, xs, rfl, rfl, hT, hne, hlo, h2, hz, q1, q0, q2⟩ := h
  by_cases hk2 : 2 ≤ k
  · exact op_repT pins s σ H _ _ v u Q I rx ry ⟨l, k, xs, rfl, rfl, hT, hne, hk2, h2, hz, q2 hk2⟩
  cases rx
  obtain ⟨t, rfl⟩ := ry
  obtain ⟨its, r, ⟨⟨cls, dd, data, sl⟩, ho, hc, n, hd⟩, hs⟩ := I.tuple hT
  simp only at hc hd
  subst hc hd
  have hle : its.length = xs.length := r.length.symm
  have hi : its.toArray.isEmpty = false := by
    cases its with
    | nil => exact absurd (List.eq_nil_of_length_eq_zero hle.symm) hne
    | cons a b => rfl
  have c0 : (decide (k < -(2 ^ 63)) || decide (k ≥ 2 ^ 63)) = false := by
    rw [decide_eq_false (by omega), decide_eq_false (by omega)] <;> rfl
  by_cases h1 : k = 1
  · have c1 : (its.toArray.isEmpty || k == 1) = true := by rw [h1]; simp
    exact wpAny_binaryOp_repeat_ref (T := "tuple") (U := "int") (by decide) ⟨_, ho, rfl⟩ (fun s' => typeIs_int s' k t) noFill_tuple_mul F.fills_int_mul F.slot_int_rmul repeat_tuple F.slot_int_index.lookup
      (call_meets F.slot_int_rmul (typeIs_int s k t) F.entry_int_rmul (F.args_int_rmul_2 _ _) (int_rmul_tuple k t l its.toArray n dd sl)
        ⟨ho, rfl, ⟨_, ho, rfl⟩, call_meets F.slot_tuple_mul ⟨_, ho, rfl⟩ F.entry_tuple_mul (F.args_tuple_mul_2 _ _) (tuple_mul1 l its.toArray n dd sl k t c0 c1) ⟨ho, .ref l, H, I, rfl, q1 h1⟩⟩)
  · have h0 : k ≤ 0 := by omega
    have c1 : (its.toArray.isEmpty || k == 1) = false := by
      rw [hi, Bool.false_or]
      exact beq_eq_false_iff_ne.mpr h1
    have c2 : (decide (k ≤ 0) || its.toArray.isEmpty) = true := by rw [decide_eq_true h0]; rfl
    refine wpAny_binaryOp_repeat_ref (T := "tuple") (U := "int") (by decide) ⟨_, ho, rfl⟩ (fun s' => typeIs_int s' k t) noFill_tuple_mul F.fills_int_mul F.slot_int_rmul repeat_tuple F.slot_int_index.lookup
      (call_meets F.slot_int_rmul (typeIs_int s k t) F.entry_int_rmul (F.args_int_rmul_2 _ _) (int_rmul_tuple k t l its.toArray n dd sl)
        ⟨ho, rfl, ⟨_, ho, rfl⟩, call_meets F.slot_tuple_mul ⟨_, ho, rfl⟩ F.entry_tuple_mul (F.args_tuple_mul_2 _ _) (tuple_mul0 l its.toArray n dd sl k t c0 c1 c2) ⟨ho, ?_⟩⟩)
    refine ⟨.ref s.heap.objs.size, _, I.laid (t' := s.toks) (o := .tup []) (fun b ob q => Heap.get?_push_of_some _ q) (Nat.le_refl _) ?_, rfl, q0 h0 _ (I.hok.fresh (Nat.le_refl _))⟩
    exact ⟨Nat.zero_le _, [], .nil, IsTup.new _ _⟩
section
variable {X : Cx} {D : Wd}
theorem small_ok {i : Int} (h : small i = true) : -(2 ^ 64) < i ∧ i < 2 ^ 64 := by
  unfold small at h
  obtain ⟨a, b⟩ := Bool.and_eq_true_iff.mp h
  exact ⟨of_decide_eq_true a, of_decide_eq_true b⟩
theorem s_mul [C : Cok X D] : OpR X (binaryOp .Mult) (rO D oMul) := by
  intro pins s σ H x y v u Q I rx ry ⟨n, μ, st, a, b, z, st', ok, ra, rb, hf, an⟩
  unfold oMul at hf
  split at hf
  · rename_i sx i j
    by_cases hj : (small i || small j) = true
    · rw [if_pos hj] at hf
      cases hf; cases ra; cases rb
      exact op_mul pins s σ H _ _ v u Q I rx ry ⟨_, _, rfl, rfl, (Bool.or_eq_true_iff.mp hj).imp small_ok small_ok, ans_v an ok (.int _)⟩
    · rw [if_neg hj] at hf; cases hf
  · rename_i sx l k
    by_cases hk : -1000 ≤ k ∧ k ≤ 1000 ∧ l.length ≤ 1000 ∧ l.isEmpty = false
    · rw [if_pos hk] at hf
      cases hf
      cases rb
      cases ra with
      | tup h1 q1 =>
        obtain ⟨k1, k2, k3, k4⟩ := hk
        refine op_repA pins s σ H _ _ v u Q I rx ry ⟨_, _, _, rfl, rfl, (by rw [C.hK]; exact h1.sq), ?_, k1, k2, by rw [← q1.length]; exact k3, fun e => ?_, fun e p hp => ?_, fun e p hp => ans_tup an ok (q1.rep _) hp⟩
        · intro e
          subst e
          cases q1
          cases k4
        · subst e
          exact ans_v an ok (.tup h1 (by simpa using q1))
        · have e0 : k.toNat = 0 := by omega
          rw [e0] at an
          exact ans_tup an ok .nil hp
    · rw [if_neg hk] at hf; cases hf
  · rename_i sx k _ _
    cases h1 : lstOf a st with
    | none => rw [h1] at hf; cases hf
    | some l =>
      rw [h1] at hf
      by_cases hk : -(2 ^ 63) ≤ k ∧ k < 2 ^ 63 ∧ l.length * k.toNat ≤ LIM
      · simp only [if_pos hk] at hf
        cases hf
        cases rb
        obtain ⟨a1, ys, rfl, ha, qa⟩ := lstOf_ok ok ra h1
        exact op_rep pins s σ H _ _ v u Q I rx ry ⟨_, _, _, rfl, rfl, ha, hk.1, hk.2.1, by rw [← qa.length, sizeLine_eq]; exact hk.2.2, fun p hp => ans_lst an ok (qa.rep _) hp⟩
      · simp only [if_neg hk] at hf; cases hf
  · cases hf

/-! ### comparisons -/
theorem s_int {op : CmpOp} {p : Int → Int → Bool} (ho : OpR X (compareOp op) (rI0 fun i j => .bl (p i j))) : OpR X (compareOp op) (rO D (cInt p)) := by
  intro pins s σ H x y v u Q I rx ry ⟨n, μ, st, a, b, z, st', ok, ra, rb, hf, an⟩
  unfold cInt at hf
  split at hf
  · cases hf; cases ra; cases rb
    exact ho pins s σ H _ _ v u Q I rx ry ⟨_, _, rfl, rfl, ans_v an ok (.bool _)⟩
  · cases hf
theorem s_lt : OpR X (compareOp .Lt) (rO D cLt) := s_int op_lt
theorem s_le : OpR X (compareOp .LtE) (rO D cLe) := s_int op_le
theorem s_gt : OpR X (compareOp .Gt) (rO D cGt) := s_int op_gt
theorem s_ge : OpR X (compareOp .GtE) (rO D cGe) := s_int op_ge
theorem isN_ok {D : Wd} {n : Nat} {μ : Nat → Addr} {H : Hp} {t : Tv} {y : V} (r : Rt D n μ H t y) : isN t = decide (y = .non) := by
  cases t with
  | l xs => obtain ⟨a, ys, rfl, _⟩ := r; simp [isN]
  | v x => cases r <;> simp [isN]
theorem s_isN : OpR X (compareOp .Is) (rO D cIsN) := by
  intro pins s σ H x y v u Q I rx ry ⟨n, μ, st, a, b, z, st', ok, ra, rb, hf, an⟩
  unfold cIsN at hf
  split at hf
  · cases hf; cases rb
    exact op_isN pins s σ H _ _ v u Q I rx ry ⟨rfl, by rw [← isN_ok ra]; exact ans_v an ok (.bool _)⟩
  · cases hf
theorem s_notN : OpR X (compareOp .IsNot) (rO D cNotN) := by
  intro pins s σ H x y v u Q I rx ry ⟨n, μ, st, a, b, z, st', ok, ra, rb, hf, an⟩
  unfold cNotN at hf
  split at hf
  · cases hf; cases rb
    exact op_notN pins s σ H _ _ v u Q I rx ry ⟨rfl, by rw [← isN_ok ra]; exact ans_v an ok (.bool _)⟩
  · cases hf
end
end VI
end
section
set_option Elab.async false
set_option linter.all false
set_option maxRecDepth 100000
set_option maxHeartbeats 4000000
/-! VI4: ==, in, subscripts, slices, fields. -/
namespace VI
open PySem PySem.Spec PyProof.Rows L2
mutual
def Dt.py (S : List Str) : Dt → PyData
  | .non => .none
  | .bool b => .bool b
  | .int i => .int i
  | .str k => .str (S.getD k default)
  | .lst l => .list (Dt.pys S l)
  | .tup l => .tuple (Dt.pys S l)
def Dt.pys (S : List Str) : List Dt → List PyData
  | [] => []
  | d :: ds => Dt.py S d :: Dt.pys S ds
end
mutual
def Dt.okS (n : Nat) : Dt → Prop
  | .str k => k < n
  | .lst l => Dt.okSs n l
  | .tup l => Dt.okSs n l
  | _ => True
def Dt.okSs (n : Nat) : List Dt → Prop
  | [] => True
  | d :: ds => Dt.okS n d ∧ Dt.okSs n ds
end
/-- what the texts must be -/
class Wok (D : Wd) : Prop where
  nd : D.S.Nodup
  sok : ∀ z ∈ D.S, PyData.strOk z = true
section
variable {D : Wd}
theorem S_get {k : Nat} {z : Str} (h : D.S[k]? = some z) : D.S.getD k default = z := by rw [List.getD_eq_getElem?_getD, h]; rfl
theorem S_inj [W : Wok D] {j k : Nat} (hj : j < D.S.length) (hk : k < D.S.length) : (D.S.getD j default == D.S.getD k default) = (j == k) := by
  have e : ∀ i, i < D.S.length → D.S.getD i default = D.S[i]! := fun i hi => by simp [List.getD_eq_getElem?_getD, hi]
  rw [Bool.eq_iff_iff, beq_iff_eq, beq_iff_eq]
  constructor
  · intro h
    have h1 : D.S[j]? = some (D.S.getD j default) := by simp [List.getD_eq_getElem?_getD, hj]
    have h2 : D.S[k]? = some (D.S.getD k default) := by simp [List.getD_eq_getElem?_getD, hk]
    rw [h] at h1
    exact nodup_ix W.nd h1 h2
  · intro h; rw [h]
mutual
theorem eqv_py [Wok D] : ∀ (d e : Dt), d.okS D.S.length → e.okS D.S.length → PyData.eqv (d.py D.S) (e.py D.S) = Dt.eqv d e := by
  intro d e hd he
  cases d with
  | lst xs =>
    cases e with
    | lst ys => simp only [Dt.py, PyData.eqv, Dt.eqv]; exact eqvAll_py xs ys (by simpa [Dt.okS] using hd) (by simpa [Dt.okS] using he)
    | _ => simp only [Dt.py, PyData.eqv, Dt.eqv]
  | tup xs =>
    cases e with
    | tup ys => simp only [Dt.py, PyData.eqv, Dt.eqv]; exact eqvAll_py xs ys (by simpa [Dt.okS] using hd) (by simpa [Dt.okS] using he)
    | _ => simp only [Dt.py, PyData.eqv, Dt.eqv]
  | str j =>
    cases e with
    | str k => simp only [Dt.py, PyData.eqv, Dt.eqv]; exact S_inj (by simpa [Dt.okS] using hd) (by simpa [Dt.okS] using he)
    | _ => simp only [Dt.py, PyData.eqv, Dt.eqv]
  | _ => cases e <;> simp only [Dt.py, PyData.eqv, Dt.eqv]
theorem eqvAll_py [Wok D] : ∀ (xs ys : List Dt), Dt.okSs D.S.length xs → Dt.okSs D.S.length ys → PyData.eqvAll (Dt.pys D.S xs) (Dt.pys D.S ys) = Dt.eqvAll xs ys := by
  intro xs ys hx hy
  cases xs with
  | nil => cases ys <;> simp only [Dt.pys, PyData.eqvAll, Dt.eqvAll]
  | cons x xs =>
    cases ys with
    | nil => simp only [Dt.pys, PyData.eqvAll, Dt.eqvAll]
    | cons y ys =>
      simp only [Dt.pys, PyData.eqvAll, Dt.eqvAll]
      simp only [Dt.okSs] at hx hy
      rw [eqv_py x y hx.1 hy.1, eqvAll_py xs ys hx.2 hy.2]
end
variable {n : Nat} {μ : Nat → Addr} {H : Hp} {st : Store}
/-- what is known of a value's data -/
structure DOk (D : Wd) (H : Hp) (m : Nat) (y : V) (d : Dt) : Prop where
  dp : Dp D.K H y (d.py D.S)
  os : d.okS D.S.length
  lay : (d.py D.S).canLay0 = true
  dep : (d.py D.S).depth ≤ m
structure DsOk (D : Wd) (H : Hp) (m : Nat) (ys : List V) (ds : List Dt) : Prop where
  dp : DpAll D.K H ys (Dt.pys D.S ds)
  os : Dt.okSs D.S.length ds
  lay : PyData.canLayAll0 (Dt.pys D.S ds) = true
  dep : PyData.depthAll (Dt.pys D.S ds) ≤ m
theorem mapO_ok {m : Nat} (f : Val → Option Dt) (hf : ∀ x y d, f x = some d → Rp D n μ H x y → DOk D H m y d) : ∀ {l : List Val} {ys : List V} {ds : List Dt}, mapO f l = some ds → RpAll D n μ H l ys → DsOk D H m ys ds
  | [], _, _, e, .nil => by cases e; exact ⟨.nil, True.intro, rfl, Nat.zero_le _⟩
  | x :: l, _, ds, e, .cons h r => by
    unfold mapO at e
    cases h1 : f x with
    | none => rw [h1] at e; cases e
    | some d =>
      cases h2 : mapO f l with
      | none => rw [h1, h2] at e; cases e
      | some es =>
        rw [h1, h2] at e
        cases e
        obtain ⟨a1, a2, a3, a4⟩ := hf x _ d h1 h
        obtain ⟨b1, b2, b3, b4⟩ := mapO_ok f hf h2 r
        refine ⟨.cons a1 b1, ⟨a2, b2⟩, ?_, ?_⟩
        · simp only [Dt.pys, PyData.canLayAll0, a3, b3, Bool.and_self]
        · simp only [Dt.pys, PyData.depthAll]; omega
theorem scal_ok [W : Wok D] {m : Nat} {k : Nat} {z : Str} (h : D.S[k]? = some z) : DOk D H m (.str z) (.str k) := by
  have hk : k < D.S.length := (List.getElem?_eq_some_iff.mp h).1
  refine ⟨?_, by simpa [Dt.okS] using hk, ?_, by simp [Dt.py, PyData.depth]⟩
  · simp only [Dt.py]; rw [S_get h]; exact .str z
  · simp only [Dt.py, PyData.canLay0]; rw [S_get h]; exact W.sok z (List.mem_of_getElem? h)
theorem toD_ok [W : Wok D] (ok : Ok D n μ H st) : ∀ (m : Nat) (x : Val) (y : V) (d : Dt), toD st m x = some d → Rp D n μ H x y → DOk D H m y d
  | 0, x, y, d, e, r => by
    cases x with
    | non => cases e; cases r; exact ⟨.non, True.intro, rfl, Nat.zero_le _⟩
    | bool b => cases e; cases r; exact ⟨.bl b, True.intro, rfl, Nat.zero_le _⟩
    | int i => cases e; cases r; exact ⟨.int i, True.intro, rfl, Nat.zero_le _⟩
    | str k => cases e; cases r with | str h => exact scal_ok h
    | tup l => cases e
    | ref k => cases e
  | m + 1, x, y, d, e, r => by
    cases x with
    | non => cases e; cases r; exact ⟨.non, True.intro, rfl, Nat.zero_le _⟩
    | bool b => cases e; cases r; exact ⟨.bl b, True.intro, rfl, Nat.zero_le _⟩
    | int i => cases e; cases r; exact ⟨.int i, True.intro, rfl, Nat.zero_le _⟩
    | str k => cases e; cases r with | str h => exact scal_ok h
    | tup l =>
      unfold toD at e
      obtain ⟨ds, h1, rfl⟩ := Option.map_eq_some_iff.mp e
      cases r with
      | tup h r =>
        obtain ⟨a1, a2, a3, a4⟩ := mapO_ok (toD st m) (fun x y d => toD_ok ok m x y d) h1 r
        exact ⟨.tup h.sq a1, by simpa [Dt.okS] using a2, by simpa [Dt.py, PyData.canLay0] using a3, by simp only [Dt.py, PyData.depth]; omega⟩
    | ref k =>
      unfold toD at e
      cases r
      have fin : ∀ {l : List Val} {a : Addr} {ys : List V}, SqL D.K H a ys → RpAll D n μ H l ys → (mapO (toD st m) l).map Dt.lst = some d → DOk D H (m + 1) (.ref a) d := fun h r e => by
        obtain ⟨ds, h1, rfl⟩ := Option.map_eq_some_iff.mp e
        obtain ⟨a1, a2, a3, a4⟩ := mapO_ok (toD st m) (fun x y d => toD_ok ok m x y d) h1 r
        exact ⟨.lst h a1, by simpa [Dt.okS] using a2, by simpa [Dt.py, PyData.canLay0] using a3, by simp only [Dt.py, PyData.depth]; omega⟩
      cases hk : st[k]? with
      | none => simp [hk] at e
      | some o =>
        cases o with
        | lst l =>
          simp only [hk] at e
          obtain ⟨ys, h, ra⟩ := ok.ob k _ hk
          exact fin (SqL.of h) ra e
        | frz l =>
          simp only [hk] at e
          obtain ⟨o, ys, h, ra⟩ := ok.ob k _ hk
          exact fin (.inl (.inr ⟨o, h⟩)) ra e
        | _ => simp [hk] at e
theorem toDs_ok [W : Wok D] (ok : Ok D n μ H st) {m : Nat} {l : List Val} {ys : List V} {ds : List Dt} (e : toDs st m l = some ds) (r : RpAll D n μ H l ys) : DsOk D H m ys ds := mapO_ok _ (fun x y d => toD_ok ok m x y d) e r
theorem tvD_ok [W : Wok D] (ok : Ok D n μ H st) {t : Tv} {y : V} {d : Dt} (e : tvD st t = some d) (r : Rt D n μ H t y) : DOk D H (DEEP + 1) y d := by
  cases t with
  | v x =>
    obtain ⟨a1, a2, a3, a4⟩ := toD_ok ok DEEP x y d e r
    exact ⟨a1, a2, a3, Nat.le_succ_of_le a4⟩
  | l xs =>
    obtain ⟨a, ys, rfl, ha, ra, _⟩ := r
    unfold tvD at e
    obtain ⟨ds, h1, rfl⟩ := Option.map_eq_some_iff.mp e
    obtain ⟨a1, a2, a3, a4⟩ := toDs_ok ok h1 ra
    exact ⟨.lst (SqL.of ha) a1, by simpa [Dt.okS] using a2, by simpa [Dt.py, PyData.canLay0] using a3, by simp only [Dt.py, PyData.depth]; omega⟩
theorem DOk.shaped {m : Nat} {y : V} {d : Dt} (h : DOk D H m y d) (hm : m ≤ 64) : SeqAt.shaped (d.py D.S) = true := by
  unfold SeqAt.shaped
  rw [h.lay, Bool.true_and]
  exact decide_eq_true (Nat.le_trans h.dep hm)
theorem any_py [Wok D] {d : Dt} (hd : d.okS D.S.length) : ∀ (ds : List Dt), Dt.okSs D.S.length ds → ((Dt.pys D.S ds).any fun z => PyData.eqv z (d.py D.S)) = ds.any fun z => Dt.eqv z d
  | [], _ => rfl
  | e :: es, h => by
    simp only [Dt.okSs] at h
    simp only [Dt.pys, List.any_cons, eqv_py e d h.1 hd, any_py hd es h.2]
end

section
variable {X : Cx} {D : Wd}
theorem ans_of {n : Nat} {μ : Nat → Addr} {H : Hp} {st st' : Store} {o : Option Bool} {z : Tv} {Q : VK} (hf : ans o st = .ok z st') (ok : Ok D n μ H st) (an : Ans D n μ H z st' Q) : ∃ b, o = some b ∧ Q (.bl b) H := by
  unfold ans at hf
  cases o with
  | none => cases hf
  | some b => cases hf; exact ⟨b, rfl, ans_v an ok (.bool b)⟩
theorem s_eq [C : Cok X D] [W : Wok D] (hu : X.A.units + 64 < cLine) : OpR X (compareOp .Eq) (rO D cEq) := by
  intro pins s σ H x y v u Q I rx ry ⟨n, μ, st, a, b, z, st', ok, ra, rb, hf, an⟩
  obtain ⟨r, e, q⟩ := ans_of hf ok an
  unfold eqT at e
  cases h1 : tvD st a with
  | none => rw [h1] at e; simp at e
  | some d =>
    cases h2 : tvD st b with
    | none => rw [h1, h2] at e; cases e
    | some d' =>
      rw [h1, h2] at e
      cases e
      have k1 := tvD_ok ok h1 ra
      have k2 := tvD_ok ok h2 rb
      refine op_eqD hu pins s σ H _ _ v u Q I rx ry ⟨_, _, ?_, ?_, k1.shaped (by decide), k2.shaped (by decide), by rw [eqv_py d d' k1.os k2.os]; exact q⟩
      · rw [C.hK]; exact k1.dp
      · rw [C.hK]; exact k2.dp
theorem s_ne [C : Cok X D] [W : Wok D] (hu : X.A.units + 64 < cLine) : OpR X (compareOp .NotEq) (rO D cNe) := by
  intro pins s σ H x y v u Q I rx ry ⟨n, μ, st, a, b, z, st', ok, ra, rb, hf, an⟩
  obtain ⟨r, e, q⟩ := ans_of hf ok an
  unfold eqT at e
  cases h1 : tvD st a with
  | none => rw [h1] at e; simp at e
  | some d =>
    cases h2 : tvD st b with
    | none => rw [h1, h2] at e; cases e
    | some d' =>
      rw [h1, h2] at e
      cases e
      have k1 := tvD_ok ok h1 ra
      have k2 := tvD_ok ok h2 rb
      refine op_neD hu pins s σ H _ _ v u Q I rx ry ⟨_, _, ?_, ?_, k1.shaped (by decide), k2.shaped (by decide), by rw [eqv_py d d' k1.os k2.os]; exact q⟩
      · rw [C.hK]; exact k1.dp
      · rw [C.hK]; exact k2.dp
theorem flat_ok {n : Nat} {μ : Nat → Addr} {H : Hp} {x : Val} {y : V} (h : flat x = true) (r : Rp D n μ H x y) : flatV y = true := by
  cases r <;> first | rfl | cases h
theorem flats_ok {n : Nat} {μ : Nat → Addr} {H : Hp} : ∀ {xs : List Val} {ys : List V}, xs.all flat = true → RpAll D n μ H xs ys → ys.all flatV = true
  | _, _, _, .nil => rfl
  | x :: xs, _, h, .cons r q => by
    rw [List.all_cons, Bool.and_eq_true] at h
    rw [List.all_cons, flat_ok h.1 r, flats_ok h.2 q]
    rfl
theorem flatEq_ok [W : Wok D] {n : Nat} {μ : Nat → Addr} {H : Hp} {x x' : Val} {y y' : V} (r : Rp D n μ H x y) (r' : Rp D n μ H x' y') : eqV y y' = flatEq x x' := by
  cases r with
  | str h =>
    cases r' with
    | str h' =>
      show (_ == _) = (_ == _)
      rw [Bool.eq_iff_iff, beq_iff_eq, beq_iff_eq]
      constructor
      · intro e; subst e; exact nodup_ix W.nd h h'
      · intro e; subst e; rw [h] at h'; cases h'; rfl
    | _ => rfl
  | _ => cases r' <;> rfl
theorem inV_ok [W : Wok D] {n : Nat} {μ : Nat → Addr} {H : Hp} {x : Val} {y : V} (r : Rp D n μ H x y) : ∀ {xs : List Val} {ys : List V}, RpAll D n μ H xs ys → inV y ys = xs.any fun z => flatEq z x
  | _, _, .nil => rfl
  | _, _, .cons h q => by
    unfold inV
    rw [List.any_cons, List.any_cons, flatEq_ok h r]
    exact congrArg _ (inV_ok r q)
theorem in_cases [C : Cok X D] [W : Wok D] {n : Nat} {μ : Nat → Addr} {H : Hp} {st : Store} {a b : Tv} {x y : V} {r : Bool} (ok : Ok D n μ H st) (ra : Rt D n μ H a x) (rb : Rt D n μ H b y) (e : isIn a b st = some r) :
    (∃ p ys, y = .ref p ∧ SqT X.K H p ys ∧ flatV x = true ∧ ys.all flatV = true ∧ inV x ys = r) ∨
    (∃ d ds, Dp X.K H x d ∧ Dp X.K H y (.list ds) ∧ SeqAt.shaped d = true ∧ SeqAt.shaped (.list ds) = true ∧ (ds.any fun z => PyData.eqv z d) = r) := by
  unfold isIn at e
  split at e
  · rename_i ys
    split at e
    · rename_i x0
      by_cases hc : (flat x0 && ys.all flat) = true
      · rw [if_pos hc] at e
        cases e
        obtain ⟨h1, h2⟩ := Bool.and_eq_true_iff.mp hc
        cases rb with
        | tup h q => exact .inl ⟨_, _, rfl, by rw [C.hK]; exact h.sq, flat_ok h1 ra, flats_ok h2 q, inV_ok ra q⟩
      · rw [if_neg hc] at e; cases e
    · cases e
  · rename_i y0 _
    cases h1 : lstOf b st with
    | none => rw [h1] at e; cases e
    | some ys =>
      cases h2 : tvD st a with
      | none => rw [h1, h2] at e; cases e
      | some d =>
        rw [h1, h2] at e
        simp only at e
        cases h3 : toDs st DEEP ys with
        | none => rw [h3] at e; cases e
        | some ds =>
          rw [h3] at e
          cases e
          obtain ⟨p, zs, rfl, hp, q⟩ := lstOf_ok ok rb h1
          have k1 := tvD_ok ok h2 ra
          obtain ⟨b1, b2, b3, b4⟩ := toDs_ok ok h3 q
          refine .inr ⟨_, _, by rw [C.hK]; exact k1.dp, by rw [C.hK]; exact .lst (SqL.of hp) b1, k1.shaped (by decide), ?_, any_py k1.os ds b2⟩
          unfold SeqAt.shaped
          simp only [PyData.canLay0, b3, Bool.true_and, PyData.depth]
          exact decide_eq_true (by have : DEEP = 20 := rfl; omega)
theorem s_in [C : Cok X D] [W : Wok D] (hu : X.A.units + 65 < cLine) : OpR X (compareOp .In) (rO D cIn) := by
  intro pins s σ H x y v u Q I rx ry ⟨n, μ, st, a, b, z, st', ok, ra, rb, hf, an⟩
  obtain ⟨r, e, q⟩ := ans_of hf ok an
  rcases in_cases (X := X) ok ra rb e with ⟨p, ys, rfl, h1, h2, h3, h4⟩ | ⟨d, ds, h1, h2, h3, h4, h5⟩
  · exact op_in_seq pins s σ H _ _ v u Q I rx ry ⟨p, ys, rfl, .inr h1, h2, h3, by rw [← h4] at q; exact q⟩
  · exact op_inD hu pins s σ H _ _ v u Q I rx ry ⟨d, ds, h1, h2, h3, h4, by rw [h5]; exact q⟩
theorem s_notIn [C : Cok X D] [W : Wok D] (hu : X.A.units + 65 < cLine) : OpR X (compareOp .NotIn) (rO D cNotIn) := by
  intro pins s σ H x y v u Q I rx ry ⟨n, μ, st, a, b, z, st', ok, ra, rb, hf, an⟩
  obtain ⟨r, e, q⟩ := ans_of hf ok an
  obtain ⟨r', e', er⟩ := Option.map_eq_some_iff.mp e
  subst er
  rcases in_cases (X := X) ok ra rb e' with ⟨p, ys, rfl, h1, h2, h3, h4⟩ | ⟨d, ds, h1, h2, h3, h4, h5⟩
  · exact op_notIn_seq pins s σ H _ _ v u Q I rx ry ⟨p, ys, rfl, .inr h1, h2, h3, by rw [← h4] at q; exact q⟩
  · exact op_notInD hu pins s σ H _ _ v u Q I rx ry ⟨d, ds, h1, h2, h3, h4, by rw [h5]; exact q⟩

/-! ### subscripts -/
variable {a b e : Expr} {fa fb fe : Ev} {pos p2 : Pos}
theorem atI_ok {n : Nat} {μ : Nat → Addr} {H : Hp} {xs : List Val} {ys : List V} {i : Int} {x : Val} (h : VI.atI xs i = some x) (r : RpAll D n μ H xs ys) : ∃ y, L2.atI ys i = some y ∧ Rp D n μ H x y := by
  unfold VI.atI at h
  cases e : VI.ixN xs.length i with
  | none => rw [e] at h; cases h
  | some j =>
    rw [e] at h
    obtain ⟨y, h1, h2⟩ := r.get h
    refine ⟨y, ?_, h2⟩
    unfold L2.atI
    rw [show L2.ixN ys.length i = some j from by rw [← r.length]; exact e]
    exact h1
theorem e_idx [C : Cok X D] (ha : SE X D a fa) (hb : SE X D b fb) (hs : PlainIx b) : SE X D (.Subscript a b pos) (eBin oIdx fa fb) := by
  refine PE_imp (pe_ix (r := fun x y H Q => rIxL X.K x y H Q ∨ rIxT X.K x y H Q) (ix_list.or ix_tup) ha hb hs) fun σ H Q h => ?_
  obtain ⟨n, μ, ρ, st, z, st', ok, er, hf, an⟩ := h
  obtain ⟨x, s1, h1, hf⟩ := bind_eq_ok hf
  obtain ⟨y, s2, h2, hf⟩ := bind_eq_ok hf
  refine ⟨n, μ, ρ, st, x, s1, ok, er, h1, fun n1 μ1 H1 y1 ok1 l1 r1 f1 => ⟨n1, μ1, ρ, s1, y, s2, ok1, er.mono l1, h2, fun n2 μ2 H2 y2 ok2 l2 r2 f2 => ?_⟩⟩
  unfold oIdx at hf
  split at hf
  · cases r2
    split at hf
    · rename_i xs hq
      split at hf
      · rename_i w hw
        cases hf
        obtain ⟨p, ys, rfl, ra, hs⟩ := seqOf_ok ok2 (r1.mono l2) hq
        obtain ⟨yv, ha', rv⟩ := atI_ok hw ra
        rcases hs with hs | ⟨_, hs⟩
        · exact .inl ⟨p, ys, _, yv, rfl, rfl, by rw [C.hK]; exact hs, ha', ans_v (an.le (l1.trans l2)) ok2 rv⟩
        · exact .inr ⟨p, ys, _, yv, rfl, rfl, by rw [C.hK]; exact hs, ha', ans_v (an.le (l1.trans l2)) ok2 rv⟩
      · cases hf
    · cases hf
  · cases hf
/-! ### slices -/
theorem sIx_eq (n d : Nat) (o : Option Int) : VI.sIx n d o = HT.sIx n d o := by cases o <;> rfl
theorem cut_ok {n : Nat} {μ : Nat → Addr} {H : Hp} {xs : List Val} {ys : List V} (lo hi : Option Int) (r : RpAll D n μ H xs ys) : RpAll D n μ H (VI.cutV xs lo hi) (L2.cutV ys lo hi) := by
  unfold VI.cutV L2.cutV
  rw [sIx_eq, sIx_eq, r.length]
  exact (r.drop _).take _
def rPo (D : Wd) (e : Option Ev) : TO := fun σ H Q => ∃ n μ ρ st i st', Ok D n μ H st ∧ EnvR D n μ H ρ σ ∧ optI e ρ st = .ok i st' ∧ ∀ n' μ' H', Ok D n' μ' H' st' → Le n μ H n' μ' H' → Q i H'
abbrev SO (X : Cx) (D : Wd) (e : Option Expr) (f : Option Ev) : Prop := PO X e (rPo D f)
theorem o_none : SO X D none none := ⟨fun pins s σ H Q I ⟨n, μ, ρ, st, i, st', ok, er, hf, an⟩ => by
  cases hf
  exact po_none.run pins s σ H Q I (an n μ H ok (Le.refl _ _ _))⟩
theorem o_some (h : SE X D e fe) : SO X D (some e) (some fe) := ⟨fun pins s σ H Q I ⟨n, μ, ρ, st, i, st', ok, er, hf, an⟩ => by
  refine (po_some h).run pins s σ H Q I ?_
  obtain ⟨x, s1, h1, hf⟩ := bind_eq_ok hf
  refine ⟨n, μ, ρ, st, x, s1, ok, er, h1, fun n1 μ1 H1 y1 ok1 l1 r1 f1 => ?_⟩
  cases x with
  | l _ => cases hf
  | v x =>
    cases x with
    | int j => cases hf; cases r1; exact ⟨j, rfl, an n1 μ1 H1 ok1 l1⟩
    | _ => cases hf⟩
theorem sl_rd {lo hi : Option Ev} {r : V → Option Int → Option Int → Hp → VK → Prop} {σ : L2.St} {H : Hp} {Q : VK} (h : rE D (eSl fe lo hi) σ H Q)
    (k : ∀ n μ st x y i j z st' H, Ok D n μ H st → Rt D n μ H x y → slc x i j st = .ok z st' → Ans D n μ H z st' Q → r y i j H Q) : tSl r (rE D fe) (rPo D lo) (rPo D hi) σ H Q := by
  obtain ⟨n, μ, ρ, st, z, st', ok, er, hf, an⟩ := h
  obtain ⟨x, s1, h1, hf⟩ := bind_eq_ok hf
  obtain ⟨i, s2, h2, hf⟩ := bind_eq_ok hf
  obtain ⟨j, s3, h3, hf⟩ := bind_eq_ok hf
  exact ⟨n, μ, ρ, st, x, s1, ok, er, h1, fun n1 μ1 H1 y1 ok1 l1 r1 f1 => ⟨n1, μ1, ρ, s1, i, s2, ok1, er.mono l1, h2, fun n2 μ2 H2 ok2 l2 => ⟨n2, μ2, ρ, s2, j, s3, ok2, er.mono (l1.trans l2), h3, fun n3 μ3 H3 ok3 l3 =>
    k n3 μ3 s3 x y1 i j z st' H3 ok3 ((r1.mono l2).mono l3) hf (an.le (l1.trans (l2.trans l3)))⟩⟩⟩
theorem e_sl [C : Cok X D] {lo hi : Option Expr} {fl fh : Option Ev} (he : SE X D e fe) (hl : SO X D lo fl) (hh : SO X D hi fh) : SE X D (.Subscript e (.Slice lo hi none p2) pos) (eSl fe fl fh) :=
  PE_imp (pe_slice (sl_list.or sl_tupA) he hl hh) fun σ H Q h => sl_rd h fun n μ st x y i j z st' H ok r hf an => by
    have lst : ∀ {xs : List Val} {p : Addr} {ys : List V}, RpAll D n μ H xs ys → SqL X.K H p ys → z = .l (VI.cutV xs i j) → st' = st → rSlL X.K (.ref p) i j H Q := fun {xs p ys} q h e1 e2 => by
      subst e1; subst e2
      exact ⟨p, ys, rfl, h, fun p' hp' => ans_lst an ok (cut_ok i j q) hp'⟩
    unfold slc at hf
    split at hf
    · rename_i xs
      cases hf
      cases r with
      | tup h q =>
        refine .inr ⟨_, _, rfl, by rw [C.hK]; exact h.sq, fun hw => ?_, fun _ p hp => ans_tup an ok (cut_ok i j q) hp⟩
        have e1 : VI.cutV xs i j = xs := by
          unfold VI.cutV
          rw [sIx_eq, sIx_eq, q.length, hw.1, hw.2, List.drop_zero, ← q.length, Nat.sub_zero, List.take_length]
        rw [e1] at an
        exact ans_v an ok (.tup h q)
    · rename_i x' hnt
      split at hf
      · rename_i xs hq
        cases hf
        obtain ⟨p, ys, rfl, q, hs⟩ := seqOf_ok ok r hq
        rcases hs with hs | ⟨e1, hs⟩
        · exact .inl (lst q (by rw [C.hK]; exact hs) rfl rfl)
        · exact absurd e1 (hnt xs)
      · cases hf
/-! ### fields -/
theorem FsR.look {n : Nat} {μ : Nat → Addr} {H : Hp} {f : Nat} {z : Str} [W : Wok D] (hz : D.S[f]? = some z) : ∀ {fs : List (Nat × Val)} {gs : List (Str × V)} {x : Val}, FsR D n μ H fs gs → fs.lookup f = some x → ∃ y, gs.lookup z = some y ∧ Rp D n μ H x y
  | _, _, _, .nil, h => by cases h
  | _, _, x, .cons (f := g) (z := w) h h' r, e => by
    by_cases hg : f = g
    · subst hg
      rw [hz] at h; cases h
      simp [List.lookup] at e
      subst e
      exact ⟨_, by simp [List.lookup], h'⟩
    · have hg' : (f == g) = false := beq_eq_false_iff_ne.mpr hg
      have hw : (z == w) = false := beq_eq_false_iff_ne.mpr fun e' => hg (by subst e'; exact nodup_ix W.nd hz h)
      simp only [List.lookup, hg'] at e
      simp only [List.lookup, hw]
      exact FsR.look hz r e
theorem FsR.put {n : Nat} {μ : Nat → Addr} {H : Hp} {f : Nat} {z : Str} [W : Wok D] (hz : D.S[f]? = some z) {x : Val} {y : V} (hx : Rp D n μ H x y) : ∀ {fs : List (Nat × Val)} {gs : List (Str × V)}, FsR D n μ H fs gs → FsR D n μ H (VI.putF f x fs) (L2.putF z y gs)
  | _, _, .nil => .cons hz hx .nil
  | _, _, .cons (f := g) (z := w) h h' r => by
    unfold VI.putF L2.putF
    by_cases hg : g = f
    · subst hg
      rw [hz] at h; cases h
      rw [if_pos rfl, if_pos rfl]
      exact .cons hz hx r
    · rw [if_neg hg, if_neg fun e => hg (by subst e; exact nodup_ix W.nd h hz)]
      exact .cons h h' (FsR.put hz hx r)
theorem FsR.length {n : Nat} {μ : Nat → Addr} {H : Hp} : ∀ {fs : List (Nat × Val)} {gs : List (Str × V)}, FsR D n μ H fs gs → fs.length = gs.length
  | _, _, .nil => rfl
  | _, _, .cons _ _ r => congrArg (· + 1) r.length
/-- the attribute f of instances of the classes cs -/
structure CF (D : Wd) (cs : List Nat) (f : Nat) (z : Str) : Prop where
  nm : D.S[f]? = some z
  cl : ∀ c ∈ cs, Cls D.K (D.C c) ∧ NoAttr D.K (D.C c) z
theorem fldOf_ok {n : Nat} {μ : Nat → Addr} {H : Hp} {st : Store} {cs : List Nat} {x : Tv} {y : V} {f : Nat} {w : Val} (ok : Ok D n μ H st) (r : Rt D n μ H x y) (e : fldOf cs x f st = some w) :
    ∃ k c fs dx gs, x = .v (.ref k) ∧ y = .ref (μ k) ∧ k < n ∧ st[k]? = some (.ins c fs) ∧ c ∈ cs ∧ fs.lookup f = some w ∧ H (μ k) = some (.ins (D.C c) dx gs) ∧ FsR D n μ H fs gs := by
  cases x with
  | l _ => cases e
  | v x =>
    cases x with
    | ref k =>
      cases r with
      | ref hk =>
        unfold fldOf at e
        cases h : st[k]? with
        | none => simp [h] at e
        | some o =>
          cases o with
          | ins c fs =>
            simp only [h] at e
            by_cases hc : cs.contains c = true
            · rw [if_pos hc] at e
              obtain ⟨dx, gs, h1, h2⟩ := ok.ob k _ h
              exact ⟨k, c, fs, dx, gs, rfl, rfl, hk, h, by simpa using hc, e, h1, h2⟩
            · rw [if_neg hc] at e; cases e
          | _ => simp [h] at e
    | _ => cases e
theorem e_fld [C : Cok X D] [W : Wok D] {cs : List Nat} {f : Nat} {z : Str} (F : CF D cs f z) (he : SE X D e fe) (hb : attributeBase e z X.env (eval e X.env) = eval e X.env := by rfl) : SE X D (.Attribute e z pos) (eFld cs fe f) :=
  PE_imp (pe_fld he hb) fun σ H Q ⟨n, μ, ρ, st, w, st', ok, er, hf, an⟩ => by
    obtain ⟨x, s1, h1, hf⟩ := bind_eq_ok hf
    refine ⟨n, μ, ρ, st, x, s1, ok, er, h1, fun n1 μ1 H1 y1 ok1 l1 r1 f1 => ?_⟩
    cases h2 : fldOf cs x f s1 with
    | none => rw [h2] at hf; cases hf
    | some v =>
      rw [h2] at hf
      cases hf
      obtain ⟨k, c, fs, dx, gs, rfl, rfl, hk, h3, hc, h4, h5, h6⟩ := fldOf_ok ok1 r1 h2
      obtain ⟨yv, h7, h8⟩ := h6.look F.nm h4
      obtain ⟨c1, c2⟩ := F.cl c hc
      exact ⟨_, _, dx, gs, yv, rfl, h5, by rw [C.hK]; exact c1, by rw [C.hK]; exact c2, h7, ans_v (an.le l1) ok1 h8⟩
end
end VI
end
section
set_option Elab.async false
set_option linter.all false
set_option maxRecDepth 100000
set_option maxHeartbeats 4000000
/-! VI5: calls: defs, classes, methods, built-ins, isinstance, methods of lists. -/
namespace VI
open PySem PySem.Spec PyProof.Rows L2

/-- a def's promise -/
def spF (D : Wd) (np : Nat) (F : Fn) : Sp := fun vs H Q _ => vs.length = np ∧ ∃ n μ st as x st', Ok D n μ H st ∧ RpAll D n μ H as vs ∧ F as st = .ok x st' ∧ Ans D n μ H x st' Q
/-- a def that is called by name -/
structure Def (P : Program) (w : World) (K : PySem.W.Frag) (mg : Str → Option Value) (base : Heap) (D : Wd) (k : Nat) (x : Str) (np : Nat) (F : Fn) : Prop where
  ex : ∃ f fd ps, mg x = some (.ref f) ∧ PySem.W.keepIn K (.ref f) = true ∧ L2.Binds K fd ps [] ∧ FnOk P w K mg base C8.CX0 k f fd ps (spF D np F)
  db : (x == ("__debug__" : Str)) = false
/-- a method of the class c, m its name's number -/
structure Met (P : Program) (w : World) (K : PySem.W.Frag) (mg : Str → Option Value) (base : Heap) (D : Wd) (k : Nat) (c m : Nat) (z : Str) (np : Nat) (F : Fn) : Prop where
  ex : ∃ f fd ps, Cls K (D.C c) ∧ Meth K (D.C c) z f ∧ L2.Binds K fd ps [] ∧ FnOk P w K mg base C8.CX0 k f fd ps (spF D np F)
  nm : D.S[m]? = some z
/-- a class that is made by name -/
structure Mak (P : Program) (w : World) (K : PySem.W.Frag) (mg : Str → Option Value) (base : Heap) (D : Wd) (k : Nat) (x : Str) (c : Nat) (np : Nat) (F : Fn) : Prop where
  ex : ∃ f fd ps, mg x = some (.ref (D.C c)) ∧ Mk K (D.C c) f ∧ L2.Binds K fd ps [] ∧ FnOk P w K mg base C8.CX0 k f fd ps (spF D np F)
  db : (x == ("__debug__" : Str)) = false

section
variable {X : Cx} {D : Wd} {a b e o : Expr} {es : List Expr} {fa fb fe : Ev} {ga : Avs} {pos p p2 apos cpos : Pos} {k j np : Nat} {x : Str} {F : Fn}
/-- so many arguments -/
def Arity (g : Avs) (np : Nat) : Prop := ∀ ρ st xs st', g ρ st = .ok xs st' → xs.length = np
theorem ar_nil : Arity aNil 0 := fun ρ st xs st' h => by cases h; rfl
theorem ar_cons {f : Ev} {g : Avs} {n : Nat} (h : Arity g n) : Arity (aCons f g) (n + 1) := fun ρ st xs st' e => by
  obtain ⟨t, s1, h1, e⟩ := bind_eq_ok e
  obtain ⟨x, s2, h2, e⟩ := bind_eq_ok e
  obtain ⟨ys, s3, h3, e⟩ := bind_eq_ok e
  cases e
  rw [List.length_cons, h _ _ _ _ h3]
theorem call_rd {E : XK} {σ : L2.St} {H : Hp} {Q : VK} (har : Arity ga np) (h : rE D (eCall F ga) σ H Q) : tCall (spF D np F) [] E (rA D ga) σ H Q := by
  obtain ⟨n, μ, ρ, st, z, st', ok, er, hf, an⟩ := h
  obtain ⟨xs, s1, h1, hf⟩ := bind_eq_ok hf
  refine ⟨n, μ, ρ, st, xs, s1, ok, er, h1, fun n1 μ1 H1 ys ok1 l1 r1 => ?_⟩
  show spF D np F (ys ++ []) H1 Q E
  rw [List.append_nil]
  exact ⟨by rw [← r1.length]; exact har _ _ _ _ h1, n1, μ1, s1, xs, z, st', ok1, r1, hf, an.le l1⟩
theorem e_call (d : Def X.prog X.w X.K X.mg X.base D k x np F) (hr : Room k X.A) (hg : Gl X x) (ha : SA X D (e :: es) ga) (har : Arity ga np) (he : starEach (e :: es) X.env = (false, eval e X.env) :: starEach es X.env := by rfl)
    (hpl : (backTo pos (starEach es X.env)).any (·.1) = false := by rfl) : SE X D (.Call (.Name x p) (e :: es) [] pos) (eCall F ga) := by
  obtain ⟨f, fd, ps, h1, h2, h3, h4⟩ := d.ex
  exact PE_imp (pe_call h4 hr hg h1 h2 h3 .nil (C8.pass0 (E := C8.E0)) ha d.db he hpl) fun σ H Q h => call_rd har h
theorem e_call0 (d : Def X.prog X.w X.K X.mg X.base D k x 0 F) (hr : Room k X.A) (hg : Gl X x) : SE X D (.Call (.Name x p) [] [] pos) (eCall F aNil) := by
  obtain ⟨f, fd, ps, h1, h2, h3, h4⟩ := d.ex
  refine PE_imp (pe_call0 h4 hr hg h1 h2 h3 .nil (C8.pass0 (E := C8.E0)) d.db) fun σ H Q h => ?_
  obtain ⟨n, μ, ρ, st, z, st', ok, er, hf, an⟩ := h
  exact ⟨rfl, n, μ, st, [], z, st', ok, .nil, hf, an⟩

/-! ### a class is made -/
theorem make_ok {n : Nat} {μ : Nat → Addr} {H : Hp} {st : Store} {c : Nat} {x dx : Addr} (ok : Ok D n μ H st) (hx : H x = none) (hd : H dx = none) (ne : dx ≠ x) :
    Ok D (n + 1) (fun k => if k = n then x else μ k) (upd (upd H dx (.own x)) x (.ins (D.C c) dx [])) (st ++ [.ins c []]) ∧ Le n μ H (n + 1) (fun k => if k = n then x else μ k) (upd (upd H dx (.own x)) x (.ins (D.C c) dx [])) := by
  obtain ⟨ok1, l1⟩ := ok.upd (u := .own x) hd
  have hx1 : upd H dx (.own x) x = none := by rw [upd_ne (Ne.symm ne)]; exact hx
  obtain ⟨ok2, l2⟩ := ok1.upd (u := .ins (D.C c) dx []) hx1
  have l3 := l1.trans l2
  exact ⟨ok2.map (ok.fresh hx) ⟨dx, [], upd_same, .nil⟩, l3.map hx⟩
theorem make_rd {E : XK} {c : Nat} {σ : L2.St} {H : Hp} {Q : VK} (har : Arity ga np) (h : rE D (eMk c F ga) σ H Q) : tMake (D.C c) (spF D (np + 1) F) [] E (rA D ga) σ H Q := by
  obtain ⟨n, μ, ρ, st, z, st', ok, er, hf, an⟩ := h
  obtain ⟨xs, s1, h1, hf⟩ := bind_eq_ok hf
  obtain ⟨r, s2, h2, hf⟩ := bind_eq_ok hf
  refine ⟨n, μ, ρ, st, xs, s1, ok, er, h1, fun n1 μ1 H1 ys ok1 l1 r1 x dx hx hdx ne => ?_⟩
  obtain ⟨ok2, l2⟩ := make_ok (c := c) ok1 hx hdx ne
  have e1 : s1.length = n1 := ok1.len
  have q : Rp D (n1 + 1) (fun k => if k = n1 then x else μ1 k) (upd (upd H1 dx (.own x)) x (.ins (D.C c) dx [])) (.ref n1) (.ref x) := by
    have q : Rp D (n1 + 1) (fun k => if k = n1 then x else μ1 k) (upd (upd H1 dx (.own x)) x (.ins (D.C c) dx [])) (.ref n1) (.ref ((fun k => if k = n1 then x else μ1 k) n1)) := .ref (Nat.lt_succ_self n1)
    simp only [if_pos] at q
    exact q
  rw [List.append_nil]
  rw [e1] at h2
  refine ⟨by rw [List.length_cons, ← r1.length, har _ _ _ _ h1], n1 + 1, _, s1 ++ [.ins c []], .ref n1 :: xs, r, s2, ok2, .cons q (r1.mono l2), h2, fun n3 μ3 H3 y3 ok3 l3 r3 f3 => ?_⟩
  cases r with
  | l _ => cases hf
  | v r =>
    cases r with
    | non =>
      cases hf
      cases r3
      refine ⟨rfl, ?_⟩
      rw [e1] at an
      exact an n3 μ3 H3 _ ok3 (l1.trans (l2.trans l3)) (q.mono l3) trivial
    | _ => cases hf
theorem e_mk {c : Nat} (d : Mak X.prog X.w X.K X.mg X.base D k x c (np + 1) F) (hr : Room (k + 1) X.A) (hg : Gl X x) (ha : SA X D (e :: es) ga) (har : Arity ga np) (he : starEach (e :: es) X.env = (false, eval e X.env) :: starEach es X.env := by rfl)
    (hpl : (backTo pos (starEach es X.env)).any (·.1) = false := by rfl) : SE X D (.Call (.Name x p) (e :: es) [] pos) (eMk c F ga) := by
  obtain ⟨f, fd, ps, h1, h2, h3, h4⟩ := d.ex
  exact PE_imp (pe_make h2 h4 hr hg h1 h3 .nil (C8.pass0 (E := C8.E0)) ha d.db he hpl) fun σ H Q h => make_rd har h

/-! ### methods -/
theorem FsR.lookNone {n : Nat} {μ : Nat → Addr} {H : Hp} {f : Nat} {z : Str} [W : Wok D] (hz : D.S[f]? = some z) : ∀ {fs : List (Nat × Val)} {gs : List (Str × V)}, FsR D n μ H fs gs → fs.lookup f = none → gs.lookup z = none
  | _, _, .nil, _ => rfl
  | _, _, .cons (f := g) (z := w) h h' r, e => by
    by_cases hg : f = g
    · subst hg
      simp [List.lookup] at e
    · have hg' : (f == g) = false := beq_eq_false_iff_ne.mpr hg
      have hw : (z == w) = false := beq_eq_false_iff_ne.mpr fun e' => hg (by subst e'; exact nodup_ix W.nd hz h)
      simp only [List.lookup, hg'] at e
      simp only [List.lookup, hw]
      exact FsR.lookNone hz r e
theorem isCls_ok {n : Nat} {μ : Nat → Addr} {H : Hp} {st : Store} {x : Val} {y : V} {c m : Nat} {z : Str} [W : Wok D] (hz : D.S[m]? = some z) (ok : Ok D n μ H st) (r : Rp D n μ H x y) (h : isCls x c m st = true) :
    ∃ a dx gs, y = .ref a ∧ H a = some (.ins (D.C c) dx gs) ∧ gs.lookup z = none := by
  cases x with
  | ref j =>
    cases r
    unfold isCls at h
    cases e : st[j]? with
    | none => simp [e] at h
    | some o =>
      cases o with
      | ins d fs =>
        simp only [e, Bool.and_eq_true] at h
        obtain ⟨dx, gs, h1, h2⟩ := ok.ob j _ e
        obtain ⟨h3, h4⟩ := h
        have e3 : d = c := beq_iff_eq.mp h3
        subst e3
        exact ⟨_, dx, gs, rfl, h1, h2.lookNone hz (by simpa using h4)⟩
      | _ => simp [e] at h
  | _ => cases h
theorem e_meth [W : Wok D] {c m : Nat} {z : Str} {pl : Sem Bool} (d : Met X.prog X.w X.K X.mg X.base D k c m z (np + 1) F) (hr : Room k X.A) (ho : SE X D o fe) (ha : SA X D (e :: es) ga) (har : Arity ga np)
    (hst : starEach (e :: es) X.env = (false, eval e X.env) :: starEach es X.env := by rfl) (hpl : (backTo pos (starEach es X.env)).any (·.1) = false := by rfl)
    (ht : eval (.Call (.Attribute o z apos) (e :: es) [] pos) X.env = (do
      let ov ← eval o X.env
      standAt apos.atName
      let (f, first) ← holding [ov] (getMethod ov z pl)
      callWith pos f first (backTo pos (starEach (e :: es) X.env)) (backToKw pos (keywordEach [] X.env))) := by rfl) : SE X D (.Call (.Attribute o z apos) (e :: es) [] pos) (eMeth c m F fe ga) := by
  obtain ⟨f, fd, ps, h1, h2, h3, h4⟩ := d.ex
  refine PE_imp (pe_meth ho h1 h2 h4 hr h3 .nil (C8.pass0 (E := C8.E0)) ha hst hpl ht) fun σ H Q h => ?_
  obtain ⟨n, μ, ρ, st, w, st', ok, er, hf, an⟩ := h
  obtain ⟨x, s1, g1, hf⟩ := bind_eq_ok hf
  refine ⟨n, μ, ρ, st, x, s1, ok, er, g1, fun n1 μ1 H1 y1 ok1 l1 r1 f1 => ?_⟩
  cases x with
  | l _ => cases hf
  | v x =>
    by_cases hc : isCls x c m s1 = true
    · simp only [if_pos hc] at hf
      obtain ⟨xs, s2, g2, hf⟩ := bind_eq_ok hf
      obtain ⟨a, dx, gs, rfl, g3, g4⟩ := isCls_ok d.nm ok1 r1 hc
      refine ⟨a, dx, gs, rfl, g3, g4, n1, μ1, ρ, s1, xs, s2, ok1, er.mono l1, g2, fun n2 μ2 H2 ys ok2 l2 r2 => ?_⟩
      show spF D (np + 1) F (V.ref a :: (ys ++ [])) H2 Q C8.E0
      rw [List.append_nil]
      exact ⟨by rw [List.length_cons, ← r2.length, har _ _ _ _ g2], n2, μ2, s2, x :: xs, w, st', ok2, .cons (Rp.mono l2 r1) r2, hf, an.le (l1.trans l2)⟩
    · simp only [if_neg hc] at hf; cases hf
theorem e_meth0 [W : Wok D] {c m : Nat} {z : Str} {pl : Sem Bool} (d : Met X.prog X.w X.K X.mg X.base D k c m z 1 F) (hr : Room k X.A) (ho : SE X D o fe)
    (ht : eval (.Call (.Attribute o z apos) [] [] pos) X.env = (do
      let ov ← eval o X.env
      standAt apos.atName
      let (f, first) ← holding [ov] (getMethod ov z pl)
      callWith pos f first (backTo pos (starEach [] X.env)) (backToKw pos (keywordEach [] X.env))) := by rfl) : SE X D (.Call (.Attribute o z apos) [] [] pos) (eMeth c m F fe aNil) := by
  obtain ⟨f, fd, ps, h1, h2, h3, h4⟩ := d.ex
  refine PE_imp (pe_meth0 ho h1 h2 h4 hr h3 .nil (C8.pass0 (E := C8.E0)) ht) fun σ H Q h => ?_
  obtain ⟨n, μ, ρ, st, w, st', ok, er, hf, an⟩ := h
  obtain ⟨x, s1, g1, hf⟩ := bind_eq_ok hf
  refine ⟨n, μ, ρ, st, x, s1, ok, er, g1, fun n1 μ1 H1 y1 ok1 l1 r1 f1 => ?_⟩
  cases x with
  | l _ => cases hf
  | v x =>
    by_cases hc : isCls x c m s1 = true
    · simp only [if_pos hc] at hf
      obtain ⟨a, dx, gs, rfl, g3, g4⟩ := isCls_ok d.nm ok1 r1 hc
      exact ⟨a, dx, gs, rfl, g3, g4, rfl, n1, μ1, s1, [x], w, st', ok1, .cons r1 .nil, hf, an.le l1⟩
    · simp only [if_neg hc] at hf; cases hf

/-! ### built-ins of one argument -/
theorem b1_rd {b : B1} {σ : L2.St} {H : Hp} {Q : VK} (h : rE D (eB1 b fe) σ H Q) : tCB (rB D b) (tCons (rE D fe) tNil) σ H Q := by
  obtain ⟨n, μ, ρ, st, z, st', ok, er, hf, an⟩ := h
  obtain ⟨x, s1, h1, hf⟩ := bind_eq_ok hf
  exact ⟨n, μ, ρ, st, x, s1, ok, er, h1, fun n1 μ1 H1 y1 ok1 l1 r1 f1 => ⟨n1, μ1, s1, x, y1, z, st', rfl, ok1, r1, hf, an.le l1⟩⟩
theorem e_bB {b : B1} {id : String} (hc : CallR X (.builtin id) (rB D b)) (hg : Gl X x) (hm : X.mg x = none) (hv : bootBuiltins x = some (.builtin id)) (ha : SE X D e fe) (hn : x ≠ "__name__") (hdb : (x == ("__debug__" : Str)) = false)
    (he : starEach [e] X.env = (false, eval e X.env) :: starEach [] X.env := by rfl) : SE X D (.Call (.Name x p) [e] [] pos) (eB1 b fe) := PE_imp (pe_callB hc hg hm hv (pa_cons ha pa_nil he) hn hdb he) fun _ _ _ h => b1_rd h
theorem e_bT {b : B1} {T : String} (hc : CallR X (.type T) (rB D b)) (hg : Gl X x) (hm : X.mg x = none) (hv : bootBuiltins x = some (.type T)) (ha : SE X D e fe) (hn : x ≠ "__name__") (hdb : (x == ("__debug__" : Str)) = false)
    (he : starEach [e] X.env = (false, eval e X.env) :: starEach [] X.env := by rfl) : SE X D (.Call (.Name x p) [e] [] pos) (eB1 b fe) := PE_imp (pe_callTy hc hg hm hv (pa_cons ha pa_nil he) hn hdb he) fun _ _ _ h => b1_rd h
theorem r_len [C : Cok X D] : CallR X (.builtin "len") (rB D bLen) := by
  intro pins s σ H xs us Q I r ⟨n, μ, st, a, y, z, st', e, ok, ra, hf, an⟩
  subst e
  unfold bLen at hf
  cases h1 : seqOf a st with
  | none => rw [h1] at hf; cases hf
  | some l =>
    rw [h1] at hf
    cases hf
    obtain ⟨p, ys, rfl, q, hs⟩ := seqOf_ok ok ra h1
    refine call_len_seq pins s σ H _ us Q I r ⟨p, ys, rfl, ?_, ?_⟩
    · rw [C.hK]
      exact hs.imp id fun h => h.2
    · rw [← q.length]; exact ans_v an ok (.int _)
theorem r_int : CallR X (.type "int") (rB D bInt) := by
  intro pins s σ H xs us Q I r ⟨n, μ, st, a, y, z, st', e, ok, ra, hf, an⟩
  subst e
  cases a with
  | l _ => cases hf
  | v a =>
    cases a with
    | int i => cases hf; cases ra; exact call_int1 pins s σ H _ us Q I r (.inl ⟨i, rfl, ans_v an ok (.int _)⟩)
    | bool i => cases hf; cases ra; exact call_int1 pins s σ H _ us Q I r (.inr ⟨i, rfl, ans_v an ok (.int _)⟩)
    | _ => cases hf
theorem r_tuple [C : Cok X D] : CallR X (.type "tuple") (rB D bTuple) := by
  intro pins s σ H xs us Q I r ⟨n, μ, st, a, y, z, st', e, ok, ra, hf, an⟩
  subst e
  unfold bTuple at hf
  cases h1 : seqOf a st with
  | none => rw [h1] at hf; cases hf
  | some l =>
    rw [h1] at hf
    cases hf
    obtain ⟨p, ys, rfl, q, hs⟩ := seqOf_ok ok ra h1
    rcases hs with hs | ⟨e1, hs⟩
    · exact call_tuple_of pins s σ H _ us Q I r ⟨p, ys, rfl, .inl ⟨by rw [C.hK]; exact hs, fun l hl => ans_tup an ok q hl⟩⟩
    · refine call_tuple_of pins s σ H _ us Q I r ⟨p, ys, rfl, .inr ⟨by rw [C.hK]; exact hs, ?_⟩⟩
      rw [e1] at ra
      exact ans_v an ok ra
theorem r_list [C : Cok X D] : CallR X (.type "list") (rB D bList) := by
  intro pins s σ H xs us Q I r ⟨n, μ, st, a, y, z, st', e, ok, ra, hf, an⟩
  subst e
  unfold bList at hf
  cases h1 : seqOf a st with
  | none => rw [h1] at hf; cases hf
  | some l =>
    rw [h1] at hf
    cases hf
    obtain ⟨p, ys, rfl, q, hs⟩ := seqOf_ok ok ra h1
    exact call_list_of pins s σ H _ us Q I r ⟨p, ys, rfl, by rw [C.hK]; exact hs.imp id fun h => h.2, fun l hl => ans_lst an ok q hl⟩
theorem bools_ok {n : Nat} {μ : Nat → Addr} {H : Hp} : ∀ {xs : List Val} {ys : List V} {bs : List Bool}, bools? xs = some bs → RpAll D n μ H xs ys → ys = bs.map V.bl
  | _, _, _, e, .nil => by cases e; rfl
  | x :: xs, _, bs, e, .cons h r => by
    cases x with
    | bool i =>
      obtain ⟨bs', h1, rfl⟩ := Option.map_eq_some_iff.mp e
      cases h
      rw [bools_ok h1 r]; rfl
    | _ => cases e
theorem ints_ok {n : Nat} {μ : Nat → Addr} {H : Hp} : ∀ {xs : List Val} {ys : List V} {bs : List Int}, ints? xs = some bs → RpAll D n μ H xs ys → ys = bs.map V.int
  | _, _, _, e, .nil => by cases e; rfl
  | x :: xs, _, bs, e, .cons h r => by
    cases x with
    | int i =>
      obtain ⟨bs', h1, rfl⟩ := Option.map_eq_some_iff.mp e
      cases h
      rw [ints_ok h1 r]; rfl
    | _ => cases e
theorem r_all [C : Cok X D] : CallR X (.builtin "all") (rB D bAll) := by
  intro pins s σ H xs us Q I r ⟨n, μ, st, a, y, z, st', e, ok, ra, hf, an⟩
  subst e
  unfold bAll at hf
  cases h1 : lstOf a st with
  | none => rw [h1] at hf; cases hf
  | some l =>
    rw [h1] at hf
    cases h2 : bools? l with
    | none => simp only [h2] at hf; cases hf
    | some bs =>
      simp only [h2] at hf
      cases hf
      obtain ⟨p, ys, rfl, hp, q⟩ := lstOf_ok ok ra h1
      exact cr_all C.calm pins s σ H _ us Q I r ⟨p, bs, rfl, by rw [← bools_ok h2 q]; exact SqL.of hp, ans_v an ok (.bool _)⟩
theorem r_any [C : Cok X D] : CallR X (.builtin "any") (rB D bAny) := by
  intro pins s σ H xs us Q I r ⟨n, μ, st, a, y, z, st', e, ok, ra, hf, an⟩
  subst e
  unfold bAny at hf
  cases h1 : lstOf a st with
  | none => rw [h1] at hf; cases hf
  | some l =>
    rw [h1] at hf
    cases h2 : bools? l with
    | none => simp only [h2] at hf; cases hf
    | some bs =>
      simp only [h2] at hf
      cases hf
      obtain ⟨p, ys, rfl, hp, q⟩ := lstOf_ok ok ra h1
      exact cr_any C.calm pins s σ H _ us Q I r ⟨p, bs, rfl, by rw [← bools_ok h2 q]; exact SqL.of hp, ans_v an ok (.bool _)⟩
theorem maxI_ge : ∀ (l : List Int) (y : Int), y ∈ l → y ≤ maxI l
  | [], _, h => by cases h
  | [i], y, h => by cases h with
    | head => exact Int.le_refl _
    | tail _ h => cases h
  | i :: j :: r, y, h => by
    unfold maxI
    cases h with
    | head => omega
    | tail _ h => have := maxI_ge (j :: r) y h; omega
theorem maxI_mem : ∀ (i : Int) (l : List Int), maxI (i :: l) ∈ i :: l
  | i, [] => by simp [maxI]
  | i, j :: r => by
    have h := maxI_mem j r
    unfold maxI
    by_cases hj : i ≤ maxI (j :: r)
    · rw [Int.max_eq_right hj]; exact List.mem_cons_of_mem _ h
    · rw [Int.max_eq_left (by omega)]; exact List.mem_cons_self
theorem r_max [C : Cok X D] : CallR X (.builtin "max") (rB D bMax) := by
  intro pins s σ H xs us Q I r ⟨n, μ, st, a, y, z, st', e, ok, ra, hf, an⟩
  subst e
  unfold bMax at hf
  cases h1 : lstOf a st with
  | none => rw [h1] at hf; cases hf
  | some l =>
    rw [h1] at hf
    cases h2 : ints? l with
    | none => simp only [h2] at hf; cases hf
    | some bs =>
      cases bs with
      | nil => simp only [h2] at hf; cases hf
      | cons i is =>
        simp only [h2] at hf
        cases hf
        obtain ⟨p, ys, rfl, hp, q⟩ := lstOf_ok ok ra h1
        refine cr_max C.calm pins s σ H _ us Q I r ⟨p, i :: is, rfl, by rw [← ints_ok h2 q]; exact SqL.of hp, Nat.zero_lt_succ _, fun m hm hall => ?_⟩
        have e1 : m = maxI (i :: is) := Int.le_antisymm (maxI_ge _ _ hm) (hall _ (maxI_mem i is))
        rw [e1]
        exact ans_v an ok (.int _)

/-! ### max, min of two -/
def rB2 (D : Wd) (o : Op2) : List V → Hp → VK → Prop := fun ys H Q => ∃ x y, ys = [x, y] ∧ rO D o x y H Q
theorem e_b2 {o : Op2} {id : String} (hc : CallR X (.builtin id) (rB2 D o)) (hg : Gl X x) (hm : X.mg x = none) (hv : bootBuiltins x = some (.builtin id)) (ha : SE X D a fa) (hb : SE X D b fb) (hn : x ≠ "__name__") (hdb : (x == ("__debug__" : Str)) = false)
    (he : starEach [a, b] X.env = (false, eval a X.env) :: starEach [b] X.env := by rfl) (he2 : starEach [b] X.env = (false, eval b X.env) :: starEach [] X.env := by rfl) (hpl : (backTo pos (starEach [b] X.env)).any (·.1) = false := by rfl) :
    SE X D (.Call (.Name x p) [a, b] [] pos) (eBin o fa fb) := PE_imp (pe_callB hc hg hm hv (pa_cons ha (pa_cons hb pa_nil he2) he) hn hdb he hpl) fun σ H Q h => by
  obtain ⟨n, μ, ρ, st, z, st', ok, er, hf, an⟩ := h
  obtain ⟨x, s1, h1, hf⟩ := bind_eq_ok hf
  obtain ⟨y, s2, h2, hf⟩ := bind_eq_ok hf
  exact ⟨n, μ, ρ, st, x, s1, ok, er, h1, fun n1 μ1 H1 y1 ok1 l1 r1 f1 => ⟨n1, μ1, ρ, s1, y, s2, ok1, er.mono l1, h2, fun n2 μ2 H2 y2 ok2 l2 r2 f2 => ⟨_, _, rfl, n2, μ2, s2, x, y, z, st', ok2, r1.mono l2, r2, hf, an.le (l1.trans l2)⟩⟩⟩
theorem r_max2 [C : Cok X D] : CallR X (.builtin "max") (rB2 D oMax) := by
  intro pins s σ H xs us Q I r ⟨x, y, e, n, μ, st, a, b, z, st', ok, ra, rb, hf, an⟩
  subst e
  unfold oMax at hf
  split at hf
  · cases hf; cases ra; cases rb
    exact call_max2 C.calm pins s σ H _ us Q I r ⟨_, _, rfl, ans_v an ok (.int _)⟩
  · cases hf
theorem r_min2 [C : Cok X D] : CallR X (.builtin "min") (rB2 D oMin) := by
  intro pins s σ H xs us Q I r ⟨x, y, e, n, μ, st, a, b, z, st', ok, ra, rb, hf, an⟩
  subst e
  unfold oMin at hf
  split at hf
  · cases hf; cases ra; cases rb
    exact call_min2 C.calm pins s σ H _ us Q I r ⟨_, _, rfl, ans_v an ok (.int _)⟩
  · cases hf

/-! ### list(range(..)), tuple(range(..)) -/
def rRg (D : Wd) (r : Rg) : L2.St → Hp → (Int → Int → Hp → Prop) → Prop := fun σ H Q => ∃ n μ ρ st i st', Ok D n μ H st ∧ EnvR D n μ H ρ σ ∧ r ρ st = .ok i st' ∧ ∀ n' μ' H', Ok D n' μ' H' st' → Le n μ H n' μ' H' → Q i.1 i.2 H'
abbrev SR (X : Cx) (D : Wd) (e : Expr) (r : Rg) : Prop := PRg X e (rRg D r)
theorem g_1 (hg : Gl X "range") (hm : X.mg "range" = none) (ha : SE X D a fa) (na : starEach [a] X.env = (false, eval a X.env) :: starEach [] X.env := by rfl) : SR X D (.Call (.Name "range" p) [a] [] pos) (rg1 fa) := fun pins s σ H Q I ⟨n, μ, ρ, st, i, st', ok, er, hf, an⟩ => by
  refine prg_1 hg hm ha na pins s σ H Q I ?_
  obtain ⟨x, s1, h1, hf⟩ := bind_eq_ok hf
  refine ⟨n, μ, ρ, st, x, s1, ok, er, h1, fun n1 μ1 H1 y1 ok1 l1 r1 f1 => ?_⟩
  cases x with
  | l _ => cases hf
  | v x =>
    cases x with
    | int j => cases hf; cases r1; exact ⟨j, rfl, an n1 μ1 H1 ok1 l1⟩
    | _ => cases hf
theorem g_2 (hg : Gl X "range") (hm : X.mg "range" = none) (ha : SE X D a fa) (hb : SE X D b fb) (na : starEach [a, b] X.env = (false, eval a X.env) :: starEach [b] X.env := by rfl) (nb : starEach [b] X.env = (false, eval b X.env) :: starEach [] X.env := by rfl)
    (hp : (backTo pos (starEach [b] X.env)).any (·.1) = false := by rfl) : SR X D (.Call (.Name "range" p) [a, b] [] pos) (rg2 fa fb) := fun pins s σ H Q I ⟨n, μ, ρ, st, i, st', ok, er, hf, an⟩ => by
  refine prg_2 hg hm ha hb na nb hp pins s σ H Q I ?_
  obtain ⟨x, s1, h1, hf⟩ := bind_eq_ok hf
  obtain ⟨y, s2, h2, hf⟩ := bind_eq_ok hf
  refine ⟨n, μ, ρ, st, x, s1, ok, er, h1, fun n1 μ1 H1 y1 ok1 l1 r1 f1 => ⟨n1, μ1, ρ, s1, y, s2, ok1, er.mono l1, h2, fun n2 μ2 H2 y2 ok2 l2 r2 f2 => ?_⟩⟩
  split at hf
  · cases hf; cases r1; cases r2; exact ⟨_, _, rfl, rfl, an n2 μ2 H2 ok2 (l1.trans l2)⟩
  · cases hf
theorem fitR_ok {i j : Int} (h : fitR i j = true) : RgOk i j := by
  unfold fitR at h
  simp only [Bool.and_eq_true, decide_eq_true_eq] at h
  obtain ⟨⟨⟨⟨h1, h2⟩, h3⟩, h4⟩, h5⟩ := h
  exact ⟨h1, h2, h3, h4, h5⟩
theorem rngV_ok {n : Nat} {μ : Nat → Addr} {H : Hp} (i j : Int) : RpAll D n μ H (rngV i j) (rgV i j) := by
  unfold rngV rgV
  generalize List.range (j - i).toNat = l
  induction l with
  | nil => exact .nil
  | cons a l ih => exact .cons (.int _) ih
theorem e_lstR [C : Cok X D] {r : Rg} (hg : Gl X "list") (hm : X.mg "list" = none) (he : SR X D e r) (na : starEach [e] X.env = (false, eval e X.env) :: starEach [] X.env := by rfl) : SE X D (.Call (.Name "list" p) [e] [] pos) (eLstR r) :=
  PE_imp (pe_listRg C.calm hg hm he na) fun σ H Q ⟨n, μ, ρ, st, z, st', ok, er, hf, an⟩ => by
    obtain ⟨i, s1, h1, hf⟩ := bind_eq_ok hf
    refine ⟨n, μ, ρ, st, i, s1, ok, er, h1, fun n1 μ1 H1 ok1 l1 => ?_⟩
    by_cases hh : fitR i.1 i.2 = true
    · rw [if_pos hh] at hf
      cases hf
      exact ⟨fitR_ok hh, fun q hq => ans_lst (an.le l1) ok1 (rngV_ok _ _) hq⟩
    · rw [if_neg hh] at hf; cases hf
theorem e_tupR [C : Cok X D] {r : Rg} (hg : Gl X "tuple") (hm : X.mg "tuple" = none) (he : SR X D e r) (na : starEach [e] X.env = (false, eval e X.env) :: starEach [] X.env := by rfl) : SE X D (.Call (.Name "tuple" p) [e] [] pos) (eTupR r) :=
  PE_imp (pe_tupRg C.calm hg hm he na) fun σ H Q ⟨n, μ, ρ, st, z, st', ok, er, hf, an⟩ => by
    obtain ⟨i, s1, h1, hf⟩ := bind_eq_ok hf
    refine ⟨n, μ, ρ, st, i, s1, ok, er, h1, fun n1 μ1 H1 ok1 l1 => ?_⟩
    by_cases hh : fitR i.1 i.2 = true
    · rw [if_pos hh] at hf
      cases hf
      exact ⟨fitR_ok hh, fun q hq => ans_tup (an.le l1) ok1 (rngV_ok _ _) hq⟩
    · rw [if_neg hh] at hf; cases hf
end
end VI
end
section
set_option Elab.async false
set_option linter.all false
set_option maxRecDepth 100000
set_option maxHeartbeats 4000000
/-! VI6: isinstance, methods of lists, dicts with tuple keys. -/
namespace VI
open PySem PySem.Spec PyProof.Rows L2

/-! ### isinstance -/
def inB : Ty → String → Bool
  | .int, T => T == "int" || T == "bool"
  | .bool, T => T == "bool"
  | .str, T => T == "str"
  | .list, T => T == "list"
  | .tuple, T => T == "tuple"
  | .lot, T => T == "list" || T == "tuple"
  | .cls _, _ => false
/-- an instance's type is to be read -/
structure InsT (D : Wd) (d : Nat) : Prop where
  cl : Cls D.K (D.C d)
  ha : PySem.W.findIn D.K (.ref (D.C d)) "__class__" = some (some (.builtin "object.__class__"))
  hn : PySem.W.specialIn D.K (.builtin "object.__class__") "__get__" = some (some (.builtin "getset_descriptor.__get__"))
  ht : PySem.W.takesIn D.K (.builtin "object.__class__") = some true
  hm : PySem.W.mroIn D.K (D.C d) (.type "object") = some true
structure KF (D : Wd) (cs : List Nat) (ty : Ty) (q : Value → Option Bool) : Prop where
  b : ∀ T ∈ ["NoneType", "bool", "int", "str", "tuple", "list", "dict"], q (.type T) = some (inB ty T)
  i : ∀ d ∈ cs, q (.ref (D.C d)) = some (insB ty d)
  t : ∀ d ∈ cs, InsT D d
section
variable {X : Cx} {D : Wd} {a b e o tyE : Expr} {es : List Expr} {fa fb fe fo : Ev} {pos p p2 apos cpos : Pos} {x : Str}
theorem isTy_ok {n : Nat} {μ : Nat → Addr} {H : Hp} {st : Store} {cs : List Nat} {ty : Ty} {q : Value → Option Bool} {t : Tv} {y : V} {r : Bool} (k : KF D cs ty q) (ok : Ok D n μ H st) (h : Rt D n μ H t y) (e : isTy cs ty t st = some r) :
    ∃ T, TyX D.K H y T ∧ q T = some r := by
  cases t with
  | l xs =>
    obtain ⟨a, ys, rfl, ha, _⟩ := h
    cases e
    exact ⟨_, .base (.lst ha), by rw [k.b "list" (by decide)]; cases ty <;> rfl⟩
  | v x =>
    cases x with
    | non => cases e; cases h; exact ⟨_, .base .non, by rw [k.b "NoneType" (by decide)]; cases ty <;> rfl⟩
    | bool i => cases e; cases h; exact ⟨_, .base (.bl i), by rw [k.b "bool" (by decide)]; cases ty <;> rfl⟩
    | int i => cases e; cases h; exact ⟨_, .base (.int i), by rw [k.b "int" (by decide)]; cases ty <;> rfl⟩
    | str i => cases e; cases h with | @str _ z hz => exact ⟨_, .base (.str z), by rw [k.b "str" (by decide)]; cases ty <;> rfl⟩
    | tup l =>
      cases e
      cases h with
      | tup hT _ =>
        refine ⟨.type "tuple", ?_, by rw [k.b "tuple" (by decide)]; cases ty <;> rfl⟩
        rcases hT with hT | ⟨o, its, n, h1, h2, _⟩
        · exact .base (.tup hT)
        · exact .kTuple h1 h2
    | ref j =>
      cases h
      unfold isTy at e
      cases hj : st[j]? with
      | none => simp [hj] at e
      | some o =>
        cases o with
        | lst l =>
          simp only [hj, Option.some.injEq] at e
          subst e
          obtain ⟨ys, h1, _⟩ := ok.ob j _ hj
          exact ⟨_, .base (.lst h1), by rw [k.b "list" (by decide)]; cases ty <;> rfl⟩
        | ins d fs =>
          simp only [hj] at e
          by_cases hc : cs.contains d = true
          · rw [if_pos hc] at e
            cases e
            have hd : d ∈ cs := by simpa using hc
            obtain ⟨dx, gs, h1, _⟩ := ok.ob j _ hj
            have f := k.t d hd
            exact ⟨_, .base (.ins h1 f.cl f.ha f.hn f.ht f.hm), k.i d hd⟩
          · rw [if_neg hc] at e; cases e
        | dct kvs =>
          simp only [hj, Option.some.injEq] at e
          subst e
          obtain ⟨ks, h1, _⟩ := ok.ob j _ hj
          exact ⟨_, .base (.dT h1), by rw [k.b "dict" (by decide)]; cases ty <;> rfl⟩
        | _ => simp [hj] at e
/-- isinstance(e, T), one class -/
theorem e_is [C : Cok X D] {cs : List Nat} {ty : Ty} {c : V} {u : Value} (k : KF D cs ty (fun t => PySem.W.kitOne D.K t u)) (hc : PE X tyE (tC c)) (hcv : ClsV c u) (hg : Gl X "isinstance") (hm : X.mg "isinstance" = none) (he : SE X D e fe)
    (h1 : starEach [e, tyE] X.env = (false, eval e X.env) :: starEach [tyE] X.env := by rfl) (h2 : starEach [tyE] X.env = (false, eval tyE X.env) :: starEach [] X.env := by rfl) (hpl : (backTo pos (starEach [tyE] X.env)).any (·.1) = false := by rfl) :
    SE X D (.Call (.Name "isinstance" p) [e, tyE] [] pos) (eB1 (bIs cs ty) fe) :=
  PE_imp (pe_callB call_isi hg hm boot_isinstance (pa_cons he (pa_cons hc pa_nil h2) h1) (by decide) (by decide) h1 hpl) fun σ H Q ⟨n, μ, ρ, st, z, st', ok, er, hf, an⟩ => by
    obtain ⟨x, s1, g1, hf⟩ := bind_eq_ok hf
    refine ⟨n, μ, ρ, st, x, s1, ok, er, g1, fun n1 μ1 H1 y1 ok1 l1 r1 f1 => ?_⟩
    obtain ⟨r, e1, q⟩ := ans_of hf ok1 (an.le l1)
    obtain ⟨T, k1, k2⟩ := isTy_ok k ok1 r1 e1
    exact ⟨y1, c, T, u, r, rfl, hcv, by rw [C.hK]; exact k1, by rw [C.hK]; exact k2, q⟩
/-- isinstance(e, (T1, T2)) -/
theorem e_isT [C : Cok X D] {cs : List Nat} {ty : Ty} {c c' : V} {u u' : Value} {tE tE' : Expr} {kk : Nat} {tp : Pos} (k : KF D cs ty (fun t => PySem.W.kitAny D.K t [u, u'])) (hc : PE X tE (tC c)) (hcv : ClsV c u) (hc' : PE X tE' (tC c')) (hcv' : ClsV c' u') (hg : Gl X "isinstance") (hm : X.mg "isinstance" = none) (he : SE X D e fe)
    (h1 : starEach [e, .Tuple [tE, tE'] kk tp] X.env = (false, eval e X.env) :: starEach [.Tuple [tE, tE'] kk tp] X.env := by rfl) (h2 : starEach [.Tuple [tE, tE'] kk tp] X.env = (false, eval (.Tuple [tE, tE'] kk tp) X.env) :: starEach [] X.env := by rfl) (hpl : (backTo pos (starEach [.Tuple [tE, tE'] kk tp] X.env)).any (·.1) = false := by rfl)
    (h3 : starEach [tE, tE'] X.env = (false, eval tE X.env) :: starEach [tE'] X.env := by rfl) (h4 : starEach [tE'] X.env = (false, eval tE' X.env) :: starEach [] X.env := by rfl) :
    SE X D (.Call (.Name "isinstance" p) [e, .Tuple [tE, tE'] kk tp] [] pos) (eB1 (bIs cs ty) fe) :=
  PE_imp (pe_callB call_isiT hg hm boot_isinstance (pa_cons he (pa_cons (pe_tup (pa_cons hc (pa_cons hc' pa_nil h4) h3)) pa_nil h2) h1) (by decide) (by decide) h1 hpl) fun σ H Q ⟨n, μ, ρ, st, z, st', ok, er, hf, an⟩ => by
    obtain ⟨x, s1, g1, hf⟩ := bind_eq_ok hf
    refine ⟨n, μ, ρ, st, x, s1, ok, er, g1, fun n1 μ1 H1 y1 ok1 l1 r1 f1 => ?_⟩
    refine ⟨by show 2 ≤ sizeLine; decide, fun tp htp => ?_⟩
    obtain ⟨ok2, l2⟩ := ok1.upd (u := .tup [c, c']) htp
    obtain ⟨r, e1, q⟩ := ans_of hf ok2 (an.le (l1.trans l2))
    obtain ⟨T, k1, k2⟩ := isTy_ok k ok2 (r1.mono l2) e1
    exact ⟨y1, tp, [c, c'], T, [u, u'], r, rfl, upd_same, .cons hcv (.cons hcv' .nil), by rw [C.hK]; exact k1, by rw [C.hK]; exact k2, q⟩

/-! ### methods of lists -/
theorem refL_ok {n : Nat} {μ : Nat → Addr} {H : Hp} {st : Store} {t : Tv} {y : V} {j : Nat} {xs : List Val} (ok : Ok D n μ H st) (r : Rt D n μ H t y) (e : refL t st = some (j, xs)) :
    t = .v (.ref j) ∧ y = .ref (μ j) ∧ j < n ∧ st[j]? = some (.lst xs) ∧ ∃ ys, H (μ j) = some (.lst ys) ∧ RpAll D n μ H xs ys := by
  cases t with
  | l _ => cases e
  | v x =>
    cases x with
    | ref i =>
      cases r with
      | ref hi =>
        unfold refL at e
        cases h : st[i]? with
        | none => simp [h] at e
        | some o =>
          cases o with
          | lst zs =>
            simp only [h, Option.some.injEq, Prod.mk.injEq] at e
            obtain ⟨rfl, rfl⟩ := e
            exact ⟨rfl, rfl, hi, h, ok.ob _ _ h⟩
          | _ => simp [h] at e
    | _ => cases e
theorem ref_ty {n : Nat} {μ : Nat → Addr} {H : Hp} {st : Store} {t : Tv} {y : V} {K : PySem.W.Frag} (ok : Ok D n μ H st) (r : Rt D n μ H t y) (e : (refL t st).isSome = true) : tyV K "list" y H := by
  cases h : refL t st with
  | none => rw [h] at e; cases e
  | some p =>
    obtain ⟨_, rfl, _, _, ys, hy, _⟩ := refL_ok (j := p.1) (xs := p.2) ok r h
    exact .inl ⟨rfl, ys, SqL.of hy⟩
theorem lst_ty {n : Nat} {μ : Nat → Addr} {H : Hp} {st : Store} {t : Tv} {y : V} {K : PySem.W.Frag} (ok : Ok D n μ H st) (r : Rt D n μ H t y) (e : (lstOf t st).isSome = true) : tyV K "list" y H := by
  cases h : lstOf t st with
  | none => rw [h] at e; cases e
  | some p =>
    obtain ⟨a, ys, rfl, hy, _⟩ := lstOf_ok ok r h
    exact .inl ⟨rfl, ys, SqL.of hy⟩
/-- a list of the store is written -/
theorem wr_lst {n : Nat} {μ : Nat → Addr} {H : Hp} {st : Store} {j : Nat} {xs : List Val} {ys : List V} (ok : Ok D n μ H st) (hj : j < n) (r : RpAll D n μ H xs ys) :
    Ok D n μ (upd H (μ j) (.lst ys)) (updL j xs st) ∧ Le n μ H n μ (upd H (μ j) (.lst ys)) := by
  have kt : ∀ a zs, H a = some (.tup zs) → upd H (μ j) (.lst ys) a = some (.tup zs) := fun a zs e => by
    rw [upd_ne fun z => ?_]; exact e
    obtain ⟨_, _, r⟩ := ok.at hj
    obtain ⟨v, hv, h1, _⟩ := r.some
    rw [← z, e] at hv; cases hv; exact h1 _ rfl
  exact ok.set hj ⟨ys, upd_same, r.mono' (Nat.le_refl _) (fun _ _ => rfl) kt⟩
/-- the shape of a method's call with one argument -/
theorem e_append (ho : SE X D o fo) (ha : SE X D e fe) (hbase : attributeBase o "append" X.env (eval o X.env) = eval o X.env := by rfl)
    (hfew : ((backTo cpos (starEach [e] X.env)).all (fun x => !x.1) && (backToKw cpos (keywordEach [] X.env)).all (fun x => x.1.isSome)
      && decide ([e].length + ([] : List Keyword).length + (if ([] : List Keyword).isEmpty then 0 else 1) < 30)) = true := by rfl)
    (hline : (apos.endLine == cpos.line) = true := by rfl) (hs : starEach [e] X.env = (false, eval e X.env) :: starEach [] X.env := by rfl) : SE X D (.Call (.Attribute o "append" apos) [e] [] cpos) (eAppend fo fe) :=
  PE_imp (pe_bm PySem.F.plainAttrs_list PySem.F.slot_list_append PySem.F.type_list_append mt_append ho (pa_cons ha pa_nil hs) hbase hfew hline hs) fun σ H Q ⟨n, μ, ρ, st, z, st', ok, er, hf, an⟩ => by
    obtain ⟨x, s1, h1, hf⟩ := bind_eq_ok hf
    refine ⟨n, μ, ρ, st, x, s1, ok, er, h1, fun n1 μ1 H1 y1 ok1 l1 r1 f1 => ?_⟩
    by_cases hc : (refL x s1).isSome = true
    · rw [if_pos hc] at hf
      obtain ⟨t, s2, h2, hf⟩ := bind_eq_ok hf
      obtain ⟨w, s3, h3, hf⟩ := bind_eq_ok hf
      refine ⟨ref_ty ok1 r1 hc, n1, μ1, ρ, s1, t, s2, ok1, er.mono l1, h2, fun n2 μ2 H2 y2 ok2 l2 r2 f2 => ?_⟩
      obtain ⟨n3, μ3, ok3, l3, r3, tr, hn, hm⟩ := mat_ok h3 ok2 l2 r2 f2
      cases h4 : refL x s3 with
      | none => simp only [h4] at hf; cases hf
      | some pr =>
        obtain ⟨j, xs⟩ := pr
        simp only [h4] at hf
        by_cases hl : xs.length < LIM
        · rw [if_pos hl] at hf
          cases hf
          obtain ⟨rfl, rfl, hj, hst, ys, hy, ra⟩ := refL_ok ok3 (r1.mono l3) h4
          have rr := ra.append (.cons r3 .nil)
          obtain ⟨ok4, l4⟩ := wr_lst ok3 hj rr
          exact ⟨_, ys, y2, rfl, rfl, hy, by rw [← ra.length, sizeLine_eq]; exact hl, an n3 μ3 _ _ ok4 (l1.trans (l3.trans l4)) .non trivial⟩
        · rw [if_neg hl] at hf; cases hf
    · rw [if_neg hc] at hf; cases hf
theorem e_extend (ho : SE X D o fo) (ha : SE X D e fe) (hbase : attributeBase o "extend" X.env (eval o X.env) = eval o X.env := by rfl)
    (hfew : ((backTo cpos (starEach [e] X.env)).all (fun x => !x.1) && (backToKw cpos (keywordEach [] X.env)).all (fun x => x.1.isSome)
      && decide ([e].length + ([] : List Keyword).length + (if ([] : List Keyword).isEmpty then 0 else 1) < 30)) = true := by rfl)
    (hline : (apos.endLine == cpos.line) = true := by rfl) (hs : starEach [e] X.env = (false, eval e X.env) :: starEach [] X.env := by rfl) : SE X D (.Call (.Attribute o "extend" apos) [e] [] cpos) (eExtend fo fe) :=
  PE_imp (pe_bm PySem.F.plainAttrs_list PySem.F.slot_list_extend PySem.F.type_list_extend mt_extend ho (pa_cons ha pa_nil hs) hbase hfew hline hs) fun σ H Q ⟨n, μ, ρ, st, z, st', ok, er, hf, an⟩ => by
    obtain ⟨x, s1, h1, hf⟩ := bind_eq_ok hf
    refine ⟨n, μ, ρ, st, x, s1, ok, er, h1, fun n1 μ1 H1 y1 ok1 l1 r1 f1 => ?_⟩
    by_cases hc : (refL x s1).isSome = true
    · rw [if_pos hc] at hf
      obtain ⟨t, s2, h2, hf⟩ := bind_eq_ok hf
      refine ⟨ref_ty ok1 r1 hc, n1, μ1, ρ, s1, t, s2, ok1, er.mono l1, h2, fun n2 μ2 H2 y2 ok2 l2 r2 f2 => ?_⟩
      cases h4 : refL x s2 with
      | none => simp only [h4] at hf; cases hf
      | some pr =>
        obtain ⟨j, xs⟩ := pr
        cases h5 : lstOf t s2 with
        | none => simp only [h4, h5] at hf; cases hf
        | some ls =>
          simp only [h4, h5] at hf
          by_cases hl : xs.length + ls.length ≤ LIM
          · rw [if_pos hl] at hf
            cases hf
            obtain ⟨rfl, rfl, hj, hst, ys, hy, ra⟩ := refL_ok ok2 (r1.mono l2) h4
            obtain ⟨b, zs, rfl, hb, rb⟩ := lstOf_ok ok2 r2 h5
            obtain ⟨ok4, l4⟩ := wr_lst ok2 hj (ra.append rb)
            exact ⟨_, b, ys, zs, rfl, rfl, hy, hb, by rw [← ra.length, ← rb.length, sizeLine_eq]; exact hl, an n2 μ2 _ _ ok4 (l1.trans (l2.trans l4)) .non trivial⟩
          · rw [if_neg hl] at hf; cases hf
    · rw [if_neg hc] at hf; cases hf
theorem e_pop (ho : SE X D o fo) (hbase : attributeBase o "pop" X.env (eval o X.env) = eval o X.env := by rfl) (hline : (apos.endLine == cpos.line) = true := by rfl) : SE X D (.Call (.Attribute o "pop" apos) [] [] cpos) (ePop fo) :=
  PE_imp (pe_bm0 PySem.F.plainAttrs_list PySem.F.slot_list_pop PySem.F.type_list_pop mt_pop ho hbase hline) fun σ H Q ⟨n, μ, ρ, st, z, st', ok, er, hf, an⟩ => by
    obtain ⟨x, s1, h1, hf⟩ := bind_eq_ok hf
    refine ⟨n, μ, ρ, st, x, s1, ok, er, h1, fun n1 μ1 H1 y1 ok1 l1 r1 f1 => ?_⟩
    cases h4 : refL x s1 with
    | none => simp only [h4] at hf; cases hf
    | some pr =>
      obtain ⟨j, xs⟩ := pr
      simp only [h4] at hf
      cases h5 : xs[xs.length - 1]? with
      | none => simp only [h5] at hf; cases hf
      | some w =>
        simp only [h5] at hf
        cases hf
        refine ⟨ref_ty ok1 r1 (by rw [h4]; rfl), ?_⟩
        obtain ⟨rfl, rfl, hj, hst, ys, hy, ra⟩ := refL_ok ok1 r1 h4
        obtain ⟨yv, hyv, rv⟩ := ra.get h5
        obtain ⟨ok4, l4⟩ := wr_lst ok1 hj ra.dropLast
        exact ⟨_, ys, yv, rfl, rfl, hy, by rw [← ra.length]; exact hyv, an n1 μ1 _ _ ok4 (l1.trans l4) (rv.mono l4) trivial⟩
theorem e_popAt (ho : SE X D o fo) (ha : SE X D e fe) (hbase : attributeBase o "pop" X.env (eval o X.env) = eval o X.env := by rfl)
    (hfew : ((backTo cpos (starEach [e] X.env)).all (fun x => !x.1) && (backToKw cpos (keywordEach [] X.env)).all (fun x => x.1.isSome)
      && decide ([e].length + ([] : List Keyword).length + (if ([] : List Keyword).isEmpty then 0 else 1) < 30)) = true := by rfl)
    (hline : (apos.endLine == cpos.line) = true := by rfl) (hs : starEach [e] X.env = (false, eval e X.env) :: starEach [] X.env := by rfl) : SE X D (.Call (.Attribute o "pop" apos) [e] [] cpos) (ePopAt fo fe) :=
  PE_imp (pe_bm PySem.F.plainAttrs_list PySem.F.slot_list_pop PySem.F.type_list_pop mt_popAt ho (pa_cons ha pa_nil hs) hbase hfew hline hs) fun σ H Q ⟨n, μ, ρ, st, z, st', ok, er, hf, an⟩ => by
    obtain ⟨x, s1, h1, hf⟩ := bind_eq_ok hf
    refine ⟨n, μ, ρ, st, x, s1, ok, er, h1, fun n1 μ1 H1 y1 ok1 l1 r1 f1 => ?_⟩
    by_cases hc : (refL x s1).isSome = true
    · rw [if_pos hc] at hf
      obtain ⟨t, s2, h2, hf⟩ := bind_eq_ok hf
      refine ⟨ref_ty ok1 r1 hc, n1, μ1, ρ, s1, t, s2, ok1, er.mono l1, h2, fun n2 μ2 H2 y2 ok2 l2 r2 f2 => ?_⟩
      split at hf
      · rename_i i
        cases r2
        cases h4 : refL x s2 with
        | none => simp only [h4] at hf; cases hf
        | some pr =>
          obtain ⟨j, xs⟩ := pr
          simp only [h4] at hf
          cases h6 : (if inR i then VI.ixN xs.length i else none) with
          | none => simp only [h6] at hf; cases hf
          | some k =>
            simp only [h6] at hf
            cases h5 : xs[k]? with
            | none => simp only [h5] at hf; cases hf
            | some w =>
              simp only [h5] at hf
              cases hf
              obtain ⟨rfl, rfl, hj, hst, ys, hy, ra⟩ := refL_ok ok2 (r1.mono l2) h4
              obtain ⟨yv, hyv, rv⟩ := ra.get h5
              obtain ⟨ok4, l4⟩ := wr_lst ok2 hj (ra.eraseIdx k)
              by_cases hin : inR i = true
              · rw [if_pos hin] at h6
                obtain ⟨q1, q2, q3, q4⟩ := L2.ixN_seq (n := xs.length) (i := i) (j := k) h6
                unfold inR at hin
                simp only [Bool.and_eq_true, decide_eq_true_eq] at hin
                exact ⟨_, ys, i, k, yv, rfl, rfl, hy, by omega, by omega, by rw [← ra.length]; exact q1, hyv, an n2 μ2 _ _ ok4 (l1.trans (l2.trans l4)) (rv.mono l4) trivial⟩
              · rw [if_neg hin] at h6; cases h6
      · cases hf
    · rw [if_neg hc] at hf; cases hf
end
end VI
end
section
set_option Elab.async false
set_option linter.all false
set_option maxRecDepth 100000
set_option maxHeartbeats 4000000
/-! VI7: what is walked. -/
namespace VI
open PySem PySem.Spec PyProof.Rows L2

/-! ### enumerate of a tuple -/
theorem enum_new1 {v : Value} {o : Obj} {H : Heap → Prop} (B : Begins v o H) :
    Meets (Builtin.«enumerate.__new__» ⟨[.type "enumerate", v], []⟩) (fun _ R s => H s.heap ∧
      R (.ok (.ret (.ref (s.heap.push o).objs.size))) { s with heap := (s.heap.push o).push { cls := .type "enumerate", data := .fields #[.none, .bool false, .ref s.heap.objs.size, rawInt 0, .none, .none] } }) :=
  .of_wp fun prog w A R s h => by
    obtain ⟨hp, g, d, tk, os⟩ := s; obtain ⟨h1, h⟩ := h
    have hsub := sub_enumerate
    have q1 : ∀ {A' : Around} {E : Value → Shared → Prop} {Q : Value → Shared → Prop}, Q (.ref hp.objs.size) ⟨hp.push o, g, d, tk, os⟩ → wpAny (model prog w) A' (pyIter v) Q E ⟨hp, g, d, tk, os⟩ :=
      fun q => B.iter prog w _ _ ⟨hp, g, d, tk, os⟩ _ h1 q
    wp_walk
    refine wpAny_stack_any fun st => wpAny_pure ?_
    split
    · rename_i c _ _ _ _ _
      cases (c == Value.type "enumerate")
      · wp_walk using q1
        exact ⟨_, rfl, h⟩
      · wp_walk using q1
        exact ⟨_, rfl, h⟩
    · wp_walk using q1
      exact ⟨_, rfl, h⟩
theorem enum_begins1 {prog : Program} {w : World} {A : Around} {E : Value → Shared → Prop} {s : Shared} {v : Value} {o : Obj} {H : Heap → Prop} {Q : Value → Shared → Prop} (B : Begins v o H) (h1 : H s.heap)
    (h : ∀ h', IsEnum h' (s.heap.objs.size + 1) s.heap.objs.size 0 .none → h'.get? s.heap.objs.size = some o → h'.objs.size = s.heap.objs.size + 2 →
      (∀ b o, s.heap.get? b = some o → h'.get? b = some o) → Q (.ref (s.heap.objs.size + 1)) { s with heap := h' }) :
    wpAny (model prog w) A (call (.type "enumerate") [v]) Q E s := by
  refine callType_new F.called_enumerate (by decide) (F.typeCall_enumerate_1 _) (F.newCall_enumerate_1 _) (fun obj => F.args_object_init_2 obj _) F.entry_enumerate_new
    (enum_new1 B) ⟨h1, ?_⟩
  have hz : (s.heap.push o).objs.size = s.heap.objs.size + 1 := Heap.size_push ..
  show _ ∧ _
  rw [hz]
  have he : IsEnum ((s.heap.push o).push { cls := .type "enumerate", data := .fields #[.none, .bool false, .ref s.heap.objs.size, rawInt 0, .none, .none] }) (s.heap.objs.size + 1) s.heap.objs.size 0 .none := by
    have := Heap.get?_push_size (s.heap.push o) (o := { cls := .type "enumerate", data := .fields #[.none, .bool false, .ref s.heap.objs.size, rawInt 0, .none, .none] }) rfl
    rw [hz] at this; exact this
  refine ⟨⟨_, he, rfl⟩, h _ he (Heap.get?_push_of_some _ (Heap.get?_push_size _ B.free)) (by rw [Heap.size_push, hz]) fun b o x => Heap.get?_push_of_some _ (Heap.get?_push_of_some _ x)⟩
/-- the tuple at a, each item in a new pair -/
def IteT (K : PySem.W.Frag) (a : Addr) : It :=
  ⟨fun i H => ∃ (xs : List V) (x : V), SqT K H a xs ∧ xs[i]? = some x, fun i H v H' => ∃ T x, v = .ref T ∧ H T = none ∧ H' = upd H T (.tup [.int (i : Nat), x]) ∧ ∀ xs, SqT K H a xs → xs[i]? = some x, fun i H => ∃ xs : List V, SqT K H a xs ∧ xs.length ≤ i⟩
theorem turn_enumT {P : Program} {w : World} {K : PySem.W.Frag} {elts : List Expr} {kk : Nat} {tpos : Pos} (a e it : Addr) :
    Turn P w K (.Tuple elts kk tpos) (IteT K a) [e, it] e (fun i h => (∃ old, IsEnum h e it ((i : Nat) : Int) old) ∧ h.IsTupleIter it a i ∧ e ≠ it) where
  mem := by simp
  obj := fun i h st b hb => by
    obtain ⟨⟨old, he⟩, ⟨o, ho, hc, hd⟩, _⟩ := st
    have e' : b = e ∨ b = it := by simpa using hb
    rcases e' with z | z
    · rw [z]; exact ⟨_, he, fun v q => nomatch q⟩
    · rw [z]; exact ⟨o, ho, fun v q => by rw [hd] at q; cases q⟩
  keep := fun i h h' st k => let ⟨⟨old, he⟩, hi, hne⟩ := st; ⟨⟨old, k e (by simp) _ he⟩, hi.at fun o q => k it (by simp) o q, hne⟩
  item := by
    intro X hP hw hK hc i pins s σ H E I hf st hg
    subst hP hw hK
    obtain ⟨⟨old, he⟩, hit, hne⟩ := st
    obtain ⟨xs, x, hq, hx⟩ := hg
    obtain ⟨its, rv, p, hz⟩ := I.tuple hq
    obtain ⟨u, hu, ru⟩ := rv.get hx
    have pT : s.heap.IsTuple a its.toArray := p
    have hel : e < s.heap.objs.size := Heap.lt_size he
    have hil : it < s.heap.objs.size := by obtain ⟨_, q, _⟩ := hit; exact Heap.lt_size q
    have hai : a ≠ it := fun z => by
      obtain ⟨o1, g1, c1, _⟩ := hit
      obtain ⟨o2, g2, c2, _⟩ := pT
      rw [z, g1] at g2; cases g2; rw [c1] at c2; injection c2 with c2; exact absurd c2 (by decide)
    have hae : a ≠ e := fun z => by
      obtain ⟨o2, g2, c2, _⟩ := pT
      rw [z, he] at g2; cases g2; injection c2 with c2; exact absurd c2 (by decide)
    have hl : i < its.toArray.size := by
      have := (List.getElem?_eq_some_iff.mp hu).1
      simpa using this
    refine wpAny_pyNext_enum_itemD (Draws.tuple (A := X.A.in1) (I.ok.hd hc) it a hai its.toArray) he ⟨hit, pT⟩ hl hne (by simp [hne, Ne.symm hae]) fun x' h' tk hPx ho hst hT hsz hk => ?_
    have hux : x' = u := by
      have h1 : its.toArray[i]? = some u := by simpa using hu
      have h2 : its.toArray[i]? = some x' := hPx
      rw [h1] at h2; exact (Option.some.inj h2).symm
    subst hux
    refine ⟨_, rfl, wpAny_letOwnedTupleGo_enum (s := { s with heap := h', toks := tk + 1 }) ho fun h'' he' sb => ?_⟩
    have hT2 : h''.get? s.heap.objs.size = some { cls := .type "tuple", data := .seq #[.int i tk, x'] } := (sb.2 _ (Nat.ne_of_gt hel)).trans hT
    have new : ObjOk X.prog X.w (upd H s.heap.objs.size (.tup [.int (i : Nat), x])) h'' s.heap.objs.size (.tup [.int (i : Nat), x]) :=
      ⟨by show 2 ≤ sizeLine; decide, [.int i tk, x'], .cons ⟨_, rfl⟩ (.cons ru .nil), ⟨_, hT2, rfl, _, rfl⟩⟩
    have I1 : Inv X pins σ (upd H s.heap.objs.size (.tup [.int (i : Nat), x])) { s with heap := h'', toks := tk + 1 } :=
      I.turnedNew (ch := [e, it]) (fun b ob hb q => (sb.2 b (fun z => hb (by simp [z]))).trans (hk b ob (fun z => hb (by simp [z])) (fun z => hb (by simp [z])) q)) hf (Nat.le_refl _) new
    refine ⟨.ref s.heap.objs.size, _, I1, rfl, ⟨_, x, rfl, I.hok.fresh (Nat.le_refl _), rfl, fun ys hy => by rw [I.tuple_inj hy hq]; exact hx⟩, ⟨⟨x', ?_⟩, hst.1.at fun o q => (sb.2 it (Ne.symm hne)).trans q, hne⟩, fun b hb => ?_⟩
    · have e1 : ((i + 1 : Nat) : Int) = (i : Int) + 1 := by omega
      rw [e1]; exact he'
    · have hb' : b < s.heap.objs.size := by
        have e' : b = e ∨ b = it := by simpa using hb
        rcases e' with z | z
        · rw [z]; exact hel
        · rw [z]; exact hil
      rw [upd_ne (Nat.ne_of_lt hb')]
      exact (hf b hb).1
  done := by
    intro X hP hw hK hc i pins s σ H E I hf st hg
    subst hP hw hK
    obtain ⟨⟨old, he⟩, hit, hne⟩ := st
    obtain ⟨xs, hq, hx⟩ := hg
    obtain ⟨its, rv, p, hz⟩ := I.tuple hq
    obtain ⟨f0, f1, f2, f3, f4, f5⟩ := hf it (by simp)
    have hl := rv.length
    have pT : s.heap.IsTuple a its.toArray := p
    have hT : s.TypeIs (.ref e) "enumerate" := ⟨_, he, rfl⟩
    unfold pyNext
    refine wpAny_bind (wpAny_attempt (wpAny_callSpecial?_slot (name := Str.ofString "__next__") hT F.slot_enumerate_next
      (wpAny_call_entry F.slot_enumerate_next hT F.entry_enumerate_next ?_ (F.args_enumerate_next_1 _))))
    show wpAny _ _ (field (.ref e) 2 >>= _) _ _ _
    refine wpAny_bind (wpAny_field he rfl (x := .ref it) rfl ?_)
    refine wpAny_bind (wpAny_nextOf_tuple_end (A := X.A.in1) (I.ok.hd hc) hit pT (by simp; omega) fun h' x he' hx' => ?_)
    obtain ⟨o, ho, hc⟩ := hx'
    refine wpAny_bind (wpAny_isInstance (T := "StopIteration") (b := true) ⟨o, ho, hc⟩ isSubtype_stop ?_)
    exact wpAny_pure ⟨rfl, I.turned (t' := s.toks) (fun b o hb q => he' b o hb q) f0 f1 f3 f4 f5⟩
  self := fun A i s Q E st h => let ⟨⟨_, he⟩, _⟩ := st; wpAny_pyIter_enum he h

/-! ### list or tuple -/
section
variable {X : Cx} {tg : Expr}
def iSeq (K : PySem.W.Frag) (tl : TE) : TI := fun σ H R => tl σ H fun x H1 => ∃ a, x = .ref a ∧ (((∃ xs, SqL K H1 a xs) ∧ R (Itl K a) H1) ∨ ((∃ xs, SqT K H1 a xs) ∧ R (Itt K a) H1))
theorem pi_seq {l : Expr} {tl : TE} (hl : PE X l tl) : PI X tg l (iSeq X.K tl) := by
  refine ⟨fun pins s σ H R I h => ?_⟩
  refine thn (hl.run pins s σ H _ I h) fun v s1 ⟨x, H1, I1, r1, q1⟩ => ?_
  obtain ⟨a, e, q1⟩ := q1
  subst e
  cases r1
  have fr : ∀ b ∈ [s1.heap.objs.size], FpOk X pins H1 b := fun b hb => by
    have e : b = s1.heap.objs.size := by simpa using hb
    subst e
    exact I1.fpOk (Nat.le_refl _) (I1.hok.fresh (Nat.le_refl _))
  rcases q1 with ⟨⟨xs, hq⟩, q⟩ | ⟨⟨xs, hq⟩, q⟩
  · obtain ⟨its, rv, p, hz⟩ := I1.list hq
    refine wpAny_pyIter_list p.isList ?_
    exact ⟨s1.heap.objs.size, [s1.heap.objs.size], _, _, H1, rfl, I1.kept (t' := s1.toks) fun b o e => Heap.get?_push_of_some _ e, turn_list a _, ⟨_, Heap.get?_push_size _ rfl, rfl, rfl⟩, fr, q⟩
  · obtain ⟨its, rv, p, hz⟩ := I1.tuple hq
    refine wpAny_pyIter_tuple (show s1.heap.IsTuple a its.toArray from p) ?_
    exact ⟨s1.heap.objs.size, [s1.heap.objs.size], _, _, H1, rfl, I1.kept (t' := s1.toks) fun b o e => Heap.get?_push_of_some _ e, turn_tuple a _, ⟨_, Heap.get?_push_size _ rfl, rfl, rfl⟩, fr, q⟩
def iEnumS (K : PySem.W.Frag) (ta : TA) : TI := fun σ H R => ta σ H fun vs H1 => ∃ a, vs = [.ref a] ∧ (((∃ xs, SqL K H1 a xs) ∧ R (Ite K a) H1) ∨ ((∃ xs, SqT K H1 a xs) ∧ R (IteT K a) H1))
theorem pi_enumS {e : Expr} {ta : TA} {p pos tpos : Pos} {elts : List Expr} {kk : Nat} (hg : Gl X "enumerate") (hm : X.mg "enumerate" = none) (ha : PA X [e] ta) (hs : starEach [e] X.env = [(false, eval e X.env)] := by rfl) :
    PI X (.Tuple elts kk tpos) (.Call (.Name "enumerate" p) [e] [] pos) (iEnumS X.K ta) := by
  refine ⟨fun pins s σ H R I h => ?_⟩
  refine Call_ (ld_blt I hg hm boot_enumerate (PyProof.Rows.callWith_type1 (thn (ha.run pos pins s σ H _ I h) fun us s1 ⟨vs, H1, I1, r1, q1⟩ => ?_) hs rfl))
  obtain ⟨a, ex, q1⟩ := q1
  subst ex
  cases r1 with
  | cons r rr =>
    cases rr
    cases r
    have fr : ∀ b ∈ [s1.heap.objs.size + 1, s1.heap.objs.size], FpOk X pins H1 b := fun b hb => by
      have e' : b = s1.heap.objs.size + 1 ∨ b = s1.heap.objs.size := by simpa using hb
      have hle : s1.heap.objs.size ≤ b := by
        rcases e' with z | z
        · rw [z]; exact Nat.le_add_right _ _
        · rw [z]; exact Nat.le_refl _
      exact I1.fpOk hle (I1.hok.fresh hle)
    rcases q1 with ⟨⟨xs, hq⟩, q⟩ | ⟨⟨xs, hq⟩, q⟩
    · obtain ⟨its, rv, p', hz⟩ := I1.list hq
      refine call_enumerate_list p'.isList fun h' he hit hsz hk => wpAny_pyIter_enum he ?_
      have I2 : Inv X pins σ H1 { s1 with heap := h' } := I1.kept (t' := s1.toks) hk
      exact ⟨s1.heap.objs.size + 1, [s1.heap.objs.size + 1, s1.heap.objs.size], _, _, H1, rfl, I2, turn_enum a (s1.heap.objs.size + 1) s1.heap.objs.size, ⟨⟨.none, he⟩, hit, Nat.succ_ne_self _⟩, fr, q⟩
    · obtain ⟨its, rv, p', hz⟩ := I1.tuple hq
      refine enum_begins1 (begins_tuple a its.toArray) (show s1.heap.IsTuple a its.toArray from p') fun h' he hit hsz hk => wpAny_pyIter_enum he ?_
      have I2 : Inv X pins σ H1 { s1 with heap := h' } := I1.kept (t' := s1.toks) hk
      exact ⟨s1.heap.objs.size + 1, [s1.heap.objs.size + 1, s1.heap.objs.size], _, _, H1, rfl, I2, turn_enumT a (s1.heap.objs.size + 1) s1.heap.objs.size, ⟨⟨.none, he⟩, ⟨_, hit, rfl, rfl⟩, Nat.succ_ne_self _⟩, fr, q⟩
end

/-! ### what its turns give -/
def ItR (D : Wd) (n : Nat) (μ : Nat → Addr) (H : Hp) (its : Its) (J : It) : Prop :=
  ∀ n' μ' H' st', Ok D n' μ' H' st' → Le n μ H n' μ' H' → ∀ xs, its st' = some xs → ∀ i,
    (∀ x, xs[i]? = some x → J.go i H' ∧ ∀ y H2, J.yld i H' y H2 → Ok D n' μ' H2 st' ∧ Le n' μ' H' n' μ' H2 ∧ Rp D n' μ' H2 x y) ∧ (xs[i]? = none → J.stop i H')
theorem ItR.le {D : Wd} {n n1 : Nat} {μ μ1 : Nat → Addr} {H H1 : Hp} {its : Its} {J : It} (h : ItR D n μ H its J) (l : Le n μ H n1 μ1 H1) : ItR D n1 μ1 H1 its J := fun n' μ' H' st' ok l' => h n' μ' H' st' ok (l.trans l')
def rI (D : Wd) (ix : Ix) : TI := fun σ H R => ∃ n μ ρ st its st', Ok D n μ H st ∧ EnvR D n μ H ρ σ ∧ ix ρ st = .ok its st' ∧ ∀ n' μ' H' J, Ok D n' μ' H' st' → Le n μ H n' μ' H' → ItR D n' μ' H' its J → R J H'
abbrev SI (X : Cx) (D : Wd) (tg e : Expr) (ix : Ix) : Prop := PI X tg e (rI D ix)
section
variable {D : Wd} {n : Nat} {μ : Nat → Addr} {H : Hp} {st : Store} {its its' : Its} {a b : Addr}
/-- a walked list at a, at every later state; a walked tuple -/
def LAt (D : Wd) (n : Nat) (μ : Nat → Addr) (H : Hp) (its : Its) (a : Addr) : Prop :=
  ∀ n' μ' H' st', Ok D n' μ' H' st' → Le n μ H n' μ' H' → ∀ xs, its st' = some xs → ∃ ys, SqL D.K H' a ys ∧ RpAll D n' μ' H' xs ys
def TAt (D : Wd) (n : Nat) (μ : Nat → Addr) (H : Hp) (its : Its) (a : Addr) : Prop :=
  ∀ n' μ' H' st', Ok D n' μ' H' st' → Le n μ H n' μ' H' → ∀ xs, its st' = some xs → ∃ ys, SqT D.K H' a ys ∧ RpAll D n' μ' H' xs ys
theorem LAt.le {n1 : Nat} {μ1 : Nat → Addr} {H1 : Hp} (h : LAt D n μ H its a) (l : Le n μ H n1 μ1 H1) : LAt D n1 μ1 H1 its a := fun n' μ' H' st' ok l' => h n' μ' H' st' ok (l.trans l')
theorem TAt.le {n1 : Nat} {μ1 : Nat → Addr} {H1 : Hp} (h : TAt D n μ H its a) (l : Le n μ H n1 μ1 H1) : TAt D n1 μ1 H1 its a := fun n' μ' H' st' ok l' => h n' μ' H' st' ok (l.trans l')
theorem itsOf_ok {t : Tv} {y : V} (ok : Ok D n μ H st) (r : Rt D n μ H t y) (e : itsOf t st = some its) : ∃ a, y = .ref a ∧ ((LAt D n μ H its a ∧ (∃ xs, SqL D.K H a xs) ∧ isTupT t = false) ∨ (TAt D n μ H its a ∧ (∃ xs, SqT D.K H a xs) ∧ isTupT t = true)) := by
  cases t with
  | l xs =>
    cases e
    have r0 := r
    obtain ⟨a, ys, e1, ha, ra, hm⟩ := r
    subst e1
    refine ⟨a, rfl, .inl ⟨fun n' μ' H' st' ok' l xs' q => ?_, ⟨ys, SqL.of ha⟩, rfl⟩⟩
    cases q
    obtain ⟨a', ys', e1, ha', ra', _⟩ := Rt.mono l r0
    cases e1
    exact ⟨ys', SqL.of ha', ra'⟩
  | v x =>
    cases x with
    | tup zs =>
      cases e
      cases r with
      | tup h ra =>
        refine ⟨_, rfl, .inr ⟨fun n' μ' H' st' ok' l xs' q => ?_, ⟨_, h.sq⟩, rfl⟩⟩
        cases q
        exact ⟨_, (h.mono l.tup).sq, ra.mono l⟩
    | ref k =>
      cases r with
      | ref hk0 =>
        unfold itsOf at e
        cases hk : st[k]? with
        | none => simp [hk] at e
        | some o =>
          cases o with
          | lst zs =>
            simp only [hk, Option.some.injEq] at e
            subst e
            obtain ⟨ys, h, ra⟩ := ok.ob k _ hk
            refine ⟨_, rfl, .inl ⟨fun n' μ' H' st' ok' l xs' q => ?_, ⟨ys, SqL.of h⟩, rfl⟩⟩
            cases hk' : st'[k]? with
            | none => simp [hk'] at q
            | some o' =>
              cases o' with
              | lst ws =>
                simp only [hk', Option.some.injEq] at q
                subst q
                obtain ⟨ys', h', ra'⟩ := ok'.ob k _ hk'
                rw [l.mu k hk0] at h'
                exact ⟨ys', SqL.of h', ra'⟩
              | _ => simp [hk'] at q
          | frz zs =>
            simp only [hk, Option.some.injEq] at e
            subst e
            obtain ⟨o, ys, h, ra⟩ := ok.ob k _ hk
            refine ⟨_, rfl, .inl ⟨fun n' μ' H' st' ok' l xs' q => ?_, ⟨ys, .inl (.inr ⟨o, h⟩)⟩, rfl⟩⟩
            cases hk' : st'[k]? with
            | none => simp [hk'] at q
            | some o' =>
              cases o' with
              | frz ws =>
                simp only [hk', Option.some.injEq] at q
                subst q
                obtain ⟨o', ys', h', ra'⟩ := ok'.ob k _ hk'
                rw [l.mu k hk0] at h'
                exact ⟨ys', .inl (.inr ⟨o', h'⟩), ra'⟩
              | _ => simp [hk'] at q
          | _ => simp [hk] at e
    | _ => cases e
theorem RpAll.none {xs : List Val} {ys : List V} {i : Nat} (r : RpAll D n μ H xs ys) (h : xs[i]? = Option.none) : ys.length ≤ i := by
  rw [← r.length]; exact List.getElem?_eq_none_iff.mp h
theorem it_l (h : LAt D n μ H its a) : ItR D n μ H its (Itl D.K a) := fun n' μ' H' st' ok l xs e i => by
  obtain ⟨ys, hs, r⟩ := h n' μ' H' st' ok l xs e
  refine ⟨fun x hx => ?_, fun hx => ⟨ys, hs, r.none hx⟩⟩
  obtain ⟨y, hy, ry⟩ := r.get hx
  refine ⟨⟨ys, y, hs, hy⟩, fun y' H2 q => ?_⟩
  obtain ⟨rfl, q⟩ := q
  have := q ys hs
  rw [hy] at this; cases this
  exact ⟨ok, Le.refl _ _ _, ry⟩
theorem it_t (h : TAt D n μ H its a) : ItR D n μ H its (Itt D.K a) := fun n' μ' H' st' ok l xs e i => by
  obtain ⟨ys, hs, r⟩ := h n' μ' H' st' ok l xs e
  refine ⟨fun x hx => ?_, fun hx => ⟨ys, hs, r.none hx⟩⟩
  obtain ⟨y, hy, ry⟩ := r.get hx
  refine ⟨⟨ys, y, hs, hy⟩, fun y' H2 q => ?_⟩
  obtain ⟨rfl, q⟩ := q
  have := q ys hs
  rw [hy] at this; cases this
  exact ⟨ok, Le.refl _ _ _, ry⟩
theorem rng_get (lo : Int) (m i : Nat) : ((List.range m).map fun k => Val.int (lo + (k : Nat)))[i]? = if i < m then some (.int (lo + (i : Nat))) else none := by
  rw [List.getElem?_map]
  by_cases h : i < m
  · rw [List.getElem?_range h, if_pos h]; rfl
  · rw [List.getElem?_eq_none (by simpa using h), if_neg h]; rfl
theorem it_r {lo hi : Int} {m : Nat} (hm : (hi - lo).toNat = m) : ItR D n μ H (fun _ => some (rngV lo hi)) (Itr lo m) := fun n' μ' H' st' ok l xs e i => by
  cases e
  unfold rngV
  rw [hm, rng_get]
  refine ⟨fun x hx => ?_, fun hx => ?_⟩
  · by_cases h : i < m
    · rw [if_pos h] at hx; cases hx
      refine ⟨h, fun y H2 q => ?_⟩
      obtain ⟨rfl, rfl⟩ := q
      exact ⟨ok, Le.refl _ _ _, .int _⟩
    · rw [if_neg h] at hx; cases hx
  · by_cases h : i < m
    · rw [if_pos h] at hx; cases hx
    · exact Nat.le_of_not_lt h
theorem num_get : ∀ (xs : List Val) (j i : Nat), (numbered xs j)[i]? = (xs[i]?).map fun x => Val.tup [.int ((j + i : Nat)), x]
  | [], _, _ => by simp [numbered]
  | x :: r, j, 0 => by simp [numbered]
  | x :: r, j, i + 1 => by
    unfold numbered
    rw [List.getElem?_cons_succ, List.getElem?_cons_succ, num_get r (j + 1) i, Nat.add_right_comm, Nat.add_assoc]
theorem pair_new {x : Val} {y : V} {i : Nat} (ok : Ok D n μ H st) (r : Rp D n μ H x y) {T : Addr} (hT : H T = none) : Ok D n μ (upd H T (.tup [.int (i : Nat), y])) st ∧ Le n μ H n μ (upd H T (.tup [.int (i : Nat), y])) ∧ Rp D n μ (upd H T (.tup [.int (i : Nat), y])) (.tup [.int ((i : Nat)), x]) (.ref T) := by
  obtain ⟨ok', l'⟩ := ok.upd (u := .tup [.int (i : Nat), y]) hT
  exact ⟨ok', l', .tup (.inl upd_same) (.cons (.int _) (.cons (r.mono l') .nil))⟩
theorem it_el (h : LAt D n μ H its a) : ItR D n μ H (fun s => (its s).map fun xs => numbered xs 0) (Ite D.K a) := fun n' μ' H' st' ok l xs e i => by
  obtain ⟨xs, e1, rfl⟩ := Option.map_eq_some_iff.mp e
  obtain ⟨ys, hs, r⟩ := h n' μ' H' st' ok l xs e1
  rw [num_get]
  refine ⟨fun x hx => ?_, fun hx => ⟨ys, hs, r.none (by simpa using hx)⟩⟩
  obtain ⟨x, hx1, rfl⟩ := Option.map_eq_some_iff.mp hx
  obtain ⟨y, hy, ry⟩ := r.get hx1
  refine ⟨⟨ys, y, hs, hy⟩, fun y' H2 q => ?_⟩
  obtain ⟨T, z, rfl, hT, rfl, q⟩ := q
  have := q ys hs
  rw [hy] at this; cases this
  rw [Nat.zero_add]
  exact pair_new ok ry hT
theorem it_et (h : TAt D n μ H its a) : ItR D n μ H (fun s => (its s).map fun xs => numbered xs 0) (IteT D.K a) := fun n' μ' H' st' ok l xs e i => by
  obtain ⟨xs, e1, rfl⟩ := Option.map_eq_some_iff.mp e
  obtain ⟨ys, hs, r⟩ := h n' μ' H' st' ok l xs e1
  rw [num_get]
  refine ⟨fun x hx => ?_, fun hx => ⟨ys, hs, r.none (by simpa using hx)⟩⟩
  obtain ⟨x, hx1, rfl⟩ := Option.map_eq_some_iff.mp hx
  obtain ⟨y, hy, ry⟩ := r.get hx1
  refine ⟨⟨ys, y, hs, hy⟩, fun y' H2 q => ?_⟩
  obtain ⟨T, z, rfl, hT, rfl, q⟩ := q
  have := q ys hs
  rw [hy] at this; cases this
  rw [Nat.zero_add]
  exact pair_new ok ry hT
theorem paired_get : ∀ (xs ys : List Val) (i : Nat), (paired xs ys)[i]? = match xs[i]?, ys[i]? with | some x, some y => some (Val.tup [x, y]) | _, _ => none
  | [], _, _ => by simp [paired]
  | x :: r, [], i => by
    cases h : (x :: r)[i]? <;> simp [paired]
  | x :: r, y :: q, 0 => by simp [paired]
  | x :: r, y :: q, i + 1 => by
    unfold paired
    rw [List.getElem?_cons_succ, List.getElem?_cons_succ, List.getElem?_cons_succ, paired_get r q i]
theorem pair_new2 {x z : Val} {y w : V} (ok : Ok D n μ H st) (r : Rp D n μ H x y) (r' : Rp D n μ H z w) {T : Addr} (hT : H T = none) : Ok D n μ (upd H T (.tup [y, w])) st ∧ Le n μ H n μ (upd H T (.tup [y, w])) ∧ Rp D n μ (upd H T (.tup [y, w])) (.tup [x, z]) (.ref T) := by
  obtain ⟨ok', l'⟩ := ok.upd (u := .tup [y, w]) hT
  exact ⟨ok', l', .tup (.inl upd_same) (.cons (r.mono l') (.cons (r'.mono l') .nil))⟩
theorem zipI_some {f g : Its} {s : Store} {zs : List Val} (e : zipI f g s = some zs) : ∃ xs ys, f s = some xs ∧ g s = some ys ∧ zs = paired xs ys := by
  unfold zipI at e
  cases h1 : f s with
  | none => rw [h1] at e; cases e
  | some xs =>
    cases h2 : g s with
    | none => rw [h1, h2] at e; cases e
    | some ys => rw [h1, h2] at e; cases e; exact ⟨xs, ys, rfl, rfl, rfl⟩
theorem it_zl (h : LAt D n μ H its a) (h' : LAt D n μ H its' b) : ItR D n μ H (zipI its its') (Itz D.K a b) := fun n' μ' H' st' ok l xs e i => by
  obtain ⟨xs, xs', e1, e2, rfl⟩ := zipI_some e
  obtain ⟨ys, hs, r⟩ := h n' μ' H' st' ok l xs e1
  obtain ⟨ys', hs', r'⟩ := h' n' μ' H' st' ok l xs' e2
  rw [paired_get]
  cases h1 : xs[i]? with
  | none => exact ⟨fun x hx => by simp at hx, fun _ => ⟨ys, ys', hs, hs', .inl (r.none h1)⟩⟩
  | some x =>
    cases h2 : xs'[i]? with
    | none => exact ⟨fun x hx => by simp at hx, fun _ => ⟨ys, ys', hs, hs', .inr (r'.none h2)⟩⟩
    | some x' =>
      refine ⟨fun z hz => ?_, fun hx => by simp at hx⟩
      cases hz
      obtain ⟨y, hy, ry⟩ := r.get h1
      obtain ⟨y', hy', ry'⟩ := r'.get h2
      refine ⟨⟨ys, ys', y, y', hs, hs', hy, hy'⟩, fun w H2 q => ?_⟩
      obtain ⟨T, z, z', rfl, hT, rfl, q, q'⟩ := q
      have t1 := q ys hs
      have t2 := q' ys' hs'
      rw [hy] at t1; cases t1
      rw [hy'] at t2; cases t2
      exact pair_new2 ok ry ry' hT
theorem it_zt (h : TAt D n μ H its a) (h' : TAt D n μ H its' b) : ItR D n μ H (zipI its its') (RZ.ItzT D.K a b) := fun n' μ' H' st' ok l xs e i => by
  obtain ⟨xs, xs', e1, e2, rfl⟩ := zipI_some e
  obtain ⟨ys, hs, r⟩ := h n' μ' H' st' ok l xs e1
  obtain ⟨ys', hs', r'⟩ := h' n' μ' H' st' ok l xs' e2
  rw [paired_get]
  cases h1 : xs[i]? with
  | none => exact ⟨fun x hx => by simp at hx, fun _ => ⟨ys, ys', hs, hs', .inl (r.none h1)⟩⟩
  | some x =>
    cases h2 : xs'[i]? with
    | none => exact ⟨fun x hx => by simp at hx, fun _ => ⟨ys, ys', hs, hs', .inr (r'.none h2)⟩⟩
    | some x' =>
      refine ⟨fun z hz => ?_, fun hx => by simp at hx⟩
      cases hz
      obtain ⟨y, hy, ry⟩ := r.get h1
      obtain ⟨y', hy', ry'⟩ := r'.get h2
      refine ⟨⟨ys, ys', y, y', hs, hs', hy, hy'⟩, fun w H2 q => ?_⟩
      obtain ⟨T, z, z', rfl, hT, rfl, q, q'⟩ := q
      have t1 := q ys hs
      have t2 := q' ys' hs'
      rw [hy] at t1; cases t1
      rw [hy'] at t2; cases t2
      exact pair_new2 ok ry ry' hT
end
section
variable {X : Cx} {D : Wd} {tg a b e : Expr} {elts : List Expr} {kk : Nat} {fa fb fe : Ev} {p pos tpos : Pos}
theorem i_E [C : Cok X D] (he : SE X D e fe) : SI X D tg e (ixE fe) := PI_imp (pi_seq he) fun σ H R ⟨n, μ, ρ, st, its, st', ok, er, hf, an⟩ => by
  obtain ⟨x, s1, h1, hf⟩ := bind_eq_ok hf
  refine ⟨n, μ, ρ, st, x, s1, ok, er, h1, fun n1 μ1 H1 y1 ok1 l1 r1 f1 => ?_⟩
  cases h : itsOf x s1 with
  | none => rw [h] at hf; cases hf
  | some f =>
    rw [h] at hf
    cases hf
    obtain ⟨a, rfl, hs⟩ := itsOf_ok ok1 r1 h
    refine ⟨a, rfl, ?_⟩
    rw [C.hK]
    exact hs.imp (fun h => ⟨h.2.1, an n1 μ1 H1 _ ok1 l1 (it_l h.1)⟩) fun h => ⟨h.2.1, an n1 μ1 H1 _ ok1 l1 (it_t h.1)⟩
theorem inR_ok {i : Int} (h : inR i = true) : -(2 ^ 62) ≤ i ∧ i < 2 ^ 62 := by
  unfold inR at h
  simpa only [Bool.and_eq_true, decide_eq_true_eq] using h
theorem i_R (hg : Gl X "range") (hm : X.mg "range" = none) (ha : SE X D a fa) (hs : starEach [a] X.env = [(false, eval a X.env)] := by rfl) : SI X D tg (.Call (.Name "range" p) [a] [] pos) (ixR fa) :=
  PI_imp (pi_range1 hg hm (pa_cons ha pa_nil hs) hs) fun σ H R ⟨n, μ, ρ, st, its, st', ok, er, hf, an⟩ => by
    obtain ⟨x, s1, h1, hf⟩ := bind_eq_ok hf
    refine ⟨n, μ, ρ, st, x, s1, ok, er, h1, fun n1 μ1 H1 y1 ok1 l1 r1 f1 => ?_⟩
    cases x with
    | l _ => cases hf
    | v x =>
      cases x with
      | int j =>
        by_cases hj : inR j = true
        · simp only [if_pos hj] at hf
          cases hf
          cases r1
          exact ⟨j, rfl, (inR_ok hj).1, (inR_ok hj).2, an n1 μ1 H1 _ ok1 l1 (it_r (by simp))⟩
        · simp only [if_neg hj] at hf; cases hf
      | _ => cases hf
theorem i_R2 (hg : Gl X "range") (hm : X.mg "range" = none) (ha : SE X D a fa) (hb : SE X D b fb) (hs : starEach [a, b] X.env = [(false, eval a X.env), (false, eval b X.env)] := by rfl) (hs2 : starEach [b] X.env = [(false, eval b X.env)] := by rfl)
    (hs3 : starEach [a, b] X.env = (false, eval a X.env) :: starEach [b] X.env := by rfl) :
    SI X D tg (.Call (.Name "range" p) [a, b] [] pos) (ixR2 fa fb) :=
  PI_imp (pi_range2 hg hm (pa_cons ha (pa_cons hb pa_nil hs2) hs3) hs hs2) fun σ H R ⟨n, μ, ρ, st, its, st', ok, er, hf, an⟩ => by
    obtain ⟨x, s1, h1, hf⟩ := bind_eq_ok hf
    obtain ⟨y, s2, h2, hf⟩ := bind_eq_ok hf
    refine ⟨n, μ, ρ, st, x, s1, ok, er, h1, fun n1 μ1 H1 y1 ok1 l1 r1 f1 => ⟨n1, μ1, ρ, s1, y, s2, ok1, er.mono l1, h2, fun n2 μ2 H2 y2 ok2 l2 r2 f2 => ?_⟩⟩
    cases x with
    | l _ => cases hf
    | v x =>
      cases x with
      | int i =>
        cases y with
        | l _ => cases hf
        | v y =>
          cases y with
          | int j =>
            by_cases hj : (inR i && inR j) = true
            · simp only [if_pos hj] at hf
              cases hf
              cases r1; cases r2
              rw [Bool.and_eq_true] at hj
              exact ⟨i, j, rfl, ⟨(inR_ok hj.1).1, (inR_ok hj.1).2, (inR_ok hj.2).1, (inR_ok hj.2).2⟩, an n2 μ2 H2 _ ok2 (l1.trans l2) (it_r rfl)⟩
            · simp only [if_neg hj] at hf; cases hf
          | _ => cases hf
      | _ => cases hf
theorem i_enum [C : Cok X D] (hg : Gl X "enumerate") (hm : X.mg "enumerate" = none) (he : SE X D e fe) (hs : starEach [e] X.env = [(false, eval e X.env)] := by rfl) : SI X D (.Tuple elts kk tpos) (.Call (.Name "enumerate" p) [e] [] pos) (ixEnum fe) :=
  PI_imp (pi_enumS hg hm (pa_cons he pa_nil hs) hs) fun σ H R ⟨n, μ, ρ, st, its, st', ok, er, hf, an⟩ => by
    obtain ⟨x, s1, h1, hf⟩ := bind_eq_ok hf
    refine ⟨n, μ, ρ, st, x, s1, ok, er, h1, fun n1 μ1 H1 y1 ok1 l1 r1 f1 => ?_⟩
    cases h : itsOf x s1 with
    | none => rw [h] at hf; cases hf
    | some f =>
      rw [h] at hf
      cases hf
      obtain ⟨a, rfl, hs⟩ := itsOf_ok ok1 r1 h
      refine ⟨a, rfl, ?_⟩
      rw [C.hK]
      exact hs.imp (fun h => ⟨h.2.1, an n1 μ1 H1 _ ok1 l1 (it_el h.1)⟩) fun h => ⟨h.2.1, an n1 μ1 H1 _ ok1 l1 (it_et h.1)⟩
theorem i_zip [C : Cok X D] (hg : Gl X "zip") (hm : X.mg "zip" = none) (ha : SE X D a fa) (hb : SE X D b fb) (hs : starEach [a, b] X.env = (false, eval a X.env) :: starEach [b] X.env := by rfl) (hs2 : starEach [b] X.env = [(false, eval b X.env)] := by rfl)
    (hpl : (backTo pos (starEach [b] X.env)).any (·.1) = false := by rfl) : SI X D (.Tuple elts kk tpos) (.Call (.Name "zip" p) [a, b] [] pos) (ixZip fa fb) :=
  PI_imp (RZ.pi_zipA hg hm (pa_cons ha (pa_cons hb pa_nil hs2) hs) hs hpl) fun σ H R ⟨n, μ, ρ, st, its, st', ok, er, hf, an⟩ => by
    obtain ⟨x, s1, h1, hf⟩ := bind_eq_ok hf
    obtain ⟨y, s2, h2, hf⟩ := bind_eq_ok hf
    refine ⟨n, μ, ρ, st, x, s1, ok, er, h1, fun n1 μ1 H1 y1 ok1 l1 r1 f1 => ⟨n1, μ1, ρ, s1, y, s2, ok1, er.mono l1, h2, fun n2 μ2 H2 y2 ok2 l2 r2 f2 => ?_⟩⟩
    cases h : itsOf x s2 with
    | none => rw [h] at hf; cases hf
    | some f =>
      cases h' : itsOf y s2 with
      | none => rw [h, h'] at hf; cases hf
      | some g =>
        rw [h, h'] at hf
        by_cases hk : (isTupT x == isTupT y) = true
        · simp only [if_pos hk] at hf
          cases hf
          obtain ⟨a, rfl, k1⟩ := itsOf_ok ok2 (r1.mono l2) h
          obtain ⟨b, rfl, k2⟩ := itsOf_ok ok2 r2 h'
          rw [C.hK]
          have hk := beq_iff_eq.mp hk
          rcases k1 with ⟨k1, ⟨xs, q1⟩, z1⟩ | ⟨k1, ⟨xs, q1⟩, z1⟩
          · rcases k2 with ⟨k2, ⟨ys, q2⟩, z2⟩ | ⟨k2, ⟨ys, q2⟩, z2⟩
            · exact ⟨a, b, xs, ys, rfl, .inl ⟨q1, q2, an n2 μ2 H2 _ ok2 (l1.trans l2) (it_zl k1 k2)⟩⟩
            · rw [z1, z2] at hk; cases hk
          · rcases k2 with ⟨k2, ⟨ys, q2⟩, z2⟩ | ⟨k2, ⟨ys, q2⟩, z2⟩
            · rw [z1, z2] at hk; cases hk
            · exact ⟨a, b, xs, ys, rfl, .inr ⟨q1, q2, an n2 μ2 H2 _ ok2 (l1.trans l2) (it_zt k1 k2)⟩⟩
        · simp only [if_neg hk] at hf; cases hf
end
end VI
end
section
set_option Elab.async false
set_option linter.all false
set_option maxRecDepth 100000
set_option maxHeartbeats 4000000
/-! VI8: targets, statements. -/
namespace VI
open PySem PySem.Spec PyProof.Rows L2

/-! ### targets -/
def rG (D : Wd) (is : List Nat) (g : Tgt) : TG := fun v σ H Q => ∃ n μ ρ st x ρ' st', Ok D n μ H st ∧ EnvR D n μ H ρ σ ∧ Rp D n μ H x v ∧ g x ρ st = .ok ρ' st' ∧
  ∀ n' μ' H' σ', Ok D n' μ' H' st' → Le n μ H n' μ' H' → EnvR D n' μ' H' ρ' σ' → (∀ vs, (∀ i ∈ is, i ∈ vs) → L2.wipe σ' vs = L2.wipe σ vs) → Q σ' H'
abbrev SG (X : Cx) (D : Wd) (tg : Expr) (is : List Nat) (g : Tgt) : Prop := PG X tg (rG D is g)
theorem PG_imp {X : Cx} {e : Expr} {t t' : TG} (h : PG X e t) (k : ∀ v σ H Q, t' v σ H Q → t v σ H Q) : PG X e t' := ⟨fun pins s σ H v u Q I r q => h.run pins s σ H v u Q I r (k v σ H Q q)⟩
theorem wipe_set {σ : L2.St} {i : Nat} {y : Option V} : ∀ {vs : List Nat}, i ∈ vs → L2.wipe (σ.set i y) vs = L2.wipe σ vs
  | [], h => by simp at h
  | v :: vs, h => by
    unfold L2.wipe
    by_cases hi : i ∈ vs
    · rw [wipe_set hi]
    · have e : i = v := by
        rcases List.mem_cons.mp h with e | e
        · exact e
        · exact absurd e hi
      subst e
      have q : ∀ {ws : List Nat}, i ∉ ws → (L2.wipe (σ.set i y) ws) = (L2.wipe σ ws).set i y := fun {ws} => by
        induction ws with
        | nil => intro _; rfl
        | cons w ws ih =>
          intro hw
          unfold L2.wipe
          rw [ih fun z => hw (List.mem_cons_of_mem _ z), List.set_comm _ _ (fun z => hw (by rw [z]; exact List.mem_cons_self))]
      rw [q hi, List.set_set]
section
variable {X : Cx} {D : Wd} {pos : Pos} {i : Nat} {x : Str}
theorem g_V [C : Cok X D] (hi : X.N[i]? = some x) (hx : Loc X.env.scope x) (hf : X.fn x = true ∨ X.env.scope.names.lookup x = some .local := by first | exact .inl rfl | exact .inr rfl | assumption) : SG X D (.Name x pos) [i] (gV i) :=
  PG_imp (pg_name C.nd hi hx hf) fun v σ H Q ⟨n, μ, ρ, st, z, ρ', st', ok, er, rz, hg, q⟩ => by
    cases hg
    exact q n μ H _ ok (Le.refl _ _ _) (er.set i rz) fun vs h => wipe_set (h i (by simp))
/-- several names -/
def rGs (D : Wd) (is : List Nat) : TGs := fun vs σ H Q => ∃ n μ ρ st xs ρ', Ok D n μ H st ∧ EnvR D n μ H ρ σ ∧ RpAll D n μ H xs vs ∧ setAll is xs ρ = some ρ' ∧
  ∀ σ', EnvR D n μ H ρ' σ' → (∀ vs, (∀ i ∈ is, i ∈ vs) → L2.wipe σ' vs = L2.wipe σ vs) → Q σ' H
theorem PGs_imp {e : List Expr} {t t' : TGs} (h : PGs X e t) (k : ∀ v σ H Q, t' v σ H Q → t v σ H Q) : PGs X e t' := ⟨fun pins s σ H v u Q I r q => h.run pins s σ H v u Q I r (k v σ H Q q)⟩
theorem gs_nil : PGs X [] (rGs D []) := PGs_imp pgs_nil fun vs σ H Q ⟨n, μ, ρ, st, xs, ρ', ok, er, r, hs, q⟩ => by
  cases r with
  | nil => cases hs; exact ⟨rfl, q σ er fun _ _ => rfl⟩
  | cons h r => cases hs
theorem gs_cons [C : Cok X D] {is : List Nat} {es : List Expr} (hi : X.N[i]? = some x) (hx : Loc X.env.scope x) (h2 : PGs X es (rGs D is)) (hf : X.fn x = true ∨ X.env.scope.names.lookup x = some .local := by first | exact .inl rfl | exact .inr rfl | assumption)
    (hs : (assignEach (.Name x pos :: es) X.env).map (·.2) = assign (.Name x pos) X.env :: (assignEach es X.env).map (·.2) := by rfl) : PGs X (.Name x pos :: es) (rGs D (i :: is)) :=
  PGs_imp (pgs_cons (pg_name C.nd hi hx hf) h2 hs) fun vs σ H Q ⟨n, μ, ρ, st, xs, ρ', ok, er, r, hset, q⟩ => by
    cases r with
    | nil => cases hset
    | cons h r =>
      refine ⟨_, _, rfl, n, μ, _, st, _, ρ', ok, er.set i h, r, hset, fun σ' er' w => q σ' er' fun vs hv => ?_⟩
      rw [w vs fun j hj => hv j (List.mem_cons_of_mem _ hj), wipe_set (hv i List.mem_cons_self)]
theorem setAll_len : ∀ {is : List Nat} {xs : List Val} {ρ ρ' : Env}, setAll is xs ρ = some ρ' → xs.length = is.length
  | [], [], _, _, _ => rfl
  | i :: is, x :: xs, _, _, h => by
    unfold setAll at h
    rw [List.length_cons, List.length_cons, setAll_len h]
  | [], _ :: _, _, _, h => by cases h
  | _ :: _, [], _, _, h => by cases h
theorem g_T [C : Cok X D] {is : List Nat} {es : List Expr} {k : Nat} (h : PGs X es (rGs D is)) (hn : (assignEach es X.env).length = is.length := by rfl) (hst : (assignEach es X.env).findIdx? (·.1) = none := by rfl) : SG X D (.Tuple es k pos) is (gT is) :=
  PG_imp (pg_tup C.calm h hn hst) fun v σ H Q ⟨n, μ, ρ, st, z, ρ', st', ok, er, rz, hg, q⟩ => by
    unfold gT at hg
    cases z with
    | tup xs =>
      cases hset : setAll is xs ρ with
      | none => simp only [hset] at hg; cases hg
      | some ρ1 =>
        simp only [hset] at hg
        cases hg
        cases rz with
        | tup hT r =>
          refine ⟨_, _, rfl, ?_, ?_, n, μ, ρ, st, xs, ρ', ok, er, r, hset, fun σ' er' w => q n μ H σ' ok (Le.refl _ _ _) er' w⟩
          · rw [C.hK]; exact hT.sq
          · rw [← r.length]; exact setAll_len hset
    | _ => cases hg
end

/-! ### statements -/
def fin (D : Wd) (n : Nat) (μ : Nat → Addr) (H : Hp) (r : Fl × Env) (st : Store) (E : Ends) : Prop := match r with
  | (.next, ρ) => ∀ n' μ' H' σ', Ok D n' μ' H' st → Le n μ H n' μ' H' → EnvR D n' μ' H' ρ σ' → E.nx σ' H'
  | (.brk, ρ) => ∀ n' μ' H' σ', Ok D n' μ' H' st → Le n μ H n' μ' H' → EnvR D n' μ' H' ρ σ' → E.bk σ' H'
  | (.ret t, _) => Ans D n μ H t st E.rt
theorem fin.le {D : Wd} {n n1 : Nat} {μ μ1 : Nat → Addr} {H H1 : Hp} {r : Fl × Env} {st : Store} {E : Ends} (h : fin D n μ H r st E) (l : Le n μ H n1 μ1 H1) : fin D n1 μ1 H1 r st E := by
  obtain ⟨f, ρ⟩ := r
  cases f with
  | next => exact fun n' μ' H' σ' ok l' er => h n' μ' H' σ' ok (l.trans l') er
  | brk => exact fun n' μ' H' σ' ok l' er => h n' μ' H' σ' ok (l.trans l') er
  | ret t => exact Ans.le h l
def rS (D : Wd) (f : Sx) : TS := fun E σ H => ∃ n μ ρ st r st', Ok D n μ H st ∧ EnvR D n μ H ρ σ ∧ f ρ st = .ok r st' ∧ fin D n μ H r st' E
abbrev SS (X : Cx) (D : Wd) (s : Stmt) (f : Sx) : Prop := PS X s (rS D f)
abbrev SSs (X : Cx) (D : Wd) (s : List Stmt) (f : Sx) : Prop := PSs X s (rS D f)
section
variable {X : Cx} {D : Wd} {e o tg : Expr} {fe fo : Ev} {pos p p2 : Pos} {a : Stmt} {as bs : List Stmt} {f g : Sx}
theorem ss_nil : SSs X D [] sNop := PSs_imp pss_nil fun E σ H ⟨n, μ, ρ, st, r, st', ok, er, hf, q⟩ => by
  cases hf
  exact q n μ H σ ok (Le.refl _ _ _) er
theorem seq_rd {E : Ends} {σ : L2.St} {H : Hp} (h : rS D (sSeq f g) E σ H) : tSeq (rS D f) (rS D g) E σ H := by
  obtain ⟨n, μ, ρ, st, r, st', ok, er, hf, q⟩ := h
  obtain ⟨⟨fl, ρ1⟩, s1, h1, hf⟩ := bind_eq_ok hf
  refine ⟨n, μ, ρ, st, (fl, ρ1), s1, ok, er, h1, ?_⟩
  cases fl with
  | next => exact fun n1 μ1 H1 σ1 ok1 l1 er1 => ⟨n1, μ1, ρ1, s1, r, st', ok1, er1, hf, q.le l1⟩
  | brk => cases hf; exact q
  | ret t => cases hf; exact q
theorem ss_cons (h1 : SS X D a f) (h2 : SSs X D as g) : SSs X D (a :: as) (sSeq f g) := PSs_imp (pss_cons h1 h2) fun _ _ _ h => seq_rd h
theorem ss_one (h1 : SS X D a f) : SSs X D [a] f := pss_one h1
/-- what is never reached -/
theorem s_no (h : ∀ ρ st r st', f ρ st ≠ .ok r st') : SS X D a f := PS_imp ps_never fun E σ H ⟨n, μ, ρ, st, r, st', ok, er, hf, q⟩ => h ρ st r st' hf
theorem s_raise {c : Nat} {av : Avs} : SS X D a (sRaise c av) := s_no fun ρ st r st' h => by
  obtain ⟨xs, s1, h1, hf⟩ := bind_eq_ok h
  cases hf
theorem s_exp (he : SE X D e fe) (hs : swapsWith e none pos.line X.env = pure false := by rfl) : SS X D (.Expr e pos) (sExp fe) := PS_imp (ps_expr he hs) fun E σ H ⟨n, μ, ρ, st, r, st', ok, er, hf, q⟩ => by
  obtain ⟨x, s1, h1, hf⟩ := bind_eq_ok hf
  cases hf
  exact ⟨n, μ, ρ, st, x, _, ok, er, h1, fun n1 μ1 H1 y ok1 l1 r1 f1 => q n1 μ1 H1 σ ok1 l1 (er.mono l1)⟩
theorem s_ret (he : SE X D e fe) : SS X D (.Return (some e) pos) (sRet fe) := PS_imp (ps_ret he) fun E σ H ⟨n, μ, ρ, st, r, st', ok, er, hf, q⟩ => by
  obtain ⟨x, s1, h1, hf⟩ := bind_eq_ok hf
  cases hf
  exact ⟨n, μ, ρ, st, x, _, ok, er, h1, q⟩
theorem s_retN : SS X D (.Return none pos) sRetN := PS_imp ps_retN fun E σ H ⟨n, μ, ρ, st, r, st', ok, er, hf, q⟩ => by
  cases hf
  exact ans_v q ok .non
theorem s_brk : SS X D (.Break pos) sBrk := PS_imp ps_break fun E σ H ⟨n, μ, ρ, st, r, st', ok, er, hf, q⟩ => by
  cases hf
  exact q n μ H σ ok (Le.refl _ _ _) er
theorem s_pass : SS X D (.Pass pos) sNop := PS_imp ps_pass fun E σ H ⟨n, μ, ρ, st, r, st', ok, er, hf, q⟩ => by
  cases hf
  exact q n μ H σ ok (Le.refl _ _ _) er
theorem s_if {c : Expr} {t : Tst} (hc : ST X D c t) (ha : SSs X D as f) (hb : SSs X D bs g) : SS X D (.If c as bs pos) (sIf t f g) := PS_imp (ps_if hc ha hb) fun E σ H ⟨n, μ, ρ, st, r, st', ok, er, hf, q⟩ => by
  obtain ⟨b, s1, h1, hf⟩ := bind_eq_ok hf
  refine ⟨n, μ, ρ, st, b, s1, ok, er, h1, fun n1 μ1 H1 ok1 l1 => ?_⟩
  cases b with
  | true => exact ⟨n1, μ1, ρ, s1, r, st', ok1, er.mono l1, hf, q.le l1⟩
  | false => exact ⟨n1, μ1, ρ, s1, r, st', ok1, er.mono l1, hf, q.le l1⟩
theorem asg_rd {is : List Nat} {t : Tgt} {E : Ends} {σ : L2.St} {H : Hp} (h : rS D (sAsg t fe) E σ H) : tAsg (rE D fe) (rG D is t) E σ H := by
  obtain ⟨n, μ, ρ, st, r, st', ok, er, hf, q⟩ := h
  obtain ⟨x, s1, h1, hf⟩ := bind_eq_ok hf
  obtain ⟨y, s2, h2, hf⟩ := bind_eq_ok hf
  obtain ⟨ρ', s3, h3, hf⟩ := bind_eq_ok hf
  cases hf
  refine ⟨n, μ, ρ, st, x, s1, ok, er, h1, fun n1 μ1 H1 y1 ok1 l1 r1 f1 => ?_⟩
  obtain ⟨n2, μ2, ok2, l2, r2, tr, hn, hm⟩ := mat_ok h2 ok1 l1 r1 f1
  exact ⟨n2, μ2, ρ, s2, y, ρ', _, ok2, er.mono l2, r2, h3, fun n3 μ3 H3 σ3 ok3 l3 er3 _ => q n3 μ3 H3 σ3 ok3 (l2.trans l3) er3⟩
theorem s_asg {is : List Nat} {t : Tgt} (he : SE X D e fe) (hg : SG X D tg is t) (hs : swapsWithSole [tg] e pos.line X.env = pure false := by rfl) (hw : swappedStores [tg] e X.env = pure none := by rfl)
    (h1 : (assignEach [tg] X.env).map (·.2) = [assign tg X.env] := by rfl) : SS X D (.Assign [tg] e pos) (sAsg t fe) := PS_imp (ps_asg he hg hs hw h1) fun _ _ _ h => asg_rd h
theorem nameG {i : Nat} {v : V} {σ : L2.St} {H : Hp} {Q : L2.St → Hp → Prop} (h : rG D [i] (gV i) v σ H Q) : gName i v σ H Q := by
  obtain ⟨n, μ, ρ, st, z, ρ', st', ok, er, rz, hg, q⟩ := h
  cases hg
  exact q n μ H _ ok (Le.refl _ _ _) (er.set i rz) fun vs h => wipe_set (h i (by simp))
theorem asg_nm {i : Nat} {E : Ends} {σ : L2.St} {H : Hp} (h : rS D (sAsg (gV i) fe) E σ H) : tAsg (rE D fe) (gName i) E σ H := by
  obtain ⟨n, μ, ρ, st, r, st', ok, er, hf, q⟩ := h
  obtain ⟨x, s1, h1, hf⟩ := bind_eq_ok hf
  obtain ⟨y, s2, h2, hf⟩ := bind_eq_ok hf
  obtain ⟨ρ', s3, h3, hf⟩ := bind_eq_ok hf
  cases hf
  refine ⟨n, μ, ρ, st, x, s1, ok, er, h1, fun n1 μ1 H1 y1 ok1 l1 r1 f1 => ?_⟩
  obtain ⟨n2, μ2, ok2, l2, r2, tr, hn, hm⟩ := mat_ok h2 ok1 l1 r1 f1
  exact nameG ⟨n2, μ2, ρ, s2, y, ρ', _, ok2, er.mono l2, r2, h3, fun n3 μ3 H3 σ3 ok3 l3 er3 _ => q n3 μ3 H3 σ3 ok3 (l2.trans l3) er3⟩
/-- name = value -/
theorem s_set [C : Cok X D] {i : Nat} {x : Str} (hi : X.N[i]? = some x) (hx : Loc X.env.scope x) (he : SE X D e fe) (hs : swapsWith e (some (.Name x p)) pos.line X.env = pure false := by rfl) (hf : X.fn x = true ∨ X.env.scope.names.lookup x = some .local := by first | exact .inl rfl | exact .inr rfl | assumption) :
    SS X D (.Assign [.Name x p] e pos) (sAsg (gV i) fe) := PS_imp (ps_set C.nd hi hx he hs hf) fun _ _ _ h => asg_nm h
theorem s_par [C : Cok X D] {i j : Nat} {x y : Str} {e1 e2 : Expr} {av : Avs} {px py pt : Pos} {kt k2 : Nat} {pt2 : Pos} (hi : X.N[i]? = some x) (hj : X.N[j]? = some y) (hij : i ≠ j)
    (hx : X.env.scope.names.lookup x = some .local) (hy : X.env.scope.names.lookup y = some .local) (ha : SA X D [e1, e2] av)
    (hw : swappedStores [.Tuple [.Name x px, .Name y py] kt pt] (.Tuple [e1, e2] k2 pt2) X.env = pure (some [x, y]))
    (hs : swapsWithSole [.Tuple [.Name x px, .Name y py] kt pt] (.Tuple [e1, e2] k2 pt2) pos.line X.env = pure false := by rfl) :
    SS X D (.Assign [.Tuple [.Name x px, .Name y py] kt pt] (.Tuple [e1, e2] k2 pt2) pos) (sPar i j av) := PS_imp (ps_par C.calm C.nd hi hj hij hx hy ha hw hs) fun E σ H ⟨n, μ, ρ, st, r, st', ok, er, hf, q⟩ => by
  obtain ⟨xs, s1, h1, hf⟩ := bind_eq_ok hf
  refine ⟨n, μ, ρ, st, xs, s1, ok, er, h1, fun n1 μ1 H1 ys ok1 l1 r1 => ?_⟩
  split at hf
  · cases hf
    cases r1 with
    | cons a1 r1 => cases r1 with
      | cons a2 r1 =>
        cases r1
        exact ⟨_, _, rfl, q n1 μ1 H1 _ ok1 l1 (((er.mono l1).set i a1).set j a2)⟩
  · cases hf
theorem s_par3 [C : Cok X D] {i j l : Nat} {x y z : Str} {e1 e2 e3 : Expr} {av : Avs} {px py pz pt : Pos} {kt k2 : Nat} {pt2 : Pos} (hi : X.N[i]? = some x) (hj : X.N[j]? = some y) (hl : X.N[l]? = some z) (hij : i ≠ j) (hil : i ≠ l) (hjl : j ≠ l)
    (hx : X.env.scope.names.lookup x = some .local) (hy : X.env.scope.names.lookup y = some .local) (hz : X.env.scope.names.lookup z = some .local) (ha : SA X D [e1, e2, e3] av)
    (hw : swappedStores [.Tuple [.Name x px, .Name y py, .Name z pz] kt pt] (.Tuple [e1, e2, e3] k2 pt2) X.env = pure (some [x, y, z]))
    (hs : swapsWithSole [.Tuple [.Name x px, .Name y py, .Name z pz] kt pt] (.Tuple [e1, e2, e3] k2 pt2) pos.line X.env = pure false := by rfl) :
    SS X D (.Assign [.Tuple [.Name x px, .Name y py, .Name z pz] kt pt] (.Tuple [e1, e2, e3] k2 pt2) pos) (sPar3 i j l av) := PS_imp (L2.ps_par3 C.calm C.nd hi hj hl hij hil hjl hx hy hz ha hw hs) fun E σ H ⟨n, μ, ρ, st, r, st', ok, er, hf, q⟩ => by
  obtain ⟨xs, s1, h1, hf⟩ := bind_eq_ok hf
  refine ⟨n, μ, ρ, st, xs, s1, ok, er, h1, fun n1 μ1 H1 ys ok1 l1 r1 => ?_⟩
  split at hf
  · cases hf
    cases r1 with
    | cons a1 r1 => cases r1 with
      | cons a2 r1 => cases r1 with
        | cons a3 r1 =>
          cases r1
          exact ⟨_, _, _, rfl, q n1 μ1 H1 _ ok1 l1 ((((er.mono l1).set i a1).set j a2).set l a3)⟩
  · cases hf
theorem refI_ok {n : Nat} {μ : Nat → Addr} {H : Hp} {st : Store} {cs : List Nat} {x : Tv} {y : V} {k c : Nat} {fs : List (Nat × Val)} (ok : Ok D n μ H st) (r : Rt D n μ H x y) (e : refI cs x st = some (k, c, fs)) :
    x = .v (.ref k) ∧ y = .ref (μ k) ∧ k < n ∧ st[k]? = some (.ins c fs) ∧ c ∈ cs ∧ ∃ dx gs, H (μ k) = some (.ins (D.C c) dx gs) ∧ FsR D n μ H fs gs := by
  cases x with
  | l _ => cases e
  | v x =>
    cases x with
    | ref i =>
      cases r with
      | ref hi =>
        unfold refI at e
        cases h : st[i]? with
        | none => simp [h] at e
        | some o =>
          cases o with
          | ins d gs =>
            simp only [h] at e
            by_cases hc : cs.contains d = true
            · simp only [if_pos hc, Option.some.injEq, Prod.mk.injEq] at e
              obtain ⟨rfl, rfl, rfl⟩ := e
              exact ⟨rfl, rfl, hi, h, by simpa using hc, ok.ob _ _ h⟩
            · rw [if_neg hc] at e; cases e
          | _ => simp [h] at e
    | _ => cases e
theorem s_fld [C : Cok X D] [W : Wok D] {cs : List Nat} {i : Nat} {z : Str} (F : CF D cs i z) (ho : SE X D o fo) (he : SE X D e fe) (hs : swapsWith e (some (.Attribute o z p)) pos.line X.env = pure false := by rfl) :
    SS X D (.Assign [.Attribute o z p] e pos) (sFld cs fo i fe) := PS_imp (ps_fld ho he hs) fun E σ H ⟨n, μ, ρ, st, r, st', ok, er, hf, q⟩ => by
  obtain ⟨t, s1, h1, hf⟩ := bind_eq_ok hf
  obtain ⟨y, s2, h2, hf⟩ := bind_eq_ok hf
  obtain ⟨x, s3, h3, hf⟩ := bind_eq_ok hf
  refine ⟨n, μ, ρ, st, t, s1, ok, er, h1, fun n1 μ1 H1 y1 ok1 l1 r1 f1 => ?_⟩
  obtain ⟨n2, μ2, ok2, l2, r2, tr, hn, hm⟩ := mat_ok h2 ok1 l1 r1 f1
  refine ⟨n2, μ2, ρ, s2, x, s3, ok2, er.mono l2, h3, fun n3 μ3 H3 x3 ok3 l3 r3 f3 => ?_⟩
  cases h4 : refI cs x s3 with
  | none => simp only [h4] at hf; cases hf
  | some pr =>
    obtain ⟨k, c, fs⟩ := pr
    simp only [h4] at hf
    by_cases hl : fs.length < 1000
    · rw [if_pos hl] at hf
      cases hf
      obtain ⟨rfl, rfl, hk, hst, hc, dx, gs, hH, hg⟩ := refI_ok ok3 r3 h4
      obtain ⟨c1, c2⟩ := F.cl c hc
      have kt : ∀ u a zs, H3 a = some (.tup zs) → upd H3 (μ3 k) u a = some (.tup zs) := fun u a zs e => by
        rw [upd_ne fun z => ?_]; exact e
        rw [← z, e] at hH; cases hH
      obtain ⟨ok4, l4⟩ := ok3.set (k := k) (o := .ins c (putF i y fs)) (u := .ins (D.C c) dx (L2.putF z y1 gs)) hk
        ⟨dx, _, upd_same, (FsR.put F.nm (r2.mono l3) hg).mono (Nat.le_refl _) (fun _ _ => rfl) (kt _)⟩
      refine ⟨_, _, dx, gs, rfl, hH, ?_, ?_, by rw [← hg.length]; exact hl, q n3 μ3 _ σ ok4 (l2.trans (l3.trans l4)) (er.mono (l2.trans (l3.trans l4)))⟩
      · rw [C.hK]; exact c1
      · rw [C.hK]; exact c2
    · rw [if_neg hl] at hf; cases hf
theorem s_put [C : Cok X D] {i : Expr} {fi : Ev} (ho : SE X D o fo) (hi : SE X D i fi) (he : SE X D e fe)
    (ha : ∀ v, assign (.Subscript o i p) X.env v = (do
      let ov ← holding [v] (eval o X.env)
      let iv ← holding [v, ov] (eval i X.env)
      standAt p
      holding [v, ov, iv] (setItem ov iv v)
      release [v, ov, iv] []) := by intro _; rfl)
    (hs : swapsWithSole [.Subscript o i p] e pos.line X.env = pure false := by rfl) (hw : swappedStores [.Subscript o i p] e X.env = pure none := by rfl)
    (h1 : (assignEach [.Subscript o i p] X.env).map (·.2) = [assign (.Subscript o i p) X.env] := by rfl) :
    SS X D (.Assign [.Subscript o i p] e pos) (sSub fo fi fe) := PS_imp (ps_asg he (pg_sub ho hi set_list ha) hs hw h1) fun E σ H ⟨n, μ, ρ, st, r, st', ok, er, hf, q⟩ => by
  obtain ⟨t, s1, h1, hf⟩ := bind_eq_ok hf
  obtain ⟨y, s2, h2, hf⟩ := bind_eq_ok hf
  obtain ⟨x, s3, h3, hf⟩ := bind_eq_ok hf
  obtain ⟨k, s4, h4, hf⟩ := bind_eq_ok hf
  refine ⟨n, μ, ρ, st, t, s1, ok, er, h1, fun n1 μ1 H1 y1 ok1 l1 r1 f1 => ?_⟩
  obtain ⟨n2, μ2, ok2, l2, r2, tr, hn, hm⟩ := mat_ok h2 ok1 l1 r1 f1
  refine ⟨n2, μ2, ρ, s2, x, s3, ok2, er.mono l2, h3, fun n3 μ3 H3 x3 ok3 l3 r3 f3 => ⟨n3, μ3, ρ, s3, k, s4, ok3, (er.mono l2).mono l3, h4, fun n4 μ4 H4 k4 ok4 l4 r4 f4 => ?_⟩⟩
  cases h5 : refL x s4 with
  | none => simp only [h5] at hf; cases hf
  | some pr =>
    obtain ⟨j, xs⟩ := pr
    cases k with
    | l _ => simp only [h5] at hf; cases hf
    | v k =>
      cases k with
      | int k =>
        simp only [h5] at hf
        cases h6 : ixN xs.length k with
        | none => simp only [h6] at hf; cases hf
        | some m =>
          simp only [h6] at hf
          cases hf
          cases r4
          obtain ⟨rfl, rfl, hj, hst, ys, hy, ra⟩ := refL_ok ok4 (r3.mono l4) h5
          obtain ⟨ok5, l5⟩ := wr_lst ok4 hj (ra.set ((r2.mono l3).mono l4) m)
          have l6 := l2.trans (l3.trans (l4.trans l5))
          exact ⟨_, ys, k, m, rfl, rfl, hy, by rw [← ra.length]; exact h6, q n4 μ4 _ σ ok5 l6 (er.mono l6)⟩
      | _ => simp only [h5] at hf; cases hf
end
end VI
end
section
set_option Elab.async false
set_option linter.all false
set_option maxRecDepth 100000
set_option maxHeartbeats 4000000
/-! VI9: loops, list comprehensions, defs. -/
namespace VI
open PySem PySem.Spec PyProof.Rows L2
class Own (X : Cx) : Prop where
  own : PassesOwn (model X.prog X.w) X.A X.env X.xe

section
variable {X : Cx} {D : Wd} {e tg iter : Expr} {fe : Ev} {pos : Pos} {as : List Stmt} {f : Sx}
/-! ### while -/
theorem s_while [O : Own X] {c : Expr} {t : Tst} (hc : ST X D c t) (hb : SSs X D as f) : SS X D (.While c as [] pos) (sWh t f) := PS_imp (ps_while O.own hc hb) fun E σ H ⟨n, μ, ρ, st, r, st', ok, er, hf, q⟩ => by
  refine ⟨fun m σ1 H1 => ∃ n1 μ1 ρ1 st1, Ok D n1 μ1 H1 st1 ∧ EnvR D n1 μ1 H1 ρ1 σ1 ∧ whGo t f m ρ1 st1 = .ok r st' ∧ fin D n1 μ1 H1 r st' E, ⟨_, n, μ, ρ, st, ok, er, hf, q⟩, ?_⟩
  rintro m σ1 H1 ⟨n1, μ1, ρ1, st1, ok1, er1, hf1, q1⟩
  cases m with
  | zero => cases hf1
  | succ m =>
    unfold whGo at hf1
    obtain ⟨b, s2, h2, hf1⟩ := bind_eq_ok hf1
    refine ⟨n1, μ1, ρ1, st1, b, s2, ok1, er1, h2, fun n2 μ2 H2 ok2 l2 => ?_⟩
    cases b with
    | false =>
      cases hf1
      exact q1 n2 μ2 H2 σ1 ok2 l2 (er1.mono l2)
    | true =>
      simp only [if_true] at hf1 ⊢
      obtain ⟨⟨fl, ρ3⟩, s3, h3, hf1⟩ := bind_eq_ok hf1
      refine ⟨fun σ4 H4 => ∃ n1 μ1 ρ1 st1, Ok D n1 μ1 H4 st1 ∧ EnvR D n1 μ1 H4 ρ1 σ4 ∧ whGo t f m ρ1 st1 = .ok r st' ∧ fin D n1 μ1 H4 r st' E, fun σ' H' h => ⟨m, Nat.lt_succ_self m, h⟩, n2, μ2, ρ1, s2, (fl, ρ3), s3, ok2, er1.mono l2, h3, ?_⟩
      cases fl with
      | next => exact fun n4 μ4 H4 σ4 ok4 l4 er4 => ⟨n4, μ4, ρ3, s3, ok4, er4, hf1, q1.le (l2.trans l4)⟩
      | brk => cases hf1; exact fun n4 μ4 H4 σ4 ok4 l4 er4 => q1 n4 μ4 H4 σ4 ok4 (l2.trans l4) er4
      | ret x => cases hf1; exact Ans.le q1 l2
/-! ### for -/
theorem s_for [C : Cok X D] [O : Own X] {ix : Ix} {is : List Nat} {g : Tgt} (hi : SI X D tg iter ix) (hg : SG X D tg is g) (hb : SSs X D as f) (hs : ∀ x, foldedSetIterable iter X.env x = pure x := by intro _; rfl) :
    SS X D (.For tg iter as [] pos) (sFor ix g f) := PS_imp (ps_for O.own C.calm hi hg hb hs) fun E σ H ⟨n, μ, ρ, st, r, st', ok, er, hf, q⟩ => by
  obtain ⟨its, s1, h1, hf⟩ := bind_eq_ok hf
  refine ⟨n, μ, ρ, st, its, s1, ok, er, h1, fun n1 μ1 H1 J ok1 l1 itr => ?_⟩
  cases h2 : its s1 with
  | none => rw [h2] at hf; cases hf
  | some xs =>
    rw [h2] at hf
    refine ⟨fun i m σ2 H2 => ∃ n2 μ2 ρ2 st2, Ok D n2 μ2 H2 st2 ∧ EnvR D n2 μ2 H2 ρ2 σ2 ∧ ItR D n2 μ2 H2 its J ∧ forGo its g f m i ρ2 st2 = .ok r st' ∧ fin D n2 μ2 H2 r st' E, ⟨_, n1, μ1, ρ, s1, ok1, er.mono l1, itr, hf, q.le l1⟩, ?_⟩
    rintro i m σ2 H2 ⟨n2, μ2, ρ2, st2, ok2, er2, itr2, hf2, q2⟩
    cases m with
    | zero => cases hf2
    | succ m =>
      unfold forGo at hf2
      cases h3 : its st2 with
      | none => rw [h3] at hf2; cases hf2
      | some xs =>
        rw [h3] at hf2
        obtain ⟨k1, k2⟩ := itr2 n2 μ2 H2 st2 ok2 (Le.refl _ _ _) xs h3 i
        cases h4 : xs[i]? with
        | none =>
          simp only [h4] at hf2
          cases hf2
          exact .inl ⟨k2 h4, q2 n2 μ2 H2 σ2 ok2 (Le.refl _ _ _) er2⟩
        | some x =>
          simp only [h4] at hf2
          obtain ⟨ρ3, s3, h5, hf2⟩ := bind_eq_ok hf2
          obtain ⟨⟨fl, ρ4⟩, s4, h6, hf2⟩ := bind_eq_ok hf2
          obtain ⟨go, yl⟩ := k1 x h4
          refine .inr ⟨go, fun σ5 H5 => ∃ n5 μ5 ρ5 st5, Ok D n5 μ5 H5 st5 ∧ EnvR D n5 μ5 H5 ρ5 σ5 ∧ ItR D n5 μ5 H5 its J ∧ forGo its g f m (i + 1) ρ5 st5 = .ok r st' ∧ fin D n5 μ5 H5 r st' E, fun σ' H' h => ⟨m, Nat.lt_succ_self m, h⟩, fun y H3 hy => ?_⟩
          obtain ⟨ok3, l3, r3⟩ := yl y H3 hy
          refine ⟨n2, μ2, ρ2, st2, x, ρ3, s3, ok3, er2.mono l3, r3, h5, fun n4 μ4 H4 σ4 ok4 l4 er4 _ => ?_⟩
          have l34 := l3.trans l4
          refine ⟨n4, μ4, ρ3, s3, (fl, ρ4), s4, ok4, er4, h6, ?_⟩
          cases fl with
          | next => exact fun n5 μ5 H5 σ5 ok5 l5 er5 => ⟨n5, μ5, ρ4, s4, ok5, er5, itr2.le (l34.trans l5), hf2, q2.le (l34.trans l5)⟩
          | brk => cases hf2; exact fun n5 μ5 H5 σ5 ok5 l5 er5 => q2 n5 μ5 H5 σ5 ok5 (l34.trans l5) er5
          | ret t => cases hf2; exact Ans.le q2 l34
end

/-! ### list comprehensions -/
theorem Ok.own {D : Wd} {n : Nat} {μ : Nat → Addr} {H : Hp} {st : Store} (ok : Ok D n μ H st) {p : Addr} {xs : List V} {u : HO} (hp : H p = some (.lst xs)) (hm : ∀ k, k < n → μ k ≠ p) : Ok D n μ (L2.upd H p u) st := by
  have kt : ∀ a zs, H a = some (.tup zs) → L2.upd H p u a = some (.tup zs) := fun a zs e => by
    rw [upd_ne fun z => by rw [z, hp] at e; cases e]; exact e
  refine ⟨ok.len, ok.inj, fun k o e => (ok.ob k o e).mono (Nat.le_refl _) (fun _ _ => rfl) kt (upd_ne (hm k (ok.lt e))), tabs_keep ok.tabs (fun b ps e => ?_) fun b φ e => ?_, fun i f F e => ?_⟩
  · rw [upd_ne fun z => by rw [z, hp] at e; cases e]; exact e
  · rw [upd_ne fun z => by rw [z, hp] at e; cases e]; exact e
  · obtain ⟨e1, e2⟩ := ok.lamc i f F e
    unfold LamO at e1 ⊢
    unfold LamX.CodeO at e2 ⊢
    exact ⟨by rw [upd_ne fun z => by rw [z, hp] at e1; cases e1]; exact e1, by rw [upd_ne fun z => by rw [z, hp] at e2; cases e2]; exact e2⟩
theorem Le.own {n n1 : Nat} {μ μ1 : Nat → Addr} {H H1 : Hp} (l : Le n μ H n1 μ1 H1) {p : Addr} {u : HO} (hp : H p = none) : Le n μ H n1 μ1 (L2.upd H1 p u) := by
  have ne : ∀ a o, H a = some o → a ≠ p := fun a o e z => by rw [z, hp] at e; cases e
  refine ⟨l.le, l.mu, l.new, fun a xs e => ?_, fun a o e ht hm => ?_, fun a o e => ?_⟩
  · rw [upd_ne (ne _ _ e)]; exact l.tup a xs e
  · rw [upd_ne (ne _ _ e)]; exact l.fr a o e ht hm
  · rw [upd_ne (ne _ _ e)]; exact l.dom a o e
theorem EnvR.wipe {D : Wd} {n : Nat} {μ : Nat → Addr} {H : Hp} {ρ : Env} {σ : L2.St} (hL : D.L = none) (er : EnvR D n μ H ρ σ) : ∀ vs, EnvR D n μ H (VI.wipe ρ vs) (L2.wipe σ vs)
  | [] => er
  | v :: vs => by
    have ih := er.wipe hL vs
    unfold VI.wipe L2.wipe
    refine ⟨by rw [List.length_set, List.length_set]; exact ih.1, fun i x e => ?_, fun i f F e => by rw [hL] at e; cases e⟩
    by_cases hj : v = i
    · subst hj
      have hi : v < (VI.wipe ρ vs).length := by
        have := (List.getElem?_eq_some_iff.mp e).1
        rwa [List.length_set] at this
      rw [List.getElem?_set_self hi] at e
      cases e
    · rw [List.getElem?_set_ne hj] at e ⊢
      exact ih.2.1 i x e
def own_keep (p : Addr) (n : Nat) (μ : Nat → Addr) (H : Hp) (ys : List V) : Prop := H p = some (.lst ys) ∧ ∀ k, k < n → μ k ≠ p
theorem own_keep.le {p : Addr} {n n1 : Nat} {μ μ1 : Nat → Addr} {H H1 : Hp} {ys : List V} (h : own_keep p n μ H ys) (l : Le n μ H n1 μ1 H1) : own_keep p n1 μ1 H1 ys := by
  refine ⟨l.fr p _ h.1 (fun _ q => nomatch q) h.2, fun k hk z => ?_⟩
  by_cases hk' : k < n
  · rw [l.mu k hk'] at z; exact h.2 k hk' z
  · have := l.new k (Nat.le_of_not_lt hk') hk
    rw [z, h.1] at this; cases this
theorem lc_rd {D : Wd} {K : PySem.W.Frag} {ix : Ix} {is own : List Nat} {g : Tgt} {c : Tst} {fe : Ev} (hL : D.L = none) (hown : ∀ i ∈ is, i ∈ own) {σ : L2.St} {H : Hp} {Q : VK} (h : rE D (eComp ix g own c fe) σ H Q) : tLc (rI D ix) (rG D is g) (rT D c) (rE D fe) own σ H Q := by
  obtain ⟨n, μ, ρ, st, z, st', ok, er, hf, an⟩ := h
  obtain ⟨its, s1, h1, hf⟩ := bind_eq_ok hf
  refine ⟨n, μ, ρ, st, its, s1, ok, er, h1, fun n1 μ1 H1 J ok1 l1 itr p hp => ?_⟩
  cases h2 : its s1 with
  | none => rw [h2] at hf; cases hf
  | some xs =>
    rw [h2] at hf
    obtain ⟨ok2, l2⟩ := ok1.upd (u := .lst []) hp
    have kp2 : own_keep p n1 μ1 (upd H1 p (.lst [])) [] := ⟨upd_same, ok1.fresh hp⟩
    refine ⟨fun i m H3 => ∃ n3 μ3 st3 acc ys, Ok D n3 μ3 H3 st3 ∧ Le n1 μ1 H1 n3 μ3 H3 ∧ own_keep p n3 μ3 H3 ys ∧ RpAll D n3 μ3 H3 acc ys ∧ compGo its g c fe (VI.wipe ρ own) m i acc st3 = .ok z st', ⟨_, n1, μ1, s1, [], [], ok2, l2, kp2, .nil, hf⟩, ?_⟩
    rintro i m H3 ⟨n3, μ3, st3, acc, ys, ok3, l3, kp3, ra, hf3⟩
    have er3 : EnvR D n3 μ3 H3 (VI.wipe ρ own) (L2.wipe σ own) := (er.mono (l1.trans l3)).wipe hL own
    cases m with
    | zero => cases hf3
    | succ m =>
      unfold compGo at hf3
      cases h3 : its st3 with
      | none => rw [h3] at hf3; cases hf3
      | some xs =>
        rw [h3] at hf3
        obtain ⟨k1, k2⟩ := itr n3 μ3 H3 st3 ok3 l3 xs h3 i
        cases h4 : xs[i]? with
        | none =>
          simp only [h4] at hf3
          cases hf3
          exact .inl ⟨k2 h4, an n3 μ3 H3 (.ref p) ok3 (l1.trans l3) ⟨p, ys, rfl, kp3.1, ra, kp3.2⟩ fun a e => by cases e; exact l1.no hp⟩
        | some x =>
          simp only [h4] at hf3
          obtain ⟨ρ4, s4, h5, hf3⟩ := bind_eq_ok hf3
          obtain ⟨b, s5, h6, hf3⟩ := bind_eq_ok hf3
          obtain ⟨go, yl⟩ := k1 x h4
          refine .inr ⟨go, fun H6 => ∃ n3 μ3 st3 acc ys, Ok D n3 μ3 H6 st3 ∧ Le n1 μ1 H1 n3 μ3 H6 ∧ own_keep p n3 μ3 H6 ys ∧ RpAll D n3 μ3 H6 acc ys ∧ compGo its g c fe (VI.wipe ρ own) m (i + 1) acc st3 = .ok z st', fun H' h => ⟨m, Nat.lt_succ_self m, h⟩, fun y H4 hy => ?_⟩
          obtain ⟨ok4, l4, r4⟩ := yl y H4 hy
          refine ⟨n3, μ3, _, st3, x, ρ4, s4, ok4, er3.mono l4, r4, h5, fun n5 μ5 H5 σ5 ok5 l5 er5 wp => ⟨?_, ?_⟩⟩
          · rw [wp own hown]
            clear wp er5 er3 hf3 er
            have : ∀ vs ws : List Nat, (∀ i ∈ vs, i ∈ ws) → L2.wipe (L2.wipe σ vs) ws = L2.wipe σ ws := fun vs => by
              induction vs with
              | nil => intro ws _; rfl
              | cons v vs ih =>
                intro ws hv
                show L2.wipe ((L2.wipe σ vs).set v none) ws = _
                rw [wipe_set (hv v List.mem_cons_self)]
                exact ih ws fun i hi => hv i (List.mem_cons_of_mem _ hi)
            exact this own own fun _ h => h
          · refine ⟨n5, μ5, ρ4, s4, b, s5, ok5, er5, h6, fun n6 μ6 H6 ok6 l6 => ?_⟩
            have l36 := l4.trans (l5.trans l6)
            cases b with
            | false =>
              simp only [Bool.false_eq_true, if_false] at hf3 ⊢
              exact ⟨n6, μ6, s5, acc, ys, ok6, l3.trans l36, kp3.le l36, ra.mono l36, hf3⟩
            | true =>
              simp only [if_true] at hf3 ⊢
              obtain ⟨t, s7, h7, hf3⟩ := bind_eq_ok hf3
              obtain ⟨w, s8, h8, hf3⟩ := bind_eq_ok hf3
              refine ⟨n6, μ6, ρ4, s5, t, s7, ok6, er5.mono l6, h7, fun n7 μ7 H7 y7 ok7 l7 r7 f7 => ?_⟩
              have l37 := l36.trans l7
              obtain ⟨n8, μ8, ok8, l8, r8, tr, hn, hm⟩ := mat_ok h8 ok7 l7 r7 f7
              have l38 := l36.trans l8
              have kp8 := kp3.le l38
              by_cases hl : acc.length < LIM
              · rw [if_pos hl] at hf3
                have q : ∀ (u : HO) a zs, H7 a = some (.tup zs) → upd H7 p u a = some (.tup zs) := fun u a zs e => by
                  rw [upd_ne fun z => by rw [z, kp8.1] at e; cases e]; exact e
                refine ⟨ys, kp8.1, by rw [← ra.length, sizeLine_eq]; exact hl, n8, μ8, s8, acc ++ [w], ys ++ [y7], ok8.own kp8.1 kp8.2, (l3.trans l38).own hp, ⟨upd_same, kp8.2⟩, ?_, hf3⟩
                exact ((ra.mono l38).append (.cons r8 .nil)).mono' (Nat.le_refl _) (fun _ _ => rfl) (q _)
              · rw [if_neg hl] at hf3; cases hf3
instance blkCok {X : Cx} {D : Wd} [C : Cok X D] {s : Shared} {H : Hp} {scope : Scope} {cenv : PySem.Env} {fp : List Addr} : Cok (X.blk s H scope cenv fp) D := ⟨C.hK, C.calm, C.nd⟩
section
variable {X : Cx} {D : Wd} {elt tg iter : Expr} {ifs : List Expr} {scope : Scope} {own : List (Str × Nat)} {pos : Pos} {ix : Ix} {is : List Nat} {g : Tgt} {c : Tst} {fe : Ev}
abbrev STs (X : Cx) (D : Wd) (ifs : List Expr) (c : Tst) : Prop := PTs X ifs (rT D c)
theorem PTs_imp {X : Cx} {e : List Expr} {t t' : TT} (h : PTs X e t) (k : ∀ σ H Q, t' σ H Q → t σ H Q) : PTs X e t' := ⟨fun pins s σ H Q I q => h.run pins s σ H Q I (k σ H Q q)⟩
theorem ts_nil : STs X D [] VI.tYes := PTs_imp pts_nil fun σ H Q ⟨n, μ, ρ, st, b, st', ok, er, hf, q⟩ => by
  cases hf
  exact q n μ H ok (Le.refl _ _ _)
theorem ts_one {a : Expr} (h : ST X D a c) : STs X D [a] c := pts_one h
theorem e_comp [C : Cok X D] (hL : D.L = none) (hi : SI X D tg iter ix) (ok : blkC X.N X.env.scope scope own = true)
    (hg : ∀ (s : Shared) (H : Hp) (C : Addr) (cl : List (Str × Addr)) (fp : List Addr), SG (X.blk s H scope (compEnvC scope cl C X.env) fp) D tg is g) (ht : ∀ (s : Shared) (H : Hp) (C : Addr) (cl : List (Str × Addr)) (fp : List Addr), STs (X.blk s H scope (compEnvC scope cl C X.env) fp) D ifs c)
    (he : ∀ (s : Shared) (H : Hp) (C : Addr) (cl : List (Str × Addr)) (fp : List Addr), SE (X.blk s H scope (compEnvC scope cl C X.env) fp) D elt fe) (hown : ∀ i ∈ is, i ∈ own.map (·.2)) (hs : ∀ x, foldedSetIterable iter X.env x = pure x := by intro _; rfl) :
    SE X D (.ListComp elt [⟨tg, iter, ifs, 0⟩] scope pos) (eComp ix g (own.map (·.2)) c fe) :=
  PE_imp (pe_lc C.calm C.nd hi (blkOk_by ok) hg ht he hs) fun _ _ _ h => lc_rd (K := X.K) hL hown h
/-- name = [..] on one line -/
theorem s_setLc [C : Cok X D] (hL : D.L = none) {i : Nat} {y : Str} {py spos : Pos} (hy : X.N[i]? = some y) (hyl : X.env.scope.names.lookup y = some .local) (hsw : swapsWith (.ListComp elt [⟨tg, iter, ifs, 0⟩] scope pos) (some (.Name y py)) spos.line X.env = pure true)
    (hi : SI X D tg iter ix) (ok : blkC X.N X.env.scope scope own = true)
    (hg : ∀ (s : Shared) (H : Hp) (C : Addr) (cl : List (Str × Addr)) (fp : List Addr), SG (X.blk s H scope (compEnvC scope cl C X.env) fp) D tg is g) (ht : ∀ (s : Shared) (H : Hp) (C : Addr) (cl : List (Str × Addr)) (fp : List Addr), STs (X.blk s H scope (compEnvC scope cl C X.env) fp) D ifs c)
    (he : ∀ (s : Shared) (H : Hp) (C : Addr) (cl : List (Str × Addr)) (fp : List Addr), SE (X.blk s H scope (compEnvC scope cl C X.env) fp) D elt fe) (hown : ∀ i ∈ is, i ∈ own.map (·.2)) (hs : ∀ x, foldedSetIterable iter X.env x = pure x := by intro _; rfl) :
    SS X D (.Assign [.Name y py] (.ListComp elt [⟨tg, iter, ifs, 0⟩] scope pos) spos) (sAsg (gV i) (eComp ix g (own.map (·.2)) c fe)) :=
  PS_imp (ps_setLc C.calm C.nd hy hyl hsw hi (blkOk_by ok) hg ht he hs) fun E σ H h => by
    obtain ⟨n, μ, ρ, st, r, st', ok, er, hf, q⟩ := h
    obtain ⟨x, s1, h1, hf⟩ := bind_eq_ok hf
    obtain ⟨y, s2, h2, hf⟩ := bind_eq_ok hf
    obtain ⟨ρ', s3, h3, hf⟩ := bind_eq_ok hf
    cases hf
    refine lc_rd (K := X.K) hL hown ⟨n, μ, ρ, st, x, s1, ok, er, h1, fun n1 μ1 H1 y1 ok1 l1 r1 f1 => ?_⟩
    obtain ⟨n2, μ2, ok2, l2, r2, tr, hn, hm⟩ := mat_ok h2 ok1 l1 r1 f1
    exact nameG (D := D) ⟨n2, μ2, ρ, s2, y, ρ', _, ok2, er.mono l2, r2, h3, fun n3 μ3 H3 σ3 ok3 l3 er3 _ => q n3 μ3 H3 σ3 ok3 (l2.trans l3) er3⟩
end

/-! ### defs -/
section
variable {P : Program} {w : World} {K : PySem.W.Frag} {mg : Str → Option Value} {base : Heap} {D : Wd} {N ps : List Str} {qual : Str} {scope : Scope} {f : Addr} {cd : Value} {A : Around} {outer : List PySem.Env} {s : Shared} {H : Hp} {E : XK}
instance cxOwn {CX : CXT} : Own (cxOf CX P w K mg base N qual scope f cd A outer s H E) := ⟨passes_of rfl⟩
theorem startR (hL : D.L = none) : ∀ {n : Nat} {μ : Nat → Addr} {xs : List Val} {vs : List V}, RpAll D n μ H xs vs → ∀ m, EnvR D n μ H (xs.map some ++ List.replicate m none) (vs.map some ++ List.replicate m none) := fun {n μ xs vs} r m => by
  refine ⟨by simp [r.length], fun i x e => ?_, fun i f F e => by rw [hL] at e; cases e⟩
  by_cases hi : i < xs.length
  · rw [List.getElem?_append_left (by simpa using hi), List.getElem?_map] at e
    have hi' : i < vs.length := by rw [← r.length]; exact hi
    rw [List.getElem?_append_left (by simpa using hi'), List.getElem?_map]
    cases h : xs[i]? with
    | none => rw [h] at e; cases e
    | some z =>
      rw [h] at e; cases e
      obtain ⟨y, hy, ry⟩ := r.get h
      exact ⟨y, by rw [hy]; rfl, ry⟩
  · rw [List.getElem?_append_right (by simpa using hi), List.getElem?_replicate] at e
    split at e <;> cases e
theorem fn_ok {x : Str} {params : Arguments} {body : List Stmt} {dvs : List V} {kws : List (Str × V)} {fd : FuncData} {k np nl : Nat} {g : Sx} (hL : D.L = none) (F : FunD K x qual params body scope dvs kws f fd) (S : C8.scC N ps scope = true) (hnp : ps.length = np) (hnl : N.length = nl)
    (hb : ∀ (cdv : Value) (A : Around) (outer : List PySem.Env) (s : Shared) (H : Hp) (E : XK), Room k (A.deeper (envOfC qual scope s.heap.objs.size f cdv)) → SSs (cxOf C8.CX0 P w K mg base N qual scope f cdv A outer s H E) D body g) :
    FnOk P w K mg base C8.CX0 (k + 1) f fd ps (spF D np (fnOf np nl g)) := by
  refine F.ok (C8.fnScope_by S) (fun vs H Q E h => by rw [h.1, hnp]) fun cdv A outer s H vs Q E hr h => ⟨_, hb cdv A outer s H E hr, ?_⟩
  obtain ⟨h0, n, μ, st, as, x, st', ok, r, hf, an⟩ := h
  unfold fnOf at hf
  have hl : as.length = np := by rw [r.length, h0]
  rw [if_pos hl] at hf
  obtain ⟨⟨fl, ρ⟩, s1, h1, hf⟩ := bind_eq_ok hf
  refine ⟨n, μ, _, st, (fl, ρ), s1, ok, ?_, h1, ?_⟩
  · have e : N.length - vs.length = nl - np := by rw [hnl, h0]
    unfold L2.start
    rw [e]
    exact startR hL r _
  · cases fl with
    | next => cases hf; exact fun n' μ' H' σ' ok' l' er' => an n' μ' H' .non ok' l' .non trivial
    | ret t => cases hf; exact an
    | brk => cases hf
end
end VI
end
section
set_option Elab.async false
set_option linter.all false
set_option maxRecDepth 100000
set_option maxHeartbeats 4000000
/-! VI10: a lambda of one parameter handed to a def as its last argument. -/
namespace VI
open PySem PySem.Spec PyProof.Rows L2

def LF.nf (F : LF) : NdefX.NF := ⟨"<lambda>", F.qual, F.params, [], F.scope, F.cl, F.c⟩
theorem lamO_at {P : Program} {w : World} {H : Hp} {h : Heap} {f : Addr} {F : LF} (hok : HOk P w H h) (e : H f = some (LamO f F)) :
    ∃ (od : Option Addr) (sl : Array (Option Value)) (pm ctv : Value), h.get? f = some (⟨.type "function", od, .func (PySem.W.kla_fn "<lambda>" F.qual F.params F.body F.scope F.cl pm (.ref F.c) ctv), sl⟩ : Obj) := by
  obtain ⟨z, _, _⟩ := hok f _ e
  exact z
section
variable {X : Cx} {pins : List (Addr × Obj)} {σ : L2.St} {H : Hp} {s : Shared}
theorem inv_lam {F : LF} {o : Obj} {t' : Nat} {pm ctv : Value} (I : Inv X pins σ H s) (ho : o = PySem.W.kla_obj "<lambda>" F.qual F.params F.body F.scope F.cl pm F.c ctv) :
    Inv X pins σ (upd H s.heap.objs.size (LamO s.heap.objs.size F)) { s with heap := s.heap.push o, toks := t' } := by
  subst ho
  refine I.laid (a := s.heap.objs.size) (fun b u e => Heap.get?_push_of_some _ e) (Nat.le_refl _) ?_
  have e : (s.heap.push (PySem.W.kla_obj "<lambda>" F.qual F.params F.body F.scope F.cl pm F.c ctv)).get? s.heap.objs.size = some (PySem.W.kla_obj "<lambda>" F.qual F.params F.body F.scope F.cl pm F.c ctv) := Heap.get?_push_size _ rfl
  exact ⟨⟨_, _, pm, ctv, e⟩, ⟨_, e⟩, fun h1 h2 ⟨od, sl, p, t, z⟩ st => ⟨od, sl, p, t, st _ z⟩⟩
/-- the lambda is made -/
theorem lam_make3 {T : List (Addr × Str)} {c P : Addr} {params : Arguments} {body : Expr} {scope : Scope} {pos : Pos} {E : Value → Shared → Prop} {Q : Value → Shared → Prop} (I : Inv X pins σ H s) (TB : LamX.TabB X.base X.mg c P) (hcode : X.env.code = .ref c)
    (hm : (P, X.env.qual ++ "<lambda>") ∈ T) (hu : ∀ p ∈ T, p.1 = P → p.2 = X.env.qual ++ "<lambda>") (hT : LamX.Tabs T H) (hdef : defaultsOf params X.env = ([], [])) (hfree : ∀ y ∈ scope.names, y.2 = .free → ∃ c, X.env.cells.lookup y.1 = some c)
    (h : ∀ (f c' : Addr) (H1 : Hp) (s' : Shared), Inv X pins σ H1 s' → LamX.ExtN H H1 → (∀ b, H1 b = Option.none → H b = Option.none) → LamX.Tabs T H1 →
      H1 f = some (LamO f ⟨X.env.qual ++ "<lambda>", params, body, scope, cloFrom X.env.cells scope.names [], c'⟩) → H1 c' = some (LamX.CodeO c' (X.env.qual ++ "<lambda>")) → Q (.ref f) s') :
    wpAny (model X.prog X.w) X.A (eval (.Lambda params body scope pos) X.env) Q E s := by
  obtain ⟨ps, hP, ht, ha⟩ := hT _ hm
  refine PySem.W.kla_eval hdef ?_
  have bP : s.heap.BuiltinsAt X.mg P := TB.bm.keeps I.bk
  have hP' : s.heap.get? P = some { cls := .none, data := .fields ps } := I.hok P _ hP
  cases hc : codeAmong pos ps.toList with
  | none =>
    refine PySem.W.kla_makeFunction (mg := X.mg) (c := c) (P := P) (ps := ps) (closure_ok hfree) I.ok.glob (I.mod.glob.keeps I.bk) hcode (TB.code.keeps I.bk) hP' ht hc TB.gP bP fun c' ctv h' tk hx hge hlt hrec htb => ?_
    obtain ⟨c2, oc, vs, t, e2, hoc, hd, hv⟩ := hrec
    cases e2
    have nC : H c' = none := I.hok.fresh hge
    have I1 := LamX.inv_table (t' := tk) (more := #[rawInt pos.line, rawInt pos.col, .ref c']) (h' := h') I hP (fun b o hb e => hx b o hb e) htb hge ⟨oc, vs, t, hoc, hd, hv⟩
    have hE : LamX.ExtN H (upd (upd H P (.tbl (ps ++ #[rawInt pos.line, rawInt pos.col, .ref c']))) c' (LamX.CodeO c' (X.env.qual ++ "<lambda>"))) := fun b o e n => by
      rw [upd_ne (ne_of_none e nC), upd_ne (fun z => n ps (Option.some.inj (e.symm.trans (by rw [z]; exact hP))))]
      exact e
    have eL : (ps ++ #[rawInt pos.line, rawInt pos.col, .ref c']).toList = ps.toList ++ [rawInt pos.line, rawInt pos.col, .ref c'] := by simp
    have T1 : LamX.Tabs T (upd (upd H P (.tbl (ps ++ #[rawInt pos.line, rawInt pos.col, .ref c']))) c' (LamX.CodeO c' (X.env.qual ++ "<lambda>"))) := fun p hp => by
      by_cases hb : p.1 = P
      · rw [hu p hp hb, hb]
        refine ⟨_, by rw [upd_ne (ne_of_none hP nC), upd_same], by rw [eL]; exact PySem.TriplesOk_snoc _ _ _ _ ht, fun p' cv hcv => ?_⟩
        rw [eL] at hcv
        rcases LamX.among_app _ ht hcv with z | z
        · obtain ⟨c0, e1, e2⟩ := ha p' cv z
          exact ⟨c0, e1, hE _ _ e2 LamX.codeO_ne⟩
        · exact ⟨c', z, upd_same⟩
      · obtain ⟨ps', a1, a2, a3⟩ := hT p hp
        refine ⟨ps', by rw [upd_ne (ne_of_none a1 nC), upd_ne hb]; exact a1, a2, fun p' cv hcv => ?_⟩
        obtain ⟨c0, e1, e2⟩ := a3 p' cv hcv
        exact ⟨c0, e1, hE _ _ e2 LamX.codeO_ne⟩
    have nF := I1.hok.fresh (Nat.le_refl _)
    have I2 := inv_lam (F := ⟨X.env.qual ++ "<lambda>", params, body, scope, cloFrom X.env.cells scope.names [], c'⟩) (t' := tk) (pm := (X.mg "__name__").getD .none) (ctv := ctv) I1 rfl
    refine h h'.objs.size c' _ _ I2 (fun b o e n => ?_) (fun b e => NdefX.upd_none (NdefX.upd_none (NdefX.upd_none e))) (T1.ext fun b o e => ?_) upd_same ?_
    · have e1 := hE b o e n
      exact (upd_ne (ne_of_none e1 nF)).trans e1
    · exact (upd_ne (ne_of_none e nF)).trans e
    · exact (upd_ne (Nat.ne_of_lt hlt)).trans upd_same
  | some cv =>
    obtain ⟨c', e, hco⟩ := ha pos cv hc
    subst e
    refine PySem.W.kla_makeFunctionHit (mg := X.mg) (c := c) (P := P) (ps := ps) (closure_ok hfree) I.ok.glob (I.mod.glob.keeps I.bk) hcode (TB.code.keeps I.bk) hP' ht hc bP fun ctv h' tk hx hsz => ?_
    have I1 : Inv X pins σ H { s with heap := h', toks := tk } := I.kept hx
    have nF : H h'.objs.size = none := I1.hok.fresh (Nat.le_refl _)
    have I2 := inv_lam (F := ⟨X.env.qual ++ "<lambda>", params, body, scope, cloFrom X.env.cells scope.names [], c'⟩) (t' := tk) (pm := (X.mg "__name__").getD .none) (ctv := ctv) I1 rfl
    refine h h'.objs.size c' _ _ I2 (fun b o e n => ?_) (fun b e => NdefX.upd_none e) (hT.ext fun b o e => ?_) upd_same ?_
    · exact (upd_ne (ne_of_none e nF)).trans e
    · exact (upd_ne (ne_of_none e nF)).trans e
    · exact (upd_ne (ne_of_none hco nF)).trans hco
end

/-! ### another world -/
section
variable {D D' : Wd} {n : Nat} {μ : Nat → Addr} {H : Hp} {st : Store}
structure Lk (D D' : Wd) : Prop where
  K : D'.K = D.K
  S : D'.S = D.S
  C : D'.C = D.C
  T : D'.T = D.T
theorem Lk.symm (l : Lk D D') : Lk D' D := ⟨l.K.symm, l.S.symm, l.C.symm, l.T.symm⟩
theorem Lk.refl : Lk D D := ⟨rfl, rfl, rfl, rfl⟩
mutual
theorem Rp.cv (l : Lk D D') : ∀ {x : Val} {y : V}, Rp D n μ H x y → Rp D' n μ H x y
  | _, _, .non => .non
  | _, _, .bool b => .bool b
  | _, _, .int i => .int i
  | _, _, .str h => .str (by rw [l.S]; exact h)
  | _, _, .tup h r => .tup (by rw [l.K]; exact h) (RpAll.cv l r)
  | _, _, .ref h => .ref h
theorem RpAll.cv (l : Lk D D') : ∀ {x : List Val} {y : List V}, RpAll D n μ H x y → RpAll D' n μ H x y
  | _, _, .nil => .nil
  | _, _, .cons h r => .cons (Rp.cv l h) (RpAll.cv l r)
end
theorem FsR.cv (l : Lk D D') : ∀ {x : List (Nat × Val)} {y : List (Str × V)}, FsR D n μ H x y → FsR D' n μ H x y
  | _, _, .nil => .nil
  | _, _, .cons h h' r => .cons (by rw [l.S]; exact h) (h'.cv l) (FsR.cv l r)
theorem KvR.cv (l : Lk D D') : ∀ {x : List (List Int × Val)} {y : List (List Key × V)}, KvR D n μ H x y → KvR D' n μ H x y
  | _, _, .nil => .nil
  | _, _, .cons h' r => .cons (h'.cv l) (KvR.cv l r)
theorem ObR.cv (l : Lk D D') {a : Addr} : ∀ {o : Ob}, ObR D n μ H a o → ObR D' n μ H a o
  | .lst _, ⟨ys, h, r⟩ => ⟨ys, h, r.cv l⟩
  | .frz _, ⟨o, ys, h, r⟩ => ⟨o, ys, h, r.cv l⟩
  | .ins _ _, ⟨dx, gs, h, r⟩ => ⟨dx, gs, by rw [l.C]; exact h, r.cv l⟩
  | .dct _, ⟨ks, h, r⟩ => ⟨ks, h, r.cv l⟩
theorem Rt.cv (l : Lk D D') {x : Tv} {y : V} (h : Rt D n μ H x y) : Rt D' n μ H x y := by
  cases x with
  | v x => exact Rp.cv l h
  | l xs =>
    obtain ⟨a, ys, e, ha, r, hm⟩ := h
    exact ⟨a, ys, e, ha, r.cv l, hm⟩
theorem Ok.cv (l : Lk D D') (ok : Ok D n μ H st) (hl : ∀ i f F, D'.L = some (i, f, F) → H f = some (LamO f F) ∧ H F.c = some (LamX.CodeO F.c F.qual)) : Ok D' n μ H st :=
  ⟨ok.len, ok.inj, fun k o e => (ok.ob k o e).cv l, by rw [l.T]; exact ok.tabs, hl⟩
/-- the heap has grown by a lambda -/
theorem Ok.ext {H1 : Hp} (ok : Ok D n μ H st) (hL : D.L = none) (eN : LamX.ExtN H H1) (nn : ∀ b, H1 b = none → H b = none) (T1 : LamX.Tabs D.T H1) : Ok D n μ H1 st ∧ Le n μ H n μ H1 := by
  have kt : ∀ a xs, H a = some (.tup xs) → H1 a = some (.tup xs) := fun a xs e => eN a _ e fun ps z => by cases z
  refine ⟨⟨ok.len, ok.inj, fun k o e => ?_, T1, fun i f F e => by rw [hL] at e; cases e⟩, ⟨Nat.le_refl _, fun _ _ => rfl, fun k h1 h2 => absurd (Nat.lt_of_lt_of_le h2 h1) (Nat.lt_irrefl _), kt, fun a o e ht _ => eN a o e ht, fun a o e => ?_⟩⟩
  · have r := ok.ob k o e
    obtain ⟨u, hu, _, h2, _⟩ := r.some
    exact r.mono (Nat.le_refl _) (fun _ _ => rfl) kt (by rw [eN _ u hu h2, hu])
  · cases q : H1 a with
    | none => rw [nn a q] at e; cases e
    | some u => exact ⟨u, rfl⟩
/-- the lambda stays -/
theorem lam_keep {n' : Nat} {μ' : Nat → Addr} {H' : Hp} (ok : Ok D n μ H st) (l : Le n μ H n' μ' H') {f : Addr} {F : LF} (h : H f = some (LamO f F) ∧ H F.c = some (LamX.CodeO F.c F.qual)) : H' f = some (LamO f F) ∧ H' F.c = some (LamX.CodeO F.c F.qual) := by
  have nm : ∀ b φ, H b = some (.ext φ) → ∀ k, k < n → μ k ≠ b := fun b φ e k hk z => by
    obtain ⟨o2, _, r⟩ := ok.at hk
    obtain ⟨u, hu, _, _, h3⟩ := r.some
    rw [z, e] at hu; cases hu
    exact h3 _ rfl
  obtain ⟨e1, e2⟩ := h
  unfold LamO at e1 ⊢
  unfold LamX.CodeO at e2 ⊢
  exact ⟨l.fr _ _ e1 (fun _ q => nomatch q) (nm _ _ e1), l.fr _ _ e2 (fun _ q => nomatch q) (nm _ _ e2)⟩
end

/-! ### the lambda is called -/
theorem cells_later {cl : List (Str × Addr)} {fr : List Str} {ws : List (Option V)} {h h' : Heap} {H H' : Hp} {fs : List Addr} (C : NdefX.CellsAt cl fr ws h H) (un : Un fs [] H H' h h') : NdefX.CellsAt cl fr ws h' H' := by
  have kp : ∀ c v, H c = none → h.IsCell c v → h'.IsCell c v := fun c v n ⟨o, ho, hd⟩ => by
    obtain ⟨sl, q⟩ := un.any ho n (by simp)
    exact ⟨_, q, hd⟩
  refine ⟨C.len, fun y c e => ?_, C.inj, fun i y e => ?_⟩
  · obtain ⟨n, v, z⟩ := C.all y c e
    obtain ⟨o, ho, hd⟩ := z
    exact ⟨un.free c o ho n (by simp), v, kp c v n ⟨o, ho, hd⟩⟩
  · obtain ⟨c, hc, hv⟩ := C.has i y e
    refine ⟨c, hc, fun v ev => ?_⟩
    obtain ⟨u, r, z⟩ := hv v ev
    exact ⟨u, r, kp c _ (C.all y c hc).1 z⟩
section
variable {D D' : Wd}
/-- what the lambda's body is -/
structure LBody (P : Program) (w : World) (K : PySem.W.Frag) (mg : Str → Option Value) (base : Heap) (D : Wd) (k : Nat) (F : LF) (par : Str) (fr Nl : List Str) (Lb : Ev) : Prop where
  sc : NdefX.NScope Nl [par] fr F.scope
  nl : Nl.length = 1 + fr.length
  bind : ∀ (pm ctv u : Value), bindArgs (PySem.W.kla_fn "<lambda>" F.qual F.params F.body F.scope F.cl pm (.ref F.c) ctv) ⟨[u], []⟩ = pure [(par, u)]
  body : ∀ (f : Addr) (A : Around) (outer : List PySem.Env) (s : Shared) (H : Hp) (E : XK), Room k (A.deeper (NdefX.envF F.nf f s.heap.objs.size)) → SE (NdefX.ncx C8.CX0 P w K mg base Nl F.nf f A outer s H E) D F.body Lb
theorem e_lamact {P : Program} {w : World} {K : PySem.W.Frag} {mg : Str → Option Value} {base : Heap} {N : List Str} {qual : Str} {scope : Scope} {g f : Addr} {cd : Value} {A : Around} {outer : List PySem.Env} {s : Shared} {H : Hp} {E : XK} {k i : Nat} {F : LF} {par aL : Str} {fr Nl : List Str} {Lb : Ev} {is : List Int}
    (lk : Lk D D') (hL' : D'.L = some (i, f, F)) (hL : D.L = none) (B : LBody P w K mg base D k F par fr Nl Lb) (C0 : NdefX.CellsAt F.cl fr (is.map fun i => some (V.int i)) s.heap H) (hr : Room (k + 1) (A.deeper (envOfC qual scope s.heap.objs.size g cd)))
    (hN : N[i]? = some aL) (hv : Vis scope aL) {e : Expr} {fe : Ev} {p1 p2 : Pos} (he : SE (cxOf C8.CX0 P w K mg base N qual scope g cd A outer s H E) D' e fe)
    (hd : (aL == ("__debug__" : Str)) = false) (hcd : (aL == ("__classdict__" : Str)) = false)
    (hs : starEach [e] (cxOf C8.CX0 P w K mg base N qual scope g cd A outer s H E).env = (false, eval e (cxOf C8.CX0 P w K mg base N qual scope g cd A outer s H E).env) :: starEach [] (cxOf C8.CX0 P w K mg base N qual scope g cd A outer s H E).env := by rfl)
    (hpl : (backTo p2 (starEach [] (cxOf C8.CX0 P w K mg base N qual scope g cd A outer s H E).env)).any (·.1) = false := by rfl) :
    SE (cxOf C8.CX0 P w K mg base N qual scope g cd A outer s H E) D' (.Call (.Name aL p1) [e] [] p2) (eLamC i (fun x s => Lb (some x :: is.map fun i => some (.int i)) s) fe) := by
  refine ⟨fun pins sZ σ HZ Q I ⟨n, μ, ρ, st, z, st', ok, er, hf, an⟩ => ?_⟩
  unfold eLamC at hf
  cases hρ : ρ[i]? with
  | none => rw [hρ] at hf; cases hf
  | some o =>
    cases o with
    | some _ => rw [hρ] at hf; cases hf
    | none =>
      rw [hρ] at hf
      obtain ⟨t, st1, h1, hf⟩ := bind_eq_ok hf
      obtain ⟨x, st2, h2, hf⟩ := bind_eq_ok hf
      have hσ := er.2.2 i f F hL' hρ
      refine wpAny_Call_Name_kw (thn ((pe_var (pos := p1) (i := i) hN hv hd hcd).run pins sZ σ HZ (fun v H1 => v = .ref f ∧ H1 = HZ) I ⟨.ref f, hσ, rfl, rfl⟩) fun u s1 ⟨v, H1, I1, r1, q1⟩ => ?_)
      obtain ⟨ev, eH⟩ := q1
      subst ev
      rw [eH] at I1
      obtain rfl : u = Value.ref f := r1
      have fnAt : ∀ {H2 : Hp} {s2 : Shared} {n2 : Nat} {μ2 : Nat → Addr} {st2 : Store}, Inv (cxOf C8.CX0 P w K mg base N qual scope g cd A outer s H E) pins σ H2 s2 → Ok D' n2 μ2 H2 st2 → PySem.W.FnAt f s2.heap := fun I2 ok2 => by
        obtain ⟨od, sl, pm, ctv, ho⟩ := lamO_at I2.hok (ok2.lamc i f F hL').1
        exact ⟨_, od, _, sl, ho⟩
      have hpa : PA (cxOf C8.CX0 P w K mg base N qual scope g cd A outer s H E) [e] (tCons (rE D' fe) tNil) := pa_cons he pa_nil hs
      have hrd : tCons (rE D' fe) tNil σ HZ (fun vs H2 => ∃ n2 μ2 y, vs = [y] ∧ Ok D' n2 μ2 H2 st2 ∧ Le n μ HZ n2 μ2 H2 ∧ Rp D' n2 μ2 H2 x y) := by
        refine ⟨n, μ, ρ, st, t, st1, ok, er, h1, fun n1 μ1 H1 y1 ok1 l1 r1 f1 => ?_⟩
        obtain ⟨n2, μ2, ok2, l2, r2, tr, hn, hm⟩ := mat_ok h2 ok1 l1 r1 f1
        exact ⟨n2, μ2, y1, rfl, ok2, l2, r2⟩
      refine PySem.W.callWith_F (first := []) (fnAt I1 ok) (thn (hpa.run p2 pins s1 σ HZ _ I1 hrd) fun us s2 ⟨vs, H2, I2, r, n2, μ2, y, ev, ok2, l2, r2⟩ => ⟨fnAt I2 ok2, ?_⟩) hs hpl
      subst ev
      obtain ⟨u, rfl, ru⟩ := r.one
      show wpAny _ _ (call (.ref f) [u]) _ _ _
      obtain ⟨e1, e2⟩ := ok2.lamc i f F hL'
      obtain ⟨od, sl, pm, ctv, ho⟩ := lamO_at I2.hok e1
      have C2 : NdefX.CellsAt F.cl fr (is.map fun i => some (V.int i)) s2.heap H2 := cells_later C0 (show Un (frs outer) [] H H2 s.heap s2.heap from I2.base)
      have rc : codeAny (model P w) (A.deeper (envOfC qual scope s.heap.objs.size g cd)) (.call (.ref f) ⟨[u], []⟩) (CR C8.CX0 (envOfC qual scope s.heap.objs.size g cd :: outer) P w H2 s2 Q C8.E0) s2 := by
        refine PySem.W.kla_callFunE hr.depth ho rfl B.sc.co B.sc.gen rfl (NdefX.codeO_at I2.hok e2) ?_
        rw [B.bind pm ctv u]
        refine wpAny_pure (wpAny_newFunctionEnv B.sc.nocell (fun y hy => by
          have e : y = (par, u) := by simpa using hy
          subst e
          exact B.sc.par par (by simp)) (fun h₁ hns hsb => ⟨I2.nolimit.fresh _ hsb, ?_⟩) B.sc.kind)
        show codeAny _ _ (.expr F.body (NdefX.envF F.nf f s2.heap.objs.size)) _ _
        have kp : ∀ b o, s2.heap.get? b = some o → h₁.get? b = some o := fun b o e => hsb.extBut b o (Nat.ne_of_lt (Heap.lt_size e)) (Heap.get?_push_of_some _ e)
        have J := NdefX.inv_startN (CX := C8.CX0) (F := F.nf) (f := f) (E := C8.E0) (ps := [par]) (us := [u]) (vs := [y]) (tk := s2.toks + ([(par, u)] : List (Str × Value)).length) B.sc hr.hd I2.env0 rfl (.cons ru .nil) C2 hns kp
        have okD : Ok D n2 μ2 H2 st2 := ok2.cv lk.symm fun i f F e => by rw [hL] at e; cases e
        have erl : EnvR D n2 μ2 H2 (some x :: is.map fun i => some (.int i)) (NdefX.startF Nl [y] (is.map fun i => some (V.int i))) := by
          have hfl := C2.len
          rw [List.length_map] at hfl
          have hz : Nl.length - [y].length - (is.map fun i => some (V.int i)).length = 0 := by
            rw [B.nl, List.length_map, ← hfl]
            show 1 + is.length - 1 - is.length = 0
            omega
          unfold NdefX.startF
          rw [hz]
          refine ⟨by simp, fun j v ej => ?_, fun _ _ _ e => by rw [hL] at e; cases e⟩
          cases j with
          | zero =>
            have ej : some (some x) = some (some v) := ej
            cases ej
            exact ⟨y, rfl, r2.cv lk.symm⟩
          | succ j =>
            have ej : (is.map fun i => some (Val.int i))[j]? = some (some v) := ej
            rw [List.getElem?_map] at ej
            cases ei : is[j]? with
            | none => rw [ei] at ej; cases ej
            | some m =>
              rw [ei] at ej
              cases ej
              refine ⟨.int m, ?_, .int m⟩
              show ((is.map fun i => some (V.int i)) ++ [])[j]? = _
              rw [List.append_nil, List.getElem?_map, ei]
              rfl
        refine PySem.W.kla_codeExpr (wpAny_mono ((B.body f _ _ s2 H2 C8.E0 (hr.deeper _)).run [] _ _ H2 Q J ⟨n2, μ2, _, st2, z, st', okD, erl, hf, fun n3 μ3 H3 y3 ok3 l3 r3 f3 => ?_⟩) (fun v s' hq => ?_) fun e s' hq => hq)
        · refine an n3 μ3 H3 y3 (ok3.cv lk fun i' f' F' e => ?_) (l2.trans l3) (r3.cv lk) ?_
          · rw [hL'] at e
            cases e
            exact lam_keep okD l3 ⟨e1, e2⟩
          · cases z with
            | v _ => trivial
            | l _ => exact fun a e => l2.no (f3 a e)
        · obtain ⟨w', H', J', rv, q⟩ := hq
          exact ⟨w', H', J'.os, J'.bare, J'.base, J'.hok, rv, q⟩
      refine wpAny_call (codeAny_mono rc fun r s' hq => ?_)
      cases r with
      | error e => exact (show False from hq).elim
      | ok fl =>
        cases fl with
        | ret u => exact I2.after hq
        | next => exact False.elim hq
        | brk => exact False.elim hq
        | cont => exact False.elim hq
/-- a def whose last parameter is a function of one argument -/
structure LDef (P : Program) (w : World) (K : PySem.W.Frag) (mg : Str → Option Value) (base : Heap) (D : Wd) (k : Nat) (x : Str) (np : Nat) (G : (Val → Store → Res Tv) → Fn) : Prop where
  ex : ∃ (g : Addr) (fd : FuncData) (pg : Arguments) (bg : List Stmt) (sg : Scope) (Ng ps : List Str) (aL : Str) (Bg : (Val → Store → Res Tv) → Sx) (nl : Nat),
    mg x = some (.ref g) ∧ FunD K x x pg bg sg [] [] g fd ∧ C8.scC Ng ps sg = true ∧ L2.Binds K fd ps [] ∧ ps.length = np + 1 ∧ Ng.length = nl ∧ Ng[np]? = some aL ∧ Vis sg aL ∧ (aL == ("__debug__" : Str)) = false ∧ (aL == ("__classdict__" : Str)) = false ∧ (∀ L, G L = fnOf np nl (Bg L)) ∧
    ∀ (D' : Wd) (f : Addr) (F : LF) (Lf : Val → Store → Res Tv) (cdv : Value) (A : Around) (outer : List PySem.Env) (s : Shared) (H : Hp) (E : XK), Lk D D' → D'.L = some (np, f, F) → Room k (A.deeper (envOfC x sg s.heap.objs.size g cdv)) →
      (∀ (e : Expr) (fe : Ev) (p1 p2 : Pos), starEach [e] (cxOf C8.CX0 P w K mg base Ng x sg g cdv A outer s H E).env = (false, eval e (cxOf C8.CX0 P w K mg base Ng x sg g cdv A outer s H E).env) :: starEach [] (cxOf C8.CX0 P w K mg base Ng x sg g cdv A outer s H E).env →
        (backTo p2 (starEach [] (cxOf C8.CX0 P w K mg base Ng x sg g cdv A outer s H E).env)).any (·.1) = false →
        SE (cxOf C8.CX0 P w K mg base Ng x sg g cdv A outer s H E) D' e fe → SE (cxOf C8.CX0 P w K mg base Ng x sg g cdv A outer s H E) D' (.Call (.Name aL p1) [e] [] p2) (eLamC np Lf fe)) →
      SSs (cxOf C8.CX0 P w K mg base Ng x sg g cdv A outer s H E) D' bg (Bg Lf)
  db : (x == ("__debug__" : Str)) = false
theorem capI_ok {n : Nat} {μ : Nat → Addr} {H : Hp} {ρ : Env} {σ : L2.St} (er : EnvR D n μ H ρ σ) : ∀ {js : List Nat} {is : List Int}, capI ρ js = some is → js.map (NdefX.slotAt σ) = is.map fun i => some (V.int i)
  | [], _, h => by cases h; rfl
  | j :: js, is, h => by
    unfold capI at h
    cases e : ρ[j]? with
    | none => rw [e] at h; cases h
    | some o =>
      cases o with
      | none => rw [e] at h; cases h
      | some v =>
        cases v with
        | int i =>
          rw [e] at h
          obtain ⟨is', h1, rfl⟩ := Option.map_eq_some_iff.mp h
          obtain ⟨y, hy, ry⟩ := er.2.1 j _ e
          cases ry
          rw [List.map_cons, List.map_cons, capI_ok er h1, NdefX.slotAt_of hy]
        | _ => rw [e] at h; cases h
/-- the arguments ahead, the lambda last -/
inductive PAL (X : Cx) (D : Wd) (le : Expr) : List Expr → Avs → Prop
  | nil : PAL X D le [le] aNil
  | cons {e : Expr} {es : List Expr} {fe : Ev} {av : Avs} (h : SE X D e fe) (r : PAL X D le es av) (hs : starEach (e :: es) X.env = (false, eval e X.env) :: starEach es X.env) : PAL X D le (e :: es) (aCons fe av)
theorem pal_run {X : Cx} {le : Expr} {tl : L2.St → Hp → (Value → Hp → Shared → Prop) → Prop} (hl : ∀ (pins : List (Addr × Obj)) (s : Shared) (σ : L2.St) (H : Hp) (Q : Value → Hp → Shared → Prop), L2.Inv X pins σ H s → tl σ H Q →
      wpAny (model X.prog X.w) X.A (eval le X.env) (fun v s' => ∃ H', L2.Inv X pins σ H' s' ∧ Q v H' s') X.xe s)
    (hs0 : starEach [le] X.env = (false, eval le X.env) :: starEach [] X.env) {es : List Expr} {av : Avs} (pl : PAL X D le es av) :
    ∀ (pos : Pos) (pins : List (Addr × Obj)) (s : Shared) (σ : L2.St) (H : Hp) (Q : List V → Value → Hp → Shared → Prop) (n : Nat) (μ : Nat → Addr) (ρ : Env) (st st' : Store) (xs : List Val), L2.Inv X pins σ H s → Ok D n μ H st → EnvR D n μ H ρ σ → av ρ st = .ok xs st' →
      (∀ n' μ' H' ys, Ok D n' μ' H' st' → Le n μ H n' μ' H' → RpAll D n' μ' H' xs ys → tl σ H' fun v H'' s'' => Q ys v H'' s'') →
      wpAny (model X.prog X.w) X.A (spliced (backTo pos (starEach es X.env))) (fun us s' => ∃ ys vs v H', us = vs ++ [v] ∧ Vals ys vs ∧ L2.Inv X pins σ H' s' ∧ Q ys v H' s') X.xe s := by
  induction pl with
  | nil =>
    intro pos pins s σ H Q n μ ρ st st' xs I ok er hf h
    cases hf
    rw [hs0]
    refine Calls.spliced_cons (thn (hl pins s σ H _ I (h n μ H [] ok (Le.refl _ _ _) .nil)) fun v s1 ⟨H1, I1, q⟩ => ?_)
    exact Calls.spliced_nil ⟨[], [], v, H1, rfl, .nil, I1, q⟩
  | cons he hr hs ih =>
    intro pos pins s σ H Q n μ ρ st st' xs I ok er hf h
    obtain ⟨t, s1, h1, hf⟩ := bind_eq_ok hf
    obtain ⟨x, s2, h2, hf⟩ := bind_eq_ok hf
    obtain ⟨ws, s3, h3, hf⟩ := bind_eq_ok hf
    cases hf
    rw [hs]
    refine Calls.spliced_cons (thn (he.run pins s σ H (fun y H1 => ∃ n1 μ1, Ok D n1 μ1 H1 s2 ∧ Le n μ H n1 μ1 H1 ∧ Rp D n1 μ1 H1 x y) I ⟨n, μ, ρ, st, t, s1, ok, er, h1, fun n1 μ1 H1 y1 ok1 l1 r1 f1 => ?_⟩) fun u sh ⟨y, H1, I1, ru, n1, μ1, ok1, l1, r1⟩ => ?_)
    · obtain ⟨n2, μ2, ok2, l2, r2, _⟩ := mat_ok h2 ok1 l1 r1 f1
      exact ⟨n2, μ2, ok2, l2, r2⟩
    · refine thn (ih pos pins sh σ H1 (fun ys v H' s' => Q (y :: ys) v H' s') n1 μ1 ρ s2 _ ws I1 ok1 (er.mono l1) h3 fun n3 μ3 H3 ys ok3 l3 r3 => h n3 μ3 H3 (y :: ys) ok3 (l1.trans l3) (.cons (r1.mono l3) r3)) fun us s4 ⟨ys, vs, v, H', e1, e2, e3, e4⟩ => ?_
      subst e1
      exact ⟨y :: ys, u :: vs, v, H', rfl, .cons ru e2, e3, e4⟩
theorem e_callL {X : Cx} [C : Cok X D] {k kl np : Nat} {x par : Str} {G : (Val → Store → Res Tv) → Fn} {e : Expr} {es : List Expr} {av : Avs} {params : Arguments} {body : Expr} {scope : Scope} {lpos p pos : Pos} {c P : Addr} {fr Nl : List Str} {js : List Nat} {Lb : Ev}
    (hL : D.L = none) (d : LDef X.prog X.w X.K X.mg X.base D k x np G) (hkl : kl + 1 ≤ k) (hr : Room (k + 1) X.A) (hg : Gl X x) (pl : PAL X D (.Lambda params body scope lpos) (e :: es) av) (har : Arity av np)
    (TB : LamX.TabB X.base X.mg c P) (hcode : X.env.code = .ref c) (hmT : (P, X.env.qual ++ "<lambda>") ∈ D.T) (hu : ∀ p ∈ D.T, p.1 = P → p.2 = X.env.qual ++ "<lambda>") (hdef : defaultsOf params X.env = ([], []))
    (hnd : NdefX.ndefB X.env.scope scope fr = true) (hjs : js.map (fun j => X.N[j]?) = fr.map some)
    (B : ∀ c', LBody X.prog X.w X.K X.mg X.base D kl ⟨X.env.qual ++ "<lambda>", params, body, scope, cloFrom X.env.cells scope.names [], c'⟩ par fr Nl Lb)
    (hs0 : starEach [.Lambda params body scope lpos] X.env = (false, eval (.Lambda params body scope lpos) X.env) :: starEach [] X.env := by rfl)
    (he : starEach (e :: es) X.env = (false, eval e X.env) :: starEach es X.env := by rfl) (hpl : (backTo pos (starEach es X.env)).any (·.1) = false := by rfl) :
    SE X D (.Call (.Name x p) (e :: es) [] pos) (eCallL G av js Lb) := by
  refine ⟨fun pins s σ H Q I ⟨n, μ, ρ, st, z, st', ok, er, hf, an⟩ => ?_⟩
  unfold eCallL at hf
  cases hc : capI ρ js with
  | none => rw [hc] at hf; cases hf
  | some is =>
    rw [hc] at hf
    obtain ⟨xs, s1, h1, hf⟩ := bind_eq_ok hf
    have hxl := har _ _ _ _ h1
    obtain ⟨g, fd, pg, bg, sg, Ng, ps, aL, Bg, nl, hm, Fg, Sg, hb, hps, hnl, hNa, hva, hd1, hd2, hG, hbody⟩ := d.ex
    refine wpAny_Call_Name_kw (ld_glob I hg hm ?_ d.db)
    refine PySem.W.callWith_K (h₀ := X.base) I.ok.mod.kin Fg.kp (thn (pal_run (X := X) (D := D)
      (tl := fun σ H Q' => LamX.Tabs D.T H ∧ ∀ (f c' : Addr) (H1 : Hp) (s' : Shared), LamX.ExtN H H1 → (∀ b, H1 b = Option.none → H b = Option.none) → LamX.Tabs D.T H1 →
        H1 f = some (LamO f ⟨X.env.qual ++ "<lambda>", params, body, scope, cloFrom X.env.cells scope.names [], c'⟩) → H1 c' = some (LamX.CodeO c' (X.env.qual ++ "<lambda>")) → Q' (.ref f) H1 s')
      (fun pins s σ H Q' I ⟨hT, hq⟩ => ?_) hs0 pl pos pins s σ H
      (fun ys v H2 s2 => ∃ (f c' : Addr) (n1 : Nat) (μ1 : Nat → Addr) (H1 : Hp), v = .ref f ∧ Ok D n1 μ1 H1 s1 ∧ Le n μ H n1 μ1 H1 ∧ RpAll D n1 μ1 H1 xs ys ∧ LamX.ExtN H1 H2 ∧ (∀ b, H2 b = Option.none → H1 b = Option.none) ∧ LamX.Tabs D.T H2 ∧
        H2 f = some (LamO f ⟨X.env.qual ++ "<lambda>", params, body, scope, cloFrom X.env.cells scope.names [], c'⟩) ∧ H2 c' = some (LamX.CodeO c' (X.env.qual ++ "<lambda>")))
      n μ ρ st s1 xs I ok er h1 fun n1 μ1 H1 ys ok1 l1 r1 => ⟨ok1.tabs, fun f c' H2 s2 eN nn T2 e1 e2 => ⟨f, c', n1, μ1, H1, rfl, ok1, l1, r1, eN, nn, T2, e1, e2⟩⟩)
      fun us s2 ⟨ys, vs, v, H2, eu, rv, I2, f, c', n1, μ1, H1, ev, ok1, l1, r1, eN, nn, T2, e1, e2⟩ => ⟨I2.kIn, ?_⟩) he hpl
    · have hfree := NdefX.ndef_free hnd
      refine lam_make3 I TB hcode hmT hu hT hdef (fun y hy e => (hfree y hy e).elim (fun z => I.ok.has _ (.inl z)) fun z => I.ok.has _ (.inr z)) fun f c' H1 s' I1 eN nn T1 e1 e2 => ⟨H1, I1, hq f c' H1 s' eN nn T1 e1 e2⟩
    · subst eu ev
      obtain ⟨ok2, l2⟩ := ok1.ext hL eN nn T2
      generalize hF : (⟨X.env.qual ++ "<lambda>", params, body, scope, cloFrom X.env.cells scope.names [], c'⟩ : LF) = F at e1
      have hFc : F.c = c' := by rw [← hF]
      have hFq : F.qual = X.env.qual ++ "<lambda>" := by rw [← hF]
      have e2' : H2 F.c = some (LamX.CodeO F.c F.qual) := by rw [hFc, hFq]; exact e2
      have lk : Lk D { D with L := some (np, f, F) } := ⟨rfl, rfl, rfl, rfl⟩
      have okD : Ok { D with L := some (np, f, F) } n1 μ1 H2 s1 := ok2.cv lk fun i' f' F' e => by cases e; exact ⟨e1, e2'⟩
      have C0 : NdefX.CellsAt F.cl fr (is.map fun i => some (V.int i)) s2.heap H2 := by
        have q := NdefX.cells_of I2 (NdefX.Caps.made (X := X) (scope := scope) (fr := fr) (js := js) I2.ok (NdefX.ndef_free hnd) (NdefX.ndef_fr hnd) hjs)
        rw [capI_ok er hc] at q
        rw [← hF]
        exact q
      have Bf : LBody X.prog X.w X.K X.mg X.base D kl F par fr Nl Lb := by rw [← hF]; exact B c'
      obtain ⟨oc, od, dV, kV, doc, pm, an', cdv, ct, osl, rfl, lkup, hcd, _, _⟩ := Fg.ex
      have rv2 : Vals (ys ++ [V.ref f]) (vs ++ [Value.ref f]) := rv.append (.cons rfl .nil)
      have hyl : ys.length = np := by rw [← r1.length, hxl]
      have hlen : (ys ++ [V.ref f]).length = ps.length := by rw [List.length_append, hps, hyl]; rfl
      have hlu : (vs ++ [Value.ref f]).length = ps.length := by rw [← rv2.length, hlen]
      have bt := hb s2 (vs ++ [Value.ref f]) I2.kIn (by rw [List.append_nil]; exact hlu)
      rw [List.append_nil] at bt
      have rc : codeAny (model X.prog X.w) X.A (.call (.ref g) ⟨vs ++ [.ref f], []⟩) (CR C8.CX0 X.stack X.prog X.w H2 s2 Q C8.E0) s2 := by
        refine LamX.run_ofS (N := Ng) (ps := ps) (us := vs ++ [.ref f]) (vs := ys ++ [.ref f]) lkup hcd (C8.fnScope_by Sg) hr I2.env0 bt rv2 hlen fun hr' => ⟨_, hbody { D with L := some (np, f, F) } f F (fun x s => Lb (some x :: is.map fun i => some (.int i)) s) cdv X.A X.stack s2 H2 C8.E0 lk rfl hr' (fun e fe p1 p2 w1 w2 hse => ?_), ?_⟩
        · exact e_lamact lk rfl hL Bf C0 (hr'.mono hkl) hNa hva hse hd1 hd2 w1 w2
        · rw [hG] at hf
          unfold fnOf at hf
          rw [if_pos hxl] at hf
          obtain ⟨⟨fl, ρ1⟩, s3, h3, hf⟩ := bind_eq_ok hf
          refine ⟨n1, μ1, _, s1, (fl, ρ1), s3, okD, ?_, h3, ?_⟩
          · have r2 := (r1.mono l2).cv lk
            unfold L2.start
            refine ⟨?_, fun i v e => ?_, fun i' f' F' e e' => ?_⟩
            · have : np + 1 ≤ nl := by
                have h := (List.getElem?_eq_some_iff.mp hNa).1
                omega
              simp only [List.length_append, List.length_map, List.length_replicate, List.length_singleton]
              omega
            · by_cases hi : i < xs.length
              · rw [List.getElem?_append_left (by simpa using hi), List.getElem?_map] at e
                have hi' : i < ys.length := by rw [← r1.length]; exact hi
                rw [List.getElem?_append_left (by simp; omega), List.getElem?_map, List.getElem?_append_left hi']
                cases h : xs[i]? with
                | none => rw [h] at e; cases e
                | some w =>
                  rw [h] at e; cases e
                  obtain ⟨y, hy, ry⟩ := r2.get h
                  exact ⟨y, by rw [hy]; rfl, ry⟩
              · rw [List.getElem?_append_right (by simpa using hi), List.getElem?_replicate] at e
                split at e <;> cases e
            · cases e
              rw [List.getElem?_append_left (by simp; omega), List.getElem?_map, List.getElem?_append_right (by omega), hyl, Nat.sub_self]
              rfl
          · have back : ∀ {n' : Nat} {μ' : Nat → Addr} {H' : Hp} {st : Store}, Ok { D with L := some (np, f, F) } n' μ' H' st → Ok D n' μ' H' st := fun o => o.cv lk.symm fun i f F e => by rw [hL] at e; cases e
            cases fl with
            | next => cases hf; exact fun n' μ' H' σ' ok' l' er' => an n' μ' H' .non (back ok') (l1.trans (l2.trans l')) .non trivial
            | ret t =>
              cases hf
              exact fun n' μ' H' y ok' l' r' f' => an n' μ' H' y (back ok') (l1.trans (l2.trans l')) (r'.cv lk.symm) (by
                cases z with
                | v _ => trivial
                | l _ => exact fun a e => (l1.trans l2).no (f' a e))
            | brk => cases hf
      refine wpAny_call (codeAny_mono rc fun r s' hq => ?_)
      cases r with
      | error e => exact (show False from hq).elim
      | ok fl =>
        cases fl with
        | ret u => exact I2.after hq
        | next => exact False.elim hq
        | brk => exact False.elim hq
        | cont => exact False.elim hq
end
end VI
end
section
set_option Elab.async false
set_option linter.all false
set_option maxRecDepth 100000
set_option maxHeartbeats 4000000
/-! VI11: calls with keywords, == by an own __eq__, the def that makes a lambda. -/
namespace VI
open PySem PySem.Spec PyProof.Rows L2

theorem pick_vals {is : List Nat} {vs : List V} {us : List Value} (r : Vals vs us) : Vals (pick is vs) (pick is us) := by
  induction is with
  | nil => exact .nil
  | cons i is ih =>
    unfold pick
    rw [List.filterMap_cons, List.filterMap_cons]
    cases e : vs[i]? with
    | none =>
      have e' : us[i]? = none := by
        rw [List.getElem?_eq_none_iff] at e ⊢
        rw [← r.length]; exact e
      rw [e']
      exact ih
    | some v =>
      obtain ⟨u, hu, ru⟩ := r.get e
      rw [hu]
      exact .cons ru ih
theorem pick_rp {D : Wd} {n : Nat} {μ : Nat → Addr} {H : Hp} {is : List Nat} {xs : List Val} {ys : List V} (r : RpAll D n μ H xs ys) : RpAll D n μ H (pick is xs) (pick is ys) := by
  induction is with
  | nil => exact .nil
  | cons i is ih =>
    unfold pick
    rw [List.filterMap_cons, List.filterMap_cons]
    cases e : xs[i]? with
    | none =>
      have e' : ys[i]? = none := by
        rw [List.getElem?_eq_none_iff] at e ⊢
        rw [← r.length]; exact e
      rw [e']
      exact ih
    | some v =>
      obtain ⟨u, hu, ru⟩ := r.get e
      rw [hu]
      exact .cons ru ih
theorem pick_length {α β : Type} {is : List Nat} {xs : List α} {ys : List β} (h : xs.length = ys.length) : (pick is xs).length = (pick is ys).length := by
  induction is with
  | nil => rfl
  | cons i is ih =>
    unfold pick
    rw [List.filterMap_cons, List.filterMap_cons]
    cases e : xs[i]? with
    | none =>
      have e' : ys[i]? = none := by
        rw [List.getElem?_eq_none_iff] at e ⊢
        rw [← h]; exact e
      rw [e']
      exact ih
    | some v =>
      have hi : i < ys.length := by rw [← h]; exact (List.getElem?_eq_some_iff.mp e).1
      rw [List.getElem?_eq_getElem hi]
      exact congrArg (· + 1) ih
/-- how it binds -/
abbrev KB (K : PySem.W.Frag) (fd : FuncData) (ps : List Str) (n : Nat) (ks : List Str) (is : List Nat) : Prop := KBn K fd ps n ks (fun us ws => pick is (us ++ ws)) (fun vs zs => pick is (vs ++ zs))
theorem kb_of {K : PySem.W.Frag} {x qual : Str} {params : Arguments} {body : List Stmt} {scope : Scope} {kws : List (Str × V)} {f : Addr} {fd : FuncData} {ps ks : List Str} {n : Nat} {is : List Nat} (F : FunD K x qual params body scope [] kws f fd)
    (h : ∀ (kV doc pm : Value) (an : Option Addr) (cdv ct : Value) (us ws : List Value), us.length = n → ws.length = ks.length → bindArgs (PySem.W.fnOf x qual params body scope .none kV doc pm an cdv ct) ⟨us, ks.zip ws⟩ = pure (ps.zip (pick is (us ++ ws)))) : KB K fd ps n ks is := by
  obtain ⟨oc, od, dV, kV, doc, pm, an, cdv, ct, osl, rfl, lk, hcd, hD, hK⟩ := F.ex
  rcases hD with ⟨_, rfl⟩ | ⟨e, _⟩
  · exact ⟨fun s us ws X l1 l2 => .of_eq (h kV doc pm an cdv ct us ws l1 l2), fun r1 r2 => pick_vals (r1.append r2)⟩
  · exact absurd rfl e
structure DefK (P : Program) (w : World) (K : PySem.W.Frag) (mg : Str → Option Value) (base : Heap) (D : Wd) (k : Nat) (x : Str) (np : Nat) (F : Fn) (n : Nat) (ks : List Str) (is : List Nat) : Prop where
  ex : ∃ f fd ps, mg x = some (.ref f) ∧ PySem.W.keepIn K (.ref f) = true ∧ KB K fd ps n ks is ∧ FnOk P w K mg base C8.CX0 k f fd ps (spF D np F)
  db : (x == ("__debug__" : Str)) = false
structure MakK (P : Program) (w : World) (K : PySem.W.Frag) (mg : Str → Option Value) (base : Heap) (D : Wd) (k : Nat) (x : Str) (c : Nat) (np : Nat) (F : Fn) (n : Nat) (ks : List Str) (is : List Nat) : Prop where
  ex : ∃ f fd ps, mg x = some (.ref (D.C c)) ∧ Mk K (D.C c) f ∧ KB K fd ps (n + 1) ks is ∧ FnOk P w K mg base C8.CX0 k f fd ps (spF D np F)
  db : (x == ("__debug__" : Str)) = false
section
variable {X : Cx} {D : Wd} {a b e o : Expr} {es : List Expr} {kws : List Keyword} {fa fb fe : Ev} {ga gk : Avs} {pos p kpos : Pos} {k np n : Nat} {x : Str} {F : Fn} {ks : List Str} {is : List Nat} {nm : Option Str}
abbrev SK (X : Cx) (D : Wd) (kws : List Keyword) (f : Avs) : Prop := PK X kws (rA D f)
theorem PK_imp {t t' : TA} (h : PK X kws t) (k : ∀ σ H Q, t' σ H Q → t σ H Q) : PK X kws t' := ⟨fun pos pins s σ H Q I q => h.run pos pins s σ H Q I (k σ H Q q)⟩
theorem k_nil : SK X D [] aNil := PK_imp pk_nil fun σ H Q ⟨n, μ, ρ, st, z, st', ok, er, hf, an⟩ => by
  cases hf
  exact an n μ H [] ok (Le.refl _ _ _) .nil
theorem k_cons (ha : SE X D e fe) (hr : SK X D kws ga) : SK X D (⟨nm, e, kpos⟩ :: kws) (aCons fe ga) := PK_imp (pk_cons ha hr) fun _ _ _ h => cons_rd h
theorem app_rd {σ : L2.St} {H : Hp} {G : List Val → Store → Prop} {n : Nat} {μ : Nat → Addr} {ρ : PySem.Env → Prop} {st s1 s2 : Store} {r : Env} {xs ys : List Val} {Q : List V → List V → Hp → Prop} (ok : Ok D n μ H st) (er : EnvR D n μ H r σ) (h1 : ga r st = .ok xs s1) (h2 : gk r s1 = .ok ys s2)
    (q : ∀ n' μ' H' vs zs, Ok D n' μ' H' s2 → Le n μ H n' μ' H' → RpAll D n' μ' H' xs vs → RpAll D n' μ' H' ys zs → Q vs zs H') : rA D ga σ H fun vs H1 => rA D gk σ H1 fun zs H2 => Q vs zs H2 :=
  ⟨n, μ, r, st, xs, s1, ok, er, h1, fun n1 μ1 H1 vs ok1 l1 r1 => ⟨n1, μ1, r, s1, ys, s2, ok1, er.mono l1, h2, fun n2 μ2 H2 zs ok2 l2 r2 => q n2 μ2 H2 vs zs ok2 (l1.trans l2) (r1.mono l2) r2⟩⟩
theorem callK_fin {pins : List (Addr × Obj)} {σ : L2.St} {H : Hp} {s : Shared} {Q : VK} {us ws : List Value} {vs zs : List V} (d : DefK X.prog X.w X.K X.mg X.base D k x np F n ks is) {f : Addr} {fd : FuncData} {ps : List Str} (h3 : KB X.K fd ps n ks is) (h4 : FnOk X.prog X.w X.K X.mg X.base C8.CX0 k f fd ps (spF D np F)) (hr : Room k X.A)
    (I : L2.Inv X pins σ H s) (r : Vals vs us) (rz : Vals zs ws) (l1 : vs.length = n) (l2 : zs.length = ks.length) (h : spF D np F (pick is (vs ++ zs)) H Q C8.E0) : wpAny (model X.prog X.w) X.A (call (.ref f) us (ks.zip ws)) (EP X pins σ Q) X.xe s := by
  have r2 := h3.rel r rz
  refine wpAny_call (codeAny_mono (h4.run X.A X.stack s H ⟨us, ks.zip ws⟩ _ _ Q C8.E0 hr I.env0 (h3.to s us ws I.kIn (r.length.symm.trans l1) (rz.length.symm.trans l2)) r2 h) fun r s' hq => ?_)
  cases r with
  | error e => exact (show False from hq).elim
  | ok fl =>
    cases fl with
    | ret u => exact I.after hq
    | next => exact False.elim hq
    | brk => exact False.elim hq
    | cont => exact False.elim hq
theorem e_callK (d : DefK X.prog X.w X.K X.mg X.base D k x np F n ks is) (hr : Room k X.A) (hg : Gl X x) (ha : SA X D (e :: es) ga) (har : Arity ga n) (hkw : SK X D kws gk) (hak : Arity gk ks.length) (hnp : is.length = np) (his : is.all (fun i => decide (i < n + ks.length)) = true)
    (hall : (backToKw pos (keywordEach kws X.env)).all (·.1.isSome) = true := by rfl) (hks : (backToKw pos (keywordEach kws X.env)).filterMap (·.1) = ks := by rfl)
    (he : starEach (e :: es) X.env = (false, eval e X.env) :: starEach es X.env := by rfl)
    (hpl : ((backTo pos (starEach (e :: es) X.env)).any (·.1) || (backToKw pos (keywordEach kws X.env)).any (·.1.isNone)) = false := by rfl) : SE X D (.Call (.Name x p) (e :: es) kws pos) (eCallK F is ga gk) := by
  refine ⟨fun pins s σ H Q I ⟨n0, μ, ρ, st, z, st', ok, er, hf, an⟩ => ?_⟩
  obtain ⟨f, fd, ps, h1, h2, h3, h4⟩ := d.ex
  obtain ⟨xs, s1, g1, hf⟩ := bind_eq_ok hf
  obtain ⟨xs', s1', g2, g1⟩ := bind_eq_ok g1
  obtain ⟨as, s2, g3, g2⟩ := bind_eq_ok g2
  obtain ⟨bs, s3, g4, g2⟩ := bind_eq_ok g2
  cases g2; cases g1
  have hrd := app_rd (G := fun _ _ => True) (ρ := fun _ => True) (Q := fun vs zs H2 => vs.length = n ∧ zs.length = ks.length ∧ spF D np F (pick is (vs ++ zs)) H2 Q C8.E0) ok er g3 g4 fun n' μ' H' vs zs ok' l' r1 r2 => by
    have e1 : vs.length = n := by rw [← r1.length]; exact har _ _ _ _ g3
    have e2 : zs.length = ks.length := by rw [← r2.length]; exact hak _ _ _ _ g4
    refine ⟨e1, e2, ?_, n', μ', _, _, z, st', ok', pick_rp (r1.append r2), hf, an.le l'⟩
    rw [← hnp]
    clear hnp
    have : ∀ is : List Nat, is.all (fun i => decide (i < n + ks.length)) = true → (pick is (vs ++ zs)).length = is.length := fun is => by
      induction is with
      | nil => intro _; rfl
      | cons i is ih =>
        intro h
        rw [List.all_cons, Bool.and_eq_true] at h
        unfold pick
        have hi : i < (vs ++ zs).length := by rw [List.length_append, e1, e2]; exact of_decide_eq_true h.1
        rw [List.filterMap_cons, List.getElem?_eq_getElem hi]
        exact congrArg (· + 1) (ih h.2)
    exact this is his
  refine wpAny_Call_Name_kw (ld_glob I hg h1 ?_ d.db)
  refine PySem.W.callWith_KW (h₀ := X.base) I.ok.mod.kin h2 hall (thn (ha.run pos pins s σ H _ I hrd) fun us s1 ⟨vs, H1, I1, r, q⟩ => ?_) hpl he
  refine thn (hkw.run pos pins s1 σ H1 _ I1 q) fun ws s2 ⟨zs, H2, I2, rz, l1, l2, q2⟩ => ⟨I2.kIn, ?_⟩
  rw [hks]
  exact callK_fin d h3 h4 hr I2 r rz l1 l2 q2
theorem e_callK0 (d : DefK X.prog X.w X.K X.mg X.base D k x np F 0 ks is) (hr : Room k X.A) (hg : Gl X x) (hkw : SK X D kws gk) (hak : Arity gk ks.length) (hnp : is.length = np) (his : is.all (fun i => decide (i < 0 + ks.length)) = true)
    (hall : (backToKw pos (keywordEach kws X.env)).all (·.1.isSome) = true := by rfl) (hks : (backToKw pos (keywordEach kws X.env)).filterMap (·.1) = ks := by rfl)
    (hpl : ((backTo pos (starEach [] X.env)).any (·.1) || (backToKw pos (keywordEach kws X.env)).any (·.1.isNone)) = false := by rfl) : SE X D (.Call (.Name x p) [] kws pos) (eCallK F is aNil gk) := by
  refine ⟨fun pins s σ H Q I ⟨n0, μ, ρ, st, z, st', ok, er, hf, an⟩ => ?_⟩
  obtain ⟨f, fd, ps, h1, h2, h3, h4⟩ := d.ex
  obtain ⟨xs, s1, g1, hf⟩ := bind_eq_ok hf
  obtain ⟨xs', s1', g2, g1⟩ := bind_eq_ok g1
  obtain ⟨as, s2, g3, g2⟩ := bind_eq_ok g2
  obtain ⟨bs, s3, g4, g2⟩ := bind_eq_ok g2
  cases g2; cases g1; cases g3
  have hrd : rA D gk σ H fun zs H2 => zs.length = ks.length ∧ spF D np F (pick is ([] ++ zs)) H2 Q C8.E0 := ⟨n0, μ, ρ, _, _, _, ok, er, g4, fun n' μ' H' zs ok' l' r2 => by
    have e2 : zs.length = ks.length := by rw [← r2.length]; exact hak _ _ _ _ g4
    refine ⟨e2, ?_, n', μ', _, _, z, st', ok', pick_rp (is := is) (xs := [] ++ bs) (ys := [] ++ zs) r2, hf, an.le l'⟩
    rw [← hnp]
    clear hnp
    have : ∀ is : List Nat, is.all (fun i => decide (i < 0 + ks.length)) = true → (pick is ([] ++ zs)).length = is.length := fun is => by
      induction is with
      | nil => intro _; rfl
      | cons i is ih =>
        intro h
        rw [List.all_cons, Bool.and_eq_true] at h
        unfold pick
        have hi : i < ([] ++ zs).length := by rw [List.nil_append, e2]; have := of_decide_eq_true h.1; omega
        rw [List.filterMap_cons, List.getElem?_eq_getElem hi]
        exact congrArg (· + 1) (ih h.2)
    exact this is his⟩
  refine wpAny_Call_Name_kw (ld_glob I hg h1 ?_ d.db)
  refine PySem.W.callWith_KW0 (h₀ := X.base) I.ok.mod.kin h2 hall ?_ hpl
  refine thn (hkw.run pos pins s σ H _ I hrd) fun ws s2 ⟨zs, H2, I2, rz, l2, q2⟩ => ⟨I2.kIn, ?_⟩
  rw [hks]
  exact callK_fin (us := []) (vs := []) d h3 h4 hr I2 .nil rz rfl l2 q2
theorem e_mkK {c : Nat} (d : MakK X.prog X.w X.K X.mg X.base D k x c np F n ks is) (hr : Room (k + 1) X.A) (hg : Gl X x) (ha : SA X D (e :: es) ga) (har : Arity ga n) (hkw : SK X D kws gk) (hak : Arity gk ks.length) (hnp : is.length = np) (his : is.all (fun i => decide (i < n + 1 + ks.length)) = true)
    (hall : (backToKw pos (keywordEach kws X.env)).all (·.1.isSome) = true := by rfl) (hks : (backToKw pos (keywordEach kws X.env)).filterMap (·.1) = ks := by rfl)
    (he : starEach (e :: es) X.env = (false, eval e X.env) :: starEach es X.env := by rfl)
    (hpl : ((backTo pos (starEach (e :: es) X.env)).any (·.1) || (backToKw pos (keywordEach kws X.env)).any (·.1.isNone)) = false := by rfl) : SE X D (.Call (.Name x p) (e :: es) kws pos) (eMkK c F is ga gk) := by
  obtain ⟨f, fd, ps, h1, h2, h3, h4⟩ := d.ex
  refine PE_imp (pe_makeK h2 h4 hr hg h1 h3 (C8.pass0 (E := C8.E0)) ha hkw hall hks d.db he hpl) fun σ H Q ⟨n0, μ, ρ, st, z, st', ok, er, hf, an⟩ => ?_
  obtain ⟨as, s2, g3, hf⟩ := bind_eq_ok hf
  obtain ⟨bs, s3, g4, hf⟩ := bind_eq_ok hf
  obtain ⟨r, s4, g5, hf⟩ := bind_eq_ok hf
  refine app_rd (G := fun _ _ => True) (ρ := fun _ => True) ok er g3 g4 fun n1 μ1 H1 vs zs ok1 l1 r1 r2 => ?_
  have e1 : vs.length = n := by rw [← r1.length]; exact har _ _ _ _ g3
  have e2 : zs.length = ks.length := by rw [← r2.length]; exact hak _ _ _ _ g4
  refine ⟨e1, e2, fun x dx hx hdx ne => ?_⟩
  obtain ⟨ok2, l2⟩ := make_ok (c := c) ok1 hx hdx ne
  have e3 : s3.length = n1 := ok1.len
  have q : Rp D (n1 + 1) (fun k => if k = n1 then x else μ1 k) (upd (upd H1 dx (.own x)) x (.ins (D.C c) dx [])) (.ref n1) (.ref x) := by
    have q : Rp D (n1 + 1) (fun k => if k = n1 then x else μ1 k) (upd (upd H1 dx (.own x)) x (.ins (D.C c) dx [])) (.ref n1) (.ref ((fun k => if k = n1 then x else μ1 k) n1)) := .ref (Nat.lt_succ_self n1)
    simp only [if_pos] at q
    exact q
  rw [e3] at g5
  have rr : RpAll D (n1 + 1) (fun k => if k = n1 then x else μ1 k) (upd (upd H1 dx (.own x)) x (.ins (D.C c) dx [])) (.ref n1 :: as ++ bs) (.ref x :: vs ++ zs) := .cons q ((r1.append r2).mono l2)
  have hlen : (V.ref x :: vs ++ zs).length = n + 1 + ks.length := by rw [List.length_append, List.length_cons, e1, e2]
  refine ⟨?_, n1 + 1, _, s3 ++ [.ins c []], _, r, s4, ok2, pick_rp rr, g5, fun n3 μ3 H3 y3 ok3 l3 r3 f3 => ?_⟩
  · rw [← hnp]
    clear hnp
    have : ∀ is : List Nat, is.all (fun i => decide (i < n + 1 + ks.length)) = true → (pick is (V.ref x :: vs ++ zs)).length = is.length := fun is => by
      induction is with
      | nil => intro _; rfl
      | cons i is ih =>
        intro h
        rw [List.all_cons, Bool.and_eq_true] at h
        unfold pick
        have hi : i < (V.ref x :: vs ++ zs).length := by rw [hlen]; exact of_decide_eq_true h.1
        rw [List.filterMap_cons, List.getElem?_eq_getElem hi]
        exact congrArg (· + 1) (ih h.2)
    exact this is his
  · cases r with
    | l _ => cases hf
    | v r =>
      cases r with
      | non =>
        cases hf
        cases r3
        refine ⟨rfl, ?_⟩
        rw [e3] at an
        exact an n3 μ3 H3 _ ok3 (l1.trans (l2.trans l3)) (q.mono l3) trivial
      | _ => cases hf

/-! ### == by an own __eq__, of two instances of one class -/
end
structure EqM (P : Program) (w : World) (K : PySem.W.Frag) (mg : Str → Option Value) (base : Heap) (D : Wd) (k : Nat) (c : Nat) (F : Fn) : Prop where
  ex : ∃ f fd ps, PySem.W.findIn K (.ref (D.C c)) "__eq__" = some (some (.ref f)) ∧ PySem.W.isFn K (.ref f) = true ∧ L2.Binds K fd ps [] ∧ FnOk P w K mg base C8.CX0 k f fd ps (spF D 2 F)
section
variable {X : Cx} {D : Wd} {k : Nat} {F : Fn}
theorem isIns_ok {n : Nat} {μ : Nat → Addr} {H : Hp} {st : Store} {x : Tv} {y : V} {c : Nat} {z : Val} (ok : Ok D n μ H st) (r : Rt D n μ H x y) (h : isIns x c st = some z) : ∃ a dx gs, x = .v z ∧ y = .ref a ∧ H a = some (.ins (D.C c) dx gs) := by
  cases x with
  | l _ => cases h
  | v x =>
    cases x with
    | ref j =>
      cases r
      unfold isIns at h
      cases e : st[j]? with
      | none => simp [e] at h
      | some o =>
        cases o with
        | ins d fs =>
          simp only [e] at h
          by_cases hd : d = c
          · rw [if_pos hd] at h
            cases h
            subst hd
            obtain ⟨dx, gs, h1, h2⟩ := ok.ob j _ e
            exact ⟨_, dx, gs, rfl, rfl, h1⟩
          · rw [if_neg hd] at h; cases h
        | _ => simp [e] at h
    | _ => cases h
theorem s_eqI {c : Nat} (d : EqM X.prog X.w X.K X.mg X.base D k c F) (hr : Room k X.A) : OpR X (compareOp .Eq) (rO D (cEqI c F)) := by
  intro pins s σ H x y v u Q I rx ry ⟨n, μ, st, a, b, z, st', ok, ra, rb, hf, an⟩
  obtain ⟨f, fd, ps, hs, hfn, hb, hF⟩ := d.ex
  unfold cEqI at hf
  cases h1 : isIns a c st with
  | none => rw [h1] at hf; cases hf
  | some va =>
    cases h2 : isIns b c st with
    | none => rw [h1, h2] at hf; cases hf
    | some vb =>
      rw [h1, h2] at hf
      obtain ⟨r, s1, h3, hf⟩ := bind_eq_ok hf
      obtain ⟨aa, dx, gs, rfl, rfl, hA⟩ := isIns_ok ok ra h1
      obtain ⟨ab, dy, hs', rfl, rfl, hB⟩ := isIns_ok ok rb h2
      cases rx
      cases ry
      obtain ⟨mA, J, _⟩ := ins_get I.hok hA
      obtain ⟨mB, J', _⟩ := ins_get I.hok hB
      obtain ⟨od, J, _⟩ := J.look
      obtain ⟨od', J', _⟩ := J'.look
      obtain ⟨m, hFr⟩ := I.fr
      show wpAny (model X.prog X.w) X.A (richCompare .Eq (.ref aa) (.ref ab)) (EP X pins σ Q) X.xe s
      refine PySem.W.cmp_K (op := .Eq) (tb := .ref (D.C c)) hr.units0 hFr I.ok.mod.kin J J'.type (by simp [PySem.W.notFirst]) hs hfn ?_
      have hsp : spF D 2 F [.ref aa, .ref ab] H (fun v H' => ∃ k, v = .bl k ∧ Q (.bl k) H') C8.E0 := ⟨rfl, n, μ, st, [va, vb], r, s1, ok, .cons ra (.cons rb .nil), h3, fun n' μ' H' y' ok' l' r' f' => by
        cases r with
        | l _ => cases hf
        | v r =>
          cases r with
          | bool k =>
            cases hf
            cases r'
            exact ⟨k, rfl, an n' μ' H' _ ok' l' (.bool k) trivial⟩
          | _ => cases hf⟩
      have hl := hF.len _ _ _ _ hsp
      have r2 : Vals [V.ref aa, V.ref ab] [Value.ref aa, Value.ref ab] := .cons rfl (.cons rfl .nil)
      refine wpAny_call (codeAny_mono (hF.run X.A X.stack s H ⟨[.ref aa, .ref ab], []⟩ [.ref aa, .ref ab] [.ref aa, .ref ab] _ C8.E0 hr I.env0 (by
        have := hb s [.ref aa, .ref ab] I.kIn (by simpa using hl)
        simpa using this) r2 hsp) fun r s' hq => ?_)
      cases r with
      | error e => exact (show False from hq).elim
      | ok fl =>
        cases fl with
        | ret w =>
          obtain ⟨z, H', I', rz, k, ez, q⟩ := I.after hq
          subst ez
          obtain rfl : w = Value.bool k := rz
          exact ⟨.bl k, H', I', rfl, q⟩
        | next => exact False.elim hq
        | brk => exact False.elim hq
        | cont => exact False.elim hq
end
section
variable {P : Program} {w : World} {K : PySem.W.Frag} {mg : Str → Option Value} {base : Heap} {D : Wd} {N ps : List Str} {qual : Str} {scope : Scope} {f : Addr}
/-- the def whose code object stands at c -/
theorem fn_okC {x : Str} {params : Arguments} {body : List Stmt} {dvs : List V} {kws : List (Str × V)} {fd : FuncData} {k np nl : Nat} {g : Sx} {c : Addr} (hL : D.L = none) (F : FunD K x qual params body scope dvs kws f fd) (hc : fd.code = .ref c) (S : C8.scC N ps scope = true) (hnp : ps.length = np) (hnl : N.length = nl)
    (hb : ∀ (A : Around) (outer : List PySem.Env) (s : Shared) (H : Hp) (E : XK), Room k (A.deeper (envOfC qual scope s.heap.objs.size f (.ref c))) → SSs (cxOf C8.CX0 P w K mg base N qual scope f (.ref c) A outer s H E) D body g) :
    FnOk P w K mg base C8.CX0 (k + 1) f fd ps (spF D np (fnOf np nl g)) := by
  obtain ⟨oc, od, dV, kV, doc, pm, an', cdv, ct, osl, rfl, lk, hcd, _, _⟩ := F.ex
  obtain rfl : cdv = .ref c := hc
  refine fn_of lk hcd (C8.fnScope_by S) (fun vs H Q E h => by rw [h.1, hnp]) fun A outer s H vs Q E hr h => ⟨_, hb A outer s H E hr, ?_⟩
  obtain ⟨h0, n, μ, st, as, x, st', ok, r, hf, an⟩ := h
  unfold fnOf at hf
  have hl : as.length = np := by rw [r.length, h0]
  rw [if_pos hl] at hf
  obtain ⟨⟨fl, ρ⟩, s1, h1, hf⟩ := bind_eq_ok hf
  refine ⟨n, μ, _, st, (fl, ρ), s1, ok, ?_, h1, ?_⟩
  · have e : N.length - vs.length = nl - np := by rw [hnl, h0]
    unfold L2.start
    rw [e]
    exact startR hL r _
  · cases fl with
    | next => cases hf; exact fun n' μ' H' σ' ok' l' er' => an n' μ' H' .non ok' l' .non trivial
    | ret t => cases hf; exact an
    | brk => cases hf
end
end VI
end
section
set_option Elab.async false
set_option linter.all false
set_option maxRecDepth 100000
set_option maxHeartbeats 4000000
/-! VI12: what the printed texts lean on: built-ins by name, room, facts of the written part by look. -/
namespace VI
open PySem PySem.Spec PyProof.Rows L2
theorem bb_len : bootBuiltins ("len" : Str) = some (.builtin "len") := by decide +kernel
theorem bb_all : bootBuiltins ("all" : Str) = some (.builtin "all") := by decide +kernel
theorem bb_any : bootBuiltins ("any" : Str) = some (.builtin "any") := by decide +kernel
theorem bb_max : bootBuiltins ("max" : Str) = some (.builtin "max") := by decide +kernel
theorem bb_min : bootBuiltins ("min" : Str) = some (.builtin "min") := by decide +kernel
theorem bb_int : bootBuiltins ("int" : Str) = some (.type "int") := by decide +kernel
theorem bb_bool : bootBuiltins ("bool" : Str) = some (.type "bool") := by decide +kernel
theorem bb_str : bootBuiltins ("str" : Str) = some (.type "str") := by decide +kernel
theorem bb_list : bootBuiltins ("list" : Str) = some (.type "list") := by decide +kernel
theorem bb_tuple : bootBuiltins ("tuple" : Str) = some (.type "tuple") := by decide +kernel
theorem u64 {k : Nat} {A : Around} (r : Room k A) : A.units + 64 < cLine := r.units
theorem u65 {k : Nat} {A : Around} (r : Room k A) : A.units + 65 < cLine := by have := r.un; omega
theorem nne {x : Str} (h : (x == ("__name__" : Str)) = false) : x ≠ "__name__" := beq_eq_false_iff_ne.mp h
theorem Def.mono {P : Program} {w : World} {K : PySem.W.Frag} {mg : Str → Option Value} {base : Heap} {D : Wd} {j k : Nat} {x : Str} {np : Nat} {F : Fn} (d : Def P w K mg base D j x np F) (h : j ≤ k) : Def P w K mg base D k x np F := by
  obtain ⟨⟨f, fd, ps, a, b, c, e⟩, g⟩ := d
  exact ⟨⟨f, fd, ps, a, b, c, e.mono h⟩, g⟩
section
variable {X : Cx} {D : Wd} {pos p : Pos} {e a b : Expr} {fe fa fb : Ev}
theorem e_len [C : Cok X D] (hg : Gl X "len") (hm : X.mg "len" = none) (ha : SE X D e fe) (he : starEach [e] X.env = (false, eval e X.env) :: starEach [] X.env := by rfl) : SE X D (.Call (.Name "len" p) [e] [] pos) (eB1 bLen fe) := e_bB r_len hg hm bb_len ha (by decide) (by decide) he
theorem e_all [C : Cok X D] (hg : Gl X "all") (hm : X.mg "all" = none) (ha : SE X D e fe) (he : starEach [e] X.env = (false, eval e X.env) :: starEach [] X.env := by rfl) : SE X D (.Call (.Name "all" p) [e] [] pos) (eB1 bAll fe) := e_bB r_all hg hm bb_all ha (by decide) (by decide) he
theorem e_any [C : Cok X D] (hg : Gl X "any") (hm : X.mg "any" = none) (ha : SE X D e fe) (he : starEach [e] X.env = (false, eval e X.env) :: starEach [] X.env := by rfl) : SE X D (.Call (.Name "any" p) [e] [] pos) (eB1 bAny fe) := e_bB r_any hg hm bb_any ha (by decide) (by decide) he
theorem e_max [C : Cok X D] (hg : Gl X "max") (hm : X.mg "max" = none) (ha : SE X D e fe) (he : starEach [e] X.env = (false, eval e X.env) :: starEach [] X.env := by rfl) : SE X D (.Call (.Name "max" p) [e] [] pos) (eB1 bMax fe) := e_bB r_max hg hm bb_max ha (by decide) (by decide) he
theorem e_intF (hg : Gl X "int") (hm : X.mg "int" = none) (ha : SE X D e fe) (he : starEach [e] X.env = (false, eval e X.env) :: starEach [] X.env := by rfl) : SE X D (.Call (.Name "int" p) [e] [] pos) (eB1 bInt fe) := e_bT r_int hg hm bb_int ha (by decide) (by decide) he
theorem e_tupF [C : Cok X D] (hg : Gl X "tuple") (hm : X.mg "tuple" = none) (ha : SE X D e fe) (he : starEach [e] X.env = (false, eval e X.env) :: starEach [] X.env := by rfl) : SE X D (.Call (.Name "tuple" p) [e] [] pos) (eB1 bTuple fe) := e_bT r_tuple hg hm bb_tuple ha (by decide) (by decide) he
theorem e_lstF [C : Cok X D] (hg : Gl X "list") (hm : X.mg "list" = none) (ha : SE X D e fe) (he : starEach [e] X.env = (false, eval e X.env) :: starEach [] X.env := by rfl) : SE X D (.Call (.Name "list" p) [e] [] pos) (eB1 bList fe) := e_bT r_list hg hm bb_list ha (by decide) (by decide) he
theorem e_max2 [C : Cok X D] (hg : Gl X "max") (hm : X.mg "max" = none) (ha : SE X D a fa) (hb : SE X D b fb) (na : starEach [a, b] X.env = (false, eval a X.env) :: starEach [b] X.env := by rfl) (nb : starEach [b] X.env = (false, eval b X.env) :: starEach [] X.env := by rfl)
    (hp : (backTo pos (starEach [b] X.env)).any (·.1) = false := by rfl) : SE X D (.Call (.Name "max" p) [a, b] [] pos) (eBin oMax fa fb) := e_b2 r_max2 hg hm bb_max ha hb (by decide) (by decide) na nb hp
theorem e_min2 [C : Cok X D] (hg : Gl X "min") (hm : X.mg "min" = none) (ha : SE X D a fa) (hb : SE X D b fb) (na : starEach [a, b] X.env = (false, eval a X.env) :: starEach [b] X.env := by rfl) (nb : starEach [b] X.env = (false, eval b X.env) :: starEach [] X.env := by rfl)
    (hp : (backTo pos (starEach [b] X.env)).any (·.1) = false := by rfl) : SE X D (.Call (.Name "min" p) [a, b] [] pos) (eBin oMin fa fb) := e_b2 r_min2 hg hm bb_min ha hb (by decide) (by decide) na nb hp
/-- a global name that holds a value -/
def GV (D : Wd) (mg : Str → Option Value) (x : Str) (v : Val) : Prop := ∃ u y, mg x = some u ∧ RelV y u ∧ ∀ n μ H, Rp D n μ H v y
theorem e_glob {x : Str} {v : Val} (g : GV D X.mg x v) (hg : Gl X x) (hd : (x == ("__debug__" : Str)) = false) : SE X D (.Name x p) (eC v) := by
  obtain ⟨u, y, h1, h2, h3⟩ := g
  exact e_C (pe_glob hg h1 h2 hd) h3
theorem pe_bt {T : String} {x : Str} (hg : Gl X x) (hm : X.mg x = none) (hv : bootBuiltins x = some (.type T)) (hn : x ≠ "__name__") (hd : (x == ("__debug__" : Str)) = false) : PE X (.Name x p) (tC (.ty T)) := pe_bltn hg hm hv rfl hn hd
end
/-! ### what a look at the written part tells -/
def insK (K : PySem.W.Frag) (x : Str) : Bool := (He.Fa.cls x).ok K && (He.eqO (PySem.W.findIn K (.ref (He.ga K x)) "__class__") (some (some (.builtin "object.__class__"))) && (He.eqO (PySem.W.specialIn K (.builtin "object.__class__") "__get__") (some (some (.builtin "getset_descriptor.__get__"))) &&
  (decide (PySem.W.takesIn K (.builtin "object.__class__") = some true) && decide (PySem.W.mroIn K (He.ga K x) (.type "object") = some true))))
theorem insK_ok {D : Wd} {d : Nat} {x : Str} (hC : D.C d = He.ga D.K x) (h : insK D.K x = true) : InsT D d := by
  unfold insK at h
  obtain ⟨h1, h⟩ := He.ba h
  obtain ⟨h2, h⟩ := He.ba h
  obtain ⟨h3, h⟩ := He.ba h
  obtain ⟨h4, h5⟩ := He.ba h
  exact ⟨by rw [hC]; exact He.cls_ok h1, by rw [hC]; exact He.eqO_ok h2, He.eqO_ok h3, of_decide_eq_true h4, by rw [hC]; exact of_decide_eq_true h5⟩
def kfB (q : Value → Option Bool) (K : PySem.W.Frag) (cs : List (Nat × Str)) (ty : Ty) : Bool :=
  (["NoneType", "bool", "int", "str", "tuple", "list", "dict"].all fun T => decide (q (.type T) = some (inB ty T))) && cs.all fun p => decide (q (.ref (He.ga K p.2)) = some (VI.insB ty p.1)) && insK K p.2
theorem kfB_ok {D : Wd} {q : Value → Option Bool} {cs : List (Nat × Str)} {ty : Ty} (hC : ∀ p ∈ cs, D.C p.1 = He.ga D.K p.2) (h : kfB q D.K cs ty = true) : KF D (cs.map (·.1)) ty q := by
  unfold kfB at h
  obtain ⟨h1, h2⟩ := He.ba h
  refine ⟨fun T hT => of_decide_eq_true (List.all_eq_true.mp h1 T hT), fun d hd => ?_, fun d hd => ?_⟩
  · obtain ⟨p, hp, rfl⟩ := List.mem_map.mp hd
    obtain ⟨h3, _⟩ := He.ba (List.all_eq_true.mp h2 p hp)
    rw [hC p hp]
    exact of_decide_eq_true h3
  · obtain ⟨p, hp, rfl⟩ := List.mem_map.mp hd
    obtain ⟨_, h4⟩ := He.ba (List.all_eq_true.mp h2 p hp)
    exact insK_ok (hC p hp) h4
end VI
end
section
set_option Elab.async false
set_option linter.all false
set_option maxRecDepth 100000
set_option maxHeartbeats 4000000
/-! VI13: worlds as the printed texts name them; wrappers that hand over the context. -/
namespace VI
open PySem PySem.Spec PyProof.Rows L2
class SOK (S : List Str) : Prop where
  nd : S.Nodup
  sok : ∀ z ∈ S, PyData.strOk z = true
def mkW (S : List Str) (Cn : Nat → Str) (K : PySem.W.Frag) (T : List (Addr × Str)) (L : Option (Nat × Addr × LF)) : Wd := ⟨K, S, fun c => He.ga K (Cn c), T, L⟩
instance wokW {S : List Str} {Cn : Nat → Str} {K : PySem.W.Frag} {T : List (Addr × Str)} {L : Option (Nat × Addr × LF)} [Z : SOK S] : Wok (mkW S Cn K T L) := ⟨Z.nd, Z.sok⟩
theorem lk_eq {S : List Str} {Cn : Nat → Str} {K : PySem.W.Frag} {T : List (Addr × Str)} {D' : Wd} (l : Lk (mkW S Cn K T none) D') : ∃ L, D' = mkW S Cn K T L := by
  obtain ⟨K', S', C', T', L'⟩ := D'
  obtain ⟨h1, h2, h3, h4⟩ := l
  refine ⟨L', ?_⟩
  obtain rfl : K' = K := h1
  obtain rfl : S' = S := h2
  obtain rfl : C' = fun c => He.ga K' (Cn c) := h3
  obtain rfl : T' = T := h4
  rfl
section
variable {P : Program} {w : World} {K : PySem.W.Frag} {mg : Str → Option Value} {base : Heap} {S : List Str} {Cn : Nat → Str} {T : List (Addr × Str)} {N ps : List Str} {qual : Str} {scope : Scope} {f : Addr}
theorem fn_okW {x : Str} {params : Arguments} {body : List Stmt} {dvs : List V} {kws : List (Str × V)} {fd : FuncData} {k np nl : Nat} {g : Sx} (F : FunD K x qual params body scope dvs kws f fd) (Sc : C8.scC N ps scope = true) (hnp : ps.length = np) (hnl : N.length = nl)
    (hb : ∀ (cdv : Value) (A : Around) (outer : List PySem.Env) (s : Shared) (H : Hp) (E : XK), Room k (A.deeper (envOfC qual scope s.heap.objs.size f cdv)) → Cok (cxOf C8.CX0 P w K mg base N qual scope f cdv A outer s H E) (mkW S Cn K T none) → SSs (cxOf C8.CX0 P w K mg base N qual scope f cdv A outer s H E) (mkW S Cn K T none) body g) :
    FnOk P w K mg base C8.CX0 (k + 1) f fd ps (spF (mkW S Cn K T none) np (fnOf np nl g)) :=
  fn_ok rfl F Sc hnp hnl fun cdv A outer s H E hr => hb cdv A outer s H E hr ⟨rfl, rfl, (C8.fnScope_by Sc).nd⟩
theorem fn_okCW {x : Str} {params : Arguments} {body : List Stmt} {dvs : List V} {kws : List (Str × V)} {fd : FuncData} {k np nl : Nat} {g : Sx} {c : Addr} (F : FunD K x qual params body scope dvs kws f fd) (hc : fd.code = .ref c) (Sc : C8.scC N ps scope = true) (hnp : ps.length = np) (hnl : N.length = nl)
    (hb : ∀ (A : Around) (outer : List PySem.Env) (s : Shared) (H : Hp) (E : XK), Room k (A.deeper (envOfC qual scope s.heap.objs.size f (.ref c))) → Cok (cxOf C8.CX0 P w K mg base N qual scope f (.ref c) A outer s H E) (mkW S Cn K T none) → SSs (cxOf C8.CX0 P w K mg base N qual scope f (.ref c) A outer s H E) (mkW S Cn K T none) body g) :
    FnOk P w K mg base C8.CX0 (k + 1) f fd ps (spF (mkW S Cn K T none) np (fnOf np nl g)) :=
  fn_okC rfl F hc Sc hnp hnl fun A outer s H E hr => hb A outer s H E hr ⟨rfl, rfl, (C8.fnScope_by Sc).nd⟩
theorem LBody.mk' {k : Nat} {F : LF} {par : Str} {fr Nl : List Str} {Lb : Ev} (sc : NdefX.nscB Nl [par] fr F.scope = true) (nl : Nl.length = 1 + fr.length)
    (bind : ∀ (pm ctv u : Value), bindArgs (PySem.W.kla_fn "<lambda>" F.qual F.params F.body F.scope F.cl pm (.ref F.c) ctv) ⟨[u], []⟩ = pure [(par, u)])
    (body : ∀ (f : Addr) (A : Around) (outer : List PySem.Env) (s : Shared) (H : Hp) (E : XK), Room k (A.deeper (NdefX.envF F.nf f s.heap.objs.size)) → Cok (NdefX.ncx C8.CX0 P w K mg base Nl F.nf f A outer s H E) (mkW S Cn K T none) → SE (NdefX.ncx C8.CX0 P w K mg base Nl F.nf f A outer s H E) (mkW S Cn K T none) F.body Lb) :
    LBody P w K mg base (mkW S Cn K T none) k F par fr Nl Lb :=
  ⟨NdefX.nscope_by sc, nl, bind, fun f A outer s H E hr => body f A outer s H E hr ⟨rfl, rfl, (NdefX.nscope_by sc).nd⟩⟩
/-- a def whose last parameter is a function -/
theorem ldef_of {k np nl : Nat} {g : Addr} {x aL : Str} {pg : Arguments} {bg : List Stmt} {sg : Scope} {fd : FuncData} {Bg : (Val → Store → Res Tv) → Sx} (hm : mg x = some (.ref g)) (F : FunD K x x pg bg sg [] [] g fd) (Sc : C8.scC N ps sg = true) (hb : L2.Binds K fd ps []) (h1 : ps.length = np + 1) (h2 : N.length = nl) (h3 : N[np]? = some aL) (h4 : Vis sg aL)
    (h5 : (aL == ("__debug__" : Str)) = false) (h6 : (aL == ("__classdict__" : Str)) = false) (h7 : (x == ("__debug__" : Str)) = false)
    (body : ∀ (L : Option (Nat × Addr × LF)) (Lf : Val → Store → Res Tv) (cdv : Value) (A : Around) (outer : List PySem.Env) (s : Shared) (H : Hp) (E : XK), Room k (A.deeper (envOfC x sg s.heap.objs.size g cdv)) → Cok (cxOf C8.CX0 P w K mg base N x sg g cdv A outer s H E) (mkW S Cn K T L) →
      (∀ (e : Expr) (fe : Ev) (p1 p2 : Pos), starEach [e] (cxOf C8.CX0 P w K mg base N x sg g cdv A outer s H E).env = (false, eval e (cxOf C8.CX0 P w K mg base N x sg g cdv A outer s H E).env) :: starEach [] (cxOf C8.CX0 P w K mg base N x sg g cdv A outer s H E).env →
        (backTo p2 (starEach [] (cxOf C8.CX0 P w K mg base N x sg g cdv A outer s H E).env)).any (·.1) = false →
        SE (cxOf C8.CX0 P w K mg base N x sg g cdv A outer s H E) (mkW S Cn K T L) e fe → SE (cxOf C8.CX0 P w K mg base N x sg g cdv A outer s H E) (mkW S Cn K T L) (.Call (.Name aL p1) [e] [] p2) (eLamC np Lf fe)) →
      SSs (cxOf C8.CX0 P w K mg base N x sg g cdv A outer s H E) (mkW S Cn K T L) bg (Bg Lf)) :
    LDef P w K mg base (mkW S Cn K T none) k x np (fun L => fnOf np nl (Bg L)) :=
  ⟨⟨g, fd, pg, bg, sg, N, ps, aL, Bg, nl, hm, F, Sc, hb, h1, h2, h3, h4, h5, h6, fun _ => rfl, fun D' f F' Lf cdv A outer s H E lk hL hr act => by
    obtain ⟨L, rfl⟩ := lk_eq lk
    exact body L Lf cdv A outer s H E hr ⟨rfl, rfl, (C8.fnScope_by Sc).nd⟩ act⟩, h7⟩
end
end VI
end
section
set_option Elab.async false
set_option linter.all false
set_option maxRecDepth 100000
set_option maxHeartbeats 4000000
/-! VI14: the head: a Hook that looks at given addresses; the law's end. -/
namespace VI
open PySem PySem.Spec PyProof.Rows L2

/-! ### values of the written part -/
mutual
def relK (K : PySem.W.Frag) (S : List Str) : Val → Value → Bool
  | .non, .none => true
  | .bool b, .bool c => b == c
  | .int i, .int j _ => decide (i = j)
  | .str k, .str y _ => decide (S[k]? = some y)
  | .tup l, .ref a => match K.lookup a with
    | some ⟨.type c, _, .seq its _, _⟩ => decide (c = "tuple") && (decide (its.size ≤ sizeLine) && relKs K S l its.toList)
    | _ => false
  | _, _ => false
def relKs (K : PySem.W.Frag) (S : List Str) : List Val → List Value → Bool
  | [], [] => true
  | v :: vs, u :: us => relK K S v u && relKs K S vs us
  | _, _ => false
end
mutual
theorem relK_ok {D : Wd} {v : Val} {u : Value} (h : relK D.K D.S v u = true) : ∃ y, RelV y u ∧ ∀ n μ H, Rp D n μ H v y := by
  cases v with
  | non => cases u with
    | none => exact ⟨.non, rfl, fun _ _ _ => .non⟩
    | _ => simp [relK] at h
  | bool b => cases u with
    | bool c =>
      have e : b = c := by simpa [relK] using h
      subst e
      exact ⟨.bl b, rfl, fun _ _ _ => .bool b⟩
    | _ => simp [relK] at h
  | int i => cases u with
    | int j t =>
      have e : i = j := by simpa [relK] using h
      subst e
      exact ⟨.int i, ⟨t, rfl⟩, fun _ _ _ => .int i⟩
    | _ => simp [relK] at h
  | str k => cases u with
    | str y t =>
      have e : D.S[k]? = some y := by
        unfold relK at h
        exact of_decide_eq_true h
      exact ⟨.str y, ⟨t, rfl⟩, fun _ _ _ => .str e⟩
    | _ => simp [relK] at h
  | tup l => cases u with
    | ref a =>
      unfold relK at h
      cases q : D.K.lookup a with
      | none => rw [q] at h; cases h
      | some o =>
        obtain ⟨oc, od, dt, osl⟩ := o
        rw [q] at h
        cases oc with
        | type c =>
          cases dt with
          | seq its n =>
            have h : (decide (c = "tuple") && (decide (its.size ≤ sizeLine) && relKs D.K D.S l its.toList)) = true := h
            simp only [Bool.and_eq_true, decide_eq_true_eq] at h
            obtain ⟨h1, h2, h3⟩ := h
            obtain ⟨ys, r1, r2⟩ := relKs_ok h3
            exact ⟨.ref a, rfl, fun n' μ H => .tup (.inr ⟨_, its, _, q, congrArg Value.type h1, rfl, h2, r1⟩) (r2 _ _ _)⟩
          | _ => cases h
        | _ => cases dt <;> cases h
    | _ => simp [relK] at h
  | ref k => cases u <;> simp [relK] at h
theorem relKs_ok {D : Wd} {vs : List Val} {us : List Value} (h : relKs D.K D.S vs us = true) : ∃ ys, Vals ys us ∧ ∀ n μ H, RpAll D n μ H vs ys := by
  cases vs with
  | nil => cases us with
    | nil => exact ⟨[], .nil, fun _ _ _ => .nil⟩
    | cons => simp [relKs] at h
  | cons v vs => cases us with
    | nil => simp [relKs] at h
    | cons u us =>
      unfold relKs at h
      rw [Bool.and_eq_true] at h
      obtain ⟨y, r1, r2⟩ := relK_ok h.1
      obtain ⟨ys, r3, r4⟩ := relKs_ok h.2
      exact ⟨y :: ys, .cons r1 r3, fun n μ H => .cons (r2 n μ H) (r4 n μ H)⟩
end
def gvB (K : PySem.W.Frag) (S : List Str) (x : Str) (v : Val) : Bool := match PySem.W.nsIn K mainGlobals x with
  | some (some u) => relK K S v u
  | _ => false
theorem gvB_ok {S : List Str} {Cn : Nat → Str} {K : PySem.W.Frag} {T : List (Addr × Str)} {h : Heap} {mg : Str → Option Value} (X : K.In h) (G : h.Ns mainGlobals mg) {x : Str} {v : Val} (c : gvB K S x v = true) (L : Option (Nat × Addr × LF)) : GV (mkW S Cn K T L) mg x v := by
  unfold gvB at c
  cases e : PySem.W.nsIn K mainGlobals x with
  | none => rw [e] at c; cases c
  | some o =>
    rw [e] at c
    cases o with
    | none => cases c
    | some u =>
      obtain ⟨y, h1, h2⟩ := relK_ok (D := mkW S Cn K T L) c
      exact ⟨u, y, PySem.W.mg_of X G e, h1, h2⟩
/-! ### code objects and their tables -/
def codeA (K : PySem.W.Frag) (p : Str × Option Str) : Addr := match K.lookup (He.fAd K p) with
  | some ⟨_, _, .func fd, _⟩ => (match fd.code with
    | .ref c => c
    | _ => 0)
  | _ => 0
def tabA (K : PySem.W.Frag) (c : Addr) : Addr := match K.lookup c with
  | some ⟨_, _, .fields vs, _⟩ => (match vs.getD 11 .none with
    | .ref P => P
    | _ => 0)
  | _ => 0
def codeB (K : PySem.W.Frag) (p : Str × Option Str) : Bool := match K.lookup (He.fAd K p) with
  | some ⟨_, _, .func fd, _⟩ => (match fd.code with
    | .ref _ => true
    | _ => false)
  | _ => false
def codeHdB (K : PySem.W.Frag) (c P : Addr) : Bool := match K.lookup c with
  | some ⟨.type n, _, .fields vs, _⟩ => decide (n = "code") && (decide (vs[11]? = some (.ref P)) && ((match vs.getD 11 .none with
      | .ref Q => decide (Q = P)
      | _ => false) && ((match vs.getD 18 .none with
      | .str _ _ => true
      | _ => false) && ((match vs.getD 7 .none with
      | .int _ _ => true
      | _ => false) && ((match vs.getD 9 .none with
      | .bool _ => true
      | _ => false) && ((match vs.getD 10 .none with
      | .int _ _ => true
      | _ => false) && !decide (c = P)))))))
  | _ => false
theorem codeHdB_ok {K : PySem.W.Frag} {h : Heap} (X : K.In h) {c P : Addr} (e : codeHdB K c P = true) : PySem.W.CodeHd h c P := by
  unfold codeHdB at e
  cases q : K.lookup c with
  | none => rw [q] at e; cases e
  | some o =>
    obtain ⟨oc, od, dt, osl⟩ := o
    rw [q] at e
    cases oc with
    | type n =>
      cases dt with
      | fields vs =>
        simp only [Bool.and_eq_true, decide_eq_true_eq, Bool.not_eq_true', decide_eq_false_iff_not] at e
        obtain ⟨h1, h2, h3, h4, h5, h6, h7, h8⟩ := e
        have k3 : vs.getD 11 .none = .ref P := by
          split at h3
          · rename_i Q e3
            rw [e3, of_decide_eq_true h3]
          · cases h3
        cases e4 : vs.getD 18 .none with
        | str a b =>
          cases e5 : vs.getD 7 .none with
          | int i t =>
            cases e6 : vs.getD 9 .none with
            | bool x =>
              cases e7 : vs.getD 10 .none with
              | int j u => exact ⟨_, vs, a, b, i, t, x, j, u, X _ _ q, congrArg Value.type h1, rfl, h2, k3, e4, e5, e6, e7, h8⟩
              | _ => rw [e7] at h7; cases h7
            | _ => rw [e6] at h6; cases h6
          | _ => rw [e5] at h5; cases h5
        | _ => rw [e4] at h4; cases h4
      | _ => cases e
    | _ => cases dt <;> cases e
def emptyB : Option Obj → Bool
  | some ⟨.none, none, .fields vs, sl⟩ => decide (vs.size = 0) && decide (sl.size = 0)
  | _ => false
theorem emptyB_ok {o : Option Obj} (h : emptyB o = true) : o = some { cls := .none, data := .fields #[] } := by
  unfold emptyB at h
  split at h
  · rename_i vs sl
    simp only [Bool.and_eq_true, decide_eq_true_eq] at h
    rw [Array.eq_empty_of_size_eq_zero h.1, Array.eq_empty_of_size_eq_zero h.2]
  · cases h
/-! ### the Hook -/
def obsV (as : List Addr) (ck : PySem.W.Frag → List Bool) (fn : List He.DefD) (lams : List (Str × Option Str)) (g : Addr → Option Obj) : He.AlD :=
  ((ck (He.frG g as)).all id && (fn.all (fun d => d.ok (He.frG g as)) && lams.all fun p => codeB (He.frG g as) p && (codeHdB (He.frG g as) (codeA (He.frG g as) p) (tabA (He.frG g as) (codeA (He.frG g as) p)) && (emptyB (g (tabA (He.frG g as) (codeA (He.frG g as) p))) && (List.lookup (tabA (He.frG g as) (codeA (He.frG g as) p)) (He.frG g as)).isNone))),
    fn.map fun d => He.fnW (He.frG g as) d.at_)
structure SaysV (ck : PySem.W.Frag → List Bool) (fn : List He.DefD) (lams : List (Str × Option Str)) (K : PySem.W.Frag) (h : Heap) : Prop where
  kin : K.In h
  ck : (ck K).all id = true
  fn : ∀ d ∈ fn, d.ok K = true ∧ He.fnW K d.at_ = d.val
  lam : ∀ p ∈ lams, codeB K p = true ∧ codeHdB K (codeA K p) (tabA K (codeA K p)) = true ∧ h.get? (tabA K (codeA K p)) = some { cls := .none, data := .fields #[] } ∧ K.lookup (tabA K (codeA K p)) = none
def hookV (as : List Addr) (ck : PySem.W.Frag → List Bool) (fn : List He.DefD) (lams : List (Str × Option Str)) : PySem.W.Hook where
  α := He.AlD
  obs := fun s => obsV as ck fn lams s.heap.get?
  val := fun _ => He.valD fn
  says := fun _ h => ∃ K : PySem.W.Frag, SaysV ck fn lams K h
  of := fun _ s e => by
    refine ⟨He.frG s.heap.get? as, He.frG_in, ?_, ?_, ?_⟩
    · exact (He.ba (congrArg (fun z : He.AlD => z.1) e)).1
    · have e2 : fn.map (fun d => He.fnW (He.frG s.heap.get? as) d.at_) = fn.map He.DefD.val := congrArg (fun z : He.AlD => z.2) e
      obtain ⟨h1, _⟩ := He.ba (He.ba (congrArg (fun z : He.AlD => z.1) e)).2
      exact fun d hd => ⟨List.all_eq_true.mp h1 d hd, List.map_inj_left.mp e2 d hd⟩
    · obtain ⟨_, h2⟩ := He.ba (He.ba (congrArg (fun z : He.AlD => z.1) e)).2
      intro p hp
      have h3 := List.all_eq_true.mp h2 p hp
      simp only [Bool.and_eq_true] at h3
      obtain ⟨k1, k2, k3, k4⟩ := h3
      exact ⟨k1, k2, emptyB_ok k3, by simpa using k4⟩
  keeps := fun _ _ _ ⟨K, s⟩ k => ⟨K, PySem.W.Frag.In.keeps s.kin k, s.ck, s.fn, fun p hp => let ⟨a, b, c, d⟩ := s.lam p hp; ⟨a, b, k _ _ c, d⟩⟩
theorem obsV_eq {as : List Addr} {ck : PySem.W.Frag → List Bool} {fn : List He.DefD} {lams : List (Str × Option Str)} {g : Addr → Option Obj} {s : Shared} (h : ∀ a, g a = s.heap.get? a) : obsV as ck fn lams g = (hookV as ck fn lams).obs s := by
  have e : g = s.heap.get? := funext h
  rw [e] <;> rfl
section
variable {ck : PySem.W.Frag → List Bool} {fn : List He.DefD} {lams : List (Str × Option Str)} {K : PySem.W.Frag} {h : Heap}
theorem SaysV.at_ (s : SaysV ck fn lams K h) (i : Nat) {b : Bool} (e : (ck K)[i]? = some b) : b = true := List.all_eq_true.mp s.ck b (List.mem_of_getElem? e)
theorem SaysV.def_ (s : SaysV ck fn lams K h) {d : He.DefD} (hd : d ∈ fn) : ∃ fd, FunD K d.name d.qual d.params d.body d.scope (d.dvs K) (d.kws K) (He.fAd K d.at_) fd := He.DefD.funD (s.fn d hd).2 (s.fn d hd).1
/-- the tables, with the names of their code objects -/
def tabsOf (K : PySem.W.Frag) (ls : List ((Str × Option Str) × Str)) : List (Addr × Str) := ls.map fun p => (tabA K (codeA K p.1), p.2)
def apartB (K : PySem.W.Frag) (ls : List ((Str × Option Str) × Str)) : Bool := decide ((tabsOf K ls).map (·.1)).Nodup
theorem nodup_fst {α β : Type} : ∀ {l : List (α × β)}, (l.map (·.1)).Nodup → ∀ {a : α} {b c : β}, (a, b) ∈ l → (a, c) ∈ l → b = c
  | [], _, _, _, _, h, _ => by simp at h
  | p :: l, nd, a, b, c, h1, h2 => by
    obtain ⟨n1, n2⟩ := List.nodup_cons.mp (show (p.1 :: l.map (·.1)).Nodup from nd)
    rcases List.mem_cons.mp h1 with e1 | h1
    · rcases List.mem_cons.mp h2 with e2 | h2
      · rw [← e1] at e2; exact (Prod.mk.inj e2).2.symm
      · exact absurd (List.mem_map.mpr ⟨(a, c), h2, by rw [← e1]⟩) n1
    · rcases List.mem_cons.mp h2 with e2 | h2
      · exact absurd (List.mem_map.mpr ⟨(a, b), h1, by rw [← e2]⟩) n1
      · exact nodup_fst n2 h1 h2
/-- a def that makes a lambda -/
theorem lam_fact (s : SaysV ck fn lams K h) {d : He.DefD} {q : Str} {ls : List ((Str × Option Str) × Str)} {base : Heap} {mg : Str → Option Value} (hd : d ∈ fn) (hl : d.at_ ∈ lams) (hq : (d.at_, q) ∈ ls) (hap : apartB K ls = true)
    (TB : ∀ p ∈ lams, LamX.TabB base mg (codeA K p) (tabA K (codeA K p))) :
    ∃ fd c P, FunD K d.name d.qual d.params d.body d.scope (d.dvs K) (d.kws K) (He.fAd K d.at_) fd ∧ fd.code = .ref c ∧ LamX.TabB base mg c P ∧ (P, q) ∈ tabsOf K ls ∧ ∀ p ∈ tabsOf K ls, p.1 = P → p.2 = q := by
  obtain ⟨fd, F⟩ := s.def_ hd
  obtain ⟨k1, k2, k3, k4⟩ := s.lam _ hl
  have hm : (tabA K (codeA K d.at_), q) ∈ tabsOf K ls := List.mem_map.mpr ⟨(d.at_, q), hq, rfl⟩
  refine ⟨fd, codeA K d.at_, tabA K (codeA K d.at_), F, ?_, TB _ hl, hm, fun p hp e => ?_⟩
  · obtain ⟨oc, od, dV, kV, doc, pm, an', cdv, ct, osl, e, lk, _⟩ := F.ex
    unfold codeB at k1
    unfold codeA
    rw [lk] at k1 ⊢
    have k1 : (match fd.code with | .ref _ => true | _ => false) = true := k1
    show fd.code = .ref (match fd.code with | .ref c => c | _ => 0)
    cases hc : fd.code with
    | ref c => rfl
    | _ => rw [hc] at k1; cases k1
  · have : (tabA K (codeA K d.at_), p.2) ∈ tabsOf K ls := by rw [← e]; exact hp
    exact nodup_fst (of_decide_eq_true hap) this hm
end
/-! ### facts from looks -/
def cfB (K : PySem.W.Frag) (Cn : Nat → Str) (cs : List Nat) (z : Str) : Bool := cs.all fun c => (He.Fa.cls (Cn c)).ok K && (He.Fa.noat (Cn c) z).ok K
theorem cf_of {S : List Str} {Cn : Nat → Str} {K : PySem.W.Frag} {T : List (Addr × Str)} {cs : List Nat} {f : Nat} {z : Str} (hz : S[f]? = some z) (h : cfB K Cn cs z = true) (L : Option (Nat × Addr × LF)) : CF (mkW S Cn K T L) cs f z :=
  ⟨hz, fun c hc => by
    obtain ⟨h1, h2⟩ := He.ba (List.all_eq_true.mp h c hc)
    exact ⟨He.cls_ok h1, He.noat_ok h2⟩⟩
def kfW (q : Value → Option Bool) (K : PySem.W.Frag) (Cn : Nat → Str) (cs : List Nat) (ty : Ty) : Bool :=
  (["NoneType", "bool", "int", "str", "tuple", "list", "dict"].all fun T => decide (q (.type T) = some (inB ty T))) && cs.all fun c => decide (q (.ref (He.ga K (Cn c))) = some (VI.insB ty c)) && insK K (Cn c)
theorem kf_of {S : List Str} {Cn : Nat → Str} {K : PySem.W.Frag} {T : List (Addr × Str)} {q : Value → Option Bool} {cs : List Nat} {ty : Ty} (h : kfW q K Cn cs ty = true) (L : Option (Nat × Addr × LF)) : KF (mkW S Cn K T L) cs ty q := by
  unfold kfW at h
  obtain ⟨h1, h2⟩ := He.ba h
  refine ⟨fun T hT => of_decide_eq_true (List.all_eq_true.mp h1 T hT), fun d hd => ?_, fun d hd => ?_⟩
  · exact of_decide_eq_true (He.ba (List.all_eq_true.mp h2 d hd)).1
  · exact insK_ok rfl (He.ba (List.all_eq_true.mp h2 d hd)).2
theorem FunD_uniq {K : PySem.W.Frag} {x x' q q' : Str} {pa pa' : Arguments} {b b' : List Stmt} {sc sc' : Scope} {dv dv' : List V} {kw kw' : List (Str × V)} {f : Addr} {fd fd' : FuncData} (F : FunD K x q pa b sc dv kw f fd) (F' : FunD K x' q' pa' b' sc' dv' kw' f fd') : fd = fd' := by
  obtain ⟨_, _, _, _, _, _, _, _, _, _, _, lk, _⟩ := F.ex
  obtain ⟨_, _, _, _, _, _, _, _, _, _, _, lk', _⟩ := F'.ex
  rw [lk] at lk'
  cases lk'
  rfl
/-! ### the law's end -/
theorem mem_tabs {K : PySem.W.Frag} {ls : List ((Str × Option Str) × Str)} {p : Addr × Str} (h : p ∈ tabsOf K ls) : ∃ x ∈ ls, p = (tabA K (codeA K x.1), x.2) := by
  obtain ⟨x, hx, e⟩ := List.mem_map.mp h
  exact ⟨x, hx, e.symm⟩
/-- no list stands in the written part -/
def noListB (K : PySem.W.Frag) : Bool := K.all fun p => match p.2.cls with
  | .type n => !decide (n = "list")
  | _ => true
theorem look_mem {α : Type} : ∀ {l : List (Nat × α)} {a : Nat} {o : α}, l.lookup a = some o → (a, o) ∈ l
  | [], _, _, h => by cases h
  | (b, u) :: r, a, o, h => by
    rw [List.lookup_cons] at h
    cases e : a == b with
    | true =>
      rw [e] at h
      cases h
      rw [beq_iff_eq.mp e]
      exact List.mem_cons_self
    | false =>
      rw [e] at h
      exact List.mem_cons_of_mem _ (look_mem h)
theorem noList_ok {K : PySem.W.Frag} (h : noListB K = true) {a : Addr} {o : Obj} (e : K.lookup a = some o) : o.cls ≠ .type "list" := fun z => by
  have hm : (a, o) ∈ K := look_mem e
  have q := List.all_eq_true.mp h _ hm
  simp only at q
  rw [z] at q
  simp at q
theorem law_sp {K : PySem.W.Frag} {ls : List ((Str × Option Str) × Str)} {S : List Str} {Cn : Nat → Str} {F : Fn} {ns : List Int} {H : Hp} {a : Addr} (nl : noListB K = true) (hT : ∀ p ∈ ls.map (·.1), H (tabA K (codeA K p)) = some (.tbl #[])) (hS : SqL K H a (ns.map V.int))
    (law : ∀ o : Ob, o = .lst (ns.map .int) ∨ o = .frz (ns.map .int) → ∃ st, F [.ref 0] [o] = .ok (.v (.bool true)) st) : spF (mkW S Cn K (tabsOf K ls) none) 1 F [.ref a] H (fun v _ => v = .bl true) fun _ _ _ => False := by
  have rp : RpAll (mkW S Cn K (tabsOf K ls) none) 1 (fun _ => a) H (ns.map .int) (ns.map V.int) := by
    clear law hS
    induction ns with
    | nil => exact .nil
    | cons i r ih => exact .cons (.int i) ih
  have fin : ∀ o : Ob, (o = .lst (ns.map .int) ∨ o = .frz (ns.map .int)) → ObR (mkW S Cn K (tabsOf K ls) none) 1 (fun _ => a) H a o → spF (mkW S Cn K (tabsOf K ls) none) 1 F [.ref a] H (fun v _ => v = .bl true) fun _ _ _ => False := fun o ho hr => by
    obtain ⟨st, hf⟩ := law o ho
    refine ⟨rfl, 1, fun _ => a, [o], [.ref 0], _, st, ⟨rfl, fun i j hi hj _ => by omega, fun k o' e => ?_, fun p hp => ?_, fun _ _ _ e => by cases e⟩, .cons (Rp.ref (μ := fun _ => a) Nat.one_pos) .nil, hf, fun n' μ' H' y ok' l' r' f' => ?_⟩
    · cases k with
      | zero => cases e; exact hr
      | succ k => simp at e
    · obtain ⟨x, hx, rfl⟩ := mem_tabs hp
      exact LamX.TabS.nil (hT x.1 (List.mem_map.mpr ⟨x, hx, rfl⟩))
    · cases r'
      rfl
  rcases hS with (h | ⟨o, h⟩) | ⟨o, its, n, h1, h2, _⟩
  · exact fin _ (.inl rfl) ⟨_, h, rp⟩
  · exact fin _ (.inr rfl) ⟨o, _, h, rp⟩
  · exact absurd h2 (noList_ok nl h1)
theorem walkV {l : PySem.W.OpenLaw} {n k : Nat} {q : Program} {loose : List Str} {XP : (Str → Option Value) → Heap → Prop} {d : DefRec} {as : List Addr} {ck : PySem.W.Frag → List Bool} {fn : List He.DefD} {ls : List ((Str × Option Str) × Str)} {S : List Str} {Cn : Nat → Str} {F : Fn} {x : Str}
    (hn : l.most = some n) (hn2 : n ≤ sizeLine) (hdf : d.params.defaults = []) (hr : Room k callerA) (hnl : ∀ K, (ck K)[0]? = some (noListB K))
    (hfd : ∀ (w : World) (mg : Str → Option Value) (fa : Addr) (h : Heap) (K : PySem.W.Frag), SaysV ck fn (ls.map (·.1)) K h → h.Ns mainGlobals mg → mg d.name = some (.ref fa) → ∃ fd : FuncData, (∀ (s : Shared) (u : Value), BindsTo s fd ⟨[u], []⟩ [(x, u)]) ∧
      ∀ base, (∀ p ∈ ls.map (·.1), LamX.TabB base mg (codeA K p) (tabA K (codeA K p))) → FnOk l.prog w K mg base C8.CX0 k fa fd [x] (spF (mkW S Cn K (tabsOf K ls) none) 1 F))
    (law : ∀ ns : List Int, ns.length ≤ n → (∀ z ∈ ns, Builtin.Int.intBits z ≤ 1048576) → ∀ o : Ob, o = .lst (ns.map .int) ∨ o = .frz (ns.map .int) → ∃ st, F [.ref 0] [o] = .ok (.v (.bool true)) st) :
    PySem.W.WalkO q loose XP (hookV as ck fn (ls.map (·.1))).says l.row.toRowW d [] (fun f vs => PySem.call f vs) := by
  refine Att.attach_callB hn hdf fun w s₀ s₁ mg mb fa o pm cd doc a vs ns G Y ho hd hcd hmg hobj hints hlen hbits hg => ?_
  obtain ⟨K, Y⟩ := Y
  obtain ⟨fd, hb, hF⟩ := hfd w mg fa _ K Y G.T.g hmg
  have hcs : ∀ {R : Addr × Addr → Prop}, (∀ p ∈ ls.map (·.1), R (codeA K p, tabA K (codeA K p))) → ∀ p ∈ ls.map (fun p => (codeA K p.1, tabA K (codeA K p.1))), R p := fun {R} hR p hp => by
    obtain ⟨x, hx, rfl⟩ := List.mem_map.mp hp
    exact hR x.1 (List.mem_map.mpr ⟨x, hx, rfl⟩)
  refine LamX.law_callTs (cs := ls.map fun p => (codeA K p.1, tabA K (codeA K p.1))) (CX := C8.CX0) Y.kin G.T.g G.T.b G.T.builtins G.T.nolimit hg
    (hcs (R := fun p => s₁.heap.get? p.2 = some { cls := .none, data := .fields #[] }) fun p hp => (Y.lam p hp).2.2.1) (hcs (R := fun p => K.lookup p.2 = none) fun p hp => (Y.lam p hp).2.2.2) (hcs (R := fun p => PySem.W.CodeHd s₁.heap p.1 p.2) fun p hp => codeHdB_ok Y.kin (Y.lam p hp).2.1)
    G.T.bmain hobj hints (Nat.le_trans hlen hn2) hr (fun base _ _ TB => hF base fun p hp => ?_) hb (fun H hH hS => law_sp (Y.at_ 0 (hnl K)) (fun p hp => ?_) hS (law ns hlen hbits)) fun H e s' h => h
  · obtain ⟨x, hx, rfl⟩ := List.mem_map.mp hp
    exact TB _ (List.mem_map.mpr ⟨x, hx, rfl⟩)
  · obtain ⟨x, hx, rfl⟩ := List.mem_map.mp hp
    exact hH _ (List.mem_map.mpr ⟨x, hx, rfl⟩)
end VI
end
section
set_option Elab.async false
set_option linter.all false
set_option maxRecDepth 100000
set_option maxHeartbeats 4000000
/-! VI15: dicts whose keys are tuples of ints. -/
namespace VI
open PySem PySem.Spec PyProof.Rows L2
theorem u1 {k : Nat} {A : Around} (r : Room k A) : A.units + 1 < cLine := by have := u64 r; omega
/-- a key: a new tuple of ints -/
def rKy (D : Wd) (f : Ek) : TE := fun σ H Q => ∃ n μ ρ st k st', Ok D n μ H st ∧ EnvR D n μ H ρ σ ∧ f ρ st = .ok k st' ∧ ∀ n' μ' H' b, Ok D n' μ' H' st' → Le n μ H n' μ' H' → H' b = some (.tup (k.map V.int)) → Q (.ref b) H'
abbrev SKy (X : Cx) (D : Wd) (e : Expr) (f : Ek) : Prop := PE X e (rKy D f)
theorem intsq_rp {D : Wd} {n : Nat} {μ : Nat → Addr} {H : Hp} : ∀ {xs : List Val} {ys : List V} {k : List Int}, ints? xs = some k → RpAll D n μ H xs ys → ys = k.map V.int
  | [], _, _, e, r => by cases r; cases e; rfl
  | x :: l, _, _, e, r => by
    cases r with
    | cons h r =>
      cases x with
      | int i =>
        unfold ints? at e
        obtain ⟨k', e1, rfl⟩ := Option.map_eq_some_iff.mp e
        rw [intsq_rp e1 r]
        cases h
        rfl
      | _ => cases e
theorem inl_inj {a b : List Int} (h : a.map (Sum.inl : Int → Key) = b.map Sum.inl) : a = b := (List.map_inj_right (fun _ _ h => Sum.inl.inj h)).mp h
theorem kv_map (k : List Int) : (k.map (Sum.inl : Int → Key)).map kV = k.map V.int := by
  rw [List.map_map]
  exact List.map_congr_left fun _ _ => rfl
section
variable {D : Wd} {n : Nat} {μ : Nat → Addr} {H : Hp}
theorem KvR.there {k : List Int} : ∀ {kvs : List (List Int × Val)} {ks : List (List Key × V)} {x : Val}, KvR D n μ H kvs ks → kvs.lookup k = some x → ∃ y, valV ks (k.map Sum.inl) = some y ∧ Rp D n μ H x y
  | _, _, _, .nil, e => by cases e
  | _, _, x, .cons (k := g) (x := z) h' r, e => by
    by_cases hg : k = g
    · subst hg
      simp only [List.lookup_cons, beq_self_eq_true, Option.some.injEq] at e
      subst e
      exact ⟨_, valV_pos rfl, h'⟩
    · have e1 : (k == g) = false := beq_eq_false_iff_ne.mpr hg
      simp only [List.lookup_cons, e1] at e
      obtain ⟨y, h1, h2⟩ := KvR.there r e
      exact ⟨y, by rw [valV_neg fun q => hg (inl_inj q).symm]; exact h1, h2⟩
theorem KvR.miss {k : List Int} : ∀ {kvs : List (List Int × Val)} {ks : List (List Key × V)}, KvR D n μ H kvs ks → kvs.lookup k = none → valV ks (k.map Sum.inl) = none
  | _, _, .nil, e => rfl
  | _, _, .cons (k := g) (x := z) h' r, e => by
    by_cases hg : k = g
    · subst hg
      simp only [List.lookup_cons, beq_self_eq_true] at e
      cases e
    · have e1 : (k == g) = false := beq_eq_false_iff_ne.mpr hg
      simp only [List.lookup_cons, e1] at e
      rw [valV_neg fun q => hg (inl_inj q).symm]
      exact KvR.miss r e
theorem KvR.isSome {k : List Int} {kvs : List (List Int × Val)} {ks : List (List Key × V)} (r : KvR D n μ H kvs ks) : (valV ks (k.map Sum.inl)).isSome = (kvs.lookup k).isSome := by
  cases e : kvs.lookup k with
  | none => rw [r.miss e] <;> rfl
  | some x =>
    obtain ⟨y, h, _⟩ := r.there e
    rw [h] <;> rfl
theorem KvR.length : ∀ {kvs : List (List Int × Val)} {ks : List (List Key × V)}, KvR D n μ H kvs ks → kvs.length = ks.length
  | _, _, .nil => rfl
  | _, _, .cons _ r => congrArg (· + 1) r.length
theorem KvR.any {k : List Int} : ∀ {kvs : List (List Int × Val)} {ks : List (List Key × V)}, KvR D n μ H kvs ks → (ks.any fun kv => decide (kv.1 = k.map Sum.inl)) = kvs.any fun kv => decide (kv.1 = k)
  | _, _, .nil => rfl
  | _, _, .cons (k := g) h' r => by
    rw [List.any_cons, List.any_cons, KvR.any r]
    congr 1
    by_cases hg : g = k
    · subst hg; simp
    · rw [decide_eq_false hg]
      exact decide_eq_false fun q => hg (inl_inj q)
theorem KvR.repl {k : List Int} {v : Val} {y : V} (hv : Rp D n μ H v y) : ∀ {kvs : List (List Int × Val)} {ks : List (List Key × V)}, KvR D n μ H kvs ks → KvR D n μ H (kvs.map fun kv => if kv.1 = k then (kv.1, v) else kv) (ks.map fun kv => if kv.1 = k.map Sum.inl then (kv.1, y) else kv)
  | _, _, .nil => .nil
  | _, _, .cons (k := g) h' r => by
    rw [List.map_cons, List.map_cons]
    by_cases hg : g = k
    · subst hg
      rw [if_pos rfl, if_pos rfl]
      exact .cons hv (KvR.repl hv r)
    · rw [if_neg hg, if_neg fun q => hg (inl_inj q)]
      exact .cons h' (KvR.repl hv r)
theorem KvR.snoc {k : List Int} {v : Val} {y : V} (hv : Rp D n μ H v y) : ∀ {kvs : List (List Int × Val)} {ks : List (List Key × V)}, KvR D n μ H kvs ks → KvR D n μ H (kvs ++ [(k, v)]) (ks ++ [(k.map Sum.inl, y)])
  | _, _, .nil => .cons hv .nil
  | _, _, .cons h' r => .cons h' (KvR.snoc hv r)
theorem KvR.put {k : List Int} {v : Val} {y : V} (hv : Rp D n μ H v y) {kvs : List (List Int × Val)} {ks : List (List Key × V)} (r : KvR D n μ H kvs ks) : KvR D n μ H (putKs k v kvs) (L2.putK ks (k.map Sum.inl) y) := by
  unfold putKs L2.putK
  rw [r.any]
  by_cases h : (kvs.any fun kv => decide (kv.1 = k)) = true
  · rw [if_pos h, if_pos h]; exact r.repl hv
  · rw [if_neg h, if_neg h]; exact r.snoc hv
theorem refK_ok {st : Store} {t : Tv} {y : V} {j : Nat} {kvs : List (List Int × Val)} (ok : Ok D n μ H st) (r : Rt D n μ H t y) (e : refK t st = some (j, kvs)) : t = .v (.ref j) ∧ y = .ref (μ j) ∧ j < n ∧ st[j]? = some (.dct kvs) ∧ ∃ ks, H (μ j) = some (.dT ks) ∧ KvR D n μ H kvs ks := by
  cases t with
  | l _ => cases e
  | v x =>
    cases x with
    | ref k =>
      cases r with
      | ref hk =>
        unfold refK at e
        cases h : st[k]? with
        | none => simp [h] at e
        | some o =>
          cases o with
          | dct m =>
            simp only [h, Option.some.injEq, Prod.mk.injEq] at e
            obtain ⟨rfl, rfl⟩ := e
            exact ⟨rfl, rfl, hk, h, ok.ob k _ h⟩
          | _ => simp [h] at e
    | _ => cases e
end
section
variable {X : Cx} {D : Wd} {e o d value eh : Expr} {fe fo fd : Ev} {k : Ek} {pos p p2 : Pos}
theorem k_cut [C : Cok X D] {hi : Int} (he : SE X D e fe) (hh : SO X D (some eh) (some (eC (.int hi)))) : SKy X D (.Subscript e (.Slice none (some eh) none p2) pos) (eKey fe hi) :=
  PE_imp (pe_slice sl_tupA he o_none hh) fun σ H Q ⟨n, μ, ρ, st, k, st', ok, er, hf, an⟩ => by
    obtain ⟨t, s1, h1, hf⟩ := bind_eq_ok hf
    cases t with
    | l _ => cases hf
    | v x =>
      cases x with
      | tup xs =>
        refine ⟨n, μ, ρ, st, .v (.tup xs), s1, ok, er, h1, fun n1 μ1 H1 y1 ok1 l1 r1 f1 => ⟨n1, μ1, ρ, s1, none, s1, ok1, er.mono l1, rfl, fun n2 μ2 H2 ok2 l2 => ⟨n2, μ2, ρ, s1, some hi, s1, ok2, er.mono (l1.trans l2), rfl, fun n3 μ3 H3 ok3 l3 => ?_⟩⟩⟩
        have r3 := (r1.mono l2).mono l3
        by_cases hl : (VI.cutV xs none (some hi)).length < xs.length
        · simp only [if_pos hl] at hf
          cases hi' : ints? (VI.cutV xs none (some hi)) with
          | none => simp only [hi'] at hf; cases hf
          | some k' =>
            simp only [hi'] at hf
            cases hf
            cases r3 with
            | tup h q =>
              refine ⟨_, _, rfl, by rw [C.hK]; exact h.sq, fun hw => absurd hl ?_, fun _ p hp => ?_⟩
              · have e1 : VI.cutV xs none (some hi) = xs := by
                  unfold VI.cutV
                  rw [sIx_eq, sIx_eq, q.length, hw.1, hw.2, List.drop_zero, ← q.length, Nat.sub_zero, List.take_length]
                rw [e1]
                exact Nat.lt_irrefl _
              · have e2 := intsq_rp hi' (cut_ok none (some hi) q)
                obtain ⟨ok4, l4⟩ := ok3.upd (u := .tup (L2.cutV _ none (some hi))) hp
                refine an n3 μ3 _ p ok4 (l1.trans (l2.trans (l3.trans l4))) ?_
                rw [upd_same, e2]
        · simp only [if_neg hl] at hf; cases hf
      | _ => cases hf
theorem key_dget {H : Hp} {a b : Addr} {ks : List (List Key × V)} {k : List Int} (e : H a = some (.dT ks)) (eb : H b = some (.tup (k.map V.int))) : DGet H a (.ref b) (valV ks (k.map Sum.inl)) := .t e (by rw [kv_map]; exact eb)
/-- e[:2] in d -/
theorem kd_rd {σ : L2.St} {H : Hp} {Q : VK} {g : Bool → Bool} (h : ∃ n μ ρ st z st', Ok D n μ H st ∧ EnvR D n μ H ρ σ ∧ ((k ρ st).bind fun k s => (fd ρ s).bind fun t s => match refK t s with
      | some (_, kvs) => .ok (.v (.bool (g (kvs.lookup k).isSome))) s
      | none => .bad) = Res.ok z st' ∧ Ans D n μ H z st' Q) : rKy D k σ H fun y H1 => rE D fd σ H1 fun x H2 => ∃ a o, x = .ref a ∧ DGet H2 a y o ∧ Q (.bl (g o.isSome)) H2 := by
  obtain ⟨n, μ, ρ, st, z, st', ok, er, hf, an⟩ := h
  obtain ⟨k', s1, h1, hf⟩ := bind_eq_ok hf
  obtain ⟨t, s2, h2, hf⟩ := bind_eq_ok hf
  refine ⟨n, μ, ρ, st, k', s1, ok, er, h1, fun n1 μ1 H1 b ok1 l1 hb => ⟨n1, μ1, ρ, s1, t, s2, ok1, er.mono l1, h2, fun n2 μ2 H2 x ok2 l2 r2 f2 => ?_⟩⟩
  cases h3 : refK t s2 with
  | none => simp only [h3] at hf; cases hf
  | some pr =>
    obtain ⟨j, kvs⟩ := pr
    simp only [h3] at hf
    cases hf
    obtain ⟨rfl, rfl, hj, h4, ks, h5, h6⟩ := refK_ok ok2 r2 h3
    refine ⟨_, _, rfl, key_dget h5 (l2.tup _ _ hb), ?_⟩
    rw [h6.isSome]
    exact ans_v (an.le (l1.trans l2)) ok2 (.bool _)
theorem e_din (hu : X.A.units + 1 < cLine) (hi : SKy X D e k) (ho : SE X D d fd) (hm : behindInMarks .In d = false := by rfl) : SE X D (.Compare e [.In] [d] pos) (eDIn k fd) := PE_imp (pe_cmp (pc_din hu hi ho) hm) fun σ H Q h => kd_rd (g := fun b => b) h
theorem e_dnotIn (hu : X.A.units + 1 < cLine) (hi : SKy X D e k) (ho : SE X D d fd) (hm : behindInMarks .NotIn d = false := by rfl) : SE X D (.Compare e [.NotIn] [d] pos) (eDNotIn k fd) := PE_imp (pe_cmp (pc_dnotin hu hi ho) hm) fun σ H Q h => kd_rd (g := not) h
theorem dB_rd {fz : Ev} {σ : L2.St} {H : Hp} {Q : Bool → Hp → Prop} (h : rT D (VI.tB fz) σ H Q) : rE D fz σ H fun y H' => ∃ b, y = .bl b ∧ Q b H' := by
  obtain ⟨n, μ, ρ, st, b, st', ok, er, hf, an⟩ := h
  obtain ⟨x, s1, h1, hf⟩ := bind_eq_ok hf
  refine ⟨n, μ, ρ, st, x, s1, ok, er, h1, fun n1 μ1 H1 y1 ok1 l1 r1 f1 => ?_⟩
  cases x with
  | l _ => cases hf
  | v x =>
    cases x with
    | bool i => cases hf; cases r1; exact ⟨_, rfl, an n1 μ1 H1 ok1 l1⟩
    | _ => cases hf
theorem t_din (hu : X.A.units + 1 < cLine) (hi : SKy X D e k) (ho : SE X D d fd) (hm : behindInMarks .In d = false := by rfl) : ST X D (.Compare e [.In] [d] pos) (VI.tB (eDIn k fd)) := PT_imp (pt_cmp (pc_din hu hi ho) hm) fun σ H Q h => kd_rd (g := fun b => b) (dB_rd h)
theorem t_dnotIn (hu : X.A.units + 1 < cLine) (hi : SKy X D e k) (ho : SE X D d fd) (hm : behindInMarks .NotIn d = false := by rfl) : ST X D (.Compare e [.NotIn] [d] pos) (VI.tB (eDNotIn k fd)) := PT_imp (pt_cmp (pc_dnotin hu hi ho) hm) fun σ H Q h => kd_rd (g := not) (dB_rd h)
theorem e_dget (hu : X.A.units + 1 < cLine) (ho : SE X D d fd) (hi : SKy X D e k) (hs : NoSl e) : SE X D (.Subscript d e pos) (eDGet fd k) := PE_imp (pe_dget hu ho hi hs) fun σ H Q ⟨n, μ, ρ, st, z, st', ok, er, hf, an⟩ => by
  obtain ⟨t, s1, h1, hf⟩ := bind_eq_ok hf
  obtain ⟨k', s2, h2, hf⟩ := bind_eq_ok hf
  refine ⟨n, μ, ρ, st, t, s1, ok, er, h1, fun n1 μ1 H1 x ok1 l1 r1 f1 => ⟨n1, μ1, ρ, s1, k', s2, ok1, er.mono l1, h2, fun n2 μ2 H2 b ok2 l2 hb => ?_⟩⟩
  cases h3 : refK t s2 with
  | none => simp only [h3] at hf; cases hf
  | some pr =>
    obtain ⟨j, kvs⟩ := pr
    simp only [h3] at hf
    cases h4 : kvs.lookup k' with
    | none => simp only [h4] at hf; cases hf
    | some w =>
      simp only [h4] at hf
      cases hf
      obtain ⟨rfl, rfl, hj, h5, ks, h6, h7⟩ := refK_ok ok2 (r1.mono l2) h3
      obtain ⟨y, h8, h9⟩ := h7.there h4
      exact ⟨_, y, rfl, by rw [← h8]; exact key_dget h6 hb, ans_v (an.le (l1.trans l2)) ok2 h9⟩
theorem s_dset (hu : X.A.units + 1 < cLine) (ho : SE X D d fd) (hi : SKy X D e k) (hv : SE X D value fe) (hs : swapsWith value (some (.Subscript d e p)) pos.line X.env = pure false := by rfl) : SS X D (.Assign [.Subscript d e p] value pos) (sDSet fd k fe) :=
  PS_imp (ps_dput hu ho hi hv hs) fun E σ H ⟨n, μ, ρ, st, r, st', ok, er, hf, q⟩ => by
    obtain ⟨t, s1, h1, hf⟩ := bind_eq_ok hf
    obtain ⟨y, s2, h2, hf⟩ := bind_eq_ok hf
    obtain ⟨x, s3, h3, hf⟩ := bind_eq_ok hf
    obtain ⟨k', s4, h4, hf⟩ := bind_eq_ok hf
    refine ⟨n, μ, ρ, st, t, s1, ok, er, h1, fun n1 μ1 H1 y1 ok1 l1 r1 f1 => ?_⟩
    obtain ⟨n2, μ2, ok2, l2, r2, tr, hn, hm⟩ := mat_ok h2 ok1 l1 r1 f1
    refine ⟨n2, μ2, ρ, s2, x, s3, ok2, er.mono l2, h3, fun n3 μ3 H3 x3 ok3 l3 r3 f3 => ⟨n3, μ3, ρ, s3, k', s4, ok3, er.mono (l2.trans l3), h4, fun n4 μ4 H4 b ok4 l4 hb => ?_⟩⟩
    cases h5 : refK x s4 with
    | none => simp only [h5] at hf; cases hf
    | some pr =>
      obtain ⟨j, kvs⟩ := pr
      simp only [h5] at hf
      by_cases hl : kvs.length < LIM
      · rw [if_pos hl] at hf
        cases hf
        obtain ⟨rfl, rfl, hj, h6, ks, h7, h8⟩ := refK_ok ok4 (r3.mono l4) h5
        refine ⟨_, _, rfl, DPut.t (k := k'.map Sum.inl) h7 (by rw [kv_map]; exact hb) (by rw [← h8.length, sizeLine_eq]; exact hl), ?_⟩
        have ry := (r2.mono l3).mono l4
        have ob5 : ObR D n4 μ4 (L2.upd H4 (μ4 j) (.dT (L2.putK ks (k'.map Sum.inl) y1))) (μ4 j) (.dct (putKs k' y kvs)) := by
          refine ⟨_, upd_same, (h8.put ry).mono (Nat.le_refl _) (fun _ _ => rfl) fun a xs ha => ?_⟩
          rw [upd_ne (ne_of ha h7 (fun z => nomatch z))]
          exact ha
        obtain ⟨ok5, l5⟩ := ok4.set hj ob5
        exact q n4 μ4 _ σ ok5 (l2.trans (l3.trans (l4.trans l5))) (er.mono (l2.trans (l3.trans (l4.trans l5))))
      · rw [if_neg hl] at hf; cases hf
/-- x = {} -/
theorem s_dict [C : Cok X D] {i : Nat} {x : Str} (hi : X.N[i]? = some x) (hx : Loc X.env.scope x) (hs : swapsWith (.Dict [] [] p2) (some (.Name x p)) pos.line X.env = pure false := by rfl) (hf : X.fn x = true ∨ X.env.scope.names.lookup x = some .local := by first | exact .inl rfl | exact .inr rfl | assumption) :
    SS X D (.Assign [.Name x p] (.Dict [] [] p2) pos) (sDict i) := PS_imp (ps_set C.nd hi hx pe_dnewT hs hf) fun E σ H ⟨n, μ, ρ, st, r, st', ok, er, hf, q⟩ => by
  cases hf
  refine fun a ha => ?_
  obtain ⟨ok1, l1⟩ := ok.upd (u := .dT []) ha
  have ok2 : Ok D (n + 1) (fun k => if k = n then a else μ k) (upd H a (.dT [])) (st ++ [.dct []]) := ok1.map (ok.fresh ha) ⟨[], upd_same, .nil⟩
  have l2 := l1.map ha
  have r2 : Rp D (n + 1) (fun k => if k = n then a else μ k) (upd H a (.dT [])) (.ref n) (.ref a) := by
    have q : Rp D (n + 1) (fun k => if k = n then a else μ k) (upd H a (.dT [])) (.ref n) (.ref ((fun k => if k = n then a else μ k) n)) := .ref (Nat.lt_succ_self n)
    simp only [if_pos] at q
    exact q
  rw [ok.len] at q
  exact nameG (D := D) ⟨n + 1, _, ρ, st ++ [.dct []], .ref n, _, _, ok2, er.mono l2, r2, rfl, fun n3 μ3 H3 σ3 ok3 l3 er3 _ => q n3 μ3 H3 σ3 ok3 (l2.trans l3) er3⟩
end
end VI
end
section
set_option Elab.async false
set_option linter.all false
set_option maxRecDepth 100000
set_option maxHeartbeats 4000000
/-! VI19: a list taken apart. -/
namespace VI
open PySem PySem.Spec PyProof.Rows L2
section
variable {X : Cx} {D : Wd} {pos : Pos}
theorem g_L [C : Cok X D] {is : List Nat} {es : List Expr} {k : Nat} (h : PGs X es (rGs D is)) (hn : (assignEach es X.env).length = is.length := by rfl) (hst : (assignEach es X.env).findIdx? (·.1) = none := by rfl) : SG X D (.Tuple es k pos) is (gL is) :=
  PG_imp (pg_unl C.calm h hn hst) fun v σ H Q ⟨n, μ, ρ, st, x, ρ', st', ok, er, rx, hg, q⟩ => by
    unfold gL at hg
    cases h1 : lstOf (.v x) st with
    | none => rw [h1] at hg; cases hg
    | some xs =>
      rw [h1] at hg
      cases h2 : setAll is xs ρ with
      | none => simp only [h2] at hg; cases hg
      | some ρ2 =>
        simp only [h2] at hg
        cases hg
        obtain ⟨a, ys, e, ha, ra⟩ := lstOf_ok (t := .v x) ok rx h1
        subst e
        exact ⟨a, ys, rfl, by rw [C.hK]; exact SqL.of ha, by rw [← ra.length]; exact setAll_len h2, n, μ, ρ, st, xs, ρ', ok, er, ra, h2, fun σ' er' w => q n μ H σ' ok (Le.refl _ _ _) er' w⟩
end
end VI
end
section
set_option Elab.async false
set_option linter.all false
set_option maxRecDepth 100000
set_option maxHeartbeats 4000000
/-! VI20: properties of an own class, and len by an own __len__. -/
namespace VI
open PySem PySem.Spec PyProof.Rows L2
structure PropM (P : Program) (w : World) (K : PySem.W.Frag) (mg : Str → Option Value) (base : Heap) (D : Wd) (k : Nat) (c m : Nat) (z : Str) (F : Fn) : Prop where
  ex : ∃ p f fd ps, Cls K (D.C c) ∧ L2.PropOf K (D.C c) z p f ∧ L2.Binds K fd ps [] ∧ FnOk P w K mg base C8.CX0 k f fd ps (spF D 1 F)
  nm : D.S[m]? = some z
structure LenM (P : Program) (w : World) (K : PySem.W.Frag) (mg : Str → Option Value) (base : Heap) (D : Wd) (k : Nat) (c : Nat) (F : Fn) : Prop where
  ex : ∃ f fd ps, PySem.W.findIn K (.ref (D.C c)) "__len__" = some (some (.ref f)) ∧ PySem.W.isFn K (.ref f) = true ∧ L2.Binds K fd ps [] ∧ FnOk P w K mg base C8.CX0 k f fd ps (spF D 1 F)
section
variable {X : Cx} {D : Wd} {o e : Expr} {fe : Ev} {pos p : Pos} {k : Nat} {x : Str} {F : Fn}
theorem e_prop [W : Wok D] {c m : Nat} {z : Str} (d : PropM X.prog X.w X.K X.mg X.base D k c m z F) (hr : Room (k + 1) X.A) (ho : SE X D o fe)
    (hb : attributeBase o z X.env (eval o X.env) = eval o X.env := by rfl) : SE X D (.Attribute o z pos) (eMeth c m F fe aNil) := by
  obtain ⟨pa, f, fd, ps, h1, h2, h3, h4⟩ := d.ex
  refine PE_imp (pe_prop ho h1 h2 h4 hr h3 .nil (C8.pass0 (E := C8.E0)) hb) fun σ H Q h => ?_
  obtain ⟨n, μ, ρ, st, w, st', ok, er, hf, an⟩ := h
  obtain ⟨x, s1, g1, hf⟩ := bind_eq_ok hf
  refine ⟨n, μ, ρ, st, x, s1, ok, er, g1, fun n1 μ1 H1 y1 ok1 l1 r1 f1 => ?_⟩
  cases x with
  | l _ => cases hf
  | v x =>
    by_cases hc : isCls x c m s1 = true
    · simp only [if_pos hc] at hf
      obtain ⟨a, dx, gs, rfl, g3, g4⟩ := isCls_ok d.nm ok1 r1 hc
      exact ⟨a, dx, gs, rfl, g3, rfl, n1, μ1, s1, [x], w, st', ok1, .cons r1 .nil, hf, an.le l1⟩
    · simp only [if_neg hc] at hf; cases hf
theorem r_lenI {c : Nat} (d : LenM X.prog X.w X.K X.mg X.base D k c F) (hr : Room (k + 1) X.A) : CallR X (.builtin "len") (rB D (bLenI c F)) := by
  intro pins s σ H xs us Q I r ⟨n, μ, st, a, y, z, st', e, ok, ra, hf, an⟩
  subst e
  obtain ⟨f, fd, ps, hs, hfn, hb, hF⟩ := d.ex
  unfold bLenI at hf
  cases h1 : isIns a c st with
  | none => rw [h1] at hf; cases hf
  | some va =>
    rw [h1] at hf
    obtain ⟨t, s1, h3, hf⟩ := bind_eq_ok hf
    obtain ⟨aa, dx, gs, rfl, rfl, hA⟩ := isIns_ok ok ra h1
    obtain ⟨u, rfl, ru⟩ := vals1 r
    obtain rfl : u = Value.ref aa := ru
    obtain ⟨mA, J, _⟩ := ins_get I.hok hA
    obtain ⟨od, J, _⟩ := J.look
    have hsp : spF D 1 F [.ref aa] H (fun v H' => ∃ i : Int, v = .int i ∧ 0 ≤ i ∧ i < 9223372036854775808 ∧ Q (.int i) H') C8.E0 := ⟨rfl, n, μ, st, [va], t, s1, ok, .cons ra .nil, h3, fun n' μ' H' y' ok' l' r' f' => by
      cases t with
      | l _ => cases hf
      | v t =>
        cases t with
        | int i =>
          by_cases hi : 0 ≤ i ∧ i < 9223372036854775808
          · simp only [if_pos hi] at hf
            cases hf
            cases r'
            exact ⟨i, rfl, hi.1, hi.2, an n' μ' H' _ ok' l' (.int i) trivial⟩
          · simp only [if_neg hi] at hf
            cases hf
        | _ => cases hf⟩
    have hl := hF.len _ _ _ _ hsp
    have r2 : Vals [V.ref aa] [Value.ref aa] := .cons rfl .nil
    refine Calls.call_function_entry kind_len plain_len entry_len (args_len1 _) ?_
    unfold Builtin.«len»
    refine wpAny_bind (m := oneArg "len" _) (wpAny_pure ?_)
    refine wpAny_bind (m := callSpecial? (.ref aa) (PySem.Str.ofString "__len__")) (PySem.W.special_fn I.kIn J hs (beq_iff_eq.mp hfn) ?_)
    refine wpAny_call (codeAny_mono (hF.run X.A.in1 X.stack s H ⟨[.ref aa], []⟩ [.ref aa] [.ref aa] _ C8.E0 hr.in1 I.env0.in1 (by
        have := hb s [.ref aa] I.kIn (by simpa using hl)
        simpa using this) r2 hsp) fun r s' hq => ?_)
    cases r with
    | error e => exact (show False from hq).elim
    | ok fl =>
      cases fl with
      | ret w =>
        obtain ⟨z, H', I', rz, i, ez, i1, i2, q⟩ := I.after hq
        subst ez
        obtain ⟨tk, rfl⟩ := rz
        show wpAny _ _ _ _ _ s'
        refine wpAny_bind (wpAny_holding (wpAny_pure ?_))
        refine wpAny_bind (wpAny_letGo ?_)
        show wpAny _ _ (if i < 0 then _ else _) _ _ _
        rw [if_neg (by omega)]
        show wpAny _ _ (if i ≥ 2 ^ 63 then _ else _) _ _ _
        rw [if_neg (by omega)]
        exact wpAny_bind (wpAny_mkInt (wpAny_pure ⟨_, rfl, ⟨.int i, H', I'.tok _, ⟨_, rfl⟩, q⟩⟩))
      | next => exact False.elim hq
      | brk => exact False.elim hq
      | cont => exact False.elim hq
theorem e_lenI {c : Nat} (d : LenM X.prog X.w X.K X.mg X.base D k c F) (hr : Room (k + 1) X.A) (hg : Gl X "len") (hm : X.mg "len" = none) (ha : SE X D e fe)
    (he : starEach [e] X.env = (false, eval e X.env) :: starEach [] X.env := by rfl) : SE X D (.Call (.Name "len" p) [e] [] pos) (eB1 (bLenI c F) fe) := e_bB (r_lenI d hr) hg hm (by decide +kernel) ha (by decide) (by decide) he
end
end VI
end
section
set_option Elab.async false
set_option linter.all false
set_option maxRecDepth 100000
set_option maxHeartbeats 4000000
/-! VI21: the head's Hook with getters of properties. -/
namespace VI
open PySem PySem.Spec PyProof.Rows L2
/-- the getter behind the name of a class -/
def getA (K : PySem.W.Frag) (c m : Str) : Addr := match PySem.W.recIn K (He.ma K (He.ga K c) m) "property" with
  | some (.ref g :: _) => g
  | _ => 0
structure GetD where
  cls : Str
  prop : Str
  name : Str
  qual : Str
  params : Arguments
  body : List Stmt
  scope : Scope
def fnWA (K : PySem.W.Frag) (a : Addr) : He.FnW := match K.lookup a with
  | some ⟨_, _, .func fd, _⟩ => some (fd.name, fd.qualname, fd.params, fd.body, fd.scope, fd.globals, fd.closure, fd.builtins)
  | _ => none
def GetD.at_ (d : GetD) (K : PySem.W.Frag) : Addr := getA K d.cls d.prop
def GetD.val (d : GetD) : He.FnW := some (d.name, d.qual, d.params, .stmts d.body, d.scope, mainGlobals, [], builtinsNs)
def GetD.ok (K : PySem.W.Frag) (d : GetD) : Bool := PySem.W.keepIn K (.ref (d.at_ K)) && (match K.lookup (d.at_ K) with
  | some ⟨_, _, .func fd, _⟩ => PySem.W.codeIn K fd.code d.qual && (He.dflB K fd.defaults [] && He.kwdB K fd.kwdefaults [])
  | _ => false)
theorem GetD.funD {K : PySem.W.Frag} {d : GetD} (e : fnWA K (d.at_ K) = d.val) (c : d.ok K = true) : ∃ fd, FunD K d.name d.qual d.params d.body d.scope [] [] (d.at_ K) fd := by
  obtain ⟨kp, c2⟩ := He.ba c
  unfold fnWA at e
  cases q : K.lookup (d.at_ K) with
  | none =>
    rw [q] at c2
    cases c2
  | some o =>
    obtain ⟨oc, od, dt, osl⟩ := o
    rw [q] at c2 e
    cases dt with
    | func fd =>
      obtain ⟨n1, n2, n3, n4, n5, n6, n7, n8, n9, n10, n11, n12, n13, n14, n15⟩ := fd
      have e2 : (some (n1, n2, n3, n4, n5, n6, n7, n15) : He.FnW) = some (d.name, d.qual, d.params, .stmts d.body, d.scope, mainGlobals, [], builtinsNs) := e
      simp only [Option.some.injEq, Prod.mk.injEq] at e2
      obtain ⟨h1, h2, h3, h4, h5, h6, h7, h8⟩ := e2
      subst h1 h2 h3 h4 h5 h6 h7 h8
      have c3 : (PySem.W.codeIn K n13 d.qual && (He.dflB K n8 [] && He.kwdB K n9 [])) = true := c2
      obtain ⟨k1, k2⟩ := He.ba c3
      obtain ⟨k3, k4⟩ := He.ba k2
      exact ⟨_, ⟨oc, od, n8, n9, n10, n11, n12, n13, n14, osl, rfl, q, k1, He.dflB_ok k3, He.kwdB_ok k4⟩, kp⟩
    | _ => cases c2
def propB (K : PySem.W.Frag) (c m : Str) : Bool :=
  He.eqO (PySem.W.findIn K (.ref (He.ga K c)) m) (some (some (.ref (He.ma K (He.ga K c) m)))) && (He.eqO (PySem.W.specialIn K (.ref (He.ma K (He.ga K c) m)) "__get__") (some (some (.builtin "property.__get__"))) &&
    (decide (PySem.W.takesIn K (.ref (He.ma K (He.ga K c) m)) = some true) && (match PySem.W.recIn K (He.ma K (He.ga K c) m) "property" with
      | some (.ref _ :: _) => true
      | _ => false)))
theorem propB_ok {K : PySem.W.Frag} {c m : Str} (h : propB K c m = true) : L2.PropOf K (He.ga K c) m (He.ma K (He.ga K c) m) (getA K c m) := by
  obtain ⟨h1, h⟩ := He.ba h
  obtain ⟨h2, h⟩ := He.ba h
  obtain ⟨h3, h4⟩ := He.ba h
  refine ⟨He.eqO_ok h1, He.eqO_ok h2, of_decide_eq_true h3, ?_⟩
  unfold getA
  split at h4
  · rename_i g r e
    exact ⟨r, by rw [e]⟩
  · cases h4
structure SaysP (ck : PySem.W.Frag → List Bool) (fn : List He.DefD) (gn : List GetD) (lams : List (Str × Option Str)) (K : PySem.W.Frag) (h : Heap) : Prop where
  v : SaysV ck fn lams K h
  g : ∀ d ∈ gn, fnWA K (d.at_ K) = d.val
def obsP (as : List Addr) (ck : PySem.W.Frag → List Bool) (fn : List He.DefD) (gn : List GetD) (lams : List (Str × Option Str)) (g : Addr → Option Obj) : He.AlD × List He.FnW :=
  (obsV as ck fn lams g, gn.map fun d => fnWA (He.frG g as) (d.at_ (He.frG g as)))
def hookP (as : List Addr) (ck : PySem.W.Frag → List Bool) (fn : List He.DefD) (gn : List GetD) (lams : List (Str × Option Str)) : PySem.W.Hook where
  α := He.AlD × List He.FnW
  obs := fun s => obsP as ck fn gn lams s.heap.get?
  val := fun _ => (He.valD fn, gn.map GetD.val)
  says := fun _ h => ∃ K : PySem.W.Frag, SaysP ck fn gn lams K h
  of := fun _ s e0 => by
    have e : obsV as ck fn lams s.heap.get? = He.valD fn := congrArg (fun z : He.AlD × List He.FnW => z.1) e0
    have eg : (gn.map fun d => fnWA (He.frG s.heap.get? as) (d.at_ (He.frG s.heap.get? as))) = gn.map GetD.val := congrArg (fun z : He.AlD × List He.FnW => z.2) e0
    refine ⟨He.frG s.heap.get? as, ⟨He.frG_in, ?_, ?_, ?_⟩, fun d hd => List.map_inj_left.mp eg d hd⟩
    · exact (He.ba (congrArg (fun z : He.AlD => z.1) e)).1
    · have e2 : fn.map (fun d => He.fnW (He.frG s.heap.get? as) d.at_) = fn.map He.DefD.val := congrArg (fun z : He.AlD => z.2) e
      obtain ⟨h1, _⟩ := He.ba (He.ba (congrArg (fun z : He.AlD => z.1) e)).2
      exact fun d hd => ⟨List.all_eq_true.mp h1 d hd, List.map_inj_left.mp e2 d hd⟩
    · obtain ⟨_, h2⟩ := He.ba (He.ba (congrArg (fun z : He.AlD => z.1) e)).2
      intro p hp
      have h3 := List.all_eq_true.mp h2 p hp
      simp only [Bool.and_eq_true] at h3
      obtain ⟨k1, k2, k3, k4⟩ := h3
      exact ⟨k1, k2, emptyB_ok k3, by simpa using k4⟩
  keeps := fun _ _ _ ⟨K, s⟩ k => ⟨K, ⟨PySem.W.Frag.In.keeps s.v.kin k, s.v.ck, s.v.fn, fun p hp => let ⟨a, b, c, d⟩ := s.v.lam p hp; ⟨a, b, k _ _ c, d⟩⟩, s.g⟩
theorem obsP_eq {as : List Addr} {ck : PySem.W.Frag → List Bool} {fn : List He.DefD} {gn : List GetD} {lams : List (Str × Option Str)} {g : Addr → Option Obj} {s : Shared} (h : ∀ a, g a = s.heap.get? a) : obsP as ck fn gn lams g = (hookP as ck fn gn lams).obs s := by
  have e : g = s.heap.get? := funext h
  rw [e] <;> rfl
theorem SaysP.get_ {ck : PySem.W.Frag → List Bool} {fn : List He.DefD} {gn : List GetD} {lams : List (Str × Option Str)} {K : PySem.W.Frag} {h : Heap} (s : SaysP ck fn gn lams K h) {d : GetD} (hd : d ∈ gn) (ok : d.ok K = true) : ∃ fd, FunD K d.name d.qual d.params d.body d.scope [] [] (d.at_ K) fd := GetD.funD (s.g d hd) ok
theorem walkP {l : PySem.W.OpenLaw} {n k : Nat} {q : Program} {loose : List Str} {XP : (Str → Option Value) → Heap → Prop} {d : DefRec} {as : List Addr} {ck : PySem.W.Frag → List Bool} {fn : List He.DefD} {gn : List GetD} {ls : List ((Str × Option Str) × Str)} {S : List Str} {Cn : Nat → Str} {F : Fn} {x : Str}
    (hn : l.most = some n) (hn2 : n ≤ sizeLine) (hdf : d.params.defaults = []) (hr : Room k callerA) (hnl : ∀ K, (ck K)[0]? = some (noListB K))
    (hfd : ∀ (w : World) (mg : Str → Option Value) (fa : Addr) (h : Heap) (K : PySem.W.Frag), SaysP ck fn gn (ls.map (·.1)) K h → h.Ns mainGlobals mg → mg d.name = some (.ref fa) → ∃ fd : FuncData, (∀ (s : Shared) (u : Value), BindsTo s fd ⟨[u], []⟩ [(x, u)]) ∧
      ∀ base, (∀ p ∈ ls.map (·.1), LamX.TabB base mg (codeA K p) (tabA K (codeA K p))) → FnOk l.prog w K mg base C8.CX0 k fa fd [x] (spF (mkW S Cn K (tabsOf K ls) none) 1 F))
    (law : ∀ ns : List Int, ns.length ≤ n → (∀ z ∈ ns, Builtin.Int.intBits z ≤ 1048576) → ∀ o : Ob, o = .lst (ns.map .int) ∨ o = .frz (ns.map .int) → ∃ st, F [.ref 0] [o] = .ok (.v (.bool true)) st) :
    PySem.W.WalkO q loose XP (hookP as ck fn gn (ls.map (·.1))).says l.row.toRowW d [] (fun f vs => PySem.call f vs) := by
  refine Att.attach_callB hn hdf fun w s₀ s₁ mg mb fa o pm cd doc a vs ns G Y ho hd hcd hmg hobj hints hlen hbits hg => ?_
  obtain ⟨K, Y⟩ := Y
  obtain ⟨fd, hb, hF⟩ := hfd w mg fa _ K Y G.T.g hmg
  have hcs : ∀ {R : Addr × Addr → Prop}, (∀ p ∈ ls.map (·.1), R (codeA K p, tabA K (codeA K p))) → ∀ p ∈ ls.map (fun p => (codeA K p.1, tabA K (codeA K p.1))), R p := fun {R} hR p hp => by
    obtain ⟨x, hx, rfl⟩ := List.mem_map.mp hp
    exact hR x.1 (List.mem_map.mpr ⟨x, hx, rfl⟩)
  refine LamX.law_callTs (cs := ls.map fun p => (codeA K p.1, tabA K (codeA K p.1))) (CX := C8.CX0) Y.v.kin G.T.g G.T.b G.T.builtins G.T.nolimit hg
    (hcs (R := fun p => s₁.heap.get? p.2 = some { cls := .none, data := .fields #[] }) fun p hp => (Y.v.lam p hp).2.2.1) (hcs (R := fun p => K.lookup p.2 = none) fun p hp => (Y.v.lam p hp).2.2.2) (hcs (R := fun p => PySem.W.CodeHd s₁.heap p.1 p.2) fun p hp => codeHdB_ok Y.v.kin (Y.v.lam p hp).2.1)
    G.T.bmain hobj hints (Nat.le_trans hlen hn2) hr (fun base _ _ TB => hF base fun p hp => ?_) hb (fun H hH hS => law_sp (Y.v.at_ 0 (hnl K)) (fun p hp => ?_) hS (law ns hlen hbits)) fun H e s' h => h
  · obtain ⟨x, hx, rfl⟩ := List.mem_map.mp hp
    exact TB _ (List.mem_map.mpr ⟨x, hx, rfl⟩)
  · obtain ⟨x, hx, rfl⟩ := List.mem_map.mp hp
    exact hH _ (List.mem_map.mpr ⟨x, hx, rfl⟩)
end VI
end
section
set_option Elab.async false
set_option linter.all false
set_option maxRecDepth 100000
set_option maxHeartbeats 4000000
/-! VI22: a name and a field as targets of one pair; l.clear(). -/
namespace VI
open PySem PySem.Spec PyProof.Rows L2
def gFld (K : PySem.W.Frag) (ta : TE) (f : Str) : TG := fun v σ H Q => ta σ H fun x H2 => ∃ a C dx fs, x = .ref a ∧ H2 a = some (.ins C dx fs) ∧ Cls K C ∧ NoAttr K C f ∧ fs.length < 1000 ∧ Q σ (upd H2 a (.ins C dx (L2.putF f v fs)))
section
variable {X : Cx} {D : Wd} {o : Expr} {fo : Ev} {pos p px : Pos} {x : Str} {i : Nat}
theorem pg_fld {f : Str} {ta : TE} (ha : PE X o ta) : PG X (.Attribute o f pos) (gFld X.K ta f) := by
  refine ⟨fun pins s σ H v u Q I r h => ?_⟩
  rw [assign_Attribute]
  refine wpAny_bind (wpAny_holding (thn (ha.run pins s σ H _ I h) fun ov s2 ⟨y, H2, I2, rx, a, C, dx, fs, ex, ea, c, n, l, q2⟩ => ?_))
  subst ex
  obtain rfl : ov = Value.ref a := rx
  exact wpAny_bind (wpAny_standAt (wpAny_bind (wpAny_holding (setattr_ok I2 ea c n l r fun s3 I3 => wpAny_release ⟨σ, _, I3, q2⟩))))
theorem g_NF [C : Cok X D] [W : Wok D] {cs : List Nat} {f k : Nat} {z : Str} (F : CF D cs f z) (hi : X.N[i]? = some x) (hx : Loc X.env.scope x) (ho : SE X D o fo) (hf : X.fn x = true ∨ X.env.scope.names.lookup x = some .local := by first | exact .inl rfl | exact .inr rfl | assumption)
    (h1 : (assignEach [.Name x px, .Attribute o z p] X.env).map (·.2) = assign (.Name x px) X.env :: (assignEach [.Attribute o z p] X.env).map (·.2) := by rfl)
    (h2 : (assignEach [.Attribute o z p] X.env).map (·.2) = assign (.Attribute o z p) X.env :: (assignEach [] X.env).map (·.2) := by rfl)
    (hn : (assignEach [.Name x px, .Attribute o z p] X.env).length = 2 := by rfl) (hst : (assignEach [.Name x px, .Attribute o z p] X.env).findIdx? (·.1) = none := by rfl) :
    SG X D (.Tuple [.Name x px, .Attribute o z p] k pos) [i] (gNF i cs fo f) :=
  PG_imp (pg_tup C.calm (pgs_cons (pg_name C.nd hi hx hf) (pgs_cons (pg_fld ho) pgs_nil h2) h1) hn hst) fun v σ H Q ⟨n, μ, ρ, st, zv, ρ', st', ok, er, rz, hg, q⟩ => by
    unfold gNF at hg
    cases zv with
    | tup xs =>
      match xs, rz, hg with
      | [a, b], rz, hg =>
        obtain ⟨aT, ys, rfl, hT, r⟩ : ∃ aT ys, v = .ref aT ∧ SqT D.K H aT ys ∧ RpAll D n μ H [a, b] ys := by
          cases rz with
          | tup hT r => exact ⟨_, _, rfl, hT.sq, r⟩
        obtain ⟨v1, v2, rfl, ra, rb⟩ : ∃ v1 v2, ys = [v1, v2] ∧ Rp D n μ H a v1 ∧ Rp D n μ H b v2 := by
          cases r with
          | cons ra r =>
            cases r with
            | cons rb r =>
              cases r
              exact ⟨_, _, rfl, ra, rb⟩
        obtain ⟨t, s1, g1, hg⟩ := bind_eq_ok hg
        refine ⟨_, [v1, v2], rfl, ?_, rfl, _, _, rfl, _, _, rfl, n, μ, ρ.set i (some a), st, t, s1, ok, er.set i ra, g1, fun n1 μ1 H1 x1 ok1 l1 r1 f1 => ?_⟩
        · rw [C.hK]; exact hT
        · cases h4 : refI cs t s1 with
          | none => simp only [h4] at hg; cases hg
          | some pr =>
            obtain ⟨k', c, fs⟩ := pr
            simp only [h4] at hg
            by_cases hl : fs.length < 1000
            · rw [if_pos hl] at hg
              cases hg
              obtain ⟨rfl, rfl, hk, hs1, hc, dx, gs, hH, hgs⟩ := refI_ok ok1 r1 h4
              obtain ⟨c1, c2⟩ := F.cl c hc
              have kt : ∀ u a zs, H1 a = some (.tup zs) → upd H1 (μ1 k') u a = some (.tup zs) := fun u a zs e => by
                rw [upd_ne fun z => ?_]; exact e
                rw [← z, e] at hH; cases hH
              obtain ⟨ok4, l4⟩ := ok1.set (k := k') (o := .ins c (putF f b fs)) (u := .ins (D.C c) dx (L2.putF z _ gs)) hk
                ⟨dx, _, upd_same, (FsR.put F.nm (rb.mono l1) hgs).mono (Nat.le_refl _) (fun _ _ => rfl) (kt _)⟩
              refine ⟨_, _, dx, gs, rfl, hH, ?_, ?_, by rw [← hgs.length]; exact hl, rfl, q n1 μ1 _ _ ok4 (l1.trans l4) ((er.set i ra).mono (l1.trans l4)) fun vs h => wipe_set (h i (by simp))⟩
              · rw [C.hK]; exact c1
              · rw [C.hK]; exact c2
            · rw [if_neg hl] at hg; cases hg
      | [], _, hg => cases hg
      | [_], _, hg => cases hg
      | _ :: _ :: _ :: _, _, hg => cases hg
    | _ => cases hg
end
section
variable {X : Cx} {D : Wd} {o : Expr} {fo : Ev} {apos cpos : Pos}
theorem e_clear (ho : SE X D o fo) (hbase : attributeBase o "clear" X.env (eval o X.env) = eval o X.env := by rfl) (hline : (apos.endLine == cpos.line) = true := by rfl) : SE X D (.Call (.Attribute o "clear" apos) [] [] cpos) (eClear fo) :=
  PE_imp (pe_bm0 PySem.F.plainAttrs_list PySem.F.slot_list_clear PySem.F.type_list_clear mt_clear ho hbase hline) fun σ H Q ⟨n, μ, ρ, st, z, st', ok, er, hf, an⟩ => by
    obtain ⟨x, s1, h1, hf⟩ := bind_eq_ok hf
    refine ⟨n, μ, ρ, st, x, s1, ok, er, h1, fun n1 μ1 H1 y1 ok1 l1 r1 f1 => ?_⟩
    cases h4 : refL x s1 with
    | none => simp only [h4] at hf; cases hf
    | some pr =>
      obtain ⟨j, xs⟩ := pr
      simp only [h4] at hf
      cases hf
      refine ⟨ref_ty ok1 r1 (by rw [h4]; rfl), ?_⟩
      obtain ⟨rfl, rfl, hj, hst, ys, hy, ra⟩ := refL_ok ok1 r1 h4
      obtain ⟨ok4, l4⟩ := wr_lst ok1 hj .nil
      exact ⟨_, ys, rfl, rfl, hy, an n1 μ1 _ _ ok4 (l1.trans l4) .non trivial⟩
end
end VI
end
section
set_option Elab.async false
set_option linter.all false
set_option maxRecDepth 100000
set_option maxHeartbeats 4000000
/-! VI23: places of lists as targets, two targets of one pair. -/
namespace VI
open PySem PySem.Spec PyProof.Rows L2
section
variable {X : Cx} {D : Wd} {o i : Expr} {fo fi : Ev} {pos p : Pos}
theorem g_sub [C : Cok X D] (ho : SE X D o fo) (hi : SE X D i fi)
    (ha : ∀ v, assign (.Subscript o i p) X.env v = (do
      let ov ← holding [v] (eval o X.env)
      let iv ← holding [v, ov] (eval i X.env)
      standAt p
      holding [v, ov, iv] (setItem ov iv v)
      release [v, ov, iv] []) := by intro _; rfl) : SG X D (.Subscript o i p) [] (gSub fo fi) :=
  PG_imp (pg_sub ho hi set_list ha) fun v σ H Q ⟨n, μ, ρ, st, zv, ρ', st', ok, er, rz, hg, q⟩ => by
    unfold gSub at hg
    obtain ⟨x, s3, h3, hf⟩ := bind_eq_ok hg
    obtain ⟨k, s4, h4, hf⟩ := bind_eq_ok hf
    refine ⟨n, μ, ρ, st, x, s3, ok, er, h3, fun n3 μ3 H3 x3 ok3 l3 r3 f3 => ⟨n3, μ3, ρ, s3, k, s4, ok3, er.mono l3, h4, fun n4 μ4 H4 k4 ok4 l4 r4 f4 => ?_⟩⟩
    cases h5 : refL x s4 with
    | none => simp only [h5] at hf; cases hf
    | some pr =>
      obtain ⟨j, xs⟩ := pr
      cases k with
      | l _ => simp only [h5] at hf; cases hf
      | v k =>
        cases k with
        | int k =>
          simp only [h5] at hf
          cases h6 : ixN xs.length k with
          | none => simp only [h6] at hf; cases hf
          | some m =>
            simp only [h6] at hf
            cases hf
            cases r4
            obtain ⟨rfl, rfl, hj, hst, ys, hy, ra⟩ := refL_ok ok4 (r3.mono l4) h5
            obtain ⟨ok5, l5⟩ := wr_lst ok4 hj (ra.set ((rz.mono l3).mono l4) m)
            have l6 := l3.trans (l4.trans l5)
            exact ⟨_, ys, k, m, rfl, rfl, hy, by rw [← ra.length]; exact h6, q n4 μ4 _ σ ok5 l6 (er.mono l6) fun _ _ => rfl⟩
        | _ => simp only [h5] at hf; cases hf
theorem g_Pr [C : Cok X D] [W : Wok D] {is js : List Nat} {e1 e2 : Expr} {g h : Tgt} {k : Nat} (hg1 : SG X D e1 is g) (hg2 : SG X D e2 js h)
    (h1 : (assignEach [e1, e2] X.env).map (·.2) = assign e1 X.env :: (assignEach [e2] X.env).map (·.2) := by rfl)
    (h2 : (assignEach [e2] X.env).map (·.2) = assign e2 X.env :: (assignEach [] X.env).map (·.2) := by rfl)
    (hn : (assignEach [e1, e2] X.env).length = 2 := by rfl) (hst : (assignEach [e1, e2] X.env).findIdx? (·.1) = none := by rfl) :
    SG X D (.Tuple [e1, e2] k pos) (is ++ js) (gPr g h) :=
  PG_imp (pg_tup C.calm (pgs_cons hg1 (pgs_cons hg2 pgs_nil h2) h1) hn hst) fun v σ H Q ⟨n, μ, ρ, st, zv, ρ', st', ok, er, rz, hg, q⟩ => by
    unfold gPr at hg
    cases zv with
    | tup xs =>
      match xs, rz, hg with
      | [a, b], rz, hg =>
        obtain ⟨aT, ys, rfl, hT, r⟩ : ∃ aT ys, v = .ref aT ∧ SqT D.K H aT ys ∧ RpAll D n μ H [a, b] ys := by
          cases rz with
          | tup hT r => exact ⟨_, _, rfl, hT.sq, r⟩
        obtain ⟨v1, v2, rfl, ra, rb⟩ : ∃ v1 v2, ys = [v1, v2] ∧ Rp D n μ H a v1 ∧ Rp D n μ H b v2 := by
          cases r with
          | cons ra r =>
            cases r with
            | cons rb r =>
              cases r
              exact ⟨_, _, rfl, ra, rb⟩
        obtain ⟨ρ1, st1, g1, hg⟩ := bind_eq_ok hg
        refine ⟨_, [v1, v2], rfl, ?_, rfl, v1, [v2], rfl, n, μ, ρ, st, a, ρ1, st1, ok, er, ra, g1, fun n' μ' H' σ' ok' l' er' w' => ⟨v2, [], rfl, n', μ', ρ1, st1, b, ρ', st', ok', er', rb.mono l', hg, fun n2 μ2 H2 σ2 ok2 l2 er2 w2 => ⟨rfl, q n2 μ2 H2 σ2 ok2 (l'.trans l2) er2 fun vs hv => ?_⟩⟩⟩
        · rw [C.hK]; exact hT
        · exact (w2 vs fun i hi => hv i (List.mem_append.mpr (.inr hi))).trans (w' vs fun i hi => hv i (List.mem_append.mpr (.inl hi)))
      | [], _, hg => cases hg
      | [_], _, hg => cases hg
      | _ :: _ :: _ :: _, _, hg => cases hg
    | _ => cases hg
end
end VI
end
section
set_option Elab.async false
set_option linter.all false
set_option maxRecDepth 100000
set_option maxHeartbeats 4000000
/-! VI24: l.index(x). -/
namespace VI
open PySem PySem.Spec PyProof.Rows L2
theorem pys_get {S : List Str} : ∀ {ds : List Dt} {i : Nat} {z : PyData}, (Dt.pys S ds)[i]? = some z → ∃ d, ds[i]? = some d ∧ z = d.py S
  | [], _, _, h => by simp [Dt.pys] at h
  | d :: ds, 0, z, h => by
    simp only [Dt.pys] at h
    simp at h
    exact ⟨d, rfl, h.symm⟩
  | d :: ds, i + 1, z, h => by
    simp only [Dt.pys] at h
    obtain ⟨e, h1, h2⟩ := pys_get (ds := ds) (i := i) (by simpa using h)
    exact ⟨e, by simpa using h1, h2⟩
theorem pys_at {S : List Str} : ∀ {ds : List Dt} {i : Nat} {d : Dt}, ds[i]? = some d → (Dt.pys S ds)[i]? = some (d.py S)
  | [], _, _, h => by simp at h
  | d :: ds, 0, e, h => by
    simp at h; subst h
    simp only [Dt.pys]; rfl
  | d :: ds, i + 1, e, h => by
    simp only [Dt.pys]
    rw [List.getElem?_cons_succ]
    exact pys_at (by simpa using h)
theorem okSs_at {n : Nat} : ∀ {ds : List Dt} {i : Nat} {d : Dt}, Dt.okSs n ds → ds[i]? = some d → d.okS n
  | [], _, _, _, h => by simp at h
  | d :: ds, 0, e, h, hd => by
    simp at hd; subst hd
    simp only [Dt.okSs] at h
    exact h.1
  | d :: ds, i + 1, e, h, hd => by
    simp only [Dt.okSs] at h
    exact okSs_at h.2 (by simpa using hd)
section
variable {X : Cx} {D : Wd} {o e : Expr} {fo fe : Ev} {apos cpos : Pos}
theorem e_index [C : Cok X D] [W : Wok D] (hu : X.A.units + 65 < cLine) (ho : SE X D o fo) (ha : SE X D e fe) (hbase : attributeBase o "index" X.env (eval o X.env) = eval o X.env := by rfl)
    (hfew : ((backTo cpos (starEach [e] X.env)).all (fun x => !x.1) && (backToKw cpos (keywordEach [] X.env)).all (fun x => x.1.isSome)
      && decide ([e].length + ([] : List Keyword).length + (if ([] : List Keyword).isEmpty then 0 else 1) < 30)) = true := by rfl)
    (hline : (apos.endLine == cpos.line) = true := by rfl) (hs : starEach [e] X.env = (false, eval e X.env) :: starEach [] X.env := by rfl) : SE X D (.Call (.Attribute o "index" apos) [e] [] cpos) (eIxL fo fe) :=
  PE_imp (pe_bm PySem.F.plainAttrs_list PySem.F.slot_list_index PySem.F.type_list_index (mt_indexD hu) ho (pa_cons ha pa_nil hs) hbase hfew hline hs) fun σ H Q ⟨n, μ, ρ, st, z, st', ok, er, hf, an⟩ => by
    obtain ⟨x, s1, h1, hf⟩ := bind_eq_ok hf
    refine ⟨n, μ, ρ, st, x, s1, ok, er, h1, fun n1 μ1 H1 y1 ok1 l1 r1 f1 => ?_⟩
    by_cases hc : (refL x s1).isSome = true
    · rw [if_pos hc] at hf
      obtain ⟨t, s2, h2, hf⟩ := bind_eq_ok hf
      refine ⟨ref_ty ok1 r1 hc, n1, μ1, ρ, s1, t, s2, ok1, er.mono l1, h2, fun n2 μ2 H2 y2 ok2 l2 r2 f2 => ?_⟩
      cases h4 : refL x s2 with
      | none => simp only [h4] at hf; cases hf
      | some pr =>
        obtain ⟨j, xs⟩ := pr
        cases h5 : tvD s2 t with
        | none => simp only [h4, h5] at hf; cases hf
        | some d =>
          simp only [h4, h5] at hf
          cases h6 : toDs s2 DEEP xs with
          | none => simp only [h6] at hf; cases hf
          | some ds =>
            simp only [h6] at hf
            cases h7 : firstIx d ds 0 with
            | none => simp only [h7] at hf; cases hf
            | some k =>
              simp only [h7] at hf
              cases hf
              obtain ⟨rfl, rfl, hj, hst, ys, hy, ra⟩ := refL_ok ok2 (r1.mono l2) h4
              have k1 := tvD_ok ok2 h5 r2
              obtain ⟨b1, b2, b3, b4⟩ := toDs_ok ok2 h6 ra
              obtain ⟨_, ⟨e0, e1, e2⟩, e3⟩ := firstIx_ok h7
              rw [Nat.sub_zero] at e1 e3
              refine ⟨_, y2, d.py D.S, Dt.pys D.S ds, k, e0.py D.S, rfl, rfl, by rw [C.hK]; exact .lst (SqL.of hy) b1, by rw [C.hK]; exact k1.dp, ?_, k1.shaped (by decide), pys_at e1, ?_, fun m z' hm hz => ?_, an n2 μ2 H2 _ ok2 (l1.trans l2) (.int _) trivial⟩
              · unfold SeqAt.shaped
                simp only [PyData.canLay0, b3, Bool.true_and, PyData.depth]
                exact decide_eq_true (by have : DEEP = 20 := rfl; omega)
              · rw [eqv_py _ _ (okSs_at b2 e1) k1.os]; exact e2
              · obtain ⟨d', h8, rfl⟩ := pys_get hz
                rw [eqv_py _ _ (okSs_at b2 h8) k1.os]
                exact e3 m d' hm h8
    · rw [if_neg hc] at hf; cases hf
end
end VI
end
section
set_option Elab.async false
set_option linter.all false
set_option maxRecDepth 100000
set_option maxHeartbeats 4000000
/-! VI25: x in (a, b), deep. -/
namespace VI
open PySem PySem.Spec PyProof.Rows L2
section
variable {X : Cx} {D : Wd}
theorem inD_cases [C : Cok X D] [W : Wok D] {n : Nat} {μ : Nat → Addr} {H : Hp} {st : Store} {a b : Tv} {x y : V} {r : Bool} (ok : Ok D n μ H st) (ra : Rt D n μ H a x) (rb : Rt D n μ H b y) (e : isInD a b st = some r) :
    ∃ d ds, Dp X.K H x d ∧ Dp X.K H y (.tuple ds) ∧ SeqAt.shaped d = true ∧ SeqAt.shaped (.tuple ds) = true ∧ (ds.any fun z => PyData.eqv z d) = r := by
  unfold isInD at e
  split at e
  · rename_i ys
    cases h2 : tvD st a with
    | none => rw [h2] at e; cases e
    | some d =>
      rw [h2] at e
      cases h3 : toDs st DEEP ys with
      | none => rw [h3] at e; cases e
      | some ds =>
        rw [h3] at e
        cases e
        cases rb with
        | tup h q =>
          have k1 := tvD_ok ok h2 ra
          obtain ⟨b1, b2, b3, b4⟩ := toDs_ok ok h3 q
          refine ⟨_, _, by rw [C.hK]; exact k1.dp, by rw [C.hK]; exact .tup h.sq b1, k1.shaped (by decide), ?_, any_py k1.os ds b2⟩
          unfold SeqAt.shaped
          simp only [PyData.canLay0, b3, Bool.true_and, PyData.depth]
          exact decide_eq_true (by have : DEEP = 20 := rfl; omega)
  · cases e
theorem s_notInD [C : Cok X D] [W : Wok D] (hu : X.A.units + 65 < cLine) : OpR X (compareOp .NotIn) (rO D cNotInD) := by
  intro pins s σ H x y v u Q I rx ry ⟨n, μ, st, a, b, z, st', ok, ra, rb, hf, an⟩
  obtain ⟨r, e, q⟩ := ans_of hf ok an
  obtain ⟨r', e', er⟩ := Option.map_eq_some_iff.mp e
  subst er
  obtain ⟨d, ds, hd, he, sd, se, h5⟩ := inD_cases (X := X) ok ra rb e'
  obtain ⟨as, r1⟩ := Dp.reads I d x v hd rx
  obtain ⟨bs, r2⟩ := Dp.reads I (.tuple ds) y u he ry
  exact SeqAt.notIn_tuple_reads r2 r1 (SeqAt.canLay_of_shaped se) (SeqAt.canLay_of_shaped sd) (room_in_shaped sd hu) ⟨.bl _, _, I, rfl, by rw [h5]; exact q⟩
end
end VI
end
section
set_option Elab.async false
set_option linter.all false
set_option maxRecDepth 100000
set_option maxHeartbeats 4000000
/-! VI27: readings of what may let an exception out. -/
namespace VI
open PySem PySem.Spec PyProof.Rows L2

/-- the fields of an exception in the air -/
inductive XFs (D : Wd) (n : Nat) (μ : Nat → Addr) (H : Hp) : List Val → List (Str × V) → Prop
  | nil : XFs D n μ H [] []
  | cons {f : Nat} {z : Str} {x : Val} {y : V} {fs : List Val} {gs : List (Str × V)} (h : D.S[f]? = some z) (r : Rp D n μ H x y) (q : XFs D n μ H fs gs) : XFs D n μ H (.str f :: x :: fs) ((z, y) :: gs)
theorem XFs.mono {D : Wd} {n n' : Nat} {μ μ' : Nat → Addr} {H H' : Hp} (l : Le n μ H n' μ' H') {fs : List Val} {gs : List (Str × V)} (h : XFs D n μ H fs gs) : XFs D n' μ' H' fs gs := by
  induction h with
  | nil => exact .nil
  | cons h r _ ih => exact .cons h (r.mono l) ih
/-- the dict of an exception -/
def XR (D : Wd) (n : Nat) (μ : Nat → Addr) (H : Hp) (fs : List Val) (d : Option Addr) : Prop :=
  fs = [] ∨ ∃ dd gs, d = some dd ∧ H dd = some (.xd gs) ∧ XFs D n μ H fs gs ∧ ∀ k, k < n → μ k ≠ dd
theorem XR.mono {D : Wd} {n n' : Nat} {μ μ' : Nat → Addr} {H H' : Hp} {fs : List Val} {d : Option Addr} (l : Le n μ H n' μ' H') (h : XR D n μ H fs d) : XR D n' μ' H' fs d := by
  rcases h with h | ⟨dd, gs, e, hd, hf, hn⟩
  · exact .inl h
  · refine .inr ⟨dd, gs, e, l.fr dd _ hd (fun _ q => nomatch q) hn, hf.mono l, fun k hk z => ?_⟩
    by_cases h' : k < n
    · rw [l.mu k h'] at z; exact hn k h' z
    · have q := l.new k (Nat.le_of_not_lt h') hk
      rw [z, hd] at q; cases q
/-- an exception is wished -/
def xin (D : Wd) (n : Nat) (μ : Nat → Addr) (H : Hp) (c : Nat) (fs : List Val) (st : Store) (E : XK) : Prop :=
  ∀ n' μ' H' d, Ok D n' μ' H' st → Le n μ H n' μ' H' → XR D n' μ' H' fs d → E (.ref (D.C c)) d H'
theorem xin.le {D : Wd} {n n1 : Nat} {μ μ1 : Nat → Addr} {H H1 : Hp} {c : Nat} {fs : List Val} {st : Store} {E : XK} (h : xin D n μ H c fs st E) (l : Le n μ H n1 μ1 H1) : xin D n1 μ1 H1 c fs st E :=
  fun n' μ' H' d ok l' r => h n' μ' H' d ok (l.trans l') r
def out (D : Wd) (n : Nat) (μ : Nat → Addr) (H : Hp) (r : Res Tv) (Q : VK) (E : XK) : Prop := match r with
  | .ok x st => Ans D n μ H x st Q
  | .exc c fs st => xin D n μ H c fs st E
  | .bad => False
theorem out.le {D : Wd} {n n1 : Nat} {μ μ1 : Nat → Addr} {H H1 : Hp} {r : Res Tv} {Q : VK} {E : XK} (h : out D n μ H r Q E) (l : Le n μ H n1 μ1 H1) : out D n1 μ1 H1 r Q E := by
  cases r with
  | ok x st => exact Ans.le h l
  | exc c fs st => exact xin.le h l
  | bad => exact h
def outA (D : Wd) (n : Nat) (μ : Nat → Addr) (H : Hp) (r : Res (List Val)) (Q : List V → Hp → Prop) (E : XK) : Prop := match r with
  | .ok xs st => ∀ n' μ' H' ys, Ok D n' μ' H' st → Le n μ H n' μ' H' → RpAll D n' μ' H' xs ys → Q ys H'
  | .exc c fs st => xin D n μ H c fs st E
  | .bad => False
def outI (D : Wd) (n : Nat) (μ : Nat → Addr) (H : Hp) (r : Res Its) (R : It → Hp → Prop) (E : XK) : Prop := match r with
  | .ok its st => ∀ n' μ' H' J, Ok D n' μ' H' st → Le n μ H n' μ' H' → ItR D n' μ' H' its J → R J H'
  | .exc c fs st => xin D n μ H c fs st E
  | .bad => False
def outS (D : Wd) (n : Nat) (μ : Nat → Addr) (H : Hp) (r : Res (Fl × Env)) (Z : Ends) (E : XK) : Prop := match r with
  | .ok r st => fin D n μ H r st Z
  | .exc c fs st => xin D n μ H c fs st E
  | .bad => False
theorem outS.le {D : Wd} {n n1 : Nat} {μ μ1 : Nat → Addr} {H H1 : Hp} {r : Res (Fl × Env)} {Z : Ends} {E : XK} (h : outS D n μ H r Z E) (l : Le n μ H n1 μ1 H1) : outS D n1 μ1 H1 r Z E := by
  cases r with
  | ok x st => exact fin.le h l
  | exc c fs st => exact xin.le h l
  | bad => exact h
def rX (D : Wd) (E : XK) (f : Ev) : TE := fun σ H Q => ∃ n μ ρ st, Ok D n μ H st ∧ EnvR D n μ H ρ σ ∧ out D n μ H (f ρ st) Q E
def rAX (D : Wd) (E : XK) (f : Avs) : TA := fun σ H Q => ∃ n μ ρ st, Ok D n μ H st ∧ EnvR D n μ H ρ σ ∧ outA D n μ H (f ρ st) Q E
def rIX (D : Wd) (E : XK) (f : Ix) : TI := fun σ H R => ∃ n μ ρ st, Ok D n μ H st ∧ EnvR D n μ H ρ σ ∧ outI D n μ H (f ρ st) R E
def rSX (D : Wd) (E : XK) (f : Sx) : TS := fun Z σ H => ∃ n μ ρ st, Ok D n μ H st ∧ EnvR D n μ H ρ σ ∧ outS D n μ H (f ρ st) Z E
abbrev SX (X : Cx) (D : Wd) (E : XK) (e : Expr) (f : Ev) : Prop := PE X e (rX D E f)
abbrev SAX (X : Cx) (D : Wd) (E : XK) (es : List Expr) (f : Avs) : Prop := PA X es (rAX D E f)
abbrev SIX (X : Cx) (D : Wd) (E : XK) (tg e : Expr) (f : Ix) : Prop := PI X tg e (rIX D E f)
abbrev SSX (X : Cx) (D : Wd) (E : XK) (s : Stmt) (f : Sx) : Prop := PS X s (rSX D E f)
abbrev SSsX (X : Cx) (D : Wd) (E : XK) (s : List Stmt) (f : Sx) : Prop := PSs X s (rSX D E f)
/-- the context lets out what E wishes -/
class Lets (X : Cx) (E : XK) : Prop where
  tk : Takes X fun c d _ H => E c d H
theorem Lets.passes {X : Cx} {E : XK} [L : Lets X E] : Passes (L2.CX X.prog X.w) X E := passes_call L.tk fun _ _ _ _ h => h
section
variable {P : Program} {w : World} {K : PySem.W.Frag} {mg : Str → Option Value} {base : Heap} {D : Wd} {N ps : List Str} {qual : Str} {scope : Scope} {f : Addr} {cd : Value} {A : Around} {outer : List PySem.Env} {s : Shared} {H : Hp} {E : XK}
instance letsCx : Lets (cxOf (L2.CX P w) P w K mg base N qual scope f cd A outer s H E) E := ⟨takes_of rfl rfl rfl rfl⟩
end
/-- what a def that may let an exception out does -/
def spX (D : Wd) (np : Nat) (F : Fn) : Sp := fun vs H Q E => vs.length = np ∧ ∃ n μ st as, Ok D n μ H st ∧ RpAll D n μ H as vs ∧ out D n μ H (F as st) Q E
structure DefX (P : Program) (w : World) (K : PySem.W.Frag) (mg : Str → Option Value) (base : Heap) (D : Wd) (k : Nat) (x : Str) (np : Nat) (F : Fn) : Prop where
  ex : ∃ f fd ps, mg x = some (.ref f) ∧ PySem.W.keepIn K (.ref f) = true ∧ L2.Binds K fd ps [] ∧ FnOk P w K mg base (L2.CX P w) k f fd ps (spX D np F)
  db : (x == ("__debug__" : Str)) = false
structure MakX (P : Program) (w : World) (K : PySem.W.Frag) (mg : Str → Option Value) (base : Heap) (D : Wd) (k : Nat) (x : Str) (c : Nat) (np : Nat) (F : Fn) : Prop where
  ex : ∃ f fd ps, mg x = some (.ref (D.C c)) ∧ Mk K (D.C c) f ∧ L2.Binds K fd ps [] ∧ FnOk P w K mg base (L2.CX P w) k f fd ps (spX D np F)
  db : (x == ("__debug__" : Str)) = false
structure MetX (P : Program) (w : World) (K : PySem.W.Frag) (mg : Str → Option Value) (base : Heap) (D : Wd) (k : Nat) (c m : Nat) (z : Str) (np : Nat) (F : Fn) : Prop where
  ex : ∃ f fd ps, Cls K (D.C c) ∧ Meth K (D.C c) z f ∧ L2.Binds K fd ps [] ∧ FnOk P w K mg base (L2.CX P w) k f fd ps (spX D np F)
  nm : D.S[m]? = some z
/-- a def that may let an exception out, where it lets none out -/
theorem fn_X0 {P : Program} {w : World} {K : PySem.W.Frag} {mg : Str → Option Value} {base : Heap} {D : Wd} {k np : Nat} {f : Addr} {fd : FuncData} {ps : List Str} {F : Fn} (h : FnOk P w K mg base (L2.CX P w) k f fd ps (spX D np F)) : FnOk P w K mg base C8.CX0 k f fd ps (spF D np F) := by
  have cv : ∀ vs H Q (E : XK), spF D np F vs H Q E → spX D np F vs H Q (fun _ _ _ => False) := fun vs H Q E ⟨h0, n, μ, st, as, x, st', ok, r, hf, an⟩ => ⟨h0, n, μ, st, as, ok, r, by rw [hf]; exact an⟩
  refine ⟨fun vs H Q E q => h.len vs H Q _ (cv _ _ _ _ q), fun A outer s H args us vs Q E hr e0 hb r q => codeAny_mono (h.run A outer s H args us vs Q _ hr e0 hb r (cv _ _ _ _ q)) fun r s' hq => ?_⟩
  cases r with
  | error e =>
    obtain ⟨_, _, _, _, _, _, _, _, _, _, _, _, z⟩ := hq
    exact z.elim
  | ok fl => cases fl <;> exact hq

section
variable {X : Cx} {D : Wd} {E : XK} {a b c e o : Expr} {es : List Expr} {fa fb fe : Ev} {ga : Avs} {pos p p2 apos cpos : Pos} {k j np : Nat} {x : Str} {F : Fn}
/-! ### expressions -/
theorem x_of (he : SE X D e fe) [i : NXe fe] : SX X D E e fe := PE_imp he fun σ H Q ⟨n, μ, ρ, st, ok, er, h⟩ => by
  cases hf : fe ρ st with
  | ok x s => rw [hf] at h; exact ⟨n, μ, ρ, st, x, s, ok, er, hf, h⟩
  | exc c fs s => exact absurd hf (i.nx _ _ _ _ _)
  | bad => rw [hf] at h; exact h.elim
theorem x_callP {sp : Sp} (har : Arity ga np) [i : NXa ga] {σ : L2.St} {H : Hp} {Q : VK} (h : rX D E (eCall F ga) σ H Q) (hsp : sp = spX D np F) : rA D ga σ H fun vs H1 => sp (vs ++ []) H1 Q E := by
  obtain ⟨n, μ, ρ, st, ok, er, h⟩ := h
  unfold eCall at h
  cases hg : ga ρ st with
  | ok xs s1 =>
    rw [hg] at h
    refine ⟨n, μ, ρ, st, xs, s1, ok, er, hg, fun n1 μ1 H1 ys ok1 l1 r1 => ?_⟩
    show sp (ys ++ []) H1 Q E
    rw [hsp, List.append_nil]
    exact ⟨by rw [← r1.length, har _ _ _ _ hg], n1, μ1, s1, xs, ok1, r1, out.le h l1⟩
  | exc c fs s => exact absurd hg (i.nx _ _ _ _ _)
  | bad => rw [hg] at h; exact h.elim
theorem x_call [L : Lets X E] (d : DefX X.prog X.w X.K X.mg X.base D k x np F) (hr : Room k X.A) (hg : Gl X x) (ha : SA X D (e :: es) ga) [NXa ga] (har : Arity ga np) (he : starEach (e :: es) X.env = (false, eval e X.env) :: starEach es X.env := by rfl)
    (hpl : (backTo pos (starEach es X.env)).any (·.1) = false := by rfl) : SX X D E (.Call (.Name x p) (e :: es) [] pos) (eCall F ga) := by
  obtain ⟨f, fd, ps, h1, h2, h3, h4⟩ := d.ex
  exact PE_imp (pe_call h4 hr hg h1 h2 h3 .nil (L.passes) ha d.db he hpl) fun σ H Q h => x_callP har h rfl
theorem x_call0 [L : Lets X E] (d : DefX X.prog X.w X.K X.mg X.base D k x 0 F) (hr : Room k X.A) (hg : Gl X x) : SX X D E (.Call (.Name x p) [] [] pos) (eCall F aNil) := by
  obtain ⟨f, fd, ps, h1, h2, h3, h4⟩ := d.ex
  refine PE_imp (pe_call0 h4 hr hg h1 h2 h3 .nil (L.passes) d.db) fun σ H Q h => ?_
  obtain ⟨n, μ, ρ, st, ok, er, h⟩ := h
  exact ⟨rfl, n, μ, st, [], ok, .nil, h⟩
theorem x_if {t : Tst} (hc : ST X D c t) [i : NXt t] (ha : SX X D E a fa) (hb : SX X D E b fb) : SX X D E (.IfExp c a b pos) (eIf t fa fb) := PE_imp (pe_ifExp hc ha hb) fun σ H Q ⟨n, μ, ρ, st, ok, er, h⟩ => by
  unfold eIf at h
  cases ht : t ρ st with
  | ok x s1 =>
    rw [ht] at h
    refine ⟨n, μ, ρ, st, x, s1, ok, er, ht, fun n1 μ1 H1 ok1 l1 => ?_⟩
    cases x with
    | true => exact ⟨n1, μ1, ρ, s1, ok1, er.mono l1, out.le h l1⟩
    | false => exact ⟨n1, μ1, ρ, s1, ok1, er.mono l1, out.le h l1⟩
  | exc c fs s => exact absurd ht (i.nx _ _ _ _ _)
  | bad => rw [ht] at h; exact h.elim
/-- e[i], i a number that is written -/
theorem x_idx [C : Cok X D] {i : Int} (ha : SX X D E a fa) (hb : SE X D b (eC (.int i))) (hs : PlainIx b) : SX X D E (.Subscript a b pos) (eBin oIdx fa (eC (.int i))) := by
  refine PE_imp (pe_ix (r := fun x y H Q => rIxL X.K x y H Q ∨ rIxT X.K x y H Q) (ix_list.or ix_tup) ha hb hs) fun σ H Q h => ?_
  obtain ⟨n, μ, ρ, st, ok, er, h⟩ := h
  refine ⟨n, μ, ρ, st, ok, er, ?_⟩
  unfold eBin at h
  cases hf : fa ρ st with
  | exc c fs s => rw [hf] at h; exact h
  | bad => rw [hf] at h; exact h
  | ok v s1 =>
    rw [hf] at h
    intro n1 μ1 H1 y1 ok1 l1 r1 f1
    refine ⟨n1, μ1, ρ, s1, _, s1, ok1, er.mono l1, rfl, fun n2 μ2 H2 y2 ok2 l2 r2 f2 => ?_⟩
    cases r2
    have h : out D n μ H (oIdx v (.v (.int i)) s1) Q E := h
    unfold oIdx at h
    cases hq : seqOf v s1 with
    | none => simp only [hq] at h; exact h.elim
    | some xs =>
      simp only [hq] at h
      cases hw : VI.atI xs i with
      | none => simp only [hw] at h; exact h.elim
      | some z =>
        simp only [hw] at h
        obtain ⟨p, ys, rfl, ra, hs⟩ := seqOf_ok ok2 (r1.mono l2) hq
        obtain ⟨yv, ha', rv⟩ := atI_ok hw ra
        have an : Ans D n μ H (.v z) s1 Q := h
        rcases hs with hs | ⟨_, hs⟩
        · exact .inl ⟨p, ys, _, yv, rfl, rfl, by rw [C.hK]; exact hs, ha', ans_v (an.le (l1.trans l2)) ok2 rv⟩
        · exact .inr ⟨p, ys, _, yv, rfl, rfl, by rw [C.hK]; exact hs, ha', ans_v (an.le (l1.trans l2)) ok2 rv⟩
/-! ### arguments -/
theorem ax_cons (ha : SE X D e fa) [i : NXe fa] (hr : SAX X D E es ga) (hs : starEach (e :: es) X.env = (false, eval e X.env) :: starEach es X.env := by rfl) : SAX X D E (e :: es) (aCons fa ga) :=
  PA_imp (pa_cons ha hr hs) fun σ H Q ⟨n, μ, ρ, st, ok, er, h⟩ => by
    unfold aCons at h
    cases hf : fa ρ st with
    | exc c fs s => exact absurd hf (i.nx _ _ _ _ _)
    | bad => rw [hf] at h; exact h.elim
    | ok t s1 =>
      rw [hf] at h
      refine ⟨n, μ, ρ, st, t, s1, ok, er, hf, fun n1 μ1 H1 y1 ok1 l1 r1 f1 => ?_⟩
      have h : outA D n μ H ((mat t s1).bind fun x s => (ga ρ s).bind fun xs s => .ok (x :: xs) s) Q E := h
      cases hm : mat t s1 with
      | exc c fs s => exact absurd hm (ne_mat _ _ _ _ _)
      | bad => rw [hm] at h; exact h.elim
      | ok x s2 =>
        rw [hm] at h
        obtain ⟨n2, μ2, ok2, l2, r2, tr, hn, hmu⟩ := mat_ok hm ok1 l1 r1 f1
        refine ⟨n2, μ2, ρ, s2, ok2, er.mono l2, ?_⟩
        have h : outA D n μ H ((ga ρ s2).bind fun xs s => .ok (x :: xs) s) Q E := h
        cases hg : ga ρ s2 with
        | exc c fs s => rw [hg] at h; exact xin.le h l2
        | bad => rw [hg] at h; exact h
        | ok xs s3 =>
          rw [hg] at h
          exact fun n3 μ3 H3 ys ok3 l3 r3 => h n3 μ3 H3 _ ok3 (l2.trans l3) (.cons (r2.mono l3) r3)
theorem ax_last (ha : SX X D E e fa) (hs : starEach [e] X.env = (false, eval e X.env) :: starEach [] X.env := by rfl) : SAX X D E [e] (aCons fa aNil) :=
  PA_imp (pa_cons ha pa_nil hs) fun σ H Q ⟨n, μ, ρ, st, ok, er, h⟩ => by
    refine ⟨n, μ, ρ, st, ok, er, ?_⟩
    unfold aCons at h
    cases hf : fa ρ st with
    | exc c fs s => rw [hf] at h; exact h
    | bad => rw [hf] at h; exact h
    | ok t s1 =>
      rw [hf] at h
      have h : outA D n μ H ((mat t s1).bind fun x s => .ok [x] s) Q E := h
      intro n1 μ1 H1 y1 ok1 l1 r1 f1
      cases hm : mat t s1 with
      | exc c fs s => exact absurd hm (ne_mat _ _ _ _ _)
      | bad => rw [hm] at h; exact h.elim
      | ok x s2 =>
        rw [hm] at h
        obtain ⟨n2, μ2, ok2, l2, r2, tr, hn, hmu⟩ := mat_ok hm ok1 l1 r1 f1
        exact h n2 μ2 H1 _ ok2 l2 (.cons r2 .nil)
/-- a def that lets nothing out, one of its arguments may -/
theorem x_callO (d : Def X.prog X.w X.K X.mg X.base D k x np F) (hr : Room k X.A) (hg : Gl X x) (ha : SAX X D E (e :: es) ga) [i : NXf F] (har : Arity ga np) (he : starEach (e :: es) X.env = (false, eval e X.env) :: starEach es X.env := by rfl)
    (hpl : (backTo pos (starEach es X.env)).any (·.1) = false := by rfl) : SX X D E (.Call (.Name x p) (e :: es) [] pos) (eCall F ga) := by
  obtain ⟨f, fd, ps, h1, h2, h3, h4⟩ := d.ex
  refine PE_imp (pe_call h4 hr hg h1 h2 h3 .nil (C8.pass0 (E := C8.E0)) ha d.db he hpl) fun σ H Q ⟨n, μ, ρ, st, ok, er, h⟩ => ⟨n, μ, ρ, st, ok, er, ?_⟩
  unfold eCall at h
  cases hf : ga ρ st with
  | exc c fs s => rw [hf] at h; exact h
  | bad => rw [hf] at h; exact h
  | ok xs s1 =>
    rw [hf] at h
    intro n1 μ1 H1 ys ok1 l1 r1
    have h : out D n μ H (F xs s1) Q E := h
    cases hF : F xs s1 with
    | exc c fs s => exact absurd hF (i.nx _ _ _ _ _)
    | bad => rw [hF] at h; exact h.elim
    | ok z st' =>
      rw [hF] at h
      rw [List.append_nil]
      exact ⟨by rw [← r1.length, har _ _ _ _ hf], n1, μ1, s1, xs, z, st', ok1, r1, hF, Ans.le h l1⟩
/-! ### what is walked; comprehensions -/
theorem ix_E {tg : Expr} [C : Cok X D] (he : SX X D E e fe) : SIX X D E tg e (ixE fe) := by
  refine PI_imp (pi_seq he) fun σ H R ⟨n, μ, ρ, st, ok, er, h⟩ => ⟨n, μ, ρ, st, ok, er, ?_⟩
  unfold ixE at h
  cases hf : fe ρ st with
  | exc c fs s => rw [hf] at h; exact h
  | bad => rw [hf] at h; exact h
  | ok t s1 =>
    rw [hf] at h
    intro n1 μ1 H1 y1 ok1 l1 r1 f1
    have h : outI D n μ H (match itsOf t s1 with | some f => .ok f s1 | none => .bad) R E := h
    cases hi : itsOf t s1 with
    | none => simp only [hi] at h; exact h.elim
    | some its =>
      simp only [hi] at h
      obtain ⟨a, rfl, hh⟩ := itsOf_ok ok1 r1 hi
      refine ⟨a, rfl, ?_⟩
      rw [C.hK]
      rcases hh with ⟨h1, h2, _⟩ | ⟨h1, h2, _⟩
      · exact .inl ⟨h2, h n1 μ1 H1 _ ok1 l1 (it_l h1)⟩
      · exact .inr ⟨h2, h n1 μ1 H1 _ ok1 l1 (it_t h1)⟩
/-- the turns of a comprehension, its items known -/
theorem lc_at {D : Wd} {is own : List Nat} {g : Tgt} {c : Tst} {fe : Ev} (hL : D.L = none) (hown : ∀ i ∈ is, i ∈ own) {σ : L2.St} {H : Hp} {Q : VK} {n n1 : Nat} {μ μ1 : Nat → Addr} {H1 : Hp} {ρ : Env} {s1 st' : Store} {its : Its} {J : It} {xs : List Val} {z : Tv}
    (er : EnvR D n μ H ρ σ) (ok1 : Ok D n1 μ1 H1 s1) (l1 : Le n μ H n1 μ1 H1) (itr : ItR D n1 μ1 H1 its J) (hf : compGo its g c fe (VI.wipe ρ own) (xs.length + 1) 0 [] s1 = .ok z st') (an : Ans D n μ H z st' Q) :
    ∀ p, H1 p = none → ∃ W : Nat → Nat → Hp → Prop, (∃ m, W 0 m (upd H1 p (.lst []))) ∧ ∀ i m H, W i m H →
      (J.stop i H ∧ Q (.ref p) H) ∨ (J.go i H ∧ ∃ Nx : Hp → Prop, (∀ H', Nx H' → ∃ m', m' < m ∧ W (i + 1) m' H') ∧ ∀ x H', J.yld i H x H' → rG D is g x (L2.wipe σ own) H' fun σ2 H2 => L2.wipe σ2 own = L2.wipe σ own ∧ rT D c σ2 H2 fun b H3 =>
        if b = true then rE D fe σ2 H3 fun y H4 => ∃ acc, H4 p = some (.lst acc) ∧ acc.length < sizeLine ∧ Nx (upd H4 p (.lst (acc ++ [y]))) else Nx H3) := by
    intro p hp
    obtain ⟨ok2, l2⟩ := ok1.upd (u := .lst []) hp
    have kp2 : own_keep p n1 μ1 (upd H1 p (.lst [])) [] := ⟨upd_same, ok1.fresh hp⟩
    refine ⟨fun i m H3 => ∃ n3 μ3 st3 acc ys, Ok D n3 μ3 H3 st3 ∧ Le n1 μ1 H1 n3 μ3 H3 ∧ own_keep p n3 μ3 H3 ys ∧ RpAll D n3 μ3 H3 acc ys ∧ compGo its g c fe (VI.wipe ρ own) m i acc st3 = .ok z st', ⟨_, n1, μ1, s1, [], [], ok2, l2, kp2, .nil, hf⟩, ?_⟩
    rintro i m H3 ⟨n3, μ3, st3, acc, ys, ok3, l3, kp3, ra, hf3⟩
    have er3 : EnvR D n3 μ3 H3 (VI.wipe ρ own) (L2.wipe σ own) := (er.mono (l1.trans l3)).wipe hL own
    cases m with
    | zero => cases hf3
    | succ m =>
      unfold compGo at hf3
      cases h3 : its st3 with
      | none => rw [h3] at hf3; cases hf3
      | some xs =>
        rw [h3] at hf3
        obtain ⟨k1, k2⟩ := itr n3 μ3 H3 st3 ok3 l3 xs h3 i
        cases h4 : xs[i]? with
        | none =>
          simp only [h4] at hf3
          cases hf3
          exact .inl ⟨k2 h4, an n3 μ3 H3 (.ref p) ok3 (l1.trans l3) ⟨p, ys, rfl, kp3.1, ra, kp3.2⟩ fun a e => by cases e; exact l1.no hp⟩
        | some x =>
          simp only [h4] at hf3
          obtain ⟨ρ4, s4, h5, hf3⟩ := bind_eq_ok hf3
          obtain ⟨b, s5, h6, hf3⟩ := bind_eq_ok hf3
          obtain ⟨go, yl⟩ := k1 x h4
          refine .inr ⟨go, fun H6 => ∃ n3 μ3 st3 acc ys, Ok D n3 μ3 H6 st3 ∧ Le n1 μ1 H1 n3 μ3 H6 ∧ own_keep p n3 μ3 H6 ys ∧ RpAll D n3 μ3 H6 acc ys ∧ compGo its g c fe (VI.wipe ρ own) m (i + 1) acc st3 = .ok z st', fun H' h => ⟨m, Nat.lt_succ_self m, h⟩, fun y H4 hy => ?_⟩
          obtain ⟨ok4, l4, r4⟩ := yl y H4 hy
          refine ⟨n3, μ3, _, st3, x, ρ4, s4, ok4, er3.mono l4, r4, h5, fun n5 μ5 H5 σ5 ok5 l5 er5 wp => ⟨?_, ?_⟩⟩
          · rw [wp own hown]
            clear wp er5 er3 hf3 er
            have : ∀ vs ws : List Nat, (∀ i ∈ vs, i ∈ ws) → L2.wipe (L2.wipe σ vs) ws = L2.wipe σ ws := fun vs => by
              induction vs with
              | nil => intro ws _; rfl
              | cons v vs ih =>
                intro ws hv
                show L2.wipe ((L2.wipe σ vs).set v none) ws = _
                rw [wipe_set (hv v List.mem_cons_self)]
                exact ih ws fun i hi => hv i (List.mem_cons_of_mem _ hi)
            exact this own own fun _ h => h
          · refine ⟨n5, μ5, ρ4, s4, b, s5, ok5, er5, h6, fun n6 μ6 H6 ok6 l6 => ?_⟩
            have l36 := l4.trans (l5.trans l6)
            cases b with
            | false =>
              simp only [Bool.false_eq_true, if_false] at hf3 ⊢
              exact ⟨n6, μ6, s5, acc, ys, ok6, l3.trans l36, kp3.le l36, ra.mono l36, hf3⟩
            | true =>
              simp only [if_true] at hf3 ⊢
              obtain ⟨t, s7, h7, hf3⟩ := bind_eq_ok hf3
              obtain ⟨w, s8, h8, hf3⟩ := bind_eq_ok hf3
              refine ⟨n6, μ6, ρ4, s5, t, s7, ok6, er5.mono l6, h7, fun n7 μ7 H7 y7 ok7 l7 r7 f7 => ?_⟩
              have l37 := l36.trans l7
              obtain ⟨n8, μ8, ok8, l8, r8, tr, hn, hm⟩ := mat_ok h8 ok7 l7 r7 f7
              have l38 := l36.trans l8
              have kp8 := kp3.le l38
              by_cases hl : acc.length < LIM
              · rw [if_pos hl] at hf3
                have q : ∀ (u : HO) a zs, H7 a = some (.tup zs) → upd H7 p u a = some (.tup zs) := fun u a zs e => by
                  rw [upd_ne fun z => by rw [z, kp8.1] at e; cases e]; exact e
                refine ⟨ys, kp8.1, by rw [← ra.length, sizeLine_eq]; exact hl, n8, μ8, s8, acc ++ [w], ys ++ [y7], ok8.own kp8.1 kp8.2, (l3.trans l38).own hp, ⟨upd_same, kp8.2⟩, ?_, hf3⟩
                exact ((ra.mono l38).append (.cons r8 .nil)).mono' (Nat.le_refl _) (fun _ _ => rfl) (q _)
              · rw [if_neg hl] at hf3; cases hf3
theorem lcx_rd {ix : Ix} {is own : List Nat} {g : Tgt} [NXg g] {cc : Tst} [NXt cc] [NXe fe] (hL : D.L = none) (hown : ∀ i ∈ is, i ∈ own) {σ : L2.St} {H : Hp} {Q : VK} (h : rX D E (eComp ix g own cc fe) σ H Q) : tLc (rIX D E ix) (rG D is g) (rT D cc) (rE D fe) own σ H Q := by
  obtain ⟨n, μ, ρ, st, ok, er, h⟩ := h
  refine ⟨n, μ, ρ, st, ok, er, ?_⟩
  unfold eComp at h
  cases hx : ix ρ st with
  | exc c fs s => rw [hx] at h; exact h
  | bad => rw [hx] at h; exact h
  | ok its s1 =>
    rw [hx] at h
    intro n1 μ1 H1 J ok1 l1 itr
    have h : out D n μ H (match its s1 with | some xs => compGo its g cc fe (VI.wipe ρ own) (xs.length + 1) 0 [] s1 | none => .bad) Q E := h
    cases hr : (match its s1 with | some xs => compGo its g cc fe (VI.wipe ρ own) (xs.length + 1) 0 [] s1 | none => .bad) with
    | exc c fs s =>
      exfalso
      cases hi : its s1 with
      | none => simp only [hi] at hr; cases hr
      | some xs =>
        simp only [hi] at hr
        exact ne_compGo _ _ _ _ _ _ _ hr
    | bad => rw [hr] at h; exact h.elim
    | ok z st' =>
      rw [hr] at h
      cases hi : its s1 with
      | none => simp only [hi] at hr; cases hr
      | some xs =>
        simp only [hi] at hr
        exact lc_at hL hown er ok1 l1 itr hr h
theorem x_comp [C : Cok X D] {elt tg iter : Expr} {ifs : List Expr} {scope : Scope} {own : List (Str × Nat)} {ix : Ix} {is : List Nat} {g : Tgt} {cc : Tst} (hL : D.L = none) (hi : SIX X D E tg iter ix) (ok : blkC X.N X.env.scope scope own = true)
    (hg : ∀ (s : Shared) (H : Hp) (C : Addr) (cl : List (Str × Addr)) (fp : List Addr), SG (X.blk s H scope (compEnvC scope cl C X.env) fp) D tg is g) (ht : ∀ (s : Shared) (H : Hp) (C : Addr) (cl : List (Str × Addr)) (fp : List Addr), STs (X.blk s H scope (compEnvC scope cl C X.env) fp) D ifs cc)
    (he : ∀ (s : Shared) (H : Hp) (C : Addr) (cl : List (Str × Addr)) (fp : List Addr), SE (X.blk s H scope (compEnvC scope cl C X.env) fp) D elt fe) (hown : ∀ i ∈ is, i ∈ own.map (·.2)) [NXg g] [NXt cc] [NXe fe] (hs : ∀ x, foldedSetIterable iter X.env x = pure x := by intro _; rfl) :
    SX X D E (.ListComp elt [⟨tg, iter, ifs, 0⟩] scope pos) (eComp ix g (own.map (·.2)) cc fe) :=
  PE_imp (pe_lc C.calm C.nd hi (blkOk_by ok) hg ht he hs) fun _ _ _ h => lcx_rd hL hown h
end
end VI
end
section
set_option Elab.async false
set_option linter.all false
set_option maxRecDepth 100000
set_option maxHeartbeats 4000000
/-! VI28: statements that may let an exception out; raise; defs. -/
namespace VI
open PySem PySem.Spec PyProof.Rows L2
section
variable {X : Cx} {D : Wd} {E : XK} {e o tg iter c : Expr} {fe fo : Ev} {pos p p2 : Pos} {a : Stmt} {as bs : List Stmt} {f g : Sx}
theorem xs_of (h : SS X D a f) [i : NXs f] : SSX X D E a f := PS_imp h fun Z σ H ⟨n, μ, ρ, st, ok, er, h⟩ => by
  cases hf : f ρ st with
  | ok r s => rw [hf] at h; exact ⟨n, μ, ρ, st, r, s, ok, er, hf, h⟩
  | exc c fs s => exact absurd hf (i.nx _ _ _ _ _)
  | bad => rw [hf] at h; exact h.elim
theorem xss_of (h : SSs X D as f) [i : NXs f] : SSsX X D E as f := PSs_imp h fun Z σ H ⟨n, μ, ρ, st, ok, er, h⟩ => by
  cases hf : f ρ st with
  | ok r s => rw [hf] at h; exact ⟨n, μ, ρ, st, r, s, ok, er, hf, h⟩
  | exc c fs s => exact absurd hf (i.nx _ _ _ _ _)
  | bad => rw [hf] at h; exact h.elim
theorem xss_nil : SSsX X D E [] sNop := xss_of ss_nil
theorem xss_one (h1 : SSX X D E a f) : SSsX X D E [a] f := pss_one h1
theorem xss_cons (h1 : SSX X D E a f) (h2 : SSsX X D E as g) : SSsX X D E (a :: as) (sSeq f g) := PSs_imp (pss_cons h1 h2) fun Z σ H ⟨n, μ, ρ, st, ok, er, h⟩ => by
  refine ⟨n, μ, ρ, st, ok, er, ?_⟩
  unfold sSeq at h
  cases hf : f ρ st with
  | exc c fs s => rw [hf] at h; exact h
  | bad => rw [hf] at h; exact h
  | ok r s1 =>
    rw [hf] at h
    obtain ⟨fl, ρ1⟩ := r
    cases fl with
    | next => exact fun n1 μ1 H1 σ1 ok1 l1 er1 => ⟨n1, μ1, ρ1, s1, ok1, er1, outS.le h l1⟩
    | brk => exact h
    | ret t => exact h
theorem x_exp (he : SX X D E e fe) (hs : swapsWith e none pos.line X.env = pure false := by rfl) : SSX X D E (.Expr e pos) (sExp fe) := PS_imp (ps_expr he hs) fun Z σ H ⟨n, μ, ρ, st, ok, er, h⟩ => by
  refine ⟨n, μ, ρ, st, ok, er, ?_⟩
  unfold sExp at h
  cases hf : fe ρ st with
  | exc c fs s => rw [hf] at h; exact h
  | bad => rw [hf] at h; exact h
  | ok t s1 =>
    rw [hf] at h
    have h : fin D n μ H (.next, ρ) s1 Z := h
    exact fun n1 μ1 H1 y ok1 l1 r1 f1 => h n1 μ1 H1 σ ok1 l1 (er.mono l1)
theorem x_ret (he : SX X D E e fe) : SSX X D E (.Return (some e) pos) (sRet fe) := PS_imp (ps_ret he) fun Z σ H ⟨n, μ, ρ, st, ok, er, h⟩ => by
  refine ⟨n, μ, ρ, st, ok, er, ?_⟩
  unfold sRet at h
  cases hf : fe ρ st with
  | exc c fs s => rw [hf] at h; exact h
  | bad => rw [hf] at h; exact h
  | ok t s1 => rw [hf] at h; exact h
theorem x_ifS {t : Tst} (hc : ST X D c t) [i : NXt t] (ha : SSsX X D E as f) (hb : SSsX X D E bs g) : SSX X D E (.If c as bs pos) (sIf t f g) := PS_imp (ps_if hc ha hb) fun Z σ H ⟨n, μ, ρ, st, ok, er, h⟩ => by
  unfold sIf at h
  cases ht : t ρ st with
  | exc c fs s => exact absurd ht (i.nx _ _ _ _ _)
  | bad => rw [ht] at h; exact h.elim
  | ok b s1 =>
    rw [ht] at h
    refine ⟨n, μ, ρ, st, b, s1, ok, er, ht, fun n1 μ1 H1 ok1 l1 => ?_⟩
    cases b with
    | true => exact ⟨n1, μ1, ρ, s1, ok1, er.mono l1, outS.le h l1⟩
    | false => exact ⟨n1, μ1, ρ, s1, ok1, er.mono l1, outS.le h l1⟩
theorem asgX_rd {is : List Nat} {t : Tgt} [i : NXg t] {Z : Ends} {σ : L2.St} {H : Hp} (h : rSX D E (sAsg t fe) Z σ H) : tAsg (rX D E fe) (rG D is t) Z σ H := by
  obtain ⟨n, μ, ρ, st, ok, er, h⟩ := h
  refine ⟨n, μ, ρ, st, ok, er, ?_⟩
  unfold sAsg at h
  cases hf : fe ρ st with
  | exc c fs s => rw [hf] at h; exact h
  | bad => rw [hf] at h; exact h
  | ok x s1 =>
    rw [hf] at h
    have h : outS D n μ H ((mat x s1).bind fun y s => (t y ρ s).bind fun ρ s => .ok (.next, ρ) s) Z E := h
    intro n1 μ1 H1 y1 ok1 l1 r1 f1
    cases hm : mat x s1 with
    | exc c fs s => exact absurd hm (ne_mat _ _ _ _ _)
    | bad => rw [hm] at h; exact h.elim
    | ok y s2 =>
      rw [hm] at h
      obtain ⟨n2, μ2, ok2, l2, r2, tr, hn, hmu⟩ := mat_ok hm ok1 l1 r1 f1
      have h : outS D n μ H ((t y ρ s2).bind fun ρ s => .ok (.next, ρ) s) Z E := h
      cases ht : t y ρ s2 with
      | exc c fs s => exact absurd ht (i.nx _ _ _ _ _ _)
      | bad => rw [ht] at h; exact h.elim
      | ok ρ' s3 =>
        rw [ht] at h
        have h : fin D n μ H (.next, ρ') s3 Z := h
        exact ⟨n2, μ2, ρ, s2, y, ρ', _, ok2, er.mono l2, r2, ht, fun n3 μ3 H3 σ3 ok3 l3 er3 _ => h n3 μ3 H3 σ3 ok3 (l2.trans l3) er3⟩
theorem x_asg {is : List Nat} {t : Tgt} (he : SX X D E e fe) (hg : SG X D tg is t) [NXg t] (hs : swapsWithSole [tg] e pos.line X.env = pure false := by rfl) (hw : swappedStores [tg] e X.env = pure none := by rfl)
    (h1 : (assignEach [tg] X.env).map (·.2) = [assign tg X.env] := by rfl) : SSX X D E (.Assign [tg] e pos) (sAsg t fe) := PS_imp (ps_asg he hg hs hw h1) fun _ _ _ h => asgX_rd h
theorem tAsg_nm {te : TE} {i : Nat} {Z : Ends} {σ : L2.St} {H : Hp} (hm : ∀ (Q Q' : VK), (∀ v H', Q v H' → Q' v H') → te σ H Q → te σ H Q') (h : tAsg te (rG D [i] (gV i)) Z σ H) : tAsg te (gName i) Z σ H := hm _ _ (fun v H' q => nameG q) h
theorem rX_mono {σ : L2.St} {H : Hp} {Q Q' : VK} (hq : ∀ v H', Q v H' → Q' v H') (h : rX D E fe σ H Q) : rX D E fe σ H Q' := by
  obtain ⟨n, μ, ρ, st, ok, er, h⟩ := h
  refine ⟨n, μ, ρ, st, ok, er, ?_⟩
  cases hf : fe ρ st with
  | exc c fs s => rw [hf] at h; exact h
  | bad => rw [hf] at h; exact h
  | ok x s1 => rw [hf] at h; exact fun n1 μ1 H1 y ok1 l1 r1 f1 => hq _ _ (h n1 μ1 H1 y ok1 l1 r1 f1)
theorem x_set [C : Cok X D] {i : Nat} {x : Str} (hi : X.N[i]? = some x) (hx : Loc X.env.scope x) (he : SX X D E e fe) (hs : swapsWith e (some (.Name x p)) pos.line X.env = pure false := by rfl) (hf : X.fn x = true ∨ X.env.scope.names.lookup x = some .local := by first | exact .inl rfl | exact .inr rfl | assumption) :
    SSX X D E (.Assign [.Name x p] e pos) (sAsg (gV i) fe) := PS_imp (ps_set C.nd hi hx he hs hf) fun _ _ _ h => tAsg_nm (fun Q Q' hq q => rX_mono hq q) (asgX_rd h)
theorem x_fld [C : Cok X D] [W : Wok D] {cs : List Nat} {i : Nat} {z : Str} (F : CF D cs i z) (ho : SE X D o fo) [io : NXe fo] (he : SX X D E e fe) (hs : swapsWith e (some (.Attribute o z p)) pos.line X.env = pure false := by rfl) :
    SSX X D E (.Assign [.Attribute o z p] e pos) (sFld cs fo i fe) := PS_imp (ps_fld ho he hs) fun Z σ H ⟨n, μ, ρ, st, ok, er, h⟩ => by
  refine ⟨n, μ, ρ, st, ok, er, ?_⟩
  unfold sFld at h
  cases hf : fe ρ st with
  | exc c fs s => rw [hf] at h; exact h
  | bad => rw [hf] at h; exact h
  | ok t s1 =>
    rw [hf] at h
    intro n1 μ1 H1 y1 ok1 l1 r1 f1
    have h : outS D n μ H ((mat t s1).bind fun y s => (fo ρ s).bind fun x s => match refI cs x s with
      | some (n, c, fs) => if fs.length < 1000 then .ok (.next, ρ) (s.set n (.ins c (putF i y fs))) else .bad
      | none => .bad) Z E := h
    cases hm : mat t s1 with
    | exc c fs s => exact absurd hm (ne_mat _ _ _ _ _)
    | bad => rw [hm] at h; exact h.elim
    | ok y s2 =>
      rw [hm] at h
      obtain ⟨n2, μ2, ok2, l2, r2, tr, hn, hmu⟩ := mat_ok hm ok1 l1 r1 f1
      have h : outS D n μ H ((fo ρ s2).bind fun x s => match refI cs x s with
        | some (n, c, fs) => if fs.length < 1000 then .ok (.next, ρ) (s.set n (.ins c (putF i y fs))) else .bad
        | none => .bad) Z E := h
      cases h3 : fo ρ s2 with
      | exc c fs s => exact absurd h3 (io.nx _ _ _ _ _)
      | bad => rw [h3] at h; exact h.elim
      | ok x s3 =>
        rw [h3] at h
        refine ⟨n2, μ2, ρ, s2, x, s3, ok2, er.mono l2, h3, fun n3 μ3 H3 x3 ok3 l3 r3 f3 => ?_⟩
        have h : outS D n μ H (match refI cs x s3 with
          | some (n, c, fs) => if fs.length < 1000 then .ok (.next, ρ) (s3.set n (.ins c (putF i y fs))) else .bad
          | none => .bad) Z E := h
        cases h4 : refI cs x s3 with
        | none => simp only [h4] at h; exact h.elim
        | some pr =>
          obtain ⟨k, c, fs⟩ := pr
          simp only [h4] at h
          by_cases hl : fs.length < 1000
          · rw [if_pos hl] at h
            have q : fin D n μ H (.next, ρ) (s3.set k (.ins c (putF i y fs))) Z := h
            obtain ⟨rfl, rfl, hk, hst, hc, dx, gs, hH, hg⟩ := refI_ok ok3 r3 h4
            obtain ⟨c1, c2⟩ := F.cl c hc
            have kt : ∀ u a zs, H3 a = some (.tup zs) → upd H3 (μ3 k) u a = some (.tup zs) := fun u a zs e => by
              rw [upd_ne fun z => ?_]; exact e
              rw [← z, e] at hH; cases hH
            obtain ⟨ok4, l4⟩ := ok3.set (k := k) (o := .ins c (putF i y fs)) (u := .ins (D.C c) dx (L2.putF z y1 gs)) hk
              ⟨dx, _, upd_same, (FsR.put F.nm (r2.mono l3) hg).mono (Nat.le_refl _) (fun _ _ => rfl) (kt _)⟩
            refine ⟨_, _, dx, gs, rfl, hH, ?_, ?_, by rw [← hg.length]; exact hl, q n3 μ3 _ σ ok4 (l2.trans (l3.trans l4)) (er.mono (l2.trans (l3.trans l4)))⟩
            · rw [C.hK]; exact c1
            · rw [C.hK]; exact c2
          · rw [if_neg hl] at h; exact h.elim
theorem x_for [C : Cok X D] [O : Own X] {ix : Ix} {is : List Nat} {g : Tgt} (hi : SI X D tg iter ix) [ii : NXi ix] (hg : SG X D tg is g) [ig : NXg g] (hb : SSsX X D E as f) (hs : ∀ x, foldedSetIterable iter X.env x = pure x := by intro _; rfl) :
    SSX X D E (.For tg iter as [] pos) (sFor ix g f) := PS_imp (ps_for O.own C.calm hi hg hb hs) fun Z σ H ⟨n, μ, ρ, st, ok, er, h⟩ => by
  unfold sFor at h
  cases h1 : ix ρ st with
  | exc c fs s => exact absurd h1 (ii.nx _ _ _ _ _)
  | bad => rw [h1] at h; exact h.elim
  | ok its s1 =>
    rw [h1] at h
    refine ⟨n, μ, ρ, st, its, s1, ok, er, h1, fun n1 μ1 H1 J ok1 l1 itr => ?_⟩
    have h : outS D n μ H (match its s1 with | some xs => forGo its g f (xs.length + 1) 0 ρ s1 | none => .bad) Z E := h
    cases h2 : its s1 with
    | none => rw [h2] at h; exact h.elim
    | some xs =>
      rw [h2] at h
      refine ⟨fun i m σ2 H2 => ∃ n2 μ2 ρ2 st2, Ok D n2 μ2 H2 st2 ∧ EnvR D n2 μ2 H2 ρ2 σ2 ∧ ItR D n2 μ2 H2 its J ∧ outS D n2 μ2 H2 (forGo its g f m i ρ2 st2) Z E, ⟨_, n1, μ1, ρ, s1, ok1, er.mono l1, itr, outS.le h l1⟩, ?_⟩
      rintro i m σ2 H2 ⟨n2, μ2, ρ2, st2, ok2, er2, itr2, q2⟩
      cases m with
      | zero => exact q2.elim
      | succ m =>
        unfold forGo at q2
        cases h3 : its st2 with
        | none => rw [h3] at q2; exact q2.elim
        | some xs =>
          rw [h3] at q2
          obtain ⟨k1, k2⟩ := itr2 n2 μ2 H2 st2 ok2 (Le.refl _ _ _) xs h3 i
          cases h4 : xs[i]? with
          | none =>
            simp only [h4] at q2
            exact .inl ⟨k2 h4, q2 n2 μ2 H2 σ2 ok2 (Le.refl _ _ _) er2⟩
          | some x =>
            simp only [h4] at q2
            cases h5 : g x ρ2 st2 with
            | exc c fs s => exact absurd h5 (ig.nx _ _ _ _ _ _)
            | bad => rw [h5] at q2; exact q2.elim
            | ok ρ3 s3 =>
              rw [h5] at q2
              have q2 : outS D n2 μ2 H2 ((f ρ3 s3).bind fun r s => match r with
                | (.next, ρ) => forGo its g f m (i + 1) ρ s
                | (.brk, ρ) => .ok (.next, ρ) s
                | r => .ok r s) Z E := q2
              obtain ⟨go, yl⟩ := k1 x h4
              refine .inr ⟨go, fun σ5 H5 => ∃ n5 μ5 ρ5 st5, Ok D n5 μ5 H5 st5 ∧ EnvR D n5 μ5 H5 ρ5 σ5 ∧ ItR D n5 μ5 H5 its J ∧ outS D n5 μ5 H5 (forGo its g f m (i + 1) ρ5 st5) Z E, fun σ' H' h => ⟨m, Nat.lt_succ_self m, h⟩, fun y H3 hy => ?_⟩
              obtain ⟨ok3, l3, r3⟩ := yl y H3 hy
              refine ⟨n2, μ2, ρ2, st2, x, ρ3, s3, ok3, er2.mono l3, r3, h5, fun n4 μ4 H4 σ4 ok4 l4 er4 _ => ?_⟩
              have l34 := l3.trans l4
              refine ⟨n4, μ4, ρ3, s3, ok4, er4, ?_⟩
              cases h6 : f ρ3 s3 with
              | exc c fs s => rw [h6] at q2; exact xin.le q2 l34
              | bad => rw [h6] at q2; exact q2
              | ok r s4 =>
                rw [h6] at q2
                obtain ⟨fl, ρ4⟩ := r
                cases fl with
                | next => exact fun n5 μ5 H5 σ5 ok5 l5 er5 => ⟨n5, μ5, ρ4, s4, ok5, er5, itr2.le (l34.trans l5), outS.le q2 (l34.trans l5)⟩
                | brk =>
                  have q2 : fin D n2 μ2 H2 (.next, ρ4) s4 Z := q2
                  exact fun n5 μ5 H5 σ5 ok5 l5 er5 => q2 n5 μ5 H5 σ5 ok5 (l34.trans l5) er5
                | ret t =>
                  have q2 : Ans D n2 μ2 H2 t s4 Z.rt := q2
                  exact Ans.le q2 l34
end

/-! ### raise -/
/-- the __init__ of an error: one field | two -/
def spI1 (C : Addr) (f : Str) : Sp := fun vs H Q _ => ∃ a y, vs = [V.ref a, y] ∧ H a = some (exo a C none) ∧ ∀ dx, H dx = none → dx ≠ a → Q .non (upd (upd H dx (exd dx [(f, y)])) a (exo a C (some dx)))
def spI2 (C : Addr) (f g : Str) : Sp := fun vs H Q _ => ∃ a y z, vs = [V.ref a, y, z] ∧ H a = some (exo a C none) ∧ ∀ dx, H dx = none → dx ≠ a → Q .non (upd (upd (upd H dx (exd dx [(f, y)])) a (exo a C (some dx))) dx (exd dx [(g, z), (f, y)]))
/-- an error class with an own __init__ -/
structure ErrC (P : Program) (w : World) (K : PySem.W.Frag) (mg : Str → Option Value) (base : Heap) (D : Wd) (k : Nat) (x : Str) (c : Nat) (np : Nat) (sp : Sp) : Prop where
  ex : ∃ fI fd ps, mg x = some (.ref (D.C c)) ∧ OexC K (D.C c) ∧ PySem.W.findIn K (.ref (D.C c)) "__init__" = some (some (.ref fI)) ∧ PySem.W.typeIn K (.ref fI) = some (.type "function") ∧ L2.Binds K fd ps [] ∧ FnOk P w K mg base C8.CX0 k fI fd ps sp
  db : (x == ("__debug__" : Str)) = false
/-- an error class without -/
structure Err0 (K : PySem.W.Frag) (mg : Str → Option Value) (D : Wd) (x : Str) (c : Nat) : Prop where
  gC : mg x = some (.ref (D.C c))
  q : PySem.W.excIn K (D.C c) PySem.HandSPX.veTail "ValueError.__new__" = true
  kC : PySem.W.keepIn K (.ref (D.C c)) = true
  exC : PySem.W.subIn K (.ref (D.C c)) (.type "BaseException") = some true
  tyC : PySem.W.typeIn K (.ref (D.C c)) = some (.type "type")
  db : (x == ("__debug__" : Str)) = false
end VI
end
section
set_option Elab.async false
set_option linter.all false
set_option maxRecDepth 100000
set_option maxHeartbeats 4000000
/-! VI29: raise; defs that may let an exception out. -/
namespace VI
open PySem PySem.Spec PyProof.Rows L2
section
variable {X : Cx} {D : Wd} {E : XK} {e e2 : Expr} {fe fg : Ev} {pos pos' p : Pos} {x : Str} {c f g k : Nat} {zf zg : Str}
theorem pmk_own0 {C : Addr} (q : PySem.W.excIn X.K C PySem.HandSPX.veTail "ValueError.__new__" = true) (gC : X.mg x = some (.ref C)) (kC : PySem.W.keepIn X.K (.ref C) = true) (r : Raises X (.ref C)) (hg : Gl X x) (hdb : (x == ("__debug__" : Str)) = false) :
    PMk X (.Call (.Name x p) [] [] pos) (fun _ H Q => Q (.ref C) none H) := fun pins s σ H Q I h => by
  refine wpAny_Call_Name_kw (ld_glob I hg gC ?_ hdb)
  obtain ⟨hp, gn, dr, tk, os⟩ := s
  refine PySem.W.callWith_K0 I.kIn kC ?_
  obtain ⟨bm, N, nm, qn, bs, hdct, sn, sub, ab, col, dd, k0, k1, k2, k3, k5, mN, hC, hN, hni, T⟩ := exc_obj I.kIn q
  exact wpAny_call_exc_subT PySem.F.excBase_ValueError T hC hN hni (fun h' a mk => mk_of I mk r h (I.hok.gone mk.new)) (Nat.zero_le _)
theorem x_raise0 [C : Cok X D] [L : Lets X E] (d : Err0 X.K X.mg D x c) (hg : Gl X x) : SSX X D E (.Raise (some (.Call (.Name x p) [] [] pos)) none pos') (sRaise0 c) :=
  PS_imp (ps_raise C.calm L.tk (pmk_own0 d.q d.gC d.kC (raises_own d.exC d.tyC) hg d.db)) fun Z σ H ⟨n, μ, ρ, st, ok, er, h⟩ => by
    have h : xin D n μ H c [] st E := h
    exact h n μ H none ok (Le.refl _ _ _) (.inl rfl)
/-- what the heap is behind the making -/
theorem upd_err {H : Hp} {a dx : Addr} {o1 o2 o3 u v : HO} (ha : H a = none) (hd : dx ≠ a) : upd (del (upd (upd (upd H a o1) dx o2) a o3) a) dx u = upd H dx u := by
  funext b
  by_cases h1 : b = dx
  · subst h1; rw [upd_same, upd_same]
  · rw [upd_ne h1, upd_ne h1]
    by_cases h2 : b = a
    · subst h2; rw [del_same, ha]
    · rw [del_ne h2, upd_ne h2, upd_ne h1, upd_ne h2]
theorem upd_err2 {H : Hp} {a dx : Addr} {o1 o2 o3 o4 u : HO} (ha : H a = none) (hd : dx ≠ a) : upd (del (upd (upd (upd (upd H a o1) dx o2) a o3) dx o4) a) dx u = upd H dx u := by
  funext b
  by_cases h1 : b = dx
  · subst h1; rw [upd_same, upd_same]
  · rw [upd_ne h1, upd_ne h1]
    by_cases h2 : b = a
    · subst h2; rw [del_same, ha]
    · rw [del_ne h2, upd_ne h1, upd_ne h2, upd_ne h1, upd_ne h2]
theorem x_raise1 [C : Cok X D] [L : Lets X E] (d : ErrC X.prog X.w X.K X.mg X.base D k x c 2 (spI1 (D.C c) zf)) (hr : Room (k + 1) X.A) (hg : Gl X x) (hf : D.S[f]? = some zf) (he : SE X D e fe) [ie : NXe fe] (hs : starEach [e] X.env = (false, eval e X.env) :: starEach [] X.env := by rfl) (hpl : (backTo pos (starEach [] X.env)).any (·.1) = false := by rfl) :
    SSX X D E (.Raise (some (.Call (.Name x p) [e] [] pos)) none pos') (sRaise1 c f fe) := by
  obtain ⟨fI, fd, ps, h1, T, h2, h3, h4, h5⟩ := d.ex
  refine PS_imp (ps_raise C.calm L.tk (pmk_oex (dvs := []) (ds := []) T h2 h3 h5 hr h4 .nil (C8.pass0 (E := fun _ _ _ => False)) hg h1 (pa_cons he pa_nil hs) d.db hs hpl)) fun Z σ H ⟨n, μ, ρ, st, ok, er, h⟩ => ?_
  unfold sRaise1 at h
  cases hfe : fe ρ st with
  | exc c fs s => exact absurd hfe (ie.nx _ _ _ _ _)
  | bad => rw [hfe] at h; exact h.elim
  | ok t s1 =>
    rw [hfe] at h
    have h : outS D n μ H ((mat t s1).bind fun x s => .exc c [.str f, x] s) Z E := h
    refine ⟨n, μ, ρ, st, t, s1, ok, er, hfe, fun n1 μ1 H1 y1 ok1 l1 r1 f1 => ?_⟩
    cases hm : mat t s1 with
    | exc c fs s => exact absurd hm (ne_mat _ _ _ _ _)
    | bad => rw [hm] at h; exact h.elim
    | ok v s2 =>
      rw [hm] at h
      obtain ⟨n2, μ2, ok2, l2, r2, tr, hn, hmu⟩ := mat_ok hm ok1 l1 r1 f1
      have h : xin D n μ H c [.str f, v] s2 E := h
      refine ⟨by show 1 ≤ 1000; omega, fun a ha => ⟨a, y1, rfl, upd_same, fun dx hdx ne => ⟨rfl, dx, [(zf, y1)], upd_same, ?_, ?_, ?_⟩⟩⟩
      · rw [upd_ne ne, upd_same]
      · rw [upd_ne ne] at hdx; exact hdx
      · rw [upd_ne ne] at hdx
        rw [upd_err (v := .xd []) ha ne]
        obtain ⟨ok3, l3⟩ := ok2.upd (u := .xd [(zf, y1)]) hdx
        exact h n2 μ2 _ (some dx) ok3 (l2.trans l3) (.inr ⟨dx, [(zf, y1)], rfl, upd_same, .cons hf (r2.mono l3) .nil, ok2.fresh hdx⟩)
theorem x_raise2 [C : Cok X D] [L : Lets X E] (d : ErrC X.prog X.w X.K X.mg X.base D k x c 3 (spI2 (D.C c) zf zg)) (hr : Room (k + 1) X.A) (hg : Gl X x) (hf : D.S[f]? = some zf) (hgg : D.S[g]? = some zg) (he : SE X D e fe) [ie : NXe fe] (he2 : SE X D e2 fg) [ie2 : NXe fg] (hs2 : starEach [e2] X.env = (false, eval e2 X.env) :: starEach [] X.env := by rfl)
    (hs : starEach [e, e2] X.env = (false, eval e X.env) :: starEach [e2] X.env := by rfl) (hpl : (backTo pos (starEach [e2] X.env)).any (·.1) = false := by rfl) :
    SSX X D E (.Raise (some (.Call (.Name x p) [e, e2] [] pos)) none pos') (sRaise2 c f g fe fg) := by
  obtain ⟨fI, fd, ps, h1, T, h2, h3, h4, h5⟩ := d.ex
  refine PS_imp (ps_raise C.calm L.tk (pmk_oex (dvs := []) (ds := []) T h2 h3 h5 hr h4 .nil (C8.pass0 (E := fun _ _ _ => False)) hg h1 (pa_cons he (pa_cons he2 pa_nil hs2) hs) d.db hs hpl)) fun Z σ H ⟨n, μ, ρ, st, ok, er, h⟩ => ?_
  unfold sRaise2 at h
  cases hfe : fe ρ st with
  | exc c fs s => exact absurd hfe (ie.nx _ _ _ _ _)
  | bad => rw [hfe] at h; exact h.elim
  | ok t s1 =>
    rw [hfe] at h
    have h : outS D n μ H ((mat t s1).bind fun x s => (fg ρ s).bind fun t s => (mat t s).bind fun y s => .exc c [.str g, y, .str f, x] s) Z E := h
    refine ⟨n, μ, ρ, st, t, s1, ok, er, hfe, fun n1 μ1 H1 y1 ok1 l1 r1 f1 => ?_⟩
    cases hm : mat t s1 with
    | exc c fs s => exact absurd hm (ne_mat _ _ _ _ _)
    | bad => rw [hm] at h; exact h.elim
    | ok v s2 =>
      rw [hm] at h
      obtain ⟨n2, μ2, ok2, l2, r2, tr, hn, hmu⟩ := mat_ok hm ok1 l1 r1 f1
      have h : outS D n μ H ((fg ρ s2).bind fun t s => (mat t s).bind fun y s => .exc c [.str g, y, .str f, v] s) Z E := h
      cases hfg : fg ρ s2 with
      | exc c fs s => exact absurd hfg (ie2.nx _ _ _ _ _)
      | bad => rw [hfg] at h; exact h.elim
      | ok t' s3 =>
        rw [hfg] at h
        have h : outS D n μ H ((mat t' s3).bind fun y s => .exc c [.str g, y, .str f, v] s) Z E := h
        refine ⟨n2, μ2, ρ, s2, t', s3, ok2, er.mono l2, hfg, fun n3 μ3 H3 y3 ok3 l3 r3 f3 => ?_⟩
        cases hm3 : mat t' s3 with
        | exc c fs s => exact absurd hm3 (ne_mat _ _ _ _ _)
        | bad => rw [hm3] at h; exact h.elim
        | ok v3 s4 =>
          rw [hm3] at h
          obtain ⟨n4, μ4, ok4, l4, r4, tr4, hn4, hmu4⟩ := mat_ok hm3 ok3 l3 r3 f3
          have h : xin D n μ H c [.str g, v3, .str f, v] s4 E := h
          refine ⟨by show 2 ≤ 1000; omega, fun a ha => ⟨a, y1, y3, rfl, upd_same, fun dx hdx ne => ⟨rfl, dx, [(zg, y3), (zf, y1)], ?_, upd_same, ?_, ?_⟩⟩⟩
          · rw [upd_ne (Ne.symm ne), upd_same]
          · rw [upd_ne ne] at hdx; exact hdx
          · rw [upd_ne ne] at hdx
            rw [upd_err2 ha ne]
            obtain ⟨ok5, l5⟩ := ok4.upd (u := .xd [(zg, y3), (zf, y1)]) hdx
            exact h n4 μ4 _ (some dx) ok5 (l2.trans (l4.trans l5)) (.inr ⟨dx, [(zg, y3), (zf, y1)], rfl, upd_same, .cons hgg (r4.mono l5) (.cons hf ((r2.mono l4).mono l5) .nil), ok4.fresh hdx⟩)
end

section
variable {P : Program} {w : World} {K : PySem.W.Frag} {mg : Str → Option Value} {base : Heap} {D : Wd} {N ps : List Str} {qual : Str} {scope : Scope} {f : Addr} {S : List Str} {Cn : Nat → Str} {T : List (Addr × Str)}
/-- a def that may let an exception out -/
theorem fnX_ok {x : Str} {params : Arguments} {body : List Stmt} {dvs : List V} {kws : List (Str × V)} {fd : FuncData} {k np nl : Nat} {g : Sx} (F : FunD K x qual params body scope dvs kws f fd) (Sc : C8.scC N ps scope = true) (hnp : ps.length = np) (hnl : N.length = nl)
    (hb : ∀ (cdv : Value) (A : Around) (outer : List PySem.Env) (s : Shared) (H : Hp) (E : XK), Room k (A.deeper (envOfC qual scope s.heap.objs.size f cdv)) → Cok (cxOf (L2.CX P w) P w K mg base N qual scope f cdv A outer s H E) (mkW S Cn K T none) →
      SSsX (cxOf (L2.CX P w) P w K mg base N qual scope f cdv A outer s H E) (mkW S Cn K T none) E body g) :
    FnOk P w K mg base (L2.CX P w) (k + 1) f fd ps (spX (mkW S Cn K T none) np (fnOf np nl g)) := by
  refine F.ok (C8.fnScope_by Sc) (fun vs H Q E h => by rw [h.1, hnp]) fun cdv A outer s H vs Q E hr h => ⟨_, hb cdv A outer s H E hr ⟨rfl, rfl, (C8.fnScope_by Sc).nd⟩, ?_⟩
  obtain ⟨h0, n, μ, st, as, ok, r, an⟩ := h
  unfold fnOf at an
  have hl : as.length = np := by rw [r.length, h0]
  rw [if_pos hl] at an
  refine ⟨n, μ, as.map some ++ List.replicate (nl - np) none, st, ok, ?_, ?_⟩
  · have e : N.length - vs.length = nl - np := by rw [hnl, h0]
    unfold L2.start
    rw [e]
    exact startR rfl r _
  · cases hg : g (as.map some ++ List.replicate (nl - np) none) st with
    | exc c fs s => rw [hg] at an; exact an
    | bad => rw [hg] at an; exact an
    | ok q s1 =>
      rw [hg] at an
      obtain ⟨fl, ρ⟩ := q
      cases fl with
      | next =>
        have an : Ans (mkW S Cn K T none) n μ H (.v .non) s1 Q := an
        exact fun n' μ' H' σ' ok' l' er' => an n' μ' H' .non ok' l' .non trivial
      | ret t => exact an
      | brk => exact an.elim
/-- the __init__ of an error -/
theorem init1_ok {params : Arguments} {fd : FuncData} {q : Str} {C : Addr} {zf : Str} {n1 : Pos} {p1 p2 p3 : Pos} (TC : OexC K C) (hno : PySem.W.findIn K (.ref C) zf = some none) (F : FunD K "__init__" q params [.Assign [.Attribute (.Name "self" p1) zf p2] (.Name zf p3) n1] scope [] [] f fd) (Sc : C8.scC ["self", zf] ["self", zf] scope = true)
    (hv1 : Vis scope "self") (hv2 : Vis scope zf) (d1 : (zf == ("__debug__" : Str)) = false) (d2 : (zf == ("__classdict__" : Str)) = false) : FnOk P w K mg base C8.CX0 1 f fd ["self", zf] (spI1 C zf) := by
  refine F.ok (C8.fnScope_by Sc) (fun vs H Q E ⟨a, y, e, _⟩ => by rw [e]; rfl) fun cdv A outer s H vs Q E hr h => ⟨_, pss_one (ps_ost (pe_var (i := 0) rfl hv1 (by decide) (by decide)) (pe_var (i := 1) rfl hv2 d1 d2)), ?_⟩
  obtain ⟨a, y, rfl, ha, q⟩ := h
  exact ⟨y, rfl, .ref a, rfl, a, C, rfl, TC, hno, .inl ⟨ha, fun dx n ne => q dx n ne⟩⟩
theorem init2_ok {params : Arguments} {fd : FuncData} {q : Str} {C : Addr} {zf zg : Str} {n1 n2 : Pos} {p1 p2 p3 p4 p5 p6 : Pos} (TC : OexC K C) (hno : PySem.W.findIn K (.ref C) zf = some none) (hno2 : PySem.W.findIn K (.ref C) zg = some none)
    (F : FunD K "__init__" q params [.Assign [.Attribute (.Name "self" p1) zf p2] (.Name zf p3) n1, .Assign [.Attribute (.Name "self" p4) zg p5] (.Name zg p6) n2] scope [] [] f fd) (Sc : C8.scC ["self", zf, zg] ["self", zf, zg] scope = true)
    (hv1 : Vis scope "self") (hv2 : Vis scope zf) (hv3 : Vis scope zg) (d1 : (zf == ("__debug__" : Str)) = false) (d2 : (zf == ("__classdict__" : Str)) = false) (d3 : (zg == ("__debug__" : Str)) = false) (d4 : (zg == ("__classdict__" : Str)) = false) : FnOk P w K mg base C8.CX0 1 f fd ["self", zf, zg] (spI2 C zf zg) := by
  refine F.ok (C8.fnScope_by Sc) (fun vs H Q E ⟨a, y, z, e, _⟩ => by rw [e]; rfl) fun cdv A outer s H vs Q E hr h => ⟨_, pss_cons (ps_ost (pe_var (i := 0) rfl hv1 (by decide) (by decide)) (pe_var (i := 1) rfl hv2 d1 d2)) (pss_one (ps_ost (pe_var (i := 0) rfl hv1 (by decide) (by decide)) (pe_var (i := 2) rfl hv3 d3 d4))), ?_⟩
  obtain ⟨a, y, z, rfl, ha, q⟩ := h
  refine ⟨y, rfl, .ref a, rfl, a, C, rfl, TC, hno, .inl ⟨ha, fun dx n ne => ?_⟩⟩
  exact ⟨z, rfl, .ref a, rfl, a, C, rfl, TC, hno2, .inr ⟨dx, [(zf, y)], upd_same, by rw [upd_ne ne, upd_same], by simp, q dx n ne⟩⟩
end
end VI
end
section
set_option Elab.async false
set_option linter.all false
set_option maxRecDepth 100000
set_option maxHeartbeats 4000000
/-! VI30: try with several clauses, with and without names. -/
namespace VI
open PySem PySem.Spec PyProof.Rows L2
/-- a clause: its class, its name's slot, its suite -/
structure HK where
  c : Value
  sl : Option Nat
  ts : Addr → Value → Option Addr → TS
/-- the ends of a suite: the name goes -/
def offE (sl : Option Nat) (Z : Ends) : Ends := match sl with
  | none => Z
  | some i => { nx := fun σ H => Z.nx (σ.set i none) H, rt := Z.rt, bk := fun σ H => Z.bk (σ.set i none) H, ct := fun σ H => Z.ct (σ.set i none) H }
def onE (sl : Option Nat) (a : Addr) (σ : L2.St) : L2.St := match sl with
  | none => σ
  | some i => σ.set i (some (.ref a))
def wMix (K : PySem.W.Frag) (Wo : WX) (Z : Ends) : List HK → WX
  | [] => Wo
  | h :: r => fun cls d σ H => ∃ b, PySem.W.exmOne K cls h.c = some b ∧ (b = true → ∀ a, H a = none → h.ts a cls d (offE h.sl Z) (onE h.sl a σ) H) ∧ (b = false → wMix K Wo Z r cls d σ H)
abbrev SuOk (X : Cx) (b : List Stmt) (ts : Addr → Value → Option Addr → TS) : Prop :=
  ∀ (a : Addr) (oe : Obj) (cls : Value) (d : Option Addr) (pn : List (Addr × Obj)), Zc cls d oe → (∃ us, oe.data = .fields us) → PSs (X.suite a ((a, oe) :: pn)) b (ts a cls d)
inductive Hks (X : Cx) : List ExceptHandler → List HK → Prop
  | nil : Hks X [] []
  | un {x : Str} {c : Value} {ts : Addr → Value → Option Addr → TS} {b₀ : Stmt} {bs : List Stmt} {p q : Pos} {hs : List ExceptHandler} {l : List HK} (hc : Names X x c) (hsu : SuOk X (b₀ :: bs) ts) (r : Hks X hs l) :
      Hks X (.ExceptHandler (some (.Name x p)) none (b₀ :: bs) q :: hs) (⟨c, none, ts⟩ :: l)
  | as {x n : Str} {i : Nat} {c : Value} {ts : Addr → Value → Option Addr → TS} {b₀ : Stmt} {bs : List Stmt} {p q : Pos} {hs : List ExceptHandler} {l : List HK} (hc : Names X x c) (hi : X.N[i]? = some n) (hn : X.env.kindOf n = some .local) (hsu : SuOk X (b₀ :: bs) ts) (r : Hks X hs l) :
      Hks X (.ExceptHandler (some (.Name x p)) (some n) (b₀ :: bs) q :: hs) (⟨c, some i, ts⟩ :: l)
/-- an exception that has come down -/
structure Down (X : Cx) (pins : List (Addr × Obj)) (σ : L2.St) (H : Hp) (a : Addr) (cls : Value) (d : Option Addr) (B : Heap) (sI s : Shared) : Prop where
  J : Inv X pins σ H sI
  nb : ∀ b o, sI.heap.get? b = some o → b ∉ frs X.stack → B.get? b = some o
  up : sI.heap.UpToSlots s.heap
  fl : HandSPX.FlyingZ B (X.env :: X.outer) a (Zc cls d) s.heap
  na : H a = none
  os : s.os = sI.os
  ag : AllBare s.gens
section
variable {X : Cx} {pins : List (Addr × Obj)} {σ : L2.St} {H : Hp} {a : Addr} {cls : Value} {d : Option Addr} {B : Heap} {sI s : Shared} {Z : Ends} {Wo : WX}
theorem Down.inv (w : Down X pins σ H a cls d B sI s) : Inv X pins σ H s := w.J.landed w.nb w.fl.1 w.up w.os w.ag
theorem Down.moved (w : Down X pins σ H a cls d B sI s) {h' : Heap} (fl : HandSPX.FlyingZ B (X.env :: X.outer) a (Zc cls d) h') (up : s.heap.UpToSlots h') : Down X pins σ H a cls d B sI { s with heap := h' } :=
  ⟨w.J, w.nb, w.up.trans up, fl, w.na, w.os, w.ag⟩
/-- its object; it is no frame of ours -/
theorem Down.obj (w : Down X pins σ H a cls d B sI s) (hs : X.stack = X.env :: X.outer) (hf : X.env.frame = some X.env.locals) :
    ∃ oe us, s.heap.get? a = some oe ∧ Zc cls d oe ∧ oe.data = .fields us ∧ a ≠ X.env.locals ∧ a ∉ X.fs := by
  obtain ⟨oe, us, e1, e2, e3⟩ := w.fl.there
  have no : a ∉ frs (X.env :: X.outer) := fun hm => by
    obtain ⟨_, o', e', nf⟩ := w.fl.2.2.1.mem hm
    rw [e1] at e'
    cases e'
    exact nf _ e3
  refine ⟨oe, us, e1, e2, e3, fun z => no ?_, fun hm => no ?_⟩
  · exact List.mem_filterMap.mpr ⟨X.env, List.mem_cons_self, by rw [hf, z]⟩
  · obtain ⟨e, he, q⟩ := List.mem_filterMap.mp hm
    exact List.mem_filterMap.mpr ⟨e, List.mem_cons_of_mem _ he, q⟩
/-- a clause's class is named -/
theorem name_at {x : Str} {c : Value} {p : Pos} {Y : Cx} {qins : List (Addr × Obj)} {τ : L2.St} {H' : Hp} {Q E : Value → Shared → Prop} (hc : Names X x c) (e1 : Y.prog = X.prog) (e2 : Y.w = X.w) (e3 : Y.mg = X.mg) (e4 : Y.env = X.env) (I : Inv Y qins τ H' s) (q : Q c s) :
    wpAny (model X.prog X.w) Y.A (eval (.Name x p) X.env) Q E s := by
  obtain ⟨hg, hd, hm | ⟨hm, hv, hn⟩⟩ := hc
  · rw [← e1, ← e2, ← e4]
    exact ld_glob I (by unfold Gl at hg ⊢; rw [e4]; exact hg) (by rw [e3]; exact hm) q hd
  · rw [← e1, ← e2, ← e4]
    exact ld_blt I (by unfold Gl at hg ⊢; rw [e4]; exact hg) (by rw [e3]; exact hm) hv q hn hd
/-- the clauses, one after the other -/
theorem mix_go (hs : X.stack = X.env :: X.outer) (hf : X.env.frame = some X.env.locals) (hN : X.N.Nodup) (tk : Takes X Wo) {hds : List ExceptHandler} {l : List HK} (hk : Hks X hds l) :
    ∀ {s : Shared}, Down X pins σ H a cls d B sI s → wMix X.K Wo Z l cls d σ H → wpAny (model X.prog X.w) X.A (handleBy (.ref a) X.env hds) (SP X pins Z) X.xe s := by
  have part : ∀ {s : Shared}, Down X pins σ H a cls d B sI s → ∀ {x : Str} {c : Value} {p : Pos} {b : Bool} {Q : Bool → Shared → Prop} {E : Value → Shared → Prop}, Names X x c → PySem.W.exmOne X.K cls c = some b → Q b s →
      wpAny (model X.prog X.w) (X.A.mark (some (.ref a))) (eval (.Name x p) X.env) (fun v s' => wpAny (model X.prog X.w) (X.A.mark (some (.ref a))) (excMatches (.ref a) v) Q E s') E s := by
    intro s w x c p b Q E hc he hq
    obtain ⟨oe, us, e1, e2, e3, nL, nF⟩ := w.obj hs hf
    have S := w.inv.suite e1 e3 w.na nL nF
    refine name_at (Y := X.suite a ((a, oe) :: (X.pn ++ pins))) hc rfl rfl rfl rfl S ?_
    have LT : PySem.W.Looks (model X.prog X.w) s.heap (typeOf (.ref a)) cls := fun A Q E s k q => wpAny_typeOf_ref (k _ _ e1) (by rw [e2.1]; exact q)
    exact (PySem.W.exm_one (M := model X.prog X.w) w.inv.kIn LT he).here hq
  induction hk with
  | nil =>
    intro s w q
    refine wpAny_handleBy_nil ?_
    obtain ⟨k1, k2, k3, oe, us, t, ot, vs, e1, e2, e3, e4, e5⟩ := id w.fl
    have last : wpAny (model X.prog X.w) X.A (setFlight (.ref a) X.env.frame) (fun _ s4 => wpAny (model X.prog X.w) X.A (throw (.ref a) : Sem Flow) (SP X pins Z) X.xe s4) X.xe s := by
      rw [hf]
      refine HandSPX.setFlight_upZ w.fl fun h4 held up4 => wpAny_throw (tk _ _ ⟨a, B, sI, pins, σ, H, cls, d, rfl, w.J, w.nb, w.up.trans up4, ?_, w.na, w.os, w.ag, q⟩)
      rw [hs]
      exact .inr (.inr held)
    unfold PySem.passOn
    refine wpAny_bind (wpAny_field e1 e3 e4 ?_)
    rw [if_neg (by simp)]
    first
      | exact wpAny_bind (wpAny_pure (wpAny_bind last))
      | exact wpAny_bind last
  | @un x c ts b₀ bs p q hs2 l2 hc hsu r ih =>
    intro s w ⟨b, h1, h2, h3⟩
    refine wpAny_handleBy_cons (codeAny_handlers_test ?_) (by intro q; cases q)
    refine part w hc h1 ?_
    cases b with
    | false => exact ih w (h3 rfl)
    | true =>
      refine codeAny_handlers_suite (HandSPX.lands_againZ w.fl fun h4 fl4 up4 => ?_)
      have w4 := w.moved fl4 up4
      obtain ⟨oe, us, e1, e2, e3, nL, nF⟩ := w4.obj hs hf
      refine wpAny_mono ((hsu a oe cls d (X.pn ++ pins) e2 ⟨us, e3⟩).run [] _ _ H _ (w4.inv.suite e1 e3 w.na nL nF) (h2 rfl a w.na)) (fun f s6 z => ?_) fun _ _ z => z.elim
      cases f <;> first
        | (obtain ⟨τ, G, S, k⟩ := z; exact ⟨τ, G, S.unsuite w.J.ok, k⟩)
        | (obtain ⟨u, τ, G, S, k⟩ := z; exact ⟨u, τ, G, S.unsuite w.J.ok, k⟩)
  | @as x n i c ts b₀ bs p q hs2 l2 hc hi hn hsu r ih =>
    intro s w ⟨b, h1, h2, h3⟩
    refine wpAny_handleBy_cons (codeAny_handlers_test ?_) (by intro q; cases q)
    refine part w hc h1 ?_
    cases b with
    | false => exact ih w (h3 rfl)
    | true =>
      refine codeAny_handlers_suite_as (HandSPX.lands_againZ w.fl fun h4 fl4 up4 => ?_)
      have w4 := w.moved fl4 up4
      obtain ⟨oe, us, e1, e2, e3, nL, nF⟩ := w4.obj hs hf
      have S4 := w4.inv.suite e1 e3 w.na nL nF
      refine store_ok (X := X.suite a ((a, oe) :: (X.pn ++ pins))) (v := .ref a) S4 hN hi (.inl hn) rfl (fun s5 S5 => ?_) (.inr hn)
      refine wpAny_mono ((hsu a oe cls d (X.pn ++ pins) e2 ⟨us, e3⟩).run [] s5 _ H _ S5 (h2 rfl a w.na)) (fun f s6 z => ?_) fun _ _ z => z.elim
      cases f <;> first
        | (obtain ⟨τ, G, S, k⟩ := z; exact gone_ok (S.unsuite w.J.ok) hN hi hn fun s7 J7 => ⟨_, _, J7, k⟩)
        | (obtain ⟨u, τ, G, S, k⟩ := z; exact gone_ok (S.unsuite w.J.ok) hN hi hn fun s7 J7 => ⟨_, _, _, J7, k⟩)
theorem ps_try_mix {body : List Stmt} {h₀ : ExceptHandler} {hds : List ExceptHandler} {l : List HK} {pos : Pos} {tb : WX → TS} (hs : X.stack = X.env :: X.outer) (hf : X.env.frame = some X.env.locals) (hN : X.N.Nodup) (tk : Takes X Wo)
    (hb : ∀ (W : WX) (pn : List (Addr × Obj)) (xe : Value → Shared → Prop), Takes (X.tr pn xe) W → PassesOwn (model X.prog X.w) X.A X.env xe → PSs (X.tr pn xe) body (tb W)) (hk : Hks X (h₀ :: hds) l) :
    PS X (.Try body (h₀ :: hds) [] [] pos) (fun Z σ H => tb (wMix X.K Wo Z l) Z σ H) := by
  refine ⟨fun pins s σ H Z I h => wpAny_Try_except ?_⟩
  have hfr : X.A.frames = some (X.env :: X.outer) := by rw [I.ok.frames, hs]
  refine wpAny_mono ((hb (wMix X.K Wo Z l) (X.pn ++ pins) (fun e s1 => wpAny (model X.prog X.w) X.A (noteFrame e X.env) (fun _ s2 => wpAny (model X.prog X.w) X.A (setFlight e none) (fun _ s3 => wpAny (model X.prog X.w) X.A (handleBy e X.env (h₀ :: hds)) (SP X pins Z) X.xe s3) X.xe s2) X.xe s1)
    (fun u s' xx => ?_) PassesOwn.looking).run [] s σ H Z (I.toTry _) h) (fun f s1 z => ?_) fun _ _ z => z
  · obtain ⟨a, B, sI, pins', τ, G, cls, d, rfl, J', nb, up, sky, na, os, ag, q⟩ := xx
    have J : Inv X pins τ G sI := J'.ofTry I.ok
    have sky' : Sky B (X.env :: X.outer) a (Zc cls d) X.env.locals s'.heap := by
      rw [← hs]
      exact sky
    exact Sky.land Zc.steady hfr hf sky' fun h3 fl3 up3 => mix_go hs hf hN tk hk ⟨J, nb, up.trans up3, fl3, na, os, ag⟩ q
  · cases f <;> first
      | (obtain ⟨τ, G, S, k⟩ := z; exact wpAny_execs_nil ⟨τ, G, S.ofTry I.ok, k⟩)
      | (obtain ⟨τ, G, S, k⟩ := z; exact ⟨τ, G, S.ofTry I.ok, k⟩)
      | (obtain ⟨u, τ, G, S, k⟩ := z; exact ⟨u, τ, G, S.ofTry I.ok, k⟩)
end
end VI
end
section
set_option Elab.async false
set_option linter.all false
set_option maxRecDepth 100000
set_option maxHeartbeats 4000000
/-! VI31: try, as a statement of the interpreter. -/
namespace VI
open PySem PySem.Spec PyProof.Rows L2
theorem xlook_ok {D : Wd} [W : Wok D] {n : Nat} {μ : Nat → Addr} {H : Hp} {f : Nat} {z : Str} {x : Val} (hz : D.S[f]? = some z) {fs : List Val} {gs : List (Str × V)} (h : XFs D n μ H fs gs) : xlook f fs = some x → ∃ y, gs.lookup z = some y ∧ Rp D n μ H x y := by
  induction h with
  | nil => intro e; cases e
  | @cons g w x' y' fs' gs' hg r q ih =>
    intro e
    unfold xlook at e
    by_cases hgf : g = f
    · rw [if_pos hgf] at e
      cases e
      subst hgf
      rw [hz] at hg
      cases hg
      exact ⟨y', by simp [List.lookup], r⟩
    · rw [if_neg hgf] at e
      obtain ⟨y, h1, h2⟩ := ih e
      have hw : (z == w) = false := beq_eq_false_iff_ne.mpr fun e' => hgf (by subst e'; exact nodup_ix W.nd hg hz)
      exact ⟨y, by simp only [List.lookup, hw]; exact h1, h2⟩
theorem EnvR.off {D : Wd} (hL : D.L = none) {n : Nat} {μ : Nat → Addr} {H : Hp} {ρ : Env} {σ : L2.St} (er : EnvR D n μ H ρ σ) {i : Nat} (h : ρ[i]? = some none) (o : Option V) : EnvR D n μ H ρ (σ.set i o) := by
  refine ⟨by rw [List.length_set]; exact er.1, fun j x e => ?_, fun j f F eL _ => by rw [hL] at eL; cases eL⟩
  have hj : i ≠ j := fun z => by rw [← z, h] at e; cases e
  rw [List.getElem?_set_ne hj]
  exact er.2.1 j x e
theorem nonAt_ok {ρ : Env} {i : Nat} (h : nonAt ρ (some i) = true) : ρ[i]? = some none := by
  unfold nonAt at h
  split at h
  · rename_i e
    cases e
  · rename_i j e
    cases e
    split at h
    · rename_i e2; exact e2
    · cases h
theorem EnvR.onE {D : Wd} (hL : D.L = none) {n : Nat} {μ : Nat → Addr} {H : Hp} {ρ : Env} {σ : L2.St} (er : EnvR D n μ H ρ σ) {sl : Option Nat} (h : nonAt ρ sl = true) (a : Addr) : EnvR D n μ H ρ (VI.onE sl a σ) := by
  cases sl with
  | none => exact er
  | some i => exact er.off hL (nonAt_ok h) _
/-- what a suite knows -/
def sIn (cs : List Nat) (sl : Option Nat) (D : Wd) (n : Nat) (μ : Nat → Addr) (H : Hp) (σ : L2.St) (a : Addr) (cls : Value) (d : Option Addr) (fs : List Val) : Prop :=
  (∃ c, c ∈ cs ∧ cls = .ref (D.C c)) ∧ XR D n μ H fs d ∧ ∀ i, sl = some i → σ[i]? = some (some (.ref a))
def rEs (D : Wd) (cs : List Nat) (sl : Option Nat) (a : Addr) (cls : Value) (d : Option Addr) (f : List Val → Ev) : TE := fun σ H Q => ∃ n μ ρ st x st' fs, Ok D n μ H st ∧ EnvR D n μ H ρ σ ∧ sIn cs sl D n μ H σ a cls d fs ∧ f fs ρ st = .ok x st' ∧ Ans D n μ H x st' Q
def rAs (D : Wd) (cs : List Nat) (sl : Option Nat) (a : Addr) (cls : Value) (d : Option Addr) (f : List Val → Avs) : TA := fun σ H Q => ∃ n μ ρ st x st' fs, Ok D n μ H st ∧ EnvR D n μ H ρ σ ∧ sIn cs sl D n μ H σ a cls d fs ∧ f fs ρ st = .ok x st' ∧ ∀ n' μ' H' ys, Ok D n' μ' H' st' → Le n μ H n' μ' H' → RpAll D n' μ' H' x ys → Q ys H'
def rSu (D : Wd) (cs : List Nat) (sl : Option Nat) (f : List Val → Sx) (a : Addr) (cls : Value) (d : Option Addr) : TS := fun Z σ H => ∃ n μ ρ st r st' fs, Ok D n μ H st ∧ EnvR D n μ H ρ σ ∧ sIn cs sl D n μ H σ a cls d fs ∧ f fs ρ st = .ok r st' ∧ fin D n μ H r st' Z
abbrev SEs (X : Cx) (D : Wd) (cs : List Nat) (sl : Option Nat) (e : Expr) (f : List Val → Ev) : Prop :=
  ∀ (a : Addr) (oe : Obj) (cls : Value) (d : Option Addr) (pn : List (Addr × Obj)), Zc cls d oe → (∃ us, oe.data = .fields us) → PE (X.suite a ((a, oe) :: pn)) e (rEs D cs sl a cls d f)
abbrev SAs (X : Cx) (D : Wd) (cs : List Nat) (sl : Option Nat) (es : List Expr) (f : List Val → Avs) : Prop :=
  ∀ (a : Addr) (oe : Obj) (cls : Value) (d : Option Addr) (pn : List (Addr × Obj)), Zc cls d oe → (∃ us, oe.data = .fields us) → PA (X.suite a ((a, oe) :: pn)) es (rAs D cs sl a cls d f)
section
variable {X : Cx} {D : Wd} {cs : List Nat} {sl : Option Nat} {e : Expr} {es : List Expr} {pos p q : Pos} {i f : Nat} {z x : Str}
theorem es_of {f : Ev} (h : ∀ (a : Addr) (oe : Obj) (pn : List (Addr × Obj)), SE (X.suite a ((a, oe) :: pn)) D e f) : SEs X D cs sl e (fun _ => f) := fun a oe cls d pn _ _ => PE_imp (h a oe pn) fun σ H Q ⟨n, μ, ρ, st, x, st', fs, ok, er, _, hf, an⟩ => ⟨n, μ, ρ, st, x, st', ok, er, hf, an⟩
/-- what is known of error classes whose fields are read -/
structure XfOk (K : PySem.W.Frag) (D : Wd) (cs : List Nat) (z : Str) : Prop where
  ok : ∀ c ∈ cs, XfC K (D.C c) ∧ PySem.W.findIn K (.ref (D.C c)) z = some none
theorem es_xf [W : Wok D] (T : XfOk X.K D cs z) (hz : D.S[f]? = some z) (hN : X.N[i]? = some x) (hv : Vis X.env.scope x) (hd : (x == ("__debug__" : Str)) = false) (hcd : (x == ("__classdict__" : Str)) = false)
    (hb : attributeBase (.Name x p) z X.env (eval (.Name x p) X.env) = eval (.Name x p) X.env := by rfl) : SEs X D cs (some i) (.Attribute (.Name x p) z pos) (fun fs => eXf fs f) := fun a oe cls d pn hzc hus => ⟨fun pins s σ H Q I h => by
  obtain ⟨n, μ, ρ, st, v, st', fs, ok, er, ⟨⟨c, hc, ec⟩, xr, hi⟩, hf, an⟩ := h
  obtain ⟨T1, T2⟩ := T.ok c hc
  refine (pe_xf (C := D.C c) T1 T2 hzc hus (pe_var (X := X.suite a ((a, oe) :: pn)) (i := i) hN hv hd hcd) hb).run pins s σ H Q I ⟨.ref a, hi i rfl, rfl, ec, ?_⟩
  have hf : eXf fs f ρ st = .ok v st' := hf
  unfold eXf at hf
  cases hx : xlook f fs with
  | none => rw [hx] at hf; cases hf
  | some w =>
    rw [hx] at hf
    cases hf
    rcases xr with e0 | ⟨dd, gs, e1, e2, e3, e4⟩
    · rw [e0] at hx; cases hx
    · obtain ⟨y, h1, h2⟩ := xlook_ok hz e3 hx
      exact ⟨dd, gs, y, e1, e2, h1, ans_v an ok h2⟩⟩
theorem as_nil : SAs X D cs sl [] (fun _ => aNil) := fun a oe cls d pn _ _ => PA_imp pa_nil fun σ H Q ⟨n, μ, ρ, st, x, st', fs, ok, er, _, hf, an⟩ => by
  cases hf
  exact an n μ H [] ok (Le.refl _ _ _) .nil
theorem as_cons {f : List Val → Ev} {g : List Val → Avs} (he : SEs X D cs sl e f) (hr : SAs X D cs sl es g) (hs : starEach (e :: es) X.env = (false, eval e X.env) :: starEach es X.env := by rfl) : SAs X D cs sl (e :: es) (fun fs => aCons (f fs) (g fs)) := fun a oe cls d pn hz hu =>
  PA_imp (pa_cons (he a oe cls d pn hz hu) (hr a oe cls d pn hz hu) hs) fun σ H Q ⟨n, μ, ρ, st, x, st', fs, ok, er, si, hf, an⟩ => by
    obtain ⟨t, s1, h1, hf⟩ := bind_eq_ok hf
    obtain ⟨v, s2, h2, hf⟩ := bind_eq_ok hf
    obtain ⟨xs, s3, h3, hf⟩ := bind_eq_ok hf
    cases hf
    refine ⟨n, μ, ρ, st, t, s1, fs, ok, er, si, h1, fun n1 μ1 H1 y1 ok1 l1 r1 f1 => ?_⟩
    obtain ⟨n2, μ2, ok2, l2, r2, tr, hn, hm⟩ := mat_ok h2 ok1 l1 r1 f1
    refine ⟨n2, μ2, ρ, s2, xs, _, fs, ok2, er.mono l2, ⟨si.1, si.2.1.mono l2, si.2.2⟩, h3, fun n3 μ3 H3 ys ok3 l3 r3 => ?_⟩
    exact an n3 μ3 H3 _ ok3 (l2.trans l3) (.cons (r2.mono l3) r3)
theorem es_lst {g : List Val → Avs} (h : SAs X D cs sl es g) : SEs X D cs sl (.List es pos) (fun fs => eLst (g fs)) := fun a oe cls d pn hz hu => PE_imp (pe_lst (h a oe cls d pn hz hu)) fun σ H Q ⟨n, μ, ρ, st, x, st', fs, ok, er, si, hf, an⟩ => by
  obtain ⟨xs, s1, h1, hf⟩ := bind_eq_ok hf
  by_cases hl : xs.length ≤ LIM
  · rw [if_pos hl] at hf
    cases hf
    exact ⟨n, μ, ρ, st, xs, _, fs, ok, er, si, h1, fun n1 μ1 H1 ys ok1 l1 r1 => ⟨by rw [← r1.length, sizeLine_eq]; exact hl, fun p hp => ans_lst (an.le l1) ok1 r1 hp⟩⟩
  · rw [if_neg hl] at hf; cases hf
/-- name = value, in a suite -/
theorem su_set {g : List Val → Ev} {j : Nat} (hnd : X.N.Nodup) (hi : X.N[j]? = some x) (hx : Loc X.env.scope x) (he : SEs X D cs sl e g) (hs : swapsWith e (some (.Name x p)) pos.line X.env = pure false := by rfl) (hf : X.fn x = true ∨ X.env.scope.names.lookup x = some .local := by first | exact .inl rfl | exact .inr rfl | assumption) :
    SuOk X [.Assign [.Name x p] e pos] (rSu D cs sl (fun fs => sAsg (gV j) (g fs))) := fun a oe cls d pn hz hu => by
  refine pss_one (PS_imp (ps_set (X := X.suite a ((a, oe) :: pn)) hnd hi hx (he a oe cls d pn hz hu) hs hf) fun Z σ H ⟨n, μ, ρ, st, r, st', fs, ok, er, si, hf, q⟩ => ?_)
  obtain ⟨t, s1, h1, hf⟩ := bind_eq_ok hf
  obtain ⟨v, s2, h2, hf⟩ := bind_eq_ok hf
  obtain ⟨ρ', s3, h3, hf⟩ := bind_eq_ok hf
  cases hf
  cases h3
  refine ⟨n, μ, ρ, st, t, s1, fs, ok, er, si, h1, fun n1 μ1 H1 y1 ok1 l1 r1 f1 => ?_⟩
  obtain ⟨n2, μ2, ok2, l2, r2, tr, hn, hm⟩ := mat_ok h2 ok1 l1 r1 f1
  exact q n2 μ2 H1 _ ok2 l2 ((er.mono l2).set j r2)
end
/-- the clauses of a try -/
inductive HdR (X : Cx) (D : Wd) (er : List Nat) : List ExceptHandler → List Hd → Prop
  | nil : HdR X D er [] []
  | un {x : Str} {c : Nat} {cs : List Nat} {su : List Val → Sx} {b₀ : Stmt} {bs : List Stmt} {p q : Pos} {hs : List ExceptHandler} {l : List Hd} (hc : Names X x (.ref (D.C c))) (hm : ∀ c' ∈ er, PySem.W.exmOne X.K (.ref (D.C c')) (.ref (D.C c)) = some (cs.contains c'))
      (hsu : SuOk X (b₀ :: bs) (rSu D cs none su)) (r : HdR X D er hs l) : HdR X D er (.ExceptHandler (some (.Name x p)) none (b₀ :: bs) q :: hs) (⟨c, cs, none, su⟩ :: l)
  | as {x n : Str} {i c : Nat} {cs : List Nat} {su : List Val → Sx} {b₀ : Stmt} {bs : List Stmt} {p q : Pos} {hs : List ExceptHandler} {l : List Hd} (hc : Names X x (.ref (D.C c))) (hm : ∀ c' ∈ er, PySem.W.exmOne X.K (.ref (D.C c')) (.ref (D.C c)) = some (cs.contains c'))
      (hi : X.N[i]? = some n) (hn : X.env.kindOf n = some .local) (hsu : SuOk X (b₀ :: bs) (rSu D cs (some i) su)) (r : HdR X D er hs l) : HdR X D er (.ExceptHandler (some (.Name x p)) (some n) (b₀ :: bs) q :: hs) (⟨c, cs, some i, su⟩ :: l)
def hkOf (D : Wd) (h : Hd) : HK := ⟨.ref (D.C h.c), h.slot, rSu D h.cs h.slot h.su⟩
theorem HdR.hks {X : Cx} {D : Wd} {er : List Nat} {hs : List ExceptHandler} {l : List Hd} (h : HdR X D er hs l) : Hks X hs (l.map (hkOf D)) := by
  induction h with
  | nil => exact .nil
  | un hc hm hsu r ih => exact .un hc hsu ih
  | as hc hm hi hn hsu r ih => exact .as hc hi hn hsu ih
/-- a try's body -/
def rSW (D : Wd) (W : WX) (f : Sx) : TS := fun Z σ H => ∃ n μ ρ st, Ok D n μ H st ∧ EnvR D n μ H ρ σ ∧ outS D n μ H (f ρ st) Z fun c d H' => W c d σ H'
def rXW (D : Wd) (W : WX) (f : Ev) : TE := fun σ H Q => ∃ n μ ρ st, Ok D n μ H st ∧ EnvR D n μ H ρ σ ∧ out D n μ H (f ρ st) Q fun c d H' => W c d σ H'
theorem fin_off {D : Wd} (hL : D.L = none) {n : Nat} {μ : Nat → Addr} {H : Hp} {r : Fl × Env} {st : Store} {Z : Ends} {sl : Option Nat} (h : fin D n μ H r st Z) (hn : nonAt r.2 sl = true) : fin D n μ H r st (offE sl Z) := by
  cases sl with
  | none => exact h
  | some i =>
    have e := nonAt_ok hn
    obtain ⟨fl, ρ⟩ := r
    cases fl with
    | next => exact fun n' μ' H' σ' ok' l' er' => h n' μ' H' _ ok' l' (er'.off hL e none)
    | brk => exact fun n' μ' H' σ' ok' l' er' => h n' μ' H' _ ok' l' (er'.off hL e none)
    | ret t => exact h
theorem hd_wish {X : Cx} {D : Wd} (hL : D.L = none) (hK : X.K = D.K) {er : List Nat} {hs : List ExceptHandler} {l : List Hd} (h : HdR X D er hs l) {c : Nat} (hc : c ∈ er) {n : Nat} {μ : Nat → Addr} {H : Hp} {ρ : Env} {σ : L2.St} {st st' : Store} {fs : List Val} {d : Option Addr} {r : Fl × Env} {Z : Ends} {Wo : WX}
    (ok : Ok D n μ H st) (erv : EnvR D n μ H ρ σ) (xr : XR D n μ H fs d) (hf : hdGo ρ st c fs l = .ok r st') (q : fin D n μ H r st' Z) : wMix X.K Wo Z (l.map (hkOf D)) (.ref (D.C c)) d σ H := by
  induction h with
  | nil => cases hf
  | @un x cn cs su b₀ bs p p2 hs' l' hn hm hsu rr ih =>
    unfold hdGo at hf
    refine ⟨cs.contains c, hm c hc, fun e a ha => ?_, fun e => ?_⟩
    · rw [if_pos e] at hf
      obtain ⟨r1, s1, h1, hf⟩ := bind_eq_ok (show (su fs ρ st).bind _ = _ from hf)
      cases hf
      exact ⟨n, μ, ρ, st, _, _, fs, ok, erv, ⟨⟨c, by simpa using e, rfl⟩, xr, fun i hi => by cases hi⟩, h1, q⟩
    · rw [if_neg (by rw [e]; exact Bool.false_ne_true)] at hf
      exact ih hf
  | @as x nm i cn cs su b₀ bs p p2 hs' l' hn hm hi hk hsu rr ih =>
    unfold hdGo at hf
    refine ⟨cs.contains c, hm c hc, fun e a ha => ?_, fun e => ?_⟩
    · rw [if_pos e] at hf
      by_cases h0 : nonAt ρ (some i) = true
      · simp only [h0, if_true] at hf
        obtain ⟨r1, s1, h1, hf⟩ := bind_eq_ok hf
        by_cases h2 : nonAt r1.2 (some i) = true
        · simp only [h2, if_true] at hf
          cases hf
          have el := (List.getElem?_eq_some_iff.mp (nonAt_ok h0)).1
          refine ⟨n, μ, ρ, st, _, _, fs, ok, erv.onE hL h0 a, ⟨⟨c, by simpa using e, rfl⟩, xr, fun j hj => ?_⟩, h1, fin_off hL q h2⟩
          cases hj
          exact List.getElem?_set_self (by rw [erv.1]; exact el)
        · simp only [h2, if_false] at hf; cases hf
      · simp only [h0, if_false] at hf; cases hf
    · rw [if_neg (by rw [e]; exact Bool.false_ne_true)] at hf
      exact ih hf
section
variable {X : Cx} {D : Wd} {e : Expr} {es : List Expr} {fe : Ev} {ga : Avs} {pos p : Pos} {k np : Nat} {x : Str} {F : Fn} {W : WX}
theorem s_try [C : Cok X D] (hL : D.L = none) (hs : X.stack = X.env :: X.outer) (hf : X.env.frame = some X.env.locals) {er : List Nat} {b : Sx} {body : List Stmt} {h₀ : ExceptHandler} {hds : List ExceptHandler} {l : List Hd}
    (hb : ∀ (W : WX) (pn : List (Addr × Obj)) (xe : Value → Shared → Prop), Takes (X.tr pn xe) W → PassesOwn (model X.prog X.w) X.A X.env xe → PSs (X.tr pn xe) body (rSW D W b)) (hk : HdR X D er (h₀ :: hds) l) : SS X D (.Try body (h₀ :: hds) [] [] pos) (sTry er b l) :=
  PS_imp (ps_try_mix (Wo := fun _ _ _ _ => False) hs hf C.nd takes_none5 hb hk.hks) fun Z σ H ⟨n, μ, ρ, st, r, st', ok, erv, hq, q⟩ => by
    refine ⟨n, μ, ρ, st, ok, erv, ?_⟩
    unfold sTry at hq
    cases hbr : b ρ st with
    | ok r1 s1 => rw [hbr] at hq; cases hq; exact q
    | bad => rw [hbr] at hq; cases hq
    | exc c fs s1 =>
      rw [hbr] at hq
      by_cases hc : er.contains c = true
      · simp only [hc, if_true] at hq
        exact fun n' μ' H' d ok' l' xr => hd_wish hL C.hK hk (by simpa using hc) ok' (erv.mono l') xr hq (q.le l')
      · simp only [hc, if_false] at hq; cases hq
instance trCok {X : Cx} {D : Wd} [C : Cok X D] {pn : List (Addr × Obj)} {xe : Value → Shared → Prop} : Cok (X.tr pn xe) D := ⟨C.hK, C.calm, C.nd⟩
theorem w_call (tk : Takes X W) (d : DefX X.prog X.w X.K X.mg X.base D k x np F) (hr : Room k X.A) (hg : Gl X x) (ha : SA X D (e :: es) ga) [i : NXa ga] (har : Arity ga np) (he : starEach (e :: es) X.env = (false, eval e X.env) :: starEach es X.env := by rfl)
    (hpl : (backTo pos (starEach es X.env)).any (·.1) = false := by rfl) : PE X (.Call (.Name x p) (e :: es) [] pos) (rXW D W (eCall F ga)) := by
  obtain ⟨f, fd, ps, h1, h2, h3, h4⟩ := d.ex
  refine PE_imp (pe_callS h4 hr hg h1 h2 h3 (fun σ => passAt tk σ) ha d.db he hpl) fun σ H Q ⟨n, μ, ρ, st, ok, er, h⟩ => ?_
  unfold eCall at h
  cases hg : ga ρ st with
  | ok xs s1 =>
    rw [hg] at h
    exact ⟨n, μ, ρ, st, xs, s1, ok, er, hg, fun n1 μ1 H1 ys ok1 l1 r1 => ⟨by rw [← r1.length, har _ _ _ _ hg], n1, μ1, s1, xs, ok1, r1, out.le h l1⟩⟩
  | exc c fs s => exact absurd hg (i.nx _ _ _ _ _)
  | bad => rw [hg] at h; exact h.elim
theorem w_exp (he : PE X e (rXW D W fe)) (hs : swapsWith e none pos.line X.env = pure false := by rfl) : PSs X [.Expr e pos] (rSW D W (sExp fe)) := pss_one (PS_imp (ps_expr he hs) fun Z σ H ⟨n, μ, ρ, st, ok, er, h⟩ => by
  refine ⟨n, μ, ρ, st, ok, er, ?_⟩
  unfold sExp at h
  cases hf : fe ρ st with
  | exc c fs s => rw [hf] at h; exact h
  | bad => rw [hf] at h; exact h
  | ok t s1 =>
    rw [hf] at h
    have h : fin D n μ H (.next, ρ) s1 Z := h
    exact fun n1 μ1 H1 y ok1 l1 r1 f1 => h n1 μ1 H1 σ ok1 l1 (er.mono l1))
end
end VI
end
section
set_option Elab.async false
set_option linter.all false
set_option maxRecDepth 100000
set_option maxHeartbeats 4000000
/-! VI32: str(a) == str(b); {}. -/
namespace VI
open PySem PySem.Spec PyProof.Rows L2
mutual
def Sh.py (S : List Str) : Sh → PyData
  | .non => .none
  | .bool b => .bool b
  | .int i => .int i
  | .str k => .str (S.getD k default)
  | .lst l => .list (Sh.pys S l)
  | .tup l => .tuple (Sh.pys S l)
  | .emp => .dict []
def Sh.pys (S : List Str) : List Sh → List PyData
  | [] => []
  | d :: ds => Sh.py S d :: Sh.pys S ds
end
mutual
theorem same_eq : ∀ {d e : Sh}, Sh.same d e = true → d = e
  | .non, e, h => by cases e <;> first | rfl | cases h
  | .bool b, e, h => by
    cases e <;> first | cases h | skip
    rw [Sh.same, beq_iff_eq] at h; rw [h]
  | .int i, e, h => by
    cases e <;> first | cases h | skip
    rw [Sh.same, beq_iff_eq] at h; rw [h]
  | .str i, e, h => by
    cases e <;> first | cases h | skip
    rw [Sh.same, beq_iff_eq] at h; rw [h]
  | .emp, e, h => by cases e <;> first | rfl | cases h
  | .lst xs, e, h => by
    cases e <;> first | cases h | skip
    rw [Sh.same] at h; rw [sames_eq h]
  | .tup xs, e, h => by
    cases e <;> first | cases h | skip
    rw [Sh.same] at h; rw [sames_eq h]
theorem sames_eq : ∀ {ds es : List Sh}, Sh.sames ds es = true → ds = es
  | [], es, h => by cases es <;> first | rfl | cases h
  | d :: ds, es, h => by
    cases es <;> first | cases h | skip
    rw [Sh.sames, Bool.and_eq_true] at h
    rw [same_eq h.1, sames_eq h.2]
end
/-- the texts are short -/
class SLen (S : List Str) : Prop where
  len : ∀ z ∈ S, z.cps.size ≤ 200
theorem log2_small {i : Int} (h : i.natAbs < 1000000000000) : i.natAbs.log2 < 40 := by
  by_cases h0 : i.natAbs = 0
  · rw [h0]; decide
  · exact (Nat.log2_lt h0).mpr (Nat.lt_of_lt_of_le h (by decide))
section
variable {S : List Str}
mutual
def Sh.okS (n : Nat) : Sh → Prop
  | .str k => k < n
  | .lst l => Sh.okSs n l
  | .tup l => Sh.okSs n l
  | _ => True
def Sh.okSs (n : Nat) : List Sh → Prop
  | [] => True
  | d :: ds => Sh.okS n d ∧ Sh.okSs n ds
end
mutual
theorem sh_fine : ∀ {d : Sh}, d.fine = true → (d.py S).showable = true
  | .non, _ => rfl
  | .bool b, _ => rfl
  | .int i, h => by
    have h : decide (i.natAbs < 1000000000000) = true := h
    rw [Sh.py, PyData.showable]
    exact decide_eq_true (Nat.lt_trans (log2_small (of_decide_eq_true h)) (by decide))
  | .str k, _ => rfl
  | .emp, _ => rfl
  | .lst xs, h => by rw [Sh.py, PyData.showable]; exact sh_fines (by rw [Sh.fine] at h; exact h)
  | .tup xs, h => by rw [Sh.py, PyData.showable]; exact sh_fines (by rw [Sh.fine] at h; exact h)
theorem sh_fines : ∀ {ds : List Sh}, Sh.fines ds = true → PyData.showableAll (Sh.pys S ds) = true
  | [], _ => rfl
  | d :: ds, h => by
    rw [Sh.fines, Bool.and_eq_true] at h
    rw [Sh.pys, PyData.showableAll, sh_fine h.1, sh_fines h.2] <;> rfl
end
theorem str_at {k : Nat} (h : k < S.length) : S.getD k default ∈ S := by
  rw [List.getD_eq_getElem?_getD, List.getElem?_eq_getElem h]
  exact List.getElem_mem h
mutual
theorem sh_short (hs : ∀ z ∈ S, PyData.strOk z = true) : ∀ {d : Sh}, d.okS S.length → d.fine = true → (d.py S).leavesShort 13 = true
  | .non, _, _ => rfl
  | .bool b, _, _ => rfl
  | .int i, _, h => by
    have h : decide (i.natAbs < 1000000000000) = true := h
    rw [Sh.py, PyData.leavesShort]
    exact decide_eq_true (PyData.shown_int_le (of_decide_eq_true h))
  | .str k, hk, _ => by
    rw [Sh.py]
    have h0 := hs _ (str_at (show k < S.length by rw [Sh.okS] at hk; exact hk))
    have h1 : (PyData.str (S.getD k default)).canLay0 = true := h0
    exact PyData.leavesShort_of_canLay0 13 _ h1 rfl
  | .emp, _, _ => rfl
  | .lst xs, hk, h => by rw [Sh.py, PyData.leavesShort]; exact sh_shorts hs (by rw [Sh.okS] at hk; exact hk) (by rw [Sh.fine] at h; exact h)
  | .tup xs, hk, h => by rw [Sh.py, PyData.leavesShort]; exact sh_shorts hs (by rw [Sh.okS] at hk; exact hk) (by rw [Sh.fine] at h; exact h)
theorem sh_shorts (hs : ∀ z ∈ S, PyData.strOk z = true) : ∀ {ds : List Sh}, Sh.okSs S.length ds → Sh.fines ds = true → PyData.leavesShortAll 13 (Sh.pys S ds) = true
  | [], _, _ => rfl
  | d :: ds, hk, h => by
    rw [Sh.fines, Bool.and_eq_true] at h
    rw [Sh.okSs] at hk
    rw [Sh.pys, PyData.leavesShortAll, sh_short hs hk.1 h.1, sh_shorts hs hk.2 h.2] <;> rfl
end
mutual
theorem sh_wt (hs : ∀ z ∈ S, z.cps.size ≤ 200) : ∀ {d : Sh}, d.okS S.length → d.fine = true → (d.py S).weight ≤ d.wt
  | .non, _, _ => Nat.le_refl _
  | .bool b, _, _ => Nat.le_refl _
  | .int i, _, h => by
    have h : decide (i.natAbs < 1000000000000) = true := h
    have := log2_small (of_decide_eq_true h)
    rw [Sh.py, PyData.weight, Sh.wt]
    split <;> omega
  | .str k, hk, _ => by
    rw [Sh.py, PyData.weight, Sh.wt]
    exact hs _ (str_at (show k < S.length by rw [Sh.okS] at hk; exact hk))
  | .emp, _, _ => Nat.le_refl _
  | .lst xs, hk, h => by rw [Sh.py, PyData.weight, Sh.wt]; exact sh_wts hs (by rw [Sh.okS] at hk; exact hk) (by rw [Sh.fine] at h; exact h)
  | .tup xs, hk, h => by rw [Sh.py, PyData.weight, Sh.wt]; exact sh_wts hs (by rw [Sh.okS] at hk; exact hk) (by rw [Sh.fine] at h; exact h)
theorem sh_wts (hs : ∀ z ∈ S, z.cps.size ≤ 200) : ∀ {ds : List Sh}, Sh.okSs S.length ds → Sh.fines ds = true → PyData.weightAll (Sh.pys S ds) ≤ Sh.wts ds
  | [], _, _ => Nat.le_refl _
  | d :: ds, hk, h => by
    rw [Sh.fines, Bool.and_eq_true] at h
    rw [Sh.okSs] at hk
    have h1 := sh_wt hs hk.1 h.1
    have h2 := sh_wts hs hk.2 h.2
    rw [Sh.pys, PyData.weightAll, Sh.wts]
    omega
end
end
/-- sys.modules is no list -/
def sysB (K : PySem.W.Frag) : Bool := match K.lookup sysModules with
  | some ⟨.type n, _, _, _⟩ => decide (n = "dict")
  | _ => false
theorem sysB_ok {K : PySem.W.Frag} {h : Heap} (X : K.In h) (b : sysB K = true) : ∃ o, h.get? sysModules = some o ∧ o.cls = .type "dict" := by
  unfold sysB at b
  split at b
  · rename_i n d dt sl e
    exact ⟨_, X _ _ e, congrArg Value.type (of_decide_eq_true b)⟩
  · cases b
section
variable {X : Cx} {pins : List (Addr × Obj)} {σ : L2.St} {H : Hp} {s : Shared} {D : Wd} {n : Nat} {μ : Nat → Addr} {st : Store}
structure Rdy (D : Wd) (s : Shared) (m : Nat) (u : Value) (d : Sh) : Prop where
  rd : ∃ as, Reads s.heap u (d.py D.S) as ∧ sysModules ∉ as
  os : d.okS D.S.length
  dep : (d.py D.S).depth ≤ m
structure Rdys (D : Wd) (s : Shared) (m : Nat) (us : List Value) (ds : List Sh) : Prop where
  rd : ∃ as, ReadsAll s.heap us (Sh.pys D.S ds) as ∧ sysModules ∉ as
  os : Sh.okSs D.S.length ds
  dep : PyData.depthAll (Sh.pys D.S ds) ≤ m
theorem mapS_ok {m : Nat} (f : Val → Option Sh) (hf : ∀ x y u d, f x = some d → Rp D n μ H x y → RelV y u → Rdy D s m u d) : ∀ {l : List Val} {ys : List V} {us : List Value} {ds : List Sh}, mapO f l = some ds → RpAll D n μ H l ys → Vals ys us → Rdys D s m us ds
  | [], _, _, _, e, .nil, r => by
    cases e; cases r
    exact ⟨⟨[], .nil, by simp⟩, True.intro, Nat.zero_le _⟩
  | x :: l, _, us, ds, e, .cons h r, rv => by
    cases rv with
    | cons ru rr =>
      unfold mapO at e
      cases h1 : f x with
      | none => rw [h1] at e; cases e
      | some d =>
        cases h2 : mapO f l with
        | none => rw [h1, h2] at e; cases e
        | some es =>
          rw [h1, h2] at e
          cases e
          obtain ⟨⟨as, a1, a2⟩, a3, a4⟩ := hf x _ _ d h1 h ru
          obtain ⟨⟨bs, b1, b2⟩, b3, b4⟩ := mapS_ok f hf h2 r rr
          refine ⟨⟨as ++ bs, .cons a1 b1, fun z => (List.mem_append.mp z).elim a2 b2⟩, ⟨a3, b3⟩, ?_⟩
          rw [Sh.pys, PyData.depthAll]
          omega
theorem rdy_str {k : Nat} {z : Str} {t : Tok} {m : Nat} (h : D.S[k]? = some z) : Rdy D s m (.str z t) (.str k) := by
  refine ⟨⟨[], ?_, by simp⟩, by rw [Sh.okS]; exact (List.getElem?_eq_some_iff.mp h).1, by rw [Sh.py, PyData.depth]; exact Nat.zero_le _⟩
  rw [Sh.py, S_get h]
  exact .str z t
theorem toS_ok (I : Inv X pins σ H s) (hK : X.K = D.K) (hb : sysB D.K = true) (ok : Ok D n μ H st) : ∀ (m : Nat) (x : Val) (y : V) (u : Value) (d : Sh), toS st m x = some d → Rp D n μ H x y → RelV y u → Rdy D s m u d
  | 0, x, y, u, d, e, r, ru => by
    cases x with
    | non => cases e; cases r; cases ru; exact ⟨⟨[], .none, by simp⟩, True.intro, Nat.zero_le _⟩
    | bool b => cases e; cases r; cases ru; exact ⟨⟨[], .bool b, by simp⟩, True.intro, Nat.zero_le _⟩
    | int i => cases e; cases r; obtain ⟨t, rfl⟩ := ru; exact ⟨⟨[], .int i t, by simp⟩, True.intro, Nat.zero_le _⟩
    | str k =>
      cases e
      cases r with
      | str h => obtain ⟨t, rfl⟩ := ru; exact rdy_str h
    | tup l => cases e
    | ref k => cases e
  | m + 1, x, y, u, d, e, r, ru => by
    have hsy := sysB_ok (by rw [← hK]; exact I.kIn) hb
    cases x with
    | non => cases e; cases r; cases ru; exact ⟨⟨[], .none, by simp⟩, True.intro, Nat.zero_le _⟩
    | bool b => cases e; cases r; cases ru; exact ⟨⟨[], .bool b, by simp⟩, True.intro, Nat.zero_le _⟩
    | int i => cases e; cases r; obtain ⟨t, rfl⟩ := ru; exact ⟨⟨[], .int i t, by simp⟩, True.intro, Nat.zero_le _⟩
    | str k =>
      cases e
      cases r with
      | str h => obtain ⟨t, rfl⟩ := ru; exact rdy_str h
    | tup l =>
      unfold toS at e
      obtain ⟨ds, h1, rfl⟩ := Option.map_eq_some_iff.mp e
      cases r with
      | @tup _ a ys h r =>
        obtain rfl : u = Value.ref a := ru
        obtain ⟨its, rv, ⟨o, ho, hc, k, hd⟩, _⟩ := I.tuple (by rw [hK]; exact h.sq)
        obtain ⟨⟨as, b1, b2⟩, b3, b4⟩ := mapS_ok (s := s) (toS st m) (fun x y u d => toS_ok I hK hb ok m x y u d) h1 r rv
        refine ⟨⟨as, ?_, b2⟩, by rw [Sh.okS]; exact b3, by rw [Sh.py, PyData.depth]; omega⟩
        rw [Sh.py]
        exact .tuple ho hc hd b1
    | ref k =>
      unfold toS at e
      cases r
      obtain rfl : u = Value.ref (μ k) := ru
      have fin : ∀ {l : List Val} {ys : List V}, SqL D.K H (μ k) ys → RpAll D n μ H l ys → (mapO (toS st m) l).map Sh.lst = some d → Rdy D s (m + 1) (.ref (μ k)) d := fun h r e => by
        obtain ⟨ds, h1, rfl⟩ := Option.map_eq_some_iff.mp e
        obtain ⟨its, rv, ⟨o, c, ho, hc, hdn, hd⟩, _⟩ := I.list (by rw [hK]; exact h)
        obtain ⟨⟨as, b1, b2⟩, b3, b4⟩ := mapS_ok (s := s) (toS st m) (fun x y u d => toS_ok I hK hb ok m x y u d) h1 r rv
        refine ⟨⟨μ k :: as, ?_, fun z => ?_⟩, by rw [Sh.okS]; exact b3, by rw [Sh.py, PyData.depth]; omega⟩
        · rw [Sh.py]
          exact .list ho hc hd b1
        · rcases List.mem_cons.mp z with z | z
          · obtain ⟨o', e1, e2⟩ := hsy
            rw [z, ho] at e1
            cases e1
            rw [hc] at e2
            have e3 := Value.type.inj e2
            exact absurd e3 (by decide)
          · exact b2 z
      cases hk : st[k]? with
      | none => simp [hk] at e
      | some o =>
        cases o with
        | lst l =>
          simp only [hk] at e
          obtain ⟨ys, h, ra⟩ := ok.ob k _ hk
          exact fin (SqL.of h) ra e
        | frz l =>
          simp only [hk] at e
          obtain ⟨o, ys, h, ra⟩ := ok.ob k _ hk
          exact fin (.inl (.inr ⟨o, h⟩)) ra e
        | ins _ _ => simp [hk] at e
        | dct kvs =>
          cases kvs with
          | cons _ _ => simp [hk] at e
          | nil =>
            simp only [hk] at e
            cases e
            obtain ⟨ks, h, rk⟩ := ok.ob k _ hk
            cases rk
            obtain ⟨_, hns, xs, hp, o, es, ep, e1, e2, e3, e4, _⟩ := (show ObjOk X.prog X.w H s.heap (μ k) (.dT []) from I.hok _ _ h)
            cases hp
            have e4 : es.toList = [] := e4
            refine ⟨⟨μ k :: [] ++ [], ?_, ?_⟩, True.intro, by rw [Sh.py, PyData.depth, PyData.depthKv]; omega⟩
            · rw [Sh.py]
              refine .dict e1 e2.1 e3 ?_ ?_
              · rw [e4]; exact .nil
              · rw [e4]; exact .nil
            · simp only [List.append_nil, List.mem_singleton]
              intro z
              rw [← z] at hns
              simp at hns
end
section
variable {X : Cx} {D : Wd} {a b : Expr} {fa fb : Ev} {pos p q : Pos}
/-- str(e) -/
def rStr (D : Wd) : List V → Hp → VK → Prop := fun xs H Q => ∃ y n μ st t d, xs = [y] ∧ Ok D n μ H st ∧ Rt D n μ H t y ∧ shown t st = some d ∧ Q (.str (d.py D.S).shown) H
theorem tvS_ok {pins : List (Addr × Obj)} {σ : L2.St} {H : Hp} {s : Shared} {n : Nat} {μ : Nat → Addr} {st : Store} (I : Inv X pins σ H s) (hK : X.K = D.K) (hb : sysB D.K = true) (ok : Ok D n μ H st) {t : Tv} {y : V} {u : Value} {d : Sh} (e : tvS st t = some d) (r : Rt D n μ H t y) (ru : RelV y u) : Rdy D s (DEEP + 1) u d := by
  cases t with
  | v x =>
    have e : toS st DEEP x = some d := by
      cases x with
      | str k => cases e
      | _ => exact e
    obtain ⟨h1, h2, h3⟩ := toS_ok I hK hb ok DEEP x y u d e r ru
    exact ⟨h1, h2, Nat.le_succ_of_le h3⟩
  | l xs =>
    obtain ⟨p, ys, rfl, hp, ra, _⟩ := r
    obtain rfl : u = Value.ref p := ru
    obtain ⟨ds, h1, rfl⟩ := Option.map_eq_some_iff.mp e
    obtain ⟨its, rv, ⟨o, c, ho, hc, hdn, hd⟩, _⟩ := I.list (SqL.of hp)
    obtain ⟨⟨as, b1, b2⟩, b3, b4⟩ := mapS_ok (s := s) (toS st DEEP) (fun x y u d => toS_ok I hK hb ok DEEP x y u d) h1 ra rv
    refine ⟨⟨p :: as, ?_, fun z => ?_⟩, by rw [Sh.okS]; exact b3, by rw [Sh.py, PyData.depth]; omega⟩
    · rw [Sh.py]
      exact .list ho hc hd b1
    · rcases List.mem_cons.mp z with z | z
      · obtain ⟨o', e1, e2⟩ := sysB_ok (by rw [← hK]; exact I.kIn) hb
        rw [z, ho] at e1
        cases e1
        rw [hc] at e2
        have e3 := Value.type.inj e2
        exact absurd e3 (by decide)
      · exact b2 z
theorem call_strS [C : Cok X D] [W : Wok D] (hlen : ∀ z ∈ D.S, z.cps.size ≤ 200) (hb : sysB D.K = true) (hg : X.A.guards = some []) (hu : X.A.units + 64 < cLine) : CallR X (.type "str") (rStr D) := by
  intro pins s σ H xs us Q I r h
  obtain ⟨y, n, μ, st, t, d, rfl, ok, rt, hsh, q⟩ := h
  obtain ⟨u, rfl, ru⟩ := r.one
  unfold shown at hsh
  cases e : tvS st t with
  | none => simp only [e] at hsh; cases hsh
  | some d' =>
    simp only [e] at hsh
    split at hsh
    · rename_i hc
      cases hsh
      rw [Bool.and_eq_true] at hc
      obtain ⟨hf, hw⟩ := hc
      have hw := of_decide_eq_true hw
      obtain ⟨⟨as, h1, h2⟩, h3, h4⟩ := tvS_ok I C.hK hb ok e rt ru
      have hD : DEEP = 20 := rfl
      have sz : (d.py D.S).shown.length ≤ sizeLine := PyData.shown_fits (by decide) (by decide) (sh_short W.sok h3 hf) (Nat.le_trans (sh_wt hlen h3 hf) (Nat.le_trans hw (by decide)))
      cases h1' : d with
      | lst l =>
        subst h1'
        rw [Sh.py] at h1
        cases h1 with
        | list g1 g2 g3 g4 =>
          refine str_of_reads (h₀ := s.heap) (.list g1 g2 g3 g4) (by have := sh_fine (S := D.S) hf; rw [Sh.py] at this; exact this) (fun _ => h2) hg (by rw [Sh.py] at h4; omega) (fun _ _ e => e) (fun h' tk tk' k => ⟨.str _, H, I.kept k, ⟨_, rfl⟩, by rw [Sh.py] at q; exact q⟩) (by rw [Sh.py] at sz; exact sz)
      | tup l =>
        subst h1'
        rw [Sh.py] at h1
        cases h1 with
        | tuple g1 g2 g3 g4 =>
          refine str_of_reads (h₀ := s.heap) (.tuple g1 g2 g3 g4) (by have := sh_fine (S := D.S) hf; rw [Sh.py] at this; exact this) (fun _ => h2) hg (by rw [Sh.py] at h4; omega) (fun _ _ e => e) (fun h' tk tk' k => ⟨.str _, H, I.kept k, ⟨_, rfl⟩, by rw [Sh.py] at q; exact q⟩) (by rw [Sh.py] at sz; exact sz)
      | emp =>
        subst h1'
        rw [Sh.py] at h1
        cases h1 with
        | dict g1 g2 g3 g4 g5 =>
          refine str_of_reads (h₀ := s.heap) (.dict g1 g2 g3 g4 g5) (by have := sh_fine (S := D.S) hf; rw [Sh.py] at this; exact this) (fun _ => h2) hg (by rw [Sh.py] at h4; omega) (fun _ _ e => e) (fun h' tk tk' k => ⟨.str _, H, I.kept k, ⟨_, rfl⟩, by rw [Sh.py] at q; exact q⟩) (by rw [Sh.py] at sz; exact sz)
      | non =>
        subst h1'
        cases h1
        exact PySem.P.str_of_none ⟨.str _, H, I.tok _, ⟨_, rfl⟩, q⟩
      | bool b =>
        subst h1'
        cases h1
        exact PySem.P.str_of_bool ⟨.str _, H, I.tok _, ⟨_, rfl⟩, q⟩
      | int i =>
        subst h1'
        cases h1
        have hf : decide (i.natAbs < 1000000000000) = true := hf
        exact PySem.P.str_of_int (Nat.lt_trans (log2_small (of_decide_eq_true hf)) (by decide)) ⟨.str _, H, I.tok _, ⟨_, rfl⟩, q⟩
      | str k =>
        exfalso
        subst h1'
        cases t with
        | l xs =>
          obtain ⟨ds, _, z⟩ := Option.map_eq_some_iff.mp e
          cases z
        | v x =>
          cases x with
          | str j => cases e
          | non => cases e
          | bool b => cases e
          | int i => cases e
          | tup l =>
            obtain ⟨ds, _, z⟩ := Option.map_eq_some_iff.mp e
            cases z
          | ref j =>
            have e : toS st (19 + 1) (.ref j) = some (.str k) := e
            unfold toS at e
            cases hk : st[j]? with
            | none => simp [hk] at e
            | some o =>
              cases o with
              | lst l => simp [hk] at e
              | frz l => simp [hk] at e
              | ins _ _ => simp [hk] at e
              | dct kvs => cases kvs <;> simp [hk] at e
    · cases hsh
end
end VI
end
section
set_option Elab.async false
set_option linter.all false
set_option maxRecDepth 100000
set_option maxHeartbeats 4000000
/-! VI33: defs below which no repr is running; str(a) == str(b), {} as expressions; the law's end. -/
namespace VI
open PySem PySem.Spec PyProof.Rows L2

/-! ### defs, where no repr is running -/
structure FnG (P : Program) (w : World) (K : PySem.W.Frag) (mg : Str → Option Value) (base : Heap) (k : Nat) (f : Addr) (fd : FuncData) (ps : List Str) (sp : Sp) : Prop where
  len : ∀ vs H Q E, sp vs H Q E → vs.length = ps.length
  run : ∀ (A : Around) (outer : List PySem.Env) (s : Shared) (H : Hp) (args : Args) (us : List Value) (vs : List V) (Q : VK) (E : XK), A.guards = some [] → Room k A → Env0 P w K mg base A outer s H → BindsTo s fd args (ps.zip us) → Vals vs us → sp vs H Q E →
    codeAny (model P w) A (.call (.ref f) args) (CR C8.CX0 outer P w H s Q E) s
structure DefG (P : Program) (w : World) (K : PySem.W.Frag) (mg : Str → Option Value) (base : Heap) (D : Wd) (k : Nat) (x : Str) (np : Nat) (F : Fn) : Prop where
  ex : ∃ f fd ps, mg x = some (.ref f) ∧ PySem.W.keepIn K (.ref f) = true ∧ L2.Binds K fd ps [] ∧ FnG P w K mg base k f fd ps (spF D np F)
  db : (x == ("__debug__" : Str)) = false
section
variable {P : Program} {w : World} {K : PySem.W.Frag} {mg : Str → Option Value} {base : Heap} {N ps : List Str} {qual : Str} {scope : Scope} {f : Addr} {S : List Str} {Cn : Nat → Str} {T : List (Addr × Str)}
theorem fnG_ok {x : Str} {params : Arguments} {body : List Stmt} {dvs : List V} {kws : List (Str × V)} {fd : FuncData} {k np nl : Nat} {g : Sx} (F : FunD K x qual params body scope dvs kws f fd) (Sc : C8.scC N ps scope = true) (hnp : ps.length = np) (hnl : N.length = nl)
    (hb : ∀ (cdv : Value) (A : Around) (outer : List PySem.Env) (s : Shared) (H : Hp) (E : XK), A.guards = some [] → Room k (A.deeper (envOfC qual scope s.heap.objs.size f cdv)) → Cok (cxOf C8.CX0 P w K mg base N qual scope f cdv A outer s H E) (mkW S Cn K T none) →
      SSs (cxOf C8.CX0 P w K mg base N qual scope f cdv A outer s H E) (mkW S Cn K T none) body g) : FnG P w K mg base (k + 1) f fd ps (spF (mkW S Cn K T none) np (fnOf np nl g)) := by
  obtain ⟨oc, od, dV, kV, doc, pm, an, cdv, ct, osl, rfl, lk, hcd, _, _⟩ := F.ex
  refine ⟨fun vs H Q E h => by rw [h.1, hnp], fun A outer s H args us vs Q E hg hr e0 hbi r h => ?_⟩
  refine LamX.run_ofS lk hcd (C8.fnScope_by Sc) hr e0 hbi r (by rw [h.1, hnp]) fun hr' => ⟨_, hb cdv A outer s H E hg hr' ⟨rfl, rfl, (C8.fnScope_by Sc).nd⟩, ?_⟩
  obtain ⟨h0, n, μ, st, as, x, st', ok, r, hf, an⟩ := h
  unfold fnOf at hf
  have hl : as.length = np := by rw [r.length, h0]
  rw [if_pos hl] at hf
  obtain ⟨⟨fl, ρ⟩, s1, h1, hf⟩ := bind_eq_ok hf
  refine ⟨n, μ, _, st, (fl, ρ), s1, ok, ?_, h1, ?_⟩
  · have e : N.length - vs.length = nl - np := by rw [hnl, h0]
    unfold L2.start
    rw [e]
    exact startR rfl r _
  · cases fl with
    | next => cases hf; exact fun n' μ' H' σ' ok' l' er' => an n' μ' H' .non ok' l' .non trivial
    | ret t => cases hf; exact an
    | brk => cases hf
end
section
variable {X : Cx} {D : Wd} {a b e : Expr} {es : List Expr} {fa fb : Ev} {ga : Avs} {pos p q pa pb : Pos} {k np : Nat} {x : Str} {F : Fn}
theorem e_callG (hgd : X.A.guards = some []) (d : DefG X.prog X.w X.K X.mg X.base D k x np F) (hr : Room k X.A) (hg : Gl X x) (ha : SA X D (e :: es) ga) (har : Arity ga np) (he : starEach (e :: es) X.env = (false, eval e X.env) :: starEach es X.env := by rfl)
    (hpl : (backTo pos (starEach es X.env)).any (·.1) = false := by rfl) : SE X D (.Call (.Name x p) (e :: es) [] pos) (eCall F ga) := by
  obtain ⟨f, fd, ps, h1, h2, h3, h4⟩ := d.ex
  refine ⟨fun pins s σ H Q I h => ?_⟩
  refine wpAny_Call_Name_kw (ld_glob I hg h1 ?_ d.db)
  obtain ⟨n, μ, ρ, st, z, st', ok, er, hf, an⟩ := h
  obtain ⟨xs, s1, g1, hf⟩ := bind_eq_ok hf
  have rd : rA D ga σ H fun vs H1 => spF D np F vs H1 Q C8.E0 := ⟨n, μ, ρ, st, xs, s1, ok, er, g1, fun n1 μ1 H1 ys ok1 l1 r1 => ⟨by rw [← r1.length, har _ _ _ _ g1], n1, μ1, s1, xs, z, st', ok1, r1, hf, an.le l1⟩⟩
  refine PySem.W.callWith_K (h₀ := X.base) I.ok.mod.kin h2 (thn (ha.run pos pins s σ H _ I rd) fun us s2 ⟨vs, H1, I1, r, q⟩ => ⟨I1.kIn, ?_⟩) he hpl
  have hl : us.length = ps.length := by rw [← r.length]; exact h4.len _ _ _ _ q
  have bt := h3 s2 us I1.kIn (by rw [List.append_nil]; exact hl)
  rw [List.append_nil] at bt
  refine wpAny_call (codeAny_mono (h4.run X.A X.stack s2 H1 ⟨us, []⟩ us vs Q C8.E0 hgd hr I1.env0 bt r q) fun r s' hq => ?_)
  rcases r with er | (u | _ | _ | _)
  · exact (show False from hq).elim
  all_goals first
    | exact I1.after hq
    | exact False.elim hq
/-! ### str(a) == str(b) -/
theorem same_rd {k : Bool} {r : R2} (hr : ∀ z H Q, Q (.bl k) H → r (V.str z) (V.str z) H Q) {σ : L2.St} {H : Hp} {Q : VK} (h : rE D (eSame k fa fb) σ H Q) : tOp r (tCB (rStr D) (tCons (rE D fa) tNil)) (tCB (rStr D) (tCons (rE D fb) tNil)) σ H Q := by
  obtain ⟨n, μ, ρ, st, z, st', ok, er, hf, an⟩ := h
  obtain ⟨t, s1, h1, hf⟩ := bind_eq_ok hf
  cases h2 : shown t s1 with
  | none => simp only [h2] at hf; cases hf
  | some d =>
    simp only [h2] at hf
    obtain ⟨t', s2, h3, hf⟩ := bind_eq_ok hf
    cases h4 : shown t' s2 with
    | none => simp only [h4] at hf; cases hf
    | some d' =>
      simp only [h4] at hf
      by_cases h5 : Sh.same d d' = true
      · rw [if_pos h5] at hf
        cases hf
        have e := same_eq h5
        subst e
        exact ⟨n, μ, ρ, st, t, s1, ok, er, h1, fun n1 μ1 H1 y1 ok1 l1 r1 f1 => ⟨y1, n1, μ1, s1, t, d, rfl, ok1, r1, h2, n1, μ1, ρ, s1, t', _, ok1, er.mono l1, h3, fun n2 μ2 H2 y2 ok2 l2 r2 f2 =>
          ⟨y2, n2, μ2, _, t', d, rfl, ok2, r2, h4, hr _ _ _ (an n2 μ2 H2 _ ok2 (l1.trans l2) (.bool k) trivial)⟩⟩⟩
      · rw [if_neg h5] at hf; cases hf
theorem str_pe [C : Cok X D] [W : Wok D] (hlen : ∀ z ∈ D.S, z.cps.size ≤ 200) (hb : sysB D.K = true) (hg : X.A.guards = some []) (hu : X.A.units + 64 < cLine) (hgl : Gl X "str") (hm : X.mg "str" = none) (ha : SE X D a fa)
    (hs : starEach [a] X.env = (false, eval a X.env) :: starEach [] X.env := by rfl) : PE X (.Call (.Name "str" p) [a] [] pos) (tCB (rStr D) (tCons (rE D fa) tNil)) :=
  pe_callTy (call_strS hlen hb hg hu) hgl hm bb_str (pa_cons ha pa_nil hs) (by decide) (by decide) hs rfl
theorem e_same [C : Cok X D] [W : Wok D] (hlen : ∀ z ∈ D.S, z.cps.size ≤ 200) (hb : sysB D.K = true) (hg : X.A.guards = some []) (hu : X.A.units + 64 < cLine) (hgl : Gl X "str") (hm : X.mg "str" = none) (ha : SE X D a fa) (hb' : SE X D b fb) (hsa : starEach [a] X.env = (false, eval a X.env) :: starEach [] X.env := by rfl) (hsb : starEach [b] X.env = (false, eval b X.env) :: starEach [] X.env := by rfl)
    (hmk : behindInMarks .Eq (.Call (.Name "str" q) [b] [] pb) = false := by rfl) : SE X D (.Compare (.Call (.Name "str" p) [a] [] pa) [.Eq] [.Call (.Name "str" q) [b] [] pb] pos) (eSame true fa fb) :=
  PE_imp (pe_cmpR op_eq (str_pe hlen hb hg hu hgl hm ha hsa) (str_pe hlen hb hg hu hgl hm hb' hsb) hmk) fun _ _ _ h => same_rd (fun z H Q q => ⟨rfl, by rw [decide_eq_true rfl]; exact q⟩) h
theorem e_nSame [C : Cok X D] [W : Wok D] (hlen : ∀ z ∈ D.S, z.cps.size ≤ 200) (hb : sysB D.K = true) (hg : X.A.guards = some []) (hu : X.A.units + 64 < cLine) (hgl : Gl X "str") (hm : X.mg "str" = none) (ha : SE X D a fa) (hb' : SE X D b fb) (hsa : starEach [a] X.env = (false, eval a X.env) :: starEach [] X.env := by rfl) (hsb : starEach [b] X.env = (false, eval b X.env) :: starEach [] X.env := by rfl)
    (hmk : behindInMarks .NotEq (.Call (.Name "str" q) [b] [] pb) = false := by rfl) : SE X D (.Compare (.Call (.Name "str" p) [a] [] pa) [.NotEq] [.Call (.Name "str" q) [b] [] pb] pos) (eSame false fa fb) :=
  PE_imp (pe_cmpR op_ne (str_pe hlen hb hg hu hgl hm ha hsa) (str_pe hlen hb hg hu hgl hm hb' hsb) hmk) fun _ _ _ h => same_rd (fun z H Q q => ⟨rfl, by rw [decide_eq_true rfl]; exact q⟩) h
theorem t_nSame [C : Cok X D] [W : Wok D] (hlen : ∀ z ∈ D.S, z.cps.size ≤ 200) (hb : sysB D.K = true) (hg : X.A.guards = some []) (hu : X.A.units + 64 < cLine) (hgl : Gl X "str") (hm : X.mg "str" = none) (ha : SE X D a fa) (hb' : SE X D b fb) (hsa : starEach [a] X.env = (false, eval a X.env) :: starEach [] X.env := by rfl) (hsb : starEach [b] X.env = (false, eval b X.env) :: starEach [] X.env := by rfl)
    (hmk : behindInMarks .NotEq (.Call (.Name "str" q) [b] [] pb) = false := by rfl) : ST X D (.Compare (.Call (.Name "str" p) [a] [] pa) [.NotEq] [.Call (.Name "str" q) [b] [] pb] pos) (tB (eSame false fa fb)) :=
  PT_imp (pt_cmpR op_ne (str_pe hlen hb hg hu hgl hm ha hsa) (str_pe hlen hb hg hu hgl hm hb' hsb) hmk) fun σ H Q ⟨n, μ, ρ, st, z, st', ok, er, hf, an⟩ => by
    obtain ⟨x, s1, h1, hf⟩ := bind_eq_ok hf
    refine same_rd (k := false) (fun z H Q q => ⟨rfl, by rw [decide_eq_true rfl]; exact q⟩) ⟨n, μ, ρ, st, x, s1, ok, er, h1, fun n1 μ1 H1 y1 ok1 l1 r1 f1 => ?_⟩
    cases x with
    | l _ => cases hf
    | v x =>
      cases x with
      | bool i => cases hf; cases r1; exact ⟨_, rfl, an n1 μ1 H1 ok1 l1⟩
      | _ => cases hf
/-- {} -/
theorem e_dct : SE X D (.Dict [] [] pos) eDct := PE_imp pe_dnewT fun σ H Q ⟨n, μ, ρ, st, z, st', ok, er, hf, an⟩ => by
  cases hf
  refine fun a ha => ?_
  obtain ⟨ok1, l1⟩ := ok.upd (u := .dT []) ha
  have ok2 : Ok D (n + 1) (fun k => if k = n then a else μ k) (upd H a (.dT [])) (st ++ [.dct []]) := ok1.map (ok.fresh ha) ⟨[], upd_same, .nil⟩
  have l2 := l1.map ha
  have r2 : Rp D (n + 1) (fun k => if k = n then a else μ k) (upd H a (.dT [])) (.ref n) (.ref a) := by
    have q : Rp D (n + 1) (fun k => if k = n then a else μ k) (upd H a (.dT [])) (.ref n) (.ref ((fun k => if k = n then a else μ k) n)) := .ref (Nat.lt_succ_self n)
    simp only [if_pos] at q
    exact q
  rw [ok.len] at an
  exact an _ _ _ _ ok2 l2 r2 trivial
end

/-! ### the law's end -/
section
variable {P : Program} {w : World} {K : PySem.W.Frag} {mg mb : Str → Option Value} {k : Nat} {fa a : Addr} {cs : List (Addr × Addr)} {fd : FuncData} {x : Str} {sp : Sp} {s : Shared} {vs : List Value} {ns : List Int}
def tabO : Obj := { cls := .none, data := .fields #[] }
def lstO (vs : List Value) : Obj := { cls := .type "list", data := .seq vs.toArray }
/-- what is held as the law is called -/
def H0 (K : PySem.W.Frag) (cs : List (Addr × Addr)) (a : Addr) (vs : List Value) (ns : List Int) : Hp := fun b =>
  if b ∈ cs.map (·.2) then some (.tbl #[]) else if b = a ∧ K.lookup a = none then some (.frz (lstO vs) (.lst (ns.map V.int))) else none
theorem H0_cases (b : Addr) : (b ∈ cs.map (·.2) ∧ H0 K cs a vs ns b = some (.tbl #[])) ∨ (b ∉ cs.map (·.2) ∧ b = a ∧ K.lookup a = none ∧ H0 K cs a vs ns b = some (.frz (lstO vs) (.lst (ns.map V.int)))) ∨
    (b ∉ cs.map (·.2) ∧ (b ≠ a ∨ K.lookup a ≠ none) ∧ H0 K cs a vs ns b = none) := by
  unfold H0
  by_cases h1 : b ∈ cs.map (·.2)
  · exact .inl ⟨h1, if_pos h1⟩
  · by_cases h2 : b = a ∧ K.lookup a = none
    · exact .inr (.inl ⟨h1, h2.1, h2.2, by rw [if_neg h1, if_pos h2]⟩)
    · refine .inr (.inr ⟨h1, ?_, by rw [if_neg h1, if_neg h2]⟩)
      by_cases h3 : b = a
      · exact .inr fun z => h2 ⟨h3, z⟩
      · exact .inl h3
theorem lawG (KX : K.In s.heap) (hns : s.heap.Ns mainGlobals mg) (hnb : s.heap.Ns builtinsNs mb) (hbb : ∀ x : Str, x ≠ "__name__" → mb x = bootBuiltins x) (hlim : s.heap.NoLimit) (hgen : s.gens = #[])
    (hT : ∀ p ∈ cs, s.heap.get? p.2 = some tabO) (nT : ∀ p ∈ cs, K.lookup p.2 = none) (C : ∀ p ∈ cs, PySem.W.CodeHd s.heap p.1 p.2)
    (hbm : ∃ (bm : Addr) (ob : Obj), mg "__builtins__" = some (.ref bm) ∧ bm ≠ builtinsNs ∧ s.heap.get? bm = some ob ∧ ob.cls = .type "module" ∧ ob.dict = some builtinsNs ∧ ob.data = .plain)
    (ha : s.heap.get? a = some (lstO vs)) (hi : IntsAre vs ns) (hl : ns.length ≤ sizeLine) (hr : Room k callerA)
    (F : ∀ base : Heap, K.In base → base.Ns mainGlobals mg → (∀ p ∈ cs, LamX.TabB base mg p.1 p.2) → FnG P w K mg base k fa fd [x] sp) (hbind : ∀ (s : Shared) (u : Value), BindsTo s fd ⟨[u], []⟩ [(x, u)])
    (hsp : ∀ H : Hp, (∀ p ∈ cs, H p.2 = some (.tbl #[])) → SqL K H a (ns.map V.int) → sp [.ref a] H (fun v _ => v = .bl true) fun _ _ _ => False) :
    codeAny (model P w) callerA (.call (.ref fa) ⟨[.ref a], []⟩) (fun r s' => r = .ok (.ret (.bool true)) ∧ OldK s.heap s'.heap ∧ s'.os = s.os ∧ AllBare s'.gens) s := by
  generalize hH : H0 K cs a vs ns = H
  have hc : ∀ b, (b ∈ cs.map (·.2) ∧ H b = some (.tbl #[])) ∨ (b ∉ cs.map (·.2) ∧ b = a ∧ K.lookup a = none ∧ H b = some (.frz (lstO vs) (.lst (ns.map V.int)))) ∨ (b ∉ cs.map (·.2) ∧ (b ≠ a ∨ K.lookup a ≠ none) ∧ H b = none) := fun b => by
    rw [← hH]
    exact H0_cases b
  have atT : ∀ {b : Addr}, b ∈ cs.map (·.2) → s.heap.get? b = some tabO := fun {b} hb => by
    obtain ⟨p, hp, rfl⟩ := List.mem_map.mp hb
    exact hT p hp
  have rv := vals_ints hi
  have len := hi.length
  -- an object that is neither a list nor a table is not held
  have free : ∀ {b : Addr} {o : Obj}, s.heap.get? b = some o → o ≠ tabO → o ≠ lstO vs → H b = none := fun {b o} e h1 h2 => by
    rcases hc b with ⟨hb, _⟩ | ⟨_, hb, _, _⟩ | ⟨_, _, z⟩
    · rw [atT hb] at e
      exact absurd (Option.some.inj e).symm h1
    · rw [hb, ha] at e
      exact absurd (Option.some.inj e).symm h2
    · exact z
  have dicts : ∀ {b : Addr} {o : Obj} {es : Array DictEntry} {ep : Nat}, s.heap.get? b = some o → o.data = .dict es ep → (hidT s.heap H).get? b = some o := fun {b o es ep} e d => hidT_get e (free e
    (fun z => by rw [z] at d; exact absurd d (fun y => nomatch y)) (fun z => by rw [z] at d; exact absurd d (fun y => nomatch y)))
  have inNs : ∀ {b : Addr} {m : Str → Option Value}, s.heap.Ns b m → (hidT s.heap H).Ns b m := fun {b m} ⟨o, es, ep, e, d, r⟩ => ⟨o, es, ep, dicts e d, d, r⟩
  have hok : HOk P w H s.heap := fun b u z => by
    rcases hc b with ⟨hb, q⟩ | ⟨_, hb, _, q⟩ | ⟨_, _, q⟩
    · rw [q] at z; cases z
      exact atT hb
    · rw [q] at z; cases z
      subst hb
      exact ⟨ha, by rw [List.length_map]; exact hl, vs, _, rv, ha⟩
    · rw [q] at z; cases z
  have kin : K.In (hidT s.heap H) := fun b o e => hidT_get (KX b o e) (by
    rcases hc b with ⟨hb, _⟩ | ⟨_, hb, q, _⟩ | ⟨_, _, q⟩
    · obtain ⟨p, hp, rfl⟩ := List.mem_map.mp hb
      rw [nT p hp] at e; cases e
    · rw [hb, q] at e; cases e
    · exact q)
  have md : L2.Mod K mg (hidT s.heap H) := by
    obtain ⟨mc, m1, m2⟩ := hlim
    exact ⟨kin, inNs hns, ⟨mb, inNs hnb, hbb⟩, mc, inNs m1, m2⟩
  have tabs : ∀ p ∈ cs, LamX.TabB (hidT s.heap H) mg p.1 p.2 := fun p hp => by
    refine ⟨?_, ?_, ?_⟩
    · obtain ⟨o, us, fl, tf, g1, g2, g3, g4, g5, c1, c2, c3, c4, c5⟩ := C p hp
      refine ⟨o, us, fl, tf, g1, g2, g3, g4, g5, hidT_get c1 (free c1 (fun z => ?_) fun z => ?_), c2, c3, c4, c5⟩
      · rw [z] at c2; exact absurd c2 (fun y => nomatch y)
      · rw [z] at c3; exact absurd c3 (fun y => nomatch y)
    · obtain ⟨bm, ob, b1, b2, b3, b4, b5, b6⟩ := hbm
      refine ⟨bm, ob, b1, b2, fun z => ?_, fun z => ?_, hidT_get b3 (free b3 (fun z => ?_) fun z => ?_), b4, b5, b6⟩
      · obtain ⟨o, es, ep, e, d, _⟩ := hns
        rw [z, e] at b3
        cases b3
        rw [d] at b6
        cases b6
      · rw [z, hT p hp] at b3
        cases b3
        cases b6
      · rw [z] at b6; exact absurd b6 (fun y => nomatch y)
      · rw [z] at b6; exact absurd b6 (fun y => nomatch y)
    · intro z
      obtain ⟨o, es, ep, e, d, _⟩ := hns
      rw [z, hT p hp] at e
      cases e
      cases d
  have e0 : Env0 P w K mg (hidT s.heap H) callerA [] s H := ⟨rfl, md, fun b o e => of_hidT e, by rw [hidT_size] <;> exact Nat.le_refl _, True.intro, fun b z => (List.not_mem_nil z).elim, hok, .of_eq hgen⟩
  have aL : SqL K H a (ns.map V.int) := by
    rcases hc a with ⟨hb, _⟩ | ⟨_, _, _, q⟩ | ⟨_, h, _⟩
    · have := atT hb
      rw [ha] at this
      have := congrArg Obj.data (Option.some.inj this)
      cases this
    · exact .inl (.inr ⟨_, q⟩)
    · rcases h with h | h
      · exact absurd rfl h
      · cases q : K.lookup a with
        | none => exact absurd q h
        | some o =>
          have e := KX a o q
          rw [ha] at e
          cases e
          exact .inr ⟨_, vs.toArray, _, q, rfl, rfl, rfl, by rw [List.size_toArray, len] <;> exact hl, by simpa using rv⟩
  have held : ∀ p ∈ cs, H p.2 = some (.tbl #[]) := fun p hp => by
    rcases hc p.2 with ⟨_, q⟩ | ⟨h, _⟩ | ⟨h, _⟩
    · exact q
    · exact absurd (List.mem_map.mpr ⟨p, hp, rfl⟩) h
    · exact absurd (List.mem_map.mpr ⟨p, hp, rfl⟩) h
  refine codeAny_mono ((F _ kin (inNs hns) tabs).run callerA [] s H ⟨[.ref a], []⟩ [.ref a] [.ref a] _ _ rfl hr e0 (hbind s (.ref a)) (.cons rfl .nil) (hsp H held aL)) fun r s' z => ?_
  cases r with
  | error er => exact (show False from z).elim
  | ok fl =>
    cases fl with
    | next => exact False.elim z
    | brk => exact False.elim z
    | cont => exact False.elim z
    | ret u =>
      obtain ⟨v, H', os, bare, un, hok', r', q⟩ := z
      have q : v = .bl true := q
      subst q
      obtain rfl : u = Value.bool true := r'
      have other : ∀ b o, b ∉ cs.map (·.2) → s.heap.get? b = some o → s'.heap.get? b = some o := fun b o nb e => by
        rcases hc b with ⟨hb, _⟩ | ⟨_, hb, _, q⟩ | ⟨_, _, q⟩
        · exact absurd hb nb
        · rw [hb, ha] at e
          cases e
          have g := (hok' b _ (un.frzs b _ _ q)).1
          exact g
        · exact un.keep b o e q (fun y => (List.not_mem_nil y).elim) (fun y => (List.not_mem_nil y).elim)
      have tabl : ∀ b ∈ cs.map (·.2), ∃ more : Array Value, s'.heap.get? b = some { cls := .none, data := .fields (#[] ++ more) } := fun b hb => by
        obtain ⟨p, hp, rfl⟩ := List.mem_map.mp hb
        obtain ⟨more, y⟩ := un.tbls p.2 #[] (held p hp)
        exact ⟨more, hok' p.2 _ y⟩
      refine ⟨rfl, ⟨fun b o e => ?_, fun b o e => ?_⟩, os, bare⟩
      · by_cases hb : b ∈ cs.map (·.2)
        · obtain ⟨more, y⟩ := tabl b hb
          obtain ⟨p, hp, rfl⟩ := List.mem_map.mp hb
          rw [hT p hp] at e
          cases e
          exact .inr (.inl ⟨((C p hp).tab (hT p hp)).isCodeTable, rfl, #[], more, rfl, y⟩)
        · exact .inl (other b o hb e)
      · by_cases hb : b ∈ cs.map (·.2)
        · obtain ⟨more, y⟩ := tabl b hb
          exact ⟨_, y⟩
        · exact ⟨o, other b o hb e⟩
end
end VI
end
section
set_option Elab.async false
set_option linter.all false
set_option maxRecDepth 100000
set_option maxHeartbeats 4000000
/-! VI34: the law's end, where texts are compared; facts of errors from looks. -/
namespace VI
open PySem PySem.Spec PyProof.Rows L2
theorem walkGV {l : PySem.W.OpenLaw} {n k : Nat} {q : Program} {loose : List Str} {XP : (Str → Option Value) → Heap → Prop} {d : DefRec} {as : List Addr} {ck : PySem.W.Frag → List Bool} {fn : List He.DefD} {ls : List ((Str × Option Str) × Str)} {S : List Str} {Cn : Nat → Str} {F : Fn} {x : Str}
    (hn : l.most = some n) (hn2 : n ≤ sizeLine) (hdf : d.params.defaults = []) (hr : Room k callerA) (hnl : ∀ K, (ck K)[0]? = some (noListB K))
    (hfd : ∀ (w : World) (mg : Str → Option Value) (fa : Addr) (h : Heap) (K : PySem.W.Frag), SaysV ck fn (ls.map (·.1)) K h → h.Ns mainGlobals mg → mg d.name = some (.ref fa) → ∃ fd : FuncData, (∀ (s : Shared) (u : Value), BindsTo s fd ⟨[u], []⟩ [(x, u)]) ∧
      ∀ base, (∀ p ∈ ls.map (·.1), LamX.TabB base mg (codeA K p) (tabA K (codeA K p))) → FnG l.prog w K mg base k fa fd [x] (spF (mkW S Cn K (tabsOf K ls) none) 1 F))
    (law : ∀ ns : List Int, ns.length ≤ n → (∀ z ∈ ns, Builtin.Int.intBits z ≤ 1048576) → ∀ o : Ob, o = .lst (ns.map .int) ∨ o = .frz (ns.map .int) → ∃ st, F [.ref 0] [o] = .ok (.v (.bool true)) st) :
    PySem.W.WalkO q loose XP (hookV as ck fn (ls.map (·.1))).says l.row.toRowW d [] (fun f vs => PySem.call f vs) := by
  refine Att.attach_callB hn hdf fun w s₀ s₁ mg mb fa o pm cd doc a vs ns G Y ho hd hcd hmg hobj hints hlen hbits hg => ?_
  obtain ⟨K, Y⟩ := Y
  obtain ⟨fd, hb, hF⟩ := hfd w mg fa _ K Y G.T.g hmg
  have hcs : ∀ {R : Addr × Addr → Prop}, (∀ p ∈ ls.map (·.1), R (codeA K p, tabA K (codeA K p))) → ∀ p ∈ ls.map (fun p => (codeA K p.1, tabA K (codeA K p.1))), R p := fun {R} hR p hp => by
    obtain ⟨x, hx, rfl⟩ := List.mem_map.mp hp
    exact hR x.1 (List.mem_map.mpr ⟨x, hx, rfl⟩)
  refine lawG (cs := ls.map fun p => (codeA K p.1, tabA K (codeA K p.1))) Y.kin G.T.g G.T.b G.T.builtins G.T.nolimit hg
    (hcs (R := fun p => s₁.heap.get? p.2 = some tabO) fun p hp => (Y.lam p hp).2.2.1) (hcs (R := fun p => K.lookup p.2 = none) fun p hp => (Y.lam p hp).2.2.2) (hcs (R := fun p => PySem.W.CodeHd s₁.heap p.1 p.2) fun p hp => codeHdB_ok Y.kin (Y.lam p hp).2.1)
    G.T.bmain hobj hints (Nat.le_trans hlen hn2) hr (fun base _ _ TB => hF base fun p hp => ?_) hb (fun H hH hS => law_sp (Y.at_ 0 (hnl K)) (fun p hp => ?_) hS (law ns hlen hbits))
  · obtain ⟨x, hx, rfl⟩ := List.mem_map.mp hp
    exact TB _ (List.mem_map.mpr ⟨x, hx, rfl⟩)
  · obtain ⟨x, hx, rfl⟩ := List.mem_map.mp hp
    exact hH _ (List.mem_map.mpr ⟨x, hx, rfl⟩)
theorem walkGP {l : PySem.W.OpenLaw} {n k : Nat} {q : Program} {loose : List Str} {XP : (Str → Option Value) → Heap → Prop} {d : DefRec} {as : List Addr} {ck : PySem.W.Frag → List Bool} {fn : List He.DefD} {gn : List GetD} {ls : List ((Str × Option Str) × Str)} {S : List Str} {Cn : Nat → Str} {F : Fn} {x : Str}
    (hn : l.most = some n) (hn2 : n ≤ sizeLine) (hdf : d.params.defaults = []) (hr : Room k callerA) (hnl : ∀ K, (ck K)[0]? = some (noListB K))
    (hfd : ∀ (w : World) (mg : Str → Option Value) (fa : Addr) (h : Heap) (K : PySem.W.Frag), SaysP ck fn gn (ls.map (·.1)) K h → h.Ns mainGlobals mg → mg d.name = some (.ref fa) → ∃ fd : FuncData, (∀ (s : Shared) (u : Value), BindsTo s fd ⟨[u], []⟩ [(x, u)]) ∧
      ∀ base, (∀ p ∈ ls.map (·.1), LamX.TabB base mg (codeA K p) (tabA K (codeA K p))) → FnG l.prog w K mg base k fa fd [x] (spF (mkW S Cn K (tabsOf K ls) none) 1 F))
    (law : ∀ ns : List Int, ns.length ≤ n → (∀ z ∈ ns, Builtin.Int.intBits z ≤ 1048576) → ∀ o : Ob, o = .lst (ns.map .int) ∨ o = .frz (ns.map .int) → ∃ st, F [.ref 0] [o] = .ok (.v (.bool true)) st) :
    PySem.W.WalkO q loose XP (hookP as ck fn gn (ls.map (·.1))).says l.row.toRowW d [] (fun f vs => PySem.call f vs) := by
  refine Att.attach_callB hn hdf fun w s₀ s₁ mg mb fa o pm cd doc a vs ns G Y ho hd hcd hmg hobj hints hlen hbits hg => ?_
  obtain ⟨K, Y⟩ := Y
  obtain ⟨fd, hb, hF⟩ := hfd w mg fa _ K Y G.T.g hmg
  have hcs : ∀ {R : Addr × Addr → Prop}, (∀ p ∈ ls.map (·.1), R (codeA K p, tabA K (codeA K p))) → ∀ p ∈ ls.map (fun p => (codeA K p.1, tabA K (codeA K p.1))), R p := fun {R} hR p hp => by
    obtain ⟨x, hx, rfl⟩ := List.mem_map.mp hp
    exact hR x.1 (List.mem_map.mpr ⟨x, hx, rfl⟩)
  refine lawG (cs := ls.map fun p => (codeA K p.1, tabA K (codeA K p.1))) Y.v.kin G.T.g G.T.b G.T.builtins G.T.nolimit hg
    (hcs (R := fun p => s₁.heap.get? p.2 = some tabO) fun p hp => (Y.v.lam p hp).2.2.1) (hcs (R := fun p => K.lookup p.2 = none) fun p hp => (Y.v.lam p hp).2.2.2) (hcs (R := fun p => PySem.W.CodeHd s₁.heap p.1 p.2) fun p hp => codeHdB_ok Y.v.kin (Y.v.lam p hp).2.1)
    G.T.bmain hobj hints (Nat.le_trans hlen hn2) hr (fun base _ _ TB => hF base fun p hp => ?_) hb (fun H hH hS => law_sp (Y.v.at_ 0 (hnl K)) (fun p hp => ?_) hS (law ns hlen hbits))
  · obtain ⟨x, hx, rfl⟩ := List.mem_map.mp hp
    exact TB _ (List.mem_map.mpr ⟨x, hx, rfl⟩)
  · obtain ⟨x, hx, rfl⟩ := List.mem_map.mp hp
    exact hH _ (List.mem_map.mpr ⟨x, hx, rfl⟩)

/-! ### facts of errors -/
/-- an error class with an own __init__ -/
def oexB (K : PySem.W.Frag) (C : Addr) : Bool := (match K.lookup C with
  | some ⟨.type m, _, .cls cd, sl⟩ => decide (m = "type") && (match cd.mro, sl.toList with
    | .ref C' :: bm, [_, _, _, _, some (.builtin n), _] => decide (C' = C) && (decide (n = "ValueError.__new__") && (!cd.hasDel && (cd.hasDict && PySem.HandSPX.refsVE bm)))
    | _, _ => false)
  | _ => false) && (decide (PySem.W.findIn K (.ref C) "__setattr__" = some (some (.builtin "object.__setattr__"))) && (decide (PySem.W.subIn K (.ref C) (.type "BaseException") = some true) && (decide (PySem.W.typeIn K (.ref C) = some (.type "type")) && PySem.W.keepIn K (.ref C))))
theorem oex_of {K : PySem.W.Frag} {C : Addr} (h : oexB K C = true) : OexC K C := by
  unfold oexB at h
  obtain ⟨h1, h⟩ := He.ba h
  obtain ⟨h2, h⟩ := He.ba h
  obtain ⟨h3, h⟩ := He.ba h
  obtain ⟨h4, h5⟩ := He.ba h
  refine ⟨?_, of_decide_eq_true h2, of_decide_eq_true h3, of_decide_eq_true h4, h5⟩
  split at h1
  · rename_i m dd cd sl e
    obtain ⟨g1, h1⟩ := He.ba h1
    split at h1
    · rename_i C' bm k0 k1 k2 k3 n k5 em es
      obtain ⟨g2, h1⟩ := He.ba h1
      obtain ⟨g3, h1⟩ := He.ba h1
      obtain ⟨g4, h1⟩ := He.ba h1
      obtain ⟨g5, g6⟩ := He.ba h1
      obtain ⟨nm, bs, mro, ns, qn, hd, sn, sub, ab, col, del⟩ := cd
      have g1 := of_decide_eq_true g1
      have g2 := of_decide_eq_true g2
      have g3 := of_decide_eq_true g3
      dsimp only at em g4 g5
      subst em g1 g2 g3 g5
      have g4 : del = false := by simpa using g4
      subst g4
      have hsl : sl = #[k0, k1, k2, k3, some (.builtin "ValueError.__new__"), k5] := by
        obtain ⟨l⟩ := sl
        simp only at es
        rw [es]
      subst hsl
      exact ⟨nm, qn, ns, bs, bm, sn, sub, ab, col, dd, k0, k1, k2, k3, k5, e, g6⟩
    · cases h1
  · cases h1
/-- its __init__ and its fields -/
def ierB (K : PySem.W.Frag) (x : Str) (fs : List Str) : Bool := oexB K (He.ga K x) && (He.eqO (PySem.W.findIn K (.ref (He.ga K x)) "__init__") (some (some (.ref (He.ma K (He.ga K x) "__init__")))) && (decide (PySem.W.typeIn K (.ref (He.ma K (He.ga K x) "__init__")) = some (.type "function")) && fs.all fun f => decide (PySem.W.findIn K (.ref (He.ga K x)) f = some none)))
structure Ier (K : PySem.W.Frag) (x : Str) (fs : List Str) : Prop where
  T : OexC K (He.ga K x)
  i : PySem.W.findIn K (.ref (He.ga K x)) "__init__" = some (some (.ref (He.ma K (He.ga K x) "__init__")))
  t : PySem.W.typeIn K (.ref (He.ma K (He.ga K x) "__init__")) = some (.type "function")
  f : ∀ f ∈ fs, PySem.W.findIn K (.ref (He.ga K x)) f = some none
theorem ier_of {K : PySem.W.Frag} {x : Str} {fs : List Str} (h : ierB K x fs = true) : Ier K x fs := by
  obtain ⟨h1, h⟩ := He.ba h
  obtain ⟨h2, h⟩ := He.ba h
  obtain ⟨h3, h4⟩ := He.ba h
  exact ⟨oex_of h1, He.eqO_ok h2, of_decide_eq_true h3, fun f hf => of_decide_eq_true (List.all_eq_true.mp h4 f hf)⟩
def exmB (K : PySem.W.Frag) (Cn : Nat → Str) (er : List Nat) (c : Nat) (cs : List Nat) : Bool := er.all fun c' => decide (PySem.W.exmOne K (.ref (He.ga K (Cn c'))) (.ref (He.ga K (Cn c))) = some (cs.contains c'))
theorem exm_of {S : List Str} {Cn : Nat → Str} {K : PySem.W.Frag} {T : List (Addr × Str)} {er cs : List Nat} {c : Nat} (h : exmB K Cn er c cs = true) : ∀ c' ∈ er, PySem.W.exmOne K (.ref ((mkW S Cn K T none).C c')) (.ref ((mkW S Cn K T none).C c)) = some (cs.contains c') := fun c' hc => of_decide_eq_true (List.all_eq_true.mp h c' hc)
def xfB' (K : PySem.W.Frag) (Cn : Nat → Str) (cs : List Nat) (z : Str) : Bool := cs.all fun c => xfB K (He.ga K (Cn c)) && decide (PySem.W.findIn K (.ref (He.ga K (Cn c))) z = some none)
theorem xf_of {S : List Str} {Cn : Nat → Str} {K : PySem.W.Frag} {T : List (Addr × Str)} {cs : List Nat} {z : Str} (h : xfB' K Cn cs z = true) : XfOk K (mkW S Cn K T none) cs z := ⟨fun c hc => by
  obtain ⟨h1, h2⟩ := He.ba (List.all_eq_true.mp h c hc)
  exact ⟨xfB_ok h1, of_decide_eq_true h2⟩⟩
def err0B (K : PySem.W.Frag) (x : Str) : Bool := PySem.W.excIn K (He.ga K x) PySem.HandSPX.veTail "ValueError.__new__" && (PySem.W.keepIn K (.ref (He.ga K x)) && (decide (PySem.W.subIn K (.ref (He.ga K x)) (.type "BaseException") = some true) && decide (PySem.W.typeIn K (.ref (He.ga K x)) = some (.type "type"))))
theorem err0_of {S : List Str} {Cn : Nat → Str} {K : PySem.W.Frag} {T : List (Addr × Str)} {mg : Str → Option Value} {x : Str} {c : Nat} (hc : Cn c = x) (g : mg x = some (.ref (He.ga K x))) (h : err0B K x = true) (db : (x == ("__debug__" : Str)) = false) : Err0 K mg (mkW S Cn K T none) x c := by
  obtain ⟨h1, h⟩ := He.ba h
  obtain ⟨h2, h⟩ := He.ba h
  obtain ⟨h3, h4⟩ := He.ba h
  subst hc
  exact ⟨g, h1, h2, of_decide_eq_true h3, of_decide_eq_true h4, db⟩

/-! ### keywords -/
structure DefKX (P : Program) (w : World) (K : PySem.W.Frag) (mg : Str → Option Value) (base : Heap) (D : Wd) (k : Nat) (x : Str) (np : Nat) (F : Fn) (n : Nat) (ks : List Str) (is : List Nat) : Prop where
  ex : ∃ f fd ps, mg x = some (.ref f) ∧ PySem.W.keepIn K (.ref f) = true ∧ KB K fd ps n ks is ∧ FnOk P w K mg base (L2.CX P w) k f fd ps (spX D np F)
  db : (x == ("__debug__" : Str)) = false
theorem pick_len {α : Type} {l : List α} : ∀ is : List Nat, is.all (fun i => decide (i < l.length)) = true → (pick is l).length = is.length
  | [], _ => rfl
  | i :: is, h => by
    rw [List.all_cons, Bool.and_eq_true] at h
    unfold pick
    rw [List.filterMap_cons, List.getElem?_eq_getElem (of_decide_eq_true h.1)]
    exact congrArg (· + 1) (pick_len is h.2)
section
variable {X : Cx} {D : Wd} {E : XK} {e : Expr} {es : List Expr} {kws : List Keyword} {ga gk : Avs} {pos p : Pos} {k np n : Nat} {x : Str} {F : Fn} {ks : List Str} {is : List Nat}
theorem x_callK [L : Lets X E] (d : DefKX X.prog X.w X.K X.mg X.base D k x np F n ks is) (hr : Room k X.A) (hg : Gl X x) (ha : SA X D (e :: es) ga) [ia : NXa ga] (har : Arity ga n) (hkw : SK X D kws gk) [ik : NXa gk] (hak : Arity gk ks.length) (hnp : is.length = np) (his : is.all (fun i => decide (i < n + ks.length)) = true)
    (hall : (backToKw pos (keywordEach kws X.env)).all (·.1.isSome) = true := by rfl) (hks : (backToKw pos (keywordEach kws X.env)).filterMap (·.1) = ks := by rfl)
    (he : starEach (e :: es) X.env = (false, eval e X.env) :: starEach es X.env := by rfl)
    (hpl : ((backTo pos (starEach (e :: es) X.env)).any (·.1) || (backToKw pos (keywordEach kws X.env)).any (·.1.isNone)) = false := by rfl) : SX X D E (.Call (.Name x p) (e :: es) kws pos) (eCallK F is ga gk) := by
  refine ⟨fun pins s σ H Q I ⟨n0, μ, ρ, st, ok, er, h⟩ => ?_⟩
  obtain ⟨f, fd, ps, h1, h2, h3, h4⟩ := d.ex
  unfold eCallK eCall aPerm aApp at h
  cases g3 : ga ρ st with
  | exc c fs s => exact absurd g3 (ia.nx _ _ _ _ _)
  | bad => rw [g3] at h; exact h.elim
  | ok as s2 =>
    rw [g3] at h
    have h : out D n0 μ H ((((gk ρ s2).bind fun ys s => .ok (as ++ ys) s).bind fun xs s => .ok (pick is xs) s).bind fun xs s => F xs s) Q E := h
    cases g4 : gk ρ s2 with
    | exc c fs s => exact absurd g4 (ik.nx _ _ _ _ _)
    | bad => rw [g4] at h; exact h.elim
    | ok bs s3 =>
      rw [g4] at h
      have h : out D n0 μ H (F (pick is (as ++ bs)) s3) Q E := h
      have hrd := app_rd (G := fun _ _ => True) (ρ := fun _ => True) (Q := fun vs zs H2 => vs.length = n ∧ zs.length = ks.length ∧ spX D np F (pick is (vs ++ zs)) H2 Q E) ok er g3 g4 fun n' μ' H' vs zs ok' l' r1 r2 => by
        have e1 : vs.length = n := by rw [← r1.length]; exact har _ _ _ _ g3
        have e2 : zs.length = ks.length := by rw [← r2.length]; exact hak _ _ _ _ g4
        refine ⟨e1, e2, ?_, n', μ', _, _, ok', pick_rp (r1.append r2), out.le h l'⟩
        rw [← hnp]
        exact pick_len is (by rw [List.length_append, e1, e2]; exact his)
      refine wpAny_Call_Name_kw (ld_glob I hg h1 ?_ d.db)
      refine PySem.W.callWith_KW (h₀ := X.base) I.ok.mod.kin h2 hall (thn (ha.run pos pins s σ H _ I hrd) fun us s1 ⟨vs, H1, I1, r, q⟩ => ?_) hpl he
      refine thn (hkw.run pos pins s1 σ H1 _ I1 q) fun ws s2 ⟨zs, H2, I2, rz, l1, l2, q2⟩ => ⟨I2.kIn, ?_⟩
      rw [hks]
      have r2 := h3.rel r rz
      refine wpAny_call (codeAny_mono (h4.run X.A X.stack s2 H2 ⟨us, ks.zip ws⟩ _ _ Q E hr I2.env0 (h3.to s2 us ws I2.kIn (r.length.symm.trans l1) (rz.length.symm.trans l2)) r2 q2) fun r s' hq => ?_)
      cases r with
      | error er => exact L.passes pins σ H2 s2 er s' I2 hq
      | ok fl => cases fl <;> first | exact I2.after hq | exact False.elim hq
end
end VI
end
section
set_option Elab.async false
set_option linter.all false
set_option maxRecDepth 100000
set_option maxHeartbeats 4000000
/-! VI16: set(e) of a list of ints, sorted at once; set(e) of a tuple of texts, counted at once. -/
namespace VI
open PySem PySem.Spec PyProof.Rows L2
/-- the set that set() lays down first -/
def newS (w : World) : Obj := { cls := .type "set", dict := none, data := .set #[] 0 (.fresh 0 0 (!w.params.followText "set-order")) }
section
variable {Pg : Program} {w : World} {B : Around} {Er : Value → Shared → Prop}
/-- what one add does: Ji goes over into J (i + 1) -/
def Adds (Pg : Program) (w : World) (tgt : Addr) (J : Nat → Heap → Prop) (its : Array Value) : Prop :=
  ∀ (i : Nat) (v : Value) (z : Shared) (C : Around) (Ez : Value → Shared → Prop) (Qz : Bool → Shared → Prop), its[i]? = some v → J i z.heap →
    (∀ b hp, Heap.SameBut tgt z.heap hp → J (i + 1) hp → Qz b { z with heap := hp, toks := z.toks + 1 }) → wpAny (model Pg w) C (setAdd tgt v) Qz Ez z
theorem addsLoop {it : Addr} {fp wr : List Addr} {G : Array GenState → Array GenState → Prop} {N : Nat} {Pv : Nat → Value → Prop} {St : Nat → Shared → Prop} {Rz : Result → Shared → Prop} {its : Array Value} {J : Nat → Heap → Prop} {tgt : Addr}
    (W : WalksS Pg w B.in1 it fp wr G N Pv St) (nf : tgt ∉ fp) (keep : ∀ i a b, J i a → (∀ o, a.get? tgt = some o → b.get? tgt = some o) → J i b) (hPv : ∀ i v, Pv i v → its[i]? = some v) (ad : Adds Pg w tgt J its) :
    ∀ (m i : Nat) (z : Shared), N - i = m → i ≤ N → St i z → J i z.heap → (∀ z', Moved (tgt :: wr) G z z' → J N z'.heap → Rz (.ok (.ret .none)) z') →
      codeAny (model Pg w) B (.builtin "set.update.loop" ⟨[.ref tgt, .ref it], []⟩) Rz z := by
  have nw : tgt ∉ wr := fun q => nf (W.sub _ q)
  have up : ∀ b ∈ wr, b ∈ tgt :: wr := fun b q => List.mem_cons_of_mem _ q
  intro m
  induction m with
  | zero =>
    intro i z hm hi st j fin
    obtain rfl : i = N := by omega
    refine codeAny_builtin F.entry_set_update_loop ?_
    rw [Around.under_plainId F.plain_set_update_loop _]
    show wpAny _ B.in1 (pyNext (.ref it) >>= _) _ _ z
    refine wpAny_bind (W.done z _ _ st fun z' mv => ?_)
    show wpAny _ B.in1 (ret Value.none) _ _ z'
    exact wpAny_pure (fin z' (mv.mono up) (keep _ _ _ j fun o q => mv.heap tgt o nw q))
  | succ m ih =>
    intro i z hm hi st j fin
    have lt : i < N := by omega
    refine codeAny_builtin F.entry_set_update_loop ?_
    rw [Around.under_plainId F.plain_set_update_loop _]
    show wpAny _ B.in1 (pyNext (.ref it) >>= _) _ _ z
    refine wpAny_bind (W.item i z _ _ lt st fun v z' pv st' mv => ?_)
    have j' : J i z'.heap := keep _ _ _ j fun o q => mv.heap tgt o nw q
    show wpAny _ B.in1 (holding [v] (setAdd tgt v) >>= _) _ _ z'
    refine wpAny_bind (wpAny_holding (ad i v z' _ _ _ (hPv i v pv) j' fun b hp sb j2 => ?_))
    refine wpAny_pure ⟨plainId_quiet F.plain_set_update_loop _, ih (i + 1) _ (by omega) lt (W.frame _ z' _ _ st' (Nat.le_succ _) fun c hc o q => ?_) j2 fun z'' mv2 j3 => ?_⟩
    · rw [sb.2 c (fun q' : c = tgt => nf (by rw [← q']; exact hc))]
      exact q
    · refine fin z'' (Moved.trans W.gtrans ((mv.mono up).then_heap (Nat.le_succ _) fun c o hc q => ?_) mv2) j3
      rw [sb.2 c (fun q' : c = tgt => hc (by rw [q']; exact List.mem_cons_self))]
      exact q

set_option maxHeartbeats 8000000 in
/-- set(e), e a list -/
theorem setOf_list {l : Addr} {its : Array Value} {J : Nat → Heap → Prop} {z : Shared} {Qz : Value → Shared → Prop} (calm : B.handled = none) (src : z.heap.IsList l its)
    (keep : ∀ i a b, J i a → (∀ o, a.get? z.heap.objs.size = some o → b.get? z.heap.objs.size = some o) → J i b) (j0 : ∀ hp : Heap, hp.get? z.heap.objs.size = some (newS w) → J 0 hp) (ad : Adds Pg w z.heap.objs.size J its)
    (fin : ∀ (hp : Heap) (tk : Nat), J its.size hp → (∀ b o, z.heap.get? b = some o → hp.get? b = some o) → Qz (.ref z.heap.objs.size) { z with heap := hp, toks := tk }) :
    wpAny (model Pg w) B (call (.type "set") [.ref l]) Qz Er z := by
  obtain ⟨cc, rest, mro⟩ := F.called_set.mro
  have madeS := F.called_set.made
  have subS := F.called_set.sub
  refine wpAny_call (codeAny_of_tree ?_)
  show wpAny _ _ (callAny (.type "set") _) _ _ _
  refine wpAny_pure ⟨Code.quiet_builtin _ (by decide +kernel), codeAny_builtin F.entry_type_call ?_⟩
  rw [Around.under_plain (weight_type_call_type "set" [.ref l] []) rfl]
  have f1 := F.called_set.notType
  have f2 := F.called_set.canCreate
  have f3 := F.typeCall_set_1 (.ref l)
  repeat (any_goals (first | assumption | wp_step))

  refine codeAny_mono (code_set_led1 (.ref l) (E := Er) (Q₁ := fun ob z₁ => ob = .ref z.heap.objs.size ∧ z₁ = { z with heap := z.heap.push (newS w) }) ⟨rfl, rfl⟩) fun r z₁ hr => ?_
  cases r with
  | error e => exact hr
  | ok fl =>
    cases fl with
    | ret ob =>
      obtain ⟨rfl, rfl⟩ := hr
      have gS : (z.heap.push (newS w)).get? z.heap.objs.size = some (newS w) := Heap.get?_push_size _ rfl
      have tS : Shared.TypeIs { z with heap := z.heap.push (newS w) } (.ref z.heap.objs.size) "set" := ⟨_, gS, rfl⟩
      have f4 := F.called_set.init.lookup
      have f5 := F.called_set.init.bind (.ref z.heap.objs.size)
      repeat (any_goals (first | assumption | wp_step))

      refine codeAny_mono (codeAny_call_builtin (R := wants (fun r z₂ => r = .none ∧ ∃ hp tk, z₂ = { z with heap := hp, toks := tk } ∧ J its.size hp ∧ (∀ b o, z.heap.get? b = some o → hp.get? b = some o)) Er) F.called_set.init.plain F.entry_set_init (check_set_init_1 tS ?_)) fun r₂ z₂ hr₂ => ?_
      · obtain ⟨ol, gl, cl, nl, dl⟩ := src
        obtain ⟨oc, od, oda, osl⟩ := ol
        simp only at cl dl
        subst cl; subst dl
        have gl' : (z.heap.push (newS w)).get? l = some { cls := .type "list", dict := od, data := .seq its nl, slots := osl } := Heap.get?_push_of_some _ gl
        have f6 := F.sub_list_set
        have f7 := F.sub_list_frozenset
        have f8 : (Value.type "list" == Value.type "dict") = false := by decide
        have isK : (z.heap.push (newS w)).IsList l its := ⟨_, gl', rfl, nl, rfl⟩
        unfold Builtin.«set.__init__» noKeywords Builtin.Frozenset.updateFrom
        generalize hIt : pyIter = IT
        wp_walk
        subst hIt

        refine wpAny_pyIter_list isK ?_
        refine wpAny_bind (wpAny_runValue ?_)
        have ll : l < z.heap.objs.size := Heap.lt_size gl
        have calm3 : B.in1.in1.in1.handled = none := by simp [calm]
        have neI : l ≠ (z.heap.push (newS w)).objs.size := by
          rw [Heap.size_push]; exact Nat.ne_of_lt (Nat.lt_succ_of_lt ll)
        have nf : z.heap.objs.size ∉ [(z.heap.push (newS w)).objs.size, l] := by
          rw [Heap.size_push]
          simp only [List.mem_cons, List.mem_singleton, List.not_mem_nil, or_false, not_or]
          exact ⟨Nat.ne_of_lt (Nat.lt_succ_self _), Nat.ne_of_gt ll⟩
        refine addsLoop ((Walks.list calm3 _ l neI its).toS) nf keep (fun i v q => q) ad (its.size - 0) 0 _ (by omega) (Nat.zero_le _) ⟨⟨_, Heap.get?_push_size _ rfl, rfl, rfl⟩, (isK.push _)⟩ (j0 _ (Heap.get?_push_of_some _ gS)) ?fin
        case fin =>
          intro z' mv j1
          obtain ⟨hp, g2, dr, tk, os'⟩ := z'
          obtain rfl : g2 = z.gens := mv.gens
          obtain rfl : dr = z.drawn := mv.drawn
          obtain rfl : os' = z.os := mv.os
          show wpAny _ _ _ _ _ _
          refine wpAny_pure ?_
          show wpAny _ _ (ret Value.none) _ _ _
          refine wpAny_pure ⟨rfl, hp, tk, rfl, j1, fun b o q => ?_⟩
          have b0 : b < z.heap.objs.size := Heap.lt_size q
          have b1 : b ≠ z.heap.objs.size := Nat.ne_of_lt b0
          have b2 : b ≠ (z.heap.push (newS w)).objs.size := by
            rw [Heap.size_push]; exact Nat.ne_of_lt (Nat.lt_succ_of_lt b0)
          refine mv.heap b o ?_ (Heap.get?_push_of_some _ (Heap.get?_push_of_some _ q))
          simp only [List.mem_cons, List.mem_singleton, List.not_mem_nil, or_false, not_or]
          exact ⟨b1, b2⟩

      · cases r₂ with
        | error e => exact hr₂
        | ok fl₂ =>
          cases fl₂ with
          | ret r =>
            obtain ⟨rfl, hp, tk, rfl, j1, kp⟩ := hr₂
            repeat (any_goals (first | assumption | wp_step))
            exact fin _ _ j1 kp
          | _ => exact hr₂.elim
    | _ => exact hr.elim

set_option maxHeartbeats 8000000 in
/-- set(e), e a tuple -/
theorem setOf_tuple {l : Addr} {its : Array Value} {J : Nat → Heap → Prop} {z : Shared} {Qz : Value → Shared → Prop} (calm : B.handled = none) (src : z.heap.IsTuple l its)
    (keep : ∀ i a b, J i a → (∀ o, a.get? z.heap.objs.size = some o → b.get? z.heap.objs.size = some o) → J i b) (j0 : ∀ hp : Heap, hp.get? z.heap.objs.size = some (newS w) → J 0 hp) (ad : Adds Pg w z.heap.objs.size J its)
    (fin : ∀ (hp : Heap) (tk : Nat), J its.size hp → (∀ b o, z.heap.get? b = some o → hp.get? b = some o) → Qz (.ref z.heap.objs.size) { z with heap := hp, toks := tk }) :
    wpAny (model Pg w) B (call (.type "set") [.ref l]) Qz Er z := by
  obtain ⟨cc, rest, mro⟩ := F.called_set.mro
  have madeS := F.called_set.made
  have subS := F.called_set.sub
  refine wpAny_call (codeAny_of_tree ?_)
  show wpAny _ _ (callAny (.type "set") _) _ _ _
  refine wpAny_pure ⟨Code.quiet_builtin _ (by decide +kernel), codeAny_builtin F.entry_type_call ?_⟩
  rw [Around.under_plain (weight_type_call_type "set" [.ref l] []) rfl]
  have f1 := F.called_set.notType
  have f2 := F.called_set.canCreate
  have f3 := F.typeCall_set_1 (.ref l)
  repeat (any_goals (first | assumption | wp_step))

  refine codeAny_mono (code_set_led1 (.ref l) (E := Er) (Q₁ := fun ob z₁ => ob = .ref z.heap.objs.size ∧ z₁ = { z with heap := z.heap.push (newS w) }) ⟨rfl, rfl⟩) fun r z₁ hr => ?_
  cases r with
  | error e => exact hr
  | ok fl =>
    cases fl with
    | ret ob =>
      obtain ⟨rfl, rfl⟩ := hr
      have gS : (z.heap.push (newS w)).get? z.heap.objs.size = some (newS w) := Heap.get?_push_size _ rfl
      have tS : Shared.TypeIs { z with heap := z.heap.push (newS w) } (.ref z.heap.objs.size) "set" := ⟨_, gS, rfl⟩
      have f4 := F.called_set.init.lookup
      have f5 := F.called_set.init.bind (.ref z.heap.objs.size)
      repeat (any_goals (first | assumption | wp_step))

      refine codeAny_mono (codeAny_call_builtin (R := wants (fun r z₂ => r = .none ∧ ∃ hp tk, z₂ = { z with heap := hp, toks := tk } ∧ J its.size hp ∧ (∀ b o, z.heap.get? b = some o → hp.get? b = some o)) Er) F.called_set.init.plain F.entry_set_init (check_set_init_1 tS ?_)) fun r₂ z₂ hr₂ => ?_
      · obtain ⟨ol, gl, cl, nl, dl⟩ := src
        obtain ⟨oc, od, oda, osl⟩ := ol
        simp only at cl dl
        subst cl; subst dl
        have gl' : (z.heap.push (newS w)).get? l = some { cls := .type "tuple", dict := od, data := .seq its nl, slots := osl } := Heap.get?_push_of_some _ gl
        have f6 := F.sub_tuple_set
        have f7 := F.sub_tuple_frozenset
        have f8 : (Value.type "tuple" == Value.type "dict") = false := by decide
        have isK : (z.heap.push (newS w)).IsTuple l its := ⟨_, gl', rfl, nl, rfl⟩
        unfold Builtin.«set.__init__» noKeywords Builtin.Frozenset.updateFrom
        generalize hIt : pyIter = IT
        wp_walk
        subst hIt

        refine wpAny_pyIter_tuple isK ?_
        refine wpAny_bind (wpAny_runValue ?_)
        have ll : l < z.heap.objs.size := Heap.lt_size gl
        have calm3 : B.in1.in1.in1.handled = none := by simp [calm]
        have neI : l ≠ (z.heap.push (newS w)).objs.size := by
          rw [Heap.size_push]; exact Nat.ne_of_lt (Nat.lt_succ_of_lt ll)
        have nf : z.heap.objs.size ∉ [(z.heap.push (newS w)).objs.size, l] := by
          rw [Heap.size_push]
          simp only [List.mem_cons, List.mem_singleton, List.not_mem_nil, or_false, not_or]
          exact ⟨Nat.ne_of_lt (Nat.lt_succ_self _), Nat.ne_of_gt ll⟩
        refine addsLoop ((Walks.tuple calm3 _ l neI its).toS) nf keep (fun i v q => q) ad (its.size - 0) 0 _ (by omega) (Nat.zero_le _) ⟨⟨_, Heap.get?_push_size _ rfl, rfl, rfl⟩, (isK.push _)⟩ (j0 _ (Heap.get?_push_of_some _ gS)) ?fin
        case fin =>
          intro z' mv j1
          obtain ⟨hp, g2, dr, tk, os'⟩ := z'
          obtain rfl : g2 = z.gens := mv.gens
          obtain rfl : dr = z.drawn := mv.drawn
          obtain rfl : os' = z.os := mv.os
          show wpAny _ _ _ _ _ _
          refine wpAny_pure ?_
          show wpAny _ _ (ret Value.none) _ _ _
          refine wpAny_pure ⟨rfl, hp, tk, rfl, j1, fun b o q => ?_⟩
          have b0 : b < z.heap.objs.size := Heap.lt_size q
          have b1 : b ≠ z.heap.objs.size := Nat.ne_of_lt b0
          have b2 : b ≠ (z.heap.push (newS w)).objs.size := by
            rw [Heap.size_push]; exact Nat.ne_of_lt (Nat.lt_succ_of_lt b0)
          refine mv.heap b o ?_ (Heap.get?_push_of_some _ (Heap.get?_push_of_some _ q))
          simp only [List.mem_cons, List.mem_singleton, List.not_mem_nil, or_false, not_or]
          exact ⟨b1, b2⟩

      · cases r₂ with
        | error e => exact hr₂
        | ok fl₂ =>
          cases fl₂ with
          | ret r =>
            obtain ⟨rfl, hp, tk, rfl, j1, kp⟩ := hr₂
            repeat (any_goals (first | assumption | wp_step))
            exact fin _ _ j1 kp
          | _ => exact hr₂.elim
    | _ => exact hr.elim

end
end VI
end
section
set_option Elab.async false
set_option linter.all false
set_option maxRecDepth 100000
set_option maxHeartbeats 4000000
/-! VI16b: set(e) of a list of ints, sorted at once; of a tuple of texts, counted at once. -/
namespace VI
open PySem PySem.Spec PyProof.Rows L2
section
variable {Pg : Program} {w : World} {B : Around} {Er : Value → Shared → Prop}
/-! ### ints -/
/-- the set behind i adds -/
def SetJ (w : World) (tgt : Addr) (ns : List Int) (i : Nat) (hp : Heap) : Prop := ∃ c, c ≤ i ∧ SetR w hp tgt (fun j => decide (j ∈ ns.take i)) c
theorem adds_ints {its : Array Value} {ns : List Int} {tgt : Addr} (hit : IntsAre its.toList ns) (few : ns.length + 1 < scanBound) : Adds Pg w tgt (SetJ w tgt ns) its := fun i v z C Ez Qz hv ⟨c, hc, R⟩ fin => by
  have hsz : its.size = ns.length := by
    have q := IntsAre.length hit
    rwa [Array.length_toList] at q
  have hi : i < ns.length := by rw [← hsz]; exact (Array.getElem?_eq_some_iff.mp hv).1
  obtain ⟨t, e⟩ := IntsAre.int_at hit i v (by rw [Array.getElem?_toList]; exact hv)
  have hn : ns[i]? = some ns[i] := List.getElem?_eq_getElem hi
  rw [List.getD_eq_getElem?_getD, hn] at e
  subst e
  show wpAny _ C (setAdd tgt (.int ns[i] t)) Qz Ez z
  unfold setAdd
  refine wpAny_holding (wpAny_bind ((intKind Pg w).pyHash (k := ns[i]) (intKind_is _ _ _ _) ?_))
  refine setR_add_hashed (s := { z with toks := z.toks + 1 }) R (by omega) fun hp sb R2 => ?_
  have ej : ∀ j, decide (j ∈ ns.take (i + 1)) = (decide (j ∈ ns.take i) || decide (j = ns[i])) := fun j => by
    have e2 : ns.take (i + 1) = ns.take i ++ [ns[i]] := by rw [List.take_add_one, hn] <;> rfl
    rw [e2, Bool.eq_iff_iff]
    simp only [List.mem_append, List.mem_singleton, decide_eq_true_eq, Bool.or_eq_true]
  have hc2 : (if decide (ns[i] ∈ ns.take i) = true then c else c + 1) ≤ i + 1 := by split <;> omega
  exact fin _ hp sb ⟨_, hc2, R2.congr ej⟩
theorem setR_count {hp : Heap} {a : Addr} {S : Int → Bool} {n : Nat} {l : List Int} (R : SetR w hp a S n) (nd : l.Nodup) (hm : ∀ k, S k = true ↔ k ∈ l) : n = l.length := by
  obtain ⟨o, es, ep, t, _, _, _, _, d, m, _, _, hn, _⟩ := R
  have p : (es.toList.map keyOf).Perm l := (List.perm_ext_iff_of_nodup d nd).mpr fun k => (m k).symm.trans (hm k)
  rw [← hn, ← p.length_eq, List.length_map, Array.length_toList]
theorem rise_nodup {l : List Int} (h : l.Pairwise (· < ·)) : l.Nodup := h.imp fun h => Int.ne_of_lt h
end
def rSetI (K : PySem.W.Frag) (w : World) : List V → Hp → VK → Prop := fun xs H Q => ∃ (a : Addr) (ns : List Int), xs = [V.ref a] ∧ SqL K H a (ns.map V.int) ∧ ns.length ≤ 1000 ∧
  ∀ q, H q = none → Q (.ref q) (upd H q (SetO w q (fun j => decide (j ∈ ns)) (srtI ns).length))
section
variable {X : Cx} {D : Wd} {e : Expr} {fe : Ev} {p p2 q2 pos : Pos}
theorem cr_setI (calm : X.calm = true) : CallR X (.type "set") (rSetI X.K X.w) := by
  intro pins s σ H xs us Q I r ⟨a, ns, e, hq, hl, q⟩
  subst e
  rw [Vals.ref1 r]
  obtain ⟨its, rv, pl, _⟩ := I.list hq
  have hit := ints_of_vals rv
  have hsz : its.toArray.size = ns.length := by rw [List.size_toArray, ← rv.length, List.length_map]
  refine setOf_list (J := SetJ X.w s.heap.objs.size ns) (I.ok.hd calm) pl.isList (fun i a b ⟨c, hc, R⟩ k => ⟨c, hc, R.at k⟩) (fun hp g => ⟨0, Nat.le_refl 0, setR_new_at g⟩) (adds_ints (by simpa using hit) (by unfold scanBound; omega)) fun hp tk ⟨c, hc, R⟩ kp => ?_
  have R2 : SetR X.w hp s.heap.objs.size (fun j => decide (j ∈ ns)) (srtI ns).length := by
    have ec := setR_count R (rise_nodup (srt_rise ns)) fun k => by
      rw [hsz, List.take_length, decide_eq_true_iff, srt_mem]
    rw [ec] at R
    exact R.congr fun j => by rw [hsz, List.take_length]
  exact ⟨.ref _, upd H s.heap.objs.size (SetO X.w s.heap.objs.size (fun j => decide (j ∈ ns)) (srtI ns).length), I.laid (t' := tk) kp (Nat.le_refl _) (setO_new R2), rfl, q _ (I.hok.fresh (Nat.le_refl _))⟩
theorem bb_set : bootBuiltins ("set" : Str) = some (.type "set") := by decide +kernel
theorem bb_sorted : bootBuiltins ("sorted" : Str) = some (.builtin "sorted") := by decide +kernel
theorem e_srtSet [C : Cok X D] (hg : Gl X "sorted") (hm : X.mg "sorted" = none) (hg2 : Gl X "set") (hm2 : X.mg "set" = none) (ha : SE X D e fe) (he : starEach [e] X.env = (false, eval e X.env) :: starEach [] X.env := by rfl)
    (he2 : starEach [.Call (.Name "set" p2) [e] [] q2] X.env = (false, eval (.Call (.Name "set" p2) [e] [] q2) X.env) :: starEach [] X.env := by rfl) : SE X D (.Call (.Name "sorted" p) [.Call (.Name "set" p2) [e] [] q2] [] pos) (eB1 bSrtSet fe) :=
  PE_imp (pe_callB (cr_sortedSet C.calm) hg hm bb_sorted (pa_cons (pe_callTy (cr_setI C.calm) hg2 hm2 bb_set (pa_cons ha pa_nil he) (by decide) (by decide) he) pa_nil he2) (by decide) (by decide) he2) fun σ H Q ⟨n, μ, ρ, st, z, st', ok, er, hf, an⟩ => by
    obtain ⟨t, s1, h1, hf⟩ := bind_eq_ok hf
    refine ⟨n, μ, ρ, st, t, s1, ok, er, h1, fun n1 μ1 H1 y1 ok1 l1 r1 f1 => ?_⟩
    unfold bSrtSet at hf
    cases h2 : lstOf t s1 with
    | none => simp only [h2] at hf; cases hf
    | some xs =>
      simp only [h2] at hf
      cases h3 : ints? xs with
      | none => simp only [h3] at hf; cases hf
      | some ns =>
        simp only [h3] at hf
        by_cases hl : ns.length ≤ 1000 ∧ (srtI ns).length < 64
        · rw [if_pos hl] at hf
          cases hf
          obtain ⟨a, ys, rfl, ha, ra⟩ := lstOf_ok ok1 r1 h2
          obtain rfl := intsq_rp h3 ra
          refine ⟨a, ns, rfl, by rw [C.hK]; exact SqL.of ha, hl.1, fun q hq => ?_⟩
          obtain ⟨ok2, l2⟩ := ok1.upd (u := SetO X.w q (fun j => decide (j ∈ ns)) (srtI ns).length) hq
          refine ⟨q, _, _, rfl, upd_same, hl.2, fun ms p hr hmem _ hp => ?_⟩
          obtain rfl : ms = srtI ns := rise_eq hr (srt_rise ns) fun i => by rw [hmem, decide_eq_true_iff, srt_mem]
          refine ans_lst (an.le (l1.trans l2)) ok2 ?_ hp
          have : ∀ l : List Int, RpAll D n1 μ1 (upd H1 q (SetO X.w q (fun j => decide (j ∈ ns)) (srtI ns).length)) (l.map Val.int) (l.map V.int) := fun l => by
            induction l with
            | nil => exact .nil
            | cons i r ih => exact .cons (.int i) ih
          exact this _
        · rw [if_neg hl] at hf; cases hf
end
/-! ### texts -/
theorem ded_snoc {α : Type} [BEq α] (l : List α) (x : α) : dedS (l ++ [x]) = if (dedS l).contains x then dedS l else dedS l ++ [x] := by
  unfold dedS
  rw [List.foldl_append] <;> rfl
theorem ded_len {α : Type} [BEq α] (l : List α) : (dedS l).length ≤ l.length := by
  have : ∀ (l acc : List α), (l.foldl (fun acc x => if acc.contains x then acc else acc ++ [x]) acc).length ≤ acc.length + l.length := fun l => by
    induction l with
    | nil => intro acc; simp
    | cons x r ih =>
      intro acc
      rw [List.foldl_cons, List.length_cons]
      refine Nat.le_trans (ih _) ?_
      split
      · omega
      · rw [List.length_append, List.length_singleton]; omega
  simpa [dedS] using this l []
theorem ded_has {α : Type} [BEq α] [LawfulBEq α] (k : α) (l : List α) : (dedS l).contains k = l.contains k := by
  have : ∀ (l acc : List α), (l.foldl (fun acc x => if acc.contains x then acc else acc ++ [x]) acc).contains k = (acc.contains k || l.contains k) := fun l => by
    induction l with
    | nil => intro acc; simp
    | cons x r ih =>
      intro acc
      rw [List.foldl_cons, ih]
      by_cases h : acc.contains x = true
      · rw [if_pos h, List.contains_cons]
        by_cases hk : (k == x) = true
        · have := eq_of_beq hk; subst this; rw [h]; simp
        · simp only [Bool.not_eq_true] at hk; rw [hk, Bool.false_or]
      · rw [if_neg h, List.contains_cons]
        have e : (acc ++ [x]).contains k = (acc.contains k || (k == x)) := by
          rw [Bool.eq_iff_iff]
          simp [List.contains_iff_mem]
        rw [e, Bool.or_assoc]
  simpa [dedS] using this l []
theorem ded_map {α β : Type} [BEq α] [LawfulBEq α] [BEq β] [LawfulBEq β] (f : α → β) : ∀ (l acc : List α), (∀ x ∈ l ++ acc, ∀ y ∈ l ++ acc, f x = f y → x = y) →
    (l.map f).foldl (fun acc x => if acc.contains x then acc else acc ++ [x]) (acc.map f) = (l.foldl (fun acc x => if acc.contains x then acc else acc ++ [x]) acc).map f
  | [], acc, _ => rfl
  | x :: r, acc, inj => by
    have hc : (acc.map f).contains (f x) = acc.contains x := by
      rw [Bool.eq_iff_iff, List.contains_iff_mem, List.contains_iff_mem, List.mem_map]
      constructor
      · rintro ⟨y, hy, e⟩
        have := inj y (List.mem_append_right _ hy) x (List.mem_append_left _ List.mem_cons_self) e
        subst this; exact hy
      · exact fun h => ⟨x, h, rfl⟩
    rw [List.map_cons, List.foldl_cons, List.foldl_cons, hc]
    by_cases h : acc.contains x = true
    · rw [if_pos h, if_pos h]
      have mv : ∀ a, a ∈ r ++ acc → a ∈ x :: r ++ acc := fun a h => List.mem_cons_of_mem _ h
      exact ded_map f r acc fun a ha b hb => inj a (mv a ha) b (mv b hb)
    · rw [if_neg h, if_neg h]
      have e : acc.map f ++ [f x] = (acc ++ [x]).map f := by simp
      rw [e]
      have mv : ∀ a, a ∈ r ++ (acc ++ [x]) → a ∈ x :: r ++ acc := fun a h => by
        simp only [List.mem_append, List.mem_cons, List.not_mem_nil, or_false] at h ⊢
        rcases h with h | h | h
        · exact .inl (.inr h)
        · exact .inr h
        · exact .inl (.inl h)
      exact ded_map f r (acc ++ [x]) fun a ha b hb => inj a (mv a ha) b (mv b hb)
def SetS (P : Program) (w : World) (a : Addr) (S : Str → Bool) (n : Nat) : HO := .ext fun h => h.SetOf (PySem.strKind P w) a S n
theorem setOfS_at {P : Program} {w : World} {h h' : Heap} {a : Addr} {S : Str → Bool} {n : Nat} (R : h.SetOf (PySem.strKind P w) a S n) (k : ∀ o, h.get? a = some o → h'.get? a = some o) : h'.SetOf (PySem.strKind P w) a S n := by
  obtain ⟨o, es, ep, tb, ho, r⟩ := R
  exact ⟨o, es, ep, tb, k o ho, r⟩
theorem setS_new {P : Program} {w : World} {H : Hp} {h : Heap} {a : Addr} {S : Str → Bool} {n : Nat} (R : h.SetOf (PySem.strKind P w) a S n) : ObjOk P w H h a (SetS P w a S n) := by
  have ⟨o, _, _, _, ho, _⟩ := R
  exact ⟨R, ⟨o, ho⟩, fun h1 h2 p k => setOfS_at p k⟩
def SetT (P : Program) (w : World) (tgt : Addr) (xs : List Str) (i : Nat) (hp : Heap) : Prop := hp.SetOf (PySem.strKind P w) tgt (fun k => (xs.take i).contains k) (dedS (xs.take i)).length
theorem strs_get : ∀ {us : List Value} {ys : List Str}, StrsAre us ys → ∀ (i : Nat) (v : Value), us[i]? = some v → ∃ y t, ys[i]? = some y ∧ v = .str y t
  | _, _, .nil, i, v, h => by simp at h
  | _, _, .cons y t r, 0, v, h => by simp at h; exact ⟨y, t, by simp, h.symm⟩
  | _, _, .cons y t r, i + 1, v, h => by
    obtain ⟨z, t', e1, e2⟩ := strs_get r i v (by simpa using h)
    exact ⟨z, t', by simpa using e1, e2⟩
theorem adds_strs {Pg : Program} {w : World} {its : Array Value} {xs : List Str} {tgt : Addr} (hit : StrsAre its.toList xs) (few : xs.length + 1 < scanBound) : Adds Pg w tgt (SetT Pg w tgt xs) its := fun i v z C Ez Qz hv R fin => by
  obtain ⟨y, t, hy, rfl⟩ := strs_get hit i v (by rw [Array.getElem?_toList]; exact hv)
  show wpAny _ C (setAdd tgt (.str y t)) Qz Ez z
  unfold setAdd
  refine wpAny_holding (wpAny_bind ((PySem.strKind Pg w).pyHash (k := y) (strKind_is _ _ _ _) ?_))
  have hl := ded_len (xs.take i)
  have hi : i < xs.length := (List.getElem?_eq_some_iff.mp hy).1
  rw [List.length_take, Nat.min_eq_left (Nat.le_of_lt hi)] at hl
  refine wpAny_setAddHashed_of (knd := PySem.strKind Pg w) (s := { z with toks := z.toks + 1 }) (strKind_is _ _ _ _) rfl R (by omega) fun hp sb R2 => ?_
  refine fin _ hp sb (PyProof.Rows.SetOf_congr R2 (fun k => ?_) ?_)
  · rw [List.take_add_one, hy, Bool.eq_iff_iff]
    simp [List.contains_iff_mem]
  · rw [List.take_add_one, hy]
    show _ = (dedS (xs.take i ++ [y])).length
    rw [ded_snoc, ded_has]
    by_cases h : (xs.take i).contains y = true
    · rw [if_pos h, if_pos h]
    · rw [if_neg h, if_neg h, List.length_append, List.length_singleton]
def rSetS (K : PySem.W.Frag) (P : Program) (w : World) : List V → Hp → VK → Prop := fun vs H Q => ∃ (a : Addr) (xs : List Str), vs = [V.ref a] ∧ SqT K H a (xs.map V.str) ∧ xs.length ≤ 1000 ∧
  ∀ q, H q = none → Q (.ref q) (upd H q (SetS P w q (fun k => xs.contains k) (dedS xs).length))
def rLenS (P : Program) (w : World) : List V → Hp → VK → Prop := fun vs H Q => ∃ (a : Addr) (S : Str → Bool) (n : Nat), vs = [V.ref a] ∧ H a = some (SetS P w a S n) ∧ n ≤ 1000 ∧ Q (.int n) H
section
variable {X : Cx} {D : Wd} {e : Expr} {fe : Ev} {p p2 q2 pos : Pos}
theorem cr_setS (calm : X.calm = true) : CallR X (.type "set") (rSetS X.K X.prog X.w) := by
  intro pins s σ H vs us Q I r ⟨a, xs, e, hq, hl, q⟩
  subst e
  rw [Vals.ref1 r]
  obtain ⟨its, rv, pl, _⟩ := I.tuple hq
  have hit := strsAre_of rv
  have hsz : its.toArray.size = xs.length := by rw [List.size_toArray, ← rv.length, List.length_map]
  refine setOf_tuple (J := SetT X.prog X.w s.heap.objs.size xs) (I.ok.hd calm) pl (fun i a b R k => setOfS_at R k) (fun hp g => ?_) (adds_strs (by simpa using hit) (by unfold scanBound; omega)) fun hp tk R kp => ?_
  · exact PyProof.Rows.SetOf_congr ((PyProof.Rows.setObjOf_fresh (knd := PySem.strKind X.prog X.w) _).setOf g (by unfold scanBound; omega)) (fun _ => rfl) rfl
  · have R2 : hp.SetOf (PySem.strKind X.prog X.w) s.heap.objs.size (fun k => xs.contains k) (dedS xs).length := by
      unfold SetT at R
      rw [hsz, List.take_length] at R
      exact R
    exact ⟨.ref _, upd H s.heap.objs.size (SetS X.prog X.w s.heap.objs.size (fun k => xs.contains k) (dedS xs).length), I.laid (t' := tk) kp (Nat.le_refl _) (setS_new R2), rfl, q _ (I.hok.fresh (Nat.le_refl _))⟩
theorem cr_lenS : CallR X (.builtin "len") (rLenS X.prog X.w) := by
  intro pins s σ H vs us Q I r ⟨a, S, n, e, ha, hn, q⟩
  subst e
  rw [Vals.ref1 r]
  have R : s.heap.SetOf (PySem.strKind X.prog X.w) a S n := (I.hok a _ ha).1
  obtain ⟨o, es, ep, t, ho, hex, hd, _, _, _, hf, hz⟩ := R
  exact call_len_set ho hex hd hf (by rw [hz] <;> omega) ⟨.int n, H, I.tok _, ⟨_, by rw [hz]⟩, q⟩
theorem strsq_rp {n : Nat} {μ : Nat → Addr} {H : Hp} : ∀ {l : List Val} {ys : List V} {is : List Nat}, strs? l = some is → RpAll D n μ H l ys → ys = (is.map fun i => (D.S[i]?).getD Str.empty).map V.str ∧ ∀ i ∈ is, ∃ z, D.S[i]? = some z
  | [], _, _, e, r => by cases r; cases e; exact ⟨rfl, fun _ h => absurd h List.not_mem_nil⟩
  | x :: l, _, _, e, r => by
    cases r with
    | cons h r =>
      cases x with
      | str i =>
        unfold strs? at e
        obtain ⟨k', e1, rfl⟩ := Option.map_eq_some_iff.mp e
        obtain ⟨e2, e3⟩ := strsq_rp e1 r
        cases h with
        | str hz =>
          refine ⟨?_, fun j hj => ?_⟩
          · rw [e2, List.map_cons, List.map_cons, hz] <;> rfl
          · rcases List.mem_cons.mp hj with rfl | hj
            · exact ⟨_, hz⟩
            · exact e3 j hj
      | _ => cases e
theorem e_lenSet [C : Cok X D] [W : Wok D] (hg : Gl X "len") (hm : X.mg "len" = none) (hg2 : Gl X "set") (hm2 : X.mg "set" = none) (ha : SE X D e fe) (he : starEach [e] X.env = (false, eval e X.env) :: starEach [] X.env := by rfl)
    (he2 : starEach [.Call (.Name "set" p2) [e] [] q2] X.env = (false, eval (.Call (.Name "set" p2) [e] [] q2) X.env) :: starEach [] X.env := by rfl) : SE X D (.Call (.Name "len" p) [.Call (.Name "set" p2) [e] [] q2] [] pos) (eB1 bLenSet fe) :=
  PE_imp (pe_callB cr_lenS hg hm bb_len (pa_cons (pe_callTy (cr_setS C.calm) hg2 hm2 bb_set (pa_cons ha pa_nil he) (by decide) (by decide) he) pa_nil he2) (by decide) (by decide) he2) fun σ H Q ⟨n, μ, ρ, st, z, st', ok, er, hf, an⟩ => by
    obtain ⟨t, s1, h1, hf⟩ := bind_eq_ok hf
    refine ⟨n, μ, ρ, st, t, s1, ok, er, h1, fun n1 μ1 H1 y1 ok1 l1 r1 f1 => ?_⟩
    unfold bLenSet at hf
    cases t with
    | l _ => cases hf
    | v x =>
      cases x with
      | tup xs =>
        simp only at hf
        cases h3 : strs? xs with
        | none => simp only [h3] at hf; cases hf
        | some is =>
          simp only [h3] at hf
          by_cases hl : is.length ≤ 1000
          · rw [if_pos hl] at hf
            cases hf
            cases r1 with
            | tup h ra =>
              obtain ⟨rfl, hi⟩ := strsq_rp h3 ra
              have el : (dedS (is.map fun i => (D.S[i]?).getD Str.empty)).length = (dedS is).length := by
                have := ded_map (fun i => (D.S[i]?).getD Str.empty) is [] fun x hx y hy exy => by
                  rw [List.append_nil] at hx hy
                  obtain ⟨a, ha⟩ := hi x hx
                  obtain ⟨b, hb⟩ := hi y hy
                  rw [ha, hb] at exy
                  simp only [Option.getD_some] at exy
                  subst exy
                  exact nodup_ix W.nd ha hb
                unfold dedS
                rw [List.map_nil] at this
                rw [this, List.length_map]
              refine ⟨_, _, rfl, by rw [C.hK]; exact h.sq, by rw [List.length_map]; exact hl, fun q hq => ?_⟩
              obtain ⟨ok2, l2⟩ := ok1.upd (u := SetS X.prog X.w q (fun k => (is.map fun i => (D.S[i]?).getD Str.empty).contains k) (dedS (is.map fun i => (D.S[i]?).getD Str.empty)).length) hq
              refine ⟨q, _, _, rfl, upd_same, ?_, ?_⟩
              · rw [el]; exact Nat.le_trans (ded_len is) hl
              · rw [el]
                rw [el] at ok2 l2
                exact ans_v (an.le (l1.trans l2)) ok2 (.int _)
          · rw [if_neg hl] at hf; cases hf
      | _ => cases hf
end
end VI
end
section
set_option Elab.async false
set_option linter.all false
set_option maxRecDepth 100000
set_option maxHeartbeats 4000000
/-! VI17: calls that leave the keyword-only parameters to their defaults. -/
namespace VI
open PySem PySem.Spec PyProof.Rows L2
structure DefU (P : Program) (w : World) (K : PySem.W.Frag) (mg : Str → Option Value) (base : Heap) (D : Wd) (k : Nat) (x : Str) (np : Nat) (F : Fn) (ds : List Val) : Prop where
  ex : ∃ f fd ps dvs us, mg x = some (.ref f) ∧ PySem.W.keepIn K (.ref f) = true ∧ L2.Binds K fd ps us ∧ Vals dvs us ∧ (∀ n μ H, RpAll D n μ H ds dvs) ∧ FnOk P w K mg base C8.CX0 k f fd ps (spF D np F)
  db : (x == ("__debug__" : Str)) = false
section
variable {X : Cx} {D : Wd} {e : Expr} {es : List Expr} {ga : Avs} {pos p : Pos} {k j np : Nat} {x : Str} {F : Fn} {ds : List Val}
theorem e_callU (d : DefU X.prog X.w X.K X.mg X.base D k x np F ds) (hr : Room k X.A) (hg : Gl X x) (ha : SA X D (e :: es) ga) (har : Arity ga j) (hj : j + ds.length = np) (he : starEach (e :: es) X.env = (false, eval e X.env) :: starEach es X.env := by rfl)
    (hpl : (backTo pos (starEach es X.env)).any (·.1) = false := by rfl) : SE X D (.Call (.Name x p) (e :: es) [] pos) (eCall F (aApp ga (aDs ds))) := by
  obtain ⟨f, fd, ps, dvs, us, h1, h2, h3, hv, hd, h4⟩ := d.ex
  refine PE_imp (pe_call h4 hr hg h1 h2 h3 hv (C8.pass0 (E := C8.E0)) ha d.db he hpl) fun σ H Q ⟨n, μ, ρ, st, z, st', ok, er, hf, an⟩ => ?_
  obtain ⟨xs, s1, g1, hf⟩ := bind_eq_ok hf
  obtain ⟨as, s2, g2, g1⟩ := bind_eq_ok g1
  obtain ⟨bs, s3, g3, g1⟩ := bind_eq_ok g1
  cases g3; cases g1
  refine ⟨n, μ, ρ, st, as, _, ok, er, g2, fun n1 μ1 H1 ys ok1 l1 r1 => ?_⟩
  have hd1 := hd n1 μ1 H1
  exact ⟨by rw [List.length_append, ← r1.length, ← hd1.length, har _ _ _ _ g2, hj], n1, μ1, _, as ++ ds, z, st', ok1, r1.append hd1, hf, an.le l1⟩
end
section
variable {P : Program} {w : World} {K : PySem.W.Frag} {mg : Str → Option Value} {base : Heap} {S : List Str} {Cn : Nat → Str} {T : List (Addr × Str)}
theorem glob_rp {x : Str} {v : Val} (g : ∀ L, GV (mkW S Cn K T L) mg x v) (hm : mg x = some (.ref (He.ga K x))) (L : Option (Nat × Addr × LF)) (n : Nat) (μ : Nat → Addr) (H : Hp) : Rp (mkW S Cn K T L) n μ H v (.ref (He.ga K x)) := by
  obtain ⟨u, y, h1, h2, h3⟩ := g L
  rw [hm] at h1
  cases h1
  have e : y = .ref (He.ga K x) := by
    cases y with
    | ref a => exact congrArg V.ref (Value.ref.inj h2).symm
    | int i => obtain ⟨t, q⟩ := h2; cases q
    | str i => obtain ⟨t, q⟩ := h2; cases q
    | byt i => obtain ⟨t, q⟩ := h2; cases q
    | flt i => obtain ⟨t, q⟩ := h2; cases q
    | _ => cases h2
  rw [← e]
  exact h3 n μ H
/-- one keyword-only parameter, its default a global -/
theorem defU_of {x y : Str} {params : Arguments} {body : List Stmt} {scope : Scope} {f : Addr} {fd : FuncData} {ps : List Str} {k n np : Nat} {F : Fn} {g : Str} {v : Val} (hm : mg x = some (.ref f)) (Fd : FunD K x x params body scope [] [(y, .ref (He.ga K g))] f fd) (hn : n + 1 = ps.length)
    (gv : ∀ L, GV (mkW S Cn K T L) mg g v) (gg : mg g = some (.ref (He.ga K g)))
    (h : ∀ (D : Addr) (doc pm : Value) (an : Option Addr) (cdv ct : Value) (us ks : List Value), us.length = n → ks.length = 1 → KwChain D ([y].zip ks) (bindArgs (PySem.W.fnOf x x params body scope .none (.ref D) doc pm an cdv ct) ⟨us, []⟩) (ps.zip (us ++ ks)))
    (hF : FnOk P w K mg base C8.CX0 k f fd ps (spF (mkW S Cn K T none) np F)) (hx : (x == ("__debug__" : Str)) = false) : DefU P w K mg base (mkW S Cn K T none) k x np F [v] := by
  obtain ⟨us, hv, hb⟩ := Fd.binds0 n (by simp) hn h
  exact ⟨⟨f, fd, ps, _, us, hm, Fd.kp, hb, hv, fun n μ H => .cons (glob_rp gv gg none n μ H) .nil, hF⟩, hx⟩
end
end VI
end
section
set_option Elab.async false
set_option linter.all false
set_option maxRecDepth 100000
set_option maxHeartbeats 4000000
/-! VI18: == of two lists of instances whose class has an own __eq__. -/
namespace VI
open PySem PySem.Spec PyProof.Rows L2
section
variable {X : Cx} {D : Wd} {k : Nat} {F : Fn} {c : Nat}
theorem ins_eq_at {A : Around} {pins : List (Addr × Obj)} {σ : L2.St} {H : Hp} {s : Shared} {n : Nat} {μ : Nat → Addr} {st s1 : Store} {i j : Nat} {b : Bool} {u v : Val} {R : Value → Shared → Prop} (d : EqM X.prog X.w X.K X.mg X.base D k c F) (hr : Room k A) (hfr : A.frames = X.A.frames) (I : L2.Inv X pins σ H s) (ok : Ok D n μ H st)
    (hi : isIns (.v (.ref i)) c st = some u) (hj : isIns (.v (.ref j)) c st = some v) (h3 : F [.ref i, .ref j] st = .ok (.v (.bool b)) s1) (fin : ∀ n' μ' H' s', L2.Inv X pins σ H' s' → Ok D n' μ' H' s1 → Le n μ H n' μ' H' → R (.bool b) s') :
    wpAny (model X.prog X.w) A (richCompare .Eq (.ref (μ i)) (.ref (μ j))) R X.xe s := by
  obtain ⟨f, fd, ps, hs, hfn, hb, hF⟩ := d.ex
  have lti : i < n := by
    unfold isIns at hi
    cases e : st[i]? with
    | none => simp [e] at hi
    | some o => exact ok.lt e
  have ltj : j < n := by
    unfold isIns at hj
    cases e : st[j]? with
    | none => simp [e] at hj
    | some o => exact ok.lt e
  have ra : Rp D n μ H (.ref i) (.ref (μ i)) := .ref lti
  have rb : Rp D n μ H (.ref j) (.ref (μ j)) := .ref ltj
  obtain ⟨aa, dx, gs, e1, e2, hA⟩ := isIns_ok (x := .v (.ref i)) ok ra hi
  obtain ⟨ab, dy, hs', e3, e4, hB⟩ := isIns_ok (x := .v (.ref j)) ok rb hj
  cases e2
  cases e4
  obtain ⟨mA, J, _⟩ := ins_get I.hok hA
  obtain ⟨mB, J', _⟩ := ins_get I.hok hB
  obtain ⟨od, J, _⟩ := J.look
  obtain ⟨od', J', _⟩ := J'.look
  obtain ⟨m, hFr⟩ := I.fr
  refine PySem.W.cmp_K (op := .Eq) (tb := .ref (D.C c)) hr.units0 hFr I.ok.mod.kin J J'.type (by simp [PySem.W.notFirst]) hs hfn ?_
  have hsp : spF D 2 F [.ref (μ i), .ref (μ j)] H (fun v H' => v = .bl b ∧ ∃ n' μ', Ok D n' μ' H' s1 ∧ Le n μ H n' μ' H') C8.E0 := ⟨rfl, n, μ, st, [.ref i, .ref j], _, s1, ok, .cons ra (.cons rb .nil), h3, fun n' μ' H' y' ok' l' r' f' => by
    cases r'
    exact ⟨rfl, n', μ', ok', l'⟩⟩
  have e0 : Env0 X.prog X.w X.K X.mg X.base A X.stack s H := by
    have e := I.env0
    exact ⟨by rw [hfr]; exact e.frames, e.mod, e.bs, e.bsz, e.funs, e.frf, e.hok, e.bare⟩
  have hl := hF.len _ _ _ _ hsp
  have r2 : Vals [V.ref (μ i), V.ref (μ j)] [Value.ref (μ i), Value.ref (μ j)] := .cons rfl (.cons rfl .nil)
  refine wpAny_call (codeAny_mono (hF.run A X.stack s H ⟨[.ref (μ i), .ref (μ j)], []⟩ [.ref (μ i), .ref (μ j)] [.ref (μ i), .ref (μ j)] _ C8.E0 hr e0 (by
    have := hb s [.ref (μ i), .ref (μ j)] I.kIn (by simpa using hl)
    simpa using this) r2 hsp) fun r s' hq => ?_)
  cases r with
  | error e => exact (show False from hq).elim
  | ok fl =>
    cases fl with
    | ret w =>
      obtain ⟨z, H', I', rz, ez, n', μ', ok', l'⟩ := I.after hq
      subst ez
      obtain rfl : w = Value.bool b := rz
      exact fin n' μ' H' s' I' ok' l'
    | next => exact False.elim hq
    | brk => exact False.elim hq
    | cont => exact False.elim hq
theorem s_eqIL (d : EqM X.prog X.w X.K X.mg X.base D k c F) (hr : Room (k + 1) X.A) : OpR X (compareOp .Eq) (rO D (cEqIL c F)) := by
  intro pins s σ H x y v u Q I rx ry ⟨n, μ, st, a, b, z, st', ok, ra, rb, hf, an⟩
  unfold cEqIL at hf
  cases h1 : lstOf a st with
  | none => simp only [h1] at hf; cases hf
  | some xs0 =>
    simp only [h1] at hf
    obtain ⟨t, s1, h2, hf⟩ := bind_eq_ok hf
    cases hf
    generalize hN : xs0.length = N at h2
    obtain ⟨la, _, rfl, _, _⟩ := lstOf_ok ok ra h1
    have hb0 : ∃ ys0, lstOf b st = some ys0 := by
      cases e : lstOf b st with
      | none => cases N <;> (simp only [eqGo, h1, e] at h2; cases h2)
      | some ys0 => exact ⟨ys0, rfl⟩
    obtain ⟨ys0, hb0⟩ := hb0
    obtain ⟨lb, _, rfl, _, _⟩ := lstOf_ok ok rb hb0
    cases rx
    cases ry
    refine GQ.rc_listG hr.units0 (N := N) (I := fun i s => ∃ n μ H st, L2.Inv X pins σ H s ∧ Ok D n μ H st ∧ Rt D n μ H a (.ref la) ∧ Rt D n μ H b (.ref lb) ∧ i ≤ N ∧ eqGo c F a b N (N - i) st = .ok t st' ∧ Ans D n μ H (.v (.bool true)) st' Q) ?_ ?_ ⟨n, μ, H, st, I, ok, ra, rb, Nat.zero_le _, h2, an⟩
    · intro i s' ⟨n', μ', H', st2, I', ok', ra', rb', hi, hg, an'⟩
      have key : ∃ xs ys, lstOf a st2 = some xs ∧ lstOf b st2 = some ys ∧ xs.length = N ∧ ys.length = N ∧ ∀ m, N - i = m + 1 → ∃ j k u v, xs[i]? = some (.ref j) ∧ ys[i]? = some (.ref k) ∧ isIns (.v (.ref j)) c st2 = some u ∧ isIns (.v (.ref k)) c st2 = some v ∧ (if j = k then eqGo c F a b N m st2 else (F [.ref j, .ref k] st2).bind fun r s => match r with
            | .v (.bool b') => if b' = true then eqGo c F a b N m s else .bad
            | _ => .bad) = .ok t st' := by
        cases hm : N - i with
        | zero =>
          rw [hm] at hg
          unfold eqGo at hg
          split at hg
          · rename_i xs ys e1 e2
            split at hg
            · rename_i hl
              exact ⟨xs, ys, e1, e2, hl.1, hl.2, fun m h => by cases h⟩
            · cases hg
          · cases hg
        | succ m =>
          rw [hm] at hg
          unfold eqGo at hg
          split at hg
          · rename_i xs ys e1 e2
            split at hg
            · rename_i hl
              refine ⟨xs, ys, e1, e2, hl.1, hl.2, fun m' h => ?_⟩
              cases h
              have ei : N - (m + 1) = i := by omega
              rw [ei] at hg
              split at hg
              · rename_i j k e3 e4
                split at hg
                · rename_i u v e5 e6
                  exact ⟨j, k, u, v, e3, e4, e5, e6, hg⟩
                · cases hg
              · cases hg
            · cases hg
          · cases hg
      obtain ⟨xs, ys, e1, e2, l1, l2, nx⟩ := key
      obtain ⟨la', zs, q1, hA, rA⟩ := lstOf_ok ok' ra' e1
      cases q1
      obtain ⟨lb', ws, q2, hB, rB⟩ := lstOf_ok ok' rb' e2
      cases q2
      obtain ⟨_, its, c1, r1, g1⟩ := (show ObjOk X.prog X.w H' s'.heap la (.lst zs) from I'.hok _ _ hA)
      obtain ⟨_, its2, c2, r2, g2⟩ := (show ObjOk X.prog X.w H' s'.heap lb (.lst ws) from I'.hok _ _ hB)
      refine ⟨its.toArray, its2.toArray, c1, c2, g1, g2, by rw [List.size_toArray, ← r1.length, ← rA.length, l1], by rw [List.size_toArray, ← r2.length, ← rB.length, l2], fun h1 h2 => ?_⟩
      have hlt : i < N := by rw [List.size_toArray, ← r1.length, ← rA.length, l1] at h1; exact h1
      obtain ⟨m, hm⟩ : ∃ m, N - i = m + 1 := ⟨N - i - 1, by omega⟩
      obtain ⟨j, k', u', v', e3, e4, e5, e6, hgo⟩ := nx m hm
      have hm2 : N - (i + 1) = m := by omega
      obtain ⟨y1, e7, p1⟩ := rA.get e3
      obtain ⟨y2, e8, p2⟩ := rB.get e4
      cases p1
      cases p2
      obtain ⟨w1, e9, p3⟩ := r1.get e7
      obtain ⟨w2, e10, p4⟩ := r2.get e8
      cases p3
      cases p4
      have x1 : its.toArray[i] = Value.ref (μ' j) := by
        have := (List.getElem?_eq_some_iff.mp e9).2
        simpa using this
      have x2 : its2.toArray[i] = Value.ref (μ' k') := by
        have := (List.getElem?_eq_some_iff.mp e10).2
        simpa using this
      rw [x1, x2]
      by_cases hjk : j = k'
      · subst hjk
        rw [if_pos rfl] at hgo
        refine SeqAt.EqAt.same (A := X.A.in1) (s := s') (.ref (μ' j)) X.prog X.w X.xe _ ⟨rfl, n', μ', H', st2, I', ok', ra', rb', hlt, ?_, an'⟩
        rw [hm2]; exact hgo
      · rw [if_neg hjk] at hgo
        obtain ⟨rr, s3, h5, hgo⟩ := bind_eq_ok hgo
        have hne : μ' j ≠ μ' k' := fun q => hjk (ok'.inj j k' (by
          cases e : st2[j]? with
          | none => simp [isIns, e] at e5
          | some o => exact ok'.lt e) (by
          cases e : st2[k']? with
          | none => simp [isIns, e] at e6
          | some o => exact ok'.lt e) q)
        cases rr with
        | l _ => cases hgo
        | v rr =>
          cases rr with
          | bool bb =>
            cases bb with
            | false => cases hgo
            | true =>
              refine GQ.eqBool_refG hne (ins_eq_at d hr.in1 rfl I' ok' e5 e6 h5 fun n3 μ3 H3 s4 I3 ok3 l3 => ⟨true, rfl, rfl, n3, μ3, H3, s3, I3, ok3, ra'.mono l3, rb'.mono l3, hlt, ?_, an'.le l3⟩)
              rw [hm2]; exact hgo
          | _ => cases hgo
    · intro s' ⟨n', μ', H', st2, I', ok', ra', rb', hi, hg, an'⟩
      rw [Nat.sub_self] at hg
      unfold eqGo at hg
      split at hg
      · split at hg
        · cases hg
          exact ⟨.bl true, H', I', rfl, ans_v an' ok' (.bool true)⟩
        · cases hg
      · cases hg
end
end VI
end
section
set_option Elab.async false
set_option linter.all false
set_option maxRecDepth 100000
set_option maxHeartbeats 4000000
/-! VI35: != of instances by an own __eq__. -/
namespace VI
open PySem PySem.Spec PyProof.Rows L2
def neB (K : PySem.W.Frag) (C f : Addr) : Bool := (match K.lookup C with
  | some ⟨.type m, _, .cls cd, sl⟩ => decide (m = "type") && (match cd.mro, sl.toList with
    | [.ref C', .type o], [_, _, _, _, some (.builtin n), _] => decide (C' = C) && (decide (o = "object") && (!cd.hasDel && (PySem.W.nsOkIn K cd.ns && (He.eqO (PySem.W.nsIn K cd.ns "__eq__") (some (some (.ref f))) && decide (PySem.W.nsIn K cd.ns "__ne__" = some none)))))
    | _, _ => false)
  | _ => false) && (match K.lookup f with
  | some ⟨.type m, _, _, _⟩ => decide (m = "function")
  | _ => false)
theorem ns_at {K : PySem.W.Frag} {h : Heap} {N : Addr} {mN : Str → Option Value} {y : Str} {v : Value} (X : K.In h) (G : h.Ns N mN) (e : PySem.W.nsIn K N y = some (some v)) : mN y = some v := by
  obtain ⟨o, es, ep, g1, g2, _, g3⟩ := G
  unfold PySem.W.nsIn at e
  cases q : K.lookup N with
  | none => rw [q] at e; cases e
  | some o' =>
    have g4 := X _ _ q
    rw [g1] at g4
    cases g4
    rw [q] at e
    obtain ⟨oc, od, dt, sl⟩ := o
    dsimp only at g2
    subst g2
    simp only at e
    rw [← g3]
    unfold nsFind findBy
    rw [← Array.find?_toList]
    cases r : es.toList.find? (·.key.isStr y) with
    | some en =>
      rw [r] at e
      simp only [Option.some.injEq] at e
      rw [Option.map_some, e]
    | none =>
      rw [r] at e
      simp only at e
      split at e <;> cases e
theorem ne_of {K : PySem.W.Frag} {C f x : Addr} {h : Heap} {o : Obj} (X : K.In h) (b : neB K C f = true) (ho : h.get? x = some o) (hc : o.cls = .ref C) : h.OwnEqNoNe x C f "object" [.type "object"] := by
  unfold neB at b
  obtain ⟨h1, h2⟩ := He.ba b
  split at h2
  · rename_i m d dt sl ef
    split at h1
    · rename_i m' dd cd sl' e
      obtain ⟨g1, h1⟩ := He.ba h1
      split at h1
      · rename_i C' o' k0 k1 k2 k3 n k5 em es
        obtain ⟨g2, h1⟩ := He.ba h1
        obtain ⟨g3, h1⟩ := He.ba h1
        obtain ⟨g4, h1⟩ := He.ba h1
        obtain ⟨g5, h1⟩ := He.ba h1
        obtain ⟨g6, g7⟩ := He.ba h1
        obtain ⟨nm, bs, mro, ns, qn, hd, sn, sub, ab, col, del⟩ := cd
        have g1 := of_decide_eq_true g1
        have g2 := of_decide_eq_true g2
        have g3 := of_decide_eq_true g3
        dsimp only at em g4 g5 g6 g7
        subst em g1 g2 g3
        have g4 : del = false := by simpa using g4
        subst g4
        have hsl : sl' = #[k0, k1, k2, k3, some (.builtin n), k5] := by
          obtain ⟨l⟩ := sl'
          simp only at es
          rw [es]
        subst hsl
        have N := Heap.Ns.of_isNs (PySem.W.isNs_of_in X g5)
        exact ⟨o, _, nm, qn, ns, bs, hd, sn, sub, ab, col, dd, k0, k1, k2, k3, k5, n, _, _, ho, hc, X _ _ e, N, ns_at X N (He.eqO_ok g6), X _ _ ef, congrArg Value.type (of_decide_eq_true h2), PySem.F.cmp_object.mro, rfl, PySem.W.ns_none_of X N (of_decide_eq_true g7)⟩
      · cases h1
    · cases h1
  · cases h2
section
variable {X : Cx} {D : Wd} {k : Nat} {F : Fn}
theorem s_neI {c : Nat} {f : Addr} (hne : neB X.K (D.C c) f = true) (d : ∃ fd ps, L2.Binds X.K fd ps [] ∧ FnOk X.prog X.w X.K X.mg X.base C8.CX0 k f fd ps (spF D 2 F)) (hr : Room (k + 1) X.A) : OpR X (compareOp .NotEq) (rO D (cNeI c F)) := by
  intro pins s σ H x y v u Q I rx ry ⟨n, μ, st, a, b, z, st', ok, ra, rb, hf, an⟩
  obtain ⟨fd, ps, hb, hF⟩ := d
  unfold cNeI at hf
  cases h1 : isIns a c st with
  | none => rw [h1] at hf; cases hf
  | some va =>
    cases h2 : isIns b c st with
    | none => rw [h1, h2] at hf; cases hf
    | some vb =>
      rw [h1, h2] at hf
      obtain ⟨r, s1, h3, hf⟩ := bind_eq_ok hf
      obtain ⟨aa, dx, gs, rfl, rfl, hA⟩ := isIns_ok ok ra h1
      obtain ⟨ab, dy, hs', rfl, rfl, hB⟩ := isIns_ok ok rb h2
      cases rx
      cases ry
      obtain ⟨mA, J, _⟩ := ins_get I.hok hA
      obtain ⟨mB, J', _⟩ := ins_get I.hok hB
      have gA := (I.hok aa _ hA).2.2.2.1
      have gB := (I.hok ab _ hB).2.2.2.1
      have OE := ne_of I.kIn hne gA rfl
      obtain ⟨hp, gn, dr, tk, os⟩ := s
      refine compareOp_ne_ownEq PySem.F.cmp_object OE gB rfl (by have := hr.un; omega) ?_
      have hsp : spF D 2 F [.ref aa, .ref ab] H (fun v H' => ∃ k, v = .bl k ∧ Q (.bl (!k)) H') C8.E0 := ⟨rfl, n, μ, st, [va, vb], r, s1, ok, .cons ra (.cons rb .nil), h3, fun n' μ' H' y' ok' l' r' f' => by
        cases r with
        | l _ => cases hf
        | v r =>
          cases r with
          | bool k =>
            cases hf
            cases r'
            exact ⟨k, rfl, an n' μ' H' _ ok' l' (.bool (!k)) trivial⟩
          | _ => cases hf⟩
      have hl := hF.len _ _ _ _ hsp
      have r2 : Vals [V.ref aa, V.ref ab] [Value.ref aa, Value.ref ab] := .cons rfl (.cons rfl .nil)
      have e0 : Env0 X.prog X.w X.K X.mg X.base X.A.in1 X.stack ⟨hp, gn, dr, tk, os⟩ H := by
        have e := I.env0
        exact ⟨e.frames, e.mod, e.bs, e.bsz, e.funs, e.frf, e.hok, e.bare⟩
      refine wpAny_call (codeAny_mono (hF.run X.A.in1 X.stack _ H ⟨[.ref aa, .ref ab], []⟩ [.ref aa, .ref ab] [.ref aa, .ref ab] _ C8.E0 hr.in1 e0 (by
        have := hb ⟨hp, gn, dr, tk, os⟩ [.ref aa, .ref ab] I.kIn (by simpa using hl)
        simpa using this) r2 hsp) fun r s' hq => ?_)
      cases r with
      | error e => exact (show False from hq).elim
      | ok fl =>
        cases fl with
        | ret w =>
          obtain ⟨z, H', I', rz, k, ez, q⟩ := I.after hq
          subst ez
          obtain rfl : w = Value.bool k := rz
          exact ⟨k, rfl, .bl (!k), H', I', rfl, q⟩
        | next => exact False.elim hq
        | brk => exact False.elim hq
        | cont => exact False.elim hq
end
end VI
end
section
set_option Elab.async false
set_option linter.all false
set_option maxRecDepth 100000
set_option maxHeartbeats 4000000
/-! VI40: == of an instance with anything else, in and index by an own __eq__ : the model's side. -/
namespace VI
open PySem PySem.SeqAt
open AutoSeq1 (wpAny_loadPart')
open MeetsSeq MeetsSeq2 MeetsSeq3 SeqRoads2
section
variable {prog : Program} {w : World} {A : Around} {R : Result → Shared → Prop}
theorem contains_loopG (l : Addr) (x : Value) (N : Nat) (I : Nat → Shared → Prop)
    (hl : ∀ i s, I i s → ∃ (items : Array Value) (n : Nat), s.heap.get? l = some { cls := .type "list", data := .seq items n } ∧ items.size = N ∧
      ∀ (h1 : i < items.size), wpAny (model prog w) A.in1 (eqBool items[i] x) (fun r s' => if r = true then R (.ok (.ret (.bool true))) s' else I (i + 1) s') (fun e s' => R (.error e) s') s)
    (fin : ∀ s, I N s → R (.ok (.ret (.bool false))) s) (k : Nat) :
    ∀ i : Nat, N - i = k → i ≤ N → ∀ s, I i s →
      wpAny (model prog w) A.in1 (Builtin.«list.__contains__.loop» ⟨[.ref l, x, rawInt i], []⟩) (GQ.FinOf prog w A R) (fun e s' => R (.error e) s') s := by
  induction k with
  | zero =>
    intro i hk hi s h
    obtain ⟨items, n, hl1, hs1, _⟩ := hl _ _ h
    have hi' : i = N := by omega
    have hR : R (.ok (.ret (.bool false))) s := fin s (hi' ▸ h)
    obtain ⟨hp, g, d, tk, os⟩ := s
    wp_walk using wpAny_loadPart' hl1
    have hi1 : items[((i : Nat) : Int).toNat]? = none := by simp; omega
    rw [hi1]
    wp_walk
    exact hR
  | succ k ih =>
    intro i hk hi s h
    obtain ⟨items, n, hl1, hs1, turn⟩ := hl _ _ h
    have hlt : i < items.size := by omega
    have ht := turn hlt
    obtain ⟨hp, g, d, tk, os⟩ := s
    wp_walk using wpAny_loadPart' hl1
    have hi1 : items[((i : Nat) : Int).toNat]? = some items[i] := by simp [hlt]
    have hc : ((i : Int) + 1) = ((i + 1 : Nat) : Int) := by omega
    rw [hi1]
    refine wpAny_bind (wpAny_mono ht (fun r s2 h2 => ?_) fun _ _ x => x)
    cases r with
    | true =>
      rw [if_pos rfl] at h2
      wp_walk
      exact h2
    | false =>
      rw [if_neg (by decide)] at h2
      have hrec := ih (i + 1) (by omega) (by omega) s2 h2
      obtain ⟨hp2, g2, d2, tk2, os2⟩ := s2
      wp_walk
      rw [hc]
      exact ⟨plainId_quiet plain_contains_loop _, codeAny_builtin entry_contains_loop (by
        rw [Around.under_plainId plain_contains_loop _]
        exact hrec)⟩
theorem list_containsG (l : Addr) (x : Value) (N : Nat) (I : Nat → Shared → Prop)
    (hl : ∀ i s, I i s → ∃ (items : Array Value) (n : Nat), s.heap.get? l = some { cls := .type "list", data := .seq items n } ∧ items.size = N ∧
      ∀ (h1 : i < items.size), wpAny (model prog w) A.in1 (eqBool items[i] x) (fun r s' => if r = true then R (.ok (.ret (.bool true))) s' else I (i + 1) s') (fun e s' => R (.error e) s') s)
    (fin : ∀ s, I N s → R (.ok (.ret (.bool false))) s) {s : Shared} (h : I 0 s) :
    wpAny (model prog w) A.in1 (Builtin.«list.__contains__» ⟨[.ref l, x], []⟩) (GQ.FinOf prog w A R) (fun e s' => R (.error e) s') s := by
  obtain ⟨items, n, hl1, hs1, _⟩ := hl _ _ h
  have hrec := contains_loopG (A := A) (R := R) l x N I hl fin _ 0 rfl (Nat.zero_le _) s h
  obtain ⟨hp, g, d, tk, os⟩ := s
  wp_walk using wpAny_loadPart' hl1
  exact ⟨plainId_quiet plain_contains_loop _, codeAny_builtin entry_contains_loop (by
    rw [Around.under_plainId plain_contains_loop _]
    exact hrec)⟩
theorem index_loopG (l : Addr) (x : Value) (N : Nat) (upto : Int) (hN : (N : Int) < upto) (I : Nat → Shared → Prop)
    (hl : ∀ i s, I i s → ∃ (items : Array Value) (n : Nat), s.heap.get? l = some { cls := .type "list", data := .seq items n } ∧ items.size = N ∧ i < N ∧
      ∀ (h1 : i < items.size), wpAny (model prog w) A.in1 (eqBool items[i] x) (fun r s' => if r = true then R (.ok (.ret (.int i s'.toks))) { s' with toks := s'.toks + 1 } else I (i + 1) s') (fun e s' => R (.error e) s') s) (k : Nat) :
    ∀ i : Nat, N - i = k → ∀ s, I i s →
      wpAny (model prog w) A.in1 (Builtin.«list.index.loop» ⟨[.ref l, x, rawInt i, rawInt upto], []⟩) (GQ.FinOf prog w A R) (fun e s' => R (.error e) s') s := by
  induction k with
  | zero =>
    intro i hk s h
    obtain ⟨items, n, hl1, hs1, hi, _⟩ := hl _ _ h
    omega
  | succ k ih =>
    intro i hk s h
    obtain ⟨items, n, hl1, hs1, hi, turn⟩ := hl _ _ h
    have hlt : i < items.size := by omega
    have ht := turn hlt
    have hst : (i : Int) < upto := by omega
    obtain ⟨hp, g, d, tk, os⟩ := s
    wp_walk using wpAny_loadPart' hl1
    have hi1 : (if (i : Int) < upto then items[((i : Nat) : Int).toNat]? else none) = some items[i] := by rw [if_pos hst]; simp [hlt]
    have hc : ((i : Int) + 1) = ((i + 1 : Nat) : Int) := by omega
    rw [hi1]
    refine wpAny_bind (wpAny_mono ht (fun r s2 h2 => ?_) fun _ _ x => x)
    cases r with
    | true =>
      rw [if_pos rfl] at h2
      obtain ⟨hp2, g2, d2, tk2, os2⟩ := s2
      wp_walk
      exact h2
    | false =>
      rw [if_neg (by decide)] at h2
      have hrec := ih (i + 1) (by omega) s2 h2
      obtain ⟨hp2, g2, d2, tk2, os2⟩ := s2
      wp_walk
      rw [hc]
      exact ⟨plainId_quiet plain_index_loop _, codeAny_builtin entry_index_loop (by
        rw [Around.under_plainId plain_index_loop _]
        exact hrec)⟩
theorem list_indexG (l : Addr) (x : Value) (N : Nat) (hN : (N : Int) < 2 ^ 63 - 1) (I : Nat → Shared → Prop)
    (hl : ∀ i s, I i s → ∃ (items : Array Value) (n : Nat), s.heap.get? l = some { cls := .type "list", data := .seq items n } ∧ items.size = N ∧ i < N ∧
      ∀ (h1 : i < items.size), wpAny (model prog w) A.in1 (eqBool items[i] x) (fun r s' => if r = true then R (.ok (.ret (.int i s'.toks))) { s' with toks := s'.toks + 1 } else I (i + 1) s') (fun e s' => R (.error e) s') s)
    {s : Shared} (h : I 0 s) :
    wpAny (model prog w) A.in1 (Builtin.«list.index» ⟨[.ref l, x], []⟩) (GQ.FinOf prog w A R) (fun e s' => R (.error e) s') s := by
  obtain ⟨items, n, hl1, hs1, _⟩ := hl _ _ h
  have hrec := index_loopG (A := A) (R := R) l x N (2 ^ 63 - 1) hN I hl _ 0 rfl s h
  obtain ⟨hp, g, d, tk, os⟩ := s
  have f1 := AutoSeq1.idx_int
  wp_walk using wpAny_loadPart' hl1
  have a1 : ((fun i : Int => if i < 0 then max 0 (i + (items.size : Int)) else i) ((none : Option Int).getD 0)) = ((0 : Nat) : Int) := by simp
  have a2 : ((fun i : Int => if i < 0 then max 0 (i + (items.size : Int)) else i) ((none : Option Int).getD (2 ^ 63 - 1))) = 2 ^ 63 - 1 := by simp
  rw [a1, a2]
  exact ⟨plainId_quiet plain_index_loop _, codeAny_builtin entry_index_loop (by
    rw [Around.under_plainId plain_index_loop _]
    exact hrec)⟩
end
section
variable {prog : Program} {w : World} {A : Around} {E : Value → Shared → Prop} {s : Shared}
theorem in_listG {l : Addr} {x : Value} {N : Nat} {Q : Value → Shared → Prop} (I : Nat → Shared → Prop)
    (hl : ∀ i s, I i s → ∃ (items : Array Value) (n : Nat), s.heap.get? l = some { cls := .type "list", data := .seq items n } ∧ items.size = N ∧
      ∀ (h1 : i < items.size), wpAny (model prog w) A.in1 (eqBool items[i] x) (fun r s' => if r = true then Q (.bool true) s' else I (i + 1) s') E s)
    (fin : ∀ s, I N s → Q (.bool false) s) (h : I 0 s) : wpAny (model prog w) A (compareOp .In x (.ref l)) Q E s := by
  obtain ⟨items, n, h1, _, _⟩ := hl 0 s h
  show wpAny _ A (do return .bool (← contains (.ref l) x)) Q E s
  refine wpAny_bind (wpAny_contains_slot ⟨_, h1, rfl⟩ F.slot_list_contains (wpAny_mono (GQ.call_here (Q := fun v s' => ∃ b, v = .bool b ∧ Q (.bool b) s') F.slot_list_contains ⟨_, h1, rfl⟩ F.entry_list_contains (F.args_list_contains_2 _ _) ?_) (fun v s' hv => ?_) fun _ _ e => e))
  · refine list_containsG (R := wants (fun v s' => ∃ b, v = .bool b ∧ Q (.bool b) s') E) l x N I (fun i s' hi => ?_) (fun s' q => ⟨false, rfl, fin s' q⟩) h
    obtain ⟨items, n, e1, e2, e3⟩ := hl i s' hi
    refine ⟨items, n, e1, e2, fun h1 => wpAny_mono (e3 h1) (fun r s2 q => ?_) fun _ _ e => e⟩
    cases r with
    | true => rw [if_pos rfl] at q ⊢; exact ⟨true, rfl, q⟩
    | false => rw [if_neg (by decide)] at q ⊢; exact q
  · obtain ⟨b, rfl, hq⟩ := hv
    exact wpAny_truthy_bool (wpAny_pure hq)
theorem call_indexG {l : Addr} {x : Value} {N : Nat} (hN : (N : Int) < 2 ^ 63 - 1) {Q : Value → Shared → Prop} (I : Nat → Shared → Prop)
    (hl : ∀ i s, I i s → ∃ (items : Array Value) (n : Nat), s.heap.get? l = some { cls := .type "list", data := .seq items n } ∧ items.size = N ∧ i < N ∧
      ∀ (h1 : i < items.size), wpAny (model prog w) A.in1 (eqBool items[i] x) (fun r s' => if r = true then Q (.int i s'.toks) { s' with toks := s'.toks + 1 } else I (i + 1) s') E s)
    (h : I 0 s) : wpAny (model prog w) A (call (.builtin "list.index") [.ref l, x]) Q E s := by
  obtain ⟨items, n, h1, _, _⟩ := hl 0 s h
  exact GQ.call_here F.slot_list_index ⟨_, h1, rfl⟩ F.entry_list_index (F.args_list_index_2 _ _) (list_indexG (R := wants Q E) l x N hN I hl h)
/-- == inside a builtin, the left one no object -/
theorem eqBool_none {b : Addr} {Q : Bool → Shared → Prop} (h : wpAny (model prog w) A (richCompare .Eq .none (.ref b)) (fun v s' => ∃ r, v = .bool r ∧ Q r s') E s) : wpAny (model prog w) A (eqBool .none (.ref b)) Q E s := by
  unfold eqBool
  refine wpAny_holding ?_
  refine wpAny_ite_split (fun hab => by have := eq_of_beq hab; cases this) (fun _ => ?_)
  refine wpAny_bind (wpAny_mono h (fun v s' hv => ?_) fun _ _ x => x)
  obtain ⟨r, rfl, q⟩ := hv
  exact wpAny_truthy_bool q
theorem eqBool_int {i : Int} {t : Tok} {b : Addr} {Q : Bool → Shared → Prop} (h : wpAny (model prog w) A (richCompare .Eq (.int i t) (.ref b)) (fun v s' => ∃ r, v = .bool r ∧ Q r s') E s) : wpAny (model prog w) A (eqBool (.int i t) (.ref b)) Q E s := by
  unfold eqBool
  refine wpAny_holding ?_
  refine wpAny_ite_split (fun hab => by have := eq_of_beq hab; cases this) (fun _ => ?_)
  refine wpAny_bind (wpAny_mono h (fun v s' hv => ?_) fun _ _ x => x)
  obtain ⟨r, rfl, q⟩ := hv
  exact wpAny_truthy_bool q
theorem eqBool_str {i : Str} {t : Tok} {b : Addr} {Q : Bool → Shared → Prop} (h : wpAny (model prog w) A (richCompare .Eq (.str i t) (.ref b)) (fun v s' => ∃ r, v = .bool r ∧ Q r s') E s) : wpAny (model prog w) A (eqBool (.str i t) (.ref b)) Q E s := by
  unfold eqBool
  refine wpAny_holding ?_
  refine wpAny_ite_split (fun hab => by have := eq_of_beq hab; cases this) (fun _ => ?_)
  refine wpAny_bind (wpAny_mono h (fun v s' hv => ?_) fun _ _ x => x)
  obtain ⟨r, rfl, q⟩ := hv
  exact wpAny_truthy_bool q
/-- an instance, as it lies there -/
theorem int_eq_declines_ins (b : Int) (u : Tok) (l C dx : Addr) :
    Meets (Builtin.«int.__eq__» ⟨[.int b u, .ref l], []⟩) (fun _ R s => s.heap.get? l = some (PySem.W.instObj C dx) ∧ R (.ok (.ret .notImplemented)) s) :=
  .of_wp fun prog w A R s h => by obtain ⟨hp, g, d, tk, os⟩ := s; obtain ⟨hl, h⟩ := h; unfold PySem.W.instObj at hl; wp_walk using wpAny_loadPart' hl, wpAny_load hl; exact ⟨_, rfl, h⟩
theorem str_eq_declines_ins (b : Str) (u : Tok) (l C dx : Addr) :
    Meets (Builtin.«str.__eq__» ⟨[.str b u, .ref l], []⟩) (fun _ R s => s.heap.get? l = some (PySem.W.instObj C dx) ∧ R (.ok (.ret .notImplemented)) s) :=
  .of_wp fun prog w A R s h => by obtain ⟨hp, g, d, tk, os⟩ := s; obtain ⟨hl, h⟩ := h; unfold PySem.W.instObj at hl; wp_walk using wpAny_loadPart' hl, wpAny_load hl; exact ⟨_, rfl, h⟩
end
section
open PySem.W
variable {prog : Program} {w : World} {A : Around} {E : Value → Shared → Prop} {s : Shared} {K : Frag} {x C L f : Addr} {h₀ : Heap} {m : Str → Option Value} {ox : Obj} {od : Option Obj} {a : Value} {T id : String}
/-- a == x, x an instance with an own __eq__, a of a built-in type whose __eq__ declines -/
theorem cmp_mir {Q : Value → Shared → Prop} (hu : A.units < cLine) (F : PyProof.Rows.Fr h₀ L s.heap m) (X₀ : K.In h₀) (I : InstAt s.heap x ox C od) (ha : s.TypeIs a T) (hn : subIn K (.ref C) (.type T) = some false)
    (slot : Slot T (cmpInfo .Eq).2.1 id) (hd : ∀ Q' : Value → Shared → Prop, Q' .notImplemented s → wpAny (model prog w) A (call (.builtin id) [a, .ref x]) Q' E s)
    (hs : findIn K (.ref C) (cmpInfo .Eq).2.2 = some (some (.ref f))) (hf : isFn K (.ref f) = true)
    (h : wpAny (model prog w) A (call (.ref f) [.ref x, a]) (CmpBack Q) E s) : wpAny (model prog w) A (richCompare .Eq a (.ref x)) Q E s := by
  have X := X₀.keeps F.keep
  have one : wpAny (model prog w) A (tryCompare (.ref x) (cmpInfo .Eq).2.2 a) (fun r s' => ∃ v, r = some v ∧ Q v s') E s := by
    unfold tryCompare
    refine wpAny_bind (ifBound_K X I hs hf (wpAny_mono h (fun v s' hv => ?_) fun _ _ e => e))
    cases v <;> first | exact hv.elim | exact wpAny_pure ⟨_, rfl, hv⟩
  unfold richCompare
  simp only [ha.oneThing_none]
  refine wpAny_holding (wpAny_bind (wpAny_cRoomFor hu ?_))
  refine wpAny_bind (wpAny_typeOf ha (wpAny_bind (I.type.here ?_)))
  have e0 : (Value.type T != Value.ref C) = true := by simp [bne]
  simp only [e0, if_true]
  refine wpAny_bind ((looks_subIn X hn).here ?_)
  simp only [Bool.false_eq_true, if_false, Bool.not_false, if_true]
  refine wpAny_bind (m := tryCompare a _ _) (wpAny_tryCompare_declines ha slot (hd _ ⟨rfl, ?_⟩))
  refine wpAny_bind (wpAny_mono one (fun r s' z => ?_) fun _ _ e => e)
  obtain ⟨v, rfl, hq⟩ := z
  exact wpAny_pure hq
end
end VI
end
section
set_option Elab.async false
set_option linter.all false
set_option maxRecDepth 100000
set_option maxHeartbeats 4000000
/-! VI41: == of an instance with anything else; in and index by own __eq__s; makings with keywords alone. -/
namespace VI
open PySem PySem.Spec PyProof.Rows L2
def euB (K : PySem.W.Frag) (C : Nat → Addr) (cs : List Nat) (c : Nat) : Bool :=
  cs.all (fun d => PySem.W.notFirst K (C c) (.ref (C d))) && (["NoneType", "int", "str"].all fun t => PySem.W.subIn K (.ref (C c)) (.type t) == some false)
def euA (K : PySem.W.Frag) (C : Nat → Addr) (cs : List Nat) : Bool := cs.all (euB K C cs)
structure TblM (P : Program) (w : World) (K : PySem.W.Frag) (mg : Str → Option Value) (base : Heap) (D : Wd) (k : Nat) (tbl : Tbl) : Prop where
  eq : ∀ p ∈ tbl, ∃ j, j ≤ k ∧ EqM P w K mg base D j p.1 p.2
  ok : euA K D.C (tbl.map (·.1)) = true
theorem tblF_mem : ∀ {tbl : Tbl} {d : Nat} {F : Fn}, tblF tbl d = some F → (d, F) ∈ tbl
  | [], _, _, h => by cases h
  | (c, G) :: r, d, F, h => by
    unfold tblF at h
    by_cases e : d = c
    · rw [if_pos e] at h
      cases h
      subst e
      exact List.mem_cons_self
    · rw [if_neg e] at h
      exact List.mem_cons_of_mem _ (tblF_mem h)
theorem ownF_ok {tbl : Tbl} {x : Val} {st : Store} {F : Fn} (h : ownF tbl x st = some F) : ∃ i d fs, x = .ref i ∧ st[i]? = some (.ins d fs) ∧ (d, F) ∈ tbl := by
  unfold ownF at h
  split at h
  · split at h
    · rename_i i d fs e
      exact ⟨_, _, _, rfl, e, tblF_mem h⟩
    · cases h
  · cases h
theorem asB_ok {r : Res Tv} {b : Bool} {s : Store} (h : asB r = .ok b s) : r = .ok (.v (.bool b)) s := by
  unfold asB at h
  obtain ⟨t, s1, h1, h⟩ := bind_eq_ok h
  cases t with
  | l _ => cases h
  | v t =>
    cases t with
    | bool k => cases h; exact h1
    | _ => cases h
section
variable {X : Cx} {D : Wd} {k : Nat} {tbl : Tbl}
theorem TblM.nf (T : TblM X.prog X.w X.K X.mg X.base D k tbl) {c d : Nat} {F G : Fn} (h : (c, F) ∈ tbl) (h' : (d, G) ∈ tbl) : PySem.W.notFirst X.K (D.C c) (.ref (D.C d)) = true := by
  have := List.all_eq_true.mp T.ok c (List.mem_map.mpr ⟨_, h, rfl⟩)
  unfold euB at this
  rw [Bool.and_eq_true] at this
  exact List.all_eq_true.mp this.1 d (List.mem_map.mpr ⟨_, h', rfl⟩)
theorem TblM.sub (T : TblM X.prog X.w X.K X.mg X.base D k tbl) {c : Nat} {F : Fn} {t : String} (h : (c, F) ∈ tbl) (ht : t ∈ ["NoneType", "int", "str"]) : PySem.W.subIn X.K (.ref (D.C c)) (.type t) = some false := by
  have := List.all_eq_true.mp T.ok c (List.mem_map.mpr ⟨_, h, rfl⟩)
  unfold euB at this
  rw [Bool.and_eq_true] at this
  exact beq_iff_eq.mp (List.all_eq_true.mp this.2 t ht)
theorem bnf {K : PySem.W.Frag} {C : Addr} {t : String} (ht : t ∈ ["NoneType", "int", "str", "bool", "tuple"]) : PySem.W.notFirst K C (.type t) = true := by
  simp only [List.mem_cons, List.mem_nil_iff, or_false] at ht
  rcases ht with rfl | rfl | rfl | rfl | rfl <;> rfl
/-- the call of an own __eq__ -/
theorem own_call {A : Around} {pins : List (Addr × Obj)} {σ : L2.St} {H : Hp} {s : Shared} {n : Nat} {μ : Nat → Addr} {st s1 : Store} {x y : Val} {x' y' : V} {u v : Value} {b : Bool} {R : Value → Shared → Prop} {j : Nat} {F : Fn} {f : Addr} {fd : FuncData} {ps : List Str}
    (hb : L2.Binds X.K fd ps []) (hF : FnOk X.prog X.w X.K X.mg X.base C8.CX0 j f fd ps (spF D 2 F)) (hr : Room j A) (hfr : A.frames = X.A.frames) (I : L2.Inv X pins σ H s) (ok : Ok D n μ H st) (rx : Rp D n μ H x x') (ry : Rp D n μ H y y') (ru : RelV x' u) (rv : RelV y' v)
    (h3 : F [x, y] st = .ok (.v (.bool b)) s1) (fin : ∀ n' μ' H' s', L2.Inv X pins σ H' s' → Ok D n' μ' H' s1 → Le n μ H n' μ' H' → R (.bool b) s') :
    wpAny (model X.prog X.w) A (call (.ref f) [u, v]) (PySem.W.CmpBack R) X.xe s := by
  have hsp : spF D 2 F [x', y'] H (fun v H' => v = .bl b ∧ ∃ n' μ', Ok D n' μ' H' s1 ∧ Le n μ H n' μ' H') C8.E0 := ⟨rfl, n, μ, st, [x, y], _, s1, ok, .cons rx (.cons ry .nil), h3, fun n' μ' H' y' ok' l' r' f' => by
    cases r'
    exact ⟨rfl, n', μ', ok', l'⟩⟩
  have e0 : Env0 X.prog X.w X.K X.mg X.base A X.stack s H := by
    have e := I.env0
    exact ⟨by rw [hfr]; exact e.frames, e.mod, e.bs, e.bsz, e.funs, e.frf, e.hok, e.bare⟩
  have hl := hF.len _ _ _ _ hsp
  have r2 : Vals [x', y'] [u, v] := .cons ru (.cons rv .nil)
  refine wpAny_call (codeAny_mono (hF.run A X.stack s H ⟨[u, v], []⟩ [u, v] [x', y'] _ C8.E0 hr e0 (by
    have := hb s [u, v] I.kIn (by simpa using hl)
    simpa using this) r2 hsp) fun r s' hq => ?_)
  cases r with
  | error e => exact (show False from hq).elim
  | ok fl =>
    cases fl with
    | ret w =>
      obtain ⟨z, H', I', rz, ez, n', μ', ok', l'⟩ := I.after hq
      subst ez
      obtain rfl : w = Value.bool b := rz
      exact fin n' μ' H' s' I' ok' l'
    | next => exact False.elim hq
    | brk => exact False.elim hq
    | cont => exact False.elim hq
theorem inst_at {pins : List (Addr × Obj)} {σ : L2.St} {H : Hp} {s : Shared} {n : Nat} {μ : Nat → Addr} {st : Store} {i d : Nat} {fs : List (Nat × Val)} (I : L2.Inv X pins σ H s) (ok : Ok D n μ H st) (h : st[i]? = some (.ins d fs)) :
    ∃ od dx, PySem.W.InstAt s.heap (μ i) (PySem.W.instObj (D.C d) dx) (D.C d) od ∧ s.heap.get? (μ i) = some (PySem.W.instObj (D.C d) dx) := by
  obtain ⟨dx, gs, h1, h2⟩ := ok.ob i _ h
  obtain ⟨mA, J, _⟩ := ins_get I.hok h1
  obtain ⟨od, J, _⟩ := J.look
  exact ⟨od, dx, J, J.at_⟩
/-- the type of what stands on the right -/
theorem right_looks [C : Cok X D] (T : TblM X.prog X.w X.K X.mg X.base D k tbl) {pins : List (Addr × Obj)} {σ : L2.St} {H : Hp} {s : Shared} {n : Nat} {μ : Nat → Addr} {st : Store} {c : Nat} {F : Fn} {y : Val} {y' : V} {v : Value} (hc : (c, F) ∈ tbl) (I : L2.Inv X pins σ H s) (ok : Ok D n μ H st) (ry : Rp D n μ H y y') (rv : RelV y' v)
    (h : anyR tbl y st = true) : ∃ tb, PySem.W.Looks (model X.prog X.w) s.heap (typeOf v) tb ∧ PySem.W.notFirst X.K (D.C c) tb = true := by
  cases ry with
  | non => cases rv; exact ⟨_, PySem.W.Looks.of_pure rfl, bnf (by simp)⟩
  | bool b => cases rv; exact ⟨_, PySem.W.Looks.of_pure rfl, bnf (by simp)⟩
  | int i => obtain ⟨t, rfl⟩ := rv; exact ⟨_, PySem.W.Looks.of_pure rfl, bnf (by simp)⟩
  | str h => obtain ⟨t, rfl⟩ := rv; exact ⟨_, PySem.W.Looks.of_pure rfl, bnf (by simp)⟩
  | tup ht r =>
    cases rv
    obtain ⟨its, rv, ⟨o, ho, hc', k, hd⟩, _⟩ := I.tuple (by rw [C.hK]; exact ht.sq)
    refine ⟨.type "tuple", ?_, bnf (by simp)⟩
    have this : PySem.W.Looks (model X.prog X.w) s.heap (typeOf (.ref _)) o.cls := (PySem.W.Looks.ld ho).andThen .now
    rw [hc'] at this
    exact this
  | ref hk =>
    cases rv
    unfold anyR at h
    cases e : ownF tbl (.ref _) st with
    | none => rw [e] at h; cases h
    | some G =>
      obtain ⟨i, d, fs, e1, e2, e3⟩ := ownF_ok e
      cases e1
      obtain ⟨od, dx, J, _⟩ := inst_at I ok e2
      exact ⟨_, J.type, T.nf hc e3⟩
theorem eqU_at [C : Cok X D] (T : TblM X.prog X.w X.K X.mg X.base D k tbl) {A : Around} {pins : List (Addr × Obj)} {σ : L2.St} {H : Hp} {s : Shared} {n : Nat} {μ : Nat → Addr} {st s1 : Store} {x y : Val} {x' y' : V} {u v : Value} {b : Bool} {R : Value → Shared → Prop} (hr : Room k A) (hfr : A.frames = X.A.frames)
    (I : L2.Inv X pins σ H s) (ok : Ok D n μ H st) (rx : Rp D n μ H x x') (ry : Rp D n μ H y y') (ru : RelV x' u) (rv : RelV y' v) (h : eqU tbl x y st = .ok b s1)
    (fin : ∀ n' μ' H' s', L2.Inv X pins σ H' s' → Ok D n' μ' H' s1 → Le n μ H n' μ' H' → R (.bool b) s') : wpAny (model X.prog X.w) A (richCompare .Eq u v) R X.xe s := by
  obtain ⟨m, hFr⟩ := I.fr
  unfold eqU at h
  cases e : ownF tbl x st with
  | some F =>
    simp only [e] at h
    by_cases ha : anyR tbl y st = true
    · rw [if_pos ha] at h
      have h := asB_ok h
      obtain ⟨i, d, fs, rfl, e2, e3⟩ := ownF_ok e
      obtain ⟨j, hj, M⟩ := T.eq _ e3
      obtain ⟨f, fd, ps, hs, hfn, hb, hF⟩ := M.ex
      obtain ⟨tb, L, nf⟩ := right_looks T e3 I ok ry rv ha
      obtain ⟨od, dx, J, _⟩ := inst_at I ok e2
      cases rx
      cases ru
      exact PySem.W.cmp_K (op := .Eq) (tb := tb) hr.units0 hFr I.ok.mod.kin J L nf hs hfn (own_call hb hF (hr.mono hj) hfr I ok (.ref (ok.lt e2)) ry rfl rv h fin)
    · rw [if_neg ha] at h; cases h
  | none =>
    simp only [e] at h
    cases e' : ownF tbl y st with
    | none => simp only [e'] at h; cases h
    | some F =>
      simp only [e'] at h
      by_cases ha : flatL x = true
      · rw [if_pos ha] at h
        have h := asB_ok h
        obtain ⟨i, d, fs, rfl, e2, e3⟩ := ownF_ok e'
        obtain ⟨j, hj, M⟩ := T.eq _ e3
        obtain ⟨f, fd, ps, hs, hfn, hb, hF⟩ := M.ex
        obtain ⟨od, dx, J, hI⟩ := inst_at I ok e2
        cases ry
        cases rv
        have fin' := own_call hb hF (hr.mono hj) hfr I ok (.ref (ok.lt e2)) rx rfl ru h fin
        cases rx with
        | non =>
          cases ru
          exact cmp_mir (T := "NoneType") (id := "NoneType.__eq__") hr.units0 hFr I.ok.mod.kin J rfl (T.sub e3 (by simp)) PySem.F.slot_NoneType_eq (fun Q' q => call_gives PySem.F.slot_NoneType_eq rfl PySem.F.entry_NoneType_eq (PySem.F.args_NoneType_eq_2 _ _) (SeqAt.NoneType___eq___none_ref_0 _) q) hs hfn fin'
        | int i =>
          obtain ⟨t, rfl⟩ := ru
          exact cmp_mir (T := "int") (id := "int.__eq__") hr.units0 hFr I.ok.mod.kin J (typeIs_int _ _ _) (T.sub e3 (by simp)) PySem.F.slot_int_eq (fun Q' q => call_meets PySem.F.slot_int_eq (typeIs_int _ _ _) PySem.F.entry_int_eq (PySem.F.args_int_eq_2 _ _) (int_eq_declines_ins _ _ _ _ _) ⟨hI, q⟩) hs hfn fin'
        | str hz =>
          obtain ⟨t, rfl⟩ := ru
          exact cmp_mir (T := "str") (id := "str.__eq__") hr.units0 hFr I.ok.mod.kin J (typeIs_str _ _ _) (T.sub e3 (by simp)) PySem.F.slot_str_eq (fun Q' q => call_meets PySem.F.slot_str_eq (typeIs_str _ _ _) PySem.F.entry_str_eq (PySem.F.args_str_eq_2 _ _) (str_eq_declines_ins _ _ _ _ _) ⟨hI, q⟩) hs hfn fin'
        | _ => cases ha
      · rw [if_neg ha] at h; cases h
theorem s_eqW [Cok X D] (T : TblM X.prog X.w X.K X.mg X.base D k tbl) (hr : Room k X.A) : OpR X (compareOp .Eq) (rO D (cEqW tbl)) := by
  intro pins s σ H x y v u Q I rx ry ⟨n, μ, st, a, b, z, st', ok, ra, rb, hf, an⟩
  unfold cEqW at hf
  cases a with
  | l _ => cases hf
  | v a =>
    cases b with
    | l _ => cases hf
    | v b =>
      obtain ⟨kk, s1, h1, hf⟩ := bind_eq_ok hf
      cases hf
      exact eqU_at T hr rfl I ok ra rb rx ry h1 fun n' μ' H' s' I' ok' l' => ⟨.bl kk, H', I', rfl, an n' μ' H' _ ok' l' (.bool kk) trivial⟩
/-- == inside a builtin, the right one an instance -/
theorem eqB_at [C : Cok X D] (T : TblM X.prog X.w X.K X.mg X.base D k tbl) {A : Around} {pins : List (Addr × Obj)} {σ : L2.St} {H : Hp} {s : Shared} {n : Nat} {μ : Nat → Addr} {st s1 : Store} {y : Val} {y' : V} {u : Value} {b : Bool} {i0 : Nat} (hr : Room k A) (hfr : A.frames = X.A.frames)
    (I : L2.Inv X pins σ H s) (ok : Ok D n μ H st) (hi : i0 < n) (hs : sameR y (.ref i0) = false) (ry : Rp D n μ H y y') (ru : RelV y' u) (h : eqU tbl y (.ref i0) st = .ok b s1) :
    wpAny (model X.prog X.w) A (eqBool u (.ref (μ i0))) (fun r s' => r = b ∧ ∃ n' μ' H', L2.Inv X pins σ H' s' ∧ Ok D n' μ' H' s1 ∧ Le n μ H n' μ' H') X.xe s := by
  have rc : wpAny (model X.prog X.w) A (richCompare .Eq u (.ref (μ i0))) (fun v s' => ∃ r, v = .bool r ∧ r = b ∧ ∃ n' μ' H', L2.Inv X pins σ H' s' ∧ Ok D n' μ' H' s1 ∧ Le n μ H n' μ' H') X.xe s :=
    eqU_at T hr hfr I ok ry (.ref hi) ru rfl h fun n' μ' H' s' I' ok' l' => ⟨b, rfl, rfl, n', μ', H', I', ok', l'⟩
  have no : ownF tbl y st = none → flatL y = true := fun e => by
    unfold eqU at h
    simp only [e] at h
    cases e' : ownF tbl (.ref i0) st with
    | none => simp only [e'] at h; cases h
    | some F =>
      simp only [e'] at h
      by_cases ha : flatL y = true
      · exact ha
      · rw [if_neg ha] at h; cases h
  cases ry with
  | non => cases ru; exact eqBool_none rc
  | int i => obtain ⟨t, rfl⟩ := ru; exact eqBool_int rc
  | str hz => obtain ⟨t, rfl⟩ := ru; exact eqBool_str rc
  | bool b => exact absurd (no rfl) (by simp [flatL])
  | tup h r => exact absurd (no rfl) (by simp [flatL])
  | ref hk =>
    cases ru
    rename_i j
    refine GQ.eqBool_refG (fun q => ?_) rc
    have : j = i0 := ok.inj j i0 hk hi q
    subst this
    simp [sameR] at hs
theorem s_inW [C : Cok X D] (T : TblM X.prog X.w X.K X.mg X.base D k tbl) (hr : Room (k + 1) X.A) : OpR X (compareOp .In) (rO D (cInW tbl)) := by
  intro pins s σ H x y v u Q I rx ry ⟨n, μ, st, a, b, z, st', ok, ra, rb, hf, an⟩
  unfold cInW at hf
  cases a with
  | l _ => cases hf
  | v a =>
    cases b with
    | v _ => cases hf
    | l ys =>
      simp only at hf
      by_cases ho : (ownF tbl a st).isSome = true
      · rw [if_pos ho] at hf
        obtain ⟨kk, s1, h1, hf⟩ := bind_eq_ok hf
        cases hf
        cases e : ownF tbl a st with
        | none => rw [e] at ho; cases ho
        | some F =>
          obtain ⟨i0, d, fs, rfl, e2, e3⟩ := ownF_ok e
          have hi0 : i0 < n := ok.lt e2
          cases ra
          cases rx
          obtain ⟨la, zs, rfl, hla, rz, hfr⟩ := rb
          have rb : Rt D n μ H (.l ys) (.ref la) := ⟨la, zs, rfl, hla, rz, hfr⟩
          cases ry
          show wpAny (model X.prog X.w) X.A (compareOp .In (.ref (μ i0)) (.ref la)) (EP X pins σ Q) X.xe s
          refine in_listG (N := ys.length) (fun i s' => ∃ n' μ' H' st2, L2.Inv X pins σ H' s' ∧ Ok D n' μ' H' st2 ∧ Le n μ H n' μ' H' ∧ i ≤ ys.length ∧ inGo tbl (.ref i0) (ys.drop i) st2 = .ok kk st') ?_ ?_ ⟨n, μ, H, st, I, ok, Le.refl _ _ _, Nat.zero_le _, h1⟩
          · intro i s' ⟨n', μ', H', st2, I', ok', l', hi, hg⟩
            obtain ⟨la', zs', q1, hla', rz', _⟩ := Rt.mono l' rb
            cases q1
            obtain ⟨_, its, c1, r1, g1⟩ := (show ObjOk X.prog X.w H' s'.heap la (.lst zs') from I'.hok _ _ hla')
            refine ⟨its.toArray, c1, g1, by rw [List.size_toArray, ← r1.length, ← rz'.length], fun hlt => ?_⟩
            have hlt : i < ys.length := by rw [List.size_toArray, ← r1.length, ← rz'.length] at hlt; exact hlt
            rw [List.drop_eq_getElem_cons hlt] at hg
            obtain ⟨y1, e7, p1⟩ := rz'.get (List.getElem?_eq_getElem hlt)
            obtain ⟨w1, e9, p3⟩ := r1.get e7
            have x1 : its.toArray[i] = w1 := by
              have := (List.getElem?_eq_some_iff.mp e9).2
              simpa using this
            rw [x1]
            have m0 : μ i0 = μ' i0 := (l'.mu i0 hi0).symm
            have hi0' : i0 < n' := Nat.lt_of_lt_of_le hi0 l'.le
            unfold inGo at hg
            rw [m0]
            by_cases hsm : sameR ys[i] (.ref i0) = true
            · rw [if_pos hsm] at hg
              cases hg
              have : ys[i] = .ref i0 := by
                revert hsm
                cases ys[i] <;> simp [sameR]
              rw [this] at p1
              cases p1
              cases p3
              refine SeqAt.EqAt.same (A := X.A.in1) (s := s') (.ref (μ' i0)) X.prog X.w X.xe _ ?_
              rw [if_pos rfl]
              exact ⟨.bl true, H', I', rfl, an n' μ' H' _ ok' l' (.bool true) trivial⟩
            · rw [if_neg hsm] at hg
              obtain ⟨b, s3, h5, hg⟩ := bind_eq_ok hg
              refine wpAny_mono (eqB_at T hr.in1 rfl I' ok' hi0' (eq_false_of_ne_true hsm) p1 p3 h5) (fun r s4 q => ?_) fun _ _ e => e
              obtain ⟨rfl, n4, μ4, H4, I4, ok4, l4⟩ := q
              cases r with
              | true =>
                rw [if_pos rfl] at hg ⊢
                cases hg
                exact ⟨.bl true, H4, I4, rfl, an n4 μ4 H4 _ ok4 (l'.trans l4) (.bool true) trivial⟩
              | false =>
                rw [if_neg (by decide)] at hg ⊢
                exact ⟨n4, μ4, H4, s3, I4, ok4, l'.trans l4, hlt, hg⟩
          · intro s' ⟨n', μ', H', st2, I', ok', l', hi, hg⟩
            rw [List.drop_length] at hg
            cases hg
            exact ⟨.bl false, H', I', rfl, an n' μ' H' _ ok' l' (.bool false) trivial⟩
      · rw [if_neg ho] at hf; cases hf
def rIndexW (D : Wd) (tbl : Tbl) : V → List V → Hp → VK → Prop := fun x xs H Q => ∃ y n μ st o i0 j0 ys j s1, xs = [y] ∧ Ok D n μ H st ∧ Rt D n μ H o x ∧ Rp D n μ H (.ref i0) y ∧ (ownF tbl (.ref i0) st).isSome = true ∧ refL o st = some (j0, ys) ∧
  ixGo tbl o (.ref i0) ys.length ys.length st = .ok j s1 ∧ Ans D n μ H (.v (.int (j : Nat))) s1 Q
theorem mt_indexW [C : Cok X D] (T : TblM X.prog X.w X.K X.mg X.base D k tbl) (hr : Room (k + 1) X.A) : MtR X "list.index" (rIndexW D tbl) := by
  intro pins s σ H x xs v us Q I rx rxs ⟨y, n, μ, st, o, i0, j0, ys, j, s1, hxs, ok, ro, rq, how, hl, hg, an⟩
  subst hxs
  obtain ⟨u, rfl, ru⟩ := L2.Vals.one rxs
  cases rq with
  | ref hi0 =>
  cases ru
  obtain ⟨rfl, rfl, hj0, hst, zs, hz, rz⟩ := refL_ok ok ro hl
  cases rx
  have hN : ys.length ≤ sizeLine := by
    obtain ⟨c0, _⟩ := (show ObjOk X.prog X.w H s.heap (μ j0) (.lst zs) from I.hok _ _ hz)
    rw [rz.length]; exact c0
  have hsl := sizeLine_eq
  refine call_indexG (N := ys.length) (by omega) (fun i s' => ∃ n' μ' H' st2, L2.Inv X pins σ H' s' ∧ Ok D n' μ' H' st2 ∧ Le n μ H n' μ' H' ∧ ixGo tbl (.v (.ref j0)) (.ref i0) ys.length (ys.length - i) st2 = .ok j s1) ?_ ⟨n, μ, H, st, I, ok, Le.refl _ _ _, by rw [Nat.sub_zero]; exact hg⟩
  intro i s' ⟨n', μ', H', st2, I', ok', l', hg⟩
  cases hm : ys.length - i with
  | zero => rw [hm] at hg; cases hg
  | succ m =>
    rw [hm] at hg
    unfold ixGo at hg
    have ei : ys.length - (m + 1) = i := by omega
    have hm2 : ys.length - (i + 1) = m := by omega
    rw [ei] at hg
    cases e1 : refL (.v (.ref j0)) st2 with
    | none => simp only [e1] at hg; cases hg
    | some p =>
      obtain ⟨j1, ws⟩ := p
      simp only [e1] at hg
      by_cases hle : ws.length = ys.length
      · rw [if_pos hle] at hg
        cases e2 : ws[i]? with
        | none => simp only [e2] at hg; cases hg
        | some y1 =>
          simp only [e2] at hg
          obtain ⟨q1, q2, hj1, hst1, zs', hz', rz'⟩ := refL_ok ok' (Rt.mono l' ro) e1
          cases q1
          have mj : μ' j0 = μ j0 := l'.mu j0 hj0
          rw [mj] at hz'
          obtain ⟨_, its, c1, r1, g1⟩ := (show ObjOk X.prog X.w H' s'.heap (μ j0) (.lst zs') from I'.hok _ _ hz')
          refine ⟨its.toArray, c1, g1, by rw [List.size_toArray, ← r1.length, ← rz'.length, hle], by omega, fun hlt => ?_⟩
          obtain ⟨y2, e7, p1⟩ := rz'.get e2
          obtain ⟨w1, e9, p3⟩ := r1.get e7
          have x1 : its.toArray[i] = w1 := by
            have := (List.getElem?_eq_some_iff.mp e9).2
            simpa using this
          rw [x1]
          have m0 : μ i0 = μ' i0 := (l'.mu i0 hi0).symm
          have hi0' : i0 < n' := Nat.lt_of_lt_of_le hi0 l'.le
          rw [m0]
          by_cases hsm : sameR y1 (.ref i0) = true
          · rw [if_pos hsm] at hg
            cases hg
            have : y1 = .ref i0 := by
              revert hsm
              cases y1 <;> simp [sameR]
            subst this
            cases p1
            cases p3
            refine SeqAt.EqAt.same (A := X.A.in1) (s := s') (.ref (μ' i0)) X.prog X.w X.xe _ ?_
            rw [if_pos rfl]
            exact ⟨.int _, H', I'.tok _, ⟨_, rfl⟩, an n' μ' H' _ ok' l' (.int _) trivial⟩
          · rw [if_neg hsm] at hg
            obtain ⟨b, s3, h5, hg⟩ := bind_eq_ok hg
            refine wpAny_mono (eqB_at T hr.in1 rfl I' ok' hi0' (eq_false_of_ne_true hsm) p1 p3 h5) (fun r s4 q => ?_) fun _ _ e => e
            obtain ⟨rfl, n4, μ4, H4, I4, ok4, l4⟩ := q
            cases r with
            | true =>
              rw [if_pos rfl] at hg ⊢
              cases hg
              exact ⟨.int _, H4, I4.tok _, ⟨_, rfl⟩, an n4 μ4 H4 _ ok4 (l'.trans l4) (.int _) trivial⟩
            | false =>
              rw [if_neg (by decide)] at hg ⊢
              exact ⟨n4, μ4, H4, s3, I4, ok4, l'.trans l4, by rw [hm2]; exact hg⟩
      · rw [if_neg hle] at hg; cases hg
theorem e_indexW [C : Cok X D] {o e : Expr} {fo fe : Ev} {apos cpos : Pos} (T : TblM X.prog X.w X.K X.mg X.base D k tbl) (hr : Room (k + 1) X.A) (ho : SE X D o fo) (ha : SE X D e fe) (hbase : attributeBase o "index" X.env (eval o X.env) = eval o X.env := by rfl)
    (hfew : ((backTo cpos (starEach [e] X.env)).all (fun x => !x.1) && (backToKw cpos (keywordEach [] X.env)).all (fun x => x.1.isSome)
      && decide ([e].length + ([] : List Keyword).length + (if ([] : List Keyword).isEmpty then 0 else 1) < 30)) = true := by rfl)
    (hline : (apos.endLine == cpos.line) = true := by rfl) (hs : starEach [e] X.env = (false, eval e X.env) :: starEach [] X.env := by rfl) : SE X D (.Call (.Attribute o "index" apos) [e] [] cpos) (eIxW tbl fo fe) :=
  PE_imp (pe_bm PySem.F.plainAttrs_list PySem.F.slot_list_index PySem.F.type_list_index (mt_indexW T hr) ho (pa_cons ha pa_nil hs) hbase hfew hline hs) fun σ H Q ⟨n, μ, ρ, st, z, st', ok, er, hf, an⟩ => by
    obtain ⟨x, s1, h1, hf⟩ := bind_eq_ok hf
    refine ⟨n, μ, ρ, st, x, s1, ok, er, h1, fun n1 μ1 H1 y1 ok1 l1 r1 f1 => ?_⟩
    by_cases hc : (refL x s1).isSome = true
    · rw [if_pos hc] at hf
      obtain ⟨t, s2, h2, hf⟩ := bind_eq_ok hf
      refine ⟨ref_ty ok1 r1 hc, n1, μ1, ρ, s1, t, s2, ok1, er.mono l1, h2, fun n2 μ2 H2 y2 ok2 l2 r2 f2 => ?_⟩
      cases t with
      | l _ => cases hf
      | v t =>
        cases h4 : refL x s2 with
        | none => simp only [h4] at hf; cases hf
        | some pr =>
          obtain ⟨j0, xs⟩ := pr
          simp only [h4] at hf
          by_cases how : (ownF tbl t s2).isSome = true
          · rw [if_pos how] at hf
            obtain ⟨j, s3, h5, hf⟩ := bind_eq_ok hf
            cases hf
            obtain ⟨F, e⟩ := Option.isSome_iff_exists.mp how
            obtain ⟨i0, d, fs, rfl, e2, e3⟩ := ownF_ok e
            exact ⟨y2, n2, μ2, s2, x, i0, j0, xs, j, _, rfl, ok2, r1.mono l2, r2, how, h4, h5, an.le (l1.trans l2)⟩
          · rw [if_neg how] at hf; cases hf
    · rw [if_neg hc] at hf; cases hf
/-- C(k = v, ..) -/
theorem e_mkK0 {c np : Nat} {x : Str} {F : Fn} {ks : List Str} {is : List Nat} {kws : List Keyword} {gk : Avs} {pos p : Pos} (d : MakK X.prog X.w X.K X.mg X.base D k x c np F 0 ks is) (hr : Room (k + 1) X.A) (hg : Gl X x) (hkw : SK X D kws gk) (hak : Arity gk ks.length) (hnp : is.length = np) (his : is.all (fun i => decide (i < 0 + 1 + ks.length)) = true)
    (hall : (backToKw pos (keywordEach kws X.env)).all (·.1.isSome) = true := by rfl) (hks : (backToKw pos (keywordEach kws X.env)).filterMap (·.1) = ks := by rfl)
    (hpl : ((backTo pos (starEach [] X.env)).any (·.1) || (backToKw pos (keywordEach kws X.env)).any (·.1.isNone)) = false := by rfl) : SE X D (.Call (.Name x p) [] kws pos) (eMkK c F is aNil gk) := by
  obtain ⟨f, fd, ps, h1, h2, h3, h4⟩ := d.ex
  refine PE_imp (pe_makeK0 h2 h4 hr hg h1 h3 (C8.pass0 (E := C8.E0)) hkw hall hks d.db hpl) fun σ H Q ⟨n0, μ, ρ, st, z, st', ok, er, hf, an⟩ => ?_
  obtain ⟨as, s2, g3, hf⟩ := bind_eq_ok hf
  obtain ⟨bs, s3, g4, hf⟩ := bind_eq_ok hf
  obtain ⟨r, s4, g5, hf⟩ := bind_eq_ok hf
  cases g3
  refine ⟨n0, μ, ρ, st, bs, s3, ok, er, g4, fun n1 μ1 H1 zs ok1 l1 r2 => ?_⟩
  have e2 : zs.length = ks.length := by rw [← r2.length]; exact hak _ _ _ _ g4
  refine ⟨rfl, e2, fun x dx hx hdx ne => ?_⟩
  obtain ⟨ok2, l2⟩ := make_ok (c := c) ok1 hx hdx ne
  have e3 : s3.length = n1 := ok1.len
  have q : Rp D (n1 + 1) (fun k => if k = n1 then x else μ1 k) (upd (upd H1 dx (.own x)) x (.ins (D.C c) dx [])) (.ref n1) (.ref x) := by
    have q : Rp D (n1 + 1) (fun k => if k = n1 then x else μ1 k) (upd (upd H1 dx (.own x)) x (.ins (D.C c) dx [])) (.ref n1) (.ref ((fun k => if k = n1 then x else μ1 k) n1)) := .ref (Nat.lt_succ_self n1)
    simp only [if_pos] at q
    exact q
  rw [e3] at g5
  have rr : RpAll D (n1 + 1) (fun k => if k = n1 then x else μ1 k) (upd (upd H1 dx (.own x)) x (.ins (D.C c) dx [])) (.ref n1 :: [] ++ bs) (.ref x :: [] ++ zs) := .cons q (r2.mono l2)
  have hlen : (V.ref x :: [] ++ zs).length = 0 + 1 + ks.length := by simp [e2]; omega
  refine ⟨?_, n1 + 1, _, s3 ++ [.ins c []], _, r, s4, ok2, pick_rp rr, g5, fun n3 μ3 H3 y3 ok3 l3 r3 f3 => ?_⟩
  · rw [← hnp]
    clear hnp
    have : ∀ is : List Nat, is.all (fun i => decide (i < 0 + 1 + ks.length)) = true → (pick is (V.ref x :: [] ++ zs)).length = is.length := fun is => by
      induction is with
      | nil => intro _; rfl
      | cons i is ih =>
        intro h
        rw [List.all_cons, Bool.and_eq_true] at h
        unfold pick
        have hi : i < (V.ref x :: [] ++ zs).length := by rw [hlen]; exact of_decide_eq_true h.1
        rw [List.filterMap_cons, List.getElem?_eq_getElem hi]
        exact congrArg (· + 1) (ih h.2)
    exact this is his
  · cases r with
    | l _ => cases hf
    | v r =>
      cases r with
      | non =>
        cases hf
        cases r3
        refine ⟨rfl, ?_⟩
        rw [e3] at an
        exact an n3 μ3 H3 _ ok3 (l1.trans (l2.trans l3)) (q.mono l3) trivial
      | _ => cases hf
theorem s_isB : OpR X (compareOp .Is) (rO D cIsB) := by
  intro pins s σ H x y v u Q I rx ry ⟨n, μ, st, a, b, z, st', ok, ra, rb, hf, an⟩
  unfold cIsB at hf
  split at hf
  · cases hf; cases ra; cases rb; cases rx; cases ry
    show wpAny (model X.prog X.w) X.A (do return .bool (← isSame _ _)) (EP X pins σ Q) X.xe s
    rename_i a b
    refine wpAny_bind (wpAny_of_eq (a := (a == b)) (by cases a <;> cases b <;> rfl) (wpAny_pure ?_))
    exact ⟨.bl _, H, I, rfl, ans_v an ok (.bool _)⟩
  · cases hf
end
end VI
end
section
set_option Elab.async false
set_option linter.all false
set_option maxRecDepth 100000
set_option maxHeartbeats 4000000
/-! each def of law k01 keeps its promise, printed by gen.py -/
namespace L_k01
open PySem PySem.Spec PyProof.Rows L2 VI
def top (i : Nat) : Stmt := PySem.Challenge.pw_wipedtalk_k01_programs_and_pairs.main.body.getD i (.Pass ⟨0, 0, 0, 0⟩)
def SS : List Str := "" :: "0" :: "01" :: "1" :: "2" :: "Send" :: "Sender" :: "a" :: "ab" :: "abc" :: "answer" :: "append" :: "b" :: "back" :: "backward" :: "behind" :: "both" :: "clear" :: "count" :: "crash" :: "crashes" :: "delivered" :: "do" :: "event" :: "events" :: "excusing" :: "extend" :: "far" :: "forward" :: "gives" :: "gone" :: "good" :: "hand" :: "heard" :: "hears" :: "held" :: "index" :: "keeps" :: "law_wipedtalk_k01_programs_and_pairs" :: "law_wipedtalk_k02_programs_refused" :: "law_wipedtalk_k05_runs_walked" :: "law_wipedtalk_k06_runs_refused" :: "law_wipedtalk_k10_rests_and_verdicts" :: "law_wipedtalk_k15_least_broken_runs" :: "law_wipedtalk_k20_live_talks" :: "law_wipedtalk_k30_broken_runs_or_writes" :: "law_wipedtalk_k31_recorded_messages" :: "law_wipedtalk_k32_one_crash_of_the_receiver" :: "law_wipedtalk_k33_pairs_that_hold_out" :: "law_wipedtalk_k34_replays_and_families_refus" :: "law_wipedtalk_k35_asked_by_turns" :: "law_wipedtalk_k36_talks_by_hand" :: "law_wipedtalk_k92_whole_nothing_kept_nothing" :: "law_wipedtalk_k93_whole_room_against_rounds" :: "law_wipedtalk_k94_whole_who_holds_out_writes" :: "law_wipedtalk_k95_whole_more_excused_is_no_w" :: "law_wipedtalk_k96_whole_rests_go_on" :: "law_wipedtalk_k97_whole_live_talks_and_runs" :: "law_wipedtalk_k99_whole_errors_and_their_fie" :: "lose" :: "lost" :: "message" :: "name" :: "nothing" :: "number" :: "other" :: "pair" :: "pass" :: "place" :: "pop" :: "possible" :: "program" :: "receiver" :: "rest" :: "row" :: "run" :: "send" :: "sender" :: "sends" :: "settled" :: "state" :: "states" :: "stuck" :: "tables" :: "takes" :: "there" :: "thing" :: "ticks" :: "unlike" :: "up" :: "value" :: "value_count" :: "verdict" :: "wipedtalk.errors" :: "wipedtalk.families" :: "wipedtalk.live" :: "wipedtalk.programs" :: "wipedtalk.replays" :: "wipedtalk.runs" :: "wipedtalk.searching" :: "wipedtalk.verdicts" :: "writes" :: "wrong" :: "x" :: []
instance : SOK SS := ⟨by decide +kernel, by decide +kernel⟩
instance : SLen SS := ⟨by decide +kernel⟩
def Cn : Nat → Str
  | 0 => "Sender"
  | 1 => "Receiver"
  | 2 => "Pair"
  | 3 => "Live"
  | 4 => "InvalidEvent"
  | 5 => "InvalidExcusing"
  | 6 => "InvalidNumber"
  | 7 => "InvalidPair"
  | 8 => "InvalidProgram"
  | 9 => "InvalidTable"
  | 10 => "KeepsSomething"
  | 11 => "NotPossible"
  | 12 => "NotSettled"
  | 13 => "NothingDone"
  | 14 => "Round"
  | 15 => "TalkError"
  | 16 => "UnlikePrograms"
  | _ => ""
structure Fx (K : PySem.W.Frag) (mg : Str → Option Value) (base : Heap) (T0 : List (Addr × Str)) : Prop where
  b_all : mg "all" = none
  b_bool : mg "bool" = none
  b_enumerate : mg "enumerate" = none
  b_int : mg "int" = none
  b_isinstance : mg "isinstance" = none
  b_len : mg "len" = none
  b_list : mg "list" = none
  b_max : mg "max" = none
  b_min : mg "min" = none
  b_range : mg "range" = none
  b_str : mg "str" = none
  b_tuple : mg "tuple" = none
  g_require_positive : mg "require_positive" = some (.ref (He.ga K "require_positive"))
  g_is_below : mg "is_below" = some (.ref (He.ga K "is_below"))
  g_is_row : mg "is_row" = some (.ref (He.ga K "is_row"))
  g_is_given : mg "is_given" = some (.ref (He.ga K "is_given"))
  g_checked : mg "checked" = some (.ref (He.ga K "checked"))
  g_checked_sends : mg "checked_sends" = some (.ref (He.ga K "checked_sends"))
  g_checked_states : mg "checked_states" = some (.ref (He.ga K "checked_states"))
  g_checked_hears : mg "checked_hears" = some (.ref (He.ga K "checked_hears"))
  g_require_pair : mg "require_pair" = some (.ref (He.ga K "require_pair"))
  g_forgets : mg "forgets" = some (.ref (He.ga K "forgets"))
  g_keeps_nothing : mg "keeps_nothing" = some (.ref (He.ga K "keeps_nothing"))
  g__law_purse : mg "_law_purse" = some (.ref (He.ga K "_law_purse"))
  g__law_turns : mg "_law_turns" = some (.ref (He.ga K "_law_turns"))
  g__law_repeats : mg "_law_repeats" = some (.ref (He.ga K "_law_repeats"))
  g_checked_takes : mg "checked_takes" = some (.ref (He.ga K "checked_takes"))
  g__law_made_sender : mg "_law_made_sender" = some (.ref (He.ga K "_law_made_sender"))
  g__law_made_receiver : mg "_law_made_receiver" = some (.ref (He.ga K "_law_made_receiver"))
  g__law_made : mg "_law_made" = some (.ref (He.ga K "_law_made"))
  g__law_mixed : mg "_law_mixed" = some (.ref (He.ga K "_law_mixed"))
  g__law_draw : mg "_law_draw" = some (.ref (He.ga K "_law_draw"))
  g__law_row : mg "_law_row" = some (.ref (He.ga K "_law_row"))
  g__law_falls : mg "_law_falls" = some (.ref (He.ga K "_law_falls"))
  g__law_letters : mg "_law_letters" = some (.ref (He.ga K "_law_letters"))
  g__law_sender : mg "_law_sender" = some (.ref (He.ga K "_law_sender"))
  g__law_receiver : mg "_law_receiver" = some (.ref (He.ga K "_law_receiver"))
  g__law_greets : mg "_law_greets" = some (.ref (He.ga K "_law_greets"))
  g__law_raw : mg "_law_raw" = some (.ref (He.ga K "_law_raw"))
  g__law_told : mg "_law_told" = some (.ref (He.ga K "_law_told"))
  g__law_bent : mg "_law_bent" = some (.ref (He.ga K "_law_bent"))
  g__law_kept_right : mg "_law_kept_right" = some (.ref (He.ga K "_law_kept_right"))
  g__law_right : mg "_law_right" = some (.ref (He.ga K "_law_right"))
  g_law : mg "law" = some (.ref (He.ga K "law"))
  g_Pair : mg "Pair" = some (.ref (He.ga K "Pair"))
  g_Receiver : mg "Receiver" = some (.ref (He.ga K "Receiver"))
  g_Sender : mg "Sender" = some (.ref (He.ga K "Sender"))
  cf_backward : ∀ L, CF (mkW SS Cn K T0 L) [0, 1] 14 "backward"
  cf_crashes : ∀ L, CF (mkW SS Cn K T0 L) [0, 1] 20 "crashes"
  cf_forward : ∀ L, CF (mkW SS Cn K T0 L) [0, 1] 28 "forward"
  cf_gives : ∀ L, CF (mkW SS Cn K T0 L) [1] 29 "gives"
  cf_hears : ∀ L, CF (mkW SS Cn K T0 L) [0, 1] 34 "hears"
  cf_receiver : ∀ L, CF (mkW SS Cn K T0 L) [2] 72 "receiver"
  cf_sender : ∀ L, CF (mkW SS Cn K T0 L) [2] 77 "sender"
  cf_sends : ∀ L, CF (mkW SS Cn K T0 L) [0, 1] 78 "sends"
  cf_takes : ∀ L, CF (mkW SS Cn K T0 L) [0] 84 "takes"
  cf_ticks : ∀ L, CF (mkW SS Cn K T0 L) [0, 1] 87 "ticks"
  cf_value_count : ∀ L, CF (mkW SS Cn K T0 L) [0, 1] 91 "value_count"
  kf_Pair : ∀ L, KF (mkW SS Cn K T0 L) [0, 1, 2] (.cls 2) (fun t => PySem.W.kitOne K t (.ref (He.ga K "Pair")))
  kf_Receiver : ∀ L, KF (mkW SS Cn K T0 L) [0, 1, 2] (.cls 1) (fun t => PySem.W.kitOne K t (.ref (He.ga K "Receiver")))
  kf_Sender : ∀ L, KF (mkW SS Cn K T0 L) [0, 1, 2] (.cls 0) (fun t => PySem.W.kitOne K t (.ref (He.ga K "Sender")))
  kf_bool : ∀ L, KF (mkW SS Cn K T0 L) [0, 1, 2] .bool (fun t => PySem.W.kitOne K t (.type "bool"))
  kf_int : ∀ L, KF (mkW SS Cn K T0 L) [0, 1, 2] .int (fun t => PySem.W.kitOne K t (.type "int"))
  kf_lot : ∀ L, KF (mkW SS Cn K T0 L) [0, 1, 2] .lot (fun t => PySem.W.kitAny K t [.type "list", .type "tuple"])
  kf_str : ∀ L, KF (mkW SS Cn K T0 L) [0, 1, 2] .str (fun t => PySem.W.kitOne K t (.type "str"))
  kf_tuple : ∀ L, KF (mkW SS Cn K T0 L) [0, 1, 2] .tuple (fun t => PySem.W.kitOne K t (.type "tuple"))
  mk_Pair : Mk K (He.ga K "Pair") (He.ma K (He.ga K "Pair") "__init__")
  mk_Receiver : Mk K (He.ga K "Receiver") (He.ma K (He.ga K "Receiver") "__init__")
  mk_Sender : Mk K (He.ga K "Sender") (He.ma K (He.ga K "Sender") "__init__")
  eq_Pair : PySem.W.findIn K (.ref (He.ga K "Pair")) "__eq__" = some (some (.ref (He.ma K (He.ga K "Pair") "__eq__"))) ∧ PySem.W.isFn K (.ref (He.ma K (He.ga K "Pair") "__eq__")) = true
  eq_Receiver : PySem.W.findIn K (.ref (He.ga K "Receiver")) "__eq__" = some (some (.ref (He.ma K (He.ga K "Receiver") "__eq__"))) ∧ PySem.W.isFn K (.ref (He.ma K (He.ga K "Receiver") "__eq__")) = true
  eq_Sender : PySem.W.findIn K (.ref (He.ga K "Sender")) "__eq__" = some (some (.ref (He.ma K (He.ga K "Sender") "__eq__"))) ∧ PySem.W.isFn K (.ref (He.ma K (He.ga K "Sender") "__eq__")) = true
  me_Receiver_tables : Cls K (He.ga K "Receiver") ∧ Meth K (He.ga K "Receiver") "tables" (He.ma K (He.ga K "Receiver") "tables")
  me_Sender_tables : Cls K (He.ga K "Sender") ∧ Meth K (He.ga K "Sender") "tables" (He.ma K (He.ga K "Sender") "tables")
  sys_m : sysB K = true
  ne_Pair : neB K (He.ga K "Pair") (He.ma K (He.ga K "Pair") "__eq__") = true
  ne_Sender : neB K (He.ga K "Sender") (He.ma K (He.ga K "Sender") "__eq__") = true
  eu_all : euA K (fun c => He.ga K (Cn c)) [0, 1, 2] = true
  d_Sender_tables : ∃ fd, FunD K "tables" "Sender.tables" (defArgs (inClass (top 17) 1)) (defBody (inClass (top 17) 1)) (defScope (inClass (top 17) 1)) [] [] (He.ma K (He.ga K "Sender") "tables") fd
  d_Sender___eq__ : ∃ fd, FunD K "__eq__" "Sender.__eq__" (defArgs (inClass (top 17) 2)) (defBody (inClass (top 17) 2)) (defScope (inClass (top 17) 2)) [] [] (He.ma K (He.ga K "Sender") "__eq__") fd
  d_require_positive : ∃ fd, FunD K "require_positive" "require_positive" (defArgs (top 10)) (defBody (top 10)) (defScope (top 10)) [] [] (He.ga K "require_positive") fd
  d_is_below : ∃ fd, FunD K "is_below" "is_below" (defArgs (top 8)) (defBody (top 8)) (defScope (top 8)) [] [] (He.ga K "is_below") fd
  d_is_row : ∃ fd, FunD K "is_row" "is_row" (defArgs (top 9)) (defBody (top 9)) (defScope (top 9)) [] [] (He.ga K "is_row") fd
  d_is_given : ∃ fd, FunD K "is_given" "is_given" (defArgs (top 16)) (defBody (top 16)) (defScope (top 16)) [] [] (He.ga K "is_given") fd
  d_checked : ∃ fd, FunD K "checked" "checked" (defArgs (top 11)) (defBody (top 11)) (defScope (top 11)) [] [] (He.ga K "checked") fd
  d_checked_sends : ∃ fd c P, FunD K "checked_sends" "checked_sends" (defArgs (top 12)) (defBody (top 12)) (defScope (top 12)) [] [] (He.ga K "checked_sends") fd ∧ fd.code = .ref c ∧ LamX.TabB base mg c P ∧ (P, ("checked_sends.<locals>.<lambda>" : Str)) ∈ T0 ∧ ∀ p ∈ T0, p.1 = P → p.2 = ("checked_sends.<locals>.<lambda>" : Str)
  d_checked_states : ∃ fd c P, FunD K "checked_states" "checked_states" (defArgs (top 13)) (defBody (top 13)) (defScope (top 13)) [] [] (He.ga K "checked_states") fd ∧ fd.code = .ref c ∧ LamX.TabB base mg c P ∧ (P, ("checked_states.<locals>.<lambda>" : Str)) ∈ T0 ∧ ∀ p ∈ T0, p.1 = P → p.2 = ("checked_states.<locals>.<lambda>" : Str)
  d_checked_hears : ∃ fd c P, FunD K "checked_hears" "checked_hears" (defArgs (top 14)) (defBody (top 14)) (defScope (top 14)) [] [] (He.ga K "checked_hears") fd ∧ fd.code = .ref c ∧ LamX.TabB base mg c P ∧ (P, ("checked_hears.<locals>.<lambda>" : Str)) ∈ T0 ∧ ∀ p ∈ T0, p.1 = P → p.2 = ("checked_hears.<locals>.<lambda>" : Str)
  d_Receiver___init__ : ∃ fd c P, FunD K "__init__" "Receiver.__init__" (defArgs (inClass (top 18) 0)) (defBody (inClass (top 18) 0)) (defScope (inClass (top 18) 0)) [] [] (He.ma K (He.ga K "Receiver") "__init__") fd ∧ fd.code = .ref c ∧ LamX.TabB base mg c P ∧ (P, ("Receiver.__init__.<locals>.<lambda>" : Str)) ∈ T0 ∧ ∀ p ∈ T0, p.1 = P → p.2 = ("Receiver.__init__.<locals>.<lambda>" : Str)
  d_Receiver_tables : ∃ fd, FunD K "tables" "Receiver.tables" (defArgs (inClass (top 18) 1)) (defBody (inClass (top 18) 1)) (defScope (inClass (top 18) 1)) [] [] (He.ma K (He.ga K "Receiver") "tables") fd
  d_Receiver___eq__ : ∃ fd, FunD K "__eq__" "Receiver.__eq__" (defArgs (inClass (top 18) 2)) (defBody (inClass (top 18) 2)) (defScope (inClass (top 18) 2)) [] [] (He.ma K (He.ga K "Receiver") "__eq__") fd
  d_Pair___eq__ : ∃ fd, FunD K "__eq__" "Pair.__eq__" (defArgs (inClass (top 19) 1)) (defBody (inClass (top 19) 1)) (defScope (inClass (top 19) 1)) [] [] (He.ma K (He.ga K "Pair") "__eq__") fd
  d_require_pair : ∃ fd, FunD K "require_pair" "require_pair" (defArgs (top 20)) (defBody (top 20)) (defScope (top 20)) [] [] (He.ga K "require_pair") fd
  d_forgets : ∃ fd, FunD K "forgets" "forgets" (defArgs (top 21)) (defBody (top 21)) (defScope (top 21)) [] [] (He.ga K "forgets") fd
  d_keeps_nothing : ∃ fd, FunD K "keeps_nothing" "keeps_nothing" (defArgs (top 22)) (defBody (top 22)) (defScope (top 22)) [] [] (He.ga K "keeps_nothing") fd
  d__law_purse : ∃ fd, FunD K "_law_purse" "_law_purse" (defArgs (top 25)) (defBody (top 25)) (defScope (top 25)) [] [] (He.ga K "_law_purse") fd
  d__law_turns : ∃ fd, FunD K "_law_turns" "_law_turns" (defArgs (top 33)) (defBody (top 33)) (defScope (top 33)) [] [] (He.ga K "_law_turns") fd
  d__law_repeats : ∃ fd, FunD K "_law_repeats" "_law_repeats" (defArgs (top 35)) (defBody (top 35)) (defScope (top 35)) [] [] (He.ga K "_law_repeats") fd
  d_checked_takes : ∃ fd c P, FunD K "checked_takes" "checked_takes" (defArgs (top 15)) (defBody (top 15)) (defScope (top 15)) [] [] (He.ga K "checked_takes") fd ∧ fd.code = .ref c ∧ LamX.TabB base mg c P ∧ (P, ("checked_takes.<locals>.<lambda>" : Str)) ∈ T0 ∧ ∀ p ∈ T0, p.1 = P → p.2 = ("checked_takes.<locals>.<lambda>" : Str)
  d_Sender___init__ : ∃ fd, FunD K "__init__" "Sender.__init__" (defArgs (inClass (top 17) 0)) (defBody (inClass (top 17) 0)) (defScope (inClass (top 17) 0)) [] [] (He.ma K (He.ga K "Sender") "__init__") fd
  d__law_made_sender : ∃ fd, FunD K "_law_made_sender" "_law_made_sender" (defArgs (top 37)) (defBody (top 37)) (defScope (top 37)) [] [] (He.ga K "_law_made_sender") fd
  d_Pair___init__ : ∃ fd, FunD K "__init__" "Pair.__init__" (defArgs (inClass (top 19) 0)) (defBody (inClass (top 19) 0)) (defScope (inClass (top 19) 0)) [] [] (He.ma K (He.ga K "Pair") "__init__") fd
  d__law_made_receiver : ∃ fd, FunD K "_law_made_receiver" "_law_made_receiver" (defArgs (top 38)) (defBody (top 38)) (defScope (top 38)) [] [] (He.ga K "_law_made_receiver") fd
  d__law_made : ∃ fd, FunD K "_law_made" "_law_made" (defArgs (top 39)) (defBody (top 39)) (defScope (top 39)) [] [] (He.ga K "_law_made") fd
  d__law_mixed : ∃ fd, FunD K "_law_mixed" "_law_mixed" (defArgs (top 24)) (defBody (top 24)) (defScope (top 24)) [] [] (He.ga K "_law_mixed") fd
  d__law_draw : ∃ fd, FunD K "_law_draw" "_law_draw" (defArgs (top 26)) (defBody (top 26)) (defScope (top 26)) [] [] (He.ga K "_law_draw") fd
  d__law_row : ∃ fd, FunD K "_law_row" "_law_row" (defArgs (top 28)) (defBody (top 28)) (defScope (top 28)) [] [] (He.ga K "_law_row") fd
  d__law_falls : ∃ fd, FunD K "_law_falls" "_law_falls" (defArgs (top 29)) (defBody (top 29)) (defScope (top 29)) [] [] (He.ga K "_law_falls") fd
  d__law_letters : ∃ fd, FunD K "_law_letters" "_law_letters" (defArgs (top 30)) (defBody (top 30)) (defScope (top 30)) [] [] (He.ga K "_law_letters") fd
  d__law_sender : ∃ fd, FunD K "_law_sender" "_law_sender" (defArgs (top 31)) (defBody (top 31)) (defScope (top 31)) [] [] (He.ga K "_law_sender") fd
  d__law_receiver : ∃ fd, FunD K "_law_receiver" "_law_receiver" (defArgs (top 32)) (defBody (top 32)) (defScope (top 32)) [] [] (He.ga K "_law_receiver") fd
  d__law_greets : ∃ fd, FunD K "_law_greets" "_law_greets" (defArgs (top 34)) (defBody (top 34)) (defScope (top 34)) [] [] (He.ga K "_law_greets") fd
  d__law_raw : ∃ fd, FunD K "_law_raw" "_law_raw" (defArgs (top 36)) (defBody (top 36)) (defScope (top 36)) [] [] (He.ga K "_law_raw") fd
  d__law_told : ∃ fd, FunD K "_law_told" "_law_told" (defArgs (top 40)) (defBody (top 40)) (defScope (top 40)) [] [] (He.ga K "_law_told") fd
  d__law_bent : ∃ fd, FunD K "_law_bent" "_law_bent" (defArgs (top 41)) (defBody (top 41)) (defScope (top 41)) [] [] (He.ga K "_law_bent") fd
  d__law_kept_right : ∃ fd, FunD K "_law_kept_right" "_law_kept_right" (defArgs (top 42)) (defBody (top 42)) (defScope (top 42)) [] [] (He.ga K "_law_kept_right") fd
  d__law_right : ∃ fd, FunD K "_law_right" "_law_right" (defArgs (top 43)) (defBody (top 43)) (defScope (top 43)) [] [] (He.ga K "_law_right") fd
  d_law : ∃ fd, FunD K "law" "law" (defArgs (top 44)) (defBody (top 44)) (defScope (top 44)) [] [] (He.ga K "law") fd
section
variable {P : Program} {w : World} {K : PySem.W.Frag} {mg : Str → Option Value} {base : Heap} {T0 : List (Addr × Str)}
theorem fn_Sender_tables (Z : Fx K mg base T0) : ∃ fd, FunD K "tables" "Sender.tables" (defArgs (inClass (top 17) 1)) (defBody (inClass (top 17) 1)) (defScope (inClass (top 17) 1)) [] [] (He.ma K (He.ga K "Sender") "tables") fd ∧ FnOk P w K mg base C8.CX0 1 (He.ma K (He.ga K "Sender") "tables") fd ["self"] (spF (mkW SS Cn K T0 none) 1 F_Sender_tables) := by
  obtain ⟨fd, F⟩ := Z.d_Sender_tables
  exact ⟨fd, F, (fn_okW (k := 0) (N := ["self", "kinds"]) (ps := ["self"]) F (by decide +kernel) rfl rfl fun cdv A outer s H E hr hC => (ss_cons (s_set (i := 1) rfl (.inl rfl) (e_tup (a_cons (e_fld (Z.cf_value_count _) (e_V rfl (.inl rfl) rfl rfl)) (a_cons (e_fld (Z.cf_forward _) (e_V rfl (.inl rfl) rfl rfl)) (a_cons (e_fld (Z.cf_backward _) (e_V rfl (.inl rfl) rfl rfl)) a_nil))))) (ss_one (s_ret (e_bin s_add (e_V rfl (.inl rfl) rfl rfl) (e_tup (a_cons (e_fld (Z.cf_sends _) (e_V rfl (.inl rfl) rfl rfl)) (a_cons (e_fld (Z.cf_ticks _) (e_V rfl (.inl rfl) rfl rfl)) (a_cons (e_fld (Z.cf_hears _) (e_V rfl (.inl rfl) rfl rfl)) (a_cons (e_fld (Z.cf_takes _) (e_V rfl (.inl rfl) rfl rfl)) (a_cons (e_fld (Z.cf_crashes _) (e_V rfl (.inl rfl) rfl rfl)) a_nil)))))))))))⟩
theorem met_Sender_tables (Z : Fx K mg base T0) : Met P w K mg base (mkW SS Cn K T0 none) 1 0 83 "tables" 1 F_Sender_tables := by
  obtain ⟨fd, F, hF⟩ := fn_Sender_tables (P := P) (w := w) Z
  exact ⟨⟨_, fd, ["self"], Z.me_Sender_tables.1, Z.me_Sender_tables.2, (F.bindsN (ps := ["self"]) fun _ _ _ _ _ _ us hl => match us, hl with | [_], _ => rfl), hF⟩, rfl⟩
theorem fn_Sender___eq__ (Z : Fx K mg base T0) : ∃ fd, FunD K "__eq__" "Sender.__eq__" (defArgs (inClass (top 17) 2)) (defBody (inClass (top 17) 2)) (defScope (inClass (top 17) 2)) [] [] (He.ma K (He.ga K "Sender") "__eq__") fd ∧ FnOk P w K mg base C8.CX0 2 (He.ma K (He.ga K "Sender") "__eq__") fd ["self", "other"] (spF (mkW SS Cn K T0 none) 2 F_Sender___eq__) := by
  obtain ⟨fd, F⟩ := Z.d_Sender___eq__
  exact ⟨fd, F, (fn_okW (k := 1) (N := ["self", "other"]) (ps := ["self", "other"]) F (by decide +kernel) rfl rfl fun cdv A outer s H E hr hC => (ss_one (s_ret (e_and (e_is (Z.kf_Sender _) (pe_glob (v := .ref (He.ga K "Sender")) rfl Z.g_Sender rfl rfl) (.own _) rfl Z.b_isinstance (e_V rfl (.inl rfl) rfl rfl)) (e_one (e_cmp (s_eq (u64 hr)) (e_meth0 (pl := _) (met_Sender_tables Z) (hr.mono (by decide)) (e_V rfl (.inl rfl) rfl rfl) rfl) (e_meth0 (pl := _) (met_Sender_tables Z) (hr.mono (by decide)) (e_V rfl (.inl rfl) rfl rfl) rfl)))))))⟩
theorem nei_Sender (Z : Fx K mg base T0) : ∃ fd ps, L2.Binds K fd ps [] ∧ FnOk P w K mg base C8.CX0 2 (He.ma K (He.ga K "Sender") "__eq__") fd ps (spF (mkW SS Cn K T0 none) 2 F_Sender___eq__) := by
  obtain ⟨fd, F, hF⟩ := fn_Sender___eq__ (P := P) (w := w) Z
  exact ⟨fd, ["self", "other"], (F.bindsN (ps := ["self", "other"]) fun _ _ _ _ _ _ us hl => match us, hl with | [_, _], _ => rfl), hF⟩
theorem eqm_Sender (Z : Fx K mg base T0) : EqM P w K mg base (mkW SS Cn K T0 none) 2 0 F_Sender___eq__ := by
  obtain ⟨fd, F, hF⟩ := fn_Sender___eq__ (P := P) (w := w) Z
  exact ⟨⟨_, fd, ["self", "other"], Z.eq_Sender.1, Z.eq_Sender.2, (F.bindsN (ps := ["self", "other"]) fun _ _ _ _ _ _ us hl => match us, hl with | [_, _], _ => rfl), hF⟩⟩
theorem fn_require_positive (Z : Fx K mg base T0) : ∃ fd, FunD K "require_positive" "require_positive" (defArgs (top 10)) (defBody (top 10)) (defScope (top 10)) [] [] (He.ga K "require_positive") fd ∧ FnOk P w K mg base C8.CX0 1 (He.ga K "require_positive") fd ["thing"] (spF (mkW SS Cn K T0 none) 1 F_require_positive) := by
  obtain ⟨fd, F⟩ := Z.d_require_positive
  exact ⟨fd, F, (fn_okW (k := 0) (N := ["thing"]) (ps := ["thing"]) F (by decide +kernel) rfl rfl fun cdv A outer s H E hr hC => (ss_one (s_if (t_w (w_or (t_B (fun _ => rfl) (e_is (Z.kf_bool _) (pe_bt rfl Z.b_bool bb_bool (by decide) rfl) (.ty _) rfl Z.b_isinstance (e_V rfl (.inl rfl) rfl rfl))) (w_or (t_not (t_B (fun _ => rfl) (e_is (Z.kf_int _) (pe_bt rfl Z.b_int bb_int (by decide) rfl) (.ty _) rfl Z.b_isinstance (e_V rfl (.inl rfl) rfl rfl)))) (w_or1 (t_cmp s_lt (e_V rfl (.inl rfl) rfl rfl) e_int))))) (ss_one s_raise) ss_nil)))⟩
theorem ok_require_positive (Z : Fx K mg base T0) : Def P w K mg base (mkW SS Cn K T0 none) 1 "require_positive" 1 F_require_positive := by
  obtain ⟨fd, F, hF⟩ := fn_require_positive (P := P) (w := w) Z
  exact ⟨⟨_, fd, ["thing"], Z.g_require_positive, F.kp, (F.bindsN (ps := ["thing"]) fun _ _ _ _ _ _ us hl => match us, hl with | [_], _ => rfl), hF⟩, rfl⟩
theorem fn_is_below (Z : Fx K mg base T0) : ∃ fd, FunD K "is_below" "is_below" (defArgs (top 8)) (defBody (top 8)) (defScope (top 8)) [] [] (He.ga K "is_below") fd ∧ FnOk P w K mg base C8.CX0 1 (He.ga K "is_below") fd ["thing", "most"] (spF (mkW SS Cn K T0 none) 2 F_is_below) := by
  obtain ⟨fd, F⟩ := Z.d_is_below
  exact ⟨fd, F, (fn_okW (k := 0) (N := ["thing", "most"]) (ps := ["thing", "most"]) F (by decide +kernel) rfl rfl fun cdv A outer s H E hr hC => (ss_one (s_ret (e_and (e_is (Z.kf_int _) (pe_bt rfl Z.b_int bb_int (by decide) rfl) (.ty _) rfl Z.b_isinstance (e_V rfl (.inl rfl) rfl rfl)) (e_and (e_not (e_is (Z.kf_bool _) (pe_bt rfl Z.b_bool bb_bool (by decide) rfl) (.ty _) rfl Z.b_isinstance (e_V rfl (.inl rfl) rfl rfl))) (e_one (e_chain s_le s_lt e_int (e_V rfl (.inl rfl) rfl rfl) (e_V rfl (.inl rfl) rfl rfl))))))))⟩
theorem ok_is_below (Z : Fx K mg base T0) : Def P w K mg base (mkW SS Cn K T0 none) 1 "is_below" 2 F_is_below := by
  obtain ⟨fd, F, hF⟩ := fn_is_below (P := P) (w := w) Z
  exact ⟨⟨_, fd, ["thing", "most"], Z.g_is_below, F.kp, (F.bindsN (ps := ["thing", "most"]) fun _ _ _ _ _ _ us hl => match us, hl with | [_, _], _ => rfl), hF⟩, rfl⟩
theorem fn_is_row (Z : Fx K mg base T0) : ∃ fd, FunD K "is_row" "is_row" (defArgs (top 9)) (defBody (top 9)) (defScope (top 9)) [] [] (He.ga K "is_row") fd ∧ FnOk P w K mg base C8.CX0 2 (He.ga K "is_row") fd ["thing", "many", "most"] (spF (mkW SS Cn K T0 none) 3 F_is_row) := by
  obtain ⟨fd, F⟩ := Z.d_is_row
  exact ⟨fd, F, (fn_okW (k := 1) (N := ["thing", "many", "most", "one"]) (ps := ["thing", "many", "most"]) F (by decide +kernel) rfl rfl fun cdv A outer s H E hr hC => (ss_one (s_ret (e_and (e_is (Z.kf_tuple _) (pe_bt rfl Z.b_tuple bb_tuple (by decide) rfl) (.ty _) rfl Z.b_isinstance (e_V rfl (.inl rfl) rfl rfl)) (e_and (e_cmp (s_eq (u64 hr)) (e_len rfl Z.b_len (e_V rfl (.inl rfl) rfl rfl)) (e_V rfl (.inl rfl) rfl rfl)) (e_one (e_all rfl Z.b_all (e_comp (own := [("one", 3)]) rfl (i_E (e_V rfl (.inl rfl) rfl rfl)) rfl (fun _ _ _ _ _ => (g_V (i := 3) rfl (.inl rfl))) (fun _ _ _ _ _ => ts_nil) (fun _ _ _ _ _ => (e_call (ok_is_below Z) (hr.mono (by decide)) rfl (a_cons (e_V rfl (.inl rfl) rfl rfl) (a_cons (e_V rfl (.inr (.inl rfl)) rfl rfl) a_nil)) (ar_cons (ar_cons ar_nil)))) (by decide)))))))))⟩
theorem ok_is_row (Z : Fx K mg base T0) : Def P w K mg base (mkW SS Cn K T0 none) 2 "is_row" 3 F_is_row := by
  obtain ⟨fd, F, hF⟩ := fn_is_row (P := P) (w := w) Z
  exact ⟨⟨_, fd, ["thing", "many", "most"], Z.g_is_row, F.kp, (F.bindsN (ps := ["thing", "many", "most"]) fun _ _ _ _ _ _ us hl => match us, hl with | [_, _, _], _ => rfl), hF⟩, rfl⟩
theorem fn_is_given (Z : Fx K mg base T0) : ∃ fd, FunD K "is_given" "is_given" (defArgs (top 16)) (defBody (top 16)) (defScope (top 16)) [] [] (He.ga K "is_given") fd ∧ FnOk P w K mg base C8.CX0 2 (He.ga K "is_given") fd ["thing", "many", "values"] (spF (mkW SS Cn K T0 none) 3 F_is_given) := by
  obtain ⟨fd, F⟩ := Z.d_is_given
  exact ⟨fd, F, (fn_okW (k := 1) (N := ["thing", "many", "values", "one"]) (ps := ["thing", "many", "values"]) F (by decide +kernel) rfl rfl fun cdv A outer s H E hr hC => (ss_cons (s_if (t_w (w_or (t_not (t_B (fun _ => rfl) (e_is (Z.kf_tuple _) (pe_bt rfl Z.b_tuple bb_tuple (by decide) rfl) (.ty _) rfl Z.b_isinstance (e_V rfl (.inl rfl) rfl rfl)))) (w_or1 (t_cmp (s_ne (u64 hr)) (e_len rfl Z.b_len (e_V rfl (.inl rfl) rfl rfl)) (e_V rfl (.inl rfl) rfl rfl))))) (ss_one (s_ret e_bool)) ss_nil) (ss_one (s_ret (e_all rfl Z.b_all (e_comp (own := [("one", 3)]) rfl (i_E (e_V rfl (.inl rfl) rfl rfl)) rfl (fun _ _ _ _ _ => (g_V (i := 3) rfl (.inl rfl))) (fun _ _ _ _ _ => ts_nil) (fun _ _ _ _ _ => (e_or (e_cmp s_isN (e_V rfl (.inl rfl) rfl rfl) e_non) (e_one (e_call (ok_is_below Z) (hr.mono (by decide)) rfl (a_cons (e_V rfl (.inl rfl) rfl rfl) (a_cons (e_V rfl (.inr (.inl rfl)) rfl rfl) a_nil)) (ar_cons (ar_cons ar_nil)))))) (by decide)))))))⟩
theorem ok_is_given (Z : Fx K mg base T0) : Def P w K mg base (mkW SS Cn K T0 none) 2 "is_given" 3 F_is_given := by
  obtain ⟨fd, F, hF⟩ := fn_is_given (P := P) (w := w) Z
  exact ⟨⟨_, fd, ["thing", "many", "values"], Z.g_is_given, F.kp, (F.bindsN (ps := ["thing", "many", "values"]) fun _ _ _ _ _ _ us hl => match us, hl with | [_, _, _], _ => rfl), hF⟩, rfl⟩
theorem ok_checked (Z : Fx K mg base T0) : LDef P w K mg base (mkW SS Cn K T0 none) 3 "checked" 3 F_checked := by
  obtain ⟨fd, F⟩ := Z.d_checked
  exact ldef_of (N := ["name", "thing", "states", "is_right", "state", "item"]) (ps := ["name", "thing", "states", "is_right"]) Z.g_checked F (by decide +kernel) (F.bindsN (ps := ["name", "thing", "states", "is_right"]) fun _ _ _ _ _ _ us hl => match us, hl with | [_, _, _, _], _ => rfl) rfl rfl rfl (.inl rfl) rfl rfl rfl fun L Lf cdv A outer s H E hr hC act => (ss_cons (s_if (t_w (w_or (t_not (t_B (fun _ => rfl) (e_isT (Z.kf_lot _) (pe_bt rfl Z.b_list bb_list (by decide) rfl) (.ty _) (pe_bt rfl Z.b_tuple bb_tuple (by decide) rfl) (.ty _) rfl Z.b_isinstance (e_V rfl (.inl rfl) rfl rfl)))) (w_or (t_cmp (s_eq (u64 hr)) (e_len rfl Z.b_len (e_V rfl (.inl rfl) rfl rfl)) e_int) (w_or1 (t_w (w_and (t_cmp s_notN (e_V rfl (.inl rfl) rfl rfl) e_non) (w_and1 (t_cmp (s_ne (u64 hr)) (e_len rfl Z.b_len (e_V rfl (.inl rfl) rfl rfl)) (e_V rfl (.inl rfl) rfl rfl))))))))) (ss_one s_raise) ss_nil) (ss_cons (s_for (i_enum rfl Z.b_enumerate (e_V rfl (.inl rfl) rfl rfl)) (g_T (is := [4, 5]) (gs_cons (i := 4) rfl (.inl rfl) (gs_cons (i := 5) rfl (.inl rfl) gs_nil))) (ss_one (s_if (t_not (t_B (fun _ => rfl) (act _ _ _ _ rfl rfl (e_V rfl (.inl rfl) rfl rfl)))) (ss_one s_raise) ss_nil))) (ss_one (s_ret (e_tupF rfl Z.b_tuple (e_V rfl (.inl rfl) rfl rfl))))))
theorem fn_checked_sends (Z : Fx K mg base T0) : ∃ fd, FunD K "checked_sends" "checked_sends" (defArgs (top 12)) (defBody (top 12)) (defScope (top 12)) [] [] (He.ga K "checked_sends") fd ∧ FnOk P w K mg base C8.CX0 5 (He.ga K "checked_sends") fd ["thing", "most"] (spF (mkW SS Cn K T0 none) 2 F_checked_sends) := by
  obtain ⟨fd, c, Pt, F, hcd, TB, hmT, hu⟩ := Z.d_checked_sends
  exact ⟨fd, F, (fn_okCW (k := 4) (N := ["thing", "most"]) (ps := ["thing", "most"]) F hcd (by decide +kernel) rfl rfl fun A outer s H E hr hC => (ss_one (s_ret (e_callL (kl := 1) (fr := ["most"]) (Nl := ["item", "most"]) (par := "item") rfl (ok_checked Z) (by decide) (hr.mono (by decide)) rfl (.cons (e_str rfl) (.cons (e_V rfl (.inl rfl) rfl rfl) (.cons e_non .nil rfl) rfl) rfl) (ar_cons (ar_cons (ar_cons ar_nil))) TB rfl hmT hu rfl rfl rfl (fun c' => LBody.mk' rfl rfl (fun _ _ _ => rfl) fun f A outer s H E hr hC => (e_or (e_cmp s_isN (e_V rfl (.inl rfl) rfl rfl) e_non) (e_one (e_call (ok_is_below Z) (hr.mono (by decide)) rfl (a_cons (e_V rfl (.inl rfl) rfl rfl) (a_cons (e_V rfl (.inr (.inr rfl)) rfl rfl) a_nil)) (ar_cons (ar_cons ar_nil))))))))))⟩
theorem ok_checked_sends (Z : Fx K mg base T0) : Def P w K mg base (mkW SS Cn K T0 none) 5 "checked_sends" 2 F_checked_sends := by
  obtain ⟨fd, F, hF⟩ := fn_checked_sends (P := P) (w := w) Z
  exact ⟨⟨_, fd, ["thing", "most"], Z.g_checked_sends, F.kp, (F.bindsN (ps := ["thing", "most"]) fun _ _ _ _ _ _ us hl => match us, hl with | [_, _], _ => rfl), hF⟩, rfl⟩
theorem fn_checked_states (Z : Fx K mg base T0) : ∃ fd, FunD K "checked_states" "checked_states" (defArgs (top 13)) (defBody (top 13)) (defScope (top 13)) [] [] (He.ga K "checked_states") fd ∧ FnOk P w K mg base C8.CX0 5 (He.ga K "checked_states") fd ["name", "thing", "states"] (spF (mkW SS Cn K T0 none) 3 F_checked_states) := by
  obtain ⟨fd, c, Pt, F, hcd, TB, hmT, hu⟩ := Z.d_checked_states
  exact ⟨fd, F, (fn_okCW (k := 4) (N := ["name", "thing", "states"]) (ps := ["name", "thing", "states"]) F hcd (by decide +kernel) rfl rfl fun A outer s H E hr hC => (ss_one (s_ret (e_callL (kl := 1) (fr := ["states"]) (Nl := ["item", "states"]) (par := "item") rfl (ok_checked Z) (by decide) (hr.mono (by decide)) rfl (.cons (e_V rfl (.inl rfl) rfl rfl) (.cons (e_V rfl (.inl rfl) rfl rfl) (.cons (e_V rfl (.inr (.inl rfl)) rfl rfl) .nil rfl) rfl) rfl) (ar_cons (ar_cons (ar_cons ar_nil))) TB rfl hmT hu rfl rfl rfl (fun c' => LBody.mk' rfl rfl (fun _ _ _ => rfl) fun f A outer s H E hr hC => (e_call (ok_is_below Z) (hr.mono (by decide)) rfl (a_cons (e_V rfl (.inl rfl) rfl rfl) (a_cons (e_V rfl (.inr (.inr rfl)) rfl rfl) a_nil)) (ar_cons (ar_cons ar_nil))))))))⟩
theorem ok_checked_states (Z : Fx K mg base T0) : Def P w K mg base (mkW SS Cn K T0 none) 5 "checked_states" 3 F_checked_states := by
  obtain ⟨fd, F, hF⟩ := fn_checked_states (P := P) (w := w) Z
  exact ⟨⟨_, fd, ["name", "thing", "states"], Z.g_checked_states, F.kp, (F.bindsN (ps := ["name", "thing", "states"]) fun _ _ _ _ _ _ us hl => match us, hl with | [_, _, _], _ => rfl), hF⟩, rfl⟩
theorem fn_checked_hears (Z : Fx K mg base T0) : ∃ fd, FunD K "checked_hears" "checked_hears" (defArgs (top 14)) (defBody (top 14)) (defScope (top 14)) [] [] (He.ga K "checked_hears") fd ∧ FnOk P w K mg base C8.CX0 5 (He.ga K "checked_hears") fd ["thing", "many", "states"] (spF (mkW SS Cn K T0 none) 3 F_checked_hears) := by
  obtain ⟨fd, c, Pt, F, hcd, TB, hmT, hu⟩ := Z.d_checked_hears
  exact ⟨fd, F, (fn_okCW (k := 4) (N := ["thing", "many", "states"]) (ps := ["thing", "many", "states"]) F hcd (by decide +kernel) rfl rfl fun A outer s H E hr hC => (ss_one (s_ret (e_callL (kl := 2) (fr := ["many", "states"]) (Nl := ["item", "many", "states"]) (par := "item") rfl (ok_checked Z) (by decide) (hr.mono (by decide)) rfl (.cons (e_str rfl) (.cons (e_V rfl (.inl rfl) rfl rfl) (.cons (e_V rfl (.inr (.inl rfl)) rfl rfl) .nil rfl) rfl) rfl) (ar_cons (ar_cons (ar_cons ar_nil))) TB rfl hmT hu rfl rfl rfl (fun c' => LBody.mk' rfl rfl (fun _ _ _ => rfl) fun f A outer s H E hr hC => (e_call (ok_is_row Z) (hr.mono (by decide)) rfl (a_cons (e_V rfl (.inl rfl) rfl rfl) (a_cons (e_V rfl (.inr (.inr rfl)) rfl rfl) (a_cons (e_V rfl (.inr (.inr rfl)) rfl rfl) a_nil))) (ar_cons (ar_cons (ar_cons ar_nil)))))))))⟩
theorem ok_checked_hears (Z : Fx K mg base T0) : Def P w K mg base (mkW SS Cn K T0 none) 5 "checked_hears" 3 F_checked_hears := by
  obtain ⟨fd, F, hF⟩ := fn_checked_hears (P := P) (w := w) Z
  exact ⟨⟨_, fd, ["thing", "many", "states"], Z.g_checked_hears, F.kp, (F.bindsN (ps := ["thing", "many", "states"]) fun _ _ _ _ _ _ us hl => match us, hl with | [_, _, _], _ => rfl), hF⟩, rfl⟩
theorem fn_Receiver___init__ (Z : Fx K mg base T0) : ∃ fd, FunD K "__init__" "Receiver.__init__" (defArgs (inClass (top 18) 0)) (defBody (inClass (top 18) 0)) (defScope (inClass (top 18) 0)) [] [] (He.ma K (He.ga K "Receiver") "__init__") fd ∧ FnOk P w K mg base C8.CX0 6 (He.ma K (He.ga K "Receiver") "__init__") fd ["self", "value_count", "forward", "backward", "sends", "ticks", "hears", "gives", "crashes"] (spF (mkW SS Cn K T0 none) 9 F_Receiver___init__) := by
  obtain ⟨fd, c, Pt, F, hcd, TB, hmT, hu⟩ := Z.d_Receiver___init__
  exact ⟨fd, F, (fn_okCW (k := 5) (N := ["self", "value_count", "forward", "backward", "sends", "ticks", "hears", "gives", "crashes", "number", "many"]) (ps := ["self", "value_count", "forward", "backward", "sends", "ticks", "hears", "gives", "crashes"]) F hcd (by decide +kernel) rfl rfl fun A outer s H E hr hC => (ss_cons (s_for (i_E (e_tup (a_cons (e_V rfl (.inr (.inl rfl)) rfl rfl) (a_cons (e_V rfl (.inr (.inl rfl)) rfl rfl) (a_cons (e_V rfl (.inl rfl) rfl rfl) a_nil))))) (g_V (i := 9) rfl (.inl rfl)) (ss_one (s_exp (e_call (ok_require_positive Z) (hr.mono (by decide)) rfl (a_cons (e_V rfl (.inl rfl) rfl rfl) a_nil) (ar_cons ar_nil))))) (ss_cons (s_fld (Z.cf_value_count _) (e_V rfl (.inl rfl) rfl rfl) (e_V rfl (.inr (.inl rfl)) rfl rfl)) (ss_cons (s_fld (Z.cf_forward _) (e_V rfl (.inl rfl) rfl rfl) (e_V rfl (.inr (.inl rfl)) rfl rfl)) (ss_cons (s_fld (Z.cf_backward _) (e_V rfl (.inl rfl) rfl rfl) (e_V rfl (.inl rfl) rfl rfl)) (ss_cons (s_fld (Z.cf_sends _) (e_V rfl (.inl rfl) rfl rfl) (e_call (ok_checked_sends Z) (hr.mono (by decide)) rfl (a_cons (e_V rfl (.inl rfl) rfl rfl) (a_cons (e_V rfl (.inl rfl) rfl rfl) a_nil)) (ar_cons (ar_cons ar_nil)))) (ss_cons (s_set (i := 10) rfl (.inl rfl) (e_len rfl Z.b_len (e_fld (Z.cf_sends _) (e_V rfl (.inl rfl) rfl rfl)))) (ss_cons (s_fld (Z.cf_ticks _) (e_V rfl (.inl rfl) rfl rfl) (e_call (ok_checked_states Z) (hr.mono (by decide)) rfl (a_cons (e_str rfl) (a_cons (e_V rfl (.inl rfl) rfl rfl) (a_cons (e_V rfl (.inl rfl) rfl rfl) a_nil))) (ar_cons (ar_cons (ar_cons ar_nil))))) (ss_cons (s_fld (Z.cf_hears _) (e_V rfl (.inl rfl) rfl rfl) (e_call (ok_checked_hears Z) (hr.mono (by decide)) rfl (a_cons (e_V rfl (.inl rfl) rfl rfl) (a_cons (e_V rfl (.inr (.inl rfl)) rfl rfl) (a_cons (e_V rfl (.inl rfl) rfl rfl) a_nil))) (ar_cons (ar_cons (ar_cons ar_nil))))) (ss_cons (s_fld (Z.cf_gives _) (e_V rfl (.inl rfl) rfl rfl) (e_callL (kl := 2) (fr := ["forward", "value_count"]) (Nl := ["item", "forward", "value_count"]) (par := "item") rfl (ok_checked Z) (by decide) (hr.mono (by decide)) rfl (.cons (e_str rfl) (.cons (e_V rfl (.inl rfl) rfl rfl) (.cons (e_V rfl (.inl rfl) rfl rfl) .nil rfl) rfl) rfl) (ar_cons (ar_cons (ar_cons ar_nil))) TB rfl hmT hu rfl rfl rfl (fun c' => LBody.mk' rfl rfl (fun _ _ _ => rfl) fun f A outer s H E hr hC => (e_call (ok_is_given Z) (hr.mono (by decide)) rfl (a_cons (e_V rfl (.inl rfl) rfl rfl) (a_cons (e_V rfl (.inr (.inr rfl)) rfl rfl) (a_cons (e_V rfl (.inr (.inr rfl)) rfl rfl) a_nil))) (ar_cons (ar_cons (ar_cons ar_nil))))))) (ss_one (s_fld (Z.cf_crashes _) (e_V rfl (.inl rfl) rfl rfl) (e_call (ok_checked_states Z) (hr.mono (by decide)) rfl (a_cons (e_str rfl) (a_cons (e_V rfl (.inl rfl) rfl rfl) (a_cons (e_V rfl (.inl rfl) rfl rfl) a_nil))) (ar_cons (ar_cons (ar_cons ar_nil))))))))))))))))⟩
theorem kw_Receiver___init___0_crashes_gives_hears_ticks_sends_backward_forward_value_count (Z : Fx K mg base T0) : MakK P w K mg base (mkW SS Cn K T0 none) 6 "Receiver" 1 9 F_Receiver___init__ 0 ["crashes", "gives", "hears", "ticks", "sends", "backward", "forward", "value_count"] [0, 8, 7, 6, 5, 4, 3, 2, 1] := by
  obtain ⟨fd, F, hF⟩ := fn_Receiver___init__ (P := P) (w := w) Z
  exact ⟨⟨_, fd, ["self", "value_count", "forward", "backward", "sends", "ticks", "hears", "gives", "crashes"], Z.g_Receiver, Z.mk_Receiver, (kb_of (is := [0, 8, 7, 6, 5, 4, 3, 2, 1]) F fun _ _ _ _ _ _ us ws h1 h2 => match us, h1, ws, h2 with | [_], _, [_, _, _, _, _, _, _, _], _ => rfl), hF⟩, rfl⟩
theorem kw_Receiver___init___3_sends_ticks_hears_gives_crashes (Z : Fx K mg base T0) : MakK P w K mg base (mkW SS Cn K T0 none) 6 "Receiver" 1 9 F_Receiver___init__ 3 ["sends", "ticks", "hears", "gives", "crashes"] [0, 1, 2, 3, 4, 5, 6, 7, 8] := by
  obtain ⟨fd, F, hF⟩ := fn_Receiver___init__ (P := P) (w := w) Z
  exact ⟨⟨_, fd, ["self", "value_count", "forward", "backward", "sends", "ticks", "hears", "gives", "crashes"], Z.g_Receiver, Z.mk_Receiver, (kb_of (is := [0, 1, 2, 3, 4, 5, 6, 7, 8]) F fun _ _ _ _ _ _ us ws h1 h2 => match us, h1, ws, h2 with | [_, _, _, _], _, [_, _, _, _, _], _ => rfl), hF⟩, rfl⟩
theorem fn_Receiver_tables (Z : Fx K mg base T0) : ∃ fd, FunD K "tables" "Receiver.tables" (defArgs (inClass (top 18) 1)) (defBody (inClass (top 18) 1)) (defScope (inClass (top 18) 1)) [] [] (He.ma K (He.ga K "Receiver") "tables") fd ∧ FnOk P w K mg base C8.CX0 1 (He.ma K (He.ga K "Receiver") "tables") fd ["self"] (spF (mkW SS Cn K T0 none) 1 F_Receiver_tables) := by
  obtain ⟨fd, F⟩ := Z.d_Receiver_tables
  exact ⟨fd, F, (fn_okW (k := 0) (N := ["self", "kinds"]) (ps := ["self"]) F (by decide +kernel) rfl rfl fun cdv A outer s H E hr hC => (ss_cons (s_set (i := 1) rfl (.inl rfl) (e_tup (a_cons (e_fld (Z.cf_value_count _) (e_V rfl (.inl rfl) rfl rfl)) (a_cons (e_fld (Z.cf_forward _) (e_V rfl (.inl rfl) rfl rfl)) (a_cons (e_fld (Z.cf_backward _) (e_V rfl (.inl rfl) rfl rfl)) a_nil))))) (ss_one (s_ret (e_bin s_add (e_V rfl (.inl rfl) rfl rfl) (e_tup (a_cons (e_fld (Z.cf_sends _) (e_V rfl (.inl rfl) rfl rfl)) (a_cons (e_fld (Z.cf_ticks _) (e_V rfl (.inl rfl) rfl rfl)) (a_cons (e_fld (Z.cf_hears _) (e_V rfl (.inl rfl) rfl rfl)) (a_cons (e_fld (Z.cf_gives _) (e_V rfl (.inl rfl) rfl rfl)) (a_cons (e_fld (Z.cf_crashes _) (e_V rfl (.inl rfl) rfl rfl)) a_nil)))))))))))⟩
theorem met_Receiver_tables (Z : Fx K mg base T0) : Met P w K mg base (mkW SS Cn K T0 none) 1 1 83 "tables" 1 F_Receiver_tables := by
  obtain ⟨fd, F, hF⟩ := fn_Receiver_tables (P := P) (w := w) Z
  exact ⟨⟨_, fd, ["self"], Z.me_Receiver_tables.1, Z.me_Receiver_tables.2, (F.bindsN (ps := ["self"]) fun _ _ _ _ _ _ us hl => match us, hl with | [_], _ => rfl), hF⟩, rfl⟩
theorem fn_Receiver___eq__ (Z : Fx K mg base T0) : ∃ fd, FunD K "__eq__" "Receiver.__eq__" (defArgs (inClass (top 18) 2)) (defBody (inClass (top 18) 2)) (defScope (inClass (top 18) 2)) [] [] (He.ma K (He.ga K "Receiver") "__eq__") fd ∧ FnOk P w K mg base C8.CX0 2 (He.ma K (He.ga K "Receiver") "__eq__") fd ["self", "other"] (spF (mkW SS Cn K T0 none) 2 F_Receiver___eq__) := by
  obtain ⟨fd, F⟩ := Z.d_Receiver___eq__
  exact ⟨fd, F, (fn_okW (k := 1) (N := ["self", "other"]) (ps := ["self", "other"]) F (by decide +kernel) rfl rfl fun cdv A outer s H E hr hC => (ss_one (s_ret (e_and (e_is (Z.kf_Receiver _) (pe_glob (v := .ref (He.ga K "Receiver")) rfl Z.g_Receiver rfl rfl) (.own _) rfl Z.b_isinstance (e_V rfl (.inl rfl) rfl rfl)) (e_one (e_cmp (s_eq (u64 hr)) (e_meth0 (pl := _) (met_Receiver_tables Z) (hr.mono (by decide)) (e_V rfl (.inl rfl) rfl rfl) rfl) (e_meth0 (pl := _) (met_Receiver_tables Z) (hr.mono (by decide)) (e_V rfl (.inl rfl) rfl rfl) rfl)))))))⟩
theorem eqm_Receiver (Z : Fx K mg base T0) : EqM P w K mg base (mkW SS Cn K T0 none) 2 1 F_Receiver___eq__ := by
  obtain ⟨fd, F, hF⟩ := fn_Receiver___eq__ (P := P) (w := w) Z
  exact ⟨⟨_, fd, ["self", "other"], Z.eq_Receiver.1, Z.eq_Receiver.2, (F.bindsN (ps := ["self", "other"]) fun _ _ _ _ _ _ us hl => match us, hl with | [_, _], _ => rfl), hF⟩⟩
theorem fn_Pair___eq__ (Z : Fx K mg base T0) : ∃ fd, FunD K "__eq__" "Pair.__eq__" (defArgs (inClass (top 19) 1)) (defBody (inClass (top 19) 1)) (defScope (inClass (top 19) 1)) [] [] (He.ma K (He.ga K "Pair") "__eq__") fd ∧ FnOk P w K mg base C8.CX0 3 (He.ma K (He.ga K "Pair") "__eq__") fd ["self", "other"] (spF (mkW SS Cn K T0 none) 2 F_Pair___eq__) := by
  obtain ⟨fd, F⟩ := Z.d_Pair___eq__
  exact ⟨fd, F, (fn_okW (k := 2) (N := ["self", "other"]) (ps := ["self", "other"]) F (by decide +kernel) rfl rfl fun cdv A outer s H E hr hC => (ss_cons (s_if (t_not (t_B (fun _ => rfl) (e_is (Z.kf_Pair _) (pe_glob (v := .ref (He.ga K "Pair")) rfl Z.g_Pair rfl rfl) (.own _) rfl Z.b_isinstance (e_V rfl (.inl rfl) rfl rfl)))) (ss_one (s_ret e_bool)) ss_nil) (ss_one (s_ret (e_and (e_cmp (s_eqI (eqm_Sender Z) (hr.mono (by decide))) (e_fld (Z.cf_sender _) (e_V rfl (.inl rfl) rfl rfl)) (e_fld (Z.cf_sender _) (e_V rfl (.inl rfl) rfl rfl))) (e_one (e_cmp (s_eqI (eqm_Receiver Z) (hr.mono (by decide))) (e_fld (Z.cf_receiver _) (e_V rfl (.inl rfl) rfl rfl)) (e_fld (Z.cf_receiver _) (e_V rfl (.inl rfl) rfl rfl)))))))))⟩
theorem nei_Pair (Z : Fx K mg base T0) : ∃ fd ps, L2.Binds K fd ps [] ∧ FnOk P w K mg base C8.CX0 3 (He.ma K (He.ga K "Pair") "__eq__") fd ps (spF (mkW SS Cn K T0 none) 2 F_Pair___eq__) := by
  obtain ⟨fd, F, hF⟩ := fn_Pair___eq__ (P := P) (w := w) Z
  exact ⟨fd, ["self", "other"], (F.bindsN (ps := ["self", "other"]) fun _ _ _ _ _ _ us hl => match us, hl with | [_, _], _ => rfl), hF⟩
theorem eqm_Pair (Z : Fx K mg base T0) : EqM P w K mg base (mkW SS Cn K T0 none) 3 2 F_Pair___eq__ := by
  obtain ⟨fd, F, hF⟩ := fn_Pair___eq__ (P := P) (w := w) Z
  exact ⟨⟨_, fd, ["self", "other"], Z.eq_Pair.1, Z.eq_Pair.2, (F.bindsN (ps := ["self", "other"]) fun _ _ _ _ _ _ us hl => match us, hl with | [_, _], _ => rfl), hF⟩⟩
theorem fn_require_pair (Z : Fx K mg base T0) : ∃ fd, FunD K "require_pair" "require_pair" (defArgs (top 20)) (defBody (top 20)) (defScope (top 20)) [] [] (He.ga K "require_pair") fd ∧ FnOk P w K mg base C8.CX0 1 (He.ga K "require_pair") fd ["thing"] (spF (mkW SS Cn K T0 none) 1 F_require_pair) := by
  obtain ⟨fd, F⟩ := Z.d_require_pair
  exact ⟨fd, F, (fn_okW (k := 0) (N := ["thing"]) (ps := ["thing"]) F (by decide +kernel) rfl rfl fun cdv A outer s H E hr hC => (ss_one (s_if (t_not (t_B (fun _ => rfl) (e_is (Z.kf_Pair _) (pe_glob (v := .ref (He.ga K "Pair")) rfl Z.g_Pair rfl rfl) (.own _) rfl Z.b_isinstance (e_V rfl (.inl rfl) rfl rfl)))) (ss_one s_raise) ss_nil)))⟩
theorem ok_require_pair (Z : Fx K mg base T0) : Def P w K mg base (mkW SS Cn K T0 none) 1 "require_pair" 1 F_require_pair := by
  obtain ⟨fd, F, hF⟩ := fn_require_pair (P := P) (w := w) Z
  exact ⟨⟨_, fd, ["thing"], Z.g_require_pair, F.kp, (F.bindsN (ps := ["thing"]) fun _ _ _ _ _ _ us hl => match us, hl with | [_], _ => rfl), hF⟩, rfl⟩
theorem fn_forgets (Z : Fx K mg base T0) : ∃ fd, FunD K "forgets" "forgets" (defArgs (top 21)) (defBody (top 21)) (defScope (top 21)) [] [] (He.ga K "forgets") fd ∧ FnOk P w K mg base C8.CX0 1 (He.ga K "forgets") fd ["pair", "program"] (spF (mkW SS Cn K T0 none) 2 F_forgets) := by
  obtain ⟨fd, F⟩ := Z.d_forgets
  exact ⟨fd, F, (fn_okW (k := 0) (N := ["pair", "program", "crashes", "state"]) (ps := ["pair", "program"]) F (by decide +kernel) rfl rfl fun cdv A outer s H E hr hC => (ss_cons (s_set (i := 2) rfl (.inl rfl) (e_if (t_cmp (s_eq (u64 hr)) (e_V rfl (.inl rfl) rfl rfl) (e_str rfl)) (e_fld (Z.cf_crashes _) (e_fld (Z.cf_sender _) (e_V rfl (.inl rfl) rfl rfl))) (e_fld (Z.cf_crashes _) (e_fld (Z.cf_receiver _) (e_V rfl (.inl rfl) rfl rfl))))) (ss_one (s_ret (e_all rfl Z.b_all (e_comp (own := [("state", 3)]) rfl (i_E (e_V rfl (.inl rfl) rfl rfl)) rfl (fun _ _ _ _ _ => (g_V (i := 3) rfl (.inl rfl))) (fun _ _ _ _ _ => ts_nil) (fun _ _ _ _ _ => (e_cmp (s_eq (u64 hr)) (e_V rfl (.inl rfl) rfl rfl) e_int)) (by decide)))))))⟩
theorem ok_forgets (Z : Fx K mg base T0) : Def P w K mg base (mkW SS Cn K T0 none) 1 "forgets" 2 F_forgets := by
  obtain ⟨fd, F, hF⟩ := fn_forgets (P := P) (w := w) Z
  exact ⟨⟨_, fd, ["pair", "program"], Z.g_forgets, F.kp, (F.bindsN (ps := ["pair", "program"]) fun _ _ _ _ _ _ us hl => match us, hl with | [_, _], _ => rfl), hF⟩, rfl⟩
theorem fn_keeps_nothing (Z : Fx K mg base T0) : ∃ fd, FunD K "keeps_nothing" "keeps_nothing" (defArgs (top 22)) (defBody (top 22)) (defScope (top 22)) [] [] (He.ga K "keeps_nothing") fd ∧ FnOk P w K mg base C8.CX0 2 (He.ga K "keeps_nothing") fd ["pair", "program"] (spF (mkW SS Cn K T0 none) 2 F_keeps_nothing) := by
  obtain ⟨fd, F⟩ := Z.d_keeps_nothing
  exact ⟨fd, F, (fn_okW (k := 1) (N := ["pair", "program"]) (ps := ["pair", "program"]) F (by decide +kernel) rfl rfl fun cdv A outer s H E hr hC => (ss_cons (s_exp (e_call (ok_require_pair Z) (hr.mono (by decide)) rfl (a_cons (e_V rfl (.inl rfl) rfl rfl) a_nil) (ar_cons ar_nil))) (ss_cons (s_if (t_w (w_or (t_not (t_B (fun _ => rfl) (e_is (Z.kf_str _) (pe_bt rfl Z.b_str bb_str (by decide) rfl) (.ty _) rfl Z.b_isinstance (e_V rfl (.inl rfl) rfl rfl)))) (w_or1 (t_cmp (s_notIn (u65 hr)) (e_V rfl (.inl rfl) rfl rfl) (e_tup (a_cons (e_str rfl) (a_cons (e_str rfl) a_nil))))))) (ss_one s_raise) ss_nil) (ss_one (s_ret (e_call (ok_forgets Z) (hr.mono (by decide)) rfl (a_cons (e_V rfl (.inl rfl) rfl rfl) (a_cons (e_V rfl (.inl rfl) rfl rfl) a_nil)) (ar_cons (ar_cons ar_nil))))))))⟩
theorem ok_keeps_nothing (Z : Fx K mg base T0) : Def P w K mg base (mkW SS Cn K T0 none) 2 "keeps_nothing" 2 F_keeps_nothing := by
  obtain ⟨fd, F, hF⟩ := fn_keeps_nothing (P := P) (w := w) Z
  exact ⟨⟨_, fd, ["pair", "program"], Z.g_keeps_nothing, F.kp, (F.bindsN (ps := ["pair", "program"]) fun _ _ _ _ _ _ us hl => match us, hl with | [_, _], _ => rfl), hF⟩, rfl⟩
theorem kw_keeps_nothing_0_program_pair (Z : Fx K mg base T0) : DefK P w K mg base (mkW SS Cn K T0 none) 2 "keeps_nothing" 2 F_keeps_nothing 0 ["program", "pair"] [1, 0] := by
  obtain ⟨fd, F, hF⟩ := fn_keeps_nothing (P := P) (w := w) Z
  exact ⟨⟨_, fd, ["pair", "program"], Z.g_keeps_nothing, F.kp, (kb_of (is := [1, 0]) F fun _ _ _ _ _ _ us ws h1 h2 => match us, h1, ws, h2 with | [], _, [_, _], _ => rfl), hF⟩, rfl⟩
theorem fn__law_purse (Z : Fx K mg base T0) : ∃ fd, FunD K "_law_purse" "_law_purse" (defArgs (top 25)) (defBody (top 25)) (defScope (top 25)) [] [] (He.ga K "_law_purse") fd ∧ FnOk P w K mg base C8.CX0 1 (He.ga K "_law_purse") fd ["cells", "at"] (spF (mkW SS Cn K T0 none) 2 F__law_purse) := by
  obtain ⟨fd, F⟩ := Z.d__law_purse
  exact ⟨fd, F, (fn_okW (k := 0) (N := ["cells", "at", "cell"]) (ps := ["cells", "at"]) F (by decide +kernel) rfl rfl fun cdv A outer s H E hr hC => (ss_cons (s_set (i := 2) rfl (.inl rfl) e_int) (ss_cons (s_if (t_cmp s_lt (e_V rfl (.inl rfl) rfl rfl) (e_len rfl Z.b_len (e_V rfl (.inl rfl) rfl rfl))) (ss_one (s_set (i := 2) rfl (.inl rfl) (e_idx (e_V rfl (.inl rfl) rfl rfl) (e_V rfl (.inl rfl) rfl rfl) (fun _ _ => rfl)))) ss_nil) (ss_one (s_ret (e_lst (a_cons (e_bin s_mod (e_intF rfl Z.b_int (e_max2 rfl Z.b_max (e_bin s_sub (e_V rfl (.inl rfl) rfl rfl) (e_bin s_pow e_int e_int)) e_int)) (e_bin s_pow (e_bin s_pow e_int e_int) e_int)) (a_cons (e_bin s_mod (e_intF rfl Z.b_int (e_V rfl (.inl rfl) rfl rfl)) e_int) (a_cons (e_bin s_mul e_int (e_V rfl (.inl rfl) rfl rfl)) a_nil)))))))))⟩
theorem ok__law_purse (Z : Fx K mg base T0) : Def P w K mg base (mkW SS Cn K T0 none) 1 "_law_purse" 2 F__law_purse := by
  obtain ⟨fd, F, hF⟩ := fn__law_purse (P := P) (w := w) Z
  exact ⟨⟨_, fd, ["cells", "at"], Z.g__law_purse, F.kp, (F.bindsN (ps := ["cells", "at"]) fun _ _ _ _ _ _ us hl => match us, hl with | [_, _], _ => rfl), hF⟩, rfl⟩
theorem fn__law_turns (Z : Fx K mg base T0) : ∃ fd, FunD K "_law_turns" "_law_turns" (defArgs (top 33)) (defBody (top 33)) (defScope (top 33)) [] [] (He.ga K "_law_turns") fd ∧ FnOk P w K mg base C8.CX0 1 (He.ga K "_law_turns") fd ["is_kept"] (spF (mkW SS Cn K T0 none) 1 F__law_turns) := by
  obtain ⟨fd, F⟩ := Z.d__law_turns
  exact ⟨fd, F, (fn_okW (k := 0) (N := ["is_kept", "speaker", "hearer", "falls"]) (ps := ["is_kept"]) F (by decide +kernel) rfl rfl fun cdv A outer s H E hr hC => (ss_cons (s_set (i := 1) rfl (.inl rfl) (e_tup (a_cons (e_tup (a_cons e_non (a_cons e_int (a_cons e_non (a_cons e_int a_nil))))) (a_cons (e_tup (a_cons e_int (a_cons e_int (a_cons e_int (a_cons e_int a_nil))))) (a_cons (e_tup (a_cons (e_tup (a_cons e_int (a_cons e_int a_nil))) (a_cons (e_tup (a_cons e_int (a_cons e_int a_nil))) (a_cons (e_tup (a_cons e_int (a_cons e_int a_nil))) (a_cons (e_tup (a_cons e_int (a_cons e_int a_nil))) a_nil))))) (a_cons (e_tup (a_cons (e_tup (a_cons e_int a_nil)) (a_cons e_non (a_cons (e_tup (a_cons e_int a_nil)) (a_cons e_non a_nil))))) a_nil)))))) (ss_cons (s_set (i := 2) rfl (.inl rfl) (e_tup (a_cons (e_tup (a_cons e_int (a_cons e_int a_nil))) (a_cons (e_tup (a_cons e_int (a_cons e_int a_nil))) (a_cons (e_tup (a_cons (e_tup (a_cons e_int (a_cons e_int a_nil))) (a_cons (e_tup (a_cons e_int (a_cons e_int a_nil))) a_nil))) (a_cons (e_tup (a_cons (e_tup (a_cons e_int (a_cons e_non a_nil))) (a_cons (e_tup (a_cons e_non (a_cons e_int a_nil))) a_nil))) a_nil)))))) (ss_cons (s_set (i := 3) rfl (.inl rfl) (e_idx (e_lst (a_cons (e_tup (a_cons (e_bin s_mul (e_tup (a_cons e_int a_nil)) e_int) (a_cons (e_bin s_mul (e_tup (a_cons e_int a_nil)) e_int) a_nil))) (a_cons (e_tup (a_cons (e_tup (a_cons e_int (a_cons e_int (a_cons e_int (a_cons e_int a_nil))))) (a_cons (e_tup (a_cons e_int (a_cons e_int a_nil))) a_nil))) a_nil))) (e_intF rfl Z.b_int (e_V rfl (.inl rfl) rfl rfl)) (fun _ _ => rfl))) (ss_one (s_ret (e_tup (a_cons (e_tup (a_cons e_int (a_cons e_int (a_cons e_int a_nil)))) (a_cons (e_bin s_add (e_V rfl (.inl rfl) rfl rfl) (e_tup (a_cons (e_idx (e_V rfl (.inl rfl) rfl rfl) e_int (fun _ _ => rfl)) a_nil))) (a_cons (e_bin s_add (e_V rfl (.inl rfl) rfl rfl) (e_tup (a_cons (e_idx (e_V rfl (.inl rfl) rfl rfl) e_int (fun _ _ => rfl)) a_nil))) a_nil))))))))))⟩
theorem ok__law_turns (Z : Fx K mg base T0) : Def P w K mg base (mkW SS Cn K T0 none) 1 "_law_turns" 1 F__law_turns := by
  obtain ⟨fd, F, hF⟩ := fn__law_turns (P := P) (w := w) Z
  exact ⟨⟨_, fd, ["is_kept"], Z.g__law_turns, F.kp, (F.bindsN (ps := ["is_kept"]) fun _ _ _ _ _ _ us hl => match us, hl with | [_], _ => rfl), hF⟩, rfl⟩
theorem fn__law_repeats (Z : Fx K mg base T0) : ∃ fd, FunD K "_law_repeats" "_law_repeats" (defArgs (top 35)) (defBody (top 35)) (defScope (top 35)) [] [] (He.ga K "_law_repeats") fd ∧ FnOk P w K mg base C8.CX0 1 (He.ga K "_law_repeats") fd ["many"] (spF (mkW SS Cn K T0 none) 1 F__law_repeats) := by
  obtain ⟨fd, F⟩ := Z.d__law_repeats
  exact ⟨fd, F, (fn_okW (k := 0) (N := ["many", "speaker"]) (ps := ["many"]) F (by decide +kernel) rfl rfl fun cdv A outer s H E hr hC => (ss_cons (s_set (i := 1) rfl (.inl rfl) (e_tup (a_cons (e_bin s_add (e_tup (a_cons e_non a_nil)) (e_tupR rfl Z.b_tuple (g_1 rfl Z.b_range (e_V rfl (.inl rfl) rfl rfl)))) (a_cons (e_tupR rfl Z.b_tuple (g_1 rfl Z.b_range (e_bin s_add (e_V rfl (.inl rfl) rfl rfl) e_int))) (a_cons (e_bin s_mul (e_tup (a_cons (e_tup (a_cons e_int a_nil)) a_nil)) (e_bin s_add (e_V rfl (.inl rfl) rfl rfl) e_int)) a_nil))))) (ss_cons (s_set (i := 1) rfl (.inl rfl) (e_bin s_add (e_V rfl (.inl rfl) rfl rfl) (e_tup (a_cons (e_bin s_add (e_tup (a_cons (e_tupR rfl Z.b_tuple (g_2 rfl Z.b_range e_int (e_bin s_add (e_V rfl (.inl rfl) rfl rfl) e_int))) a_nil)) (e_bin s_mul (e_tup (a_cons e_non a_nil)) (e_V rfl (.inl rfl) rfl rfl))) (a_cons (e_bin s_mul (e_tup (a_cons e_int a_nil)) (e_bin s_add (e_V rfl (.inl rfl) rfl rfl) e_int)) a_nil))))) (ss_one (s_ret (e_tup (a_cons (e_tup (a_cons (e_V rfl (.inl rfl) rfl rfl) (a_cons (e_V rfl (.inl rfl) rfl rfl) (a_cons e_int a_nil)))) (a_cons (e_V rfl (.inl rfl) rfl rfl) (a_cons (e_tup (a_cons (e_tup (a_cons e_int a_nil)) (a_cons (e_tup (a_cons e_int a_nil)) (a_cons (e_tup (a_cons (e_bin s_mul (e_tup (a_cons e_int a_nil)) (e_V rfl (.inl rfl) rfl rfl)) a_nil)) (a_cons (e_tup (a_cons (e_tupR rfl Z.b_tuple (g_1 rfl Z.b_range (e_V rfl (.inl rfl) rfl rfl))) a_nil)) (a_cons (e_tup (a_cons e_int a_nil)) a_nil)))))) a_nil)))))))))⟩
theorem ok__law_repeats (Z : Fx K mg base T0) : Def P w K mg base (mkW SS Cn K T0 none) 1 "_law_repeats" 1 F__law_repeats := by
  obtain ⟨fd, F, hF⟩ := fn__law_repeats (P := P) (w := w) Z
  exact ⟨⟨_, fd, ["many"], Z.g__law_repeats, F.kp, (F.bindsN (ps := ["many"]) fun _ _ _ _ _ _ us hl => match us, hl with | [_], _ => rfl), hF⟩, rfl⟩
theorem fn_checked_takes (Z : Fx K mg base T0) : ∃ fd, FunD K "checked_takes" "checked_takes" (defArgs (top 15)) (defBody (top 15)) (defScope (top 15)) [] [] (He.ga K "checked_takes") fd ∧ FnOk P w K mg base C8.CX0 5 (He.ga K "checked_takes") fd ["thing", "values", "states"] (spF (mkW SS Cn K T0 none) 3 F_checked_takes) := by
  obtain ⟨fd, c, Pt, F, hcd, TB, hmT, hu⟩ := Z.d_checked_takes
  exact ⟨fd, F, (fn_okCW (k := 4) (N := ["thing", "values", "states"]) (ps := ["thing", "values", "states"]) F hcd (by decide +kernel) rfl rfl fun A outer s H E hr hC => (ss_cons (s_if (t_w (w_and (t_B (fun _ => rfl) (e_isT (Z.kf_lot _) (pe_bt rfl Z.b_list bb_list (by decide) rfl) (.ty _) (pe_bt rfl Z.b_tuple bb_tuple (by decide) rfl) (.ty _) rfl Z.b_isinstance (e_V rfl (.inl rfl) rfl rfl))) (w_and (t_cmp (s_eq (u64 hr)) (e_len rfl Z.b_len (e_V rfl (.inl rfl) rfl rfl)) (e_V rfl (.inr (.inl rfl)) rfl rfl)) (w_and1 (t_cmp s_isN (e_idx (e_V rfl (.inl rfl) rfl rfl) e_int (fun _ _ => rfl)) e_non))))) (ss_one s_raise) ss_nil) (ss_one (s_ret (e_callL (kl := 2) (fr := ["values", "states"]) (Nl := ["item", "values", "states"]) (par := "item") rfl (ok_checked Z) (by decide) (hr.mono (by decide)) rfl (.cons (e_str rfl) (.cons (e_V rfl (.inl rfl) rfl rfl) (.cons (e_V rfl (.inr (.inl rfl)) rfl rfl) .nil rfl) rfl) rfl) (ar_cons (ar_cons (ar_cons ar_nil))) TB rfl hmT hu rfl rfl rfl (fun c' => LBody.mk' rfl rfl (fun _ _ _ => rfl) fun f A outer s H E hr hC => (e_or (e_cmp s_isN (e_V rfl (.inl rfl) rfl rfl) e_non) (e_one (e_call (ok_is_row Z) (hr.mono (by decide)) rfl (a_cons (e_V rfl (.inl rfl) rfl rfl) (a_cons (e_V rfl (.inr (.inr rfl)) rfl rfl) (a_cons (e_V rfl (.inr (.inr rfl)) rfl rfl) a_nil))) (ar_cons (ar_cons (ar_cons ar_nil))))))))))))⟩
theorem ok_checked_takes (Z : Fx K mg base T0) : Def P w K mg base (mkW SS Cn K T0 none) 5 "checked_takes" 3 F_checked_takes := by
  obtain ⟨fd, F, hF⟩ := fn_checked_takes (P := P) (w := w) Z
  exact ⟨⟨_, fd, ["thing", "values", "states"], Z.g_checked_takes, F.kp, (F.bindsN (ps := ["thing", "values", "states"]) fun _ _ _ _ _ _ us hl => match us, hl with | [_, _, _], _ => rfl), hF⟩, rfl⟩
theorem fn_Sender___init__ (Z : Fx K mg base T0) : ∃ fd, FunD K "__init__" "Sender.__init__" (defArgs (inClass (top 17) 0)) (defBody (inClass (top 17) 0)) (defScope (inClass (top 17) 0)) [] [] (He.ma K (He.ga K "Sender") "__init__") fd ∧ FnOk P w K mg base C8.CX0 6 (He.ma K (He.ga K "Sender") "__init__") fd ["self", "value_count", "forward", "backward", "sends", "ticks", "hears", "takes", "crashes"] (spF (mkW SS Cn K T0 none) 9 F_Sender___init__) := by
  obtain ⟨fd, F⟩ := Z.d_Sender___init__
  exact ⟨fd, F, (fn_okW (k := 5) (N := ["self", "value_count", "forward", "backward", "sends", "ticks", "hears", "takes", "crashes", "number", "many"]) (ps := ["self", "value_count", "forward", "backward", "sends", "ticks", "hears", "takes", "crashes"]) F (by decide +kernel) rfl rfl fun cdv A outer s H E hr hC => (ss_cons (s_for (i_E (e_tup (a_cons (e_V rfl (.inl rfl) rfl rfl) (a_cons (e_V rfl (.inl rfl) rfl rfl) (a_cons (e_V rfl (.inl rfl) rfl rfl) a_nil))))) (g_V (i := 9) rfl (.inl rfl)) (ss_one (s_exp (e_call (ok_require_positive Z) (hr.mono (by decide)) rfl (a_cons (e_V rfl (.inl rfl) rfl rfl) a_nil) (ar_cons ar_nil))))) (ss_cons (s_fld (Z.cf_value_count _) (e_V rfl (.inl rfl) rfl rfl) (e_V rfl (.inl rfl) rfl rfl)) (ss_cons (s_fld (Z.cf_forward _) (e_V rfl (.inl rfl) rfl rfl) (e_V rfl (.inl rfl) rfl rfl)) (ss_cons (s_fld (Z.cf_backward _) (e_V rfl (.inl rfl) rfl rfl) (e_V rfl (.inl rfl) rfl rfl)) (ss_cons (s_fld (Z.cf_sends _) (e_V rfl (.inl rfl) rfl rfl) (e_call (ok_checked_sends Z) (hr.mono (by decide)) rfl (a_cons (e_V rfl (.inl rfl) rfl rfl) (a_cons (e_V rfl (.inl rfl) rfl rfl) a_nil)) (ar_cons (ar_cons ar_nil)))) (ss_cons (s_set (i := 10) rfl (.inl rfl) (e_len rfl Z.b_len (e_fld (Z.cf_sends _) (e_V rfl (.inl rfl) rfl rfl)))) (ss_cons (s_fld (Z.cf_ticks _) (e_V rfl (.inl rfl) rfl rfl) (e_call (ok_checked_states Z) (hr.mono (by decide)) rfl (a_cons (e_str rfl) (a_cons (e_V rfl (.inl rfl) rfl rfl) (a_cons (e_V rfl (.inl rfl) rfl rfl) a_nil))) (ar_cons (ar_cons (ar_cons ar_nil))))) (ss_cons (s_fld (Z.cf_hears _) (e_V rfl (.inl rfl) rfl rfl) (e_call (ok_checked_hears Z) (hr.mono (by decide)) rfl (a_cons (e_V rfl (.inl rfl) rfl rfl) (a_cons (e_V rfl (.inl rfl) rfl rfl) (a_cons (e_V rfl (.inl rfl) rfl rfl) a_nil))) (ar_cons (ar_cons (ar_cons ar_nil))))) (ss_cons (s_fld (Z.cf_takes _) (e_V rfl (.inl rfl) rfl rfl) (e_call (ok_checked_takes Z) (hr.mono (by decide)) rfl (a_cons (e_V rfl (.inl rfl) rfl rfl) (a_cons (e_V rfl (.inl rfl) rfl rfl) (a_cons (e_V rfl (.inl rfl) rfl rfl) a_nil))) (ar_cons (ar_cons (ar_cons ar_nil))))) (ss_one (s_fld (Z.cf_crashes _) (e_V rfl (.inl rfl) rfl rfl) (e_call (ok_checked_states Z) (hr.mono (by decide)) rfl (a_cons (e_str rfl) (a_cons (e_V rfl (.inl rfl) rfl rfl) (a_cons (e_V rfl (.inl rfl) rfl rfl) a_nil))) (ar_cons (ar_cons (ar_cons ar_nil))))))))))))))))⟩
theorem kw_Sender___init___0_crashes_takes_hears_ticks_sends_backward_forward_value_count (Z : Fx K mg base T0) : MakK P w K mg base (mkW SS Cn K T0 none) 6 "Sender" 0 9 F_Sender___init__ 0 ["crashes", "takes", "hears", "ticks", "sends", "backward", "forward", "value_count"] [0, 8, 7, 6, 5, 4, 3, 2, 1] := by
  obtain ⟨fd, F, hF⟩ := fn_Sender___init__ (P := P) (w := w) Z
  exact ⟨⟨_, fd, ["self", "value_count", "forward", "backward", "sends", "ticks", "hears", "takes", "crashes"], Z.g_Sender, Z.mk_Sender, (kb_of (is := [0, 8, 7, 6, 5, 4, 3, 2, 1]) F fun _ _ _ _ _ _ us ws h1 h2 => match us, h1, ws, h2 with | [_], _, [_, _, _, _, _, _, _, _], _ => rfl), hF⟩, rfl⟩
theorem kw_Sender___init___3_sends_ticks_hears_takes_crashes (Z : Fx K mg base T0) : MakK P w K mg base (mkW SS Cn K T0 none) 6 "Sender" 0 9 F_Sender___init__ 3 ["sends", "ticks", "hears", "takes", "crashes"] [0, 1, 2, 3, 4, 5, 6, 7, 8] := by
  obtain ⟨fd, F, hF⟩ := fn_Sender___init__ (P := P) (w := w) Z
  exact ⟨⟨_, fd, ["self", "value_count", "forward", "backward", "sends", "ticks", "hears", "takes", "crashes"], Z.g_Sender, Z.mk_Sender, (kb_of (is := [0, 1, 2, 3, 4, 5, 6, 7, 8]) F fun _ _ _ _ _ _ us ws h1 h2 => match us, h1, ws, h2 with | [_, _, _, _], _, [_, _, _, _, _], _ => rfl), hF⟩, rfl⟩
theorem fn__law_made_sender (Z : Fx K mg base T0) : ∃ fd, FunD K "_law_made_sender" "_law_made_sender" (defArgs (top 37)) (defBody (top 37)) (defScope (top 37)) [] [] (He.ga K "_law_made_sender") fd ∧ FnOk P w K mg base C8.CX0 8 (He.ga K "_law_made_sender") fd ["sizes", "one"] (spF (mkW SS Cn K T0 none) 2 F__law_made_sender) := by
  obtain ⟨fd, F⟩ := Z.d__law_made_sender
  exact ⟨fd, F, (fn_okW (k := 7) (N := ["sizes", "one"]) (ps := ["sizes", "one"]) F (by decide +kernel) rfl rfl fun cdv A outer s H E hr hC => (ss_one (s_ret (e_mkK (kw_Sender___init___3_sends_ticks_hears_takes_crashes Z) (hr.mono (by decide)) rfl (a_cons (e_idx (e_V rfl (.inl rfl) rfl rfl) e_int (fun _ _ => rfl)) (a_cons (e_idx (e_V rfl (.inl rfl) rfl rfl) e_int (fun _ _ => rfl)) (a_cons (e_idx (e_V rfl (.inl rfl) rfl rfl) e_int (fun _ _ => rfl)) a_nil))) (ar_cons (ar_cons (ar_cons ar_nil))) (k_cons (e_idx (e_V rfl (.inl rfl) rfl rfl) e_int (fun _ _ => rfl)) (k_cons (e_idx (e_V rfl (.inl rfl) rfl rfl) e_int (fun _ _ => rfl)) (k_cons (e_idx (e_V rfl (.inl rfl) rfl rfl) e_int (fun _ _ => rfl)) (k_cons (e_idx (e_V rfl (.inl rfl) rfl rfl) e_int (fun _ _ => rfl)) (k_cons (e_idx (e_V rfl (.inl rfl) rfl rfl) e_int (fun _ _ => rfl)) k_nil))))) (ar_cons (ar_cons (ar_cons (ar_cons (ar_cons ar_nil))))) rfl (by decide)))))⟩
theorem ok__law_made_sender (Z : Fx K mg base T0) : Def P w K mg base (mkW SS Cn K T0 none) 8 "_law_made_sender" 2 F__law_made_sender := by
  obtain ⟨fd, F, hF⟩ := fn__law_made_sender (P := P) (w := w) Z
  exact ⟨⟨_, fd, ["sizes", "one"], Z.g__law_made_sender, F.kp, (F.bindsN (ps := ["sizes", "one"]) fun _ _ _ _ _ _ us hl => match us, hl with | [_, _], _ => rfl), hF⟩, rfl⟩
theorem fn_Pair___init__ (Z : Fx K mg base T0) : ∃ fd, FunD K "__init__" "Pair.__init__" (defArgs (inClass (top 19) 0)) (defBody (inClass (top 19) 0)) (defScope (inClass (top 19) 0)) [] [] (He.ma K (He.ga K "Pair") "__init__") fd ∧ FnOk P w K mg base C8.CX0 2 (He.ma K (He.ga K "Pair") "__init__") fd ["self", "sender", "receiver"] (spF (mkW SS Cn K T0 none) 3 F_Pair___init__) := by
  obtain ⟨fd, F⟩ := Z.d_Pair___init__
  exact ⟨fd, F, (fn_okW (k := 1) (N := ["self", "sender", "receiver"]) (ps := ["self", "sender", "receiver"]) F (by decide +kernel) rfl rfl fun cdv A outer s H E hr hC => (ss_cons (s_if (t_not (t_B (fun _ => rfl) (e_is (Z.kf_Sender _) (pe_glob (v := .ref (He.ga K "Sender")) rfl Z.g_Sender rfl rfl) (.own _) rfl Z.b_isinstance (e_V rfl (.inl rfl) rfl rfl)))) (ss_one s_raise) ss_nil) (ss_cons (s_if (t_not (t_B (fun _ => rfl) (e_is (Z.kf_Receiver _) (pe_glob (v := .ref (He.ga K "Receiver")) rfl Z.g_Receiver rfl rfl) (.own _) rfl Z.b_isinstance (e_V rfl (.inl rfl) rfl rfl)))) (ss_one s_raise) ss_nil) (ss_cons (s_if (t_cmp (s_ne (u64 hr)) (e_sl (e_meth0 (pl := _) (met_Sender_tables Z) (hr.mono (by decide)) (e_V rfl (.inl rfl) rfl rfl) rfl) o_none (o_some e_int)) (e_sl (e_meth0 (pl := _) (met_Receiver_tables Z) (hr.mono (by decide)) (e_V rfl (.inl rfl) rfl rfl) rfl) o_none (o_some e_int))) (ss_one s_raise) ss_nil) (ss_cons (s_fld (Z.cf_sender _) (e_V rfl (.inl rfl) rfl rfl) (e_V rfl (.inl rfl) rfl rfl)) (ss_one (s_fld (Z.cf_receiver _) (e_V rfl (.inl rfl) rfl rfl) (e_V rfl (.inl rfl) rfl rfl))))))))⟩
theorem mak_Pair (Z : Fx K mg base T0) : Mak P w K mg base (mkW SS Cn K T0 none) 2 "Pair" 2 3 F_Pair___init__ := by
  obtain ⟨fd, F, hF⟩ := fn_Pair___init__ (P := P) (w := w) Z
  exact ⟨⟨_, fd, ["self", "sender", "receiver"], Z.g_Pair, Z.mk_Pair, (F.bindsN (ps := ["self", "sender", "receiver"]) fun _ _ _ _ _ _ us hl => match us, hl with | [_, _, _], _ => rfl), hF⟩, rfl⟩
theorem kw_Pair___init___0_receiver_sender (Z : Fx K mg base T0) : MakK P w K mg base (mkW SS Cn K T0 none) 2 "Pair" 2 3 F_Pair___init__ 0 ["receiver", "sender"] [0, 2, 1] := by
  obtain ⟨fd, F, hF⟩ := fn_Pair___init__ (P := P) (w := w) Z
  exact ⟨⟨_, fd, ["self", "sender", "receiver"], Z.g_Pair, Z.mk_Pair, (kb_of (is := [0, 2, 1]) F fun _ _ _ _ _ _ us ws h1 h2 => match us, h1, ws, h2 with | [_], _, [_, _], _ => rfl), hF⟩, rfl⟩
theorem fn__law_made_receiver (Z : Fx K mg base T0) : ∃ fd, FunD K "_law_made_receiver" "_law_made_receiver" (defArgs (top 38)) (defBody (top 38)) (defScope (top 38)) [] [] (He.ga K "_law_made_receiver") fd ∧ FnOk P w K mg base C8.CX0 8 (He.ga K "_law_made_receiver") fd ["sizes", "one"] (spF (mkW SS Cn K T0 none) 2 F__law_made_receiver) := by
  obtain ⟨fd, F⟩ := Z.d__law_made_receiver
  exact ⟨fd, F, (fn_okW (k := 7) (N := ["sizes", "one", "many", "there", "back"]) (ps := ["sizes", "one"]) F (by decide +kernel) rfl rfl fun cdv A outer s H E hr hC => (ss_cons (s_asg (e_V rfl (.inl rfl) rfl rfl) (g_T (is := [2, 3, 4]) (gs_cons (i := 2) rfl (.inl rfl) (gs_cons (i := 3) rfl (.inl rfl) (gs_cons (i := 4) rfl (.inl rfl) gs_nil))))) (ss_one (s_ret (e_mkK (kw_Receiver___init___3_sends_ticks_hears_gives_crashes Z) (hr.mono (by decide)) rfl (a_cons (e_V rfl (.inl rfl) rfl rfl) (a_cons (e_V rfl (.inl rfl) rfl rfl) (a_cons (e_V rfl (.inl rfl) rfl rfl) a_nil))) (ar_cons (ar_cons (ar_cons ar_nil))) (k_cons (e_idx (e_V rfl (.inl rfl) rfl rfl) e_int (fun _ _ => rfl)) (k_cons (e_idx (e_V rfl (.inl rfl) rfl rfl) e_int (fun _ _ => rfl)) (k_cons (e_idx (e_V rfl (.inl rfl) rfl rfl) e_int (fun _ _ => rfl)) (k_cons (e_idx (e_V rfl (.inl rfl) rfl rfl) e_int (fun _ _ => rfl)) (k_cons (e_idx (e_V rfl (.inl rfl) rfl rfl) e_int (fun _ _ => rfl)) k_nil))))) (ar_cons (ar_cons (ar_cons (ar_cons (ar_cons ar_nil))))) rfl (by decide))))))⟩
theorem ok__law_made_receiver (Z : Fx K mg base T0) : Def P w K mg base (mkW SS Cn K T0 none) 8 "_law_made_receiver" 2 F__law_made_receiver := by
  obtain ⟨fd, F, hF⟩ := fn__law_made_receiver (P := P) (w := w) Z
  exact ⟨⟨_, fd, ["sizes", "one"], Z.g__law_made_receiver, F.kp, (F.bindsN (ps := ["sizes", "one"]) fun _ _ _ _ _ _ us hl => match us, hl with | [_, _], _ => rfl), hF⟩, rfl⟩
theorem fn__law_made (Z : Fx K mg base T0) : ∃ fd, FunD K "_law_made" "_law_made" (defArgs (top 39)) (defBody (top 39)) (defScope (top 39)) [] [] (He.ga K "_law_made") fd ∧ FnOk P w K mg base C8.CX0 9 (He.ga K "_law_made") fd ["raw"] (spF (mkW SS Cn K T0 none) 1 F__law_made) := by
  obtain ⟨fd, F⟩ := Z.d__law_made
  exact ⟨fd, F, (fn_okW (k := 8) (N := ["raw"]) (ps := ["raw"]) F (by decide +kernel) rfl rfl fun cdv A outer s H E hr hC => (ss_one (s_ret (e_mk (mak_Pair Z) (hr.mono (by decide)) rfl (a_cons (e_call (ok__law_made_sender Z) (hr.mono (by decide)) rfl (a_cons (e_idx (e_V rfl (.inl rfl) rfl rfl) e_int (fun _ _ => rfl)) (a_cons (e_idx (e_V rfl (.inl rfl) rfl rfl) e_int (fun _ _ => rfl)) a_nil)) (ar_cons (ar_cons ar_nil))) (a_cons (e_call (ok__law_made_receiver Z) (hr.mono (by decide)) rfl (a_cons (e_idx (e_V rfl (.inl rfl) rfl rfl) e_int (fun _ _ => rfl)) (a_cons (e_idx (e_V rfl (.inl rfl) rfl rfl) e_int (fun _ _ => rfl)) a_nil)) (ar_cons (ar_cons ar_nil))) a_nil)) (ar_cons (ar_cons ar_nil))))))⟩
theorem ok__law_made (Z : Fx K mg base T0) : Def P w K mg base (mkW SS Cn K T0 none) 9 "_law_made" 1 F__law_made := by
  obtain ⟨fd, F, hF⟩ := fn__law_made (P := P) (w := w) Z
  exact ⟨⟨_, fd, ["raw"], Z.g__law_made, F.kp, (F.bindsN (ps := ["raw"]) fun _ _ _ _ _ _ us hl => match us, hl with | [_], _ => rfl), hF⟩, rfl⟩
theorem fn__law_mixed (Z : Fx K mg base T0) : ∃ fd, FunD K "_law_mixed" "_law_mixed" (defArgs (top 24)) (defBody (top 24)) (defScope (top 24)) [] [] (He.ga K "_law_mixed") fd ∧ FnOk P w K mg base C8.CX0 1 (He.ga K "_law_mixed") fd ["cell", "k"] (spF (mkW SS Cn K T0 none) 2 F__law_mixed) := by
  obtain ⟨fd, F⟩ := Z.d__law_mixed
  exact ⟨fd, F, (fn_okW (k := 0) (N := ["cell", "k", "stirred"]) (ps := ["cell", "k"]) F (by decide +kernel) rfl rfl fun cdv A outer s H E hr hC => (ss_cons (s_set (i := 2) rfl (.inl rfl) (e_bin s_mod (e_intF rfl Z.b_int (e_bin s_add (e_bin s_add (e_bin s_add (e_bin s_mul (e_V rfl (.inl rfl) rfl rfl) e_int) (e_bin s_mul (e_bin s_mul e_int (e_V rfl (.inl rfl) rfl rfl)) (e_V rfl (.inl rfl) rfl rfl))) (e_bin s_mul e_int (e_V rfl (.inl rfl) rfl rfl))) e_int)) e_int)) (ss_one (s_ret (e_bin s_div (e_bin s_mod (e_intF rfl Z.b_int (e_bin s_add (e_bin s_add (e_bin s_mul (e_V rfl (.inl rfl) rfl rfl) (e_V rfl (.inl rfl) rfl rfl)) (e_bin s_mul e_int (e_V rfl (.inl rfl) rfl rfl))) e_int)) e_int) e_int)))))⟩
theorem ok__law_mixed (Z : Fx K mg base T0) : Def P w K mg base (mkW SS Cn K T0 none) 1 "_law_mixed" 2 F__law_mixed := by
  obtain ⟨fd, F, hF⟩ := fn__law_mixed (P := P) (w := w) Z
  exact ⟨⟨_, fd, ["cell", "k"], Z.g__law_mixed, F.kp, (F.bindsN (ps := ["cell", "k"]) fun _ _ _ _ _ _ us hl => match us, hl with | [_, _], _ => rfl), hF⟩, rfl⟩
theorem fn__law_draw (Z : Fx K mg base T0) : ∃ fd, FunD K "_law_draw" "_law_draw" (defArgs (top 26)) (defBody (top 26)) (defScope (top 26)) [] [] (He.ga K "_law_draw") fd ∧ FnOk P w K mg base C8.CX0 2 (He.ga K "_law_draw") fd ["purse", "out_of"] (spF (mkW SS Cn K T0 none) 2 F__law_draw) := by
  obtain ⟨fd, F⟩ := Z.d__law_draw
  exact ⟨fd, F, (fn_okW (k := 1) (N := ["purse", "out_of", "drawn"]) (ps := ["purse", "out_of"]) F (by decide +kernel) rfl rfl fun cdv A outer s H E hr hC => (ss_cons (s_if (t_cmp s_gt (e_idx (e_V rfl (.inl rfl) rfl rfl) e_int (fun _ _ => rfl)) e_int) (ss_cons (s_set (i := 2) rfl (.inl rfl) (e_bin s_mod (e_intF rfl Z.b_int (e_idx (e_V rfl (.inl rfl) rfl rfl) e_int (fun _ _ => rfl))) (e_V rfl (.inl rfl) rfl rfl))) (ss_cons (s_put (e_V rfl (.inl rfl) rfl rfl) e_int (e_bin s_div (e_idx (e_V rfl (.inl rfl) rfl rfl) e_int (fun _ _ => rfl)) (e_V rfl (.inl rfl) rfl rfl))) (ss_one (s_ret (e_V rfl (.inl rfl) rfl rfl))))) ss_nil) (ss_cons (s_put (e_V rfl (.inl rfl) rfl rfl) e_int (e_bin s_add (e_idx (e_V rfl (.inl rfl) rfl rfl) e_int (fun _ _ => rfl)) e_int)) (ss_one (s_ret (e_bin s_mod (e_intF rfl Z.b_int (e_call (ok__law_mixed Z) (hr.mono (by decide)) rfl (a_cons (e_idx (e_V rfl (.inl rfl) rfl rfl) e_int (fun _ _ => rfl)) (a_cons (e_idx (e_V rfl (.inl rfl) rfl rfl) e_int (fun _ _ => rfl)) a_nil)) (ar_cons (ar_cons ar_nil)))) (e_V rfl (.inl rfl) rfl rfl)))))))⟩
theorem ok__law_draw (Z : Fx K mg base T0) : Def P w K mg base (mkW SS Cn K T0 none) 2 "_law_draw" 2 F__law_draw := by
  obtain ⟨fd, F, hF⟩ := fn__law_draw (P := P) (w := w) Z
  exact ⟨⟨_, fd, ["purse", "out_of"], Z.g__law_draw, F.kp, (F.bindsN (ps := ["purse", "out_of"]) fun _ _ _ _ _ _ us hl => match us, hl with | [_, _], _ => rfl), hF⟩, rfl⟩
theorem fn__law_row (Z : Fx K mg base T0) : ∃ fd, FunD K "_law_row" "_law_row" (defArgs (top 28)) (defBody (top 28)) (defScope (top 28)) [] [] (He.ga K "_law_row") fd ∧ FnOk P w K mg base C8.CX0 3 (He.ga K "_law_row") fd ["purse", "many", "most"] (spF (mkW SS Cn K T0 none) 3 F__law_row) := by
  obtain ⟨fd, F⟩ := Z.d__law_row
  exact ⟨fd, F, (fn_okW (k := 2) (N := ["purse", "many", "most", "lap"]) (ps := ["purse", "many", "most"]) F (by decide +kernel) rfl rfl fun cdv A outer s H E hr hC => (ss_one (s_ret (e_tupF rfl Z.b_tuple (e_comp (own := [("lap", 3)]) rfl (i_R rfl Z.b_range (e_V rfl (.inl rfl) rfl rfl)) rfl (fun _ _ _ _ _ => (g_V (i := 3) rfl (.inl rfl))) (fun _ _ _ _ _ => ts_nil) (fun _ _ _ _ _ => (e_call (ok__law_draw Z) (hr.mono (by decide)) rfl (a_cons (e_V rfl (.inr (.inl rfl)) rfl rfl) (a_cons (e_V rfl (.inr (.inl rfl)) rfl rfl) a_nil)) (ar_cons (ar_cons ar_nil)))) (by decide))))))⟩
theorem ok__law_row (Z : Fx K mg base T0) : Def P w K mg base (mkW SS Cn K T0 none) 3 "_law_row" 3 F__law_row := by
  obtain ⟨fd, F, hF⟩ := fn__law_row (P := P) (w := w) Z
  exact ⟨⟨_, fd, ["purse", "many", "most"], Z.g__law_row, F.kp, (F.bindsN (ps := ["purse", "many", "most"]) fun _ _ _ _ _ _ us hl => match us, hl with | [_, _, _], _ => rfl), hF⟩, rfl⟩
theorem fn__law_falls (Z : Fx K mg base T0) : ∃ fd, FunD K "_law_falls" "_law_falls" (defArgs (top 29)) (defBody (top 29)) (defScope (top 29)) [] [] (He.ga K "_law_falls") fd ∧ FnOk P w K mg base C8.CX0 4 (He.ga K "_law_falls") fd ["purse", "many"] (spF (mkW SS Cn K T0 none) 2 F__law_falls) := by
  obtain ⟨fd, F⟩ := Z.d__law_falls
  exact ⟨fd, F, (fn_okW (k := 3) (N := ["purse", "many", "pace"]) (ps := ["purse", "many"]) F (by decide +kernel) rfl rfl fun cdv A outer s H E hr hC => (ss_cons (s_set (i := 2) rfl (.inl rfl) (e_call (ok__law_draw Z) (hr.mono (by decide)) rfl (a_cons (e_V rfl (.inl rfl) rfl rfl) (a_cons e_int a_nil)) (ar_cons (ar_cons ar_nil)))) (ss_one (s_ret (e_if (t_cmp (s_eq (u64 hr)) (e_V rfl (.inl rfl) rfl rfl) e_int) (e_bin s_mul (e_tup (a_cons e_int a_nil)) (e_V rfl (.inl rfl) rfl rfl)) (e_if (t_cmp (s_eq (u64 hr)) (e_V rfl (.inl rfl) rfl rfl) e_int) (e_tupR rfl Z.b_tuple (g_1 rfl Z.b_range (e_V rfl (.inl rfl) rfl rfl))) (e_call (ok__law_row Z) (hr.mono (by decide)) rfl (a_cons (e_V rfl (.inl rfl) rfl rfl) (a_cons (e_V rfl (.inl rfl) rfl rfl) (a_cons (e_V rfl (.inl rfl) rfl rfl) a_nil))) (ar_cons (ar_cons (ar_cons ar_nil))))))))))⟩
theorem ok__law_falls (Z : Fx K mg base T0) : Def P w K mg base (mkW SS Cn K T0 none) 4 "_law_falls" 2 F__law_falls := by
  obtain ⟨fd, F, hF⟩ := fn__law_falls (P := P) (w := w) Z
  exact ⟨⟨_, fd, ["purse", "many"], Z.g__law_falls, F.kp, (F.bindsN (ps := ["purse", "many"]) fun _ _ _ _ _ _ us hl => match us, hl with | [_, _], _ => rfl), hF⟩, rfl⟩
theorem fn__law_letters (Z : Fx K mg base T0) : ∃ fd, FunD K "_law_letters" "_law_letters" (defArgs (top 30)) (defBody (top 30)) (defScope (top 30)) [] [] (He.ga K "_law_letters") fd ∧ FnOk P w K mg base C8.CX0 3 (He.ga K "_law_letters") fd ["purse", "many", "most"] (spF (mkW SS Cn K T0 none) 3 F__law_letters) := by
  obtain ⟨fd, F⟩ := Z.d__law_letters
  exact ⟨fd, F, (fn_okW (k := 2) (N := ["purse", "many", "most", "lap"]) (ps := ["purse", "many", "most"]) F (by decide +kernel) rfl rfl fun cdv A outer s H E hr hC => (ss_one (s_ret (e_tupF rfl Z.b_tuple (e_comp (own := [("lap", 3)]) rfl (i_R rfl Z.b_range (e_V rfl (.inl rfl) rfl rfl)) rfl (fun _ _ _ _ _ => (g_V (i := 3) rfl (.inl rfl))) (fun _ _ _ _ _ => ts_nil) (fun _ _ _ _ _ => (e_if (t_cmp (s_eq (u64 hr)) (e_call (ok__law_draw Z) (hr.mono (by decide)) rfl (a_cons (e_V rfl (.inr (.inl rfl)) rfl rfl) (a_cons e_int a_nil)) (ar_cons (ar_cons ar_nil))) e_int) e_non (e_call (ok__law_draw Z) (hr.mono (by decide)) rfl (a_cons (e_V rfl (.inr (.inl rfl)) rfl rfl) (a_cons (e_V rfl (.inr (.inl rfl)) rfl rfl) a_nil)) (ar_cons (ar_cons ar_nil))))) (by decide))))))⟩
theorem ok__law_letters (Z : Fx K mg base T0) : Def P w K mg base (mkW SS Cn K T0 none) 3 "_law_letters" 3 F__law_letters := by
  obtain ⟨fd, F, hF⟩ := fn__law_letters (P := P) (w := w) Z
  exact ⟨⟨_, fd, ["purse", "many", "most"], Z.g__law_letters, F.kp, (F.bindsN (ps := ["purse", "many", "most"]) fun _ _ _ _ _ _ us hl => match us, hl with | [_, _, _], _ => rfl), hF⟩, rfl⟩
theorem fn__law_sender (Z : Fx K mg base T0) : ∃ fd, FunD K "_law_sender" "_law_sender" (defArgs (top 31)) (defBody (top 31)) (defScope (top 31)) [] [] (He.ga K "_law_sender") fd ∧ FnOk P w K mg base C8.CX0 5 (He.ga K "_law_sender") fd ["purse", "sizes", "top"] (spF (mkW SS Cn K T0 none) 3 F__law_sender) := by
  obtain ⟨fd, F⟩ := Z.d__law_sender
  exact ⟨fd, F, (fn_okW (k := 4) (N := ["purse", "sizes", "top", "many", "heard", "taken", "steps", "lap", "one"]) (ps := ["purse", "sizes", "top"]) F (by decide +kernel) rfl rfl fun cdv A outer s H E hr hC => (ss_cons (s_set (i := 3) rfl (.inr rfl) (e_bin s_add e_int (e_call (ok__law_draw Z) (hr.mono (by decide)) rfl (a_cons (e_V rfl (.inr (.inl rfl)) rfl rfl) (a_cons (e_V rfl (.inl rfl) rfl rfl) a_nil)) (ar_cons (ar_cons ar_nil))))) (ss_cons (s_set (i := 4) rfl (.inl rfl) (e_tupF rfl Z.b_tuple (e_comp (own := [("lap", 7)]) rfl (i_R rfl Z.b_range (e_V rfl (.inr (.inl rfl)) rfl rfl)) rfl (fun _ _ _ _ _ => (g_V (i := 7) rfl (.inl rfl))) (fun _ _ _ _ _ => ts_nil) (fun _ _ _ _ _ => (e_call (ok__law_row Z) (hr.mono (by decide)) rfl (a_cons (e_V rfl (.inr (.inl rfl)) rfl rfl) (a_cons (e_idx (e_V rfl (.inr (.inl rfl)) rfl rfl) e_int (fun _ _ => rfl)) (a_cons (e_V rfl (.inr (.inl rfl)) rfl rfl) a_nil))) (ar_cons (ar_cons (ar_cons ar_nil))))) (by decide)))) (ss_cons (s_setLc (own := [("lap", 7)]) rfl (i := 5) rfl rfl (L2.sw_true rfl rfl rfl rfl) (i_R rfl Z.b_range (e_V rfl (.inr (.inl rfl)) rfl rfl)) rfl (fun _ _ _ _ _ => (g_V (i := 7) rfl (.inl rfl))) (fun _ _ _ _ _ => ts_nil) (fun _ _ _ _ _ => (e_call (ok__law_row Z) (hr.mono (by decide)) rfl (a_cons (e_V rfl (.inr (.inl rfl)) rfl rfl) (a_cons (e_idx (e_V rfl (.inr (.inl rfl)) rfl rfl) e_int (fun _ _ => rfl)) (a_cons (e_V rfl (.inr (.inl rfl)) rfl rfl) a_nil))) (ar_cons (ar_cons (ar_cons ar_nil))))) (by decide)) (ss_cons (s_set (i := 5) rfl (.inl rfl) (e_bin s_add (e_sl (e_V rfl (.inl rfl) rfl rfl) o_none (o_some e_int)) (e_comp (own := [("one", 8)]) rfl (i_E (e_sl (e_V rfl (.inl rfl) rfl rfl) (o_some e_int) o_none)) rfl (fun _ _ _ _ _ => (g_V (i := 8) rfl (.inl rfl))) (fun _ _ _ _ _ => ts_nil) (fun _ _ _ _ _ => (e_if (t_cmp (s_eq (u64 hr)) (e_call (ok__law_draw Z) (hr.mono (by decide)) rfl (a_cons (e_V rfl (.inr (.inl rfl)) rfl rfl) (a_cons e_int a_nil)) (ar_cons (ar_cons ar_nil))) e_int) e_non (e_V rfl (.inl rfl) rfl rfl))) (by decide)))) (ss_cons (s_set (i := 6) rfl (.inl rfl) (e_if (t_cmp (s_eq (u64 hr)) (e_call (ok__law_draw Z) (hr.mono (by decide)) rfl (a_cons (e_V rfl (.inr (.inl rfl)) rfl rfl) (a_cons e_int a_nil)) (ar_cons (ar_cons ar_nil))) e_int) (e_tupR rfl Z.b_tuple (g_1 rfl Z.b_range (e_V rfl (.inr (.inl rfl)) rfl rfl))) (e_call (ok__law_row Z) (hr.mono (by decide)) rfl (a_cons (e_V rfl (.inr (.inl rfl)) rfl rfl) (a_cons (e_V rfl (.inr (.inl rfl)) rfl rfl) (a_cons (e_V rfl (.inr (.inl rfl)) rfl rfl) a_nil))) (ar_cons (ar_cons (ar_cons ar_nil)))))) (ss_one (s_ret (e_tup (a_cons (e_call (ok__law_letters Z) (hr.mono (by decide)) rfl (a_cons (e_V rfl (.inr (.inl rfl)) rfl rfl) (a_cons (e_V rfl (.inr (.inl rfl)) rfl rfl) (a_cons (e_idx (e_V rfl (.inr (.inl rfl)) rfl rfl) e_int (fun _ _ => rfl)) a_nil))) (ar_cons (ar_cons (ar_cons ar_nil)))) (a_cons (e_V rfl (.inl rfl) rfl rfl) (a_cons (e_V rfl (.inl rfl) rfl rfl) (a_cons (e_tupF rfl Z.b_tuple (e_V rfl (.inl rfl) rfl rfl)) (a_cons (e_call (ok__law_falls Z) (hr.mono (by decide)) rfl (a_cons (e_V rfl (.inr (.inl rfl)) rfl rfl) (a_cons (e_V rfl (.inr (.inl rfl)) rfl rfl) a_nil)) (ar_cons (ar_cons ar_nil))) a_nil))))))))))))))⟩
theorem ok__law_sender (Z : Fx K mg base T0) : Def P w K mg base (mkW SS Cn K T0 none) 5 "_law_sender" 3 F__law_sender := by
  obtain ⟨fd, F, hF⟩ := fn__law_sender (P := P) (w := w) Z
  exact ⟨⟨_, fd, ["purse", "sizes", "top"], Z.g__law_sender, F.kp, (F.bindsN (ps := ["purse", "sizes", "top"]) fun _ _ _ _ _ _ us hl => match us, hl with | [_, _, _], _ => rfl), hF⟩, rfl⟩
theorem fn__law_receiver (Z : Fx K mg base T0) : ∃ fd, FunD K "_law_receiver" "_law_receiver" (defArgs (top 32)) (defBody (top 32)) (defScope (top 32)) [] [] (He.ga K "_law_receiver") fd ∧ FnOk P w K mg base C8.CX0 5 (He.ga K "_law_receiver") fd ["purse", "sizes", "top"] (spF (mkW SS Cn K T0 none) 3 F__law_receiver) := by
  obtain ⟨fd, F⟩ := Z.d__law_receiver
  exact ⟨fd, F, (fn_okW (k := 4) (N := ["purse", "sizes", "top", "many", "heard", "given_out", "lap", "row", "steps", "kind"]) (ps := ["purse", "sizes", "top"]) F (by decide +kernel) rfl rfl fun cdv A outer s H E hr hC => (ss_cons (s_set (i := 3) rfl (.inr rfl) (e_bin s_add e_int (e_call (ok__law_draw Z) (hr.mono (by decide)) rfl (a_cons (e_V rfl (.inr (.inl rfl)) rfl rfl) (a_cons (e_V rfl (.inl rfl) rfl rfl) a_nil)) (ar_cons (ar_cons ar_nil))))) (ss_cons (s_set (i := 4) rfl (.inl rfl) (e_tupF rfl Z.b_tuple (e_comp (own := [("lap", 6)]) rfl (i_R rfl Z.b_range (e_V rfl (.inr (.inl rfl)) rfl rfl)) rfl (fun _ _ _ _ _ => (g_V (i := 6) rfl (.inl rfl))) (fun _ _ _ _ _ => ts_nil) (fun _ _ _ _ _ => (e_call (ok__law_row Z) (hr.mono (by decide)) rfl (a_cons (e_V rfl (.inr (.inl rfl)) rfl rfl) (a_cons (e_idx (e_V rfl (.inr (.inl rfl)) rfl rfl) e_int (fun _ _ => rfl)) (a_cons (e_V rfl (.inr (.inl rfl)) rfl rfl) a_nil))) (ar_cons (ar_cons (ar_cons ar_nil))))) (by decide)))) (ss_cons (s_set (i := 5) rfl (.inl rfl) (e_lst a_nil)) (ss_cons (s_for (i_R rfl Z.b_range (e_V rfl (.inr (.inl rfl)) rfl rfl)) (g_V (i := 6) rfl (.inl rfl)) (ss_cons (s_setLc (own := [("kind", 9)]) rfl (i := 7) rfl rfl (L2.sw_true rfl rfl rfl rfl) (i_R rfl Z.b_range (e_idx (e_V rfl (.inr (.inl rfl)) rfl rfl) e_int (fun _ _ => rfl))) rfl (fun _ _ _ _ _ => (g_V (i := 9) rfl (.inl rfl))) (fun _ _ _ _ _ => ts_nil) (fun _ _ _ _ _ => (e_if (t_cmp s_gt (e_call (ok__law_draw Z) (hr.mono (by decide)) rfl (a_cons (e_V rfl (.inr (.inl rfl)) rfl rfl) (a_cons e_int a_nil)) (ar_cons (ar_cons ar_nil))) e_int) e_non (e_call (ok__law_draw Z) (hr.mono (by decide)) rfl (a_cons (e_V rfl (.inr (.inl rfl)) rfl rfl) (a_cons (e_idx (e_V rfl (.inr (.inl rfl)) rfl rfl) e_int (fun _ _ => rfl)) a_nil)) (ar_cons (ar_cons ar_nil))))) (by decide)) (ss_one (s_exp (e_append (e_V rfl (.inl rfl) rfl rfl) (e_tupF rfl Z.b_tuple (e_V rfl (.inl rfl) rfl rfl))))))) (ss_cons (s_set (i := 8) rfl (.inl rfl) (e_if (t_cmp (s_eq (u64 hr)) (e_call (ok__law_draw Z) (hr.mono (by decide)) rfl (a_cons (e_V rfl (.inr (.inl rfl)) rfl rfl) (a_cons e_int a_nil)) (ar_cons (ar_cons ar_nil))) e_int) (e_tupR rfl Z.b_tuple (g_1 rfl Z.b_range (e_V rfl (.inr (.inl rfl)) rfl rfl))) (e_call (ok__law_row Z) (hr.mono (by decide)) rfl (a_cons (e_V rfl (.inr (.inl rfl)) rfl rfl) (a_cons (e_V rfl (.inr (.inl rfl)) rfl rfl) (a_cons (e_V rfl (.inr (.inl rfl)) rfl rfl) a_nil))) (ar_cons (ar_cons (ar_cons ar_nil)))))) (ss_one (s_ret (e_tup (a_cons (e_call (ok__law_letters Z) (hr.mono (by decide)) rfl (a_cons (e_V rfl (.inr (.inl rfl)) rfl rfl) (a_cons (e_V rfl (.inr (.inl rfl)) rfl rfl) (a_cons (e_idx (e_V rfl (.inr (.inl rfl)) rfl rfl) e_int (fun _ _ => rfl)) a_nil))) (ar_cons (ar_cons (ar_cons ar_nil)))) (a_cons (e_V rfl (.inl rfl) rfl rfl) (a_cons (e_V rfl (.inl rfl) rfl rfl) (a_cons (e_tupF rfl Z.b_tuple (e_V rfl (.inl rfl) rfl rfl)) (a_cons (e_call (ok__law_falls Z) (hr.mono (by decide)) rfl (a_cons (e_V rfl (.inr (.inl rfl)) rfl rfl) (a_cons (e_V rfl (.inr (.inl rfl)) rfl rfl) a_nil)) (ar_cons (ar_cons ar_nil))) a_nil))))))))))))))⟩
theorem ok__law_receiver (Z : Fx K mg base T0) : Def P w K mg base (mkW SS Cn K T0 none) 5 "_law_receiver" 3 F__law_receiver := by
  obtain ⟨fd, F, hF⟩ := fn__law_receiver (P := P) (w := w) Z
  exact ⟨⟨_, fd, ["purse", "sizes", "top"], Z.g__law_receiver, F.kp, (F.bindsN (ps := ["purse", "sizes", "top"]) fun _ _ _ _ _ _ us hl => match us, hl with | [_, _, _], _ => rfl), hF⟩, rfl⟩
theorem fn__law_greets (Z : Fx K mg base T0) : ∃ fd, FunD K "_law_greets" "_law_greets" (defArgs (top 34)) (defBody (top 34)) (defScope (top 34)) [] [] (He.ga K "_law_greets") fd ∧ FnOk P w K mg base C8.CX0 1 (He.ga K "_law_greets") fd ["is_mute"] (spF (mkW SS Cn K T0 none) 1 F__law_greets) := by
  obtain ⟨fd, F⟩ := Z.d__law_greets
  exact ⟨fd, F, (fn_okW (k := 0) (N := ["is_mute", "speaker", "hearer"]) (ps := ["is_mute"]) F (by decide +kernel) rfl rfl fun cdv A outer s H E hr hC => (ss_cons (s_set (i := 1) rfl (.inl rfl) (e_tup (a_cons (e_tup (a_cons e_non (a_cons e_int (a_cons e_int a_nil)))) (a_cons (e_tup (a_cons e_int (a_cons e_int (a_cons e_int a_nil)))) (a_cons (e_tup (a_cons (e_tup (a_cons e_int (a_cons e_int a_nil))) (a_cons (e_tup (a_cons e_int (a_cons e_int a_nil))) (a_cons (e_tup (a_cons e_int (a_cons e_int a_nil))) a_nil)))) (a_cons (e_tup (a_cons (e_tup (a_cons e_int a_nil)) (a_cons e_non (a_cons e_non a_nil)))) (a_cons (e_tup (a_cons e_int (a_cons e_int (a_cons e_int a_nil)))) a_nil))))))) (ss_cons (s_set (i := 2) rfl (.inl rfl) (e_tup (a_cons (e_tup (a_cons e_non (a_cons e_int (a_cons e_int a_nil)))) (a_cons (e_tup (a_cons e_int (a_cons e_int (a_cons e_int a_nil)))) (a_cons (e_tup (a_cons (e_tup (a_cons e_int (a_cons e_int a_nil))) (a_cons (e_tup (a_cons e_int (a_cons e_int a_nil))) (a_cons (e_tup (a_cons e_int (a_cons e_int a_nil))) a_nil)))) (a_cons (e_tup (a_cons (e_tup (a_cons e_non (a_cons e_non a_nil))) (a_cons (e_tup (a_cons e_non (a_cons e_int a_nil))) (a_cons (e_tup (a_cons e_non (a_cons e_non a_nil))) a_nil)))) (a_cons (e_tup (a_cons e_int (a_cons e_int (a_cons e_int a_nil)))) a_nil))))))) (ss_cons (s_if (t_B (fun _ => rfl) (e_V rfl (.inl rfl) rfl rfl)) (ss_one (s_set (i := 2) rfl (.inl rfl) (e_bin s_add (e_sl (e_V rfl (.inl rfl) rfl rfl) o_none (o_some e_int)) (e_tup (a_cons (e_tup (a_cons e_int (a_cons e_int (a_cons e_int a_nil)))) a_nil))))) ss_nil) (ss_one (s_ret (e_tup (a_cons (e_tup (a_cons e_int (a_cons e_int (a_cons e_int a_nil)))) (a_cons (e_V rfl (.inl rfl) rfl rfl) (a_cons (e_V rfl (.inl rfl) rfl rfl) a_nil))))))))))⟩
theorem ok__law_greets (Z : Fx K mg base T0) : Def P w K mg base (mkW SS Cn K T0 none) 1 "_law_greets" 1 F__law_greets := by
  obtain ⟨fd, F, hF⟩ := fn__law_greets (P := P) (w := w) Z
  exact ⟨⟨_, fd, ["is_mute"], Z.g__law_greets, F.kp, (F.bindsN (ps := ["is_mute"]) fun _ _ _ _ _ _ us hl => match us, hl with | [_], _ => rfl), hF⟩, rfl⟩
theorem fn__law_raw (Z : Fx K mg base T0) : ∃ fd, FunD K "_law_raw" "_law_raw" (defArgs (top 36)) (defBody (top 36)) (defScope (top 36)) [] [] (He.ga K "_law_raw") fd ∧ FnOk P w K mg base C8.CX0 6 (He.ga K "_law_raw") fd ["purse"] (spF (mkW SS Cn K T0 none) 1 F__law_raw) := by
  obtain ⟨fd, F⟩ := Z.d__law_raw
  exact ⟨fd, F, (fn_okW (k := 5) (N := ["purse", "pace", "sizes"]) (ps := ["purse"]) F (by decide +kernel) rfl rfl fun cdv A outer s H E hr hC => (ss_cons (s_set (i := 1) rfl (.inl rfl) (e_call (ok__law_draw Z) (hr.mono (by decide)) rfl (a_cons (e_V rfl (.inl rfl) rfl rfl) (a_cons e_int a_nil)) (ar_cons (ar_cons ar_nil)))) (ss_cons (s_if (t_cmp s_lt (e_V rfl (.inl rfl) rfl rfl) e_int) (ss_one (s_ret (e_call (ok__law_turns Z) (hr.mono (by decide)) rfl (a_cons (e_cmp (s_eq (u64 hr)) (e_V rfl (.inl rfl) rfl rfl) e_int) a_nil) (ar_cons ar_nil)))) ss_nil) (ss_cons (s_if (t_cmp s_lt (e_V rfl (.inl rfl) rfl rfl) e_int) (ss_one (s_ret (e_call (ok__law_greets Z) (hr.mono (by decide)) rfl (a_cons (e_cmp (s_eq (u64 hr)) (e_V rfl (.inl rfl) rfl rfl) e_int) a_nil) (ar_cons ar_nil)))) ss_nil) (ss_cons (s_if (t_cmp s_lt (e_V rfl (.inl rfl) rfl rfl) e_int) (ss_one (s_ret (e_call (ok__law_repeats Z) (hr.mono (by decide)) rfl (a_cons (e_bin s_add e_int (e_call (ok__law_draw Z) (hr.mono (by decide)) rfl (a_cons (e_V rfl (.inl rfl) rfl rfl) (a_cons e_int a_nil)) (ar_cons (ar_cons ar_nil)))) a_nil) (ar_cons ar_nil)))) ss_nil) (ss_cons (s_set (i := 2) rfl (.inl rfl) (e_tup (a_cons (e_bin s_add e_int (e_call (ok__law_draw Z) (hr.mono (by decide)) rfl (a_cons (e_V rfl (.inl rfl) rfl rfl) (a_cons e_int a_nil)) (ar_cons (ar_cons ar_nil)))) (a_cons (e_bin s_add e_int (e_call (ok__law_draw Z) (hr.mono (by decide)) rfl (a_cons (e_V rfl (.inl rfl) rfl rfl) (a_cons e_int a_nil)) (ar_cons (ar_cons ar_nil)))) (a_cons (e_bin s_add e_int (e_call (ok__law_draw Z) (hr.mono (by decide)) rfl (a_cons (e_V rfl (.inl rfl) rfl rfl) (a_cons e_int a_nil)) (ar_cons (ar_cons ar_nil)))) a_nil))))) (ss_one (s_ret (e_tup (a_cons (e_V rfl (.inl rfl) rfl rfl) (a_cons (e_call (ok__law_sender Z) (hr.mono (by decide)) rfl (a_cons (e_V rfl (.inl rfl) rfl rfl) (a_cons (e_V rfl (.inl rfl) rfl rfl) (a_cons e_int a_nil))) (ar_cons (ar_cons (ar_cons ar_nil)))) (a_cons (e_call (ok__law_receiver Z) (hr.mono (by decide)) rfl (a_cons (e_V rfl (.inl rfl) rfl rfl) (a_cons (e_V rfl (.inl rfl) rfl rfl) (a_cons e_int a_nil))) (ar_cons (ar_cons (ar_cons ar_nil)))) a_nil))))))))))))⟩
theorem ok__law_raw (Z : Fx K mg base T0) : Def P w K mg base (mkW SS Cn K T0 none) 6 "_law_raw" 1 F__law_raw := by
  obtain ⟨fd, F, hF⟩ := fn__law_raw (P := P) (w := w) Z
  exact ⟨⟨_, fd, ["purse"], Z.g__law_raw, F.kp, (F.bindsN (ps := ["purse"]) fun _ _ _ _ _ _ us hl => match us, hl with | [_], _ => rfl), hF⟩, rfl⟩
theorem fn__law_told (Z : Fx K mg base T0) : ∃ fd, FunD K "_law_told" "_law_told" (defArgs (top 40)) (defBody (top 40)) (defScope (top 40)) [] [] (He.ga K "_law_told") fd ∧ FnOk P w K mg base C8.CX0 1 (He.ga K "_law_told") fd ["one"] (spF (mkW SS Cn K T0 none) 1 F__law_told) := by
  obtain ⟨fd, F⟩ := Z.d__law_told
  exact ⟨fd, F, (fn_okW (k := 0) (N := ["one", "kinds"]) (ps := ["one"]) F (by decide +kernel) rfl rfl fun cdv A outer s H E hr hC => (ss_cons (s_set (i := 1) rfl (.inl rfl) (e_tup (a_cons (e_fld (Z.cf_value_count _) (e_V rfl (.inl rfl) rfl rfl)) (a_cons (e_fld (Z.cf_forward _) (e_V rfl (.inl rfl) rfl rfl)) (a_cons (e_fld (Z.cf_backward _) (e_V rfl (.inl rfl) rfl rfl)) a_nil))))) (ss_cons (s_if (t_B (fun _ => rfl) (e_is (Z.kf_Sender _) (pe_glob (v := .ref (He.ga K "Sender")) rfl Z.g_Sender rfl rfl) (.own _) rfl Z.b_isinstance (e_V rfl (.inl rfl) rfl rfl))) (ss_one (s_ret (e_tup (a_cons (e_V rfl (.inl rfl) rfl rfl) (a_cons (e_tup (a_cons (e_fld (Z.cf_sends _) (e_V rfl (.inl rfl) rfl rfl)) (a_cons (e_fld (Z.cf_ticks _) (e_V rfl (.inl rfl) rfl rfl)) (a_cons (e_fld (Z.cf_hears _) (e_V rfl (.inl rfl) rfl rfl)) (a_cons (e_fld (Z.cf_takes _) (e_V rfl (.inl rfl) rfl rfl)) (a_cons (e_fld (Z.cf_crashes _) (e_V rfl (.inl rfl) rfl rfl)) a_nil)))))) a_nil))))) ss_nil) (ss_one (s_ret (e_tup (a_cons (e_V rfl (.inl rfl) rfl rfl) (a_cons (e_tup (a_cons (e_fld (Z.cf_sends _) (e_V rfl (.inl rfl) rfl rfl)) (a_cons (e_fld (Z.cf_ticks _) (e_V rfl (.inl rfl) rfl rfl)) (a_cons (e_fld (Z.cf_hears _) (e_V rfl (.inl rfl) rfl rfl)) (a_cons (e_fld (Z.cf_gives _) (e_V rfl (.inl rfl) rfl rfl)) (a_cons (e_fld (Z.cf_crashes _) (e_V rfl (.inl rfl) rfl rfl)) a_nil)))))) a_nil))))))))⟩
theorem ok__law_told (Z : Fx K mg base T0) : Def P w K mg base (mkW SS Cn K T0 none) 1 "_law_told" 1 F__law_told := by
  obtain ⟨fd, F, hF⟩ := fn__law_told (P := P) (w := w) Z
  exact ⟨⟨_, fd, ["one"], Z.g__law_told, F.kp, (F.bindsN (ps := ["one"]) fun _ _ _ _ _ _ us hl => match us, hl with | [_], _ => rfl), hF⟩, rfl⟩
theorem fn__law_bent (Z : Fx K mg base T0) : ∃ fd, FunD K "_law_bent" "_law_bent" (defArgs (top 41)) (defBody (top 41)) (defScope (top 41)) [] [] (He.ga K "_law_bent") fd ∧ FnOk P w K mg base C8.CX0 3 (He.ga K "_law_bent") fd ["purse", "sizes", "table", "is_sender"] (spF (mkW SS Cn K T0 none) 4 F__law_bent) := by
  obtain ⟨fd, F⟩ := Z.d__law_bent
  exact ⟨fd, F, (fn_okW (k := 2) (N := ["purse", "sizes", "table", "is_sender", "many", "at", "spot", "items", "line", "place", "value"]) (ps := ["purse", "sizes", "table", "is_sender"]) F (by decide +kernel) rfl rfl fun cdv A outer s H E hr hC => (ss_cons (s_asg (e_tup (a_cons (e_len rfl Z.b_len (e_idx (e_V rfl (.inl rfl) rfl rfl) e_int (fun _ _ => rfl))) (a_cons (e_call (ok__law_draw Z) (hr.mono (by decide)) rfl (a_cons (e_V rfl (.inr (.inl rfl)) rfl rfl) (a_cons (e_len rfl Z.b_len (e_idx (e_V rfl (.inl rfl) rfl rfl) e_int (fun _ _ => rfl))) a_nil)) (ar_cons (ar_cons ar_nil))) (a_cons (e_call (ok__law_draw Z) (hr.mono (by decide)) rfl (a_cons (e_V rfl (.inr (.inl rfl)) rfl rfl) (a_cons e_int a_nil)) (ar_cons (ar_cons ar_nil))) a_nil)))) (g_T (is := [4, 5, 6]) (gs_cons (i := 4) rfl (.inr rfl) (gs_cons (i := 5) rfl (.inl rfl) (gs_cons (i := 6) rfl (.inl rfl) gs_nil))))) (ss_cons (s_set (i := 7) rfl (.inl rfl) (e_lstF rfl Z.b_list (e_idx (e_V rfl (.inl rfl) rfl rfl) (e_V rfl (.inl rfl) rfl rfl) (fun _ _ => rfl)))) (ss_cons (s_if (t_cmp (s_eq (u64 hr)) (e_V rfl (.inl rfl) rfl rfl) e_int) (ss_one (s_put (e_V rfl (.inl rfl) rfl rfl) (e_V rfl (.inl rfl) rfl rfl) (e_idx (e_lst (a_cons e_non (a_cons (e_call (ok__law_draw Z) (hr.mono (by decide)) rfl (a_cons (e_V rfl (.inr (.inl rfl)) rfl rfl) (a_cons (e_idx (e_V rfl (.inl rfl) rfl rfl) (e_bin s_add e_int (e_intF rfl Z.b_int (e_not (e_V rfl (.inl rfl) rfl rfl)))) (fun _ _ => rfl)) a_nil)) (ar_cons (ar_cons ar_nil))) a_nil))) (e_call (ok__law_draw Z) (hr.mono (by decide)) rfl (a_cons (e_V rfl (.inr (.inl rfl)) rfl rfl) (a_cons e_int a_nil)) (ar_cons (ar_cons ar_nil))) (fun _ _ => rfl)))) (ss_one (s_if (t_cmp (s_in (u65 hr)) (e_V rfl (.inl rfl) rfl rfl) (e_tup (a_cons e_int (a_cons e_int a_nil)))) (ss_one (s_put (e_V rfl (.inl rfl) rfl rfl) (e_V rfl (.inl rfl) rfl rfl) (e_call (ok__law_draw Z) (hr.mono (by decide)) rfl (a_cons (e_V rfl (.inr (.inl rfl)) rfl rfl) (a_cons (e_V rfl (.inr (.inl rfl)) rfl rfl) a_nil)) (ar_cons (ar_cons ar_nil))))) (ss_one (s_if (t_w (w_and (t_cmp (s_eq (u64 hr)) (e_V rfl (.inl rfl) rfl rfl) e_int) (w_and1 (t_B (fun _ => rfl) (e_V rfl (.inl rfl) rfl rfl))))) (ss_cons (s_set (i := 8) rfl (.inl rfl) (e_tupF rfl Z.b_tuple (e_comp (own := [("value", 10)]) rfl (i_R rfl Z.b_range (e_idx (e_V rfl (.inl rfl) rfl rfl) e_int (fun _ _ => rfl))) rfl (fun _ _ _ _ _ => (g_V (i := 10) rfl (.inl rfl))) (fun _ _ _ _ _ => ts_nil) (fun _ _ _ _ _ => (e_call (ok__law_draw Z) (hr.mono (by decide)) rfl (a_cons (e_V rfl (.inr (.inl rfl)) rfl rfl) (a_cons (e_V rfl (.inr (.inl rfl)) rfl rfl) a_nil)) (ar_cons (ar_cons ar_nil)))) (by decide)))) (ss_one (s_put (e_V rfl (.inl rfl) rfl rfl) (e_V rfl (.inl rfl) rfl rfl) (e_if (t_w (w_and (t_cmp s_gt (e_V rfl (.inl rfl) rfl rfl) e_int) (w_and1 (t_cmp (s_eq (u64 hr)) (e_call (ok__law_draw Z) (hr.mono (by decide)) rfl (a_cons (e_V rfl (.inr (.inl rfl)) rfl rfl) (a_cons e_int a_nil)) (ar_cons (ar_cons ar_nil))) e_int)))) e_non (e_V rfl (.inl rfl) rfl rfl))))) (ss_cons (s_set (i := 8) rfl (.inl rfl) (e_lstF rfl Z.b_list (e_idx (e_V rfl (.inl rfl) rfl rfl) (e_V rfl (.inl rfl) rfl rfl) (fun _ _ => rfl)))) (ss_cons (s_set (i := 9) rfl (.inl rfl) (e_call (ok__law_draw Z) (hr.mono (by decide)) rfl (a_cons (e_V rfl (.inr (.inl rfl)) rfl rfl) (a_cons (e_len rfl Z.b_len (e_V rfl (.inl rfl) rfl rfl)) a_nil)) (ar_cons (ar_cons ar_nil)))) (ss_cons (s_put (e_V rfl (.inl rfl) rfl rfl) (e_V rfl (.inl rfl) rfl rfl) (e_if (t_cmp (s_eq (u64 hr)) (e_V rfl (.inl rfl) rfl rfl) e_int) (e_call (ok__law_draw Z) (hr.mono (by decide)) rfl (a_cons (e_V rfl (.inr (.inl rfl)) rfl rfl) (a_cons (e_V rfl (.inr (.inl rfl)) rfl rfl) a_nil)) (ar_cons (ar_cons ar_nil))) (e_idx (e_lst (a_cons e_non (a_cons (e_call (ok__law_draw Z) (hr.mono (by decide)) rfl (a_cons (e_V rfl (.inr (.inl rfl)) rfl rfl) (a_cons (e_idx (e_V rfl (.inl rfl) rfl rfl) e_int (fun _ _ => rfl)) a_nil)) (ar_cons (ar_cons ar_nil))) a_nil))) (e_call (ok__law_draw Z) (hr.mono (by decide)) rfl (a_cons (e_V rfl (.inr (.inl rfl)) rfl rfl) (a_cons e_int a_nil)) (ar_cons (ar_cons ar_nil))) (fun _ _ => rfl)))) (ss_one (s_put (e_V rfl (.inl rfl) rfl rfl) (e_V rfl (.inl rfl) rfl rfl) (e_tupF rfl Z.b_tuple (e_V rfl (.inl rfl) rfl rfl)))))))))))) (ss_one (s_ret (e_bin s_add (e_bin s_add (e_sl (e_V rfl (.inl rfl) rfl rfl) o_none (o_some (e_V rfl (.inl rfl) rfl rfl))) (e_tup (a_cons (e_tupF rfl Z.b_tuple (e_V rfl (.inl rfl) rfl rfl)) a_nil))) (e_sl (e_V rfl (.inl rfl) rfl rfl) (o_some (e_bin s_add (e_V rfl (.inl rfl) rfl rfl) e_int)) o_none))))))))⟩
theorem ok__law_bent (Z : Fx K mg base T0) : Def P w K mg base (mkW SS Cn K T0 none) 3 "_law_bent" 4 F__law_bent := by
  obtain ⟨fd, F, hF⟩ := fn__law_bent (P := P) (w := w) Z
  exact ⟨⟨_, fd, ["purse", "sizes", "table", "is_sender"], Z.g__law_bent, F.kp, (F.bindsN (ps := ["purse", "sizes", "table", "is_sender"]) fun _ _ _ _ _ _ us hl => match us, hl with | [_, _, _, _], _ => rfl), hF⟩, rfl⟩
theorem tbl_ok (Z : Fx K mg base T0) : TblM P w K mg base (mkW SS Cn K T0 none) 3 TB :=
  ⟨fun p hp => by
    simp only [TB, List.mem_cons, List.mem_nil_iff, or_false] at hp
    rcases hp with rfl | rfl | rfl
    · exact ⟨2, by decide, eqm_Sender Z⟩
    · exact ⟨2, by decide, eqm_Receiver Z⟩
    · exact ⟨3, by decide, eqm_Pair Z⟩, Z.eu_all⟩
theorem fn__law_kept_right (Z : Fx K mg base T0) : ∃ fd, FunD K "_law_kept_right" "_law_kept_right" (defArgs (top 42)) (defBody (top 42)) (defScope (top 42)) [] [] (He.ga K "_law_kept_right") fd ∧ FnOk P w K mg base C8.CX0 9 (He.ga K "_law_kept_right") fd ["sizes", "table", "is_sender"] (spF (mkW SS Cn K T0 none) 3 F__law_kept_right) := by
  obtain ⟨fd, F⟩ := Z.d__law_kept_right
  exact ⟨fd, F, (fn_okW (k := 8) (N := ["sizes", "table", "is_sender", "lists", "made", "one", "again"]) (ps := ["sizes", "table", "is_sender"]) F (by decide +kernel) rfl rfl fun cdv A outer s H E hr hC => (ss_cons (s_setLc (own := [("one", 5)]) rfl (i := 3) rfl rfl (L2.sw_true rfl rfl rfl rfl) (i_E (e_V rfl (.inl rfl) rfl rfl)) rfl (fun _ _ _ _ _ => (g_V (i := 5) rfl (.inl rfl))) (fun _ _ _ _ _ => ts_nil) (fun _ _ _ _ _ => (e_lstF rfl Z.b_list (e_V rfl (.inl rfl) rfl rfl))) (by decide)) (ss_cons (s_if (t_B (fun _ => rfl) (e_V rfl (.inl rfl) rfl rfl)) (ss_one (s_set (i := 4) rfl (.inl rfl) (e_mkK0 (kw_Sender___init___0_crashes_takes_hears_ticks_sends_backward_forward_value_count Z) (hr.mono (by decide)) rfl (k_cons (e_idx (e_V rfl (.inl rfl) rfl rfl) e_int (fun _ _ => rfl)) (k_cons (e_idx (e_V rfl (.inl rfl) rfl rfl) e_int (fun _ _ => rfl)) (k_cons (e_idx (e_V rfl (.inl rfl) rfl rfl) e_int (fun _ _ => rfl)) (k_cons (e_idx (e_V rfl (.inl rfl) rfl rfl) e_int (fun _ _ => rfl)) (k_cons (e_idx (e_V rfl (.inl rfl) rfl rfl) e_int (fun _ _ => rfl)) (k_cons (e_idx (e_V rfl (.inl rfl) rfl rfl) e_int (fun _ _ => rfl)) (k_cons (e_idx (e_V rfl (.inl rfl) rfl rfl) e_int (fun _ _ => rfl)) (k_cons (e_idx (e_V rfl (.inl rfl) rfl rfl) e_int (fun _ _ => rfl)) k_nil)))))))) (ar_cons (ar_cons (ar_cons (ar_cons (ar_cons (ar_cons (ar_cons (ar_cons ar_nil)))))))) rfl (by decide)))) (ss_one (s_set (i := 4) rfl (.inl rfl) (e_mkK0 (kw_Receiver___init___0_crashes_gives_hears_ticks_sends_backward_forward_value_count Z) (hr.mono (by decide)) rfl (k_cons (e_idx (e_V rfl (.inl rfl) rfl rfl) e_int (fun _ _ => rfl)) (k_cons (e_idx (e_V rfl (.inl rfl) rfl rfl) e_int (fun _ _ => rfl)) (k_cons (e_idx (e_V rfl (.inl rfl) rfl rfl) e_int (fun _ _ => rfl)) (k_cons (e_idx (e_V rfl (.inl rfl) rfl rfl) e_int (fun _ _ => rfl)) (k_cons (e_idx (e_V rfl (.inl rfl) rfl rfl) e_int (fun _ _ => rfl)) (k_cons (e_idx (e_V rfl (.inl rfl) rfl rfl) e_int (fun _ _ => rfl)) (k_cons (e_idx (e_V rfl (.inl rfl) rfl rfl) e_int (fun _ _ => rfl)) (k_cons (e_idx (e_V rfl (.inl rfl) rfl rfl) e_int (fun _ _ => rfl)) k_nil)))))))) (ar_cons (ar_cons (ar_cons (ar_cons (ar_cons (ar_cons (ar_cons (ar_cons ar_nil)))))))) rfl (by decide))))) (ss_cons (s_for (i_E (e_V rfl (.inl rfl) rfl rfl)) (g_V (i := 5) rfl (.inl rfl)) (ss_cons (s_put (e_V rfl (.inl rfl) rfl rfl) e_int (e_str rfl)) (ss_one (s_exp (e_append (e_V rfl (.inl rfl) rfl rfl) e_non))))) (ss_cons (s_set (i := 6) rfl (.inl rfl) (e_if (t_B (fun _ => rfl) (e_V rfl (.inl rfl) rfl rfl)) (e_call (ok__law_made_sender Z) (hr.mono (by decide)) rfl (a_cons (e_V rfl (.inl rfl) rfl rfl) (a_cons (e_V rfl (.inl rfl) rfl rfl) a_nil)) (ar_cons (ar_cons ar_nil))) (e_call (ok__law_made_receiver Z) (hr.mono (by decide)) rfl (a_cons (e_V rfl (.inl rfl) rfl rfl) (a_cons (e_V rfl (.inl rfl) rfl rfl) a_nil)) (ar_cons (ar_cons ar_nil))))) (ss_one (s_ret (e_and (e_cmp (s_eq (u64 hr)) (e_call (ok__law_told Z) (hr.mono (by decide)) rfl (a_cons (e_V rfl (.inl rfl) rfl rfl) a_nil) (ar_cons ar_nil)) (e_tup (a_cons (e_V rfl (.inl rfl) rfl rfl) (a_cons (e_V rfl (.inl rfl) rfl rfl) a_nil)))) (e_one (e_cmp (s_eqW (tbl_ok Z) (hr.mono (by decide))) (e_V rfl (.inl rfl) rfl rfl) (e_V rfl (.inl rfl) rfl rfl)))))))))))⟩
theorem ok__law_kept_right (Z : Fx K mg base T0) : Def P w K mg base (mkW SS Cn K T0 none) 9 "_law_kept_right" 3 F__law_kept_right := by
  obtain ⟨fd, F, hF⟩ := fn__law_kept_right (P := P) (w := w) Z
  exact ⟨⟨_, fd, ["sizes", "table", "is_sender"], Z.g__law_kept_right, F.kp, (F.bindsN (ps := ["sizes", "table", "is_sender"]) fun _ _ _ _ _ _ us hl => match us, hl with | [_, _, _], _ => rfl), hF⟩, rfl⟩
theorem fng__law_right (Z : Fx K mg base T0) : ∃ fd, FunD K "_law_right" "_law_right" (defArgs (top 43)) (defBody (top 43)) (defScope (top 43)) [] [] (He.ga K "_law_right") fd ∧ FnG P w K mg base 10 (He.ga K "_law_right") fd ["purse"] (spF (mkW SS Cn K T0 none) 1 F__law_right) := by
  obtain ⟨fd, F⟩ := Z.d__law_right
  exact ⟨fd, F, (fnG_ok (k := 9) (N := ["purse", "raw", "made", "which_one", "table", "due", "bent", "beside", "told", "one"]) (ps := ["purse"]) F (by decide +kernel) rfl rfl fun cdv A outer s H E hG hr hC => (ss_cons (s_set (i := 1) rfl (.inl rfl) (e_call (ok__law_raw Z) (hr.mono (by decide)) rfl (a_cons (e_V rfl (.inl rfl) rfl rfl) a_nil) (ar_cons ar_nil))) (ss_cons (s_set (i := 2) rfl (.inl rfl) (e_call (ok__law_made Z) (hr.mono (by decide)) rfl (a_cons (e_V rfl (.inl rfl) rfl rfl) a_nil) (ar_cons ar_nil))) (ss_cons (s_if (t_w (w_or (t_cmp (s_ne (u64 hr)) (e_call (ok__law_told Z) (hr.mono (by decide)) rfl (a_cons (e_fld (Z.cf_sender _) (e_V rfl (.inl rfl) rfl rfl)) a_nil) (ar_cons ar_nil)) (e_tup (a_cons (e_idx (e_V rfl (.inl rfl) rfl rfl) e_int (fun _ _ => rfl)) (a_cons (e_idx (e_V rfl (.inl rfl) rfl rfl) e_int (fun _ _ => rfl)) a_nil)))) (w_or1 (t_cmp (s_ne (u64 hr)) (e_call (ok__law_told Z) (hr.mono (by decide)) rfl (a_cons (e_fld (Z.cf_receiver _) (e_V rfl (.inl rfl) rfl rfl)) a_nil) (ar_cons ar_nil)) (e_tup (a_cons (e_idx (e_V rfl (.inl rfl) rfl rfl) e_int (fun _ _ => rfl)) (a_cons (e_idx (e_V rfl (.inl rfl) rfl rfl) e_int (fun _ _ => rfl)) a_nil))))))) (ss_one (s_ret e_bool)) ss_nil) (ss_cons (s_if (t_w (w_or (t_not (t_B (fun _ => rfl) (e_call (ok__law_kept_right Z) (hr.mono (by decide)) rfl (a_cons (e_idx (e_V rfl (.inl rfl) rfl rfl) e_int (fun _ _ => rfl)) (a_cons (e_idx (e_V rfl (.inl rfl) rfl rfl) e_int (fun _ _ => rfl)) (a_cons e_bool a_nil))) (ar_cons (ar_cons (ar_cons ar_nil)))))) (w_or1 (t_not (t_B (fun _ => rfl) (e_call (ok__law_kept_right Z) (hr.mono (by decide)) rfl (a_cons (e_idx (e_V rfl (.inl rfl) rfl rfl) e_int (fun _ _ => rfl)) (a_cons (e_idx (e_V rfl (.inl rfl) rfl rfl) e_int (fun _ _ => rfl)) (a_cons e_bool a_nil))) (ar_cons (ar_cons (ar_cons ar_nil))))))))) (ss_one (s_ret e_bool)) ss_nil) (ss_cons (s_for (i_E (e_tup (a_cons (e_tup (a_cons (e_str rfl) (a_cons (e_idx (e_V rfl (.inl rfl) rfl rfl) e_int (fun _ _ => rfl)) a_nil))) (a_cons (e_tup (a_cons (e_str rfl) (a_cons (e_idx (e_V rfl (.inl rfl) rfl rfl) e_int (fun _ _ => rfl)) a_nil))) a_nil)))) (g_T (is := [3, 4]) (gs_cons (i := 3) rfl (.inl rfl) (gs_cons (i := 4) rfl (.inl rfl) gs_nil))) (ss_cons (s_set (i := 5) rfl (.inl rfl) (e_cmp (s_eq (u64 hr)) (e_comp (own := [("one", 9)]) rfl (i_E (e_idx (e_V rfl (.inl rfl) rfl rfl) e_int (fun _ _ => rfl))) rfl (fun _ _ _ _ _ => (g_V (i := 9) rfl (.inl rfl))) (fun _ _ _ _ _ => (ts_one (t_cmp (s_ne (u64 hr)) (e_V rfl (.inl rfl) rfl rfl) e_int))) (fun _ _ _ _ _ => (e_V rfl (.inl rfl) rfl rfl)) (by decide)) (e_lst a_nil))) (ss_one (s_if (t_w (w_or (t_cmp (s_ne (u64 hr)) (e_call (ok_keeps_nothing Z) (hr.mono (by decide)) rfl (a_cons (e_V rfl (.inl rfl) rfl rfl) (a_cons (e_V rfl (.inl rfl) rfl rfl) a_nil)) (ar_cons (ar_cons ar_nil))) (e_V rfl (.inl rfl) rfl rfl)) (w_or1 (t_cmp (s_ne (u64 hr)) (e_callK0 (kw_keeps_nothing_0_program_pair Z) (hr.mono (by decide)) rfl (k_cons (e_V rfl (.inl rfl) rfl rfl) (k_cons (e_V rfl (.inl rfl) rfl rfl) k_nil)) (ar_cons (ar_cons ar_nil)) rfl (by decide)) (e_V rfl (.inl rfl) rfl rfl))))) (ss_one (s_ret e_bool)) ss_nil)))) (ss_cons (s_set (i := 6) rfl (.inl rfl) (e_tup (a_cons (e_idx (e_V rfl (.inl rfl) rfl rfl) e_int (fun _ _ => rfl)) (a_cons (e_call (ok__law_bent Z) (hr.mono (by decide)) rfl (a_cons (e_V rfl (.inl rfl) rfl rfl) (a_cons (e_idx (e_V rfl (.inl rfl) rfl rfl) e_int (fun _ _ => rfl)) (a_cons (e_idx (e_V rfl (.inl rfl) rfl rfl) e_int (fun _ _ => rfl)) (a_cons e_bool a_nil)))) (ar_cons (ar_cons (ar_cons (ar_cons ar_nil))))) (a_cons (e_call (ok__law_bent Z) (hr.mono (by decide)) rfl (a_cons (e_V rfl (.inl rfl) rfl rfl) (a_cons (e_idx (e_V rfl (.inl rfl) rfl rfl) e_int (fun _ _ => rfl)) (a_cons (e_idx (e_V rfl (.inl rfl) rfl rfl) e_int (fun _ _ => rfl)) (a_cons e_bool a_nil)))) (ar_cons (ar_cons (ar_cons (ar_cons ar_nil))))) a_nil))))) (ss_cons (s_set (i := 7) rfl (.inl rfl) (e_call (ok__law_made Z) (hr.mono (by decide)) rfl (a_cons (e_V rfl (.inl rfl) rfl rfl) a_nil) (ar_cons ar_nil))) (ss_cons (s_set (i := 8) rfl (.inl rfl) (e_lst (a_cons (e_cmp (s_eqW (tbl_ok Z) (hr.mono (by decide))) (e_fld (Z.cf_sender _) (e_V rfl (.inl rfl) rfl rfl)) (e_fld (Z.cf_sender _) (e_V rfl (.inl rfl) rfl rfl))) (a_cons (e_cmp (s_eqW (tbl_ok Z) (hr.mono (by decide))) (e_fld (Z.cf_receiver _) (e_V rfl (.inl rfl) rfl rfl)) (e_fld (Z.cf_receiver _) (e_V rfl (.inl rfl) rfl rfl))) (a_cons (e_cmp (s_eqW (tbl_ok Z) (hr.mono (by decide))) (e_V rfl (.inl rfl) rfl rfl) (e_V rfl (.inl rfl) rfl rfl)) a_nil))))) (ss_cons (s_set (i := 5) rfl (.inl rfl) (e_lst (a_cons (e_cmp (s_eq (u64 hr)) (e_idx (e_V rfl (.inl rfl) rfl rfl) e_int (fun _ _ => rfl)) (e_idx (e_V rfl (.inl rfl) rfl rfl) e_int (fun _ _ => rfl))) (a_cons (e_cmp (s_eq (u64 hr)) (e_idx (e_V rfl (.inl rfl) rfl rfl) e_int (fun _ _ => rfl)) (e_idx (e_V rfl (.inl rfl) rfl rfl) e_int (fun _ _ => rfl))) (a_cons (e_cmp (s_eq (u64 hr)) (e_V rfl (.inl rfl) rfl rfl) (e_V rfl (.inl rfl) rfl rfl)) a_nil))))) (ss_cons (s_if (t_w (w_or (t_cmp (s_ne (u64 hr)) (e_V rfl (.inl rfl) rfl rfl) (e_V rfl (.inl rfl) rfl rfl)) (w_or (t_cmp (s_eqW (tbl_ok Z) (hr.mono (by decide))) (e_V rfl (.inl rfl) rfl rfl) (e_fld (Z.cf_sender _) (e_V rfl (.inl rfl) rfl rfl))) (w_or (t_cmp (s_eqW (tbl_ok Z) (hr.mono (by decide))) (e_fld (Z.cf_sender _) (e_V rfl (.inl rfl) rfl rfl)) (e_fld (Z.cf_receiver _) (e_V rfl (.inl rfl) rfl rfl))) (w_or1 (t_cmp (s_eqW (tbl_ok Z) (hr.mono (by decide))) (e_V rfl (.inl rfl) rfl rfl) (e_V rfl (.inl rfl) rfl rfl))))))) (ss_one (s_ret e_bool)) ss_nil) (ss_cons (s_if (t_w (w_or (t_cmp (s_inW (tbl_ok Z) (hr.mono (by decide))) (e_fld (Z.cf_sender _) (e_V rfl (.inl rfl) rfl rfl)) (e_lst (a_cons e_non (a_cons e_int (a_cons (e_str rfl) (a_cons (e_V rfl (.inl rfl) rfl rfl) a_nil)))))) (w_or1 (t_cmp (s_inW (tbl_ok Z) (hr.mono (by decide))) (e_fld (Z.cf_receiver _) (e_V rfl (.inl rfl) rfl rfl)) (e_lst (a_cons e_non (a_cons e_int (a_cons (e_str rfl) (a_cons (e_V rfl (.inl rfl) rfl rfl) a_nil))))))))) (ss_one (s_ret e_bool)) ss_nil) (ss_cons (s_if (t_cmp (s_inW (tbl_ok Z) (hr.mono (by decide))) (e_V rfl (.inl rfl) rfl rfl) (e_lst (a_cons e_non (a_cons e_int (a_cons (e_fld (Z.cf_sender _) (e_V rfl (.inl rfl) rfl rfl)) (a_cons (e_fld (Z.cf_receiver _) (e_V rfl (.inl rfl) rfl rfl)) a_nil)))))) (ss_one (s_ret e_bool)) ss_nil) (ss_cons (s_if (t_cmp (s_neI Z.ne_Pair (nei_Pair Z) (hr.mono (by decide))) (e_mkK0 (kw_Pair___init___0_receiver_sender Z) (hr.mono (by decide)) rfl (k_cons (e_fld (Z.cf_receiver _) (e_V rfl (.inl rfl) rfl rfl)) (k_cons (e_fld (Z.cf_sender _) (e_V rfl (.inl rfl) rfl rfl)) k_nil)) (ar_cons (ar_cons ar_nil)) rfl (by decide)) (e_V rfl (.inl rfl) rfl rfl)) (ss_one (s_ret e_bool)) ss_nil) (ss_one (s_ret (e_same (SLen.len (S := SS)) Z.sys_m hG (u64 hr) rfl Z.b_str (e_cmp (s_eqW (tbl_ok Z) (hr.mono (by decide))) (e_mk (mak_Pair Z) (hr.mono (by decide)) rfl (a_cons (e_fld (Z.cf_sender _) (e_V rfl (.inl rfl) rfl rfl)) (a_cons (e_fld (Z.cf_receiver _) (e_V rfl (.inl rfl) rfl rfl)) a_nil)) (ar_cons (ar_cons ar_nil))) (e_V rfl (.inl rfl) rfl rfl)) (e_cmp (s_eq (u64 hr)) (e_idx (e_V rfl (.inl rfl) rfl rfl) e_int (fun _ _ => rfl)) (e_idx (e_V rfl (.inl rfl) rfl rfl) e_int (fun _ _ => rfl))))))))))))))))))))⟩
theorem okg__law_right (Z : Fx K mg base T0) : DefG P w K mg base (mkW SS Cn K T0 none) 10 "_law_right" 1 F__law_right := by
  obtain ⟨fd, F, hF⟩ := fng__law_right (P := P) (w := w) Z
  exact ⟨⟨_, fd, ["purse"], Z.g__law_right, F.kp, (F.bindsN (ps := ["purse"]) fun _ _ _ _ _ _ us hl => match us, hl with | [_], _ => rfl), hF⟩, rfl⟩
theorem fng_law (Z : Fx K mg base T0) : ∃ fd, FunD K "law" "law" (defArgs (top 44)) (defBody (top 44)) (defScope (top 44)) [] [] (He.ga K "law") fd ∧ FnG P w K mg base 11 (He.ga K "law") fd ["script"] (spF (mkW SS Cn K T0 none) 1 F_law) := by
  obtain ⟨fd, F⟩ := Z.d_law
  exact ⟨fd, F, (fnG_ok (k := 10) (N := ["script", "at", "purse", "lap", "some", "one", "wide", "each"]) (ps := ["script"]) F (by decide +kernel) rfl rfl fun cdv A outer s H E hG hr hC => (ss_cons (s_for (i_R rfl Z.b_range (e_bin s_add e_int (e_min2 rfl Z.b_min e_int (e_len rfl Z.b_len (e_V rfl (.inl rfl) rfl rfl))))) (g_V (i := 1) rfl (.inl rfl)) (ss_cons (s_set (i := 2) rfl (.inl rfl) (e_call (ok__law_purse Z) (hr.mono (by decide)) rfl (a_cons (e_V rfl (.inl rfl) rfl rfl) (a_cons (e_V rfl (.inl rfl) rfl rfl) a_nil)) (ar_cons (ar_cons ar_nil)))) (ss_one (s_for (i_R rfl Z.b_range e_int) (g_V (i := 3) rfl (.inl rfl)) (ss_one (s_if (t_not (t_B (fun _ => rfl) (e_callG hG (okg__law_right Z) (hr.mono (by decide)) rfl (a_cons (e_V rfl (.inl rfl) rfl rfl) a_nil) (ar_cons ar_nil)))) (ss_one (s_ret e_bool)) ss_nil)))))) (ss_cons (s_set (i := 4) rfl (.inr rfl) (e_lst (a_cons (e_mkK (kw_Receiver___init___3_sends_ticks_hears_gives_crashes Z) (hr.mono (by decide)) rfl (a_cons e_int (a_cons e_int (a_cons e_int a_nil))) (ar_cons (ar_cons (ar_cons ar_nil))) (k_cons (e_lst (a_cons e_int a_nil)) (k_cons (e_lst (a_cons e_int a_nil)) (k_cons (e_lst (a_cons (e_tup (a_cons e_int a_nil)) a_nil)) (k_cons (e_lst (a_cons (e_tup (a_cons e_int a_nil)) a_nil)) (k_cons (e_lst (a_cons e_int a_nil)) k_nil))))) (ar_cons (ar_cons (ar_cons (ar_cons (ar_cons ar_nil))))) rfl (by decide)) a_nil))) (ss_cons (s_exp (e_append (e_V rfl (.inr (.inl rfl)) rfl rfl) (e_mkK (kw_Receiver___init___3_sends_ticks_hears_gives_crashes Z) (hr.mono (by decide)) rfl (a_cons e_int (a_cons e_int (a_cons e_int a_nil))) (ar_cons (ar_cons (ar_cons ar_nil))) (k_cons (e_lst (a_cons e_int a_nil)) (k_cons (e_lst (a_cons e_int a_nil)) (k_cons (e_lst (a_cons (e_tup (a_cons e_int a_nil)) a_nil)) (k_cons (e_lst (a_cons (e_tup (a_cons e_int a_nil)) a_nil)) (k_cons (e_lst (a_cons e_int a_nil)) k_nil))))) (ar_cons (ar_cons (ar_cons (ar_cons (ar_cons ar_nil))))) rfl (by decide)))) (ss_cons (s_exp (e_append (e_V rfl (.inr (.inl rfl)) rfl rfl) (e_mkK (kw_Receiver___init___3_sends_ticks_hears_gives_crashes Z) (hr.mono (by decide)) rfl (a_cons e_int (a_cons e_int (a_cons e_int a_nil))) (ar_cons (ar_cons (ar_cons ar_nil))) (k_cons (e_lst (a_cons e_int a_nil)) (k_cons (e_lst (a_cons e_int a_nil)) (k_cons (e_lst (a_cons (e_tup (a_cons e_int a_nil)) a_nil)) (k_cons (e_lst (a_cons (e_tup (a_cons e_int a_nil)) a_nil)) (k_cons (e_lst (a_cons e_int a_nil)) k_nil))))) (ar_cons (ar_cons (ar_cons (ar_cons (ar_cons ar_nil))))) rfl (by decide)))) (ss_cons (s_if (t_cmp (s_ne (u64 hr)) (e_comp (own := [("each", 7)]) rfl (i_E (e_V rfl (.inr (.inl rfl)) rfl rfl)) rfl (fun _ _ _ _ _ => (g_V (i := 7) rfl (.inl rfl))) (fun _ _ _ _ _ => ts_nil) (fun _ _ _ _ _ => (e_indexW (tbl_ok Z) (hr.mono (by decide)) (e_V rfl (.inr (.inl rfl)) rfl rfl) (e_V rfl (.inl rfl) rfl rfl))) (by decide)) (e_lst (a_cons e_int (a_cons e_int (a_cons e_int a_nil))))) (ss_one (s_ret e_bool)) ss_nil) (ss_cons (s_par (i := 5) (j := 6) rfl rfl (by decide) rfl rfl (a_cons (e_call (ok__law_repeats Z) (hr.mono (by decide)) rfl (a_cons e_int a_nil) (ar_cons ar_nil)) (a_cons (e_call (ok__law_made_sender Z) (hr.mono (by decide)) rfl (a_cons (e_tup (a_cons e_int (a_cons e_int (a_cons e_int a_nil)))) (a_cons (e_idx (e_call (ok__law_repeats Z) (hr.mono (by decide)) rfl (a_cons e_int a_nil) (ar_cons ar_nil)) e_int (fun _ _ => rfl)) a_nil)) (ar_cons (ar_cons ar_nil))) a_nil)) rfl) (ss_one (s_ret (e_and (e_cmp (s_neI Z.ne_Sender (nei_Sender Z) (hr.mono (by decide))) (e_fld (Z.cf_sender _) (e_call (ok__law_made Z) (hr.mono (by decide)) rfl (a_cons (e_V rfl (.inl rfl) rfl rfl) a_nil) (ar_cons ar_nil))) (e_V rfl (.inl rfl) rfl rfl)) (e_one (e_cmp s_isB (e_call (ok_keeps_nothing Z) (hr.mono (by decide)) rfl (a_cons (e_call (ok__law_made Z) (hr.mono (by decide)) rfl (a_cons (e_call (ok__law_turns Z) (hr.mono (by decide)) rfl (a_cons e_bool a_nil) (ar_cons ar_nil)) a_nil) (ar_cons ar_nil)) (a_cons (e_str rfl) a_nil)) (ar_cons (ar_cons ar_nil))) e_bool))))))))))))⟩
theorem okg_law (Z : Fx K mg base T0) : DefG P w K mg base (mkW SS Cn K T0 none) 11 "law" 1 F_law := by
  obtain ⟨fd, F, hF⟩ := fng_law (P := P) (w := w) Z
  exact ⟨⟨_, fd, ["script"], Z.g_law, F.kp, (F.bindsN (ps := ["script"]) fun _ _ _ _ _ _ us hl => match us, hl with | [_], _ => rfl), hF⟩, rfl⟩
end
end L_k01
end
section
set_option Elab.async false
set_option linter.all false
set_option maxRecDepth 100000
set_option maxHeartbeats 0
/-! the head of law k01, printed by head.py -/
namespace L_k01
open PySem PySem.Spec PyProof.Rows L2 VI
def as0 : List Nat := [1, 3, 0, 122, 127, 134, 141, 148, 155, 162, 169, 174, 205, 240, 268, 279, 284, 291, 298, 305, 312, 324, 331, 336, 341, 346, 353, 360, 367, 374]
def as1 : List Nat := [381, 388, 395, 402, 407, 412, 417, 422, 121, 126, 133, 140, 147, 154, 161, 168, 173, 204, 239, 267, 278, 283, 290, 297, 304, 311, 323, 330, 335, 340]
def as2 : List Nat := [345, 352, 359, 366, 373, 380, 387, 394, 401, 406, 411, 416, 421, 188, 195, 202, 223, 230, 237, 258, 265, 187, 194, 201, 222, 229, 236, 257, 264]
def as : List Nat := as0 ++ as1 ++ as2
def d0 : He.DefD := ⟨("Sender", some "tables"), "tables", "Sender.tables", defArgs (inClass (top 17) 1), defBody (inClass (top 17) 1), defScope (inClass (top 17) 1), [], []⟩
def d1 : He.DefD := ⟨("Sender", some "__eq__"), "__eq__", "Sender.__eq__", defArgs (inClass (top 17) 2), defBody (inClass (top 17) 2), defScope (inClass (top 17) 2), [], []⟩
def d2 : He.DefD := ⟨("require_positive", none), "require_positive", "require_positive", defArgs (top 10), defBody (top 10), defScope (top 10), [], []⟩
def d3 : He.DefD := ⟨("is_below", none), "is_below", "is_below", defArgs (top 8), defBody (top 8), defScope (top 8), [], []⟩
def d4 : He.DefD := ⟨("is_row", none), "is_row", "is_row", defArgs (top 9), defBody (top 9), defScope (top 9), [], []⟩
def d5 : He.DefD := ⟨("is_given", none), "is_given", "is_given", defArgs (top 16), defBody (top 16), defScope (top 16), [], []⟩
def d6 : He.DefD := ⟨("checked", none), "checked", "checked", defArgs (top 11), defBody (top 11), defScope (top 11), [], []⟩
def d7 : He.DefD := ⟨("checked_sends", none), "checked_sends", "checked_sends", defArgs (top 12), defBody (top 12), defScope (top 12), [], []⟩
def d8 : He.DefD := ⟨("checked_states", none), "checked_states", "checked_states", defArgs (top 13), defBody (top 13), defScope (top 13), [], []⟩
def d9 : He.DefD := ⟨("checked_hears", none), "checked_hears", "checked_hears", defArgs (top 14), defBody (top 14), defScope (top 14), [], []⟩
def d10 : He.DefD := ⟨("Receiver", some "__init__"), "__init__", "Receiver.__init__", defArgs (inClass (top 18) 0), defBody (inClass (top 18) 0), defScope (inClass (top 18) 0), [], []⟩
def d11 : He.DefD := ⟨("Receiver", some "tables"), "tables", "Receiver.tables", defArgs (inClass (top 18) 1), defBody (inClass (top 18) 1), defScope (inClass (top 18) 1), [], []⟩
def d12 : He.DefD := ⟨("Receiver", some "__eq__"), "__eq__", "Receiver.__eq__", defArgs (inClass (top 18) 2), defBody (inClass (top 18) 2), defScope (inClass (top 18) 2), [], []⟩
def d13 : He.DefD := ⟨("Pair", some "__eq__"), "__eq__", "Pair.__eq__", defArgs (inClass (top 19) 1), defBody (inClass (top 19) 1), defScope (inClass (top 19) 1), [], []⟩
def d14 : He.DefD := ⟨("require_pair", none), "require_pair", "require_pair", defArgs (top 20), defBody (top 20), defScope (top 20), [], []⟩
def d15 : He.DefD := ⟨("forgets", none), "forgets", "forgets", defArgs (top 21), defBody (top 21), defScope (top 21), [], []⟩
def d16 : He.DefD := ⟨("keeps_nothing", none), "keeps_nothing", "keeps_nothing", defArgs (top 22), defBody (top 22), defScope (top 22), [], []⟩
def d17 : He.DefD := ⟨("_law_purse", none), "_law_purse", "_law_purse", defArgs (top 25), defBody (top 25), defScope (top 25), [], []⟩
def d18 : He.DefD := ⟨("_law_turns", none), "_law_turns", "_law_turns", defArgs (top 33), defBody (top 33), defScope (top 33), [], []⟩
def d19 : He.DefD := ⟨("_law_repeats", none), "_law_repeats", "_law_repeats", defArgs (top 35), defBody (top 35), defScope (top 35), [], []⟩
def d20 : He.DefD := ⟨("checked_takes", none), "checked_takes", "checked_takes", defArgs (top 15), defBody (top 15), defScope (top 15), [], []⟩
def d21 : He.DefD := ⟨("Sender", some "__init__"), "__init__", "Sender.__init__", defArgs (inClass (top 17) 0), defBody (inClass (top 17) 0), defScope (inClass (top 17) 0), [], []⟩
def d22 : He.DefD := ⟨("_law_made_sender", none), "_law_made_sender", "_law_made_sender", defArgs (top 37), defBody (top 37), defScope (top 37), [], []⟩
def d23 : He.DefD := ⟨("Pair", some "__init__"), "__init__", "Pair.__init__", defArgs (inClass (top 19) 0), defBody (inClass (top 19) 0), defScope (inClass (top 19) 0), [], []⟩
def d24 : He.DefD := ⟨("_law_made_receiver", none), "_law_made_receiver", "_law_made_receiver", defArgs (top 38), defBody (top 38), defScope (top 38), [], []⟩
def d25 : He.DefD := ⟨("_law_made", none), "_law_made", "_law_made", defArgs (top 39), defBody (top 39), defScope (top 39), [], []⟩
def d26 : He.DefD := ⟨("_law_mixed", none), "_law_mixed", "_law_mixed", defArgs (top 24), defBody (top 24), defScope (top 24), [], []⟩
def d27 : He.DefD := ⟨("_law_draw", none), "_law_draw", "_law_draw", defArgs (top 26), defBody (top 26), defScope (top 26), [], []⟩
def d28 : He.DefD := ⟨("_law_row", none), "_law_row", "_law_row", defArgs (top 28), defBody (top 28), defScope (top 28), [], []⟩
def d29 : He.DefD := ⟨("_law_falls", none), "_law_falls", "_law_falls", defArgs (top 29), defBody (top 29), defScope (top 29), [], []⟩
def d30 : He.DefD := ⟨("_law_letters", none), "_law_letters", "_law_letters", defArgs (top 30), defBody (top 30), defScope (top 30), [], []⟩
def d31 : He.DefD := ⟨("_law_sender", none), "_law_sender", "_law_sender", defArgs (top 31), defBody (top 31), defScope (top 31), [], []⟩
def d32 : He.DefD := ⟨("_law_receiver", none), "_law_receiver", "_law_receiver", defArgs (top 32), defBody (top 32), defScope (top 32), [], []⟩
def d33 : He.DefD := ⟨("_law_greets", none), "_law_greets", "_law_greets", defArgs (top 34), defBody (top 34), defScope (top 34), [], []⟩
def d34 : He.DefD := ⟨("_law_raw", none), "_law_raw", "_law_raw", defArgs (top 36), defBody (top 36), defScope (top 36), [], []⟩
def d35 : He.DefD := ⟨("_law_told", none), "_law_told", "_law_told", defArgs (top 40), defBody (top 40), defScope (top 40), [], []⟩
def d36 : He.DefD := ⟨("_law_bent", none), "_law_bent", "_law_bent", defArgs (top 41), defBody (top 41), defScope (top 41), [], []⟩
def d37 : He.DefD := ⟨("_law_kept_right", none), "_law_kept_right", "_law_kept_right", defArgs (top 42), defBody (top 42), defScope (top 42), [], []⟩
def d38 : He.DefD := ⟨("_law_right", none), "_law_right", "_law_right", defArgs (top 43), defBody (top 43), defScope (top 43), [], []⟩
def d39 : He.DefD := ⟨("law", none), "law", "law", defArgs (top 44), defBody (top 44), defScope (top 44), [], []⟩
def fn0 : List He.DefD := [d0, d1, d2, d3, d4, d5, d6, d7, d8, d9, d10, d11, d12, d13, d14, d15, d16, d17, d18, d19]
def fn1 : List He.DefD := [d20, d21, d22, d23, d24, d25, d26, d27, d28, d29, d30, d31, d32, d33, d34, d35, d36, d37, d38, d39]
def fn : List He.DefD := fn0 ++ fn1
def ls : List ((Str × Option Str) × Str) := [(("checked_sends", none), "checked_sends.<locals>.<lambda>"), (("checked_states", none), "checked_states.<locals>.<lambda>"), (("checked_hears", none), "checked_hears.<locals>.<lambda>"), (("Receiver", some "__init__"), "Receiver.__init__.<locals>.<lambda>"), (("checked_takes", none), "checked_takes.<locals>.<lambda>")]
def ck0 (K : PySem.W.Frag) : List Bool := [noListB K, apartB K ls, (He.Fa.free "all").ok K, (He.Fa.free "bool").ok K, (He.Fa.free "enumerate").ok K, (He.Fa.free "int").ok K, (He.Fa.free "isinstance").ok K, (He.Fa.free "len").ok K, (He.Fa.free "list").ok K, (He.Fa.free "max").ok K, (He.Fa.free "min").ok K, (He.Fa.free "range").ok K, (He.Fa.free "str").ok K, (He.Fa.free "tuple").ok K, (He.Fa.glo "require_positive").ok K, (He.Fa.glo "is_below").ok K, (He.Fa.glo "is_row").ok K, (He.Fa.glo "is_given").ok K, (He.Fa.glo "checked").ok K, (He.Fa.glo "checked_sends").ok K]
def ck1 (K : PySem.W.Frag) : List Bool := [(He.Fa.glo "checked_states").ok K, (He.Fa.glo "checked_hears").ok K, (He.Fa.glo "require_pair").ok K, (He.Fa.glo "forgets").ok K, (He.Fa.glo "keeps_nothing").ok K, (He.Fa.glo "_law_purse").ok K, (He.Fa.glo "_law_turns").ok K, (He.Fa.glo "_law_repeats").ok K, (He.Fa.glo "checked_takes").ok K, (He.Fa.glo "_law_made_sender").ok K, (He.Fa.glo "_law_made_receiver").ok K, (He.Fa.glo "_law_made").ok K, (He.Fa.glo "_law_mixed").ok K, (He.Fa.glo "_law_draw").ok K, (He.Fa.glo "_law_row").ok K, (He.Fa.glo "_law_falls").ok K, (He.Fa.glo "_law_letters").ok K, (He.Fa.glo "_law_sender").ok K, (He.Fa.glo "_law_receiver").ok K, (He.Fa.glo "_law_greets").ok K]
def ck2 (K : PySem.W.Frag) : List Bool := [(He.Fa.glo "_law_raw").ok K, (He.Fa.glo "_law_told").ok K, (He.Fa.glo "_law_bent").ok K, (He.Fa.glo "_law_kept_right").ok K, (He.Fa.glo "_law_right").ok K, (He.Fa.glo "law").ok K, (He.Fa.glo "Pair").ok K, (He.Fa.glo "Receiver").ok K, (He.Fa.glo "Sender").ok K, cfB K Cn [0, 1] "backward", cfB K Cn [0, 1] "crashes", cfB K Cn [0, 1] "forward", cfB K Cn [1] "gives", cfB K Cn [0, 1] "hears", cfB K Cn [2] "receiver", cfB K Cn [2] "sender", cfB K Cn [0, 1] "sends", cfB K Cn [0] "takes", cfB K Cn [0, 1] "ticks", cfB K Cn [0, 1] "value_count"]
def ck3 (K : PySem.W.Frag) : List Bool := [kfW (fun t => PySem.W.kitOne K t (.ref (He.ga K "Pair"))) K Cn [0, 1, 2] (.cls 2), kfW (fun t => PySem.W.kitOne K t (.ref (He.ga K "Receiver"))) K Cn [0, 1, 2] (.cls 1), kfW (fun t => PySem.W.kitOne K t (.ref (He.ga K "Sender"))) K Cn [0, 1, 2] (.cls 0), kfW (fun t => PySem.W.kitOne K t (.type "bool")) K Cn [0, 1, 2] .bool, kfW (fun t => PySem.W.kitOne K t (.type "int")) K Cn [0, 1, 2] .int, kfW (fun t => PySem.W.kitAny K t [.type "list", .type "tuple"]) K Cn [0, 1, 2] .lot, kfW (fun t => PySem.W.kitOne K t (.type "str")) K Cn [0, 1, 2] .str, kfW (fun t => PySem.W.kitOne K t (.type "tuple")) K Cn [0, 1, 2] .tuple, (He.Fa.mkr "Pair").ok K, (He.Fa.mkr "Receiver").ok K, (He.Fa.mkr "Sender").ok K, He.eqO (PySem.W.findIn K (.ref (He.ga K "Pair")) "__eq__") (some (some (.ref (He.ma K (He.ga K "Pair") "__eq__")))), PySem.W.isFn K (.ref (He.ma K (He.ga K "Pair") "__eq__")), He.eqO (PySem.W.findIn K (.ref (He.ga K "Receiver")) "__eq__") (some (some (.ref (He.ma K (He.ga K "Receiver") "__eq__")))), PySem.W.isFn K (.ref (He.ma K (He.ga K "Receiver") "__eq__")), He.eqO (PySem.W.findIn K (.ref (He.ga K "Sender")) "__eq__") (some (some (.ref (He.ma K (He.ga K "Sender") "__eq__")))), PySem.W.isFn K (.ref (He.ma K (He.ga K "Sender") "__eq__")), (He.Fa.cls "Receiver").ok K, (He.Fa.meth "Receiver" "tables").ok K, (He.Fa.cls "Sender").ok K]
def ck4 (K : PySem.W.Frag) : List Bool := [(He.Fa.meth "Sender" "tables").ok K, sysB K, neB K (He.ga K "Pair") (He.ma K (He.ga K "Pair") "__eq__"), neB K (He.ga K "Sender") (He.ma K (He.ga K "Sender") "__eq__"), euA K (fun c => He.ga K (Cn c)) [0, 1, 2]]
def ck (K : PySem.W.Frag) : List Bool := ck0 K ++ ck1 K ++ ck2 K ++ ck3 K ++ ck4 K
theorem fx {K : PySem.W.Frag} {h base : Heap} {mg : Str → Option Value} (Y : SaysV ck fn (ls.map (·.1)) K h) (G : h.Ns mainGlobals mg) (TB : ∀ p ∈ ls.map (·.1), LamX.TabB base mg (codeA K p) (tabA K (codeA K p))) : Fx K mg base (tabsOf K ls) where
  b_all := He.free_ok Y.kin G (Y.at_ 2 rfl)
  b_bool := He.free_ok Y.kin G (Y.at_ 3 rfl)
  b_enumerate := He.free_ok Y.kin G (Y.at_ 4 rfl)
  b_int := He.free_ok Y.kin G (Y.at_ 5 rfl)
  b_isinstance := He.free_ok Y.kin G (Y.at_ 6 rfl)
  b_len := He.free_ok Y.kin G (Y.at_ 7 rfl)
  b_list := He.free_ok Y.kin G (Y.at_ 8 rfl)
  b_max := He.free_ok Y.kin G (Y.at_ 9 rfl)
  b_min := He.free_ok Y.kin G (Y.at_ 10 rfl)
  b_range := He.free_ok Y.kin G (Y.at_ 11 rfl)
  b_str := He.free_ok Y.kin G (Y.at_ 12 rfl)
  b_tuple := He.free_ok Y.kin G (Y.at_ 13 rfl)
  g_require_positive := He.glo_ok Y.kin G (Y.at_ 14 rfl)
  g_is_below := He.glo_ok Y.kin G (Y.at_ 15 rfl)
  g_is_row := He.glo_ok Y.kin G (Y.at_ 16 rfl)
  g_is_given := He.glo_ok Y.kin G (Y.at_ 17 rfl)
  g_checked := He.glo_ok Y.kin G (Y.at_ 18 rfl)
  g_checked_sends := He.glo_ok Y.kin G (Y.at_ 19 rfl)
  g_checked_states := He.glo_ok Y.kin G (Y.at_ 20 rfl)
  g_checked_hears := He.glo_ok Y.kin G (Y.at_ 21 rfl)
  g_require_pair := He.glo_ok Y.kin G (Y.at_ 22 rfl)
  g_forgets := He.glo_ok Y.kin G (Y.at_ 23 rfl)
  g_keeps_nothing := He.glo_ok Y.kin G (Y.at_ 24 rfl)
  g__law_purse := He.glo_ok Y.kin G (Y.at_ 25 rfl)
  g__law_turns := He.glo_ok Y.kin G (Y.at_ 26 rfl)
  g__law_repeats := He.glo_ok Y.kin G (Y.at_ 27 rfl)
  g_checked_takes := He.glo_ok Y.kin G (Y.at_ 28 rfl)
  g__law_made_sender := He.glo_ok Y.kin G (Y.at_ 29 rfl)
  g__law_made_receiver := He.glo_ok Y.kin G (Y.at_ 30 rfl)
  g__law_made := He.glo_ok Y.kin G (Y.at_ 31 rfl)
  g__law_mixed := He.glo_ok Y.kin G (Y.at_ 32 rfl)
  g__law_draw := He.glo_ok Y.kin G (Y.at_ 33 rfl)
  g__law_row := He.glo_ok Y.kin G (Y.at_ 34 rfl)
  g__law_falls := He.glo_ok Y.kin G (Y.at_ 35 rfl)
  g__law_letters := He.glo_ok Y.kin G (Y.at_ 36 rfl)
  g__law_sender := He.glo_ok Y.kin G (Y.at_ 37 rfl)
  g__law_receiver := He.glo_ok Y.kin G (Y.at_ 38 rfl)
  g__law_greets := He.glo_ok Y.kin G (Y.at_ 39 rfl)
  g__law_raw := He.glo_ok Y.kin G (Y.at_ 40 rfl)
  g__law_told := He.glo_ok Y.kin G (Y.at_ 41 rfl)
  g__law_bent := He.glo_ok Y.kin G (Y.at_ 42 rfl)
  g__law_kept_right := He.glo_ok Y.kin G (Y.at_ 43 rfl)
  g__law_right := He.glo_ok Y.kin G (Y.at_ 44 rfl)
  g_law := He.glo_ok Y.kin G (Y.at_ 45 rfl)
  g_Pair := He.glo_ok Y.kin G (Y.at_ 46 rfl)
  g_Receiver := He.glo_ok Y.kin G (Y.at_ 47 rfl)
  g_Sender := He.glo_ok Y.kin G (Y.at_ 48 rfl)
  cf_backward := fun L => cf_of rfl (Y.at_ 49 rfl) L
  cf_crashes := fun L => cf_of rfl (Y.at_ 50 rfl) L
  cf_forward := fun L => cf_of rfl (Y.at_ 51 rfl) L
  cf_gives := fun L => cf_of rfl (Y.at_ 52 rfl) L
  cf_hears := fun L => cf_of rfl (Y.at_ 53 rfl) L
  cf_receiver := fun L => cf_of rfl (Y.at_ 54 rfl) L
  cf_sender := fun L => cf_of rfl (Y.at_ 55 rfl) L
  cf_sends := fun L => cf_of rfl (Y.at_ 56 rfl) L
  cf_takes := fun L => cf_of rfl (Y.at_ 57 rfl) L
  cf_ticks := fun L => cf_of rfl (Y.at_ 58 rfl) L
  cf_value_count := fun L => cf_of rfl (Y.at_ 59 rfl) L
  kf_Pair := fun L => kf_of (Y.at_ 60 rfl) L
  kf_Receiver := fun L => kf_of (Y.at_ 61 rfl) L
  kf_Sender := fun L => kf_of (Y.at_ 62 rfl) L
  kf_bool := fun L => kf_of (Y.at_ 63 rfl) L
  kf_int := fun L => kf_of (Y.at_ 64 rfl) L
  kf_lot := fun L => kf_of (Y.at_ 65 rfl) L
  kf_str := fun L => kf_of (Y.at_ 66 rfl) L
  kf_tuple := fun L => kf_of (Y.at_ 67 rfl) L
  mk_Pair := He.mkr_ok (Y.at_ 68 rfl)
  mk_Receiver := He.mkr_ok (Y.at_ 69 rfl)
  mk_Sender := He.mkr_ok (Y.at_ 70 rfl)
  eq_Pair := ⟨He.eqO_ok (Y.at_ 71 rfl), (Y.at_ 72 rfl)⟩
  eq_Receiver := ⟨He.eqO_ok (Y.at_ 73 rfl), (Y.at_ 74 rfl)⟩
  eq_Sender := ⟨He.eqO_ok (Y.at_ 75 rfl), (Y.at_ 76 rfl)⟩
  me_Receiver_tables := ⟨He.cls_ok (Y.at_ 77 rfl), He.meth_ok (Y.at_ 78 rfl)⟩
  me_Sender_tables := ⟨He.cls_ok (Y.at_ 79 rfl), He.meth_ok (Y.at_ 80 rfl)⟩
  sys_m := (Y.at_ 81 rfl)
  ne_Pair := (Y.at_ 82 rfl)
  ne_Sender := (Y.at_ 83 rfl)
  eu_all := (Y.at_ 84 rfl)
  d_Sender_tables := Y.def_ (d := d0) (List.mem_of_getElem? (i := 0) rfl)
  d_Sender___eq__ := Y.def_ (d := d1) (List.mem_of_getElem? (i := 1) rfl)
  d_require_positive := Y.def_ (d := d2) (List.mem_of_getElem? (i := 2) rfl)
  d_is_below := Y.def_ (d := d3) (List.mem_of_getElem? (i := 3) rfl)
  d_is_row := Y.def_ (d := d4) (List.mem_of_getElem? (i := 4) rfl)
  d_is_given := Y.def_ (d := d5) (List.mem_of_getElem? (i := 5) rfl)
  d_checked := Y.def_ (d := d6) (List.mem_of_getElem? (i := 6) rfl)
  d_checked_sends := lam_fact Y (d := d7) (q := "checked_sends.<locals>.<lambda>") (ls := ls) (List.mem_of_getElem? (i := 7) rfl) (List.mem_of_getElem? (i := 0) rfl) (List.mem_of_getElem? (i := 0) rfl) (Y.at_ 1 rfl) TB
  d_checked_states := lam_fact Y (d := d8) (q := "checked_states.<locals>.<lambda>") (ls := ls) (List.mem_of_getElem? (i := 8) rfl) (List.mem_of_getElem? (i := 1) rfl) (List.mem_of_getElem? (i := 1) rfl) (Y.at_ 1 rfl) TB
  d_checked_hears := lam_fact Y (d := d9) (q := "checked_hears.<locals>.<lambda>") (ls := ls) (List.mem_of_getElem? (i := 9) rfl) (List.mem_of_getElem? (i := 2) rfl) (List.mem_of_getElem? (i := 2) rfl) (Y.at_ 1 rfl) TB
  d_Receiver___init__ := lam_fact Y (d := d10) (q := "Receiver.__init__.<locals>.<lambda>") (ls := ls) (List.mem_of_getElem? (i := 10) rfl) (List.mem_of_getElem? (i := 3) rfl) (List.mem_of_getElem? (i := 3) rfl) (Y.at_ 1 rfl) TB
  d_Receiver_tables := Y.def_ (d := d11) (List.mem_of_getElem? (i := 11) rfl)
  d_Receiver___eq__ := Y.def_ (d := d12) (List.mem_of_getElem? (i := 12) rfl)
  d_Pair___eq__ := Y.def_ (d := d13) (List.mem_of_getElem? (i := 13) rfl)
  d_require_pair := Y.def_ (d := d14) (List.mem_of_getElem? (i := 14) rfl)
  d_forgets := Y.def_ (d := d15) (List.mem_of_getElem? (i := 15) rfl)
  d_keeps_nothing := Y.def_ (d := d16) (List.mem_of_getElem? (i := 16) rfl)
  d__law_purse := Y.def_ (d := d17) (List.mem_of_getElem? (i := 17) rfl)
  d__law_turns := Y.def_ (d := d18) (List.mem_of_getElem? (i := 18) rfl)
  d__law_repeats := Y.def_ (d := d19) (List.mem_of_getElem? (i := 19) rfl)
  d_checked_takes := lam_fact Y (d := d20) (q := "checked_takes.<locals>.<lambda>") (ls := ls) (List.mem_of_getElem? (i := 20) rfl) (List.mem_of_getElem? (i := 4) rfl) (List.mem_of_getElem? (i := 4) rfl) (Y.at_ 1 rfl) TB
  d_Sender___init__ := Y.def_ (d := d21) (List.mem_of_getElem? (i := 21) rfl)
  d__law_made_sender := Y.def_ (d := d22) (List.mem_of_getElem? (i := 22) rfl)
  d_Pair___init__ := Y.def_ (d := d23) (List.mem_of_getElem? (i := 23) rfl)
  d__law_made_receiver := Y.def_ (d := d24) (List.mem_of_getElem? (i := 24) rfl)
  d__law_made := Y.def_ (d := d25) (List.mem_of_getElem? (i := 25) rfl)
  d__law_mixed := Y.def_ (d := d26) (List.mem_of_getElem? (i := 26) rfl)
  d__law_draw := Y.def_ (d := d27) (List.mem_of_getElem? (i := 27) rfl)
  d__law_row := Y.def_ (d := d28) (List.mem_of_getElem? (i := 28) rfl)
  d__law_falls := Y.def_ (d := d29) (List.mem_of_getElem? (i := 29) rfl)
  d__law_letters := Y.def_ (d := d30) (List.mem_of_getElem? (i := 30) rfl)
  d__law_sender := Y.def_ (d := d31) (List.mem_of_getElem? (i := 31) rfl)
  d__law_receiver := Y.def_ (d := d32) (List.mem_of_getElem? (i := 32) rfl)
  d__law_greets := Y.def_ (d := d33) (List.mem_of_getElem? (i := 33) rfl)
  d__law_raw := Y.def_ (d := d34) (List.mem_of_getElem? (i := 34) rfl)
  d__law_told := Y.def_ (d := d35) (List.mem_of_getElem? (i := 35) rfl)
  d__law_bent := Y.def_ (d := d36) (List.mem_of_getElem? (i := 36) rfl)
  d__law_kept_right := Y.def_ (d := d37) (List.mem_of_getElem? (i := 37) rfl)
  d__law_right := Y.def_ (d := d38) (List.mem_of_getElem? (i := 38) rfl)
  d_law := Y.def_ (d := d39) (List.mem_of_getElem? (i := 39) rfl)
def loose0 : List PySem.Str := ["TalkError", "InvalidNumber", "InvalidTable", "InvalidProgram", "InvalidPair", "UnlikePrograms", "is_below", "is_row", "require_positive", "checked", "checked_sends", "checked_states", "checked_hears", "checked_takes", "is_given", "Sender", "Receiver", "Pair", "require_pair", "forgets"]
def loose1 : List PySem.Str := ["keeps_nothing", "_law_mixed", "_law_purse", "_law_draw", "_law_great", "_law_row", "_law_falls", "_law_letters", "_law_sender", "_law_receiver", "_law_turns", "_law_greets", "_law_repeats", "_law_raw", "_law_made_sender", "_law_made_receiver", "_law_made", "_law_told", "_law_bent", "_law_kept_right"]
def loose2 : List PySem.Str := ["_law_right"]
def loose : List PySem.Str := loose0 ++ loose1 ++ loose2
abbrev R : PySem.W.OpenRow := PySem.W.OpenLaw.row PySem.Challenge.rw_wipedtalk_k01_programs_and_pairs
abbrev hk : PySem.W.Hook := hookV as ck fn (ls.map (·.1))
def ob (s : PySem.W.SharedT) : He.AlD := obsV as ck fn (ls.map (·.1)) (HandSHeadRun.getT s)
theorem ob_eq (s : PySem.W.SharedT) : ob s = hk.obs s.abs := obsV_eq (HandSHeadRun.getT_eq s)
theorem run (w : World) : HandSHeadRun.RunEq R (PySem.W.view R.prog [44]) hk ob 20000 loose w := by
  intro os
  kernel_rfl
theorem hfd (w : World) (mg : Str → Option Value) (fa : Addr) (h : Heap) (K : PySem.W.Frag) (Y : SaysV ck fn (ls.map (·.1)) K h) (G : h.Ns mainGlobals mg) (hmg : mg "law" = some (.ref fa)) :
    ∃ fd : FuncData, (∀ (s : Shared) (u : Value), BindsTo s fd ⟨[u], []⟩ [("script", u)]) ∧ ∀ base, (∀ p ∈ ls.map (·.1), LamX.TabB base mg (codeA K p) (tabA K (codeA K p))) → FnG (PySem.Challenge.rw_wipedtalk_k01_programs_and_pairs).prog w K mg base 11 fa fd ["script"] (spF (mkW SS Cn K (tabsOf K ls) none) 1 F_law) := by
  obtain ⟨fd, F⟩ := Y.def_ (d := d39) (List.mem_of_getElem? (i := 39) rfl)
  have b := FunD.bindsA (ps := ["script"]) F fun _ _ _ _ _ _ us hl => match us, hl with | [_], _ => rfl
  refine ⟨fd, fun s u => b s [u] rfl, fun base TB => ?_⟩
  have Z := fx (base := base) Y G TB
  obtain ⟨fd', F', hF⟩ := fng_law (P := (PySem.Challenge.rw_wipedtalk_k01_programs_and_pairs).prog) (w := w) Z
  have e := hmg.symm.trans Z.g_law
  cases e
  have e2 : fd' = fd := FunD_uniq F' F
  rw [← e2]
  exact hF
end L_k01
open PySem PySem.W PySem.Calls PyProof.Rows
theorem L_k01.holds_of (law : ∀ ns : List Int, ns.length ≤ 63 → (∀ z ∈ ns, Builtin.Int.intBits z ≤ 1048576) → ∀ o : VI.Ob, o = .lst (ns.map .int) ∨ o = .frz (ns.map .int) → ∃ st, L_k01.F_law [.ref 0] [o] = .ok (.v (.bool true)) st) : PySem.Challenge.rw_wipedtalk_k01_programs_and_pairs.Holds := by
  w_on; o_law
  refine HandSHeadRun.head_any (r := OpenLaw.row PySem.Challenge.rw_wipedtalk_k01_programs_and_pairs) (q := view (OpenLaw.row PySem.Challenge.rw_wipedtalk_k01_programs_and_pairs).prog [44]) (H := L_k01.hk) (ob := L_k01.ob) (M := 20000) (loose := L_k01.loose) (d := HandSHeadRun.topDef (OpenLaw.row PySem.Challenge.rw_wipedtalk_k01_programs_and_pairs).prog 44) (kwd := []) L_k01.ob_eq
    (by kernel_rfl) (fun s => by kernel_rfl) L_k01.run (by kernel_rfl) (by kernel_rfl) (by kernel_rfl) (by rfl) (by first | assumption | decide +kernel) (by decide +kernel) ⟨rfl, rfl, rfl, rfl, rfl, by decide +kernel⟩ ?hw ?hc
  case hw => w_witness2
  case hc =>
    refine VI.walkGV (l := PySem.Challenge.rw_wipedtalk_k01_programs_and_pairs) (n := 63) (k := 11) (x := "script") rfl (by decide) (by kernel_rfl) ⟨rfl, by decide, by decide⟩ (fun K => rfl) (fun w mg fa h K Y G hmg => L_k01.hfd w mg fa h K Y G ?_) law
    have e : (HandSHeadRun.topDef (OpenLaw.row PySem.Challenge.rw_wipedtalk_k01_programs_and_pairs).prog 44).name = ("law" : PySem.Str) := by kernel_rfl
    rw [← e]
    exact hmg
end

theorem PySem.Challenge.cw_wipedtalk_k01_programs_and_pairs_holds : PySem.Challenge.rw_wipedtalk_k01_programs_and_pairs.Holds := by
  exact L_k01.holds_of fun ns hl _ o ho => L_k01.law_ok ns hl o ho
