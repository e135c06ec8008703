import PyProof.Rows.All
import Wide.All
import OpenK.AllK
import Wide.FinOn
import HandS.ForMost
import HandS.ForExc
import HandS.Wide
import HandS.TupAny
import HandS.IsInst
import HandS.Zip
import HandS.Rev
import HandS.WideBits
import HandS.More
import HandS.Comp
import HandS.TryElse
import HandS.HeadHook1
import HandS.HeadHook2
import HandS.ExcIs
import HandS.Defaults
import HandS.Ends
import HandS.EndBits
import HandS.HeadEnd
import HandS.Head0
import HandS.Head1
import HandS.Head2
import PySem.Challenge.RW_nearplane_k14_tables_turned
set_option Elab.async false
section
set_option Elab.async false
set_option autoImplicit false
/-! A small language of its own: values, a store of lists, dicts and objects, expressions and statements as functions. Plain Lean, no model in sight. -/
namespace Mn

inductive Val where
  | non
  | bl (b : Bool)
  | int (i : Int)
  | str (s : List Nat)
  | tup (xs : List Val)
  | ref (n : Nat)
  | exc (c : String)
  deriving Inhabited

inductive Cell where
  | lst (xs : List Val)
  | ro (xs : List Val)
  | dic (kvs : List (Val × Val))
  | rod (kvs : List (Val × Val))
  | obj (c : String) (fs : List (String × Val))
  deriving Inhabited

abbrev Store := List Cell

inductive R (α : Type) where
  | ok (a : α) (M : Store)
  | exc (c : String) (M : Store)
  | bad

def R.bind {α β : Type} (r : R α) (f : α → Store → R β) : R β := match r with
  | .ok a M => f a M
  | .exc c M => .exc c M
  | .bad => .bad

@[simp] theorem R.bind_ok {α β : Type} (a : α) (M : Store) (f : α → Store → R β) : (R.ok a M).bind f = f a M := rfl
@[simp] theorem R.bind_exc {α β : Type} (c : String) (M : Store) (f : α → Store → R β) : (R.exc c M : R α).bind f = .exc c M := rfl
@[simp] theorem R.bind_bad {α β : Type} (f : α → Store → R β) : (R.bad : R α).bind f = .bad := rfl

abbrev Env := List (Option Val)
abbrev E := Env → Store → R Val
abbrev Fn := List Val → Store → R Val
/-- what an operation gives: nothing that is raised, or none -/
abbrev P := Option (Val × Store)
def R.of (o : P) : R Val := match o with
  | some (v, M) => .ok v M
  | none => .bad
@[simp] theorem R.of_some (v : Val) (M : Store) : R.of (some (v, M)) = .ok v M := rfl
@[simp] theorem R.of_none : R.of none = .bad := rfl
abbrev Op := Val → Val → Store → P
abbrev U := Val → Store → P

/-- a text's codes -/
def S (s : String) : List Nat := s.toList.map Char.toNat

/-! ### the sizes that the machine carries -/
def szLine : Nat := 16777216
def bits (i : Int) : Nat := if i = 0 then 0 else i.natAbs.log2 + 1
def mulOk (i j : Int) : Bool := decide (bits i ≤ 64) || decide (bits j ≤ 64) || decide (bits i + bits j ≤ 134217728)
def divOk (i j : Int) : Bool := decide (j.natAbs.log2 < 9000) || decide (i.natAbs.log2 / 30 ≤ j.natAbs.log2 / 30 + 150)

/-! ### expressions -/
def eVar (i : Nat) : E := fun ρ M => match ρ[i]? with
  | some (some v) => .ok v M
  | _ => .bad
def eC (v : Val) : E := fun _ M => .ok v M
def eBin (f : Op) (a b : E) : E := fun ρ M => (a ρ M).bind fun x M1 => (b ρ M1).bind fun y M2 => R.of (f x y M2)
def eUn (f : U) (a : E) : E := fun ρ M => (a ρ M).bind fun x M1 => R.of (f x M1)
abbrev Tri := Val → Val → Val → Store → P
def mIns : Tri
  | .ref n, .int i, v, M => match M[n]? with
    | some (.lst xs) => if xs.length < szLine ∧ 0 ≤ i ∧ i < 2 ^ 63 then some (.non, M.set n (.lst (xs.take i.toNat ++ [v] ++ xs.drop i.toNat))) else none
    | _ => none
  | _, _, _, _ => none
def evL : List E → Env → Store → R (List Val)
  | [], _, M => .ok [] M
  | e :: es, ρ, M => (e ρ M).bind fun v M1 => (evL es ρ M1).bind fun vs M2 => .ok (v :: vs) M2

/-- a new cell -/
def alloc (c : Cell) (M : Store) : P := some (.ref M.length, M ++ [c])
/-- a list that is read -/
def lstAt (M : Store) (n : Nat) : Option (List Val) := match M[n]? with
  | some (.lst xs) => some xs
  | some (.ro xs) => some xs
  | _ => none

def oAdd : Op
  | .int i, .int j, M => some (.int (i + j), M)
  | .str x, .str y, M => if x.length + y.length ≤ szLine then some (.str (x ++ y), M) else none
  | .ref m, .ref n, M => match M[m]?, M[n]? with
    | some (.lst xs), some (.lst ys) => if xs.length + ys.length ≤ szLine then alloc (.lst (xs ++ ys)) M else none
    | _, _ => none
  | .tup xs, .tup ys, M => if xs.length + ys.length ≤ szLine then some (.tup (xs ++ ys), M) else none
  | _, _, _ => none
def oSub : Op
  | .int i, .int j, M => some (.int (i - j), M)
  | _, _, _ => none
def oMul : Op
  | .int i, .int j, M => if mulOk i j then some (.int (i * j), M) else none
  | .ref n, .int k, M => match M[n]? with
    | some (.lst xs) => if xs.length * k.toNat ≤ szLine ∧ -(2 ^ 63) ≤ k ∧ k < 2 ^ 63 then alloc (.lst ((List.replicate k.toNat xs).flatten)) M else none
    | _ => none
  | _, _, _ => none
def oDiv : Op
  | .int i, .int j, M => if j ≠ 0 ∧ divOk i j then some (.int (i.fdiv j), M) else none
  | _, _, _ => none
def oMod : Op
  | .int i, .int j, M => if j ≠ 0 then some (.int (i.fmod j), M) else none
  | _, _, _ => none
def oPow : Op
  | .int i, .int j, M => if 0 ≤ j ∧ j ≤ 1000000 ∧ i.natAbs < 2 ^ 64 then some (.int (i ^ j.toNat), M) else none
  | _, _, _ => none
def oDm : Op
  | .int i, .int j, M => if 0 < j ∧ divOk i j then some (.tup [.int (i / j), .int (i % j)], M) else none
  | _, _, _ => none
def oMax : Op
  | .int i, .int j, M => some (.int (if j > i then j else i), M)
  | _, _, _ => none
def oMin : Op
  | .int i, .int j, M => some (.int (if j < i then j else i), M)
  | _, _, _ => none
/-- lists' methods that change them -/
def mApp : Op
  | .ref n, v, M => match M[n]? with
    | some (.lst xs) => if xs.length < szLine then some (.non, M.set n (.lst (xs ++ [v]))) else none
    | _ => none
  | _, _, _ => none
def mExt : Op
  | .ref n, .ref m, M => match M[n]?, M[m]? with
    | some (.lst xs), some (.lst ys) => if xs.length + ys.length ≤ szLine then some (.non, M.set n (.lst (xs ++ ys))) else none
    | _, _ => none
  | _, _, _ => none
def mClr : U
  | .ref n, M => match M[n]? with
    | some (.lst _) => some (.non, M.set n (.lst []))
    | _ => none
  | _, _ => none
def mPop : U
  | .ref n, M => match M[n]? with
    | some (.lst xs) => match xs[xs.length - 1]? with
      | some y => some (y, M.set n (.lst xs.dropLast))
      | none => none
    | _ => none
  | _, _ => none
def oNeg : U
  | .int i, M => some (.int (-i), M)
  | _, _ => none

/-! ### data as trees, for == -/
inductive T where
  | non
  | bl (b : Bool)
  | int (i : Int)
  | str (s : List Nat)
  | tup (xs : List T)
  | lst (xs : List T)
  deriving Inhabited
def b2i (b : Bool) : Int := if b then 1 else 0
mutual
def T.eqv : T → T → Bool
  | .non, .non => true
  | .bl a, .bl b => a == b
  | .bl a, .int j => decide (b2i a = j)
  | .int i, .bl b => decide (i = b2i b)
  | .int i, .int j => decide (i = j)
  | .str x, .str y => decide (x = y)
  | .tup xs, .tup ys => T.eqvs xs ys
  | .lst xs, .lst ys => T.eqvs xs ys
  | _, _ => false
def T.eqvs : List T → List T → Bool
  | [], [] => true
  | x :: xs, y :: ys => T.eqv x y && T.eqvs xs ys
  | _, _ => false
end
/-- a map that may fail -/
def mapO {α β : Type} (f : α → Option β) : List α → Option (List β)
  | [] => some []
  | x :: xs => match f x with
    | some y => (mapO f xs).map (y :: ·)
    | none => none
/-- a value as a tree, nested at most so deep -/
def toT (M : Store) : Nat → Val → Option T
  | 0, _ => none
  | _ + 1, .non => some .non
  | _ + 1, .bl b => some (.bl b)
  | _ + 1, .int i => some (.int i)
  | _ + 1, .str s => if s.all (fun c => decide (c < 1114112)) = true then some (.str s) else none
  | _ + 1, .exc _ => none
  | k + 1, .tup xs => (mapO (toT M k) xs).map T.tup
  | k + 1, .ref n => match lstAt M n with
    | some xs => (mapO (toT M k) xs).map T.lst
    | none => none
def eqFuel : Nat := 60
def valEq (x y : Val) (M : Store) : Option Bool := match toT M eqFuel x, toT M eqFuel y with
  | some a, some b => some (a.eqv b)
  | _, _ => none
def pB (o : Option Bool) (M : Store) : P := o.map fun b => (.bl b, M)
def cEq : Op := fun x y M => pB (valEq x y M) M
def cNe : Op := fun x y M => pB ((valEq x y M).map not) M
def cInt (p : Int → Int → Bool) : Op
  | .int i, .int j, M => some (.bl (p i j), M)
  | _, _, _ => none
def cLt : Op := cInt fun i j => decide (i < j)
def cLe : Op := cInt fun i j => decide (i ≤ j)
def cGt : Op := cInt fun i j => decide (j < i)
def cGe : Op := cInt fun i j => decide (j ≤ i)
def isNon : Val → Bool
  | .non => true
  | _ => false
def cIsN : Op := fun x y M => match y with
  | .non => some (.bl (isNon x), M)
  | _ => none
def cNotN : Op := fun x y M => match y with
  | .non => some (.bl (!isNon x), M)
  | _ => none

/-- things that are found by == at once -/
def flat : Val → Bool
  | .non => true
  | .bl _ => true
  | .int _ => true
  | .str _ => true
  | _ => false
def eqF : Val → Val → Bool
  | .non, .non => true
  | .bl a, .bl b => a == b
  | .int a, .int b => a == b
  | .str a, .str b => a == b
  | .bl a, .int b => b2i a == b
  | .int a, .bl b => a == b2i b
  | _, _ => false
/-- a list's things, a tuple's -/
def seqOf (M : Store) : Val → Option (List Val)
  | .ref n => lstAt M n
  | .tup xs => some xs
  | _ => none
def cInG (neg : Bool) : Op := fun x y M => match seqOf M y with
  | some xs => if flat x = true ∧ xs.all flat = true then some (.bl (if neg then !(xs.any fun y => eqF y x) else xs.any fun y => eqF y x), M) else none
  | none => none
def cIn : Op := cInG false
def cNotIn : Op := cInG true

def eAnd (a b : E) : E := fun ρ M => (a ρ M).bind fun x M1 => match x with
  | .bl true => b ρ M1
  | .bl false => .ok (.bl false) M1
  | _ => .bad
def eOr (a b : E) : E := fun ρ M => (a ρ M).bind fun x M1 => match x with
  | .bl true => .ok (.bl true) M1
  | .bl false => b ρ M1
  | _ => .bad
def eNot (a : E) : E := fun ρ M => (a ρ M).bind fun x M1 => match x with
  | .bl c => .ok (.bl (!c)) M1
  | _ => .bad
/-- a op b op' c -/
def eChain (f g : Op) (a b c : E) : E := fun ρ M => (a ρ M).bind fun x M1 => (b ρ M1).bind fun y M2 => (R.of (f x y M2)).bind fun r M3 => match r with
  | .bl true => (c ρ M3).bind fun z M4 => R.of (g y z M4)
  | .bl false => .ok (.bl false) M3
  | _ => .bad
def eTup (es : List E) : E := fun ρ M => (evL es ρ M).bind fun vs M1 => if vs.length ≤ szLine then .ok (.tup vs) M1 else .bad
def eLst (es : List E) : E := fun ρ M => (evL es ρ M).bind fun vs M1 => if vs.length ≤ szLine then R.of (alloc (.lst vs) M1) else .bad
/-- the place that an index names -/
def atIx (n : Nat) (i : Int) : Option Nat := if 0 ≤ i then (if i < n then some i.toNat else none) else (if -(n : Int) ≤ i then some (i + n).toNat else none)
def atI {α : Type} (xs : List α) (i : Int) : Option α := (atIx xs.length i).bind fun k => xs[k]?
def oIx : Op
  | .tup xs, .int i, M => (atI xs i).map fun v => (v, M)
  | .ref n, .int i, M => match lstAt M n with
    | some xs => (atI xs i).map fun v => (v, M)
    | none => none
  | _, _, _ => none
def eCall (F : Fn) (es : List E) : E := fun ρ M => (evL es ρ M).bind fun vs M1 => F vs M1

/-! ### built-in functions -/
def uAbs : U
  | .int i, M => some (.int (if i < 0 then -i else i), M)
  | _, _ => none
def uLen : U
  | .tup xs, M => some (.int xs.length, M)
  | .str s, M => if s.length ≤ szLine then some (.int s.length, M) else none
  | .ref n, M => match lstAt M n with
    | some xs => some (.int xs.length, M)
    | none => none
  | _, _ => none
def uList : U := fun v M => match seqOf M v with
  | some xs => alloc (.lst xs) M
  | none => none
def uTup : U
  | .ref n, M => match lstAt M n with
    | some xs => some (.tup xs, M)
    | none => none
  | .tup xs, M => some (.tup xs, M)
  | _, _ => none
def toBl : Val → Option Bool
  | .bl b => some b
  | _ => none
def uAllG (g : List Bool → Bool) : U
  | .ref n, M => match lstAt M n with
    | some xs => match mapO toBl xs with
      | some bs => some (.bl (g bs), M)
      | none => none
    | none => none
  | _, _ => none
def uAll : U := uAllG fun bs => bs.all id
def uAny : U := uAllG fun bs => bs.any id
def uInt : U
  | .int i, M => some (.int i, M)
  | .bl b, M => some (.int (if b then 1 else 0), M)
  | _, _ => none
/-- a part, from lo to hi -/
def cutIx (n d : Nat) : Option Int → Nat
  | none => d
  | some v => if v < 0 then ((v + n) : Int).toNat else min v.toNat n
def cut {α : Type} (xs : List α) (lo hi : Option Int) : List α := (xs.drop (cutIx xs.length 0 lo)).take (cutIx xs.length xs.length hi - cutIx xs.length 0 lo)
def ePart (o : Option E) (ρ : Env) (M : Store) : R (Option Int) := match o with
  | none => .ok none M
  | some e => (e ρ M).bind fun v M1 => match v with
    | .int i => .ok (some i) M1
    | _ => .bad
def cutOf (v : Val) (lo hi : Option Int) (M : Store) : P := match v with
  | .ref n => match lstAt M n with
    | some xs => alloc (.lst (cut xs lo hi)) M
    | none => none
  | .tup xs => some (.tup (cut xs lo hi), M)
  | .str s => if s.length ≤ szLine then some (.str (cut s lo hi), M) else none
  | _ => none
def eSl (e : E) (lo hi : Option E) : E := fun ρ M => (e ρ M).bind fun v M1 => (ePart lo ρ M1).bind fun l M2 => (ePart hi ρ M2).bind fun h M3 => R.of (cutOf v l h M3)
/-- a value's type -/
def tyName (M : Store) : Val → Option String
  | .non => some "NoneType"
  | .bl _ => some "bool"
  | .int _ => some "int"
  | .str _ => some "str"
  | .tup _ => some "tuple"
  | .exc _ => none
  | .ref n => match M[n]? with
    | some (.lst _) => some "list"
    | some (.ro _) => some "list"
    | some (.dic _) => some "dict"
    | some (.rod _) => some "dict"
    | _ => none
/-- a method of the type t's -/
def isTy (t : String) (v : Val) (M : Store) : Bool := decide (tyName M v = some t)
def eM0 (t : String) (f : U) (a : E) : E := fun ρ M => (a ρ M).bind fun x M1 => if isTy t x M1 = true then R.of (f x M1) else .bad
def eM1 (t : String) (f : Op) (a b : E) : E := fun ρ M => (a ρ M).bind fun x M1 => if isTy t x M1 = true then (b ρ M1).bind fun y M2 => R.of (f x y M2) else .bad
def eM2 (t : String) (f : Tri) (a b c : E) : E := fun ρ M => (a ρ M).bind fun x M1 => if isTy t x M1 = true then (b ρ M1).bind fun y M2 => (c ρ M2).bind fun z M3 => R.of (f x y z M3) else .bad
/-- is a thing of the type a one of b (built-in types; classes of errors have none of these) -/
def isT (a b : String) : Bool := a == b || (a == "bool" && b == "int")
/-- is an error of the class c one of d -/
def isX (c d : String) : Bool := c == d || d == "PlaneError" || d == "ValueError"
def uIs (ts : List String) : U := fun v M => match v with
  | .exc c => some (.bl (ts.any (isX c)), M)
  | v => match tyName M v with
    | some a => some (.bl (ts.any (isT a)), M)
    | none => none

/-! ### statements -/
inductive RS where
  | nx (ρ : Env) (M : Store)
  | ret (v : Val) (M : Store)
  | bk (ρ : Env) (M : Store)
  | ct (ρ : Env) (M : Store)
  | exc (c : String) (ρ : Env) (M : Store)
  | bad
abbrev St := Env → Store → RS
/-- an expression's value, for a statement -/
def R.st {α : Type} (r : R α) (ρ : Env) (f : α → Store → RS) : RS := match r with
  | .ok a M => f a M
  | .exc c M => .exc c ρ M
  | .bad => .bad
@[simp] theorem R.st_ok {α : Type} (a : α) (M : Store) (ρ : Env) (f : α → Store → RS) : (R.ok a M).st ρ f = f a M := rfl
@[simp] theorem R.st_exc {α : Type} (c : String) (M : Store) (ρ : Env) (f : α → Store → RS) : (R.exc c M : R α).st ρ f = .exc c ρ M := rfl
@[simp] theorem R.st_bad {α : Type} (ρ : Env) (f : α → Store → RS) : (R.bad : R α).st ρ f = .bad := rfl
def RS.andThen (r : RS) (f : St) : RS := match r with
  | .nx ρ M => f ρ M
  | r => r

/-- where a value goes -/
abbrev Tg := Val → St
def tName (i : Nat) : Tg := fun v ρ M => .nx (ρ.set i (some v)) M
def tAll : List Tg → List Val → St
  | [], [], ρ, M => .nx ρ M
  | t :: ts, v :: vs, ρ, M => (t v ρ M).andThen (tAll ts vs)
  | _, _, _, _ => .bad
/-- a, b, .. = a tuple, a list -/
def tTup (ts : List Tg) : Tg := fun v ρ M => match seqOf M v with
  | some xs => if xs.length = ts.length then tAll ts xs ρ M else .bad
  | none => .bad
/-- what o[i] = v makes of the store -/
def setIt : Val → Val → Val → Store → Option Store
  | .ref n, .int k, v, M => match M[n]? with
    | some (.lst xs) => (atIx xs.length k).map fun j => M.set n (.lst (xs.set j v))
    | _ => none
  | _, _, _, _ => none
def tSub (o i : E) : Tg := fun v ρ M => match o ρ M with
  | .ok x M1 => match i ρ M1 with
    | .ok y M2 => match setIt x y v M2 with
      | some M3 => .nx ρ M3
      | none => .bad
    | _ => .bad
  | _ => .bad

def sPass : St := fun ρ M => .nx ρ M
def sCt : St := fun ρ M => .ct ρ M
def sBk : St := fun ρ M => .bk ρ M
def sSeq (a b : St) : St := fun ρ M => (a ρ M).andThen b
/-- a store's outcome -/
def RS.tg : RS → RS
  | .nx ρ M => .nx ρ M
  | _ => .bad
def sAsg (t : Tg) (e : E) : St := fun ρ M => (e ρ M).st ρ fun v M1 => (t v ρ M1).tg
/-- x, y = a, b -/
def sPar (i j : Nat) (a b : E) : St := fun ρ M => (evL [a, b] ρ M).st ρ fun vs M1 => match vs with
  | [v, w] => .nx ((ρ.set i (some v)).set j (some w)) M1
  | _ => .bad
def sDrop (e : E) : St := fun ρ M => (e ρ M).st ρ fun _ M1 => .nx ρ M1
def sRet (e : E) : St := fun ρ M => (e ρ M).st ρ fun v M1 => .ret v M1
def sRaise (c : String) : St := fun ρ M => .exc c ρ M
def sIf (c : E) (a b : St) : St := fun ρ M => (c ρ M).st ρ fun v M1 => match v with
  | .bl true => a ρ M1
  | .bl false => b ρ M1
  | _ => .bad
/-- turns that a while may take -/
def whileLine : Nat := 1099511627776
def sWhileN (c : E) (b : St) : Nat → St
  | 0, _, _ => .bad
  | k + 1, ρ, M => (c ρ M).st ρ fun v M1 => match v with
    | .bl false => .nx ρ M1
    | .bl true => match b ρ M1 with
      | .nx ρ' M' => sWhileN c b k ρ' M'
      | .ct ρ' M' => sWhileN c b k ρ' M'
      | .bk ρ' M' => .nx ρ' M'
      | r => r
    | _ => .bad
def sWhile (c : E) (b : St) : St := sWhileN c b whileLine

/-- what is walked: how many turns, the thing at a turn, whether it ends there -/
structure Itr where
  n : Nat
  nxt : Nat → Store → Option Val
  fin : Store → Bool
abbrev Src := Env → Store → R Itr
/-- the list at n, that had so many things -/
def itList (n len : Nat) : Itr := ⟨len, fun i M => (lstAt M n).bind fun ys => ys[i]?, fun M => match lstAt M n with
    | some ys => decide (ys.length ≤ len)
    | none => false⟩
/-- a sequence that is walked -/
def itSeq (w : Val) (len : Nat) : Itr := ⟨len, fun i M => (seqOf M w).bind fun ys => ys[i]?, fun M => match seqOf M w with
    | some ys => decide (ys.length ≤ len)
    | none => false⟩
def iList (e : E) : Src := fun ρ M => (e ρ M).bind fun v M1 => match seqOf M1 v with
  | some xs => .ok (itSeq v xs.length) M1
  | none => .bad
/-- index and thing, of a list -/
def itEnum (n len : Nat) : Itr := ⟨len, fun i M => (lstAt M n).bind fun ys => ys[i]?.map fun y => .tup [.int i, y], fun M => match lstAt M n with
    | some ys => decide (ys.length ≤ len)
    | none => false⟩
def iEnum (e : E) : Src := fun ρ M => (e ρ M).bind fun v M1 => match v with
  | .ref n => match lstAt M1 n with
    | some xs => .ok (itEnum n xs.length) M1
    | none => .bad
  | _ => .bad
def sameKind : Val → Val → Bool
  | .ref _, .ref _ => true
  | .tup _, .tup _ => true
  | _, _ => false
def itZip (v w : Val) (len : Nat) : Itr := ⟨len, fun i M => match seqOf M v, seqOf M w with
    | some xs, some ys => match xs[i]?, ys[i]? with
      | some x, some y => some (.tup [x, y])
      | _, _ => none
    | _, _ => none, fun M => match seqOf M v, seqOf M w with
    | some xs, some ys => decide (xs.length ≤ len) || decide (ys.length ≤ len)
    | _, _ => false⟩
def iZip (a b : E) : Src := fun ρ M => (a ρ M).bind fun v M1 => (b ρ M1).bind fun w M2 => if sameKind v w = true then (match seqOf M2 v, seqOf M2 w with
    | some xs, some ys => .ok (itZip v w (min xs.length ys.length)) M2
    | _, _ => .bad) else .bad
def itRev (w : Val) (len : Nat) : Itr := ⟨len, fun i M => (seqOf M w).bind fun ys => ys[len - 1 - i]?, fun _ => true⟩
def iRev (e : E) : Src := fun ρ M => (e ρ M).bind fun v M1 => match seqOf M1 v with
  | some xs => .ok (itRev v xs.length) M1
  | none => .bad
def iRange1 (a : E) : Src := fun ρ M => (a ρ M).bind fun v M1 => match v with
  | .int j => if -(2 ^ 62) ≤ j ∧ j < 2 ^ 62 then .ok ⟨j.toNat, fun i _ => some (.int (0 + (i : Int))), fun _ => true⟩ M1 else .bad
  | _ => .bad
def iRange2 (a b : E) : Src := fun ρ M => (a ρ M).bind fun u M1 => (b ρ M1).bind fun v M2 => match u, v with
  | .int i, .int j => if -(2 ^ 62) ≤ i ∧ i < 2 ^ 62 ∧ -(2 ^ 62) ≤ j ∧ j < 2 ^ 62 then .ok ⟨(j - i).toNat, fun k _ => some (.int (i + (k : Int))), fun _ => true⟩ M2 else .bad
  | _, _ => .bad
def sForN (it : Itr) (t : Tg) (b : St) : Nat → Nat → St
  | 0, _, ρ, M => if it.fin M then .nx ρ M else .bad
  | k + 1, i, ρ, M => match it.nxt i M with
    | none => .bad
    | some v => match t v ρ M with
      | .nx ρ1 M1 => match b ρ1 M1 with
        | .nx ρ' M' => sForN it t b k (i + 1) ρ' M'
        | .ct ρ' M' => sForN it t b k (i + 1) ρ' M'
        | .bk ρ' M' => .nx ρ' M'
        | r => r
      | _ => .bad
def sFor (s : Src) (t : Tg) (b : St) : St := fun ρ M => (s ρ M).st ρ fun it M1 => sForN it t b it.n 0 ρ M1

/-- [e for t in s if c]: vs the slots of the block's own names -/
def wipe (ρ : Env) : List Nat → Env
  | [] => ρ
  | v :: vs => (wipe ρ vs).set v none
def lcN (it : Itr) (t : Tg) (c e : E) (ρ : Env) : Nat → Nat → List Val → Store → R (List Val)
  | 0, _, acc, M => if it.fin M then .ok acc M else .bad
  | k + 1, i, acc, M => match it.nxt i M with
    | none => .bad
    | some v => match t v ρ M with
      | .nx ρ1 M1 => match c ρ1 M1 with
        | .ok (.bl true) M2 => match e ρ1 M2 with
          | .ok y M3 => lcN it t c e ρ k (i + 1) (acc ++ [y]) M3
          | _ => .bad
        | .ok (.bl false) M2 => lcN it t c e ρ k (i + 1) acc M2
        | _ => .bad
      | _ => .bad
def eLc (s : Src) (t : Tg) (vs : List Nat) (c e : E) : E := fun ρ M => (s ρ M).bind fun it M1 => if it.n ≤ szLine then (lcN it t c e (wipe ρ vs) it.n 0 [] M1).bind fun ys M2 => R.of (alloc (.lst ys) M2) else .bad
/-- an except clause: classes, the name's slot, the suite -/
structure Hd where
  tup : Bool
  cs : List String
  slot : Option Nat
  st : St
/-- a suite may raise nothing -/
def RS.calm : RS → RS
  | .exc _ _ _ => .bad
  | r => r
def setO (o : Option Nat) (c : String) (ρ : Env) : Env := match o with
  | some i => ρ.set i (some (.exc c))
  | none => ρ
def unO (o : Option Nat) (ρ : Env) : Env := match o with
  | some i => ρ.set i none
  | none => ρ
/-- the name goes behind the suite -/
def RS.drop (o : Option Nat) : RS → RS
  | .nx ρ M => .nx (unO o ρ) M
  | .bk ρ M => .bk (unO o ρ) M
  | .ct ρ M => .ct (unO o ρ) M
  | r => r
def handle : List Hd → String → St
  | [], c, ρ, M => .exc c ρ M
  | h :: r, c, ρ, M => if h.cs.any (isX c) = true then (if h.tup = true then .bad else ((h.st (setO h.slot c ρ) M).calm).drop h.slot) else handle r c ρ M
def sTry (b : St) (hs : List Hd) (els : St) : St := fun ρ M => match b ρ M with
  | .exc c ρ' M' => handle hs c ρ' M'
  | .nx ρ' M' => els ρ' M'
  | r => r

/-- a def: parameters, names, body -/
def mkFn (np nn : Nat) (b : St) : Fn := fun vs M => if vs.length = np then match b (vs.map some ++ List.replicate (nn - np) none) M with
  | .nx _ M1 => .ok .non M1
  | .ret v M1 => .ok v M1
  | .exc c _ M1 => .exc c M1
  | _ => .bad
  else .bad
end Mn
end
section
set_option Elab.async false
set_option autoImplicit false
set_option linter.all false
set_option maxRecDepth 100000
set_option maxHeartbeats 1000000
/-! What the machine does with a text is what the small language says: the relation of states, and a rule for each form. -/
namespace MnS
open PySem PySem.Spec PyProof.Rows L2
open Mn (Val Cell Store E Fn Op U Itr Src Tg)

/-! ### how values and stores stand in the machine -/
/-- where things stand: the written part, the classes by name -/
structure Tb where
  K : PySem.W.Frag
  ca : String → Addr
  xs : List String
def sOf (s : List Nat) : Str := ⟨s.toArray⟩
/-- a tuple that never changes: tracked, or of the written part -/
def TupAt (K : PySem.W.Frag) (H : Hp) (a : Addr) (xs : List V) : Prop := H a = some (.tup xs) ∨
  ∃ (o : Obj) (its : Array Value) (n : Nat), K.lookup a = some o ∧ o.cls = .type "tuple" ∧ o.data = .seq its n ∧ its.size ≤ sizeLine ∧ Vals xs its.toList
theorem TupAt.sq {K : PySem.W.Frag} {H : Hp} {a : Addr} {xs : List V} (h : TupAt K H a xs) : SqT K H a xs := by
  rcases h with h | h
  · exact .inl (.inl h)
  · exact .inr h
/-- an exception that is held: its class -/
def excPhi (C a : Addr) : Heap → Prop := fun h => ∃ o vs, h.get? a = some o ∧ o.cls = .ref C ∧ o.dict = none ∧ o.data = .fields vs
mutual
inductive Rel (T : Tb) (R : List Addr) (H : Hp) : Val → V → Prop
  | non : Rel T R H .non .non
  | bl (b : Bool) : Rel T R H (.bl b) (.bl b)
  | int (i : Int) : Rel T R H (.int i) (.int i)
  | str (s : List Nat) : Rel T R H (.str s) (.str (sOf s))
  | tup {xs : List Val} {a : Addr} {vs : List V} : TupAt T.K H a vs → Rels T R H xs vs → Rel T R H (.tup xs) (.ref a)
  | ref {n : Nat} {a : Addr} : R[n]? = some a → Rel T R H (.ref n) (.ref a)
  | exc {c : String} {a : Addr} : c ∈ T.xs → H a = some (.ext (excPhi (T.ca c) a)) → Rel T R H (.exc c) (.ref a)
inductive Rels (T : Tb) (R : List Addr) (H : Hp) : List Val → List V → Prop
  | nil : Rels T R H [] []
  | cons {x : Val} {v : V} {xs : List Val} {vs : List V} : Rel T R H x v → Rels T R H xs vs → Rels T R H (x :: xs) (v :: vs)
end
/-- what never changes stands -/
structure Keep (R R' : List Addr) (H H' : Hp) : Prop where
  tup : ∀ a xs, H a = some (.tup xs) → H' a = some (.tup xs)
  ext : ∀ a φ, H a = some (.ext φ) → H' a = some (.ext φ)
  fr : ∀ a o, H a = some o → a ∉ R → H' a = some o ∧ a ∉ R'
theorem Keep.refl {R : List Addr} (H : Hp) : Keep R R H H := ⟨fun _ _ h => h, fun _ _ h => h, fun _ _ h n => ⟨h, n⟩⟩
theorem Keep.trans {R R1 R2 : List Addr} {H H1 H2 : Hp} (a : Keep R R1 H H1) (b : Keep R1 R2 H1 H2) : Keep R R2 H H2 :=
  ⟨fun x y h => b.tup x y (a.tup x y h), fun x y h => b.ext x y (a.ext x y h), fun x o h n => let ⟨h1, n1⟩ := a.fr x o h n; b.fr x o h1 n1⟩
/-- a store at something that is neither -/
theorem Keep.upd {R : List Addr} {H : Hp} {a : Addr} {o : HO} (m : a ∈ R) (h : (∀ xs, H a ≠ some (.tup xs)) ∧ ∀ φ, H a ≠ some (.ext φ)) : Keep R R H (upd H a o) := by
  refine ⟨fun b xs e => ?_, fun b φ e => ?_, fun b u e n => ⟨?_, n⟩⟩
  · have n : b ≠ a := fun z => h.1 xs (z ▸ e)
    rw [upd_ne n]
    exact e
  · have n : b ≠ a := fun z => h.2 φ (z ▸ e)
    rw [upd_ne n]
    exact e
  · have n' : b ≠ a := fun z => n (z ▸ m)
    rw [upd_ne n']
    exact e
theorem Keep.new {R : List Addr} {H : Hp} {a : Addr} {o : HO} (h : H a = none) : Keep R R H (L2.upd H a o) := by
  have k : ∀ b u, H b = some u → L2.upd H a o b = some u := fun b u e => by
    rw [upd_ne (ne_of_none e h)]
    exact e
  exact ⟨fun b xs e => k b _ e, fun b φ e => k b _ e, fun b u e n => ⟨k b u e, n⟩⟩
theorem Keep.cell {R : List Addr} {H : Hp} {a : Addr} {o : HO} (h : H a = none) : Keep R (R ++ [a]) H (L2.upd H a o) := by
  have k : ∀ b u, H b = some u → L2.upd H a o b = some u := fun b u e => by
    rw [upd_ne (ne_of_none e h)]
    exact e
  refine ⟨fun b xs e => k b _ e, fun b φ e => k b _ e, fun b u e n => ⟨k b u e, fun z => ?_⟩⟩
  rcases List.mem_append.mp z with z | z
  · exact n z
  · exact ne_of_none e h (by simpa using z)
theorem TupAt.keep {K : PySem.W.Frag} {R R' : List Addr} {H H' : Hp} {a : Addr} {xs : List V} (h : TupAt K H a xs) (k : Keep R R' H H') : TupAt K H' a xs := by
  rcases h with h | h
  · exact .inl (k.tup _ _ h)
  · exact .inr h
theorem pre_get {R R' : List Addr} (p : R <+: R') {n : Nat} {a : Addr} (h : R[n]? = some a) : R'[n]? = some a := by
  obtain ⟨t, rfl⟩ := p
  have hn : n < R.length := (List.getElem?_eq_some_iff.mp h).1
  rw [List.getElem?_append_left hn]
  exact h
/-- what never changes stands, no more -/
structure Stay (H H' : Hp) : Prop where
  tup : ∀ a xs, H a = some (.tup xs) → H' a = some (.tup xs)
  ext : ∀ a φ, H a = some (.ext φ) → H' a = some (.ext φ)
theorem Stay.refl (H : Hp) : Stay H H := ⟨fun _ _ h => h, fun _ _ h => h⟩
theorem Keep.st {R R' : List Addr} {H H' : Hp} (k : Keep R R' H H') : Stay H H' := ⟨k.tup, k.ext⟩
theorem TupAt.stay {K : PySem.W.Frag} {H H' : Hp} {a : Addr} {xs : List V} (h : TupAt K H a xs) (k : Stay H H') : TupAt K H' a xs := by
  rcases h with h | h
  · exact .inl (k.tup _ _ h)
  · exact .inr h
mutual
theorem Rel.stay {T : Tb} {R R' : List Addr} {H H' : Hp} (p : R <+: R') (k : Stay H H') : ∀ {x : Val} {v : V}, Rel T R H x v → Rel T R' H' x v
  | _, _, .non => .non
  | _, _, .bl b => .bl b
  | _, _, .int i => .int i
  | _, _, .str s => .str s
  | _, _, .tup h r => .tup (h.stay k) (Rels.stay p k r)
  | _, _, .ref h => .ref (pre_get p h)
  | _, _, .exc m h => .exc m (k.ext _ _ h)
theorem Rels.stay {T : Tb} {R R' : List Addr} {H H' : Hp} (p : R <+: R') (k : Stay H H') : ∀ {xs : List Val} {vs : List V}, Rels T R H xs vs → Rels T R' H' xs vs
  | _, _, .nil => .nil
  | _, _, .cons h r => .cons (Rel.stay p k h) (Rels.stay p k r)
end
theorem Rel.mono {T : Tb} {R R' : List Addr} {H H' : Hp} (p : R <+: R') (k : Keep R R' H H') {x : Val} {v : V} (h : Rel T R H x v) : Rel T R' H' x v := h.stay p k.st
theorem Rels.mono {T : Tb} {R R' : List Addr} {H H' : Hp} (p : R <+: R') (k : Keep R R' H H') {xs : List Val} {vs : List V} (h : Rels T R H xs vs) : Rels T R' H' xs vs := h.stay p k.st
theorem Rels.length {T : Tb} {R : List Addr} {H : Hp} : ∀ {xs : List Val} {vs : List V}, Rels T R H xs vs → xs.length = vs.length
  | _, _, .nil => rfl
  | _, _, .cons _ r => congrArg Nat.succ (Rels.length r)
theorem Rels.get {T : Tb} {R : List Addr} {H : Hp} : ∀ {xs : List Val} {vs : List V} {i : Nat} {x : Val}, Rels T R H xs vs → xs[i]? = some x → ∃ v, vs[i]? = some v ∧ Rel T R H x v
  | _, _, _, _, .nil, e => by cases e
  | _, _, 0, _, .cons h _, e => by
    cases e
    exact ⟨_, rfl, h⟩
  | _, _, i + 1, _, .cons _ r, e => Rels.get (i := i) r e
theorem Rels.append {T : Tb} {R : List Addr} {H : Hp} : ∀ {xs ys : List Val} {vs ws : List V}, Rels T R H xs vs → Rels T R H ys ws → Rels T R H (xs ++ ys) (vs ++ ws)
  | _, _, _, _, .nil, s => s
  | _, _, _, _, .cons h r, s => .cons h (Rels.append r s)
theorem Rels.set {T : Tb} {R : List Addr} {H : Hp} {x : Val} {v : V} (q : Rel T R H x v) : ∀ {xs : List Val} {vs : List V} (i : Nat), Rels T R H xs vs → Rels T R H (xs.set i x) (vs.set i v)
  | _, _, _, .nil => .nil
  | _, _, 0, .cons _ r => .cons q r
  | _, _, i + 1, .cons h r => .cons h (Rels.set q i r)

/-- a dict's keys -/
def keyOf : Val → Option Key
  | .int i => some (.inl i)
  | .str s => some (.inr (sOf s))
  | _ => none
inductive RelK (T : Tb) (R : List Addr) (H : Hp) : List (Val × Val) → List (Key × V) → Prop
  | nil : RelK T R H [] []
  | cons {k x : Val} {q : Key} {v : V} {xs : List (Val × Val)} {vs : List (Key × V)} : keyOf k = some q → Rel T R H x v → RelK T R H xs vs → RelK T R H ((k, x) :: xs) ((q, v) :: vs)
theorem RelK.stay {T : Tb} {R R' : List Addr} {H H' : Hp} (p : R <+: R') (k : Stay H H') : ∀ {xs : List (Val × Val)} {vs : List (Key × V)}, RelK T R H xs vs → RelK T R' H' xs vs
  | _, _, .nil => .nil
  | _, _, .cons e h r => .cons e (h.stay p k) (RelK.stay p k r)
/-- an object's attributes -/
inductive RelF (T : Tb) (R : List Addr) (H : Hp) : List (String × Val) → List (Str × V) → Prop
  | nil : RelF T R H [] []
  | cons {f : String} {x : Val} {v : V} {xs : List (String × Val)} {vs : List (Str × V)} : Rel T R H x v → RelF T R H xs vs → RelF T R H ((f, x) :: xs) ((Str.ofString f, v) :: vs)
theorem RelF.stay {T : Tb} {R R' : List Addr} {H H' : Hp} (p : R <+: R') (k : Stay H H') : ∀ {xs : List (String × Val)} {vs : List (Str × V)}, RelF T R H xs vs → RelF T R' H' xs vs
  | _, _, .nil => .nil
  | _, _, .cons h r => .cons (h.stay p k) (RelF.stay p k r)
/-- what stands at a cell's address -/
def CellAt (T : Tb) (R : List Addr) (H : Hp) (a : Addr) : Cell → Prop
  | .lst xs => ∃ vs, H a = some (.lst vs) ∧ Rels T R H xs vs
  | .ro xs => ∃ o vs, H a = some (.frz o (.lst vs)) ∧ Rels T R H xs vs
  | .dic kvs => ∃ vs, H a = some (.dK vs) ∧ RelK T R H kvs vs
  | .rod kvs => ∃ o vs, H a = some (.frz o (.dK vs)) ∧ RelK T R H kvs vs
  | .obj c fs => ∃ dx vs, H a = some (.ins (T.ca c) dx vs) ∧ RelF T R H fs vs
theorem CellAt.stay {T : Tb} {R R' : List Addr} {H H' : Hp} {a : Addr} (p : R <+: R') (k : Stay H H') (e : H' a = H a) : ∀ {c : Cell}, CellAt T R H a c → CellAt T R' H' a c
  | .lst _, ⟨vs, h, r⟩ => ⟨vs, e.trans h, r.stay p k⟩
  | .ro _, ⟨o, vs, h, r⟩ => ⟨o, vs, e.trans h, r.stay p k⟩
  | .dic _, ⟨vs, h, r⟩ => ⟨vs, e.trans h, r.stay p k⟩
  | .rod _, ⟨o, vs, h, r⟩ => ⟨o, vs, e.trans h, r.stay p k⟩
  | .obj _ _, ⟨dx, vs, h, r⟩ => ⟨dx, vs, e.trans h, r.stay p k⟩
theorem CellAt.mono {T : Tb} {R R' : List Addr} {H H' : Hp} {a : Addr} (p : R <+: R') (k : Keep R R' H H') (e : H' a = H a) {c : Cell} (h : CellAt T R H a c) : CellAt T R' H' a c := h.stay p k.st e
theorem CellAt.some {T : Tb} {R : List Addr} {H : Hp} {a : Addr} : ∀ {c : Cell}, CellAt T R H a c → ∃ o, H a = some o ∧ (∀ xs, o ≠ .tup xs) ∧ ∀ φ, o ≠ .ext φ
  | .lst _, ⟨vs, h, r⟩ => ⟨_, h, fun _ z => (by cases z), fun _ z => (by cases z)⟩
  | .ro _, ⟨o, vs, h, r⟩ => ⟨_, h, fun _ z => (by cases z), fun _ z => (by cases z)⟩
  | .dic _, ⟨vs, h, r⟩ => ⟨_, h, fun _ z => (by cases z), fun _ z => (by cases z)⟩
  | .rod _, ⟨o, vs, h, r⟩ => ⟨_, h, fun _ z => (by cases z), fun _ z => (by cases z)⟩
  | .obj _ _, ⟨dx, vs, h, r⟩ => ⟨_, h, fun _ z => (by cases z), fun _ z => (by cases z)⟩
/-- the store stands in the heap, cell i at R's i-th address -/
structure Sim (T : Tb) (R : List Addr) (H : Hp) (M : Store) : Prop where
  len : R.length = M.length
  nd : R.Nodup
  cell : ∀ (n : Nat) (a : Addr) (c : Cell), R[n]? = some a → M[n]? = some c → CellAt T R H a c
section
variable {T : Tb} {R R' : List Addr} {H H' : Hp} {M M' : Store}
theorem Sim.at (S : Sim T R H M) {n : Nat} {c : Cell} (h : M[n]? = some c) : ∃ a, R[n]? = some a ∧ CellAt T R H a c := by
  have hn : n < R.length := by
    rw [S.len]
    exact (List.getElem?_eq_some_iff.mp h).1
  exact ⟨R[n], List.getElem?_eq_getElem hn, S.cell n _ c (List.getElem?_eq_getElem hn) h⟩
theorem Sim.of (S : Sim T R H M) {n : Nat} {a : Addr} (h : R[n]? = some a) : ∃ c, M[n]? = some c ∧ CellAt T R H a c := by
  have hn : n < M.length := by
    rw [← S.len]
    exact (List.getElem?_eq_some_iff.mp h).1
  exact ⟨M[n], List.getElem?_eq_getElem hn, S.cell n _ _ h (List.getElem?_eq_getElem hn)⟩
theorem Sim.inj (S : Sim T R H M) {m n : Nat} {a : Addr} (h : R[m]? = some a) (h' : R[n]? = some a) : m = n := by
  obtain ⟨h1, e1⟩ := List.getElem?_eq_some_iff.mp h
  obtain ⟨h2, e2⟩ := List.getElem?_eq_some_iff.mp h'
  exact (List.getElem_inj S.nd).mp (e1.trans e2.symm)
/-- the heap has more -/
theorem Sim.stay (S : Sim T R H M) (k : Stay H H') (e : ∀ (n : Nat) (a : Addr), R[n]? = some a → H' a = H a) : Sim T R H' M :=
  ⟨S.len, S.nd, fun n a c h1 h2 => (S.cell n a c h1 h2).stay (List.prefix_refl R) k (e n a h1)⟩
theorem Sim.keep (S : Sim T R H M) (k : Keep R R H H') (e : ∀ (n : Nat) (a : Addr), R[n]? = some a → H' a = H a) : Sim T R H' M := S.stay k.st e
/-- something new that is no cell -/
theorem Sim.other (S : Sim T R H M) {p : Addr} {o : HO} (hp : H p = none) : Sim T R (upd H p o) M :=
  S.keep (Keep.new hp) fun n a h => by
    obtain ⟨c, _, hc⟩ := S.of h
    obtain ⟨u, hu, _⟩ := hc.some
    rw [upd_ne (ne_of_none hu hp)]
/-- a new cell -/
theorem Sim.new (S : Sim T R H M) {p : Addr} {o : HO} {c : Cell} (hp : H p = none) (hc : CellAt T (R ++ [p]) (upd H p o) p c) : Sim T (R ++ [p]) (upd H p o) (M ++ [c]) := by
  have np : ∀ (n : Nat) (a : Addr), R[n]? = some a → a ≠ p := fun n a h => by
    obtain ⟨c, _, hc⟩ := S.of h
    obtain ⟨u, hu, _⟩ := hc.some
    exact ne_of_none hu hp
  refine ⟨by rw [List.length_append, List.length_append, S.len]; rfl, ?_, fun n a d h1 h2 => ?_⟩
  · rw [List.nodup_append]
    refine ⟨S.nd, by simp, fun a ha b hb z => ?_⟩
    obtain ⟨n, hn, e⟩ := List.mem_iff_getElem.mp ha
    have hb : b = p := by simpa using hb
    exact np n a (by rw [List.getElem?_eq_getElem hn, e]) (z.trans hb)
  · by_cases hn : n < R.length
    · rw [List.getElem?_append_left hn] at h1
      rw [List.getElem?_append_left (by rw [← S.len]; exact hn)] at h2
      exact (S.cell n a d h1 h2).mono (List.prefix_append R [p]) (Keep.cell hp) (upd_ne (np n a h1))
    · have hl : n < (R ++ [p]).length := (List.getElem?_eq_some_iff.mp h1).1
      rw [List.length_append] at hl
      have en : n = R.length := by
        have : [p].length = 1 := rfl
        omega
      subst en
      rw [List.getElem?_append_right (Nat.le_refl _), Nat.sub_self] at h1
      rw [S.len, List.getElem?_append_right (Nat.le_refl _), Nat.sub_self] at h2
      cases h1
      cases h2
      exact hc
/-- what stands becomes a cell -/
theorem Sim.adopt (S : Sim T R H M) {p : Addr} {c : Cell} (np : p ∉ R) (hc : CellAt T R H p c) : Sim T (R ++ [p]) H (M ++ [c]) := by
  have g : R <+: R ++ [p] := List.prefix_append R [p]
  refine ⟨by rw [List.length_append, List.length_append, S.len]; rfl, ?_, fun n a d h1 h2 => ?_⟩
  · rw [List.nodup_append]
    refine ⟨S.nd, by simp, fun a ha b hb z => ?_⟩
    have hb : b = p := by simpa using hb
    exact np (by rw [← hb, ← z]; exact ha)
  · by_cases hn : n < R.length
    · rw [List.getElem?_append_left hn] at h1
      rw [List.getElem?_append_left (by rw [← S.len]; exact hn)] at h2
      exact (S.cell n a d h1 h2).stay g (Stay.refl H) rfl
    · have hl : n < (R ++ [p]).length := (List.getElem?_eq_some_iff.mp h1).1
      rw [List.length_append] at hl
      have en : n = R.length := by
        have : [p].length = 1 := rfl
        omega
      subst en
      rw [List.getElem?_append_right (Nat.le_refl _), Nat.sub_self] at h1
      rw [S.len, List.getElem?_append_right (Nat.le_refl _), Nat.sub_self] at h2
      cases h1
      cases h2
      exact hc.stay g (Stay.refl H) rfl
/-- an address of a cell is taken -/
theorem Sim.mem (S : Sim T R H M) {p : Addr} (hp : H p = none) : p ∉ R := fun m => by
  obtain ⟨n, hn⟩ := List.mem_iff_getElem?.mp m
  obtain ⟨c, _, hc⟩ := S.of hn
  obtain ⟨u, hu, _⟩ := hc.some
  rw [hp] at hu
  cases hu
/-- a cell is written -/
theorem Sim.write (S : Sim T R H M) {n : Nat} {p : Addr} {o : HO} {c : Cell} (hn : R[n]? = some p) (hc : CellAt T R (upd H p o) p c) : Sim T R (upd H p o) (M.set n c) ∧ Keep R R H (upd H p o) := by
  obtain ⟨d, _, hd⟩ := S.of hn
  obtain ⟨u, hu, u1, u2⟩ := hd.some
  have k : Keep R R H (upd H p o) := Keep.upd (List.mem_of_getElem? hn) ⟨fun xs e => u1 xs (Option.some.inj (hu.symm.trans e)), fun φ e => u2 φ (Option.some.inj (hu.symm.trans e))⟩
  refine ⟨⟨by rw [List.length_set]; exact S.len, S.nd, fun m a d h1 h2 => ?_⟩, k⟩
  by_cases e : m = n
  · subst e
    have hl : m < M.length := by
      rw [← S.len]
      exact (List.getElem?_eq_some_iff.mp hn).1
    rw [List.getElem?_set_self hl] at h2
    cases h2
    rw [hn] at h1
    cases h1
    exact hc
  · rw [List.getElem?_set_ne (Ne.symm e)] at h2
    exact (S.cell m a d h1 h2).mono (List.prefix_refl R) k (upd_ne fun z => e (S.inj h1 (show R[n]? = some a by rw [z]; exact hn)))
end
/-- the slots -/
def EnvR (T : Tb) (R : List Addr) (H : Hp) (ρ : Mn.Env) (σ : L2.St) : Prop := ρ.length = σ.length ∧ ∀ (i : Nat) (v : Val), ρ[i]? = some (some v) → ∃ w, σ[i]? = some (some w) ∧ Rel T R H v w
theorem EnvR.mono {T : Tb} {R R' : List Addr} {H H' : Hp} {ρ : Mn.Env} {σ : L2.St} (h : EnvR T R H ρ σ) (p : R <+: R') (k : Keep R R' H H') : EnvR T R' H' ρ σ :=
  ⟨h.1, fun i v e => let ⟨w, e1, r⟩ := h.2 i v e; ⟨w, e1, r.mono p k⟩⟩
theorem EnvR.set {T : Tb} {R : List Addr} {H : Hp} {ρ : Mn.Env} {σ : L2.St} (h : EnvR T R H ρ σ) {v : Val} {w : V} (r : Rel T R H v w) (i : Nat) : EnvR T R H (ρ.set i (some v)) (σ.set i (some w)) := by
  refine ⟨by rw [List.length_set, List.length_set]; exact h.1, fun j u e => ?_⟩
  by_cases hj : i = j
  · subst hj
    by_cases hi : i < ρ.length
    · rw [List.getElem?_set_self hi] at e
      cases e
      exact ⟨w, List.getElem?_set_self (by rw [← h.1]; exact hi), r⟩
    · rw [List.getElem?_eq_none (by rw [List.length_set]; omega)] at e
      cases e
  · rw [List.getElem?_set_ne hj] at e ⊢
    exact h.2 j u e

/-! ### readings -/
/-- what is wanted where an evaluation ended so -/
def Post (T : Tb) (W : XK) (R : List Addr) (H : Hp) (Q : VK) : Mn.R Val → Prop
  | .ok v M => ∀ R' H' w, R <+: R' → Keep R R' H H' → Sim T R' H' M → Rel T R' H' v w → Q w H'
  | .exc c M => c ∈ T.xs → ∀ R' H', R <+: R' → Keep R R' H H' → Sim T R' H' M → W (.ref (T.ca c)) none H'
  | .bad => False
def PostL (T : Tb) (W : XK) (R : List Addr) (H : Hp) (Q : List V → Hp → Prop) : Mn.R (List Val) → Prop
  | .ok v M => ∀ R' H' w, R <+: R' → Keep R R' H H' → Sim T R' H' M → Rels T R' H' v w → Q w H'
  | .exc c M => c ∈ T.xs → ∀ R' H', R <+: R' → Keep R R' H H' → Sim T R' H' M → W (.ref (T.ca c)) none H'
  | .bad => False
def PostB (T : Tb) (W : XK) (R : List Addr) (H : Hp) (Q : Bool → Hp → Prop) : Mn.R Val → Prop
  | .ok (.bl b) M => ∀ R' H', R <+: R' → Keep R R' H H' → Sim T R' H' M → Q b H'
  | .ok _ _ => False
  | .exc c M => c ∈ T.xs → ∀ R' H', R <+: R' → Keep R R' H H' → Sim T R' H' M → W (.ref (T.ca c)) none H'
  | .bad => False
abbrev at_ (W : WX) (σ : L2.St) : XK := fun cls d H => W cls d σ H
def rdE (T : Tb) (W : WX) (f : E) : TE := fun σ H Q => ∃ R ρ M, EnvR T R H ρ σ ∧ Sim T R H M ∧ Post T (at_ W σ) R H Q (f ρ M)
def rdT (T : Tb) (W : WX) (f : E) : TT := fun σ H Q => ∃ R ρ M, EnvR T R H ρ σ ∧ Sim T R H M ∧ PostB T (at_ W σ) R H Q (f ρ M)
def rdA (T : Tb) (W : WX) (fs : List E) : TA := fun σ H Q => ∃ R ρ M, EnvR T R H ρ σ ∧ Sim T R H M ∧ PostL T (at_ W σ) R H Q (Mn.evL fs ρ M)
/-- a two-place operation by values -/
def rdO (T : Tb) (f : Op) : R2 := fun x y H Q => ∃ R M u v, Sim T R H M ∧ Rel T R H u x ∧ Rel T R H v y ∧ Post T (fun _ _ _ => False) R H Q (Mn.R.of (f u v M))
def rdU (T : Tb) (f : U) : V → Hp → VK → Prop := fun x H Q => ∃ R M u, Sim T R H M ∧ Rel T R H u x ∧ Post T (fun _ _ _ => False) R H Q (Mn.R.of (f u M))
section
variable {T : Tb} {W : WX} {W' : XK} {R R' : List Addr} {H H' : Hp} {Q Q' : VK}
theorem Post.imp {r : Mn.R Val} (h : Post T W' R H Q r) (p : R <+: R') (k : Keep R R' H H') (q : ∀ w H1, Q w H1 → Q' w H1) : Post T W' R' H' Q' r := by
  cases r with
  | ok v M => exact fun R2 H2 w p2 k2 s2 r2 => q _ _ (h R2 H2 w (p.trans p2) (k.trans k2) s2 r2)
  | exc c M => exact fun hc R2 H2 p2 k2 s2 => h hc R2 H2 (p.trans p2) (k.trans k2) s2
  | bad => exact h
/-- from the first part of an evaluation to the rest -/
theorem Post.bind {r : Mn.R Val} {f : Val → Store → Mn.R Val} (h : Post T W' R H Q (r.bind f)) :
    Post T W' R H (fun x H1 => ∃ R1 M1 v, R <+: R1 ∧ Keep R R1 H H1 ∧ Sim T R1 H1 M1 ∧ Rel T R1 H1 v x ∧ Post T W' R1 H1 Q (f v M1)) r := by
  cases r with
  | ok v M => exact fun R1 H1 w p1 k1 s1 r1 => ⟨R1, M, v, p1, k1, s1, r1, Post.imp (r := f v M) h p1 k1 fun _ _ q => q⟩
  | exc c M => exact h
  | bad => exact h
theorem Post.bindL {r : Mn.R (List Val)} {f : List Val → Store → Mn.R Val} (h : Post T W' R H Q (r.bind f)) :
    PostL T W' R H (fun x H1 => ∃ R1 M1 v, R <+: R1 ∧ Keep R R1 H H1 ∧ Sim T R1 H1 M1 ∧ Rels T R1 H1 v x ∧ Post T W' R1 H1 Q (f v M1)) r := by
  cases r with
  | ok v M => exact fun R1 H1 w p1 k1 s1 r1 => ⟨R1, M, v, p1, k1, s1, r1, Post.imp (r := f v M) h p1 k1 fun _ _ q => q⟩
  | exc c M => exact h
  | bad => exact h
theorem rdE_bind {a : E} {f : Val → Store → Mn.R Val} {ρ : Mn.Env} {M : Store} {σ : L2.St} (e : EnvR T R H ρ σ) (s : Sim T R H M) (h : Post T (at_ W σ) R H Q ((a ρ M).bind f)) :
    rdE T W a σ H fun x H1 => ∃ R1 M1 v, EnvR T R1 H1 ρ σ ∧ Sim T R1 H1 M1 ∧ Rel T R1 H1 v x ∧ R <+: R1 ∧ Keep R R1 H H1 ∧ Post T (at_ W σ) R1 H1 Q (f v M1) :=
  ⟨R, ρ, M, e, s, h.bind.imp (List.prefix_refl R) (Keep.refl H) fun _ _ ⟨R1, M1, v, p1, k1, s1, r1, q⟩ => ⟨R1, M1, v, e.mono p1 k1, s1, r1, p1, k1, q⟩⟩
theorem of_noexc {o : Mn.P} (h : Post T W' R H Q (Mn.R.of o)) : Post T (fun _ _ _ => False) R H Q (Mn.R.of o) := by
  cases o with
  | none => exact h
  | some q => exact h
end
theorem PE.imp {X : Cx} {e : Expr} {t t' : TE} (h : PE X e t) (i : ∀ σ H Q, t' σ H Q → t σ H Q) : PE X e t' := ⟨fun pins s σ H Q I q => h.run pins s σ H Q I (i σ H Q q)⟩
theorem PT.imp {X : Cx} {e : Expr} {t t' : TT} (h : PT X e t) (i : ∀ σ H Q, t' σ H Q → t σ H Q) : PT X e t' := ⟨fun pins s σ H Q I q => h.run pins s σ H Q I (i σ H Q q)⟩
theorem PA.imp {X : Cx} {e : List Expr} {t t' : TA} (h : PA X e t) (i : ∀ σ H Q, t' σ H Q → t σ H Q) : PA X e t' := ⟨fun pos pins s σ H Q I q => h.run pos pins s σ H Q I (i σ H Q q)⟩
theorem PS.imp {X : Cx} {e : Stmt} {t t' : TS} (h : PS X e t) (i : ∀ σ H Q, t' Q σ H → t Q σ H) : PS X e t' := ⟨fun pins s σ H Q I q => h.run pins s σ H Q I (i σ H Q q)⟩
theorem PSs.imp {X : Cx} {e : List Stmt} {t t' : TS} (h : PSs X e t) (i : ∀ σ H Q, t' Q σ H → t Q σ H) : PSs X e t' := ⟨fun pins s σ H Q I q => h.run pins s σ H Q I (i σ H Q q)⟩
/-! ### expressions -/
section
variable {X : Cx} {T : Tb} {W : WX} {a b c : Expr} {fa fb fc : E} {pos : Pos}
theorem s_var {i : Nat} (h : PE X a (tVar i)) : PE X a (rdE T W (Mn.eVar i)) := PE.imp h fun σ H Q ⟨R, ρ, M, e, s, p⟩ => by
  unfold Mn.eVar at p
  split at p
  · rename_i v hv
    obtain ⟨w, e1, r⟩ := e.2 i v hv
    exact ⟨w, e1, p R H w (List.prefix_refl R) (Keep.refl H) s r⟩
  · exact p.elim
theorem s_con {v : Val} {w : V} (h : PE X a (tC w)) (r : ∀ R H, Rel T R H v w) : PE X a (rdE T W (Mn.eC v)) := PE.imp h fun σ H Q ⟨R, ρ, M, e, s, p⟩ => p R H w (List.prefix_refl R) (Keep.refl H) s (r R H)
theorem bin_rd {f : Op} : ∀ σ H Q, rdE T W (Mn.eBin f fa fb) σ H Q → tOp (rdO T f) (rdE T W fa) (rdE T W fb) σ H Q := fun σ H Q ⟨R, ρ, M, e, s, p⟩ => by
  obtain ⟨R0, ρ0, M0, e0, s0, p0⟩ := rdE_bind e s p
  refine ⟨R0, ρ0, M0, e0, s0, p0.imp (List.prefix_refl _) (Keep.refl _) fun x H1 ⟨R1, M1, v, e1, s1, r1, pr1, k1, q⟩ => ?_⟩
  obtain ⟨R2, ρ2, M2, e2, s2, p2⟩ := rdE_bind e1 s1 q
  exact ⟨R2, ρ2, M2, e2, s2, p2.imp (List.prefix_refl _) (Keep.refl _) fun y H2 ⟨R3, M3, u, e3, s3, r3, pr3, k3, q3⟩ => ⟨R3, M3, v, u, s3, r1.mono pr3 k3, r3, of_noexc q3⟩⟩
theorem s_bin {op : Operator} {f : Op} (ho : OpR X (binaryOp op) (rdO T f)) (ha : PE X a (rdE T W fa)) (hb : PE X b (rdE T W fb)) : PE X (.BinOp a op b pos) (rdE T W (Mn.eBin f fa fb)) :=
  PE.imp (pe_op ho ha hb) bin_rd
theorem s_cmp {op : CmpOp} {f : Op} (ho : OpR X (compareOp op) (rdO T f)) (ha : PE X a (rdE T W fa)) (hb : PE X b (rdE T W fb)) (hm : behindInMarks op b = false) : PE X (.Compare a [op] [b] pos) (rdE T W (Mn.eBin f fa fb)) :=
  PE.imp (pe_cmpR ho ha hb hm) bin_rd
theorem un_rd {f : U} : ∀ σ H Q, rdE T W (Mn.eUn f fa) σ H Q → tUn (rdU T f) (rdE T W fa) σ H Q := fun σ H Q ⟨R, ρ, M, e, s, p⟩ => by
  obtain ⟨R0, ρ0, M0, e0, s0, p0⟩ := rdE_bind e s p
  exact ⟨R0, ρ0, M0, e0, s0, p0.imp (List.prefix_refl _) (Keep.refl _) fun x H1 ⟨R1, M1, v, e1, s1, r1, pr1, k1, q⟩ => ⟨R1, M1, v, s1, r1, of_noexc q⟩⟩
theorem s_un {op : UnaryOp} {f : U} (ho : UnR X (unaryOp op) (rdU T f)) (ha : PE X a (rdE T W fa)) : PE X (.UnaryOp op a pos) (rdE T W (Mn.eUn f fa)) := PE.imp (pe_un ho ha) un_rd
end
end MnS
end
section
set_option Elab.async false
set_option autoImplicit false
set_option linter.all false
set_option maxRecDepth 100000
set_option maxHeartbeats 1000000
/-! The operations. -/
namespace MnS
open PySem PySem.Spec PyProof.Rows L2
open Mn (Val Cell Store E Fn Op U Itr Src Tg)
section
variable {T : Tb} {W : WX} {W' : XK} {R R' : List Addr} {H H' : Hp} {Q Q' : VK} {M : Store}
theorem szLine_eq : Mn.szLine = sizeLine := by
  rw [sizeLine_eq]
  rfl
/-- a list that is read -/
theorem Sim.lst (S : Sim T R H M) {n : Nat} {xs : List Val} (h : Mn.lstAt M n = some xs) : ∃ a vs, R[n]? = some a ∧ SqL T.K H a vs ∧ Rels T R H xs vs := by
  unfold Mn.lstAt at h
  split at h
  · rename_i ys e
    cases h
    obtain ⟨a, ha, vs, h1, h2⟩ := S.at e
    exact ⟨a, vs, ha, .inl (.inl h1), h2⟩
  · rename_i ys e
    cases h
    obtain ⟨a, ha, o, vs, h1, h2⟩ := S.at e
    exact ⟨a, vs, ha, .inl (.inr ⟨o, h1⟩), h2⟩
  · cases h
theorem post_ok {v : Val} {w : V} (S : Sim T R H M) (h : Post T W' R H Q (.ok v M)) (r : Rel T R H v w) : Q w H := h R H w (List.prefix_refl R) (Keep.refl H) S r
theorem post_new {c : Cell} {p : Addr} {o : HO} (S : Sim T R H M) (h : Post T W' R H Q (Mn.R.of (Mn.alloc c M))) (hp : H p = none) (hc : CellAt T (R ++ [p]) (upd H p o) p c) : Q (.ref p) (upd H p o) := by
  refine h (R ++ [p]) (upd H p o) (.ref p) (List.prefix_append R [p]) (Keep.cell hp) (S.new hp hc) (.ref ?_)
  rw [← S.len, List.getElem?_append_right (Nat.le_refl _), Nat.sub_self]
  rfl
theorem new_lst {xs : List Val} {vs : List V} {p : Addr} (r : Rels T R H xs vs) (hp : H p = none) : CellAt T (R ++ [p]) (upd H p (.lst vs)) p (.lst xs) :=
  ⟨vs, upd_same, r.mono (List.prefix_append R [p]) (Keep.cell hp)⟩
theorem Rels.rep {xs : List Val} {vs : List V} (r : Rels T R H xs vs) : ∀ k : Nat, Rels T R H (List.replicate k xs).flatten (List.replicate k vs).flatten
  | 0 => .nil
  | k + 1 => by
    rw [List.replicate_succ, List.replicate_succ, List.flatten_cons, List.flatten_cons]
    exact r.append (Rels.rep r k)
theorem sOf_len (s : List Nat) : (sOf s).length = s.length := by simp [sOf, Str.length]
theorem sOf_add (x y : List Nat) : sOf x ++ sOf y = sOf (x ++ y) := by
  show Str.mk (x.toArray ++ y.toArray) = Str.mk (x ++ y).toArray
  rw [List.append_toArray]
theorem mulOk_of {i j : Int} (h : Mn.mulOk i j = true) : IntMulOk i j := by
  have b : ∀ x : Int, Builtin.Int.intBits x ≤ Mn.bits x := fun x => by
    unfold Builtin.Int.intBits Mn.bits
    split <;> split <;> simp_all
  unfold Mn.mulOk at h
  simp only [Bool.or_eq_true, decide_eq_true_eq] at h
  have b1 := b i
  have b2 := b j
  rcases h with (h | h) | h
  · exact .of_left (by omega)
  · exact .of_right (by omega)
  · unfold IntMulOk
    intro z
    rw [Bool.and_eq_true] at z
    have z2 := z.2
    unfold Builtin.Int.intTooBig at z2
    have z3 := of_decide_eq_true z2
    have e : bitsLine = 134217728 := bitsLine_eq
    rw [e] at z3
    omega
end
section
variable {X : Cx} {T : Tb}
theorem op_mulF : OpR X (binaryOp .Mult) (rI (fun i j => Mn.mulOk i j = true) fun i j => .int (i * j)) := opI fun _ _ _ _ _ _ _ hc q => mul_int q (mulOk_of hc)
theorem divOk_of {i j : Int} (h0 : j ≠ 0) (h : Mn.divOk i j = true) : Builtin.divisionGoesByPylong i j = false := by
  unfold Mn.divOk at h
  rw [Bool.or_eq_true, decide_eq_true_eq, decide_eq_true_eq] at h
  rcases h with h | h
  · exact PyProof.noPylong_of_log2 h
  · unfold Builtin.divisionGoesByPylong
    have e1 : (j == 0) = false := beq_eq_false_iff_ne.mpr h0
    simp only [e1, Bool.false_eq_true, if_false]
    have : ¬ ((if (i == 0) = true then 0 else i.natAbs.log2 / 30 + 1) > j.natAbs.log2 / 30 + 1 + 150) := by
      split <;> omega
    simp only [decide_eq_false this, Bool.and_false]
theorem op_divF : OpR X (binaryOp .FloorDiv) (rI (fun i j => j ≠ 0 ∧ Mn.divOk i j = true) fun i j => .int (i.fdiv j)) :=
  opI fun _ _ _ _ _ _ _ hc q => floordiv_int hc.1 q (.inl (divOk_of hc.1 hc.2))
theorem o_add (hK : X.K = T.K) : OpR X (binaryOp .Add) (rdO T Mn.oAdd) := by
  intro pins s σ H x y v u Q I rx ry ⟨R, M, a, b, S, ra, rb, p⟩
  unfold Mn.oAdd at p
  split at p
  · cases ra
    cases rb
    exact op_add pins s σ H _ _ v u Q I rx ry ⟨_, _, rfl, rfl, post_ok S p (.int _)⟩
  · cases ra
    cases rb
    split at p
    · rename_i hz
      refine op_add_str pins s σ H _ _ v u Q I rx ry ⟨_, _, rfl, rfl, by rw [sOf_len, sOf_len, ← szLine_eq]; exact hz, ?_⟩
      rw [sOf_add]
      exact post_ok S p (.str _)
    · exact p.elim
  · split at p
    · rename_i m n M' xs ys e1 e2
      split at p
      · rename_i hz
        cases ra with
        | ref q1 =>
          cases rb with
          | ref q2 =>
            obtain ⟨a1, z1, vs, h1, k1⟩ := S.at e1
            obtain ⟨a2, z2, ws, h2, k2⟩ := S.at e2
            rw [q1] at z1
            rw [q2] at z2
            cases z1
            cases z2
            refine op_cat pins s σ H _ _ v u Q I rx ry ⟨_, _, vs, ws, rfl, rfl, h1, h2, by rw [← k1.length, ← k2.length, ← szLine_eq]; exact hz, fun pp hp => ?_⟩
            exact post_new S p hp (new_lst (k1.append k2) hp)
      · exact p.elim
    · exact p.elim
  · split at p
    · rename_i xs ys M' hz
      cases ra with
      | tup h1 k1 =>
        cases rb with
        | tup h2 k2 =>
          refine op_catA pins s σ H _ _ v u Q I rx ry ⟨_, _, _, _, rfl, rfl, by rw [hK]; exact h1.sq, by rw [hK]; exact h2.sq, by rw [← k1.length, ← k2.length, ← szLine_eq]; exact hz, fun e => ?_, fun _ e => ?_, fun _ _ pp hp => ?_⟩
          · have l1 := k1.length
            rw [e] at l1
            have e1 := List.eq_nil_of_length_eq_zero l1
            rw [e1, List.nil_append] at p
            exact post_ok S p (.tup h2 k2)
          · have l2 := k2.length
            rw [e] at l2
            have e2 := List.eq_nil_of_length_eq_zero l2
            rw [e2, List.append_nil] at p
            exact post_ok S p (.tup h1 k1)
          · exact p R _ _ (List.prefix_refl R) (Keep.new hp) (S.other hp) (.tup (.inl upd_same) ((k1.append k2).mono (List.prefix_refl R) (Keep.new hp)))
    · exact p.elim
  · exact p.elim
theorem o_sub : OpR X (binaryOp .Sub) (rdO T Mn.oSub) := by
  intro pins s σ H x y v u Q I rx ry ⟨R, M, a, b, S, ra, rb, p⟩
  unfold Mn.oSub at p
  split at p
  · cases ra
    cases rb
    exact op_sub pins s σ H _ _ v u Q I rx ry ⟨_, _, rfl, rfl, post_ok S p (.int _)⟩
  · exact p.elim
theorem o_mul : OpR X (binaryOp .Mult) (rdO T Mn.oMul) := by
  intro pins s σ H x y v u Q I rx ry ⟨R, M, a, b, S, ra, rb, p⟩
  unfold Mn.oMul at p
  split at p
  · split at p
    · rename_i hc
      cases ra
      cases rb
      exact op_mulF pins s σ H _ _ v u Q I rx ry ⟨_, _, rfl, rfl, hc, post_ok S p (.int _)⟩
    · exact p.elim
  · split at p
    · rename_i n k M' xs e1
      split at p
      · rename_i hz
        cases ra with
        | ref q1 =>
          cases rb
          obtain ⟨a1, z1, vs, h1, k1⟩ := S.at e1
          rw [q1] at z1
          cases z1
          refine op_rep pins s σ H _ _ v u Q I rx ry ⟨_, k, vs, rfl, rfl, h1, hz.2.1, hz.2.2, by rw [← k1.length, ← szLine_eq]; exact hz.1, fun pp hp => ?_⟩
          exact post_new S p hp (new_lst (k1.rep _) hp)
      · exact p.elim
    · exact p.elim
  · exact p.elim
theorem o_div : OpR X (binaryOp .FloorDiv) (rdO T Mn.oDiv) := by
  intro pins s σ H x y v u Q I rx ry ⟨R, M, a, b, S, ra, rb, p⟩
  unfold Mn.oDiv at p
  split at p
  · split at p
    · rename_i hc
      cases ra
      cases rb
      exact op_divF pins s σ H _ _ v u Q I rx ry ⟨_, _, rfl, rfl, hc, post_ok S p (.int _)⟩
    · exact p.elim
  · exact p.elim
theorem o_mod : OpR X (binaryOp .Mod) (rdO T Mn.oMod) := by
  intro pins s σ H x y v u Q I rx ry ⟨R, M, a, b, S, ra, rb, p⟩
  unfold Mn.oMod at p
  split at p
  · split at p
    · rename_i hc
      cases ra
      cases rb
      exact op_modN pins s σ H _ _ v u Q I rx ry ⟨_, _, rfl, rfl, hc, post_ok S p (.int _)⟩
    · exact p.elim
  · exact p.elim
theorem o_pow : OpR X (binaryOp .Pow) (rdO T Mn.oPow) := by
  intro pins s σ H x y v u Q I rx ry ⟨R, M, a, b, S, ra, rb, p⟩
  unfold Mn.oPow at p
  split at p
  · split at p
    · rename_i hc
      cases ra
      cases rb
      exact op_pow pins s σ H _ _ v u Q I rx ry ⟨_, _, rfl, rfl, hc, post_ok S p (.int _)⟩
    · exact p.elim
  · exact p.elim
theorem o_neg : UnR X (unaryOp .USub) (rdU T Mn.oNeg) := by
  intro pins s σ H x v Q I rx ⟨R, M, a, S, ra, p⟩
  unfold Mn.oNeg at p
  split at p
  · cases ra
    exact un_neg pins s σ H _ v Q I rx ⟨_, rfl, post_ok S p (.int _)⟩
  · exact p.elim
theorem o_int {op : CmpOp} {g : Int → Int → Bool} (h : OpR X (compareOp op) (rI0 fun i j => .bl (g i j))) : OpR X (compareOp op) (rdO T (Mn.cInt g)) := by
  intro pins s σ H x y v u Q I rx ry ⟨R, M, a, b, S, ra, rb, p⟩
  unfold Mn.cInt at p
  split at p
  · cases ra
    cases rb
    exact h pins s σ H _ _ v u Q I rx ry ⟨_, _, rfl, rfl, post_ok S p (.bl _)⟩
  · exact p.elim
theorem o_lt : OpR X (compareOp .Lt) (rdO T Mn.cLt) := o_int op_lt
theorem o_le : OpR X (compareOp .LtE) (rdO T Mn.cLe) := o_int op_le
theorem o_gt : OpR X (compareOp .Gt) (rdO T Mn.cGt) := o_int op_gt
theorem o_ge : OpR X (compareOp .GtE) (rdO T Mn.cGe) := o_int op_ge
theorem isNon_rel {R : List Addr} {H : Hp} {a : Val} {x : V} (r : Rel T R H a x) : Mn.isNon a = decide (x = .non) := by
  cases r <;> rfl
theorem o_isN : OpR X (compareOp .Is) (rdO T Mn.cIsN) := by
  intro pins s σ H x y v u Q I rx ry ⟨R, M, a, b, S, ra, rb, p⟩
  unfold Mn.cIsN at p
  split at p
  · cases rb
    refine op_isN pins s σ H _ _ v u Q I rx ry ⟨rfl, ?_⟩
    rw [← isNon_rel ra]
    exact post_ok S p (.bl _)
  · exact p.elim
theorem o_notN : OpR X (compareOp .IsNot) (rdO T Mn.cNotN) := by
  intro pins s σ H x y v u Q I rx ry ⟨R, M, a, b, S, ra, rb, p⟩
  unfold Mn.cNotN at p
  split at p
  · cases rb
    refine op_notN pins s σ H _ _ v u Q I rx ry ⟨rfl, ?_⟩
    rw [← isNon_rel ra]
    exact post_ok S p (.bl _)
  · exact p.elim
end
/-! ### == -/
mutual
def pd : Mn.T → PyData
  | .non => .none
  | .bl b => .bool b
  | .int i => .int i
  | .str s => .str (sOf s)
  | .tup xs => .tuple (pds xs)
  | .lst xs => .list (pds xs)
def pds : List Mn.T → List PyData
  | [] => []
  | x :: xs => pd x :: pds xs
end
theorem sOf_inj {x y : List Nat} : sOf x = sOf y ↔ x = y := by
  constructor
  · intro h
    have e : x.toArray = y.toArray := Str.mk.inj h
    simpa using congrArg Array.toList e
  · intro h
    rw [h]
theorem sOf_beq (x y : List Nat) : (sOf x == sOf y) = decide (x = y) := by
  by_cases h : x = y
  · rw [h]
    simp
  · rw [decide_eq_false h]
    exact beq_eq_false_iff_ne.mpr fun z => h (sOf_inj.mp z)
mutual
theorem eqv_pd : ∀ (a b : Mn.T), PyData.eqv (pd a) (pd b) = Mn.T.eqv a b
  | .non, b => by cases b <;> simp [pd, PyData.eqv, Mn.T.eqv]
  | .bl x, b => by cases b <;> simp [pd, PyData.eqv, Mn.T.eqv, Mn.b2i, Bool.beq_eq_decide_eq] <;> exact decide_eq_decide.mpr Iff.rfl
  | .int i, b => by cases b <;> simp [pd, PyData.eqv, Mn.T.eqv, Mn.b2i, Bool.beq_eq_decide_eq] <;> exact decide_eq_decide.mpr Iff.rfl
  | .str s, b => by cases b <;> simp [pd, PyData.eqv, Mn.T.eqv, sOf_beq]
  | .tup xs, .tup ys => by
    simp only [pd, PyData.eqv, Mn.T.eqv]
    exact eqv_pds xs ys
  | .lst xs, .lst ys => by
    simp only [pd, PyData.eqv, Mn.T.eqv]
    exact eqv_pds xs ys
  | .tup xs, .non => by simp [pd, PyData.eqv, Mn.T.eqv]
  | .tup xs, .bl _ => by simp [pd, PyData.eqv, Mn.T.eqv]
  | .tup xs, .int _ => by simp [pd, PyData.eqv, Mn.T.eqv]
  | .tup xs, .str _ => by simp [pd, PyData.eqv, Mn.T.eqv]
  | .tup xs, .lst _ => by simp [pd, PyData.eqv, Mn.T.eqv]
  | .lst xs, .non => by simp [pd, PyData.eqv, Mn.T.eqv]
  | .lst xs, .bl _ => by simp [pd, PyData.eqv, Mn.T.eqv]
  | .lst xs, .int _ => by simp [pd, PyData.eqv, Mn.T.eqv]
  | .lst xs, .str _ => by simp [pd, PyData.eqv, Mn.T.eqv]
  | .lst xs, .tup _ => by simp [pd, PyData.eqv, Mn.T.eqv]
theorem eqv_pds : ∀ (a b : List Mn.T), PyData.eqvAll (pds a) (pds b) = Mn.T.eqvs a b
  | [], [] => by simp [pds, PyData.eqvAll, Mn.T.eqvs]
  | [], _ :: _ => by simp [pds, PyData.eqvAll, Mn.T.eqvs]
  | _ :: _, [] => by simp [pds, PyData.eqvAll, Mn.T.eqvs]
  | x :: xs, y :: ys => by
    simp only [pds, PyData.eqvAll, Mn.T.eqvs]
    rw [eqv_pd x y, eqv_pds xs ys]
end
theorem toT_pd {T : Tb} {R : List Addr} {H : Hp} {M : Store} (S : Sim T R H M) : ∀ (k : Nat),
    (∀ (x : Val) (v : V) (t : Mn.T), Rel T R H x v → Mn.toT M k x = some t → Dp T.K H v (pd t) ∧ (pd t).canLay0 = true ∧ (pd t).depth ≤ k)
  | 0, x, v, t, _, h => by
    unfold Mn.toT at h
    cases h
  | k + 1, x, v, t, r, h => by
    have go : ∀ (xs : List Val) (vs : List V) (ts : List Mn.T), Rels T R H xs vs → Mn.mapO (Mn.toT M k) xs = some ts → DpAll T.K H vs (pds ts) ∧ PyData.canLayAll0 (pds ts) = true ∧ PyData.depthAll (pds ts) ≤ k := by
      intro xs
      induction xs with
      | nil =>
        intro vs ts r h
        cases r
        cases h
        exact ⟨.nil, by simp [pds, PyData.canLayAll0], by simp [pds, PyData.depthAll]⟩
      | cons y ys ih =>
        intro vs ts r h
        cases r with
        | cons r1 r2 =>
          unfold Mn.mapO at h
          cases e1 : Mn.toT M k y with
          | none =>
            rw [e1] at h
            cases h
          | some t1 =>
            rw [e1] at h
            cases e2 : Mn.mapO (Mn.toT M k) ys with
            | none =>
              rw [e2] at h
              cases h
            | some t2 =>
              rw [e2] at h
              cases h
              obtain ⟨d1, c1, p1⟩ := toT_pd S k y _ t1 r1 e1
              obtain ⟨d2, c2, p2⟩ := ih _ t2 r2 e2
              refine ⟨.cons d1 d2, by simp [pds, PyData.canLayAll0, c1, c2], ?_⟩
              simp only [pds, PyData.depthAll]
              omega
    cases r with
    | non =>
      cases h
      exact ⟨.non, by simp [pd, PyData.canLay0], by simp [pd, PyData.depth]⟩
    | bl b =>
      cases h
      exact ⟨.bl b, by simp [pd, PyData.canLay0], by simp [pd, PyData.depth]⟩
    | int i =>
      cases h
      exact ⟨.int i, by simp [pd, PyData.canLay0], by simp [pd, PyData.depth]⟩
    | str s =>
      unfold Mn.toT at h
      split at h
      · rename_i hs
        cases h
        refine ⟨.str _, ?_, by simp [pd, PyData.depth]⟩
        simp only [pd, PyData.canLay0, PyData.strOk, sOf]
        simpa using hs
      · cases h
    | tup hx rx =>
      unfold Mn.toT at h
      rename_i xs a vs
      cases e : Mn.mapO (Mn.toT M k) xs with
      | none =>
        rw [e] at h
        cases h
      | some ts =>
        rw [e] at h
        cases h
        obtain ⟨d, c, p⟩ := go xs vs ts rx e
        exact ⟨.tup hx.sq d, by simp [pd, PyData.canLay0, c], by simp only [pd, PyData.depth]; omega⟩
    | ref hn =>
      unfold Mn.toT at h
      rename_i n a
      cases el : Mn.lstAt M n with
      | none =>
        rw [el] at h
        cases h
      | some xs =>
        rw [el] at h
        cases e : Mn.mapO (Mn.toT M k) xs with
        | none =>
          simp only [e] at h
          cases h
        | some ts =>
          simp only [e] at h
          cases h
          obtain ⟨a', vs, ha, sq, rx⟩ := S.lst el
          rw [hn] at ha
          cases ha
          obtain ⟨d, c, p⟩ := go xs vs ts rx e
          exact ⟨.lst sq d, by simp [pd, PyData.canLay0, c], by simp only [pd, PyData.depth]; omega⟩
    | exc hm he =>
      unfold Mn.toT at h
      cases h
theorem toT_shaped {T : Tb} {R : List Addr} {H : Hp} {M : Store} (S : Sim T R H M) {x : Val} {v : V} {t : Mn.T} (r : Rel T R H x v) (h : Mn.toT M Mn.eqFuel x = some t) : Dp T.K H v (pd t) ∧ SeqAt.shaped (pd t) = true := by
  obtain ⟨d, c, p⟩ := toT_pd S _ x v t r h
  refine ⟨d, ?_⟩
  unfold SeqAt.shaped
  rw [c, Bool.true_and, decide_eq_true_eq]
  exact Nat.le_trans p (by decide)
section
variable {X : Cx} {T : Tb}
theorem o_eq (hK : X.K = T.K) (hu : X.A.units + 64 < cLine) : OpR X (compareOp .Eq) (rdO T Mn.cEq) := by
  intro pins s σ H x y v u Q I rx ry ⟨R, M, a, b, S, ra, rb, p⟩
  unfold Mn.cEq Mn.valEq at p
  split at p
  · rename_i t1 t2 e1 e2
    obtain ⟨d1, s1⟩ := toT_shaped S ra e1
    obtain ⟨d2, s2⟩ := toT_shaped S rb e2
    rw [← hK] at d1 d2
    refine op_eqD hu pins s σ H _ _ v u Q I rx ry ⟨pd t1, pd t2, d1, d2, s1, s2, ?_⟩
    rw [eqv_pd]
    exact post_ok S p (.bl _)
  · exact p.elim
theorem o_ne (hK : X.K = T.K) (hu : X.A.units + 64 < cLine) : OpR X (compareOp .NotEq) (rdO T Mn.cNe) := by
  intro pins s σ H x y v u Q I rx ry ⟨R, M, a, b, S, ra, rb, p⟩
  unfold Mn.cNe Mn.valEq at p
  split at p
  · rename_i t1 t2 e1 e2
    obtain ⟨d1, s1⟩ := toT_shaped S ra e1
    obtain ⟨d2, s2⟩ := toT_shaped S rb e2
    rw [← hK] at d1 d2
    refine op_neD hu pins s σ H _ _ v u Q I rx ry ⟨pd t1, pd t2, d1, d2, s1, s2, ?_⟩
    rw [eqv_pd]
    exact post_ok S p (.bl _)
  · exact p.elim
end
end MnS
end
section
set_option Elab.async false
set_option autoImplicit false
set_option linter.all false
set_option maxRecDepth 100000
set_option maxHeartbeats 1000000
/-! Forms: truth, displays, indices, calls, statements, loops, defs. -/
namespace MnS
open PySem PySem.Spec PyProof.Rows L2
open Mn (Val Cell Store E Fn Op U Itr Src Tg)
section
variable {X : Cx} {T : Tb} {W : WX} {a b c : Expr} {fa fb fc : E} {pos : Pos} {rest : List Expr}
/-! ### and, or, not -/
theorem rdT_bind {f : Val → Store → Mn.R Val} {R : List Addr} {H : Hp} {Q : VK} {ρ : Mn.Env} {M : Store} {σ : L2.St} (e : EnvR T R H ρ σ) (s : Sim T R H M) (h : Post T (at_ W σ) R H Q ((fa ρ M).bind f)) (hb : ∀ v M', fa ρ M = .ok v M' → ∃ k, v = .bl k) :
    rdT T W fa σ H fun x H1 => ∃ R1 M1, EnvR T R1 H1 ρ σ ∧ Sim T R1 H1 M1 ∧ Post T (at_ W σ) R1 H1 Q (f (.bl x) M1) := by
  refine ⟨R, ρ, M, e, s, ?_⟩
  cases q : fa ρ M with
  | bad =>
    rw [q] at h
    exact h
  | exc c M' =>
    rw [q] at h
    exact h
  | ok v M' =>
    obtain ⟨k, rfl⟩ := hb v M' q
    rw [q] at h
    exact fun R1 H1 p1 k1 s1 => ⟨R1, M', e.mono p1 k1, s1, Post.imp (r := f (.bl k) M') h p1 k1 fun _ _ q => q⟩
theorem and_rd : ∀ σ H Q, rdE T W (Mn.eAnd fa fb) σ H Q → tAndV (rdE T W fa) (rdE T W fb) σ H Q := fun σ H Q ⟨R, ρ, M, e, s, p⟩ => by
  obtain ⟨R0, ρ0, M0, e0, s0, p0⟩ := rdE_bind e s p
  refine ⟨R0, ρ0, M0, e0, s0, p0.imp (List.prefix_refl _) (Keep.refl _) fun x H1 ⟨R1, M1, v, e1, s1, r1, pr1, k1, q⟩ => ?_⟩
  cases r1 with
  | bl k =>
    refine ⟨k, rfl, ?_⟩
    cases k with
    | true =>
      rw [if_pos rfl]
      exact ⟨R1, ρ, M1, e1, s1, q⟩
    | false =>
      rw [if_neg Bool.false_ne_true]
      exact post_ok s1 q (.bl _)
  | _ => exact q.elim
theorem or_rd : ∀ σ H Q, rdE T W (Mn.eOr fa fb) σ H Q → tOrV (rdE T W fa) (rdE T W fb) σ H Q := fun σ H Q ⟨R, ρ, M, e, s, p⟩ => by
  obtain ⟨R0, ρ0, M0, e0, s0, p0⟩ := rdE_bind e s p
  refine ⟨R0, ρ0, M0, e0, s0, p0.imp (List.prefix_refl _) (Keep.refl _) fun x H1 ⟨R1, M1, v, e1, s1, r1, pr1, k1, q⟩ => ?_⟩
  cases r1 with
  | bl k =>
    refine ⟨k, rfl, ?_⟩
    cases k with
    | true =>
      rw [if_pos rfl]
      exact post_ok s1 q (.bl _)
    | false =>
      rw [if_neg Bool.false_ne_true]
      exact ⟨R1, ρ, M1, e1, s1, q⟩
  | _ => exact q.elim
theorem not_rd : ∀ σ H Q, rdE T W (Mn.eNot fa) σ H Q → tNotV (rdE T W fa) σ H Q := fun σ H Q ⟨R, ρ, M, e, s, p⟩ => by
  obtain ⟨R0, ρ0, M0, e0, s0, p0⟩ := rdE_bind e s p
  refine ⟨R0, ρ0, M0, e0, s0, p0.imp (List.prefix_refl _) (Keep.refl _) fun x H1 ⟨R1, M1, v, e1, s1, r1, pr1, k1, q⟩ => ?_⟩
  cases r1 with
  | bl k => exact ⟨k, rfl, post_ok s1 q (.bl _)⟩
  | _ => exact q.elim
theorem s_and (ha : PE X a (rdE T W fa)) (hb : PE X (.BoolOp .And (b :: rest) pos) (rdE T W fb)) : PE X (.BoolOp .And (a :: b :: rest) pos) (rdE T W (Mn.eAnd fa fb)) := PE.imp (pe_and ha hb) and_rd
theorem s_or (ha : PE X a (rdE T W fa)) (hb : PE X (.BoolOp .Or (b :: rest) pos) (rdE T W fb)) : PE X (.BoolOp .Or (a :: b :: rest) pos) (rdE T W (Mn.eOr fa fb)) := PE.imp (pe_or ha hb) or_rd
theorem s_not (ha : PE X a (rdE T W fa)) : PE X (.UnaryOp .Not a pos) (rdE T W (Mn.eNot fa)) := PE.imp (pe_not ha) not_rd
/-! .. as tests -/
theorem test_rd : ∀ σ H Q, rdT T W fa σ H Q → rdE T W fa σ H (fun x H1 => ∃ k, x = .bl k ∧ Q k H1) := fun σ H Q ⟨R, ρ, M, e, s, p⟩ => by
  refine ⟨R, ρ, M, e, s, ?_⟩
  cases q : fa ρ M with
  | bad =>
    rw [q] at p
    exact p
  | exc c M' =>
    rw [q] at p
    exact p
  | ok v M' =>
    rw [q] at p
    cases v with
    | bl k =>
      intro R1 H1 w p1 k1 s1 r1
      cases r1
      exact ⟨k, rfl, p R1 H1 p1 k1 s1⟩
    | _ => exact p.elim
theorem t_val (ha : PE X a (rdE T W fa)) (he : ∀ whole, isTrue a X.env whole = (do let v ← whole; standAt a.pos; holding [v] (truthy v))) : PT X a (rdT T W fa) := PT.imp (pt_val ha he) test_rd
theorem t_cmp {op : CmpOp} {f : Op} (ho : OpR X (compareOp op) (rdO T f)) (ha : PE X a (rdE T W fa)) (hb : PE X b (rdE T W fb)) (hm : behindInMarks op b = false) : PT X (.Compare a [op] [b] pos) (rdT T W (Mn.eBin f fa fb)) :=
  PT.imp (pt_cmpR ho ha hb hm) fun σ H Q h => bin_rd σ H _ (test_rd σ H Q h)
theorem bool_post {r : Mn.R Val} {f : Val → Store → Mn.R Val} {R : List Addr} {H : Hp} {Q : Bool → Hp → Prop} {W' : XK} (h : PostB T W' R H Q (r.bind f)) :
    (∃ v M, r = .ok v M ∧ PostB T W' R H Q (f v M)) ∨ (∃ c M, r = .exc c M ∧ (c ∈ T.xs → ∀ R' H', R <+: R' → Keep R R' H H' → Sim T R' H' M → W' (.ref (T.ca c)) none H')) := by
  cases r with
  | ok v M => exact .inl ⟨v, M, rfl, h⟩
  | exc c M => exact .inr ⟨c, M, rfl, h⟩
  | bad => exact h.elim
theorem PostB.mono {r : Mn.R Val} {R R' : List Addr} {H H' : Hp} {Q : Bool → Hp → Prop} {W' : XK} (h : PostB T W' R H Q r) (p : R <+: R') (k : Keep R R' H H') : PostB T W' R' H' Q r := by
  cases r with
  | ok v M =>
    cases v with
    | bl b => exact fun R2 H2 p2 k2 s2 => h R2 H2 (p.trans p2) (k.trans k2) s2
    | _ => exact h
  | exc c M => exact fun hc R2 H2 p2 k2 s2 => h hc R2 H2 (p.trans p2) (k.trans k2) s2
  | bad => exact h
theorem tand_rd : ∀ σ H Q, rdT T W (Mn.eAnd fa fb) σ H Q → tAnd (rdT T W fa) (rdT T W fb) σ H Q := fun σ H Q ⟨R, ρ, M, e, s, p⟩ => by
  refine ⟨R, ρ, M, e, s, ?_⟩
  rcases bool_post p with ⟨v, M', q, p⟩ | ⟨c, M', q, p⟩
  · rw [q]
    cases v with
    | bl k =>
      intro R1 H1 p1 k1 s1
      cases k with
      | true =>
        rw [if_pos rfl]
        exact ⟨R1, ρ, M', e.mono p1 k1, s1, PostB.mono p p1 k1⟩
      | false =>
        rw [if_neg Bool.false_ne_true]
        exact p R1 H1 p1 k1 s1
    | _ => exact p.elim
  · rw [q]
    exact p
theorem tor_rd : ∀ σ H Q, rdT T W (Mn.eOr fa fb) σ H Q → tOr (rdT T W fa) (rdT T W fb) σ H Q := fun σ H Q ⟨R, ρ, M, e, s, p⟩ => by
  refine ⟨R, ρ, M, e, s, ?_⟩
  rcases bool_post p with ⟨v, M', q, p⟩ | ⟨c, M', q, p⟩
  · rw [q]
    cases v with
    | bl k =>
      intro R1 H1 p1 k1 s1
      cases k with
      | true =>
        rw [if_pos rfl]
        exact p R1 H1 p1 k1 s1
      | false =>
        rw [if_neg Bool.false_ne_true]
        exact ⟨R1, ρ, M', e.mono p1 k1, s1, PostB.mono p p1 k1⟩
    | _ => exact p.elim
  · rw [q]
    exact p
theorem tnot_rd : ∀ σ H Q, rdT T W (Mn.eNot fa) σ H Q → tNot (rdT T W fa) σ H Q := fun σ H Q ⟨R, ρ, M, e, s, p⟩ => by
  refine ⟨R, ρ, M, e, s, ?_⟩
  rcases bool_post p with ⟨v, M', q, p⟩ | ⟨c, M', q, p⟩
  · rw [q]
    cases v with
    | bl k => exact fun R1 H1 p1 k1 s1 => p R1 H1 p1 k1 s1
    | _ => exact p.elim
  · rw [q]
    exact p
theorem w_and (ha : PT X a (rdT T W fa)) (hb : PW X (.BoolOp .And (b :: rest) pos) (rdT T W fb)) : PW X (.BoolOp .And (a :: b :: rest) pos) (rdT T W (Mn.eAnd fa fb)) :=
  ⟨fun wh pins s σ H Q I h => (pw_and ha hb).run wh pins s σ H Q I (tand_rd σ H Q h)⟩
theorem w_or (ha : PT X a (rdT T W fa)) (hb : PW X (.BoolOp .Or (b :: rest) pos) (rdT T W fb)) : PW X (.BoolOp .Or (a :: b :: rest) pos) (rdT T W (Mn.eOr fa fb)) :=
  ⟨fun wh pins s σ H Q I h => (pw_or ha hb).run wh pins s σ H Q I (tor_rd σ H Q h)⟩
theorem t_not (ha : PT X a (rdT T W fa)) : PT X (.UnaryOp .Not a pos) (rdT T W (Mn.eNot fa)) := PT.imp (pt_not ha) tnot_rd
/-! ### chains -/
theorem chain_rd {f g : Op} : ∀ σ H Q, rdE T W (Mn.eChain f g fa fb fc) σ H Q → tChain (rdO T f) (rdO T g) (rdE T W fa) (rdE T W fb) (rdE T W fc) σ H Q := fun σ H Q ⟨R, ρ, M, e, s, p⟩ => by
  obtain ⟨R0, ρ0, M0, e0, s0, p0⟩ := rdE_bind e s p
  refine ⟨R0, ρ0, M0, e0, s0, p0.imp (List.prefix_refl _) (Keep.refl _) fun x H1 ⟨R1, M1, v, e1, s1, r1, pr1, k1, q⟩ => ?_⟩
  obtain ⟨R2, ρ2, M2, e2, s2, p2⟩ := rdE_bind e1 s1 q
  refine ⟨R2, ρ2, M2, e2, s2, p2.imp (List.prefix_refl _) (Keep.refl _) fun y H2 ⟨R3, M3, u, e3, s3, r3, pr3, k3, q3⟩ => ?_⟩
  have rv := r1.mono pr3 k3
  refine ⟨R3, M3, v, u, s3, rv, r3, ?_⟩
  cases eo : f v u M3 with
  | none =>
    rw [eo] at q3
    exact q3
  | some z =>
    obtain ⟨z, M4⟩ := z
    rw [eo] at q3
    show Post T _ R3 H2 _ (.ok z M4)
    intro R4 H4 w p4 k4 s4 r4
    cases r4 with
    | bl k =>
      refine ⟨k, rfl, ?_⟩
      cases k with
      | false =>
        first
          | exact q3 R4 H4 (.bl false) p4 k4 s4 (.bl false)
          | exact (by rw [if_neg Bool.false_ne_true]; exact q3 R4 H4 (.bl false) p4 k4 s4 (.bl false))
      | true =>
        have q4 : Post T (at_ W σ) R4 H4 Q ((fc ρ M4).bind fun z M4 => Mn.R.of (g u z M4)) := Post.imp (r := (fc ρ M4).bind fun z M4 => Mn.R.of (g u z M4)) q3 p4 k4 fun _ _ q => q
        obtain ⟨R5, ρ5, M5, e5, s5, p5⟩ := rdE_bind (e3.mono p4 k4) s4 q4
        have fin : rdE T W fc σ H4 fun z H5 => rdO T g y z H5 Q :=
          ⟨R5, ρ5, M5, e5, s5, p5.imp (List.prefix_refl _) (Keep.refl _) fun zz H6 ⟨R7, M7, uu, e7, s7, r7, pr7, k7, q7⟩ => ⟨R7, M7, u, uu, s7, (r3.mono p4 k4).mono pr7 k7, r7, of_noexc q7⟩⟩
        first
          | exact fin
          | exact (by rw [if_pos rfl]; exact fin)
    | _ => exact q3.elim
end
end MnS
end
section
set_option Elab.async false
set_option autoImplicit false
set_option linter.all false
set_option maxRecDepth 100000
set_option maxHeartbeats 1000000
namespace MnS
open PySem PySem.Spec PyProof.Rows L2
open Mn (Val Cell Store E Fn Op U Itr Src Tg)
/-! ### displays, indices, calls -/
theorem rdE_mono {T : Tb} {W : WX} {f : E} {σ : L2.St} {H : Hp} {Q Q' : VK} (h : rdE T W f σ H Q) (q : ∀ w H1, Q w H1 → Q' w H1) : rdE T W f σ H Q' :=
  let ⟨R, ρ, M, e, s, p⟩ := h
  ⟨R, ρ, M, e, s, p.imp (List.prefix_refl R) (Keep.refl H) q⟩
theorem tOp_mono {T : Tb} {W : WX} {f g : E} {r r' : R2} (i : ∀ x y H Q, r x y H Q → r' x y H Q) : ∀ σ H Q, tOp r (rdE T W f) (rdE T W g) σ H Q → tOp r' (rdE T W f) (rdE T W g) σ H Q := fun _ _ _ h =>
  rdE_mono h fun _ _ h1 => rdE_mono h1 fun _ _ h2 => i _ _ _ _ h2
section
variable {X : Cx} {T : Tb} {W : WX} {W' : XK} {a b c e : Expr} {es : List Expr} {fa fb fc f : E} {fs : List E} {pos : Pos} {R R' : List Addr} {H H' : Hp}
theorem PostL.imp {Q Q' : List V → Hp → Prop} {r : Mn.R (List Val)} (h : PostL T W' R H Q r) (p : R <+: R') (k : Keep R R' H H') (q : ∀ w H1, Q w H1 → Q' w H1) : PostL T W' R' H' Q' r := by
  cases r with
  | ok v M => exact fun R2 H2 w p2 k2 s2 r2 => q _ _ (h R2 H2 w (p.trans p2) (k.trans k2) s2 r2)
  | exc c M => exact fun hc R2 H2 p2 k2 s2 => h hc R2 H2 (p.trans p2) (k.trans k2) s2
  | bad => exact h
theorem rdA_nil : ∀ σ H Q, rdA T W [] σ H Q → tNil σ H Q := fun σ H Q ⟨R, ρ, M, e, s, p⟩ => p R H [] (List.prefix_refl R) (Keep.refl H) s .nil
theorem rdA_cons : ∀ σ H Q, rdA T W (f :: fs) σ H Q → tCons (rdE T W f) (rdA T W fs) σ H Q := fun σ H Q ⟨R, ρ, M, e, s, p⟩ => by
  unfold Mn.evL at p
  refine ⟨R, ρ, M, e, s, ?_⟩
  cases q : f ρ M with
  | bad =>
    rw [q] at p
    exact p
  | exc c M' =>
    rw [q] at p
    exact p
  | ok v M1 =>
    rw [q] at p
    intro R1 H1 w p1 k1 s1 r1
    refine ⟨R1, ρ, M1, e.mono p1 k1, s1, ?_⟩
    cases q2 : Mn.evL fs ρ M1 with
    | bad =>
      rw [Mn.R.bind_ok, q2] at p
      exact p
    | exc c M' =>
      rw [Mn.R.bind_ok, q2] at p
      exact fun hc R2 H2 p2 k2 s2 => p hc R2 H2 (p1.trans p2) (k1.trans k2) s2
    | ok vs M2 =>
      rw [Mn.R.bind_ok, q2] at p
      exact fun R2 H2 ws p2 k2 s2 r2 => p R2 H2 (w :: ws) (p1.trans p2) (k1.trans k2) s2 (.cons (r1.mono p2 k2) r2)
theorem a_nil : PA X [] (rdA T W []) := PA.imp pa_nil rdA_nil
theorem a_cons (ha : PE X e (rdE T W f)) (hr : PA X es (rdA T W fs)) (hs : starEach (e :: es) X.env = (false, eval e X.env) :: starEach es X.env) : PA X (e :: es) (rdA T W (f :: fs)) := PA.imp (pa_cons ha hr hs) rdA_cons
theorem rdA_bind {g : List Val → Store → Mn.R Val} {Q : VK} {ρ : Mn.Env} {M : Store} {σ : L2.St} (e : EnvR T R H ρ σ) (s : Sim T R H M) (h : Post T (at_ W σ) R H Q ((Mn.evL fs ρ M).bind g)) :
    rdA T W fs σ H fun xs H1 => ∃ R1 M1 vs, EnvR T R1 H1 ρ σ ∧ Sim T R1 H1 M1 ∧ Rels T R1 H1 vs xs ∧ Post T (at_ W σ) R1 H1 Q (g vs M1) :=
  ⟨R, ρ, M, e, s, h.bindL.imp (List.prefix_refl R) (Keep.refl H) fun _ _ ⟨R1, M1, v, p1, k1, s1, r1, q⟩ => ⟨R1, M1, v, e.mono p1 k1, s1, r1, q⟩⟩
theorem rdA_mono {σ : L2.St} {Q Q' : List V → Hp → Prop} (h : rdA T W fs σ H Q) (q : ∀ w H1, Q w H1 → Q' w H1) : rdA T W fs σ H Q' :=
  let ⟨R, ρ, M, e, s, p⟩ := h
  ⟨R, ρ, M, e, s, p.imp (List.prefix_refl R) (Keep.refl H) q⟩
theorem s_tup {k : Nat} (h : PA X es (rdA T W fs)) : PE X (.Tuple es k pos) (rdE T W (Mn.eTup fs)) := PE.imp (pe_tup h) fun σ H Q ⟨R, ρ, M, e, s, p⟩ => by
  refine rdA_mono (rdA_bind e s p) fun xs H1 ⟨R1, M1, vs, e1, s1, r1, q⟩ => ?_
  split at q
  · rename_i hz
    refine ⟨by rw [← r1.length, ← szLine_eq]; exact hz, fun pp hp => ?_⟩
    exact q R1 _ _ (List.prefix_refl R1) (Keep.new hp) (s1.other hp) (.tup (.inl upd_same) (r1.mono (List.prefix_refl R1) (Keep.new hp)))
  · exact q.elim
theorem s_lst (h : PA X es (rdA T W fs)) : PE X (.List es pos) (rdE T W (Mn.eLst fs)) := PE.imp (pe_lst h) fun σ H Q ⟨R, ρ, M, e, s, p⟩ => by
  refine rdA_mono (rdA_bind e s p) fun xs H1 ⟨R1, M1, vs, e1, s1, r1, q⟩ => ?_
  split at q
  · rename_i hz
    refine ⟨by rw [← r1.length, ← szLine_eq]; exact hz, fun pp hp => ?_⟩
    exact post_new s1 q hp (new_lst r1 hp)
  · exact q.elim
theorem atI_eq {α : Type} (xs : List α) (i : Int) : Mn.atI xs i = L2.atI xs i := rfl
theorem atI_rel {xs : List Val} {vs : List V} {i : Int} {x : Val} (r : Rels T R H xs vs) (h : Mn.atI xs i = some x) : ∃ v, L2.atI vs i = some v ∧ Rel T R H x v := by
  unfold Mn.atI at h
  cases e : Mn.atIx xs.length i with
  | none =>
    rw [e] at h
    cases h
  | some k =>
    rw [e] at h
    obtain ⟨v, hv, q⟩ := r.get (i := k) h
    refine ⟨v, ?_, q⟩
    show (Mn.atIx vs.length i).bind (fun k => vs[k]?) = some v
    rw [← r.length, e]
    exact hv
theorem ix_rd (hK : X.K = T.K) : ∀ (x y : V) (H : Hp) (Q : VK), rdO T Mn.oIx x y H Q → rIx X.K x y H Q := fun x y H Q ⟨R, M, u, v, S, ra, rb, p⟩ => by
  unfold Mn.oIx at p
  split at p
  · rename_i M' xs i
    cases rb
    cases e : Mn.atI xs i with
    | none =>
      rw [e] at p
      exact p.elim
    | some z =>
      rw [e] at p
      cases ra with
      | tup ht rx =>
        obtain ⟨w, hw, rw_⟩ := atI_rel rx e
        exact .inr (.inl ⟨_, _, i, w, rfl, rfl, by rw [hK]; exact ht.sq, hw, post_ok S p rw_⟩)
  · rename_i M' n i
    cases rb
    split at p
    · rename_i xs el
      cases e : Mn.atI xs i with
      | none =>
        rw [e] at p
        exact p.elim
      | some z =>
        rw [e] at p
        cases ra with
        | ref hn =>
          obtain ⟨a', vs, ha, sq, rx⟩ := S.lst el
          rw [hn] at ha
          cases ha
          obtain ⟨w, hw, rw_⟩ := atI_rel rx e
          exact .inl ⟨_, _, i, w, rfl, rfl, by rw [hK]; exact sq, hw, post_ok S p rw_⟩
    · exact p.elim
  · exact p.elim
theorem s_ix (hK : X.K = T.K) (ha : PE X a (rdE T W fa)) (hb : PE X b (rdE T W fb)) (hs : PlainIx b) : PE X (.Subscript a b pos) (rdE T W (Mn.eBin Mn.oIx fa fb)) :=
  PE.imp (pe_ix ix_seq ha hb hs) fun σ H Q h => tOp_mono (ix_rd hK) σ H Q (bin_rd σ H Q h)
/-- what a def is worth: its function -/
def spF (T : Tb) (np : Nat) (F : Fn) : Sp := fun vs H Q E => ∃ R M xs, Sim T R H M ∧ Rels T R H xs vs ∧ vs.length = np ∧ Post T E R H Q (F xs M)
def Arity (F : Fn) (np : Nat) : Prop := ∀ xs M, xs.length ≠ np → F xs M = .bad
theorem call_rd {F : Fn} {np : Nat} (A : Arity F np) : ∀ σ H Q, rdE T W (Mn.eCall F fs) σ H Q → tCallS (spF T np F) (WE W) (rdA T W fs) σ H Q := fun σ H Q ⟨R, ρ, M, e, s, p⟩ => by
  refine rdA_mono (rdA_bind e s p) fun xs H1 ⟨R1, M1, vs, e1, s1, r1, q⟩ => ?_
  refine ⟨R1, M1, vs, s1, r1, ?_, q⟩
  by_cases h : vs.length = np
  · exact r1.length.symm.trans h
  · rw [A vs M1 h] at q
    exact q.elim
theorem mk_arity {np nn : Nat} {b : Mn.St} : Arity (Mn.mkFn np nn b) np := fun xs M h => by
  unfold Mn.mkFn
  rw [if_neg h]
end
/-! ### statements -/
def PostS (T : Tb) (W : WX) (D : Ends) (R : List Addr) (H : Hp) : Mn.RS → Prop
  | .nx ρ M => ∀ R' H' σ, R <+: R' → Keep R R' H H' → Sim T R' H' M → EnvR T R' H' ρ σ → D.nx σ H'
  | .ret v M => ∀ R' H' w, R <+: R' → Keep R R' H H' → Sim T R' H' M → Rel T R' H' v w → D.rt w H'
  | .bk ρ M => ∀ R' H' σ, R <+: R' → Keep R R' H H' → Sim T R' H' M → EnvR T R' H' ρ σ → D.bk σ H'
  | .ct ρ M => ∀ R' H' σ, R <+: R' → Keep R R' H H' → Sim T R' H' M → EnvR T R' H' ρ σ → D.ct σ H'
  | .exc c ρ M => c ∈ T.xs → ∀ R' H' σ, R <+: R' → Keep R R' H H' → Sim T R' H' M → EnvR T R' H' ρ σ → W (.ref (T.ca c)) none σ H'
  | .bad => False
def rdS (T : Tb) (W : WX) (f : Mn.St) : TS := fun D σ H => ∃ R ρ M, EnvR T R H ρ σ ∧ Sim T R H M ∧ PostS T W D R H (f ρ M)
section
variable {X : Cx} {T : Tb} {W : WX} {a b c e : Expr} {es : List Expr} {fa fb fc f : E} {fs : List E} {s t : Mn.St} {pos : Pos} {R R' : List Addr} {H H' : Hp} {D D' : Ends} {st : Stmt} {sts : List Stmt}
theorem PostS.mono {r : Mn.RS} (h : PostS T W D R H r) (p : R <+: R') (k : Keep R R' H H') : PostS T W D R' H' r := by
  cases r with
  | nx ρ M => exact fun R2 H2 σ p2 k2 s2 e2 => h R2 H2 σ (p.trans p2) (k.trans k2) s2 e2
  | ret v M => exact fun R2 H2 σ p2 k2 s2 e2 => h R2 H2 σ (p.trans p2) (k.trans k2) s2 e2
  | bk ρ M => exact fun R2 H2 σ p2 k2 s2 e2 => h R2 H2 σ (p.trans p2) (k.trans k2) s2 e2
  | ct ρ M => exact fun R2 H2 σ p2 k2 s2 e2 => h R2 H2 σ (p.trans p2) (k.trans k2) s2 e2
  | exc c ρ M => exact fun hc R2 H2 σ p2 k2 s2 e2 => h hc R2 H2 σ (p.trans p2) (k.trans k2) s2 e2
  | bad => exact h
theorem st_rd {g : Val → Store → Mn.RS} {ρ : Mn.Env} {M : Store} {σ : L2.St} (e : EnvR T R H ρ σ) (s : Sim T R H M) (h : PostS T W D R H ((fa ρ M).st ρ g)) :
    rdE T W fa σ H fun x H1 => ∃ R1 M1 v, EnvR T R1 H1 ρ σ ∧ Sim T R1 H1 M1 ∧ Rel T R1 H1 v x ∧ PostS T W D R1 H1 (g v M1) := by
  refine ⟨R, ρ, M, e, s, ?_⟩
  cases q : fa ρ M with
  | bad =>
    rw [q] at h
    exact h
  | exc c M' =>
    rw [q] at h
    exact fun hc R1 H1 p1 k1 s1 => h hc R1 H1 σ p1 k1 s1 (e.mono p1 k1)
  | ok v M' =>
    rw [q] at h
    exact fun R1 H1 w p1 k1 s1 r1 => ⟨R1, M', v, e.mono p1 k1, s1, r1, PostS.mono (r := g v M') h p1 k1⟩
theorem stT_rd {A B : Store → Mn.RS} {ρ : Mn.Env} {M : Store} {σ : L2.St} (e : EnvR T R H ρ σ) (s : Sim T R H M) (h : PostS T W D R H ((fa ρ M).st ρ fun v M1 => match v with
    | .bl true => A M1
    | .bl false => B M1
    | _ => .bad)) :
    rdT T W fa σ H fun k H1 => ∃ R1 M1, EnvR T R1 H1 ρ σ ∧ Sim T R1 H1 M1 ∧ PostS T W D R1 H1 (if k = true then A M1 else B M1) := by
  refine ⟨R, ρ, M, e, s, ?_⟩
  cases q : fa ρ M with
  | bad =>
    rw [q] at h
    exact h
  | exc c M' =>
    rw [q] at h
    exact fun hc R1 H1 p1 k1 s1 => h hc R1 H1 σ p1 k1 s1 (e.mono p1 k1)
  | ok v M' =>
    rw [q] at h
    cases v with
    | bl k =>
      intro R1 H1 p1 k1 s1
      refine ⟨R1, M', e.mono p1 k1, s1, ?_⟩
      cases k with
      | true =>
        rw [if_pos rfl]
        exact PostS.mono (r := A M') h p1 k1
      | false =>
        rw [if_neg Bool.false_ne_true]
        exact PostS.mono (r := B M') h p1 k1
    | _ => exact h.elim
theorem ss_nil : PSs X [] (rdS T W Mn.sPass) := PSs.imp pss_nil fun σ H D ⟨R, ρ, M, e, s, p⟩ => p R H σ (List.prefix_refl R) (Keep.refl H) s e
theorem s_pass : PS X (.Pass pos) (rdS T W Mn.sPass) := PS.imp ps_pass fun σ H D ⟨R, ρ, M, e, s, p⟩ => p R H σ (List.prefix_refl R) (Keep.refl H) s e
theorem seq_post {r : Mn.RS} {u : Mn.St} (h : PostS T W D R H (r.andThen u)) : PostS T W { D with nx := rdS T W u D } R H r := by
  cases r with
  | nx ρ M => exact fun R2 H2 σ p2 k2 s2 e2 => ⟨R2, ρ, M, e2, s2, PostS.mono (r := u ρ M) h p2 k2⟩
  | ret v M => exact h
  | bk ρ M => exact h
  | ct ρ M => exact h
  | exc c ρ M => exact h
  | bad => exact h
theorem ss_cons {u : Mn.St} (h1 : PS X st (rdS T W t)) (h2 : PSs X sts (rdS T W u)) : PSs X (st :: sts) (rdS T W (Mn.sSeq t u)) :=
  PSs.imp (pss_cons h1 h2) fun σ H D ⟨R, ρ, M, e, s, p⟩ => ⟨R, ρ, M, e, s, seq_post p⟩
theorem ss_one (h1 : PS X st (rdS T W t)) : PSs X [st] (rdS T W t) := pss_one h1
theorem s_drop (he : PE X e (rdE T W f)) (hs : swapsWith e none pos.line X.env = pure false) : PS X (.Expr e pos) (rdS T W (Mn.sDrop f)) := PS.imp (ps_expr he hs) fun σ H D ⟨R, ρ, M, e, s, p⟩ =>
  rdE_mono (st_rd e s p) fun x H1 ⟨R1, M1, v, e1, s1, r1, q⟩ => q R1 H1 σ (List.prefix_refl R1) (Keep.refl H1) s1 e1
theorem s_ret (he : PE X e (rdE T W f)) : PS X (.Return (some e) pos) (rdS T W (Mn.sRet f)) := PS.imp (ps_ret he) fun σ H D ⟨R, ρ, M, e, s, p⟩ =>
  rdE_mono (st_rd e s p) fun x H1 ⟨R1, M1, v, e1, s1, r1, q⟩ => q R1 H1 x (List.prefix_refl R1) (Keep.refl H1) s1 r1
theorem rdT_mono {f : E} {σ : L2.St} {Q Q' : Bool → Hp → Prop} (h : rdT T W f σ H Q) (q : ∀ w H1, Q w H1 → Q' w H1) : rdT T W f σ H Q' := by
  obtain ⟨R, ρ, M, e, s, p⟩ := h
  refine ⟨R, ρ, M, e, s, ?_⟩
  cases z : f ρ M with
  | ok v M' =>
    rw [z] at p
    cases v with
    | bl k => exact fun R2 H2 p2 k2 s2 => q _ _ (p R2 H2 p2 k2 s2)
    | _ => exact p
  | exc c M' =>
    rw [z] at p
    exact p
  | bad =>
    rw [z] at p
    exact p
theorem s_if {c : Expr} {xs ys : List Stmt} {u : Mn.St} (hc : PT X c (rdT T W fc)) (ha : PSs X xs (rdS T W t)) (hb : PSs X ys (rdS T W u)) : PS X (.If c xs ys pos) (rdS T W (Mn.sIf fc t u)) :=
  PS.imp (ps_if hc ha hb) fun σ H D ⟨R, ρ, M, e, s, p⟩ => by
    refine rdT_mono (stT_rd e s p) fun k H1 ⟨R1, M1, e1, s1, q⟩ => ?_
    cases k with
    | true =>
      rw [if_pos rfl] at q ⊢
      exact ⟨R1, ρ, M1, e1, s1, q⟩
    | false =>
      rw [if_neg Bool.false_ne_true] at q ⊢
      exact ⟨R1, ρ, M1, e1, s1, q⟩
/-! ### targets -/
/-- what is wanted where a store ended so: the slots ts alone are stored to -/
def PostG (T : Tb) (ts : List Nat) (R : List Addr) (H : Hp) (σ : L2.St) (Q : L2.St → Hp → Prop) : Mn.RS → Prop
  | .nx ρ' M' => ∀ R' H' σ', R <+: R' → Keep R R' H H' → Sim T R' H' M' → EnvR T R' H' ρ' σ' → σ'.length = σ.length → (∀ j, j ∉ ts → σ'[j]? = σ[j]?) → Q σ' H'
  | _ => False
def rdG (T : Tb) (ts : List Nat) (t : Tg) : TG := fun v σ H Q => ∃ R ρ M x, EnvR T R H ρ σ ∧ Sim T R H M ∧ Rel T R H x v ∧ PostG T ts R H σ Q (t x ρ M)
def rdGs (T : Tb) (ts : List Nat) (t : List Tg) : TGs := fun vs σ H Q => ∃ R ρ M xs, EnvR T R H ρ σ ∧ Sim T R H M ∧ Rels T R H xs vs ∧ PostG T ts R H σ Q (Mn.tAll t xs ρ M)
theorem PG.imp {e : Expr} {t t' : TG} (h : PG X e t) (i : ∀ v σ H Q, t' v σ H Q → t v σ H Q) : PG X e t' := ⟨fun pins s σ H v u Q I r q => h.run pins s σ H v u Q I r (i v σ H Q q)⟩
theorem PGs.imp {e : List Expr} {t t' : TGs} (h : PGs X e t) (i : ∀ v σ H Q, t' v σ H Q → t v σ H Q) : PGs X e t' := ⟨fun pins s σ H v u Q I r q => h.run pins s σ H v u Q I r (i v σ H Q q)⟩
theorem g_name {i : Nat} (h : PG X e (gName i)) : PG X e (rdG T [i] (Mn.tName i)) := PG.imp h fun v σ H Q ⟨R, ρ, M, x, e, s, r, p⟩ =>
  p R H _ (List.prefix_refl R) (Keep.refl H) s (e.set r i) (List.length_set) fun j hj => List.getElem?_set_ne fun z => hj (by simp [z])
theorem gs_nil : PGs X [] (rdGs T [] []) := PGs.imp pgs_nil fun v σ H Q ⟨R, ρ, M, xs, e, s, r, p⟩ => by
  cases r with
  | nil => exact ⟨rfl, p R H σ (List.prefix_refl R) (Keep.refl H) s e rfl fun _ _ => rfl⟩
  | cons _ _ => exact p.elim
theorem gs_cons {ts us : List Nat} {t : Tg} {u : List Tg} (h1 : PG X e (rdG T ts t)) (h2 : PGs X es (rdGs T us u)) (hs : (assignEach (e :: es) X.env).map (·.2) = assign e X.env :: (assignEach es X.env).map (·.2)) : PGs X (e :: es) (rdGs T (ts ++ us) (t :: u)) :=
  PGs.imp (pgs_cons h1 h2 hs) fun v σ H Q ⟨R, ρ, M, xs, e, s, r, p⟩ => by
    cases r with
    | nil => exact p.elim
    | @cons x w xs ws r1 r2 =>
      refine ⟨w, ws, rfl, R, ρ, M, x, e, s, r1, ?_⟩
      unfold Mn.tAll at p
      cases q : t x ρ M with
      | nx ρ1 M1 =>
        rw [q] at p
        intro R1 H1 σ1 p1 k1 s1 e1 l1 d1
        refine ⟨R1, ρ1, M1, xs, e1, s1, r2.mono p1 k1, ?_⟩
        have p : PostG T (ts ++ us) R H σ Q (Mn.tAll u xs ρ1 M1) := p
        cases q2 : Mn.tAll u xs ρ1 M1 with
        | nx ρ2 M2 =>
          rw [q2] at p
          intro R2 H2 σ2 p2 k2 s2 e2 l2 d2
          refine p R2 H2 σ2 (p1.trans p2) (k1.trans k2) s2 e2 (l2.trans l1) fun j hj => ?_
          rw [List.mem_append] at hj
          exact (d2 j fun z => hj (.inr z)).trans (d1 j fun z => hj (.inl z))
        | _ =>
          rw [q2] at p
          exact p.elim
      | _ =>
        rw [q] at p
        exact p.elim
/-- o[i] = v -/
def rdSt (T : Tb) (f : Val → Val → Val → Store → Option Store) : TSet := fun o i v H Q => ∃ R M x y z, Sim T R H M ∧ Rel T R H x o ∧ Rel T R H y i ∧ Rel T R H z v ∧ ∃ M', f x y z M = some M' ∧ ∀ H', Keep R R H H' → Sim T R H' M' → Q H'
theorem g_sub {o i : Expr} {fo fi : E} (hs : PSet X (rdSt T Mn.setIt)) (ho : PE X o (rdE T W fo)) (hi : PE X i (rdE T W fi))
    (ha : ∀ v, assign (.Subscript o i pos) X.env v = (do
      let ov ← holding [v] (eval o X.env)
      let iv ← holding [v, ov] (eval i X.env)
      standAt pos
      holding [v, ov, iv] (setItem ov iv v)
      release [v, ov, iv] [])) : PG X (.Subscript o i pos) (rdG T [] (Mn.tSub fo fi)) :=
  PG.imp (pg_sub ho hi hs ha) fun v σ H Q ⟨R, ρ, M, x, e, s, r, p⟩ => by
    refine ⟨R, ρ, M, e, s, ?_⟩
    unfold Mn.tSub at p
    cases q : fo ρ M with
    | ok ov M1 =>
      simp only [q] at p
      intro R1 H1 w1 p1 k1 s1 r1
      refine ⟨R1, ρ, M1, e.mono p1 k1, s1, ?_⟩
      cases q2 : fi ρ M1 with
      | ok iv M2 =>
        simp only [q2] at p
        intro R2 H2 w2 p2 k2 s2 r2
        cases q3 : Mn.setIt ov iv x M2 with
        | some M3 =>
          simp only [q3] at p
          refine ⟨R2, M2, ov, iv, x, s2, r1.mono p2 k2, r2, r.mono (p1.trans p2) (k1.trans k2), M3, q3, fun H3 k3 s3 => ?_⟩
          exact p R2 H3 σ (p1.trans p2) ((k1.trans k2).trans k3) s3 ((e.mono (p1.trans p2) (k1.trans k2)).mono (List.prefix_refl R2) k3) rfl fun _ _ => rfl
        | none =>
          simp only [q3] at p
          exact p.elim
      | _ =>
        simp only [q2] at p
        exact p.elim
    | _ =>
      simp only [q] at p
      exact p.elim
theorem PG.or {e : Expr} {t t' : TG} (h : PG X e t) (h' : PG X e t') : PG X e (fun v σ H Q => t v σ H Q ∨ t' v σ H Q) :=
  ⟨fun pins s σ H v u Q I r q => q.elim (h.run pins s σ H v u Q I r) (h'.run pins s σ H v u Q I r)⟩
theorem g_tup {k : Nat} {ts : List Nat} {t : List Tg} (hK : X.K = T.K) (hc : X.calm = true) (h : PGs X es (rdGs T ts t)) (hl : es.length = t.length) (hn : (assignEach es X.env).length = es.length) (hst : (assignEach es X.env).findIdx? (·.1) = none) : PG X (.Tuple es k pos) (rdG T ts (Mn.tTup t)) :=
  PG.imp (PG.or (pg_tup hc h hn hst) (pg_lst hc h hn hst)) fun v σ H Q ⟨R, ρ, M, x, e, s, r, p⟩ => by
    unfold Mn.tTup at p
    cases r with
    | @tup xs a vs ht rx =>
      by_cases hz : xs.length = t.length
      · simp only [Mn.seqOf, if_pos hz] at p
        exact .inl ⟨_, vs, rfl, by rw [hK]; exact ht.sq, by rw [← rx.length, hz, hl], R, ρ, M, xs, e, s, rx, p⟩
      · simp only [Mn.seqOf, if_neg hz] at p
        exact p.elim
    | @ref n a hn2 =>
      cases el : Mn.lstAt M n with
      | none =>
        simp only [Mn.seqOf, el] at p
        exact p.elim
      | some xs =>
        simp only [Mn.seqOf, el] at p
        by_cases hz : xs.length = t.length
        · simp only [if_pos hz] at p
          obtain ⟨a', vs, ha, sq, rx⟩ := s.lst el
          rw [hn2] at ha
          cases ha
          exact .inr ⟨_, vs, rfl, by rw [hK]; exact sq, by rw [← rx.length, hz, hl], R, ρ, M, xs, e, s, rx, p⟩
        · simp only [if_neg hz] at p
          exact p.elim
    | _ => exact p.elim
theorem asg_rd {ts : List Nat} {t : Tg} : ∀ σ H D, rdS T W (Mn.sAsg t f) D σ H → tAsg (rdE T W f) (rdG T ts t) D σ H := fun σ H D ⟨R, ρ, M, e, s, p⟩ => by
  refine rdE_mono (st_rd e s p) fun x H1 ⟨R1, M1, v, e1, s1, r1, q⟩ => ?_
  refine ⟨R1, ρ, M1, v, e1, s1, r1, ?_⟩
  cases z : t v ρ M1 with
  | nx ρ' M' =>
    rw [z] at q
    exact fun R2 H2 σ' p2 k2 s2 e' _ _ => q R2 H2 σ' p2 k2 s2 e'
  | _ =>
    rw [z] at q
    exact q.elim
theorem s_par {i j : Nat} (h : PS X st (tPar i j (rdA T W [fa, fb]))) : PS X st (rdS T W (Mn.sPar i j fa fb)) := PS.imp h fun σ H D ⟨R, ρ, M, e, s, p⟩ => by
  refine ⟨R, ρ, M, e, s, ?_⟩
  cases q : Mn.evL [fa, fb] ρ M with
  | bad =>
    unfold Mn.sPar at p
    rw [q] at p
    exact p
  | exc c M' =>
    unfold Mn.sPar at p
    rw [q] at p
    exact fun hc R1 H1 p1 k1 s1 => p hc R1 H1 σ p1 k1 s1 (e.mono p1 k1)
  | ok vs M' =>
    unfold Mn.sPar at p
    rw [q] at p
    intro R1 H1 ws p1 k1 s1 r1
    cases r1 with
    | nil => exact p.elim
    | cons ra rr =>
      cases rr with
      | nil => exact p.elim
      | cons rb rr =>
        cases rr with
        | cons _ _ => exact p.elim
        | nil => exact ⟨_, _, rfl, p R1 H1 _ p1 k1 s1 (((e.mono p1 k1).set ra i).set rb j)⟩
/-! ### while -/
theorem s_while {c : Expr} {body : List Stmt} {b : Mn.St} (hp : PassesOwn (model X.prog X.w) X.A X.env X.xe) (hc : PT X c (rdT T W fc)) (hb : PSs X body (rdS T W b)) : PS X (.While c body [] pos) (rdS T W (Mn.sWhile fc b)) :=
  PS.imp (ps_while hp hc hb) fun σ H D ⟨R, ρ, M, e, s, p⟩ => by
    refine ⟨fun m σ H => ∃ R ρ M, EnvR T R H ρ σ ∧ Sim T R H M ∧ PostS T W D R H (Mn.sWhileN fc b m ρ M), ⟨_, R, ρ, M, e, s, p⟩, ?_⟩
    rintro m σ H ⟨R, ρ, M, e, s, p⟩
    cases m with
    | zero => exact p.elim
    | succ m =>
      have p2 : PostS T W D R H ((fc ρ M).st ρ fun v M1 => match v with
        | .bl true => (match b ρ M1 with
          | .nx ρ' M' => Mn.sWhileN fc b m ρ' M'
          | .ct ρ' M' => Mn.sWhileN fc b m ρ' M'
          | .bk ρ' M' => .nx ρ' M'
          | r => r)
        | .bl false => .nx ρ M1
        | _ => .bad) := by
        unfold Mn.sWhileN at p
        have e : (fun (v : Val) (M1 : Store) => (match v with
          | .bl false => Mn.RS.nx ρ M1
          | .bl true => (match b ρ M1 with
            | .nx ρ' M' => Mn.sWhileN fc b m ρ' M'
            | .ct ρ' M' => Mn.sWhileN fc b m ρ' M'
            | .bk ρ' M' => .nx ρ' M'
            | r => r)
          | _ => .bad)) = fun v M1 => match v with
          | .bl true => (match b ρ M1 with
            | .nx ρ' M' => Mn.sWhileN fc b m ρ' M'
            | .ct ρ' M' => Mn.sWhileN fc b m ρ' M'
            | .bk ρ' M' => .nx ρ' M'
            | r => r)
          | .bl false => .nx ρ M1
          | _ => .bad := by
          funext v M1
          cases v with
          | bl k => cases k <;> rfl
          | _ => rfl
        rw [← e]
        exact p
      refine rdT_mono (stT_rd e s p2) fun k H1 ⟨R1, M1, e1, s1, q⟩ => ?_
      cases k with
      | false =>
        rw [if_neg Bool.false_ne_true] at q ⊢
        exact q R1 H1 σ (List.prefix_refl R1) (Keep.refl H1) s1 e1
      | true =>
        rw [if_pos rfl] at q ⊢
        refine ⟨fun σ' H' => ∃ R ρ M, EnvR T R H' ρ σ' ∧ Sim T R H' M ∧ PostS T W D R H' (Mn.sWhileN fc b m ρ M), fun σ' H' h => ⟨m, Nat.lt_succ_self m, h⟩, R1, ρ, M1, e1, s1, ?_⟩
        cases z : b ρ M1 with
        | nx ρ2 M2 =>
          rw [z] at q
          exact fun R3 H3 σ3 p3 k3 s3 e3 => ⟨R3, ρ2, M2, e3, s3, PostS.mono (r := Mn.sWhileN fc b m ρ2 M2) q p3 k3⟩
        | ct ρ2 M2 =>
          rw [z] at q
          exact fun R3 H3 σ3 p3 k3 s3 e3 => ⟨R3, ρ2, M2, e3, s3, PostS.mono (r := Mn.sWhileN fc b m ρ2 M2) q p3 k3⟩
        | bk ρ2 M2 =>
          rw [z] at q
          exact q
        | ret v M2 =>
          rw [z] at q
          exact q
        | exc c ρ2 M2 =>
          rw [z] at q
          exact q
        | bad =>
          rw [z] at q
          exact q
end
end MnS
end
section
set_option Elab.async false
set_option autoImplicit false
set_option linter.all false
set_option maxRecDepth 100000
set_option maxHeartbeats 1000000
namespace MnS
open PySem PySem.Spec PyProof.Rows L2
open Mn (Val Cell Store E Fn Op U Itr Src Tg)
/-! ### what is walked -/
/-- J walks as it says, from the addresses R0 and the heap H0 on -/
structure ItOk (T : Tb) (R0 : List Addr) (H0 : Hp) (it : Itr) (J : It) : Prop where
  stop : ∀ R H M, R0 <+: R → Keep R0 R H0 H → Sim T R H M → it.fin M = true → J.stop it.n H
  go : ∀ (i : Nat) (R : List Addr) (H : Hp) (M : Store) (v : Val), R0 <+: R → Keep R0 R H0 H → Sim T R H M → i < it.n → it.nxt i M = some v →
    J.go i H ∧ ∀ x H', J.yld i H x H' → ∃ R', R <+: R' ∧ Keep R R' H H' ∧ Sim T R' H' M ∧ Rel T R' H' v x
theorem ItOk.mono {T : Tb} {R0 R1 : List Addr} {H0 H1 : Hp} {it : Itr} {J : It} (o : ItOk T R0 H0 it J) (p : R0 <+: R1) (k : Keep R0 R1 H0 H1) : ItOk T R1 H1 it J :=
  ⟨fun R H M q k2 => o.stop R H M (p.trans q) (k.trans k2), fun i R H M v q k2 => o.go i R H M v (p.trans q) (k.trans k2)⟩
def rdI (T : Tb) (W : WX) (f : Src) : TI := fun σ H Q => ∃ R ρ M, EnvR T R H ρ σ ∧ Sim T R H M ∧ match f ρ M with
  | .ok it M' => ∀ R' H' J, R <+: R' → Keep R R' H H' → Sim T R' H' M' → ItOk T R' H' it J → Q J H'
  | .exc c M' => c ∈ T.xs → ∀ R' H', R <+: R' → Keep R R' H H' → Sim T R' H' M' → W (.ref (T.ca c)) none σ H'
  | .bad => False
section
variable {X : Cx} {T : Tb} {W : WX} {a b c e tg : Expr} {es : List Expr} {fa fb fc f : E} {fs : List E} {s t : Mn.St} {pos : Pos} {R R' : List Addr} {H H' : Hp} {D D' : Ends} {st : Stmt} {sts : List Stmt}
theorem PI.imp {e : Expr} {t t' : TI} (h : PI X tg e t) (i : ∀ σ H Q, t' σ H Q → t σ H Q) : PI X tg e t' := ⟨fun pins s σ H R I q => h.run pins s σ H R I (i σ H R q)⟩
/-- an iterable's expression -/
theorem src_rd {g : Val → Store → Mn.R Itr} {Q : It → Hp → Prop} {ρ : Mn.Env} {M : Store} {σ : L2.St} (e : EnvR T R H ρ σ) (s : Sim T R H M) (h : match (fa ρ M).bind g with
    | .ok it M' => ∀ R' H' J, R <+: R' → Keep R R' H H' → Sim T R' H' M' → ItOk T R' H' it J → Q J H'
    | .exc c M' => c ∈ T.xs → ∀ R' H', R <+: R' → Keep R R' H H' → Sim T R' H' M' → W (.ref (T.ca c)) none σ H'
    | .bad => False) : rdE T W fa σ H fun x H1 => ∃ R1 M1 v, EnvR T R1 H1 ρ σ ∧ Sim T R1 H1 M1 ∧ Rel T R1 H1 v x ∧ R <+: R1 ∧ Keep R R1 H H1 ∧ match g v M1 with
    | .ok it M' => ∀ R' H' J, R1 <+: R' → Keep R1 R' H1 H' → Sim T R' H' M' → ItOk T R' H' it J → Q J H'
    | .exc c M' => c ∈ T.xs → ∀ R' H', R1 <+: R' → Keep R1 R' H1 H' → Sim T R' H' M' → W (.ref (T.ca c)) none σ H'
    | .bad => False := by
  refine ⟨R, ρ, M, e, s, ?_⟩
  cases q : fa ρ M with
  | bad =>
    rw [q] at h
    exact h
  | exc c M' =>
    rw [q] at h
    exact h
  | ok v M' =>
    rw [q, Mn.R.bind_ok] at h
    intro R1 H1 w p1 k1 s1 r1
    refine ⟨R1, M', v, e.mono p1 k1, s1, r1, p1, k1, ?_⟩
    cases z : g v M' with
    | bad =>
      rw [z] at h
      exact h
    | exc c M2 =>
      rw [z] at h
      exact fun hc R2 H2 p2 k2 s2 => h hc R2 H2 (p1.trans p2) (k1.trans k2) s2
    | ok it M2 =>
      rw [z] at h
      exact fun R2 H2 J p2 k2 s2 o2 => h R2 H2 J (p1.trans p2) (k1.trans k2) s2 o2
/-- a sequence's address -/
def SqA (K : PySem.W.Frag) (H : Hp) (v : Val) (a : Addr) (vs : List V) : Prop := match v with
  | .ref _ => SqL K H a vs
  | _ => SqT K H a vs
theorem Sim.seq {M : Store} (S : Sim T R H M) {v : Val} {x : V} {xs : List Val} (r : Rel T R H v x) (h : Mn.seqOf M v = some xs) : ∃ a vs, x = .ref a ∧ SqA T.K H v a vs ∧ Rels T R H xs vs := by
  cases r with
  | @tup ys a vs ht rx =>
    cases h
    exact ⟨a, vs, rfl, ht.sq, rx⟩
  | @ref n a hn =>
    obtain ⟨a', vs, ha, sq, rx⟩ := S.lst h
    rw [hn] at ha
    cases ha
    exact ⟨a, vs, rfl, sq, rx⟩
  | _ => cases h
theorem it_list {n len : Nat} {a : Addr} (hn : R[n]? = some a) : ItOk T R H (Mn.itSeq (.ref n) len) (Itl T.K a) := by
  refine ⟨fun R' H M p _ S h => ?_, fun i R' H M v p _ S hi h => ?_⟩
  · have h : (match Mn.lstAt M n with | some ys => decide (ys.length ≤ len) | none => false) = true := h
    cases e : Mn.lstAt M n with
    | none =>
      rw [e] at h
      cases h
    | some ys =>
      rw [e] at h
      obtain ⟨a', vs, ha, sq, rx⟩ := S.lst e
      rw [pre_get p hn] at ha
      cases ha
      exact ⟨vs, sq, by rw [← rx.length]; exact of_decide_eq_true h⟩
  · have h : (Mn.lstAt M n).bind (fun ys => ys[i]?) = some v := h
    cases e : Mn.lstAt M n with
    | none =>
      rw [e] at h
      cases h
    | some ys =>
      rw [e] at h
      obtain ⟨a', vs, ha, sq, rx⟩ := S.lst e
      rw [pre_get p hn] at ha
      cases ha
      obtain ⟨w, hw, rw_⟩ := rx.get (i := i) h
      refine ⟨⟨vs, w, sq, hw⟩, fun x H' ⟨e1, e2⟩ => ?_⟩
      subst e1
      have e3 := e2 vs sq
      rw [hw] at e3
      cases e3
      exact ⟨R', List.prefix_refl R', Keep.refl _, S, rw_⟩
theorem it_tup {xs : List Val} {a : Addr} {vs : List V} (ht : TupAt T.K H a vs) (rx : Rels T R H xs vs) : ItOk T R H (Mn.itSeq (.tup xs) xs.length) (Itt T.K a) := by
  refine ⟨fun R' H M p k S h => ?_, fun i R' H M v p k S hi h => ?_⟩
  · exact ⟨vs, (ht.keep k).sq, Nat.le_of_eq rx.length.symm⟩
  · have h : xs[i]? = some v := h
    obtain ⟨w, hw, rw_⟩ := (rx.mono p k).get (i := i) h
    refine ⟨⟨vs, w, (ht.keep k).sq, hw⟩, fun x H' ⟨e1, e2⟩ => ?_⟩
    subst e1
    have e3 := e2 vs (ht.keep k).sq
    rw [hw] at e3
    cases e3
    exact ⟨R', List.prefix_refl R', Keep.refl _, S, rw_⟩
theorem PI.or {e : Expr} {t t' : TI} (h : PI X tg e t) (h' : PI X tg e t') : PI X tg e (fun σ H Q => t σ H Q ∨ t' σ H Q) :=
  ⟨fun pins s σ H R I q => q.elim (h.run pins s σ H R I) (h'.run pins s σ H R I)⟩
theorem i_list (hK : X.K = T.K) (ha : PE X a (rdE T W fa)) : PI X tg a (rdI T W (Mn.iList fa)) := PI.imp (PI.or (pi_list ha) (pi_tup ha)) fun σ H Q ⟨R, ρ, M, e, s, p⟩ => by
  by_cases hv : ∃ xs M1, fa ρ M = .ok (.tup xs) M1
  · obtain ⟨xs, M1, hv⟩ := hv
    refine .inr ⟨R, ρ, M, e, s, ?_⟩
    unfold Mn.iList at p
    rw [hv] at p ⊢
    intro R1 H1 x p1 k1 s1 r1
    cases r1 with
    | @tup _ a vs ht rx =>
      refine ⟨a, rfl, ⟨vs, by rw [hK]; exact ht.sq⟩, ?_⟩
      rw [hK]
      exact p R1 H1 _ p1 k1 s1 (it_tup ht rx)
  · refine .inl ?_
    refine ⟨R, ρ, M, e, s, ?_⟩
    unfold Mn.iList at p
    cases z : fa ρ M with
    | bad =>
      rw [z] at p
      exact p
    | exc c M1 =>
      rw [z] at p
      exact p
    | ok v M1 =>
      rw [z, Mn.R.bind_ok] at p
      intro R1 H1 x p1 k1 s1 r1
      cases r1 with
      | @ref n a hn =>
        cases el : Mn.lstAt M1 n with
        | none =>
          simp only [Mn.seqOf, el] at p
        | some xs =>
          simp only [Mn.seqOf, el] at p
          obtain ⟨a', vs, ha, sq, rx⟩ := s1.lst el
          rw [hn] at ha
          cases ha
          refine ⟨_, rfl, ⟨vs, by rw [hK]; exact sq⟩, ?_⟩
          rw [hK]
          exact p R1 H1 _ p1 k1 s1 (it_list hn)
      | @tup xs a vs ht rx => exact absurd ⟨xs, M1, z⟩ hv
      | _ => exact p.elim
theorem it_range {lo : Int} {n : Nat} : ItOk T R H ⟨n, fun k _ => some (.int (lo + (k : Int))), fun _ => true⟩ (Itr lo n) := by
  refine ⟨fun R' H M p _ S h => Nat.le_refl n, fun i R' H M v p _ S hi h => ⟨hi, fun x H' ⟨e1, e2⟩ => ?_⟩⟩
  subst e1
  subst e2
  cases h
  exact ⟨R', List.prefix_refl R', Keep.refl _, S, .int _⟩
theorem i_range1 (h : PI X tg e (iRng1 (tCons (rdE T W fa) tNil))) : PI X tg e (rdI T W (Mn.iRange1 fa)) := PI.imp h fun σ H Q ⟨R, ρ, M, e, s, p⟩ => by
  refine rdE_mono (src_rd e s p) fun x H1 ⟨R1, M1, v, e1, s1, r1, p1, k1, q⟩ => ?_
  cases r1 with
  | int j =>
    by_cases hz : -(2 ^ 62) ≤ j ∧ j < 2 ^ 62
    · simp only [if_pos hz] at q
      exact ⟨j, rfl, hz.1, hz.2, q R1 H1 _ (List.prefix_refl R1) (Keep.refl _) s1 it_range⟩
    · simp only [if_neg hz] at q
  | _ => exact q.elim
theorem i_range2 (h : PI X tg e (iRng2 (tCons (rdE T W fa) (tCons (rdE T W fb) tNil)))) : PI X tg e (rdI T W (Mn.iRange2 fa fb)) := PI.imp h fun σ H Q ⟨R, ρ, M, e, s, p⟩ => by
  refine rdE_mono (src_rd e s p) fun x H1 ⟨R1, M1, v, e1, s1, r1, p1, k1, q⟩ => ?_
  refine rdE_mono (src_rd e1 s1 q) fun y H2 ⟨R2, M2, u, e2, s2, r2, p2, k2, q2⟩ => ?_
  have r1 := r1.mono p2 k2
  cases r1 with
  | int i =>
    cases r2 with
    | int j =>
      by_cases hz : -(2 ^ 62) ≤ i ∧ i < 2 ^ 62 ∧ -(2 ^ 62) ≤ j ∧ j < 2 ^ 62
      · simp only [if_pos hz] at q2
        exact ⟨i, j, rfl, hz, q2 R2 H2 _ (List.prefix_refl R2) (Keep.refl _) s2 it_range⟩
      · simp only [if_neg hz] at q2
    | _ => exact q2.elim
  | _ => exact q2.elim
theorem s_for {iter : Expr} {body : List Stmt} {b : Mn.St} {f : Src} {ts : List Nat} {t : Tg} (hp : PassesOwn (model X.prog X.w) X.A X.env X.xe) (hc : X.calm = true) (hi : PI X tg iter (rdI T W f)) (hg : PG X tg (rdG T ts t)) (hb : PSs X body (rdS T W b))
    (hs : ∀ x, foldedSetIterable iter X.env x = pure x) : PS X (.For tg iter body [] pos) (rdS T W (Mn.sFor f t b)) :=
  PS.imp (ps_for hp hc hi hg hb hs) fun σ H D ⟨R, ρ, M, e, s, p⟩ => by
    refine ⟨R, ρ, M, e, s, ?_⟩
    unfold Mn.sFor at p
    cases q : f ρ M with
    | bad =>
      rw [q] at p
      exact p
    | exc c M' =>
      rw [q] at p
      exact fun hc R1 H1 p1 k1 s1 => p hc R1 H1 σ p1 k1 s1 (e.mono p1 k1)
    | ok it M1 =>
      rw [q] at p
      intro R1 H1 J p1 k1 s1 o1
      refine ⟨fun i m σ H => ∃ R ρ M, R1 <+: R ∧ Keep R1 R H1 H ∧ EnvR T R H ρ σ ∧ Sim T R H M ∧ i + m = it.n ∧ PostS T W D R H (Mn.sForN it t b m i ρ M), ⟨it.n, R1, ρ, M1, List.prefix_refl _, Keep.refl _, e.mono p1 k1, s1, Nat.zero_add _, PostS.mono (r := Mn.sForN it t b it.n 0 ρ M1) p p1 k1⟩, ?_⟩
      rintro i m σ H ⟨R, ρ, M, pr, kr, e, s, hm, p⟩
      cases m with
      | zero =>
        unfold Mn.sForN at p
        split at p
        · rename_i hf
          have hi : i = it.n := by omega
          subst hi
          exact .inl ⟨o1.stop R H M pr kr s hf, p R H σ (List.prefix_refl R) (Keep.refl _) s e⟩
        · exact p.elim
      | succ m =>
        unfold Mn.sForN at p
        cases en : it.nxt i M with
        | none =>
          rw [en] at p
          exact p.elim
        | some v =>
          simp only [en] at p
          obtain ⟨g1, g2⟩ := o1.go i R H M v pr kr s (by omega) en
          refine .inr ⟨g1, fun σ' H' => ∃ R ρ M, R1 <+: R ∧ Keep R1 R H1 H' ∧ EnvR T R H' ρ σ' ∧ Sim T R H' M ∧ (i + 1) + m = it.n ∧ PostS T W D R H' (Mn.sForN it t b m (i + 1) ρ M), fun σ' H' h => ⟨m, Nat.lt_succ_self m, h⟩, fun x H' hy => ?_⟩
          obtain ⟨R2, p2, k2, s2, r2⟩ := g2 x H' hy
          refine ⟨R2, ρ, M, v, e.mono p2 k2, s2, r2, ?_⟩
          cases et : t v ρ M with
          | nx ρ1 M1 =>
            simp only [et] at p
            intro R3 H3 σ3 p3 k3 s3 e3 _ _
            refine ⟨R3, ρ1, M1, e3, s3, ?_⟩
            have p := PostS.mono p (p2.trans p3) (k2.trans k3)
            cases z : b ρ1 M1 with
            | nx ρ3 M3 =>
              rw [z] at p
              exact fun R4 H4 σ4 p4 k4 s4 e4 => ⟨R4, ρ3, M3, pr.trans (p2.trans (p3.trans p4)), kr.trans (k2.trans (k3.trans k4)), e4, s4, by omega, PostS.mono (r := Mn.sForN it t b m (i + 1) ρ3 M3) p p4 k4⟩
            | ct ρ3 M3 =>
              rw [z] at p
              exact fun R4 H4 σ4 p4 k4 s4 e4 => ⟨R4, ρ3, M3, pr.trans (p2.trans (p3.trans p4)), kr.trans (k2.trans (k3.trans k4)), e4, s4, by omega, PostS.mono (r := Mn.sForN it t b m (i + 1) ρ3 M3) p p4 k4⟩
            | bk ρ3 M3 =>
              rw [z] at p
              exact p
            | ret v M3 =>
              rw [z] at p
              exact p
            | exc c ρ3 M3 =>
              rw [z] at p
              exact p
            | bad =>
              rw [z] at p
              exact p
          | _ =>
            simp only [et] at p
            exact p.elim
/-! ### built-in functions -/
def rdB (T : Tb) (f : U) : List V → Hp → VK → Prop := fun xs H Q => ∃ x, xs = [x] ∧ rdU T f x H Q
theorem b_rd {g : U} : ∀ σ H Q, rdE T W (Mn.eUn g fa) σ H Q → tCB (rdB T g) (tCons (rdE T W fa) tNil) σ H Q := fun σ H Q h => rdE_mono (un_rd σ H Q h) fun x H1 q => ⟨x, rfl, q⟩
theorem b_abs : CallR X (.builtin "abs") (rdB T Mn.uAbs) := by
  intro pins s σ H xs us Q I r ⟨x, e, R, M, u, S, ra, p⟩
  subst e
  unfold Mn.uAbs at p
  split at p
  · cases ra
    exact call_abs pins s σ H _ us Q I r ⟨_, rfl, post_ok S p (.int _)⟩
  · exact p.elim
theorem b_len (hK : X.K = T.K) : CallR X (.builtin "len") (rdB T Mn.uLen) := by
  intro pins s σ H xs us Q I r ⟨x, e, R, M, u, S, ra, p⟩
  subst e
  unfold Mn.uLen at p
  split at p
  · cases ra with
    | tup ht rx =>
      refine call_len_seq pins s σ H _ us Q I r ⟨_, _, rfl, .inr (by rw [hK]; exact ht.sq), ?_⟩
      rw [← rx.length]
      exact post_ok S p (.int _)
  · split at p
    · rename_i hz
      cases ra
      refine call_len_str pins s σ H _ us Q I r ⟨_, rfl, by rw [sOf_len, ← szLine_eq]; exact hz, ?_⟩
      rw [sOf_len]
      exact post_ok S p (.int _)
    · exact p.elim
  · split at p
    · rename_i el
      cases ra with
      | ref hn =>
        obtain ⟨a', vs, ha, sq, rx⟩ := S.lst el
        rw [hn] at ha
        cases ha
        refine call_len_seq pins s σ H _ us Q I r ⟨_, _, rfl, .inl (by rw [hK]; exact sq), ?_⟩
        rw [← rx.length]
        exact post_ok S p (.int _)
    · exact p.elim
  · exact p.elim
end
end MnS
end
section
set_option Elab.async false
set_option autoImplicit false
set_option linter.all false
set_option maxRecDepth 100000
set_option maxHeartbeats 2000000
/-! More sources, built-ins, lists' methods, slices, stores, in. -/
namespace MnS
open PySem PySem.Spec PyProof.Rows L2
open Mn (Val Cell Store E Fn Op U Itr Src Tg)
section
variable {X : Cx} {T : Tb} {W : WX} {a b c e tg : Expr} {es : List Expr} {fa fb fc f : E} {fs : List E} {s t : Mn.St} {pos : Pos} {R R' : List Addr} {H H' : Hp} {M : Store}
/-! ### enumerate, zip, reversed -/
theorem it_enum {n len : Nat} {a : Addr} (hn : R[n]? = some a) : ItOk T R H (Mn.itEnum n len) (Ite T.K a) := by
  refine ⟨fun R' H M p _ S h => ?_, fun i R' H M v p _ S hi h => ?_⟩
  · have h : (match Mn.lstAt M n with | some ys => decide (ys.length ≤ len) | none => false) = true := h
    cases e : Mn.lstAt M n with
    | none =>
      rw [e] at h
      cases h
    | some ys =>
      rw [e] at h
      obtain ⟨a', vs, ha, sq, rx⟩ := S.lst e
      rw [pre_get p hn] at ha
      cases ha
      exact ⟨vs, sq, by rw [← rx.length]; exact of_decide_eq_true h⟩
  · have h : (Mn.lstAt M n).bind (fun ys => ys[i]?.map fun y => .tup [.int i, y]) = some v := h
    cases e : Mn.lstAt M n with
    | none =>
      rw [e] at h
      cases h
    | some ys =>
      rw [e] at h
      obtain ⟨y, hy, rfl⟩ := Option.map_eq_some_iff.mp (show ys[i]?.map (fun y => Val.tup [.int i, y]) = some v from h)
      obtain ⟨a', vs, ha, sq, rx⟩ := S.lst e
      rw [pre_get p hn] at ha
      cases ha
      obtain ⟨w, hw, rw_⟩ := rx.get (i := i) hy
      refine ⟨⟨vs, w, sq, hw⟩, fun x H' ⟨tp, z, e1, e2, e3, e4⟩ => ?_⟩
      subst e1 e3
      have e5 := e4 vs sq
      rw [hw] at e5
      cases e5
      exact ⟨R', List.prefix_refl R', Keep.new e2, S.other e2, .tup (.inl upd_same) (.cons (.int _) (.cons (rw_.mono (List.prefix_refl R') (Keep.new e2)) .nil))⟩
theorem i_enum {elts : List Expr} {kk : Nat} {tpos p : Pos} (hK : X.K = T.K) (hg : Gl X "enumerate") (hm : X.mg "enumerate" = none) (ha : PE X a (rdE T W fa)) (hs : ∀ es env, starEach (a :: es) env = (false, eval a env) :: starEach es env) :
    PI X (.Tuple elts kk tpos) (.Call (.Name "enumerate" p) [a] [] pos) (rdI T W (Mn.iEnum fa)) := PI.imp (pi_enum hg hm (pa_cons ha pa_nil (hs _ _)) (hs _ _)) fun σ H Q ⟨R, ρ, M, e, s, p⟩ => by
  refine rdE_mono (src_rd e s p) fun x H1 ⟨R1, M1, v, e1, s1, r1, p1, k1, q⟩ => ?_
  cases r1 with
  | @ref n a hn =>
    cases el : Mn.lstAt M1 n with
    | none => simp only [el] at q
    | some xs =>
      simp only [el] at q
      obtain ⟨a', vs, ha, sq, rx⟩ := s1.lst el
      rw [hn] at ha
      cases ha
      refine ⟨_, vs, rfl, by rw [hK]; exact sq, ?_⟩
      rw [hK]
      exact q R1 H1 _ (List.prefix_refl R1) (Keep.refl _) s1 (it_enum hn)
  | _ => exact q.elim
theorem it_zipL {m n len : Nat} {a b : Addr} (hm : R[m]? = some a) (hn : R[n]? = some b) : ItOk T R H (Mn.itZip (.ref m) (.ref n) len) (Itz T.K a b) := by
  refine ⟨fun R' H M p _ S h => ?_, fun i R' H M v p _ S hi h => ?_⟩
  · have h : (match Mn.lstAt M m, Mn.lstAt M n with
      | some xs, some ys => decide (xs.length ≤ len) || decide (ys.length ≤ len)
      | _, _ => false) = true := h
    split at h
    · rename_i xs ys e1 e2
      obtain ⟨a', vs, ha, sq, rx⟩ := S.lst e1
      obtain ⟨b', ws, hb, sq2, ry⟩ := S.lst e2
      rw [pre_get p hm] at ha
      rw [pre_get p hn] at hb
      cases ha
      cases hb
      rw [Bool.or_eq_true, decide_eq_true_eq, decide_eq_true_eq, rx.length, ry.length] at h
      exact ⟨vs, ws, sq, sq2, h⟩
    · cases h
  · have h : (match Mn.lstAt M m, Mn.lstAt M n with
      | some xs, some ys => match xs[i]?, ys[i]? with
        | some x, some y => some (Val.tup [x, y])
        | _, _ => none
      | _, _ => none) = some v := h
    split at h
    · rename_i xs ys e1 e2
      split at h
      · rename_i x y g1 g2
        cases h
        obtain ⟨a', vs, ha, sq, rx⟩ := S.lst e1
        obtain ⟨b', ws, hb, sq2, ry⟩ := S.lst e2
        rw [pre_get p hm] at ha
        rw [pre_get p hn] at hb
        cases ha
        cases hb
        obtain ⟨w1, hw1, q1⟩ := rx.get (i := i) g1
        obtain ⟨w2, hw2, q2⟩ := ry.get (i := i) g2
        refine ⟨⟨vs, ws, w1, w2, sq, sq2, hw1, hw2⟩, fun x H' ⟨tp, z1, z2, d1, d2, d3, d4, d5⟩ => ?_⟩
        subst d1 d3
        have d6 := d4 vs sq
        rw [hw1] at d6
        cases d6
        have d7 := d5 ws sq2
        rw [hw2] at d7
        cases d7
        exact ⟨R', List.prefix_refl R', Keep.new d2, S.other d2, .tup (.inl upd_same) (.cons (q1.mono (List.prefix_refl R') (Keep.new d2)) (.cons (q2.mono (List.prefix_refl R') (Keep.new d2)) .nil))⟩
      · cases h
    · cases h
theorem it_zipT {xs ys : List Val} {len : Nat} {a b : Addr} {vs ws : List V} (ht : TupAt T.K H a vs) (rx : Rels T R H xs vs) (hu : TupAt T.K H b ws) (ry : Rels T R H ys ws) : ItOk T R H (Mn.itZip (.tup xs) (.tup ys) len) (RZ.ItzT T.K a b) := by
  refine ⟨fun R' H M p k S h => ?_, fun i R' H M v p k S hi h => ?_⟩
  · have h : (decide (xs.length ≤ len) || decide (ys.length ≤ len)) = true := h
    rw [Bool.or_eq_true, decide_eq_true_eq, decide_eq_true_eq, rx.length, ry.length] at h
    exact ⟨vs, ws, (ht.keep k).sq, (hu.keep k).sq, h⟩
  · have h : (match xs[i]?, ys[i]? with
        | some x, some y => some (Val.tup [x, y])
        | _, _ => none) = some v := h
    split at h
    · rename_i x y g1 g2
      cases h
      obtain ⟨w1, hw1, q1⟩ := (rx.mono p k).get (i := i) g1
      obtain ⟨w2, hw2, q2⟩ := (ry.mono p k).get (i := i) g2
      refine ⟨⟨vs, ws, w1, w2, (ht.keep k).sq, (hu.keep k).sq, hw1, hw2⟩, fun x H' ⟨tp, z1, z2, d1, d2, d3, d4, d5⟩ => ?_⟩
      subst d1 d3
      have d6 := d4 vs (ht.keep k).sq
      rw [hw1] at d6
      cases d6
      have d7 := d5 ws (hu.keep k).sq
      rw [hw2] at d7
      cases d7
      exact ⟨R', List.prefix_refl R', Keep.new d2, S.other d2, .tup (.inl upd_same) (.cons (q1.mono (List.prefix_refl R') (Keep.new d2)) (.cons (q2.mono (List.prefix_refl R') (Keep.new d2)) .nil))⟩
    · cases h
theorem i_zip {elts : List Expr} {kk : Nat} {tpos p : Pos} (hK : X.K = T.K) (hg : Gl X "zip") (hm : X.mg "zip" = none) (ha : PE X a (rdE T W fa)) (hb : PE X b (rdE T W fb)) (hs : ∀ es env, starEach (a :: es) env = (false, eval a env) :: starEach es env)
    (hs2 : ∀ es env, starEach (b :: es) env = (false, eval b env) :: starEach es env) : PI X (.Tuple elts kk tpos) (.Call (.Name "zip" p) [a, b] [] pos) (rdI T W (Mn.iZip fa fb)) :=
  PI.imp (RZ.pi_zipA hg hm (pa_cons ha (pa_cons hb pa_nil (hs2 _ _)) (hs _ _)) (hs _ _) (by rw [hs2]; rfl)) fun σ H Q ⟨R, ρ, M, e, s, p⟩ => by
  refine rdE_mono (src_rd e s p) fun x H1 ⟨R1, M1, v, e1, s1, r1, p1, k1, q⟩ => ?_
  refine rdE_mono (src_rd e1 s1 q) fun y H2 ⟨R2, M2, w, e2, s2, r2, p2, k2, q2⟩ => ?_
  have r1 := r1.mono p2 k2
  cases r1 with
  | @ref m a hm =>
    cases r2 with
    | @ref n b hn =>
      simp only [Mn.sameKind, if_true, Mn.seqOf] at q2
      cases el : Mn.lstAt M2 m with
      | none => simp only [el] at q2
      | some xs =>
        cases el2 : Mn.lstAt M2 n with
        | none => simp only [el, el2] at q2
        | some ys =>
          simp only [el, el2] at q2
          obtain ⟨a', vs, ha, sq, rx⟩ := s2.lst el
          obtain ⟨b', ws, hb, sq2, ry⟩ := s2.lst el2
          rw [hm] at ha
          rw [hn] at hb
          cases ha
          cases hb
          refine ⟨_, _, vs, ws, rfl, .inl ⟨by rw [hK]; exact sq, by rw [hK]; exact sq2, ?_⟩⟩
          rw [hK]
          exact q2 R2 H2 _ (List.prefix_refl R2) (Keep.refl _) s2 (it_zipL hm hn)
    | _ => exact q2.elim
  | @tup xs a vs ht rx =>
    cases r2 with
    | @tup ys b ws hu ry =>
      simp only [Mn.sameKind, if_true, Mn.seqOf] at q2
      refine ⟨_, _, vs, ws, rfl, .inr ⟨by rw [hK]; exact ht.sq, by rw [hK]; exact hu.sq, ?_⟩⟩
      rw [hK]
      exact q2 R2 H2 _ (List.prefix_refl R2) (Keep.refl _) s2 (it_zipT ht rx hu ry)
    | _ => exact q2.elim
  | _ =>
    cases r2 <;> exact q2.elim
theorem it_revL {n len : Nat} {a : Addr} (hn : R[n]? = some a) : ItOk T R H (Mn.itRev (.ref n) len) (Itv T.K a len) := by
  refine ⟨fun R' H M p _ S h => Nat.le_refl len, fun i R' H M v p _ S hi h => ?_⟩
  have h : (Mn.lstAt M n).bind (fun ys => ys[len - 1 - i]?) = some v := h
  cases e : Mn.lstAt M n with
  | none =>
    rw [e] at h
    cases h
  | some ys =>
    rw [e] at h
    obtain ⟨a', vs, ha, sq, rx⟩ := S.lst e
    rw [pre_get p hn] at ha
    cases ha
    obtain ⟨w, hw, rw_⟩ := rx.get (i := len - 1 - i) h
    refine ⟨⟨hi, vs, w, sq, hw⟩, fun x H' ⟨e1, e2⟩ => ?_⟩
    subst e1
    have e3 := e2 vs sq
    rw [hw] at e3
    cases e3
    exact ⟨R', List.prefix_refl R', Keep.refl _, S, rw_⟩
theorem it_revT {xs : List Val} {len : Nat} {a : Addr} {vs : List V} (ht : TupAt T.K H a vs) (rx : Rels T R H xs vs) : ItOk T R H (Mn.itRev (.tup xs) len) (RT.ItvT T.K a len) := by
  refine ⟨fun R' H M p k S h => Nat.le_refl len, fun i R' H M v p k S hi h => ?_⟩
  have h : xs[len - 1 - i]? = some v := h
  obtain ⟨w, hw, rw_⟩ := (rx.mono p k).get (i := len - 1 - i) h
  refine ⟨⟨hi, vs, w, (ht.keep k).sq, hw⟩, fun x H' ⟨e1, e2⟩ => ?_⟩
  subst e1
  have e3 := e2 vs (ht.keep k).sq
  rw [hw] at e3
  cases e3
  exact ⟨R', List.prefix_refl R', Keep.refl _, S, rw_⟩
theorem i_rev {p : Pos} (hK : X.K = T.K) (hg : Gl X "reversed") (hm : X.mg "reversed" = none) (ha : PE X a (rdE T W fa)) (hs : ∀ es env, starEach (a :: es) env = (false, eval a env) :: starEach es env) :
    PI X tg (.Call (.Name "reversed" p) [a] [] pos) (rdI T W (Mn.iRev fa)) := PI.imp (RT.pi_revA hg hm ha (hs _ _)) fun σ H Q ⟨R, ρ, M, e, s, p⟩ => by
  refine rdE_mono (src_rd e s p) fun x H1 ⟨R1, M1, v, e1, s1, r1, p1, k1, q⟩ => ?_
  cases r1 with
  | @ref n a hn =>
    cases el : Mn.lstAt M1 n with
    | none => simp only [Mn.seqOf, el] at q
    | some xs =>
      simp only [Mn.seqOf, el] at q
      obtain ⟨a', vs, ha, sq, rx⟩ := s1.lst el
      rw [hn] at ha
      cases ha
      refine ⟨_, vs, rfl, .inl ⟨by rw [hK]; exact sq, ?_⟩⟩
      rw [hK, ← rx.length]
      exact q R1 H1 _ (List.prefix_refl R1) (Keep.refl _) s1 (it_revL hn)
  | @tup xs a vs ht rx =>
    simp only [Mn.seqOf] at q
    refine ⟨_, vs, rfl, .inr ⟨by rw [hK]; exact ht.sq, ?_⟩⟩
    rw [hK, ← rx.length]
    exact q R1 H1 _ (List.prefix_refl R1) (Keep.refl _) s1 (it_revT ht rx)
  | _ => exact q.elim
end
end MnS
end
section
set_option Elab.async false
set_option autoImplicit false
set_option linter.all false
set_option maxRecDepth 100000
set_option maxHeartbeats 2000000
namespace MnS
open PySem PySem.Spec PyProof.Rows L2
open Mn (Val Cell Store E Fn Op U Itr Src Tg)
section
variable {X : Cx} {T : Tb} {W : WX} {W' : XK} {a b c e tg : Expr} {es : List Expr} {fa fb fc f : E} {fs : List E} {s t : Mn.St} {pos : Pos} {R R' : List Addr} {H H' : Hp} {M : Store} {Q : VK}
/-- a new tuple -/
theorem post_tup {xs : List Val} {vs : List V} {p : Addr} (S : Sim T R H M) (h : Post T W' R H Q (.ok (.tup xs) M)) (hp : H p = none) (r : Rels T R H xs vs) : Q (.ref p) (upd H p (.tup vs)) :=
  h R _ _ (List.prefix_refl R) (Keep.new hp) (S.other hp) (.tup (.inl upd_same) (r.mono (List.prefix_refl R) (Keep.new hp)))
/-- a written cell -/
theorem post_wr {n : Nat} {p : Addr} {o : HO} {c : Cell} {v : Val} {w : V} (S : Sim T R H M) (h : Post T W' R H Q (.ok v (M.set n c))) (hn : R[n]? = some p) (hc : CellAt T R (upd H p o) p c) (r : ∀ k : Keep R R H (upd H p o), Rel T R (upd H p o) v w) : Q w (upd H p o) := by
  obtain ⟨S2, k⟩ := S.write hn hc
  exact h R _ w (List.prefix_refl R) k S2 (r k)
theorem wr_lst {n : Nat} {p : Addr} {xs : List Val} {vs : List V} (S : Sim T R H M) (hn : R[n]? = some p) (r : Rels T R H xs vs) : CellAt T R (upd H p (.lst vs)) p (.lst xs) := by
  obtain ⟨c, _, hc⟩ := S.of hn
  obtain ⟨u, hu, u1, u2⟩ := hc.some
  have k : Keep R R H (upd H p (.lst vs)) := Keep.upd (List.mem_of_getElem? hn) ⟨fun xs e => u1 xs (Option.some.inj (hu.symm.trans e)), fun φ e => u2 φ (Option.some.inj (hu.symm.trans e))⟩
  exact ⟨vs, upd_same, r.mono (List.prefix_refl R) k⟩
/-! ### built-ins -/
def rdB2 (T : Tb) (f : Op) : List V → Hp → VK → Prop := fun xs H Q => ∃ x y, xs = [x, y] ∧ rdO T f x y H Q
theorem b2_rd {g : Op} : ∀ σ H Q, rdE T W (Mn.eBin g fa fb) σ H Q → tCB (rdB2 T g) (tCons (rdE T W fa) (tCons (rdE T W fb) tNil)) σ H Q := fun σ H Q h =>
  rdE_mono (bin_rd σ H Q h) fun x H1 q => rdE_mono q fun y H2 q2 => ⟨x, y, rfl, q2⟩
theorem b_dm : CallR X (.builtin "divmod") (rdB2 T Mn.oDm) := by
  intro pins s σ H xs us Q I r ⟨x, y, e, R, M, u, v, S, ra, rb, p⟩
  subst e
  unfold Mn.oDm at p
  split at p
  · split at p
    · rename_i hc
      cases ra
      cases rb
      refine call_divmodW pins s σ H _ us Q I r ⟨_, _, rfl, ⟨hc.1, divOk_of (by omega) hc.2⟩, fun pp hp => ?_⟩
      exact post_tup S p hp (.cons (.int _) (.cons (.int _) .nil))
    · exact p.elim
  · exact p.elim
theorem b_max (hc : X.calm = true) : CallR X (.builtin "max") (rdB2 T Mn.oMax) := by
  intro pins s σ H xs us Q I r ⟨x, y, e, R, M, u, v, S, ra, rb, p⟩
  subst e
  unfold Mn.oMax at p
  split at p
  · cases ra
    cases rb
    exact call_max2 hc pins s σ H _ us Q I r ⟨_, _, rfl, post_ok S p (.int _)⟩
  · exact p.elim
theorem b_min (hc : X.calm = true) : CallR X (.builtin "min") (rdB2 T Mn.oMin) := by
  intro pins s σ H xs us Q I r ⟨x, y, e, R, M, u, v, S, ra, rb, p⟩
  subst e
  unfold Mn.oMin at p
  split at p
  · cases ra
    cases rb
    exact call_min2 hc pins s σ H _ us Q I r ⟨_, _, rfl, post_ok S p (.int _)⟩
  · exact p.elim
theorem b_list (hK : X.K = T.K) : CallR X (.type "list") (rdB T Mn.uList) := by
  intro pins s σ H xs us Q I r ⟨x, e, R, M, u, S, ra, p⟩
  subst e
  unfold Mn.uList at p
  cases eq : Mn.seqOf M u with
  | none =>
    rw [eq] at p
    exact p.elim
  | some ys =>
    rw [eq] at p
    obtain ⟨a, vs, rfl, sq, rx⟩ := S.seq ra eq
    refine call_list_of pins s σ H _ us Q I r ⟨a, vs, rfl, ?_, fun l hl => post_new S p hl (new_lst rx hl)⟩
    rw [hK]
    unfold SqA at sq
    split at sq
    · exact .inl sq
    · exact .inr sq
theorem b_tup (hK : X.K = T.K) : CallR X (.type "tuple") (rdB T Mn.uTup) := by
  intro pins s σ H xs us Q I r ⟨x, e, R, M, u, S, ra, p⟩
  subst e
  unfold Mn.uTup at p
  cases ra with
  | @ref n a hn =>
    simp only [] at p
    cases el : Mn.lstAt M n with
    | none =>
      simp only [el] at p
      exact p.elim
    | some ys =>
      simp only [el] at p
      obtain ⟨a', vs, ha, sq, rx⟩ := S.lst el
      rw [hn] at ha
      cases ha
      exact call_tuple_of pins s σ H _ us Q I r ⟨a, vs, rfl, .inl ⟨by rw [hK]; exact sq, fun l hl => post_tup S p hl rx⟩⟩
  | @tup ys a vs ht rx => exact call_tuple_of pins s σ H _ us Q I r ⟨a, vs, rfl, .inr ⟨by rw [hK]; exact ht.sq, post_ok S p (.tup ht rx)⟩⟩
  | _ => exact p.elim
theorem rels_bls {bs : List Bool} : ∀ {xs : List Val} {vs : List V}, Rels T R H xs vs → Mn.mapO Mn.toBl xs = some bs → vs = bs.map V.bl := by
  induction bs with
  | nil =>
    intro xs vs r h
    cases r with
    | nil => rfl
    | cons r1 r2 =>
      unfold Mn.mapO at h
      split at h
      · obtain ⟨_, _, e⟩ := Option.map_eq_some_iff.mp h
        cases e
      · cases h
  | cons b bs ih =>
    intro xs vs r h
    cases r with
    | nil => cases h
    | cons r1 r2 =>
      unfold Mn.mapO at h
      split at h
      · rename_i z hz
        obtain ⟨l, hl, e⟩ := Option.map_eq_some_iff.mp h
        cases e
        cases r1 <;> cases hz
        rw [ih r2 hl]
        rfl
      · cases h
theorem b_allG {id : String} {g : List Bool → Bool} (hr : CallR X (.builtin id) (fun vs H Q => ∃ (a : Addr) (bs : List Bool), vs = [V.ref a] ∧ SqL X.K H a (bs.map V.bl) ∧ Q (.bl (g bs)) H)) (hK : X.K = T.K) : CallR X (.builtin id) (rdB T (Mn.uAllG g)) := by
  intro pins s σ H xs us Q I r ⟨x, e, R, M, u, S, ra, p⟩
  subst e
  unfold Mn.uAllG at p
  cases ra with
  | @ref n a hn =>
    simp only [] at p
    cases el : Mn.lstAt M n with
    | none =>
      simp only [el] at p
      exact p.elim
    | some ys =>
      simp only [el] at p
      cases eb : Mn.mapO Mn.toBl ys with
      | none =>
        simp only [eb] at p
        exact p.elim
      | some bs =>
        simp only [eb] at p
        obtain ⟨a', vs, ha, sq, rx⟩ := S.lst el
        rw [hn] at ha
        cases ha
        rw [rels_bls rx eb, ← hK] at sq
        exact hr pins s σ H _ us Q I r ⟨a, bs, rfl, sq, post_ok S p (.bl _)⟩
  | _ => exact p.elim
theorem b_int : CallR X (.type "int") (rdB T Mn.uInt) := by
  intro pins s σ H xs us Q I r ⟨x, e, R, M, u, S, ra, p⟩
  subst e
  unfold Mn.uInt at p
  split at p
  · cases ra
    exact call_int1 pins s σ H _ us Q I r (.inl ⟨_, rfl, post_ok S p (.int _)⟩)
  · cases ra
    exact call_int1 pins s σ H _ us Q I r (.inr ⟨_, rfl, post_ok S p (.int _)⟩)
  · exact p.elim
/-! ### methods -/
def rdM0 (T : Tb) (f : U) : V → List V → Hp → VK → Prop := fun x vs H Q => vs = [] ∧ rdU T f x H Q
def rdM1 (T : Tb) (f : Op) : V → List V → Hp → VK → Prop := fun x vs H Q => ∃ y, vs = [y] ∧ rdO T f x y H Q
def rdM2 (T : Tb) (f : Mn.Tri) : V → List V → Hp → VK → Prop := fun x vs H Q => ∃ y z, vs = [y, z] ∧ ∃ R M u v w, Sim T R H M ∧ Rel T R H u x ∧ Rel T R H v y ∧ Rel T R H w z ∧ Post T (fun _ _ _ => False) R H Q (Mn.R.of (f u v w M))
theorem m_app : MtR X "list.append" (rdM1 T Mn.mApp) := by
  intro pins s σ H x vs v us Q I rx rv ⟨y, e, R, M, u, z, S, ra, rb, p⟩
  subst e
  unfold Mn.mApp at p
  split at p
  · split at p
    · rename_i xs e1
      split at p
      · rename_i hz
        cases ra with
        | ref hn =>
          obtain ⟨a1, z1, ws, h1, k1⟩ := S.at e1
          rw [hn] at z1
          cases z1
          refine mt_append pins s σ H _ _ v us Q I rx rv ⟨_, ws, y, rfl, rfl, h1, by rw [← k1.length, ← szLine_eq]; exact hz, ?_⟩
          exact post_wr S p hn (wr_lst S hn (k1.append (.cons rb .nil))) fun _ => .non
      · exact p.elim
    · exact p.elim
  · exact p.elim
theorem m_ext : MtR X "list.extend" (rdM1 T Mn.mExt) := by
  intro pins s σ H x vs v us Q I rx rv ⟨y, e, R, M, u, z, S, ra, rb, p⟩
  subst e
  unfold Mn.mExt at p
  split at p
  · split at p
    · rename_i xs ys e1 e2
      split at p
      · rename_i hz
        cases ra with
        | ref hn =>
          cases rb with
          | ref hm =>
            obtain ⟨a1, z1, ws, h1, k1⟩ := S.at e1
            obtain ⟨a2, z2, us', h2, k2⟩ := S.at e2
            rw [hn] at z1
            rw [hm] at z2
            cases z1
            cases z2
            refine mt_extend pins s σ H _ _ v us Q I rx rv ⟨_, _, ws, us', rfl, rfl, h1, h2, by rw [← k1.length, ← k2.length, ← szLine_eq]; exact hz, ?_⟩
            exact post_wr S p hn (wr_lst S hn (k1.append k2)) fun _ => .non
      · exact p.elim
    · exact p.elim
  · exact p.elim
theorem m_clr : MtR X "list.clear" (rdM0 T Mn.mClr) := by
  intro pins s σ H x vs v us Q I rx rv ⟨e, R, M, u, S, ra, p⟩
  subst e
  unfold Mn.mClr at p
  split at p
  · split at p
    · rename_i xs e1
      cases ra with
      | ref hn =>
        obtain ⟨a1, z1, ws, h1, k1⟩ := S.at e1
        rw [hn] at z1
        cases z1
        refine mt_clear pins s σ H _ _ v us Q I rx rv ⟨_, ws, rfl, rfl, h1, ?_⟩
        exact post_wr S p hn (wr_lst S hn .nil) fun _ => .non
    · exact p.elim
  · exact p.elim
theorem Rels.dropLast : ∀ {xs : List Val} {vs : List V}, Rels T R H xs vs → Rels T R H xs.dropLast vs.dropLast
  | _, _, .nil => .nil
  | _, _, .cons _ .nil => .nil
  | _, _, .cons h (.cons h2 r) => .cons h (Rels.dropLast (.cons h2 r))
theorem Rels.take : ∀ {xs : List Val} {vs : List V} (k : Nat), Rels T R H xs vs → Rels T R H (xs.take k) (vs.take k)
  | _, _, 0, _ => .nil
  | _, _, _ + 1, .nil => .nil
  | _, _, k + 1, .cons h r => .cons h (Rels.take k r)
theorem Rels.drop : ∀ {xs : List Val} {vs : List V} (k : Nat), Rels T R H xs vs → Rels T R H (xs.drop k) (vs.drop k)
  | _, _, 0, r => r
  | _, _, _ + 1, .nil => .nil
  | _, _, k + 1, .cons _ r => Rels.drop k r
theorem m_pop : MtR X "list.pop" (rdM0 T Mn.mPop) := by
  intro pins s σ H x vs v us Q I rx rv ⟨e, R, M, u, S, ra, p⟩
  subst e
  unfold Mn.mPop at p
  split at p
  · split at p
    · rename_i xs e1
      split at p
      · rename_i y hy
        cases ra with
        | ref hn =>
          obtain ⟨a1, z1, ws, h1, k1⟩ := S.at e1
          rw [hn] at z1
          cases z1
          obtain ⟨w, hw, rw_⟩ := k1.get hy
          rw [k1.length] at hw
          refine mt_pop pins s σ H _ _ v us Q I rx rv ⟨_, ws, w, rfl, rfl, h1, hw, ?_⟩
          exact post_wr S p hn (wr_lst S hn k1.dropLast) fun k => rw_.mono (List.prefix_refl R) k
      · exact p.elim
    · exact p.elim
  · exact p.elim
theorem m_ins : MtR X "list.insert" (rdM2 T Mn.mIns) := by
  intro pins s σ H x vs v us Q I rx rv ⟨y, z, e, R, M, u, w, w2, S, ra, rb, rc, p⟩
  subst e
  unfold Mn.mIns at p
  split at p
  · split at p
    · rename_i xs e1
      split at p
      · rename_i hz
        cases ra with
        | ref hn =>
          cases rb
          obtain ⟨a1, z1, ws, h1, k1⟩ := S.at e1
          rw [hn] at z1
          cases z1
          refine mt_insert pins s σ H _ _ v us Q I rx rv ⟨_, ws, _, z, rfl, rfl, h1, by rw [← k1.length, ← szLine_eq]; exact hz.1, hz.2.1, hz.2.2, ?_⟩
          exact post_wr S p hn (wr_lst S hn (((k1.take _).append (.cons rc .nil)).append (k1.drop _))) fun _ => .non
      · exact p.elim
    · exact p.elim
  · exact p.elim
/-- the type that a method is called of -/
theorem ty_v (hK : X.K = T.K) {t : String} (ht : t = "list" ∨ t = "str") (S : Sim T R H M) {v : Val} {x : V} (r : Rel T R H v x) (h : Mn.isTy t v M = true) : tyV X.K t x H := by
  have h := of_decide_eq_true h
  cases r with
  | str s =>
    cases h
    rfl
  | @ref n p hn =>
    obtain ⟨c, hc, hp⟩ := S.of hn
    unfold Mn.tyName at h
    simp only [hc] at h
    cases c with
    | lst xs =>
      cases h
      obtain ⟨vs, h1, _⟩ := hp
      exact .inl ⟨rfl, vs, .inl (.inl h1)⟩
    | ro xs =>
      cases h
      obtain ⟨o, vs, h1, _⟩ := hp
      exact .inl ⟨rfl, vs, .inl (.inr ⟨o, h1⟩)⟩
    | dic xs =>
      cases h
      rcases ht with z | z <;> exact absurd z (by decide)
    | rod xs =>
      cases h
      rcases ht with z | z <;> exact absurd z (by decide)
    | obj c fs => cases h
  | int i =>
    cases h
    rcases ht with z | z <;> exact absurd z (by decide)
  | non =>
    cases h
    rcases ht with z | z <;> exact absurd z (by decide)
  | bl b =>
    cases h
    rcases ht with z | z <;> exact absurd z (by decide)
  | tup _ _ =>
    cases h
    rcases ht with z | z <;> exact absurd z (by decide)
  | exc _ _ => cases h
theorem s_m0 {t id name : String} {f : U} {ap : Pos} (pa : PlainAttrs t) (slot : Slot t name id) (hty : typeOf (.builtin id) = pure (.type "method_descriptor")) (ht : t = "list" ∨ t = "str") (hK : X.K = T.K) (hm : MtR X id (rdM0 T f))
    (ha : PE X a (rdE T W fa)) (hb : attributeBase a name X.env (eval a X.env) = eval a X.env) (hl : (ap.endLine == pos.line) = true) : PE X (.Call (.Attribute a name ap) [] [] pos) (rdE T W (Mn.eM0 t f fa)) :=
  PE.imp (pe_bm0 pa slot hty hm ha hb hl) fun σ H Q ⟨R, ρ, M, e, s, p⟩ => by
    obtain ⟨R0, ρ0, M0, e0, s0, p0⟩ := rdE_bind e s p
    refine ⟨R0, ρ0, M0, e0, s0, p0.imp (List.prefix_refl _) (Keep.refl _) fun x H1 ⟨R1, M1, v, e1, s1, r1, pr1, k1, q⟩ => ?_⟩
    split at q
    · rename_i hz
      exact ⟨ty_v hK ht s1 r1 hz, rfl, R1, M1, v, s1, r1, of_noexc q⟩
    · exact q.elim
theorem s_m1 {t id name : String} {f : Op} {ap : Pos} (pa : PlainAttrs t) (slot : Slot t name id) (hty : typeOf (.builtin id) = pure (.type "method_descriptor")) (ht : t = "list" ∨ t = "str") (hK : X.K = T.K) (hm : MtR X id (rdM1 T f))
    (ha : PE X a (rdE T W fa)) (hb2 : PE X b (rdE T W fb)) (hb : attributeBase a name X.env (eval a X.env) = eval a X.env) (hl : (ap.endLine == pos.line) = true) (hs : ∀ es env, starEach (b :: es) env = (false, eval b env) :: starEach es env) :
    PE X (.Call (.Attribute a name ap) [b] [] pos) (rdE T W (Mn.eM1 t f fa fb)) :=
  PE.imp (pe_bm pa slot hty hm ha (pa_cons hb2 pa_nil (hs _ _)) hb (by rw [hs]; rfl) hl (hs _ _) rfl) fun σ H Q ⟨R, ρ, M, e, s, p⟩ => by
    obtain ⟨R0, ρ0, M0, e0, s0, p0⟩ := rdE_bind e s p
    refine ⟨R0, ρ0, M0, e0, s0, p0.imp (List.prefix_refl _) (Keep.refl _) fun x H1 ⟨R1, M1, v, e1, s1, r1, pr1, k1, q⟩ => ?_⟩
    split at q
    · rename_i hz
      refine ⟨ty_v hK ht s1 r1 hz, ?_⟩
      obtain ⟨R2, ρ2, M2, e2, s2, p2⟩ := rdE_bind e1 s1 q
      exact ⟨R2, ρ2, M2, e2, s2, p2.imp (List.prefix_refl _) (Keep.refl _) fun y H2 ⟨R3, M3, u, e3, s3, r3, pr3, k3, q3⟩ => ⟨y, rfl, R3, M3, v, u, s3, r1.mono pr3 k3, r3, of_noexc q3⟩⟩
    · exact q.elim
theorem s_m2 {t id name : String} {f : Mn.Tri} {ap : Pos} (pa : PlainAttrs t) (slot : Slot t name id) (hty : typeOf (.builtin id) = pure (.type "method_descriptor")) (ht : t = "list" ∨ t = "str") (hK : X.K = T.K) (hm : MtR X id (rdM2 T f))
    (ha : PE X a (rdE T W fa)) (hb2 : PE X b (rdE T W fb)) (hc2 : PE X c (rdE T W fc)) (hb : attributeBase a name X.env (eval a X.env) = eval a X.env) (hl : (ap.endLine == pos.line) = true) (hs : ∀ es env, starEach (b :: es) env = (false, eval b env) :: starEach es env)
    (hs2 : ∀ es env, starEach (c :: es) env = (false, eval c env) :: starEach es env) :
    PE X (.Call (.Attribute a name ap) [b, c] [] pos) (rdE T W (Mn.eM2 t f fa fb fc)) :=
  PE.imp (pe_bm pa slot hty hm ha (pa_cons hb2 (pa_cons hc2 pa_nil (hs2 _ _)) (hs _ _)) hb (by rw [hs, hs2]; rfl) hl (hs _ _) (by rw [hs2]; rfl)) fun σ H Q ⟨R, ρ, M, e, s, p⟩ => by
    obtain ⟨R0, ρ0, M0, e0, s0, p0⟩ := rdE_bind e s p
    refine ⟨R0, ρ0, M0, e0, s0, p0.imp (List.prefix_refl _) (Keep.refl _) fun x H1 ⟨R1, M1, v, e1, s1, r1, pr1, k1, q⟩ => ?_⟩
    split at q
    · rename_i hz
      refine ⟨ty_v hK ht s1 r1 hz, ?_⟩
      obtain ⟨R2, ρ2, M2, e2, s2, p2⟩ := rdE_bind e1 s1 q
      refine ⟨R2, ρ2, M2, e2, s2, p2.imp (List.prefix_refl _) (Keep.refl _) fun y H2 ⟨R3, M3, u, e3, s3, r3, pr3, k3, q3⟩ => ?_⟩
      obtain ⟨R4, ρ4, M4, e4, s4, p4⟩ := rdE_bind e3 s3 q3
      exact ⟨R4, ρ4, M4, e4, s4, p4.imp (List.prefix_refl _) (Keep.refl _) fun z H5 ⟨R5, M5, w, e5, s5, r5, pr5, k5, q5⟩ =>
        ⟨y, z, rfl, R5, M5, v, u, w, s5, (r1.mono pr3 k3).mono pr5 k5, r3.mono pr5 k5, r5, of_noexc q5⟩⟩
    · exact q.elim
/-! ### slices -/
theorem cutIx_eq (n d : Nat) (o : Option Int) : Mn.cutIx n d o = HT.sIx n d o := by
  cases o <;> rfl
theorem cut_v (xs : List V) (lo hi : Option Int) : Mn.cut xs lo hi = cutV xs lo hi := by
  unfold Mn.cut cutV
  rw [cutIx_eq, cutIx_eq]
theorem Rels.cut {xs : List Val} {vs : List V} (r : Rels T R H xs vs) (lo hi : Option Int) : Rels T R H (Mn.cut xs lo hi) (cutV vs lo hi) := by
  rw [← cut_v]
  unfold Mn.cut
  rw [r.length]
  exact (r.drop _).take _
theorem cut_all {α : Type} {xs : List α} {lo hi : Option Int} (h : HT.sIx xs.length 0 lo = 0 ∧ HT.sIx xs.length xs.length hi = xs.length) : Mn.cut xs lo hi = xs := by
  unfold Mn.cut
  rw [cutIx_eq, cutIx_eq, h.1, h.2]
  simp
theorem cut_s (s : List Nat) (lo hi : Option Int) : cutS (sOf s) lo hi = sOf (Mn.cut s lo hi) := by
  unfold cutS Mn.cut sOf
  rw [cutIx_eq, cutIx_eq]
  simp [Str.length]
def rdC (T : Tb) : V → Option Int → Option Int → Hp → VK → Prop := fun x lo hi H Q => ∃ R M v, Sim T R H M ∧ Rel T R H v x ∧ Post T (fun _ _ _ => False) R H Q (Mn.R.of (Mn.cutOf v lo hi M))
theorem SlR.imp {r r' : V → Option Int → Option Int → Hp → VK → Prop} (h : SlR X r) (i : ∀ x lo hi H Q, r' x lo hi H Q → r x lo hi H Q) : SlR X r' := fun pins s σ H x v vl vu lo hi sl Q I rx hs pl pu q => h pins s σ H x v vl vu lo hi sl Q I rx hs pl pu (i _ _ _ _ _ q)
theorem sl_all (hK : X.K = T.K) : SlR X (rdC T) := SlR.imp (sl_list.or (sl_tupA.or sl_str)) fun x lo hi H Q ⟨R, M, v, S, r, p⟩ => by
  unfold Mn.cutOf at p
  cases r with
  | @ref n a hn =>
    simp only [] at p
    cases el : Mn.lstAt M n with
    | none =>
      simp only [el] at p
      exact p.elim
    | some xs =>
      simp only [el] at p
      obtain ⟨a', vs, ha, sq, rx⟩ := S.lst el
      rw [hn] at ha
      cases ha
      exact .inl ⟨a, vs, rfl, by rw [hK]; exact sq, fun pp hp => post_new S p hp (new_lst (rx.cut lo hi) hp)⟩
  | @tup xs a vs ht rx =>
    refine .inr (.inl ⟨a, vs, rfl, by rw [hK]; exact ht.sq, fun h => ?_, fun _ pp hp => post_tup S p hp (rx.cut lo hi)⟩)
    rw [← rx.length] at h
    have p : Post T (fun _ _ _ => False) R H Q (.ok (.tup (Mn.cut xs lo hi)) M) := p
    rw [cut_all h] at p
    exact post_ok S p (.tup ht rx)
  | str s =>
    by_cases hz : s.length ≤ Mn.szLine
    · simp only [if_pos hz] at p
      refine .inr (.inr ⟨_, rfl, by rw [sOf_len, ← szLine_eq]; exact hz, ?_⟩)
      rw [cut_s]
      exact post_ok S p (.str _)
    · simp only [if_neg hz] at p
      exact p.elim
  | _ => exact p.elim
/-- a slice's part -/
def PostO (T : Tb) (W : XK) (R : List Addr) (H : Hp) (Q : Option Int → Hp → Prop) : Mn.R (Option Int) → Prop
  | .ok v M => ∀ R' H', R <+: R' → Keep R R' H H' → Sim T R' H' M → Q v H'
  | .exc c M => c ∈ T.xs → ∀ R' H', R <+: R' → Keep R R' H H' → Sim T R' H' M → W (.ref (T.ca c)) none H'
  | .bad => False
def rdP (T : Tb) (W : WX) (o : Option E) : TO := fun σ H Q => ∃ R ρ M, EnvR T R H ρ σ ∧ Sim T R H M ∧ PostO T (at_ W σ) R H Q (Mn.ePart o ρ M)
theorem PO.imp {o : Option Expr} {t t' : TO} (h : PO X o t) (i : ∀ σ H Q, t' σ H Q → t σ H Q) : PO X o t' := ⟨fun pins s σ H Q I q => h.run pins s σ H Q I (i σ H Q q)⟩
theorem p_none : PO X none (rdP T W none) := PO.imp po_none fun σ H Q ⟨R, ρ, M, e, s, p⟩ => p R H (List.prefix_refl R) (Keep.refl H) s
theorem p_some (h : PE X a (rdE T W fa)) : PO X (some a) (rdP T W (some fa)) := PO.imp (po_some h) fun σ H Q ⟨R, ρ, M, e, s, p⟩ => by
  refine ⟨R, ρ, M, e, s, ?_⟩
  unfold Mn.ePart at p
  dsimp only at p
  cases q : fa ρ M with
  | bad =>
    rw [q] at p
    exact p
  | exc c M' =>
    rw [q] at p
    exact p
  | ok v M1 =>
    rw [q] at p
    intro R1 H1 w p1 k1 s1 r1
    cases r1 with
    | int i => exact ⟨i, rfl, p R1 H1 p1 k1 s1⟩
    | _ => exact p.elim
theorem PostO.bind {r : Mn.R (Option Int)} {f : Option Int → Store → Mn.R Val} (h : Post T W' R H Q (r.bind f)) :
    PostO T W' R H (fun x H1 => ∃ R1 M1, R <+: R1 ∧ Keep R R1 H H1 ∧ Sim T R1 H1 M1 ∧ Post T W' R1 H1 Q (f x M1)) r := by
  cases r with
  | ok v M => exact fun R1 H1 p1 k1 s1 => ⟨R1, M, p1, k1, s1, Post.imp (r := f v M) h p1 k1 fun _ _ q => q⟩
  | exc c M => exact h
  | bad => exact h
theorem PostO.imp {Q Q' : Option Int → Hp → Prop} {r : Mn.R (Option Int)} (h : PostO T W' R H Q r) (q : ∀ v H', Q v H' → Q' v H') : PostO T W' R H Q' r := by
  cases r with
  | ok v M => exact fun R1 H1 p1 k1 s1 => q _ _ (h R1 H1 p1 k1 s1)
  | exc c M => exact h
  | bad => exact h
theorem s_sl {lo hi : Option Expr} {l h : Option E} {p2 : Pos} (hK : X.K = T.K) (ha : PE X a (rdE T W fa)) (hl : PO X lo (rdP T W l)) (hh : PO X hi (rdP T W h)) : PE X (.Subscript a (.Slice lo hi none p2) pos) (rdE T W (Mn.eSl fa l h)) :=
  PE.imp (pe_slice (sl_all hK) ha hl hh) fun σ H Q ⟨R, ρ, M, e, s, p⟩ => by
    obtain ⟨R0, ρ0, M0, e0, s0, p0⟩ := rdE_bind e s p
    refine ⟨R0, ρ0, M0, e0, s0, p0.imp (List.prefix_refl _) (Keep.refl _) fun x H1 ⟨R1, M1, v, e1, s1, r1, pr1, k1, q⟩ => ?_⟩
    refine ⟨R1, ρ, M1, e1, s1, (PostO.bind q).imp fun lo2 H2 ⟨R2, M2, p2, k2, s2, q2⟩ => ?_⟩
    have e2 := e1.mono p2 k2
    refine ⟨R2, ρ, M2, e2, s2, (PostO.bind q2).imp fun hi2 H3 ⟨R3, M3, p3, k3, s3, q3⟩ => ?_⟩
    exact ⟨R3, M3, v, s3, (r1.mono p2 k2).mono p3 k3, of_noexc q3⟩
/-! ### o[i] = v -/
theorem set_lst : PSet X (rdSt T Mn.setIt) := by
  intro pins s σ H o i v ov iv u Q I ro ri rv ⟨R, M, x, y, z, S, rx, ry, rz, M', hM, q⟩
  unfold Mn.setIt at hM
  split at hM
  · split at hM
    · rename_i xs e1
      obtain ⟨j, hj, rfl⟩ := Option.map_eq_some_iff.mp hM
      cases rx with
      | ref hn =>
        cases ry
        obtain ⟨a1, z1, ws, h1, k1⟩ := S.at e1
        rw [hn] at z1
        cases z1
        rw [k1.length] at hj
        refine set_list pins s σ H _ _ v ov iv u Q I ro ri rv ⟨_, ws, _, j, rfl, rfl, h1, hj, ?_⟩
        obtain ⟨S2, kk⟩ := S.write hn (wr_lst S hn (k1.set rz j))
        exact q _ kk S2
    · cases hM
  · cases hM
/-! ### in -/
theorem flat_rel {x : Val} {v : V} (r : Rel T R H x v) (h : Mn.flat x = true) : flatV v = true := by
  cases r <;> first | rfl | cases h
theorem flat_rels : ∀ {xs : List Val} {vs : List V}, Rels T R H xs vs → xs.all Mn.flat = true → vs.all flatV = true
  | _, _, .nil, _ => rfl
  | _, _, .cons r1 r2, h => by
    rw [List.all_cons, Bool.and_eq_true] at h ⊢
    exact ⟨flat_rel r1 h.1, flat_rels r2 h.2⟩
theorem eqF_rel {x y : Val} {v w : V} (r : Rel T R H x v) (r' : Rel T R H y w) (h : Mn.flat x = true) (h' : Mn.flat y = true) : eqV v w = Mn.eqF x y := by
  cases r <;> first | cases h | skip
  all_goals cases r' <;> first | cases h' | skip
  all_goals first
    | rfl
    | (rename_i a b
       show (sOf a == sOf b) = (a == b)
       rw [sOf_beq]
       by_cases z : a = b
       · simp [z]
       · rw [decide_eq_false z]
         exact (beq_eq_false_iff_ne.mpr z).symm)
theorem any_rel {y : Val} {w : V} (r' : Rel T R H y w) (h' : Mn.flat y = true) : ∀ {xs : List Val} {vs : List V}, Rels T R H xs vs → xs.all Mn.flat = true → inV w vs = xs.any fun x => Mn.eqF x y
  | _, _, .nil, _ => rfl
  | _, _, .cons r1 r2, h => by
    rw [List.all_cons, Bool.and_eq_true] at h
    unfold inV
    rw [List.any_cons, List.any_cons, eqF_rel r1 r' h.1 h']
    exact congrArg _ (any_rel r' h' r2 h.2)
theorem o_inG (neg : Bool) (hK : X.K = T.K) {op : CmpOp} (h : OpR X (compareOp op) (rIn X.K neg)) : OpR X (compareOp op) (rdO T (Mn.cInG neg)) := by
  intro pins s σ H x y v u Q I rx ry ⟨R, M, a, b, S, ra, rb, p⟩
  unfold Mn.cInG at p
  cases eq : Mn.seqOf M b with
  | none =>
    simp only [eq] at p
    exact p.elim
  | some xs =>
    simp only [eq] at p
    by_cases hz : Mn.flat a = true ∧ xs.all Mn.flat = true
    · rw [if_pos hz] at p
      obtain ⟨ad, vs, rfl, sq, rxs⟩ := S.seq rb eq
      refine h pins s σ H _ _ v u Q I rx ry ⟨ad, vs, rfl, ?_, flat_rel ra hz.1, flat_rels rxs hz.2, ?_⟩
      · rw [hK]
        unfold SqA at sq
        split at sq
        · exact .inl sq
        · exact .inr sq
      · rw [any_rel ra hz.1 rxs hz.2]
        exact post_ok S p (.bl _)
    · rw [if_neg hz] at p
      exact p.elim
theorem o_in (hK : X.K = T.K) : OpR X (compareOp .In) (rdO T Mn.cIn) := o_inG false hK op_in_seq
theorem o_notin (hK : X.K = T.K) : OpR X (compareOp .NotIn) (rdO T Mn.cNotIn) := o_inG true hK op_notIn_seq
end
end MnS
end
section
set_option Elab.async false
set_option autoImplicit false
set_option linter.all false
set_option maxRecDepth 100000
set_option maxHeartbeats 2000000
/-! Comprehensions. -/
namespace MnS
open PySem PySem.Spec PyProof.Rows L2
open Mn (Val Cell Store E Fn Op U Itr Src Tg)
theorem wipe_get : ∀ (vs : List Nat) (σ : L2.St) (j : Nat), (L2.wipe σ vs)[j]? = if j ∈ vs ∧ j < σ.length then some none else σ[j]?
  | [], σ, j => by simp [L2.wipe]
  | v :: vs, σ, j => by
    unfold L2.wipe
    have ih := wipe_get vs σ j
    by_cases hj : v = j
    · subst hj
      by_cases hl : v < σ.length
      · rw [List.getElem?_set_self (by rw [wipe_length]; exact hl), if_pos ⟨List.mem_cons_self, hl⟩]
      · rw [List.getElem?_eq_none (by rw [List.length_set, wipe_length]; omega), if_neg fun z => hl z.2, List.getElem?_eq_none (by omega)]
    · rw [List.getElem?_set_ne hj, ih]
      have e : (j ∈ vs ∧ j < σ.length) ↔ (j ∈ v :: vs ∧ j < σ.length) := by
        rw [List.mem_cons]
        constructor
        · exact fun z => ⟨.inr z.1, z.2⟩
        · exact fun z => ⟨z.1.resolve_left fun q => hj q.symm, z.2⟩
      simp only [e]
theorem wipe_eq {vs ts : List Nat} {σ σ' : L2.St} (h : ∀ j ∈ ts, j ∈ vs) (hl : σ'.length = (L2.wipe σ vs).length) (hd : ∀ j, j ∉ ts → σ'[j]? = (L2.wipe σ vs)[j]?) : L2.wipe σ' vs = L2.wipe σ vs := by
  rw [wipe_length] at hl
  refine List.ext_getElem? fun j => ?_
  rw [wipe_get, wipe_get, hl]
  by_cases hj : j ∈ vs ∧ j < σ.length
  · rw [if_pos hj, if_pos hj]
  · rw [if_neg hj, if_neg hj]
    by_cases hm : j ∈ vs
    · have : ¬ j < σ.length := fun z => hj ⟨hm, z⟩
      rw [List.getElem?_eq_none (by omega), List.getElem?_eq_none (by omega)]
    · rw [hd j fun z => hm (h j z), wipe_get, if_neg hj]
theorem env_wipe {T : Tb} {R : List Addr} {H : Hp} {ρ : Mn.Env} {σ : L2.St} (e : EnvR T R H ρ σ) : ∀ vs : List Nat, EnvR T R H (Mn.wipe ρ vs) (L2.wipe σ vs)
  | [] => e
  | v :: vs => by
    have ih := env_wipe e vs
    unfold Mn.wipe L2.wipe
    refine ⟨by rw [List.length_set, List.length_set]; exact ih.1, fun j u h => ?_⟩
    by_cases hj : v = j
    · subst hj
      by_cases hl : v < (Mn.wipe ρ vs).length
      · rw [List.getElem?_set_self hl] at h
        cases h
      · rw [List.getElem?_eq_none (by rw [List.length_set]; omega)] at h
        cases h
    · rw [List.getElem?_set_ne hj] at h ⊢
      exact ih.2 j u h
/-- what a comprehension's parts may raise: nothing -/
abbrev W0 : WX := fun _ _ _ _ => False
section
variable {T : Tb} {W : WX} {R R1 R2 : List Addr} {H H1 H2 : Hp} {D : Addr} {o : HO}
theorem Keep.late (k : Keep R1 R2 H1 H2) (hD : H1 D = none) : Keep R1 R2 H1 (L2.upd H2 D o) := by
  have g : ∀ a u, H1 a = some u → ∀ w, H2 a = w → L2.upd H2 D o a = w := fun a u e w q => by
    rw [upd_ne (ne_of_none e hD)]
    exact q
  exact ⟨fun a xs e => g a _ e _ (k.tup a xs e), fun a φ e => g a _ e _ (k.ext a φ e), fun a u e n => ⟨g a _ e _ (k.fr a u e n).1, (k.fr a u e n).2⟩⟩
theorem Keep.adopt (k : Keep R1 R2 H1 H2) (hD : H1 D = none) : Keep R1 (R2 ++ [D]) H1 H2 := by
  refine ⟨k.tup, k.ext, fun a u e n => ⟨(k.fr a u e n).1, fun z => ?_⟩⟩
  rcases List.mem_append.mp z with z | z
  · exact (k.fr a u e n).2 z
  · exact ne_of_none e hD (by simpa using z)
theorem stay_lst {xs : List V} {u : HO} (h : H D = some (.lst xs)) : Stay H (upd H D u) := by
  refine ⟨fun a ys e => ?_, fun a φ e => ?_⟩
  · rw [upd_ne (fun z => by rw [z, h] at e; cases e)]
    exact e
  · rw [upd_ne (fun z => by rw [z, h] at e; cases e)]
    exact e
/-- the reading of a comprehension -/
theorem lc_rd {fi : Src} {t : Tg} {ts vs : List Nat} {fc fe : E} (hts : ∀ j ∈ ts, j ∈ vs) : ∀ σ H Q, rdE T W (Mn.eLc fi t vs fc fe) σ H Q → tLc (rdI T W fi) (rdG T ts t) (rdT T W0 fc) (rdE T W0 fe) vs σ H Q := fun σ H Q ⟨R, ρ, M, e, s, p⟩ => by
  refine ⟨R, ρ, M, e, s, ?_⟩
  unfold Mn.eLc at p
  cases q : fi ρ M with
  | bad =>
    rw [q] at p
    exact p
  | exc c M1 =>
    rw [q] at p
    exact p
  | ok it M1 =>
    rw [q, Mn.R.bind_ok] at p
    by_cases hz : it.n ≤ Mn.szLine
    · rw [if_pos hz] at p
      intro R1 H1 J p1 k1 s1 o1 D hD
      have e1 := env_wipe (e.mono p1 k1) vs
      refine ⟨fun i m Hc => ∃ R2 acc accV M2, R1 <+: R2 ∧ Keep R1 R2 H1 Hc ∧ Sim T R2 Hc M2 ∧ D ∉ R2 ∧ Hc D = some (.lst accV) ∧ Rels T R2 Hc acc accV ∧ acc.length ≤ i ∧ i + m = it.n ∧
        Mn.lcN it t fc fe (Mn.wipe ρ vs) it.n 0 [] M1 = Mn.lcN it t fc fe (Mn.wipe ρ vs) m i acc M2,
        ⟨it.n, R1, [], [], M1, List.prefix_refl _, Keep.new hD, s1.other hD, s1.mem hD, upd_same, .nil, Nat.le_refl _, Nat.zero_add _, rfl⟩, ?_⟩
      rintro i m Hc ⟨R2, acc, accV, M2, p2, k2, s2, nD, hcD, ra, la, lm, run⟩
      cases m with
      | zero =>
        rw [run] at p
        unfold Mn.lcN at p
        by_cases hf : it.fin M2 = true
        · rw [if_pos hf, Mn.R.bind_ok] at p
          have hi : i = it.n := by omega
          subst hi
          refine .inl ⟨o1.stop R2 Hc M2 p2 k2 s2 hf, ?_⟩
          refine p (R2 ++ [D]) Hc (.ref D) ((p1.trans p2).trans (List.prefix_append _ _)) (k1.trans (k2.adopt hD)) (s2.adopt nD ⟨accV, hcD, ra⟩) (.ref ?_)
          rw [← s2.len, List.getElem?_append_right (Nat.le_refl _), Nat.sub_self]
          rfl
        · rw [if_neg hf] at p
          exact p.elim
      | succ m =>
        have p0 := p
        rw [run] at p
        unfold Mn.lcN at p
        cases en : it.nxt i M2 with
        | none =>
          simp only [en] at p
          exact p.elim
        | some v =>
          simp only [en] at p
          obtain ⟨g1, g2⟩ := o1.go i R2 Hc M2 v p2 k2 s2 (by omega) en
          refine .inr ⟨g1, fun H' => ∃ R2 acc accV M2, R1 <+: R2 ∧ Keep R1 R2 H1 H' ∧ Sim T R2 H' M2 ∧ D ∉ R2 ∧ H' D = some (.lst accV) ∧ Rels T R2 H' acc accV ∧ acc.length ≤ i + 1 ∧ (i + 1) + m = it.n ∧
            Mn.lcN it t fc fe (Mn.wipe ρ vs) it.n 0 [] M1 = Mn.lcN it t fc fe (Mn.wipe ρ vs) m (i + 1) acc M2, fun H' h => ⟨m, Nat.lt_succ_self m, h⟩, fun x H' hy => ?_⟩
          obtain ⟨R3, p3, k3, s3, r3⟩ := g2 x H' hy
          refine ⟨R3, Mn.wipe ρ vs, M2, v, e1.mono (p2.trans p3) (k2.trans k3), s3, r3, ?_⟩
          cases et : t v (Mn.wipe ρ vs) M2 with
          | nx ρ1 M4 =>
            simp only [et] at p
            intro R4 H4 σ4 p4 k4 s4 e4 l4 d4
            refine ⟨wipe_eq hts l4 d4, R4, ρ1, M4, e4, s4, ?_⟩
            cases ec : fc ρ1 M4 with
            | ok b M5 =>
              simp only [ec] at p
              cases b with
              | bl b =>
                intro R5 H5 p5 k5 s5
                have p25 := p3.trans (p4.trans p5)
                have k25 := k3.trans (k4.trans k5)
                cases b with
                | false =>
                  rw [if_neg Bool.false_ne_true]
                  obtain ⟨hd5, nd5⟩ := k25.fr D _ hcD nD
                  refine ⟨R5, acc, accV, M5, p2.trans p25, k2.trans k25, s5, nd5, hd5, ra.mono p25 k25, by omega, by omega, ?_⟩
                  rw [run]
                  conv => lhs; unfold Mn.lcN
                  simp only [en, et, ec]
                | true =>
                  rw [if_pos rfl]
                  refine ⟨R5, ρ1, M5, e4.mono p5 k5, s5, ?_⟩
                  cases ee : fe ρ1 M5 with
                  | ok y M6 =>
                    intro R6 H6 w p6 k6 s6 r6
                    have p26 := p25.trans p6
                    have k26 := k25.trans k6
                    obtain ⟨hd6, nd6⟩ := k26.fr D _ hcD nD
                    have st : Stay H6 (upd H6 D (.lst (accV ++ [w]))) := stay_lst hd6
                    refine ⟨accV, hd6, ?_, R6, acc ++ [y], accV ++ [w], M6, p2.trans p26, (k2.trans k26).late hD, s6.stay st fun n a ha => upd_ne fun z => nd6 (z ▸ List.mem_of_getElem? ha), nd6, upd_same, ((ra.mono p26 k26).append (.cons r6 .nil)).stay (List.prefix_refl _) st, by rw [List.length_append, List.length_singleton]; omega, by omega, ?_⟩
                    · rw [← ra.length, ← szLine_eq]
                      omega
                    · rw [run]
                      conv => lhs; unfold Mn.lcN
                      simp only [en, et, ec, ee]
                  | exc c M6 =>
                    simp only [ee] at p
                    exact p.elim
                  | bad =>
                    simp only [ee] at p
                    exact p.elim
              | _ => exact p.elim
            | exc c M5 =>
              simp only [ec] at p
              exact p.elim
            | bad =>
              simp only [ec] at p
              exact p.elim
          | _ =>
            simp only [et] at p
            exact p.elim
    · rw [if_neg hz] at p
      exact p.elim
end
end MnS
end
section
set_option Elab.async false
set_option autoImplicit false
set_option linter.all false
set_option maxRecDepth 100000
set_option maxHeartbeats 2000000
/-! try, except: an exception that is held is tracked from its catch on. -/
namespace MnS
open PySem PySem.Spec PyProof.Rows L2
open Mn (Val Cell Store E Fn Op U Itr Src Tg)
/-! ### no class of a tuple fits -/
theorem forIn_stay {β : Type} {M : Model} {A : Around} {Er : Value → Shared → Prop} {s : Shared} {b : β} {f : Value → β → Sem (ForInStep β)} : ∀ {l : List Value}, (∀ c ∈ l, ∀ Q : ForInStep β → Shared → Prop, Q (.yield b) s → wpAny M A (f c b) Q Er s) →
    ∀ {Q : β → Shared → Prop}, Q b s → wpAny M A (forIn l b f) Q Er s
  | [], _, Q, q => by
    rw [List.forIn_nil]
    exact wpAny_pure q
  | c :: r, h, Q, q => by
    rw [List.forIn_cons]
    refine wpAny_bind (h c List.mem_cons_self _ ?_)
    exact forIn_stay (fun d hd => h d (List.mem_cons_of_mem _ hd)) q
theorem exm_none {M : Model} {K : PySem.W.Frag} {cs : List Value} {cls : Value} {tp e : Addr} {h : Heap} (X : K.In h) (LT : PySem.W.Looks M h (typeOf (.ref e)) cls) (hp : h.get? tp = some { cls := .type "tuple", data := .seq cs.toArray })
    (hx : ∀ c ∈ cs, PySem.W.exmOne K cls c = some false) : PySem.W.Looks M h (excMatches (.ref e) (.ref tp)) false := by
  intro A Q Er s k0 q
  have kk : ∀ b o, h.get? b = some o → s.heap.get? b = some o := k0
  have TT : PySem.W.Looks M h (isInstance (.ref tp) (.type "tuple")) true := ((PySem.W.Looks.ld hp).andThen .now).andThen (PySem.W.Looks.of_pure isSubtype_tuple_tuple)
  have hp2 := kk _ _ hp
  unfold excMatches
  refine wpAny_bind ((TT.keeps kk).here ?_)
  dsimp only
  rw [if_pos rfl]
  first
    | refine wpAny_bind (wpAny_seqItems hp2 rfl ?_)
    | refine wpAny_bind (wpAny_bind (wpAny_seqItems hp2 rfl (wpAny_pure ?_)))
  dsimp only [Option.getD_some, Option.getD]
  refine wpAny_bind (wpAny_pure ?_)
  refine wpAny_bind (forIn_stay (fun c hc Q2 q2 => ?_) ?_)
  · obtain ⟨i1, i2⟩ := PySem.W.exm_cls (M := M) X (hx c hc)
    refine wpAny_bind ((i1.keeps kk).here ?_)
    simp only [Bool.not_true, Bool.false_eq_true, if_false]
    exact wpAny_pure q2
  · refine wpAny_bind ((LT.keeps kk).here ?_)
    refine wpAny_bind (forIn_stay (fun c hc Q2 q2 => ?_) ?_)
    · obtain ⟨i1, i2⟩ := PySem.W.exm_cls (M := M) X (hx c hc)
      refine wpAny_bind ((i2.keeps kk).here ?_)
      simp only [Bool.false_eq_true, if_false]
      exact wpAny_pure q2
    · exact wpAny_pure q
/-! ### the state behind a catch -/
section
variable {X : Cx} {pins : List (Addr × Obj)} {σ : L2.St} {H : Hp} {s : Shared}
/-- an exception's object that nobody had is tracked -/
theorem held_ok {a : Addr} {oe : Obj} {vs : Array Value} {φ : Heap → Prop} (I : Inv X pins σ H s) (ha : s.heap.get? a = some oe) (hd : oe.data = .fields vs) (na : H a = none) (nL : a ≠ X.env.locals) (n0 : X.s_0.heap.get? a = none)
    (np : ∀ p ∈ X.pn ++ pins, p.1 ≠ a) (ob : ObjOk X.prog X.w (upd H a (.ext φ)) s.heap a (.ext φ)) : Inv X pins σ (upd H a (.ext φ)) s := by
  have old : ∀ b u, H b = some u → upd H a (.ext φ) b = some u := fun b u e => by
    rw [upd_ne (ne_of_none e na)]
    exact e
  refine ⟨I.ok, I.os, I.bare, ⟨I.base.keep, I.base.slot, fun b o e n hx => ?_, I.base.there, fun b xs e => old b _ (I.base.tups b xs e), fun b o u e => old b _ (I.base.frzs b o u e), fun b ps e => ?_⟩, I.loc, I.cell, ?_, fun x c e => ?_, fun p hp => ?_, fun b u e => ?_, I.len⟩
  · rw [upd_ne fun z => by rw [z, n0] at e; cases e]
    exact I.base.free b o e n hx
  · obtain ⟨m, q⟩ := I.base.tbls b ps e
    exact ⟨m, old b _ q⟩
  · rw [upd_ne (Ne.symm nL)]
    exact I.free
  · have nc : c ≠ a := fun z => by
      obtain ⟨v, hv⟩ := I.cell x c e
      obtain ⟨oc, h1, h2⟩ := hv
      rw [z, ha] at h1
      cases h1
      rw [hd] at h2
      cases h2
    rw [upd_ne nc]
    exact I.freeC x c e
  · obtain ⟨h1, h2, h3⟩ := I.pin p hp
    refine ⟨h1, ?_, h3⟩
    rw [upd_ne (np p hp)]
    exact h2
  · by_cases hb : b = a
    · subst hb
      rw [upd_same] at e
      cases e
      exact ob
    · rw [upd_ne hb] at e
      exact (I.hok b u e).stay (fun c v _ q => q) (fun c q => old c _ q) fun c xs q => old c _ q
theorem toSuite (I : Inv X pins σ H s) (a : Addr) : Inv (X.suite a (X.pn ++ pins)) [] σ H s :=
  ⟨I.ok.suite _ _, I.os, I.bare, I.base, I.loc, I.cell, I.free, I.freeC, fun p hp => I.pin p (by rw [List.append_nil] at hp; exact hp), I.hok, I.len⟩
theorem ofSuite {a : Addr} (I : Inv (X.suite a (X.pn ++ pins)) [] σ H s) (ok : X.Ok) : Inv X pins σ H s :=
  ⟨ok, I.os, I.bare, I.base, I.loc, I.cell, I.free, I.freeC, fun p hp => I.pin p (List.mem_append_left _ hp), I.hok, I.len⟩
end
theorem EnvR.unset {T : Tb} {R : List Addr} {H : Hp} {ρ : Mn.Env} {σ : L2.St} (h : EnvR T R H ρ σ) (i : Nat) : EnvR T R H (ρ.set i none) (σ.set i none) := by
  refine ⟨by rw [List.length_set, List.length_set]; exact h.1, fun j u e => ?_⟩
  by_cases hj : i = j
  · subst hj
    by_cases hi : i < ρ.length
    · rw [List.getElem?_set_self hi] at e
      cases e
    · rw [List.getElem?_eq_none (by rw [List.length_set]; omega)] at e
      cases e
  · rw [List.getElem?_set_ne hj] at e ⊢
    exact h.2 j u e
def unS (o : Option Nat) (σ : L2.St) : L2.St := match o with
  | some i => σ.set i none
  | none => σ
theorem EnvR.un {T : Tb} {R : List Addr} {H : Hp} {ρ : Mn.Env} {σ : L2.St} (h : EnvR T R H ρ σ) : ∀ o, EnvR T R H (Mn.unO o ρ) (unS o σ)
  | none => h
  | some i => h.unset i
/-- the ends of a suite -/
def DP (D : Ends) (o : Option Nat) : Ends := ⟨fun σ H => D.nx (unS o σ) H, D.rt, fun σ H => D.bk (unS o σ) H, fun σ H => D.ct (unS o σ) H⟩
theorem drop_post {T : Tb} {W : WX} {D : Ends} {o : Option Nat} {R : List Addr} {H H1 : Hp} {r : Mn.RS} (k : Keep R R H H1) (h : PostS T W D R H (r.calm.drop o)) : PostS T W0 (DP D o) R H1 r := by
  have h := PostS.mono h (List.prefix_refl R) k
  cases r with
  | nx ρ M => exact fun R2 H2 σ p2 k2 s2 e2 => h R2 H2 _ p2 k2 s2 (e2.un o)
  | ret v M => exact h
  | bk ρ M => exact fun R2 H2 σ p2 k2 s2 e2 => h R2 H2 _ p2 k2 s2 (e2.un o)
  | ct ρ M => exact fun R2 H2 σ p2 k2 s2 e2 => h R2 H2 _ p2 k2 s2 (e2.un o)
  | exc c ρ M => exact h.elim
  | bad => exact h.elim
/-! ### a clause's test -/
section
variable (X : Cx) (T : Tb)
def CTest (t : Expr) (cs : List String) (tup : Bool) : Prop := ∀ {a : Addr} {c : String} {oe : Obj} {pn : List (Addr × Obj)} {σ : L2.St} {H : Hp} {s : Shared}, Inv (X.suite a ((a, oe) :: pn)) [] σ H s → c ∈ T.xs →
  PySem.W.Looks (model X.prog X.w) s.heap (typeOf (.ref a)) (.ref (T.ca c)) → (tup = true → cs.any (Mn.isX c) = false) → ∀ {Q : Bool → Shared → Prop} {E E2 : Value → Shared → Prop},
  (∀ h', (∀ b o, s.heap.get? b = some o → h'.get? b = some o) → Q (cs.any (Mn.isX c)) { s with heap := h' }) →
  wpAny (model X.prog X.w) (X.A.mark (some (.ref a))) (eval t X.env) (fun v s1 => wpAny (model X.prog X.w) (X.A.mark (some (.ref a))) (excMatches (.ref a) v) Q E2 s1) E s
/-- the clauses, and what they are -/
inductive HdsT : List ExceptHandler → List Mn.Hd → Prop
  | nil : HdsT [] []
  | cons {t : Expr} {cs : List String} {tup : Bool} {o : Option Nat} {n : Option Str} {st : Mn.St} {b₀ : Stmt} {suite : List Stmt} {pos : Pos} {hds : List ExceptHandler} {l : List Mn.Hd} (ht : CTest X T t cs tup)
      (hn : (n = none ∧ o = none) ∨ ∃ x i, n = some x ∧ o = some i ∧ X.N[i]? = some x ∧ X.env.kindOf x = some .local)
      (hs : ∀ (a : Addr) (pn : List (Addr × Obj)), PSs (X.suite a pn) (b₀ :: suite) (rdS T W0 st)) (r : HdsT hds l) :
      HdsT (.ExceptHandler (some t) n (b₀ :: suite) pos :: hds) (⟨tup, cs, o, st⟩ :: l)
end
end MnS
end
section
set_option Elab.async false
set_option autoImplicit false
set_option linter.all false
set_option maxRecDepth 100000
set_option maxHeartbeats 2000000
namespace MnS
open PySem PySem.Spec PyProof.Rows L2
open Mn (Val Cell Store E Fn Op U Itr Src Tg)
section
variable {X : Cx} {T : Tb} {W : WX}
/-- what a try's body wishes of its exceptions -/
def wTry (T : Tb) (W : WX) (D : Ends) (l : List Mn.Hd) : WX := fun cls d σ H => d = none ∧ ∃ c, c ∈ T.xs ∧ cls = .ref (T.ca c) ∧ ∃ R ρ M, EnvR T R H ρ σ ∧ Sim T R H M ∧ PostS T W D R H (Mn.handle l c ρ M)
theorem try_rd {fb fe : Mn.St} {l : List Mn.Hd} : ∀ σ H D, rdS T W (Mn.sTry fb l fe) D σ H → rdS T (wTry T W D l) fb { D with nx := rdS T W fe D } σ H := fun σ H D ⟨R, ρ, M, e, s, p⟩ => by
  refine ⟨R, ρ, M, e, s, ?_⟩
  unfold Mn.sTry at p
  cases z : fb ρ M with
  | nx ρ2 M2 =>
    rw [z] at p
    exact fun R2 H2 σ2 p2 k2 s2 e2 => ⟨R2, ρ2, M2, e2, s2, PostS.mono (r := fe ρ2 M2) p p2 k2⟩
  | exc c ρ2 M2 =>
    rw [z] at p
    exact fun hc R2 H2 σ2 p2 k2 s2 e2 => ⟨rfl, c, hc, rfl, R2, ρ2, M2, e2, s2, PostS.mono (r := Mn.handle l c ρ2 M2) p p2 k2⟩
  | ret v M2 =>
    rw [z] at p
    exact p
  | bk ρ2 M2 =>
    rw [z] at p
    exact p
  | ct ρ2 M2 =>
    rw [z] at p
    exact p
  | bad =>
    rw [z] at p
    exact p
theorem flying_more {B h h' : Heap} {l : List Env} {e : Addr} {Z : Obj → Prop} (f : HandSPX.FlyingZ B l e Z h) (k : ∀ b o, h.get? b = some o → h'.get? b = some o) : HandSPX.FlyingZ B l e Z h' := by
  obtain ⟨f1, f2, f3, oe, ws, tr, otr, ts, g1, g2, g3, g4, g5, g6, g7, g8, g9⟩ := f
  exact ⟨fun b o q => k b o (f1 b o q), f2, f3.of_keeps fun b o q _ => ⟨o, k b o q, rfl⟩, oe, ws, tr, otr, ts, k _ _ g1, g2, g3, g4, g5, g6, k _ _ g7, g8, g9⟩
theorem s_try {body orelse : List Stmt} {h₀ : ExceptHandler} {hds : List ExceptHandler} {fb fe : Mn.St} {l : List Mn.Hd} {pos : Pos} (hs : X.stack = X.env :: X.outer) (hf : X.env.frame = some X.env.locals) (hex : X.ex = []) (hN : X.N.Nodup) (tk : Takes X W)
    (hb : ∀ (W' : WX) (pn : List (Addr × Obj)) (xe : Value → Shared → Prop), Takes (X.tr pn xe) W' → PassesOwn (model X.prog X.w) X.A X.env xe → PSs (X.tr pn xe) body (rdS T W' fb)) (ho : PSs X orelse (rdS T W fe)) (hh : HdsT X T (h₀ :: hds) l) :
    PS X (.Try body (h₀ :: hds) orelse [] pos) (rdS T W (Mn.sTry fb l fe)) := by
  refine PS.imp (t := fun D σ H => rdS T (wTry T W D l) fb { D with nx := rdS T W fe D } σ H) ⟨fun pins s σ H D I rd => ?_⟩ try_rd
  have ok := I.ok
  have frm : X.A.frames = some (X.env :: X.outer) := by rw [ok.frames, hs]
  refine wpAny_Try_except (wpAny_mono ((hb (wTry T W D l) (X.pn ++ pins) (fun e s1 => wpAny (model X.prog X.w) X.A (noteFrame e X.env) (fun _ s2 => wpAny (model X.prog X.w) X.A (setFlight e none)
    (fun _ s3 => wpAny (model X.prog X.w) X.A (handleBy e X.env (h₀ :: hds)) (SP X pins D) X.xe s3) X.xe s2) X.xe s1) (fun u s' air => ?_) PassesOwn.looking).run [] s σ H _ (I.toTry _) rd) (fun f s1 sp => ?_) fun _ _ z => z)
  · obtain ⟨a, B, sI, pins', σ', H', cls, d, rfl, J0, nb, up, sky, na, os, ag, rfl, c, hc, rfl, R, ρ, M, env, sim, post⟩ := air
    have J : Inv X pins σ' H' sI := J0.ofTry ok
    have sky' : Sky B (X.env :: X.outer) a (Zc (.ref (T.ca c)) none) X.env.locals s'.heap := hs ▸ sky
    show wpAny (model X.prog X.w) X.A (noteFrame (.ref a) X.env) _ _ _
    refine Sky.land Zc.steady frm hf sky' fun h3 fl3 up3 => ?_
    have noFr : ∀ {h : Heap}, HandSPX.FlyingZ B (X.env :: X.outer) a (Zc (.ref (T.ca c)) none) h → a ∉ frs (X.env :: X.outer) := fun {h} fl m => by
      obtain ⟨oe, vs, e1, _, e2⟩ := fl.there
      obtain ⟨_, o', e', hnf⟩ := fl.2.2.1.mem m
      rw [e1] at e'
      cases e'
      exact hnf _ e2
    have nfr := noFr fl3
    have nL : a ≠ X.env.locals := fun z => nfr (List.mem_filterMap.mpr ⟨X.env, List.mem_cons_self, by rw [hf, z]⟩)
    have nF : a ∉ X.fs := fun m => by
      obtain ⟨e, he, q⟩ := List.mem_filterMap.mp m
      exact nfr (List.mem_filterMap.mpr ⟨e, List.mem_cons_of_mem _ he, q⟩)
    have none0 : ∀ o, sI.heap.get? a ≠ some o := fun o e => by
      have q := nb a o e (by rw [hs]; exact nfr)
      rw [fl3.2.1] at q
      cases q
    have n0 : X.s_0.heap.get? a = none := by
      cases q : X.s_0.heap.get? a with
      | none => rfl
      | some o =>
        obtain ⟨o', e⟩ := J.base.there a o q (by rw [hex]; simp)
        exact absurd e (none0 o')
    have np : ∀ p ∈ X.pn ++ pins, p.1 ≠ a := fun p hp z => none0 p.2 (z ▸ (J.pin p hp).1)
    have go : ∀ {hs2 : List ExceptHandler} {l2 : List Mn.Hd}, HdsT X T hs2 l2 → PostS T W D R H' (Mn.handle l2 c ρ M) → ∀ sC : Shared, HandSPX.FlyingZ B (X.env :: X.outer) a (Zc (.ref (T.ca c)) none) sC.heap → sI.heap.UpToSlots sC.heap → sC.os = sI.os → AllBare sC.gens →
        wpAny (model X.prog X.w) X.A (handleBy (.ref a) X.env hs2) (SP X pins D) X.xe sC := by
      intro hs2 l2 hk
      induction hk with
      | nil =>
        intro post sC fl upC osC agC
        refine wpAny_handleBy_nil ?_
        obtain ⟨k1, k2, k3, oe, vs, tr, otr, ts, e1, e2, e3, e4, e5⟩ := id fl
        unfold PySem.passOn
        refine wpAny_bind (wpAny_field e1 e3 e4 ?_)
        rw [if_neg (by simp : ¬ ((Value.ref tr == Value.none) = true))]
        have out : wpAny (model X.prog X.w) X.A (setFlight (.ref a) X.env.frame) (fun _ s4 => wpAny (model X.prog X.w) X.A (throw (.ref a) : Sem Flow) (SP X pins D) X.xe s4) X.xe sC := by
          rw [hf]
          refine HandSPX.setFlight_upZ fl fun h4 hh4 up4 => wpAny_throw (tk _ _ ?_)
          exact ⟨a, B, sI, pins, σ', H', _, _, rfl, J, nb, upC.trans up4, .inr (.inr (hs ▸ hh4)), na, osC, agC, post hc R H' σ' (List.prefix_refl R) (Keep.refl H') sim env⟩
        first
          | exact wpAny_bind (wpAny_pure (wpAny_bind out))
          | exact wpAny_bind out
      | @cons t cs tup o n st b₀ suite pos2 hds2 l3 ht hn hsu r ih =>
        intro post sC fl upC osC agC
        unfold Mn.handle at post
        dsimp only at post
        have JC : Inv X pins σ' H' sC := J.landed nb fl.1 upC osC agC
        obtain ⟨oe, vs, e1, e2, e3⟩ := fl.there
        have SC := JC.suite e1 e3 na nL nF
        refine wpAny_handleBy_cons (codeAny_handlers_test ?_) (by intro q; cases q)
        have LT : PySem.W.Looks (model X.prog X.w) sC.heap (typeOf (.ref a)) (.ref (T.ca c)) := fun A Q E s k q => wpAny_typeOf_ref (k _ _ e1) (by rw [e2.1]; exact q)
        by_cases hit : cs.any (Mn.isX c) = true
        · rw [if_pos hit] at post
          by_cases ht2 : tup = true
          · rw [if_pos ht2] at post
            exact post.elim
          · rw [if_neg ht2] at post
            refine ht SC hc LT (fun z => absurd z ht2) fun h5 k5 => ?_
            rw [hit]
            have fl5 := flying_more fl k5
            have up5 : sI.heap.UpToSlots h5 := upC.trans (Heap.UpToSlots.of_keeps k5)
            -- the suite, from a heap on in which the exception stands
            have run : ∀ {h6 : Heap} {n' : Option Str}, HandSPX.FlyingZ B (X.env :: X.outer) a (Zc (.ref (T.ca c)) none) h6 → sI.heap.UpToSlots h6 →
                (∀ i, o = some i → ∃ x, n' = some x ∧ X.N[i]? = some x ∧ X.env.kindOf x = some .local) → ∀ {Q : Flow → Shared → Prop} {E : Value → Shared → Prop},
                (∀ f s7 (K : ∀ {Q2 : Shared → Prop} {E2 : Value → Shared → Prop}, (∀ s8, SP X pins D f s8 → Q2 s8) → match o with
                  | none => Q2 s7
                  | some i => ∀ x, X.N[i]? = some x → X.env.kindOf x = some .local → wpAny (model X.prog X.w) X.A (do bindName X.env x .none; unbindBehindTheSuite X.env x pos2) (fun _ s8 => Q2 s8) E2 s7), Q f s7) →
                match o with
                | none => wpAny (model X.prog X.w) (X.A.mark (some (.ref a))) (execs (b₀ :: suite) X.env) Q E { sC with heap := h6 }
                | some i => ∀ x, X.N[i]? = some x → X.env.kindOf x = some .local → wpAny (model X.prog X.w) (X.A.mark (some (.ref a))) (storeName X.env x (.ref a)) (fun _ s6 => wpAny (model X.prog X.w) (X.A.mark (some (.ref a))) (execs (b₀ :: suite) X.env) Q E s6) E { sC with heap := h6 } := by
              intro h6 n' fl6 up6 hi Q E hQ
              have J6 : Inv X pins σ' H' { sC with heap := h6 } := J.landed nb fl6.1 up6 osC agC
              obtain ⟨oe6, vs6, f1, f2, f3⟩ := fl6.there
              have I6 : Inv X pins σ' (upd H' a (.ext (excPhi (T.ca c) a))) { sC with heap := h6 } := held_ok J6 f1 f3 na nL n0 np ⟨⟨oe6, vs6, f1, f2.1, f2.2, f3⟩, ⟨oe6, f1⟩, fun g1 g2 ⟨ob, ws, w1, w2⟩ kk => ⟨ob, ws, kk _ w1, w2⟩⟩
              have S6 := toSuite I6 a
              have kn : Keep R R H' (upd H' a (.ext (excPhi (T.ca c) a))) := Keep.new na
              have env6 := env.mono (List.prefix_refl R) kn
              have sim6 := sim.other (o := .ext (excPhi (T.ca c) a)) na
              have rel6 : Rel T R (upd H' a (.ext (excPhi (T.ca c) a))) (.exc c) (.ref a) := .exc hc upd_same
              have dp : PostS T W0 (DP D o) R (upd H' a (.ext (excPhi (T.ca c) a))) (st (Mn.setO o c ρ) M) := drop_post kn post
              -- what the suite's end gives
              have fin : ∀ (f : Flow) (s7 : Shared), SP (X.suite a (X.pn ++ pins)) [] (DP D o) f s7 → Q f s7 := fun f s7 sp => by
                refine hQ f s7 fun {Q2 E2} q2 => ?_
                cases o with
                | none =>
                  refine q2 s7 ?_
                  cases f with
                  | next =>
                    obtain ⟨σ7, H7, S7, q7⟩ := sp
                    exact ⟨σ7, H7, ofSuite S7 ok, q7⟩
                  | brk =>
                    obtain ⟨σ7, H7, S7, q7⟩ := sp
                    exact ⟨σ7, H7, ofSuite S7 ok, q7⟩
                  | cont =>
                    obtain ⟨σ7, H7, S7, q7⟩ := sp
                    exact ⟨σ7, H7, ofSuite S7 ok, q7⟩
                  | ret u =>
                    obtain ⟨v7, σ7, H7, S7, r7, q7⟩ := sp
                    exact ⟨v7, σ7, H7, ofSuite S7 ok, r7, q7⟩
                | some i =>
                  intro x hx kx
                  cases f with
                  | next =>
                    obtain ⟨σ7, H7, S7, q7⟩ := sp
                    exact gone_ok (ofSuite S7 ok) hN hx kx fun s8 J8 => q2 s8 ⟨_, H7, J8, q7⟩
                  | brk =>
                    obtain ⟨σ7, H7, S7, q7⟩ := sp
                    exact gone_ok (ofSuite S7 ok) hN hx kx fun s8 J8 => q2 s8 ⟨_, H7, J8, q7⟩
                  | cont =>
                    obtain ⟨σ7, H7, S7, q7⟩ := sp
                    exact gone_ok (ofSuite S7 ok) hN hx kx fun s8 J8 => q2 s8 ⟨_, H7, J8, q7⟩
                  | ret u =>
                    obtain ⟨v7, σ7, H7, S7, r7, q7⟩ := sp
                    exact gone_ok (ofSuite S7 ok) hN hx kx fun s8 J8 => q2 s8 ⟨v7, _, H7, J8, r7, q7⟩
              cases o with
              | none => exact wpAny_mono ((hsu a (X.pn ++ pins)).run [] _ σ' _ (DP D none) S6 ⟨R, ρ, M, env6, sim6, dp⟩) fin fun _ _ z => z.elim
              | some i =>
                intro x hx kx
                refine store_ok (X := X.suite a (X.pn ++ pins)) (v := .ref a) S6 hN hx (.inl kx) rfl (fun s6 T6 => ?_) (.inr kx)
                exact wpAny_mono ((hsu a (X.pn ++ pins)).run [] s6 _ _ (DP D (some i)) T6 ⟨R, _, M, env6.set rel6 i, sim6, dp⟩) fin fun _ _ z => z.elim
            rcases hn with ⟨rfl, rfl⟩ | ⟨x, i, rfl, rfl, hx, kx⟩
            · refine codeAny_handlers_suite (HandSPX.lands_againZ fl5 fun h6 fl6 up6 => ?_)
              exact run (n' := none) fl6 (up5.trans up6) (fun i z => nomatch z) fun f s7 K => K (E2 := X.xe) fun s8 q => q
            · refine codeAny_handlers_suite_as (HandSPX.lands_againZ fl5 fun h6 fl6 up6 => ?_)
              refine wpAny_mono (run (n' := some x) fl6 (up5.trans up6) (fun j z => by cases z; exact ⟨x, rfl, hx, kx⟩) (Q := fun f s7 => wpAny (model X.prog X.w) X.A (do bindName X.env x .none; unbindBehindTheSuite X.env x pos2) (fun _ s8 => SP X pins D f s8) X.xe s7) (E := fun _ _ => False) (fun f s7 K => K (fun s8 q => q) x hx kx) x hx kx) (fun _ s6 q6 => wpAny_mono q6 (fun f s7 q7 => q7) fun _ _ z => z.elim) fun _ _ z => z.elim
        · rw [if_neg hit] at post
          have hit : cs.any (Mn.isX c) = false := by simpa using hit
          refine ht SC hc LT (fun _ => hit) fun h5 k5 => ?_
          rw [hit]
          exact ih post { sC with heap := h5 } (flying_more fl k5) (upC.trans (Heap.UpToSlots.of_keeps k5)) osC agC
    exact go hh post _ fl3 (up.trans up3) os ag
  · cases f with
    | next =>
      obtain ⟨σ', H', J', q⟩ := sp
      exact ho.run pins s1 σ' H' D (J'.ofTry ok) q
    | brk =>
      obtain ⟨σ', H', J', q⟩ := sp
      exact ⟨σ', H', J'.ofTry ok, q⟩
    | cont =>
      obtain ⟨σ', H', J', q⟩ := sp
      exact ⟨σ', H', J'.ofTry ok, q⟩
    | ret u =>
      obtain ⟨v, σ', H', J', r, q⟩ := sp
      exact ⟨v, σ', H', J'.ofTry ok, r, q⟩
end
end MnS
end
section
set_option Elab.async false
set_option autoImplicit false
set_option linter.all false
set_option maxRecDepth 100000
set_option maxHeartbeats 2000000
/-! From a def's text to its function in the small language, and that the machine does what this says. -/
namespace MnS
open PySem PySem.Spec PyProof.Rows L2
open Mn (Val Cell Store E Fn Op U Itr Src Tg)
/-- what stands fixed where a text is read: the slots, the scope's names, the module's names -/
structure Dc where
  N : List Str
  nm : List (Str × NameKind)
  fn : List (Str × (Fn × Nat))
  /-- defs whose last parameter may be left out: None -/
  dn : List Str
  con : List (Str × Val)
  blt : List Str
  exc : List String
  st : List Str
  calm : Bool
  stm : Bool
def tyOk : List String := ["int", "bool", "str", "tuple", "list", "dict", "ValueError"]
def tyNames : List String := ["NoneType", "bool", "int", "str", "tuple", "list", "dict"]
/-- the classes of errors -/
structure ExF (K : PySem.W.Frag) (ca : String → Addr) (xs : List String) : Prop where
  cc : ∀ c ∈ xs, ExcC K (ca c)
  kt : ∀ c ∈ xs, ∀ t ∈ tyOk, PySem.W.kitOne K (.ref (ca c)) (.type t) = some (Mn.isX c t)
  kx : ∀ c ∈ xs, ∀ d ∈ xs, PySem.W.kitOne K (.ref (ca c)) (.ref (ca d)) = some (Mn.isX c d)
  kv : ∀ a ∈ tyNames, ∀ d ∈ xs, PySem.W.kitOne K (.type a) (.ref (ca d)) = some (Mn.isT a d)
  ei : ∀ c ∈ xs, PySem.W.excIn K (ca c) He.veBase "ValueError.__new__" = true
  ke : ∀ c ∈ xs, ∀ d ∈ xs, PySem.W.exmOne K (.ref (ca c)) (.ref (ca d)) = some (Mn.isX c d)
  kp : ∀ c ∈ xs, PySem.W.keepIn K (.ref (ca c)) = true
  ra : ∀ c ∈ xs, PySem.W.subIn K (.ref (ca c)) (.type "BaseException") = some true ∧ PySem.W.typeIn K (.ref (ca c)) = some (.type "type")
/-- .. and what the machine must be like there -/
structure Cok (X : Cx) (T : Tb) (W : WX) (C : Dc) : Prop where
  K : X.K = T.K
  N : X.N = C.N
  nd : C.N.Nodup
  nm : X.env.scope.names = C.nm
  kind : X.env.scope.kind = .function
  calm : C.calm = true → X.calm = true
  stm : C.stm = true → X.stack = X.env :: X.outer ∧ X.env.frame = some X.env.locals ∧ X.ex = []
  tk : Takes X W
  po : PassesOwn (model X.prog X.w) X.A X.env X.xe
  un : X.A.units + 64 < cLine
  fn : ∀ x F np, C.fn.lookup x = some (F, np) → Arity F np ∧ ∃ (k : Nat) (f : Addr) (fd : FuncData) (ps : List Str), Room k X.A ∧ X.mg x = some (.ref f) ∧ PySem.W.keepIn X.K (.ref f) = true ∧ Binds X.K fd ps [] ∧ (x ∈ C.dn → Binds X.K fd ps [.none]) ∧
    FnOk X.prog X.w X.K X.mg X.base (L2.CX X.prog X.w) k f fd ps (spF T np F)
  con : ∀ x v, C.con.lookup x = some v → ∃ (u : Value) (w : V), X.mg x = some u ∧ RelV w u ∧ ∀ R H, Rel T R H v w
  blt : ∀ x, x ∈ C.blt → X.mg x = none
  ex : ExF X.K T.ca T.xs
  exc : ∀ c, c ∈ T.xs → X.mg (Str.ofString c) = some (.ref (T.ca c))
  xs : C.exc = T.xs
  sto : ∀ x, x ∈ C.st → X.fn x = true ∨ X.env.scope.names.lookup x = some .local
section
variable (C : Dc)
/-- a name's slot -/
def slotOf (x : Str) : Option Nat := C.N.findIdx? fun y => decide (y = x)
def badName (x : Str) : Bool := (x == ("__debug__" : Str)) || (x == ("__classdict__" : Str)) || (x == ("__name__" : Str))
def denN (x : Str) : Option E := if badName x = true then none else match C.nm.lookup x with
  | some .local => (slotOf C x).map Mn.eVar
  | some .cell => (slotOf C x).map Mn.eVar
  | some .free => (slotOf C x).map Mn.eVar
  | some .globalImplicit => (C.con.lookup x).map Mn.eC
  | _ => none
def opB : Operator → Option Op
  | .Add => some Mn.oAdd
  | .Sub => some Mn.oSub
  | .Mult => some Mn.oMul
  | .FloorDiv => some Mn.oDiv
  | .Mod => some Mn.oMod
  | .Pow => some Mn.oPow
  | _ => none
def opC : CmpOp → Option Op
  | .Eq => some Mn.cEq
  | .NotEq => some Mn.cNe
  | .Lt => some Mn.cLt
  | .LtE => some Mn.cLe
  | .Gt => some Mn.cGt
  | .GtE => some Mn.cGe
  | .Is => some Mn.cIsN
  | .IsNot => some Mn.cNotN
  | .In => some Mn.cIn
  | .NotIn => some Mn.cNotIn
/-- a built-in function that is called by its name -/
def isB (x : Str) : Bool := decide (C.nm.lookup x = some .globalImplicit) && C.blt.contains x
/-- built-ins of one value: those of the table's head want a calm context -/
def bltTab : List (String × U) := [("abs", Mn.uAbs), ("len", Mn.uLen), ("list", Mn.uList), ("tuple", Mn.uTup), ("int", Mn.uInt)]
def denBlt1 (x : Str) : Option U := if isB C x = true then
    (if x = "abs" then some Mn.uAbs else if x = "len" then some Mn.uLen else if x = "list" then some Mn.uList else if x = "tuple" then some Mn.uTup else if x = "int" then some Mn.uInt
      else if C.calm = true then (if x = "all" then some Mn.uAll else if x = "any" then some Mn.uAny else none) else none) else none
def denBlt2 (x : Str) : Option Op := if isB C x = true then
    (if x = "divmod" then some Mn.oDm else if C.calm = true then (if x = "max" then some Mn.oMax else if x = "min" then some Mn.oMin else none) else none) else none
/-- methods: of no argument, of one, of two -/
def denM0 (x : Str) : Option (String × U) := if x = "clear" then some ("list", Mn.mClr) else if x = "pop" then some ("list", Mn.mPop) else none
def denM1 (x : Str) : Option (String × Op) := if x = "append" then some ("list", Mn.mApp) else if x = "extend" then some ("list", Mn.mExt) else none
def denM2 (x : Str) : Option (String × Mn.Tri) := if x = "insert" then some ("list", Mn.mIns) else none
def denTy (e : Expr) : Option String := match e with
  | .Name x _ => if isB C x = true then tyOk.find? (fun t => decide (Str.ofString t = x)) else
      if decide (C.nm.lookup x = some .globalImplicit) = true ∧ ¬ badName x = true then C.exc.find? (fun t => decide (Str.ofString t = x)) else none
  | _ => none
def denTys (e : Expr) : Option (List String) := match e with
  | .Tuple es _ _ => if es.length ≤ 20 then Mn.mapO (denTy C) es else none
  | e => (denTy C e).map fun t => [t]
/-- a name that is stored to -/
def locOf (x : Str) : Option Nat := if C.st.contains x = true then (match C.nm.lookup x with
  | some .local => slotOf C x
  | some .cell => slotOf C x
  | _ => none) else none
def isTup : Expr → Bool
  | .Tuple .. => true
  | _ => false
def denG : Nat → Expr → Option (Tg × List Nat)
  | 0, _ => none
  | n + 1, e => match e with
    | .Name x _ => (locOf C x).map fun i => (Mn.tName i, [i])
    | .Tuple es _ _ => if C.calm = true then (Mn.mapO (denG n) es).map fun l => (Mn.tTup (l.map (·.1)), l.flatMap (·.2)) else none
    | _ => none
/-- what is walked -/
def denI (den : Expr → Option E) (tg e : Expr) : Option Src := match e with
  | .Call (.Name x _) [a] [] _ => if x = "range" ∧ isB C x = true then (den a).map Mn.iRange1
      else if x = "enumerate" ∧ isB C x = true ∧ isTup tg = true then (den a).map Mn.iEnum
      else if x = "reversed" ∧ isB C x = true then (den a).map Mn.iRev else (den e).map Mn.iList
  | .Call (.Name x _) [a, b] [] _ => if x = "range" ∧ isB C x = true then (match den a, den b with
      | some fa, some fb => some (Mn.iRange2 fa fb)
      | _, _ => none) else if x = "zip" ∧ isB C x = true ∧ isTup tg = true then (match den a, den b with
      | some fa, some fb => some (Mn.iZip fa fb)
      | _, _ => none) else (den e).map Mn.iList
  | e => (den e).map Mn.iList
/-- a comprehension's block -/
def relN (nm names : List (Str × NameKind)) : List (Str × NameKind) := names.map fun (n, k) => if (k == .free && nm.lookup n == some .cell) then (n, .cell) else (n, k)
def ownOf (scope : Scope) : List (Str × Nat) := scope.names.filterMap fun (n, k) => if k == .local || k == .cell then (slotOf C n).map fun i => (n, i) else none
def blkB (scope : Scope) : Bool := blkC C.N { scope with names := C.nm } scope (ownOf C scope)
def blkDc (scope : Scope) : Dc := { C with nm := relN C.nm scope.names, st := (scope.names.filter fun (n, k) => (k == .local || k == .cell) && decide ((relN C.nm scope.names).lookup n = some .local ∨ scope.names.lookup n = some .cell)).map (·.1), stm := false }
end
def denE : Dc → Nat → Expr → Option E
  | _, 0, _ => none
  | C, n + 1, e => match e with
    | .Constant (.int i) _ _ => some (Mn.eC (.int i))
    | .Constant (.bool b) _ _ => some (Mn.eC (.bl b))
    | .Constant (.str s) _ _ => some (Mn.eC (.str s.cps.toList))
    | .Constant .none _ _ => some (Mn.eC .non)
    | .Name x _ => denN C x
    | .BinOp a op b _ => match opB op, denE C n a, denE C n b with
      | some f, some fa, some fb => some (Mn.eBin f fa fb)
      | _, _, _ => none
    | .UnaryOp .USub a _ => (denE C n a).map (Mn.eUn Mn.oNeg)
    | .UnaryOp .Not a _ => (denE C n a).map Mn.eNot
    | .BoolOp .And [a] _ => denE C n a
    | .BoolOp .And (a :: b :: r) p => match denE C n a, denE C n (.BoolOp .And (b :: r) p) with
      | some fa, some fb => some (Mn.eAnd fa fb)
      | _, _ => none
    | .BoolOp .Or [a] _ => denE C n a
    | .BoolOp .Or (a :: b :: r) p => match denE C n a, denE C n (.BoolOp .Or (b :: r) p) with
      | some fa, some fb => some (Mn.eOr fa fb)
      | _, _ => none
    | .Compare a [op] [b] _ => match opC op, denE C n a, denE C n b with
      | some f, some fa, some fb => some (Mn.eBin f fa fb)
      | _, _, _ => none
    | .Compare a [op, op'] [b, c] _ => match opC op, opC op', denE C n a, denE C n b, denE C n c with
      | some f, some g, some fa, some fb, some fc => some (Mn.eChain f g fa fb fc)
      | _, _, _, _, _ => none
    | .Tuple es _ _ => (Mn.mapO (denE C n) es).map Mn.eTup
    | .List es _ => (Mn.mapO (denE C n) es).map Mn.eLst
    | .Subscript a (.Slice none none none _) _ => (denE C n a).map fun fa => Mn.eSl fa none none
    | .Subscript a (.Slice (some l) none none _) _ => match denE C n a, denE C n l with
      | some fa, some fl => some (Mn.eSl fa (some fl) none)
      | _, _ => none
    | .Subscript a (.Slice none (some h) none _) _ => match denE C n a, denE C n h with
      | some fa, some fh => some (Mn.eSl fa none (some fh))
      | _, _ => none
    | .Subscript a (.Slice (some l) (some h) none _) _ => match denE C n a, denE C n l, denE C n h with
      | some fa, some fl, some fh => some (Mn.eSl fa (some fl) (some fh))
      | _, _, _ => none
    | .Subscript a b _ => match denE C n a, denE C n b with
      | some fa, some fb => some (Mn.eBin Mn.oIx fa fb)
      | _, _ => none
    | .Call (.Name x _) [a, c] [] _ => if x = "isinstance" ∧ isB C x = true then
        (match denE C n a, denTys C c with
          | some fa, some ts => some (Mn.eUn (Mn.uIs ts) fa)
          | _, _ => none)
      else if badName x = true ∨ C.nm.lookup x ≠ some .globalImplicit then none else match C.fn.lookup x, denE C n a, denE C n c with
        | some (F, np), some fa, some fc => if np = 3 ∧ C.dn.contains x = true then some (Mn.eCall F [fa, fc, Mn.eC .non]) else some (Mn.eCall F [fa, fc])
        | none, some fa, some fc => (denBlt2 C x).map fun o => Mn.eBin o fa fc
        | _, _, _ => none
    | .Call (.Name x _) (a :: es) [] _ => if badName x = true ∨ C.nm.lookup x ≠ some .globalImplicit then none else match C.fn.lookup x with
      | some (F, _) => (Mn.mapO (denE C n) (a :: es)).map (Mn.eCall F)
      | none => match es, denBlt1 C x, denE C n a with
        | [], some u, some fa => some (Mn.eUn u fa)
        | _, _, _ => none
    | .Call (.Attribute o x ap) [] [] pos => match ap.endLine == pos.line, denM0 x, denE C n o with
      | true, some (t, f), some fo => some (Mn.eM0 t f fo)
      | _, _, _ => none
    | .Call (.Attribute o x ap) [a] [] pos => match ap.endLine == pos.line, denM1 x, denE C n o, denE C n a with
      | true, some (t, f), some fo, some fa => some (Mn.eM1 t f fo fa)
      | _, _, _, _ => none
    | .Call (.Attribute o x ap) [a, b] [] pos => match ap.endLine == pos.line, denM2 x, denE C n o, denE C n a, denE C n b with
      | true, some (t, f), some fo, some fa, some fb => some (Mn.eM2 t f fo fa fb)
      | _, _, _, _, _ => none
    | .ListComp elt [⟨tg, iter, [], 0⟩] scope _ => if C.calm = true ∧ blkB C scope = true then (match denI C (denE C n) tg iter, denG (blkDc C scope) 20 tg, denE (blkDc C scope) n elt with
        | some s, some (t, ts), some fe => if ts.all (fun j => ((ownOf C scope).map (·.2)).contains j) = true then some (Mn.eLc s t ((ownOf C scope).map (·.2)) (Mn.eC (.bl true)) fe) else none
        | _, _, _ => none) else none
    | .ListComp elt [⟨tg, iter, [c], 0⟩] scope _ => if C.calm = true ∧ blkB C scope = true then (match denI C (denE C n) tg iter, denG (blkDc C scope) 20 tg, denE (blkDc C scope) n c, denE (blkDc C scope) n elt with
        | some s, some (t, ts), some fc, some fe => if ts.all (fun j => ((ownOf C scope).map (·.2)).contains j) = true then some (Mn.eLc s t ((ownOf C scope).map (·.2)) fc fe) else none
        | _, _, _, _ => none) else none
    | _ => none
section
variable {X : Cx} {T : Tb} {W : WX} {C : Dc}
theorem slot_get {x : Str} {i : Nat} (h : slotOf C x = some i) : C.N[i]? = some x := by
  unfold slotOf at h
  rw [List.findIdx?_eq_some_iff_getElem] at h
  obtain ⟨hi, h1, _⟩ := h
  rw [List.getElem?_eq_getElem hi]
  exact congrArg some (of_decide_eq_true h1)
theorem badName_no {x : Str} (h : ¬ badName x = true) : (x == ("__debug__" : Str)) = false ∧ (x == ("__classdict__" : Str)) = false ∧ x ≠ "__name__" := by
  unfold badName at h
  simp only [Bool.or_eq_true, not_or] at h
  refine ⟨by simpa using h.1.1, by simpa using h.1.2, fun z => h.2 (by simp [z])⟩
theorem name_ok (ok : Cok X T W C) {x : Str} {pos : Pos} {f : E} (h : denN C x = some f) : PE X (.Name x pos) (rdE T W f) := by
  unfold denN at h
  split at h
  · cases h
  · rename_i hb
    obtain ⟨b1, b2, b3⟩ := badName_no hb
    have go : ∀ i, slotOf C x = some i → Vis X.env.scope x → PE X (.Name x pos) (rdE T W (Mn.eVar i)) := fun i hi hv =>
      s_var (pe_var (by rw [ok.N]; exact slot_get hi) hv b1 b2)
    split at h
    · rename_i hk
      obtain ⟨i, hi, rfl⟩ := Option.map_eq_some_iff.mp h
      exact go i hi (.inl (by rw [ok.nm]; exact hk))
    · rename_i hk
      obtain ⟨i, hi, rfl⟩ := Option.map_eq_some_iff.mp h
      exact go i hi (.inr (.inl (by rw [ok.nm]; exact hk)))
    · rename_i hk
      obtain ⟨i, hi, rfl⟩ := Option.map_eq_some_iff.mp h
      exact go i hi (.inr (.inr (by rw [ok.nm]; exact hk)))
    · rename_i hk
      obtain ⟨v, hv, rfl⟩ := Option.map_eq_some_iff.mp h
      obtain ⟨u, w, e1, e2, e3⟩ := ok.con x v hv
      exact s_con (pe_glob (show X.env.scope.names.lookup x = some .globalImplicit by rw [ok.nm]; exact hk) e1 e2 b1) e3
    · cases h
theorem opB_ok (ok : Cok X T W C) {op : Operator} {f : Op} (h : opB op = some f) : OpR X (binaryOp op) (rdO T f) := by
  cases op <;> simp only [opB, Option.some.injEq, reduceCtorEq] at h <;> subst h
  · exact o_add ok.K
  · exact o_sub
  · exact o_mul
  · exact o_mod
  · exact o_pow
  · exact o_div
theorem opC_ok (ok : Cok X T W C) {op : CmpOp} {f : Op} (h : opC op = some f) : OpR X (compareOp op) (rdO T f) := by
  cases op <;> simp only [opC, Option.some.injEq, reduceCtorEq] at h <;> subst h
  · exact o_eq ok.K ok.un
  · exact o_ne ok.K ok.un
  · exact o_lt
  · exact o_le
  · exact o_gt
  · exact o_ge
  · exact o_isN
  · exact o_notN
  · exact o_in ok.K
  · exact o_notin ok.K
theorem noMark {n : Nat} {e : Expr} {f : E} (h : denE C n e = some f) (op : CmpOp) : behindInMarks op e = false := by
  cases e <;> first | rfl | (cases n <;> cases h)
theorem noMarks {n : Nat} {e : Expr} {f : E} (h : denE C n e = some f) (op op' : CmpOp) (b : Expr) : lastMarks [op, op'] [b, e] = false := noMark h op'
theorem noAttr {n : Nat} {e : Expr} {f : E} (h : denE C n e = some f) (x : Str) (env : PySem.Env) (m : Sem Value) : attributeBase e x env m = m := by
  cases e with
  | Call fn args kws pos =>
    cases args with
    | nil =>
      cases fn with
      | Name y p =>
        cases n <;> cases h
      | _ => rfl
    | cons a as =>
      cases fn <;> rfl
  | _ => rfl
theorem noStar {n : Nat} {e : Expr} {f : E} (h : denE C n e = some f) (es : List Expr) (env : PySem.Env) : starEach (e :: es) env = (false, eval e env) :: starEach es env := by
  cases e <;> first | rfl | (cases n <;> cases h)
theorem noStars {n : Nat} {env : PySem.Env} {pos : Pos} : ∀ {es : List Expr} {fs : List E}, Mn.mapO (denE C n) es = some fs → (backTo pos (starEach es env)).any (·.1) = false
  | [], _, _ => rfl
  | e :: es, fs, h => by
    unfold Mn.mapO at h
    split at h
    · rename_i f hf
      obtain ⟨gs, hg, _⟩ := Option.map_eq_some_iff.mp h
      rw [noStar hf]
      exact noStars (es := es) hg
    · cases h
theorem noSlice {n : Nat} {e : Expr} {f : E} (h : denE C n e = some f) : PlainIx e := by
  intro o i
  cases e <;> first | rfl | (cases n <;> cases h)
theorem glo (ok : Cok X T W C) {x : Str} (h : C.nm.lookup x = some .globalImplicit) : Gl X x := by
  show X.env.scope.names.lookup x = some .globalImplicit
  rw [ok.nm]
  exact h
theorem isB_ok (ok : Cok X T W C) {x : Str} (h : isB C x = true) : Gl X x ∧ X.mg x = none := by
  unfold isB at h
  rw [Bool.and_eq_true, decide_eq_true_eq] at h
  exact ⟨glo ok h.1, ok.blt x (by simpa using h.2)⟩
theorem kitB_ok : ∀ a ∈ tyNames, ∀ t ∈ tyOk, kitB a t = some (Mn.isT a t) := by decide +kernel
/-- a value's type, as the machine has it -/
theorem ty_of {R : List Addr} {H : Hp} {M : Store} (S : Sim T R H M) {v : Val} {x : V} (r : Rel T R H v x) {a : String} (h : Mn.tyName M v = some a) : TyX T.K H x (.type a) ∧ a ∈ tyNames := by
  cases r with
  | non =>
    cases h
    exact ⟨.base .non, by decide⟩
  | bl b =>
    cases h
    exact ⟨.base (.bl b), by decide⟩
  | int i =>
    cases h
    exact ⟨.base (.int i), by decide⟩
  | str s =>
    cases h
    exact ⟨.base (.str _), by decide⟩
  | tup ht rx =>
    cases h
    refine ⟨?_, by decide⟩
    rcases ht with ht | ⟨o, its, n, e1, e2, _⟩
    · exact .base (.tup ht)
    · exact .kTuple e1 e2
  | exc hm he => cases h
  | @ref n p hn =>
    obtain ⟨c, hc, hp⟩ := S.of hn
    unfold Mn.tyName at h
    simp only [hc] at h
    cases c with
    | lst xs =>
      cases h
      obtain ⟨vs, h1, _⟩ := hp
      exact ⟨.base (.lst h1), by decide⟩
    | ro xs =>
      cases h
      obtain ⟨o, vs, h1, _⟩ := hp
      exact ⟨.base (.frz h1), by decide⟩
    | dic xs =>
      cases h
      obtain ⟨vs, h1, _⟩ := hp
      exact ⟨.base (.dK h1), by decide⟩
    | rod xs =>
      cases h
      obtain ⟨o, vs, h1, _⟩ := hp
      exact ⟨.fDict h1, by decide⟩
    | obj c fs => cases h
/-- a class as the machine has it, and what is one of it -/
structure IsC (K : PySem.W.Frag) (T : Tb) (t : String) (w : V) (u : Value) : Prop where
  cl : ClsV w u
  ty : ∀ a ∈ tyNames, PySem.W.kitOne K (.type a) u = some (Mn.isT a t)
  ex : ∀ c ∈ T.xs, PySem.W.kitOne K (.ref (T.ca c)) u = some (Mn.isX c t)
theorem denTy_ok (ok : Cok X T W C) {c : Expr} {t : String} (h : denTy C c = some t) : ∃ w u, IsC X.K T t w u ∧ PE X c (tC w) := by
  unfold denTy at h
  split at h
  · rename_i x pos
    split at h
    · rename_i hb
      obtain ⟨hg, hm⟩ := isB_ok ok hb
      have e : Str.ofString t = x := by simpa using List.find?_some h
      have ht := List.mem_of_find?_eq_some h
      subst e
      have all : ∀ t ∈ tyOk, bootBuiltins (Str.ofString t) = some (.type t) ∧ (Str.ofString t) ≠ "__name__" ∧ ((Str.ofString t) == ("__debug__" : Str)) = false := by decide +kernel
      obtain ⟨h1, h2, h3⟩ := all t ht
      exact ⟨.ty t, .type t, ⟨.ty t, fun a ha => kit_ty (kitB_ok a ha t ht), fun c hc => ok.ex.kt c hc t ht⟩, pe_bltn hg hm h1 rfl h2 h3⟩
    · split at h
      · rename_i hb
        obtain ⟨b1, b2, b3⟩ := badName_no hb.2
        have e : Str.ofString t = x := by simpa using List.find?_some h
        have ht := List.mem_of_find?_eq_some h
        rw [ok.xs] at ht
        subst e
        exact ⟨.ref (T.ca t), .ref (T.ca t), ⟨.own _, fun a ha => ok.ex.kv a ha t ht, fun c hc => ok.ex.kx c hc t ht⟩, pe_glob (glo ok (of_decide_eq_true hb.1)) (ok.exc t ht) rfl b1⟩
      · cases h
  · cases h
theorem kitAny_all {K : PySem.W.Frag} {t : Value} {g : String → Bool} : ∀ {ts : List String} {us : List Value}, Paired (fun t' u => PySem.W.kitOne K t u = some (g t')) ts us → PySem.W.kitAny K t us = some (ts.any g)
  | _, _, .nil => rfl
  | _, _, .cons (a := a) h r => kitAny_cons h (fun hb => by
      rw [kitAny_all r, List.any_cons, hb, Bool.false_or]) fun hb => by rw [List.any_cons, hb, Bool.true_or]
/-- isinstance, of errors that are held too -/
theorem call_isV (ex : ExF X.K T.ca T.xs) (hK : X.K = T.K) {ts : List String} : CallR X (.builtin "isinstance") (fun xs H Q => ∃ (x c : V) (ws : List V) (us : List Value), xs = [x, c] ∧ Paired ClsV ws us ∧ Paired (fun t u => ∃ w, IsC X.K T t w u) ts us ∧ ((ws = [c]) ∨ ∃ p, c = .ref p ∧ H p = some (.tup ws)) ∧ rdU T (Mn.uIs ts) x H Q) := by
  intro pins s σ H xs us' Q I r ⟨x, c, ws, us, e, pc, pt, hc, R, M, u, S, ra, p⟩
  subst e
  have hany : ∀ {t : Value} {g : String → Bool}, (∀ t' u', (∃ w, IsC X.K T t' w u') → PySem.W.kitOne X.K t u' = some (g t')) → PySem.W.kitAny X.K t us = some (ts.any g) := fun {t g} hg => kitAny_all (L2.Paired.mapP pt fun a b q => hg a b q)
  have hone : ∀ {t : Value} {b : Bool} {u1 : Value}, us = [u1] → PySem.W.kitAny X.K t us = some b → PySem.W.kitOne X.K t u1 = some b := fun {t b u1} e h => by
    subst e
    unfold PySem.W.kitAny at h
    cases q : PySem.W.kitOne X.K t u1 with
    | none =>
      rw [q] at h
      cases h
    | some k =>
      rw [q] at h
      cases k <;> exact h
  unfold Mn.uIs at p
  cases ra with
  | @exc cn a hm he =>
    have p : Post T (fun _ _ _ => False) R H Q (.ok (.bl (ts.any (Mn.isX cn))) M) := p
    have fin : ∀ tk, EP X pins σ Q (.bool (ts.any (Mn.isX cn))) { s with toks := tk } := fun tk => ⟨.bl _, H, I.tok tk, rfl, post_ok S p (.bl _)⟩
    have hk := hany (t := .ref (T.ca cn)) (g := Mn.isX cn) fun t' u' ⟨w, z⟩ => z.ex cn hm
    obtain ⟨ph, _, _⟩ := I.hok a _ he
    obtain ⟨oe, vs, h1, h2, h3, h4⟩ := ph
    have J : PySem.W.InstAt s.heap a oe (T.ca cn) none := by
      obtain ⟨oc, od, oda, osl⟩ := oe
      dsimp only at h2 h3 h4
      subst h2 h3 h4
      exact ⟨h1, rfl, rfl, trivial⟩
    have E := ex.cc cn hm
    obtain ⟨u1, u2, rfl, r1, r2⟩ := vals2 r
    cases (show u1 = Value.ref a from r1)
    have Z := PySem.W.handS_kitx_exc (x := a) (ox := oe) E.hg E.hk E.hs E.hd E.ha E.hn E.ht E.hm
    rcases hc with hc | ⟨pp, rfl, hp⟩
    · subst hc
      cases pc with
      | cons k1 k2 =>
        cases k2
        have e2 := k1.eq r2
        subst e2
        exact PySem.W.kia_one Z I.kIn J (hone rfl hk) (fun z => nomatch z) fin
    · cases (show u2 = Value.ref pp from r2)
      obtain ⟨_, its, rv, o, h1, h2, n, h3⟩ := (show ObjOk X.prog X.w H s.heap pp (.tup ws) from I.hok pp _ hp)
      have e3 := ClsV.all pc rv
      subst e3
      obtain ⟨oc, od, dt, sl⟩ := o
      simp only at h2 h3
      subst h2 h3
      exact PySem.W.kia_tup Z I.kIn J h1 hk (fun z => nomatch z) fin
  | _ =>
    all_goals
      simp only at p
      split at p
      · rename_i a ea
        obtain ⟨ty, ha⟩ := ty_of S (by first | exact .non | exact .bl _ | exact .int _ | exact .str _ | (exact .tup (by assumption) (by assumption)) | exact .ref (by assumption)) ea
        rw [← hK] at ty
        have hk := hany (t := .type a) (g := Mn.isT a) fun t' u' ⟨w, z⟩ => z.ty a ha
        rcases hc with hc | ⟨pp, rfl, hp⟩
        · subst hc
          cases pc with
          | cons k1 k2 =>
            cases k2
            exact call_isi pins s σ H _ us' Q I r ⟨_, c, _, _, _, rfl, k1, ty, hone rfl hk, post_ok S p (.bl _)⟩
        · exact call_isiT pins s σ H _ us' Q I r ⟨_, pp, ws, _, us, _, rfl, hp, pc, ty, hk, post_ok S p (.bl _)⟩
      · exact p.elim
end
end MnS
end
section
set_option Elab.async false
set_option autoImplicit false
set_option linter.all false
set_option maxRecDepth 100000
set_option maxHeartbeats 4000000
namespace MnS
open PySem PySem.Spec PyProof.Rows L2
open Mn (Val Cell Store E Fn Op U Itr Src Tg)
theorem sOf_codes (s : Str) : sOf s.cps.toList = s := by
  show Str.mk s.cps.toList.toArray = s
  rw [Array.toArray_toList]
section
variable {X : Cx} {T : Tb} {W : WX} {C : Dc}
theorem denTys_ok (ok : Cok X T W C) {c : Expr} {ts : List String} (h : denTys C c = some ts) : ∃ (ws : List V) (us : List Value), Paired ClsV ws us ∧ Paired (fun t u => ∃ w, IsC X.K T t w u) ts us ∧
    ((∃ w, ws = [w] ∧ PE X c (tC w)) ∨ (∃ es k p, c = .Tuple es k p) ∧ PE X c (fun _ H Q => ∀ p, H p = none → Q (.ref p) (upd H p (.tup ws)))) ∧ (∀ es env, starEach (c :: es) env = (false, eval c env) :: starEach es env) := by
  unfold denTys at h
  split at h
  · rename_i es k pos
    have go : ∀ (es : List Expr) (ts : List String), Mn.mapO (denTy C) es = some ts → ∃ (ws : List V) (us : List Value), Paired ClsV ws us ∧ Paired (fun t u => ∃ w, IsC X.K T t w u) ts us ∧ PA X es (fun _ H Q => Q ws H) := by
      intro es
      induction es with
      | nil =>
        intro ts h
        cases h
        exact ⟨[], [], .nil, .nil, PA.imp pa_nil fun _ _ _ q => q⟩
      | cons e es ih =>
        intro ts h
        unfold Mn.mapO at h
        split at h
        · rename_i t ht
          obtain ⟨ts', h2, rfl⟩ := Option.map_eq_some_iff.mp h
          obtain ⟨w, u, z, pe⟩ := denTy_ok ok ht
          obtain ⟨ws, us, p1, p2, pa⟩ := ih ts' h2
          refine ⟨w :: ws, u :: us, .cons z.cl p1, .cons ⟨w, z⟩ p2, PA.imp (pa_cons pe pa ?_) fun _ _ _ q => q⟩
          cases e <;> first | rfl | cases ht
        · cases h
    split at h
    · rename_i hz
      obtain ⟨ws, us, p1, p2, pa⟩ := go es ts h
      refine ⟨ws, us, p1, p2, .inr ⟨⟨es, k, pos, rfl⟩, PE.imp (pe_tup pa) fun σ H Q q => ⟨?_, q⟩⟩, fun _ _ => rfl⟩
      have l1 := p1.length
      have l2 := p2.length
      have l3 : ∀ (es : List Expr) (ts : List String), Mn.mapO (denTy C) es = some ts → ts.length = es.length := by
        intro es
        induction es with
        | nil =>
          intro ts h
          cases h
          rfl
        | cons e es ih =>
          intro ts h
          unfold Mn.mapO at h
          split at h
          · obtain ⟨ts', h2, rfl⟩ := Option.map_eq_some_iff.mp h
            rw [List.length_cons, List.length_cons, ih ts' h2]
          · cases h
      have l4 := l3 es ts h
      rw [sizeLine_eq]
      omega
    · cases h
  · obtain ⟨t, ht, rfl⟩ := Option.map_eq_some_iff.mp h
    obtain ⟨w, u, z, pe⟩ := denTy_ok ok ht
    refine ⟨[w], [u], .cons z.cl .nil, .cons ⟨w, z⟩ .nil, .inl ⟨w, rfl, pe⟩, fun es env => ?_⟩
    cases c <;> first | rfl | cases ht
theorem isi_ok (ok : Cok X T W C) {a c : Expr} {p pos : Pos} {fa : E} {ts : List String} (hb : isB C "isinstance" = true) (ha : PE X a (rdE T W fa)) (hs : ∀ es env, starEach (a :: es) env = (false, eval a env) :: starEach es env) (hc : denTys C c = some ts) :
    PE X (.Call (.Name "isinstance" p) [a, c] [] pos) (rdE T W (Mn.eUn (Mn.uIs ts) fa)) := by
  obtain ⟨hg, hm⟩ := isB_ok ok hb
  obtain ⟨ws, us, p1, p2, h3, hs2⟩ := denTys_ok ok hc
  have hv : bootBuiltins ("isinstance" : Str) = some (.builtin "isinstance") := by decide +kernel
  rcases h3 with ⟨w, rfl, pe⟩ | ⟨⟨es, k, pp, rfl⟩, pe⟩
  · refine PE.imp (pe_callB (call_isV ok.ex ok.K (ts := ts)) hg hm hv (pa_cons ha (pa_cons pe pa_nil (hs2 _ _)) (hs _ _)) (by decide +kernel) (by decide +kernel) (hs _ _) (by rw [hs2]; rfl)) fun σ H Q h => ?_
    exact rdE_mono (un_rd σ H Q h) fun x H1 q => ⟨x, w, [w], us, rfl, p1, p2, .inl rfl, q⟩
  · refine PE.imp (pe_callB (call_isV ok.ex ok.K (ts := ts)) hg hm hv (pa_cons ha (pa_cons pe pa_nil (hs2 _ _)) (hs _ _)) (by decide +kernel) (by decide +kernel) (hs _ _) (by rw [hs2]; rfl)) fun σ H Q h => ?_
    refine rdE_mono (un_rd σ H Q h) fun x H1 ⟨R, M, u, S, ra, q⟩ => fun tp hp => ?_
    refine ⟨x, .ref tp, ws, us, rfl, p1, p2, .inr ⟨tp, rfl, upd_same⟩, R, M, u, S.other hp, ra.mono (List.prefix_refl R) (Keep.new hp), ?_⟩
    exact q.imp (List.prefix_refl R) (Keep.new hp) fun _ _ z => z
/-- the arguments of a call -/
theorem args_ok {n : Nat} (ih : ∀ e f, denE C n e = some f → PE X e (rdE T W f)) : ∀ (es : List Expr) (fs : List E), Mn.mapO (denE C n) es = some fs → PA X es (rdA T W fs)
  | [], fs, h => by
    cases h
    exact a_nil
  | e :: es, fs, h => by
    unfold Mn.mapO at h
    split at h
    · rename_i f hf
      obtain ⟨gs, hg, rfl⟩ := Option.map_eq_some_iff.mp h
      exact a_cons (ih e f hf) (args_ok ih es gs hg) (noStar hf es X.env)
    · cases h
/-- a call whose last values are filled up -/
theorem pe_callD {k : Nat} {f : Addr} {fd : FuncData} {ps : List Str} {sp : Sp} {Ee : L2.St → XK} {x : Str} {p pos : Pos} {e : Expr} {es : List Expr} {t : TA} {ds : List Value} {dvs : List V} (F : FnOk X.prog X.w X.K X.mg X.base (L2.CX X.prog X.w) k f fd ps sp) (hr : Room k X.A) (hg : Gl X x) (hm : X.mg x = some (.ref f))
    (hk : PySem.W.keepIn X.K (.ref f) = true) (hb : Binds X.K fd ps ds) (hd : Vals dvs ds) (hx : ∀ σ, PassesAt (L2.CX X.prog X.w) X σ (Ee σ)) (ha : PA X (e :: es) t) (hdb : (x == ("__debug__" : Str)) = false)
    (he : starEach (e :: es) X.env = (false, eval e X.env) :: starEach es X.env) (hpl : (backTo pos (starEach es X.env)).any (·.1) = false) :
    PE X (.Call (.Name x p) (e :: es) [] pos) (fun σ H Q => t σ H fun vs H1 => sp (vs ++ dvs) H1 Q (Ee σ)) := by
  refine ⟨fun pins s σ H Q I h => wpAny_Call_Name_kw (ld_glob I hg hm ?_ hdb)⟩
  refine PySem.W.callWith_K (h₀ := X.base) I.ok.mod.kin hk (thn (ha.run pos pins s σ H _ I h) fun us s1 ⟨vs, H1, I1, r, q⟩ => ⟨I1.kIn, ?_⟩) he hpl
  have r2 := r.append hd
  have hl : (us ++ ds).length = ps.length := r2.length.symm.trans (F.len _ _ _ _ q)
  refine wpAny_call (codeAny_mono (F.run X.A X.stack s1 H1 ⟨us, []⟩ _ _ Q (Ee σ) hr I1.env0 (hb s1 us I1.kIn hl) r2 q) fun r3 s2 hq => ?_)
  cases r3 with
  | error ex => exact hx σ pins H1 s1 ex s2 I1 hq
  | ok fl =>
    cases fl with
    | ret u => exact I1.after hq
    | _ => exact hq.elim
theorem callee_ok (ok : Cok X T W C) {x : Str} {F : Fn} {np : Nat} {p pos : Pos} {a : Expr} {es : List Expr} {fs : List E} (hb : ¬ (badName x = true ∨ C.nm.lookup x ≠ some .globalImplicit)) (hf : C.fn.lookup x = some (F, np)) (ha : PA X (a :: es) (rdA T W fs))
    (h1 : starEach (a :: es) X.env = (false, eval a X.env) :: starEach es X.env) (h2 : (backTo pos (starEach es X.env)).any (·.1) = false) : PE X (.Call (.Name x p) (a :: es) [] pos) (rdE T W (Mn.eCall F fs)) := by
  have hb1 : ¬ badName x = true := fun z => hb (.inl z)
  have hb2 : C.nm.lookup x = some .globalImplicit := Decidable.not_not.mp fun z => hb (.inr z)
  obtain ⟨ar, k, f, fd, ps, hr, hm, hk, hbd, _, ho⟩ := ok.fn x F np hf
  exact PE.imp (pe_callS ho hr (glo ok hb2) hm hk hbd (fun σ => passAt ok.tk σ) ha (badName_no hb1).1 h1 h2) (call_rd ar)
theorem evL_app {ρ : Mn.Env} {M : Store} {v : Val} : ∀ fs : List E, Mn.evL (fs ++ [Mn.eC v]) ρ M = (Mn.evL fs ρ M).bind fun vs M1 => .ok (vs ++ [v]) M1
  | [] => rfl
  | f :: fs => by
    show (f ρ M).bind (fun x M1 => (Mn.evL (fs ++ [Mn.eC v]) ρ M1).bind fun vs M2 => .ok (x :: vs) M2) = ((f ρ M).bind fun x M1 => (Mn.evL fs ρ M1).bind fun vs M2 => .ok (x :: vs) M2).bind _
    cases f ρ M with
    | ok x M1 =>
      simp only [Mn.R.bind_ok]
      rw [evL_app fs]
      cases Mn.evL fs ρ M1 <;> rfl
    | _ => rfl
theorem calleeD_ok (ok : Cok X T W C) {x : Str} {F : Fn} {np : Nat} {p pos : Pos} {a : Expr} {es : List Expr} {fs : List E} (hb : ¬ (badName x = true ∨ C.nm.lookup x ≠ some .globalImplicit)) (hf : C.fn.lookup x = some (F, np)) (hd : C.dn.contains x = true) (ha : PA X (a :: es) (rdA T W fs))
    (h1 : starEach (a :: es) X.env = (false, eval a X.env) :: starEach es X.env) (h2 : (backTo pos (starEach es X.env)).any (·.1) = false) : PE X (.Call (.Name x p) (a :: es) [] pos) (rdE T W (Mn.eCall F (fs ++ [Mn.eC .non]))) := by
  have hb1 : ¬ badName x = true := fun z => hb (.inl z)
  have hb2 : C.nm.lookup x = some .globalImplicit := Decidable.not_not.mp fun z => hb (.inr z)
  obtain ⟨ar, k, f, fd, ps, hr, hm, hk, _, hbd, ho⟩ := ok.fn x F np hf
  refine PE.imp (pe_callD ho hr (glo ok hb2) hm hk (hbd (by simpa using hd)) (show Vals [V.non] [Value.none] from .cons rfl .nil) (fun σ => passAt ok.tk σ) ha (badName_no hb1).1 h1 h2) fun σ H Q ⟨R, ρ, M, e, s, q⟩ => ?_
  unfold Mn.eCall at q
  rw [evL_app] at q
  have q2 : Post T (at_ W σ) R H Q ((Mn.evL fs ρ M).bind fun vs M1 => F (vs ++ [.non]) M1) := by
    cases z : Mn.evL fs ρ M with
    | ok vs M1 =>
      rw [z] at q
      exact q
    | exc c M1 =>
      rw [z] at q
      exact q
    | bad =>
      rw [z] at q
      exact q
  refine rdA_mono (rdA_bind e s q2) fun xs H1 ⟨R1, M1, vs, e1, s1, r1, q3⟩ => ?_
  have r2 : Rels T R1 H1 (vs ++ [.non]) (xs ++ [.non]) := r1.append (.cons .non .nil)
  refine ⟨R1, M1, vs ++ [.non], s1, r2, ?_, q3⟩
  by_cases h : (xs ++ [V.non]).length = np
  · exact h
  · rw [ar _ M1 (by rw [r2.length]; exact h)] at q3
    exact q3.elim
theorem blt1_ok (ok : Cok X T W C) {x : Str} {u : U} {p pos : Pos} {a : Expr} {fa : E} (h : denBlt1 C x = some u) (ha : PE X a (rdE T W fa)) (hs : ∀ es env, starEach (a :: es) env = (false, eval a env) :: starEach es env) :
    PE X (.Call (.Name x p) [a] [] pos) (rdE T W (Mn.eUn u fa)) := by
  unfold denBlt1 at h
  split at h
  case isFalse => cases h
  rename_i hb
  obtain ⟨hg, hm⟩ := isB_ok ok hb
  have pa := pa_cons ha pa_nil (hs [] X.env)
  split at h
  · rename_i e
    subst e
    cases h
    exact PE.imp (pe_callB b_abs hg hm (by decide +kernel) pa (by decide +kernel) (by decide +kernel) (hs [] X.env) rfl) b_rd
  split at h
  · rename_i e
    subst e
    cases h
    exact PE.imp (pe_callB (b_len ok.K) hg hm (by decide +kernel) pa (by decide +kernel) (by decide +kernel) (hs [] X.env) rfl) b_rd
  split at h
  · rename_i e
    subst e
    cases h
    exact PE.imp (pe_callTy (b_list ok.K) hg hm (by decide +kernel) pa (by decide +kernel) (by decide +kernel) (hs [] X.env) rfl) b_rd
  split at h
  · rename_i e
    subst e
    cases h
    exact PE.imp (pe_callTy (b_tup ok.K) hg hm (by decide +kernel) pa (by decide +kernel) (by decide +kernel) (hs [] X.env) rfl) b_rd
  split at h
  · rename_i e
    subst e
    cases h
    exact PE.imp (pe_callTy b_int hg hm (by decide +kernel) pa (by decide +kernel) (by decide +kernel) (hs [] X.env) rfl) b_rd
  split at h
  case isFalse => cases h
  rename_i hc
  split at h
  · rename_i e
    subst e
    cases h
    exact PE.imp (pe_callB (b_allG (cr_all (ok.calm hc)) ok.K) hg hm (by decide +kernel) pa (by decide +kernel) (by decide +kernel) (hs [] X.env) rfl) b_rd
  split at h
  · rename_i e
    subst e
    cases h
    exact PE.imp (pe_callB (b_allG (cr_any (ok.calm hc)) ok.K) hg hm (by decide +kernel) pa (by decide +kernel) (by decide +kernel) (hs [] X.env) rfl) b_rd
  · cases h
theorem blt2_ok (ok : Cok X T W C) {x : Str} {o : Op} {p pos : Pos} {a c : Expr} {fa fc : E} (h : denBlt2 C x = some o) (ha : PE X a (rdE T W fa)) (hc : PE X c (rdE T W fc)) (hs : ∀ es env, starEach (a :: es) env = (false, eval a env) :: starEach es env)
    (hs2 : ∀ es env, starEach (c :: es) env = (false, eval c env) :: starEach es env) : PE X (.Call (.Name x p) [a, c] [] pos) (rdE T W (Mn.eBin o fa fc)) := by
  unfold denBlt2 at h
  split at h
  case isFalse => cases h
  rename_i hb
  obtain ⟨hg, hm⟩ := isB_ok ok hb
  have pa := pa_cons ha (pa_cons hc pa_nil (hs2 [] X.env)) (hs [c] X.env)
  have pl : (backTo pos (starEach [c] X.env)).any (·.1) = false := by
    rw [hs2]
    rfl
  split at h
  · rename_i e
    subst e
    cases h
    exact PE.imp (pe_callB b_dm hg hm (by decide +kernel) pa (by decide +kernel) (by decide +kernel) (hs [c] X.env) pl) b2_rd
  split at h
  case isFalse => cases h
  rename_i hcalm
  split at h
  · rename_i e
    subst e
    cases h
    exact PE.imp (pe_callB (b_max (ok.calm hcalm)) hg hm (by decide +kernel) pa (by decide +kernel) (by decide +kernel) (hs [c] X.env) pl) b2_rd
  split at h
  · rename_i e
    subst e
    cases h
    exact PE.imp (pe_callB (b_min (ok.calm hcalm)) hg hm (by decide +kernel) pa (by decide +kernel) (by decide +kernel) (hs [c] X.env) pl) b2_rd
  · cases h
theorem m0_ok (hK : X.K = T.K) {x : Str} {t : String} {f : U} {ap pos : Pos} {a : Expr} {fa : E} (h : denM0 x = some (t, f)) (ha : PE X a (rdE T W fa)) (hb : attributeBase a x X.env (eval a X.env) = eval a X.env) (hl : (ap.endLine == pos.line) = true) :
    PE X (.Call (.Attribute a x ap) [] [] pos) (rdE T W (Mn.eM0 t f fa)) := by
  unfold denM0 at h
  split at h
  · rename_i e
    subst e
    cases h
    exact s_m0 PySem.F.plainAttrs_list PySem.F.slot_list_clear PySem.F.type_list_clear (.inl rfl) hK m_clr ha hb hl
  split at h
  · rename_i e
    subst e
    cases h
    exact s_m0 PySem.F.plainAttrs_list PySem.F.slot_list_pop PySem.F.type_list_pop (.inl rfl) hK m_pop ha hb hl
  · cases h
theorem m1_ok (hK : X.K = T.K) {x : Str} {t : String} {f : Op} {ap pos : Pos} {a b : Expr} {fa fb : E} (h : denM1 x = some (t, f)) (ha : PE X a (rdE T W fa)) (hb2 : PE X b (rdE T W fb)) (hb : attributeBase a x X.env (eval a X.env) = eval a X.env) (hl : (ap.endLine == pos.line) = true)
    (hs : ∀ es env, starEach (b :: es) env = (false, eval b env) :: starEach es env) : PE X (.Call (.Attribute a x ap) [b] [] pos) (rdE T W (Mn.eM1 t f fa fb)) := by
  unfold denM1 at h
  split at h
  · rename_i e
    subst e
    cases h
    exact s_m1 PySem.F.plainAttrs_list PySem.F.slot_list_append PySem.F.type_list_append (.inl rfl) hK m_app ha hb2 hb hl hs
  split at h
  · rename_i e
    subst e
    cases h
    exact s_m1 PySem.F.plainAttrs_list PySem.F.slot_list_extend PySem.F.type_list_extend (.inl rfl) hK m_ext ha hb2 hb hl hs
  · cases h
theorem m2_ok (hK : X.K = T.K) {x : Str} {t : String} {f : Mn.Tri} {ap pos : Pos} {a b c : Expr} {fa fb fc : E} (h : denM2 x = some (t, f)) (ha : PE X a (rdE T W fa)) (hb2 : PE X b (rdE T W fb)) (hc2 : PE X c (rdE T W fc)) (hb : attributeBase a x X.env (eval a X.env) = eval a X.env) (hl : (ap.endLine == pos.line) = true)
    (hs : ∀ es env, starEach (b :: es) env = (false, eval b env) :: starEach es env) (hs2 : ∀ es env, starEach (c :: es) env = (false, eval c env) :: starEach es env) : PE X (.Call (.Attribute a x ap) [b, c] [] pos) (rdE T W (Mn.eM2 t f fa fb fc)) := by
  unfold denM2 at h
  split at h
  · rename_i e
    subst e
    cases h
    exact s_m2 PySem.F.plainAttrs_list PySem.F.slot_list_insert PySem.F.type_list_insert (.inl rfl) hK m_ins ha hb2 hc2 hb hl hs hs2
  · cases h
theorem locOf_ok (ok : Cok X T W C) {x : Str} {i : Nat} (h : locOf C x = some i) : X.N[i]? = some x ∧ Loc X.env.scope x ∧ (X.fn x = true ∨ X.env.scope.names.lookup x = some .local) := by
  unfold locOf at h
  split at h
  · rename_i hc
    have q := ok.sto x (by simpa using hc)
    rw [ok.N]
    split at h
    · rename_i hk
      exact ⟨slot_get h, .inl (by rw [ok.nm]; exact hk), q⟩
    · rename_i hk
      exact ⟨slot_get h, .inr (by rw [ok.nm]; exact hk), q⟩
    · cases h
  · cases h
theorem denG_ok (ok : Cok X T W C) : ∀ (n : Nat) (e : Expr) (g : Tg) (ts : List Nat), denG C n e = some (g, ts) → PG X e (rdG T ts g) ∧ (∀ es env, (assignEach (e :: es) env) = (false, assign e env) :: assignEach es env)
  | 0, e, g, ts, h => by cases h
  | n + 1, e, g, ts, h => by
    unfold denG at h
    split at h
    · obtain ⟨i, hi, q⟩ := Option.map_eq_some_iff.mp h
      cases q
      obtain ⟨h1, h2, h3⟩ := locOf_ok ok hi
      exact ⟨g_name (pg_name (by rw [ok.N]; exact ok.nd) h1 h2 h3), fun _ _ => rfl⟩
    · rename_i es k p
      split at h
      case isFalse => cases h
      rename_i hcalm
      obtain ⟨l, hl, q⟩ := Option.map_eq_some_iff.mp h
      cases q
      have go : ∀ (es : List Expr) (l : List (Tg × List Nat)), Mn.mapO (denG C n) es = some l → PGs X es (rdGs T (l.flatMap (·.2)) (l.map (·.1))) ∧ es.length = l.length ∧ (assignEach es X.env).length = es.length ∧ (assignEach es X.env).findIdx? (·.1) = none := by
        intro es
        induction es with
        | nil =>
          intro l h
          cases h
          exact ⟨gs_nil, rfl, rfl, rfl⟩
        | cons e es ih =>
          intro l h
          unfold Mn.mapO at h
          split at h
          · rename_i t ht
            obtain ⟨l', h2, rfl⟩ := Option.map_eq_some_iff.mp h
            obtain ⟨g1, s1⟩ := denG_ok ok n e t.1 t.2 ht
            obtain ⟨g2, l2, a2, f2⟩ := ih l' h2
            refine ⟨?_, congrArg Nat.succ l2, ?_, ?_⟩
            · rw [List.flatMap_cons, List.map_cons]
              exact gs_cons g1 g2 (by rw [s1]; rfl)
            · rw [s1, List.length_cons, List.length_cons, a2]
            · rw [s1, List.findIdx?_cons]
              simp only [Bool.false_eq_true, if_false]
              rw [f2] <;> rfl
          · cases h
      obtain ⟨g1, l1, a1, f1⟩ := go es l hl
      exact ⟨g_tup ok.K (ok.calm hcalm) g1 (by rw [List.length_map]; exact l1) a1 f1, fun _ _ => rfl⟩
    · cases h
theorem noSet {n : Nat} {e : Expr} {f : E} (h : denE C n e = some f) (env : PySem.Env) (x : Value) : foldedSetIterable e env x = pure x := by
  cases e <;> first | rfl | (cases n <;> cases h)
theorem isTup_ok {e : Expr} (h : isTup e = true) : ∃ es k p, e = .Tuple es k p := by
  cases e <;> first | exact ⟨_, _, _, rfl⟩ | cases h
theorem denI_ok (ok : Cok X T W C) {n : Nat} (ih : ∀ e f, denE C n e = some f → PE X e (rdE T W f)) {e tg : Expr} {f : Src} (h : denI C (denE C n) tg e = some f) : PI X tg e (rdI T W f) ∧ (∀ x, foldedSetIterable e X.env x = pure x) := by
  have lst : ∀ e, (denE C n e).map Mn.iList = some f → PI X tg e (rdI T W f) ∧ (∀ x, foldedSetIterable e X.env x = pure x) := fun e h => by
    obtain ⟨g, hg, rfl⟩ := Option.map_eq_some_iff.mp h
    exact ⟨i_list ok.K (ih e g hg), noSet hg X.env⟩
  unfold denI at h
  split at h
  · split at h
    · rename_i hx
      obtain ⟨rfl, hb⟩ := hx
      obtain ⟨g, hg, rfl⟩ := Option.map_eq_some_iff.mp h
      obtain ⟨h1, h2⟩ := isB_ok ok hb
      exact ⟨i_range1 (pi_range1 h1 h2 (pa_cons (ih _ g hg) pa_nil (noStar hg _ _)) (by rw [noStar hg] <;> rfl)), fun _ => rfl⟩
    · split at h
      · rename_i hx
        obtain ⟨rfl, hb, htp⟩ := hx
        obtain ⟨es, k, p, rfl⟩ := isTup_ok htp
        obtain ⟨g, hg, rfl⟩ := Option.map_eq_some_iff.mp h
        obtain ⟨h1, h2⟩ := isB_ok ok hb
        exact ⟨i_enum ok.K h1 h2 (ih _ g hg) (noStar hg), fun _ => rfl⟩
      · split at h
        · rename_i hx
          obtain ⟨rfl, hb⟩ := hx
          obtain ⟨g, hg, rfl⟩ := Option.map_eq_some_iff.mp h
          obtain ⟨h1, h2⟩ := isB_ok ok hb
          exact ⟨i_rev ok.K h1 h2 (ih _ g hg) (noStar hg), fun _ => rfl⟩
        · exact lst _ h
  · split at h
    · rename_i hx
      obtain ⟨rfl, hb⟩ := hx
      split at h
      · rename_i ha hc
        cases h
        obtain ⟨h1, h2⟩ := isB_ok ok hb
        exact ⟨i_range2 (pi_range2 h1 h2 (pa_cons (ih _ _ ha) (pa_cons (ih _ _ hc) pa_nil (noStar hc _ _)) (noStar ha _ _)) (by rw [noStar ha, noStar hc] <;> rfl) (by rw [noStar hc] <;> rfl)), fun _ => rfl⟩
      · cases h
    · split at h
      · rename_i hx
        obtain ⟨rfl, hb, htp⟩ := hx
        obtain ⟨es, k, p, rfl⟩ := isTup_ok htp
        split at h
        · rename_i ha hc
          cases h
          obtain ⟨h1, h2⟩ := isB_ok ok hb
          exact ⟨i_zip ok.K h1 h2 (ih _ _ ha) (ih _ _ hc) (noStar ha) (noStar hc), fun _ => rfl⟩
        · cases h
      · exact lst _ h
  · exact lst _ h
/-! ### a comprehension's block -/
theorem blk_names (ok : Cok X T W C) {scope : Scope} : (relS scope X.env.scope).names = relN C.nm scope.names := by
  unfold relS relN
  rw [ok.kind, ok.nm]
  simp only [show ((ScopeKind.function == ScopeKind.function) = true) from rfl, Bool.and_true]
theorem blk_isOk (ok : Cok X T W C) {scope : Scope} (h : blkB C scope = true) : BlkOk X.N X.env.scope scope (ownOf C scope) := by
  have q := blkOk_by h
  rw [ok.N]
  exact ⟨q.kind, q.uniq, q.ix, fun y hy e => by rw [ok.nm]; exact q.free y hy e, q.own⟩
theorem blk_ok (ok : Cok X T W C) {scope : Scope} (h : blkB C scope = true) (s : Shared) (H : Hp) (A : Addr) (cl : List (Str × Addr)) (fp : List Addr) : Cok (X.blk s H scope (compEnvC scope cl A X.env) fp) T W0 (blkDc C scope) := by
  have q := blk_isOk ok h
  refine { K := ok.K, N := ok.N, nd := ok.nd, nm := blk_names ok, kind := q.kind, calm := ok.calm, stm := fun z => absurd z Bool.false_ne_true, tk := takes_none5, po := PassesOwn.never, un := ok.un, fn := ok.fn, con := ok.con, blt := ok.blt, ex := ok.ex, exc := ok.exc, xs := ok.xs, sto := fun x hx => ?_ }
  obtain ⟨⟨y, k⟩, hy, rfl⟩ := List.mem_map.mp hx
  obtain ⟨_, h2⟩ := List.mem_filter.mp hy
  simp only [Bool.and_eq_true, decide_eq_true_eq] at h2
  rcases h2.2 with z | z
  · refine .inr ?_
    show (relS scope X.env.scope).names.lookup y = some .local
    rw [blk_names ok]
    exact z
  · refine .inl ?_
    show (scope.names.lookup y == some NameKind.cell) = true
    rw [z]
    rfl
/-- the test of a comprehension that has none -/
theorem pts_yes {X : Cx} : PTs X [] (rdT T W0 (Mn.eC (.bl true))) := ⟨fun pins s σ H Q I ⟨R, ρ, M, e, S, p⟩ => pts_nil.run pins s σ H Q I (p R H (List.prefix_refl R) (Keep.refl H) S)⟩
/-- as a value and as a test -/
structure Both (X : Cx) (T : Tb) (W : WX) (e : Expr) (f : E) : Prop where
  pe : PE X e (rdE T W f)
  pt : PT X e (rdT T W f)
  pw : ∀ op vs pos, e = .BoolOp op vs pos → PW X e (rdT T W f)
theorem Both.val {e : Expr} {f : E} (h : PE X e (rdE T W f)) (he : ∀ whole, isTrue e X.env whole = (do let v ← whole; standAt e.pos; holding [v] (truthy v))) (hn : ∀ op vs pos, e ≠ .BoolOp op vs pos := by intro _ _ _ z; cases z) : Both X T W e f :=
  ⟨h, t_val h he, fun op vs pos z => absurd z (hn op vs pos)⟩
theorem denE_ok : ∀ (n : Nat) (X : Cx) (W : WX) (C : Dc), Cok X T W C → ∀ e f, denE C n e = some f → Both X T W e f
  | 0, _, _, _, _, e, f, h => by cases h
  | n + 1, X, W, C, ok, e, f, h => by
    have ih : ∀ e f, denE C n e = some f → Both X T W e f := denE_ok n X W C ok
    unfold denE at h
    split at h
    · cases h
      exact .val (s_con pe_int fun _ _ => .int _) fun _ => rfl
    · cases h
      exact .val (s_con pe_bl fun _ _ => .bl _) fun _ => rfl
    · rename_i s k p
      cases h
      refine .val (s_con pe_str fun R H => ?_) fun _ => rfl
      have q := Rel.str (T := T) (R := R) (H := H) s.cps.toList
      rw [sOf_codes] at q
      exact q
    · cases h
      exact .val (s_con pe_non fun _ _ => .non) fun _ => rfl
    · exact .val (name_ok ok h) fun _ => rfl
    · split at h
      · rename_i h1 h2 h3
        cases h
        exact .val (s_bin (opB_ok ok h1) (ih _ _ h2).pe (ih _ _ h3).pe) fun _ => rfl
      · cases h
    · obtain ⟨fa, ha, rfl⟩ := Option.map_eq_some_iff.mp h
      exact .val (s_un o_neg (ih _ _ ha).pe) fun _ => rfl
    · obtain ⟨fa, ha, rfl⟩ := Option.map_eq_some_iff.mp h
      exact ⟨s_not (ih _ _ ha).pe, t_not (ih _ _ ha).pt, fun _ _ _ z => by cases z⟩
    · exact ⟨pe_one (ih _ _ h).pe, (pw_and1 (ih _ _ h).pt).pt, fun _ _ _ _ => pw_and1 (ih _ _ h).pt⟩
    · split at h
      · rename_i h1 h2
        cases h
        have w := w_and (ih _ _ h1).pt ((ih _ _ h2).pw _ _ _ rfl)
        exact ⟨s_and (ih _ _ h1).pe (ih _ _ h2).pe, w.pt, fun _ _ _ _ => w⟩
      · cases h
    · exact ⟨pe_one (ih _ _ h).pe, (pw_or1 (ih _ _ h).pt).pt, fun _ _ _ _ => pw_or1 (ih _ _ h).pt⟩
    · split at h
      · rename_i h1 h2
        cases h
        have w := w_or (ih _ _ h1).pt ((ih _ _ h2).pw _ _ _ rfl)
        exact ⟨s_or (ih _ _ h1).pe (ih _ _ h2).pe, w.pt, fun _ _ _ _ => w⟩
      · cases h
    · split at h
      · rename_i h1 h2 h3
        cases h
        have o1 := opC_ok ok h1
        exact ⟨s_cmp o1 (ih _ _ h2).pe (ih _ _ h3).pe (noMark h3 _), t_cmp o1 (ih _ _ h2).pe (ih _ _ h3).pe (noMark h3 _), fun _ _ _ z => by cases z⟩
      · cases h
    · split at h
      · rename_i h1 h2 h3 h4 h5
        cases h
        have o1 := opC_ok ok h1
        have o4 := opC_ok ok h2
        exact ⟨PE.imp (pe_chain o1 o4 (ih _ _ h3).pe (ih _ _ h4).pe (ih _ _ h5).pe (noMarks h5 _ _ _)) chain_rd,
          PT.imp (pt_chain o1 o4 (ih _ _ h3).pe (ih _ _ h4).pe (ih _ _ h5).pe (noMarks h5 _ _ _)) fun σ H Q h => chain_rd σ H _ (test_rd σ H Q h), fun _ _ _ z => by cases z⟩
      · cases h
    · obtain ⟨fs, hs, rfl⟩ := Option.map_eq_some_iff.mp h
      exact .val (s_tup (args_ok (fun e f h => (ih e f h).pe) _ _ hs)) fun _ => rfl
    · obtain ⟨fs, hs, rfl⟩ := Option.map_eq_some_iff.mp h
      exact .val (s_lst (args_ok (fun e f h => (ih e f h).pe) _ _ hs)) fun _ => rfl
    · obtain ⟨fa, ha, rfl⟩ := Option.map_eq_some_iff.mp h
      exact .val (s_sl ok.K (ih _ _ ha).pe p_none p_none) fun _ => rfl
    · split at h
      · rename_i h1 h2
        cases h
        exact .val (s_sl ok.K (ih _ _ h1).pe (p_some (ih _ _ h2).pe) p_none) fun _ => rfl
      · cases h
    · split at h
      · rename_i h1 h2
        cases h
        exact .val (s_sl ok.K (ih _ _ h1).pe p_none (p_some (ih _ _ h2).pe)) fun _ => rfl
      · cases h
    · split at h
      · rename_i h1 h2 h3
        cases h
        exact .val (s_sl ok.K (ih _ _ h1).pe (p_some (ih _ _ h2).pe) (p_some (ih _ _ h3).pe)) fun _ => rfl
      · cases h
    · split at h
      · rename_i h1 h2
        cases h
        exact .val (s_ix ok.K (ih _ _ h1).pe (ih _ _ h2).pe (noSlice h2)) fun _ => rfl
      · cases h
    · split at h
      · rename_i hx
        split at h
        · rename_i h1 h2
          cases h
          obtain ⟨rfl, hb⟩ := hx
          exact .val (isi_ok ok hb (ih _ _ h1).pe (noStar h1) h2) fun _ => rfl
        · cases h
      · split at h
        · cases h
        · rename_i hb
          split at h
          · rename_i h1 h2 h3
            split at h
            · rename_i hd
              cases h
              exact .val (calleeD_ok (fs := [_, _]) ok hb h1 hd.2 (args_ok (fun e f h => (ih e f h).pe) _ _ (by simp only [Mn.mapO, h2, h3]; rfl)) (noStar h2 _ _) (noStars (fs := [_]) (n := n) (C := C) (by simp only [Mn.mapO, h3]; rfl))) fun _ => rfl
            · cases h
              exact .val (callee_ok ok hb h1 (args_ok (fun e f h => (ih e f h).pe) _ _ (by simp only [Mn.mapO, h2, h3]; rfl)) (noStar h2 _ _) (noStars (fs := [_]) (n := n) (C := C) (by simp only [Mn.mapO, h3]; rfl))) fun _ => rfl
          · rename_i h1 h2 h3
            obtain ⟨o, ho, rfl⟩ := Option.map_eq_some_iff.mp h
            exact .val (blt2_ok ok ho (ih _ _ h2).pe (ih _ _ h3).pe (noStar h2) (noStar h3)) fun _ => rfl
          · cases h
    · split at h
      · cases h
      · rename_i hb
        split at h
        · rename_i h1
          obtain ⟨fs, hs, rfl⟩ := Option.map_eq_some_iff.mp h
          have hs' := hs
          unfold Mn.mapO at hs
          split at hs
          · rename_i f1 hf1
            obtain ⟨gs, hg, _⟩ := Option.map_eq_some_iff.mp hs
            exact .val (callee_ok ok hb h1 (args_ok (fun e f h => (ih e f h).pe) _ _ hs') (noStar hf1 _ _) (noStars hg)) fun _ => rfl
          · cases hs
        · split at h
          · rename_i h1 h2 h3 h4
            cases h
            first
              | exact .val (blt1_ok ok h1 (ih _ _ h2).pe (noStar h2)) fun _ => rfl
              | exact .val (blt1_ok ok h2 (ih _ _ h3).pe (noStar h3)) fun _ => rfl
              | exact .val (blt1_ok ok h3 (ih _ _ h4).pe (noStar h4)) fun _ => rfl
          · cases h
    · split at h
      · rename_i hl hm ho
        cases h
        exact .val (m0_ok ok.K hm (ih _ _ ho).pe (noAttr ho _ _ _) hl) fun _ => rfl
      · cases h
    · split at h
      · rename_i hl hm ho ha
        cases h
        exact .val (m1_ok ok.K hm (ih _ _ ho).pe (ih _ _ ha).pe (noAttr ho _ _ _) hl (noStar ha)) fun _ => rfl
      · cases h
    · split at h
      · rename_i hl hm ho ha hb
        cases h
        exact .val (m2_ok ok.K hm (ih _ _ ho).pe (ih _ _ ha).pe (ih _ _ hb).pe (noAttr ho _ _ _) hl (noStar ha) (noStar hb)) fun _ => rfl
      · cases h
    · split at h
      · rename_i hc
        split at h
        · rename_i hi hg he
          split at h
          · rename_i hts
            cases h
            obtain ⟨i1, i2⟩ := denI_ok ok (fun e f h => (ih e f h).pe) hi
            refine .val (PE.imp (pe_lc (ok.calm hc.1) (by rw [ok.N]; exact ok.nd) i1 (blk_isOk ok hc.2) (fun s H A cl fp => (denG_ok (blk_ok ok hc.2 s H A cl fp) 20 _ _ _ hg).1) (fun _ _ _ _ _ => pts_yes (T := T)) (fun s H A cl fp => (denE_ok n _ _ _ (blk_ok ok hc.2 s H A cl fp) _ _ he).pe) i2) fun σ H Q q => ?_) fun _ => rfl
            exact lc_rd (fun j hj => by have := List.all_eq_true.mp hts j hj; simpa using this) σ H Q q
          · cases h
        · cases h
      · cases h
    · split at h
      · rename_i hc
        split at h
        · rename_i hi hg hcc he
          split at h
          · rename_i hts
            cases h
            obtain ⟨i1, i2⟩ := denI_ok ok (fun e f h => (ih e f h).pe) hi
            refine .val (PE.imp (pe_lc (ok.calm hc.1) (by rw [ok.N]; exact ok.nd) i1 (blk_isOk ok hc.2) (fun s H A cl fp => (denG_ok (blk_ok ok hc.2 s H A cl fp) 20 _ _ _ hg).1) (fun s H A cl fp => pts_one (denE_ok n _ _ _ (blk_ok ok hc.2 s H A cl fp) _ _ hcc).pt) (fun s H A cl fp => (denE_ok n _ _ _ (blk_ok ok hc.2 s H A cl fp) _ _ he).pe) i2) fun σ H Q q => ?_) fun _ => rfl
            exact lc_rd (fun j hj => by have := List.all_eq_true.mp hts j hj; simpa using this) σ H Q q
          · cases h
        · cases h
      · cases h
    · cases h
end
end MnS
end
section
set_option Elab.async false
set_option autoImplicit false
set_option linter.all false
set_option maxRecDepth 100000
set_option maxHeartbeats 4000000
namespace MnS
open PySem PySem.Spec PyProof.Rows L2
open Mn (Val Cell Store E Fn Op U Itr Src Tg)
section
variable (C : Dc)
/-- x, y = a, b that the compiler stores straight -/
def parOf (x : Str) (px : Pos) (y : Str) (py : Pos) (a b : Expr) : Option (Nat × Nat) := if x ≠ y ∧ C.nm.lookup x = some .local ∧ C.nm.lookup y = some .local ∧ px.line = py.line ∧ [a, b].all (foldedForSure 8) = false ∧ [a, b].all (constantsAlone 8) = false then
      (match slotOf C x, slotOf C y with
        | some i, some j => if i = j then none else some (i, j)
        | _, _ => none) else none
def isComp : Expr → Bool
  | .ListComp .. => true
  | .SetComp .. => true
  | .DictComp .. => true
  | _ => false
def isSl : Expr → Bool
  | .Slice .. => true
  | _ => false
/-- the class of an error -/
def denX (e : Expr) : Option String := match e with
  | .Name x _ => if badName x = true ∨ C.nm.lookup x ≠ some .globalImplicit then none else C.exc.find? fun t => decide (Str.ofString t = x)
  | _ => none
def denXs (e : Expr) : Option (Bool × List String) := match e with
  | .Tuple es _ _ => if es.length ≤ 20 then (Mn.mapO (denX C) es).map fun l => (true, l) else none
  | e => (denX C e).map fun t => (false, [t])
def denHn (n : Option Str) : Option (Option Nat) := match n with
  | none => some none
  | some x => if C.nm.lookup x = some .local then (slotOf C x).map some else none
/-- an except suite's context: not calm, no defs -/
def sufDc : Dc := { C with calm := false, stm := false, fn := [], dn := [] }
def tryDc : Dc := C
end
def denHs (den : List Stmt → Option Mn.St) (C : Dc) : List ExceptHandler → Option (List Mn.Hd)
  | [] => some []
  | .ExceptHandler (some t) n (b :: bs) _ :: r => match denXs C t, denHn C n, den (b :: bs), denHs den C r with
    | some (tp, cs), some o, some st, some l => some (⟨tp, cs, o, st⟩ :: l)
    | _, _, _, _ => none
  | _ => none
mutual
def denS : Dc → Nat → Stmt → Option Mn.St
  | _, 0, _ => none
  | C, n + 1, st => match st with
    | .Pass _ => some Mn.sPass
    | .Continue _ => some Mn.sCt
    | .Break _ => some Mn.sBk
    | .Expr e _ => if isComp e = true then none else (denE C n e).map Mn.sDrop
    | .Return (some e) _ => (denE C n e).map Mn.sRet
    | .If c a b _ => match denE C n c, denSs C n a, denSs C n b with
      | some fc, some fa, some fb => some (Mn.sIf fc fa fb)
      | _, _, _ => none
    | .While c b [] _ => match denE C n c, denSs C n b with
      | some fc, some fb => some (Mn.sWhile fc fb)
      | _, _ => none
    | .For t i b [] _ => match C.calm, denG C n t, denI C (denE C n) t i, denSs C n b with
      | true, some (g, _), some fi, some fb => some (Mn.sFor fi g fb)
      | _, _, _, _ => none
    | .Assign [.Tuple [.Name x px, .Name y py] k p] (.Tuple [a, b] k2 p2) _ => match C.calm, parOf C x px y py a b, denE C n a, denE C n b with
      | true, some (i, j), some fa, some fb => some (Mn.sPar i j fa fb)
      | _, _, _, _ => none
    | .Assign [.Tuple ts k p] e _ => match isTup e, denG C n (.Tuple ts k p), denE C n e with
      | false, some (g, _), some f => some (Mn.sAsg g f)
      | _, _, _ => none
    | .Assign [.Subscript o i p] e _ => match isSl i, denE C n o, denE C n i, denE C n e with
      | false, some fo, some fi, some f => some (Mn.sAsg (Mn.tSub fo fi) f)
      | _, _, _, _ => none
    | .Raise (some (.Call (.Name x _) [.Constant (.str _) _ _] [] _)) none _ => if C.calm = false ∨ badName x = true ∨ C.nm.lookup x ≠ some .globalImplicit then none else (C.exc.find? fun t => decide (Str.ofString t = x)).map Mn.sRaise
    | .Assign [.Name x p] e _ => match locOf C x, denE C n e with
      | some i, some f => some (Mn.sAsg (Mn.tName i) f)
      | _, _ => none
    | .Try b (h :: hs) els [] _ => match C.stm, denSs (tryDc C) n b, denHs (denSs (sufDc C) n) C (h :: hs), denSs C n els with
      | true, some fb, some l, some fe => some (Mn.sTry fb l fe)
      | _, _, _, _ => none
    | _ => none
def denSs : Dc → Nat → List Stmt → Option Mn.St
  | _, 0, _ => none
  | C, n + 1, l => match l with
    | [] => some Mn.sPass
    | [s] => denS C n s
    | s :: r => match denS C n s, denSs C n r with
      | some a, some b => some (Mn.sSeq a b)
      | _, _ => none
end
section
variable {X : Cx} {T : Tb} {W : WX} {C : Dc}
theorem swaps_no {e : Expr} (h : ¬ isComp e = true) (t : Option Expr) (l : Nat) (env : PySem.Env) : swapsWith e t l env = pure false := by
  cases e <;> first | rfl | (exact absurd rfl h)
def isStar : Expr → Bool
  | .Starred .. => true
  | _ => false
theorem par_ok (ok : Cok X T W C) (hcalm : C.calm = true) {x y : Str} {px py : Pos} {a b : Expr} {i j : Nat} {k k2 : Nat} {p p2 pos : Pos} {fa fb : E} (h : parOf C x px y py a b = some (i, j)) (ha : PA X [a, b] (rdA T W [fa, fb]))
    (na : isStar a = false) (nb : isStar b = false) :
    PS X (.Assign [.Tuple [.Name x px, .Name y py] k p] (.Tuple [a, b] k2 p2) pos) (rdS T W (Mn.sPar i j fa fb)) := by
  unfold parOf at h
  split at h
  · rename_i hc
    obtain ⟨hxy, hx, hy, hl, hf, hk⟩ := hc
    split at h
    · rename_i i' j' hi hj
      split at h
      · cases h
      · rename_i hij
        cases h
        have kx : X.env.kindOf x = some .local := by
          show X.env.scope.names.lookup x = _
          rw [ok.nm]
          exact hx
        have ky : X.env.kindOf y = some .local := by
          show X.env.scope.names.lookup y = _
          rw [ok.nm]
          exact hy
        refine s_par (ps_par (ok.calm hcalm) (by rw [ok.N]; exact ok.nd) (by rw [ok.N]; exact slot_get hi) (by rw [ok.N]; exact slot_get hj) hij kx ky ha ?_ rfl)
        have hb : X.env.blockKind = .function := by
          unfold Env.blockKind
          rw [ok.kind]
          rfl
        have yx : (y == x) = false := beq_eq_false_iff_ne.mpr (Ne.symm hxy)
        have ed : [x, y].eraseDups = [x, y] := by
          simp [List.eraseDups, List.eraseDupsBy, List.eraseDupsBy.loop, yx]
        have ha2 : ([a, b].any fun | .Starred .. => true | _ => false) = false := by
          have e1 : ∀ e : Expr, isStar e = false → (match e with | .Starred .. => true | _ => false) = false := fun e h => by
            cases e <;> first | rfl | cases h
          simp only [List.any_cons, List.any_nil, Bool.or_false]
          exact Bool.or_eq_false_iff.mpr ⟨e1 a na, e1 b nb⟩
        have fm : ([Expr.Name x px, Expr.Name y py].filterMap fun
            | .Name id pos => if X.env.kindOf id == some .local && pos.line == px.line then some id else none
            | _ => none) = [x, y] := by
          simp [List.filterMap, kx, ky, hl]
        show (if ((!(true || false)) || (2 != 2) || X.env.blockKind != .function) = true then _ else _) = _
        rw [hb, if_neg (by decide)]
        show (if ([a, b].any fun | .Starred .. => true | _ => false) = true then _ else _) = _
        rw [ha2, if_neg Bool.false_ne_true]
        show (if ((([Expr.Name x px, Expr.Name y py].filterMap fun
            | .Name id pos => if X.env.kindOf id == some .local && pos.line == px.line then some id else none
            | _ => none).length != 2) || (([Expr.Name x px, Expr.Name y py].filterMap fun
            | .Name id pos => if X.env.kindOf id == some .local && pos.line == px.line then some id else none
            | _ => none).eraseDups.length != ([Expr.Name x px, Expr.Name y py].filterMap fun
            | .Name id pos => if X.env.kindOf id == some .local && pos.line == px.line then some id else none
            | _ => none).length)) = true then _ else _) = _
        rw [fm, ed, if_neg (by simp)]
        show (if ([a, b].all (foldedForSure 8)) = true then _ else _) = _
        rw [hf, if_neg Bool.false_ne_true]
        show (if ([a, b].all (constantsAlone 8)) = true then _ else _) = _
        rw [hk, if_neg Bool.false_ne_true]
        exact congrArg (fun l => (pure (some l) : Sem (Option (List Str)))) fm
    · cases h
  · cases h
theorem isStar_no {n : Nat} {e : Expr} {f : E} (h : denE C n e = some f) : isStar e = false := by
  cases e <;> first | rfl | (cases n <;> cases h)
theorem swapped_no {ts : List Expr} {e : Expr} (h : isTup e = false) {k : Nat} {p : Pos} (env : PySem.Env) : swappedStores [.Tuple ts k p] e env = pure none := by
  cases e <;> first | rfl | cases h
/-! ### except -/
theorem denX_ok (ok : Cok X T W C) {e : Expr} {t : String} (h : denX C e = some t) : t ∈ T.xs ∧ (∀ es env, starEach (e :: es) env = (false, eval e env) :: starEach es env) ∧
    ∀ {a : Addr} {oe : Obj} {pn : List (Addr × Obj)} {σ : L2.St} {H : Hp} {s : Shared} {Q : Value → Shared → Prop} {E : Value → Shared → Prop}, L2.Inv (X.suite a ((a, oe) :: pn)) [] σ H s → Q (.ref (T.ca t)) s → wpAny (model X.prog X.w) (X.A.mark (some (.ref a))) (eval e X.env) Q E s := by
  unfold denX at h
  split at h
  · rename_i x p
    split at h
    · cases h
    · rename_i hb
      have hb1 := badName_no fun z => hb (.inl z)
      have hb2 := Decidable.not_not.mp fun z => hb (.inr z)
      have e : Str.ofString t = x := by simpa using List.find?_some h
      have hm := List.mem_of_find?_eq_some h
      rw [ok.xs] at hm
      subst e
      exact ⟨hm, fun _ _ => rfl, fun {a oe pn σ H s Q E} I q => ld_glob (X := X.suite a ((a, oe) :: pn)) I (glo ok hb2) (ok.exc t hm) q hb1.1⟩
  · cases h
theorem items_ok (ok : Cok X T W C) {a : Addr} {oe : Obj} {pn : List (Addr × Obj)} {σ : L2.St} {H : Hp} {s : Shared} {E : Value → Shared → Prop} {pos : Pos} (I : L2.Inv (X.suite a ((a, oe) :: pn)) [] σ H s) : ∀ (es : List Expr) (ts : List String), Mn.mapO (denX C) es = some ts → ts.length = es.length ∧ (∀ t ∈ ts, t ∈ T.xs) ∧
    ∀ {Q : List Value → Shared → Prop}, Q (ts.map fun t => .ref (T.ca t)) s → wpAny (model X.prog X.w) (X.A.mark (some (.ref a))) (spliced (backTo pos (starEach es X.env))) Q E s
  | [], ts, h => by
    cases h
    exact ⟨rfl, fun _ z => (by cases z), fun {Q} q => wpAny_items_nil q⟩
  | e :: es, ts, h => by
    unfold Mn.mapO at h
    split at h
    · rename_i t ht
      obtain ⟨ts', h2, rfl⟩ := Option.map_eq_some_iff.mp h
      obtain ⟨m1, s1, ev⟩ := denX_ok ok ht
      obtain ⟨l2, m2, ev2⟩ := items_ok ok I es ts' h2
      refine ⟨congrArg Nat.succ l2, fun u hu => ?_, fun {Q} q => ?_⟩
      · rcases List.mem_cons.mp hu with z | z
        · rw [z]
          exact m1
        · exact m2 u z
      · exact wpAny_items_cons (ev I (ev2 q)) (s1 _ _)
    · cases h
theorem denXs_ok (ok : Cok X T W C) {e : Expr} {tp : Bool} {cs : List String} (h : denXs C e = some (tp, cs)) : CTest X T e cs tp := by
  unfold denXs at h
  split at h
  · rename_i es k p
    split at h
    · rename_i hz
      obtain ⟨l, hl, e⟩ := Option.map_eq_some_iff.mp h
      cases e
      intro a c oe pn σ H s I hc LT hb Q E E2 q
      obtain ⟨l1, m1, ev⟩ := items_ok ok (pos := p) (E := E) I es cs hl
      have hb := hb rfl
      rw [hb] at q
      refine wpAny_Tuple (ev ⟨?_, ?_⟩)
      · rw [List.length_map, l1, sizeLine_eq]
        omega
      · have kp : ∀ b o, s.heap.get? b = some o → (s.heap.push { cls := .type "tuple", data := .seq (cs.map fun t => Value.ref (T.ca t)).toArray }).get? b = some o := fun b o z => Heap.get?_push_of_some _ z
        refine (exm_none (K := X.K) (cs := cs.map fun t => .ref (T.ca t)) (I.kIn.keeps kp) (LT.keeps kp) (Heap.get?_push_size s.heap rfl) fun v hv => ?_).here (q _ kp)
        obtain ⟨t, ht, rfl⟩ := List.mem_map.mp hv
        rw [ok.ex.ke c hc t (m1 t ht)]
        have z := List.any_eq_false.mp hb t ht
        simpa using z
    · cases h
  · obtain ⟨t, ht, e⟩ := Option.map_eq_some_iff.mp h
    cases e
    obtain ⟨m1, _, ev⟩ := denX_ok ok ht
    intro a c oe pn σ H s I hc LT _ Q E E2 q
    refine ev I ((PySem.W.exm_one (M := model X.prog X.w) (K := X.K) I.kIn LT (ok.ex.ke c hc t m1)).here ?_)
    have z := q s.heap fun _ _ z => z
    rw [List.any_cons, List.any_nil, Bool.or_false] at z
    exact z
theorem suf_ok (ok : Cok X T W C) (a : Addr) (pn : List (Addr × Obj)) : Cok (X.suite a pn) T W0 (sufDc C) :=
  { K := ok.K, N := ok.N, nd := ok.nd, nm := ok.nm, kind := ok.kind, calm := fun z => absurd z Bool.false_ne_true, stm := fun z => absurd z Bool.false_ne_true, tk := takes_none5, po := PassesOwn.never, un := ok.un, fn := fun _ _ _ z => (by cases z), con := ok.con, blt := ok.blt, ex := ok.ex, exc := ok.exc, xs := ok.xs, sto := ok.sto }
theorem try_ok (ok : Cok X T W C) {W' : WX} {pn : List (Addr × Obj)} {xe : Value → Shared → Prop} (tk : Takes (X.tr pn xe) W') (po : PassesOwn (model X.prog X.w) X.A X.env xe) : Cok (X.tr pn xe) T W' C :=
  { K := ok.K, N := ok.N, nd := ok.nd, nm := ok.nm, kind := ok.kind, calm := ok.calm, stm := ok.stm, tk := tk, po := po, un := ok.un, fn := ok.fn, con := ok.con, blt := ok.blt, ex := ok.ex, exc := ok.exc, xs := ok.xs, sto := ok.sto }
theorem hds_ok (ok : Cok X T W C) {den : List Stmt → Option Mn.St} (hd : ∀ (a : Addr) (pn : List (Addr × Obj)) b st, den b = some st → PSs (X.suite a pn) b (rdS T W0 st)) : ∀ (hs : List ExceptHandler) (l : List Mn.Hd), denHs den C hs = some l → HdsT X T hs l
  | [], l, h => by
    unfold denHs at h
    cases h
    exact .nil
  | hh :: r, l, h => by
    unfold denHs at h
    split at h
    · rename_i e
      cases e
    · rename_i t n b bs pos r' e
      cases e
      split at h
      · rename_i h1 h2 h3 h4
        cases h
        refine .cons (denXs_ok ok h1) ?_ (fun a pn => hd a pn _ _ h3) (hds_ok ok hd r _ h4)
        unfold denHn at h2
        split at h2
        · cases h2
          exact .inl ⟨rfl, rfl⟩
        · split at h2
          · rename_i x hk
            obtain ⟨i, hi, e⟩ := Option.map_eq_some_iff.mp h2
            cases e
            exact .inr ⟨_, i, rfl, rfl, by rw [ok.N]; exact slot_get hi, by show X.env.scope.names.lookup _ = _; rw [ok.nm]; exact hk⟩
          · cases h2
      · cases h
    · cases h
/-! ### a comprehension that is stored -/
theorem set_lc (ok : Cok X T W C) {n i : Nat} {y : Str} {py pos spos : Pos} {elt : Expr} {gs : List Comprehension} {scope : Scope} {f : E} (h : denE C n (.ListComp elt gs scope pos) = some f) (hi : X.N[i]? = some y) (hy : X.env.scope.names.lookup y = some .local)
    (hsw : swapsWith (.ListComp elt gs scope pos) (some (.Name y py)) spos.line X.env = pure true) : PS X (.Assign [.Name y py] (.ListComp elt gs scope pos) spos) (rdS T W (Mn.sAsg (Mn.tName i) f)) := by
  have fin : ∀ {t : TE}, PS X (.Assign [.Name y py] (.ListComp elt gs scope pos) spos) (tAsg t (gName i)) → (∀ σ H Q, rdE T W f σ H Q → t σ H Q) → PS X (.Assign [.Name y py] (.ListComp elt gs scope pos) spos) (rdS T W (Mn.sAsg (Mn.tName i) f)) := fun {t} hp hr => PS.imp hp fun σ H D ⟨R, ρ, M, e, s, p⟩ => by
    refine hr σ H _ (rdE_mono (st_rd e s p) fun x H1 ⟨R1, M1, v, e1, s1, r1, q⟩ => ?_)
    exact q R1 H1 _ (List.prefix_refl R1) (Keep.refl H1) s1 (e1.set r1 _)
  cases n with
  | zero => cases h
  | succ n =>
    have nd : X.N.Nodup := by rw [ok.N]; exact ok.nd
    unfold denE at h
    split at h <;> first | (rename_i z; cases z; done) | skip
    · rename_i z
      cases z
      split at h
      · rename_i hc
        split at h
        · rename_i hi2 hg he
          split at h
          · rename_i hts
            cases h
            obtain ⟨i1, i2⟩ := denI_ok ok (fun e f h => (denE_ok n X W C ok e f h).pe) hi2
            exact fin (ps_setLc (ok.calm hc.1) nd hi hy hsw i1 (blk_isOk ok hc.2) (fun s H A cl fp => (denG_ok (blk_ok ok hc.2 s H A cl fp) 20 _ _ _ hg).1) (fun _ _ _ _ _ => pts_yes (T := T)) (fun s H A cl fp => (denE_ok n _ _ _ (blk_ok ok hc.2 s H A cl fp) _ _ he).pe) i2)
              (lc_rd (fun j hj => by have := List.all_eq_true.mp hts j hj; simpa using this))
          · cases h
        · cases h
      · cases h
    · rename_i z
      cases z
      split at h
      · rename_i hc
        split at h
        · rename_i hi2 hg hcc he
          split at h
          · rename_i hts
            cases h
            obtain ⟨i1, i2⟩ := denI_ok ok (fun e f h => (denE_ok n X W C ok e f h).pe) hi2
            exact fin (ps_setLc (ok.calm hc.1) nd hi hy hsw i1 (blk_isOk ok hc.2) (fun s H A cl fp => (denG_ok (blk_ok ok hc.2 s H A cl fp) 20 _ _ _ hg).1) (fun s H A cl fp => pts_one (denE_ok n _ _ _ (blk_ok ok hc.2 s H A cl fp) _ _ hcc).pt) (fun s H A cl fp => (denE_ok n _ _ _ (blk_ok ok hc.2 s H A cl fp) _ _ he).pe) i2)
              (lc_rd (fun j hj => by have := List.all_eq_true.mp hts j hj; simpa using this))
          · cases h
        · cases h
      · cases h
    · cases h
/-- whether the compiler stores it within the comprehension's frame -/
theorem swaps_name {n : Nat} {e : Expr} {f : E} (h : denE C n e = some f) (y : Str) (py : Pos) (l : Nat) (env : PySem.Env) : swapsWith e (some (.Name y py)) l env = pure false ∨ (swapsWith e (some (.Name y py)) l env = pure true ∧ env.kindOf y = some .local ∧ ∃ elt gs scope pos, e = .ListComp elt gs scope pos) := by
  cases e with
  | ListComp elt gs scope pos =>
    have key : ∀ b : Bool, (env.blockKind == .function && env.kindOf y == some .local && py.line == (Expr.ListComp elt gs scope pos).pos.line && !(scope.names.any fun (n, k) => n == y && (k == .local || k == .cell))) = b → swapsWith (.ListComp elt gs scope pos) (some (.Name y py)) l env = pure b := fun b hb => by
      rw [← hb]
      rfl
    cases q : (env.blockKind == .function && env.kindOf y == some .local && py.line == (Expr.ListComp elt gs scope pos).pos.line && !(scope.names.any fun (n, k) => n == y && (k == .local || k == .cell))) with
    | false => exact .inl (key _ q)
    | true =>
      simp only [Bool.and_eq_true] at q
      exact .inr ⟨key _ (by simp only [Bool.and_eq_true]; exact q), by simpa using q.1.1.2, _, _, _, _, rfl⟩
  | SetComp => cases n <;> cases h
  | DictComp => cases n <;> cases h
  | _ => exact .inl rfl
theorem swaps_tg {e t : Expr} (h : ∀ x p, t ≠ .Name x p) (l : Nat) (env : PySem.Env) : swapsWithSole [t] e l env = pure false := by
  unfold swapsWithSole
  cases e <;> first | rfl | (cases t <;> first | rfl | exact absurd rfl (h _ _))
theorem asg_sub {o i e : Expr} {p : Pos} (env : PySem.Env) : swappedStores [.Subscript o i p] e env = pure none := by
  cases e <;> rfl
theorem asg_form {o i : Expr} {p : Pos} (h : isSl i = false) (env : PySem.Env) (v : Value) : assign (.Subscript o i p) env v = (do
      let ov ← holding [v] (eval o env)
      let iv ← holding [v, ov] (eval i env)
      standAt p
      holding [v, ov, iv] (setItem ov iv v)
      release [v, ov, iv] []) := by
  cases i <;> first | rfl | cases h
mutual
theorem denS_ok : ∀ (n : Nat) (X : Cx) (W : WX) (C : Dc), Cok X T W C → ∀ st f, denS C n st = some f → PS X st (rdS T W f)
  | 0, _, _, _, _, st, f, h => by cases h
  | n + 1, X, W, C, ok, st, f, h => by
    have ihS := denS_ok n X W C ok
    have ihB := denSs_ok n X W C ok
    have ihE : ∀ e f, denE C n e = some f → Both X T W e f := denE_ok n X W C ok
    unfold denS at h
    split at h
    · cases h
      exact s_pass
    · cases h
      exact PS.imp ps_continue fun σ H D ⟨R, ρ, M, e, s, p⟩ => p R H σ (List.prefix_refl R) (Keep.refl H) s e
    · cases h
      exact PS.imp ps_break fun σ H D ⟨R, ρ, M, e, s, p⟩ => p R H σ (List.prefix_refl R) (Keep.refl H) s e
    · split at h
      · cases h
      · rename_i hc
        obtain ⟨g, hg, rfl⟩ := Option.map_eq_some_iff.mp h
        exact s_drop (ihE _ _ hg).pe (swaps_no hc _ _ _)
    · obtain ⟨g, hg, rfl⟩ := Option.map_eq_some_iff.mp h
      exact s_ret (ihE _ _ hg).pe
    · split at h
      · rename_i h1 h2 h3
        cases h
        exact s_if (ihE _ _ h1).pt (ihB _ _ h2) (ihB _ _ h3)
      · cases h
    · split at h
      · rename_i h1 h2
        cases h
        exact s_while ok.po (ihE _ _ h1).pt (ihB _ _ h2)
      · cases h
    · split at h
      · rename_i hc h1 h2 h3
        cases h
        obtain ⟨g1, g2⟩ := denI_ok ok (fun e f h => (ihE e f h).pe) h2
        exact s_for ok.po (ok.calm hc) g1 (denG_ok ok n _ _ _ h1).1 (ihB _ _ h3) g2
      · cases h
    · split at h
      · rename_i hc h1 h2 h3
        cases h
        exact par_ok ok hc h1 (a_cons (ihE _ _ h2).pe (a_cons (ihE _ _ h3).pe a_nil (noStar h3 _ _)) (noStar h2 _ _)) (isStar_no h2) (isStar_no h3)
      · cases h
    · split at h
      · rename_i h1 h2 h3
        cases h
        obtain ⟨g1, g2⟩ := denG_ok ok n _ _ _ h2
        exact PS.imp (ps_asg (ihE _ _ h3).pe g1 (swaps_tg (by intro _ _ z; cases z) _ _) (swapped_no h1 _) rfl) asg_rd
      · cases h
    · split at h
      · rename_i h1 h2 h3 h4
        cases h
        exact PS.imp (ps_asg (ihE _ _ h4).pe (g_sub set_lst (ihE _ _ h2).pe (ihE _ _ h3).pe (asg_form h1 _)) (swaps_tg (by intro _ _ z; cases z) _ _) (asg_sub _) rfl) asg_rd
      · cases h
    · split at h
      · cases h
      · rename_i hb
        obtain ⟨c, hc, rfl⟩ := Option.map_eq_some_iff.mp h
        have hb0 : C.calm = true := by
          cases z : C.calm with
          | true => rfl
          | false => exact absurd (.inl z) hb
        have hb1 := badName_no fun z => hb (.inr (.inl z))
        have hb2 := Decidable.not_not.mp fun z => hb (.inr (.inr z))
        rename_i xn _ _ _ _ _ _
        have e : Str.ofString c = xn := by simpa using List.find?_some hc
        have hm := List.mem_of_find?_eq_some hc
        rw [ok.xs] at hm
        subst e
        refine PS.imp (ps_raise (ok.calm hb0) ok.tk (pmk_own PySem.F.excBase_ValueError (ok.ex.ei c hm) (ok.exc c hm) (ok.ex.kp c hm) (raises_own (ok.ex.ra c hm).1 (ok.ex.ra c hm).2) (glo ok hb2) hb1.1)) fun σ H D ⟨R, ρ, M, e, s, p⟩ => ?_
        exact p hm R H σ (List.prefix_refl R) (Keep.refl H) s e
    · split at h
      · rename_i h2 h3
        cases h
        obtain ⟨q1, q2, q3⟩ := locOf_ok ok h2
        rcases swaps_name h3 _ _ _ X.env with hs | ⟨hs, hk, elt, gs, scope, pos, rfl⟩
        · refine PS.imp (ps_set (by rw [ok.N]; exact ok.nd) q1 q2 (ihE _ _ h3).pe hs q3) fun σ H D ⟨R, ρ, M, e, s, p⟩ => ?_
          exact rdE_mono (st_rd e s p) fun x H1 ⟨R1, M1, v, e1, s1, r1, q⟩ => q R1 H1 _ (List.prefix_refl R1) (Keep.refl H1) s1 (e1.set r1 _)
        · exact set_lc ok h3 q1 hk hs
      · cases h
    · split at h
      · rename_i hc h1 h2 h3
        cases h
        obtain ⟨z1, z2, z3⟩ := ok.stm hc
        exact s_try z1 z2 z3 (by rw [ok.N]; exact ok.nd) ok.tk (fun W' pn xe tk po => denSs_ok n _ _ _ (try_ok ok tk po) _ _ h1) (ihB _ _ h3) (hds_ok ok (fun a pn b st hb => denSs_ok n _ _ _ (suf_ok ok a pn) b st hb) _ _ h2)
      · cases h
    · cases h
theorem denSs_ok : ∀ (n : Nat) (X : Cx) (W : WX) (C : Dc), Cok X T W C → ∀ st f, denSs C n st = some f → PSs X st (rdS T W f)
  | 0, _, _, _, _, st, f, h => by cases h
  | n + 1, X, W, C, ok, st, f, h => by
    have ihS := denS_ok n X W C ok
    have ihB := denSs_ok n X W C ok
    unfold denSs at h
    split at h
    · cases h
      exact ss_nil
    · exact ss_one (ihS _ _ h)
    · split at h
      · rename_i h1 h2
        cases h
        exact ss_cons (ihS _ _ h1) (ihB _ _ h2)
      · cases h
end
end
end MnS
end
section
set_option Elab.async false
set_option autoImplicit false
set_option linter.all false
set_option maxRecDepth 100000
set_option maxHeartbeats 4000000
/-! Defs one behind another; the law. -/
namespace MnS
open PySem PySem.Spec PyProof.Rows L2
open Mn (Val Cell Store E Fn Op U Itr Src Tg)
/-- the module's names -/
structure Md where
  fn : List (Str × (Fn × Nat))
  dn : List Str
  con : List (Str × Val)
  blt : List Str
  exc : List String
def dcOf (D : Md) (N : List Str) (sc : Scope) : Dc := ⟨N, sc.names, D.fn, D.dn, D.con, D.blt, D.exc, N, true, true⟩
structure Mok (P : Program) (w : World) (K : PySem.W.Frag) (mg : Str → Option Value) (base : Heap) (T : Tb) (D : Md) (k : Nat) : Prop where
  hK : T.K = K
  fn : ∀ x F np, D.fn.lookup x = some (F, np) → Arity F np ∧ ∃ (f : Addr) (fd : FuncData) (ps : List Str), mg x = some (.ref f) ∧ PySem.W.keepIn K (.ref f) = true ∧ Binds K fd ps [] ∧ (x ∈ D.dn → Binds K fd ps [.none]) ∧
    FnOk P w K mg base (L2.CX P w) k f fd ps (spF T np F)
  con : ∀ x v, D.con.lookup x = some v → ∃ (u : Value) (w : V), mg x = some u ∧ RelV w u ∧ ∀ R H, Rel T R H v w
  blt : ∀ x, x ∈ D.blt → mg x = none
  ex : ExF K T.ca T.xs
  exc : ∀ c, c ∈ T.xs → mg (Str.ofString c) = some (.ref (T.ca c))
  xs : D.exc = T.xs
section
variable {P : Program} {w : World} {K : PySem.W.Frag} {mg : Str → Option Value} {base : Heap} {T : Tb} {D : Md} {k : Nat}
theorem env_start {R : List Addr} {H : Hp} {xs : List Val} {vs : List V} {N : List Str} {np : Nat} (r : Rels T R H xs vs) (hn : xs.length = np) (hN : np ≤ N.length) : EnvR T R H (xs.map some ++ List.replicate (N.length - np) none) (L2.start N vs) := by
  have l := r.length
  unfold L2.start
  refine ⟨by simp only [List.length_append, List.length_map, List.length_replicate]; omega, fun i v h => ?_⟩
  by_cases hi : i < xs.length
  · rw [List.getElem?_append_left (by rw [List.length_map]; exact hi), List.getElem?_map] at h
    cases e : xs[i]? with
    | none =>
      rw [e] at h
      cases h
    | some z =>
      rw [e] at h
      cases h
      obtain ⟨u, hu, q⟩ := r.get e
      refine ⟨u, ?_, q⟩
      rw [List.getElem?_append_left (by rw [List.length_map]; omega), List.getElem?_map, hu]
      rfl
  · rw [List.getElem?_append_right (by rw [List.length_map]; omega), List.getElem?_replicate] at h
    split at h <;> cases h
theorem Mok.fnOk (M : Mok P w K mg base T D k) {x qual : Str} {params : Arguments} {body : List Stmt} {scope : Scope} {dvs : List V} {kws : List (Str × V)} {f : Addr} {fd : FuncData} (F : FunD K x qual params body scope dvs kws f fd) {N ps : List Str} (S : FnScope N ps scope) {b : Mn.St}
    (hd : denSs (dcOf D N scope) 100 body = some b) : FnOk P w K mg base (L2.CX P w) (k + 1) f fd ps (spF T ps.length (Mn.mkFn ps.length N.length b)) := by
  have hps : ps.length ≤ N.length := by
    have := congrArg List.length S.pre
    rw [List.length_take] at this
    omega
  refine F.ok S (fun vs H Q E ⟨R, M, xs, _, _, h, _⟩ => h) fun cdv A outer s H vs Q E hr h => ?_
  obtain ⟨R, St, xs, Si, r, hl, p⟩ := h
  refine ⟨rdS T (fun cls d _ H => E cls d H) b, denSs_ok 100 _ _ (dcOf D N scope) ?_ body b hd, R, _, St, env_start r (r.length.trans hl) hps, Si, ?_⟩
  · exact { K := M.hK.symm, N := rfl, nd := S.nd, nm := rfl, kind := S.kind, calm := fun _ => rfl, stm := fun _ => ⟨rfl, rfl, rfl⟩, tk := takes_of rfl rfl rfl rfl, po := passes_of rfl, un := hr.units,
            fn := fun y G np e => by
              obtain ⟨ar, f', fd', ps', h1, h2, h3, h4, h5⟩ := M.fn y G np e
              exact ⟨ar, k, f', fd', ps', hr, h1, h2, h3, h4, h5⟩
            con := M.con, blt := M.blt, ex := M.ex, exc := M.exc, xs := M.xs, sto := fun _ _ => .inl rfl }
  · unfold Mn.mkFn at p
    rw [if_pos (r.length.trans hl)] at p
    cases z : b (xs.map some ++ List.replicate (N.length - ps.length) none) St with
    | nx ρ M1 =>
      rw [z] at p
      exact fun R' H' σ p1 k1 s1 e1 => p R' H' .non p1 k1 s1 .non
    | ret v M1 =>
      rw [z] at p
      exact fun R' H' v p1 k1 s1 e1 => p R' H' v p1 k1 s1 e1
    | exc c ρ M1 =>
      rw [z] at p
      exact fun hc R' H' σ p1 k1 s1 e1 => p hc R' H' p1 k1 s1
    | bk ρ M1 =>
      rw [z] at p
      exact p.elim
    | ct ρ M1 =>
      rw [z] at p
      exact p.elim
    | bad =>
      rw [z] at p
      exact p.elim
/-- one def more; dn tells the defs whose last value may be left out -/
theorem Mok.addD (M : Mok P w K mg base T D k) {x qual : Str} {params : Arguments} {body : List Stmt} {scope : Scope} {dvs : List V} {f : Addr} {fd : FuncData} (F : FunD K x qual params body scope dvs [] f fd) {N ps : List Str} (S : FnScope N ps scope) {b : Mn.St}
    (hd : denSs (dcOf D N scope) 100 body = some b) (hm : mg x = some (.ref f)) (hb : Binds K fd ps []) (hbd : x ∈ D.dn → Binds K fd ps [.none]) : Mok P w K mg base T { D with fn := (x, (Mn.mkFn ps.length N.length b, ps.length)) :: D.fn } (k + 1) := by
  refine { M with fn := fun y G np e => ?_ }
  rw [List.lookup_cons] at e
  cases q : y == x with
  | true =>
    rw [q] at e
    cases e
    have e1 : y = x := eq_of_beq q
    subst e1
    exact ⟨mk_arity, f, fd, ps, hm, F.kp, hb, hbd, M.fnOk F S hd⟩
  | false =>
    rw [q] at e
    obtain ⟨ar, f', fd', ps', h1, h2, h3, h4, h5⟩ := M.fn y G np e
    exact ⟨ar, f', fd', ps', h1, h2, h3, h4, h5.mono (Nat.le_succ k)⟩
theorem Mok.add (M : Mok P w K mg base T D k) {x qual : Str} {params : Arguments} {body : List Stmt} {scope : Scope} {f : Addr} {fd : FuncData} (F : FunD K x qual params body scope [] [] f fd) {N ps : List Str} (S : FnScope N ps scope) {b : Mn.St}
    (hd : denSs (dcOf D N scope) 100 body = some b) (hm : mg x = some (.ref f)) (hb : Binds K fd ps []) (hn : decide (x ∈ D.dn) = false) : Mok P w K mg base T { D with fn := (x, (Mn.mkFn ps.length N.length b, ps.length)) :: D.fn } (k + 1) :=
  M.addD F S hd hm hb fun z => absurd z (of_decide_eq_false hn)
/-- a def whose last value may be left out: what its calls bind -/
theorem binds_non {x qual : Str} {params : Arguments} {body : List Stmt} {scope : Scope} {f : Addr} {fd : FuncData} {ps : List Str} (F : FunD K x qual params body scope [.non] [] f fd) (n : Nat) (hn : n + 1 = ps.length)
    (h1 : ∀ (T : Addr) (kV doc pm : Value) (an : Option Addr) (cdv ct : Value) (us its : List Value), us.length = n + 1 → its.length = [V.non].length →
      ∃ k, bindArgs (PySem.W.fnOf x qual params body scope (.ref T) kV doc pm an cdv ct) ⟨us, []⟩ = seqItems? (.ref T) >>= k ∧ k (some its.toArray) = pure (ps.zip (us ++ its.drop 1)))
    (h0 : ∀ (T : Addr) (kV doc pm : Value) (an : Option Addr) (cdv ct : Value) (us its : List Value), us.length = n → its.length = [V.non].length →
      ∃ k, bindArgs (PySem.W.fnOf x qual params body scope (.ref T) kV doc pm an cdv ct) ⟨us, []⟩ = seqItems? (.ref T) >>= k ∧ k (some its.toArray) = pure (ps.zip (us ++ its.drop 0))) : Binds K fd ps [] ∧ Binds K fd ps [.none] := by
  obtain ⟨d1, v1, b1⟩ := F.binds1 (n + 1) 1 (by simp) (by simpa using hn) h1
  obtain ⟨d0, v0, b0⟩ := F.binds1 n 0 (by simp) (by simpa using hn) h0
  cases v1
  cases v0 with
  | cons r1 r2 =>
    cases r2
    cases (show _ = Value.none from r1)
    exact ⟨b1, b0⟩
end
/-! ### the head's facts -/
def isLst (o : Obj) : Bool := o.cls == .type "list"
def frN (g : Addr → Option Obj) (as : List Addr) : PySem.W.Frag := (He.frG g as).filter fun q => !isLst q.2
theorem frag_mem {a : Addr} {o : Obj} : ∀ {l : PySem.W.Frag}, l.lookup a = some o → (a, o) ∈ l
  | [], h => by cases h
  | (b, u) :: r, h => by
    rw [List.lookup_cons] at h
    cases q : a == b with
    | true =>
      rw [q] at h
      cases h
      rw [eq_of_beq q]
      exact List.mem_cons_self
    | false =>
      rw [q] at h
      exact List.mem_cons_of_mem _ (frag_mem h)
theorem frN_mem {g : Addr → Option Obj} {as : List Addr} {a : Addr} {o : Obj} (h : (frN g as).lookup a = some o) : g a = some o ∧ isLst o = false := by
  obtain ⟨h1, h2⟩ := List.mem_filter.mp (frag_mem h)
  obtain ⟨b, _, e⟩ := List.mem_filterMap.mp h1
  obtain ⟨u, hu, e2⟩ := Option.map_eq_some_iff.mp e
  cases e2
  exact ⟨hu, by simpa using h2⟩
theorem frN_in {as : List Addr} {h : Heap} : (frN h.get? as).In h := fun _ _ e => (frN_mem e).1
def NoLst (K : PySem.W.Frag) : Prop := ∀ a o, K.lookup a = some o → o.cls ≠ .type "list"
theorem frN_nolst {g : Addr → Option Obj} {as : List Addr} : NoLst (frN g as) := fun a o e z => by
  have q := (frN_mem e).2
  unfold isLst at q
  rw [z] at q
  cases q
/-! a value of the written part -/
mutual
def valB (K : PySem.W.Frag) : Val → Value → Bool
  | .int i, .int j _ => decide (i = j)
  | .str s, .str y _ => decide (sOf s = y)
  | .tup xs, .ref a => match K.lookup a with
    | some ⟨.type c, _, .seq its _, _⟩ => decide (c = "tuple") && (decide (its.size ≤ sizeLine) && valsB K xs its.toList)
    | _ => false
  | _, _ => false
def valsB (K : PySem.W.Frag) : List Val → List Value → Bool
  | [], [] => true
  | x :: xs, u :: us => valB K x u && valsB K xs us
  | _, _ => false
end
mutual
theorem valB_ok {K : PySem.W.Frag} {T : Tb} (hT : T.K = K) : ∀ (v : Val) (u : Value), valB K v u = true → ∃ w, RelV w u ∧ ∀ R H, Rel T R H v w
  | .int i, u, h => by
    cases u <;> simp only [valB, decide_eq_true_eq, Bool.false_eq_true] at h
    subst h
    exact ⟨.int i, ⟨_, rfl⟩, fun _ _ => .int i⟩
  | .str s, u, h => by
    cases u <;> simp only [valB, decide_eq_true_eq, Bool.false_eq_true] at h
    subst h
    exact ⟨.str (sOf s), ⟨_, rfl⟩, fun _ _ => .str s⟩
  | .tup xs, u, h => by
    cases u <;> simp only [valB, Bool.false_eq_true] at h
    rename_i a
    split at h
    · rename_i c d its n sl e
      simp only [Bool.and_eq_true, decide_eq_true_eq] at h
      obtain ⟨h1, h2, h3⟩ := h
      obtain ⟨ws, r1, r2⟩ := valsB_ok hT xs _ h3
      subst h1
      exact ⟨.ref a, rfl, fun R H => .tup (.inr ⟨_, its, n, by rw [hT]; exact e, rfl, rfl, h2, r1⟩) (r2 R H)⟩
    · cases h
  | .non, u, h => by simp [valB] at h
  | .bl b, u, h => by simp [valB] at h
  | .ref n, u, h => by simp [valB] at h
  | .exc c, u, h => by simp [valB] at h
theorem valsB_ok {K : PySem.W.Frag} {T : Tb} (hT : T.K = K) : ∀ (vs : List Val) (us : List Value), valsB K vs us = true → ∃ ws, Vals ws us ∧ ∀ R H, Rels T R H vs ws
  | [], [], _ => ⟨[], .nil, fun _ _ => .nil⟩
  | [], _ :: _, h => by simp [valsB] at h
  | _ :: _, [], h => by simp [valsB] at h
  | x :: xs, u :: us, h => by
    simp only [valsB, Bool.and_eq_true] at h
    obtain ⟨w, r1, r2⟩ := valB_ok hT x u h.1
    obtain ⟨ws, q1, q2⟩ := valsB_ok hT xs us h.2
    exact ⟨w :: ws, .cons r1 q1, fun R H => .cons (r2 R H) (q2 R H)⟩
end
def conB (K : PySem.W.Frag) (x : Str) (v : Val) : Bool := match PySem.W.nsIn K mainGlobals x with
  | some (some u) => valB K v u
  | _ => false
theorem conB_ok {K : PySem.W.Frag} {T : Tb} {h : Heap} {mg : Str → Option Value} (X : K.In h) (G : h.Ns mainGlobals mg) (hT : T.K = K) {x : Str} {v : Val} (c : conB K x v = true) : ∃ (u : Value) (w : V), mg x = some u ∧ RelV w u ∧ ∀ R H, Rel T R H v w := by
  unfold conB at c
  split at c
  · rename_i u e
    obtain ⟨w, r1, r2⟩ := valB_ok hT v u c
    exact ⟨u, w, PySem.W.mg_of X G e, r1, r2⟩
  · cases c
def caOf (K : PySem.W.Frag) (c : String) : Addr := He.ga K (Str.ofString c)
def exC1 (K : PySem.W.Frag) (D : Addr) : Bool := decide (PySem.W.findIn K (.ref D) "__getattribute__" = some (some (.builtin "BaseException.__getattribute__"))) && (decide (PySem.W.findIn K (.ref D) "__getattr__" = some none) &&
  (decide (PySem.W.subIn K (.ref D) (.type "BaseException") = some true) && (PySem.W.hasDictIn K D && (decide (PySem.W.findIn K (.ref D) "__class__" = some (some (.builtin "object.__class__"))) &&
  (decide (PySem.W.specialIn K (.builtin "object.__class__") "__get__" = some (some (.builtin "getset_descriptor.__get__"))) && (decide (PySem.W.takesIn K (.builtin "object.__class__") = some true) && decide (PySem.W.mroIn K D (.type "object") = some true)))))))
def exB1 (K : PySem.W.Frag) (xs : List String) (c : String) : Bool := exC1 K (caOf K c) && ((tyOk.all fun t => decide (PySem.W.kitOne K (.ref (caOf K c)) (.type t) = some (Mn.isX c t))) && ((xs.all fun d => decide (PySem.W.kitOne K (.ref (caOf K c)) (.ref (caOf K d)) = some (Mn.isX c d)) && decide (PySem.W.exmOne K (.ref (caOf K c)) (.ref (caOf K d)) = some (Mn.isX c d))) &&
  ((tyNames.all fun a => decide (PySem.W.kitOne K (.type a) (.ref (caOf K c)) = some (Mn.isT a c))) && (PySem.W.excIn K (caOf K c) He.veBase "ValueError.__new__" && (PySem.W.keepIn K (.ref (caOf K c)) &&
  (decide (PySem.W.subIn K (.ref (caOf K c)) (.type "BaseException") = some true) && (decide (PySem.W.typeIn K (.ref (caOf K c)) = some (.type "type")) && decide (PySem.W.nsIn K mainGlobals (Str.ofString c) = some (some (.ref (caOf K c)))))))))))
theorem exF_of {K : PySem.W.Frag} {xs : List String} (h : (xs.all fun c => exB1 K xs c) = true) : ExF K (caOf K) xs ∧ ∀ c ∈ xs, PySem.W.nsIn K mainGlobals (Str.ofString c) = some (some (.ref (caOf K c))) := by
  have q : ∀ c ∈ xs, exB1 K xs c = true := List.all_eq_true.mp h
  unfold exB1 exC1 at q
  simp only [Bool.and_eq_true, decide_eq_true_eq, List.all_eq_true] at q
  refine ⟨⟨fun c hc => ?_, fun c hc => (q c hc).2.1, fun c hc d hd => ((q c hc).2.2.1 d hd).1, fun a ha d hd => (q d hd).2.2.2.1 a ha, fun c hc => (q c hc).2.2.2.2.1, fun c hc d hd => ((q c hc).2.2.1 d hd).2, fun c hc => (q c hc).2.2.2.2.2.1, fun c hc => ⟨(q c hc).2.2.2.2.2.2.1, (q c hc).2.2.2.2.2.2.2.1⟩⟩, fun c hc => (q c hc).2.2.2.2.2.2.2.2⟩
  obtain ⟨a1, a2, a3, a4, a5, a6, a7, a8⟩ := (q c hc).1
  exact ⟨a1, a2, a3, a4, a5, a6, a7, a8⟩
/-! ### the hook -/
abbrev AlN : Type := He.AlD × Bool
def obsN (fa : List He.Fa) (fn : List He.DefD) (xs : List String) (cs : List (Str × Val)) (K : PySem.W.Frag) : AlN := (He.obsD fa fn K, (xs.all fun c => exB1 K xs c) && cs.all fun p => conB K p.1 p.2)
def SaysN (fa : List He.Fa) (fn : List He.DefD) (xs : List String) (cs : List (Str × Val)) (K : PySem.W.Frag) : Prop := obsN fa fn xs cs K = (He.valD fn, true)
def obsNG (n : Nat) (fa : List He.Fa) (fn : List He.DefD) (xs : List String) (cs : List (Str × Val)) (g : Addr → Option Obj) : AlN := obsN fa fn xs cs (frN g (He.asD g n))
def hookN (n : Nat) (fa : List He.Fa) (fn : List He.DefD) (xs : List String) (cs : List (Str × Val)) : PySem.W.Hook where
  α := AlN
  obs := fun s => obsNG n fa fn xs cs s.heap.get?
  val := fun _ => (He.valD fn, true)
  says := fun _ h => ∃ K : PySem.W.Frag, K.In h ∧ NoLst K ∧ SaysN fa fn xs cs K
  of := fun _ _ e => ⟨_, frN_in, frN_nolst, e⟩
  keeps := fun _ _ _ ⟨K, hK, hl, c⟩ k => ⟨K, PySem.W.Frag.In.keeps hK k, hl, c⟩
theorem obsNG_eq {n : Nat} {fa : List He.Fa} {fn : List He.DefD} {xs : List String} {cs : List (Str × Val)} {g : Addr → Option Obj} {s : Shared} (h : ∀ a, g a = s.heap.get? a) : obsNG n fa fn xs cs g = (hookN n fa fn xs cs).obs s := by
  have e : g = s.heap.get? := funext h
  rw [e] <;> rfl
section
variable {fa : List He.Fa} {fn : List He.DefD} {xs : List String} {cs : List (Str × Val)} {K : PySem.W.Frag}
theorem SaysN.d (c : SaysN fa fn xs cs K) : He.SaysD fa fn K := congrArg (fun z : AlN => z.1) c
theorem SaysN.b (c : SaysN fa fn xs cs K) : (xs.all fun c => exB1 K xs c) = true ∧ (cs.all fun p => conB K p.1 p.2) = true := by
  have e : ((xs.all fun c => exB1 K xs c) && cs.all fun p => conB K p.1 p.2) = true := congrArg (fun z : AlN => z.2) c
  exact Bool.and_eq_true_iff.mp e
/-- the module before any def -/
theorem SaysN.mok {dn : List Str} {P : Program} {w : World} {mg : Str → Option Value} {h base : Heap} (c : SaysN fa fn xs cs K) (X : K.In h) (G : h.Ns mainGlobals mg) {blt : List Str} (hb : ∀ x ∈ blt, He.Fa.free x ∈ fa) :
    Mok P w K mg base ⟨K, caOf K, xs⟩ ⟨[], dn, cs, blt, xs⟩ 0 := by
  obtain ⟨c1, c2⟩ := c.b
  obtain ⟨e1, e2⟩ := exF_of c1
  refine { hK := rfl, fn := fun _ _ _ e => (by cases e), con := fun x v e => ?_, blt := fun x hx => ?_, ex := e1, exc := fun c hc => PySem.W.mg_of X G (e2 c hc), xs := rfl }
  · have q := List.all_eq_true.mp c2 (x, v) ?_
    · exact conB_ok X G rfl q
    · have go : ∀ l : List (Str × Val), l.lookup x = some v → (x, v) ∈ l := by
        intro l
        induction l with
        | nil =>
          intro h
          cases h
        | cons p r ih =>
          intro h
          rw [List.lookup_cons] at h
          cases z : x == p.1 with
          | true =>
            rw [z] at h
            cases h
            have e : x = p.1 := eq_of_beq z
            rw [e]
            exact List.mem_cons_self
          | false =>
            rw [z] at h
            exact List.mem_cons_of_mem _ (ih h)
      exact go cs e
  · obtain ⟨i, hi, e⟩ := List.mem_iff_getElem.mp (hb x hx)
    exact He.free_ok X G (c.d.fact i (by rw [List.getElem?_eq_getElem hi, e]))
end
/-! ### the end -/
theorem script_sp {K : PySem.W.Frag} {T : Tb} (hT : T.K = K) (nl : NoLst K) {H : Hp} {a : Addr} {ns : List Int} {F : Fn} (hO : Only H) (hS : SqL K H a (ns.map V.int)) (hF : ∃ M, F [.ref 0] [.ro (ns.map .int)] = .ok (.bl true) M) :
    spF T 1 F [.ref a] H (fun v _ => v = .bl true) fun _ _ _ => False := by
  have ro : ∃ o, H a = some (.frz o (.lst (ns.map V.int))) := by
    rcases hS with (h | h) | ⟨o, its, n, h1, h2, _⟩
    · rcases hO a with z | ⟨o, xs, z⟩
      · rw [h] at z
        cases z
      · rw [h] at z
        cases z
    · exact h
    · exact absurd h2 (nl a o h1)
  obtain ⟨o, ho⟩ := ro
  have rl : ∀ ns : List Int, Rels T [a] H (ns.map .int) (ns.map V.int) := by
    intro ns
    induction ns with
    | nil => exact .nil
    | cons n ns ih => exact .cons (.int n) ih
  refine ⟨[a], [.ro (ns.map .int)], [.ref 0], ⟨rfl, by simp, fun n b c h1 h2 => ?_⟩, .cons (.ref rfl) .nil, rfl, ?_⟩
  · cases n with
    | zero =>
      cases h1
      cases h2
      exact ⟨o, _, ho, rl ns⟩
    | succ n => cases h1
  · obtain ⟨M, e⟩ := hF
    rw [e]
    intro R' H' w p k s r
    cases r
    rfl
theorem walk_mn {l : PySem.W.OpenLaw} {n k : Nat} {q : Program} {loose : List Str} {XP : (Str → Option Value) → Heap → Prop} {YP : World → Heap → Prop} {d : DefRec} {x : Str}
    (hn : l.most = some n) (hn2 : n ≤ sizeLine) (hdf : d.params.defaults = []) (hr : Room k callerA)
    (F : ∀ (w : World) (mg : Str → Option Value) (fa : Addr) (h : Heap), YP w h → h.Ns mainGlobals mg → mg d.name = some (.ref fa) →
      ∃ (K : PySem.W.Frag) (fd : FuncData) (T : Tb) (F : Fn), K.In h ∧ NoLst K ∧ T.K = K ∧ (∀ (s : Shared) (u : Value), BindsTo s fd ⟨[u], []⟩ [(x, u)]) ∧
        (∀ ns : List Int, ns.length ≤ n → (∀ z ∈ ns, Mn.bits z ≤ 1048576) → ∃ M, F [.ref 0] [.ro (ns.map .int)] = .ok (.bl true) M) ∧
        ∀ base : Heap, K.In base → base.Ns mainGlobals mg → FnOk l.prog w K mg base (L2.CX l.prog w) k fa fd [x] (spF T 1 F)) :
    PySem.W.WalkO q loose XP YP l.row.toRowW d [] (fun f vs => PySem.call f vs) := by
  refine Att.attach_callB hn hdf fun w s₀ s₁ mg mb fa o pm cd doc a vs ns G Y ho hd hcd hmg hobj hints hlen hbits hg => ?_
  obtain ⟨K, fd, T, F, KX, nl, hT, hb, hsp, hF⟩ := F w mg fa _ Y G.T.g hmg
  refine law_call KX G.T.g G.T.b G.T.builtins G.T.nolimit hg hobj hints (Nat.le_trans hlen hn2) hr hF hb (fun H hO hS => script_sp hT nl hO hS (hsp ns hlen fun z hz => ?_)) fun H e s' h => ?_
  · have e : Mn.bits z = Builtin.Int.intBits z := by
      unfold Mn.bits Builtin.Int.intBits
      split <;> split <;> simp_all
    rw [e]
    exact hbits z hz
  · obtain ⟨_, _, _, _, _, _, _, _, _, _, _, _, z⟩ := h
    exact z
end MnS
end
section
set_option autoImplicit false
/-! the defs of all texts, in the small language: printed by gen.py -/
namespace Z
open Mn
def c_NOUGHT : Val := .tup [.int 0, .int 1]
def c_ONE : Val := .tup [.int 1, .int 1]
def p_shared.b : St := sSeq (sAsg (tName 0) (eUn uAbs (eVar 0))) (sSeq (sAsg (tName 1) (eUn uAbs (eVar 1))) (sSeq (sWhile (eBin cNe (eVar 1) (eC (.int 0))) (sSeq (sAsg (tName 2) (eBin oMod (eVar 0) (eVar 1))) (sSeq (sAsg (tName 0) (eVar 1)) (sAsg (tName 1) (eVar 2))))) (sRet (eVar 0))))
def p_shared : Fn := mkFn 2 3 p_shared.b
def p_ratio.b : St := sSeq (sIf (eBin cEq (eVar 1) (eC (.int 0))) (sRaise "NoRatio") (sPass)) (sSeq (sAsg (tName 2) (eCall p_shared [eVar 0, eVar 1])) (sSeq (sIf (eBin cLt (eVar 1) (eC (.int 0))) (sAsg (tName 2) (eUn oNeg (eVar 2))) (sPass)) (sRet (eTup [eBin oDiv (eVar 0) (eVar 2), eBin oDiv (eVar 1) (eVar 2)]))))
def p_ratio : Fn := mkFn 2 3 p_ratio.b
def l_whole.b : St := sRet (eAnd (eUn (uIs ["int"]) (eVar 0)) (eNot (eUn (uIs ["bool"]) (eVar 0))))
def l_whole : Fn := mkFn 1 1 l_whole.b
def l_shared.b : St := sSeq (sAsg (tName 0) (eUn uAbs (eVar 0))) (sSeq (sWhile (eBin cNe (eVar 1) (eC (.int 0))) (sPar 0 1 (eVar 1) (eBin oMod (eVar 0) (eVar 1)))) (sRet (eVar 0)))
def l_shared : Fn := mkFn 2 2 l_shared.b
def l_stands.b : St := sSeq (sIf (eOr (eNot (eUn (uIs ["tuple"]) (eVar 0))) (eOr (eBin cNe (eUn uLen (eVar 0)) (eC (.int 2))) (eOr (eNot (eCall l_whole [eBin oIx (eVar 0) (eC (.int 0))])) (eNot (eCall l_whole [eBin oIx (eVar 0) (eC (.int 1))]))))) (sRet (eC (.bl false))) (sPass)) (sSeq (sIf (eOr (eBin cLt (eBin oIx (eVar 0) (eC (.int 1))) (eC (.int 1))) (eBin cNe (eCall l_shared [eBin oIx (eVar 0) (eC (.int 0)), eBin oIx (eVar 0) (eC (.int 1))]) (eC (.int 1)))) (sRet (eC (.bl false))) (sPass)) (sRet (eBin cEq (eBin oMul (eBin oIx (eVar 0) (eC (.int 0))) (eVar 2)) (eBin oMul (eVar 1) (eBin oIx (eVar 0) (eC (.int 1)))))))
def l_stands : Fn := mkFn 3 3 l_stands.b
def p_plus.b : St := sRet (eCall p_ratio [eBin oAdd (eBin oMul (eBin oIx (eVar 0) (eC (.int 0))) (eBin oIx (eVar 1) (eC (.int 1)))) (eBin oMul (eBin oIx (eVar 1) (eC (.int 0))) (eBin oIx (eVar 0) (eC (.int 1)))), eBin oMul (eBin oIx (eVar 0) (eC (.int 1))) (eBin oIx (eVar 1) (eC (.int 1)))])
def p_plus : Fn := mkFn 2 2 p_plus.b
def p_minus.b : St := sRet (eCall p_ratio [eBin oSub (eBin oMul (eBin oIx (eVar 0) (eC (.int 0))) (eBin oIx (eVar 1) (eC (.int 1)))) (eBin oMul (eBin oIx (eVar 1) (eC (.int 0))) (eBin oIx (eVar 0) (eC (.int 1)))), eBin oMul (eBin oIx (eVar 0) (eC (.int 1))) (eBin oIx (eVar 1) (eC (.int 1)))])
def p_minus : Fn := mkFn 2 2 p_minus.b
def p_times.b : St := sRet (eCall p_ratio [eBin oMul (eBin oIx (eVar 0) (eC (.int 0))) (eBin oIx (eVar 1) (eC (.int 0))), eBin oMul (eBin oIx (eVar 0) (eC (.int 1))) (eBin oIx (eVar 1) (eC (.int 1)))])
def p_times : Fn := mkFn 2 2 p_times.b
def l_made.b : St := sSeq (sAsg (tName 2) (eCall l_shared [eVar 0, eVar 1])) (sRet (eTup [eBin oDiv (eVar 0) (eVar 2), eBin oDiv (eVar 1) (eVar 2)]))
def l_made : Fn := mkFn 2 3 l_made.b
def l_ratio.b : St := sSeq (sAsg (tName 1) (eBin oMod (eVar 0) (eC (.int 8)))) (sSeq (sAsg (tName 0) (eBin oDiv (eVar 0) (eC (.int 8)))) (sSeq (sIf (eBin cEq (eVar 1) (eC (.int 0))) (sRet (eCall l_made [eBin oSub (eBin oMod (eVar 0) (eBin oAdd (eBin oMul (eC (.int 2)) (eBin oPow (eC (.int 10)) (eC (.int 20)))) (eC (.int 1)))) (eBin oPow (eC (.int 10)) (eC (.int 20))), eC (.int 1)])) (sPass)) (sSeq (sIf (eBin cEq (eVar 1) (eC (.int 1))) (sRet (eCall l_made [eBin oSub (eBin oMod (eVar 0) (eBin oAdd (eBin oMul (eC (.int 2)) (eBin oPow (eC (.int 10)) (eC (.int 30)))) (eC (.int 1)))) (eBin oPow (eC (.int 10)) (eC (.int 30))), eBin oAdd (eC (.int 1)) (eBin oMod (eBin oDiv (eVar 0) (eBin oPow (eC (.int 10)) (eC (.int 31)))) (eBin oPow (eC (.int 10)) (eC (.int 30))))])) (sPass)) (sRet (eCall l_made [eBin oSub (eBin oMod (eVar 0) (eC (.int 19))) (eC (.int 9)), eBin oIx (eLst [eC (.int 1), eC (.int 1), eC (.int 1), eC (.int 2), eC (.int 3), eC (.int 4), eC (.int 6), eC (.int 12)]) (eBin oMod (eBin oDiv (eVar 0) (eC (.int 19))) (eC (.int 8)))])))))
def l_ratio : Fn := mkFn 1 2 l_ratio.b
def p_over.b : St := sRet (eCall p_ratio [eBin oMul (eBin oIx (eVar 0) (eC (.int 0))) (eBin oIx (eVar 1) (eC (.int 1))), eBin oMul (eBin oIx (eVar 0) (eC (.int 1))) (eBin oIx (eVar 1) (eC (.int 0)))])
def p_over : Fn := mkFn 2 2 p_over.b
def p_less.b : St := sRet (eBin cLt (eBin oMul (eBin oIx (eVar 0) (eC (.int 0))) (eBin oIx (eVar 1) (eC (.int 1)))) (eBin oMul (eBin oIx (eVar 1) (eC (.int 0))) (eBin oIx (eVar 0) (eC (.int 1)))))
def p_less : Fn := mkFn 2 2 p_less.b
def l_told.b : St := sRet (eAnd (eUn (uIs ["bool"]) (eVar 0)) (eBin cEq (eVar 0) (eVar 1)))
def l_told : Fn := mkFn 2 2 l_told.b
def p_added.b : St := sRet (eLc (iZip (eVar 0) (eVar 1)) (tTup [tName 2, tName 3]) [2, 3] (eC (.bl true)) (eCall p_plus [eVar 2, eVar 3]))
def p_added : Fn := mkFn 2 4 p_added.b
def p_taken.b : St := sRet (eLc (iZip (eVar 0) (eVar 1)) (tTup [tName 2, tName 3]) [2, 3] (eC (.bl true)) (eCall p_minus [eVar 2, eVar 3]))
def p_taken : Fn := mkFn 2 4 p_taken.b
def p_scaled.b : St := sRet (eLc (iList (eVar 0)) (tName 2) [2] (eC (.bl true)) (eCall p_times [eVar 2, eVar 1]))
def p_scaled : Fn := mkFn 2 3 p_scaled.b
def p_is_still.b : St := sRet (eUn uAll (eLc (iList (eVar 0)) (tName 1) [1] (eC (.bl true)) (eBin cEq (eVar 1) (eC c_NOUGHT))))
def p_is_still : Fn := mkFn 1 2 p_is_still.b
def l_cell_at.b : St := sSeq (sIf (eBin cLt (eVar 1) (eUn uLen (eVar 0))) (sRet (eBin oIx (eVar 0) (eVar 1))) (sPass)) (sRet (eC (.int 0)))
def l_cell_at : Fn := mkFn 2 2 l_cell_at.b
def l_plus.b : St := sRet (eCall l_made [eBin oAdd (eBin oMul (eBin oIx (eVar 0) (eC (.int 0))) (eBin oIx (eVar 1) (eC (.int 1)))) (eBin oMul (eBin oIx (eVar 1) (eC (.int 0))) (eBin oIx (eVar 0) (eC (.int 1)))), eBin oMul (eBin oIx (eVar 0) (eC (.int 1))) (eBin oIx (eVar 1) (eC (.int 1)))])
def l_plus : Fn := mkFn 2 2 l_plus.b
def l_times.b : St := sRet (eCall l_made [eBin oMul (eBin oIx (eVar 0) (eC (.int 0))) (eBin oIx (eVar 1) (eC (.int 0))), eBin oMul (eBin oIx (eVar 0) (eC (.int 1))) (eBin oIx (eVar 1) (eC (.int 1)))])
def l_times : Fn := mkFn 2 2 l_times.b
def l_ratio_2.b : St := sSeq (sAsg (tName 1) (eBin oMod (eVar 0) (eC (.int 8)))) (sSeq (sAsg (tName 0) (eBin oDiv (eVar 0) (eC (.int 8)))) (sSeq (sIf (eBin cEq (eVar 1) (eC (.int 0))) (sRet (eCall l_made [eBin oSub (eBin oMod (eVar 0) (eBin oAdd (eBin oMul (eC (.int 2)) (eBin oPow (eC (.int 10)) (eC (.int 20)))) (eC (.int 1)))) (eBin oPow (eC (.int 10)) (eC (.int 20))), eC (.int 1)])) (sPass)) (sSeq (sIf (eBin cLt (eVar 1) (eC (.int 3))) (sRet (eTup [eC (.int 0), eC (.int 1)])) (sPass)) (sRet (eCall l_made [eBin oSub (eBin oMod (eVar 0) (eC (.int 19))) (eC (.int 9)), eBin oIx (eLst [eC (.int 1), eC (.int 1), eC (.int 1), eC (.int 2), eC (.int 3), eC (.int 4), eC (.int 6), eC (.int 12)]) (eBin oMod (eBin oDiv (eVar 0) (eC (.int 19))) (eC (.int 8)))])))))
def l_ratio_2 : Fn := mkFn 1 2 l_ratio_2.b
def l_is_row.b : St := sSeq (sIf (eOr (eNot (eUn (uIs ["list"]) (eVar 0))) (eBin cNe (eUn uLen (eVar 0)) (eUn uLen (eVar 1)))) (sRet (eC (.bl false))) (sPass)) (sSeq (sFor (iRange1 (eUn uLen (eVar 1))) (tName 2) (sSeq (sAsg (tName 3) (eBin oIx (eVar 0) (eVar 2))) (sSeq (sIf (eOr (eNot (eUn (uIs ["tuple"]) (eVar 3))) (eOr (eBin cNe (eUn uLen (eVar 3)) (eC (.int 2))) (eOr (eNot (eCall l_whole [eBin oIx (eVar 3) (eC (.int 0))])) (eNot (eCall l_whole [eBin oIx (eVar 3) (eC (.int 1))]))))) (sRet (eC (.bl false))) (sPass)) (sIf (eBin cNe (eVar 3) (eBin oIx (eVar 1) (eVar 2))) (sRet (eC (.bl false))) (sPass))))) (sRet (eC (.bl true))))
def l_is_row : Fn := mkFn 2 4 l_is_row.b
def p_mixed.b : St := sSeq (sAsg (tName 3) (eBin oMul (eLst [eC c_NOUGHT]) (eVar 2))) (sSeq (sFor (iZip (eVar 0) (eVar 1)) (tTup [tName 4, tName 5]) (sAsg (tName 3) (eCall p_added [eVar 3, eCall p_scaled [eVar 4, eVar 5]]))) (sRet (eVar 3)))
def p_mixed : Fn := mkFn 3 6 p_mixed.b
def l_due.b : St := sSeq (sAsg (tName 3) (eLst [])) (sSeq (sFor (iRange1 (eVar 2)) (tName 4) (sSeq (sAsg (tName 5) (eTup [eC (.int 0), eC (.int 1)])) (sSeq (sFor (iRange1 (eUn uLen (eVar 0))) (tName 6) (sAsg (tName 5) (eCall l_plus [eVar 5, eCall l_times [eBin oIx (eBin oIx (eVar 0) (eVar 6)) (eVar 4), eBin oIx (eVar 1) (eVar 6)]]))) (sDrop (eM1 "list" mApp (eVar 3) (eVar 5)))))) (sRet (eVar 3)))
def l_due : Fn := mkFn 3 7 l_due.b
def l_asked_3.b : St := sSeq (sAsg (tName 3) (eLst [eLc (iList (eVar 0)) (tName 4) [4] (eC (.bl true)) (eUn uList (eVar 4)), eUn uList (eVar 1)])) (sSeq (sAsg (tName 5) (eCall l_due [eVar 0, eVar 1, eVar 2])) (sSeq (sAsg (tName 6) (eCall p_mixed [eVar 0, eVar 1, eVar 2])) (sSeq (sIf (eNot (eCall l_is_row [eVar 6, eVar 5])) (sRet (eC (.bl false))) (sPass)) (sSeq (sDrop (eM1 "list" mApp (eVar 6) (eTup [eC (.int 7), eC (.int 1)]))) (sSeq (sAsg (tName 7) (eCall l_due [eSl (eVar 0) none (some (eC (.int 1))), eSl (eVar 1) none (some (eC (.int 1))), eVar 2])) (sSeq (sIf (eNot (eCall l_is_row [eCall p_mixed [eSl (eVar 0) none (some (eC (.int 1))), eSl (eVar 1) none (some (eC (.int 1))), eVar 2], eVar 7])) (sRet (eC (.bl false))) (sPass)) (sRet (eAnd (eCall l_is_row [eCall p_mixed [eVar 0, eVar 1, eVar 2], eVar 5]) (eBin cEq (eLst [eVar 0, eVar 1]) (eVar 3))))))))))
def l_asked_3 : Fn := mkFn 3 8 l_asked_3.b
def p_turned.b : St := sRet (eLc (iRange1 (eVar 1)) (tName 3) [3] (eC (.bl true)) (eLc (iList (eVar 0)) (tName 2) [2] (eC (.bl true)) (eBin oIx (eVar 2) (eVar 3))))
def p_turned : Fn := mkFn 2 4 p_turned.b
def p_unit.b : St := sSeq (sAsg (tName 1) (eLst [])) (sSeq (sFor (iRange1 (eVar 0)) (tName 2) (sSeq (sAsg (tName 3) (eBin oMul (eLst [eC c_NOUGHT]) (eVar 0))) (sSeq (sAsg (tSub (eVar 3) (eVar 2)) (eC c_ONE)) (sDrop (eM1 "list" mApp (eVar 1) (eVar 3)))))) (sRet (eVar 1)))
def p_unit : Fn := mkFn 1 4 p_unit.b
def l_great_6.b : St := sRet (eBin oMod (eBin oMul (eBin oMul (eBin oMul (eBin oAdd (eVar 0) (eC (.int 31))) (eBin oPow (eC (.int 7)) (eC (.int 61)))) (eBin oPow (eC (.int 11)) (eC (.int 63)))) (eBin oPow (eC (.int 13)) (eC (.int 9)))) (eBin oMul (eBin oPow (eC (.int 10)) (eC (.int 60))) (eBin oPow (eC (.int 10)) (eC (.int 60)))))
def l_great_6 : Fn := mkFn 1 1 l_great_6.b
def l_is_table.b : St := sSeq (sIf (eOr (eNot (eUn (uIs ["list"]) (eVar 0))) (eBin cNe (eUn uLen (eVar 0)) (eUn uLen (eVar 1)))) (sRet (eC (.bl false))) (sPass)) (sRet (eUn uAll (eLc (iRange1 (eUn uLen (eVar 1))) (tName 2) [2] (eC (.bl true)) (eCall l_is_row [eBin oIx (eVar 0) (eVar 2), eBin oIx (eVar 1) (eVar 2)]))))
def l_is_table : Fn := mkFn 2 3 l_is_table.b
def l_table.b : St := sSeq (sAsg (tName 4) (eLst [])) (sSeq (sFor (iRange1 (eVar 2)) (tName 5) (sSeq (sAsg (tName 6) (eLst [])) (sSeq (sFor (iRange1 (eVar 3)) (tName 7) (sSeq (sAsg (tName 8) (eBin oAdd (eBin oAdd (eVar 1) (eBin oMul (eVar 5) (eVar 3))) (eVar 7))) (sSeq (sAsg (tName 9) (eTup [eC (.int 0), eC (.int 1)])) (sSeq (sIf (eBin cLt (eVar 8) (eUn uLen (eVar 0))) (sAsg (tName 9) (eCall l_ratio_2 [eCall l_great_6 [eBin oIx (eVar 0) (eVar 8)]])) (sPass)) (sDrop (eM1 "list" mApp (eVar 6) (eVar 9))))))) (sDrop (eM1 "list" mApp (eVar 4) (eVar 6)))))) (sRet (eVar 4)))
def l_table : Fn := mkFn 4 10 l_table.b
def l_unit.b : St := sSeq (sAsg (tName 1) (eLst [])) (sSeq (sFor (iRange1 (eVar 0)) (tName 2) (sSeq (sAsg (tName 3) (eBin oMul (eLst [eTup [eC (.int 0), eC (.int 1)]]) (eVar 0))) (sSeq (sAsg (tSub (eVar 3) (eVar 2)) (eTup [eC (.int 1), eC (.int 1)])) (sDrop (eM1 "list" mApp (eVar 1) (eVar 3)))))) (sRet (eVar 1)))
def l_unit : Fn := mkFn 1 4 l_unit.b
def l_asked_4.b : St := sSeq (sAsg (tName 2) (eLc (iList (eVar 0)) (tName 3) [3] (eC (.bl true)) (eUn uList (eVar 3)))) (sSeq (sAsg (tName 4) (eLst [])) (sSeq (sFor (iRange1 (eVar 1)) (tName 5) (sDrop (eM1 "list" mApp (eVar 4) (eLc (iList (eVar 2)) (tName 3) [3] (eC (.bl true)) (eBin oIx (eVar 3) (eVar 5)))))) (sSeq (sAsg (tName 6) (eCall p_turned [eVar 0, eVar 1])) (sSeq (sIf (eOr (eNot (eCall l_is_table [eVar 6, eVar 4])) (eNot (eCall l_is_table [eCall p_turned [eVar 6, eUn uLen (eVar 0)], eVar 2]))) (sRet (eC (.bl false))) (sPass)) (sSeq (sFor (iList (eVar 6)) (tName 3) (sDrop (eM1 "list" mApp (eVar 3) (eTup [eC (.int 7), eC (.int 1)])))) (sSeq (sDrop (eM1 "list" mApp (eVar 6) (eLst []))) (sRet (eAnd (eBin cEq (eVar 0) (eVar 2)) (eCall l_is_table [eCall p_turned [eVar 0, eVar 1], eVar 4])))))))))
def l_asked_4 : Fn := mkFn 2 7 l_asked_4.b
def law_k14.b : St := sSeq (sAsg (tName 1) (eCall l_great_6 [eCall l_cell_at [eVar 0, eC (.int 0)]])) (sSeq (sAsg (tName 2) (eC (.int 0))) (sSeq (sWhile (eOr (eBin cEq (eVar 2) (eC (.int 0))) (eBin cLt (eVar 2) (eUn uLen (eVar 0)))) (sSeq (sAsg (tName 3) (eBin oMod (eVar 1) (eC (.int 8)))) (sSeq (sAsg (tName 4) (eBin oMod (eBin oDiv (eVar 1) (eC (.int 8))) (eC (.int 7)))) (sSeq (sIf (eAnd (eBin cGt (eVar 4) (eC (.int 0))) (eNot (eCall l_asked_4 [eCall l_table [eVar 0, eVar 2, eVar 3, eVar 4], eVar 4]))) (sRet (eC (.bl false))) (sPass)) (sSeq (sAsg (tName 2) (eBin oAdd (eVar 2) (eBin oMax (eC (.int 1)) (eBin oMul (eVar 3) (eVar 4))))) (sAsg (tName 1) (eBin oAdd (eBin oDiv (eVar 1) (eC (.int 13))) (eC (.int 5))))))))) (sSeq (sAsg (tName 3) (eBin oMod (eVar 1) (eC (.int 9)))) (sSeq (sAsg (tName 5) (eCall p_unit [eVar 3])) (sSeq (sIf (eOr (eNot (eCall l_is_table [eVar 5, eCall l_unit [eVar 3]])) (eNot (eCall l_is_table [eCall p_unit [eC (.int 0)], eLst []]))) (sRet (eC (.bl false))) (sPass)) (sSeq (sFor (iList (eVar 5)) (tName 6) (sDrop (eM0 "list" mClr (eVar 6)))) (sRet (eAnd (eCall l_is_table [eCall p_unit [eVar 3], eCall l_unit [eVar 3]]) (eCall l_is_table [eCall p_turned [eLst [], eC (.int 3)], eLst [eLst [], eLst [], eLst []]])))))))))
def law_k14 : Fn := mkFn 1 7 law_k14.b
end Z
end
section
set_option autoImplicit false
/-! this text's defs: printed by gen.py -/
namespace Lk14
open Mn Z
abbrev f_turned : Fn := p_turned
abbrev f_unit : Fn := p_unit
abbrev f__law_cell_at : Fn := l_cell_at
abbrev f__law_whole : Fn := l_whole
abbrev f__law_great : Fn := l_great_6
abbrev f__law_shared : Fn := l_shared
abbrev f__law_made : Fn := l_made
abbrev f__law_ratio : Fn := l_ratio_2
abbrev f__law_is_row : Fn := l_is_row
abbrev f__law_is_table : Fn := l_is_table
abbrev f__law_table : Fn := l_table
abbrev f__law_unit : Fn := l_unit
abbrev f__law_asked : Fn := l_asked_4
abbrev f_law : Fn := law_k14
end Lk14
end
section
set_option Elab.async false
set_option autoImplicit false
set_option linter.all false
set_option maxRecDepth 100000
set_option maxHeartbeats 4000000
namespace Lk14
open PySem PySem.Spec PyProof.Rows L2 MnS
open Mn (Val Fn)
open Z
def top (i : Nat) : Stmt := PySem.Challenge.pw_nearplane_k14_tables_turned.main.body.getD i (.Pass ⟨0, 0, 0, 0⟩)
abbrev st_turned : Stmt := top 3
theorem sc_turned : FnScope ["table", "wide", "row", "k"] ["table", "wide"] (defScope st_turned) := ⟨rfl, rfl, rfl, by decide +kernel, rfl, by decide +kernel, by decide +kernel⟩
def dd_turned : He.DefD := ⟨("turned", none), "turned", "turned", defArgs st_turned, defBody st_turned, defScope st_turned, [], []⟩
abbrev st_unit : Stmt := top 4
theorem sc_unit : FnScope ["many", "found", "k", "row"] ["many"] (defScope st_unit) := ⟨rfl, rfl, rfl, by decide +kernel, rfl, by decide +kernel, by decide +kernel⟩
def dd_unit : He.DefD := ⟨("unit", none), "unit", "unit", defArgs st_unit, defBody st_unit, defScope st_unit, [], []⟩
abbrev st__law_cell_at : Stmt := top 6
theorem sc__law_cell_at : FnScope ["_law_script", "_law_k"] ["_law_script", "_law_k"] (defScope st__law_cell_at) := ⟨rfl, rfl, rfl, by decide +kernel, rfl, by decide +kernel, by decide +kernel⟩
def dd__law_cell_at : He.DefD := ⟨("_law_cell_at", none), "_law_cell_at", "_law_cell_at", defArgs st__law_cell_at, defBody st__law_cell_at, defScope st__law_cell_at, [], []⟩
abbrev st__law_whole : Stmt := top 7
theorem sc__law_whole : FnScope ["_law_thing"] ["_law_thing"] (defScope st__law_whole) := ⟨rfl, rfl, rfl, by decide +kernel, rfl, by decide +kernel, by decide +kernel⟩
def dd__law_whole : He.DefD := ⟨("_law_whole", none), "_law_whole", "_law_whole", defArgs st__law_whole, defBody st__law_whole, defScope st__law_whole, [], []⟩
abbrev st__law_great : Stmt := top 8
theorem sc__law_great : FnScope ["_law_cell"] ["_law_cell"] (defScope st__law_great) := ⟨rfl, rfl, rfl, by decide +kernel, rfl, by decide +kernel, by decide +kernel⟩
def dd__law_great : He.DefD := ⟨("_law_great", none), "_law_great", "_law_great", defArgs st__law_great, defBody st__law_great, defScope st__law_great, [], []⟩
abbrev st__law_shared : Stmt := top 9
theorem sc__law_shared : FnScope ["_law_one", "_law_other"] ["_law_one", "_law_other"] (defScope st__law_shared) := ⟨rfl, rfl, rfl, by decide +kernel, rfl, by decide +kernel, by decide +kernel⟩
def dd__law_shared : He.DefD := ⟨("_law_shared", none), "_law_shared", "_law_shared", defArgs st__law_shared, defBody st__law_shared, defScope st__law_shared, [], []⟩
abbrev st__law_made : Stmt := top 10
theorem sc__law_made : FnScope ["_law_top", "_law_bottom", "_law_by"] ["_law_top", "_law_bottom"] (defScope st__law_made) := ⟨rfl, rfl, rfl, by decide +kernel, rfl, by decide +kernel, by decide +kernel⟩
def dd__law_made : He.DefD := ⟨("_law_made", none), "_law_made", "_law_made", defArgs st__law_made, defBody st__law_made, defScope st__law_made, [], []⟩
abbrev st__law_ratio : Stmt := top 11
theorem sc__law_ratio : FnScope ["_law_number", "_law_way"] ["_law_number"] (defScope st__law_ratio) := ⟨rfl, rfl, rfl, by decide +kernel, rfl, by decide +kernel, by decide +kernel⟩
def dd__law_ratio : He.DefD := ⟨("_law_ratio", none), "_law_ratio", "_law_ratio", defArgs st__law_ratio, defBody st__law_ratio, defScope st__law_ratio, [], []⟩
abbrev st__law_is_row : Stmt := top 12
theorem sc__law_is_row : FnScope ["_law_found", "_law_due", "_law_k", "_law_one"] ["_law_found", "_law_due"] (defScope st__law_is_row) := ⟨rfl, rfl, rfl, by decide +kernel, rfl, by decide +kernel, by decide +kernel⟩
def dd__law_is_row : He.DefD := ⟨("_law_is_row", none), "_law_is_row", "_law_is_row", defArgs st__law_is_row, defBody st__law_is_row, defScope st__law_is_row, [], []⟩
abbrev st__law_is_table : Stmt := top 13
theorem sc__law_is_table : FnScope ["_law_found", "_law_due", "_law_k"] ["_law_found", "_law_due"] (defScope st__law_is_table) := ⟨rfl, rfl, rfl, by decide +kernel, rfl, by decide +kernel, by decide +kernel⟩
def dd__law_is_table : He.DefD := ⟨("_law_is_table", none), "_law_is_table", "_law_is_table", defArgs st__law_is_table, defBody st__law_is_table, defScope st__law_is_table, [], []⟩
abbrev st__law_table : Stmt := top 14
theorem sc__law_table : FnScope ["_law_script", "_law_start", "_law_many", "_law_wide", "_law_table_here", "_law_i", "_law_row", "_law_j", "_law_at", "_law_one"] ["_law_script", "_law_start", "_law_many", "_law_wide"] (defScope st__law_table) := ⟨rfl, rfl, rfl, by decide +kernel, rfl, by decide +kernel, by decide +kernel⟩
def dd__law_table : He.DefD := ⟨("_law_table", none), "_law_table", "_law_table", defArgs st__law_table, defBody st__law_table, defScope st__law_table, [], []⟩
abbrev st__law_unit : Stmt := top 15
theorem sc__law_unit : FnScope ["_law_many", "_law_table_here", "_law_i", "_law_row"] ["_law_many"] (defScope st__law_unit) := ⟨rfl, rfl, rfl, by decide +kernel, rfl, by decide +kernel, by decide +kernel⟩
def dd__law_unit : He.DefD := ⟨("_law_unit", none), "_law_unit", "_law_unit", defArgs st__law_unit, defBody st__law_unit, defScope st__law_unit, [], []⟩
abbrev st__law_asked : Stmt := top 16
theorem sc__law_asked : FnScope ["_law_table_here", "_law_wide", "_law_held", "_law_row", "_law_due", "_law_j", "_law_found"] ["_law_table_here", "_law_wide"] (defScope st__law_asked) := ⟨rfl, rfl, rfl, by decide +kernel, rfl, by decide +kernel, by decide +kernel⟩
def dd__law_asked : He.DefD := ⟨("_law_asked", none), "_law_asked", "_law_asked", defArgs st__law_asked, defBody st__law_asked, defScope st__law_asked, [], []⟩
abbrev st_law : Stmt := top 17
theorem sc_law : FnScope ["_law_script", "_law_number", "_law_start", "_law_many", "_law_wide", "_law_found", "_law_row"] ["_law_script"] (defScope st_law) := ⟨rfl, rfl, rfl, by decide +kernel, rfl, by decide +kernel, by decide +kernel⟩
def dd_law : He.DefD := ⟨("law", none), "law", "law", defArgs st_law, defBody st_law, defScope st_law, [], []⟩
def fn : List He.DefD := [dd_turned, dd_unit, dd__law_cell_at, dd__law_whole, dd__law_great, dd__law_shared, dd__law_made, dd__law_ratio, dd__law_is_row, dd__law_is_table, dd__law_table, dd__law_unit, dd__law_asked, dd_law]
def blt : List Str := ["abs", "all", "bool", "int", "isinstance", "len", "list", "max", "range", "tuple"]
def fa : List He.Fa := [.glo "turned", .glo "unit", .glo "_law_cell_at", .glo "_law_whole", .glo "_law_great", .glo "_law_shared", .glo "_law_made", .glo "_law_ratio", .glo "_law_is_row", .glo "_law_is_table", .glo "_law_table", .glo "_law_unit", .glo "_law_asked", .glo "law", .free "abs", .free "all", .free "bool", .free "int", .free "isinstance", .free "len", .free "list", .free "max", .free "range", .free "tuple"]
def xs : List String := []
def cs : List (Str × Val) := [("NOUGHT", c_NOUGHT), ("ONE", c_ONE)]
abbrev R : PySem.W.OpenRow := PySem.W.OpenLaw.row PySem.Challenge.rw_nearplane_k14_tables_turned
abbrev hk : PySem.W.Hook := hookN 4 fa fn xs cs
def ob (s : PySem.W.SharedT) : AlN := obsNG 4 fa fn xs cs (HandSHeadRun.getT s)
theorem ob_eq (s : PySem.W.SharedT) : ob s = hk.obs s.abs := obsNG_eq (HandSHeadRun.getT_eq s)
def loose : List Str := (["NOUGHT", "ONE", "turned", "unit", "_law_cell_at", "_law_whole", "_law_great", "_law_shared", "_law_made", "_law_ratio", "_law_is_row", "_law_is_table", "_law_table", "_law_unit", "_law_asked"] : List Str)
theorem run (w : World) : HandSHeadRun.RunEq R (PySem.W.view R.prog [17]) hk ob 20000 loose w := by
  intro os
  kernel_rfl
section
variable {P : Program} {w : World} {K : PySem.W.Frag} {mg : Str → Option Value} {h : Heap}
theorem blt_ok : ∀ x ∈ blt, He.Fa.free x ∈ fa := by
  intro x hx
  unfold blt at hx
  unfold fa
  simp only [List.mem_cons, List.not_mem_nil, or_false] at hx
  rcases hx with rfl | rfl | rfl | rfl | rfl | rfl | rfl | rfl | rfl | rfl <;> simp
def md_turned : Md := ⟨[], [], cs, blt, xs⟩
theorem den_turned : denSs (dcOf md_turned ["table", "wide", "row", "k"] (defScope st_turned)) 100 (defBody st_turned) = some p_turned.b := by
  kernel_rfl
def md_unit : Md := ⟨("turned", (f_turned, 2)) :: md_turned.fn, [], cs, blt, xs⟩
theorem den_unit : denSs (dcOf md_unit ["many", "found", "k", "row"] (defScope st_unit)) 100 (defBody st_unit) = some p_unit.b := by
  kernel_rfl
def md__law_cell_at : Md := ⟨("unit", (f_unit, 1)) :: md_unit.fn, [], cs, blt, xs⟩
theorem den__law_cell_at : denSs (dcOf md__law_cell_at ["_law_script", "_law_k"] (defScope st__law_cell_at)) 100 (defBody st__law_cell_at) = some l_cell_at.b := by
  kernel_rfl
def md__law_whole : Md := ⟨("_law_cell_at", (f__law_cell_at, 2)) :: md__law_cell_at.fn, [], cs, blt, xs⟩
theorem den__law_whole : denSs (dcOf md__law_whole ["_law_thing"] (defScope st__law_whole)) 100 (defBody st__law_whole) = some l_whole.b := by
  kernel_rfl
def md__law_great : Md := ⟨("_law_whole", (f__law_whole, 1)) :: md__law_whole.fn, [], cs, blt, xs⟩
theorem den__law_great : denSs (dcOf md__law_great ["_law_cell"] (defScope st__law_great)) 100 (defBody st__law_great) = some l_great_6.b := by
  kernel_rfl
def md__law_shared : Md := ⟨("_law_great", (f__law_great, 1)) :: md__law_great.fn, [], cs, blt, xs⟩
theorem den__law_shared : denSs (dcOf md__law_shared ["_law_one", "_law_other"] (defScope st__law_shared)) 100 (defBody st__law_shared) = some l_shared.b := by
  kernel_rfl
def md__law_made : Md := ⟨("_law_shared", (f__law_shared, 2)) :: md__law_shared.fn, [], cs, blt, xs⟩
theorem den__law_made : denSs (dcOf md__law_made ["_law_top", "_law_bottom", "_law_by"] (defScope st__law_made)) 100 (defBody st__law_made) = some l_made.b := by
  kernel_rfl
def md__law_ratio : Md := ⟨("_law_made", (f__law_made, 2)) :: md__law_made.fn, [], cs, blt, xs⟩
theorem den__law_ratio : denSs (dcOf md__law_ratio ["_law_number", "_law_way"] (defScope st__law_ratio)) 100 (defBody st__law_ratio) = some l_ratio_2.b := by
  kernel_rfl
def md__law_is_row : Md := ⟨("_law_ratio", (f__law_ratio, 1)) :: md__law_ratio.fn, [], cs, blt, xs⟩
theorem den__law_is_row : denSs (dcOf md__law_is_row ["_law_found", "_law_due", "_law_k", "_law_one"] (defScope st__law_is_row)) 100 (defBody st__law_is_row) = some l_is_row.b := by
  kernel_rfl
def md__law_is_table : Md := ⟨("_law_is_row", (f__law_is_row, 2)) :: md__law_is_row.fn, [], cs, blt, xs⟩
theorem den__law_is_table : denSs (dcOf md__law_is_table ["_law_found", "_law_due", "_law_k"] (defScope st__law_is_table)) 100 (defBody st__law_is_table) = some l_is_table.b := by
  kernel_rfl
def md__law_table : Md := ⟨("_law_is_table", (f__law_is_table, 2)) :: md__law_is_table.fn, [], cs, blt, xs⟩
theorem den__law_table : denSs (dcOf md__law_table ["_law_script", "_law_start", "_law_many", "_law_wide", "_law_table_here", "_law_i", "_law_row", "_law_j", "_law_at", "_law_one"] (defScope st__law_table)) 100 (defBody st__law_table) = some l_table.b := by
  kernel_rfl
def md__law_unit : Md := ⟨("_law_table", (f__law_table, 4)) :: md__law_table.fn, [], cs, blt, xs⟩
theorem den__law_unit : denSs (dcOf md__law_unit ["_law_many", "_law_table_here", "_law_i", "_law_row"] (defScope st__law_unit)) 100 (defBody st__law_unit) = some l_unit.b := by
  kernel_rfl
def md__law_asked : Md := ⟨("_law_unit", (f__law_unit, 1)) :: md__law_unit.fn, [], cs, blt, xs⟩
theorem den__law_asked : denSs (dcOf md__law_asked ["_law_table_here", "_law_wide", "_law_held", "_law_row", "_law_due", "_law_j", "_law_found"] (defScope st__law_asked)) 100 (defBody st__law_asked) = some l_asked_4.b := by
  kernel_rfl
def md_law : Md := ⟨("_law_asked", (f__law_asked, 2)) :: md__law_asked.fn, [], cs, blt, xs⟩
theorem den_law : denSs (dcOf md_law ["_law_script", "_law_number", "_law_start", "_law_many", "_law_wide", "_law_found", "_law_row"] (defScope st_law)) 100 (defBody st_law) = some law_k14.b := by
  kernel_rfl
theorem facts {f : Addr} (X : K.In h) (G : h.Ns mainGlobals mg) (hfa : mg ("law" : Str) = some (.ref f)) (c : SaysN fa fn xs cs K) :
    ∃ fd : FuncData, (∀ (s : Shared) (v : Value), BindsTo s fd ⟨[v], []⟩ [("_law_script", v)]) ∧ ∀ base : Heap, K.In base → base.Ns mainGlobals mg → FnOk P w K mg base (L2.CX P w) 14 f fd ["_law_script"] (spF ⟨K, caOf K, xs⟩ 1 f_law) := by
  obtain ⟨fd0, F0⟩ := c.d.def_ 0 (d := dd_turned) rfl
  have g0 := He.glo_ok X G (c.d.fact 0 (f := .glo "turned") rfl)
  have n0 : Binds K fd0 ["table", "wide"] [] := FunD.bindsN F0 fun _ _ _ _ _ _ us hl => match us, hl with | [_, _], _ => rfl
  obtain ⟨fd1, F1⟩ := c.d.def_ 1 (d := dd_unit) rfl
  have g1 := He.glo_ok X G (c.d.fact 1 (f := .glo "unit") rfl)
  have n1 : Binds K fd1 ["many"] [] := FunD.bindsN F1 fun _ _ _ _ _ _ us hl => match us, hl with | [_], _ => rfl
  obtain ⟨fd2, F2⟩ := c.d.def_ 2 (d := dd__law_cell_at) rfl
  have g2 := He.glo_ok X G (c.d.fact 2 (f := .glo "_law_cell_at") rfl)
  have n2 : Binds K fd2 ["_law_script", "_law_k"] [] := FunD.bindsN F2 fun _ _ _ _ _ _ us hl => match us, hl with | [_, _], _ => rfl
  obtain ⟨fd3, F3⟩ := c.d.def_ 3 (d := dd__law_whole) rfl
  have g3 := He.glo_ok X G (c.d.fact 3 (f := .glo "_law_whole") rfl)
  have n3 : Binds K fd3 ["_law_thing"] [] := FunD.bindsN F3 fun _ _ _ _ _ _ us hl => match us, hl with | [_], _ => rfl
  obtain ⟨fd4, F4⟩ := c.d.def_ 4 (d := dd__law_great) rfl
  have g4 := He.glo_ok X G (c.d.fact 4 (f := .glo "_law_great") rfl)
  have n4 : Binds K fd4 ["_law_cell"] [] := FunD.bindsN F4 fun _ _ _ _ _ _ us hl => match us, hl with | [_], _ => rfl
  obtain ⟨fd5, F5⟩ := c.d.def_ 5 (d := dd__law_shared) rfl
  have g5 := He.glo_ok X G (c.d.fact 5 (f := .glo "_law_shared") rfl)
  have n5 : Binds K fd5 ["_law_one", "_law_other"] [] := FunD.bindsN F5 fun _ _ _ _ _ _ us hl => match us, hl with | [_, _], _ => rfl
  obtain ⟨fd6, F6⟩ := c.d.def_ 6 (d := dd__law_made) rfl
  have g6 := He.glo_ok X G (c.d.fact 6 (f := .glo "_law_made") rfl)
  have n6 : Binds K fd6 ["_law_top", "_law_bottom"] [] := FunD.bindsN F6 fun _ _ _ _ _ _ us hl => match us, hl with | [_, _], _ => rfl
  obtain ⟨fd7, F7⟩ := c.d.def_ 7 (d := dd__law_ratio) rfl
  have g7 := He.glo_ok X G (c.d.fact 7 (f := .glo "_law_ratio") rfl)
  have n7 : Binds K fd7 ["_law_number"] [] := FunD.bindsN F7 fun _ _ _ _ _ _ us hl => match us, hl with | [_], _ => rfl
  obtain ⟨fd8, F8⟩ := c.d.def_ 8 (d := dd__law_is_row) rfl
  have g8 := He.glo_ok X G (c.d.fact 8 (f := .glo "_law_is_row") rfl)
  have n8 : Binds K fd8 ["_law_found", "_law_due"] [] := FunD.bindsN F8 fun _ _ _ _ _ _ us hl => match us, hl with | [_, _], _ => rfl
  obtain ⟨fd9, F9⟩ := c.d.def_ 9 (d := dd__law_is_table) rfl
  have g9 := He.glo_ok X G (c.d.fact 9 (f := .glo "_law_is_table") rfl)
  have n9 : Binds K fd9 ["_law_found", "_law_due"] [] := FunD.bindsN F9 fun _ _ _ _ _ _ us hl => match us, hl with | [_, _], _ => rfl
  obtain ⟨fd10, F10⟩ := c.d.def_ 10 (d := dd__law_table) rfl
  have g10 := He.glo_ok X G (c.d.fact 10 (f := .glo "_law_table") rfl)
  have n10 : Binds K fd10 ["_law_script", "_law_start", "_law_many", "_law_wide"] [] := FunD.bindsN F10 fun _ _ _ _ _ _ us hl => match us, hl with | [_, _, _, _], _ => rfl
  obtain ⟨fd11, F11⟩ := c.d.def_ 11 (d := dd__law_unit) rfl
  have g11 := He.glo_ok X G (c.d.fact 11 (f := .glo "_law_unit") rfl)
  have n11 : Binds K fd11 ["_law_many"] [] := FunD.bindsN F11 fun _ _ _ _ _ _ us hl => match us, hl with | [_], _ => rfl
  obtain ⟨fd12, F12⟩ := c.d.def_ 12 (d := dd__law_asked) rfl
  have g12 := He.glo_ok X G (c.d.fact 12 (f := .glo "_law_asked") rfl)
  have n12 : Binds K fd12 ["_law_table_here", "_law_wide"] [] := FunD.bindsN F12 fun _ _ _ _ _ _ us hl => match us, hl with | [_, _], _ => rfl
  obtain ⟨fd13, F13⟩ := c.d.def_ 13 (d := dd_law) rfl
  have e := hfa.symm.trans (He.glo_ok X G (c.d.fact 13 (f := .glo "law") rfl))
  cases e
  have b := FunD.bindsA (ps := ["_law_script"]) F13 fun _ _ _ _ _ _ us hl => match us, hl with | [_], _ => rfl
  refine ⟨fd13, fun s v => b s [v] rfl, fun base _ _ => ?_⟩
  have M0 : Mok P w K mg base ⟨K, caOf K, xs⟩ md_turned 0 := c.mok X G blt_ok
  have M1 : Mok P w K mg base ⟨K, caOf K, xs⟩ md_unit 1 := M0.add F0 sc_turned den_turned g0 n0 (by decide +kernel)
  have M2 : Mok P w K mg base ⟨K, caOf K, xs⟩ md__law_cell_at 2 := M1.add F1 sc_unit den_unit g1 n1 (by decide +kernel)
  have M3 : Mok P w K mg base ⟨K, caOf K, xs⟩ md__law_whole 3 := M2.add F2 sc__law_cell_at den__law_cell_at g2 n2 (by decide +kernel)
  have M4 : Mok P w K mg base ⟨K, caOf K, xs⟩ md__law_great 4 := M3.add F3 sc__law_whole den__law_whole g3 n3 (by decide +kernel)
  have M5 : Mok P w K mg base ⟨K, caOf K, xs⟩ md__law_shared 5 := M4.add F4 sc__law_great den__law_great g4 n4 (by decide +kernel)
  have M6 : Mok P w K mg base ⟨K, caOf K, xs⟩ md__law_made 6 := M5.add F5 sc__law_shared den__law_shared g5 n5 (by decide +kernel)
  have M7 : Mok P w K mg base ⟨K, caOf K, xs⟩ md__law_ratio 7 := M6.add F6 sc__law_made den__law_made g6 n6 (by decide +kernel)
  have M8 : Mok P w K mg base ⟨K, caOf K, xs⟩ md__law_is_row 8 := M7.add F7 sc__law_ratio den__law_ratio g7 n7 (by decide +kernel)
  have M9 : Mok P w K mg base ⟨K, caOf K, xs⟩ md__law_is_table 9 := M8.add F8 sc__law_is_row den__law_is_row g8 n8 (by decide +kernel)
  have M10 : Mok P w K mg base ⟨K, caOf K, xs⟩ md__law_table 10 := M9.add F9 sc__law_is_table den__law_is_table g9 n9 (by decide +kernel)
  have M11 : Mok P w K mg base ⟨K, caOf K, xs⟩ md__law_unit 11 := M10.add F10 sc__law_table den__law_table g10 n10 (by decide +kernel)
  have M12 : Mok P w K mg base ⟨K, caOf K, xs⟩ md__law_asked 12 := M11.add F11 sc__law_unit den__law_unit g11 n11 (by decide +kernel)
  have M13 : Mok P w K mg base ⟨K, caOf K, xs⟩ md_law 13 := M12.add F12 sc__law_asked den__law_asked g12 n12 (by decide +kernel)
  exact M13.fnOk F13 sc_law den_law
end
end Lk14
end
section
set_option Elab.async false
set_option autoImplicit false
/-! Running the small language by rewriting: each form waits for its part's outcome, nothing behind it is touched before. -/
namespace Mn

section
variable (ρ : Env) (M : Store) (a b c : E) (f g : Op) (x y v w : Val) (es : List E) (k : String)
def kBin2 (f : Op) (x : Val) : R Val → R Val
  | .ok y M => R.of (f x y M)
  | .exc c M => .exc c M
  | .bad => .bad
def kBin1 (f : Op) (b : E) (ρ : Env) : R Val → R Val
  | .ok x M => kBin2 f x (b ρ M)
  | .exc c M => .exc c M
  | .bad => .bad
theorem eBin_k : eBin f a b ρ M = kBin1 f b ρ (a ρ M) := by
  unfold eBin
  cases a ρ M with
  | ok x M1 =>
    show (b ρ M1).bind _ = kBin2 f x (b ρ M1)
    cases b ρ M1 <;> rfl
  | _ => rfl
theorem kBin1_ok : kBin1 f b ρ (.ok x M) = kBin2 f x (b ρ M) := id rfl
theorem kBin2_ok : kBin2 f x (.ok y M) = R.of (f x y M) := id rfl
def kUn (f : U) : R Val → R Val
  | .ok x M => R.of (f x M)
  | .exc c M => .exc c M
  | .bad => .bad
theorem eUn_k (f : U) : eUn f a ρ M = kUn f (a ρ M) := by
  unfold eUn
  cases a ρ M <;> rfl
theorem kUn_ok (f : U) : kUn f (.ok x M) = R.of (f x M) := id rfl
theorem of_some : R.of (some (v, M)) = .ok v M := id rfl
theorem eC_k : eC v ρ M = .ok v M := id rfl
theorem eVar_k {i : Nat} : eVar i ρ M = match ρ[i]? with
  | some (some v) => .ok v M
  | _ => .bad := rfl
def kL2 (v : Val) : R (List Val) → R (List Val)
  | .ok vs M => .ok (v :: vs) M
  | .exc c M => .exc c M
  | .bad => .bad
def kL1 (es : List E) (ρ : Env) : R Val → R (List Val)
  | .ok v M => kL2 v (evL es ρ M)
  | .exc c M => .exc c M
  | .bad => .bad
theorem evL_nil : evL [] ρ M = .ok [] M := id rfl
theorem evL_k : evL (a :: es) ρ M = kL1 es ρ (a ρ M) := by
  show (a ρ M).bind _ = _
  cases a ρ M with
  | ok x M1 =>
    show (evL es ρ M1).bind _ = kL2 x (evL es ρ M1)
    cases evL es ρ M1 <;> rfl
  | _ => rfl
theorem kL1_ok : kL1 es ρ (.ok v M) = kL2 v (evL es ρ M) := id rfl
theorem kL2_ok (vs : List Val) : kL2 v (.ok vs M) = .ok (v :: vs) M := id rfl
def kAnd (b : E) (ρ : Env) : R Val → R Val
  | .ok (.bl true) M => b ρ M
  | .ok (.bl false) M => .ok (.bl false) M
  | .ok _ _ => .bad
  | .exc c M => .exc c M
  | .bad => .bad
theorem eAnd_k : eAnd a b ρ M = kAnd b ρ (a ρ M) := by
  unfold eAnd
  cases a ρ M with
  | ok x M1 =>
    cases x with
    | bl q => cases q <;> rfl
    | _ => rfl
  | _ => rfl
theorem kAnd_t : kAnd b ρ (.ok (.bl true) M) = b ρ M := id rfl
theorem kAnd_f : kAnd b ρ (.ok (.bl false) M) = .ok (.bl false) M := id rfl
def kOr (b : E) (ρ : Env) : R Val → R Val
  | .ok (.bl true) M => .ok (.bl true) M
  | .ok (.bl false) M => b ρ M
  | .ok _ _ => .bad
  | .exc c M => .exc c M
  | .bad => .bad
theorem eOr_k : eOr a b ρ M = kOr b ρ (a ρ M) := by
  unfold eOr
  cases a ρ M with
  | ok x M1 =>
    cases x with
    | bl q => cases q <;> rfl
    | _ => rfl
  | _ => rfl
theorem kOr_t : kOr b ρ (.ok (.bl true) M) = .ok (.bl true) M := id rfl
theorem kOr_f : kOr b ρ (.ok (.bl false) M) = b ρ M := id rfl
def kNot : R Val → R Val
  | .ok (.bl q) M => .ok (.bl (!q)) M
  | .ok _ _ => .bad
  | .exc c M => .exc c M
  | .bad => .bad
theorem eNot_k : eNot a ρ M = kNot (a ρ M) := by
  unfold eNot
  cases a ρ M with
  | ok x M1 => cases x <;> rfl
  | _ => rfl
theorem kNot_ok (q : Bool) : kNot (.ok (.bl q) M) = .ok (.bl (!q)) M := id rfl
def kCh3 (g : Op) (y : Val) : R Val → R Val
  | .ok z M => R.of (g y z M)
  | .exc c M => .exc c M
  | .bad => .bad
def kCh2 (g : Op) (c : E) (y : Val) (ρ : Env) : R Val → R Val
  | .ok (.bl true) M => kCh3 g y (c ρ M)
  | .ok (.bl false) M => .ok (.bl false) M
  | .ok _ _ => .bad
  | .exc c M => .exc c M
  | .bad => .bad
def kCh1 (f g : Op) (x : Val) (c : E) (ρ : Env) : R Val → R Val
  | .ok y M => kCh2 g c y ρ (R.of (f x y M))
  | .exc c M => .exc c M
  | .bad => .bad
def kCh0 (f g : Op) (b c : E) (ρ : Env) : R Val → R Val
  | .ok x M => kCh1 f g x c ρ (b ρ M)
  | .exc c M => .exc c M
  | .bad => .bad
theorem eChain_k : eChain f g a b c ρ M = kCh0 f g b c ρ (a ρ M) := by
  unfold eChain
  cases a ρ M with
  | ok x M1 =>
    show (b ρ M1).bind _ = kCh1 f g x c ρ (b ρ M1)
    cases b ρ M1 with
    | ok y M2 =>
      show (R.of (f x y M2)).bind _ = kCh2 g c y ρ (R.of (f x y M2))
      cases R.of (f x y M2) with
      | ok r M3 =>
        cases r with
        | bl q =>
          cases q with
          | true =>
            show (c ρ M3).bind _ = kCh3 g y (c ρ M3)
            cases c ρ M3 <;> rfl
          | false => rfl
        | _ => rfl
      | _ => rfl
    | _ => rfl
  | _ => rfl
theorem kCh0_ok : kCh0 f g b c ρ (.ok x M) = kCh1 f g x c ρ (b ρ M) := id rfl
theorem kCh1_ok : kCh1 f g x c ρ (.ok y M) = kCh2 g c y ρ (R.of (f x y M)) := id rfl
theorem kCh2_t : kCh2 g c y ρ (.ok (.bl true) M) = kCh3 g y (c ρ M) := id rfl
theorem kCh2_f : kCh2 g c y ρ (.ok (.bl false) M) = .ok (.bl false) M := id rfl
theorem kCh3_ok : kCh3 g y (.ok x M) = R.of (g y x M) := id rfl
def kTup : R (List Val) → R Val
  | .ok vs M => if vs.length ≤ szLine then .ok (.tup vs) M else .bad
  | .exc c M => .exc c M
  | .bad => .bad
theorem eTup_k : eTup es ρ M = kTup (evL es ρ M) := by
  unfold eTup
  cases evL es ρ M <;> rfl
theorem kTup_ok {vs : List Val} (h : vs.length ≤ szLine) : kTup (.ok vs M) = .ok (.tup vs) M := if_pos h
theorem kTup_2 : kTup (.ok [x, y] M) = .ok (.tup [x, y]) M := id rfl
theorem kTup_3 : kTup (.ok [x, y, v] M) = .ok (.tup [x, y, v]) M := id rfl
theorem kTup_1 : kTup (.ok [x] M) = .ok (.tup [x]) M := id rfl
theorem kTup_4 : kTup (.ok [x, y, v, w] M) = .ok (.tup [x, y, v, w]) M := id rfl
def kLst : R (List Val) → R Val
  | .ok vs M => if vs.length ≤ szLine then .ok (.ref M.length) (M ++ [.lst vs]) else .bad
  | .exc c M => .exc c M
  | .bad => .bad
theorem eLst_k : eLst es ρ M = kLst (evL es ρ M) := by
  unfold eLst
  cases evL es ρ M <;> rfl
theorem kLst_ok {vs : List Val} (h : vs.length ≤ szLine) : kLst (.ok vs M) = .ok (.ref M.length) (M ++ [.lst vs]) := if_pos h
theorem kLst_0 : kLst (.ok [] M) = .ok (.ref M.length) (M ++ [.lst []]) := id rfl
theorem kLst_1 : kLst (.ok [x] M) = .ok (.ref M.length) (M ++ [.lst [x]]) := id rfl
theorem kLst_2 : kLst (.ok [x, y] M) = .ok (.ref M.length) (M ++ [.lst [x, y]]) := id rfl
theorem kLst_3 : kLst (.ok [x, y, v] M) = .ok (.ref M.length) (M ++ [.lst [x, y, v]]) := id rfl
theorem kLst_4 : kLst (.ok [x, y, v, w] M) = .ok (.ref M.length) (M ++ [.lst [x, y, v, w]]) := id rfl
theorem kLst_5 (u : Val) : kLst (.ok [x, y, v, w, u] M) = .ok (.ref M.length) (M ++ [.lst [x, y, v, w, u]]) := id rfl
theorem kLst_6 (u z : Val) : kLst (.ok [x, y, v, w, u, z] M) = .ok (.ref M.length) (M ++ [.lst [x, y, v, w, u, z]]) := id rfl
def kCall (F : Fn) : R (List Val) → R Val
  | .ok vs M => F vs M
  | .exc c M => .exc c M
  | .bad => .bad
theorem eCall_k (F : Fn) : eCall F es ρ M = kCall F (evL es ρ M) := by
  unfold eCall
  cases evL es ρ M <;> rfl
theorem kCall_ok (F : Fn) (vs : List Val) : kCall F (.ok vs M) = F vs M := id rfl
end
/-! statements -/
section
variable (ρ ρ' : Env) (M : Store) (a b c e : E) (s t : St) (x y v w : Val) (k : String)
def kSeq (t : St) : RS → RS
  | .nx ρ M => t ρ M
  | r => r
theorem sSeq_k : sSeq s t ρ M = kSeq t (s ρ M) := by
  unfold sSeq
  cases s ρ M <;> rfl
theorem kSeq_nx : kSeq t (.nx ρ M) = t ρ M := id rfl
theorem kSeq_ret : kSeq t (.ret v M) = .ret v M := id rfl
theorem kSeq_ct : kSeq t (.ct ρ M) = .ct ρ M := id rfl
theorem kSeq_bk : kSeq t (.bk ρ M) = .bk ρ M := id rfl
theorem kSeq_exc : kSeq t (.exc k ρ M) = .exc k ρ M := id rfl
theorem sPass_k : sPass ρ M = .nx ρ M := id rfl
def kTg : RS → RS
  | .nx ρ M => .nx ρ M
  | _ => .bad
theorem kTg_nx : kTg (.nx ρ M) = .nx ρ M := id rfl
def kAsg (t : Tg) (ρ : Env) : R Val → RS
  | .ok v M => kTg (t v ρ M)
  | .exc c M => .exc c ρ M
  | .bad => .bad
theorem sAsg_k (t : Tg) : sAsg t e ρ M = kAsg t ρ (e ρ M) := by
  unfold sAsg
  cases e ρ M with
  | ok v M1 =>
    show (t v ρ M1).tg = kTg (t v ρ M1)
    cases t v ρ M1 <;> rfl
  | _ => rfl
theorem kAsg_ok (t : Tg) : kAsg t ρ (.ok v M) = kTg (t v ρ M) := id rfl
theorem kAsg_exc (t : Tg) : kAsg t ρ (.exc k M) = .exc k ρ M := id rfl
theorem tName_k {i : Nat} : tName i v ρ M = .nx (ρ.set i (some v)) M := id rfl
theorem tTup_2 {s t : Tg} : tTup [s, t] (.tup [x, y]) ρ M = tAll [s, t] [x, y] ρ M := id rfl
theorem tTup_3 {s t u : Tg} : tTup [s, t, u] (.tup [x, y, v]) ρ M = tAll [s, t, u] [x, y, v] ρ M := id rfl
theorem tTup_4 {s t u r : Tg} : tTup [s, t, u, r] (.tup [x, y, v, w]) ρ M = tAll [s, t, u, r] [x, y, v, w] ρ M := id rfl
theorem tAll_nil : tAll [] [] ρ M = .nx ρ M := id rfl
theorem tAll_cons {t : Tg} {ts : List Tg} {vs : List Val} : tAll (t :: ts) (v :: vs) ρ M = kSeq (tAll ts vs) (t v ρ M) := id rfl
def kPut (ρ : Env) : Option Store → RS
  | some M => .nx ρ M
  | none => .bad
theorem kPut_some : kPut ρ (some M) = .nx ρ M := id rfl
def kSub2 (x v : Val) (ρ : Env) : R Val → RS
  | .ok y M => kPut ρ (setIt x y v M)
  | _ => .bad
def kSub1 (i : E) (v : Val) (ρ : Env) : R Val → RS
  | .ok x M => kSub2 x v ρ (i ρ M)
  | _ => .bad
theorem tSub_k {o i : E} : tSub o i v ρ M = kSub1 i v ρ (o ρ M) := by
  unfold tSub
  cases o ρ M with
  | ok x M1 =>
    simp only [kSub1]
    cases i ρ M1 with
    | ok y M2 =>
      simp only [kSub2]
      cases setIt x y v M2 <;> rfl
    | _ => rfl
  | _ => rfl
theorem kSub1_ok {i : E} : kSub1 i v ρ (.ok x M) = kSub2 x v ρ (i ρ M) := id rfl
theorem kSub2_ok : kSub2 x v ρ (.ok y M) = kPut ρ (setIt x y v M) := id rfl
theorem sCt_k : sCt ρ M = .ct ρ M := id rfl
theorem sBk_k : sBk ρ M = .bk ρ M := id rfl
def kRet (ρ : Env) : R Val → RS
  | .ok v M => .ret v M
  | .exc c M => .exc c ρ M
  | .bad => .bad
theorem sRet_k : sRet e ρ M = kRet ρ (e ρ M) := by
  unfold sRet
  cases e ρ M <;> rfl
theorem kRet_ok : kRet ρ (.ok v M) = .ret v M := id rfl
theorem kRet_exc : kRet ρ (.exc k M) = .exc k ρ M := id rfl
def kDrop (ρ : Env) : R Val → RS
  | .ok _ M => .nx ρ M
  | .exc c M => .exc c ρ M
  | .bad => .bad
theorem sDrop_k : sDrop e ρ M = kDrop ρ (e ρ M) := by
  unfold sDrop
  cases e ρ M <;> rfl
theorem kDrop_ok : kDrop ρ (.ok v M) = .nx ρ M := id rfl
theorem sRaise_k : sRaise k ρ M = .exc k ρ M := id rfl
def kIf (s t : St) (ρ : Env) : R Val → RS
  | .ok (.bl true) M => s ρ M
  | .ok (.bl false) M => t ρ M
  | .ok _ _ => .bad
  | .exc c M => .exc c ρ M
  | .bad => .bad
theorem sIf_k : sIf c s t ρ M = kIf s t ρ (c ρ M) := by
  unfold sIf
  cases c ρ M with
  | ok v M1 =>
    cases v with
    | bl q => cases q <;> rfl
    | _ => rfl
  | _ => rfl
theorem kIf_t : kIf s t ρ (.ok (.bl true) M) = s ρ M := id rfl
theorem kIf_f : kIf s t ρ (.ok (.bl false) M) = t ρ M := id rfl
def kPar (i j : Nat) (ρ : Env) : R (List Val) → RS
  | .ok [v, w] M => .nx ((ρ.set i (some v)).set j (some w)) M
  | .ok _ _ => .bad
  | .exc c M => .exc c ρ M
  | .bad => .bad
theorem sPar_k {i j : Nat} : sPar i j a b ρ M = kPar i j ρ (evL [a, b] ρ M) := by
  unfold sPar
  cases evL [a, b] ρ M with
  | ok vs M1 =>
    match vs with
    | [] => rfl
    | [_] => rfl
    | [_, _] => rfl
    | _ :: _ :: _ :: _ => rfl
  | _ => rfl
theorem kPar_ok {i j : Nat} : kPar i j ρ (.ok [v, w] M) = .nx ((ρ.set i (some v)).set j (some w)) M := id rfl
def kFor (t : Tg) (b : St) (ρ : Env) : R Itr → RS
  | .ok it M => sForN it t b it.n 0 ρ M
  | .exc c M => .exc c ρ M
  | .bad => .bad
theorem sFor_k (i : Src) (t : Tg) : sFor i t s ρ M = kFor t s ρ (i ρ M) := by
  unfold sFor
  cases i ρ M <;> rfl
theorem kFor_ok (t : Tg) (it : Itr) : kFor t s ρ (.ok it M) = sForN it t s it.n 0 ρ M := id rfl
def kFn : RS → R Val
  | .nx _ M => .ok .non M
  | .ret v M => .ok v M
  | .exc c _ M => .exc c M
  | _ => .bad
theorem mkFn_k {np nn : Nat} {vs : List Val} (h : vs.length = np) : mkFn np nn s vs M = kFn (s (vs.map some ++ List.replicate (nn - np) none) M) := by
  unfold mkFn
  rw [if_pos h]
  cases s (vs.map some ++ List.replicate (nn - np) none) M <;> rfl
theorem mkFn_0 {nn : Nat} : mkFn 0 nn s [] M = kFn (s ([] ++ List.replicate (nn - 0) none) M) := mkFn_k M s rfl
theorem mkFn_1 {nn : Nat} {x : Val} : mkFn 1 nn s [x] M = kFn (s ([some x] ++ List.replicate (nn - 1) none) M) := mkFn_k M s rfl
theorem mkFn_2 {nn : Nat} {x y : Val} : mkFn 2 nn s [x, y] M = kFn (s ([some x, some y] ++ List.replicate (nn - 2) none) M) := mkFn_k M s rfl
theorem mkFn_3 {nn : Nat} {x y z : Val} : mkFn 3 nn s [x, y, z] M = kFn (s ([some x, some y, some z] ++ List.replicate (nn - 3) none) M) := mkFn_k M s rfl
theorem mkFn_4 {nn : Nat} {x y z v : Val} : mkFn 4 nn s [x, y, z, v] M = kFn (s ([some x, some y, some z, some v] ++ List.replicate (nn - 4) none) M) := mkFn_k M s rfl
theorem mkFn_5 {nn : Nat} {x y z v w : Val} : mkFn 5 nn s [x, y, z, v, w] M = kFn (s ([some x, some y, some z, some v, some w] ++ List.replicate (nn - 5) none) M) := mkFn_k M s rfl
theorem mkFn_6 {nn : Nat} {x y z v w u : Val} : mkFn 6 nn s [x, y, z, v, w, u] M = kFn (s ([some x, some y, some z, some v, some w, some u] ++ List.replicate (nn - 6) none) M) := mkFn_k M s rfl
theorem kFn_ret : kFn (.ret v M) = .ok v M := id rfl
theorem kFn_nx : kFn (.nx ρ M) = .ok .non M := id rfl
theorem kFn_exc : kFn (.exc k ρ M) = .exc k M := id rfl
end
section
variable (ρ ρ' : Env) (M : Store) (a b c e : E) (s t : St) (x y v w : Val) (k : String)
def kTry (hs : List Hd) (els : St) : RS → RS
  | .exc c ρ' M' => handle hs c ρ' M'
  | .nx ρ' M' => els ρ' M'
  | r => r
theorem sTry_k (hs : List Hd) : sTry s hs t ρ M = kTry hs t (s ρ M) := by
  unfold sTry
  cases s ρ M <;> rfl
theorem kTry_nx (hs : List Hd) : kTry hs t (.nx ρ M) = t ρ M := id rfl
theorem kTry_ret (hs : List Hd) : kTry hs t (.ret v M) = .ret v M := id rfl
theorem kTry_exc (hs : List Hd) : kTry hs t (.exc k ρ M) = handle hs k ρ M := id rfl
theorem handle_nil : handle [] k ρ M = .exc k ρ M := id rfl
def kCl (o : Option Nat) : RS → RS
  | .nx ρ M => .nx (unO o ρ) M
  | .bk ρ M => .bk (unO o ρ) M
  | .ct ρ M => .ct (unO o ρ) M
  | .ret v M => .ret v M
  | _ => .bad
theorem handle_no {h : Hd} {hs : List Hd} (hn : h.cs.any (isX k) = false) : handle (h :: hs) k ρ M = handle hs k ρ M := by
  conv => lhs; unfold handle
  rw [if_neg (by rw [hn]; exact Bool.false_ne_true)]
theorem handle_yes {cs : List String} {o : Option Nat} {hs : List Hd} (hn : cs.any (isX k) = true) : handle (⟨false, cs, o, s⟩ :: hs) k ρ M = kCl o (s (setO o k ρ) M) := by
  unfold handle
  rw [if_pos hn]
  show ((s (setO o k ρ) M).calm).drop o = _
  cases s (setO o k ρ) M <;> rfl
theorem kCl_nx (o : Option Nat) : kCl o (.nx ρ M) = .nx (unO o ρ) M := id rfl
theorem kCl_ret (o : Option Nat) : kCl o (.ret v M) = .ret v M := id rfl
def kM0 (q : String) (f : U) : R Val → R Val
  | .ok x M => if isTy q x M = true then R.of (f x M) else .bad
  | .exc c M => .exc c M
  | .bad => .bad
theorem eM0_k (q : String) (f : U) : eM0 q f a ρ M = kM0 q f (a ρ M) := by
  unfold eM0
  cases a ρ M <;> rfl
theorem kM0_ok {q : String} {f : U} (h : isTy q x M = true) : kM0 q f (.ok x M) = R.of (f x M) := if_pos h
def kM1 (q : String) (f : Op) (b : E) (ρ : Env) : R Val → R Val
  | .ok x M => if isTy q x M = true then kBin2 f x (b ρ M) else .bad
  | .exc c M => .exc c M
  | .bad => .bad
theorem eM1_k (q : String) (f : Op) : eM1 q f a b ρ M = kM1 q f b ρ (a ρ M) := by
  unfold eM1
  cases a ρ M with
  | ok x M1 =>
    show (if isTy q x M1 = true then (b ρ M1).bind _ else .bad) = if isTy q x M1 = true then kBin2 f x (b ρ M1) else .bad
    cases b ρ M1 <;> rfl
  | _ => rfl
theorem kM1_ok {q : String} {f : Op} (h : isTy q x M = true) : kM1 q f b ρ (.ok x M) = kBin2 f x (b ρ M) := if_pos h
def kM2b (f : Tri) (x y : Val) : R Val → R Val
  | .ok z M => R.of (f x y z M)
  | .exc c M => .exc c M
  | .bad => .bad
def kM2a (f : Tri) (x : Val) (c : E) (ρ : Env) : R Val → R Val
  | .ok y M => kM2b f x y (c ρ M)
  | .exc c M => .exc c M
  | .bad => .bad
def kM2 (q : String) (f : Tri) (b c : E) (ρ : Env) : R Val → R Val
  | .ok x M => if isTy q x M = true then kM2a f x c ρ (b ρ M) else .bad
  | .exc c M => .exc c M
  | .bad => .bad
theorem eM2_k (q : String) (f : Tri) : eM2 q f a b c ρ M = kM2 q f b c ρ (a ρ M) := by
  unfold eM2
  cases a ρ M with
  | ok x M1 =>
    show (if isTy q x M1 = true then (b ρ M1).bind _ else .bad) = if isTy q x M1 = true then kM2a f x c ρ (b ρ M1) else .bad
    cases b ρ M1 with
    | ok y M2 =>
      show (if isTy q x M1 = true then (c ρ M2).bind _ else .bad) = if isTy q x M1 = true then kM2b f x y (c ρ M2) else .bad
      cases c ρ M2 <;> rfl
    | _ => rfl
  | _ => rfl
theorem kM2_ok {q : String} {f : Tri} (h : isTy q x M = true) : kM2 q f b c ρ (.ok x M) = kM2a f x c ρ (b ρ M) := if_pos h
theorem kM2a_ok (f : Tri) : kM2a f x c ρ (.ok y M) = kM2b f x y (c ρ M) := id rfl
theorem kM2b_ok (f : Tri) : kM2b f x y (.ok v M) = R.of (f x y v M) := id rfl
/-! a comprehension: its source, then its turns -/
def kLcE : R (List Val) → R Val
  | .ok ys M => .ok (.ref M.length) (M ++ [.lst ys])
  | .exc c M => .exc c M
  | .bad => .bad
def kLc (t : Tg) (vs : List Nat) (c e : E) (ρ : Env) : R Itr → R Val
  | .ok it M => if it.n ≤ szLine then kLcE (lcN it t c e (wipe ρ vs) it.n 0 [] M) else .bad
  | .exc c M => .exc c M
  | .bad => .bad
theorem eLc_k (i : Src) (t : Tg) (vs : List Nat) : eLc i t vs c e ρ M = kLc t vs c e ρ (i ρ M) := by
  unfold eLc
  cases i ρ M with
  | ok it M1 =>
    show (if it.n ≤ szLine then _ else _) = if it.n ≤ szLine then _ else _
    cases lcN it t c e (wipe ρ vs) it.n 0 [] M1 <;> rfl
  | _ => rfl
theorem kLc_ok {t : Tg} {vs : List Nat} {it : Itr} (h : it.n ≤ szLine) : kLc t vs c e ρ (.ok it M) = kLcE (lcN it t c e (wipe ρ vs) it.n 0 [] M) := if_pos h
theorem kLcE_ok (ys : List Val) : kLcE (.ok ys M) = .ok (.ref M.length) (M ++ [.lst ys]) := id rfl
/-! slices -/
def kSlC (v : Val) (l : Option Int) : R (Option Int) → R Val
  | .ok h M => R.of (cutOf v l h M)
  | .exc c M => .exc c M
  | .bad => .bad
def kSlB (v : Val) (hi : Option E) (ρ : Env) : R (Option Int) → R Val
  | .ok l M => kSlC v l (ePart hi ρ M)
  | .exc c M => .exc c M
  | .bad => .bad
def kSlA (lo hi : Option E) (ρ : Env) : R Val → R Val
  | .ok v M => kSlB v hi ρ (ePart lo ρ M)
  | .exc c M => .exc c M
  | .bad => .bad
theorem eSl_k (lo hi : Option E) : eSl a lo hi ρ M = kSlA lo hi ρ (a ρ M) := by
  unfold eSl
  cases a ρ M with
  | ok v M1 =>
    show (ePart lo ρ M1).bind _ = kSlB v hi ρ (ePart lo ρ M1)
    cases ePart lo ρ M1 with
    | ok l M2 =>
      show (ePart hi ρ M2).bind _ = kSlC v l (ePart hi ρ M2)
      cases ePart hi ρ M2 <;> rfl
    | _ => rfl
  | _ => rfl
theorem kSlA_ok (lo hi : Option E) : kSlA lo hi ρ (.ok v M) = kSlB v hi ρ (ePart lo ρ M) := id rfl
theorem kSlB_ok (hi : Option E) (l : Option Int) : kSlB v hi ρ (.ok l M) = kSlC v l (ePart hi ρ M) := id rfl
theorem kSlC_ok (l h : Option Int) : kSlC v l (.ok h M) = R.of (cutOf v l h M) := id rfl
def kPt : R Val → R (Option Int)
  | .ok (.int i) M => .ok (some i) M
  | .ok _ _ => .bad
  | .exc c M => .exc c M
  | .bad => .bad
theorem ePart_none : ePart none ρ M = .ok none M := id rfl
theorem ePart_k : ePart (some a) ρ M = kPt (a ρ M) := by
  unfold ePart
  simp only []
  cases a ρ M with
  | ok v M1 => cases v <;> rfl
  | _ => rfl
theorem kPt_ok (i : Int) : kPt (.ok (.int i) M) = .ok (some i) M := id rfl
/-! sources -/
def kSq : R Val → R Itr
  | .ok v M => (match seqOf M v with
    | some xs => .ok (itSeq v xs.length) M
    | none => .bad)
  | .exc c M => .exc c M
  | .bad => .bad
theorem iList_k : iList a ρ M = kSq (a ρ M) := by
  unfold iList
  cases a ρ M <;> rfl
theorem kSq_ok {xs : List Val} (h : seqOf M v = some xs) : kSq (.ok v M) = .ok (itSeq v xs.length) M := by
  unfold kSq
  simp only []
  rw [h]
def kEn : R Val → R Itr
  | .ok (.ref n) M => (match lstAt M n with
    | some xs => .ok (itEnum n xs.length) M
    | none => .bad)
  | .ok _ _ => .bad
  | .exc c M => .exc c M
  | .bad => .bad
theorem iEnum_k : iEnum a ρ M = kEn (a ρ M) := by
  unfold iEnum
  cases a ρ M with
  | ok v M1 => cases v <;> rfl
  | _ => rfl
theorem kEn_ok {n : Nat} {xs : List Val} (h : lstAt M n = some xs) : kEn (.ok (.ref n) M) = .ok (itEnum n xs.length) M := by
  unfold kEn
  simp only []
  rw [h]
def kZp2 (v : Val) : R Val → R Itr
  | .ok w M => if sameKind v w = true then (match seqOf M v, seqOf M w with
    | some xs, some ys => .ok (itZip v w (min xs.length ys.length)) M
    | _, _ => .bad) else .bad
  | .exc c M => .exc c M
  | .bad => .bad
def kZp (b : E) (ρ : Env) : R Val → R Itr
  | .ok v M => kZp2 v (b ρ M)
  | .exc c M => .exc c M
  | .bad => .bad
theorem iZip_k : iZip a b ρ M = kZp b ρ (a ρ M) := by
  unfold iZip
  cases a ρ M with
  | ok v M1 =>
    show (b ρ M1).bind _ = kZp2 v (b ρ M1)
    cases b ρ M1 <;> rfl
  | _ => rfl
theorem kZp_ok : kZp b ρ (.ok v M) = kZp2 v (b ρ M) := id rfl
theorem kZp2_ok {xs ys : List Val} (hk : sameKind v w = true) (h1 : seqOf M v = some xs) (h2 : seqOf M w = some ys) : kZp2 v (.ok w M) = .ok (itZip v w (min xs.length ys.length)) M := by
  unfold kZp2
  simp only []
  rw [if_pos hk, h1, h2]
def kRv : R Val → R Itr
  | .ok v M => (match seqOf M v with
    | some xs => .ok (itRev v xs.length) M
    | none => .bad)
  | .exc c M => .exc c M
  | .bad => .bad
theorem iRev_k : iRev a ρ M = kRv (a ρ M) := by
  unfold iRev
  cases a ρ M <;> rfl
theorem kRv_ok {xs : List Val} (h : seqOf M v = some xs) : kRv (.ok v M) = .ok (itRev v xs.length) M := by
  unfold kRv
  simp only []
  rw [h]
/-- lo, lo + 1, .., n of them -/
def itRg (lo : Int) (n : Nat) : Itr := ⟨n, fun i _ => some (.int (lo + (i : Int))), fun _ => true⟩
def kR1 : R Val → R Itr
  | .ok (.int j) M => if -(2 ^ 62) ≤ j ∧ j < 2 ^ 62 then .ok (itRg 0 j.toNat) M else .bad
  | .ok _ _ => .bad
  | .exc c M => .exc c M
  | .bad => .bad
theorem iRange1_k : iRange1 a ρ M = kR1 (a ρ M) := by
  unfold iRange1
  cases a ρ M with
  | ok v M1 => cases v <;> rfl
  | _ => rfl
theorem kR1_ok {j : Int} (h : -(2 ^ 62) ≤ j ∧ j < 2 ^ 62) : kR1 (.ok (.int j) M) = .ok (itRg 0 j.toNat) M := if_pos h
def kR2b (x : Val) : R Val → R Itr
  | .ok y M => (match x, y with
    | .int i, .int j => if -(2 ^ 62) ≤ i ∧ i < 2 ^ 62 ∧ -(2 ^ 62) ≤ j ∧ j < 2 ^ 62 then .ok (itRg i (j - i).toNat) M else .bad
    | _, _ => .bad)
  | .exc c M => .exc c M
  | .bad => .bad
def kR2 (b : E) (ρ : Env) : R Val → R Itr
  | .ok x M => kR2b x (b ρ M)
  | .exc c M => .exc c M
  | .bad => .bad
theorem iRange2_k : iRange2 a b ρ M = kR2 b ρ (a ρ M) := by
  unfold iRange2
  cases a ρ M with
  | ok v M1 =>
    show (b ρ M1).bind _ = kR2b v (b ρ M1)
    cases b ρ M1 <;> rfl
  | _ => rfl
theorem kR2_ok : kR2 b ρ (.ok x M) = kR2b x (b ρ M) := id rfl
theorem kR2b_ok {i j : Int} (h : -(2 ^ 62) ≤ i ∧ i < 2 ^ 62 ∧ -(2 ^ 62) ≤ j ∧ j < 2 ^ 62) : kR2b (.int i) (.ok (.int j) M) = .ok (itRg i (j - i).toNat) M := if_pos h
end
/-! operations on what is known -/
section
variable (M : Store) (i j : Int) (x y : List Nat) (xs ys : List Val)
theorem oAdd_int : oAdd (.int i) (.int j) M = some (.int (i + j), M) := id rfl
theorem oSub_int : oSub (.int i) (.int j) M = some (.int (i - j), M) := id rfl
theorem oNeg_int : oNeg (.int i) M = some (.int (-i), M) := id rfl
theorem oMul_int {i j : Int} (h : mulOk i j = true) : oMul (.int i) (.int j) M = some (.int (i * j), M) := if_pos h
theorem oDiv_int {i j : Int} (h0 : j ≠ 0) (h : divOk i j = true) : oDiv (.int i) (.int j) M = some (.int (i.fdiv j), M) := if_pos ⟨h0, h⟩
/-- a divisor that any number may be divided by -/
def SmD (j : Int) : Prop := j.natAbs.log2 < 9000
instance (j : Int) : Decidable (SmD j) := inferInstanceAs (Decidable (j.natAbs.log2 < 9000))
theorem SmD.ok {j : Int} (h : SmD j) (i : Int) : divOk i j = true := by
  unfold divOk
  rw [Bool.or_eq_true, decide_eq_true_eq]
  exact .inl h
theorem oDiv_sm {i j : Int} (h0 : j ≠ 0) (h : SmD j) : oDiv (.int i) (.int j) M = some (.int (i.fdiv j), M) := oDiv_int M h0 (h.ok i)
theorem oDm_int {i j : Int} (h0 : 0 < j) (h : divOk i j = true) : oDm (.int i) (.int j) M = some (.tup [.int (i / j), .int (i % j)], M) := if_pos ⟨h0, h⟩
theorem oDm_sm {i j : Int} (h0 : 0 < j) (h : SmD j) : oDm (.int i) (.int j) M = some (.tup [.int (i / j), .int (i % j)], M) := oDm_int M h0 (h.ok i)
theorem oMax_int : oMax (.int i) (.int j) M = some (.int (if j > i then j else i), M) := id rfl
theorem oMin_int : oMin (.int i) (.int j) M = some (.int (if j < i then j else i), M) := id rfl
theorem uInt_int : uInt (.int i) M = some (.int i, M) := id rfl
theorem uInt_bl (q : Bool) : uInt (.bl q) M = some (.int (if q then 1 else 0), M) := id rfl
theorem oMod_int {i j : Int} (h0 : j ≠ 0) : oMod (.int i) (.int j) M = some (.int (i.fmod j), M) := if_pos h0
theorem oPow_int {i j : Int} (h : 0 ≤ j ∧ j ≤ 1000000 ∧ i.natAbs < 2 ^ 64) : oPow (.int i) (.int j) M = some (.int (i ^ j.toNat), M) := if_pos h
theorem cLt_int : cLt (.int i) (.int j) M = some (.bl (decide (i < j)), M) := id rfl
theorem cLe_int : cLe (.int i) (.int j) M = some (.bl (decide (i ≤ j)), M) := id rfl
theorem cGt_int : cGt (.int i) (.int j) M = some (.bl (decide (j < i)), M) := id rfl
theorem cGe_int : cGe (.int i) (.int j) M = some (.bl (decide (j ≤ i)), M) := id rfl
theorem toT_int {k : Nat} : toT M (k + 1) (.int i) = some (.int i) := id rfl
theorem eqFuel_eq : eqFuel = 59 + 1 := id rfl
theorem cEq_int : cEq (.int i) (.int j) M = some (.bl (decide (i = j)), M) := id rfl
theorem cNe_int : cNe (.int i) (.int j) M = some (.bl (!decide (i = j)), M) := id rfl
theorem cEq_bl (p q : Bool) : cEq (.bl p) (.bl q) M = some (.bl (p == q), M) := id rfl
theorem cNe_bl (p q : Bool) : cNe (.bl p) (.bl q) M = some (.bl (!(p == q)), M) := id rfl
theorem cIsN_k (v : Val) : cIsN v .non M = some (.bl (isNon v), M) := id rfl
theorem cNotN_k (v : Val) : cNotN v .non M = some (.bl (!isNon v), M) := id rfl
theorem cEq_tt (a b c d : Int) : cEq (.tup [.int a, .int b]) (.tup [.int c, .int d]) M = some (.bl (decide (a = c) && (decide (b = d) && true)), M) := id rfl
theorem cNe_tt (a b c d : Int) : cNe (.tup [.int a, .int b]) (.tup [.int c, .int d]) M = some (.bl (!(decide (a = c) && (decide (b = d) && true))), M) := id rfl
theorem uAbs_int : uAbs (.int i) M = some (.int (if i < 0 then -i else i), M) := id rfl
theorem uLen_tup : uLen (.tup xs) M = some (.int xs.length, M) := id rfl
theorem oIx_tup : oIx (.tup xs) (.int i) M = (atI xs i).map fun v => (v, M) := id rfl
theorem oIx_0 (v : Val) : oIx (.tup (v :: xs)) (.int 0) M = some (v, M) := by
  show (atI (v :: xs) 0).map _ = _
  unfold atI atIx
  simp
theorem oIx_1 (v w : Val) : oIx (.tup (v :: w :: xs)) (.int 1) M = some (w, M) := by
  show (atI (v :: w :: xs) 1).map _ = _
  unfold atI atIx
  rw [if_pos (by decide), if_pos (by simp; omega)]
  rfl
theorem uIs_k (ts : List String) (v : Val) : uIs ts v M = match v with
  | .exc c => some (.bl (ts.any (isX c)), M)
  | v => match tyName M v with
    | some a => some (.bl (ts.any (isT a)), M)
    | none => none := rfl
theorem uIs_int (ts : List String) : uIs ts (.int i) M = some (.bl (ts.any (isT "int")), M) := id rfl
theorem uIs_tup (ts : List String) : uIs ts (.tup xs) M = some (.bl (ts.any (isT "tuple")), M) := id rfl
theorem uIs_bl (ts : List String) (q : Bool) : uIs ts (.bl q) M = some (.bl (ts.any (isT "bool")), M) := id rfl
theorem uIs_non (ts : List String) : uIs ts .non M = some (.bl (ts.any (isT "NoneType")), M) := id rfl
theorem uIs_exc (ts : List String) (c : String) : uIs ts (.exc c) M = some (.bl (ts.any (isX c)), M) := id rfl
end
theorem ty_tuple_tuple : (["tuple"].any (isT "tuple")) = true := by decide +kernel
theorem ty_tuple_list : (["tuple"].any (isT "list")) = false := by decide +kernel
theorem ty_tuple_int : (["tuple"].any (isT "int")) = false := by decide +kernel
theorem ty_tuple_bool : (["tuple"].any (isT "bool")) = false := by decide +kernel
theorem ty_tuple_str : (["tuple"].any (isT "str")) = false := by decide +kernel
theorem ty_tuple_NoneType : (["tuple"].any (isT "NoneType")) = false := by decide +kernel
theorem ty_list_tuple : (["list"].any (isT "tuple")) = false := by decide +kernel
theorem ty_list_list : (["list"].any (isT "list")) = true := by decide +kernel
theorem ty_list_int : (["list"].any (isT "int")) = false := by decide +kernel
theorem ty_list_bool : (["list"].any (isT "bool")) = false := by decide +kernel
theorem ty_list_str : (["list"].any (isT "str")) = false := by decide +kernel
theorem ty_list_NoneType : (["list"].any (isT "NoneType")) = false := by decide +kernel
theorem ty_int_tuple : (["int"].any (isT "tuple")) = false := by decide +kernel
theorem ty_int_list : (["int"].any (isT "list")) = false := by decide +kernel
theorem ty_int_int : (["int"].any (isT "int")) = true := by decide +kernel
theorem ty_int_bool : (["int"].any (isT "bool")) = true := by decide +kernel
theorem ty_int_str : (["int"].any (isT "str")) = false := by decide +kernel
theorem ty_int_NoneType : (["int"].any (isT "NoneType")) = false := by decide +kernel
theorem ty_bool_tuple : (["bool"].any (isT "tuple")) = false := by decide +kernel
theorem ty_bool_list : (["bool"].any (isT "list")) = false := by decide +kernel
theorem ty_bool_int : (["bool"].any (isT "int")) = false := by decide +kernel
theorem ty_bool_bool : (["bool"].any (isT "bool")) = true := by decide +kernel
theorem ty_bool_str : (["bool"].any (isT "str")) = false := by decide +kernel
theorem ty_bool_NoneType : (["bool"].any (isT "NoneType")) = false := by decide +kernel
theorem ty_str_tuple : (["str"].any (isT "tuple")) = false := by decide +kernel
theorem ty_str_list : (["str"].any (isT "list")) = false := by decide +kernel
theorem ty_str_int : (["str"].any (isT "int")) = false := by decide +kernel
theorem ty_str_bool : (["str"].any (isT "bool")) = false := by decide +kernel
theorem ty_str_str : (["str"].any (isT "str")) = true := by decide +kernel
theorem ty_str_NoneType : (["str"].any (isT "NoneType")) = false := by decide +kernel
/-! ### while -/
/-- a while whose turns are those of a machine on states -/
theorem while_run {σ : Type} {c : E} {b : St} (env : σ → Env) (M : Store) (p : σ → Bool) (f : σ → σ) (I : σ → Prop) (μ : σ → Nat)
    (hc : ∀ s, I s → c (env s) M = .ok (.bl (p s)) M) (hb : ∀ s, I s → p s = true → b (env s) M = .nx (env (f s)) M ∧ I (f s) ∧ μ (f s) < μ s) :
    ∀ (k : Nat) (s : σ), I s → μ s < k → ∃ s', I s' ∧ p s' = false ∧ sWhileN c b k (env s) M = .nx (env s') M
  | 0, s, _, h => by omega
  | k + 1, s, hI, h => by
    unfold sWhileN
    rw [hc s hI]
    cases hp : p s with
    | false => exact ⟨s, hI, hp, rfl⟩
    | true =>
      obtain ⟨h1, h2, h3⟩ := hb s hI hp
      obtain ⟨s', q1, q2, q3⟩ := while_run env M p f I μ hc hb k (f s) h2 (by omega)
      refine ⟨s', q1, q2, ?_⟩
      simp only [R.st_ok]
      rw [h1]
      exact q3
end Mn
end
section
set_option Elab.async false
set_option autoImplicit false
/-! Numbers: sizes, the greatest common divisor by turns, ratios in lowest terms. -/
namespace Mn
/-! ### sizes -/
/-- below 2 ^ n, either sign -/
def Lt2 (n : Nat) (i : Int) : Prop := i.natAbs < 2 ^ n
instance (n : Nat) (i : Int) : Decidable (Lt2 n i) := inferInstanceAs (Decidable (i.natAbs < 2 ^ n))
theorem Lt2.mono {m n : Nat} {i : Int} (h : Lt2 m i) (k : m ≤ n) : Lt2 n i := Nat.lt_of_lt_of_le h (Nat.pow_le_pow_right (by decide) k)
theorem Lt2.neg {n : Nat} {i : Int} (h : Lt2 n i) : Lt2 n (-i) := by
  unfold Lt2 at *
  rw [Int.natAbs_neg]
  exact h
theorem Lt2.add {m n : Nat} {i j : Int} (hi : Lt2 m i) (hj : Lt2 n j) : Lt2 (max m n + 1) (i + j) := by
  have h1 := hi.mono (Nat.le_max_left m n)
  have h2 := hj.mono (Nat.le_max_right m n)
  unfold Lt2 at *
  rw [Nat.pow_succ]
  have := Int.natAbs_add_le i j
  omega
theorem Lt2.sub {m n : Nat} {i j : Int} (hi : Lt2 m i) (hj : Lt2 n j) : Lt2 (max m n + 1) (i - j) := by
  rw [Int.sub_eq_add_neg]
  exact hi.add hj.neg
theorem Lt2.mul {m n : Nat} {i j : Int} (hi : Lt2 m i) (hj : Lt2 n j) : Lt2 (m + n) (i * j) := by
  unfold Lt2 at *
  rw [Int.natAbs_mul, Nat.pow_add]
  exact Nat.mul_lt_mul'' hi hj
theorem Lt2.le {n : Nat} {i j : Int} (hj : Lt2 n j) (h : i.natAbs ≤ j.natAbs) : Lt2 n i := Nat.lt_of_le_of_lt h hj
theorem bits_le {n : Nat} {i : Int} (h : Lt2 n i) : bits i ≤ n := by
  unfold bits
  split
  · exact Nat.zero_le _
  · rename_i h0
    have : i.natAbs ≠ 0 := by omega
    exact (Nat.log2_lt this).mpr h
theorem lt2_bits (i : Int) : Lt2 (bits i) i := by
  unfold bits Lt2
  split
  · rename_i h
    subst h
    decide
  · exact Nat.lt_log2_self
theorem mulOk_lt {m n : Nat} {i j : Int} (hi : Lt2 m i) (hj : Lt2 n j) (h : m + n ≤ 134217728) : mulOk i j = true := by
  have h1 := bits_le hi
  have h2 := bits_le hj
  unfold mulOk
  simp only [Bool.or_eq_true, decide_eq_true_eq]
  omega
theorem divOk_lt {n : Nat} {j : Int} (hj : Lt2 n j) (h : n ≤ 9000) (i : Int) : divOk i j = true := by
  unfold divOk
  rw [Bool.or_eq_true, decide_eq_true_eq]
  refine .inl ?_
  by_cases h0 : j.natAbs = 0
  · rw [h0]
    decide
  · exact Nat.lt_of_lt_of_le ((Nat.log2_lt h0).mpr hj) h
theorem smD_lt {n : Nat} {j : Int} (hj : Lt2 n j) (h : n ≤ 9000) : SmD j := by
  unfold SmD
  by_cases h0 : j.natAbs = 0
  · rw [h0]
    decide
  · exact Nat.lt_of_lt_of_le ((Nat.log2_lt h0).mpr hj) h
/-- a division whose outcome is small -/
theorem divOk_quo {n : Nat} {j q : Int} (hj : j ≠ 0) (hq : Lt2 n q) (h : n ≤ 4500) : divOk (j * q) j = true := by
  unfold divOk
  rw [Bool.or_eq_true, decide_eq_true_eq, decide_eq_true_eq]
  refine .inr ?_
  have j0 : j.natAbs ≠ 0 := by omega
  have e : (j * q).natAbs < 2 ^ (j.natAbs.log2 + 1 + n) := by
    rw [Int.natAbs_mul, Nat.pow_add]
    exact Nat.mul_lt_mul'' Nat.lt_log2_self hq
  have l : (j * q).natAbs.log2 ≤ j.natAbs.log2 + n := by
    by_cases h0 : (j * q).natAbs = 0
    · rw [h0]
      exact Nat.zero_le _
    · have := (Nat.log2_lt h0).mpr e
      omega
  omega
/-! ### turns -/
/-- how many turns the chain of rests takes -/
def est (x y : Nat) : Nat := if h : y = 0 then 0 else est y (x % y) + 1
termination_by y
decreasing_by exact Nat.mod_lt _ (Nat.pos_of_ne_zero h)
theorem est_zero (x : Nat) : est x 0 = 0 := by
  unfold est
  rw [dif_pos rfl]
theorem est_pos (x : Nat) {y : Nat} (h : y ≠ 0) : est x y = est y (x % y) + 1 := by
  conv => lhs; unfold est
  rw [dif_neg h]
theorem est_le : ∀ (n x y : Nat), y < 2 ^ n → est x y ≤ 2 * n
  | 0, x, y, h => by
    have : y = 0 := by simpa using h
    rw [this, est_zero]
    exact Nat.zero_le _
  | n + 1, x, y, h => by
    by_cases hy : y = 0
    · rw [hy, est_zero]
      exact Nat.zero_le _
    · rw [est_pos x hy]
      by_cases hr : x % y = 0
      · rw [hr, est_zero]
        omega
      · rw [est_pos y hr]
        have h1 : x % y < y := Nat.mod_lt _ (Nat.pos_of_ne_zero hy)
        have h2 : y % (x % y) < x % y := Nat.mod_lt _ (Nat.pos_of_ne_zero hr)
        have h3 : y % (x % y) + x % y ≤ y := by
          have e := Nat.div_add_mod y (x % y)
          have d : 1 ≤ y / (x % y) := Nat.div_pos (Nat.le_of_lt h1) (Nat.pos_of_ne_zero hr)
          have : x % y * 1 ≤ x % y * (y / (x % y)) := Nat.mul_le_mul_left _ d
          omega
        have h4 : y % (x % y) < 2 ^ n := by
          rw [Nat.pow_succ] at h
          omega
        have := est_le n (x % y) (y % (x % y)) h4
        omega
theorem whileLine_eq : whileLine = 1099511627776 := rfl
theorem est_line {n : Nat} {i : Int} (h : Lt2 n i) (hn : n ≤ 1000000000) (x : Nat) : est x i.natAbs < whileLine := by
  have := est_le n x i.natAbs h
  rw [whileLine_eq]
  omega
theorem fmod_nat (x y : Nat) : Int.fmod (x : Int) (y : Int) = ((x % y : Nat) : Int) := by
  rw [Int.fmod_eq_emod_of_nonneg _ (Int.natCast_nonneg y)]
  rfl
theorem gcd_step (x y : Nat) : Nat.gcd y (x % y) = Nat.gcd x y := by
  rw [Nat.gcd_comm, ← Nat.gcd_rec, Nat.gcd_comm]
/-! ### ratios in lowest terms -/
theorem red_unique {a b n : Int} {d : Nat} (hb : b ≠ 0) (hd : d ≠ 0) (hc : n.natAbs.Coprime d) (h : n * b = a * d) : (Rat.divInt a b).num = n ∧ (Rat.divInt a b).den = d := by
  have e : Rat.divInt a b = Rat.mk' n d hd hc := by
    have e2 : Rat.mk' n d hd hc = Rat.divInt n d := (Rat.num_divInt_den (Rat.mk' n d hd hc)).symm
    rw [e2, Rat.divInt_eq_divInt_iff hb (by omega)]
    rw [← h]
  rw [e]
  exact ⟨rfl, rfl⟩
/-- a number over the greatest common divisor, with the bottom's sign -/
theorem red_num {a b : Int} (hb : b ≠ 0) : (Rat.divInt a b).num = (if b < 0 then -(a / (Int.gcd a b : Int)) else a / (Int.gcd a b : Int)) ∧ ((Rat.divInt a b).den : Int) = (if b < 0 then -(b / (Int.gcd a b : Int)) else b / (Int.gcd a b : Int)) := by
  have g0 : Int.gcd a b ≠ 0 := fun z => hb (Int.gcd_eq_zero_iff.mp z).2
  obtain ⟨a', ha⟩ := Int.gcd_dvd_left a b
  obtain ⟨b', hb'⟩ := Int.gcd_dvd_right a b
  generalize hg : Int.gcd a b = g at *
  have gi : (g : Int) ≠ 0 := by omega
  have ea : a / (g : Int) = a' := by
    rw [ha]
    exact Int.mul_ediv_cancel_left _ gi
  have eb : b / (g : Int) = b' := by
    rw [hb']
    exact Int.mul_ediv_cancel_left _ gi
  have cop : a'.natAbs.Coprime b'.natAbs := by
    have e1 : g * (Nat.gcd a'.natAbs b'.natAbs) = g := by
      have : Nat.gcd (g * a'.natAbs) (g * b'.natAbs) = g := by
        have e2 : a.natAbs = g * a'.natAbs := by rw [ha, Int.natAbs_mul, Int.natAbs_natCast]
        have e3 : b.natAbs = g * b'.natAbs := by rw [hb', Int.natAbs_mul, Int.natAbs_natCast]
        rw [← e2, ← e3]
        exact hg
      rw [← Nat.gcd_mul_left]
      exact this
    exact Nat.eq_of_mul_eq_mul_left (Nat.pos_of_ne_zero g0) (by rw [e1, Nat.mul_one])
  have b0 : b' ≠ 0 := fun z => hb (by rw [hb', z, Int.mul_zero])
  rw [ea, eb]
  have gp : (0 : Int) < g := by omega
  by_cases hs : b < 0
  · have bs : b' < 0 := by
      rcases Int.lt_trichotomy b' 0 with h | h | h
      · exact h
      · exact absurd h b0
      · have := Int.mul_pos gp h
        omega
    rw [if_pos hs, if_pos hs]
    have q := red_unique (a := a) (b := b) (n := -a') (d := b'.natAbs) hb (by omega) (by rw [Int.natAbs_neg]; exact cop) (by
      have e : (b'.natAbs : Int) = -b' := by omega
      rw [e, ha, hb']
      grind)
    exact ⟨q.1, by rw [q.2]; omega⟩
  · have bs : 0 < b' := by
      rcases Int.lt_trichotomy b' 0 with h | h | h
      · have := Int.mul_neg_of_pos_of_neg gp h
        omega
      · exact absurd h b0
      · exact h
    rw [if_neg hs, if_neg hs]
    have q := red_unique (a := a) (b := b) (n := a') (d := b'.natAbs) hb (by omega) cop (by
      have e : (b'.natAbs : Int) = b' := by omega
      rw [e, ha, hb']
      grind)
    exact ⟨q.1, by rw [q.2]; omega⟩
/-- a ratio as a value -/
def rv (q : Rat) : Val := .tup [.int q.num, .int q.den]
theorem rv0 : Val.tup [.int 0, .int 1] = rv 0 := id rfl
theorem rv1 : Val.tup [.int 1, .int 1] = rv 1 := id rfl
/-- both its numbers below 2 ^ n -/
def Sz (n : Nat) (q : Rat) : Prop := Lt2 n q.num ∧ q.den < 2 ^ n
instance (n : Nat) (q : Rat) : Decidable (Sz n q) := inferInstanceAs (Decidable (_ ∧ _))
theorem oIx_rv0 (q : Rat) (M : Store) : oIx (rv q) (.int 0) M = some (.int q.num, M) := oIx_0 M _ _
theorem oIx_rv1 (q : Rat) (M : Store) : oIx (rv q) (.int 1) M = some (.int q.den, M) := oIx_1 M _ _ _
theorem tTup_rv (s t : Tg) (q : Rat) (ρ : Env) (M : Store) : tTup [s, t] (rv q) ρ M = tAll [s, t] [.int q.num, .int q.den] ρ M := id rfl
theorem cEq_rv (p q : Rat) (M : Store) : cEq (rv p) (rv q) M = some (.bl (decide (p = q)), M) := by
  unfold rv
  rw [cEq_tt]
  have e : (decide (p.num = q.num) && (decide ((p.den : Int) = q.den) && true)) = decide (p = q) := by
    rw [Bool.and_true, ← Bool.decide_and]
    refine decide_eq_decide.mpr ⟨fun h => Rat.ext h.1 (by omega), fun h => by rw [h]; exact ⟨rfl, rfl⟩⟩
  rw [e]
theorem cNe_rv (p q : Rat) (M : Store) : cNe (rv p) (rv q) M = some (.bl (!decide (p = q)), M) := by
  unfold rv
  rw [cNe_tt]
  have e : (decide (p.num = q.num) && (decide ((p.den : Int) = q.den) && true)) = decide (p = q) := by
    rw [Bool.and_true, ← Bool.decide_and]
    refine decide_eq_decide.mpr ⟨fun h => Rat.ext h.1 (by omega), fun h => by rw [h]; exact ⟨rfl, rfl⟩⟩
  rw [e]
theorem uIs_rv (ts : List String) (q : Rat) (M : Store) : uIs ts (rv q) M = some (.bl (ts.any (isT "tuple")), M) := id rfl
theorem uLen_rv (q : Rat) (M : Store) : uLen (rv q) M = some (.int 2, M) := id rfl
theorem Sz.den {n : Nat} {q : Rat} (h : Sz n q) : Lt2 n (q.den : Int) := by
  unfold Lt2
  rw [Int.natAbs_natCast]
  exact h.2
theorem Sz.mono {m n : Nat} {q : Rat} (h : Sz m q) (k : m ≤ n) : Sz n q := ⟨h.1.mono k, Nat.lt_of_lt_of_le h.2 (Nat.pow_le_pow_right (by decide) k)⟩
theorem sz_divInt {n : Nat} {a b : Int} (h0 : b ≠ 0) (ha : Lt2 n a) (hb : Lt2 n b) : Sz n (Rat.divInt a b) := by
  obtain ⟨h1, h2⟩ := red_num (a := a) h0
  have d1 : ∀ x : Int, (x / (Int.gcd a b : Int)).natAbs ≤ x.natAbs := fun x => Int.natAbs_ediv_le_natAbs x _
  refine ⟨Lt2.le ha ?_, ?_⟩
  · rw [h1]
    split
    · rw [Int.natAbs_neg]
      exact d1 a
    · exact d1 a
  · have e : (Rat.divInt a b).den = ((Rat.divInt a b).den : Int).natAbs := by rw [Int.natAbs_natCast]
    rw [e, h2]
    refine Nat.lt_of_le_of_lt ?_ hb
    split
    · rw [Int.natAbs_neg]
      exact d1 b
    · exact d1 b
theorem divInt_div (a b : Int) : Rat.divInt a b = (a : Rat) / (b : Rat) := Rat.divInt_eq_div a b
theorem rat_add (p q : Rat) : Rat.divInt (p.num * q.den + q.num * p.den) (p.den * q.den) = p + q := by
  rw [← Rat.divInt_add_divInt _ _ (by have := p.den_nz; omega) (by have := q.den_nz; omega), Rat.num_divInt_den, Rat.num_divInt_den]
theorem rat_mul (p q : Rat) : Rat.divInt (p.num * q.num) (p.den * q.den) = p * q := by
  rw [← Rat.divInt_mul_divInt, Rat.num_divInt_den, Rat.num_divInt_den]
theorem den_ne (p : Rat) : (p.den : Int) ≠ 0 := by have := p.den_nz; omega
theorem rat_sub (p q : Rat) : Rat.divInt (p.num * q.den - q.num * p.den) (p.den * q.den) = p - q := by
  have e := rat_add p (-q)
  rw [Rat.neg_num, Rat.neg_den] at e
  rw [Rat.sub_eq_add_neg, ← e]
  congr 1
  grind
theorem rat_div (p q : Rat) (h : q ≠ 0) : Rat.divInt (p.num * q.den) (p.den * q.num) = p / q := by
  have hn : q.num ≠ 0 := fun z => h (Rat.num_eq_zero.mp z)
  have e1 : p / q * q = p := by
    grind
  have e2 : Rat.divInt (p.num * q.den) (p.den * q.num) * q = p := by
    have e3 : Rat.divInt (p.num * q.den) (p.den * q.num) * q = Rat.divInt (p.num * q.den) (p.den * q.num) * Rat.divInt q.num q.den := by rw [Rat.num_divInt_den]
    rw [e3, Rat.divInt_mul_divInt]
    have e4 : Rat.divInt (p.num * q.den * q.num) (p.den * q.num * q.den) = Rat.divInt p.num p.den := by
      rw [Rat.divInt_eq_divInt_iff (Int.mul_ne_zero (Int.mul_ne_zero (den_ne p) hn) (den_ne q)) (den_ne p)]
      grind
    rw [e4, Rat.num_divInt_den]
  grind
end Mn
end
section
set_option Elab.async false
set_option autoImplicit false
/-! Loops over lists, stores that grow. -/
namespace Mn
/-- a store that has only grown -/
def Gr (M M' : Store) : Prop := ∃ g, M' = M ++ g
theorem Gr.refl (M : Store) : Gr M M := ⟨[], (List.append_nil M).symm⟩
theorem Gr.trans {a b c : Store} (h : Gr a b) (k : Gr b c) : Gr a c := by
  obtain ⟨g, rfl⟩ := h
  obtain ⟨g', rfl⟩ := k
  exact ⟨g ++ g', by rw [List.append_assoc]⟩
theorem Gr.one (M : Store) (c : Cell) : Gr M (M ++ [c]) := ⟨[c], rfl⟩
theorem Gr.at {M M' : Store} (h : Gr M M') {n : Nat} {c : Cell} (e : M[n]? = some c) : M'[n]? = some c := by
  obtain ⟨g, rfl⟩ := h
  rw [List.getElem?_append_left (by
    have := List.getElem?_eq_some_iff.mp e
    exact this.1)]
  exact e
theorem lstAt_lst {M : Store} {n : Nat} {xs : List Val} (h : M[n]? = some (.lst xs)) : lstAt M n = some xs := by
  unfold lstAt
  rw [h]
theorem lstAt_ro {M : Store} {n : Nat} {xs : List Val} (h : M[n]? = some (.ro xs)) : lstAt M n = some xs := by
  unfold lstAt
  rw [h]
theorem Gr.lstAt {M M' : Store} (h : Gr M M') {n : Nat} {xs : List Val} (e : Mn.lstAt M n = some xs) : Mn.lstAt M' n = some xs := by
  unfold Mn.lstAt at *
  cases hc : M[n]? with
  | none =>
    rw [hc] at e
    exact nomatch e
  | some c =>
    rw [h.at hc]
    rw [hc] at e
    exact e
theorem lst_new (M : Store) (xs : List Val) : lstAt (M ++ [.lst xs]) M.length = some xs := lstAt_lst (by simp)
theorem lst_new' (M : Store) (c : Cell) : (M ++ [c])[M.length]? = some c := by simp
theorem oIx_ref {M : Store} {n : Nat} {xs : List Val} (h : lstAt M n = some xs) (i : Int) : oIx (.ref n) (.int i) M = (atI xs i).map fun v => (v, M) := by
  show (match lstAt M n with | some xs => (atI xs i).map fun v => (v, M) | none => none) = _
  rw [h]
theorem atI_nat {α : Type} {xs : List α} {i : Nat} {x : α} (h : xs[i]? = some x) : atI xs (i : Int) = some x := by
  have hl := (List.getElem?_eq_some_iff.mp h).1
  unfold atI atIx
  rw [if_pos (Int.natCast_nonneg i), if_pos (by omega)]
  exact h
theorem oIx_nat {M : Store} {n : Nat} {xs : List Val} (h : lstAt M n = some xs) {i : Nat} {v : Val} (hv : xs[i]? = some v) : oIx (.ref n) (.int i) M = some (v, M) := by
  rw [oIx_ref h, atI_nat hv]
  rfl
theorem uLen_ref {M : Store} {n : Nat} {xs : List Val} (h : lstAt M n = some xs) : uLen (.ref n) M = some (.int xs.length, M) := by
  show (match lstAt M n with | some xs => some (Val.int xs.length, M) | none => none) = _
  rw [h]
/-- a turn's outcome: on with J, or over with Q -/
def Turn (r : RS) (J : Env → Store → Prop) (Q : RS → Prop) : Prop := match r with
  | .nx ρ M => J ρ M
  | .ct ρ M => J ρ M
  | .bk ρ M => Q (.nx ρ M)
  | r => Q r
theorem for_inv {it : Itr} {t : Tg} {b : St} {N : Nat} (I : Nat → Env → Store → Prop) (Q : RS → Prop)
    (hs : ∀ i, i < N → ∀ ρ M, I i ρ M → ∃ v ρ1 M1, it.nxt i M = some v ∧ t v ρ M = .nx ρ1 M1 ∧ Turn (b ρ1 M1) (I (i + 1)) Q) (he : ∀ ρ M, I N ρ M → it.fin M = true ∧ Q (.nx ρ M)) :
    ∀ (k i : Nat) (ρ : Env) (M : Store), i + k = N → I i ρ M → Q (sForN it t b k i ρ M)
  | 0, i, ρ, M, e, h => by
    have : i = N := e
    subst this
    obtain ⟨h1, h2⟩ := he ρ M h
    unfold sForN
    rw [if_pos h1]
    exact h2
  | k + 1, i, ρ, M, e, h => by
    obtain ⟨v, ρ1, M1, h1, h2, h3⟩ := hs i (by omega) ρ M h
    unfold sForN
    rw [h1]
    simp only []
    rw [h2]
    simp only []
    cases hb : b ρ1 M1 with
    | nx ρ' M' =>
      rw [hb] at h3
      exact for_inv I Q hs he k (i + 1) ρ' M' (by omega) h3
    | ct ρ' M' =>
      rw [hb] at h3
      exact for_inv I Q hs he k (i + 1) ρ' M' (by omega) h3
    | bk ρ' M' =>
      rw [hb] at h3
      exact h3
    | ret v M' =>
      rw [hb] at h3
      exact h3
    | exc c ρ' M' =>
      rw [hb] at h3
      exact h3
    | bad =>
      rw [hb] at h3
      exact h3
/-- a loop over a sequence that stands -/
theorem for_seq {w : Val} {xs : List Val} {t : Tg} {b : St} (I : Nat → Env → Store → Prop) (Q : RS → Prop) (hl : ∀ i ρ M, I i ρ M → seqOf M w = some xs)
    (hs : ∀ i v, xs[i]? = some v → ∀ ρ M, I i ρ M → ∃ ρ1 M1, t v ρ M = .nx ρ1 M1 ∧ Turn (b ρ1 M1) (I (i + 1)) Q) (he : ∀ ρ M, I xs.length ρ M → Q (.nx ρ M))
    (ρ : Env) (M : Store) (h : I 0 ρ M) : Q (sForN (itSeq w xs.length) t b (itSeq w xs.length).n 0 ρ M) := by
  refine for_inv (N := xs.length) I Q ?_ ?_ xs.length 0 ρ M (Nat.zero_add _) h
  · intro i hi ρ M hI
    have hv : xs[i]? = some xs[i] := by simp [hi]
    obtain ⟨ρ1, M1, h1, h2⟩ := hs i _ hv ρ M hI
    refine ⟨_, ρ1, M1, ?_, h1, h2⟩
    show (seqOf M w).bind _ = _
    rw [hl i ρ M hI]
    exact hv
  · intro ρ M hI
    refine ⟨?_, he ρ M hI⟩
    show (match seqOf M w with | some ys => decide (ys.length ≤ xs.length) | none => false) = true
    rw [hl _ ρ M hI]
    exact decide_eq_true (Nat.le_refl _)
/-- index and thing -/
theorem for_enum {n : Nat} {xs : List Val} {t : Tg} {b : St} (I : Nat → Env → Store → Prop) (Q : RS → Prop) (hl : ∀ i ρ M, I i ρ M → lstAt M n = some xs)
    (hs : ∀ (i : Nat) v, xs[i]? = some v → ∀ ρ M, I i ρ M → ∃ ρ1 M1, t (.tup [.int i, v]) ρ M = .nx ρ1 M1 ∧ Turn (b ρ1 M1) (I (i + 1)) Q) (he : ∀ ρ M, I xs.length ρ M → Q (.nx ρ M))
    (ρ : Env) (M : Store) (h : I 0 ρ M) : Q (sForN (itEnum n xs.length) t b (itEnum n xs.length).n 0 ρ M) := by
  refine for_inv (N := xs.length) I Q ?_ ?_ xs.length 0 ρ M (Nat.zero_add _) h
  · intro i hi ρ M hI
    have hv : xs[i]? = some xs[i] := by simp [hi]
    obtain ⟨ρ1, M1, h1, h2⟩ := hs i _ hv ρ M hI
    refine ⟨_, ρ1, M1, ?_, h1, h2⟩
    show (lstAt M n).bind _ = _
    rw [hl i ρ M hI]
    show xs[i]?.map _ = _
    rw [hv]
    rfl
  · intro ρ M hI
    refine ⟨?_, he ρ M hI⟩
    show (match lstAt M n with | some ys => decide (ys.length ≤ xs.length) | none => false) = true
    rw [hl _ ρ M hI]
    exact decide_eq_true (Nat.le_refl _)
/-- two sequences of one length, side by side -/
theorem for_zip {w w' : Val} {xs ys : List Val} {t : Tg} {b : St} (hn : xs.length = ys.length) (I : Nat → Env → Store → Prop) (Q : RS → Prop) (hl : ∀ i ρ M, I i ρ M → seqOf M w = some xs ∧ seqOf M w' = some ys)
    (hs : ∀ (i : Nat) x y, xs[i]? = some x → ys[i]? = some y → ∀ ρ M, I i ρ M → ∃ ρ1 M1, t (.tup [x, y]) ρ M = .nx ρ1 M1 ∧ Turn (b ρ1 M1) (I (i + 1)) Q) (he : ∀ ρ M, I xs.length ρ M → Q (.nx ρ M))
    (ρ : Env) (M : Store) (h : I 0 ρ M) : Q (sForN (itZip w w' (min xs.length ys.length)) t b (itZip w w' (min xs.length ys.length)).n 0 ρ M) := by
  rw [← hn, Nat.min_self]
  refine for_inv (N := xs.length) I Q ?_ ?_ xs.length 0 ρ M (Nat.zero_add _) h
  · intro i hi ρ M hI
    have hv : xs[i]? = some xs[i] := by simp [hi]
    have hy : ys[i]? = some (ys[i]'(by omega)) := by simp [show i < ys.length by omega]
    obtain ⟨ρ1, M1, h1, h2⟩ := hs i _ _ hv hy ρ M hI
    refine ⟨_, ρ1, M1, ?_, h1, h2⟩
    obtain ⟨e1, e2⟩ := hl i ρ M hI
    show (match seqOf M w, seqOf M w' with
      | some xs, some ys => (match xs[i]?, ys[i]? with
        | some x, some y => some (Val.tup [x, y])
        | _, _ => none)
      | _, _ => none) = _
    rw [e1, e2]
    simp only []
    rw [hv, hy]
  · intro ρ M hI
    refine ⟨?_, he ρ M hI⟩
    obtain ⟨e1, e2⟩ := hl _ ρ M hI
    show (match seqOf M w, seqOf M w' with
      | some xs', some ys => decide (xs'.length ≤ xs.length) || decide (ys.length ≤ xs.length)
      | _, _ => false) = true
    rw [e1, e2]
    simp
theorem for_rg {lo : Int} {n : Nat} {t : Tg} {b : St} (I : Nat → Env → Store → Prop) (Q : RS → Prop)
    (hs : ∀ i, i < n → ∀ ρ M, I i ρ M → ∃ ρ1 M1, t (.int (lo + (i : Int))) ρ M = .nx ρ1 M1 ∧ Turn (b ρ1 M1) (I (i + 1)) Q) (he : ∀ ρ M, I n ρ M → Q (.nx ρ M))
    (ρ : Env) (M : Store) (h : I 0 ρ M) : Q (sForN (itRg lo n) t b (itRg lo n).n 0 ρ M) := by
  refine for_inv (N := n) I Q ?_ ?_ n 0 ρ M (Nat.zero_add _) h
  · intro i hi ρ M hI
    obtain ⟨ρ1, M1, h1, h2⟩ := hs i hi ρ M hI
    exact ⟨_, ρ1, M1, rfl, h1, h2⟩
  · intro ρ M hI
    exact ⟨rfl, he ρ M hI⟩
theorem while_inv {c : E} {b : St} (I : Nat → Env → Store → Prop) (Q : RS → Prop)
    (hs : ∀ m ρ M, I m ρ M → (∃ M1, c ρ M = .ok (.bl false) M1 ∧ Q (.nx ρ M1)) ∨ ∃ M1, c ρ M = .ok (.bl true) M1 ∧ Turn (b ρ M1) (fun ρ' M' => ∃ m', m' < m ∧ I m' ρ' M') Q) :
    ∀ (k m : Nat) (ρ : Env) (M : Store), m < k → I m ρ M → Q (sWhileN c b k ρ M)
  | 0, m, ρ, M, h, _ => by omega
  | k + 1, m, ρ, M, h, hI => by
    unfold sWhileN
    rcases hs m ρ M hI with ⟨M1, h1, h2⟩ | ⟨M1, h1, h2⟩
    · rw [h1]
      exact h2
    · rw [h1]
      simp only [R.st_ok]
      cases hb : b ρ M1 with
      | nx ρ' M' =>
        rw [hb] at h2
        obtain ⟨m', l, hI'⟩ := h2
        exact while_inv I Q hs k m' ρ' M' (by omega) hI'
      | ct ρ' M' =>
        rw [hb] at h2
        obtain ⟨m', l, hI'⟩ := h2
        exact while_inv I Q hs k m' ρ' M' (by omega) hI'
      | bk ρ' M' =>
        rw [hb] at h2
        exact h2
      | ret v M' =>
        rw [hb] at h2
        exact h2
      | exc x ρ' M' =>
        rw [hb] at h2
        exact h2
      | bad =>
        rw [hb] at h2
        exact h2
/-! ### comprehensions -/
theorem lc_inv {it : Itr} {t : Tg} {c e : E} {ρ : Env} {N : Nat} (I : Nat → List Val → Store → Prop)
    (hs : ∀ i, i < N → ∀ acc M, I i acc M → ∃ v ρ1 M1, it.nxt i M = some v ∧ t v ρ M = .nx ρ1 M1 ∧
      ((∃ M2 y M3, c ρ1 M1 = .ok (.bl true) M2 ∧ e ρ1 M2 = .ok y M3 ∧ I (i + 1) (acc ++ [y]) M3) ∨ ∃ M2, c ρ1 M1 = .ok (.bl false) M2 ∧ I (i + 1) acc M2)) (he : ∀ acc M, I N acc M → it.fin M = true) :
    ∀ (k i : Nat) (acc : List Val) (M : Store), i + k = N → I i acc M → ∃ ys M', lcN it t c e ρ k i acc M = .ok ys M' ∧ I N ys M'
  | 0, i, acc, M, en, h => by
    have : i = N := en
    subst this
    unfold lcN
    rw [if_pos (he acc M h)]
    exact ⟨acc, M, rfl, h⟩
  | k + 1, i, acc, M, en, h => by
    obtain ⟨v, ρ1, M1, h1, h2, h3⟩ := hs i (by omega) acc M h
    unfold lcN
    rw [h1]
    simp only []
    rw [h2]
    simp only []
    rcases h3 with ⟨M2, y, M3, h3, h4, h5⟩ | ⟨M2, h3, h4⟩
    · rw [h3]
      simp only []
      rw [h4]
      simp only []
      exact lc_inv I hs he k (i + 1) _ M3 (by omega) h5
    · rw [h3]
      simp only []
      exact lc_inv I hs he k (i + 1) _ M2 (by omega) h4
/-- the turns of a walk that stands: what it yields at i -/
structure Walks (it : Itr) (n : Nat) (f : Nat → Option Val) (M : Store) : Prop where
  cnt : it.n = n
  nxt : ∀ M', Gr M M' → ∀ i, i < n → it.nxt i M' = f i
  fin : ∀ M', Gr M M' → it.fin M' = true
theorem Gr.seq {M M' : Store} (h : Gr M M') {w : Val} {xs : List Val} (e : seqOf M w = some xs) : seqOf M' w = some xs := by
  cases w with
  | ref n => exact h.lstAt e
  | tup ys => exact e
  | _ => cases e
theorem walks_seq {M : Store} {w : Val} {xs : List Val} (h : seqOf M w = some xs) : Walks (itSeq w xs.length) xs.length (fun i => xs[i]?) M := by
  refine ⟨rfl, fun M' g i _ => ?_, fun M' g => ?_⟩
  · show (seqOf M' w).bind _ = _
    rw [g.seq h]
    rfl
  · show (match seqOf M' w with | some ys => decide (ys.length ≤ xs.length) | none => false) = true
    rw [g.seq h]
    exact decide_eq_true (Nat.le_refl _)
theorem walks_rev {M : Store} {w : Val} {xs : List Val} (h : seqOf M w = some xs) : Walks (itRev w xs.length) xs.length (fun i => xs[xs.length - 1 - i]?) M := by
  refine ⟨rfl, fun M' g i _ => ?_, fun M' g => rfl⟩
  show (seqOf M' w).bind _ = _
  rw [g.seq h]
  rfl
theorem walks_enum {M : Store} {n : Nat} {xs : List Val} (h : lstAt M n = some xs) : Walks (itEnum n xs.length) xs.length (fun i => xs[i]?.map fun y => .tup [.int i, y]) M := by
  refine ⟨rfl, fun M' g i _ => ?_, fun M' g => ?_⟩
  · show (lstAt M' n).bind _ = _
    rw [g.lstAt h]
    rfl
  · show (match lstAt M' n with | some ys => decide (ys.length ≤ xs.length) | none => false) = true
    rw [g.lstAt h]
    exact decide_eq_true (Nat.le_refl _)
theorem walks_rg (lo : Int) (n : Nat) (M : Store) : Walks (itRg lo n) n (fun i => some (.int (lo + (i : Int)))) M := ⟨rfl, fun _ _ _ _ => rfl, fun _ _ => rfl⟩
theorem walks_zip {M : Store} {w w' : Val} {xs ys : List Val} (h : seqOf M w = some xs) (h' : seqOf M w' = some ys) : Walks (itZip w w' (min xs.length ys.length)) (min xs.length ys.length) (fun i => match xs[i]?, ys[i]? with
    | some x, some y => some (.tup [x, y])
    | _, _ => none) M := by
  refine ⟨rfl, fun M' g i _ => ?_, fun M' g => ?_⟩
  · show (match seqOf M' w, seqOf M' w' with
      | some xs, some ys => (match xs[i]?, ys[i]? with
        | some x, some y => some (Val.tup [x, y])
        | _, _ => none)
      | _, _ => none) = _
    rw [g.seq h, g.seq h']
  · show (match seqOf M' w, seqOf M' w' with
      | some xs', some ys' => decide (xs'.length ≤ min xs.length ys.length) || decide (ys'.length ≤ min xs.length ys.length)
      | _, _ => false) = true
    rw [g.seq h, g.seq h']
    simp only [Bool.or_eq_true, decide_eq_true_eq]
    omega
/-- a comprehension without a test, whose turns only let the store grow: P tells thing by thing what is made -/
theorem lc_map {it : Itr} {t : Tg} {e : E} {ρ : Env} {M : Store} {n : Nat} {f : Nat → Option Val} (w : Walks it n f M) (P : Nat → Val → Store → Prop) (hP : ∀ i v M1 M2, P i v M1 → Gr M1 M2 → P i v M2)
    (hs : ∀ i, i < n → ∀ M1, Gr M M1 → ∃ v ρ1 y M2, f i = some v ∧ t v ρ M1 = .nx ρ1 M1 ∧ e ρ1 M1 = .ok y M2 ∧ Gr M1 M2 ∧ P i y M2) :
    ∃ ys M', lcN it t (eC (.bl true)) e ρ it.n 0 [] M = .ok ys M' ∧ Gr M M' ∧ ys.length = n ∧ ∀ i v, ys[i]? = some v → P i v M' := by
  obtain ⟨ys, M', h1, h2, h3, h4⟩ := lc_inv (it := it) (t := t) (c := eC (.bl true)) (e := e) (ρ := ρ) (N := n) (fun i acc M1 => Gr M M1 ∧ acc.length = i ∧ ∀ j v, acc[j]? = some v → P j v M1)
    (fun i hi acc M1 ⟨g, l, p⟩ => by
      obtain ⟨v, ρ1, y, M2, q1, q2, q3, q4, q5⟩ := hs i hi M1 g
      refine ⟨v, ρ1, M1, (w.nxt M1 g i hi).trans q1, q2, .inl ⟨M1, y, M2, rfl, q3, g.trans q4, by rw [List.length_append, l]; rfl, fun j u hu => ?_⟩⟩
      by_cases hj : j < acc.length
      · rw [List.getElem?_append_left hj] at hu
        exact hP j u M1 M2 (p j u hu) q4
      · have hl := (List.getElem?_eq_some_iff.mp hu).1
        rw [List.length_append, List.length_singleton] at hl
        have ej : j = acc.length := by omega
        subst ej
        rw [List.getElem?_append_right (Nat.le_refl _), Nat.sub_self] at hu
        cases hu
        rw [l]
        exact q5) (fun acc M1 ⟨g, _, _⟩ => w.fin M1 g) n 0 [] M (Nat.zero_add _) ⟨Gr.refl M, rfl, fun j v z => by cases z⟩
  rw [w.cnt]
  exact ⟨ys, M', h1, h2, h3, h4⟩
end Mn
end
section
set_option Elab.async false
set_option autoImplicit false
/-! Rows of ratios in the store, exact comprehensions, cuts, copies, == of rows. -/
namespace Mn
theorem lc_exact {it : Itr} {t : Tg} {e : E} {ρ : Env} {M : Store} {n : Nat} {f : Nat → Option Val} (w : Walks it n f M) (ys : List Val) (hl : ys.length = n)
    (hs : ∀ i y, ys[i]? = some y → ∃ v ρ1, f i = some v ∧ t v ρ M = .nx ρ1 M ∧ e ρ1 M = .ok y M) : lcN it t (eC (.bl true)) e ρ it.n 0 [] M = .ok ys M := by
  obtain ⟨zs, M', h1, h2, h3⟩ := lc_inv (it := it) (t := t) (c := eC (.bl true)) (e := e) (ρ := ρ) (N := n) (fun i acc M1 => M1 = M ∧ acc = ys.take i)
    (fun i hi acc M1 ⟨e1, e2⟩ => by
      subst e1 e2
      have hy : ys[i]? = some (ys[i]'(by omega)) := by simp [show i < ys.length by omega]
      obtain ⟨v, ρ1, q1, q2, q3⟩ := hs i _ hy
      exact ⟨v, ρ1, M1, (w.nxt M1 (Gr.refl M1) i hi).trans q1, q2, .inl ⟨M1, _, M1, rfl, q3, rfl, by rw [List.take_add_one, hy]; rfl⟩⟩) (fun acc M1 ⟨e1, _⟩ => by
        subst e1
        exact w.fin M1 (Gr.refl M1)) n 0 [] M (Nat.zero_add _) ⟨rfl, rfl⟩
  rw [w.cnt, h1, h2, h3, ← hl, List.take_length]
/-- a row of ratios at n -/
def Row (M : Store) (n : Nat) (qs : List Rat) : Prop := M[n]? = some (.lst (qs.map rv))
section
variable {M M' : Store} {m n : Nat} {ps qs : List Rat}
theorem Row.lst (h : Row M n qs) : lstAt M n = some (qs.map rv) := lstAt_lst h
theorem Row.seq (h : Row M n qs) : seqOf M (.ref n) = some (qs.map rv) := lstAt_lst h
theorem Row.gr (h : Row M n qs) (g : Gr M M') : Row M' n qs := g.at h
theorem Row.lt (h : Row M n qs) : n < M.length := (List.getElem?_eq_some_iff.mp h).1
theorem Row.set (h : Row M n qs) {c : Cell} (d : n ≠ m) : Row (M.set m c) n qs := by
  unfold Row
  rw [List.getElem?_set_ne (Ne.symm d)]
  exact h
theorem Row.new (M : Store) (qs : List Rat) : Row (M ++ [.lst (qs.map rv)]) M.length qs := lst_new' M _
theorem Row.app (h : Row M n qs) (c : Cell) : Row (M ++ [c]) n qs := h.gr (Gr.one M c)
theorem Row.ix (h : Row M n qs) {i : Nat} {q : Rat} (hq : qs[i]? = some q) : oIx (.ref n) (.int i) M = some (rv q, M) := oIx_nat h.lst (by rw [List.getElem?_map, hq]; rfl)
theorem Row.len (h : Row M n qs) : uLen (.ref n) M = some (.int qs.length, M) := by
  rw [uLen_ref h.lst, List.length_map]
theorem Gr.set (g : Gr M M') {c : Cell} (h : M.length ≤ m) : Gr M (M'.set m c) := by
  obtain ⟨k, rfl⟩ := g
  exact ⟨k.set (m - M.length) c, by rw [List.set_append_right _ _ h]⟩
theorem Gr.len (g : Gr M M') : M.length ≤ M'.length := by
  obtain ⟨k, rfl⟩ := g
  rw [List.length_append]
  omega
end
/-- every one below 2 ^ n -/
def SzA (n : Nat) (qs : List Rat) : Prop := ∀ q ∈ qs, Sz n q
theorem SzA.at {n i : Nat} {qs : List Rat} {q : Rat} (h : SzA n qs) (hq : qs[i]? = some q) : Sz n q := h q (List.mem_of_getElem? hq)
theorem SzA.mono {m n : Nat} {qs : List Rat} (h : SzA m qs) (k : m ≤ n) : SzA n qs := fun q hq => (h q hq).mono k
/-- several rows -/
def Rows (M : Store) : List (Nat × List Rat) → Prop
  | [] => True
  | p :: l => Row M p.1 p.2 ∧ Rows M l
theorem Rows.gr {M M' : Store} (g : Gr M M') : ∀ {l : List (Nat × List Rat)}, Rows M l → Rows M' l
  | [], _ => trivial
  | _ :: _, h => ⟨h.1.gr g, Rows.gr g h.2⟩
theorem Rows.lt {M : Store} : ∀ {l : List (Nat × List Rat)}, Rows M l → ∀ p ∈ l, p.1 < M.length
  | [], _, p, hp => by cases hp
  | _ :: _, h, p, hp => by
    rcases List.mem_cons.mp hp with e | hp
    · rw [e]
      exact h.1.lt
    · exact Rows.lt h.2 p hp
theorem Rows.set {M : Store} {m : Nat} {c : Cell} : ∀ {l : List (Nat × List Rat)}, Rows M l → (∀ p ∈ l, p.1 ≠ m) → Rows (M.set m c) l
  | [], _, _ => trivial
  | _ :: _, h, d => ⟨h.1.set (d _ List.mem_cons_self), Rows.set h.2 fun p hp => d p (List.mem_cons_of_mem _ hp)⟩
/-- things that are ratios, as a row -/
theorem rats_of {n : Nat} : ∀ {ys : List Val}, (∀ (i : Nat) v, ys[i]? = some v → ∃ q, v = rv q ∧ Sz n q) → ∃ qs : List Rat, ys = qs.map rv ∧ SzA n qs
  | [], _ => ⟨[], rfl, fun q hq => by cases hq⟩
  | y :: ys, h => by
    obtain ⟨q, rfl, hq⟩ := h 0 _ rfl
    obtain ⟨qs, rfl, hs⟩ := rats_of (ys := ys) fun i v hv => h (i + 1) v hv
    refine ⟨q :: qs, rfl, fun p hp => ?_⟩
    rcases List.mem_cons.mp hp with e | hp
    · rw [e]
      exact hq
    · exact hs p hp
/-! ### cuts -/
theorem cut_map {α β : Type} (f : α → β) (xs : List α) (lo hi : Option Int) : cut (xs.map f) lo hi = (cut xs lo hi).map f := by
  unfold cut
  rw [List.length_map, List.map_take, List.map_drop]
theorem cutIx_nat (n d k : Nat) : cutIx n d (some (k : Int)) = min k n := by
  show (if (k : Int) < 0 then ((k : Int) + (n : Int)).toNat else min (k : Int).toNat n) = min k n
  rw [if_neg (by omega), Int.toNat_natCast]
theorem cutIx_none (n d : Nat) : cutIx n d none = d := rfl
theorem cut_to {α : Type} (xs : List α) (k : Nat) : cut xs none (some (k : Int)) = xs.take k := by
  unfold cut
  rw [cutIx_nat, cutIx_none, List.drop_zero, Nat.sub_zero, List.take_eq_take_iff]
  omega
theorem cut_from {α : Type} (xs : List α) (k : Nat) : cut xs (some (k : Int)) none = xs.drop k := by
  unfold cut
  rw [cutIx_nat, cutIx_none]
  by_cases h : k ≤ xs.length
  · rw [Nat.min_eq_left h]
    exact List.take_of_length_le (by rw [List.length_drop]; omega)
  · rw [List.drop_eq_nil_of_le (by omega : xs.length ≤ min k xs.length), List.drop_eq_nil_of_le (by omega)]
    simp
theorem cut_mid {α : Type} (xs : List α) (j k : Nat) (h : j ≤ k) : cut xs (some (j : Int)) (some (k : Int)) = (xs.drop j).take (k - j) := by
  unfold cut
  rw [cutIx_nat, cutIx_nat]
  by_cases h1 : j ≤ xs.length
  · rw [Nat.min_eq_left h1, List.take_eq_take_iff, List.length_drop]
    omega
  · rw [List.drop_eq_nil_of_le (by omega : xs.length ≤ min j xs.length), List.drop_eq_nil_of_le (by omega)]
    simp
theorem cutOf_ref {M : Store} {n : Nat} {xs : List Val} (h : lstAt M n = some xs) (lo hi : Option Int) : cutOf (.ref n) lo hi M = some (.ref M.length, M ++ [.lst (cut xs lo hi)]) := by
  unfold cutOf
  simp only []
  rw [h]
  rfl
theorem uList_seq {M : Store} {v : Val} {xs : List Val} (h : seqOf M v = some xs) : uList v M = some (.ref M.length, M ++ [.lst xs]) := by
  unfold uList
  rw [h]
  rfl
theorem oMul_lst {M : Store} {n : Nat} {xs : List Val} {k : Int} (h : M[n]? = some (.lst xs)) (hk : xs.length * k.toNat ≤ szLine ∧ -(2 ^ 63) ≤ k ∧ k < 2 ^ 63) : oMul (.ref n) (.int k) M = some (.ref M.length, M ++ [.lst (List.replicate k.toNat xs).flatten]) := by
  unfold oMul
  simp only []
  rw [h]
  exact if_pos hk
theorem flat_one {α : Type} (k : Nat) (x : α) : (List.replicate k [x]).flatten = List.replicate k x := by
  induction k with
  | zero => rfl
  | succ k ih =>
    rw [List.replicate_succ, List.replicate_succ, List.flatten_cons, ih]
    rfl
theorem mApp_ref {M : Store} {n : Nat} {xs : List Val} {v : Val} (h : M[n]? = some (.lst xs)) (hz : xs.length < szLine) : mApp (.ref n) v M = some (.non, M.set n (.lst (xs ++ [v]))) := by
  unfold mApp
  simp only []
  rw [h]
  exact if_pos hz
theorem isTy_lst {M : Store} {n : Nat} {xs : List Val} (h : M[n]? = some (.lst xs)) : isTy "list" (.ref n) M = true := by
  refine decide_eq_true ?_
  unfold tyName
  simp only []
  rw [h]
theorem uIs_lst {M : Store} {n : Nat} {xs : List Val} (h : M[n]? = some (.lst xs)) (ts : List String) : uIs ts (.ref n) M = some (.bl (ts.any (isT "list")), M) := by
  unfold uIs tyName
  simp only []
  rw [h]
theorem mapO_bl (bs : List Bool) : mapO toBl (bs.map .bl) = some bs := by
  induction bs with
  | nil => rfl
  | cons b bs ih =>
    show ((mapO toBl (bs.map .bl)).map fun l => b :: l) = _
    rw [ih]
    rfl
theorem uAll_new (M : Store) (bs : List Bool) : uAll (.ref M.length) (M ++ [.lst (bs.map .bl)]) = some (.bl (bs.all id), M ++ [.lst (bs.map .bl)]) := by
  unfold uAll uAllG
  simp only []
  rw [lst_new]
  simp only []
  rw [mapO_bl]
theorem uAny_new (M : Store) (bs : List Bool) : uAny (.ref M.length) (M ++ [.lst (bs.map .bl)]) = some (.bl (bs.any id), M ++ [.lst (bs.map .bl)]) := by
  unfold uAny uAllG
  simp only []
  rw [lst_new]
  simp only []
  rw [mapO_bl]
theorem seq_lst {M : Store} {n : Nat} {xs : List Val} (h : M[n]? = some (.lst xs)) : seqOf M (.ref n) = some xs := lstAt_lst h
theorem oIx_l0 {M : Store} {n : Nat} {v : Val} {xs : List Val} (h : lstAt M n = some (v :: xs)) : oIx (.ref n) (.int 0) M = some (v, M) := oIx_nat (i := 0) h rfl
theorem oIx_l1 {M : Store} {n : Nat} {v w : Val} {xs : List Val} (h : lstAt M n = some (v :: w :: xs)) : oIx (.ref n) (.int 1) M = some (w, M) := oIx_nat (i := 1) h rfl
theorem oIx_l2 {M : Store} {n : Nat} {u v w : Val} {xs : List Val} (h : lstAt M n = some (u :: v :: w :: xs)) : oIx (.ref n) (.int 2) M = some (w, M) := oIx_nat (i := 2) h rfl
theorem sForN_go {it : Itr} {t : Tg} {b : St} {k i : Nat} {ρ ρ1 ρ2 : Env} {M M1 M2 : Store} {v : Val} (h1 : it.nxt i M = some v) (h2 : t v ρ M = .nx ρ1 M1) (h3 : b ρ1 M1 = .nx ρ2 M2) : sForN it t b (k + 1) i ρ M = sForN it t b k (i + 1) ρ2 M2 := by
  conv => lhs; unfold sForN
  rw [h1]
  simp only []
  rw [h2]
  simp only []
  rw [h3]
theorem sForN_end {it : Itr} {t : Tg} {b : St} {i : Nat} {ρ : Env} {M : Store} (h : it.fin M = true) : sForN it t b 0 i ρ M = .nx ρ M := by
  unfold sForN
  rw [if_pos h]
theorem mIns_ref {M : Store} {n : Nat} {xs : List Val} {v : Val} {i : Int} (h : M[n]? = some (.lst xs)) (hz : xs.length < szLine ∧ 0 ≤ i ∧ i < 2 ^ 63) : mIns (.ref n) (.int i) v M = some (.non, M.set n (Cell.lst (xs.take i.toNat ++ [v] ++ xs.drop i.toNat))) := by
  unfold mIns
  simp only []
  rw [h]
  exact if_pos hz
/-- n noughts, by the display and * -/
theorem rep_x {M : Store} {q : Rat} {k : Nat} (hk : k ≤ 1000000) : ∃ M', oMul (.ref M.length) (.int (k : Int)) (M ++ [Cell.lst [rv q]]) = some (.ref (M.length + 1), M') ∧ Gr M M' ∧ Row M' (M.length + 1) (List.replicate k q) := by
  have e : M.length + 1 = (M ++ [Cell.lst [rv q]]).length := by rw [List.length_append]; rfl
  have sz : szLine = 16777216 := rfl
  rw [oMul_lst (lst_new' M _) (by rw [Int.toNat_natCast, List.length_singleton]; omega), Int.toNat_natCast, flat_one, ← e]
  refine ⟨_, rfl, (Gr.one _ _).trans (Gr.one _ (Cell.lst (List.replicate k (rv q)))), ?_⟩
  rw [e, ← List.map_replicate]
  exact Row.new _ _
/-! ### == of rows, of tables -/
mutual
theorem eqv_refl : ∀ t : T, t.eqv t = true
  | .non => by simp [T.eqv]
  | .bl b => by simp [T.eqv]
  | .int i => by simp [T.eqv]
  | .str s => by simp [T.eqv]
  | .tup xs => by
    unfold T.eqv
    exact eqvs_refl xs
  | .lst xs => by
    unfold T.eqv
    exact eqvs_refl xs
theorem eqvs_refl : ∀ ts : List T, T.eqvs ts ts = true
  | [] => by simp [T.eqvs]
  | t :: ts => by
    unfold T.eqvs
    rw [eqv_refl t, eqvs_refl ts]
    rfl
end
theorem mapO_some {α β : Type} {f : α → Option β} {g : α → β} : ∀ {xs : List α}, (∀ x ∈ xs, f x = some (g x)) → mapO f xs = some (xs.map g)
  | [], _ => rfl
  | x :: xs, h => by
    unfold mapO
    rw [h x List.mem_cons_self]
    simp only []
    rw [mapO_some fun y hy => h y (List.mem_cons_of_mem _ hy)]
    rfl
/-- a ratio's tree -/
def tq (q : Rat) : T := .tup [.int q.num, .int q.den]
theorem toT_rv (M : Store) (k : Nat) (q : Rat) : toT M (k + 2) (rv q) = some (tq q) := rfl
theorem mapO_rv (M : Store) (k : Nat) : ∀ l : List Rat, mapO (toT M (k + 2)) (l.map rv) = some (l.map tq)
  | [] => rfl
  | q :: l => by
    show ((mapO (toT M (k + 2)) (l.map rv)).map fun l => tq q :: l) = _
    rw [mapO_rv M k l]
    rfl
theorem toT_row {M : Store} {n : Nat} {qs : List Rat} (h : Row M n qs) (k : Nat) : toT M (k + 3) (.ref n) = some (.lst (qs.map tq)) := by
  show (match lstAt M n with
    | some xs => (mapO (toT M (k + 2)) xs).map T.lst
    | none => none) = _
  rw [h.lst]
  simp only []
  rw [mapO_rv]
  rfl
theorem eqv_tq (p q : Rat) : (tq p).eqv (tq q) = decide (p = q) := by
  have e : (tq p).eqv (tq q) = (decide (p.num = q.num) && (decide ((p.den : Int) = q.den) && true)) := by simp [tq, T.eqv, T.eqvs]
  rw [e, Bool.and_true, ← Bool.decide_and]
  exact decide_eq_decide.mpr ⟨fun h => Rat.ext h.1 (by omega), fun h => by rw [h]; exact ⟨rfl, rfl⟩⟩
theorem eqvs_tq : ∀ ps qs : List Rat, T.eqvs (ps.map tq) (qs.map tq) = decide (ps = qs)
  | [], [] => by simp [T.eqvs]
  | [], _ :: _ => by simp [T.eqvs]
  | _ :: _, [] => by simp [T.eqvs]
  | p :: ps, q :: qs => by
    rw [List.map_cons, List.map_cons]
    unfold T.eqvs
    rw [eqv_tq, eqvs_tq ps qs, ← Bool.decide_and]
    exact decide_eq_decide.mpr (by rw [List.cons.injEq])
theorem valEq_row {M : Store} {m n : Nat} {ps qs : List Rat} (h : Row M m ps) (h' : Row M n qs) : valEq (.ref m) (.ref n) M = some (decide (ps = qs)) := by
  unfold valEq
  rw [show eqFuel = 57 + 3 from rfl, toT_row h, toT_row h']
  simp only [T.eqv]
  rw [eqvs_tq]
theorem cEq_row {M : Store} {m n : Nat} {ps qs : List Rat} (h : Row M m ps) (h' : Row M n qs) : cEq (.ref m) (.ref n) M = some (.bl (decide (ps = qs)), M) := by
  unfold cEq
  rw [valEq_row h h']
  rfl
theorem cNe_row {M : Store} {m n : Nat} {ps qs : List Rat} (h : Row M m ps) (h' : Row M n qs) : cNe (.ref m) (.ref n) M = some (.bl (!decide (ps = qs)), M) := by
  unfold cNe
  rw [valEq_row h h']
  rfl
/-- lists of rows: the same rows -/
theorem toT_two {M : Store} {n a b : Nat} {ps qs : List Rat} (h : lstAt M n = some [.ref a, .ref b]) (ha : Row M a ps) (hb : Row M b qs) : toT M eqFuel (.ref n) = some (.lst [.lst (ps.map tq), .lst (qs.map tq)]) := by
  rw [show eqFuel = 59 + 1 from rfl]
  show (match lstAt M n with
    | some xs => (mapO (toT M 59) xs).map T.lst
    | none => none) = _
  rw [h]
  have e1 : toT M 59 (.ref a) = some (.lst (ps.map tq)) := toT_row ha 56
  have e2 : toT M 59 (.ref b) = some (.lst (qs.map tq)) := toT_row hb 56
  simp only [mapO, e1, e2]
  rfl
theorem cNe_same {M : Store} {v w : Val} {t : T} (h : toT M eqFuel v = some t) (h' : toT M eqFuel w = some t) : cNe v w M = some (.bl false, M) := by
  unfold cNe valEq
  rw [h, h']
  simp only []
  rw [eqv_refl]
  rfl
theorem cEq_same {M : Store} {v w : Val} {t : T} (h : toT M eqFuel v = some t) (h' : toT M eqFuel w = some t) : cEq v w M = some (.bl true, M) := by
  unfold cEq valEq
  rw [h, h']
  simp only []
  rw [eqv_refl]
  rfl
end Mn
end
section
set_option Elab.async false
set_option autoImplicit false
set_option maxRecDepth 100000
/-! Values as trees: what a value stands for in a store, nested lists and all. -/
namespace Mn
mutual
/-- v stands for t (lists of one's own alone) -/
inductive Rp (M : Store) : Val → T → Prop
  | non : Rp M .non .non
  | bl (b : Bool) : Rp M (.bl b) (.bl b)
  | int (i : Int) : Rp M (.int i) (.int i)
  | str {s : List Nat} : s.all (fun c => decide (c < 1114112)) = true → Rp M (.str s) (.str s)
  | tup {xs : List Val} {ts : List T} : Rpl M xs ts → Rp M (.tup xs) (.tup ts)
  | lst {n : Nat} {xs : List Val} {ts : List T} : M[n]? = some (.lst xs) → Rpl M xs ts → Rp M (.ref n) (.lst ts)
inductive Rpl (M : Store) : List Val → List T → Prop
  | nil : Rpl M [] []
  | cons {x : Val} {t : T} {xs : List Val} {ts : List T} : Rp M x t → Rpl M xs ts → Rpl M (x :: xs) (t :: ts)
end
mutual
def T.dp : T → Nat
  | .tup ts => T.dps ts + 1
  | .lst ts => T.dps ts + 1
  | _ => 1
def T.dps : List T → Nat
  | [] => 0
  | t :: ts => max t.dp (T.dps ts)
end
mutual
/-- what a part of the store holds stays, where this part stays -/
theorem Rp.gr {M M' : Store} (g : Gr M M') : ∀ {v : Val} {t : T}, Rp M v t → Rp M' v t
  | _, _, .non => .non
  | _, _, .bl b => .bl b
  | _, _, .int i => .int i
  | _, _, .str h => .str h
  | _, _, .tup h => .tup (Rpl.gr g h)
  | _, _, .lst h r => .lst (g.at h) (Rpl.gr g r)
theorem Rpl.gr {M M' : Store} (g : Gr M M') : ∀ {vs : List Val} {ts : List T}, Rpl M vs ts → Rpl M' vs ts
  | _, _, .nil => .nil
  | _, _, .cons h r => .cons (Rp.gr g h) (Rpl.gr g r)
end
mutual
theorem Rp.toT {M : Store} : ∀ {v : Val} {t : T} (k : Nat), Rp M v t → t.dp ≤ k → toT M k v = some t
  | _, _, 0, r, h => by
    cases r <;> simp [T.dp] at h
  | _, _, k + 1, .non, _ => rfl
  | _, _, k + 1, .bl b, _ => rfl
  | _, _, k + 1, .int i, _ => rfl
  | _, _, k + 1, .str hs, _ => by
    unfold Mn.toT
    rw [if_pos hs]
  | _, _, k + 1, .tup r, h => by
    unfold T.dp at h
    unfold Mn.toT
    rw [Rpl.toT k r (by omega)]
    rfl
  | _, _, k + 1, .lst hn r, h => by
    unfold T.dp at h
    unfold Mn.toT
    simp only [lstAt_lst hn]
    rw [Rpl.toT k r (by omega)]
    rfl
theorem Rpl.toT {M : Store} : ∀ {vs : List Val} {ts : List T} (k : Nat), Rpl M vs ts → T.dps ts ≤ k → mapO (toT M k) vs = some ts
  | _, _, k, .nil, _ => rfl
  | _, _, k, .cons r rs, h => by
    unfold T.dps at h
    unfold mapO
    rw [Rp.toT k r (by omega)]
    simp only []
    rw [Rpl.toT k rs (by omega)]
    rfl
end
theorem valEq_rp {M : Store} {v w : Val} {t u : T} (h : Rp M v t) (h' : Rp M w u) (d : t.dp ≤ 60) (d' : u.dp ≤ 60) : valEq v w M = some (t.eqv u) := by
  unfold valEq
  rw [Rp.toT eqFuel h d, Rp.toT eqFuel h' d']
theorem cEq_rp {M : Store} {v w : Val} {t u : T} (h : Rp M v t) (h' : Rp M w u) (d : t.dp ≤ 60) (d' : u.dp ≤ 60) : cEq v w M = some (.bl (t.eqv u), M) := by
  unfold cEq
  rw [valEq_rp h h' d d']
  rfl
theorem cNe_rp {M : Store} {v w : Val} {t u : T} (h : Rp M v t) (h' : Rp M w u) (d : t.dp ≤ 60) (d' : u.dp ≤ 60) : cNe v w M = some (.bl (!t.eqv u), M) := by
  unfold cNe
  rw [valEq_rp h h' d d']
  rfl
theorem Rpl.length {M : Store} : ∀ {xs : List Val} {ts : List T}, Rpl M xs ts → xs.length = ts.length
  | _, _, .nil => rfl
  | _, _, .cons _ r => congrArg Nat.succ (Rpl.length r)
theorem Rpl.get {M : Store} : ∀ {xs : List Val} {ts : List T} {i : Nat} {t : T}, Rpl M xs ts → ts[i]? = some t → ∃ v, xs[i]? = some v ∧ Rp M v t
  | _, _, _, _, .nil, e => by cases e
  | _, _, 0, _, .cons h _, e => by
    cases e
    exact ⟨_, rfl, h⟩
  | _, _, i + 1, _, .cons _ r, e => Rpl.get (i := i) r e
theorem Rpl.getV {M : Store} : ∀ {xs : List Val} {ts : List T} {i : Nat} {v : Val}, Rpl M xs ts → xs[i]? = some v → ∃ t, ts[i]? = some t ∧ Rp M v t
  | _, _, _, _, .nil, e => by cases e
  | _, _, 0, _, .cons h _, e => by
    cases e
    exact ⟨_, rfl, h⟩
  | _, _, i + 1, _, .cons _ r, e => Rpl.getV (i := i) r e
theorem Rpl.of {M : Store} : ∀ {xs : List Val} {ts : List T}, xs.length = ts.length → (∀ (i : Nat) (v : Val) (t : T), xs[i]? = some v → ts[i]? = some t → Rp M v t) → Rpl M xs ts
  | [], [], _, _ => .nil
  | [], _ :: _, h, _ => by cases h
  | _ :: _, [], h, _ => by cases h
  | x :: xs, t :: ts, h, p => .cons (p 0 x t rfl rfl) (Rpl.of (Nat.succ.inj h) fun i v u e e' => p (i + 1) v u e e')
theorem Rpl.append {M : Store} : ∀ {xs ys : List Val} {ts us : List T}, Rpl M xs ts → Rpl M ys us → Rpl M (xs ++ ys) (ts ++ us)
  | _, _, _, _, .nil, s => s
  | _, _, _, _, .cons h r, s => .cons h (Rpl.append r s)
theorem Rpl.take {M : Store} : ∀ {xs : List Val} {ts : List T} (k : Nat), Rpl M xs ts → Rpl M (xs.take k) (ts.take k)
  | _, _, 0, _ => .nil
  | _, _, _ + 1, .nil => .nil
  | _, _, k + 1, .cons h r => .cons h (Rpl.take k r)
theorem Rpl.drop {M : Store} : ∀ {xs : List Val} {ts : List T} (k : Nat), Rpl M xs ts → Rpl M (xs.drop k) (ts.drop k)
  | _, _, 0, r => r
  | _, _, _ + 1, .nil => .nil
  | _, _, k + 1, .cons _ r => Rpl.drop k r
theorem Rpl.cut {M : Store} {xs : List Val} {ts : List T} (r : Rpl M xs ts) (lo hi : Option Int) : Rpl M (Mn.cut xs lo hi) (Mn.cut ts lo hi) := by
  unfold Mn.cut
  rw [r.length]
  exact (r.drop _).take _
theorem Rpl.set {M : Store} {x : Val} {t : T} (h : Rp M x t) : ∀ {xs : List Val} {ts : List T} (i : Nat), Rpl M xs ts → Rpl M (xs.set i x) (ts.set i t)
  | _, _, _, .nil => .nil
  | _, _, 0, .cons _ r => .cons h r
  | _, _, i + 1, .cons g r => .cons g (Rpl.set h i r)
/-! ### ratios, rows, tables -/
theorem rp_q (M : Store) (q : Rat) : Rp M (rv q) (tq q) := .tup (.cons (.int _) (.cons (.int _) .nil))
theorem Rp.q {M : Store} {v : Val} {q : Rat} (h : Rp M v (tq q)) : v = rv q := by
  unfold tq at h
  cases h with
  | tup r =>
    cases r with
    | cons r1 r2 =>
      cases r2 with
      | cons r2 r3 =>
        cases r1
        cases r2
        cases r3
        rfl
theorem rpl_q (M : Store) : ∀ qs : List Rat, Rpl M (qs.map rv) (qs.map tq)
  | [] => .nil
  | q :: qs => .cons (rp_q M q) (rpl_q M qs)
theorem Rpl.q {M : Store} : ∀ {qs : List Rat} {xs : List Val}, Rpl M xs (qs.map tq) → xs = qs.map rv
  | [], _, .nil => rfl
  | q :: qs, _, .cons h r => by rw [h.q, Rpl.q r]; rfl
/-- a row's tree, a table's -/
def tr (qs : List Rat) : T := .lst (qs.map tq)
def tt (rs : List (List Rat)) : T := .lst (rs.map tr)
theorem Row.rp {M : Store} {n : Nat} {qs : List Rat} (h : Row M n qs) : Rp M (.ref n) (tr qs) := .lst h (rpl_q M qs)
theorem Rp.row {M : Store} {v : Val} {qs : List Rat} (h : Rp M v (tr qs)) : ∃ n, v = .ref n ∧ Row M n qs := by
  unfold tr at h
  cases h with
  | lst hn r => exact ⟨_, rfl, by rw [Row, hn, r.q]⟩
/-- a list's place and things -/
theorem Rp.list {M : Store} {v : Val} {ts : List T} (h : Rp M v (.lst ts)) : ∃ n xs, v = .ref n ∧ M[n]? = some (.lst xs) ∧ Rpl M xs ts := by
  cases h with
  | lst hn r => exact ⟨_, _, rfl, hn, r⟩
/-- a table's place and rows -/
def Tab (M : Store) (n : Nat) (rs : List (List Rat)) : Prop := ∃ xs, M[n]? = some (.lst xs) ∧ Rpl M xs (rs.map tr)
theorem Tab.rp {M : Store} {n : Nat} {rs : List (List Rat)} (h : Tab M n rs) : Rp M (.ref n) (tt rs) := let ⟨_, h1, h2⟩ := h; .lst h1 h2
theorem Rp.tab {M : Store} {v : Val} {rs : List (List Rat)} (h : Rp M v (tt rs)) : ∃ n, v = .ref n ∧ Tab M n rs := by
  unfold tt at h
  cases h with
  | lst hn r => exact ⟨_, rfl, _, hn, r⟩
theorem Tab.gr {M M' : Store} {n : Nat} {rs : List (List Rat)} (h : Tab M n rs) (g : Gr M M') : Tab M' n rs := let ⟨xs, h1, h2⟩ := h; ⟨xs, g.at h1, h2.gr g⟩
theorem Tab.row {M : Store} {n i : Nat} {rs : List (List Rat)} {qs : List Rat} (h : Tab M n rs) (hi : rs[i]? = some qs) : ∃ m, oIx (.ref n) (.int i) M = some (.ref m, M) ∧ Row M m qs := by
  obtain ⟨xs, h1, h2⟩ := h
  obtain ⟨v, hv, hr⟩ := h2.get (i := i) (t := tr qs) (by rw [List.getElem?_map, hi]; rfl)
  obtain ⟨m, rfl, hm⟩ := hr.row
  exact ⟨m, oIx_nat (lstAt_lst h1) hv, hm⟩
theorem Tab.len {M : Store} {n : Nat} {rs : List (List Rat)} (h : Tab M n rs) : uLen (.ref n) M = some (.int rs.length, M) := by
  obtain ⟨xs, h1, h2⟩ := h
  rw [uLen_ref (lstAt_lst h1), h2.length, List.length_map]
theorem Tab.lt {M : Store} {n : Nat} {rs : List (List Rat)} (h : Tab M n rs) : n < M.length := let ⟨_, h1, _⟩ := h; (List.getElem?_eq_some_iff.mp h1).1
theorem dp_tq (q : Rat) : (tq q).dp = 2 := rfl
theorem dps_tq : ∀ qs : List Rat, T.dps (qs.map tq) ≤ 2
  | [] => by simp [T.dps]
  | q :: qs => by
    rw [List.map_cons]
    unfold T.dps
    have := dps_tq qs
    have := dp_tq q
    omega
theorem dp_tr (qs : List Rat) : (tr qs).dp ≤ 3 := by
  unfold tr T.dp
  have := dps_tq qs
  omega
theorem dps_tr : ∀ rs : List (List Rat), T.dps (rs.map tr) ≤ 3
  | [] => by simp [T.dps]
  | r :: rs => by
    rw [List.map_cons]
    unfold T.dps
    have := dps_tr rs
    have := dp_tr r
    omega
theorem dp_tt (rs : List (List Rat)) : (tt rs).dp ≤ 4 := by
  unfold tt T.dp
  have := dps_tr rs
  omega
theorem eqv_tr (ps qs : List Rat) : (tr ps).eqv (tr qs) = decide (ps = qs) := by
  unfold tr T.eqv
  exact eqvs_tq ps qs
theorem eqvs_tr : ∀ rs ss : List (List Rat), T.eqvs (rs.map tr) (ss.map tr) = decide (rs = ss)
  | [], [] => by simp [T.eqvs]
  | [], _ :: _ => by simp [T.eqvs]
  | _ :: _, [] => by simp [T.eqvs]
  | p :: ps, q :: qs => by
    rw [List.map_cons, List.map_cons]
    unfold T.eqvs
    rw [eqv_tr, eqvs_tr ps qs, ← Bool.decide_and]
    exact decide_eq_decide.mpr (by rw [List.cons.injEq])
theorem eqv_tt (rs ss : List (List Rat)) : (tt rs).eqv (tt ss) = decide (rs = ss) := by
  unfold tt T.eqv
  exact eqvs_tr rs ss
/-- several values -/
def Rps (M : Store) : List (Val × T) → Prop
  | [] => True
  | p :: l => Rp M p.1 p.2 ∧ Rps M l
theorem Rps.gr {M M' : Store} (g : Gr M M') : ∀ {l : List (Val × T)}, Rps M l → Rps M' l
  | [], _ => trivial
  | _ :: _, h => ⟨h.1.gr g, Rps.gr g h.2⟩
/-- a new list of what is made one by one -/
theorem rp_new {M : Store} {ys : List Val} {ts : List T} (r : Rpl M ys ts) : Rp (M ++ [.lst ys]) (.ref M.length) (.lst ts) := .lst (lst_new' M _) (r.gr (Gr.one M _))
/-- a comprehension without a test, each thing's tree told -/
theorem lc_trees {it : Itr} {t : Tg} {e : E} {ρ : Env} {M : Store} {n : Nat} {f : Nat → Option Val} (w : Walks it n f M) (ts : List T) (hl : ts.length = n)
    (hs : ∀ i u, ts[i]? = some u → ∀ M1, Gr M M1 → ∃ v ρ1 y M2, f i = some v ∧ t v ρ M1 = .nx ρ1 M1 ∧ e ρ1 M1 = .ok y M2 ∧ Gr M1 M2 ∧ Rp M2 y u) :
    ∃ ys M', lcN it t (eC (.bl true)) e ρ it.n 0 [] M = .ok ys M' ∧ Gr M M' ∧ Rpl M' ys ts := by
  obtain ⟨ys, M', h1, h2, h3, h4⟩ := lc_map (it := it) (t := t) (e := e) (ρ := ρ) w (fun i v M1 => ∀ u, ts[i]? = some u → Rp M1 v u) (fun i v M1 M2 h g u hu => (h u hu).gr g) (fun i hi M1 g => by
    have hu : ts[i]? = some (ts[i]'(by omega)) := List.getElem?_eq_getElem (by omega)
    obtain ⟨v, ρ1, y, M2, q1, q2, q3, q4, q5⟩ := hs i _ hu M1 g
    refine ⟨v, ρ1, y, M2, q1, q2, q3, q4, fun u hu2 => ?_⟩
    rw [hu] at hu2
    cases hu2
    exact q5)
  exact ⟨ys, M', h1, h2, Rpl.of (by rw [h3, hl]) fun i v u hv hu => h4 i v hv u hu⟩
end Mn
end
section
set_option Elab.async false
set_option autoImplicit false
set_option maxRecDepth 100000
set_option maxHeartbeats 2000000
open Mn
local macro_rules | `(tactic| array_get_dec) => `(tactic| simp (disch := first | assumption | rfl | decide | decide +kernel) only [oMul_int, oDiv_int, oDiv_sm, oDm_int, oDm_sm, oMax_int, oMin_int, uInt_int, uInt_bl, oMod_int, oPow_int, eBin_k, kBin1_ok, kBin2_ok, eUn_k, kUn_ok, of_some, eC_k, eVar_k, evL_nil, evL_k, kL1_ok, kL2_ok, eAnd_k, kAnd_t, kAnd_f, eOr_k, kOr_t, kOr_f, eNot_k, kNot_ok, eChain_k, kCh0_ok, kCh1_ok, kCh2_t, kCh2_f, kCh3_ok,
  eTup_k, kTup_1, kTup_2, kTup_3, kTup_4, kLst_0, kLst_1, kLst_2, kLst_3, kLst_4, kLst_5, kLst_6, kTup_ok, kLst_ok, eLst_k, eCall_k, kCall_ok, sSeq_k, kSeq_nx, kSeq_ret, kSeq_ct, kSeq_bk, kSeq_exc, sPass_k, sAsg_k, kAsg_ok, kAsg_exc, kTg_nx, tName_k, tAll_nil, tTup_2, tTup_3, tTup_4, tTup_rv, tAll_cons, tSub_k, kSub1_ok, kSub2_ok, kPut_some, sCt_k, sBk_k, sRet_k, kRet_ok, kRet_exc, sDrop_k, kDrop_ok, sRaise_k, sIf_k, kIf_t, kIf_f, sPar_k, kPar_ok, sFor_k, kFor_ok, mkFn_0, mkFn_1, mkFn_2, mkFn_3, mkFn_4, mkFn_5, mkFn_6, kFn_ret, kFn_nx, kFn_exc,
  sTry_k, kTry_nx, kTry_ret, kTry_exc, handle_nil, kCl_nx, kCl_ret, eM0_k, eM1_k, eM2_k, kM2a_ok, kM2b_ok, eLc_k, kLcE_ok, eSl_k, kSlA_ok, kSlB_ok, kSlC_ok, ePart_none, ePart_k, kPt_ok, iList_k, iEnum_k, iZip_k, kZp_ok, iRev_k, iRange1_k, iRange2_k, kR2_ok,
  oAdd_int, oSub_int, oNeg_int, cLt_int, cLe_int, cGt_int, cGe_int, cEq_int, cNe_int, cEq_bl, cNe_bl, cIsN_k, cNotN_k, cEq_tt, cNe_tt, oIx_rv0, oIx_rv1, rv0, rv1, cEq_rv, cNe_rv, uIs_rv, uLen_rv, uAbs_int, uLen_tup, oIx_0, oIx_1, uIs_int, uIs_tup, uIs_bl, uIs_non, uIs_exc, ty_tuple_tuple, ty_tuple_list, ty_tuple_int, ty_tuple_bool, ty_tuple_str, ty_tuple_NoneType, ty_list_tuple, ty_list_list, ty_list_int, ty_list_bool, ty_list_str, ty_list_NoneType, ty_int_tuple, ty_int_list, ty_int_int, ty_int_bool, ty_int_str, ty_int_NoneType, ty_bool_tuple, ty_bool_list, ty_bool_int, ty_bool_bool, ty_bool_str, ty_bool_NoneType, ty_str_tuple, ty_str_list, ty_str_int, ty_str_bool, ty_str_str, ty_str_NoneType,
  List.map_cons, List.map_nil, List.cons_append, List.nil_append, List.append_nil, List.reduceReplicate, Nat.reduceSub, List.getElem?_cons_zero, List.getElem?_cons_succ, List.set_cons_zero, List.set_cons_succ, List.length_cons, List.length_nil, Nat.zero_add, Nat.reduceAdd, decide_true, decide_false, beq_self_eq_true, Bool.not_true, Bool.not_false])
/-! The ratios: the program's, the texts' own. -/
namespace Z
open Mn
theorem p_shared_ok {n : Nat} {a b : Int} (hb : Lt2 n b) (hn : n ≤ 1000000000) (M : Store) : p_shared [.int a, .int b] M = .ok (.int (Int.gcd a b : Nat)) M := by
  unfold p_shared
  array_get_dec
  unfold p_shared.b
  array_get_dec
  have e1 : ∀ x : Int, (if x < 0 then -x else x) = (x.natAbs : Int) := fun x => by split <;> omega
  rw [e1, e1]
  obtain ⟨⟨x, y, r⟩, hI, hp, hw⟩ := while_run (σ := Nat × Nat × Option Val) (c := eBin cNe (eVar 1) (eC (.int 0))) (b := sSeq (sAsg (tName 2) (eBin oMod (eVar 0) (eVar 1))) (sSeq (sAsg (tName 0) (eVar 1)) (sAsg (tName 1) (eVar 2))))
    (fun s => [some (.int s.1), some (.int s.2.1), s.2.2]) M (fun s => !decide ((s.2.1 : Int) = 0)) (fun s => (s.2.1, s.1 % s.2.1, some (.int (s.1 % s.2.1 : Nat)))) (fun s => Nat.gcd s.1 s.2.1 = Int.gcd a b) (fun s => est s.1 s.2.1)
    (fun s _ => by array_get_dec) (fun s hs hp => by
      have h0 : s.2.1 ≠ 0 := by simpa using hp
      have h1 : (s.2.1 : Int) ≠ 0 := by omega
      refine ⟨?_, (gcd_step _ _).trans hs, ?_⟩
      · array_get_dec
        simp only [fmod_nat]
      · show est s.2.1 (s.1 % s.2.1) < est s.1 s.2.1
        rw [est_pos s.1 h0]
        omega) whileLine (a.natAbs, b.natAbs, none) rfl (est_line hb hn _)
  unfold sWhile
  rw [hw]
  have hy : y = 0 := by simpa using hp
  subst hy
  have hx : x = Int.gcd a b := by simpa using hI
  rw [← hx]
  array_get_dec
theorem fdiv_dvd {a g : Int} (h : g ∣ a) (h0 : g ≠ 0) : a.fdiv g = a / g := by
  obtain ⟨k, rfl⟩ := h
  rw [Int.mul_fdiv_cancel_left _ h0, Int.mul_ediv_cancel_left _ h0]
theorem fdiv_neg_dvd {a g : Int} (h : g ∣ a) (h0 : g ≠ 0) : a.fdiv (-g) = -(a / g) := by
  obtain ⟨k, rfl⟩ := h
  have e : g * k = -g * -k := by grind
  rw [Int.mul_ediv_cancel_left _ h0, e, Int.mul_fdiv_cancel_left _ (by omega)]
theorem p_ratio_exc {a : Int} (M : Store) : p_ratio [.int a, .int 0] M = .exc "NoRatio" M := by
  unfold p_ratio
  array_get_dec
  unfold p_ratio.b
  array_get_dec
theorem gcd_lt {n : Nat} {a b : Int} (hb : b ≠ 0) (h : Lt2 n b) : Lt2 n (Int.gcd a b : Int) := by
  refine h.le ?_
  rw [Int.natAbs_natCast]
  exact Nat.le_of_dvd (by omega) (Int.gcd_dvd_natAbs_right a b)
theorem gcd_mul_num {a b : Int} (hb : b ≠ 0) : (if b < 0 then -(Int.gcd a b : Int) else (Int.gcd a b : Int)) * (Rat.divInt a b).num = a ∧ (if b < 0 then -(Int.gcd a b : Int) else (Int.gcd a b : Int)) * ((Rat.divInt a b).den : Int) = b := by
  obtain ⟨e1, e2⟩ := red_num (a := a) hb
  rw [e1, e2]
  have h1 := Int.mul_ediv_cancel' (Int.gcd_dvd_left a b)
  have h2 := Int.mul_ediv_cancel' (Int.gcd_dvd_right a b)
  split
  · exact ⟨by rw [Int.neg_mul_neg]; exact h1, by rw [Int.neg_mul_neg]; exact h2⟩
  · exact ⟨h1, h2⟩
/-- the divisions of a reduction: a small bottom, or a small outcome -/
theorem red_div {m : Nat} {a b : Int} (hb : b ≠ 0) (hm : Lt2 m b) (h : m ≤ 9000 ∨ Sz 4500 (Rat.divInt a b)) : divOk a (if b < 0 then -(Int.gcd a b : Int) else (Int.gcd a b : Int)) = true ∧ divOk b (if b < 0 then -(Int.gcd a b : Int) else (Int.gcd a b : Int)) = true := by
  have g0 : (Int.gcd a b : Int) ≠ 0 := by
    have : Int.gcd a b ≠ 0 := fun z => hb (Int.gcd_eq_zero_iff.mp z).2
    omega
  rcases h with h | h
  · have hg := gcd_lt (a := a) hb hm
    have d : Lt2 m (if b < 0 then -(Int.gcd a b : Int) else (Int.gcd a b : Int)) := by
      split
      · exact hg.neg
      · exact hg
    exact ⟨divOk_lt d h a, divOk_lt d h b⟩
  · obtain ⟨e1, e2⟩ := gcd_mul_num (a := a) hb
    have n0 : (if b < 0 then -(Int.gcd a b : Int) else (Int.gcd a b : Int)) ≠ 0 := by split <;> omega
    have q1 := divOk_quo n0 h.1 (Nat.le_refl _)
    have q2 := divOk_quo n0 h.den (Nat.le_refl _)
    rw [e1] at q1
    rw [e2] at q2
    exact ⟨q1, q2⟩
theorem p_ratio_ok {m : Nat} {a b : Int} (hb0 : b ≠ 0) (hb : Lt2 m b) (hm : m ≤ 1000000000) (hd : m ≤ 9000 ∨ Sz 4500 (Rat.divInt a b)) (M : Store) : p_ratio [.int a, .int b] M = .ok (rv (Rat.divInt a b)) M := by
  unfold p_ratio
  array_get_dec
  unfold p_ratio.b
  array_get_dec
  rw [decide_eq_false hb0]
  array_get_dec
  rw [p_shared_ok hb hm]
  array_get_dec
  have g0 : (Int.gcd a b : Int) ≠ 0 := by
    have : Int.gcd a b ≠ 0 := fun z => hb0 (Int.gcd_eq_zero_iff.mp z).2
    omega
  obtain ⟨e1, e2⟩ := red_num (a := a) hb0
  obtain ⟨d1, d2⟩ := red_div hb0 hb hd
  by_cases hs : b < 0
  · rw [decide_eq_true hs]
    array_get_dec
    have g1 : -(Int.gcd a b : Int) ≠ 0 := by omega
    rw [if_pos hs] at e1 e2 d1 d2
    array_get_dec
    rw [fdiv_neg_dvd (Int.gcd_dvd_left a b) g0, fdiv_neg_dvd (Int.gcd_dvd_right a b) g0]
    rw [← e1, ← e2]
    rfl
  · rw [decide_eq_false hs]
    array_get_dec
    rw [if_neg hs] at e1 e2 d1 d2
    array_get_dec
    rw [fdiv_dvd (Int.gcd_dvd_left a b) g0, fdiv_dvd (Int.gcd_dvd_right a b) g0]
    rw [← e1, ← e2]
    rfl
theorem sz_add {m n : Nat} {p q : Rat} (hp : Sz m p) (hq : Sz n q) : Sz (m + n + 1) (p + q) := by
  rw [← rat_add]
  refine sz_divInt (Int.mul_ne_zero (den_ne p) (den_ne q)) ?_ ((hp.den.mul hq.den).mono (by omega))
  exact ((hp.1.mul hq.den).add (hq.1.mul hp.den)).mono (by omega)
theorem sz_sub {m n : Nat} {p q : Rat} (hp : Sz m p) (hq : Sz n q) : Sz (m + n + 1) (p - q) := by
  rw [← rat_sub]
  refine sz_divInt (Int.mul_ne_zero (den_ne p) (den_ne q)) ?_ ((hp.den.mul hq.den).mono (by omega))
  exact ((hp.1.mul hq.den).sub (hq.1.mul hp.den)).mono (by omega)
theorem sz_mul {m n : Nat} {p q : Rat} (hp : Sz m p) (hq : Sz n q) : Sz (m + n) (p * q) := by
  rw [← rat_mul]
  exact sz_divInt (Int.mul_ne_zero (den_ne p) (den_ne q)) (hp.1.mul hq.1) (hp.den.mul hq.den)
theorem sz_div {m n : Nat} {p q : Rat} (h : q ≠ 0) (hp : Sz m p) (hq : Sz n q) : Sz (m + n) (p / q) := by
  rw [← rat_div p q h]
  exact sz_divInt (Int.mul_ne_zero (den_ne p) fun z => h (Rat.num_eq_zero.mp z)) (hp.1.mul hq.den) (hp.den.mul hq.1)
theorem p_plus_ok {m n : Nat} {p q : Rat} (hp : Sz m p) (hq : Sz n q) (h : m + n + 1 ≤ 100000000) (hd : m + n ≤ 9000 ∨ Sz 4500 (p + q)) (M : Store) : p_plus [rv p, rv q] M = .ok (rv (p + q)) M := by
  unfold p_plus rv
  array_get_dec
  unfold p_plus.b
  have e1 := mulOk_lt hp.1 hq.den (by omega)
  have e2 := mulOk_lt hq.1 hp.den (by omega)
  have e3 := mulOk_lt hp.den hq.den (by omega)
  array_get_dec
  rw [p_ratio_ok (Int.mul_ne_zero (den_ne p) (den_ne q)) (hp.den.mul hq.den) (by omega) (by rw [rat_add]; exact hd), rat_add]
  array_get_dec
  rfl
theorem p_minus_ok {m n : Nat} {p q : Rat} (hp : Sz m p) (hq : Sz n q) (h : m + n + 1 ≤ 100000000) (hd : m + n ≤ 9000 ∨ Sz 4500 (p - q)) (M : Store) : p_minus [rv p, rv q] M = .ok (rv (p - q)) M := by
  unfold p_minus rv
  array_get_dec
  unfold p_minus.b
  have e1 := mulOk_lt hp.1 hq.den (by omega)
  have e2 := mulOk_lt hq.1 hp.den (by omega)
  have e3 := mulOk_lt hp.den hq.den (by omega)
  array_get_dec
  rw [p_ratio_ok (Int.mul_ne_zero (den_ne p) (den_ne q)) (hp.den.mul hq.den) (by omega) (by rw [rat_sub]; exact hd), rat_sub]
  array_get_dec
  rfl
theorem p_times_ok {m n : Nat} {p q : Rat} (hp : Sz m p) (hq : Sz n q) (h : m + n + 1 ≤ 100000000) (hd : m + n ≤ 9000 ∨ Sz 4500 (p * q)) (M : Store) : p_times [rv p, rv q] M = .ok (rv (p * q)) M := by
  unfold p_times rv
  array_get_dec
  unfold p_times.b
  have e1 := mulOk_lt hp.1 hq.1 (by omega)
  have e3 := mulOk_lt hp.den hq.den (by omega)
  array_get_dec
  rw [p_ratio_ok (Int.mul_ne_zero (den_ne p) (den_ne q)) (hp.den.mul hq.den) (by omega) (by rw [rat_mul]; exact hd), rat_mul]
  array_get_dec
  rfl
theorem p_over_ok {m n : Nat} {p q : Rat} (h0 : q ≠ 0) (hp : Sz m p) (hq : Sz n q) (h : m + n + 1 ≤ 100000000) (hd : m + n ≤ 9000 ∨ Sz 4500 (p / q)) (M : Store) : p_over [rv p, rv q] M = .ok (rv (p / q)) M := by
  unfold p_over rv
  array_get_dec
  unfold p_over.b
  have e1 := mulOk_lt hp.1 hq.den (by omega)
  have e2 := mulOk_lt hp.den hq.1 (by omega)
  have n0 : q.num ≠ 0 := fun z => h0 (Rat.num_eq_zero.mp z)
  array_get_dec
  rw [p_ratio_ok (Int.mul_ne_zero (den_ne p) n0) (hp.den.mul hq.1) (by omega) (by rw [rat_div p q h0]; exact hd), rat_div p q h0]
  array_get_dec
  rfl
theorem p_over_exc {m : Nat} {p : Rat} (hp : Sz m p) (h : m + 1 ≤ 100000000) (M : Store) : p_over [rv p, rv 0] M = .exc "NoRatio" M := by
  unfold p_over rv
  array_get_dec
  unfold p_over.b
  have e1 := mulOk_lt hp.1 (show Lt2 1 ((0 : Rat).den : Int) by decide) (by omega)
  have e2 := mulOk_lt hp.den (show Lt2 1 (0 : Rat).num by decide) (by omega)
  array_get_dec
  rw [show (p.den : Int) * (0 : Rat).num = 0 from Int.mul_zero _, p_ratio_exc]
  array_get_dec
theorem p_less_ok {m n : Nat} {p q : Rat} (hp : Sz m p) (hq : Sz n q) (h : m + n + 1 ≤ 100000000) (M : Store) : p_less [rv p, rv q] M = .ok (.bl (decide (p.num * q.den < q.num * p.den))) M := by
  unfold p_less rv
  array_get_dec
  unfold p_less.b
  have e1 := mulOk_lt hp.1 hq.den (by omega)
  have e2 := mulOk_lt hq.1 hp.den (by omega)
  array_get_dec
/-- small things -/
theorem p_plus_s {m n : Nat} {p q : Rat} (hp : Sz m p) (hq : Sz n q) (h : m + n ≤ 9000) (M : Store) : p_plus [rv p, rv q] M = .ok (rv (p + q)) M := p_plus_ok hp hq (by omega) (.inl h) M
theorem p_minus_s {m n : Nat} {p q : Rat} (hp : Sz m p) (hq : Sz n q) (h : m + n ≤ 9000) (M : Store) : p_minus [rv p, rv q] M = .ok (rv (p - q)) M := p_minus_ok hp hq (by omega) (.inl h) M
theorem p_times_s {m n : Nat} {p q : Rat} (hp : Sz m p) (hq : Sz n q) (h : m + n ≤ 9000) (M : Store) : p_times [rv p, rv q] M = .ok (rv (p * q)) M := p_times_ok hp hq (by omega) (.inl h) M
end Z
end
section
set_option Elab.async false
set_option autoImplicit false
set_option maxRecDepth 100000
set_option maxHeartbeats 2000000
open Mn
local macro_rules | `(tactic| array_get_dec) => `(tactic| simp (disch := first | assumption | rfl | decide | decide +kernel) only [oMul_int, oDiv_int, oDiv_sm, oDm_int, oDm_sm, oMax_int, oMin_int, uInt_int, uInt_bl, oMod_int, oPow_int, eBin_k, kBin1_ok, kBin2_ok, eUn_k, kUn_ok, of_some, eC_k, eVar_k, evL_nil, evL_k, kL1_ok, kL2_ok, eAnd_k, kAnd_t, kAnd_f, eOr_k, kOr_t, kOr_f, eNot_k, kNot_ok, eChain_k, kCh0_ok, kCh1_ok, kCh2_t, kCh2_f, kCh3_ok,
  eTup_k, kTup_1, kTup_2, kTup_3, kTup_4, kLst_0, kLst_1, kLst_2, kLst_3, kLst_4, kLst_5, kLst_6, kTup_ok, kLst_ok, eLst_k, eCall_k, kCall_ok, sSeq_k, kSeq_nx, kSeq_ret, kSeq_ct, kSeq_bk, kSeq_exc, sPass_k, sAsg_k, kAsg_ok, kAsg_exc, kTg_nx, tName_k, tAll_nil, tTup_2, tTup_3, tTup_4, tTup_rv, tAll_cons, tSub_k, kSub1_ok, kSub2_ok, kPut_some, sCt_k, sBk_k, sRet_k, kRet_ok, kRet_exc, sDrop_k, kDrop_ok, sRaise_k, sIf_k, kIf_t, kIf_f, sPar_k, kPar_ok, sFor_k, kFor_ok, mkFn_0, mkFn_1, mkFn_2, mkFn_3, mkFn_4, mkFn_5, mkFn_6, kFn_ret, kFn_nx, kFn_exc,
  sTry_k, kTry_nx, kTry_ret, kTry_exc, handle_nil, kCl_nx, kCl_ret, eM0_k, eM1_k, eM2_k, kM2a_ok, kM2b_ok, eLc_k, kLcE_ok, eSl_k, kSlA_ok, kSlB_ok, kSlC_ok, ePart_none, ePart_k, kPt_ok, iList_k, iEnum_k, iZip_k, kZp_ok, iRev_k, iRange1_k, iRange2_k, kR2_ok,
  oAdd_int, oSub_int, oNeg_int, cLt_int, cLe_int, cGt_int, cGe_int, cEq_int, cNe_int, cEq_bl, cNe_bl, cIsN_k, cNotN_k, cEq_tt, cNe_tt, oIx_rv0, oIx_rv1, rv0, rv1, cEq_rv, cNe_rv, uIs_rv, uLen_rv, uAbs_int, uLen_tup, oIx_0, oIx_1, uIs_int, uIs_tup, uIs_bl, uIs_non, uIs_exc, ty_tuple_tuple, ty_tuple_list, ty_tuple_int, ty_tuple_bool, ty_tuple_str, ty_tuple_NoneType, ty_list_tuple, ty_list_list, ty_list_int, ty_list_bool, ty_list_str, ty_list_NoneType, ty_int_tuple, ty_int_list, ty_int_int, ty_int_bool, ty_int_str, ty_int_NoneType, ty_bool_tuple, ty_bool_list, ty_bool_int, ty_bool_bool, ty_bool_str, ty_bool_NoneType, ty_str_tuple, ty_str_list, ty_str_int, ty_str_bool, ty_str_str, ty_str_NoneType,
  List.map_cons, List.map_nil, List.cons_append, List.nil_append, List.append_nil, List.reduceReplicate, Nat.reduceSub, List.getElem?_cons_zero, List.getElem?_cons_succ, List.set_cons_zero, List.set_cons_succ, List.length_cons, List.length_nil, Nat.zero_add, Nat.reduceAdd, decide_true, decide_false, beq_self_eq_true, Bool.not_true, Bool.not_false])
/-! The laws' own ratios. -/
namespace Z
open Mn
theorem l_whole_int (i : Int) (M : Store) : l_whole [.int i] M = .ok (.bl true) M := by
  unfold l_whole
  array_get_dec
  unfold l_whole.b
  array_get_dec
theorem num_mul_den (t : Int) {b : Int} (h : b ≠ 0) : (Rat.divInt t b).num * b = t * (Rat.divInt t b).den := by
  have e : Rat.divInt (Rat.divInt t b).num (Rat.divInt t b).den = Rat.divInt t b := Rat.num_divInt_den _
  rw [Rat.divInt_eq_divInt_iff (den_ne _) h] at e
  exact e
theorem lt2_nat {n k : Nat} (h : k < 2 ^ n) : Lt2 n (k : Int) := by
  unfold Lt2
  rw [Int.natAbs_natCast]
  exact h
theorem fmod_pos' {a b : Int} (h : 0 < b) : a.fmod b = a % b := Int.fmod_eq_emod_of_nonneg _ (by omega)
theorem fdiv_pos' {a b : Int} (h : 0 < b) : a.fdiv b = a / b := Int.fdiv_eq_ediv_of_nonneg _ (by omega)
/-- the great number of a cell, its addend apart -/
theorem great_ok {z c : Int} (hc : Lt2 20 c) (hz : Lt2 1048580 z) (M : Store) : ∃ n : Nat, n < 10 ^ 120 ∧
    mkFn 1 1 (sRet (eBin oMod (eBin oMul (eBin oMul (eBin oMul (eBin oAdd (eVar 0) (eC (.int c))) (eBin oPow (eC (.int 7)) (eC (.int 61)))) (eBin oPow (eC (.int 11)) (eC (.int 63)))) (eBin oPow (eC (.int 13)) (eC (.int 9)))) (eBin oMul (eBin oPow (eC (.int 10)) (eC (.int 60))) (eBin oPow (eC (.int 10)) (eC (.int 60)))))) [.int z] M = .ok (.int n) M := by
  have h5 : Lt2 1048581 (z + c) := (hz.add hc).mono (by decide)
  have a1 : Lt2 200 ((7 : Int) ^ (61 : Int).toNat) := by decide +kernel
  have a2 : Lt2 300 ((11 : Int) ^ (63 : Int).toNat) := by decide +kernel
  have a3 : Lt2 100 ((13 : Int) ^ (9 : Int).toNat) := by decide +kernel
  have a4 : Lt2 300 ((10 : Int) ^ (60 : Int).toNat) := by decide +kernel
  have m1 := mulOk_lt h5 a1 (by decide)
  have m2 := mulOk_lt (h5.mul a1) a2 (by decide)
  have m3 := mulOk_lt ((h5.mul a1).mul a2) a3 (by decide)
  have m4 := mulOk_lt a4 a4 (by decide)
  have d4 : (10 : Int) ^ (60 : Int).toNat * 10 ^ (60 : Int).toNat ≠ 0 := by decide +kernel
  array_get_dec
  generalize (z + c) * 7 ^ (61 : Int).toNat * 11 ^ (63 : Int).toNat * 13 ^ (9 : Int).toNat = y
  have e : (10 : Int) ^ (60 : Int).toNat * 10 ^ (60 : Int).toNat = 10 ^ 120 := by decide +kernel
  rw [e]
  rw [Int.fmod_eq_emod_of_nonneg _ (by decide +kernel)]
  have g1 := Int.emod_nonneg y (show (10 : Int) ^ 120 ≠ 0 by decide +kernel)
  have g2 := Int.emod_lt_of_pos y (show (0 : Int) < 10 ^ 120 by decide +kernel)
  generalize y % 10 ^ 120 = w at *
  obtain ⟨k, rfl⟩ := Int.eq_ofNat_of_zero_le g1
  exact ⟨k, by omega, rfl⟩
theorem cell_lt {z : Int} (hz : bits z ≤ 1048576) : Lt2 1048580 z := (lt2_bits z).mono (by omega)
theorem cell_add {z c : Int} (hz : bits z ≤ 1048576) (hc : Lt2 20 c) : Lt2 1048580 (z + c) := (((lt2_bits z).mono hz).add hc).mono (by decide)
theorem l_shared_ok {n : Nat} {a b : Int} (hb0 : 0 ≤ b) (hb : Lt2 n b) (hn : n ≤ 1000000000) (M : Store) : l_shared [.int a, .int b] M = .ok (.int (Int.gcd a b : Nat)) M := by
  unfold l_shared
  array_get_dec
  unfold l_shared.b
  array_get_dec
  have e1 : ∀ x : Int, (if x < 0 then -x else x) = (x.natAbs : Int) := fun x => by split <;> omega
  rw [e1]
  obtain ⟨⟨x, y⟩, hI, hp, hw⟩ := while_run (σ := Nat × Nat) (c := eBin cNe (eVar 1) (eC (.int 0))) (b := sPar 0 1 (eVar 1) (eBin oMod (eVar 0) (eVar 1)))
    (fun s => [some (.int s.1), some (.int s.2)]) M (fun s => !decide ((s.2 : Int) = 0)) (fun s => (s.2, s.1 % s.2)) (fun s => Nat.gcd s.1 s.2 = Int.gcd a b) (fun s => est s.1 s.2)
    (fun s _ => by array_get_dec) (fun s hs hp => by
      have h0 : s.2 ≠ 0 := by simpa using hp
      have h1 : (s.2 : Int) ≠ 0 := by omega
      refine ⟨?_, (gcd_step _ _).trans hs, ?_⟩
      · array_get_dec
        simp only [fmod_nat]
      · show est s.2 (s.1 % s.2) < est s.1 s.2
        rw [est_pos s.1 h0]
        omega) whileLine (a.natAbs, b.natAbs) rfl (est_line hb hn _)
  unfold sWhile
  have e2 : b = (b.natAbs : Int) := by omega
  rw [show [some (Val.int ↑a.natAbs), some (Val.int b)] = [some (Val.int ↑a.natAbs), some (Val.int (b.natAbs : Int))] by rw [← e2]]
  rw [hw]
  have hy : y = 0 := by simpa using hp
  subst hy
  have hx : x = Int.gcd a b := by simpa using hI
  rw [← hx]
  array_get_dec
theorem l_made_ok {n : Nat} {a b : Int} (hb0 : 0 < b) (hb : Lt2 n b) (hn : n ≤ 9000) (M : Store) : l_made [.int a, .int b] M = .ok (rv (Rat.divInt a b)) M := by
  unfold l_made
  array_get_dec
  unfold l_made.b
  array_get_dec
  rw [l_shared_ok (by omega) hb (by omega)]
  have hbn : b ≠ 0 := by omega
  have hg := gcd_lt (a := a) hbn hb
  have g0 : (Int.gcd a b : Int) ≠ 0 := by
    have : Int.gcd a b ≠ 0 := fun z => hbn (Int.gcd_eq_zero_iff.mp z).2
    omega
  obtain ⟨e1, e2⟩ := red_num (a := a) hbn
  have d1 := divOk_lt hg hn a
  have d2 := divOk_lt hg hn b
  rw [if_neg (by omega)] at e1 e2
  array_get_dec
  rw [fdiv_dvd (Int.gcd_dvd_left a b) g0, fdiv_dvd (Int.gcd_dvd_right a b) g0]
  rw [← e1, ← e2]
  rfl
theorem l_stands_ok {n m : Nat} {q : Rat} {t b : Int} (hq : Sz n q) (ht : Lt2 m t) (hb : Lt2 m b) (h : n + m ≤ 134217728) (M : Store) : l_stands [rv q, .int t, .int b] M = .ok (.bl (decide (q.num * b = t * q.den))) M := by
  unfold l_stands rv
  array_get_dec
  unfold l_stands.b
  have a0 : (["tuple"].any (isT "tuple")) = true := by decide +kernel
  have a1 : decide (((2 : Nat) : Int) = 2) = true := by decide
  have a2 : decide ((q.den : Int) < 1) = false := by
    have := q.den_nz
    rw [decide_eq_false_iff_not]
    omega
  have a3 : decide (((Int.gcd q.num q.den : Nat) : Int) = 1) = true := by
    have := q.reduced
    rw [decide_eq_true_eq]
    have e : Int.gcd q.num q.den = 1 := by
      unfold Int.gcd
      rw [Int.natAbs_natCast]
      exact this
    rw [e]
    rfl
  have m1 := mulOk_lt hq.1 hb h
  have m2 := mulOk_lt ht hq.den (by omega)
  array_get_dec
  rw [a1]
  array_get_dec
  rw [l_whole_int]
  array_get_dec
  rw [l_whole_int]
  array_get_dec
  rw [a2]
  array_get_dec
  rw [l_shared_ok (by omega) hq.den (by omega)]
  array_get_dec
  rw [a3]
  array_get_dec
theorem l_stands_div {n m : Nat} {t b : Int} (hq : Sz n (Rat.divInt t b)) (ht : Lt2 m t) (hb : Lt2 m b) (h0 : b ≠ 0) (h : n + m ≤ 134217728) (M : Store) : l_stands [rv (Rat.divInt t b), .int t, .int b] M = .ok (.bl true) M := by
  rw [l_stands_ok hq ht hb h, num_mul_den t h0]
  simp only [decide_true]
end Z
end
section
set_option Elab.async false
set_option autoImplicit false
set_option maxRecDepth 100000
set_option maxHeartbeats 2000000
open Mn
local macro_rules | `(tactic| array_get_dec) => `(tactic| simp (disch := first | assumption | rfl | decide | decide +kernel) only [oMul_int, oDiv_int, oDiv_sm, oDm_int, oDm_sm, oMax_int, oMin_int, uInt_int, uInt_bl, oMod_int, oPow_int, eBin_k, kBin1_ok, kBin2_ok, eUn_k, kUn_ok, of_some, eC_k, eVar_k, evL_nil, evL_k, kL1_ok, kL2_ok, eAnd_k, kAnd_t, kAnd_f, eOr_k, kOr_t, kOr_f, eNot_k, kNot_ok, eChain_k, kCh0_ok, kCh1_ok, kCh2_t, kCh2_f, kCh3_ok,
  eTup_k, kTup_1, kTup_2, kTup_3, kTup_4, kLst_0, kLst_1, kLst_2, kLst_3, kLst_4, kLst_5, kLst_6, kTup_ok, kLst_ok, eLst_k, eCall_k, kCall_ok, sSeq_k, kSeq_nx, kSeq_ret, kSeq_ct, kSeq_bk, kSeq_exc, sPass_k, sAsg_k, kAsg_ok, kAsg_exc, kTg_nx, tName_k, tAll_nil, tTup_2, tTup_3, tTup_4, tTup_rv, tAll_cons, tSub_k, kSub1_ok, kSub2_ok, kPut_some, sCt_k, sBk_k, sRet_k, kRet_ok, kRet_exc, sDrop_k, kDrop_ok, sRaise_k, sIf_k, kIf_t, kIf_f, sPar_k, kPar_ok, sFor_k, kFor_ok, mkFn_0, mkFn_1, mkFn_2, mkFn_3, mkFn_4, mkFn_5, mkFn_6, kFn_ret, kFn_nx, kFn_exc,
  sTry_k, kTry_nx, kTry_ret, kTry_exc, handle_nil, kCl_nx, kCl_ret, eM0_k, eM1_k, eM2_k, kM2a_ok, kM2b_ok, eLc_k, kLcE_ok, eSl_k, kSlA_ok, kSlB_ok, kSlC_ok, ePart_none, ePart_k, kPt_ok, iList_k, iEnum_k, iZip_k, kZp_ok, iRev_k, iRange1_k, iRange2_k, kR2_ok,
  oAdd_int, oSub_int, oNeg_int, cLt_int, cLe_int, cGt_int, cGe_int, cEq_int, cNe_int, cEq_bl, cNe_bl, cIsN_k, cNotN_k, cEq_tt, cNe_tt, oIx_rv0, oIx_rv1, rv0, rv1, cEq_rv, cNe_rv, uIs_rv, uLen_rv, uAbs_int, uLen_tup, oIx_0, oIx_1, uIs_int, uIs_tup, uIs_bl, uIs_non, uIs_exc, ty_tuple_tuple, ty_tuple_list, ty_tuple_int, ty_tuple_bool, ty_tuple_str, ty_tuple_NoneType, ty_list_tuple, ty_list_list, ty_list_int, ty_list_bool, ty_list_str, ty_list_NoneType, ty_int_tuple, ty_int_list, ty_int_int, ty_int_bool, ty_int_str, ty_int_NoneType, ty_bool_tuple, ty_bool_list, ty_bool_int, ty_bool_bool, ty_bool_str, ty_bool_NoneType, ty_str_tuple, ty_str_list, ty_str_int, ty_str_bool, ty_str_str, ty_str_NoneType,
  List.map_cons, List.map_nil, List.cons_append, List.nil_append, List.append_nil, List.reduceReplicate, Nat.reduceSub, List.getElem?_cons_zero, List.getElem?_cons_succ, List.set_cons_zero, List.set_cons_succ, List.length_cons, List.length_nil, Nat.zero_add, Nat.reduceAdd, decide_true, decide_false, beq_self_eq_true, Bool.not_true, Bool.not_false])
/-! A number as a ratio; the law of sums and products. -/
namespace Z
open Mn
theorem p20 : (10 : Int) ^ (20 : Int).toNat = 100000000000000000000 := by decide +kernel
theorem p30 : (10 : Int) ^ (30 : Int).toNat = 1000000000000000000000000000000 := by decide +kernel
theorem p31 : (10 : Int) ^ (31 : Int).toNat = 10000000000000000000000000000000 := by decide +kernel
theorem l_ratio_ok {n : Int} (h0 : 0 ≤ n) (M : Store) : ∃ q M', l_ratio [.int n] M = .ok (rv q) M' ∧ Sz 101 q ∧ Gr M M' := by
  unfold l_ratio
  array_get_dec
  unfold l_ratio.b
  have d1 : SmD 8 := smD_lt (show Lt2 4 8 by decide) (by decide)
  array_get_dec
  rw [fdiv_pos' (by omega), fmod_pos' (by omega)]
  have hk : 0 ≤ n / 8 := by omega
  generalize n / 8 = k at *
  have hw := Int.emod_nonneg n (show (8 : Int) ≠ 0 by decide)
  have hw' := Int.emod_lt_of_pos n (show (0 : Int) < 8 by decide)
  generalize n % 8 = w at *
  cases c0 : decide (w = 0) with
  | true =>
    have m1 : mulOk 2 ((10 : Int) ^ (20 : Int).toNat) = true := by decide +kernel
    have z1 : (2 : Int) * (10 : Int) ^ (20 : Int).toNat + 1 ≠ 0 := by decide +kernel
    array_get_dec
    rw [p20, fmod_pos' (by decide)]
    have s : Lt2 101 (k % (2 * 100000000000000000000 + 1) - 100000000000000000000) := by
      unfold Lt2
      omega
    rw [l_made_ok (by decide) (show Lt2 1 1 by decide) (by decide)]
    array_get_dec
    exact ⟨_, _, rfl, sz_divInt (by decide) s (by decide), Gr.refl _⟩
  | false =>
    cases c1 : decide (w = 1) with
    | true =>
      have m1 : mulOk 2 ((10 : Int) ^ (30 : Int).toNat) = true := by decide +kernel
      have z1 : (2 : Int) * (10 : Int) ^ (30 : Int).toNat + 1 ≠ 0 := by decide +kernel
      have z2 : (10 : Int) ^ (31 : Int).toNat ≠ 0 := by decide +kernel
      have z3 : (10 : Int) ^ (30 : Int).toNat ≠ 0 := by decide +kernel
      have d2 : SmD ((10 : Int) ^ (31 : Int).toNat) := smD_lt (show Lt2 200 ((10 : Int) ^ (31 : Int).toNat) by decide +kernel) (by decide)
      array_get_dec
      rw [c1]
      array_get_dec
      rw [p30, p31, fmod_pos' (by decide), fdiv_pos' (by decide), fmod_pos' (by decide)]
      have s : Lt2 101 (k % (2 * 1000000000000000000000000000000 + 1) - 1000000000000000000000000000000) := by
        unfold Lt2
        omega
      have g1 := Int.emod_nonneg (k / 10000000000000000000000000000000) (show (1000000000000000000000000000000 : Int) ≠ 0 by decide)
      have g2 := Int.emod_lt_of_pos (k / 10000000000000000000000000000000) (show (0 : Int) < 1000000000000000000000000000000 by decide)
      generalize k / 10000000000000000000000000000000 % 1000000000000000000000000000000 = v at *
      have s2 : Lt2 101 (1 + v) := by
        unfold Lt2
        omega
      rw [l_made_ok (by omega) s2 (by decide)]
      array_get_dec
      exact ⟨_, _, rfl, sz_divInt (by omega) s s2, Gr.refl _⟩
    | false =>
      have d2 : SmD 19 := smD_lt (show Lt2 5 19 by decide) (by decide)
      array_get_dec
      rw [c1]
      array_get_dec
      rw [fmod_pos' (by decide), fdiv_pos' (by decide), fmod_pos' (by decide)]
      have s : Lt2 101 (k % 19 - 9) := by
        unfold Lt2
        omega
      have g1 := Int.emod_nonneg (k / 19) (show (8 : Int) ≠ 0 by decide)
      have g2 := Int.emod_lt_of_pos (k / 19) (show (0 : Int) < 8 by decide)
      generalize k / 19 % 8 = v at *
      obtain ⟨j, rfl⟩ := Int.eq_ofNat_of_zero_le g1
      have hx : ∃ b : Int, 0 < b ∧ b < 13 ∧ ([Val.int 1, .int 1, .int 1, .int 2, .int 3, .int 4, .int 6, .int 12])[j]? = some (.int b) := by
        have hj : j < 8 := by omega
        match j, hj with
        | 0, _ => exact ⟨1, by decide, by decide, rfl⟩
        | 1, _ => exact ⟨1, by decide, by decide, rfl⟩
        | 2, _ => exact ⟨1, by decide, by decide, rfl⟩
        | 3, _ => exact ⟨2, by decide, by decide, rfl⟩
        | 4, _ => exact ⟨3, by decide, by decide, rfl⟩
        | 5, _ => exact ⟨4, by decide, by decide, rfl⟩
        | 6, _ => exact ⟨6, by decide, by decide, rfl⟩
        | 7, _ => exact ⟨12, by decide, by decide, rfl⟩
        | m + 8, h => omega
      obtain ⟨b, b1, b2, hb⟩ := hx
      rw [oIx_nat (lst_new _ _) hb]
      array_get_dec
      have s2 : Lt2 101 b := by
        unfold Lt2
        omega
      rw [l_made_ok b1 s2 (by decide)]
      array_get_dec
      exact ⟨_, _, rfl, sz_divInt (by omega) s s2, Gr.one _ _⟩
end Z
end
section
set_option Elab.async false
set_option autoImplicit false
set_option maxRecDepth 100000
set_option maxHeartbeats 2000000
open Mn
local macro_rules | `(tactic| array_get_dec) => `(tactic| simp (disch := first | assumption | rfl | decide | decide +kernel) only [oMul_int, oDiv_int, oDiv_sm, oDm_int, oDm_sm, oMax_int, oMin_int, uInt_int, uInt_bl, oMod_int, oPow_int, eBin_k, kBin1_ok, kBin2_ok, eUn_k, kUn_ok, of_some, eC_k, eVar_k, evL_nil, evL_k, kL1_ok, kL2_ok, eAnd_k, kAnd_t, kAnd_f, eOr_k, kOr_t, kOr_f, eNot_k, kNot_ok, eChain_k, kCh0_ok, kCh1_ok, kCh2_t, kCh2_f, kCh3_ok,
  eTup_k, kTup_1, kTup_2, kTup_3, kTup_4, kLst_0, kLst_1, kLst_2, kLst_3, kLst_4, kLst_5, kLst_6, kTup_ok, kLst_ok, eLst_k, eCall_k, kCall_ok, sSeq_k, kSeq_nx, kSeq_ret, kSeq_ct, kSeq_bk, kSeq_exc, sPass_k, sAsg_k, kAsg_ok, kAsg_exc, kTg_nx, tName_k, tAll_nil, tTup_2, tTup_3, tTup_4, tTup_rv, tAll_cons, tSub_k, kSub1_ok, kSub2_ok, kPut_some, sCt_k, sBk_k, sRet_k, kRet_ok, kRet_exc, sDrop_k, kDrop_ok, sRaise_k, sIf_k, kIf_t, kIf_f, sPar_k, kPar_ok, sFor_k, kFor_ok, mkFn_0, mkFn_1, mkFn_2, mkFn_3, mkFn_4, mkFn_5, mkFn_6, kFn_ret, kFn_nx, kFn_exc,
  sTry_k, kTry_nx, kTry_ret, kTry_exc, handle_nil, kCl_nx, kCl_ret, eM0_k, eM1_k, eM2_k, kM2a_ok, kM2b_ok, eLc_k, kLcE_ok, eSl_k, kSlA_ok, kSlB_ok, kSlC_ok, ePart_none, ePart_k, kPt_ok, iList_k, iEnum_k, iZip_k, kZp_ok, iRev_k, iRange1_k, iRange2_k, kR2_ok,
  oAdd_int, oSub_int, oNeg_int, cLt_int, cLe_int, cGt_int, cGe_int, cEq_int, cNe_int, cEq_bl, cNe_bl, cIsN_k, cNotN_k, cEq_tt, cNe_tt, oIx_rv0, oIx_rv1, rv0, rv1, cEq_rv, cNe_rv, uIs_rv, uLen_rv, uAbs_int, uLen_tup, oIx_0, oIx_1, uIs_int, uIs_tup, uIs_bl, uIs_non, uIs_exc, ty_tuple_tuple, ty_tuple_list, ty_tuple_int, ty_tuple_bool, ty_tuple_str, ty_tuple_NoneType, ty_list_tuple, ty_list_list, ty_list_int, ty_list_bool, ty_list_str, ty_list_NoneType, ty_int_tuple, ty_int_list, ty_int_int, ty_int_bool, ty_int_str, ty_int_NoneType, ty_bool_tuple, ty_bool_list, ty_bool_int, ty_bool_bool, ty_bool_str, ty_bool_NoneType, ty_str_tuple, ty_str_list, ty_str_int, ty_str_bool, ty_str_str, ty_str_NoneType,
  List.map_cons, List.map_nil, List.cons_append, List.nil_append, List.append_nil, List.reduceReplicate, Nat.reduceSub, List.getElem?_cons_zero, List.getElem?_cons_succ, List.set_cons_zero, List.set_cons_succ, List.length_cons, List.length_nil, Nat.zero_add, Nat.reduceAdd, decide_true, decide_false, beq_self_eq_true, Bool.not_true, Bool.not_false])
/-! Rows of ratios: the program's, the texts' own. -/
namespace Z
open Mn
theorem rv_neg (q : Rat) : Val.tup [.int (-q.num), .int q.den] = rv (-q) := by
  unfold rv
  rw [Rat.neg_num, Rat.neg_den]
theorem zip_get {α β γ : Type} (f : α → β → γ) {xs : List α} {ys : List β} {i : Nat} {z : γ} (h : (List.zipWith f xs ys)[i]? = some z) : ∃ x y, xs[i]? = some x ∧ ys[i]? = some y ∧ f x y = z := by
  rw [List.getElem?_zipWith] at h
  cases hx : xs[i]? with
  | none =>
    rw [hx] at h
    cases h
  | some x =>
    rw [hx] at h
    cases hy : ys[i]? with
    | none =>
      rw [hy] at h
      cases h
    | some y =>
      rw [hy] at h
      exact ⟨x, y, rfl, rfl, Option.some.inj h⟩
theorem map_get {α β : Type} {f : α → β} {xs : List α} {i : Nat} {z : β} (h : (xs.map f)[i]? = some z) : ∃ x, xs[i]? = some x ∧ f x = z := by
  rw [List.getElem?_map] at h
  exact Option.map_eq_some_iff.mp h
theorem zip_rows {M : Store} {m n : Nat} {ps qs : List Rat} (h : Row M m ps) (h' : Row M n qs) (_ : ps.length ≤ szLine) : kZp2 (.ref m) (.ok (.ref n) M) = .ok (itZip (.ref m) (.ref n) (min (ps.map rv).length (qs.map rv).length)) M := kZp2_ok (hk := rfl) (h1 := h.seq) (h2 := h'.seq)
theorem p_added_ok {M : Store} {m n a b : Nat} {ps qs : List Rat} (h : Row M m ps) (h' : Row M n qs) (hl : ps.length = qs.length) (hz : ps.length ≤ szLine) (ha : SzA a ps) (hb : SzA b qs) (hs : a + b ≤ 9000) :
    p_added [.ref m, .ref n] M = .ok (.ref M.length) (M ++ [.lst ((List.zipWith (· + ·) ps qs).map rv)]) := by
  unfold p_added
  array_get_dec
  unfold p_added.b
  array_get_dec
  rw [kZp2_ok (hk := rfl) (h1 := h.seq) (h2 := h'.seq), kLc_ok (h := by simp only [itZip, List.length_map]; omega), lc_exact (walks_zip h.seq h'.seq) ((List.zipWith (· + ·) ps qs).map rv) (by simp)]
  · array_get_dec
  · intro i y hy
    obtain ⟨z, hz2, rfl⟩ := map_get hy
    obtain ⟨p, q, hp, hq, rfl⟩ := zip_get _ hz2
    refine ⟨.tup [rv p, rv q], [some (.ref m), some (.ref n), some (rv p), some (rv q)], by rw [List.getElem?_map, List.getElem?_map, hp, hq]; rfl, rfl, ?_⟩
    array_get_dec
    rw [p_plus_s (ha.at hp) (hb.at hq) hs]
theorem p_taken_ok {M : Store} {m n a b : Nat} {ps qs : List Rat} (h : Row M m ps) (h' : Row M n qs) (hl : ps.length = qs.length) (hz : ps.length ≤ szLine) (ha : SzA a ps) (hb : SzA b qs) (hs : a + b ≤ 9000) :
    p_taken [.ref m, .ref n] M = .ok (.ref M.length) (M ++ [.lst ((List.zipWith (· - ·) ps qs).map rv)]) := by
  unfold p_taken
  array_get_dec
  unfold p_taken.b
  array_get_dec
  rw [kZp2_ok (hk := rfl) (h1 := h.seq) (h2 := h'.seq), kLc_ok (h := by simp only [itZip, List.length_map]; omega), lc_exact (walks_zip h.seq h'.seq) ((List.zipWith (· - ·) ps qs).map rv) (by simp)]
  · array_get_dec
  · intro i y hy
    obtain ⟨z, hz2, rfl⟩ := map_get hy
    obtain ⟨p, q, hp, hq, rfl⟩ := zip_get _ hz2
    refine ⟨.tup [rv p, rv q], [some (.ref m), some (.ref n), some (rv p), some (rv q)], by rw [List.getElem?_map, List.getElem?_map, hp, hq]; rfl, rfl, ?_⟩
    array_get_dec
    rw [p_minus_s (ha.at hp) (hb.at hq) hs]
theorem p_scaled_ok {M : Store} {m a b : Nat} {ps : List Rat} {q : Rat} (h : Row M m ps) (hz : ps.length ≤ szLine) (ha : SzA a ps) (hb : Sz b q) (hs : a + b ≤ 9000) :
    p_scaled [.ref m, rv q] M = .ok (.ref M.length) (M ++ [.lst ((ps.map (· * q)).map rv)]) := by
  unfold p_scaled
  array_get_dec
  unfold p_scaled.b
  array_get_dec
  rw [kSq_ok (h := h.seq), kLc_ok (h := by simp only [itSeq, List.length_map]; exact hz), lc_exact (walks_seq h.seq) ((ps.map (· * q)).map rv) (by simp)]
  · array_get_dec
  · intro i y hy
    obtain ⟨z, hz2, rfl⟩ := map_get hy
    obtain ⟨p, hp, rfl⟩ := map_get hz2
    refine ⟨rv p, [some (.ref m), some (rv q), some (rv p)], by rw [List.getElem?_map, hp]; rfl, rfl, ?_⟩
    array_get_dec
    rw [p_times_s (ha.at hp) hb hs]
theorem p_is_still_ok {M : Store} {m : Nat} {ps : List Rat} (h : Row M m ps) (hz : ps.length ≤ szLine) : ∃ M', p_is_still [.ref m] M = .ok (.bl (ps.all fun q => decide (q = 0))) M' ∧ Gr M M' := by
  unfold p_is_still
  array_get_dec
  unfold p_is_still.b
  array_get_dec
  rw [kSq_ok (h := h.seq), kLc_ok (h := by simp only [itSeq, List.length_map]; exact hz), lc_exact (walks_seq h.seq) ((ps.map fun q => decide (q = 0)).map .bl) (by simp)]
  · array_get_dec
    rw [uAll_new]
    array_get_dec
    refine ⟨_, ?_, Gr.one _ (.lst ((ps.map fun q => decide (q = 0)).map .bl))⟩
    rw [List.all_map]
    rfl
  · intro i y hy
    obtain ⟨z, hz2, rfl⟩ := map_get hy
    obtain ⟨p, hp, rfl⟩ := map_get hz2
    refine ⟨rv p, [some (.ref m), some (rv p)], by rw [List.getElem?_map, hp]; rfl, rfl, ?_⟩
    rw [show c_NOUGHT = rv 0 from rfl]
    array_get_dec
theorem new_x (M : Store) (qs : List Rat) : Gr M (M ++ [.lst (qs.map rv)]) ∧ Row (M ++ [.lst (qs.map rv)]) M.length qs := ⟨Gr.one _ _, Row.new _ _⟩
theorem szA_zip {k a b : Nat} {f : Rat → Rat → Rat} {ps qs : List Rat} (ha : SzA a ps) (hb : SzA b qs) (hf : ∀ p q, Sz a p → Sz b q → Sz k (f p q)) : SzA k (List.zipWith f ps qs) := fun r hr => by
  obtain ⟨i, hi⟩ := List.mem_iff_getElem?.mp hr
  obtain ⟨p, q, hp, hq, rfl⟩ := zip_get f hi
  exact hf p q (ha.at hp) (hb.at hq)
theorem szA_map {k a : Nat} {f : Rat → Rat} {ps : List Rat} (ha : SzA a ps) (hf : ∀ p, Sz a p → Sz k (f p)) : SzA k (ps.map f) := fun r hr => by
  obtain ⟨p, hp, rfl⟩ := List.mem_map.mp hr
  exact hf p (ha p hp)
theorem szA_rep (n k : Nat) {q : Rat} (h : Sz k q) : SzA k (List.replicate n q) := fun p hp => by
  rw [(List.mem_replicate.mp hp).2]
  exact h
theorem zip_zero {ps : List Rat} {n : Nat} (h : ps.length = n) : List.zipWith (· + ·) ps (List.replicate n 0) = ps := by
  subst h
  induction ps with
  | nil => rfl
  | cons p ps ih =>
    rw [List.length_cons, List.replicate_succ, List.zipWith_cons_cons, ih, Rat.add_zero]
theorem zero_zip {ps : List Rat} {n : Nat} (h : ps.length = n) : List.zipWith (· + ·) (List.replicate n 0) ps = ps := by
  subst h
  induction ps with
  | nil => rfl
  | cons p ps ih =>
    rw [List.length_cons, List.replicate_succ, List.zipWith_cons_cons, ih, Rat.zero_add]
theorem zip_sub_zero {ps : List Rat} {n : Nat} (h : ps.length = n) : List.zipWith (· - ·) ps (List.replicate n 0) = ps := by
  subst h
  induction ps with
  | nil => rfl
  | cons p ps ih =>
    rw [List.length_cons, List.replicate_succ, List.zipWith_cons_cons, ih]
    congr 1
    grind
theorem map_one (ps : List Rat) : ps.map (· * 1) = ps := by
  rw [show (fun x : Rat => x * 1) = id from funext fun x => Rat.mul_one x, List.map_id]
theorem map_zero (ps : List Rat) : ps.map (· * 0) = List.replicate ps.length 0 := by
  rw [show (fun x : Rat => x * 0) = fun _ => 0 from funext fun x => Rat.mul_zero x, List.map_const']
theorem all_zero (ps : List Rat) : (ps.all fun q => decide (q = 0)) = decide (ps = List.replicate ps.length 0) := by
  induction ps with
  | nil => rfl
  | cons p ps ih =>
    rw [List.all_cons, ih, List.length_cons, List.replicate_succ, ← Bool.decide_and]
    exact decide_eq_decide.mpr (by rw [List.cons.injEq])
/-! the texts' own -/
theorem l_plus_ok {m n : Nat} {p q : Rat} (hp : Sz m p) (hq : Sz n q) (h : m + n ≤ 9000) (M : Store) : l_plus [rv p, rv q] M = .ok (rv (p + q)) M := by
  unfold l_plus rv
  array_get_dec
  unfold l_plus.b
  have e1 := mulOk_lt hp.1 hq.den (by omega)
  have e2 := mulOk_lt hq.1 hp.den (by omega)
  have e3 := mulOk_lt hp.den hq.den (by omega)
  have pos : (0 : Int) < p.den * q.den := Int.mul_pos (by have := p.den_nz; omega) (by have := q.den_nz; omega)
  array_get_dec
  rw [l_made_ok pos (hp.den.mul hq.den) h, rat_add]
  array_get_dec
  rfl
theorem l_times_ok {m n : Nat} {p q : Rat} (hp : Sz m p) (hq : Sz n q) (h : m + n ≤ 9000) (M : Store) : l_times [rv p, rv q] M = .ok (rv (p * q)) M := by
  unfold l_times rv
  array_get_dec
  unfold l_times.b
  have e1 := mulOk_lt hp.1 hq.1 (by omega)
  have e3 := mulOk_lt hp.den hq.den (by omega)
  have pos : (0 : Int) < p.den * q.den := Int.mul_pos (by have := p.den_nz; omega) (by have := q.den_nz; omega)
  array_get_dec
  rw [l_made_ok pos (hp.den.mul hq.den) h, rat_mul]
  array_get_dec
  rfl
theorem l_is_row_ok {M : Store} {m n : Nat} {qs : List Rat} (h : Row M m qs) (h' : Row M n qs) (hz : qs.length < 2 ^ 61) : l_is_row [.ref m, .ref n] M = .ok (.bl true) M := by
  unfold l_is_row
  array_get_dec
  unfold l_is_row.b
  array_get_dec
  rw [uIs_lst h]
  array_get_dec
  rw [h.len]
  array_get_dec
  rw [h'.len]
  array_get_dec
  rw [h'.len]
  array_get_dec
  rw [kR1_ok (h := by omega)]
  array_get_dec
  rw [Int.toNat_natCast]
  refine for_rg (fun _ ρ M1 => M1 = M ∧ ∃ a b, ρ = [some (.ref m), some (.ref n), a, b]) (fun r => kFn (kSeq _ r) = .ok (.bl true) M) ?_ ?_ _ _ ⟨rfl, none, none, rfl⟩
  · rintro i hi ρ M1 ⟨rfl, a, b, rfl⟩
    obtain ⟨q, hq⟩ : ∃ q, qs[i]? = some q := ⟨qs[i], by simp [hi]⟩
    refine ⟨_, _, tName_k _ _ _, ?_⟩
    rw [Int.zero_add]
    array_get_dec
    rw [h.ix hq]
    array_get_dec
    rw [l_whole_int]
    array_get_dec
    rw [l_whole_int]
    array_get_dec
    rw [h'.ix hq]
    array_get_dec
    exact ⟨rfl, _, _, rfl⟩
  · rintro ρ M1 ⟨rfl, a, b, rfl⟩
    array_get_dec
theorem l_told_ok (b : Bool) (M : Store) : l_told [.bl b, .bl b] M = .ok (.bl true) M := by
  unfold l_told
  array_get_dec
  unfold l_told.b
  array_get_dec
theorem l_cell_at_ok {M : Store} {n i : Nat} {ns : List Int} (h : lstAt M n = some (ns.map .int)) : l_cell_at [.ref n, .int i] M = .ok (.int (ns.getD i 0)) M := by
  unfold l_cell_at
  array_get_dec
  unfold l_cell_at.b
  array_get_dec
  rw [uLen_ref h, List.length_map]
  array_get_dec
  by_cases hi : i < ns.length
  · rw [decide_eq_true (show (i : Int) < ns.length by omega)]
    array_get_dec
    rw [oIx_nat h (v := .int ns[i]) (by simp [hi])]
    array_get_dec
    rw [List.getD_eq_getElem?_getD, List.getElem?_eq_getElem hi]
    rfl
  · rw [decide_eq_false (show ¬ (i : Int) < ns.length by omega)]
    array_get_dec
    rw [List.getD_eq_getElem?_getD, List.getElem?_eq_none (by omega)]
    rfl
theorem bits_getD {ns : List Int} (hb : ∀ z ∈ ns, bits z ≤ 1048576) (i : Nat) : bits (ns.getD i 0) ≤ 1048576 := by
  rw [List.getD_eq_getElem?_getD]
  cases h : ns[i]? with
  | none => decide
  | some z => exact hb z (List.mem_of_getElem? h)
end Z
end
section
set_option Elab.async false
set_option autoImplicit false
set_option maxRecDepth 100000
set_option maxHeartbeats 2000000
open Mn
local macro_rules | `(tactic| array_get_dec) => `(tactic| simp (disch := first | assumption | rfl | decide | decide +kernel) only [oMul_int, oDiv_int, oDiv_sm, oDm_int, oDm_sm, oMax_int, oMin_int, uInt_int, uInt_bl, oMod_int, oPow_int, eBin_k, kBin1_ok, kBin2_ok, eUn_k, kUn_ok, of_some, eC_k, eVar_k, evL_nil, evL_k, kL1_ok, kL2_ok, eAnd_k, kAnd_t, kAnd_f, eOr_k, kOr_t, kOr_f, eNot_k, kNot_ok, eChain_k, kCh0_ok, kCh1_ok, kCh2_t, kCh2_f, kCh3_ok,
  eTup_k, kTup_1, kTup_2, kTup_3, kTup_4, kLst_0, kLst_1, kLst_2, kLst_3, kLst_4, kLst_5, kLst_6, kTup_ok, kLst_ok, eLst_k, eCall_k, kCall_ok, sSeq_k, kSeq_nx, kSeq_ret, kSeq_ct, kSeq_bk, kSeq_exc, sPass_k, sAsg_k, kAsg_ok, kAsg_exc, kTg_nx, tName_k, tAll_nil, tTup_2, tTup_3, tTup_4, tTup_rv, tAll_cons, tSub_k, kSub1_ok, kSub2_ok, kPut_some, sCt_k, sBk_k, sRet_k, kRet_ok, kRet_exc, sDrop_k, kDrop_ok, sRaise_k, sIf_k, kIf_t, kIf_f, sPar_k, kPar_ok, sFor_k, kFor_ok, mkFn_0, mkFn_1, mkFn_2, mkFn_3, mkFn_4, mkFn_5, mkFn_6, kFn_ret, kFn_nx, kFn_exc,
  sTry_k, kTry_nx, kTry_ret, kTry_exc, handle_nil, kCl_nx, kCl_ret, eM0_k, eM1_k, eM2_k, kM2a_ok, kM2b_ok, eLc_k, kLcE_ok, eSl_k, kSlA_ok, kSlB_ok, kSlC_ok, ePart_none, ePart_k, kPt_ok, iList_k, iEnum_k, iZip_k, kZp_ok, iRev_k, iRange1_k, iRange2_k, kR2_ok,
  oAdd_int, oSub_int, oNeg_int, cLt_int, cLe_int, cGt_int, cGe_int, cEq_int, cNe_int, cEq_bl, cNe_bl, cIsN_k, cNotN_k, cEq_tt, cNe_tt, oIx_rv0, oIx_rv1, rv0, rv1, cEq_rv, cNe_rv, uIs_rv, uLen_rv, uAbs_int, uLen_tup, oIx_0, oIx_1, uIs_int, uIs_tup, uIs_bl, uIs_non, uIs_exc, ty_tuple_tuple, ty_tuple_list, ty_tuple_int, ty_tuple_bool, ty_tuple_str, ty_tuple_NoneType, ty_list_tuple, ty_list_list, ty_list_int, ty_list_bool, ty_list_str, ty_list_NoneType, ty_int_tuple, ty_int_list, ty_int_int, ty_int_bool, ty_int_str, ty_int_NoneType, ty_bool_tuple, ty_bool_list, ty_bool_int, ty_bool_bool, ty_bool_str, ty_bool_NoneType, ty_str_tuple, ty_str_list, ty_str_int, ty_str_bool, ty_str_str, ty_str_NoneType,
  List.map_cons, List.map_nil, List.cons_append, List.nil_append, List.append_nil, List.reduceReplicate, Nat.reduceSub, List.getElem?_cons_zero, List.getElem?_cons_succ, List.set_cons_zero, List.set_cons_succ, List.length_cons, List.length_nil, Nat.zero_add, Nat.reduceAdd, decide_true, decide_false, beq_self_eq_true, Bool.not_true, Bool.not_false])
/-! Tables of ratios: sums of rows by shares. -/
namespace Z
open Mn
/-- rows added up, each by its share -/
def mixA : List Rat → List (List Rat) → List Rat → List Rat
  | acc, r :: rs, s :: ss => mixA (List.zipWith (· + ·) acc (r.map (· * s))) rs ss
  | acc, _, _ => acc
theorem mixA_snoc : ∀ (acc : List Rat) (rs : List (List Rat)) (ss : List Rat) (i : Nat) (r : List Rat) (s : Rat), rs[i]? = some r → ss[i]? = some s → mixA acc (rs.take (i + 1)) (ss.take (i + 1)) = List.zipWith (· + ·) (mixA acc (rs.take i) (ss.take i)) (r.map (· * s))
  | acc, [], ss, i, r, s, h, _ => by cases h
  | acc, _ :: _, [], i, r, s, _, h => by cases h
  | acc, x :: rs, y :: ss, 0, r, s, h, h' => by
    cases h
    cases h'
    simp [mixA]
  | acc, x :: rs, y :: ss, i + 1, r, s, h, h' => by
    rw [List.take_succ_cons, List.take_succ_cons]
    show mixA (List.zipWith (· + ·) acc (x.map (· * y))) (rs.take (i + 1)) (ss.take (i + 1)) = _
    rw [mixA_snoc _ rs ss i r s h h']
    rfl
theorem mixA_len : ∀ (acc : List Rat) (rs : List (List Rat)) (ss : List Rat), (∀ r ∈ rs, r.length = acc.length) → (mixA acc rs ss).length = acc.length
  | acc, [], _, _ => by simp [mixA]
  | acc, _ :: _, [], _ => by simp [mixA]
  | acc, r :: rs, s :: ss, h => by
    have hr := h r List.mem_cons_self
    have hl : (List.zipWith (· + ·) acc (r.map (· * s))).length = acc.length := by
      rw [List.length_zipWith, List.length_map]
      omega
    unfold mixA
    rw [mixA_len _ rs ss fun x hx => by rw [hl]; exact h x (List.mem_cons_of_mem _ hx), hl]
theorem mixA_sz {a b : Nat} : ∀ (rs : List (List Rat)) (ss : List Rat) (acc : List Rat) (n : Nat), SzA n acc → (∀ r ∈ rs, SzA a r) → SzA b ss → SzA (n + rs.length * (a + b + 1)) (mixA acc rs ss)
  | [], ss, acc, n, h, _, _ => by
    unfold mixA
    exact h.mono (by omega)
  | _ :: _, [], acc, n, h, _, _ => by
    unfold mixA
    exact h.mono (by omega)
  | r :: rs, s :: ss, acc, n, h, hr, hs => by
    unfold mixA
    have h1 : SzA (n + (a + b) + 1) (List.zipWith (· + ·) acc (r.map (· * s))) := szA_zip h (szA_map (hr r List.mem_cons_self) fun p hp => sz_mul hp (hs s List.mem_cons_self)) fun p q hp hq => sz_add hp hq
    have h2 := mixA_sz rs ss _ _ h1 (fun x hx => hr x (List.mem_cons_of_mem _ hx)) fun x hx => hs x (List.mem_cons_of_mem _ hx)
    refine h2.mono ?_
    rw [List.length_cons, Nat.succ_mul]
    omega
theorem p_mixed_ok {M : Store} {m n a b L : Nat} {rs : List (List Rat)} {ss : List Rat} (h : Tab M m rs) (h' : Row M n ss) (hl : rs.length = ss.length) (hL : ∀ r ∈ rs, r.length = L) (hz : L ≤ 1000000) (ha : ∀ r ∈ rs, SzA a r) (hb : SzA b ss)
    (hs : 1 + rs.length * (a + b + 1) + (a + b) ≤ 9000) : ∃ k M', p_mixed [.ref m, .ref n, .int L] M = .ok (.ref k) M' ∧ Gr M M' ∧ M.length ≤ k ∧ Row M' k (mixA (List.replicate L 0) rs ss) := by
  have szl : szLine = 16777216 := rfl
  unfold p_mixed
  array_get_dec
  unfold p_mixed.b
  array_get_dec
  rw [show c_NOUGHT = rv 0 from rfl]
  obtain ⟨M1, ex, g1, r1⟩ := rep_x (M := M) (q := 0) (k := L) (by omega)
  rw [ex]
  array_get_dec
  obtain ⟨xs, hx, rx⟩ := h
  have qx : seqOf M1 (.ref m) = some xs := seq_lst (g1.at hx)
  have qy : seqOf M1 (.ref n) = some (ss.map rv) := (h'.gr g1).seq
  rw [kZp2_ok (hk := rfl) (h1 := qx) (h2 := qy)]
  array_get_dec
  have lx : xs.length = rs.length := by rw [rx.length, List.length_map]
  refine for_zip (by rw [lx, List.length_map]; exact hl) (fun i ρ M2 => Gr M1 M2 ∧ ∃ k x y, M.length ≤ k ∧ ρ = [some (.ref m), some (.ref n), some (.int L), some (.ref k), x, y] ∧ Row M2 k (mixA (List.replicate L 0) (rs.take i) (ss.take i)))
    (fun r => ∃ k M', kFn (kSeq _ r) = .ok (.ref k) M' ∧ Gr M M' ∧ M.length ≤ k ∧ Row M' k (mixA (List.replicate L 0) rs ss)) ?_ ?_ ?_ _ _ ⟨Gr.refl _, _, none, none, Nat.le_succ _, rfl, by simpa [mixA] using r1⟩
  · rintro i ρ M2 ⟨g, _⟩
    exact ⟨g.seq qx, g.seq qy⟩
  · rintro i x y hx2 hy2 ρ M2 ⟨g, k, x0, y0, hk, rfl, rk⟩
    obtain ⟨t, ht, hr⟩ := rx.getV hx2
    obtain ⟨r, hr2, rfl⟩ := map_get ht
    obtain ⟨s, hs2, rfl⟩ := map_get hy2
    obtain ⟨mr, rfl, rr⟩ := (hr.gr (g1.trans g)).row
    have mr1 := List.mem_of_getElem? hr2
    have hi := (List.getElem?_eq_some_iff.mp hr2).1
    refine ⟨_, _, rfl, ?_⟩
    have lr := hL r mr1
    have sp : SzA (1 + i * (a + b + 1)) (mixA (List.replicate L 0) (rs.take i) (ss.take i)) := by
      have := mixA_sz (a := a) (b := b) (rs.take i) (ss.take i) (List.replicate L 0) 1 (szA_rep _ 1 (by decide)) (fun x hx => ha x (List.mem_of_mem_take hx)) fun x hx => hb x (List.mem_of_mem_take hx)
      rw [List.length_take, Nat.min_eq_left (by omega)] at this
      exact this
    have sm : SzA (a + b) (r.map (· * s)) := szA_map (ha r mr1) fun p hp => sz_mul hp (hb.at hs2)
    have le1 : i * (a + b + 1) ≤ rs.length * (a + b + 1) := Nat.mul_le_mul_right _ (by omega)
    have la : (mixA (List.replicate L 0) (rs.take i) (ss.take i)).length = L := by
      rw [mixA_len _ _ _ fun x hx => by rw [List.length_replicate]; exact hL x (List.mem_of_mem_take hx), List.length_replicate]
    array_get_dec
    rw [p_scaled_ok rr (by omega) (ha r mr1) (hb.at hs2) (by omega)]
    array_get_dec
    obtain ⟨gx, rz⟩ := new_x M2 (r.map (· * s))
    rw [p_added_ok (rk.gr gx) rz (by rw [la, List.length_map, lr]) (by omega) sp sm (by omega)]
    array_get_dec
    obtain ⟨gy, ry⟩ := new_x (M2 ++ [.lst ((r.map (· * s)).map rv)]) (List.zipWith (· + ·) (mixA (List.replicate L 0) (rs.take i) (ss.take i)) (r.map (· * s)))
    refine ⟨g.trans (gx.trans gy), _, _, _, ?_, rfl, ?_⟩
    · rw [List.length_append]
      have := (g1.trans g).len
      omega
    · rw [mixA_snoc _ _ _ _ _ _ hr2 hs2]
      exact ry
  · rintro ρ M2 ⟨g, k, x, y, hk, rfl, rk⟩
    refine ⟨k, M2, ?_, g1.trans g, hk, ?_⟩
    · array_get_dec
    · rw [lx, List.take_length, hl, List.take_length] at rk
      exact rk
/-- a column's sum -/
def colSum (k : Nat) : Rat → List (List Rat) → List Rat → Rat
  | t, r :: rs, s :: ss => colSum k (t + r.getD k 0 * s) rs ss
  | t, _, _ => t
theorem colSum_snoc (k : Nat) : ∀ (t : Rat) (rs : List (List Rat)) (ss : List Rat) (i : Nat) (r : List Rat) (s : Rat), rs[i]? = some r → ss[i]? = some s → colSum k t (rs.take (i + 1)) (ss.take (i + 1)) = colSum k t (rs.take i) (ss.take i) + r.getD k 0 * s
  | t, [], ss, i, r, s, h, _ => by cases h
  | t, _ :: _, [], i, r, s, _, h => by cases h
  | t, x :: rs, y :: ss, 0, r, s, h, h' => by
    cases h
    cases h'
    simp [colSum]
  | t, x :: rs, y :: ss, i + 1, r, s, h, h' => by
    rw [List.take_succ_cons, List.take_succ_cons]
    show colSum k (t + x.getD k 0 * y) (rs.take (i + 1)) (ss.take (i + 1)) = _
    rw [colSum_snoc k _ rs ss i r s h h']
    rfl
theorem mixA_col (k : Nat) : ∀ (rs : List (List Rat)) (ss : List Rat) (acc : List Rat) (t : Rat), acc[k]? = some t → (∀ r ∈ rs, k < r.length) → (mixA acc rs ss)[k]? = some (colSum k t rs ss)
  | [], ss, acc, t, h, _ => by
    unfold mixA colSum
    exact h
  | _ :: _, [], acc, t, h, _ => by
    unfold mixA colSum
    exact h
  | r :: rs, s :: ss, acc, t, h, hr => by
    unfold mixA colSum
    refine mixA_col k rs ss _ _ ?_ fun x hx => hr x (List.mem_cons_of_mem _ hx)
    have hk := hr r List.mem_cons_self
    rw [List.getElem?_zipWith, h, List.getElem?_map, List.getD_eq_getElem?_getD, List.getElem?_eq_getElem hk]
    rfl
theorem cols_eq {L : Nat} {rs : List (List Rat)} {ss : List Rat} (hL : ∀ r ∈ rs, r.length = L) : (List.range L).map (fun k => colSum k 0 rs ss) = mixA (List.replicate L 0) rs ss := by
  refine List.ext_getElem? fun k => ?_
  by_cases hk : k < L
  · rw [mixA_col k rs ss _ 0 (by rw [List.getElem?_replicate, if_pos hk]) fun r hr => by rw [hL r hr]; exact hk, List.getElem?_map, List.getElem?_range hk]
    rfl
  · rw [List.getElem?_eq_none (by simp; omega), List.getElem?_eq_none (by rw [mixA_len _ _ _ fun r hr => by rw [List.length_replicate]; exact hL r hr, List.length_replicate]; omega)]
theorem colSum_sz {a b : Nat} (k : Nat) : ∀ (rs : List (List Rat)) (ss : List Rat) (t : Rat) (n : Nat), Sz n t → (∀ r ∈ rs, SzA a r) → SzA b ss → 1 ≤ a → Sz (n + rs.length * (a + b + 1)) (colSum k t rs ss)
  | [], ss, t, n, h, _, _, _ => by
    unfold colSum
    exact h.mono (by omega)
  | _ :: _, [], t, n, h, _, _, _ => by
    unfold colSum
    exact h.mono (by omega)
  | r :: rs, s :: ss, t, n, h, hr, hs, h1 => by
    unfold colSum
    have hg : Sz a (r.getD k 0) := by
      rw [List.getD_eq_getElem?_getD]
      cases e : r[k]? with
      | none => exact (show Sz 1 0 by decide).mono h1
      | some q => exact (hr r List.mem_cons_self).at e
    have h2 := colSum_sz k rs ss _ _ (sz_add h (sz_mul hg (hs s List.mem_cons_self))) (fun x hx => hr x (List.mem_cons_of_mem _ hx)) (fun x hx => hs x (List.mem_cons_of_mem _ hx)) h1
    refine h2.mono ?_
    rw [List.length_cons, Nat.succ_mul]
    omega
theorem l_due_ok {M : Store} {m n a b L : Nat} {rs : List (List Rat)} {ss : List Rat} (h : Tab M m rs) (h' : Row M n ss) (hl : rs.length = ss.length) (hL : ∀ r ∈ rs, r.length = L) (hz : L ≤ 1000000) (hr : rs.length ≤ 1000000) (ha : ∀ r ∈ rs, SzA a r) (hb : SzA b ss) (h1 : 1 ≤ a)
    (hs : 1 + rs.length * (a + b + 1) + (a + b) ≤ 9000) : l_due [.ref m, .ref n, .int L] M = .ok (.ref M.length) (M ++ [.lst ((mixA (List.replicate L 0) rs ss).map rv)]) := by
  have szl : szLine = 16777216 := rfl
  unfold l_due
  array_get_dec
  unfold l_due.b
  array_get_dec
  rw [kR1_ok (h := by omega), Int.toNat_natCast]
  array_get_dec
  rw [← cols_eq hL]
  refine for_rg (fun i ρ M2 => M2 = M ++ [.lst (((List.range i).map fun k => colSum k 0 rs ss).map rv)] ∧ ∃ x y z, ρ = [some (.ref m), some (.ref n), some (.int L), some (.ref M.length), x, y, z])
    (fun r => kFn (kSeq _ r) = .ok (.ref M.length) (M ++ [.lst (((List.range L).map fun k => colSum k 0 rs ss).map rv)])) ?_ ?_ _ _ ⟨rfl, none, none, none, rfl⟩
  · rintro i hi ρ M2 ⟨rfl, x, y, z, rfl⟩
    have g := Gr.one M (.lst (((List.range i).map fun k => colSum k 0 rs ss).map rv))
    have t2 := h.gr g
    have s2 := h'.gr g
    have d2 : Row (M ++ [.lst (((List.range i).map fun k => colSum k 0 rs ss).map rv)]) M.length ((List.range i).map fun k => colSum k 0 rs ss) := Row.new _ _
    generalize hM : M ++ [.lst (((List.range i).map fun k => colSum k 0 rs ss).map rv)] = M2 at *
    refine ⟨_, _, rfl, ?_⟩
    rw [Int.zero_add]
    array_get_dec
    rw [t2.len]
    array_get_dec
    rw [kR1_ok (h := by omega), Int.toNat_natCast]
    array_get_dec
    refine for_rg (fun j ρ M3 => M3 = M2 ∧ ∃ z, ρ = [some (.ref m), some (.ref n), some (.int L), some (.ref M.length), some (.int i), some (rv (colSum i 0 (rs.take j) (ss.take j))), z])
      (fun r => Turn (kSeq _ r) _ _) ?_ ?_ _ _ ⟨rfl, z, by simp [colSum]⟩
    · rintro j hj ρ M3 ⟨rfl, z, rfl⟩
      obtain ⟨r, hr2⟩ : ∃ r, rs[j]? = some r := ⟨_, List.getElem?_eq_getElem hj⟩
      obtain ⟨s, hs2⟩ : ∃ s, ss[j]? = some s := ⟨_, List.getElem?_eq_getElem (by omega)⟩
      have mr := List.mem_of_getElem? hr2
      obtain ⟨mm, e1, rr⟩ := t2.row hr2
      obtain ⟨q, hq⟩ : ∃ q, r[i]? = some q := ⟨_, List.getElem?_eq_getElem (by rw [hL r mr]; exact hi)⟩
      refine ⟨_, _, rfl, ?_⟩
      rw [Int.zero_add]
      array_get_dec
      rw [e1]
      array_get_dec
      rw [rr.ix hq]
      array_get_dec
      rw [s2.ix hs2]
      array_get_dec
      have sq := (ha r mr).at hq
      have sr := hb.at hs2
      have le1 : j * (a + b + 1) ≤ rs.length * (a + b + 1) := Nat.mul_le_mul_right _ (by omega)
      have sc : Sz (1 + j * (a + b + 1)) (colSum i 0 (rs.take j) (ss.take j)) := by
        have := colSum_sz (a := a) (b := b) i (rs.take j) (ss.take j) 0 1 (by decide) (fun x hx => ha x (List.mem_of_mem_take hx)) (fun x hx => hb x (List.mem_of_mem_take hx)) h1
        rw [List.length_take, Nat.min_eq_left (by omega)] at this
        exact this
      rw [l_times_ok sq sr (by omega)]
      array_get_dec
      rw [l_plus_ok sc (sz_mul sq sr) (by omega)]
      array_get_dec
      rw [colSum_snoc i 0 rs ss j r s hr2 hs2, List.getD_eq_getElem?_getD, hq]
      exact ⟨rfl, _, rfl⟩
    · rintro ρ M3 ⟨rfl, z, rfl⟩
      array_get_dec
      rw [kM1_ok (h := isTy_lst d2)]
      array_get_dec
      rw [mApp_ref d2 (by rw [List.length_map, List.length_map, List.length_range]; omega)]
      array_get_dec
      refine ⟨?_, _, _, _, rfl⟩
      rw [← hM, List.set_append_right _ _ (Nat.le_refl _), Nat.sub_self, List.set_cons_zero, hl, List.take_length, ← hl, List.take_length, List.range_succ, List.map_append, List.map_append]
      rfl
  · rintro ρ M2 ⟨rfl, x, y, z, rfl⟩
    array_get_dec
theorem _root_.Mn.Tab.cutx {M : Store} {m : Nat} {rs : List (List Rat)} (h : Tab M m rs) (lo hi : Option Int) : ∃ M', cutOf (.ref m) lo hi M = some (.ref M.length, M') ∧ Gr M M' ∧ Tab M' M.length (cut rs lo hi) := by
  obtain ⟨xs, hx, rx⟩ := h
  refine ⟨_, cutOf_ref (lstAt_lst hx) lo hi, Gr.one _ _, _, lst_new' _ _, ?_⟩
  rw [← cut_map]
  exact (rx.cut lo hi).gr (Gr.one _ _)
theorem _root_.Mn.Row.cutx {M : Store} {m : Nat} {qs : List Rat} (h : Row M m qs) (lo hi : Option Int) : ∃ M', cutOf (.ref m) lo hi M = some (.ref M.length, M') ∧ Gr M M' ∧ Row M' M.length (cut qs lo hi) := by
  refine ⟨_, cutOf_ref h.lst lo hi, Gr.one _ _, ?_⟩
  rw [cut_map]
  exact Row.new _ _
theorem l_asked_3_ok {M : Store} {m n a b L : Nat} {rs : List (List Rat)} {ss : List Rat} (h : Tab M m rs) (h' : Row M n ss) (hl : rs.length = ss.length) (hL : ∀ r ∈ rs, r.length = L) (hz : L ≤ 1000000) (hr : rs.length ≤ 1000000) (ha : ∀ r ∈ rs, SzA a r) (hb : SzA b ss) (h1 : 1 ≤ a)
    (hs : 1 + rs.length * (a + b + 1) + (a + b) ≤ 9000) : ∃ M', l_asked_3 [.ref m, .ref n, .int L] M = .ok (.bl true) M' ∧ Gr M M' := by
  have szl : szLine = 16777216 := rfl
  unfold l_asked_3
  array_get_dec
  unfold l_asked_3.b
  array_get_dec
  obtain ⟨xs, hx, rx⟩ := h
  have h : Tab M m rs := ⟨xs, hx, rx⟩
  have q1 : seqOf M (.ref m) = some xs := seq_lst hx
  have lx : xs.length = rs.length := by rw [rx.length, List.length_map]
  rw [kSq_ok (h := q1), kLc_ok (h := by
    show xs.length ≤ szLine
    omega)]
  obtain ⟨ys, M1, e1, g1, r1⟩ := lc_trees (it := itSeq (.ref m) xs.length) (t := tName 4) (e := eUn uList (eVar 4)) (ρ := wipe [some (.ref m), some (.ref n), some (.int L), none, none, none, none, none] [4]) (walks_seq q1) (rs.map tr) (by rw [List.length_map, lx]) (fun i u hu M2 g => by
    obtain ⟨r, hr2, rfl⟩ := map_get hu
    obtain ⟨v, hv, rr⟩ := rx.get hu
    obtain ⟨mm, rfl, rw1⟩ := rr.row
    refine ⟨_, _, .ref M2.length, M2 ++ [.lst (r.map rv)], hv, rfl, ?_, Gr.one _ _, (Row.new M2 r).rp⟩
    unfold wipe wipe
    array_get_dec
    rw [uList_seq (rw1.gr g).seq]
    array_get_dec)
  rw [e1]
  array_get_dec
  have gy := Gr.one M1 (.lst ys)
  have rc := rp_new r1
  generalize hM2 : M1 ++ [Cell.lst ys] = M2 at *
  generalize hc : M1.length = c at *
  replace h := (h.gr g1).gr gy
  replace h' := (h'.gr g1).gr gy
  rw [uList_seq h'.seq]
  array_get_dec
  obtain ⟨g3, r3⟩ := new_x M2 ss
  replace h := h.gr g3
  replace h' := h'.gr g3
  replace rc := rc.gr g3
  generalize hM3 : M2 ++ [Cell.lst (ss.map rv)] = M3 at *
  generalize hd : M2.length = d at *
  have g4 := Gr.one M3 (.lst [.ref c, .ref d])
  have rh := rp_new (M := M3) (.cons rc (.cons r3.rp .nil))
  replace h := h.gr g4
  replace h' := h'.gr g4
  generalize hM4 : M3 ++ [Cell.lst [.ref c, .ref d]] = M4 at *
  generalize he : M3.length = e at *
  have G4 : Gr M M4 := g1.trans (gy.trans (g3.trans g4))
  clear g1 gy g3 g4 hM2 hM3 hM4 hc hd he rc r3 r1 e1 q1
  rw [l_due_ok h h' hl hL hz hr ha hb h1 hs]
  array_get_dec
  obtain ⟨g5, r5⟩ := new_x M4 (mixA (List.replicate L 0) rs ss)
  replace h := h.gr g5
  replace h' := h'.gr g5
  replace rh := rh.gr g5
  replace G4 := G4.trans g5
  generalize hM5 : M4 ++ [.lst ((mixA (List.replicate L 0) rs ss).map rv)] = M5 at *
  generalize hf : M4.length = f at *
  clear g5 hM5 hf
  obtain ⟨k, M6, e6, g6, hk, r6⟩ := p_mixed_ok h h' hl hL hz ha hb hs
  rw [e6]
  array_get_dec
  have lm : (mixA (List.replicate L 0) rs ss).length = L := by
    rw [mixA_len _ _ _ fun r hr => by rw [List.length_replicate]; exact hL r hr, List.length_replicate]
  rw [l_is_row_ok r6 (r5.gr g6) (by omega)]
  array_get_dec
  rw [kM1_ok (h := isTy_lst r6)]
  array_get_dec
  rw [mApp_ref r6 (by rw [List.length_map]; omega)]
  array_get_dec
  have g7 : Gr M5 (M6.set k (.lst ((mixA (List.replicate L 0) rs ss).map rv ++ [.tup [.int 7, .int 1]]))) := g6.set hk
  replace h := h.gr g7
  replace h' := h'.gr g7
  replace r5 := r5.gr g7
  replace rh := rh.gr g7
  replace G4 := G4.trans g7
  generalize M6.set k (.lst ((mixA (List.replicate L 0) rs ss).map rv ++ [.tup [.int 7, .int 1]])) = M7 at *
  clear g7 g6 e6 r6 hk M6
  -- the first rows alone
  have t1 : (rs.take 1).length = (ss.take 1).length := by rw [List.length_take, List.length_take, hl]
  have tL : ∀ r ∈ rs.take 1, r.length = L := fun r hr => hL r (List.mem_of_mem_take hr)
  have tl : (rs.take 1).length ≤ rs.length := by rw [List.length_take]; omega
  have ta : ∀ r ∈ rs.take 1, SzA a r := fun r hr => ha r (List.mem_of_mem_take hr)
  have tb : SzA b (ss.take 1) := fun q hq => hb q (List.mem_of_mem_take hq)
  have ts : 1 + (rs.take 1).length * (a + b + 1) + (a + b) ≤ 9000 := by
    have := Nat.mul_le_mul_right (a + b + 1) tl
    omega
  obtain ⟨M8, e8, g8, u1⟩ := h.cutx none (some (1 : Nat))
  rw [show (1 : Int) = ((1 : Nat) : Int) from rfl, e8]
  array_get_dec
  rw [cut_to] at u1
  replace h := h.gr g8
  replace h' := h'.gr g8
  replace r5 := r5.gr g8
  replace rh := rh.gr g8
  replace G4 := G4.trans g8
  generalize M7.length = i1 at *
  clear e8 g8
  obtain ⟨M9, e9, g9, v1⟩ := h'.cutx none (some (1 : Nat))
  rw [e9]
  array_get_dec
  rw [cut_to] at v1
  replace h := h.gr g9
  replace h' := h'.gr g9
  replace u1 := u1.gr g9
  replace r5 := r5.gr g9
  replace rh := rh.gr g9
  replace G4 := G4.trans g9
  generalize M8.length = j1 at *
  clear e9 g9
  rw [l_due_ok u1 v1 t1 tL hz (by omega) ta tb h1 ts]
  array_get_dec
  obtain ⟨g10, d10⟩ := new_x M9 (mixA (List.replicate L 0) (rs.take 1) (ss.take 1))
  replace h := h.gr g10
  replace h' := h'.gr g10
  replace r5 := r5.gr g10
  replace rh := rh.gr g10
  replace G4 := G4.trans g10
  generalize M9 ++ [.lst ((mixA (List.replicate L 0) (rs.take 1) (ss.take 1)).map rv)] = M10 at *
  generalize M9.length = f1 at *
  clear u1 v1 g10
  obtain ⟨M8, e8, g8, u1⟩ := h.cutx none (some (1 : Nat))
  rw [e8]
  array_get_dec
  rw [cut_to] at u1
  replace h := h.gr g8
  replace h' := h'.gr g8
  replace r5 := r5.gr g8
  replace d10 := d10.gr g8
  replace rh := rh.gr g8
  replace G4 := G4.trans g8
  generalize M10.length = i2 at *
  clear e8 g8
  obtain ⟨M9, e9, g9, v1⟩ := h'.cutx none (some (1 : Nat))
  rw [e9]
  array_get_dec
  rw [cut_to] at v1
  replace h := h.gr g9
  replace h' := h'.gr g9
  replace u1 := u1.gr g9
  replace r5 := r5.gr g9
  replace d10 := d10.gr g9
  replace rh := rh.gr g9
  replace G4 := G4.trans g9
  generalize M8.length = j2 at *
  clear e9 g9
  obtain ⟨k2, M11, e11, g11, _, r11⟩ := p_mixed_ok u1 v1 t1 tL hz ta tb ts
  rw [e11]
  array_get_dec
  have lm2 : (mixA (List.replicate L 0) (rs.take 1) (ss.take 1)).length = L := by
    rw [mixA_len _ _ _ fun r hr => by rw [List.length_replicate]; exact tL r hr, List.length_replicate]
  rw [l_is_row_ok r11 (d10.gr g11) (by omega)]
  array_get_dec
  replace h := h.gr g11
  replace h' := h'.gr g11
  replace r5 := r5.gr g11
  replace rh := rh.gr g11
  replace G4 := G4.trans g11
  clear e11 g11 r11 u1 v1 d10
  obtain ⟨k3, M12, e12, g12, _, r12⟩ := p_mixed_ok h h' hl hL hz ha hb hs
  rw [e12]
  array_get_dec
  rw [l_is_row_ok r12 (r5.gr g12) (by omega)]
  array_get_dec
  replace h := h.gr g12
  replace h' := h'.gr g12
  replace rh := rh.gr g12
  replace G4 := G4.trans g12
  have g13 := Gr.one M12 (.lst [.ref m, .ref n])
  have rn := rp_new (M := M12) (.cons h.rp (.cons h'.rp .nil))
  have dp : (T.lst [tt rs, tr ss]).dp ≤ 60 := by
    have := dp_tt rs
    have := dp_tr ss
    simp only [T.dp, T.dps]
    omega
  replace rh : Rp M12 (.ref e) (.lst [tt rs, tr ss]) := rh
  rw [cEq_rp rn (rh.gr g13) dp dp, eqv_refl]
  array_get_dec
  exact ⟨_, rfl, G4.trans g13⟩
end Z
end
section
set_option Elab.async false
set_option autoImplicit false
set_option maxRecDepth 100000
set_option maxHeartbeats 2000000
open Mn
local macro_rules | `(tactic| array_get_dec) => `(tactic| simp (disch := first | assumption | rfl | decide | decide +kernel) only [oMul_int, oDiv_int, oDiv_sm, oDm_int, oDm_sm, oMax_int, oMin_int, uInt_int, uInt_bl, oMod_int, oPow_int, eBin_k, kBin1_ok, kBin2_ok, eUn_k, kUn_ok, of_some, eC_k, eVar_k, evL_nil, evL_k, kL1_ok, kL2_ok, eAnd_k, kAnd_t, kAnd_f, eOr_k, kOr_t, kOr_f, eNot_k, kNot_ok, eChain_k, kCh0_ok, kCh1_ok, kCh2_t, kCh2_f, kCh3_ok,
  eTup_k, kTup_1, kTup_2, kTup_3, kTup_4, kLst_0, kLst_1, kLst_2, kLst_3, kLst_4, kLst_5, kLst_6, kTup_ok, kLst_ok, eLst_k, eCall_k, kCall_ok, sSeq_k, kSeq_nx, kSeq_ret, kSeq_ct, kSeq_bk, kSeq_exc, sPass_k, sAsg_k, kAsg_ok, kAsg_exc, kTg_nx, tName_k, tAll_nil, tTup_2, tTup_3, tTup_4, tTup_rv, tAll_cons, tSub_k, kSub1_ok, kSub2_ok, kPut_some, sCt_k, sBk_k, sRet_k, kRet_ok, kRet_exc, sDrop_k, kDrop_ok, sRaise_k, sIf_k, kIf_t, kIf_f, sPar_k, kPar_ok, sFor_k, kFor_ok, mkFn_0, mkFn_1, mkFn_2, mkFn_3, mkFn_4, mkFn_5, mkFn_6, kFn_ret, kFn_nx, kFn_exc,
  sTry_k, kTry_nx, kTry_ret, kTry_exc, handle_nil, kCl_nx, kCl_ret, eM0_k, eM1_k, eM2_k, kM2a_ok, kM2b_ok, eLc_k, kLcE_ok, eSl_k, kSlA_ok, kSlB_ok, kSlC_ok, ePart_none, ePart_k, kPt_ok, iList_k, iEnum_k, iZip_k, kZp_ok, iRev_k, iRange1_k, iRange2_k, kR2_ok,
  oAdd_int, oSub_int, oNeg_int, cLt_int, cLe_int, cGt_int, cGe_int, cEq_int, cNe_int, cEq_bl, cNe_bl, cIsN_k, cNotN_k, cEq_tt, cNe_tt, oIx_rv0, oIx_rv1, rv0, rv1, cEq_rv, cNe_rv, uIs_rv, uLen_rv, uAbs_int, uLen_tup, oIx_0, oIx_1, uIs_int, uIs_tup, uIs_bl, uIs_non, uIs_exc, ty_tuple_tuple, ty_tuple_list, ty_tuple_int, ty_tuple_bool, ty_tuple_str, ty_tuple_NoneType, ty_list_tuple, ty_list_list, ty_list_int, ty_list_bool, ty_list_str, ty_list_NoneType, ty_int_tuple, ty_int_list, ty_int_int, ty_int_bool, ty_int_str, ty_int_NoneType, ty_bool_tuple, ty_bool_list, ty_bool_int, ty_bool_bool, ty_bool_str, ty_bool_NoneType, ty_str_tuple, ty_str_list, ty_str_int, ty_str_bool, ty_str_str, ty_str_NoneType,
  List.map_cons, List.map_nil, List.cons_append, List.nil_append, List.append_nil, List.reduceReplicate, Nat.reduceSub, List.getElem?_cons_zero, List.getElem?_cons_succ, List.set_cons_zero, List.set_cons_succ, List.length_cons, List.length_nil, Nat.zero_add, Nat.reduceAdd, decide_true, decide_false, beq_self_eq_true, Bool.not_true, Bool.not_false])
/-! The texts' ratios: a second kind. -/
namespace Z
open Mn
theorem twelve (j : Nat) (hj : j < 8) : ∃ b : Int, 0 < b ∧ b < 13 ∧ ([Val.int 1, .int 1, .int 1, .int 2, .int 3, .int 4, .int 6, .int 12])[j]? = some (.int b) := by
  match j, hj with
  | 0, _ => exact ⟨1, by decide, by decide, rfl⟩
  | 1, _ => exact ⟨1, by decide, by decide, rfl⟩
  | 2, _ => exact ⟨1, by decide, by decide, rfl⟩
  | 3, _ => exact ⟨2, by decide, by decide, rfl⟩
  | 4, _ => exact ⟨3, by decide, by decide, rfl⟩
  | 5, _ => exact ⟨4, by decide, by decide, rfl⟩
  | 6, _ => exact ⟨6, by decide, by decide, rfl⟩
  | 7, _ => exact ⟨12, by decide, by decide, rfl⟩
theorem l_ratio_2_ok {n : Int} (h0 : 0 ≤ n) (M : Store) : ∃ q M', l_ratio_2 [.int n] M = .ok (rv q) M' ∧ Sz 68 q ∧ Gr M M' := by
  unfold l_ratio_2
  array_get_dec
  unfold l_ratio_2.b
  array_get_dec
  rw [fdiv_pos' (by omega), fmod_pos' (by omega)]
  have hk : 0 ≤ n / 8 := by omega
  generalize n / 8 = k at *
  have hw := Int.emod_nonneg n (show (8 : Int) ≠ 0 by decide)
  have hw' := Int.emod_lt_of_pos n (show (0 : Int) < 8 by decide)
  generalize n % 8 = w at *
  cases c0 : decide (w = 0) with
  | true =>
    have m1 : mulOk 2 ((10 : Int) ^ (20 : Int).toNat) = true := by decide +kernel
    have z1 : (2 : Int) * (10 : Int) ^ (20 : Int).toNat + 1 ≠ 0 := by decide +kernel
    array_get_dec
    rw [p20, fmod_pos' (by decide)]
    have s : Lt2 68 (k % (2 * 100000000000000000000 + 1) - 100000000000000000000) := by
      unfold Lt2
      omega
    rw [l_made_ok (by decide) (show Lt2 1 1 by decide) (by decide)]
    array_get_dec
    exact ⟨_, _, rfl, sz_divInt (by decide) s (by decide), Gr.refl _⟩
  | false =>
    array_get_dec
    cases c1 : decide (w < 3) with
    | true =>
      array_get_dec
      exact ⟨0, _, rfl, by decide, Gr.refl _⟩
    | false =>
      array_get_dec
      rw [fmod_pos' (by decide), fdiv_pos' (by decide), fmod_pos' (by decide)]
      have s : Lt2 68 (k % 19 - 9) := by
        unfold Lt2
        omega
      have g1 := Int.emod_nonneg (k / 19) (show (8 : Int) ≠ 0 by decide)
      have g2 := Int.emod_lt_of_pos (k / 19) (show (0 : Int) < 8 by decide)
      generalize k / 19 % 8 = v at *
      obtain ⟨j, rfl⟩ := Int.eq_ofNat_of_zero_le g1
      obtain ⟨b, b1, b2, hb⟩ := twelve j (by omega)
      rw [oIx_nat (lst_new _ _) hb]
      array_get_dec
      have s2 : Lt2 68 b := by
        unfold Lt2
        omega
      rw [l_made_ok b1 s2 (by decide)]
      array_get_dec
      exact ⟨_, _, rfl, sz_divInt (by omega) s s2, Gr.one _ _⟩
end Z
end
section
set_option Elab.async false
set_option autoImplicit false
set_option maxRecDepth 100000
set_option maxHeartbeats 2000000
open Mn
local macro_rules | `(tactic| array_get_dec) => `(tactic| simp (disch := first | assumption | rfl | decide | decide +kernel) only [oMul_int, oDiv_int, oDiv_sm, oDm_int, oDm_sm, oMax_int, oMin_int, uInt_int, uInt_bl, oMod_int, oPow_int, eBin_k, kBin1_ok, kBin2_ok, eUn_k, kUn_ok, of_some, eC_k, eVar_k, evL_nil, evL_k, kL1_ok, kL2_ok, eAnd_k, kAnd_t, kAnd_f, eOr_k, kOr_t, kOr_f, eNot_k, kNot_ok, eChain_k, kCh0_ok, kCh1_ok, kCh2_t, kCh2_f, kCh3_ok,
  eTup_k, kTup_1, kTup_2, kTup_3, kTup_4, kLst_0, kLst_1, kLst_2, kLst_3, kLst_4, kLst_5, kLst_6, kTup_ok, kLst_ok, eLst_k, eCall_k, kCall_ok, sSeq_k, kSeq_nx, kSeq_ret, kSeq_ct, kSeq_bk, kSeq_exc, sPass_k, sAsg_k, kAsg_ok, kAsg_exc, kTg_nx, tName_k, tAll_nil, tTup_2, tTup_3, tTup_4, tTup_rv, tAll_cons, tSub_k, kSub1_ok, kSub2_ok, kPut_some, sCt_k, sBk_k, sRet_k, kRet_ok, kRet_exc, sDrop_k, kDrop_ok, sRaise_k, sIf_k, kIf_t, kIf_f, sPar_k, kPar_ok, sFor_k, kFor_ok, mkFn_0, mkFn_1, mkFn_2, mkFn_3, mkFn_4, mkFn_5, mkFn_6, kFn_ret, kFn_nx, kFn_exc,
  sTry_k, kTry_nx, kTry_ret, kTry_exc, handle_nil, kCl_nx, kCl_ret, eM0_k, eM1_k, eM2_k, kM2a_ok, kM2b_ok, eLc_k, kLcE_ok, eSl_k, kSlA_ok, kSlB_ok, kSlC_ok, ePart_none, ePart_k, kPt_ok, iList_k, iEnum_k, iZip_k, kZp_ok, iRev_k, iRange1_k, iRange2_k, kR2_ok,
  oAdd_int, oSub_int, oNeg_int, cLt_int, cLe_int, cGt_int, cGe_int, cEq_int, cNe_int, cEq_bl, cNe_bl, cIsN_k, cNotN_k, cEq_tt, cNe_tt, oIx_rv0, oIx_rv1, rv0, rv1, cEq_rv, cNe_rv, uIs_rv, uLen_rv, uAbs_int, uLen_tup, oIx_0, oIx_1, uIs_int, uIs_tup, uIs_bl, uIs_non, uIs_exc, ty_tuple_tuple, ty_tuple_list, ty_tuple_int, ty_tuple_bool, ty_tuple_str, ty_tuple_NoneType, ty_list_tuple, ty_list_list, ty_list_int, ty_list_bool, ty_list_str, ty_list_NoneType, ty_int_tuple, ty_int_list, ty_int_int, ty_int_bool, ty_int_str, ty_int_NoneType, ty_bool_tuple, ty_bool_list, ty_bool_int, ty_bool_bool, ty_bool_str, ty_bool_NoneType, ty_str_tuple, ty_str_list, ty_str_int, ty_str_bool, ty_str_str, ty_str_NoneType,
  List.map_cons, List.map_nil, List.cons_append, List.nil_append, List.append_nil, List.reduceReplicate, Nat.reduceSub, List.getElem?_cons_zero, List.getElem?_cons_succ, List.set_cons_zero, List.set_cons_succ, List.length_cons, List.length_nil, Nat.zero_add, Nat.reduceAdd, decide_true, decide_false, beq_self_eq_true, Bool.not_true, Bool.not_false])
/-! Tables made row by row, turned tables, units. -/
namespace Mn
/-- a table whose rows lie at named places, none of them the table's own, all new -/
def Tabs (B : Nat) (M : Store) (n : Nat) (rs : List (List Rat)) : Prop := ∃ ks : List Nat, M[n]? = some (.lst (ks.map .ref)) ∧ ks.length = rs.length ∧ ∀ (i k : Nat) (r : List Rat), ks[i]? = some k → rs[i]? = some r → Row M k r ∧ k ≠ n ∧ B ≤ k
theorem Tabs.tab {B : Nat} {M : Store} {n : Nat} {rs : List (List Rat)} (h : Tabs B M n rs) : Tab M n rs := by
  obtain ⟨ks, h1, h2, h3⟩ := h
  refine ⟨_, h1, Rpl.of (by rw [List.length_map, List.length_map, h2]) fun i v t hv ht => ?_⟩
  rw [List.getElem?_map] at hv ht
  obtain ⟨k, hk, rfl⟩ := Option.map_eq_some_iff.mp hv
  obtain ⟨r, hr, rfl⟩ := Option.map_eq_some_iff.mp ht
  exact (h3 i k r hk hr).1.rp
theorem Tabs.gr {B : Nat} {M M' : Store} {n : Nat} {rs : List (List Rat)} (h : Tabs B M n rs) (g : Gr M M') : Tabs B M' n rs := by
  obtain ⟨ks, h1, h2, h3⟩ := h
  exact ⟨ks, g.at h1, h2, fun i k r hk hr => let ⟨a, b, c⟩ := h3 i k r hk hr; ⟨a.gr g, b, c⟩⟩
theorem Tabs.nil (B : Nat) (M : Store) : Tabs B (M ++ [.lst []]) M.length [] := ⟨[], lst_new' _ _, rfl, fun i k r h => by cases h⟩
theorem Tabs.push {B : Nat} {M : Store} {n k : Nat} {rs : List (List Rat)} {r : List Rat} (h : Tabs B M n rs) (hr : Row M k r) (hk : k ≠ n) (hb : B ≤ k) (hz : rs.length < szLine) : ∃ M', mApp (.ref n) (.ref k) M = some (.non, M') ∧ Tabs B M' n (rs ++ [r]) ∧ ∀ M0, Gr M0 M → M0.length ≤ n → Gr M0 M' := by
  obtain ⟨ks, h1, h2, h3⟩ := h
  refine ⟨_, mApp_ref h1 (by rw [List.length_map, h2]; exact hz), ⟨ks ++ [k], ?_, by rw [List.length_append, List.length_append, h2]; rfl, fun i j q hj hq => ?_⟩, fun M0 g l => g.set l⟩
  · rw [List.getElem?_set_self (List.getElem?_eq_some_iff.mp h1).1, List.map_append]
    rfl
  · by_cases hi : i < ks.length
    · rw [List.getElem?_append_left hi] at hj
      rw [List.getElem?_append_left (by omega)] at hq
      obtain ⟨a, b, c⟩ := h3 i j q hj hq
      exact ⟨a.set b, b, c⟩
    · by_cases hi2 : i = ks.length
      · subst hi2
        rw [List.getElem?_append_right (Nat.le_refl _), Nat.sub_self] at hj
        rw [List.getElem?_append_right (by omega), h2, Nat.sub_self] at hq
        cases hj
        cases hq
        exact ⟨hr.set hk, hk, hb⟩
      · rw [List.getElem?_eq_none (by rw [List.length_append, List.length_singleton]; omega)] at hj
        cases hj
theorem setIt_row {M : Store} {n i : Nat} {qs : List Rat} {q : Rat} (h : Row M n qs) (hi : i < qs.length) : setIt (.ref n) (.int i) (rv q) M = some (M.set n (.lst ((qs.set i q).map rv))) := by
  have e : M[n]? = some (.lst (qs.map rv)) := h
  unfold setIt
  simp only [e]
  have : atIx (qs.map rv).length (i : Int) = some i := by
    unfold atIx
    simp [hi]
  rw [this, List.map_set]
  rfl
theorem Row.put {M : Store} {n i : Nat} {qs : List Rat} {q : Rat} (h : Row M n qs) : Row (M.set n (.lst ((qs.set i q).map rv))) n (qs.set i q) := List.getElem?_set_self h.lt
end Mn
namespace Z
open Mn
theorem refs_of : ∀ {ys : List Val}, (∀ (i : Nat) (v : Val), ys[i]? = some v → ∃ k, v = .ref k) → ∃ ks : List Nat, ys = ks.map .ref
  | [], _ => ⟨[], rfl⟩
  | y :: ys, h => by
    obtain ⟨k, rfl⟩ := h 0 y rfl
    obtain ⟨ks, rfl⟩ := refs_of (ys := ys) fun i v hv => h (i + 1) v hv
    exact ⟨k :: ks, rfl⟩
def tur (C : Nat) (rs : List (List Rat)) : List (List Rat) := (List.range C).map fun j => rs.map fun r => r.getD j 0
theorem p_turned_ok {M : Store} {m C : Nat} {rs : List (List Rat)} (h : Tab M m rs) (hL : ∀ r ∈ rs, C ≤ r.length) (hz : C ≤ 1000000) (hr : rs.length ≤ 1000000) : ∃ k M', p_turned [.ref m, .int C] M = .ok (.ref k) M' ∧ Gr M M' ∧ M.length ≤ k ∧ Tabs M.length M' k (tur C rs) := by
  have szl : szLine = 16777216 := rfl
  unfold p_turned
  array_get_dec
  unfold p_turned.b
  array_get_dec
  obtain ⟨xs, hx, rx⟩ := h
  have lx : xs.length = rs.length := by rw [rx.length, List.length_map]
  rw [kR1_ok (h := by omega), Int.toNat_natCast, kLc_ok (h := by show C ≤ szLine; omega)]
  obtain ⟨ys, M1, e1, g1, l1, p1⟩ := lc_map (it := itRg 0 C) (t := tName 3) (e := eLc (iList (eVar 0)) (tName 2) [2] (eC (.bl true)) (eBin oIx (eVar 2) (eVar 3))) (ρ := wipe [some (.ref m), some (.int C), none, none] [3]) (walks_rg 0 C M)
    (fun j v M1 => ∃ k, v = .ref k ∧ M.length ≤ k ∧ Row M1 k (rs.map fun r : List Rat => r.getD j (0 : Rat))) (fun j v M1 M2 ⟨k, a, b, c⟩ g => ⟨k, a, b, c.gr g⟩) (fun j hj M1 g => by
      refine ⟨_, _, .ref M1.length, M1 ++ [.lst ((rs.map fun r => r.getD j 0).map rv)], rfl, rfl, ?_, Gr.one _ _, _, rfl, g.len, Row.new _ _⟩
      unfold wipe wipe
      rw [Int.zero_add]
      have q1 : seqOf M1 (.ref m) = some xs := seq_lst (g.at hx)
      array_get_dec
      rw [kSq_ok (h := q1), kLc_ok (h := by show xs.length ≤ szLine; omega)]
      rw [lc_exact (walks_seq q1) ((rs.map fun r => r.getD j 0).map rv) (by rw [List.length_map, List.length_map, lx]) fun i y hy => ?_]
      · array_get_dec
      · obtain ⟨z, hz, rfl⟩ := map_get hy
        obtain ⟨r, hr2, rfl⟩ := map_get hz
        obtain ⟨v, hv, rr⟩ := rx.get (t := tr r) (i := i) (by rw [List.getElem?_map, hr2]; rfl)
        obtain ⟨mm, rfl, rw1⟩ := rr.row
        refine ⟨_, _, hv, rfl, ?_⟩
        unfold wipe wipe
        have hj2 : r[j]? = some (r.getD j 0) := by
          have := hL r (List.mem_of_getElem? hr2)
          rw [List.getD_eq_getElem?_getD, List.getElem?_eq_getElem (by omega)]
          rfl
        array_get_dec
        rw [(rw1.gr g).ix hj2]
        array_get_dec)
  rw [e1]
  array_get_dec
  refine ⟨_, _, rfl, g1.trans (Gr.one _ _), g1.len, ?_⟩
  obtain ⟨ks, rfl⟩ := refs_of fun i v hv => let ⟨k, h, _⟩ := p1 i v hv; ⟨k, h⟩
  refine ⟨ks, lst_new' _ _, by rw [List.length_map] at l1; rw [tur, List.length_map, List.length_range, l1], fun i k r hk hr => ?_⟩
  obtain ⟨k2, e2, b2, r2⟩ := p1 i (.ref k) (by rw [List.getElem?_map, hk]; rfl)
  cases e2
  have hi : i < C := by
    have := (List.getElem?_eq_some_iff.mp hk).1
    rw [List.length_map] at l1
    omega
  rw [tur, List.getElem?_map, List.getElem?_range hi] at hr
  cases hr
  exact ⟨r2.gr (Gr.one _ _), Nat.ne_of_lt r2.lt, b2⟩
theorem row_add {M0 M : Store} {n k : Nat} {qs : List Rat} {q : Rat} (h : Row M n qs) (g : Gr M0 M) (hn : M0.length ≤ n) (hz : qs.length < szLine) : ∃ M', mApp (.ref n) (rv q) M = some (.non, M') ∧ Row M' n (qs ++ [q]) ∧ Gr M0 M' := by
  refine ⟨_, mApp_ref h (by rw [List.length_map]; exact hz), ?_, g.set hn⟩
  unfold Row
  rw [List.getElem?_set_self h.lt, List.map_append]
  rfl
theorem tab_ok {G : Fn} (hG : ∀ (z : Int) (M : Store), bits z ≤ 1048576 → ∃ n : Nat, n < 10 ^ 120 ∧ G [.int z] M = .ok (.int n) M) {M : Store} {s st R C : Nat} {ns : List Int} (h : lstAt M s = some (ns.map .int)) (hb : ∀ z ∈ ns, bits z ≤ 1048576) (hst : st ≤ 1000000) (hR : R ≤ 1000) (hC : C ≤ 1000) :
    ∃ rs M', mkFn 4 10 (sSeq (sAsg (tName 4) (eLst [])) (sSeq (sFor (iRange1 (eVar 2)) (tName 5) (sSeq (sAsg (tName 6) (eLst [])) (sSeq (sFor (iRange1 (eVar 3)) (tName 7) (sSeq (sAsg (tName 8) (eBin oAdd (eBin oAdd (eVar 1) (eBin oMul (eVar 5) (eVar 3))) (eVar 7))) (sSeq (sAsg (tName 9) (eTup [eC (.int 0), eC (.int 1)])) (sSeq (sIf (eBin cLt (eVar 8) (eUn uLen (eVar 0))) (sAsg (tName 9) (eCall l_ratio_2 [eCall G [eBin oIx (eVar 0) (eVar 8)]])) (sPass)) (sDrop (eM1 "list" mApp (eVar 6) (eVar 9))))))) (sDrop (eM1 "list" mApp (eVar 4) (eVar 6)))))) (sRet (eVar 4)))) [.ref s, .int st, .int R, .int C] M = .ok (.ref M.length) M' ∧ Gr M M' ∧ rs.length = R ∧ (∀ r ∈ rs, r.length = C) ∧ (∀ r ∈ rs, SzA 68 r) ∧ Tabs M.length M' M.length rs := by
  have szl : szLine = 16777216 := rfl
  array_get_dec
  rw [kR1_ok (h := by omega), Int.toNat_natCast]
  array_get_dec
  have t0 := Tabs.nil M.length M
  have g0 := Gr.one M (.lst [])
  generalize M ++ [Cell.lst []] = M1 at *
  refine for_rg (fun i ρ M2 => Gr M M2 ∧ ∃ rs x5 x6 x7 x8 x9, rs.length = i ∧ (∀ r ∈ rs, r.length = C) ∧ (∀ r ∈ rs, SzA 68 r) ∧ Tabs M.length M2 M.length rs ∧ ρ = [some (.ref s), some (.int st), some (.int R), some (.int C), some (.ref M.length), x5, x6, x7, x8, x9])
    (fun r => ∃ rs M', kFn (kSeq _ r) = .ok (.ref M.length) M' ∧ Gr M M' ∧ rs.length = R ∧ (∀ r ∈ rs, r.length = C) ∧ (∀ r ∈ rs, SzA 68 r) ∧ Tabs M.length M' M.length rs) ?_ ?_ _ _ ⟨g0, [], none, none, none, none, none, rfl, (fun r h => by cases h), (fun r h => by cases h), t0, rfl⟩
  · rintro i hi ρ M2 ⟨g, rs, x5, x6, x7, x8, x9, hl, hL, hS, ht, rfl⟩
    refine ⟨_, _, rfl, ?_⟩
    rw [Int.zero_add]
    array_get_dec
    rw [kR1_ok (h := by omega), Int.toNat_natCast]
    array_get_dec
    have r0 : Row (M2 ++ [.lst []]) M2.length [] := Row.new M2 []
    have g2 := Gr.one M2 (.lst [])
    generalize M2 ++ [Cell.lst []] = M3 at *
    refine for_rg (fun j ρ M4 => Gr M2 M4 ∧ ∃ qs x7 x8 x9, qs.length = j ∧ SzA 68 qs ∧ Row M4 M2.length qs ∧ ρ = [some (.ref s), some (.int st), some (.int R), some (.int C), some (.ref M.length), some (.int i), some (.ref M2.length), x7, x8, x9])
      (fun r => Turn (kSeq _ r) _ _) ?_ ?_ _ _ ⟨g2, [], x7, x8, x9, rfl, (fun r h => by cases h), r0, rfl⟩
    · rintro j hj ρ M4 ⟨g4, qs, x7, x8, x9, ql, qS, qr, rfl⟩
      refine ⟨_, _, rfl, ?_⟩
      rw [Int.zero_add]
      have mul1 : mulOk (i : Int) (C : Int) = true := mulOk_lt (m := 10) (n := 10) (by unfold Lt2; omega) (by unfold Lt2; omega) (by decide)
      have l4 := (g.trans g4).lstAt h
      array_get_dec
      rw [uLen_ref l4, List.length_map, show (st : Int) + (i : Int) * (C : Int) + (j : Int) = ((st + i * C + j : Nat) : Int) by rw [Int.natCast_add, Int.natCast_add, Int.natCast_mul]]
      array_get_dec
      obtain ⟨w, hw⟩ : ∃ w, w = st + i * C + j := ⟨_, rfl⟩
      rw [← hw]
      by_cases hlt : (w : Int) < (ns.length : Int)
      · obtain ⟨z, hz⟩ : ∃ z, ns[w]? = some z := ⟨_, List.getElem?_eq_getElem (by omega)⟩
        obtain ⟨n, hn, en⟩ := hG z M4 (hb z (List.mem_of_getElem? hz))
        obtain ⟨q, M5, eq, sq, gq⟩ := l_ratio_2_ok (n := (n : Int)) (by omega) M4
        rw [decide_eq_true hlt]
        array_get_dec
        rw [oIx_nat l4 (i := w) (v := .int z) (by rw [List.getElem?_map, hz]; rfl)]
        array_get_dec
        rw [en]
        array_get_dec
        rw [eq]
        array_get_dec
        rw [kM1_ok (h := isTy_lst (qr.gr gq))]
        array_get_dec
        obtain ⟨M6, e6, r6, g6⟩ := row_add (k := 0) (q := q) (qr.gr gq) (g4.trans gq) (Nat.le_refl _) (by omega)
        rw [e6]
        array_get_dec
        refine ⟨g6, qs ++ [q], _, _, _, by rw [List.length_append, ql]; rfl, ?_, r6, rfl⟩
        intro p hp
        rcases List.mem_append.mp hp with h | h
        · exact qS p h
        · rw [List.mem_singleton.mp h]
          exact sq
      · rw [decide_eq_false hlt]
        array_get_dec
        rw [kM1_ok (h := isTy_lst qr)]
        array_get_dec
        obtain ⟨M6, e6, r6, g6⟩ := row_add (k := 0) (q := 0) qr g4 (Nat.le_refl _) (by omega)
        rw [e6]
        array_get_dec
        refine ⟨g6, qs ++ [0], _, _, _, by rw [List.length_append, ql]; rfl, ?_, r6, rfl⟩
        intro p hp
        rcases List.mem_append.mp hp with h | h
        · exact qS p h
        · rw [List.mem_singleton.mp h]
          exact (show Sz 1 0 by decide).mono (by decide)
    · rintro ρ M4 ⟨g4, qs, x7, x8, x9, ql, qS, qr, rfl⟩
      array_get_dec
      have t4 := ht.gr g4
      obtain ⟨xs, hx, _⟩ := t4.tab
      rw [kM1_ok (h := isTy_lst hx)]
      array_get_dec
      obtain ⟨M6, e6, t6, g6⟩ := t4.push qr (Nat.ne_of_gt (Nat.lt_of_lt_of_le ht.tab.lt (Nat.le_refl _))) g.len (by omega)
      rw [e6]
      array_get_dec
      refine ⟨g6 M (g.trans g4) (Nat.le_refl _), rs ++ [qs], _, _, _, _, _, by rw [List.length_append, hl]; rfl, ?_, ?_, t6, rfl⟩
      · intro r hr
        rcases List.mem_append.mp hr with h | h
        · exact hL r h
        · rw [List.mem_singleton.mp h]
          exact ql
      · intro r hr
        rcases List.mem_append.mp hr with h | h
        · exact hS r h
        · rw [List.mem_singleton.mp h]
          exact qS
  · rintro ρ M2 ⟨g, rs, x5, x6, x7, x8, x9, hl, hL, hS, ht, rfl⟩
    array_get_dec
    exact ⟨rs, _, rfl, g, hl, hL, hS, ht⟩
def unitR (n : Nat) : List (List Rat) := (List.range n).map fun i => (List.replicate n (0 : Rat)).set i 1
theorem unitR_get {n i : Nat} {r : List Rat} (h : (unitR n)[i]? = some r) : r = (List.replicate n (0 : Rat)).set i 1 := by
  unfold unitR at h
  rw [List.getElem?_map] at h
  obtain ⟨j, hj, rfl⟩ := Option.map_eq_some_iff.mp h
  rw [List.getElem?_eq_some_iff] at hj
  obtain ⟨_, hj⟩ := hj
  rw [List.getElem_range] at hj
  rw [hj]
theorem unitR_len {n : Nat} : ∀ r ∈ unitR n, r.length = n := fun r h => by
  obtain ⟨i, _, rfl⟩ := List.mem_map.mp h
  rw [List.length_set, List.length_replicate]
theorem unit_ok {e0 e1 : E} (h0 : ∀ ρ M, e0 ρ M = .ok (rv 0) M) (h1 : ∀ ρ M, e1 ρ M = .ok (rv 1) M) {M : Store} {n : Nat} (hn : n ≤ 1000) :
    ∃ M', mkFn 1 4 (sSeq (sAsg (tName 1) (eLst [])) (sSeq (sFor (iRange1 (eVar 0)) (tName 2) (sSeq (sAsg (tName 3) (eBin oMul (eLst [e0]) (eVar 0))) (sSeq (sAsg (tSub (eVar 3) (eVar 2)) e1) (sDrop (eM1 "list" mApp (eVar 1) (eVar 3)))))) (sRet (eVar 1)))) [.int n] M = .ok (.ref M.length) M' ∧ Gr M M' ∧ Tabs M.length M' M.length (unitR n) := by
  have szl : szLine = 16777216 := rfl
  array_get_dec
  rw [kR1_ok (h := by omega), Int.toNat_natCast]
  array_get_dec
  have t0 := Tabs.nil M.length M
  have g0 := Gr.one M (.lst [])
  generalize M ++ [Cell.lst []] = M1 at *
  refine for_rg (fun i ρ M2 => Gr M M2 ∧ ∃ x2 x3, Tabs M.length M2 M.length ((unitR n).take i) ∧ ρ = [some (.int n), some (.ref M.length), x2, x3])
    (fun r => ∃ M', kFn (kSeq _ r) = .ok (.ref M.length) M' ∧ Gr M M' ∧ Tabs M.length M' M.length (unitR n)) ?_ ?_ _ _ ⟨g0, none, none, by rw [List.take_zero]; exact t0, rfl⟩
  · rintro i hi ρ M2 ⟨g, x2, x3, ht, rfl⟩
    refine ⟨_, _, rfl, ?_⟩
    rw [Int.zero_add]
    array_get_dec
    rw [h0]
    array_get_dec
    obtain ⟨M3, e3, g3, r3⟩ := rep_x (M := M2) (q := 0) (k := n) (by omega)
    rw [e3]
    array_get_dec
    rw [h1]
    array_get_dec
    rw [setIt_row r3 (by rw [List.length_replicate]; exact hi)]
    array_get_dec
    have g4 := g3.set (m := M2.length + 1) (c := .lst (((List.replicate n (0 : Rat)).set i 1).map rv)) (Nat.le_succ _)
    have r4 := r3.put (i := i) (q := 1)
    generalize M3.set (M2.length + 1) (.lst (((List.replicate n (0 : Rat)).set i 1).map rv)) = M4 at *
    have t4 := ht.gr g4
    obtain ⟨xs, hx, _⟩ := t4.tab
    rw [kM1_ok (h := isTy_lst hx)]
    array_get_dec
    have := ht.tab.lt
    obtain ⟨M6, e6, t6, g6⟩ := t4.push r4 (by omega) (by omega) (by rw [List.length_take]; omega)
    rw [e6]
    array_get_dec
    refine ⟨g6 M (g.trans g4) (Nat.le_refl _), _, _, ?_, rfl⟩
    rw [List.take_add_one, show (unitR n)[i]? = some ((List.replicate n (0 : Rat)).set i 1) by
      unfold unitR
      rw [List.getElem?_map, List.getElem?_range hi]
      rfl]
    exact t6
  · rintro ρ M2 ⟨g, x2, x3, ht, rfl⟩
    array_get_dec
    refine ⟨_, rfl, g, ?_⟩
    rw [List.take_of_length_le (by unfold unitR; rw [List.length_map, List.length_range]; omega)] at ht
    exact ht
theorem p_unit_ok {M : Store} {n : Nat} (hn : n ≤ 1000) : ∃ M', p_unit [.int n] M = .ok (.ref M.length) M' ∧ Gr M M' ∧ Tabs M.length M' M.length (unitR n) := unit_ok (fun _ _ => rfl) (fun _ _ => rfl) hn
theorem l_unit_ok {M : Store} {n : Nat} (hn : n ≤ 1000) : ∃ M', l_unit [.int n] M = .ok (.ref M.length) M' ∧ Gr M M' ∧ Tabs M.length M' M.length (unitR n) := unit_ok (fun _ _ => rfl) (fun _ _ => rfl) hn
theorem l_is_table_ok {M : Store} {m n : Nat} {rs : List (List Rat)} (h : Tab M m rs) (h' : Tab M n rs) (hz : rs.length ≤ 1000000) (hL : ∀ r ∈ rs, r.length ≤ 1000000) : ∃ M', l_is_table [.ref m, .ref n] M = .ok (.bl true) M' ∧ Gr M M' := by
  have szl : szLine = 16777216 := rfl
  unfold l_is_table
  array_get_dec
  unfold l_is_table.b
  array_get_dec
  obtain ⟨xs, hx, rx⟩ := h
  have h : Tab M m rs := ⟨xs, hx, rx⟩
  rw [uIs_lst hx]
  array_get_dec
  rw [h.len]
  array_get_dec
  rw [h'.len]
  array_get_dec
  rw [h'.len]
  array_get_dec
  rw [kR1_ok (h := by omega), Int.toNat_natCast, kLc_ok (h := by show rs.length ≤ szLine; omega)]
  rw [lc_exact (walks_rg 0 rs.length M) ((List.replicate rs.length true).map .bl) (by rw [List.length_map, List.length_replicate]) fun i y hy => ?_]
  · array_get_dec
    rw [uAll_new]
    array_get_dec
    rw [show (List.replicate rs.length true).all id = true from List.all_eq_true.mpr fun q hq => (List.mem_replicate.mp hq).2]
    exact ⟨_, rfl, Gr.one _ _⟩
  · obtain ⟨z, hz2, rfl⟩ := map_get hy
    obtain ⟨r, hr⟩ : ∃ r, rs[i]? = some r := ⟨_, List.getElem?_eq_getElem (by have := (List.getElem?_eq_some_iff.mp hz2).1; rw [List.length_replicate] at this; exact this)⟩
    have : z = true := (List.mem_replicate.mp (List.mem_of_getElem? hz2)).2
    subst this
    obtain ⟨a, ea, ra⟩ := h.row hr
    obtain ⟨b, eb, rb⟩ := h'.row hr
    refine ⟨_, _, rfl, rfl, ?_⟩
    unfold wipe wipe
    rw [Int.zero_add]
    array_get_dec
    rw [ea]
    array_get_dec
    rw [eb]
    array_get_dec
    exact l_is_row_ok ra rb (by have := hL r (List.mem_of_getElem? hr); omega)
theorem copies {M : Store} {m v : Nat} {xs : List Val} {rs : List (List Rat)} {ρ : Env} (hv : v < ρ.length) (hx : M[m]? = some (.lst xs)) (rx : Rpl M xs (rs.map tr)) : ∃ ys M', lcN (itSeq (.ref m) xs.length) (tName v) (eC (.bl true)) (eUn uList (eVar v)) ρ (itSeq (.ref m) xs.length).n 0 [] M = .ok ys M' ∧ Gr M M' ∧ Tabs M.length (M' ++ [.lst ys]) M'.length rs := by
  have lx : xs.length = rs.length := by rw [rx.length, List.length_map]
  obtain ⟨ys, M1, e1, g1, l1, p1⟩ := lc_map (it := itSeq (.ref m) xs.length) (t := tName v) (e := eUn uList (eVar v)) (ρ := ρ) (walks_seq (seq_lst hx)) (fun i y M1 => ∃ k r, y = .ref k ∧ rs[i]? = some r ∧ M.length ≤ k ∧ Row M1 k r) (fun i y M1 M2 ⟨k, r, a, b, c, d⟩ g => ⟨k, r, a, b, c, d.gr g⟩) (fun i hi M1 g => by
    obtain ⟨r, hr⟩ : ∃ r, rs[i]? = some r := ⟨_, List.getElem?_eq_getElem (by omega)⟩
    obtain ⟨x, hx2, rr⟩ := rx.get (t := tr r) (i := i) (by rw [List.getElem?_map, hr]; rfl)
    obtain ⟨mm, rfl, rw1⟩ := rr.row
    refine ⟨_, ρ.set v (some (.ref mm)), .ref M1.length, M1 ++ [.lst (r.map rv)], hx2, rfl, ?_, Gr.one _ _, _, r, rfl, hr, g.len, Row.new _ _⟩
    have ev : eVar v (ρ.set v (some (.ref mm))) M1 = .ok (.ref mm) M1 := by
      show (match (ρ.set v _)[v]? with | some (some v) => R.ok v M1 | _ => .bad) = _
      rw [List.getElem?_set_self hv]
    rw [eUn_k, ev, kUn_ok, uList_seq (rw1.gr g).seq, of_some])
  obtain ⟨ks, rfl⟩ := refs_of fun i y hy => let ⟨k, _, h, _⟩ := p1 i y hy; ⟨k, h⟩
  refine ⟨_, M1, e1, g1, ks, lst_new' _ _, by rw [List.length_map] at l1; omega, fun i k r hk hr => ?_⟩
  obtain ⟨k2, r2, e2, h2, b2, w2⟩ := p1 i (.ref k) (by rw [List.getElem?_map, hk]; rfl)
  cases e2
  rw [hr] at h2
  cases h2
  exact ⟨w2.gr (Gr.one _ _), Nat.ne_of_lt w2.lt, b2⟩
theorem col_ok {M : Store} {m a b j : Nat} {xs : List Val} {rs : List (List Rat)} {ρ : Env} (ha : a < ρ.length) (hb : ρ[b]? = some (some (.int j))) (hab : a ≠ b) (hx : M[m]? = some (.lst xs)) (rx : Rpl M xs (rs.map tr)) (hL : ∀ r ∈ rs, j < r.length) :
    lcN (itSeq (.ref m) xs.length) (tName a) (eC (.bl true)) (eBin oIx (eVar a) (eVar b)) ρ (itSeq (.ref m) xs.length).n 0 [] M = .ok ((rs.map fun r => r.getD j 0).map rv) M := by
  have lx : xs.length = rs.length := by rw [rx.length, List.length_map]
  refine lc_exact (walks_seq (seq_lst hx)) _ (by rw [List.length_map, List.length_map, lx]) fun i y hy => ?_
  obtain ⟨z, hz, rfl⟩ := map_get hy
  obtain ⟨r, hr2, rfl⟩ := map_get hz
  obtain ⟨v, hv, rr⟩ := rx.get (t := tr r) (i := i) (by rw [List.getElem?_map, hr2]; rfl)
  obtain ⟨mm, rfl, rw1⟩ := rr.row
  refine ⟨_, ρ.set a (some (.ref mm)), hv, rfl, ?_⟩
  have hj2 : r[j]? = some (r.getD j 0) := by
    have := hL r (List.mem_of_getElem? hr2)
    rw [List.getD_eq_getElem?_getD, List.getElem?_eq_getElem this]
    rfl
  have ea : eVar a (ρ.set a (some (.ref mm))) M = .ok (.ref mm) M := by
    show (match (ρ.set a _)[a]? with | some (some v) => R.ok v M | _ => .bad) = _
    rw [List.getElem?_set_self ha]
  have eb : eVar b (ρ.set a (some (.ref mm))) M = .ok (.int j) M := by
    show (match (ρ.set a _)[b]? with | some (some v) => R.ok v M | _ => .bad) = _
    rw [List.getElem?_set_ne hab, hb]
  rw [eBin_k, ea, kBin1_ok, eb, kBin2_ok, rw1.ix hj2, of_some]
theorem tur_tur {C : Nat} {rs : List (List Rat)} (hL : ∀ r ∈ rs, r.length = C) : tur rs.length (tur C rs) = rs := by
  refine List.ext_getElem? fun i => ?_
  by_cases hi : i < rs.length
  · obtain ⟨r, hr⟩ : ∃ r, rs[i]? = some r := ⟨_, List.getElem?_eq_getElem hi⟩
    have lr := hL r (List.mem_of_getElem? hr)
    unfold tur
    rw [List.getElem?_map, List.getElem?_range hi, hr]
    show some _ = some _
    congr 1
    show List.map (fun r => r.getD i 0) (List.map (fun j => List.map (fun r => r.getD j 0) rs) (List.range C)) = r
    rw [List.map_map]
    refine List.ext_getElem? fun j => ?_
    by_cases hj : j < C
    · rw [List.getElem?_map, List.getElem?_range hj]
      show some ((rs.map fun r => r.getD j 0).getD i 0) = _
      rw [List.getD_eq_getElem?_getD, List.getElem?_map, hr, List.getElem?_eq_getElem (by omega)]
      show some (r.getD j 0) = _
      rw [List.getD_eq_getElem?_getD, List.getElem?_eq_getElem (by omega)]
      rfl
    · rw [List.getElem?_eq_none (by rw [List.length_map, List.length_range]; omega), List.getElem?_eq_none (by omega)]
  · rw [List.getElem?_eq_none (by unfold tur; rw [List.length_map, List.length_range]; omega), List.getElem?_eq_none (by omega)]
theorem tur_len (C : Nat) (rs : List (List Rat)) : (tur C rs).length = C := by unfold tur; rw [List.length_map, List.length_range]
theorem tur_lens {C : Nat} {rs : List (List Rat)} : ∀ r ∈ tur C rs, r.length = rs.length := fun r h => by
  obtain ⟨i, _, rfl⟩ := List.mem_map.mp h
  rw [List.length_map]
theorem l_asked_4_ok {M : Store} {m C : Nat} {rs : List (List Rat)} (h : Tab M m rs) (hL : ∀ r ∈ rs, r.length = C) (hz : C ≤ 1000) (hr : rs.length ≤ 1000) : ∃ M', l_asked_4 [.ref m, .int C] M = .ok (.bl true) M' ∧ Gr M M' := by
  have szl : szLine = 16777216 := rfl
  unfold l_asked_4
  array_get_dec
  unfold l_asked_4.b
  array_get_dec
  obtain ⟨xs, hx, rx⟩ := h
  have h : Tab M m rs := ⟨xs, hx, rx⟩
  have lx : xs.length = rs.length := by rw [rx.length, List.length_map]
  rw [kSq_ok (h := seq_lst hx), kLc_ok (h := by show xs.length ≤ szLine; omega)]
  obtain ⟨ys, M1, e1, g1, t1⟩ := copies (v := 3) (ρ := wipe [some (.ref m), some (.int C), none, none, none, none, none] [3]) (show 3 < 7 by decide) hx rx
  rw [e1]
  array_get_dec
  replace t1 := t1.tab
  have G := g1.trans (Gr.one M1 (.lst ys))
  generalize M1 ++ [Cell.lst ys] = M2 at *
  generalize M1.length = c at *
  clear e1 g1
  rw [kR1_ok (h := by omega), Int.toNat_natCast]
  array_get_dec
  have t2 := Tabs.nil M2.length M2
  have g2 := Gr.one M2 (.lst [])
  generalize M2 ++ [Cell.lst []] = M3 at *
  refine for_rg (fun i ρ M4 => Gr M2 M4 ∧ ∃ x3 x5 x6, Tabs M2.length M4 M2.length ((tur C rs).take i) ∧ ρ = [some (.ref m), some (.int C), some (.ref c), x3, some (.ref M2.length), x5, x6])
    (fun r => ∃ M', kFn (kSeq _ r) = .ok (.bl true) M' ∧ Gr M M') ?_ ?_ _ _ ⟨g2, none, none, none, by rw [List.take_zero]; exact t2, rfl⟩
  · rintro j hj ρ M4 ⟨g, x3, x5, x6, ht, rfl⟩
    refine ⟨_, _, rfl, ?_⟩
    rw [Int.zero_add]
    array_get_dec
    have t4 := t1.gr g
    obtain ⟨zs, hzs, rz⟩ := t4
    have lz : zs.length = rs.length := by rw [rz.length, List.length_map]
    obtain ⟨xs4, hx4, _⟩ := ht.tab
    rw [kM1_ok (h := isTy_lst hx4)]
    array_get_dec
    rw [kSq_ok (h := seq_lst hzs), kLc_ok (h := by show zs.length ≤ szLine; omega)]
    rw [col_ok (j := j) (show 3 < 7 by decide) rfl (by decide) hzs rz fun r hr => by rw [hL r hr]; exact hj]
    array_get_dec
    have gx := Gr.one M4 (.lst ((rs.map fun r => r.getD j 0).map rv))
    have rx2 : Row (M4 ++ [.lst ((rs.map fun r => r.getD j 0).map rv)]) M4.length (rs.map fun r => r.getD j 0) := Row.new _ _
    have tx := ht.gr gx
    have := ht.tab.lt
    obtain ⟨M6, e6, t6, g6⟩ := tx.push rx2 (by omega) (by omega) (by rw [List.length_take]; omega)
    rw [e6]
    array_get_dec
    refine ⟨g6 M2 (g.trans gx) (Nat.le_refl _), _, _, _, ?_, rfl⟩
    rw [List.take_add_one, show (tur C rs)[j]? = some (rs.map fun r => r.getD j 0) by
      unfold tur
      rw [List.getElem?_map, List.getElem?_range hj]
      rfl]
    exact t6
  · rintro ρ M4 ⟨g, x3, x5, x6, ht, rfl⟩
    rw [List.take_of_length_le (by rw [tur_len]; omega)] at ht
    replace ht := ht.tab
    replace t1 := t1.gr g
    replace G := G.trans g
    have t0 := h.gr G
    generalize M2.length = d at *
    clear t2 g2 g hx rx lx
    array_get_dec
    obtain ⟨f, M5, e5, g5, hf, t5⟩ := p_turned_ok t0 (C := C) (fun r hr => by rw [hL r hr]; exact Nat.le_refl _) (by omega) (by omega)
    rw [e5]
    array_get_dec
    have zz : ∀ r ∈ tur C rs, r.length ≤ 1000000 := fun r hr => by rw [tur_lens r hr]; omega
    obtain ⟨M6, e6, g6⟩ := l_is_table_ok t5.tab (ht.gr g5) (by rw [tur_len]; omega) zz
    rw [e6]
    array_get_dec
    rw [(t0.gr (g5.trans g6)).len]
    array_get_dec
    obtain ⟨f2, M7, e7, g7, hf2, t7⟩ := p_turned_ok (t5.tab.gr g6) (C := rs.length) (fun r hr => by rw [tur_lens r hr]; exact Nat.le_refl _) (by omega) (by rw [tur_len]; omega)
    rw [e7]
    array_get_dec
    rw [tur_tur hL] at t7
    obtain ⟨M8, e8, g8⟩ := l_is_table_ok t7.tab (t1.gr (g5.trans (g6.trans g7))) (by omega) fun r hr => by rw [hL r hr]; omega
    rw [e8]
    array_get_dec
    have g9 := g5.trans (g6.trans (g7.trans g8))
    replace t5 := t5.gr (g6.trans (g7.trans g8))
    clear e5 e6 e7 e8 g5 g6 g7 g8 t7
    obtain ⟨ks, h1, h2, h3⟩ := t5
    rw [kSq_ok (h := seq_lst h1)]
    array_get_dec
    have lk : ks.length = C := by rw [h2, tur_len]
    have h4 : ∀ k ∈ ks, ∃ zs, M8[k]? = some (.lst zs) ∧ zs.length ≤ 1000 + 0 ∧ k ≠ f ∧ M4.length ≤ k := fun k hk => by
      obtain ⟨i, hi⟩ := List.mem_iff_getElem?.mp hk
      obtain ⟨r, hr2⟩ : ∃ r, (tur C rs)[i]? = some r := ⟨_, List.getElem?_eq_getElem (by rw [← h2]; exact (List.getElem?_eq_some_iff.mp hi).1)⟩
      obtain ⟨a, b, c⟩ := h3 i k r hi hr2
      exact ⟨_, a, by rw [List.length_map, tur_lens r (List.mem_of_getElem? hr2)]; omega, b, c⟩
    have hf3 : f < M8.length := (List.getElem?_eq_some_iff.mp h1).1
    clear h2 h3
    refine for_seq (xs := ks.map .ref) (fun i ρ M' => Gr M4 M' ∧ M'[f]? = some (.lst (ks.map .ref)) ∧ (∀ k ∈ ks, ∃ zs, M'[k]? = some (.lst zs) ∧ zs.length ≤ 1000 + i ∧ k ≠ f ∧ M4.length ≤ k) ∧ ∃ x3, ρ = [some (.ref m), some (.int C), some (.ref c), x3, some (.ref d), x5, some (.ref f)])
      (fun r => ∃ M', kFn (kSeq _ r) = .ok (.bl true) M' ∧ Gr M M') ?_ ?_ ?_ _ _ ⟨g9, h1, h4, x3, rfl⟩
    · rintro i ρ M' ⟨_, h, _⟩
      exact seq_lst h
    · rintro i v hv ρ M' ⟨g, hq, hk, x3, rfl⟩
      obtain ⟨k, hk2, rfl⟩ := map_get hv
      obtain ⟨zs, hzs, lz, nf, bk⟩ := hk k (List.mem_of_getElem? hk2)
      have li : i < C := by rw [← lk]; exact (List.getElem?_eq_some_iff.mp hk2).1
      refine ⟨_, _, rfl, ?_⟩
      array_get_dec
      rw [kM1_ok (h := isTy_lst hzs)]
      array_get_dec
      rw [mApp_ref hzs (by omega)]
      array_get_dec
      refine ⟨g.set bk, (List.getElem?_set_ne nf).trans hq, fun k2 hk3 => ?_, _, rfl⟩
      obtain ⟨ws, hws, lw, nf2, bk2⟩ := hk k2 hk3
      by_cases e : k = k2
      · subst e
        exact ⟨_, List.getElem?_set_self (List.getElem?_eq_some_iff.mp hzs).1, by rw [List.length_append, List.length_singleton]; omega, nf2, bk2⟩
      · exact ⟨ws, (List.getElem?_set_ne e).trans hws, by omega, nf2, bk2⟩
    · rintro ρ M' ⟨g, hq, _, x3, rfl⟩
      array_get_dec
      rw [kM1_ok (h := isTy_lst hq)]
      array_get_dec
      have hq2 : (M' ++ [.lst []])[f]? = some (.lst (ks.map .ref)) := (Gr.one M' (.lst [])).at hq
      rw [mApp_ref hq2 (by rw [List.length_map]; omega)]
      array_get_dec
      have g10 : Gr M4 ((M' ++ [Cell.lst []]).set f (Cell.lst (ks.map Val.ref ++ [Val.ref M'.length]))) := (g.trans (Gr.one M' (.lst []))).set (Nat.le_trans (Gr.refl M4).len hf)
      generalize (M' ++ [Cell.lst []]).set f (Cell.lst (ks.map Val.ref ++ [Val.ref M'.length])) = M10 at *
      rw [cEq_rp (t0.gr g10).rp (t1.gr g10).rp (by have := dp_tt rs; omega) (by have := dp_tt rs; omega), eqv_refl]
      array_get_dec
      obtain ⟨k3, M11, e11, g11, _, t11⟩ := p_turned_ok (t0.gr g10) (C := C) (fun r hr => by rw [hL r hr]; exact Nat.le_refl _) (by omega) (by omega)
      rw [e11]
      array_get_dec
      obtain ⟨M12, e12, g12⟩ := l_is_table_ok t11.tab (ht.gr (g10.trans g11)) (by rw [tur_len]; omega) zz
      rw [e12]
      array_get_dec
      exact ⟨_, rfl, G.trans (g10.trans (g11.trans g12))⟩
end Z
end
section
set_option Elab.async false
set_option autoImplicit false
set_option maxRecDepth 100000
set_option maxHeartbeats 2000000
open Mn
local macro_rules | `(tactic| array_get_dec) => `(tactic| simp (disch := first | assumption | rfl | decide | decide +kernel) only [oMul_int, oDiv_int, oDiv_sm, oDm_int, oDm_sm, oMax_int, oMin_int, uInt_int, uInt_bl, oMod_int, oPow_int, eBin_k, kBin1_ok, kBin2_ok, eUn_k, kUn_ok, of_some, eC_k, eVar_k, evL_nil, evL_k, kL1_ok, kL2_ok, eAnd_k, kAnd_t, kAnd_f, eOr_k, kOr_t, kOr_f, eNot_k, kNot_ok, eChain_k, kCh0_ok, kCh1_ok, kCh2_t, kCh2_f, kCh3_ok,
  eTup_k, kTup_1, kTup_2, kTup_3, kTup_4, kLst_0, kLst_1, kLst_2, kLst_3, kLst_4, kLst_5, kLst_6, kTup_ok, kLst_ok, eLst_k, eCall_k, kCall_ok, sSeq_k, kSeq_nx, kSeq_ret, kSeq_ct, kSeq_bk, kSeq_exc, sPass_k, sAsg_k, kAsg_ok, kAsg_exc, kTg_nx, tName_k, tAll_nil, tTup_2, tTup_3, tTup_4, tTup_rv, tAll_cons, tSub_k, kSub1_ok, kSub2_ok, kPut_some, sCt_k, sBk_k, sRet_k, kRet_ok, kRet_exc, sDrop_k, kDrop_ok, sRaise_k, sIf_k, kIf_t, kIf_f, sPar_k, kPar_ok, sFor_k, kFor_ok, mkFn_0, mkFn_1, mkFn_2, mkFn_3, mkFn_4, mkFn_5, mkFn_6, kFn_ret, kFn_nx, kFn_exc,
  sTry_k, kTry_nx, kTry_ret, kTry_exc, handle_nil, kCl_nx, kCl_ret, eM0_k, eM1_k, eM2_k, kM2a_ok, kM2b_ok, eLc_k, kLcE_ok, eSl_k, kSlA_ok, kSlB_ok, kSlC_ok, ePart_none, ePart_k, kPt_ok, iList_k, iEnum_k, iZip_k, kZp_ok, iRev_k, iRange1_k, iRange2_k, kR2_ok,
  oAdd_int, oSub_int, oNeg_int, cLt_int, cLe_int, cGt_int, cGe_int, cEq_int, cNe_int, cEq_bl, cNe_bl, cIsN_k, cNotN_k, cEq_tt, cNe_tt, oIx_rv0, oIx_rv1, rv0, rv1, cEq_rv, cNe_rv, uIs_rv, uLen_rv, uAbs_int, uLen_tup, oIx_0, oIx_1, uIs_int, uIs_tup, uIs_bl, uIs_non, uIs_exc, ty_tuple_tuple, ty_tuple_list, ty_tuple_int, ty_tuple_bool, ty_tuple_str, ty_tuple_NoneType, ty_list_tuple, ty_list_list, ty_list_int, ty_list_bool, ty_list_str, ty_list_NoneType, ty_int_tuple, ty_int_list, ty_int_int, ty_int_bool, ty_int_str, ty_int_NoneType, ty_bool_tuple, ty_bool_list, ty_bool_int, ty_bool_bool, ty_bool_str, ty_bool_NoneType, ty_str_tuple, ty_str_list, ty_str_int, ty_str_bool, ty_str_str, ty_str_NoneType,
  List.map_cons, List.map_nil, List.cons_append, List.nil_append, List.append_nil, List.reduceReplicate, Nat.reduceSub, List.getElem?_cons_zero, List.getElem?_cons_succ, List.set_cons_zero, List.set_cons_succ, List.length_cons, List.length_nil, Nat.zero_add, Nat.reduceAdd, decide_true, decide_false, beq_self_eq_true, Bool.not_true, Bool.not_false])
namespace Z
open Mn
theorem great6 (z : Int) (M : Store) (hz : bits z ≤ 1048576) : ∃ n : Nat, n < 10 ^ 120 ∧ l_great_6 [.int z] M = .ok (.int n) M := great_ok (c := 31) (by decide) (cell_lt hz) M
theorem l_cell_at_0 {M : Store} {n : Nat} {ns : List Int} (h : lstAt M n = some (ns.map .int)) : l_cell_at [.ref n, .int 0] M = .ok (.int (ns.getD 0 0)) M := l_cell_at_ok (i := 0) h
theorem mClr_ref {M : Store} {n : Nat} {xs : List Val} (h : M[n]? = some (.lst xs)) : mClr (.ref n) M = some (.non, M.set n (.lst [])) := by
  unfold mClr
  simp only [h]
end Z
namespace Lk14
open Mn Z
theorem holds (ns : List Int) (hn : ns.length ≤ 63) (hb : ∀ z ∈ ns, bits z ≤ 1048576) : ∃ M, f_law [.ref 0] [.ro (ns.map .int)] = .ok (.bl true) M := by
  show ∃ M, law_k14 _ _ = _
  unfold law_k14
  array_get_dec
  unfold law_k14.b
  have l0 : lstAt [.ro (ns.map .int)] 0 = some (ns.map .int) := rfl
  have szl : szLine = 16777216 := rfl
  generalize hM0 : ([.ro (ns.map .int)] : Store) = M0 at *
  array_get_dec
  rw [l_cell_at_0 l0]
  array_get_dec
  obtain ⟨N, bN, eN⟩ := great6 _ M0 (bits_getD hb 0)
  rw [eN]
  array_get_dec
  unfold sWhile
  refine while_inv (fun m ρ M => Gr M0 M ∧ ∃ (b a : Nat) (x3 x4 x5 x6 : Option Val), b < 10 ^ 120 ∧ m = ns.length + 1 - a ∧ ρ = [some (.ref 0), some (.int b), some (.int a), x3, x4, x5, x6])
    (fun r => ∃ M, kFn (kSeq _ r) = .ok (.bl true) M) ?_ whileLine (ns.length + 1) _ _ (by rw [whileLine_eq]; omega) ⟨Gr.refl _, N, 0, none, none, none, none, bN, rfl, rfl⟩
  rintro m ρ M ⟨g, b, a, x3, x4, x5, x6, hb1, rfl, rfl⟩
  array_get_dec
  have cond : ∃ t : Bool, kOr (eBin cLt (eVar 2) (eUn uLen (eVar 0))) [some (.ref 0), some (.int b), some (.int a), x3, x4, x5, x6] (.ok (.bl (decide ((a : Int) = 0))) M) = .ok (.bl t) M ∧ (t = true → a ≤ ns.length) := by
    by_cases h0 : (a : Int) = 0
    · refine ⟨true, ?_, fun _ => by omega⟩
      rw [decide_eq_true h0]
      array_get_dec
    · refine ⟨decide ((a : Int) < (ns.length : Int)), ?_, fun h => by have := of_decide_eq_true h; omega⟩
      rw [decide_eq_false h0]
      array_get_dec
      rw [uLen_ref (g.lstAt l0), List.length_map]
      array_get_dec
  obtain ⟨t, ht, hta⟩ := cond
  rw [ht]
  cases t
  · left
    refine ⟨M, rfl, ?_⟩
    clear ht hta
    obtain ⟨H, hH, eH⟩ : ∃ H : Nat, H < 9 ∧ Int.fmod (b : Int) 9 = (H : Int) := by
      refine ⟨b % 9, Nat.mod_lt _ (by decide), ?_⟩
      rw [fmod_pos' (by decide)]
      omega
    rw [eH]
    obtain ⟨M1, e1, g1, t1⟩ := p_unit_ok (M := M) (n := H) (by omega)
    rw [e1]
    array_get_dec
    obtain ⟨M2, e2, g2, t2⟩ := l_unit_ok (M := M1) (n := H) (by omega)
    rw [e2]
    array_get_dec
    have ul : (unitR H).length = H := by unfold unitR; rw [List.length_map, List.length_range]
    have uz : ∀ r ∈ unitR H, r.length ≤ 1000000 := fun r hr => by rw [unitR_len r hr]; omega
    obtain ⟨M3, e3, g3⟩ := l_is_table_ok (t1.gr g2).tab t2.tab (by omega) uz
    rw [e3]
    array_get_dec
    obtain ⟨M4, e4, g4, t4⟩ := p_unit_ok (M := M3) (n := 0) (by omega)
    rw [show (0 : Int) = ((0 : Nat) : Int) from rfl, e4]
    array_get_dec
    obtain ⟨M5, e5, g5⟩ := l_is_table_ok (t4.gr (Gr.one M4 (.lst []))).tab (Tabs.nil 0 M4).tab (by decide) (fun r h => by cases h)
    rw [e5]
    array_get_dec
    have G := g1.trans (g2.trans (g3.trans (g4.trans ((Gr.one M4 (.lst [])).trans g5))))
    replace t1 := t1.gr (g2.trans (g3.trans (g4.trans ((Gr.one M4 (.lst [])).trans g5))))
    clear e1 e2 e3 e4 e5 g1 g2 g3 g4 g5 t2 t4
    generalize M.length = f at *
    obtain ⟨ks, h1, h2, h3⟩ := t1
    rw [kSq_ok (h := seq_lst h1)]
    array_get_dec
    have h4 : ∀ k ∈ ks, ∃ zs, M5[k]? = some (.lst zs) ∧ k ≠ f := fun k hk => by
      obtain ⟨i, hi⟩ := List.mem_iff_getElem?.mp hk
      obtain ⟨r, hr2⟩ : ∃ r, (unitR H)[i]? = some r := ⟨_, List.getElem?_eq_getElem (by rw [← h2]; exact (List.getElem?_eq_some_iff.mp hi).1)⟩
      obtain ⟨a, b, c⟩ := h3 i k r hi hr2
      exact ⟨_, a, b⟩
    clear h2 h3
    refine for_seq (xs := ks.map .ref) (fun i ρ M' => M'[f]? = some (.lst (ks.map .ref)) ∧ (∀ k ∈ ks, ∃ zs, M'[k]? = some (.lst zs) ∧ k ≠ f) ∧ ∃ x6, ρ = [some (.ref 0), some (.int b), some (.int a), some (.int H), x4, some (.ref f), x6])
      (fun r => ∃ M', kFn (kSeq _ r) = .ok (.bl true) M') ?_ ?_ ?_ _ _ ⟨h1, h4, x6, rfl⟩
    · rintro i ρ M' ⟨h, _⟩
      exact seq_lst h
    · rintro i v hv ρ M' ⟨hq, hk, x3, rfl⟩
      obtain ⟨k, hk2, rfl⟩ := map_get hv
      obtain ⟨zs, hzs, nf⟩ := hk k (List.mem_of_getElem? hk2)
      refine ⟨_, _, rfl, ?_⟩
      array_get_dec
      rw [kM0_ok (h := isTy_lst hzs), mClr_ref hzs]
      array_get_dec
      refine ⟨(List.getElem?_set_ne nf).trans hq, fun k2 hk3 => ?_, _, rfl⟩
      obtain ⟨ws, hws, nf2⟩ := hk k2 hk3
      by_cases e : k = k2
      · subst e
        exact ⟨_, List.getElem?_set_self (List.getElem?_eq_some_iff.mp hzs).1, nf2⟩
      · exact ⟨ws, (List.getElem?_set_ne e).trans hws, nf2⟩
    · rintro ρ M' ⟨hq, _, x3, rfl⟩
      array_get_dec
      obtain ⟨M1, e1, g1, t1⟩ := p_unit_ok (M := M') (n := H) (by omega)
      rw [e1]
      array_get_dec
      obtain ⟨M2, e2, g2, t2⟩ := l_unit_ok (M := M1) (n := H) (by omega)
      rw [e2]
      array_get_dec
      obtain ⟨M3, e3, g3⟩ := l_is_table_ok (t1.gr g2).tab t2.tab (by omega) uz
      rw [e3]
      array_get_dec
      obtain ⟨k, M6, e6, g6, _, t6⟩ := p_turned_ok (C := 3) (Tabs.nil 0 M3).tab (fun r h => by cases h) (by decide) (by decide)
      rw [show (3 : Int) = ((3 : Nat) : Int) from rfl, e6]
      array_get_dec
      have r1 : Row (M6 ++ [.lst []]) M6.length [] := Row.new M6 []
      have gg := Gr.one M6 (.lst [])
      generalize M6 ++ [Cell.lst []] = M7 at *
      generalize M6.length = k1 at *
      have r2 : Row (M7 ++ [.lst []]) M7.length [] := Row.new M7 []
      replace r1 := r1.app (.lst [])
      replace gg := gg.trans (Gr.one M7 (.lst []))
      generalize M7 ++ [Cell.lst []] = M8 at *
      generalize M7.length = k2 at *
      have r3 : Row (M8 ++ [.lst []]) M8.length [] := Row.new M8 []
      replace r1 := r1.app (.lst [])
      replace r2 := r2.app (.lst [])
      replace gg := gg.trans (Gr.one M8 (.lst []))
      generalize M8 ++ [Cell.lst []] = M9 at *
      generalize M8.length = k3 at *
      have tn : Tab (M9 ++ [.lst [.ref k1, .ref k2, .ref k3]]) M9.length [[], [], []] := ⟨_, lst_new' _ _, .cons (r1.app _).rp (.cons (r2.app _).rp (.cons (r3.app _).rp .nil))⟩
      obtain ⟨M10, e10, _⟩ := l_is_table_ok (rs := [[], [], []]) (t6.gr (gg.trans (Gr.one M9 (.lst [.ref k1, .ref k2, .ref k3])))).tab tn (by decide) (fun r h => by
        rcases List.mem_cons.mp h with rfl | h
        · decide
        · rcases List.mem_cons.mp h with rfl | h
          · decide
          · rcases List.mem_cons.mp h with rfl | h
            · decide
            · cases h)
      rw [e10]
      array_get_dec
      exact ⟨_, rfl⟩
  · right
    refine ⟨M, rfl, ?_⟩
    clear ht
    replace hta := hta rfl
    obtain ⟨H, hH, eH⟩ : ∃ H : Nat, H < 8 ∧ Int.fmod (b : Int) 8 = (H : Int) := by
      refine ⟨b % 8, Nat.mod_lt _ (by decide), ?_⟩
      rw [fmod_pos' (by decide)]
      omega
    obtain ⟨K, hK, eK⟩ : ∃ K : Nat, K < 7 ∧ Int.fmod (Int.fdiv (b : Int) 8) 7 = (K : Int) := by
      refine ⟨b / 8 % 7, Nat.mod_lt _ (by decide), ?_⟩
      rw [fdiv_pos' (by decide), fmod_pos' (by decide)]
      omega
    rw [eH, eK]
    have mul1 : mulOk (H : Int) (K : Int) = true := mulOk_lt (m := 3) (n := 3) (by unfold Lt2; omega) (by unfold Lt2; omega) (by decide)
    have fin : ∀ M', Gr M M' → ∃ m', m' < ns.length + 1 - a ∧ Gr M0 M' ∧ ∃ (b2 a2 : Nat) (y3 y4 y5 y6 : Option Val), b2 < 10 ^ 120 ∧ m' = ns.length + 1 - a2 ∧ [some (Val.ref 0), some (.int (Int.fdiv (b : Int) 13 + 5)), some (.int ((a : Int) + if (H : Int) * (K : Int) > 1 then (H : Int) * (K : Int) else 1)), some (.int H), some (.int K), x5, x6] = [some (.ref 0), some (.int b2), some (.int a2), y3, y4, y5, y6] := fun M' g' => by
      have s1e : (a : Int) + (if (H : Int) * (K : Int) > 1 then (H : Int) * (K : Int) else 1) = ((a + max 1 (H * K) : Nat) : Int) := by
        rw [show (H : Int) * (K : Int) = ((H * K : Nat) : Int) by rw [Int.natCast_mul]]
        split <;> omega
      rw [s1e, fdiv_pos' (by decide), show (b : Int) / 13 + 5 = ((b / 13 + 5 : Nat) : Int) by omega]
      exact ⟨_, by omega, g.trans g', _, _, _, _, _, _, by omega, rfl, rfl⟩
    by_cases h0 : 0 < (K : Int)
    · obtain ⟨rs, M1, e1, g1, l1, L1, S1, t1⟩ := tab_ok great6 (g.lstAt l0) hb (st := a) (R := H) (C := K) (by omega) (by omega) (by omega)
      obtain ⟨M2, e2, g2⟩ := l_asked_4_ok t1.tab L1 (by omega) (by omega)
      rw [decide_eq_true h0]
      array_get_dec
      rw [show l_table [.ref 0, .int a, .int H, .int K] M = _ from e1]
      array_get_dec
      rw [e2]
      array_get_dec
      exact fin _ (g1.trans g2)
    · rw [decide_eq_false h0]
      array_get_dec
      exact fin _ (Gr.refl _)
end Lk14
end
section
set_option Elab.async false
set_option autoImplicit false
set_option linter.all false
set_option maxRecDepth 100000
open PySem PySem.W PySem.Calls PyProof.Rows
set_option maxRecDepth 100000 in
set_option maxHeartbeats 0 in
theorem PySem.Challenge.cw_nearplane_k14_tables_turned_holds : PySem.Challenge.rw_nearplane_k14_tables_turned.Holds := by
  w_on; o_law
  refine HandSHeadRun.head_any (r := OpenLaw.row PySem.Challenge.rw_nearplane_k14_tables_turned) (q := view (OpenLaw.row PySem.Challenge.rw_nearplane_k14_tables_turned).prog [17]) (H := Lk14.hk) (ob := Lk14.ob) (M := 20000) (loose := Lk14.loose) (d := HandSHeadRun.topDef (OpenLaw.row PySem.Challenge.rw_nearplane_k14_tables_turned).prog 17) (kwd := []) Lk14.ob_eq
    (by kernel_rfl) (fun s => by kernel_rfl) Lk14.run (by kernel_rfl) (by kernel_rfl) (by kernel_rfl) (by rfl) (by first | assumption | decide +kernel) (by decide +kernel) ⟨rfl, rfl, rfl, rfl, rfl, by decide +kernel⟩ ?hw ?hc
  case hw => w_witness2
  case hc =>
    refine MnS.walk_mn (l := PySem.Challenge.rw_nearplane_k14_tables_turned) (n := 63) (k := 14) (x := "_law_script") rfl (by decide) (by kernel_rfl) ⟨rfl, by decide, by decide⟩ ?F
    intro w mg fa h Y G hmg0
    obtain ⟨K, KX, nl, c⟩ := Y
    have hmg : mg ("law" : PySem.Str) = some (.ref fa) := by
      have e : (HandSHeadRun.topDef (OpenLaw.row PySem.Challenge.rw_nearplane_k14_tables_turned).prog 17).name = ("law" : PySem.Str) := by kernel_rfl
      rw [← e]
      exact hmg0
    obtain ⟨fd, hb, hF⟩ := Lk14.facts (P := (PySem.Challenge.rw_nearplane_k14_tables_turned).prog) (w := w) KX G hmg c
    exact ⟨K, fd, ⟨K, MnS.caOf K, Lk14.xs⟩, Lk14.f_law, KX, nl, rfl, hb, fun ns h1 h2 => Lk14.holds ns h1 h2, hF⟩
end
