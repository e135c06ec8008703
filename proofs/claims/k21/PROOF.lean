import PyProof.Rows.All
import Wide.All
import OpenK.AllK
import Wide.FinOn
import HandS.ForMost
import HandS.ForExc
import HandS.Wide
import HandS.TupAny
import HandS.IsInst
import HandS.Zip
import HandS.Rev
import HandS.WideBits
import HandS.More
import HandS.Comp
import HandS.TryElse
import HandS.HeadHook1
import HandS.HeadHook2
import HandS.ExcIs
import HandS.Defaults
import HandS.Ends
import HandS.EndBits
import HandS.HeadEnd
import HandS.Head0
import HandS.Head1
import HandS.Head2
import PySem.Challenge.RW_nearplane_k21_deeds_done
set_option Elab.async false
section
set_option Elab.async false
set_option autoImplicit false
/-! A small language of its own: values, a store of lists, dicts and objects, expressions and statements as functions. Plain Lean, no model in sight. -/
namespace Mn

inductive Val where
  | non
  | bl (b : Bool)
  | int (i : Int)
  | str (s : List Nat)
  | tup (xs : List Val)
  | ref (n : Nat)
  | exc (c : String)
  deriving Inhabited

inductive Cell where
  | lst (xs : List Val)
  | ro (xs : List Val)
  | dic (kvs : List (Val × Val))
  | rod (kvs : List (Val × Val))
  | obj (c : String) (fs : List (String × Val))
  deriving Inhabited

abbrev Store := List Cell

inductive R (α : Type) where
  | ok (a : α) (M : Store)
  | exc (c : String) (M : Store)
  | bad

def R.bind {α β : Type} (r : R α) (f : α → Store → R β) : R β := match r with
  | .ok a M => f a M
  | .exc c M => .exc c M
  | .bad => .bad

@[simp] theorem R.bind_ok {α β : Type} (a : α) (M : Store) (f : α → Store → R β) : (R.ok a M).bind f = f a M := rfl
@[simp] theorem R.bind_exc {α β : Type} (c : String) (M : Store) (f : α → Store → R β) : (R.exc c M : R α).bind f = .exc c M := rfl
@[simp] theorem R.bind_bad {α β : Type} (f : α → Store → R β) : (R.bad : R α).bind f = .bad := rfl

abbrev Env := List (Option Val)
abbrev E := Env → Store → R Val
abbrev Fn := List Val → Store → R Val
/-- what an operation gives: nothing that is raised, or none -/
abbrev P := Option (Val × Store)
def R.of (o : P) : R Val := match o with
  | some (v, M) => .ok v M
  | none => .bad
@[simp] theorem R.of_some (v : Val) (M : Store) : R.of (some (v, M)) = .ok v M := rfl
@[simp] theorem R.of_none : R.of none = .bad := rfl
abbrev Op := Val → Val → Store → P
abbrev U := Val → Store → P

/-- a text's codes -/
def S (s : String) : List Nat := s.toList.map Char.toNat

/-! ### the sizes that the machine carries -/
def szLine : Nat := 16777216
def bits (i : Int) : Nat := if i = 0 then 0 else i.natAbs.log2 + 1
def mulOk (i j : Int) : Bool := decide (bits i ≤ 64) || decide (bits j ≤ 64) || decide (bits i + bits j ≤ 134217728)
def divOk (i j : Int) : Bool := decide (j.natAbs.log2 < 9000) || decide (i.natAbs.log2 / 30 ≤ j.natAbs.log2 / 30 + 150)

/-! ### expressions -/
def eVar (i : Nat) : E := fun ρ M => match ρ[i]? with
  | some (some v) => .ok v M
  | _ => .bad
def eC (v : Val) : E := fun _ M => .ok v M
def eBin (f : Op) (a b : E) : E := fun ρ M => (a ρ M).bind fun x M1 => (b ρ M1).bind fun y M2 => R.of (f x y M2)
def eUn (f : U) (a : E) : E := fun ρ M => (a ρ M).bind fun x M1 => R.of (f x M1)
abbrev Tri := Val → Val → Val → Store → P
def mIns : Tri
  | .ref n, .int i, v, M => match M[n]? with
    | some (.lst xs) => if xs.length < szLine ∧ 0 ≤ i ∧ i < 2 ^ 63 then some (.non, M.set n (.lst (xs.take i.toNat ++ [v] ++ xs.drop i.toNat))) else none
    | _ => none
  | _, _, _, _ => none
def evL : List E → Env → Store → R (List Val)
  | [], _, M => .ok [] M
  | e :: es, ρ, M => (e ρ M).bind fun v M1 => (evL es ρ M1).bind fun vs M2 => .ok (v :: vs) M2

/-- a new cell -/
def alloc (c : Cell) (M : Store) : P := some (.ref M.length, M ++ [c])
/-- a list that is read -/
def lstAt (M : Store) (n : Nat) : Option (List Val) := match M[n]? with
  | some (.lst xs) => some xs
  | some (.ro xs) => some xs
  | _ => none

def oAdd : Op
  | .int i, .int j, M => some (.int (i + j), M)
  | .str x, .str y, M => if x.length + y.length ≤ szLine then some (.str (x ++ y), M) else none
  | .ref m, .ref n, M => match M[m]?, M[n]? with
    | some (.lst xs), some (.lst ys) => if xs.length + ys.length ≤ szLine then alloc (.lst (xs ++ ys)) M else none
    | _, _ => none
  | .tup xs, .tup ys, M => if xs.length + ys.length ≤ szLine then some (.tup (xs ++ ys), M) else none
  | _, _, _ => none
def oSub : Op
  | .int i, .int j, M => some (.int (i - j), M)
  | _, _, _ => none
def oMul : Op
  | .int i, .int j, M => if mulOk i j then some (.int (i * j), M) else none
  | .ref n, .int k, M => match M[n]? with
    | some (.lst xs) => if xs.length * k.toNat ≤ szLine ∧ -(2 ^ 63) ≤ k ∧ k < 2 ^ 63 then alloc (.lst ((List.replicate k.toNat xs).flatten)) M else none
    | _ => none
  | _, _, _ => none
def oDiv : Op
  | .int i, .int j, M => if j ≠ 0 ∧ divOk i j then some (.int (i.fdiv j), M) else none
  | _, _, _ => none
def oMod : Op
  | .int i, .int j, M => if j ≠ 0 then some (.int (i.fmod j), M) else none
  | _, _, _ => none
def oPow : Op
  | .int i, .int j, M => if 0 ≤ j ∧ j ≤ 1000000 ∧ i.natAbs < 2 ^ 64 then some (.int (i ^ j.toNat), M) else none
  | _, _, _ => none
def oDm : Op
  | .int i, .int j, M => if 0 < j ∧ divOk i j then some (.tup [.int (i / j), .int (i % j)], M) else none
  | _, _, _ => none
def oMax : Op
  | .int i, .int j, M => some (.int (if j > i then j else i), M)
  | _, _, _ => none
def oMin : Op
  | .int i, .int j, M => some (.int (if j < i then j else i), M)
  | _, _, _ => none
/-- lists' methods that change them -/
def mApp : Op
  | .ref n, v, M => match M[n]? with
    | some (.lst xs) => if xs.length < szLine then some (.non, M.set n (.lst (xs ++ [v]))) else none
    | _ => none
  | _, _, _ => none
def mExt : Op
  | .ref n, .ref m, M => match M[n]?, M[m]? with
    | some (.lst xs), some (.lst ys) => if xs.length + ys.length ≤ szLine then some (.non, M.set n (.lst (xs ++ ys))) else none
    | _, _ => none
  | _, _, _ => none
def mClr : U
  | .ref n, M => match M[n]? with
    | some (.lst _) => some (.non, M.set n (.lst []))
    | _ => none
  | _, _ => none
def mPop : U
  | .ref n, M => match M[n]? with
    | some (.lst xs) => match xs[xs.length - 1]? with
      | some y => some (y, M.set n (.lst xs.dropLast))
      | none => none
    | _ => none
  | _, _ => none
def oNeg : U
  | .int i, M => some (.int (-i), M)
  | _, _ => none

/-! ### data as trees, for == -/
inductive T where
  | non
  | bl (b : Bool)
  | int (i : Int)
  | str (s : List Nat)
  | tup (xs : List T)
  | lst (xs : List T)
  deriving Inhabited
def b2i (b : Bool) : Int := if b then 1 else 0
mutual
def T.eqv : T → T → Bool
  | .non, .non => true
  | .bl a, .bl b => a == b
  | .bl a, .int j => decide (b2i a = j)
  | .int i, .bl b => decide (i = b2i b)
  | .int i, .int j => decide (i = j)
  | .str x, .str y => decide (x = y)
  | .tup xs, .tup ys => T.eqvs xs ys
  | .lst xs, .lst ys => T.eqvs xs ys
  | _, _ => false
def T.eqvs : List T → List T → Bool
  | [], [] => true
  | x :: xs, y :: ys => T.eqv x y && T.eqvs xs ys
  | _, _ => false
end
/-- a map that may fail -/
def mapO {α β : Type} (f : α → Option β) : List α → Option (List β)
  | [] => some []
  | x :: xs => match f x with
    | some y => (mapO f xs).map (y :: ·)
    | none => none
/-- a value as a tree, nested at most so deep -/
def toT (M : Store) : Nat → Val → Option T
  | 0, _ => none
  | _ + 1, .non => some .non
  | _ + 1, .bl b => some (.bl b)
  | _ + 1, .int i => some (.int i)
  | _ + 1, .str s => if s.all (fun c => decide (c < 1114112)) = true then some (.str s) else none
  | _ + 1, .exc _ => none
  | k + 1, .tup xs => (mapO (toT M k) xs).map T.tup
  | k + 1, .ref n => match lstAt M n with
    | some xs => (mapO (toT M k) xs).map T.lst
    | none => none
def eqFuel : Nat := 60
def valEq (x y : Val) (M : Store) : Option Bool := match toT M eqFuel x, toT M eqFuel y with
  | some a, some b => some (a.eqv b)
  | _, _ => none
def pB (o : Option Bool) (M : Store) : P := o.map fun b => (.bl b, M)
def cEq : Op := fun x y M => pB (valEq x y M) M
def cNe : Op := fun x y M => pB ((valEq x y M).map not) M
def cInt (p : Int → Int → Bool) : Op
  | .int i, .int j, M => some (.bl (p i j), M)
  | _, _, _ => none
def cLt : Op := cInt fun i j => decide (i < j)
def cLe : Op := cInt fun i j => decide (i ≤ j)
def cGt : Op := cInt fun i j => decide (j < i)
def cGe : Op := cInt fun i j => decide (j ≤ i)
def isNon : Val → Bool
  | .non => true
  | _ => false
def cIsN : Op := fun x y M => match y with
  | .non => some (.bl (isNon x), M)
  | _ => none
def cNotN : Op := fun x y M => match y with
  | .non => some (.bl (!isNon x), M)
  | _ => none

/-- things that are found by == at once -/
def flat : Val → Bool
  | .non => true
  | .bl _ => true
  | .int _ => true
  | .str _ => true
  | _ => false
def eqF : Val → Val → Bool
  | .non, .non => true
  | .bl a, .bl b => a == b
  | .int a, .int b => a == b
  | .str a, .str b => a == b
  | .bl a, .int b => b2i a == b
  | .int a, .bl b => a == b2i b
  | _, _ => false
/-- a list's things, a tuple's -/
def seqOf (M : Store) : Val → Option (List Val)
  | .ref n => lstAt M n
  | .tup xs => some xs
  | _ => none
def cInG (neg : Bool) : Op := fun x y M => match seqOf M y with
  | some xs => if flat x = true ∧ xs.all flat = true then some (.bl (if neg then !(xs.any fun y => eqF y x) else xs.any fun y => eqF y x), M) else none
  | none => none
def cIn : Op := cInG false
def cNotIn : Op := cInG true

def eAnd (a b : E) : E := fun ρ M => (a ρ M).bind fun x M1 => match x with
  | .bl true => b ρ M1
  | .bl false => .ok (.bl false) M1
  | _ => .bad
def eOr (a b : E) : E := fun ρ M => (a ρ M).bind fun x M1 => match x with
  | .bl true => .ok (.bl true) M1
  | .bl false => b ρ M1
  | _ => .bad
def eNot (a : E) : E := fun ρ M => (a ρ M).bind fun x M1 => match x with
  | .bl c => .ok (.bl (!c)) M1
  | _ => .bad
/-- a op b op' c -/
def eChain (f g : Op) (a b c : E) : E := fun ρ M => (a ρ M).bind fun x M1 => (b ρ M1).bind fun y M2 => (R.of (f x y M2)).bind fun r M3 => match r with
  | .bl true => (c ρ M3).bind fun z M4 => R.of (g y z M4)
  | .bl false => .ok (.bl false) M3
  | _ => .bad
def eTup (es : List E) : E := fun ρ M => (evL es ρ M).bind fun vs M1 => if vs.length ≤ szLine then .ok (.tup vs) M1 else .bad
def eLst (es : List E) : E := fun ρ M => (evL es ρ M).bind fun vs M1 => if vs.length ≤ szLine then R.of (alloc (.lst vs) M1) else .bad
/-- the place that an index names -/
def atIx (n : Nat) (i : Int) : Option Nat := if 0 ≤ i then (if i < n then some i.toNat else none) else (if -(n : Int) ≤ i then some (i + n).toNat else none)
def atI {α : Type} (xs : List α) (i : Int) : Option α := (atIx xs.length i).bind fun k => xs[k]?
def oIx : Op
  | .tup xs, .int i, M => (atI xs i).map fun v => (v, M)
  | .ref n, .int i, M => match lstAt M n with
    | some xs => (atI xs i).map fun v => (v, M)
    | none => none
  | _, _, _ => none
def eCall (F : Fn) (es : List E) : E := fun ρ M => (evL es ρ M).bind fun vs M1 => F vs M1

/-! ### built-in functions -/
def uAbs : U
  | .int i, M => some (.int (if i < 0 then -i else i), M)
  | _, _ => none
def uLen : U
  | .tup xs, M => some (.int xs.length, M)
  | .str s, M => if s.length ≤ szLine then some (.int s.length, M) else none
  | .ref n, M => match lstAt M n with
    | some xs => some (.int xs.length, M)
    | none => none
  | _, _ => none
def uList : U := fun v M => match seqOf M v with
  | some xs => alloc (.lst xs) M
  | none => none
def uTup : U
  | .ref n, M => match lstAt M n with
    | some xs => some (.tup xs, M)
    | none => none
  | .tup xs, M => some (.tup xs, M)
  | _, _ => none
def toBl : Val → Option Bool
  | .bl b => some b
  | _ => none
def uAllG (g : List Bool → Bool) : U
  | .ref n, M => match lstAt M n with
    | some xs => match mapO toBl xs with
      | some bs => some (.bl (g bs), M)
      | none => none
    | none => none
  | _, _ => none
def uAll : U := uAllG fun bs => bs.all id
def uAny : U := uAllG fun bs => bs.any id
def uInt : U
  | .int i, M => some (.int i, M)
  | .bl b, M => some (.int (if b then 1 else 0), M)
  | _, _ => none
/-- a part, from lo to hi -/
def cutIx (n d : Nat) : Option Int → Nat
  | none => d
  | some v => if v < 0 then ((v + n) : Int).toNat else min v.toNat n
def cut {α : Type} (xs : List α) (lo hi : Option Int) : List α := (xs.drop (cutIx xs.length 0 lo)).take (cutIx xs.length xs.length hi - cutIx xs.length 0 lo)
def ePart (o : Option E) (ρ : Env) (M : Store) : R (Option Int) := match o with
  | none => .ok none M
  | some e => (e ρ M).bind fun v M1 => match v with
    | .int i => .ok (some i) M1
    | _ => .bad
def cutOf (v : Val) (lo hi : Option Int) (M : Store) : P := match v with
  | .ref n => match lstAt M n with
    | some xs => alloc (.lst (cut xs lo hi)) M
    | none => none
  | .tup xs => some (.tup (cut xs lo hi), M)
  | .str s => if s.length ≤ szLine then some (.str (cut s lo hi), M) else none
  | _ => none
def eSl (e : E) (lo hi : Option E) : E := fun ρ M => (e ρ M).bind fun v M1 => (ePart lo ρ M1).bind fun l M2 => (ePart hi ρ M2).bind fun h M3 => R.of (cutOf v l h M3)
/-- a value's type -/
def tyName (M : Store) : Val → Option String
  | .non => some "NoneType"
  | .bl _ => some "bool"
  | .int _ => some "int"
  | .str _ => some "str"
  | .tup _ => some "tuple"
  | .exc _ => none
  | .ref n => match M[n]? with
    | some (.lst _) => some "list"
    | some (.ro _) => some "list"
    | some (.dic _) => some "dict"
    | some (.rod _) => some "dict"
    | _ => none
/-- a method of the type t's -/
def isTy (t : String) (v : Val) (M : Store) : Bool := decide (tyName M v = some t)
def eM0 (t : String) (f : U) (a : E) : E := fun ρ M => (a ρ M).bind fun x M1 => if isTy t x M1 = true then R.of (f x M1) else .bad
def eM1 (t : String) (f : Op) (a b : E) : E := fun ρ M => (a ρ M).bind fun x M1 => if isTy t x M1 = true then (b ρ M1).bind fun y M2 => R.of (f x y M2) else .bad
def eM2 (t : String) (f : Tri) (a b c : E) : E := fun ρ M => (a ρ M).bind fun x M1 => if isTy t x M1 = true then (b ρ M1).bind fun y M2 => (c ρ M2).bind fun z M3 => R.of (f x y z M3) else .bad
/-- is a thing of the type a one of b (built-in types; classes of errors have none of these) -/
def isT (a b : String) : Bool := a == b || (a == "bool" && b == "int")
/-- is an error of the class c one of d -/
def isX (c d : String) : Bool := c == d || d == "PlaneError" || d == "ValueError"
def uIs (ts : List String) : U := fun v M => match v with
  | .exc c => some (.bl (ts.any (isX c)), M)
  | v => match tyName M v with
    | some a => some (.bl (ts.any (isT a)), M)
    | none => none

/-! ### statements -/
inductive RS where
  | nx (ρ : Env) (M : Store)
  | ret (v : Val) (M : Store)
  | bk (ρ : Env) (M : Store)
  | ct (ρ : Env) (M : Store)
  | exc (c : String) (ρ : Env) (M : Store)
  | bad
abbrev St := Env → Store → RS
/-- an expression's value, for a statement -/
def R.st {α : Type} (r : R α) (ρ : Env) (f : α → Store → RS) : RS := match r with
  | .ok a M => f a M
  | .exc c M => .exc c ρ M
  | .bad => .bad
@[simp] theorem R.st_ok {α : Type} (a : α) (M : Store) (ρ : Env) (f : α → Store → RS) : (R.ok a M).st ρ f = f a M := rfl
@[simp] theorem R.st_exc {α : Type} (c : String) (M : Store) (ρ : Env) (f : α → Store → RS) : (R.exc c M : R α).st ρ f = .exc c ρ M := rfl
@[simp] theorem R.st_bad {α : Type} (ρ : Env) (f : α → Store → RS) : (R.bad : R α).st ρ f = .bad := rfl
def RS.andThen (r : RS) (f : St) : RS := match r with
  | .nx ρ M => f ρ M
  | r => r

/-- where a value goes -/
abbrev Tg := Val → St
def tName (i : Nat) : Tg := fun v ρ M => .nx (ρ.set i (some v)) M
def tAll : List Tg → List Val → St
  | [], [], ρ, M => .nx ρ M
  | t :: ts, v :: vs, ρ, M => (t v ρ M).andThen (tAll ts vs)
  | _, _, _, _ => .bad
/-- a, b, .. = a tuple, a list -/
def tTup (ts : List Tg) : Tg := fun v ρ M => match seqOf M v with
  | some xs => if xs.length = ts.length then tAll ts xs ρ M else .bad
  | none => .bad
/-- what o[i] = v makes of the store -/
def setIt : Val → Val → Val → Store → Option Store
  | .ref n, .int k, v, M => match M[n]? with
    | some (.lst xs) => (atIx xs.length k).map fun j => M.set n (.lst (xs.set j v))
    | _ => none
  | _, _, _, _ => none
def tSub (o i : E) : Tg := fun v ρ M => match o ρ M with
  | .ok x M1 => match i ρ M1 with
    | .ok y M2 => match setIt x y v M2 with
      | some M3 => .nx ρ M3
      | none => .bad
    | _ => .bad
  | _ => .bad

def sPass : St := fun ρ M => .nx ρ M
def sCt : St := fun ρ M => .ct ρ M
def sBk : St := fun ρ M => .bk ρ M
def sSeq (a b : St) : St := fun ρ M => (a ρ M).andThen b
/-- a store's outcome -/
def RS.tg : RS → RS
  | .nx ρ M => .nx ρ M
  | _ => .bad
def sAsg (t : Tg) (e : E) : St := fun ρ M => (e ρ M).st ρ fun v M1 => (t v ρ M1).tg
/-- x, y = a, b -/
def sPar (i j : Nat) (a b : E) : St := fun ρ M => (evL [a, b] ρ M).st ρ fun vs M1 => match vs with
  | [v, w] => .nx ((ρ.set i (some v)).set j (some w)) M1
  | _ => .bad
def sDrop (e : E) : St := fun ρ M => (e ρ M).st ρ fun _ M1 => .nx ρ M1
def sRet (e : E) : St := fun ρ M => (e ρ M).st ρ fun v M1 => .ret v M1
def sRaise (c : String) : St := fun ρ M => .exc c ρ M
def sIf (c : E) (a b : St) : St := fun ρ M => (c ρ M).st ρ fun v M1 => match v with
  | .bl true => a ρ M1
  | .bl false => b ρ M1
  | _ => .bad
/-- turns that a while may take -/
def whileLine : Nat := 1099511627776
def sWhileN (c : E) (b : St) : Nat → St
  | 0, _, _ => .bad
  | k + 1, ρ, M => (c ρ M).st ρ fun v M1 => match v with
    | .bl false => .nx ρ M1
    | .bl true => match b ρ M1 with
      | .nx ρ' M' => sWhileN c b k ρ' M'
      | .ct ρ' M' => sWhileN c b k ρ' M'
      | .bk ρ' M' => .nx ρ' M'
      | r => r
    | _ => .bad
def sWhile (c : E) (b : St) : St := sWhileN c b whileLine

/-- what is walked: how many turns, the thing at a turn, whether it ends there -/
structure Itr where
  n : Nat
  nxt : Nat → Store → Option Val
  fin : Store → Bool
abbrev Src := Env → Store → R Itr
/-- the list at n, that had so many things -/
def itList (n len : Nat) : Itr := ⟨len, fun i M => (lstAt M n).bind fun ys => ys[i]?, fun M => match lstAt M n with
    | some ys => decide (ys.length ≤ len)
    | none => false⟩
/-- a sequence that is walked -/
def itSeq (w : Val) (len : Nat) : Itr := ⟨len, fun i M => (seqOf M w).bind fun ys => ys[i]?, fun M => match seqOf M w with
    | some ys => decide (ys.length ≤ len)
    | none => false⟩
def iList (e : E) : Src := fun ρ M => (e ρ M).bind fun v M1 => match seqOf M1 v with
  | some xs => .ok (itSeq v xs.length) M1
  | none => .bad
/-- index and thing, of a list -/
def itEnum (n len : Nat) : Itr := ⟨len, fun i M => (lstAt M n).bind fun ys => ys[i]?.map fun y => .tup [.int i, y], fun M => match lstAt M n with
    | some ys => decide (ys.length ≤ len)
    | none => false⟩
def iEnum (e : E) : Src := fun ρ M => (e ρ M).bind fun v M1 => match v with
  | .ref n => match lstAt M1 n with
    | some xs => .ok (itEnum n xs.length) M1
    | none => .bad
  | _ => .bad
def sameKind : Val → Val → Bool
  | .ref _, .ref _ => true
  | .tup _, .tup _ => true
  | _, _ => false
def itZip (v w : Val) (len : Nat) : Itr := ⟨len, fun i M => match seqOf M v, seqOf M w with
    | some xs, some ys => match xs[i]?, ys[i]? with
      | some x, some y => some (.tup [x, y])
      | _, _ => none
    | _, _ => none, fun M => match seqOf M v, seqOf M w with
    | some xs, some ys => decide (xs.length ≤ len) || decide (ys.length ≤ len)
    | _, _ => false⟩
def iZip (a b : E) : Src := fun ρ M => (a ρ M).bind fun v M1 => (b ρ M1).bind fun w M2 => if sameKind v w = true then (match seqOf M2 v, seqOf M2 w with
    | some xs, some ys => .ok (itZip v w (min xs.length ys.length)) M2
    | _, _ => .bad) else .bad
def itRev (w : Val) (len : Nat) : Itr := ⟨len, fun i M => (seqOf M w).bind fun ys => ys[len - 1 - i]?, fun _ => true⟩
def iRev (e : E) : Src := fun ρ M => (e ρ M).bind fun v M1 => match seqOf M1 v with
  | some xs => .ok (itRev v xs.length) M1
  | none => .bad
def iRange1 (a : E) : Src := fun ρ M => (a ρ M).bind fun v M1 => match v with
  | .int j => if -(2 ^ 62) ≤ j ∧ j < 2 ^ 62 then .ok ⟨j.toNat, fun i _ => some (.int (0 + (i : Int))), fun _ => true⟩ M1 else .bad
  | _ => .bad
def iRange2 (a b : E) : Src := fun ρ M => (a ρ M).bind fun u M1 => (b ρ M1).bind fun v M2 => match u, v with
  | .int i, .int j => if -(2 ^ 62) ≤ i ∧ i < 2 ^ 62 ∧ -(2 ^ 62) ≤ j ∧ j < 2 ^ 62 then .ok ⟨(j - i).toNat, fun k _ => some (.int (i + (k : Int))), fun _ => true⟩ M2 else .bad
  | _, _ => .bad
def sForN (it : Itr) (t : Tg) (b : St) : Nat → Nat → St
  | 0, _, ρ, M => if it.fin M then .nx ρ M else .bad
  | k + 1, i, ρ, M => match it.nxt i M with
    | none => .bad
    | some v => match t v ρ M with
      | .nx ρ1 M1 => match b ρ1 M1 with
        | .nx ρ' M' => sForN it t b k (i + 1) ρ' M'
        | .ct ρ' M' => sForN it t b k (i + 1) ρ' M'
        | .bk ρ' M' => .nx ρ' M'
        | r => r
      | _ => .bad
def sFor (s : Src) (t : Tg) (b : St) : St := fun ρ M => (s ρ M).st ρ fun it M1 => sForN it t b it.n 0 ρ M1

/-- [e for t in s if c]: vs the slots of the block's own names -/
def wipe (ρ : Env) : List Nat → Env
  | [] => ρ
  | v :: vs => (wipe ρ vs).set v none
def lcN (it : Itr) (t : Tg) (c e : E) (ρ : Env) : Nat → Nat → List Val → Store → R (List Val)
  | 0, _, acc, M => if it.fin M then .ok acc M else .bad
  | k + 1, i, acc, M => match it.nxt i M with
    | none => .bad
    | some v => match t v ρ M with
      | .nx ρ1 M1 => match c ρ1 M1 with
        | .ok (.bl true) M2 => match e ρ1 M2 with
          | .ok y M3 => lcN it t c e ρ k (i + 1) (acc ++ [y]) M3
          | _ => .bad
        | .ok (.bl false) M2 => lcN it t c e ρ k (i + 1) acc M2
        | _ => .bad
      | _ => .bad
def eLc (s : Src) (t : Tg) (vs : List Nat) (c e : E) : E := fun ρ M => (s ρ M).bind fun it M1 => if it.n ≤ szLine then (lcN it t c e (wipe ρ vs) it.n 0 [] M1).bind fun ys M2 => R.of (alloc (.lst ys) M2) else .bad
/-- an except clause: classes, the name's slot, the suite -/
structure Hd where
  tup : Bool
  cs : List String
  slot : Option Nat
  st : St
/-- a suite may raise nothing -/
def RS.calm : RS → RS
  | .exc _ _ _ => .bad
  | r => r
def setO (o : Option Nat) (c : String) (ρ : Env) : Env := match o with
  | some i => ρ.set i (some (.exc c))
  | none => ρ
def unO (o : Option Nat) (ρ : Env) : Env := match o with
  | some i => ρ.set i none
  | none => ρ
/-- the name goes behind the suite -/
def RS.drop (o : Option Nat) : RS → RS
  | .nx ρ M => .nx (unO o ρ) M
  | .bk ρ M => .bk (unO o ρ) M
  | .ct ρ M => .ct (unO o ρ) M
  | r => r
def handle : List Hd → String → St
  | [], c, ρ, M => .exc c ρ M
  | h :: r, c, ρ, M => if h.cs.any (isX c) = true then (if h.tup = true then .bad else ((h.st (setO h.slot c ρ) M).calm).drop h.slot) else handle r c ρ M
def sTry (b : St) (hs : List Hd) (els : St) : St := fun ρ M => match b ρ M with
  | .exc c ρ' M' => handle hs c ρ' M'
  | .nx ρ' M' => els ρ' M'
  | r => r

/-- a def: parameters, names, body -/
def mkFn (np nn : Nat) (b : St) : Fn := fun vs M => if vs.length = np then match b (vs.map some ++ List.replicate (nn - np) none) M with
  | .nx _ M1 => .ok .non M1
  | .ret v M1 => .ok v M1
  | .exc c _ M1 => .exc c M1
  | _ => .bad
  else .bad
end Mn
end
section
set_option Elab.async false
set_option autoImplicit false
set_option linter.all false
set_option maxRecDepth 100000
set_option maxHeartbeats 1000000
/-! What the machine does with a text is what the small language says: the relation of states, and a rule for each form. -/
namespace MnS
open PySem PySem.Spec PyProof.Rows L2
open Mn (Val Cell Store E Fn Op U Itr Src Tg)

/-! ### how values and stores stand in the machine -/
/-- where things stand: the written part, the classes by name -/
structure Tb where
  K : PySem.W.Frag
  ca : String → Addr
  xs : List String
def sOf (s : List Nat) : Str := ⟨s.toArray⟩
/-- a tuple that never changes: tracked, or of the written part -/
def TupAt (K : PySem.W.Frag) (H : Hp) (a : Addr) (xs : List V) : Prop := H a = some (.tup xs) ∨
  ∃ (o : Obj) (its : Array Value) (n : Nat), K.lookup a = some o ∧ o.cls = .type "tuple" ∧ o.data = .seq its n ∧ its.size ≤ sizeLine ∧ Vals xs its.toList
theorem TupAt.sq {K : PySem.W.Frag} {H : Hp} {a : Addr} {xs : List V} (h : TupAt K H a xs) : SqT K H a xs := by
  rcases h with h | h
  · exact .inl (.inl h)
  · exact .inr h
/-- an exception that is held: its class -/
def excPhi (C a : Addr) : Heap → Prop := fun h => ∃ o vs, h.get? a = some o ∧ o.cls = .ref C ∧ o.dict = none ∧ o.data = .fields vs
mutual
inductive Rel (T : Tb) (R : List Addr) (H : Hp) : Val → V → Prop
  | non : Rel T R H .non .non
  | bl (b : Bool) : Rel T R H (.bl b) (.bl b)
  | int (i : Int) : Rel T R H (.int i) (.int i)
  | str (s : List Nat) : Rel T R H (.str s) (.str (sOf s))
  | tup {xs : List Val} {a : Addr} {vs : List V} : TupAt T.K H a vs → Rels T R H xs vs → Rel T R H (.tup xs) (.ref a)
  | ref {n : Nat} {a : Addr} : R[n]? = some a → Rel T R H (.ref n) (.ref a)
  | exc {c : String} {a : Addr} : c ∈ T.xs → H a = some (.ext (excPhi (T.ca c) a)) → Rel T R H (.exc c) (.ref a)
inductive Rels (T : Tb) (R : List Addr) (H : Hp) : List Val → List V → Prop
  | nil : Rels T R H [] []
  | cons {x : Val} {v : V} {xs : List Val} {vs : List V} : Rel T R H x v → Rels T R H xs vs → Rels T R H (x :: xs) (v :: vs)
end
/-- what never changes stands -/
structure Keep (R R' : List Addr) (H H' : Hp) : Prop where
  tup : ∀ a xs, H a = some (.tup xs) → H' a = some (.tup xs)
  ext : ∀ a φ, H a = some (.ext φ) → H' a = some (.ext φ)
  fr : ∀ a o, H a = some o → a ∉ R → H' a = some o ∧ a ∉ R'
theorem Keep.refl {R : List Addr} (H : Hp) : Keep R R H H := ⟨fun _ _ h => h, fun _ _ h => h, fun _ _ h n => ⟨h, n⟩⟩
theorem Keep.trans {R R1 R2 : List Addr} {H H1 H2 : Hp} (a : Keep R R1 H H1) (b : Keep R1 R2 H1 H2) : Keep R R2 H H2 :=
  ⟨fun x y h => b.tup x y (a.tup x y h), fun x y h => b.ext x y (a.ext x y h), fun x o h n => let ⟨h1, n1⟩ := a.fr x o h n; b.fr x o h1 n1⟩
/-- a store at something that is neither -/
theorem Keep.upd {R : List Addr} {H : Hp} {a : Addr} {o : HO} (m : a ∈ R) (h : (∀ xs, H a ≠ some (.tup xs)) ∧ ∀ φ, H a ≠ some (.ext φ)) : Keep R R H (upd H a o) := by
  refine ⟨fun b xs e => ?_, fun b φ e => ?_, fun b u e n => ⟨?_, n⟩⟩
  · have n : b ≠ a := fun z => h.1 xs (z ▸ e)
    rw [upd_ne n]
    exact e
  · have n : b ≠ a := fun z => h.2 φ (z ▸ e)
    rw [upd_ne n]
    exact e
  · have n' : b ≠ a := fun z => n (z ▸ m)
    rw [upd_ne n']
    exact e
theorem Keep.new {R : List Addr} {H : Hp} {a : Addr} {o : HO} (h : H a = none) : Keep R R H (L2.upd H a o) := by
  have k : ∀ b u, H b = some u → L2.upd H a o b = some u := fun b u e => by
    rw [upd_ne (ne_of_none e h)]
    exact e
  exact ⟨fun b xs e => k b _ e, fun b φ e => k b _ e, fun b u e n => ⟨k b u e, n⟩⟩
theorem Keep.cell {R : List Addr} {H : Hp} {a : Addr} {o : HO} (h : H a = none) : Keep R (R ++ [a]) H (L2.upd H a o) := by
  have k : ∀ b u, H b = some u → L2.upd H a o b = some u := fun b u e => by
    rw [upd_ne (ne_of_none e h)]
    exact e
  refine ⟨fun b xs e => k b _ e, fun b φ e => k b _ e, fun b u e n => ⟨k b u e, fun z => ?_⟩⟩
  rcases List.mem_append.mp z with z | z
  · exact n z
  · exact ne_of_none e h (by simpa using z)
theorem TupAt.keep {K : PySem.W.Frag} {R R' : List Addr} {H H' : Hp} {a : Addr} {xs : List V} (h : TupAt K H a xs) (k : Keep R R' H H') : TupAt K H' a xs := by
  rcases h with h | h
  · exact .inl (k.tup _ _ h)
  · exact .inr h
theorem pre_get {R R' : List Addr} (p : R <+: R') {n : Nat} {a : Addr} (h : R[n]? = some a) : R'[n]? = some a := by
  obtain ⟨t, rfl⟩ := p
  have hn : n < R.length := (List.getElem?_eq_some_iff.mp h).1
  rw [List.getElem?_append_left hn]
  exact h
/-- what never changes stands, no more -/
structure Stay (H H' : Hp) : Prop where
  tup : ∀ a xs, H a = some (.tup xs) → H' a = some (.tup xs)
  ext : ∀ a φ, H a = some (.ext φ) → H' a = some (.ext φ)
theorem Stay.refl (H : Hp) : Stay H H := ⟨fun _ _ h => h, fun _ _ h => h⟩
theorem Keep.st {R R' : List Addr} {H H' : Hp} (k : Keep R R' H H') : Stay H H' := ⟨k.tup, k.ext⟩
theorem TupAt.stay {K : PySem.W.Frag} {H H' : Hp} {a : Addr} {xs : List V} (h : TupAt K H a xs) (k : Stay H H') : TupAt K H' a xs := by
  rcases h with h | h
  · exact .inl (k.tup _ _ h)
  · exact .inr h
mutual
theorem Rel.stay {T : Tb} {R R' : List Addr} {H H' : Hp} (p : R <+: R') (k : Stay H H') : ∀ {x : Val} {v : V}, Rel T R H x v → Rel T R' H' x v
  | _, _, .non => .non
  | _, _, .bl b => .bl b
  | _, _, .int i => .int i
  | _, _, .str s => .str s
  | _, _, .tup h r => .tup (h.stay k) (Rels.stay p k r)
  | _, _, .ref h => .ref (pre_get p h)
  | _, _, .exc m h => .exc m (k.ext _ _ h)
theorem Rels.stay {T : Tb} {R R' : List Addr} {H H' : Hp} (p : R <+: R') (k : Stay H H') : ∀ {xs : List Val} {vs : List V}, Rels T R H xs vs → Rels T R' H' xs vs
  | _, _, .nil => .nil
  | _, _, .cons h r => .cons (Rel.stay p k h) (Rels.stay p k r)
end
theorem Rel.mono {T : Tb} {R R' : List Addr} {H H' : Hp} (p : R <+: R') (k : Keep R R' H H') {x : Val} {v : V} (h : Rel T R H x v) : Rel T R' H' x v := h.stay p k.st
theorem Rels.mono {T : Tb} {R R' : List Addr} {H H' : Hp} (p : R <+: R') (k : Keep R R' H H') {xs : List Val} {vs : List V} (h : Rels T R H xs vs) : Rels T R' H' xs vs := h.stay p k.st
theorem Rels.length {T : Tb} {R : List Addr} {H : Hp} : ∀ {xs : List Val} {vs : List V}, Rels T R H xs vs → xs.length = vs.length
  | _, _, .nil => rfl
  | _, _, .cons _ r => congrArg Nat.succ (Rels.length r)
theorem Rels.get {T : Tb} {R : List Addr} {H : Hp} : ∀ {xs : List Val} {vs : List V} {i : Nat} {x : Val}, Rels T R H xs vs → xs[i]? = some x → ∃ v, vs[i]? = some v ∧ Rel T R H x v
  | _, _, _, _, .nil, e => by cases e
  | _, _, 0, _, .cons h _, e => by
    cases e
    exact ⟨_, rfl, h⟩
  | _, _, i + 1, _, .cons _ r, e => Rels.get (i := i) r e
theorem Rels.append {T : Tb} {R : List Addr} {H : Hp} : ∀ {xs ys : List Val} {vs ws : List V}, Rels T R H xs vs → Rels T R H ys ws → Rels T R H (xs ++ ys) (vs ++ ws)
  | _, _, _, _, .nil, s => s
  | _, _, _, _, .cons h r, s => .cons h (Rels.append r s)
theorem Rels.set {T : Tb} {R : List Addr} {H : Hp} {x : Val} {v : V} (q : Rel T R H x v) : ∀ {xs : List Val} {vs : List V} (i : Nat), Rels T R H xs vs → Rels T R H (xs.set i x) (vs.set i v)
  | _, _, _, .nil => .nil
  | _, _, 0, .cons _ r => .cons q r
  | _, _, i + 1, .cons h r => .cons h (Rels.set q i r)

/-- a dict's keys -/
def keyOf : Val → Option Key
  | .int i => some (.inl i)
  | .str s => some (.inr (sOf s))
  | _ => none
inductive RelK (T : Tb) (R : List Addr) (H : Hp) : List (Val × Val) → List (Key × V) → Prop
  | nil : RelK T R H [] []
  | cons {k x : Val} {q : Key} {v : V} {xs : List (Val × Val)} {vs : List (Key × V)} : keyOf k = some q → Rel T R H x v → RelK T R H xs vs → RelK T R H ((k, x) :: xs) ((q, v) :: vs)
theorem RelK.stay {T : Tb} {R R' : List Addr} {H H' : Hp} (p : R <+: R') (k : Stay H H') : ∀ {xs : List (Val × Val)} {vs : List (Key × V)}, RelK T R H xs vs → RelK T R' H' xs vs
  | _, _, .nil => .nil
  | _, _, .cons e h r => .cons e (h.stay p k) (RelK.stay p k r)
/-- an object's attributes -/
inductive RelF (T : Tb) (R : List Addr) (H : Hp) : List (String × Val) → List (Str × V) → Prop
  | nil : RelF T R H [] []
  | cons {f : String} {x : Val} {v : V} {xs : List (String × Val)} {vs : List (Str × V)} : Rel T R H x v → RelF T R H xs vs → RelF T R H ((f, x) :: xs) ((Str.ofString f, v) :: vs)
theorem RelF.stay {T : Tb} {R R' : List Addr} {H H' : Hp} (p : R <+: R') (k : Stay H H') : ∀ {xs : List (String × Val)} {vs : List (Str × V)}, RelF T R H xs vs → RelF T R' H' xs vs
  | _, _, .nil => .nil
  | _, _, .cons h r => .cons (h.stay p k) (RelF.stay p k r)
/-- what stands at a cell's address -/
def CellAt (T : Tb) (R : List Addr) (H : Hp) (a : Addr) : Cell → Prop
  | .lst xs => ∃ vs, H a = some (.lst vs) ∧ Rels T R H xs vs
  | .ro xs => ∃ o vs, H a = some (.frz o (.lst vs)) ∧ Rels T R H xs vs
  | .dic kvs => ∃ vs, H a = some (.dK vs) ∧ RelK T R H kvs vs
  | .rod kvs => ∃ o vs, H a = some (.frz o (.dK vs)) ∧ RelK T R H kvs vs
  | .obj c fs => ∃ dx vs, H a = some (.ins (T.ca c) dx vs) ∧ RelF T R H fs vs
theorem CellAt.stay {T : Tb} {R R' : List Addr} {H H' : Hp} {a : Addr} (p : R <+: R') (k : Stay H H') (e : H' a = H a) : ∀ {c : Cell}, CellAt T R H a c → CellAt T R' H' a c
  | .lst _, ⟨vs, h, r⟩ => ⟨vs, e.trans h, r.stay p k⟩
  | .ro _, ⟨o, vs, h, r⟩ => ⟨o, vs, e.trans h, r.stay p k⟩
  | .dic _, ⟨vs, h, r⟩ => ⟨vs, e.trans h, r.stay p k⟩
  | .rod _, ⟨o, vs, h, r⟩ => ⟨o, vs, e.trans h, r.stay p k⟩
  | .obj _ _, ⟨dx, vs, h, r⟩ => ⟨dx, vs, e.trans h, r.stay p k⟩
theorem CellAt.mono {T : Tb} {R R' : List Addr} {H H' : Hp} {a : Addr} (p : R <+: R') (k : Keep R R' H H') (e : H' a = H a) {c : Cell} (h : CellAt T R H a c) : CellAt T R' H' a c := h.stay p k.st e
theorem CellAt.some {T : Tb} {R : List Addr} {H : Hp} {a : Addr} : ∀ {c : Cell}, CellAt T R H a c → ∃ o, H a = some o ∧ (∀ xs, o ≠ .tup xs) ∧ ∀ φ, o ≠ .ext φ
  | .lst _, ⟨vs, h, r⟩ => ⟨_, h, fun _ z => (by cases z), fun _ z => (by cases z)⟩
  | .ro _, ⟨o, vs, h, r⟩ => ⟨_, h, fun _ z => (by cases z), fun _ z => (by cases z)⟩
  | .dic _, ⟨vs, h, r⟩ => ⟨_, h, fun _ z => (by cases z), fun _ z => (by cases z)⟩
  | .rod _, ⟨o, vs, h, r⟩ => ⟨_, h, fun _ z => (by cases z), fun _ z => (by cases z)⟩
  | .obj _ _, ⟨dx, vs, h, r⟩ => ⟨_, h, fun _ z => (by cases z), fun _ z => (by cases z)⟩
/-- the store stands in the heap, cell i at R's i-th address -/
structure Sim (T : Tb) (R : List Addr) (H : Hp) (M : Store) : Prop where
  len : R.length = M.length
  nd : R.Nodup
  cell : ∀ (n : Nat) (a : Addr) (c : Cell), R[n]? = some a → M[n]? = some c → CellAt T R H a c
section
variable {T : Tb} {R R' : List Addr} {H H' : Hp} {M M' : Store}
theorem Sim.at (S : Sim T R H M) {n : Nat} {c : Cell} (h : M[n]? = some c) : ∃ a, R[n]? = some a ∧ CellAt T R H a c := by
  have hn : n < R.length := by
    rw [S.len]
    exact (List.getElem?_eq_some_iff.mp h).1
  exact ⟨R[n], List.getElem?_eq_getElem hn, S.cell n _ c (List.getElem?_eq_getElem hn) h⟩
theorem Sim.of (S : Sim T R H M) {n : Nat} {a : Addr} (h : R[n]? = some a) : ∃ c, M[n]? = some c ∧ CellAt T R H a c := by
  have hn : n < M.length := by
    rw [← S.len]
    exact (List.getElem?_eq_some_iff.mp h).1
  exact ⟨M[n], List.getElem?_eq_getElem hn, S.cell n _ _ h (List.getElem?_eq_getElem hn)⟩
theorem Sim.inj (S : Sim T R H M) {m n : Nat} {a : Addr} (h : R[m]? = some a) (h' : R[n]? = some a) : m = n := by
  obtain ⟨h1, e1⟩ := List.getElem?_eq_some_iff.mp h
  obtain ⟨h2, e2⟩ := List.getElem?_eq_some_iff.mp h'
  exact (List.getElem_inj S.nd).mp (e1.trans e2.symm)
/-- the heap has more -/
theorem Sim.stay (S : Sim T R H M) (k : Stay H H') (e : ∀ (n : Nat) (a : Addr), R[n]? = some a → H' a = H a) : Sim T R H' M :=
  ⟨S.len, S.nd, fun n a c h1 h2 => (S.cell n a c h1 h2).stay (List.prefix_refl R) k (e n a h1)⟩
theorem Sim.keep (S : Sim T R H M) (k : Keep R R H H') (e : ∀ (n : Nat) (a : Addr), R[n]? = some a → H' a = H a) : Sim T R H' M := S.stay k.st e
/-- something new that is no cell -/
theorem Sim.other (S : Sim T R H M) {p : Addr} {o : HO} (hp : H p = none) : Sim T R (upd H p o) M :=
  S.keep (Keep.new hp) fun n a h => by
    obtain ⟨c, _, hc⟩ := S.of h
    obtain ⟨u, hu, _⟩ := hc.some
    rw [upd_ne (ne_of_none hu hp)]
/-- a new cell -/
theorem Sim.new (S : Sim T R H M) {p : Addr} {o : HO} {c : Cell} (hp : H p = none) (hc : CellAt T (R ++ [p]) (upd H p o) p c) : Sim T (R ++ [p]) (upd H p o) (M ++ [c]) := by
  have np : ∀ (n : Nat) (a : Addr), R[n]? = some a → a ≠ p := fun n a h => by
    obtain ⟨c, _, hc⟩ := S.of h
    obtain ⟨u, hu, _⟩ := hc.some
    exact ne_of_none hu hp
  refine ⟨by rw [List.length_append, List.length_append, S.len]; rfl, ?_, fun n a d h1 h2 => ?_⟩
  · rw [List.nodup_append]
    refine ⟨S.nd, by simp, fun a ha b hb z => ?_⟩
    obtain ⟨n, hn, e⟩ := List.mem_iff_getElem.mp ha
    have hb : b = p := by simpa using hb
    exact np n a (by rw [List.getElem?_eq_getElem hn, e]) (z.trans hb)
  · by_cases hn : n < R.length
    · rw [List.getElem?_append_left hn] at h1
      rw [List.getElem?_append_left (by rw [← S.len]; exact hn)] at h2
      exact (S.cell n a d h1 h2).mono (List.prefix_append R [p]) (Keep.cell hp) (upd_ne (np n a h1))
    · have hl : n < (R ++ [p]).length := (List.getElem?_eq_some_iff.mp h1).1
      rw [List.length_append] at hl
      have en : n = R.length := by
        have : [p].length = 1 := rfl
        omega
      subst en
      rw [List.getElem?_append_right (Nat.le_refl _), Nat.sub_self] at h1
      rw [S.len, List.getElem?_append_right (Nat.le_refl _), Nat.sub_self] at h2
      cases h1
      cases h2
      exact hc
/-- what stands becomes a cell -/
theorem Sim.adopt (S : Sim T R H M) {p : Addr} {c : Cell} (np : p ∉ R) (hc : CellAt T R H p c) : Sim T (R ++ [p]) H (M ++ [c]) := by
  have g : R <+: R ++ [p] := List.prefix_append R [p]
  refine ⟨by rw [List.length_append, List.length_append, S.len]; rfl, ?_, fun n a d h1 h2 => ?_⟩
  · rw [List.nodup_append]
    refine ⟨S.nd, by simp, fun a ha b hb z => ?_⟩
    have hb : b = p := by simpa using hb
    exact np (by rw [← hb, ← z]; exact ha)
  · by_cases hn : n < R.length
    · rw [List.getElem?_append_left hn] at h1
      rw [List.getElem?_append_left (by rw [← S.len]; exact hn)] at h2
      exact (S.cell n a d h1 h2).stay g (Stay.refl H) rfl
    · have hl : n < (R ++ [p]).length := (List.getElem?_eq_some_iff.mp h1).1
      rw [List.length_append] at hl
      have en : n = R.length := by
        have : [p].length = 1 := rfl
        omega
      subst en
      rw [List.getElem?_append_right (Nat.le_refl _), Nat.sub_self] at h1
      rw [S.len, List.getElem?_append_right (Nat.le_refl _), Nat.sub_self] at h2
      cases h1
      cases h2
      exact hc.stay g (Stay.refl H) rfl
/-- an address of a cell is taken -/
theorem Sim.mem (S : Sim T R H M) {p : Addr} (hp : H p = none) : p ∉ R := fun m => by
  obtain ⟨n, hn⟩ := List.mem_iff_getElem?.mp m
  obtain ⟨c, _, hc⟩ := S.of hn
  obtain ⟨u, hu, _⟩ := hc.some
  rw [hp] at hu
  cases hu
/-- a cell is written -/
theorem Sim.write (S : Sim T R H M) {n : Nat} {p : Addr} {o : HO} {c : Cell} (hn : R[n]? = some p) (hc : CellAt T R (upd H p o) p c) : Sim T R (upd H p o) (M.set n c) ∧ Keep R R H (upd H p o) := by
  obtain ⟨d, _, hd⟩ := S.of hn
  obtain ⟨u, hu, u1, u2⟩ := hd.some
  have k : Keep R R H (upd H p o) := Keep.upd (List.mem_of_getElem? hn) ⟨fun xs e => u1 xs (Option.some.inj (hu.symm.trans e)), fun φ e => u2 φ (Option.some.inj (hu.symm.trans e))⟩
  refine ⟨⟨by rw [List.length_set]; exact S.len, S.nd, fun m a d h1 h2 => ?_⟩, k⟩
  by_cases e : m = n
  · subst e
    have hl : m < M.length := by
      rw [← S.len]
      exact (List.getElem?_eq_some_iff.mp hn).1
    rw [List.getElem?_set_self hl] at h2
    cases h2
    rw [hn] at h1
    cases h1
    exact hc
  · rw [List.getElem?_set_ne (Ne.symm e)] at h2
    exact (S.cell m a d h1 h2).mono (List.prefix_refl R) k (upd_ne fun z => e (S.inj h1 (show R[n]? = some a by rw [z]; exact hn)))
end
/-- the slots -/
def EnvR (T : Tb) (R : List Addr) (H : Hp) (ρ : Mn.Env) (σ : L2.St) : Prop := ρ.length = σ.length ∧ ∀ (i : Nat) (v : Val), ρ[i]? = some (some v) → ∃ w, σ[i]? = some (some w) ∧ Rel T R H v w
theorem EnvR.mono {T : Tb} {R R' : List Addr} {H H' : Hp} {ρ : Mn.Env} {σ : L2.St} (h : EnvR T R H ρ σ) (p : R <+: R') (k : Keep R R' H H') : EnvR T R' H' ρ σ :=
  ⟨h.1, fun i v e => let ⟨w, e1, r⟩ := h.2 i v e; ⟨w, e1, r.mono p k⟩⟩
theorem EnvR.set {T : Tb} {R : List Addr} {H : Hp} {ρ : Mn.Env} {σ : L2.St} (h : EnvR T R H ρ σ) {v : Val} {w : V} (r : Rel T R H v w) (i : Nat) : EnvR T R H (ρ.set i (some v)) (σ.set i (some w)) := by
  refine ⟨by rw [List.length_set, List.length_set]; exact h.1, fun j u e => ?_⟩
  by_cases hj : i = j
  · subst hj
    by_cases hi : i < ρ.length
    · rw [List.getElem?_set_self hi] at e
      cases e
      exact ⟨w, List.getElem?_set_self (by rw [← h.1]; exact hi), r⟩
    · rw [List.getElem?_eq_none (by rw [List.length_set]; omega)] at e
      cases e
  · rw [List.getElem?_set_ne hj] at e ⊢
    exact h.2 j u e

/-! ### readings -/
/-- what is wanted where an evaluation ended so -/
def Post (T : Tb) (W : XK) (R : List Addr) (H : Hp) (Q : VK) : Mn.R Val → Prop
  | .ok v M => ∀ R' H' w, R <+: R' → Keep R R' H H' → Sim T R' H' M → Rel T R' H' v w → Q w H'
  | .exc c M => c ∈ T.xs → ∀ R' H', R <+: R' → Keep R R' H H' → Sim T R' H' M → W (.ref (T.ca c)) none H'
  | .bad => False
def PostL (T : Tb) (W : XK) (R : List Addr) (H : Hp) (Q : List V → Hp → Prop) : Mn.R (List Val) → Prop
  | .ok v M => ∀ R' H' w, R <+: R' → Keep R R' H H' → Sim T R' H' M → Rels T R' H' v w → Q w H'
  | .exc c M => c ∈ T.xs → ∀ R' H', R <+: R' → Keep R R' H H' → Sim T R' H' M → W (.ref (T.ca c)) none H'
  | .bad => False
def PostB (T : Tb) (W : XK) (R : List Addr) (H : Hp) (Q : Bool → Hp → Prop) : Mn.R Val → Prop
  | .ok (.bl b) M => ∀ R' H', R <+: R' → Keep R R' H H' → Sim T R' H' M → Q b H'
  | .ok _ _ => False
  | .exc c M => c ∈ T.xs → ∀ R' H', R <+: R' → Keep R R' H H' → Sim T R' H' M → W (.ref (T.ca c)) none H'
  | .bad => False
abbrev at_ (W : WX) (σ : L2.St) : XK := fun cls d H => W cls d σ H
def rdE (T : Tb) (W : WX) (f : E) : TE := fun σ H Q => ∃ R ρ M, EnvR T R H ρ σ ∧ Sim T R H M ∧ Post T (at_ W σ) R H Q (f ρ M)
def rdT (T : Tb) (W : WX) (f : E) : TT := fun σ H Q => ∃ R ρ M, EnvR T R H ρ σ ∧ Sim T R H M ∧ PostB T (at_ W σ) R H Q (f ρ M)
def rdA (T : Tb) (W : WX) (fs : List E) : TA := fun σ H Q => ∃ R ρ M, EnvR T R H ρ σ ∧ Sim T R H M ∧ PostL T (at_ W σ) R H Q (Mn.evL fs ρ M)
/-- a two-place operation by values -/
def rdO (T : Tb) (f : Op) : R2 := fun x y H Q => ∃ R M u v, Sim T R H M ∧ Rel T R H u x ∧ Rel T R H v y ∧ Post T (fun _ _ _ => False) R H Q (Mn.R.of (f u v M))
def rdU (T : Tb) (f : U) : V → Hp → VK → Prop := fun x H Q => ∃ R M u, Sim T R H M ∧ Rel T R H u x ∧ Post T (fun _ _ _ => False) R H Q (Mn.R.of (f u M))
section
variable {T : Tb} {W : WX} {W' : XK} {R R' : List Addr} {H H' : Hp} {Q Q' : VK}
theorem Post.imp {r : Mn.R Val} (h : Post T W' R H Q r) (p : R <+: R') (k : Keep R R' H H') (q : ∀ w H1, Q w H1 → Q' w H1) : Post T W' R' H' Q' r := by
  cases r with
  | ok v M => exact fun R2 H2 w p2 k2 s2 r2 => q _ _ (h R2 H2 w (p.trans p2) (k.trans k2) s2 r2)
  | exc c M => exact fun hc R2 H2 p2 k2 s2 => h hc R2 H2 (p.trans p2) (k.trans k2) s2
  | bad => exact h
/-- from the first part of an evaluation to the rest -/
theorem Post.bind {r : Mn.R Val} {f : Val → Store → Mn.R Val} (h : Post T W' R H Q (r.bind f)) :
    Post T W' R H (fun x H1 => ∃ R1 M1 v, R <+: R1 ∧ Keep R R1 H H1 ∧ Sim T R1 H1 M1 ∧ Rel T R1 H1 v x ∧ Post T W' R1 H1 Q (f v M1)) r := by
  cases r with
  | ok v M => exact fun R1 H1 w p1 k1 s1 r1 => ⟨R1, M, v, p1, k1, s1, r1, Post.imp (r := f v M) h p1 k1 fun _ _ q => q⟩
  | exc c M => exact h
  | bad => exact h
theorem Post.bindL {r : Mn.R (List Val)} {f : List Val → Store → Mn.R Val} (h : Post T W' R H Q (r.bind f)) :
    PostL T W' R H (fun x H1 => ∃ R1 M1 v, R <+: R1 ∧ Keep R R1 H H1 ∧ Sim T R1 H1 M1 ∧ Rels T R1 H1 v x ∧ Post T W' R1 H1 Q (f v M1)) r := by
  cases r with
  | ok v M => exact fun R1 H1 w p1 k1 s1 r1 => ⟨R1, M, v, p1, k1, s1, r1, Post.imp (r := f v M) h p1 k1 fun _ _ q => q⟩
  | exc c M => exact h
  | bad => exact h
theorem rdE_bind {a : E} {f : Val → Store → Mn.R Val} {ρ : Mn.Env} {M : Store} {σ : L2.St} (e : EnvR T R H ρ σ) (s : Sim T R H M) (h : Post T (at_ W σ) R H Q ((a ρ M).bind f)) :
    rdE T W a σ H fun x H1 => ∃ R1 M1 v, EnvR T R1 H1 ρ σ ∧ Sim T R1 H1 M1 ∧ Rel T R1 H1 v x ∧ R <+: R1 ∧ Keep R R1 H H1 ∧ Post T (at_ W σ) R1 H1 Q (f v M1) :=
  ⟨R, ρ, M, e, s, h.bind.imp (List.prefix_refl R) (Keep.refl H) fun _ _ ⟨R1, M1, v, p1, k1, s1, r1, q⟩ => ⟨R1, M1, v, e.mono p1 k1, s1, r1, p1, k1, q⟩⟩
theorem of_noexc {o : Mn.P} (h : Post T W' R H Q (Mn.R.of o)) : Post T (fun _ _ _ => False) R H Q (Mn.R.of o) := by
  cases o with
  | none => exact h
  | some q => exact h
end
theorem PE.imp {X : Cx} {e : Expr} {t t' : TE} (h : PE X e t) (i : ∀ σ H Q, t' σ H Q → t σ H Q) : PE X e t' := ⟨fun pins s σ H Q I q => h.run pins s σ H Q I (i σ H Q q)⟩
theorem PT.imp {X : Cx} {e : Expr} {t t' : TT} (h : PT X e t) (i : ∀ σ H Q, t' σ H Q → t σ H Q) : PT X e t' := ⟨fun pins s σ H Q I q => h.run pins s σ H Q I (i σ H Q q)⟩
theorem PA.imp {X : Cx} {e : List Expr} {t t' : TA} (h : PA X e t) (i : ∀ σ H Q, t' σ H Q → t σ H Q) : PA X e t' := ⟨fun pos pins s σ H Q I q => h.run pos pins s σ H Q I (i σ H Q q)⟩
theorem PS.imp {X : Cx} {e : Stmt} {t t' : TS} (h : PS X e t) (i : ∀ σ H Q, t' Q σ H → t Q σ H) : PS X e t' := ⟨fun pins s σ H Q I q => h.run pins s σ H Q I (i σ H Q q)⟩
theorem PSs.imp {X : Cx} {e : List Stmt} {t t' : TS} (h : PSs X e t) (i : ∀ σ H Q, t' Q σ H → t Q σ H) : PSs X e t' := ⟨fun pins s σ H Q I q => h.run pins s σ H Q I (i σ H Q q)⟩
/-! ### expressions -/
section
variable {X : Cx} {T : Tb} {W : WX} {a b c : Expr} {fa fb fc : E} {pos : Pos}
theorem s_var {i : Nat} (h : PE X a (tVar i)) : PE X a (rdE T W (Mn.eVar i)) := PE.imp h fun σ H Q ⟨R, ρ, M, e, s, p⟩ => by
  unfold Mn.eVar at p
  split at p
  · rename_i v hv
    obtain ⟨w, e1, r⟩ := e.2 i v hv
    exact ⟨w, e1, p R H w (List.prefix_refl R) (Keep.refl H) s r⟩
  · exact p.elim
theorem s_con {v : Val} {w : V} (h : PE X a (tC w)) (r : ∀ R H, Rel T R H v w) : PE X a (rdE T W (Mn.eC v)) := PE.imp h fun σ H Q ⟨R, ρ, M, e, s, p⟩ => p R H w (List.prefix_refl R) (Keep.refl H) s (r R H)
theorem bin_rd {f : Op} : ∀ σ H Q, rdE T W (Mn.eBin f fa fb) σ H Q → tOp (rdO T f) (rdE T W fa) (rdE T W fb) σ H Q := fun σ H Q ⟨R, ρ, M, e, s, p⟩ => by
  obtain ⟨R0, ρ0, M0, e0, s0, p0⟩ := rdE_bind e s p
  refine ⟨R0, ρ0, M0, e0, s0, p0.imp (List.prefix_refl _) (Keep.refl _) fun x H1 ⟨R1, M1, v, e1, s1, r1, pr1, k1, q⟩ => ?_⟩
  obtain ⟨R2, ρ2, M2, e2, s2, p2⟩ := rdE_bind e1 s1 q
  exact ⟨R2, ρ2, M2, e2, s2, p2.imp (List.prefix_refl _) (Keep.refl _) fun y H2 ⟨R3, M3, u, e3, s3, r3, pr3, k3, q3⟩ => ⟨R3, M3, v, u, s3, r1.mono pr3 k3, r3, of_noexc q3⟩⟩
theorem s_bin {op : Operator} {f : Op} (ho : OpR X (binaryOp op) (rdO T f)) (ha : PE X a (rdE T W fa)) (hb : PE X b (rdE T W fb)) : PE X (.BinOp a op b pos) (rdE T W (Mn.eBin f fa fb)) :=
  PE.imp (pe_op ho ha hb) bin_rd
theorem s_cmp {op : CmpOp} {f : Op} (ho : OpR X (compareOp op) (rdO T f)) (ha : PE X a (rdE T W fa)) (hb : PE X b (rdE T W fb)) (hm : behindInMarks op b = false) : PE X (.Compare a [op] [b] pos) (rdE T W (Mn.eBin f fa fb)) :=
  PE.imp (pe_cmpR ho ha hb hm) bin_rd
theorem un_rd {f : U} : ∀ σ H Q, rdE T W (Mn.eUn f fa) σ H Q → tUn (rdU T f) (rdE T W fa) σ H Q := fun σ H Q ⟨R, ρ, M, e, s, p⟩ => by
  obtain ⟨R0, ρ0, M0, e0, s0, p0⟩ := rdE_bind e s p
  exact ⟨R0, ρ0, M0, e0, s0, p0.imp (List.prefix_refl _) (Keep.refl _) fun x H1 ⟨R1, M1, v, e1, s1, r1, pr1, k1, q⟩ => ⟨R1, M1, v, s1, r1, of_noexc q⟩⟩
theorem s_un {op : UnaryOp} {f : U} (ho : UnR X (unaryOp op) (rdU T f)) (ha : PE X a (rdE T W fa)) : PE X (.UnaryOp op a pos) (rdE T W (Mn.eUn f fa)) := PE.imp (pe_un ho ha) un_rd
end
end MnS
end
section
set_option Elab.async false
set_option autoImplicit false
set_option linter.all false
set_option maxRecDepth 100000
set_option maxHeartbeats 1000000
/-! The operations. -/
namespace MnS
open PySem PySem.Spec PyProof.Rows L2
open Mn (Val Cell Store E Fn Op U Itr Src Tg)
section
variable {T : Tb} {W : WX} {W' : XK} {R R' : List Addr} {H H' : Hp} {Q Q' : VK} {M : Store}
theorem szLine_eq : Mn.szLine = sizeLine := by
  rw [sizeLine_eq]
  rfl
/-- a list that is read -/
theorem Sim.lst (S : Sim T R H M) {n : Nat} {xs : List Val} (h : Mn.lstAt M n = some xs) : ∃ a vs, R[n]? = some a ∧ SqL T.K H a vs ∧ Rels T R H xs vs := by
  unfold Mn.lstAt at h
  split at h
  · rename_i ys e
    cases h
    obtain ⟨a, ha, vs, h1, h2⟩ := S.at e
    exact ⟨a, vs, ha, .inl (.inl h1), h2⟩
  · rename_i ys e
    cases h
    obtain ⟨a, ha, o, vs, h1, h2⟩ := S.at e
    exact ⟨a, vs, ha, .inl (.inr ⟨o, h1⟩), h2⟩
  · cases h
theorem post_ok {v : Val} {w : V} (S : Sim T R H M) (h : Post T W' R H Q (.ok v M)) (r : Rel T R H v w) : Q w H := h R H w (List.prefix_refl R) (Keep.refl H) S r
theorem post_new {c : Cell} {p : Addr} {o : HO} (S : Sim T R H M) (h : Post T W' R H Q (Mn.R.of (Mn.alloc c M))) (hp : H p = none) (hc : CellAt T (R ++ [p]) (upd H p o) p c) : Q (.ref p) (upd H p o) := by
  refine h (R ++ [p]) (upd H p o) (.ref p) (List.prefix_append R [p]) (Keep.cell hp) (S.new hp hc) (.ref ?_)
  rw [← S.len, List.getElem?_append_right (Nat.le_refl _), Nat.sub_self]
  rfl
theorem new_lst {xs : List Val} {vs : List V} {p : Addr} (r : Rels T R H xs vs) (hp : H p = none) : CellAt T (R ++ [p]) (upd H p (.lst vs)) p (.lst xs) :=
  ⟨vs, upd_same, r.mono (List.prefix_append R [p]) (Keep.cell hp)⟩
theorem Rels.rep {xs : List Val} {vs : List V} (r : Rels T R H xs vs) : ∀ k : Nat, Rels T R H (List.replicate k xs).flatten (List.replicate k vs).flatten
  | 0 => .nil
  | k + 1 => by
    rw [List.replicate_succ, List.replicate_succ, List.flatten_cons, List.flatten_cons]
    exact r.append (Rels.rep r k)
theorem sOf_len (s : List Nat) : (sOf s).length = s.length := by simp [sOf, Str.length]
theorem sOf_add (x y : List Nat) : sOf x ++ sOf y = sOf (x ++ y) := by
  show Str.mk (x.toArray ++ y.toArray) = Str.mk (x ++ y).toArray
  rw [List.append_toArray]
theorem mulOk_of {i j : Int} (h : Mn.mulOk i j = true) : IntMulOk i j := by
  have b : ∀ x : Int, Builtin.Int.intBits x ≤ Mn.bits x := fun x => by
    unfold Builtin.Int.intBits Mn.bits
    split <;> split <;> simp_all
  unfold Mn.mulOk at h
  simp only [Bool.or_eq_true, decide_eq_true_eq] at h
  have b1 := b i
  have b2 := b j
  rcases h with (h | h) | h
  · exact .of_left (by omega)
  · exact .of_right (by omega)
  · unfold IntMulOk
    intro z
    rw [Bool.and_eq_true] at z
    have z2 := z.2
    unfold Builtin.Int.intTooBig at z2
    have z3 := of_decide_eq_true z2
    have e : bitsLine = 134217728 := bitsLine_eq
    rw [e] at z3
    omega
end
section
variable {X : Cx} {T : Tb}
theorem op_mulF : OpR X (binaryOp .Mult) (rI (fun i j => Mn.mulOk i j = true) fun i j => .int (i * j)) := opI fun _ _ _ _ _ _ _ hc q => mul_int q (mulOk_of hc)
theorem divOk_of {i j : Int} (h0 : j ≠ 0) (h : Mn.divOk i j = true) : Builtin.divisionGoesByPylong i j = false := by
  unfold Mn.divOk at h
  rw [Bool.or_eq_true, decide_eq_true_eq, decide_eq_true_eq] at h
  rcases h with h | h
  · exact PyProof.noPylong_of_log2 h
  · unfold Builtin.divisionGoesByPylong
    have e1 : (j == 0) = false := beq_eq_false_iff_ne.mpr h0
    simp only [e1, Bool.false_eq_true, if_false]
    have : ¬ ((if (i == 0) = true then 0 else i.natAbs.log2 / 30 + 1) > j.natAbs.log2 / 30 + 1 + 150) := by
      split <;> omega
    simp only [decide_eq_false this, Bool.and_false]
theorem op_divF : OpR X (binaryOp .FloorDiv) (rI (fun i j => j ≠ 0 ∧ Mn.divOk i j = true) fun i j => .int (i.fdiv j)) :=
  opI fun _ _ _ _ _ _ _ hc q => floordiv_int hc.1 q (.inl (divOk_of hc.1 hc.2))
theorem o_add (hK : X.K = T.K) : OpR X (binaryOp .Add) (rdO T Mn.oAdd) := by
  intro pins s σ H x y v u Q I rx ry ⟨R, M, a, b, S, ra, rb, p⟩
  unfold Mn.oAdd at p
  split at p
  · cases ra
    cases rb
    exact op_add pins s σ H _ _ v u Q I rx ry ⟨_, _, rfl, rfl, post_ok S p (.int _)⟩
  · cases ra
    cases rb
    split at p
    · rename_i hz
      refine op_add_str pins s σ H _ _ v u Q I rx ry ⟨_, _, rfl, rfl, by rw [sOf_len, sOf_len, ← szLine_eq]; exact hz, ?_⟩
      rw [sOf_add]
      exact post_ok S p (.str _)
    · exact p.elim
  · split at p
    · rename_i m n M' xs ys e1 e2
      split at p
      · rename_i hz
        cases ra with
        | ref q1 =>
          cases rb with
          | ref q2 =>
            obtain ⟨a1, z1, vs, h1, k1⟩ := S.at e1
            obtain ⟨a2, z2, ws, h2, k2⟩ := S.at e2
            rw [q1] at z1
            rw [q2] at z2
            cases z1
            cases z2
            refine op_cat pins s σ H _ _ v u Q I rx ry ⟨_, _, vs, ws, rfl, rfl, h1, h2, by rw [← k1.length, ← k2.length, ← szLine_eq]; exact hz, fun pp hp => ?_⟩
            exact post_new S p hp (new_lst (k1.append k2) hp)
      · exact p.elim
    · exact p.elim
  · split at p
    · rename_i xs ys M' hz
      cases ra with
      | tup h1 k1 =>
        cases rb with
        | tup h2 k2 =>
          refine op_catA pins s σ H _ _ v u Q I rx ry ⟨_, _, _, _, rfl, rfl, by rw [hK]; exact h1.sq, by rw [hK]; exact h2.sq, by rw [← k1.length, ← k2.length, ← szLine_eq]; exact hz, fun e => ?_, fun _ e => ?_, fun _ _ pp hp => ?_⟩
          · have l1 := k1.length
            rw [e] at l1
            have e1 := List.eq_nil_of_length_eq_zero l1
            rw [e1, List.nil_append] at p
            exact post_ok S p (.tup h2 k2)
          · have l2 := k2.length
            rw [e] at l2
            have e2 := List.eq_nil_of_length_eq_zero l2
            rw [e2, List.append_nil] at p
            exact post_ok S p (.tup h1 k1)
          · exact p R _ _ (List.prefix_refl R) (Keep.new hp) (S.other hp) (.tup (.inl upd_same) ((k1.append k2).mono (List.prefix_refl R) (Keep.new hp)))
    · exact p.elim
  · exact p.elim
theorem o_sub : OpR X (binaryOp .Sub) (rdO T Mn.oSub) := by
  intro pins s σ H x y v u Q I rx ry ⟨R, M, a, b, S, ra, rb, p⟩
  unfold Mn.oSub at p
  split at p
  · cases ra
    cases rb
    exact op_sub pins s σ H _ _ v u Q I rx ry ⟨_, _, rfl, rfl, post_ok S p (.int _)⟩
  · exact p.elim
theorem o_mul : OpR X (binaryOp .Mult) (rdO T Mn.oMul) := by
  intro pins s σ H x y v u Q I rx ry ⟨R, M, a, b, S, ra, rb, p⟩
  unfold Mn.oMul at p
  split at p
  · split at p
    · rename_i hc
      cases ra
      cases rb
      exact op_mulF pins s σ H _ _ v u Q I rx ry ⟨_, _, rfl, rfl, hc, post_ok S p (.int _)⟩
    · exact p.elim
  · split at p
    · rename_i n k M' xs e1
      split at p
      · rename_i hz
        cases ra with
        | ref q1 =>
          cases rb
          obtain ⟨a1, z1, vs, h1, k1⟩ := S.at e1
          rw [q1] at z1
          cases z1
          refine op_rep pins s σ H _ _ v u Q I rx ry ⟨_, k, vs, rfl, rfl, h1, hz.2.1, hz.2.2, by rw [← k1.length, ← szLine_eq]; exact hz.1, fun pp hp => ?_⟩
          exact post_new S p hp (new_lst (k1.rep _) hp)
      · exact p.elim
    · exact p.elim
  · exact p.elim
theorem o_div : OpR X (binaryOp .FloorDiv) (rdO T Mn.oDiv) := by
  intro pins s σ H x y v u Q I rx ry ⟨R, M, a, b, S, ra, rb, p⟩
  unfold Mn.oDiv at p
  split at p
  · split at p
    · rename_i hc
      cases ra
      cases rb
      exact op_divF pins s σ H _ _ v u Q I rx ry ⟨_, _, rfl, rfl, hc, post_ok S p (.int _)⟩
    · exact p.elim
  · exact p.elim
theorem o_mod : OpR X (binaryOp .Mod) (rdO T Mn.oMod) := by
  intro pins s σ H x y v u Q I rx ry ⟨R, M, a, b, S, ra, rb, p⟩
  unfold Mn.oMod at p
  split at p
  · split at p
    · rename_i hc
      cases ra
      cases rb
      exact op_modN pins s σ H _ _ v u Q I rx ry ⟨_, _, rfl, rfl, hc, post_ok S p (.int _)⟩
    · exact p.elim
  · exact p.elim
theorem o_pow : OpR X (binaryOp .Pow) (rdO T Mn.oPow) := by
  intro pins s σ H x y v u Q I rx ry ⟨R, M, a, b, S, ra, rb, p⟩
  unfold Mn.oPow at p
  split at p
  · split at p
    · rename_i hc
      cases ra
      cases rb
      exact op_pow pins s σ H _ _ v u Q I rx ry ⟨_, _, rfl, rfl, hc, post_ok S p (.int _)⟩
    · exact p.elim
  · exact p.elim
theorem o_neg : UnR X (unaryOp .USub) (rdU T Mn.oNeg) := by
  intro pins s σ H x v Q I rx ⟨R, M, a, S, ra, p⟩
  unfold Mn.oNeg at p
  split at p
  · cases ra
    exact un_neg pins s σ H _ v Q I rx ⟨_, rfl, post_ok S p (.int _)⟩
  · exact p.elim
theorem o_int {op : CmpOp} {g : Int → Int → Bool} (h : OpR X (compareOp op) (rI0 fun i j => .bl (g i j))) : OpR X (compareOp op) (rdO T (Mn.cInt g)) := by
  intro pins s σ H x y v u Q I rx ry ⟨R, M, a, b, S, ra, rb, p⟩
  unfold Mn.cInt at p
  split at p
  · cases ra
    cases rb
    exact h pins s σ H _ _ v u Q I rx ry ⟨_, _, rfl, rfl, post_ok S p (.bl _)⟩
  · exact p.elim
theorem o_lt : OpR X (compareOp .Lt) (rdO T Mn.cLt) := o_int op_lt
theorem o_le : OpR X (compareOp .LtE) (rdO T Mn.cLe) := o_int op_le
theorem o_gt : OpR X (compareOp .Gt) (rdO T Mn.cGt) := o_int op_gt
theorem o_ge : OpR X (compareOp .GtE) (rdO T Mn.cGe) := o_int op_ge
theorem isNon_rel {R : List Addr} {H : Hp} {a : Val} {x : V} (r : Rel T R H a x) : Mn.isNon a = decide (x = .non) := by
  cases r <;> rfl
theorem o_isN : OpR X (compareOp .Is) (rdO T Mn.cIsN) := by
  intro pins s σ H x y v u Q I rx ry ⟨R, M, a, b, S, ra, rb, p⟩
  unfold Mn.cIsN at p
  split at p
  · cases rb
    refine op_isN pins s σ H _ _ v u Q I rx ry ⟨rfl, ?_⟩
    rw [← isNon_rel ra]
    exact post_ok S p (.bl _)
  · exact p.elim
theorem o_notN : OpR X (compareOp .IsNot) (rdO T Mn.cNotN) := by
  intro pins s σ H x y v u Q I rx ry ⟨R, M, a, b, S, ra, rb, p⟩
  unfold Mn.cNotN at p
  split at p
  · cases rb
    refine op_notN pins s σ H _ _ v u Q I rx ry ⟨rfl, ?_⟩
    rw [← isNon_rel ra]
    exact post_ok S p (.bl _)
  · exact p.elim
end
/-! ### == -/
mutual
def pd : Mn.T → PyData
  | .non => .none
  | .bl b => .bool b
  | .int i => .int i
  | .str s => .str (sOf s)
  | .tup xs => .tuple (pds xs)
  | .lst xs => .list (pds xs)
def pds : List Mn.T → List PyData
  | [] => []
  | x :: xs => pd x :: pds xs
end
theorem sOf_inj {x y : List Nat} : sOf x = sOf y ↔ x = y := by
  constructor
  · intro h
    have e : x.toArray = y.toArray := Str.mk.inj h
    simpa using congrArg Array.toList e
  · intro h
    rw [h]
theorem sOf_beq (x y : List Nat) : (sOf x == sOf y) = decide (x = y) := by
  by_cases h : x = y
  · rw [h]
    simp
  · rw [decide_eq_false h]
    exact beq_eq_false_iff_ne.mpr fun z => h (sOf_inj.mp z)
mutual
theorem eqv_pd : ∀ (a b : Mn.T), PyData.eqv (pd a) (pd b) = Mn.T.eqv a b
  | .non, b => by cases b <;> simp [pd, PyData.eqv, Mn.T.eqv]
  | .bl x, b => by cases b <;> simp [pd, PyData.eqv, Mn.T.eqv, Mn.b2i, Bool.beq_eq_decide_eq] <;> exact decide_eq_decide.mpr Iff.rfl
  | .int i, b => by cases b <;> simp [pd, PyData.eqv, Mn.T.eqv, Mn.b2i, Bool.beq_eq_decide_eq] <;> exact decide_eq_decide.mpr Iff.rfl
  | .str s, b => by cases b <;> simp [pd, PyData.eqv, Mn.T.eqv, sOf_beq]
  | .tup xs, .tup ys => by
    simp only [pd, PyData.eqv, Mn.T.eqv]
    exact eqv_pds xs ys
  | .lst xs, .lst ys => by
    simp only [pd, PyData.eqv, Mn.T.eqv]
    exact eqv_pds xs ys
  | .tup xs, .non => by simp [pd, PyData.eqv, Mn.T.eqv]
  | .tup xs, .bl _ => by simp [pd, PyData.eqv, Mn.T.eqv]
  | .tup xs, .int _ => by simp [pd, PyData.eqv, Mn.T.eqv]
  | .tup xs, .str _ => by simp [pd, PyData.eqv, Mn.T.eqv]
  | .tup xs, .lst _ => by simp [pd, PyData.eqv, Mn.T.eqv]
  | .lst xs, .non => by simp [pd, PyData.eqv, Mn.T.eqv]
  | .lst xs, .bl _ => by simp [pd, PyData.eqv, Mn.T.eqv]
  | .lst xs, .int _ => by simp [pd, PyData.eqv, Mn.T.eqv]
  | .lst xs, .str _ => by simp [pd, PyData.eqv, Mn.T.eqv]
  | .lst xs, .tup _ => by simp [pd, PyData.eqv, Mn.T.eqv]
theorem eqv_pds : ∀ (a b : List Mn.T), PyData.eqvAll (pds a) (pds b) = Mn.T.eqvs a b
  | [], [] => by simp [pds, PyData.eqvAll, Mn.T.eqvs]
  | [], _ :: _ => by simp [pds, PyData.eqvAll, Mn.T.eqvs]
  | _ :: _, [] => by simp [pds, PyData.eqvAll, Mn.T.eqvs]
  | x :: xs, y :: ys => by
    simp only [pds, PyData.eqvAll, Mn.T.eqvs]
    rw [eqv_pd x y, eqv_pds xs ys]
end
theorem toT_pd {T : Tb} {R : List Addr} {H : Hp} {M : Store} (S : Sim T R H M) : ∀ (k : Nat),
    (∀ (x : Val) (v : V) (t : Mn.T), Rel T R H x v → Mn.toT M k x = some t → Dp T.K H v (pd t) ∧ (pd t).canLay0 = true ∧ (pd t).depth ≤ k)
  | 0, x, v, t, _, h => by
    unfold Mn.toT at h
    cases h
  | k + 1, x, v, t, r, h => by
    have go : ∀ (xs : List Val) (vs : List V) (ts : List Mn.T), Rels T R H xs vs → Mn.mapO (Mn.toT M k) xs = some ts → DpAll T.K H vs (pds ts) ∧ PyData.canLayAll0 (pds ts) = true ∧ PyData.depthAll (pds ts) ≤ k := by
      intro xs
      induction xs with
      | nil =>
        intro vs ts r h
        cases r
        cases h
        exact ⟨.nil, by simp [pds, PyData.canLayAll0], by simp [pds, PyData.depthAll]⟩
      | cons y ys ih =>
        intro vs ts r h
        cases r with
        | cons r1 r2 =>
          unfold Mn.mapO at h
          cases e1 : Mn.toT M k y with
          | none =>
            rw [e1] at h
            cases h
          | some t1 =>
            rw [e1] at h
            cases e2 : Mn.mapO (Mn.toT M k) ys with
            | none =>
              rw [e2] at h
              cases h
            | some t2 =>
              rw [e2] at h
              cases h
              obtain ⟨d1, c1, p1⟩ := toT_pd S k y _ t1 r1 e1
              obtain ⟨d2, c2, p2⟩ := ih _ t2 r2 e2
              refine ⟨.cons d1 d2, by simp [pds, PyData.canLayAll0, c1, c2], ?_⟩
              simp only [pds, PyData.depthAll]
              omega
    cases r with
    | non =>
      cases h
      exact ⟨.non, by simp [pd, PyData.canLay0], by simp [pd, PyData.depth]⟩
    | bl b =>
      cases h
      exact ⟨.bl b, by simp [pd, PyData.canLay0], by simp [pd, PyData.depth]⟩
    | int i =>
      cases h
      exact ⟨.int i, by simp [pd, PyData.canLay0], by simp [pd, PyData.depth]⟩
    | str s =>
      unfold Mn.toT at h
      split at h
      · rename_i hs
        cases h
        refine ⟨.str _, ?_, by simp [pd, PyData.depth]⟩
        simp only [pd, PyData.canLay0, PyData.strOk, sOf]
        simpa using hs
      · cases h
    | tup hx rx =>
      unfold Mn.toT at h
      rename_i xs a vs
      cases e : Mn.mapO (Mn.toT M k) xs with
      | none =>
        rw [e] at h
        cases h
      | some ts =>
        rw [e] at h
        cases h
        obtain ⟨d, c, p⟩ := go xs vs ts rx e
        exact ⟨.tup hx.sq d, by simp [pd, PyData.canLay0, c], by simp only [pd, PyData.depth]; omega⟩
    | ref hn =>
      unfold Mn.toT at h
      rename_i n a
      cases el : Mn.lstAt M n with
      | none =>
        rw [el] at h
        cases h
      | some xs =>
        rw [el] at h
        cases e : Mn.mapO (Mn.toT M k) xs with
        | none =>
          simp only [e] at h
          cases h
        | some ts =>
          simp only [e] at h
          cases h
          obtain ⟨a', vs, ha, sq, rx⟩ := S.lst el
          rw [hn] at ha
          cases ha
          obtain ⟨d, c, p⟩ := go xs vs ts rx e
          exact ⟨.lst sq d, by simp [pd, PyData.canLay0, c], by simp only [pd, PyData.depth]; omega⟩
    | exc hm he =>
      unfold Mn.toT at h
      cases h
theorem toT_shaped {T : Tb} {R : List Addr} {H : Hp} {M : Store} (S : Sim T R H M) {x : Val} {v : V} {t : Mn.T} (r : Rel T R H x v) (h : Mn.toT M Mn.eqFuel x = some t) : Dp T.K H v (pd t) ∧ SeqAt.shaped (pd t) = true := by
  obtain ⟨d, c, p⟩ := toT_pd S _ x v t r h
  refine ⟨d, ?_⟩
  unfold SeqAt.shaped
  rw [c, Bool.true_and, decide_eq_true_eq]
  exact Nat.le_trans p (by decide)
section
variable {X : Cx} {T : Tb}
theorem o_eq (hK : X.K = T.K) (hu : X.A.units + 64 < cLine) : OpR X (compareOp .Eq) (rdO T Mn.cEq) := by
  intro pins s σ H x y v u Q I rx ry ⟨R, M, a, b, S, ra, rb, p⟩
  unfold Mn.cEq Mn.valEq at p
  split at p
  · rename_i t1 t2 e1 e2
    obtain ⟨d1, s1⟩ := toT_shaped S ra e1
    obtain ⟨d2, s2⟩ := toT_shaped S rb e2
    rw [← hK] at d1 d2
    refine op_eqD hu pins s σ H _ _ v u Q I rx ry ⟨pd t1, pd t2, d1, d2, s1, s2, ?_⟩
    rw [eqv_pd]
    exact post_ok S p (.bl _)
  · exact p.elim
theorem o_ne (hK : X.K = T.K) (hu : X.A.units + 64 < cLine) : OpR X (compareOp .NotEq) (rdO T Mn.cNe) := by
  intro pins s σ H x y v u Q I rx ry ⟨R, M, a, b, S, ra, rb, p⟩
  unfold Mn.cNe Mn.valEq at p
  split at p
  · rename_i t1 t2 e1 e2
    obtain ⟨d1, s1⟩ := toT_shaped S ra e1
    obtain ⟨d2, s2⟩ := toT_shaped S rb e2
    rw [← hK] at d1 d2
    refine op_neD hu pins s σ H _ _ v u Q I rx ry ⟨pd t1, pd t2, d1, d2, s1, s2, ?_⟩
    rw [eqv_pd]
    exact post_ok S p (.bl _)
  · exact p.elim
end
end MnS
end
section
set_option Elab.async false
set_option autoImplicit false
set_option linter.all false
set_option maxRecDepth 100000
set_option maxHeartbeats 1000000
/-! Forms: truth, displays, indices, calls, statements, loops, defs. -/
namespace MnS
open PySem PySem.Spec PyProof.Rows L2
open Mn (Val Cell Store E Fn Op U Itr Src Tg)
section
variable {X : Cx} {T : Tb} {W : WX} {a b c : Expr} {fa fb fc : E} {pos : Pos} {rest : List Expr}
/-! ### and, or, not -/
theorem rdT_bind {f : Val → Store → Mn.R Val} {R : List Addr} {H : Hp} {Q : VK} {ρ : Mn.Env} {M : Store} {σ : L2.St} (e : EnvR T R H ρ σ) (s : Sim T R H M) (h : Post T (at_ W σ) R H Q ((fa ρ M).bind f)) (hb : ∀ v M', fa ρ M = .ok v M' → ∃ k, v = .bl k) :
    rdT T W fa σ H fun x H1 => ∃ R1 M1, EnvR T R1 H1 ρ σ ∧ Sim T R1 H1 M1 ∧ Post T (at_ W σ) R1 H1 Q (f (.bl x) M1) := by
  refine ⟨R, ρ, M, e, s, ?_⟩
  cases q : fa ρ M with
  | bad =>
    rw [q] at h
    exact h
  | exc c M' =>
    rw [q] at h
    exact h
  | ok v M' =>
    obtain ⟨k, rfl⟩ := hb v M' q
    rw [q] at h
    exact fun R1 H1 p1 k1 s1 => ⟨R1, M', e.mono p1 k1, s1, Post.imp (r := f (.bl k) M') h p1 k1 fun _ _ q => q⟩
theorem and_rd : ∀ σ H Q, rdE T W (Mn.eAnd fa fb) σ H Q → tAndV (rdE T W fa) (rdE T W fb) σ H Q := fun σ H Q ⟨R, ρ, M, e, s, p⟩ => by
  obtain ⟨R0, ρ0, M0, e0, s0, p0⟩ := rdE_bind e s p
  refine ⟨R0, ρ0, M0, e0, s0, p0.imp (List.prefix_refl _) (Keep.refl _) fun x H1 ⟨R1, M1, v, e1, s1, r1, pr1, k1, q⟩ => ?_⟩
  cases r1 with
  | bl k =>
    refine ⟨k, rfl, ?_⟩
    cases k with
    | true =>
      rw [if_pos rfl]
      exact ⟨R1, ρ, M1, e1, s1, q⟩
    | false =>
      rw [if_neg Bool.false_ne_true]
      exact post_ok s1 q (.bl _)
  | _ => exact q.elim
theorem or_rd : ∀ σ H Q, rdE T W (Mn.eOr fa fb) σ H Q → tOrV (rdE T W fa) (rdE T W fb) σ H Q := fun σ H Q ⟨R, ρ, M, e, s, p⟩ => by
  obtain ⟨R0, ρ0, M0, e0, s0, p0⟩ := rdE_bind e s p
  refine ⟨R0, ρ0, M0, e0, s0, p0.imp (List.prefix_refl _) (Keep.refl _) fun x H1 ⟨R1, M1, v, e1, s1, r1, pr1, k1, q⟩ => ?_⟩
  cases r1 with
  | bl k =>
    refine ⟨k, rfl, ?_⟩
    cases k with
    | true =>
      rw [if_pos rfl]
      exact post_ok s1 q (.bl _)
    | false =>
      rw [if_neg Bool.false_ne_true]
      exact ⟨R1, ρ, M1, e1, s1, q⟩
  | _ => exact q.elim
theorem not_rd : ∀ σ H Q, rdE T W (Mn.eNot fa) σ H Q → tNotV (rdE T W fa) σ H Q := fun σ H Q ⟨R, ρ, M, e, s, p⟩ => by
  obtain ⟨R0, ρ0, M0, e0, s0, p0⟩ := rdE_bind e s p
  refine ⟨R0, ρ0, M0, e0, s0, p0.imp (List.prefix_refl _) (Keep.refl _) fun x H1 ⟨R1, M1, v, e1, s1, r1, pr1, k1, q⟩ => ?_⟩
  cases r1 with
  | bl k => exact ⟨k, rfl, post_ok s1 q (.bl _)⟩
  | _ => exact q.elim
theorem s_and (ha : PE X a (rdE T W fa)) (hb : PE X (.BoolOp .And (b :: rest) pos) (rdE T W fb)) : PE X (.BoolOp .And (a :: b :: rest) pos) (rdE T W (Mn.eAnd fa fb)) := PE.imp (pe_and ha hb) and_rd
theorem s_or (ha : PE X a (rdE T W fa)) (hb : PE X (.BoolOp .Or (b :: rest) pos) (rdE T W fb)) : PE X (.BoolOp .Or (a :: b :: rest) pos) (rdE T W (Mn.eOr fa fb)) := PE.imp (pe_or ha hb) or_rd
theorem s_not (ha : PE X a (rdE T W fa)) : PE X (.UnaryOp .Not a pos) (rdE T W (Mn.eNot fa)) := PE.imp (pe_not ha) not_rd
/-! .. as tests -/
theorem test_rd : ∀ σ H Q, rdT T W fa σ H Q → rdE T W fa σ H (fun x H1 => ∃ k, x = .bl k ∧ Q k H1) := fun σ H Q ⟨R, ρ, M, e, s, p⟩ => by
  refine ⟨R, ρ, M, e, s, ?_⟩
  cases q : fa ρ M with
  | bad =>
    rw [q] at p
    exact p
  | exc c M' =>
    rw [q] at p
    exact p
  | ok v M' =>
    rw [q] at p
    cases v with
    | bl k =>
      intro R1 H1 w p1 k1 s1 r1
      cases r1
      exact ⟨k, rfl, p R1 H1 p1 k1 s1⟩
    | _ => exact p.elim
theorem t_val (ha : PE X a (rdE T W fa)) (he : ∀ whole, isTrue a X.env whole = (do let v ← whole; standAt a.pos; holding [v] (truthy v))) : PT X a (rdT T W fa) := PT.imp (pt_val ha he) test_rd
theorem t_cmp {op : CmpOp} {f : Op} (ho : OpR X (compareOp op) (rdO T f)) (ha : PE X a (rdE T W fa)) (hb : PE X b (rdE T W fb)) (hm : behindInMarks op b = false) : PT X (.Compare a [op] [b] pos) (rdT T W (Mn.eBin f fa fb)) :=
  PT.imp (pt_cmpR ho ha hb hm) fun σ H Q h => bin_rd σ H _ (test_rd σ H Q h)
theorem bool_post {r : Mn.R Val} {f : Val → Store → Mn.R Val} {R : List Addr} {H : Hp} {Q : Bool → Hp → Prop} {W' : XK} (h : PostB T W' R H Q (r.bind f)) :
    (∃ v M, r = .ok v M ∧ PostB T W' R H Q (f v M)) ∨ (∃ c M, r = .exc c M ∧ (c ∈ T.xs → ∀ R' H', R <+: R' → Keep R R' H H' → Sim T R' H' M → W' (.ref (T.ca c)) none H')) := by
  cases r with
  | ok v M => exact .inl ⟨v, M, rfl, h⟩
  | exc c M => exact .inr ⟨c, M, rfl, h⟩
  | bad => exact h.elim
theorem PostB.mono {r : Mn.R Val} {R R' : List Addr} {H H' : Hp} {Q : Bool → Hp → Prop} {W' : XK} (h : PostB T W' R H Q r) (p : R <+: R') (k : Keep R R' H H') : PostB T W' R' H' Q r := by
  cases r with
  | ok v M =>
    cases v with
    | bl b => exact fun R2 H2 p2 k2 s2 => h R2 H2 (p.trans p2) (k.trans k2) s2
    | _ => exact h
  | exc c M => exact fun hc R2 H2 p2 k2 s2 => h hc R2 H2 (p.trans p2) (k.trans k2) s2
  | bad => exact h
theorem tand_rd : ∀ σ H Q, rdT T W (Mn.eAnd fa fb) σ H Q → tAnd (rdT T W fa) (rdT T W fb) σ H Q := fun σ H Q ⟨R, ρ, M, e, s, p⟩ => by
  refine ⟨R, ρ, M, e, s, ?_⟩
  rcases bool_post p with ⟨v, M', q, p⟩ | ⟨c, M', q, p⟩
  · rw [q]
    cases v with
    | bl k =>
      intro R1 H1 p1 k1 s1
      cases k with
      | true =>
        rw [if_pos rfl]
        exact ⟨R1, ρ, M', e.mono p1 k1, s1, PostB.mono p p1 k1⟩
      | false =>
        rw [if_neg Bool.false_ne_true]
        exact p R1 H1 p1 k1 s1
    | _ => exact p.elim
  · rw [q]
    exact p
theorem tor_rd : ∀ σ H Q, rdT T W (Mn.eOr fa fb) σ H Q → tOr (rdT T W fa) (rdT T W fb) σ H Q := fun σ H Q ⟨R, ρ, M, e, s, p⟩ => by
  refine ⟨R, ρ, M, e, s, ?_⟩
  rcases bool_post p with ⟨v, M', q, p⟩ | ⟨c, M', q, p⟩
  · rw [q]
    cases v with
    | bl k =>
      intro R1 H1 p1 k1 s1
      cases k with
      | true =>
        rw [if_pos rfl]
        exact p R1 H1 p1 k1 s1
      | false =>
        rw [if_neg Bool.false_ne_true]
        exact ⟨R1, ρ, M', e.mono p1 k1, s1, PostB.mono p p1 k1⟩
    | _ => exact p.elim
  · rw [q]
    exact p
theorem tnot_rd : ∀ σ H Q, rdT T W (Mn.eNot fa) σ H Q → tNot (rdT T W fa) σ H Q := fun σ H Q ⟨R, ρ, M, e, s, p⟩ => by
  refine ⟨R, ρ, M, e, s, ?_⟩
  rcases bool_post p with ⟨v, M', q, p⟩ | ⟨c, M', q, p⟩
  · rw [q]
    cases v with
    | bl k => exact fun R1 H1 p1 k1 s1 => p R1 H1 p1 k1 s1
    | _ => exact p.elim
  · rw [q]
    exact p
theorem w_and (ha : PT X a (rdT T W fa)) (hb : PW X (.BoolOp .And (b :: rest) pos) (rdT T W fb)) : PW X (.BoolOp .And (a :: b :: rest) pos) (rdT T W (Mn.eAnd fa fb)) :=
  ⟨fun wh pins s σ H Q I h => (pw_and ha hb).run wh pins s σ H Q I (tand_rd σ H Q h)⟩
theorem w_or (ha : PT X a (rdT T W fa)) (hb : PW X (.BoolOp .Or (b :: rest) pos) (rdT T W fb)) : PW X (.BoolOp .Or (a :: b :: rest) pos) (rdT T W (Mn.eOr fa fb)) :=
  ⟨fun wh pins s σ H Q I h => (pw_or ha hb).run wh pins s σ H Q I (tor_rd σ H Q h)⟩
theorem t_not (ha : PT X a (rdT T W fa)) : PT X (.UnaryOp .Not a pos) (rdT T W (Mn.eNot fa)) := PT.imp (pt_not ha) tnot_rd
/-! ### chains -/
theorem chain_rd {f g : Op} : ∀ σ H Q, rdE T W (Mn.eChain f g fa fb fc) σ H Q → tChain (rdO T f) (rdO T g) (rdE T W fa) (rdE T W fb) (rdE T W fc) σ H Q := fun σ H Q ⟨R, ρ, M, e, s, p⟩ => by
  obtain ⟨R0, ρ0, M0, e0, s0, p0⟩ := rdE_bind e s p
  refine ⟨R0, ρ0, M0, e0, s0, p0.imp (List.prefix_refl _) (Keep.refl _) fun x H1 ⟨R1, M1, v, e1, s1, r1, pr1, k1, q⟩ => ?_⟩
  obtain ⟨R2, ρ2, M2, e2, s2, p2⟩ := rdE_bind e1 s1 q
  refine ⟨R2, ρ2, M2, e2, s2, p2.imp (List.prefix_refl _) (Keep.refl _) fun y H2 ⟨R3, M3, u, e3, s3, r3, pr3, k3, q3⟩ => ?_⟩
  have rv := r1.mono pr3 k3
  refine ⟨R3, M3, v, u, s3, rv, r3, ?_⟩
  cases eo : f v u M3 with
  | none =>
    rw [eo] at q3
    exact q3
  | some z =>
    obtain ⟨z, M4⟩ := z
    rw [eo] at q3
    show Post T _ R3 H2 _ (.ok z M4)
    intro R4 H4 w p4 k4 s4 r4
    cases r4 with
    | bl k =>
      refine ⟨k, rfl, ?_⟩
      cases k with
      | false =>
        first
          | exact q3 R4 H4 (.bl false) p4 k4 s4 (.bl false)
          | exact (by rw [if_neg Bool.false_ne_true]; exact q3 R4 H4 (.bl false) p4 k4 s4 (.bl false))
      | true =>
        have q4 : Post T (at_ W σ) R4 H4 Q ((fc ρ M4).bind fun z M4 => Mn.R.of (g u z M4)) := Post.imp (r := (fc ρ M4).bind fun z M4 => Mn.R.of (g u z M4)) q3 p4 k4 fun _ _ q => q
        obtain ⟨R5, ρ5, M5, e5, s5, p5⟩ := rdE_bind (e3.mono p4 k4) s4 q4
        have fin : rdE T W fc σ H4 fun z H5 => rdO T g y z H5 Q :=
          ⟨R5, ρ5, M5, e5, s5, p5.imp (List.prefix_refl _) (Keep.refl _) fun zz H6 ⟨R7, M7, uu, e7, s7, r7, pr7, k7, q7⟩ => ⟨R7, M7, u, uu, s7, (r3.mono p4 k4).mono pr7 k7, r7, of_noexc q7⟩⟩
        first
          | exact fin
          | exact (by rw [if_pos rfl]; exact fin)
    | _ => exact q3.elim
end
end MnS
end
section
set_option Elab.async false
set_option autoImplicit false
set_option linter.all false
set_option maxRecDepth 100000
set_option maxHeartbeats 1000000
namespace MnS
open PySem PySem.Spec PyProof.Rows L2
open Mn (Val Cell Store E Fn Op U Itr Src Tg)
/-! ### displays, indices, calls -/
theorem rdE_mono {T : Tb} {W : WX} {f : E} {σ : L2.St} {H : Hp} {Q Q' : VK} (h : rdE T W f σ H Q) (q : ∀ w H1, Q w H1 → Q' w H1) : rdE T W f σ H Q' :=
  let ⟨R, ρ, M, e, s, p⟩ := h
  ⟨R, ρ, M, e, s, p.imp (List.prefix_refl R) (Keep.refl H) q⟩
theorem tOp_mono {T : Tb} {W : WX} {f g : E} {r r' : R2} (i : ∀ x y H Q, r x y H Q → r' x y H Q) : ∀ σ H Q, tOp r (rdE T W f) (rdE T W g) σ H Q → tOp r' (rdE T W f) (rdE T W g) σ H Q := fun _ _ _ h =>
  rdE_mono h fun _ _ h1 => rdE_mono h1 fun _ _ h2 => i _ _ _ _ h2
section
variable {X : Cx} {T : Tb} {W : WX} {W' : XK} {a b c e : Expr} {es : List Expr} {fa fb fc f : E} {fs : List E} {pos : Pos} {R R' : List Addr} {H H' : Hp}
theorem PostL.imp {Q Q' : List V → Hp → Prop} {r : Mn.R (List Val)} (h : PostL T W' R H Q r) (p : R <+: R') (k : Keep R R' H H') (q : ∀ w H1, Q w H1 → Q' w H1) : PostL T W' R' H' Q' r := by
  cases r with
  | ok v M => exact fun R2 H2 w p2 k2 s2 r2 => q _ _ (h R2 H2 w (p.trans p2) (k.trans k2) s2 r2)
  | exc c M => exact fun hc R2 H2 p2 k2 s2 => h hc R2 H2 (p.trans p2) (k.trans k2) s2
  | bad => exact h
theorem rdA_nil : ∀ σ H Q, rdA T W [] σ H Q → tNil σ H Q := fun σ H Q ⟨R, ρ, M, e, s, p⟩ => p R H [] (List.prefix_refl R) (Keep.refl H) s .nil
theorem rdA_cons : ∀ σ H Q, rdA T W (f :: fs) σ H Q → tCons (rdE T W f) (rdA T W fs) σ H Q := fun σ H Q ⟨R, ρ, M, e, s, p⟩ => by
  unfold Mn.evL at p
  refine ⟨R, ρ, M, e, s, ?_⟩
  cases q : f ρ M with
  | bad =>
    rw [q] at p
    exact p
  | exc c M' =>
    rw [q] at p
    exact p
  | ok v M1 =>
    rw [q] at p
    intro R1 H1 w p1 k1 s1 r1
    refine ⟨R1, ρ, M1, e.mono p1 k1, s1, ?_⟩
    cases q2 : Mn.evL fs ρ M1 with
    | bad =>
      rw [Mn.R.bind_ok, q2] at p
      exact p
    | exc c M' =>
      rw [Mn.R.bind_ok, q2] at p
      exact fun hc R2 H2 p2 k2 s2 => p hc R2 H2 (p1.trans p2) (k1.trans k2) s2
    | ok vs M2 =>
      rw [Mn.R.bind_ok, q2] at p
      exact fun R2 H2 ws p2 k2 s2 r2 => p R2 H2 (w :: ws) (p1.trans p2) (k1.trans k2) s2 (.cons (r1.mono p2 k2) r2)
theorem a_nil : PA X [] (rdA T W []) := PA.imp pa_nil rdA_nil
theorem a_cons (ha : PE X e (rdE T W f)) (hr : PA X es (rdA T W fs)) (hs : starEach (e :: es) X.env = (false, eval e X.env) :: starEach es X.env) : PA X (e :: es) (rdA T W (f :: fs)) := PA.imp (pa_cons ha hr hs) rdA_cons
theorem rdA_bind {g : List Val → Store → Mn.R Val} {Q : VK} {ρ : Mn.Env} {M : Store} {σ : L2.St} (e : EnvR T R H ρ σ) (s : Sim T R H M) (h : Post T (at_ W σ) R H Q ((Mn.evL fs ρ M).bind g)) :
    rdA T W fs σ H fun xs H1 => ∃ R1 M1 vs, EnvR T R1 H1 ρ σ ∧ Sim T R1 H1 M1 ∧ Rels T R1 H1 vs xs ∧ Post T (at_ W σ) R1 H1 Q (g vs M1) :=
  ⟨R, ρ, M, e, s, h.bindL.imp (List.prefix_refl R) (Keep.refl H) fun _ _ ⟨R1, M1, v, p1, k1, s1, r1, q⟩ => ⟨R1, M1, v, e.mono p1 k1, s1, r1, q⟩⟩
theorem rdA_mono {σ : L2.St} {Q Q' : List V → Hp → Prop} (h : rdA T W fs σ H Q) (q : ∀ w H1, Q w H1 → Q' w H1) : rdA T W fs σ H Q' :=
  let ⟨R, ρ, M, e, s, p⟩ := h
  ⟨R, ρ, M, e, s, p.imp (List.prefix_refl R) (Keep.refl H) q⟩
theorem s_tup {k : Nat} (h : PA X es (rdA T W fs)) : PE X (.Tuple es k pos) (rdE T W (Mn.eTup fs)) := PE.imp (pe_tup h) fun σ H Q ⟨R, ρ, M, e, s, p⟩ => by
  refine rdA_mono (rdA_bind e s p) fun xs H1 ⟨R1, M1, vs, e1, s1, r1, q⟩ => ?_
  split at q
  · rename_i hz
    refine ⟨by rw [← r1.length, ← szLine_eq]; exact hz, fun pp hp => ?_⟩
    exact q R1 _ _ (List.prefix_refl R1) (Keep.new hp) (s1.other hp) (.tup (.inl upd_same) (r1.mono (List.prefix_refl R1) (Keep.new hp)))
  · exact q.elim
theorem s_lst (h : PA X es (rdA T W fs)) : PE X (.List es pos) (rdE T W (Mn.eLst fs)) := PE.imp (pe_lst h) fun σ H Q ⟨R, ρ, M, e, s, p⟩ => by
  refine rdA_mono (rdA_bind e s p) fun xs H1 ⟨R1, M1, vs, e1, s1, r1, q⟩ => ?_
  split at q
  · rename_i hz
    refine ⟨by rw [← r1.length, ← szLine_eq]; exact hz, fun pp hp => ?_⟩
    exact post_new s1 q hp (new_lst r1 hp)
  · exact q.elim
theorem atI_eq {α : Type} (xs : List α) (i : Int) : Mn.atI xs i = L2.atI xs i := rfl
theorem atI_rel {xs : List Val} {vs : List V} {i : Int} {x : Val} (r : Rels T R H xs vs) (h : Mn.atI xs i = some x) : ∃ v, L2.atI vs i = some v ∧ Rel T R H x v := by
  unfold Mn.atI at h
  cases e : Mn.atIx xs.length i with
  | none =>
    rw [e] at h
    cases h
  | some k =>
    rw [e] at h
    obtain ⟨v, hv, q⟩ := r.get (i := k) h
    refine ⟨v, ?_, q⟩
    show (Mn.atIx vs.length i).bind (fun k => vs[k]?) = some v
    rw [← r.length, e]
    exact hv
theorem ix_rd (hK : X.K = T.K) : ∀ (x y : V) (H : Hp) (Q : VK), rdO T Mn.oIx x y H Q → rIx X.K x y H Q := fun x y H Q ⟨R, M, u, v, S, ra, rb, p⟩ => by
  unfold Mn.oIx at p
  split at p
  · rename_i M' xs i
    cases rb
    cases e : Mn.atI xs i with
    | none =>
      rw [e] at p
      exact p.elim
    | some z =>
      rw [e] at p
      cases ra with
      | tup ht rx =>
        obtain ⟨w, hw, rw_⟩ := atI_rel rx e
        exact .inr (.inl ⟨_, _, i, w, rfl, rfl, by rw [hK]; exact ht.sq, hw, post_ok S p rw_⟩)
  · rename_i M' n i
    cases rb
    split at p
    · rename_i xs el
      cases e : Mn.atI xs i with
      | none =>
        rw [e] at p
        exact p.elim
      | some z =>
        rw [e] at p
        cases ra with
        | ref hn =>
          obtain ⟨a', vs, ha, sq, rx⟩ := S.lst el
          rw [hn] at ha
          cases ha
          obtain ⟨w, hw, rw_⟩ := atI_rel rx e
          exact .inl ⟨_, _, i, w, rfl, rfl, by rw [hK]; exact sq, hw, post_ok S p rw_⟩
    · exact p.elim
  · exact p.elim
theorem s_ix (hK : X.K = T.K) (ha : PE X a (rdE T W fa)) (hb : PE X b (rdE T W fb)) (hs : PlainIx b) : PE X (.Subscript a b pos) (rdE T W (Mn.eBin Mn.oIx fa fb)) :=
  PE.imp (pe_ix ix_seq ha hb hs) fun σ H Q h => tOp_mono (ix_rd hK) σ H Q (bin_rd σ H Q h)
/-- what a def is worth: its function -/
def spF (T : Tb) (np : Nat) (F : Fn) : Sp := fun vs H Q E => ∃ R M xs, Sim T R H M ∧ Rels T R H xs vs ∧ vs.length = np ∧ Post T E R H Q (F xs M)
def Arity (F : Fn) (np : Nat) : Prop := ∀ xs M, xs.length ≠ np → F xs M = .bad
theorem call_rd {F : Fn} {np : Nat} (A : Arity F np) : ∀ σ H Q, rdE T W (Mn.eCall F fs) σ H Q → tCallS (spF T np F) (WE W) (rdA T W fs) σ H Q := fun σ H Q ⟨R, ρ, M, e, s, p⟩ => by
  refine rdA_mono (rdA_bind e s p) fun xs H1 ⟨R1, M1, vs, e1, s1, r1, q⟩ => ?_
  refine ⟨R1, M1, vs, s1, r1, ?_, q⟩
  by_cases h : vs.length = np
  · exact r1.length.symm.trans h
  · rw [A vs M1 h] at q
    exact q.elim
theorem mk_arity {np nn : Nat} {b : Mn.St} : Arity (Mn.mkFn np nn b) np := fun xs M h => by
  unfold Mn.mkFn
  rw [if_neg h]
end
/-! ### statements -/
def PostS (T : Tb) (W : WX) (D : Ends) (R : List Addr) (H : Hp) : Mn.RS → Prop
  | .nx ρ M => ∀ R' H' σ, R <+: R' → Keep R R' H H' → Sim T R' H' M → EnvR T R' H' ρ σ → D.nx σ H'
  | .ret v M => ∀ R' H' w, R <+: R' → Keep R R' H H' → Sim T R' H' M → Rel T R' H' v w → D.rt w H'
  | .bk ρ M => ∀ R' H' σ, R <+: R' → Keep R R' H H' → Sim T R' H' M → EnvR T R' H' ρ σ → D.bk σ H'
  | .ct ρ M => ∀ R' H' σ, R <+: R' → Keep R R' H H' → Sim T R' H' M → EnvR T R' H' ρ σ → D.ct σ H'
  | .exc c ρ M => c ∈ T.xs → ∀ R' H' σ, R <+: R' → Keep R R' H H' → Sim T R' H' M → EnvR T R' H' ρ σ → W (.ref (T.ca c)) none σ H'
  | .bad => False
def rdS (T : Tb) (W : WX) (f : Mn.St) : TS := fun D σ H => ∃ R ρ M, EnvR T R H ρ σ ∧ Sim T R H M ∧ PostS T W D R H (f ρ M)
section
variable {X : Cx} {T : Tb} {W : WX} {a b c e : Expr} {es : List Expr} {fa fb fc f : E} {fs : List E} {s t : Mn.St} {pos : Pos} {R R' : List Addr} {H H' : Hp} {D D' : Ends} {st : Stmt} {sts : List Stmt}
theorem PostS.mono {r : Mn.RS} (h : PostS T W D R H r) (p : R <+: R') (k : Keep R R' H H') : PostS T W D R' H' r := by
  cases r with
  | nx ρ M => exact fun R2 H2 σ p2 k2 s2 e2 => h R2 H2 σ (p.trans p2) (k.trans k2) s2 e2
  | ret v M => exact fun R2 H2 σ p2 k2 s2 e2 => h R2 H2 σ (p.trans p2) (k.trans k2) s2 e2
  | bk ρ M => exact fun R2 H2 σ p2 k2 s2 e2 => h R2 H2 σ (p.trans p2) (k.trans k2) s2 e2
  | ct ρ M => exact fun R2 H2 σ p2 k2 s2 e2 => h R2 H2 σ (p.trans p2) (k.trans k2) s2 e2
  | exc c ρ M => exact fun hc R2 H2 σ p2 k2 s2 e2 => h hc R2 H2 σ (p.trans p2) (k.trans k2) s2 e2
  | bad => exact h
theorem st_rd {g : Val → Store → Mn.RS} {ρ : Mn.Env} {M : Store} {σ : L2.St} (e : EnvR T R H ρ σ) (s : Sim T R H M) (h : PostS T W D R H ((fa ρ M).st ρ g)) :
    rdE T W fa σ H fun x H1 => ∃ R1 M1 v, EnvR T R1 H1 ρ σ ∧ Sim T R1 H1 M1 ∧ Rel T R1 H1 v x ∧ PostS T W D R1 H1 (g v M1) := by
  refine ⟨R, ρ, M, e, s, ?_⟩
  cases q : fa ρ M with
  | bad =>
    rw [q] at h
    exact h
  | exc c M' =>
    rw [q] at h
    exact fun hc R1 H1 p1 k1 s1 => h hc R1 H1 σ p1 k1 s1 (e.mono p1 k1)
  | ok v M' =>
    rw [q] at h
    exact fun R1 H1 w p1 k1 s1 r1 => ⟨R1, M', v, e.mono p1 k1, s1, r1, PostS.mono (r := g v M') h p1 k1⟩
theorem stT_rd {A B : Store → Mn.RS} {ρ : Mn.Env} {M : Store} {σ : L2.St} (e : EnvR T R H ρ σ) (s : Sim T R H M) (h : PostS T W D R H ((fa ρ M).st ρ fun v M1 => match v with
    | .bl true => A M1
    | .bl false => B M1
    | _ => .bad)) :
    rdT T W fa σ H fun k H1 => ∃ R1 M1, EnvR T R1 H1 ρ σ ∧ Sim T R1 H1 M1 ∧ PostS T W D R1 H1 (if k = true then A M1 else B M1) := by
  refine ⟨R, ρ, M, e, s, ?_⟩
  cases q : fa ρ M with
  | bad =>
    rw [q] at h
    exact h
  | exc c M' =>
    rw [q] at h
    exact fun hc R1 H1 p1 k1 s1 => h hc R1 H1 σ p1 k1 s1 (e.mono p1 k1)
  | ok v M' =>
    rw [q] at h
    cases v with
    | bl k =>
      intro R1 H1 p1 k1 s1
      refine ⟨R1, M', e.mono p1 k1, s1, ?_⟩
      cases k with
      | true =>
        rw [if_pos rfl]
        exact PostS.mono (r := A M') h p1 k1
      | false =>
        rw [if_neg Bool.false_ne_true]
        exact PostS.mono (r := B M') h p1 k1
    | _ => exact h.elim
theorem ss_nil : PSs X [] (rdS T W Mn.sPass) := PSs.imp pss_nil fun σ H D ⟨R, ρ, M, e, s, p⟩ => p R H σ (List.prefix_refl R) (Keep.refl H) s e
theorem s_pass : PS X (.Pass pos) (rdS T W Mn.sPass) := PS.imp ps_pass fun σ H D ⟨R, ρ, M, e, s, p⟩ => p R H σ (List.prefix_refl R) (Keep.refl H) s e
theorem seq_post {r : Mn.RS} {u : Mn.St} (h : PostS T W D R H (r.andThen u)) : PostS T W { D with nx := rdS T W u D } R H r := by
  cases r with
  | nx ρ M => exact fun R2 H2 σ p2 k2 s2 e2 => ⟨R2, ρ, M, e2, s2, PostS.mono (r := u ρ M) h p2 k2⟩
  | ret v M => exact h
  | bk ρ M => exact h
  | ct ρ M => exact h
  | exc c ρ M => exact h
  | bad => exact h
theorem ss_cons {u : Mn.St} (h1 : PS X st (rdS T W t)) (h2 : PSs X sts (rdS T W u)) : PSs X (st :: sts) (rdS T W (Mn.sSeq t u)) :=
  PSs.imp (pss_cons h1 h2) fun σ H D ⟨R, ρ, M, e, s, p⟩ => ⟨R, ρ, M, e, s, seq_post p⟩
theorem ss_one (h1 : PS X st (rdS T W t)) : PSs X [st] (rdS T W t) := pss_one h1
theorem s_drop (he : PE X e (rdE T W f)) (hs : swapsWith e none pos.line X.env = pure false) : PS X (.Expr e pos) (rdS T W (Mn.sDrop f)) := PS.imp (ps_expr he hs) fun σ H D ⟨R, ρ, M, e, s, p⟩ =>
  rdE_mono (st_rd e s p) fun x H1 ⟨R1, M1, v, e1, s1, r1, q⟩ => q R1 H1 σ (List.prefix_refl R1) (Keep.refl H1) s1 e1
theorem s_ret (he : PE X e (rdE T W f)) : PS X (.Return (some e) pos) (rdS T W (Mn.sRet f)) := PS.imp (ps_ret he) fun σ H D ⟨R, ρ, M, e, s, p⟩ =>
  rdE_mono (st_rd e s p) fun x H1 ⟨R1, M1, v, e1, s1, r1, q⟩ => q R1 H1 x (List.prefix_refl R1) (Keep.refl H1) s1 r1
theorem rdT_mono {f : E} {σ : L2.St} {Q Q' : Bool → Hp → Prop} (h : rdT T W f σ H Q) (q : ∀ w H1, Q w H1 → Q' w H1) : rdT T W f σ H Q' := by
  obtain ⟨R, ρ, M, e, s, p⟩ := h
  refine ⟨R, ρ, M, e, s, ?_⟩
  cases z : f ρ M with
  | ok v M' =>
    rw [z] at p
    cases v with
    | bl k => exact fun R2 H2 p2 k2 s2 => q _ _ (p R2 H2 p2 k2 s2)
    | _ => exact p
  | exc c M' =>
    rw [z] at p
    exact p
  | bad =>
    rw [z] at p
    exact p
theorem s_if {c : Expr} {xs ys : List Stmt} {u : Mn.St} (hc : PT X c (rdT T W fc)) (ha : PSs X xs (rdS T W t)) (hb : PSs X ys (rdS T W u)) : PS X (.If c xs ys pos) (rdS T W (Mn.sIf fc t u)) :=
  PS.imp (ps_if hc ha hb) fun σ H D ⟨R, ρ, M, e, s, p⟩ => by
    refine rdT_mono (stT_rd e s p) fun k H1 ⟨R1, M1, e1, s1, q⟩ => ?_
    cases k with
    | true =>
      rw [if_pos rfl] at q ⊢
      exact ⟨R1, ρ, M1, e1, s1, q⟩
    | false =>
      rw [if_neg Bool.false_ne_true] at q ⊢
      exact ⟨R1, ρ, M1, e1, s1, q⟩
/-! ### targets -/
/-- what is wanted where a store ended so: the slots ts alone are stored to -/
def PostG (T : Tb) (ts : List Nat) (R : List Addr) (H : Hp) (σ : L2.St) (Q : L2.St → Hp → Prop) : Mn.RS → Prop
  | .nx ρ' M' => ∀ R' H' σ', R <+: R' → Keep R R' H H' → Sim T R' H' M' → EnvR T R' H' ρ' σ' → σ'.length = σ.length → (∀ j, j ∉ ts → σ'[j]? = σ[j]?) → Q σ' H'
  | _ => False
def rdG (T : Tb) (ts : List Nat) (t : Tg) : TG := fun v σ H Q => ∃ R ρ M x, EnvR T R H ρ σ ∧ Sim T R H M ∧ Rel T R H x v ∧ PostG T ts R H σ Q (t x ρ M)
def rdGs (T : Tb) (ts : List Nat) (t : List Tg) : TGs := fun vs σ H Q => ∃ R ρ M xs, EnvR T R H ρ σ ∧ Sim T R H M ∧ Rels T R H xs vs ∧ PostG T ts R H σ Q (Mn.tAll t xs ρ M)
theorem PG.imp {e : Expr} {t t' : TG} (h : PG X e t) (i : ∀ v σ H Q, t' v σ H Q → t v σ H Q) : PG X e t' := ⟨fun pins s σ H v u Q I r q => h.run pins s σ H v u Q I r (i v σ H Q q)⟩
theorem PGs.imp {e : List Expr} {t t' : TGs} (h : PGs X e t) (i : ∀ v σ H Q, t' v σ H Q → t v σ H Q) : PGs X e t' := ⟨fun pins s σ H v u Q I r q => h.run pins s σ H v u Q I r (i v σ H Q q)⟩
theorem g_name {i : Nat} (h : PG X e (gName i)) : PG X e (rdG T [i] (Mn.tName i)) := PG.imp h fun v σ H Q ⟨R, ρ, M, x, e, s, r, p⟩ =>
  p R H _ (List.prefix_refl R) (Keep.refl H) s (e.set r i) (List.length_set) fun j hj => List.getElem?_set_ne fun z => hj (by simp [z])
theorem gs_nil : PGs X [] (rdGs T [] []) := PGs.imp pgs_nil fun v σ H Q ⟨R, ρ, M, xs, e, s, r, p⟩ => by
  cases r with
  | nil => exact ⟨rfl, p R H σ (List.prefix_refl R) (Keep.refl H) s e rfl fun _ _ => rfl⟩
  | cons _ _ => exact p.elim
theorem gs_cons {ts us : List Nat} {t : Tg} {u : List Tg} (h1 : PG X e (rdG T ts t)) (h2 : PGs X es (rdGs T us u)) (hs : (assignEach (e :: es) X.env).map (·.2) = assign e X.env :: (assignEach es X.env).map (·.2)) : PGs X (e :: es) (rdGs T (ts ++ us) (t :: u)) :=
  PGs.imp (pgs_cons h1 h2 hs) fun v σ H Q ⟨R, ρ, M, xs, e, s, r, p⟩ => by
    cases r with
    | nil => exact p.elim
    | @cons x w xs ws r1 r2 =>
      refine ⟨w, ws, rfl, R, ρ, M, x, e, s, r1, ?_⟩
      unfold Mn.tAll at p
      cases q : t x ρ M with
      | nx ρ1 M1 =>
        rw [q] at p
        intro R1 H1 σ1 p1 k1 s1 e1 l1 d1
        refine ⟨R1, ρ1, M1, xs, e1, s1, r2.mono p1 k1, ?_⟩
        have p : PostG T (ts ++ us) R H σ Q (Mn.tAll u xs ρ1 M1) := p
        cases q2 : Mn.tAll u xs ρ1 M1 with
        | nx ρ2 M2 =>
          rw [q2] at p
          intro R2 H2 σ2 p2 k2 s2 e2 l2 d2
          refine p R2 H2 σ2 (p1.trans p2) (k1.trans k2) s2 e2 (l2.trans l1) fun j hj => ?_
          rw [List.mem_append] at hj
          exact (d2 j fun z => hj (.inr z)).trans (d1 j fun z => hj (.inl z))
        | _ =>
          rw [q2] at p
          exact p.elim
      | _ =>
        rw [q] at p
        exact p.elim
/-- o[i] = v -/
def rdSt (T : Tb) (f : Val → Val → Val → Store → Option Store) : TSet := fun o i v H Q => ∃ R M x y z, Sim T R H M ∧ Rel T R H x o ∧ Rel T R H y i ∧ Rel T R H z v ∧ ∃ M', f x y z M = some M' ∧ ∀ H', Keep R R H H' → Sim T R H' M' → Q H'
theorem g_sub {o i : Expr} {fo fi : E} (hs : PSet X (rdSt T Mn.setIt)) (ho : PE X o (rdE T W fo)) (hi : PE X i (rdE T W fi))
    (ha : ∀ v, assign (.Subscript o i pos) X.env v = (do
      let ov ← holding [v] (eval o X.env)
      let iv ← holding [v, ov] (eval i X.env)
      standAt pos
      holding [v, ov, iv] (setItem ov iv v)
      release [v, ov, iv] [])) : PG X (.Subscript o i pos) (rdG T [] (Mn.tSub fo fi)) :=
  PG.imp (pg_sub ho hi hs ha) fun v σ H Q ⟨R, ρ, M, x, e, s, r, p⟩ => by
    refine ⟨R, ρ, M, e, s, ?_⟩
    unfold Mn.tSub at p
    cases q : fo ρ M with
    | ok ov M1 =>
      simp only [q] at p
      intro R1 H1 w1 p1 k1 s1 r1
      refine ⟨R1, ρ, M1, e.mono p1 k1, s1, ?_⟩
      cases q2 : fi ρ M1 with
      | ok iv M2 =>
        simp only [q2] at p
        intro R2 H2 w2 p2 k2 s2 r2
        cases q3 : Mn.setIt ov iv x M2 with
        | some M3 =>
          simp only [q3] at p
          refine ⟨R2, M2, ov, iv, x, s2, r1.mono p2 k2, r2, r.mono (p1.trans p2) (k1.trans k2), M3, q3, fun H3 k3 s3 => ?_⟩
          exact p R2 H3 σ (p1.trans p2) ((k1.trans k2).trans k3) s3 ((e.mono (p1.trans p2) (k1.trans k2)).mono (List.prefix_refl R2) k3) rfl fun _ _ => rfl
        | none =>
          simp only [q3] at p
          exact p.elim
      | _ =>
        simp only [q2] at p
        exact p.elim
    | _ =>
      simp only [q] at p
      exact p.elim
theorem PG.or {e : Expr} {t t' : TG} (h : PG X e t) (h' : PG X e t') : PG X e (fun v σ H Q => t v σ H Q ∨ t' v σ H Q) :=
  ⟨fun pins s σ H v u Q I r q => q.elim (h.run pins s σ H v u Q I r) (h'.run pins s σ H v u Q I r)⟩
theorem g_tup {k : Nat} {ts : List Nat} {t : List Tg} (hK : X.K = T.K) (hc : X.calm = true) (h : PGs X es (rdGs T ts t)) (hl : es.length = t.length) (hn : (assignEach es X.env).length = es.length) (hst : (assignEach es X.env).findIdx? (·.1) = none) : PG X (.Tuple es k pos) (rdG T ts (Mn.tTup t)) :=
  PG.imp (PG.or (pg_tup hc h hn hst) (pg_lst hc h hn hst)) fun v σ H Q ⟨R, ρ, M, x, e, s, r, p⟩ => by
    unfold Mn.tTup at p
    cases r with
    | @tup xs a vs ht rx =>
      by_cases hz : xs.length = t.length
      · simp only [Mn.seqOf, if_pos hz] at p
        exact .inl ⟨_, vs, rfl, by rw [hK]; exact ht.sq, by rw [← rx.length, hz, hl], R, ρ, M, xs, e, s, rx, p⟩
      · simp only [Mn.seqOf, if_neg hz] at p
        exact p.elim
    | @ref n a hn2 =>
      cases el : Mn.lstAt M n with
      | none =>
        simp only [Mn.seqOf, el] at p
        exact p.elim
      | some xs =>
        simp only [Mn.seqOf, el] at p
        by_cases hz : xs.length = t.length
        · simp only [if_pos hz] at p
          obtain ⟨a', vs, ha, sq, rx⟩ := s.lst el
          rw [hn2] at ha
          cases ha
          exact .inr ⟨_, vs, rfl, by rw [hK]; exact sq, by rw [← rx.length, hz, hl], R, ρ, M, xs, e, s, rx, p⟩
        · simp only [if_neg hz] at p
          exact p.elim
    | _ => exact p.elim
theorem asg_rd {ts : List Nat} {t : Tg} : ∀ σ H D, rdS T W (Mn.sAsg t f) D σ H → tAsg (rdE T W f) (rdG T ts t) D σ H := fun σ H D ⟨R, ρ, M, e, s, p⟩ => by
  refine rdE_mono (st_rd e s p) fun x H1 ⟨R1, M1, v, e1, s1, r1, q⟩ => ?_
  refine ⟨R1, ρ, M1, v, e1, s1, r1, ?_⟩
  cases z : t v ρ M1 with
  | nx ρ' M' =>
    rw [z] at q
    exact fun R2 H2 σ' p2 k2 s2 e' _ _ => q R2 H2 σ' p2 k2 s2 e'
  | _ =>
    rw [z] at q
    exact q.elim
theorem s_par {i j : Nat} (h : PS X st (tPar i j (rdA T W [fa, fb]))) : PS X st (rdS T W (Mn.sPar i j fa fb)) := PS.imp h fun σ H D ⟨R, ρ, M, e, s, p⟩ => by
  refine ⟨R, ρ, M, e, s, ?_⟩
  cases q : Mn.evL [fa, fb] ρ M with
  | bad =>
    unfold Mn.sPar at p
    rw [q] at p
    exact p
  | exc c M' =>
    unfold Mn.sPar at p
    rw [q] at p
    exact fun hc R1 H1 p1 k1 s1 => p hc R1 H1 σ p1 k1 s1 (e.mono p1 k1)
  | ok vs M' =>
    unfold Mn.sPar at p
    rw [q] at p
    intro R1 H1 ws p1 k1 s1 r1
    cases r1 with
    | nil => exact p.elim
    | cons ra rr =>
      cases rr with
      | nil => exact p.elim
      | cons rb rr =>
        cases rr with
        | cons _ _ => exact p.elim
        | nil => exact ⟨_, _, rfl, p R1 H1 _ p1 k1 s1 (((e.mono p1 k1).set ra i).set rb j)⟩
/-! ### while -/
theorem s_while {c : Expr} {body : List Stmt} {b : Mn.St} (hp : PassesOwn (model X.prog X.w) X.A X.env X.xe) (hc : PT X c (rdT T W fc)) (hb : PSs X body (rdS T W b)) : PS X (.While c body [] pos) (rdS T W (Mn.sWhile fc b)) :=
  PS.imp (ps_while hp hc hb) fun σ H D ⟨R, ρ, M, e, s, p⟩ => by
    refine ⟨fun m σ H => ∃ R ρ M, EnvR T R H ρ σ ∧ Sim T R H M ∧ PostS T W D R H (Mn.sWhileN fc b m ρ M), ⟨_, R, ρ, M, e, s, p⟩, ?_⟩
    rintro m σ H ⟨R, ρ, M, e, s, p⟩
    cases m with
    | zero => exact p.elim
    | succ m =>
      have p2 : PostS T W D R H ((fc ρ M).st ρ fun v M1 => match v with
        | .bl true => (match b ρ M1 with
          | .nx ρ' M' => Mn.sWhileN fc b m ρ' M'
          | .ct ρ' M' => Mn.sWhileN fc b m ρ' M'
          | .bk ρ' M' => .nx ρ' M'
          | r => r)
        | .bl false => .nx ρ M1
        | _ => .bad) := by
        unfold Mn.sWhileN at p
        have e : (fun (v : Val) (M1 : Store) => (match v with
          | .bl false => Mn.RS.nx ρ M1
          | .bl true => (match b ρ M1 with
            | .nx ρ' M' => Mn.sWhileN fc b m ρ' M'
            | .ct ρ' M' => Mn.sWhileN fc b m ρ' M'
            | .bk ρ' M' => .nx ρ' M'
            | r => r)
          | _ => .bad)) = fun v M1 => match v with
          | .bl true => (match b ρ M1 with
            | .nx ρ' M' => Mn.sWhileN fc b m ρ' M'
            | .ct ρ' M' => Mn.sWhileN fc b m ρ' M'
            | .bk ρ' M' => .nx ρ' M'
            | r => r)
          | .bl false => .nx ρ M1
          | _ => .bad := by
          funext v M1
          cases v with
          | bl k => cases k <;> rfl
          | _ => rfl
        rw [← e]
        exact p
      refine rdT_mono (stT_rd e s p2) fun k H1 ⟨R1, M1, e1, s1, q⟩ => ?_
      cases k with
      | false =>
        rw [if_neg Bool.false_ne_true] at q ⊢
        exact q R1 H1 σ (List.prefix_refl R1) (Keep.refl H1) s1 e1
      | true =>
        rw [if_pos rfl] at q ⊢
        refine ⟨fun σ' H' => ∃ R ρ M, EnvR T R H' ρ σ' ∧ Sim T R H' M ∧ PostS T W D R H' (Mn.sWhileN fc b m ρ M), fun σ' H' h => ⟨m, Nat.lt_succ_self m, h⟩, R1, ρ, M1, e1, s1, ?_⟩
        cases z : b ρ M1 with
        | nx ρ2 M2 =>
          rw [z] at q
          exact fun R3 H3 σ3 p3 k3 s3 e3 => ⟨R3, ρ2, M2, e3, s3, PostS.mono (r := Mn.sWhileN fc b m ρ2 M2) q p3 k3⟩
        | ct ρ2 M2 =>
          rw [z] at q
          exact fun R3 H3 σ3 p3 k3 s3 e3 => ⟨R3, ρ2, M2, e3, s3, PostS.mono (r := Mn.sWhileN fc b m ρ2 M2) q p3 k3⟩
        | bk ρ2 M2 =>
          rw [z] at q
          exact q
        | ret v M2 =>
          rw [z] at q
          exact q
        | exc c ρ2 M2 =>
          rw [z] at q
          exact q
        | bad =>
          rw [z] at q
          exact q
end
end MnS
end
section
set_option Elab.async false
set_option autoImplicit false
set_option linter.all false
set_option maxRecDepth 100000
set_option maxHeartbeats 1000000
namespace MnS
open PySem PySem.Spec PyProof.Rows L2
open Mn (Val Cell Store E Fn Op U Itr Src Tg)
/-! ### what is walked -/
/-- J walks as it says, from the addresses R0 and the heap H0 on -/
structure ItOk (T : Tb) (R0 : List Addr) (H0 : Hp) (it : Itr) (J : It) : Prop where
  stop : ∀ R H M, R0 <+: R → Keep R0 R H0 H → Sim T R H M → it.fin M = true → J.stop it.n H
  go : ∀ (i : Nat) (R : List Addr) (H : Hp) (M : Store) (v : Val), R0 <+: R → Keep R0 R H0 H → Sim T R H M → i < it.n → it.nxt i M = some v →
    J.go i H ∧ ∀ x H', J.yld i H x H' → ∃ R', R <+: R' ∧ Keep R R' H H' ∧ Sim T R' H' M ∧ Rel T R' H' v x
theorem ItOk.mono {T : Tb} {R0 R1 : List Addr} {H0 H1 : Hp} {it : Itr} {J : It} (o : ItOk T R0 H0 it J) (p : R0 <+: R1) (k : Keep R0 R1 H0 H1) : ItOk T R1 H1 it J :=
  ⟨fun R H M q k2 => o.stop R H M (p.trans q) (k.trans k2), fun i R H M v q k2 => o.go i R H M v (p.trans q) (k.trans k2)⟩
def rdI (T : Tb) (W : WX) (f : Src) : TI := fun σ H Q => ∃ R ρ M, EnvR T R H ρ σ ∧ Sim T R H M ∧ match f ρ M with
  | .ok it M' => ∀ R' H' J, R <+: R' → Keep R R' H H' → Sim T R' H' M' → ItOk T R' H' it J → Q J H'
  | .exc c M' => c ∈ T.xs → ∀ R' H', R <+: R' → Keep R R' H H' → Sim T R' H' M' → W (.ref (T.ca c)) none σ H'
  | .bad => False
section
variable {X : Cx} {T : Tb} {W : WX} {a b c e tg : Expr} {es : List Expr} {fa fb fc f : E} {fs : List E} {s t : Mn.St} {pos : Pos} {R R' : List Addr} {H H' : Hp} {D D' : Ends} {st : Stmt} {sts : List Stmt}
theorem PI.imp {e : Expr} {t t' : TI} (h : PI X tg e t) (i : ∀ σ H Q, t' σ H Q → t σ H Q) : PI X tg e t' := ⟨fun pins s σ H R I q => h.run pins s σ H R I (i σ H R q)⟩
/-- an iterable's expression -/
theorem src_rd {g : Val → Store → Mn.R Itr} {Q : It → Hp → Prop} {ρ : Mn.Env} {M : Store} {σ : L2.St} (e : EnvR T R H ρ σ) (s : Sim T R H M) (h : match (fa ρ M).bind g with
    | .ok it M' => ∀ R' H' J, R <+: R' → Keep R R' H H' → Sim T R' H' M' → ItOk T R' H' it J → Q J H'
    | .exc c M' => c ∈ T.xs → ∀ R' H', R <+: R' → Keep R R' H H' → Sim T R' H' M' → W (.ref (T.ca c)) none σ H'
    | .bad => False) : rdE T W fa σ H fun x H1 => ∃ R1 M1 v, EnvR T R1 H1 ρ σ ∧ Sim T R1 H1 M1 ∧ Rel T R1 H1 v x ∧ R <+: R1 ∧ Keep R R1 H H1 ∧ match g v M1 with
    | .ok it M' => ∀ R' H' J, R1 <+: R' → Keep R1 R' H1 H' → Sim T R' H' M' → ItOk T R' H' it J → Q J H'
    | .exc c M' => c ∈ T.xs → ∀ R' H', R1 <+: R' → Keep R1 R' H1 H' → Sim T R' H' M' → W (.ref (T.ca c)) none σ H'
    | .bad => False := by
  refine ⟨R, ρ, M, e, s, ?_⟩
  cases q : fa ρ M with
  | bad =>
    rw [q] at h
    exact h
  | exc c M' =>
    rw [q] at h
    exact h
  | ok v M' =>
    rw [q, Mn.R.bind_ok] at h
    intro R1 H1 w p1 k1 s1 r1
    refine ⟨R1, M', v, e.mono p1 k1, s1, r1, p1, k1, ?_⟩
    cases z : g v M' with
    | bad =>
      rw [z] at h
      exact h
    | exc c M2 =>
      rw [z] at h
      exact fun hc R2 H2 p2 k2 s2 => h hc R2 H2 (p1.trans p2) (k1.trans k2) s2
    | ok it M2 =>
      rw [z] at h
      exact fun R2 H2 J p2 k2 s2 o2 => h R2 H2 J (p1.trans p2) (k1.trans k2) s2 o2
/-- a sequence's address -/
def SqA (K : PySem.W.Frag) (H : Hp) (v : Val) (a : Addr) (vs : List V) : Prop := match v with
  | .ref _ => SqL K H a vs
  | _ => SqT K H a vs
theorem Sim.seq {M : Store} (S : Sim T R H M) {v : Val} {x : V} {xs : List Val} (r : Rel T R H v x) (h : Mn.seqOf M v = some xs) : ∃ a vs, x = .ref a ∧ SqA T.K H v a vs ∧ Rels T R H xs vs := by
  cases r with
  | @tup ys a vs ht rx =>
    cases h
    exact ⟨a, vs, rfl, ht.sq, rx⟩
  | @ref n a hn =>
    obtain ⟨a', vs, ha, sq, rx⟩ := S.lst h
    rw [hn] at ha
    cases ha
    exact ⟨a, vs, rfl, sq, rx⟩
  | _ => cases h
theorem it_list {n len : Nat} {a : Addr} (hn : R[n]? = some a) : ItOk T R H (Mn.itSeq (.ref n) len) (Itl T.K a) := by
  refine ⟨fun R' H M p _ S h => ?_, fun i R' H M v p _ S hi h => ?_⟩
  · have h : (match Mn.lstAt M n with | some ys => decide (ys.length ≤ len) | none => false) = true := h
    cases e : Mn.lstAt M n with
    | none =>
      rw [e] at h
      cases h
    | some ys =>
      rw [e] at h
      obtain ⟨a', vs, ha, sq, rx⟩ := S.lst e
      rw [pre_get p hn] at ha
      cases ha
      exact ⟨vs, sq, by rw [← rx.length]; exact of_decide_eq_true h⟩
  · have h : (Mn.lstAt M n).bind (fun ys => ys[i]?) = some v := h
    cases e : Mn.lstAt M n with
    | none =>
      rw [e] at h
      cases h
    | some ys =>
      rw [e] at h
      obtain ⟨a', vs, ha, sq, rx⟩ := S.lst e
      rw [pre_get p hn] at ha
      cases ha
      obtain ⟨w, hw, rw_⟩ := rx.get (i := i) h
      refine ⟨⟨vs, w, sq, hw⟩, fun x H' ⟨e1, e2⟩ => ?_⟩
      subst e1
      have e3 := e2 vs sq
      rw [hw] at e3
      cases e3
      exact ⟨R', List.prefix_refl R', Keep.refl _, S, rw_⟩
theorem it_tup {xs : List Val} {a : Addr} {vs : List V} (ht : TupAt T.K H a vs) (rx : Rels T R H xs vs) : ItOk T R H (Mn.itSeq (.tup xs) xs.length) (Itt T.K a) := by
  refine ⟨fun R' H M p k S h => ?_, fun i R' H M v p k S hi h => ?_⟩
  · exact ⟨vs, (ht.keep k).sq, Nat.le_of_eq rx.length.symm⟩
  · have h : xs[i]? = some v := h
    obtain ⟨w, hw, rw_⟩ := (rx.mono p k).get (i := i) h
    refine ⟨⟨vs, w, (ht.keep k).sq, hw⟩, fun x H' ⟨e1, e2⟩ => ?_⟩
    subst e1
    have e3 := e2 vs (ht.keep k).sq
    rw [hw] at e3
    cases e3
    exact ⟨R', List.prefix_refl R', Keep.refl _, S, rw_⟩
theorem PI.or {e : Expr} {t t' : TI} (h : PI X tg e t) (h' : PI X tg e t') : PI X tg e (fun σ H Q => t σ H Q ∨ t' σ H Q) :=
  ⟨fun pins s σ H R I q => q.elim (h.run pins s σ H R I) (h'.run pins s σ H R I)⟩
theorem i_list (hK : X.K = T.K) (ha : PE X a (rdE T W fa)) : PI X tg a (rdI T W (Mn.iList fa)) := PI.imp (PI.or (pi_list ha) (pi_tup ha)) fun σ H Q ⟨R, ρ, M, e, s, p⟩ => by
  by_cases hv : ∃ xs M1, fa ρ M = .ok (.tup xs) M1
  · obtain ⟨xs, M1, hv⟩ := hv
    refine .inr ⟨R, ρ, M, e, s, ?_⟩
    unfold Mn.iList at p
    rw [hv] at p ⊢
    intro R1 H1 x p1 k1 s1 r1
    cases r1 with
    | @tup _ a vs ht rx =>
      refine ⟨a, rfl, ⟨vs, by rw [hK]; exact ht.sq⟩, ?_⟩
      rw [hK]
      exact p R1 H1 _ p1 k1 s1 (it_tup ht rx)
  · refine .inl ?_
    refine ⟨R, ρ, M, e, s, ?_⟩
    unfold Mn.iList at p
    cases z : fa ρ M with
    | bad =>
      rw [z] at p
      exact p
    | exc c M1 =>
      rw [z] at p
      exact p
    | ok v M1 =>
      rw [z, Mn.R.bind_ok] at p
      intro R1 H1 x p1 k1 s1 r1
      cases r1 with
      | @ref n a hn =>
        cases el : Mn.lstAt M1 n with
        | none =>
          simp only [Mn.seqOf, el] at p
        | some xs =>
          simp only [Mn.seqOf, el] at p
          obtain ⟨a', vs, ha, sq, rx⟩ := s1.lst el
          rw [hn] at ha
          cases ha
          refine ⟨_, rfl, ⟨vs, by rw [hK]; exact sq⟩, ?_⟩
          rw [hK]
          exact p R1 H1 _ p1 k1 s1 (it_list hn)
      | @tup xs a vs ht rx => exact absurd ⟨xs, M1, z⟩ hv
      | _ => exact p.elim
theorem it_range {lo : Int} {n : Nat} : ItOk T R H ⟨n, fun k _ => some (.int (lo + (k : Int))), fun _ => true⟩ (Itr lo n) := by
  refine ⟨fun R' H M p _ S h => Nat.le_refl n, fun i R' H M v p _ S hi h => ⟨hi, fun x H' ⟨e1, e2⟩ => ?_⟩⟩
  subst e1
  subst e2
  cases h
  exact ⟨R', List.prefix_refl R', Keep.refl _, S, .int _⟩
theorem i_range1 (h : PI X tg e (iRng1 (tCons (rdE T W fa) tNil))) : PI X tg e (rdI T W (Mn.iRange1 fa)) := PI.imp h fun σ H Q ⟨R, ρ, M, e, s, p⟩ => by
  refine rdE_mono (src_rd e s p) fun x H1 ⟨R1, M1, v, e1, s1, r1, p1, k1, q⟩ => ?_
  cases r1 with
  | int j =>
    by_cases hz : -(2 ^ 62) ≤ j ∧ j < 2 ^ 62
    · simp only [if_pos hz] at q
      exact ⟨j, rfl, hz.1, hz.2, q R1 H1 _ (List.prefix_refl R1) (Keep.refl _) s1 it_range⟩
    · simp only [if_neg hz] at q
  | _ => exact q.elim
theorem i_range2 (h : PI X tg e (iRng2 (tCons (rdE T W fa) (tCons (rdE T W fb) tNil)))) : PI X tg e (rdI T W (Mn.iRange2 fa fb)) := PI.imp h fun σ H Q ⟨R, ρ, M, e, s, p⟩ => by
  refine rdE_mono (src_rd e s p) fun x H1 ⟨R1, M1, v, e1, s1, r1, p1, k1, q⟩ => ?_
  refine rdE_mono (src_rd e1 s1 q) fun y H2 ⟨R2, M2, u, e2, s2, r2, p2, k2, q2⟩ => ?_
  have r1 := r1.mono p2 k2
  cases r1 with
  | int i =>
    cases r2 with
    | int j =>
      by_cases hz : -(2 ^ 62) ≤ i ∧ i < 2 ^ 62 ∧ -(2 ^ 62) ≤ j ∧ j < 2 ^ 62
      · simp only [if_pos hz] at q2
        exact ⟨i, j, rfl, hz, q2 R2 H2 _ (List.prefix_refl R2) (Keep.refl _) s2 it_range⟩
      · simp only [if_neg hz] at q2
    | _ => exact q2.elim
  | _ => exact q2.elim
theorem s_for {iter : Expr} {body : List Stmt} {b : Mn.St} {f : Src} {ts : List Nat} {t : Tg} (hp : PassesOwn (model X.prog X.w) X.A X.env X.xe) (hc : X.calm = true) (hi : PI X tg iter (rdI T W f)) (hg : PG X tg (rdG T ts t)) (hb : PSs X body (rdS T W b))
    (hs : ∀ x, foldedSetIterable iter X.env x = pure x) : PS X (.For tg iter body [] pos) (rdS T W (Mn.sFor f t b)) :=
  PS.imp (ps_for hp hc hi hg hb hs) fun σ H D ⟨R, ρ, M, e, s, p⟩ => by
    refine ⟨R, ρ, M, e, s, ?_⟩
    unfold Mn.sFor at p
    cases q : f ρ M with
    | bad =>
      rw [q] at p
      exact p
    | exc c M' =>
      rw [q] at p
      exact fun hc R1 H1 p1 k1 s1 => p hc R1 H1 σ p1 k1 s1 (e.mono p1 k1)
    | ok it M1 =>
      rw [q] at p
      intro R1 H1 J p1 k1 s1 o1
      refine ⟨fun i m σ H => ∃ R ρ M, R1 <+: R ∧ Keep R1 R H1 H ∧ EnvR T R H ρ σ ∧ Sim T R H M ∧ i + m = it.n ∧ PostS T W D R H (Mn.sForN it t b m i ρ M), ⟨it.n, R1, ρ, M1, List.prefix_refl _, Keep.refl _, e.mono p1 k1, s1, Nat.zero_add _, PostS.mono (r := Mn.sForN it t b it.n 0 ρ M1) p p1 k1⟩, ?_⟩
      rintro i m σ H ⟨R, ρ, M, pr, kr, e, s, hm, p⟩
      cases m with
      | zero =>
        unfold Mn.sForN at p
        split at p
        · rename_i hf
          have hi : i = it.n := by omega
          subst hi
          exact .inl ⟨o1.stop R H M pr kr s hf, p R H σ (List.prefix_refl R) (Keep.refl _) s e⟩
        · exact p.elim
      | succ m =>
        unfold Mn.sForN at p
        cases en : it.nxt i M with
        | none =>
          rw [en] at p
          exact p.elim
        | some v =>
          simp only [en] at p
          obtain ⟨g1, g2⟩ := o1.go i R H M v pr kr s (by omega) en
          refine .inr ⟨g1, fun σ' H' => ∃ R ρ M, R1 <+: R ∧ Keep R1 R H1 H' ∧ EnvR T R H' ρ σ' ∧ Sim T R H' M ∧ (i + 1) + m = it.n ∧ PostS T W D R H' (Mn.sForN it t b m (i + 1) ρ M), fun σ' H' h => ⟨m, Nat.lt_succ_self m, h⟩, fun x H' hy => ?_⟩
          obtain ⟨R2, p2, k2, s2, r2⟩ := g2 x H' hy
          refine ⟨R2, ρ, M, v, e.mono p2 k2, s2, r2, ?_⟩
          cases et : t v ρ M with
          | nx ρ1 M1 =>
            simp only [et] at p
            intro R3 H3 σ3 p3 k3 s3 e3 _ _
            refine ⟨R3, ρ1, M1, e3, s3, ?_⟩
            have p := PostS.mono p (p2.trans p3) (k2.trans k3)
            cases z : b ρ1 M1 with
            | nx ρ3 M3 =>
              rw [z] at p
              exact fun R4 H4 σ4 p4 k4 s4 e4 => ⟨R4, ρ3, M3, pr.trans (p2.trans (p3.trans p4)), kr.trans (k2.trans (k3.trans k4)), e4, s4, by omega, PostS.mono (r := Mn.sForN it t b m (i + 1) ρ3 M3) p p4 k4⟩
            | ct ρ3 M3 =>
              rw [z] at p
              exact fun R4 H4 σ4 p4 k4 s4 e4 => ⟨R4, ρ3, M3, pr.trans (p2.trans (p3.trans p4)), kr.trans (k2.trans (k3.trans k4)), e4, s4, by omega, PostS.mono (r := Mn.sForN it t b m (i + 1) ρ3 M3) p p4 k4⟩
            | bk ρ3 M3 =>
              rw [z] at p
              exact p
            | ret v M3 =>
              rw [z] at p
              exact p
            | exc c ρ3 M3 =>
              rw [z] at p
              exact p
            | bad =>
              rw [z] at p
              exact p
          | _ =>
            simp only [et] at p
            exact p.elim
/-! ### built-in functions -/
def rdB (T : Tb) (f : U) : List V → Hp → VK → Prop := fun xs H Q => ∃ x, xs = [x] ∧ rdU T f x H Q
theorem b_rd {g : U} : ∀ σ H Q, rdE T W (Mn.eUn g fa) σ H Q → tCB (rdB T g) (tCons (rdE T W fa) tNil) σ H Q := fun σ H Q h => rdE_mono (un_rd σ H Q h) fun x H1 q => ⟨x, rfl, q⟩
theorem b_abs : CallR X (.builtin "abs") (rdB T Mn.uAbs) := by
  intro pins s σ H xs us Q I r ⟨x, e, R, M, u, S, ra, p⟩
  subst e
  unfold Mn.uAbs at p
  split at p
  · cases ra
    exact call_abs pins s σ H _ us Q I r ⟨_, rfl, post_ok S p (.int _)⟩
  · exact p.elim
theorem b_len (hK : X.K = T.K) : CallR X (.builtin "len") (rdB T Mn.uLen) := by
  intro pins s σ H xs us Q I r ⟨x, e, R, M, u, S, ra, p⟩
  subst e
  unfold Mn.uLen at p
  split at p
  · cases ra with
    | tup ht rx =>
      refine call_len_seq pins s σ H _ us Q I r ⟨_, _, rfl, .inr (by rw [hK]; exact ht.sq), ?_⟩
      rw [← rx.length]
      exact post_ok S p (.int _)
  · split at p
    · rename_i hz
      cases ra
      refine call_len_str pins s σ H _ us Q I r ⟨_, rfl, by rw [sOf_len, ← szLine_eq]; exact hz, ?_⟩
      rw [sOf_len]
      exact post_ok S p (.int _)
    · exact p.elim
  · split at p
    · rename_i el
      cases ra with
      | ref hn =>
        obtain ⟨a', vs, ha, sq, rx⟩ := S.lst el
        rw [hn] at ha
        cases ha
        refine call_len_seq pins s σ H _ us Q I r ⟨_, _, rfl, .inl (by rw [hK]; exact sq), ?_⟩
        rw [← rx.length]
        exact post_ok S p (.int _)
    · exact p.elim
  · exact p.elim
end
end MnS
end
section
set_option Elab.async false
set_option autoImplicit false
set_option linter.all false
set_option maxRecDepth 100000
set_option maxHeartbeats 2000000
/-! More sources, built-ins, lists' methods, slices, stores, in. -/
namespace MnS
open PySem PySem.Spec PyProof.Rows L2
open Mn (Val Cell Store E Fn Op U Itr Src Tg)
section
variable {X : Cx} {T : Tb} {W : WX} {a b c e tg : Expr} {es : List Expr} {fa fb fc f : E} {fs : List E} {s t : Mn.St} {pos : Pos} {R R' : List Addr} {H H' : Hp} {M : Store}
/-! ### enumerate, zip, reversed -/
theorem it_enum {n len : Nat} {a : Addr} (hn : R[n]? = some a) : ItOk T R H (Mn.itEnum n len) (Ite T.K a) := by
  refine ⟨fun R' H M p _ S h => ?_, fun i R' H M v p _ S hi h => ?_⟩
  · have h : (match Mn.lstAt M n with | some ys => decide (ys.length ≤ len) | none => false) = true := h
    cases e : Mn.lstAt M n with
    | none =>
      rw [e] at h
      cases h
    | some ys =>
      rw [e] at h
      obtain ⟨a', vs, ha, sq, rx⟩ := S.lst e
      rw [pre_get p hn] at ha
      cases ha
      exact ⟨vs, sq, by rw [← rx.length]; exact of_decide_eq_true h⟩
  · have h : (Mn.lstAt M n).bind (fun ys => ys[i]?.map fun y => .tup [.int i, y]) = some v := h
    cases e : Mn.lstAt M n with
    | none =>
      rw [e] at h
      cases h
    | some ys =>
      rw [e] at h
      obtain ⟨y, hy, rfl⟩ := Option.map_eq_some_iff.mp (show ys[i]?.map (fun y => Val.tup [.int i, y]) = some v from h)
      obtain ⟨a', vs, ha, sq, rx⟩ := S.lst e
      rw [pre_get p hn] at ha
      cases ha
      obtain ⟨w, hw, rw_⟩ := rx.get (i := i) hy
      refine ⟨⟨vs, w, sq, hw⟩, fun x H' ⟨tp, z, e1, e2, e3, e4⟩ => ?_⟩
      subst e1 e3
      have e5 := e4 vs sq
      rw [hw] at e5
      cases e5
      exact ⟨R', List.prefix_refl R', Keep.new e2, S.other e2, .tup (.inl upd_same) (.cons (.int _) (.cons (rw_.mono (List.prefix_refl R') (Keep.new e2)) .nil))⟩
theorem i_enum {elts : List Expr} {kk : Nat} {tpos p : Pos} (hK : X.K = T.K) (hg : Gl X "enumerate") (hm : X.mg "enumerate" = none) (ha : PE X a (rdE T W fa)) (hs : ∀ es env, starEach (a :: es) env = (false, eval a env) :: starEach es env) :
    PI X (.Tuple elts kk tpos) (.Call (.Name "enumerate" p) [a] [] pos) (rdI T W (Mn.iEnum fa)) := PI.imp (pi_enum hg hm (pa_cons ha pa_nil (hs _ _)) (hs _ _)) fun σ H Q ⟨R, ρ, M, e, s, p⟩ => by
  refine rdE_mono (src_rd e s p) fun x H1 ⟨R1, M1, v, e1, s1, r1, p1, k1, q⟩ => ?_
  cases r1 with
  | @ref n a hn =>
    cases el : Mn.lstAt M1 n with
    | none => simp only [el] at q
    | some xs =>
      simp only [el] at q
      obtain ⟨a', vs, ha, sq, rx⟩ := s1.lst el
      rw [hn] at ha
      cases ha
      refine ⟨_, vs, rfl, by rw [hK]; exact sq, ?_⟩
      rw [hK]
      exact q R1 H1 _ (List.prefix_refl R1) (Keep.refl _) s1 (it_enum hn)
  | _ => exact q.elim
theorem it_zipL {m n len : Nat} {a b : Addr} (hm : R[m]? = some a) (hn : R[n]? = some b) : ItOk T R H (Mn.itZip (.ref m) (.ref n) len) (Itz T.K a b) := by
  refine ⟨fun R' H M p _ S h => ?_, fun i R' H M v p _ S hi h => ?_⟩
  · have h : (match Mn.lstAt M m, Mn.lstAt M n with
      | some xs, some ys => decide (xs.length ≤ len) || decide (ys.length ≤ len)
      | _, _ => false) = true := h
    split at h
    · rename_i xs ys e1 e2
      obtain ⟨a', vs, ha, sq, rx⟩ := S.lst e1
      obtain ⟨b', ws, hb, sq2, ry⟩ := S.lst e2
      rw [pre_get p hm] at ha
      rw [pre_get p hn] at hb
      cases ha
      cases hb
      rw [Bool.or_eq_true, decide_eq_true_eq, decide_eq_true_eq, rx.length, ry.length] at h
      exact ⟨vs, ws, sq, sq2, h⟩
    · cases h
  · have h : (match Mn.lstAt M m, Mn.lstAt M n with
      | some xs, some ys => match xs[i]?, ys[i]? with
        | some x, some y => some (Val.tup [x, y])
        | _, _ => none
      | _, _ => none) = some v := h
    split at h
    · rename_i xs ys e1 e2
      split at h
      · rename_i x y g1 g2
        cases h
        obtain ⟨a', vs, ha, sq, rx⟩ := S.lst e1
        obtain ⟨b', ws, hb, sq2, ry⟩ := S.lst e2
        rw [pre_get p hm] at ha
        rw [pre_get p hn] at hb
        cases ha
        cases hb
        obtain ⟨w1, hw1, q1⟩ := rx.get (i := i) g1
        obtain ⟨w2, hw2, q2⟩ := ry.get (i := i) g2
        refine ⟨⟨vs, ws, w1, w2, sq, sq2, hw1, hw2⟩, fun x H' ⟨tp, z1, z2, d1, d2, d3, d4, d5⟩ => ?_⟩
        subst d1 d3
        have d6 := d4 vs sq
        rw [hw1] at d6
        cases d6
        have d7 := d5 ws sq2
        rw [hw2] at d7
        cases d7
        exact ⟨R', List.prefix_refl R', Keep.new d2, S.other d2, .tup (.inl upd_same) (.cons (q1.mono (List.prefix_refl R') (Keep.new d2)) (.cons (q2.mono (List.prefix_refl R') (Keep.new d2)) .nil))⟩
      · cases h
    · cases h
theorem it_zipT {xs ys : List Val} {len : Nat} {a b : Addr} {vs ws : List V} (ht : TupAt T.K H a vs) (rx : Rels T R H xs vs) (hu : TupAt T.K H b ws) (ry : Rels T R H ys ws) : ItOk T R H (Mn.itZip (.tup xs) (.tup ys) len) (RZ.ItzT T.K a b) := by
  refine ⟨fun R' H M p k S h => ?_, fun i R' H M v p k S hi h => ?_⟩
  · have h : (decide (xs.length ≤ len) || decide (ys.length ≤ len)) = true := h
    rw [Bool.or_eq_true, decide_eq_true_eq, decide_eq_true_eq, rx.length, ry.length] at h
    exact ⟨vs, ws, (ht.keep k).sq, (hu.keep k).sq, h⟩
  · have h : (match xs[i]?, ys[i]? with
        | some x, some y => some (Val.tup [x, y])
        | _, _ => none) = some v := h
    split at h
    · rename_i x y g1 g2
      cases h
      obtain ⟨w1, hw1, q1⟩ := (rx.mono p k).get (i := i) g1
      obtain ⟨w2, hw2, q2⟩ := (ry.mono p k).get (i := i) g2
      refine ⟨⟨vs, ws, w1, w2, (ht.keep k).sq, (hu.keep k).sq, hw1, hw2⟩, fun x H' ⟨tp, z1, z2, d1, d2, d3, d4, d5⟩ => ?_⟩
      subst d1 d3
      have d6 := d4 vs (ht.keep k).sq
      rw [hw1] at d6
      cases d6
      have d7 := d5 ws (hu.keep k).sq
      rw [hw2] at d7
      cases d7
      exact ⟨R', List.prefix_refl R', Keep.new d2, S.other d2, .tup (.inl upd_same) (.cons (q1.mono (List.prefix_refl R') (Keep.new d2)) (.cons (q2.mono (List.prefix_refl R') (Keep.new d2)) .nil))⟩
    · cases h
theorem i_zip {elts : List Expr} {kk : Nat} {tpos p : Pos} (hK : X.K = T.K) (hg : Gl X "zip") (hm : X.mg "zip" = none) (ha : PE X a (rdE T W fa)) (hb : PE X b (rdE T W fb)) (hs : ∀ es env, starEach (a :: es) env = (false, eval a env) :: starEach es env)
    (hs2 : ∀ es env, starEach (b :: es) env = (false, eval b env) :: starEach es env) : PI X (.Tuple elts kk tpos) (.Call (.Name "zip" p) [a, b] [] pos) (rdI T W (Mn.iZip fa fb)) :=
  PI.imp (RZ.pi_zipA hg hm (pa_cons ha (pa_cons hb pa_nil (hs2 _ _)) (hs _ _)) (hs _ _) (by rw [hs2]; rfl)) fun σ H Q ⟨R, ρ, M, e, s, p⟩ => by
  refine rdE_mono (src_rd e s p) fun x H1 ⟨R1, M1, v, e1, s1, r1, p1, k1, q⟩ => ?_
  refine rdE_mono (src_rd e1 s1 q) fun y H2 ⟨R2, M2, w, e2, s2, r2, p2, k2, q2⟩ => ?_
  have r1 := r1.mono p2 k2
  cases r1 with
  | @ref m a hm =>
    cases r2 with
    | @ref n b hn =>
      simp only [Mn.sameKind, if_true, Mn.seqOf] at q2
      cases el : Mn.lstAt M2 m with
      | none => simp only [el] at q2
      | some xs =>
        cases el2 : Mn.lstAt M2 n with
        | none => simp only [el, el2] at q2
        | some ys =>
          simp only [el, el2] at q2
          obtain ⟨a', vs, ha, sq, rx⟩ := s2.lst el
          obtain ⟨b', ws, hb, sq2, ry⟩ := s2.lst el2
          rw [hm] at ha
          rw [hn] at hb
          cases ha
          cases hb
          refine ⟨_, _, vs, ws, rfl, .inl ⟨by rw [hK]; exact sq, by rw [hK]; exact sq2, ?_⟩⟩
          rw [hK]
          exact q2 R2 H2 _ (List.prefix_refl R2) (Keep.refl _) s2 (it_zipL hm hn)
    | _ => exact q2.elim
  | @tup xs a vs ht rx =>
    cases r2 with
    | @tup ys b ws hu ry =>
      simp only [Mn.sameKind, if_true, Mn.seqOf] at q2
      refine ⟨_, _, vs, ws, rfl, .inr ⟨by rw [hK]; exact ht.sq, by rw [hK]; exact hu.sq, ?_⟩⟩
      rw [hK]
      exact q2 R2 H2 _ (List.prefix_refl R2) (Keep.refl _) s2 (it_zipT ht rx hu ry)
    | _ => exact q2.elim
  | _ =>
    cases r2 <;> exact q2.elim
theorem it_revL {n len : Nat} {a : Addr} (hn : R[n]? = some a) : ItOk T R H (Mn.itRev (.ref n) len) (Itv T.K a len) := by
  refine ⟨fun R' H M p _ S h => Nat.le_refl len, fun i R' H M v p _ S hi h => ?_⟩
  have h : (Mn.lstAt M n).bind (fun ys => ys[len - 1 - i]?) = some v := h
  cases e : Mn.lstAt M n with
  | none =>
    rw [e] at h
    cases h
  | some ys =>
    rw [e] at h
    obtain ⟨a', vs, ha, sq, rx⟩ := S.lst e
    rw [pre_get p hn] at ha
    cases ha
    obtain ⟨w, hw, rw_⟩ := rx.get (i := len - 1 - i) h
    refine ⟨⟨hi, vs, w, sq, hw⟩, fun x H' ⟨e1, e2⟩ => ?_⟩
    subst e1
    have e3 := e2 vs sq
    rw [hw] at e3
    cases e3
    exact ⟨R', List.prefix_refl R', Keep.refl _, S, rw_⟩
theorem it_revT {xs : List Val} {len : Nat} {a : Addr} {vs : List V} (ht : TupAt T.K H a vs) (rx : Rels T R H xs vs) : ItOk T R H (Mn.itRev (.tup xs) len) (RT.ItvT T.K a len) := by
  refine ⟨fun R' H M p k S h => Nat.le_refl len, fun i R' H M v p k S hi h => ?_⟩
  have h : xs[len - 1 - i]? = some v := h
  obtain ⟨w, hw, rw_⟩ := (rx.mono p k).get (i := len - 1 - i) h
  refine ⟨⟨hi, vs, w, (ht.keep k).sq, hw⟩, fun x H' ⟨e1, e2⟩ => ?_⟩
  subst e1
  have e3 := e2 vs (ht.keep k).sq
  rw [hw] at e3
  cases e3
  exact ⟨R', List.prefix_refl R', Keep.refl _, S, rw_⟩
theorem i_rev {p : Pos} (hK : X.K = T.K) (hg : Gl X "reversed") (hm : X.mg "reversed" = none) (ha : PE X a (rdE T W fa)) (hs : ∀ es env, starEach (a :: es) env = (false, eval a env) :: starEach es env) :
    PI X tg (.Call (.Name "reversed" p) [a] [] pos) (rdI T W (Mn.iRev fa)) := PI.imp (RT.pi_revA hg hm ha (hs _ _)) fun σ H Q ⟨R, ρ, M, e, s, p⟩ => by
  refine rdE_mono (src_rd e s p) fun x H1 ⟨R1, M1, v, e1, s1, r1, p1, k1, q⟩ => ?_
  cases r1 with
  | @ref n a hn =>
    cases el : Mn.lstAt M1 n with
    | none => simp only [Mn.seqOf, el] at q
    | some xs =>
      simp only [Mn.seqOf, el] at q
      obtain ⟨a', vs, ha, sq, rx⟩ := s1.lst el
      rw [hn] at ha
      cases ha
      refine ⟨_, vs, rfl, .inl ⟨by rw [hK]; exact sq, ?_⟩⟩
      rw [hK, ← rx.length]
      exact q R1 H1 _ (List.prefix_refl R1) (Keep.refl _) s1 (it_revL hn)
  | @tup xs a vs ht rx =>
    simp only [Mn.seqOf] at q
    refine ⟨_, vs, rfl, .inr ⟨by rw [hK]; exact ht.sq, ?_⟩⟩
    rw [hK, ← rx.length]
    exact q R1 H1 _ (List.prefix_refl R1) (Keep.refl _) s1 (it_revT ht rx)
  | _ => exact q.elim
end
end MnS
end
section
set_option Elab.async false
set_option autoImplicit false
set_option linter.all false
set_option maxRecDepth 100000
set_option maxHeartbeats 2000000
namespace MnS
open PySem PySem.Spec PyProof.Rows L2
open Mn (Val Cell Store E Fn Op U Itr Src Tg)
section
variable {X : Cx} {T : Tb} {W : WX} {W' : XK} {a b c e tg : Expr} {es : List Expr} {fa fb fc f : E} {fs : List E} {s t : Mn.St} {pos : Pos} {R R' : List Addr} {H H' : Hp} {M : Store} {Q : VK}
/-- a new tuple -/
theorem post_tup {xs : List Val} {vs : List V} {p : Addr} (S : Sim T R H M) (h : Post T W' R H Q (.ok (.tup xs) M)) (hp : H p = none) (r : Rels T R H xs vs) : Q (.ref p) (upd H p (.tup vs)) :=
  h R _ _ (List.prefix_refl R) (Keep.new hp) (S.other hp) (.tup (.inl upd_same) (r.mono (List.prefix_refl R) (Keep.new hp)))
/-- a written cell -/
theorem post_wr {n : Nat} {p : Addr} {o : HO} {c : Cell} {v : Val} {w : V} (S : Sim T R H M) (h : Post T W' R H Q (.ok v (M.set n c))) (hn : R[n]? = some p) (hc : CellAt T R (upd H p o) p c) (r : ∀ k : Keep R R H (upd H p o), Rel T R (upd H p o) v w) : Q w (upd H p o) := by
  obtain ⟨S2, k⟩ := S.write hn hc
  exact h R _ w (List.prefix_refl R) k S2 (r k)
theorem wr_lst {n : Nat} {p : Addr} {xs : List Val} {vs : List V} (S : Sim T R H M) (hn : R[n]? = some p) (r : Rels T R H xs vs) : CellAt T R (upd H p (.lst vs)) p (.lst xs) := by
  obtain ⟨c, _, hc⟩ := S.of hn
  obtain ⟨u, hu, u1, u2⟩ := hc.some
  have k : Keep R R H (upd H p (.lst vs)) := Keep.upd (List.mem_of_getElem? hn) ⟨fun xs e => u1 xs (Option.some.inj (hu.symm.trans e)), fun φ e => u2 φ (Option.some.inj (hu.symm.trans e))⟩
  exact ⟨vs, upd_same, r.mono (List.prefix_refl R) k⟩
/-! ### built-ins -/
def rdB2 (T : Tb) (f : Op) : List V → Hp → VK → Prop := fun xs H Q => ∃ x y, xs = [x, y] ∧ rdO T f x y H Q
theorem b2_rd {g : Op} : ∀ σ H Q, rdE T W (Mn.eBin g fa fb) σ H Q → tCB (rdB2 T g) (tCons (rdE T W fa) (tCons (rdE T W fb) tNil)) σ H Q := fun σ H Q h =>
  rdE_mono (bin_rd σ H Q h) fun x H1 q => rdE_mono q fun y H2 q2 => ⟨x, y, rfl, q2⟩
theorem b_dm : CallR X (.builtin "divmod") (rdB2 T Mn.oDm) := by
  intro pins s σ H xs us Q I r ⟨x, y, e, R, M, u, v, S, ra, rb, p⟩
  subst e
  unfold Mn.oDm at p
  split at p
  · split at p
    · rename_i hc
      cases ra
      cases rb
      refine call_divmodW pins s σ H _ us Q I r ⟨_, _, rfl, ⟨hc.1, divOk_of (by omega) hc.2⟩, fun pp hp => ?_⟩
      exact post_tup S p hp (.cons (.int _) (.cons (.int _) .nil))
    · exact p.elim
  · exact p.elim
theorem b_max (hc : X.calm = true) : CallR X (.builtin "max") (rdB2 T Mn.oMax) := by
  intro pins s σ H xs us Q I r ⟨x, y, e, R, M, u, v, S, ra, rb, p⟩
  subst e
  unfold Mn.oMax at p
  split at p
  · cases ra
    cases rb
    exact call_max2 hc pins s σ H _ us Q I r ⟨_, _, rfl, post_ok S p (.int _)⟩
  · exact p.elim
theorem b_min (hc : X.calm = true) : CallR X (.builtin "min") (rdB2 T Mn.oMin) := by
  intro pins s σ H xs us Q I r ⟨x, y, e, R, M, u, v, S, ra, rb, p⟩
  subst e
  unfold Mn.oMin at p
  split at p
  · cases ra
    cases rb
    exact call_min2 hc pins s σ H _ us Q I r ⟨_, _, rfl, post_ok S p (.int _)⟩
  · exact p.elim
theorem b_list (hK : X.K = T.K) : CallR X (.type "list") (rdB T Mn.uList) := by
  intro pins s σ H xs us Q I r ⟨x, e, R, M, u, S, ra, p⟩
  subst e
  unfold Mn.uList at p
  cases eq : Mn.seqOf M u with
  | none =>
    rw [eq] at p
    exact p.elim
  | some ys =>
    rw [eq] at p
    obtain ⟨a, vs, rfl, sq, rx⟩ := S.seq ra eq
    refine call_list_of pins s σ H _ us Q I r ⟨a, vs, rfl, ?_, fun l hl => post_new S p hl (new_lst rx hl)⟩
    rw [hK]
    unfold SqA at sq
    split at sq
    · exact .inl sq
    · exact .inr sq
theorem b_tup (hK : X.K = T.K) : CallR X (.type "tuple") (rdB T Mn.uTup) := by
  intro pins s σ H xs us Q I r ⟨x, e, R, M, u, S, ra, p⟩
  subst e
  unfold Mn.uTup at p
  cases ra with
  | @ref n a hn =>
    simp only [] at p
    cases el : Mn.lstAt M n with
    | none =>
      simp only [el] at p
      exact p.elim
    | some ys =>
      simp only [el] at p
      obtain ⟨a', vs, ha, sq, rx⟩ := S.lst el
      rw [hn] at ha
      cases ha
      exact call_tuple_of pins s σ H _ us Q I r ⟨a, vs, rfl, .inl ⟨by rw [hK]; exact sq, fun l hl => post_tup S p hl rx⟩⟩
  | @tup ys a vs ht rx => exact call_tuple_of pins s σ H _ us Q I r ⟨a, vs, rfl, .inr ⟨by rw [hK]; exact ht.sq, post_ok S p (.tup ht rx)⟩⟩
  | _ => exact p.elim
theorem rels_bls {bs : List Bool} : ∀ {xs : List Val} {vs : List V}, Rels T R H xs vs → Mn.mapO Mn.toBl xs = some bs → vs = bs.map V.bl := by
  induction bs with
  | nil =>
    intro xs vs r h
    cases r with
    | nil => rfl
    | cons r1 r2 =>
      unfold Mn.mapO at h
      split at h
      · obtain ⟨_, _, e⟩ := Option.map_eq_some_iff.mp h
        cases e
      · cases h
  | cons b bs ih =>
    intro xs vs r h
    cases r with
    | nil => cases h
    | cons r1 r2 =>
      unfold Mn.mapO at h
      split at h
      · rename_i z hz
        obtain ⟨l, hl, e⟩ := Option.map_eq_some_iff.mp h
        cases e
        cases r1 <;> cases hz
        rw [ih r2 hl]
        rfl
      · cases h
theorem b_allG {id : String} {g : List Bool → Bool} (hr : CallR X (.builtin id) (fun vs H Q => ∃ (a : Addr) (bs : List Bool), vs = [V.ref a] ∧ SqL X.K H a (bs.map V.bl) ∧ Q (.bl (g bs)) H)) (hK : X.K = T.K) : CallR X (.builtin id) (rdB T (Mn.uAllG g)) := by
  intro pins s σ H xs us Q I r ⟨x, e, R, M, u, S, ra, p⟩
  subst e
  unfold Mn.uAllG at p
  cases ra with
  | @ref n a hn =>
    simp only [] at p
    cases el : Mn.lstAt M n with
    | none =>
      simp only [el] at p
      exact p.elim
    | some ys =>
      simp only [el] at p
      cases eb : Mn.mapO Mn.toBl ys with
      | none =>
        simp only [eb] at p
        exact p.elim
      | some bs =>
        simp only [eb] at p
        obtain ⟨a', vs, ha, sq, rx⟩ := S.lst el
        rw [hn] at ha
        cases ha
        rw [rels_bls rx eb, ← hK] at sq
        exact hr pins s σ H _ us Q I r ⟨a, bs, rfl, sq, post_ok S p (.bl _)⟩
  | _ => exact p.elim
theorem b_int : CallR X (.type "int") (rdB T Mn.uInt) := by
  intro pins s σ H xs us Q I r ⟨x, e, R, M, u, S, ra, p⟩
  subst e
  unfold Mn.uInt at p
  split at p
  · cases ra
    exact call_int1 pins s σ H _ us Q I r (.inl ⟨_, rfl, post_ok S p (.int _)⟩)
  · cases ra
    exact call_int1 pins s σ H _ us Q I r (.inr ⟨_, rfl, post_ok S p (.int _)⟩)
  · exact p.elim
/-! ### methods -/
def rdM0 (T : Tb) (f : U) : V → List V → Hp → VK → Prop := fun x vs H Q => vs = [] ∧ rdU T f x H Q
def rdM1 (T : Tb) (f : Op) : V → List V → Hp → VK → Prop := fun x vs H Q => ∃ y, vs = [y] ∧ rdO T f x y H Q
def rdM2 (T : Tb) (f : Mn.Tri) : V → List V → Hp → VK → Prop := fun x vs H Q => ∃ y z, vs = [y, z] ∧ ∃ R M u v w, Sim T R H M ∧ Rel T R H u x ∧ Rel T R H v y ∧ Rel T R H w z ∧ Post T (fun _ _ _ => False) R H Q (Mn.R.of (f u v w M))
theorem m_app : MtR X "list.append" (rdM1 T Mn.mApp) := by
  intro pins s σ H x vs v us Q I rx rv ⟨y, e, R, M, u, z, S, ra, rb, p⟩
  subst e
  unfold Mn.mApp at p
  split at p
  · split at p
    · rename_i xs e1
      split at p
      · rename_i hz
        cases ra with
        | ref hn =>
          obtain ⟨a1, z1, ws, h1, k1⟩ := S.at e1
          rw [hn] at z1
          cases z1
          refine mt_append pins s σ H _ _ v us Q I rx rv ⟨_, ws, y, rfl, rfl, h1, by rw [← k1.length, ← szLine_eq]; exact hz, ?_⟩
          exact post_wr S p hn (wr_lst S hn (k1.append (.cons rb .nil))) fun _ => .non
      · exact p.elim
    · exact p.elim
  · exact p.elim
theorem m_ext : MtR X "list.extend" (rdM1 T Mn.mExt) := by
  intro pins s σ H x vs v us Q I rx rv ⟨y, e, R, M, u, z, S, ra, rb, p⟩
  subst e
  unfold Mn.mExt at p
  split at p
  · split at p
    · rename_i xs ys e1 e2
      split at p
      · rename_i hz
        cases ra with
        | ref hn =>
          cases rb with
          | ref hm =>
            obtain ⟨a1, z1, ws, h1, k1⟩ := S.at e1
            obtain ⟨a2, z2, us', h2, k2⟩ := S.at e2
            rw [hn] at z1
            rw [hm] at z2
            cases z1
            cases z2
            refine mt_extend pins s σ H _ _ v us Q I rx rv ⟨_, _, ws, us', rfl, rfl, h1, h2, by rw [← k1.length, ← k2.length, ← szLine_eq]; exact hz, ?_⟩
            exact post_wr S p hn (wr_lst S hn (k1.append k2)) fun _ => .non
      · exact p.elim
    · exact p.elim
  · exact p.elim
theorem m_clr : MtR X "list.clear" (rdM0 T Mn.mClr) := by
  intro pins s σ H x vs v us Q I rx rv ⟨e, R, M, u, S, ra, p⟩
  subst e
  unfold Mn.mClr at p
  split at p
  · split at p
    · rename_i xs e1
      cases ra with
      | ref hn =>
        obtain ⟨a1, z1, ws, h1, k1⟩ := S.at e1
        rw [hn] at z1
        cases z1
        refine mt_clear pins s σ H _ _ v us Q I rx rv ⟨_, ws, rfl, rfl, h1, ?_⟩
        exact post_wr S p hn (wr_lst S hn .nil) fun _ => .non
    · exact p.elim
  · exact p.elim
theorem Rels.dropLast : ∀ {xs : List Val} {vs : List V}, Rels T R H xs vs → Rels T R H xs.dropLast vs.dropLast
  | _, _, .nil => .nil
  | _, _, .cons _ .nil => .nil
  | _, _, .cons h (.cons h2 r) => .cons h (Rels.dropLast (.cons h2 r))
theorem Rels.take : ∀ {xs : List Val} {vs : List V} (k : Nat), Rels T R H xs vs → Rels T R H (xs.take k) (vs.take k)
  | _, _, 0, _ => .nil
  | _, _, _ + 1, .nil => .nil
  | _, _, k + 1, .cons h r => .cons h (Rels.take k r)
theorem Rels.drop : ∀ {xs : List Val} {vs : List V} (k : Nat), Rels T R H xs vs → Rels T R H (xs.drop k) (vs.drop k)
  | _, _, 0, r => r
  | _, _, _ + 1, .nil => .nil
  | _, _, k + 1, .cons _ r => Rels.drop k r
theorem m_pop : MtR X "list.pop" (rdM0 T Mn.mPop) := by
  intro pins s σ H x vs v us Q I rx rv ⟨e, R, M, u, S, ra, p⟩
  subst e
  unfold Mn.mPop at p
  split at p
  · split at p
    · rename_i xs e1
      split at p
      · rename_i y hy
        cases ra with
        | ref hn =>
          obtain ⟨a1, z1, ws, h1, k1⟩ := S.at e1
          rw [hn] at z1
          cases z1
          obtain ⟨w, hw, rw_⟩ := k1.get hy
          rw [k1.length] at hw
          refine mt_pop pins s σ H _ _ v us Q I rx rv ⟨_, ws, w, rfl, rfl, h1, hw, ?_⟩
          exact post_wr S p hn (wr_lst S hn k1.dropLast) fun k => rw_.mono (List.prefix_refl R) k
      · exact p.elim
    · exact p.elim
  · exact p.elim
theorem m_ins : MtR X "list.insert" (rdM2 T Mn.mIns) := by
  intro pins s σ H x vs v us Q I rx rv ⟨y, z, e, R, M, u, w, w2, S, ra, rb, rc, p⟩
  subst e
  unfold Mn.mIns at p
  split at p
  · split at p
    · rename_i xs e1
      split at p
      · rename_i hz
        cases ra with
        | ref hn =>
          cases rb
          obtain ⟨a1, z1, ws, h1, k1⟩ := S.at e1
          rw [hn] at z1
          cases z1
          refine mt_insert pins s σ H _ _ v us Q I rx rv ⟨_, ws, _, z, rfl, rfl, h1, by rw [← k1.length, ← szLine_eq]; exact hz.1, hz.2.1, hz.2.2, ?_⟩
          exact post_wr S p hn (wr_lst S hn (((k1.take _).append (.cons rc .nil)).append (k1.drop _))) fun _ => .non
      · exact p.elim
    · exact p.elim
  · exact p.elim
/-- the type that a method is called of -/
theorem ty_v (hK : X.K = T.K) {t : String} (ht : t = "list" ∨ t = "str") (S : Sim T R H M) {v : Val} {x : V} (r : Rel T R H v x) (h : Mn.isTy t v M = true) : tyV X.K t x H := by
  have h := of_decide_eq_true h
  cases r with
  | str s =>
    cases h
    rfl
  | @ref n p hn =>
    obtain ⟨c, hc, hp⟩ := S.of hn
    unfold Mn.tyName at h
    simp only [hc] at h
    cases c with
    | lst xs =>
      cases h
      obtain ⟨vs, h1, _⟩ := hp
      exact .inl ⟨rfl, vs, .inl (.inl h1)⟩
    | ro xs =>
      cases h
      obtain ⟨o, vs, h1, _⟩ := hp
      exact .inl ⟨rfl, vs, .inl (.inr ⟨o, h1⟩)⟩
    | dic xs =>
      cases h
      rcases ht with z | z <;> exact absurd z (by decide)
    | rod xs =>
      cases h
      rcases ht with z | z <;> exact absurd z (by decide)
    | obj c fs => cases h
  | int i =>
    cases h
    rcases ht with z | z <;> exact absurd z (by decide)
  | non =>
    cases h
    rcases ht with z | z <;> exact absurd z (by decide)
  | bl b =>
    cases h
    rcases ht with z | z <;> exact absurd z (by decide)
  | tup _ _ =>
    cases h
    rcases ht with z | z <;> exact absurd z (by decide)
  | exc _ _ => cases h
theorem s_m0 {t id name : String} {f : U} {ap : Pos} (pa : PlainAttrs t) (slot : Slot t name id) (hty : typeOf (.builtin id) = pure (.type "method_descriptor")) (ht : t = "list" ∨ t = "str") (hK : X.K = T.K) (hm : MtR X id (rdM0 T f))
    (ha : PE X a (rdE T W fa)) (hb : attributeBase a name X.env (eval a X.env) = eval a X.env) (hl : (ap.endLine == pos.line) = true) : PE X (.Call (.Attribute a name ap) [] [] pos) (rdE T W (Mn.eM0 t f fa)) :=
  PE.imp (pe_bm0 pa slot hty hm ha hb hl) fun σ H Q ⟨R, ρ, M, e, s, p⟩ => by
    obtain ⟨R0, ρ0, M0, e0, s0, p0⟩ := rdE_bind e s p
    refine ⟨R0, ρ0, M0, e0, s0, p0.imp (List.prefix_refl _) (Keep.refl _) fun x H1 ⟨R1, M1, v, e1, s1, r1, pr1, k1, q⟩ => ?_⟩
    split at q
    · rename_i hz
      exact ⟨ty_v hK ht s1 r1 hz, rfl, R1, M1, v, s1, r1, of_noexc q⟩
    · exact q.elim
theorem s_m1 {t id name : String} {f : Op} {ap : Pos} (pa : PlainAttrs t) (slot : Slot t name id) (hty : typeOf (.builtin id) = pure (.type "method_descriptor")) (ht : t = "list" ∨ t = "str") (hK : X.K = T.K) (hm : MtR X id (rdM1 T f))
    (ha : PE X a (rdE T W fa)) (hb2 : PE X b (rdE T W fb)) (hb : attributeBase a name X.env (eval a X.env) = eval a X.env) (hl : (ap.endLine == pos.line) = true) (hs : ∀ es env, starEach (b :: es) env = (false, eval b env) :: starEach es env) :
    PE X (.Call (.Attribute a name ap) [b] [] pos) (rdE T W (Mn.eM1 t f fa fb)) :=
  PE.imp (pe_bm pa slot hty hm ha (pa_cons hb2 pa_nil (hs _ _)) hb (by rw [hs]; rfl) hl (hs _ _) rfl) fun σ H Q ⟨R, ρ, M, e, s, p⟩ => by
    obtain ⟨R0, ρ0, M0, e0, s0, p0⟩ := rdE_bind e s p
    refine ⟨R0, ρ0, M0, e0, s0, p0.imp (List.prefix_refl _) (Keep.refl _) fun x H1 ⟨R1, M1, v, e1, s1, r1, pr1, k1, q⟩ => ?_⟩
    split at q
    · rename_i hz
      refine ⟨ty_v hK ht s1 r1 hz, ?_⟩
      obtain ⟨R2, ρ2, M2, e2, s2, p2⟩ := rdE_bind e1 s1 q
      exact ⟨R2, ρ2, M2, e2, s2, p2.imp (List.prefix_refl _) (Keep.refl _) fun y H2 ⟨R3, M3, u, e3, s3, r3, pr3, k3, q3⟩ => ⟨y, rfl, R3, M3, v, u, s3, r1.mono pr3 k3, r3, of_noexc q3⟩⟩
    · exact q.elim
theorem s_m2 {t id name : String} {f : Mn.Tri} {ap : Pos} (pa : PlainAttrs t) (slot : Slot t name id) (hty : typeOf (.builtin id) = pure (.type "method_descriptor")) (ht : t = "list" ∨ t = "str") (hK : X.K = T.K) (hm : MtR X id (rdM2 T f))
    (ha : PE X a (rdE T W fa)) (hb2 : PE X b (rdE T W fb)) (hc2 : PE X c (rdE T W fc)) (hb : attributeBase a name X.env (eval a X.env) = eval a X.env) (hl : (ap.endLine == pos.line) = true) (hs : ∀ es env, starEach (b :: es) env = (false, eval b env) :: starEach es env)
    (hs2 : ∀ es env, starEach (c :: es) env = (false, eval c env) :: starEach es env) :
    PE X (.Call (.Attribute a name ap) [b, c] [] pos) (rdE T W (Mn.eM2 t f fa fb fc)) :=
  PE.imp (pe_bm pa slot hty hm ha (pa_cons hb2 (pa_cons hc2 pa_nil (hs2 _ _)) (hs _ _)) hb (by rw [hs, hs2]; rfl) hl (hs _ _) (by rw [hs2]; rfl)) fun σ H Q ⟨R, ρ, M, e, s, p⟩ => by
    obtain ⟨R0, ρ0, M0, e0, s0, p0⟩ := rdE_bind e s p
    refine ⟨R0, ρ0, M0, e0, s0, p0.imp (List.prefix_refl _) (Keep.refl _) fun x H1 ⟨R1, M1, v, e1, s1, r1, pr1, k1, q⟩ => ?_⟩
    split at q
    · rename_i hz
      refine ⟨ty_v hK ht s1 r1 hz, ?_⟩
      obtain ⟨R2, ρ2, M2, e2, s2, p2⟩ := rdE_bind e1 s1 q
      refine ⟨R2, ρ2, M2, e2, s2, p2.imp (List.prefix_refl _) (Keep.refl _) fun y H2 ⟨R3, M3, u, e3, s3, r3, pr3, k3, q3⟩ => ?_⟩
      obtain ⟨R4, ρ4, M4, e4, s4, p4⟩ := rdE_bind e3 s3 q3
      exact ⟨R4, ρ4, M4, e4, s4, p4.imp (List.prefix_refl _) (Keep.refl _) fun z H5 ⟨R5, M5, w, e5, s5, r5, pr5, k5, q5⟩ =>
        ⟨y, z, rfl, R5, M5, v, u, w, s5, (r1.mono pr3 k3).mono pr5 k5, r3.mono pr5 k5, r5, of_noexc q5⟩⟩
    · exact q.elim
/-! ### slices -/
theorem cutIx_eq (n d : Nat) (o : Option Int) : Mn.cutIx n d o = HT.sIx n d o := by
  cases o <;> rfl
theorem cut_v (xs : List V) (lo hi : Option Int) : Mn.cut xs lo hi = cutV xs lo hi := by
  unfold Mn.cut cutV
  rw [cutIx_eq, cutIx_eq]
theorem Rels.cut {xs : List Val} {vs : List V} (r : Rels T R H xs vs) (lo hi : Option Int) : Rels T R H (Mn.cut xs lo hi) (cutV vs lo hi) := by
  rw [← cut_v]
  unfold Mn.cut
  rw [r.length]
  exact (r.drop _).take _
theorem cut_all {α : Type} {xs : List α} {lo hi : Option Int} (h : HT.sIx xs.length 0 lo = 0 ∧ HT.sIx xs.length xs.length hi = xs.length) : Mn.cut xs lo hi = xs := by
  unfold Mn.cut
  rw [cutIx_eq, cutIx_eq, h.1, h.2]
  simp
theorem cut_s (s : List Nat) (lo hi : Option Int) : cutS (sOf s) lo hi = sOf (Mn.cut s lo hi) := by
  unfold cutS Mn.cut sOf
  rw [cutIx_eq, cutIx_eq]
  simp [Str.length]
def rdC (T : Tb) : V → Option Int → Option Int → Hp → VK → Prop := fun x lo hi H Q => ∃ R M v, Sim T R H M ∧ Rel T R H v x ∧ Post T (fun _ _ _ => False) R H Q (Mn.R.of (Mn.cutOf v lo hi M))
theorem SlR.imp {r r' : V → Option Int → Option Int → Hp → VK → Prop} (h : SlR X r) (i : ∀ x lo hi H Q, r' x lo hi H Q → r x lo hi H Q) : SlR X r' := fun pins s σ H x v vl vu lo hi sl Q I rx hs pl pu q => h pins s σ H x v vl vu lo hi sl Q I rx hs pl pu (i _ _ _ _ _ q)
theorem sl_all (hK : X.K = T.K) : SlR X (rdC T) := SlR.imp (sl_list.or (sl_tupA.or sl_str)) fun x lo hi H Q ⟨R, M, v, S, r, p⟩ => by
  unfold Mn.cutOf at p
  cases r with
  | @ref n a hn =>
    simp only [] at p
    cases el : Mn.lstAt M n with
    | none =>
      simp only [el] at p
      exact p.elim
    | some xs =>
      simp only [el] at p
      obtain ⟨a', vs, ha, sq, rx⟩ := S.lst el
      rw [hn] at ha
      cases ha
      exact .inl ⟨a, vs, rfl, by rw [hK]; exact sq, fun pp hp => post_new S p hp (new_lst (rx.cut lo hi) hp)⟩
  | @tup xs a vs ht rx =>
    refine .inr (.inl ⟨a, vs, rfl, by rw [hK]; exact ht.sq, fun h => ?_, fun _ pp hp => post_tup S p hp (rx.cut lo hi)⟩)
    rw [← rx.length] at h
    have p : Post T (fun _ _ _ => False) R H Q (.ok (.tup (Mn.cut xs lo hi)) M) := p
    rw [cut_all h] at p
    exact post_ok S p (.tup ht rx)
  | str s =>
    by_cases hz : s.length ≤ Mn.szLine
    · simp only [if_pos hz] at p
      refine .inr (.inr ⟨_, rfl, by rw [sOf_len, ← szLine_eq]; exact hz, ?_⟩)
      rw [cut_s]
      exact post_ok S p (.str _)
    · simp only [if_neg hz] at p
      exact p.elim
  | _ => exact p.elim
/-- a slice's part -/
def PostO (T : Tb) (W : XK) (R : List Addr) (H : Hp) (Q : Option Int → Hp → Prop) : Mn.R (Option Int) → Prop
  | .ok v M => ∀ R' H', R <+: R' → Keep R R' H H' → Sim T R' H' M → Q v H'
  | .exc c M => c ∈ T.xs → ∀ R' H', R <+: R' → Keep R R' H H' → Sim T R' H' M → W (.ref (T.ca c)) none H'
  | .bad => False
def rdP (T : Tb) (W : WX) (o : Option E) : TO := fun σ H Q => ∃ R ρ M, EnvR T R H ρ σ ∧ Sim T R H M ∧ PostO T (at_ W σ) R H Q (Mn.ePart o ρ M)
theorem PO.imp {o : Option Expr} {t t' : TO} (h : PO X o t) (i : ∀ σ H Q, t' σ H Q → t σ H Q) : PO X o t' := ⟨fun pins s σ H Q I q => h.run pins s σ H Q I (i σ H Q q)⟩
theorem p_none : PO X none (rdP T W none) := PO.imp po_none fun σ H Q ⟨R, ρ, M, e, s, p⟩ => p R H (List.prefix_refl R) (Keep.refl H) s
theorem p_some (h : PE X a (rdE T W fa)) : PO X (some a) (rdP T W (some fa)) := PO.imp (po_some h) fun σ H Q ⟨R, ρ, M, e, s, p⟩ => by
  refine ⟨R, ρ, M, e, s, ?_⟩
  unfold Mn.ePart at p
  dsimp only at p
  cases q : fa ρ M with
  | bad =>
    rw [q] at p
    exact p
  | exc c M' =>
    rw [q] at p
    exact p
  | ok v M1 =>
    rw [q] at p
    intro R1 H1 w p1 k1 s1 r1
    cases r1 with
    | int i => exact ⟨i, rfl, p R1 H1 p1 k1 s1⟩
    | _ => exact p.elim
theorem PostO.bind {r : Mn.R (Option Int)} {f : Option Int → Store → Mn.R Val} (h : Post T W' R H Q (r.bind f)) :
    PostO T W' R H (fun x H1 => ∃ R1 M1, R <+: R1 ∧ Keep R R1 H H1 ∧ Sim T R1 H1 M1 ∧ Post T W' R1 H1 Q (f x M1)) r := by
  cases r with
  | ok v M => exact fun R1 H1 p1 k1 s1 => ⟨R1, M, p1, k1, s1, Post.imp (r := f v M) h p1 k1 fun _ _ q => q⟩
  | exc c M => exact h
  | bad => exact h
theorem PostO.imp {Q Q' : Option Int → Hp → Prop} {r : Mn.R (Option Int)} (h : PostO T W' R H Q r) (q : ∀ v H', Q v H' → Q' v H') : PostO T W' R H Q' r := by
  cases r with
  | ok v M => exact fun R1 H1 p1 k1 s1 => q _ _ (h R1 H1 p1 k1 s1)
  | exc c M => exact h
  | bad => exact h
theorem s_sl {lo hi : Option Expr} {l h : Option E} {p2 : Pos} (hK : X.K = T.K) (ha : PE X a (rdE T W fa)) (hl : PO X lo (rdP T W l)) (hh : PO X hi (rdP T W h)) : PE X (.Subscript a (.Slice lo hi none p2) pos) (rdE T W (Mn.eSl fa l h)) :=
  PE.imp (pe_slice (sl_all hK) ha hl hh) fun σ H Q ⟨R, ρ, M, e, s, p⟩ => by
    obtain ⟨R0, ρ0, M0, e0, s0, p0⟩ := rdE_bind e s p
    refine ⟨R0, ρ0, M0, e0, s0, p0.imp (List.prefix_refl _) (Keep.refl _) fun x H1 ⟨R1, M1, v, e1, s1, r1, pr1, k1, q⟩ => ?_⟩
    refine ⟨R1, ρ, M1, e1, s1, (PostO.bind q).imp fun lo2 H2 ⟨R2, M2, p2, k2, s2, q2⟩ => ?_⟩
    have e2 := e1.mono p2 k2
    refine ⟨R2, ρ, M2, e2, s2, (PostO.bind q2).imp fun hi2 H3 ⟨R3, M3, p3, k3, s3, q3⟩ => ?_⟩
    exact ⟨R3, M3, v, s3, (r1.mono p2 k2).mono p3 k3, of_noexc q3⟩
/-! ### o[i] = v -/
theorem set_lst : PSet X (rdSt T Mn.setIt) := by
  intro pins s σ H o i v ov iv u Q I ro ri rv ⟨R, M, x, y, z, S, rx, ry, rz, M', hM, q⟩
  unfold Mn.setIt at hM
  split at hM
  · split at hM
    · rename_i xs e1
      obtain ⟨j, hj, rfl⟩ := Option.map_eq_some_iff.mp hM
      cases rx with
      | ref hn =>
        cases ry
        obtain ⟨a1, z1, ws, h1, k1⟩ := S.at e1
        rw [hn] at z1
        cases z1
        rw [k1.length] at hj
        refine set_list pins s σ H _ _ v ov iv u Q I ro ri rv ⟨_, ws, _, j, rfl, rfl, h1, hj, ?_⟩
        obtain ⟨S2, kk⟩ := S.write hn (wr_lst S hn (k1.set rz j))
        exact q _ kk S2
    · cases hM
  · cases hM
/-! ### in -/
theorem flat_rel {x : Val} {v : V} (r : Rel T R H x v) (h : Mn.flat x = true) : flatV v = true := by
  cases r <;> first | rfl | cases h
theorem flat_rels : ∀ {xs : List Val} {vs : List V}, Rels T R H xs vs → xs.all Mn.flat = true → vs.all flatV = true
  | _, _, .nil, _ => rfl
  | _, _, .cons r1 r2, h => by
    rw [List.all_cons, Bool.and_eq_true] at h ⊢
    exact ⟨flat_rel r1 h.1, flat_rels r2 h.2⟩
theorem eqF_rel {x y : Val} {v w : V} (r : Rel T R H x v) (r' : Rel T R H y w) (h : Mn.flat x = true) (h' : Mn.flat y = true) : eqV v w = Mn.eqF x y := by
  cases r <;> first | cases h | skip
  all_goals cases r' <;> first | cases h' | skip
  all_goals first
    | rfl
    | (rename_i a b
       show (sOf a == sOf b) = (a == b)
       rw [sOf_beq]
       by_cases z : a = b
       · simp [z]
       · rw [decide_eq_false z]
         exact (beq_eq_false_iff_ne.mpr z).symm)
theorem any_rel {y : Val} {w : V} (r' : Rel T R H y w) (h' : Mn.flat y = true) : ∀ {xs : List Val} {vs : List V}, Rels T R H xs vs → xs.all Mn.flat = true → inV w vs = xs.any fun x => Mn.eqF x y
  | _, _, .nil, _ => rfl
  | _, _, .cons r1 r2, h => by
    rw [List.all_cons, Bool.and_eq_true] at h
    unfold inV
    rw [List.any_cons, List.any_cons, eqF_rel r1 r' h.1 h']
    exact congrArg _ (any_rel r' h' r2 h.2)
theorem o_inG (neg : Bool) (hK : X.K = T.K) {op : CmpOp} (h : OpR X (compareOp op) (rIn X.K neg)) : OpR X (compareOp op) (rdO T (Mn.cInG neg)) := by
  intro pins s σ H x y v u Q I rx ry ⟨R, M, a, b, S, ra, rb, p⟩
  unfold Mn.cInG at p
  cases eq : Mn.seqOf M b with
  | none =>
    simp only [eq] at p
    exact p.elim
  | some xs =>
    simp only [eq] at p
    by_cases hz : Mn.flat a = true ∧ xs.all Mn.flat = true
    · rw [if_pos hz] at p
      obtain ⟨ad, vs, rfl, sq, rxs⟩ := S.seq rb eq
      refine h pins s σ H _ _ v u Q I rx ry ⟨ad, vs, rfl, ?_, flat_rel ra hz.1, flat_rels rxs hz.2, ?_⟩
      · rw [hK]
        unfold SqA at sq
        split at sq
        · exact .inl sq
        · exact .inr sq
      · rw [any_rel ra hz.1 rxs hz.2]
        exact post_ok S p (.bl _)
    · rw [if_neg hz] at p
      exact p.elim
theorem o_in (hK : X.K = T.K) : OpR X (compareOp .In) (rdO T Mn.cIn) := o_inG false hK op_in_seq
theorem o_notin (hK : X.K = T.K) : OpR X (compareOp .NotIn) (rdO T Mn.cNotIn) := o_inG true hK op_notIn_seq
end
end MnS
end
section
set_option Elab.async false
set_option autoImplicit false
set_option linter.all false
set_option maxRecDepth 100000
set_option maxHeartbeats 2000000
/-! Comprehensions. -/
namespace MnS
open PySem PySem.Spec PyProof.Rows L2
open Mn (Val Cell Store E Fn Op U Itr Src Tg)
theorem wipe_get : ∀ (vs : List Nat) (σ : L2.St) (j : Nat), (L2.wipe σ vs)[j]? = if j ∈ vs ∧ j < σ.length then some none else σ[j]?
  | [], σ, j => by simp [L2.wipe]
  | v :: vs, σ, j => by
    unfold L2.wipe
    have ih := wipe_get vs σ j
    by_cases hj : v = j
    · subst hj
      by_cases hl : v < σ.length
      · rw [List.getElem?_set_self (by rw [wipe_length]; exact hl), if_pos ⟨List.mem_cons_self, hl⟩]
      · rw [List.getElem?_eq_none (by rw [List.length_set, wipe_length]; omega), if_neg fun z => hl z.2, List.getElem?_eq_none (by omega)]
    · rw [List.getElem?_set_ne hj, ih]
      have e : (j ∈ vs ∧ j < σ.length) ↔ (j ∈ v :: vs ∧ j < σ.length) := by
        rw [List.mem_cons]
        constructor
        · exact fun z => ⟨.inr z.1, z.2⟩
        · exact fun z => ⟨z.1.resolve_left fun q => hj q.symm, z.2⟩
      simp only [e]
theorem wipe_eq {vs ts : List Nat} {σ σ' : L2.St} (h : ∀ j ∈ ts, j ∈ vs) (hl : σ'.length = (L2.wipe σ vs).length) (hd : ∀ j, j ∉ ts → σ'[j]? = (L2.wipe σ vs)[j]?) : L2.wipe σ' vs = L2.wipe σ vs := by
  rw [wipe_length] at hl
  refine List.ext_getElem? fun j => ?_
  rw [wipe_get, wipe_get, hl]
  by_cases hj : j ∈ vs ∧ j < σ.length
  · rw [if_pos hj, if_pos hj]
  · rw [if_neg hj, if_neg hj]
    by_cases hm : j ∈ vs
    · have : ¬ j < σ.length := fun z => hj ⟨hm, z⟩
      rw [List.getElem?_eq_none (by omega), List.getElem?_eq_none (by omega)]
    · rw [hd j fun z => hm (h j z), wipe_get, if_neg hj]
theorem env_wipe {T : Tb} {R : List Addr} {H : Hp} {ρ : Mn.Env} {σ : L2.St} (e : EnvR T R H ρ σ) : ∀ vs : List Nat, EnvR T R H (Mn.wipe ρ vs) (L2.wipe σ vs)
  | [] => e
  | v :: vs => by
    have ih := env_wipe e vs
    unfold Mn.wipe L2.wipe
    refine ⟨by rw [List.length_set, List.length_set]; exact ih.1, fun j u h => ?_⟩
    by_cases hj : v = j
    · subst hj
      by_cases hl : v < (Mn.wipe ρ vs).length
      · rw [List.getElem?_set_self hl] at h
        cases h
      · rw [List.getElem?_eq_none (by rw [List.length_set]; omega)] at h
        cases h
    · rw [List.getElem?_set_ne hj] at h ⊢
      exact ih.2 j u h
/-- what a comprehension's parts may raise: nothing -/
abbrev W0 : WX := fun _ _ _ _ => False
section
variable {T : Tb} {W : WX} {R R1 R2 : List Addr} {H H1 H2 : Hp} {D : Addr} {o : HO}
theorem Keep.late (k : Keep R1 R2 H1 H2) (hD : H1 D = none) : Keep R1 R2 H1 (L2.upd H2 D o) := by
  have g : ∀ a u, H1 a = some u → ∀ w, H2 a = w → L2.upd H2 D o a = w := fun a u e w q => by
    rw [upd_ne (ne_of_none e hD)]
    exact q
  exact ⟨fun a xs e => g a _ e _ (k.tup a xs e), fun a φ e => g a _ e _ (k.ext a φ e), fun a u e n => ⟨g a _ e _ (k.fr a u e n).1, (k.fr a u e n).2⟩⟩
theorem Keep.adopt (k : Keep R1 R2 H1 H2) (hD : H1 D = none) : Keep R1 (R2 ++ [D]) H1 H2 := by
  refine ⟨k.tup, k.ext, fun a u e n => ⟨(k.fr a u e n).1, fun z => ?_⟩⟩
  rcases List.mem_append.mp z with z | z
  · exact (k.fr a u e n).2 z
  · exact ne_of_none e hD (by simpa using z)
theorem stay_lst {xs : List V} {u : HO} (h : H D = some (.lst xs)) : Stay H (upd H D u) := by
  refine ⟨fun a ys e => ?_, fun a φ e => ?_⟩
  · rw [upd_ne (fun z => by rw [z, h] at e; cases e)]
    exact e
  · rw [upd_ne (fun z => by rw [z, h] at e; cases e)]
    exact e
/-- the reading of a comprehension -/
theorem lc_rd {fi : Src} {t : Tg} {ts vs : List Nat} {fc fe : E} (hts : ∀ j ∈ ts, j ∈ vs) : ∀ σ H Q, rdE T W (Mn.eLc fi t vs fc fe) σ H Q → tLc (rdI T W fi) (rdG T ts t) (rdT T W0 fc) (rdE T W0 fe) vs σ H Q := fun σ H Q ⟨R, ρ, M, e, s, p⟩ => by
  refine ⟨R, ρ, M, e, s, ?_⟩
  unfold Mn.eLc at p
  cases q : fi ρ M with
  | bad =>
    rw [q] at p
    exact p
  | exc c M1 =>
    rw [q] at p
    exact p
  | ok it M1 =>
    rw [q, Mn.R.bind_ok] at p
    by_cases hz : it.n ≤ Mn.szLine
    · rw [if_pos hz] at p
      intro R1 H1 J p1 k1 s1 o1 D hD
      have e1 := env_wipe (e.mono p1 k1) vs
      refine ⟨fun i m Hc => ∃ R2 acc accV M2, R1 <+: R2 ∧ Keep R1 R2 H1 Hc ∧ Sim T R2 Hc M2 ∧ D ∉ R2 ∧ Hc D = some (.lst accV) ∧ Rels T R2 Hc acc accV ∧ acc.length ≤ i ∧ i + m = it.n ∧
        Mn.lcN it t fc fe (Mn.wipe ρ vs) it.n 0 [] M1 = Mn.lcN it t fc fe (Mn.wipe ρ vs) m i acc M2,
        ⟨it.n, R1, [], [], M1, List.prefix_refl _, Keep.new hD, s1.other hD, s1.mem hD, upd_same, .nil, Nat.le_refl _, Nat.zero_add _, rfl⟩, ?_⟩
      rintro i m Hc ⟨R2, acc, accV, M2, p2, k2, s2, nD, hcD, ra, la, lm, run⟩
      cases m with
      | zero =>
        rw [run] at p
        unfold Mn.lcN at p
        by_cases hf : it.fin M2 = true
        · rw [if_pos hf, Mn.R.bind_ok] at p
          have hi : i = it.n := by omega
          subst hi
          refine .inl ⟨o1.stop R2 Hc M2 p2 k2 s2 hf, ?_⟩
          refine p (R2 ++ [D]) Hc (.ref D) ((p1.trans p2).trans (List.prefix_append _ _)) (k1.trans (k2.adopt hD)) (s2.adopt nD ⟨accV, hcD, ra⟩) (.ref ?_)
          rw [← s2.len, List.getElem?_append_right (Nat.le_refl _), Nat.sub_self]
          rfl
        · rw [if_neg hf] at p
          exact p.elim
      | succ m =>
        have p0 := p
        rw [run] at p
        unfold Mn.lcN at p
        cases en : it.nxt i M2 with
        | none =>
          simp only [en] at p
          exact p.elim
        | some v =>
          simp only [en] at p
          obtain ⟨g1, g2⟩ := o1.go i R2 Hc M2 v p2 k2 s2 (by omega) en
          refine .inr ⟨g1, fun H' => ∃ R2 acc accV M2, R1 <+: R2 ∧ Keep R1 R2 H1 H' ∧ Sim T R2 H' M2 ∧ D ∉ R2 ∧ H' D = some (.lst accV) ∧ Rels T R2 H' acc accV ∧ acc.length ≤ i + 1 ∧ (i + 1) + m = it.n ∧
            Mn.lcN it t fc fe (Mn.wipe ρ vs) it.n 0 [] M1 = Mn.lcN it t fc fe (Mn.wipe ρ vs) m (i + 1) acc M2, fun H' h => ⟨m, Nat.lt_succ_self m, h⟩, fun x H' hy => ?_⟩
          obtain ⟨R3, p3, k3, s3, r3⟩ := g2 x H' hy
          refine ⟨R3, Mn.wipe ρ vs, M2, v, e1.mono (p2.trans p3) (k2.trans k3), s3, r3, ?_⟩
          cases et : t v (Mn.wipe ρ vs) M2 with
          | nx ρ1 M4 =>
            simp only [et] at p
            intro R4 H4 σ4 p4 k4 s4 e4 l4 d4
            refine ⟨wipe_eq hts l4 d4, R4, ρ1, M4, e4, s4, ?_⟩
            cases ec : fc ρ1 M4 with
            | ok b M5 =>
              simp only [ec] at p
              cases b with
              | bl b =>
                intro R5 H5 p5 k5 s5
                have p25 := p3.trans (p4.trans p5)
                have k25 := k3.trans (k4.trans k5)
                cases b with
                | false =>
                  rw [if_neg Bool.false_ne_true]
                  obtain ⟨hd5, nd5⟩ := k25.fr D _ hcD nD
                  refine ⟨R5, acc, accV, M5, p2.trans p25, k2.trans k25, s5, nd5, hd5, ra.mono p25 k25, by omega, by omega, ?_⟩
                  rw [run]
                  conv => lhs; unfold Mn.lcN
                  simp only [en, et, ec]
                | true =>
                  rw [if_pos rfl]
                  refine ⟨R5, ρ1, M5, e4.mono p5 k5, s5, ?_⟩
                  cases ee : fe ρ1 M5 with
                  | ok y M6 =>
                    intro R6 H6 w p6 k6 s6 r6
                    have p26 := p25.trans p6
                    have k26 := k25.trans k6
                    obtain ⟨hd6, nd6⟩ := k26.fr D _ hcD nD
                    have st : Stay H6 (upd H6 D (.lst (accV ++ [w]))) := stay_lst hd6
                    refine ⟨accV, hd6, ?_, R6, acc ++ [y], accV ++ [w], M6, p2.trans p26, (k2.trans k26).late hD, s6.stay st fun n a ha => upd_ne fun z => nd6 (z ▸ List.mem_of_getElem? ha), nd6, upd_same, ((ra.mono p26 k26).append (.cons r6 .nil)).stay (List.prefix_refl _) st, by rw [List.length_append, List.length_singleton]; omega, by omega, ?_⟩
                    · rw [← ra.length, ← szLine_eq]
                      omega
                    · rw [run]
                      conv => lhs; unfold Mn.lcN
                      simp only [en, et, ec, ee]
                  | exc c M6 =>
                    simp only [ee] at p
                    exact p.elim
                  | bad =>
                    simp only [ee] at p
                    exact p.elim
              | _ => exact p.elim
            | exc c M5 =>
              simp only [ec] at p
              exact p.elim
            | bad =>
              simp only [ec] at p
              exact p.elim
          | _ =>
            simp only [et] at p
            exact p.elim
    · rw [if_neg hz] at p
      exact p.elim
end
end MnS
end
section
set_option Elab.async false
set_option autoImplicit false
set_option linter.all false
set_option maxRecDepth 100000
set_option maxHeartbeats 2000000
/-! try, except: an exception that is held is tracked from its catch on. -/
namespace MnS
open PySem PySem.Spec PyProof.Rows L2
open Mn (Val Cell Store E Fn Op U Itr Src Tg)
/-! ### no class of a tuple fits -/
theorem forIn_stay {β : Type} {M : Model} {A : Around} {Er : Value → Shared → Prop} {s : Shared} {b : β} {f : Value → β → Sem (ForInStep β)} : ∀ {l : List Value}, (∀ c ∈ l, ∀ Q : ForInStep β → Shared → Prop, Q (.yield b) s → wpAny M A (f c b) Q Er s) →
    ∀ {Q : β → Shared → Prop}, Q b s → wpAny M A (forIn l b f) Q Er s
  | [], _, Q, q => by
    rw [List.forIn_nil]
    exact wpAny_pure q
  | c :: r, h, Q, q => by
    rw [List.forIn_cons]
    refine wpAny_bind (h c List.mem_cons_self _ ?_)
    exact forIn_stay (fun d hd => h d (List.mem_cons_of_mem _ hd)) q
theorem exm_none {M : Model} {K : PySem.W.Frag} {cs : List Value} {cls : Value} {tp e : Addr} {h : Heap} (X : K.In h) (LT : PySem.W.Looks M h (typeOf (.ref e)) cls) (hp : h.get? tp = some { cls := .type "tuple", data := .seq cs.toArray })
    (hx : ∀ c ∈ cs, PySem.W.exmOne K cls c = some false) : PySem.W.Looks M h (excMatches (.ref e) (.ref tp)) false := by
  intro A Q Er s k0 q
  have kk : ∀ b o, h.get? b = some o → s.heap.get? b = some o := k0
  have TT : PySem.W.Looks M h (isInstance (.ref tp) (.type "tuple")) true := ((PySem.W.Looks.ld hp).andThen .now).andThen (PySem.W.Looks.of_pure isSubtype_tuple_tuple)
  have hp2 := kk _ _ hp
  unfold excMatches
  refine wpAny_bind ((TT.keeps kk).here ?_)
  dsimp only
  rw [if_pos rfl]
  first
    | refine wpAny_bind (wpAny_seqItems hp2 rfl ?_)
    | refine wpAny_bind (wpAny_bind (wpAny_seqItems hp2 rfl (wpAny_pure ?_)))
  dsimp only [Option.getD_some, Option.getD]
  refine wpAny_bind (wpAny_pure ?_)
  refine wpAny_bind (forIn_stay (fun c hc Q2 q2 => ?_) ?_)
  · obtain ⟨i1, i2⟩ := PySem.W.exm_cls (M := M) X (hx c hc)
    refine wpAny_bind ((i1.keeps kk).here ?_)
    simp only [Bool.not_true, Bool.false_eq_true, if_false]
    exact wpAny_pure q2
  · refine wpAny_bind ((LT.keeps kk).here ?_)
    refine wpAny_bind (forIn_stay (fun c hc Q2 q2 => ?_) ?_)
    · obtain ⟨i1, i2⟩ := PySem.W.exm_cls (M := M) X (hx c hc)
      refine wpAny_bind ((i2.keeps kk).here ?_)
      simp only [Bool.false_eq_true, if_false]
      exact wpAny_pure q2
    · exact wpAny_pure q
/-! ### the state behind a catch -/
section
variable {X : Cx} {pins : List (Addr × Obj)} {σ : L2.St} {H : Hp} {s : Shared}
/-- an exception's object that nobody had is tracked -/
theorem held_ok {a : Addr} {oe : Obj} {vs : Array Value} {φ : Heap → Prop} (I : Inv X pins σ H s) (ha : s.heap.get? a = some oe) (hd : oe.data = .fields vs) (na : H a = none) (nL : a ≠ X.env.locals) (n0 : X.s_0.heap.get? a = none)
    (np : ∀ p ∈ X.pn ++ pins, p.1 ≠ a) (ob : ObjOk X.prog X.w (upd H a (.ext φ)) s.heap a (.ext φ)) : Inv X pins σ (upd H a (.ext φ)) s := by
  have old : ∀ b u, H b = some u → upd H a (.ext φ) b = some u := fun b u e => by
    rw [upd_ne (ne_of_none e na)]
    exact e
  refine ⟨I.ok, I.os, I.bare, ⟨I.base.keep, I.base.slot, fun b o e n hx => ?_, I.base.there, fun b xs e => old b _ (I.base.tups b xs e), fun b o u e => old b _ (I.base.frzs b o u e), fun b ps e => ?_⟩, I.loc, I.cell, ?_, fun x c e => ?_, fun p hp => ?_, fun b u e => ?_, I.len⟩
  · rw [upd_ne fun z => by rw [z, n0] at e; cases e]
    exact I.base.free b o e n hx
  · obtain ⟨m, q⟩ := I.base.tbls b ps e
    exact ⟨m, old b _ q⟩
  · rw [upd_ne (Ne.symm nL)]
    exact I.free
  · have nc : c ≠ a := fun z => by
      obtain ⟨v, hv⟩ := I.cell x c e
      obtain ⟨oc, h1, h2⟩ := hv
      rw [z, ha] at h1
      cases h1
      rw [hd] at h2
      cases h2
    rw [upd_ne nc]
    exact I.freeC x c e
  · obtain ⟨h1, h2, h3⟩ := I.pin p hp
    refine ⟨h1, ?_, h3⟩
    rw [upd_ne (np p hp)]
    exact h2
  · by_cases hb : b = a
    · subst hb
      rw [upd_same] at e
      cases e
      exact ob
    · rw [upd_ne hb] at e
      exact (I.hok b u e).stay (fun c v _ q => q) (fun c q => old c _ q) fun c xs q => old c _ q
theorem toSuite (I : Inv X pins σ H s) (a : Addr) : Inv (X.suite a (X.pn ++ pins)) [] σ H s :=
  ⟨I.ok.suite _ _, I.os, I.bare, I.base, I.loc, I.cell, I.free, I.freeC, fun p hp => I.pin p (by rw [List.append_nil] at hp; exact hp), I.hok, I.len⟩
theorem ofSuite {a : Addr} (I : Inv (X.suite a (X.pn ++ pins)) [] σ H s) (ok : X.Ok) : Inv X pins σ H s :=
  ⟨ok, I.os, I.bare, I.base, I.loc, I.cell, I.free, I.freeC, fun p hp => I.pin p (List.mem_append_left _ hp), I.hok, I.len⟩
end
theorem EnvR.unset {T : Tb} {R : List Addr} {H : Hp} {ρ : Mn.Env} {σ : L2.St} (h : EnvR T R H ρ σ) (i : Nat) : EnvR T R H (ρ.set i none) (σ.set i none) := by
  refine ⟨by rw [List.length_set, List.length_set]; exact h.1, fun j u e => ?_⟩
  by_cases hj : i = j
  · subst hj
    by_cases hi : i < ρ.length
    · rw [List.getElem?_set_self hi] at e
      cases e
    · rw [List.getElem?_eq_none (by rw [List.length_set]; omega)] at e
      cases e
  · rw [List.getElem?_set_ne hj] at e ⊢
    exact h.2 j u e
def unS (o : Option Nat) (σ : L2.St) : L2.St := match o with
  | some i => σ.set i none
  | none => σ
theorem EnvR.un {T : Tb} {R : List Addr} {H : Hp} {ρ : Mn.Env} {σ : L2.St} (h : EnvR T R H ρ σ) : ∀ o, EnvR T R H (Mn.unO o ρ) (unS o σ)
  | none => h
  | some i => h.unset i
/-- the ends of a suite -/
def DP (D : Ends) (o : Option Nat) : Ends := ⟨fun σ H => D.nx (unS o σ) H, D.rt, fun σ H => D.bk (unS o σ) H, fun σ H => D.ct (unS o σ) H⟩
theorem drop_post {T : Tb} {W : WX} {D : Ends} {o : Option Nat} {R : List Addr} {H H1 : Hp} {r : Mn.RS} (k : Keep R R H H1) (h : PostS T W D R H (r.calm.drop o)) : PostS T W0 (DP D o) R H1 r := by
  have h := PostS.mono h (List.prefix_refl R) k
  cases r with
  | nx ρ M => exact fun R2 H2 σ p2 k2 s2 e2 => h R2 H2 _ p2 k2 s2 (e2.un o)
  | ret v M => exact h
  | bk ρ M => exact fun R2 H2 σ p2 k2 s2 e2 => h R2 H2 _ p2 k2 s2 (e2.un o)
  | ct ρ M => exact fun R2 H2 σ p2 k2 s2 e2 => h R2 H2 _ p2 k2 s2 (e2.un o)
  | exc c ρ M => exact h.elim
  | bad => exact h.elim
/-! ### a clause's test -/
section
variable (X : Cx) (T : Tb)
def CTest (t : Expr) (cs : List String) (tup : Bool) : Prop := ∀ {a : Addr} {c : String} {oe : Obj} {pn : List (Addr × Obj)} {σ : L2.St} {H : Hp} {s : Shared}, Inv (X.suite a ((a, oe) :: pn)) [] σ H s → c ∈ T.xs →
  PySem.W.Looks (model X.prog X.w) s.heap (typeOf (.ref a)) (.ref (T.ca c)) → (tup = true → cs.any (Mn.isX c) = false) → ∀ {Q : Bool → Shared → Prop} {E E2 : Value → Shared → Prop},
  (∀ h', (∀ b o, s.heap.get? b = some o → h'.get? b = some o) → Q (cs.any (Mn.isX c)) { s with heap := h' }) →
  wpAny (model X.prog X.w) (X.A.mark (some (.ref a))) (eval t X.env) (fun v s1 => wpAny (model X.prog X.w) (X.A.mark (some (.ref a))) (excMatches (.ref a) v) Q E2 s1) E s
/-- the clauses, and what they are -/
inductive HdsT : List ExceptHandler → List Mn.Hd → Prop
  | nil : HdsT [] []
  | cons {t : Expr} {cs : List String} {tup : Bool} {o : Option Nat} {n : Option Str} {st : Mn.St} {b₀ : Stmt} {suite : List Stmt} {pos : Pos} {hds : List ExceptHandler} {l : List Mn.Hd} (ht : CTest X T t cs tup)
      (hn : (n = none ∧ o = none) ∨ ∃ x i, n = some x ∧ o = some i ∧ X.N[i]? = some x ∧ X.env.kindOf x = some .local)
      (hs : ∀ (a : Addr) (pn : List (Addr × Obj)), PSs (X.suite a pn) (b₀ :: suite) (rdS T W0 st)) (r : HdsT hds l) :
      HdsT (.ExceptHandler (some t) n (b₀ :: suite) pos :: hds) (⟨tup, cs, o, st⟩ :: l)
end
end MnS
end
section
set_option Elab.async false
set_option autoImplicit false
set_option linter.all false
set_option maxRecDepth 100000
set_option maxHeartbeats 2000000
namespace MnS
open PySem PySem.Spec PyProof.Rows L2
open Mn (Val Cell Store E Fn Op U Itr Src Tg)
section
variable {X : Cx} {T : Tb} {W : WX}
/-- what a try's body wishes of its exceptions -/
def wTry (T : Tb) (W : WX) (D : Ends) (l : List Mn.Hd) : WX := fun cls d σ H => d = none ∧ ∃ c, c ∈ T.xs ∧ cls = .ref (T.ca c) ∧ ∃ R ρ M, EnvR T R H ρ σ ∧ Sim T R H M ∧ PostS T W D R H (Mn.handle l c ρ M)
theorem try_rd {fb fe : Mn.St} {l : List Mn.Hd} : ∀ σ H D, rdS T W (Mn.sTry fb l fe) D σ H → rdS T (wTry T W D l) fb { D with nx := rdS T W fe D } σ H := fun σ H D ⟨R, ρ, M, e, s, p⟩ => by
  refine ⟨R, ρ, M, e, s, ?_⟩
  unfold Mn.sTry at p
  cases z : fb ρ M with
  | nx ρ2 M2 =>
    rw [z] at p
    exact fun R2 H2 σ2 p2 k2 s2 e2 => ⟨R2, ρ2, M2, e2, s2, PostS.mono (r := fe ρ2 M2) p p2 k2⟩
  | exc c ρ2 M2 =>
    rw [z] at p
    exact fun hc R2 H2 σ2 p2 k2 s2 e2 => ⟨rfl, c, hc, rfl, R2, ρ2, M2, e2, s2, PostS.mono (r := Mn.handle l c ρ2 M2) p p2 k2⟩
  | ret v M2 =>
    rw [z] at p
    exact p
  | bk ρ2 M2 =>
    rw [z] at p
    exact p
  | ct ρ2 M2 =>
    rw [z] at p
    exact p
  | bad =>
    rw [z] at p
    exact p
theorem flying_more {B h h' : Heap} {l : List Env} {e : Addr} {Z : Obj → Prop} (f : HandSPX.FlyingZ B l e Z h) (k : ∀ b o, h.get? b = some o → h'.get? b = some o) : HandSPX.FlyingZ B l e Z h' := by
  obtain ⟨f1, f2, f3, oe, ws, tr, otr, ts, g1, g2, g3, g4, g5, g6, g7, g8, g9⟩ := f
  exact ⟨fun b o q => k b o (f1 b o q), f2, f3.of_keeps fun b o q _ => ⟨o, k b o q, rfl⟩, oe, ws, tr, otr, ts, k _ _ g1, g2, g3, g4, g5, g6, k _ _ g7, g8, g9⟩
theorem s_try {body orelse : List Stmt} {h₀ : ExceptHandler} {hds : List ExceptHandler} {fb fe : Mn.St} {l : List Mn.Hd} {pos : Pos} (hs : X.stack = X.env :: X.outer) (hf : X.env.frame = some X.env.locals) (hex : X.ex = []) (hN : X.N.Nodup) (tk : Takes X W)
    (hb : ∀ (W' : WX) (pn : List (Addr × Obj)) (xe : Value → Shared → Prop), Takes (X.tr pn xe) W' → PassesOwn (model X.prog X.w) X.A X.env xe → PSs (X.tr pn xe) body (rdS T W' fb)) (ho : PSs X orelse (rdS T W fe)) (hh : HdsT X T (h₀ :: hds) l) :
    PS X (.Try body (h₀ :: hds) orelse [] pos) (rdS T W (Mn.sTry fb l fe)) := by
  refine PS.imp (t := fun D σ H => rdS T (wTry T W D l) fb { D with nx := rdS T W fe D } σ H) ⟨fun pins s σ H D I rd => ?_⟩ try_rd
  have ok := I.ok
  have frm : X.A.frames = some (X.env :: X.outer) := by rw [ok.frames, hs]
  refine wpAny_Try_except (wpAny_mono ((hb (wTry T W D l) (X.pn ++ pins) (fun e s1 => wpAny (model X.prog X.w) X.A (noteFrame e X.env) (fun _ s2 => wpAny (model X.prog X.w) X.A (setFlight e none)
    (fun _ s3 => wpAny (model X.prog X.w) X.A (handleBy e X.env (h₀ :: hds)) (SP X pins D) X.xe s3) X.xe s2) X.xe s1) (fun u s' air => ?_) PassesOwn.looking).run [] s σ H _ (I.toTry _) rd) (fun f s1 sp => ?_) fun _ _ z => z)
  · obtain ⟨a, B, sI, pins', σ', H', cls, d, rfl, J0, nb, up, sky, na, os, ag, rfl, c, hc, rfl, R, ρ, M, env, sim, post⟩ := air
    have J : Inv X pins σ' H' sI := J0.ofTry ok
    have sky' : Sky B (X.env :: X.outer) a (Zc (.ref (T.ca c)) none) X.env.locals s'.heap := hs ▸ sky
    show wpAny (model X.prog X.w) X.A (noteFrame (.ref a) X.env) _ _ _
    refine Sky.land Zc.steady frm hf sky' fun h3 fl3 up3 => ?_
    have noFr : ∀ {h : Heap}, HandSPX.FlyingZ B (X.env :: X.outer) a (Zc (.ref (T.ca c)) none) h → a ∉ frs (X.env :: X.outer) := fun {h} fl m => by
      obtain ⟨oe, vs, e1, _, e2⟩ := fl.there
      obtain ⟨_, o', e', hnf⟩ := fl.2.2.1.mem m
      rw [e1] at e'
      cases e'
      exact hnf _ e2
    have nfr := noFr fl3
    have nL : a ≠ X.env.locals := fun z => nfr (List.mem_filterMap.mpr ⟨X.env, List.mem_cons_self, by rw [hf, z]⟩)
    have nF : a ∉ X.fs := fun m => by
      obtain ⟨e, he, q⟩ := List.mem_filterMap.mp m
      exact nfr (List.mem_filterMap.mpr ⟨e, List.mem_cons_of_mem _ he, q⟩)
    have none0 : ∀ o, sI.heap.get? a ≠ some o := fun o e => by
      have q := nb a o e (by rw [hs]; exact nfr)
      rw [fl3.2.1] at q
      cases q
    have n0 : X.s_0.heap.get? a = none := by
      cases q : X.s_0.heap.get? a with
      | none => rfl
      | some o =>
        obtain ⟨o', e⟩ := J.base.there a o q (by rw [hex]; simp)
        exact absurd e (none0 o')
    have np : ∀ p ∈ X.pn ++ pins, p.1 ≠ a := fun p hp z => none0 p.2 (z ▸ (J.pin p hp).1)
    have go : ∀ {hs2 : List ExceptHandler} {l2 : List Mn.Hd}, HdsT X T hs2 l2 → PostS T W D R H' (Mn.handle l2 c ρ M) → ∀ sC : Shared, HandSPX.FlyingZ B (X.env :: X.outer) a (Zc (.ref (T.ca c)) none) sC.heap → sI.heap.UpToSlots sC.heap → sC.os = sI.os → AllBare sC.gens →
        wpAny (model X.prog X.w) X.A (handleBy (.ref a) X.env hs2) (SP X pins D) X.xe sC := by
      intro hs2 l2 hk
      induction hk with
      | nil =>
        intro post sC fl upC osC agC
        refine wpAny_handleBy_nil ?_
        obtain ⟨k1, k2, k3, oe, vs, tr, otr, ts, e1, e2, e3, e4, e5⟩ := id fl
        unfold PySem.passOn
        refine wpAny_bind (wpAny_field e1 e3 e4 ?_)
        rw [if_neg (by simp : ¬ ((Value.ref tr == Value.none) = true))]
        have out : wpAny (model X.prog X.w) X.A (setFlight (.ref a) X.env.frame) (fun _ s4 => wpAny (model X.prog X.w) X.A (throw (.ref a) : Sem Flow) (SP X pins D) X.xe s4) X.xe sC := by
          rw [hf]
          refine HandSPX.setFlight_upZ fl fun h4 hh4 up4 => wpAny_throw (tk _ _ ?_)
          exact ⟨a, B, sI, pins, σ', H', _, _, rfl, J, nb, upC.trans up4, .inr (.inr (hs ▸ hh4)), na, osC, agC, post hc R H' σ' (List.prefix_refl R) (Keep.refl H') sim env⟩
        first
          | exact wpAny_bind (wpAny_pure (wpAny_bind out))
          | exact wpAny_bind out
      | @cons t cs tup o n st b₀ suite pos2 hds2 l3 ht hn hsu r ih =>
        intro post sC fl upC osC agC
        unfold Mn.handle at post
        dsimp only at post
        have JC : Inv X pins σ' H' sC := J.landed nb fl.1 upC osC agC
        obtain ⟨oe, vs, e1, e2, e3⟩ := fl.there
        have SC := JC.suite e1 e3 na nL nF
        refine wpAny_handleBy_cons (codeAny_handlers_test ?_) (by intro q; cases q)
        have LT : PySem.W.Looks (model X.prog X.w) sC.heap (typeOf (.ref a)) (.ref (T.ca c)) := fun A Q E s k q => wpAny_typeOf_ref (k _ _ e1) (by rw [e2.1]; exact q)
        by_cases hit : cs.any (Mn.isX c) = true
        · rw [if_pos hit] at post
          by_cases ht2 : tup = true
          · rw [if_pos ht2] at post
            exact post.elim
          · rw [if_neg ht2] at post
            refine ht SC hc LT (fun z => absurd z ht2) fun h5 k5 => ?_
            rw [hit]
            have fl5 := flying_more fl k5
            have up5 : sI.heap.UpToSlots h5 := upC.trans (Heap.UpToSlots.of_keeps k5)
            -- the suite, from a heap on in which the exception stands
            have run : ∀ {h6 : Heap} {n' : Option Str}, HandSPX.FlyingZ B (X.env :: X.outer) a (Zc (.ref (T.ca c)) none) h6 → sI.heap.UpToSlots h6 →
                (∀ i, o = some i → ∃ x, n' = some x ∧ X.N[i]? = some x ∧ X.env.kindOf x = some .local) → ∀ {Q : Flow → Shared → Prop} {E : Value → Shared → Prop},
                (∀ f s7 (K : ∀ {Q2 : Shared → Prop} {E2 : Value → Shared → Prop}, (∀ s8, SP X pins D f s8 → Q2 s8) → match o with
                  | none => Q2 s7
                  | some i => ∀ x, X.N[i]? = some x → X.env.kindOf x = some .local → wpAny (model X.prog X.w) X.A (do bindName X.env x .none; unbindBehindTheSuite X.env x pos2) (fun _ s8 => Q2 s8) E2 s7), Q f s7) →
                match o with
                | none => wpAny (model X.prog X.w) (X.A.mark (some (.ref a))) (execs (b₀ :: suite) X.env) Q E { sC with heap := h6 }
                | some i => ∀ x, X.N[i]? = some x → X.env.kindOf x = some .local → wpAny (model X.prog X.w) (X.A.mark (some (.ref a))) (storeName X.env x (.ref a)) (fun _ s6 => wpAny (model X.prog X.w) (X.A.mark (some (.ref a))) (execs (b₀ :: suite) X.env) Q E s6) E { sC with heap := h6 } := by
              intro h6 n' fl6 up6 hi Q E hQ
              have J6 : Inv X pins σ' H' { sC with heap := h6 } := J.landed nb fl6.1 up6 osC agC
              obtain ⟨oe6, vs6, f1, f2, f3⟩ := fl6.there
              have I6 : Inv X pins σ' (upd H' a (.ext (excPhi (T.ca c) a))) { sC with heap := h6 } := held_ok J6 f1 f3 na nL n0 np ⟨⟨oe6, vs6, f1, f2.1, f2.2, f3⟩, ⟨oe6, f1⟩, fun g1 g2 ⟨ob, ws, w1, w2⟩ kk => ⟨ob, ws, kk _ w1, w2⟩⟩
              have S6 := toSuite I6 a
              have kn : Keep R R H' (upd H' a (.ext (excPhi (T.ca c) a))) := Keep.new na
              have env6 := env.mono (List.prefix_refl R) kn
              have sim6 := sim.other (o := .ext (excPhi (T.ca c) a)) na
              have rel6 : Rel T R (upd H' a (.ext (excPhi (T.ca c) a))) (.exc c) (.ref a) := .exc hc upd_same
              have dp : PostS T W0 (DP D o) R (upd H' a (.ext (excPhi (T.ca c) a))) (st (Mn.setO o c ρ) M) := drop_post kn post
              -- what the suite's end gives
              have fin : ∀ (f : Flow) (s7 : Shared), SP (X.suite a (X.pn ++ pins)) [] (DP D o) f s7 → Q f s7 := fun f s7 sp => by
                refine hQ f s7 fun {Q2 E2} q2 => ?_
                cases o with
                | none =>
                  refine q2 s7 ?_
                  cases f with
                  | next =>
                    obtain ⟨σ7, H7, S7, q7⟩ := sp
                    exact ⟨σ7, H7, ofSuite S7 ok, q7⟩
                  | brk =>
                    obtain ⟨σ7, H7, S7, q7⟩ := sp
                    exact ⟨σ7, H7, ofSuite S7 ok, q7⟩
                  | cont =>
                    obtain ⟨σ7, H7, S7, q7⟩ := sp
                    exact ⟨σ7, H7, ofSuite S7 ok, q7⟩
                  | ret u =>
                    obtain ⟨v7, σ7, H7, S7, r7, q7⟩ := sp
                    exact ⟨v7, σ7, H7, ofSuite S7 ok, r7, q7⟩
                | some i =>
                  intro x hx kx
                  cases f with
                  | next =>
                    obtain ⟨σ7, H7, S7, q7⟩ := sp
                    exact gone_ok (ofSuite S7 ok) hN hx kx fun s8 J8 => q2 s8 ⟨_, H7, J8, q7⟩
                  | brk =>
                    obtain ⟨σ7, H7, S7, q7⟩ := sp
                    exact gone_ok (ofSuite S7 ok) hN hx kx fun s8 J8 => q2 s8 ⟨_, H7, J8, q7⟩
                  | cont =>
                    obtain ⟨σ7, H7, S7, q7⟩ := sp
                    exact gone_ok (ofSuite S7 ok) hN hx kx fun s8 J8 => q2 s8 ⟨_, H7, J8, q7⟩
                  | ret u =>
                    obtain ⟨v7, σ7, H7, S7, r7, q7⟩ := sp
                    exact gone_ok (ofSuite S7 ok) hN hx kx fun s8 J8 => q2 s8 ⟨v7, _, H7, J8, r7, q7⟩
              cases o with
              | none => exact wpAny_mono ((hsu a (X.pn ++ pins)).run [] _ σ' _ (DP D none) S6 ⟨R, ρ, M, env6, sim6, dp⟩) fin fun _ _ z => z.elim
              | some i =>
                intro x hx kx
                refine store_ok (X := X.suite a (X.pn ++ pins)) (v := .ref a) S6 hN hx (.inl kx) rfl (fun s6 T6 => ?_) (.inr kx)
                exact wpAny_mono ((hsu a (X.pn ++ pins)).run [] s6 _ _ (DP D (some i)) T6 ⟨R, _, M, env6.set rel6 i, sim6, dp⟩) fin fun _ _ z => z.elim
            rcases hn with ⟨rfl, rfl⟩ | ⟨x, i, rfl, rfl, hx, kx⟩
            · refine codeAny_handlers_suite (HandSPX.lands_againZ fl5 fun h6 fl6 up6 => ?_)
              exact run (n' := none) fl6 (up5.trans up6) (fun i z => nomatch z) fun f s7 K => K (E2 := X.xe) fun s8 q => q
            · refine codeAny_handlers_suite_as (HandSPX.lands_againZ fl5 fun h6 fl6 up6 => ?_)
              refine wpAny_mono (run (n' := some x) fl6 (up5.trans up6) (fun j z => by cases z; exact ⟨x, rfl, hx, kx⟩) (Q := fun f s7 => wpAny (model X.prog X.w) X.A (do bindName X.env x .none; unbindBehindTheSuite X.env x pos2) (fun _ s8 => SP X pins D f s8) X.xe s7) (E := fun _ _ => False) (fun f s7 K => K (fun s8 q => q) x hx kx) x hx kx) (fun _ s6 q6 => wpAny_mono q6 (fun f s7 q7 => q7) fun _ _ z => z.elim) fun _ _ z => z.elim
        · rw [if_neg hit] at post
          have hit : cs.any (Mn.isX c) = false := by simpa using hit
          refine ht SC hc LT (fun _ => hit) fun h5 k5 => ?_
          rw [hit]
          exact ih post { sC with heap := h5 } (flying_more fl k5) (upC.trans (Heap.UpToSlots.of_keeps k5)) osC agC
    exact go hh post _ fl3 (up.trans up3) os ag
  · cases f with
    | next =>
      obtain ⟨σ', H', J', q⟩ := sp
      exact ho.run pins s1 σ' H' D (J'.ofTry ok) q
    | brk =>
      obtain ⟨σ', H', J', q⟩ := sp
      exact ⟨σ', H', J'.ofTry ok, q⟩
    | cont =>
      obtain ⟨σ', H', J', q⟩ := sp
      exact ⟨σ', H', J'.ofTry ok, q⟩
    | ret u =>
      obtain ⟨v, σ', H', J', r, q⟩ := sp
      exact ⟨v, σ', H', J'.ofTry ok, r, q⟩
end
end MnS
end
section
set_option Elab.async false
set_option autoImplicit false
set_option linter.all false
set_option maxRecDepth 100000
set_option maxHeartbeats 2000000
/-! From a def's text to its function in the small language, and that the machine does what this says. -/
namespace MnS
open PySem PySem.Spec PyProof.Rows L2
open Mn (Val Cell Store E Fn Op U Itr Src Tg)
/-- what stands fixed where a text is read: the slots, the scope's names, the module's names -/
structure Dc where
  N : List Str
  nm : List (Str × NameKind)
  fn : List (Str × (Fn × Nat))
  /-- defs whose last parameter may be left out: None -/
  dn : List Str
  con : List (Str × Val)
  blt : List Str
  exc : List String
  st : List Str
  calm : Bool
  stm : Bool
def tyOk : List String := ["int", "bool", "str", "tuple", "list", "dict", "ValueError"]
def tyNames : List String := ["NoneType", "bool", "int", "str", "tuple", "list", "dict"]
/-- the classes of errors -/
structure ExF (K : PySem.W.Frag) (ca : String → Addr) (xs : List String) : Prop where
  cc : ∀ c ∈ xs, ExcC K (ca c)
  kt : ∀ c ∈ xs, ∀ t ∈ tyOk, PySem.W.kitOne K (.ref (ca c)) (.type t) = some (Mn.isX c t)
  kx : ∀ c ∈ xs, ∀ d ∈ xs, PySem.W.kitOne K (.ref (ca c)) (.ref (ca d)) = some (Mn.isX c d)
  kv : ∀ a ∈ tyNames, ∀ d ∈ xs, PySem.W.kitOne K (.type a) (.ref (ca d)) = some (Mn.isT a d)
  ei : ∀ c ∈ xs, PySem.W.excIn K (ca c) He.veBase "ValueError.__new__" = true
  ke : ∀ c ∈ xs, ∀ d ∈ xs, PySem.W.exmOne K (.ref (ca c)) (.ref (ca d)) = some (Mn.isX c d)
  kp : ∀ c ∈ xs, PySem.W.keepIn K (.ref (ca c)) = true
  ra : ∀ c ∈ xs, PySem.W.subIn K (.ref (ca c)) (.type "BaseException") = some true ∧ PySem.W.typeIn K (.ref (ca c)) = some (.type "type")
/-- .. and what the machine must be like there -/
structure Cok (X : Cx) (T : Tb) (W : WX) (C : Dc) : Prop where
  K : X.K = T.K
  N : X.N = C.N
  nd : C.N.Nodup
  nm : X.env.scope.names = C.nm
  kind : X.env.scope.kind = .function
  calm : C.calm = true → X.calm = true
  stm : C.stm = true → X.stack = X.env :: X.outer ∧ X.env.frame = some X.env.locals ∧ X.ex = []
  tk : Takes X W
  po : PassesOwn (model X.prog X.w) X.A X.env X.xe
  un : X.A.units + 64 < cLine
  fn : ∀ x F np, C.fn.lookup x = some (F, np) → Arity F np ∧ ∃ (k : Nat) (f : Addr) (fd : FuncData) (ps : List Str), Room k X.A ∧ X.mg x = some (.ref f) ∧ PySem.W.keepIn X.K (.ref f) = true ∧ Binds X.K fd ps [] ∧ (x ∈ C.dn → Binds X.K fd ps [.none]) ∧
    FnOk X.prog X.w X.K X.mg X.base (L2.CX X.prog X.w) k f fd ps (spF T np F)
  con : ∀ x v, C.con.lookup x = some v → ∃ (u : Value) (w : V), X.mg x = some u ∧ RelV w u ∧ ∀ R H, Rel T R H v w
  blt : ∀ x, x ∈ C.blt → X.mg x = none
  ex : ExF X.K T.ca T.xs
  exc : ∀ c, c ∈ T.xs → X.mg (Str.ofString c) = some (.ref (T.ca c))
  xs : C.exc = T.xs
  sto : ∀ x, x ∈ C.st → X.fn x = true ∨ X.env.scope.names.lookup x = some .local
section
variable (C : Dc)
/-- a name's slot -/
def slotOf (x : Str) : Option Nat := C.N.findIdx? fun y => decide (y = x)
def badName (x : Str) : Bool := (x == ("__debug__" : Str)) || (x == ("__classdict__" : Str)) || (x == ("__name__" : Str))
def denN (x : Str) : Option E := if badName x = true then none else match C.nm.lookup x with
  | some .local => (slotOf C x).map Mn.eVar
  | some .cell => (slotOf C x).map Mn.eVar
  | some .free => (slotOf C x).map Mn.eVar
  | some .globalImplicit => (C.con.lookup x).map Mn.eC
  | _ => none
def opB : Operator → Option Op
  | .Add => some Mn.oAdd
  | .Sub => some Mn.oSub
  | .Mult => some Mn.oMul
  | .FloorDiv => some Mn.oDiv
  | .Mod => some Mn.oMod
  | .Pow => some Mn.oPow
  | _ => none
def opC : CmpOp → Option Op
  | .Eq => some Mn.cEq
  | .NotEq => some Mn.cNe
  | .Lt => some Mn.cLt
  | .LtE => some Mn.cLe
  | .Gt => some Mn.cGt
  | .GtE => some Mn.cGe
  | .Is => some Mn.cIsN
  | .IsNot => some Mn.cNotN
  | .In => some Mn.cIn
  | .NotIn => some Mn.cNotIn
/-- a built-in function that is called by its name -/
def isB (x : Str) : Bool := decide (C.nm.lookup x = some .globalImplicit) && C.blt.contains x
/-- built-ins of one value: those of the table's head want a calm context -/
def bltTab : List (String × U) := [("abs", Mn.uAbs), ("len", Mn.uLen), ("list", Mn.uList), ("tuple", Mn.uTup), ("int", Mn.uInt)]
def denBlt1 (x : Str) : Option U := if isB C x = true then
    (if x = "abs" then some Mn.uAbs else if x = "len" then some Mn.uLen else if x = "list" then some Mn.uList else if x = "tuple" then some Mn.uTup else if x = "int" then some Mn.uInt
      else if C.calm = true then (if x = "all" then some Mn.uAll else if x = "any" then some Mn.uAny else none) else none) else none
def denBlt2 (x : Str) : Option Op := if isB C x = true then
    (if x = "divmod" then some Mn.oDm else if C.calm = true then (if x = "max" then some Mn.oMax else if x = "min" then some Mn.oMin else none) else none) else none
/-- methods: of no argument, of one, of two -/
def denM0 (x : Str) : Option (String × U) := if x = "clear" then some ("list", Mn.mClr) else if x = "pop" then some ("list", Mn.mPop) else none
def denM1 (x : Str) : Option (String × Op) := if x = "append" then some ("list", Mn.mApp) else if x = "extend" then some ("list", Mn.mExt) else none
def denM2 (x : Str) : Option (String × Mn.Tri) := if x = "insert" then some ("list", Mn.mIns) else none
def denTy (e : Expr) : Option String := match e with
  | .Name x _ => if isB C x = true then tyOk.find? (fun t => decide (Str.ofString t = x)) else
      if decide (C.nm.lookup x = some .globalImplicit) = true ∧ ¬ badName x = true then C.exc.find? (fun t => decide (Str.ofString t = x)) else none
  | _ => none
def denTys (e : Expr) : Option (List String) := match e with
  | .Tuple es _ _ => if es.length ≤ 20 then Mn.mapO (denTy C) es else none
  | e => (denTy C e).map fun t => [t]
/-- a name that is stored to -/
def locOf (x : Str) : Option Nat := if C.st.contains x = true then (match C.nm.lookup x with
  | some .local => slotOf C x
  | some .cell => slotOf C x
  | _ => none) else none
def isTup : Expr → Bool
  | .Tuple .. => true
  | _ => false
def denG : Nat → Expr → Option (Tg × List Nat)
  | 0, _ => none
  | n + 1, e => match e with
    | .Name x _ => (locOf C x).map fun i => (Mn.tName i, [i])
    | .Tuple es _ _ => if C.calm = true then (Mn.mapO (denG n) es).map fun l => (Mn.tTup (l.map (·.1)), l.flatMap (·.2)) else none
    | _ => none
/-- what is walked -/
def denI (den : Expr → Option E) (tg e : Expr) : Option Src := match e with
  | .Call (.Name x _) [a] [] _ => if x = "range" ∧ isB C x = true then (den a).map Mn.iRange1
      else if x = "enumerate" ∧ isB C x = true ∧ isTup tg = true then (den a).map Mn.iEnum
      else if x = "reversed" ∧ isB C x = true then (den a).map Mn.iRev else (den e).map Mn.iList
  | .Call (.Name x _) [a, b] [] _ => if x = "range" ∧ isB C x = true then (match den a, den b with
      | some fa, some fb => some (Mn.iRange2 fa fb)
      | _, _ => none) else if x = "zip" ∧ isB C x = true ∧ isTup tg = true then (match den a, den b with
      | some fa, some fb => some (Mn.iZip fa fb)
      | _, _ => none) else (den e).map Mn.iList
  | e => (den e).map Mn.iList
/-- a comprehension's block -/
def relN (nm names : List (Str × NameKind)) : List (Str × NameKind) := names.map fun (n, k) => if (k == .free && nm.lookup n == some .cell) then (n, .cell) else (n, k)
def ownOf (scope : Scope) : List (Str × Nat) := scope.names.filterMap fun (n, k) => if k == .local || k == .cell then (slotOf C n).map fun i => (n, i) else none
def blkB (scope : Scope) : Bool := blkC C.N { scope with names := C.nm } scope (ownOf C scope)
def blkDc (scope : Scope) : Dc := { C with nm := relN C.nm scope.names, st := (scope.names.filter fun (n, k) => (k == .local || k == .cell) && decide ((relN C.nm scope.names).lookup n = some .local ∨ scope.names.lookup n = some .cell)).map (·.1), stm := false }
end
def denE : Dc → Nat → Expr → Option E
  | _, 0, _ => none
  | C, n + 1, e => match e with
    | .Constant (.int i) _ _ => some (Mn.eC (.int i))
    | .Constant (.bool b) _ _ => some (Mn.eC (.bl b))
    | .Constant (.str s) _ _ => some (Mn.eC (.str s.cps.toList))
    | .Constant .none _ _ => some (Mn.eC .non)
    | .Name x _ => denN C x
    | .BinOp a op b _ => match opB op, denE C n a, denE C n b with
      | some f, some fa, some fb => some (Mn.eBin f fa fb)
      | _, _, _ => none
    | .UnaryOp .USub a _ => (denE C n a).map (Mn.eUn Mn.oNeg)
    | .UnaryOp .Not a _ => (denE C n a).map Mn.eNot
    | .BoolOp .And [a] _ => denE C n a
    | .BoolOp .And (a :: b :: r) p => match denE C n a, denE C n (.BoolOp .And (b :: r) p) with
      | some fa, some fb => some (Mn.eAnd fa fb)
      | _, _ => none
    | .BoolOp .Or [a] _ => denE C n a
    | .BoolOp .Or (a :: b :: r) p => match denE C n a, denE C n (.BoolOp .Or (b :: r) p) with
      | some fa, some fb => some (Mn.eOr fa fb)
      | _, _ => none
    | .Compare a [op] [b] _ => match opC op, denE C n a, denE C n b with
      | some f, some fa, some fb => some (Mn.eBin f fa fb)
      | _, _, _ => none
    | .Compare a [op, op'] [b, c] _ => match opC op, opC op', denE C n a, denE C n b, denE C n c with
      | some f, some g, some fa, some fb, some fc => some (Mn.eChain f g fa fb fc)
      | _, _, _, _, _ => none
    | .Tuple es _ _ => (Mn.mapO (denE C n) es).map Mn.eTup
    | .List es _ => (Mn.mapO (denE C n) es).map Mn.eLst
    | .Subscript a (.Slice none none none _) _ => (denE C n a).map fun fa => Mn.eSl fa none none
    | .Subscript a (.Slice (some l) none none _) _ => match denE C n a, denE C n l with
      | some fa, some fl => some (Mn.eSl fa (some fl) none)
      | _, _ => none
    | .Subscript a (.Slice none (some h) none _) _ => match denE C n a, denE C n h with
      | some fa, some fh => some (Mn.eSl fa none (some fh))
      | _, _ => none
    | .Subscript a (.Slice (some l) (some h) none _) _ => match denE C n a, denE C n l, denE C n h with
      | some fa, some fl, some fh => some (Mn.eSl fa (some fl) (some fh))
      | _, _, _ => none
    | .Subscript a b _ => match denE C n a, denE C n b with
      | some fa, some fb => some (Mn.eBin Mn.oIx fa fb)
      | _, _ => none
    | .Call (.Name x _) [a, c] [] _ => if x = "isinstance" ∧ isB C x = true then
        (match denE C n a, denTys C c with
          | some fa, some ts => some (Mn.eUn (Mn.uIs ts) fa)
          | _, _ => none)
      else if badName x = true ∨ C.nm.lookup x ≠ some .globalImplicit then none else match C.fn.lookup x, denE C n a, denE C n c with
        | some (F, np), some fa, some fc => if np = 3 ∧ C.dn.contains x = true then some (Mn.eCall F [fa, fc, Mn.eC .non]) else some (Mn.eCall F [fa, fc])
        | none, some fa, some fc => (denBlt2 C x).map fun o => Mn.eBin o fa fc
        | _, _, _ => none
    | .Call (.Name x _) (a :: es) [] _ => if badName x = true ∨ C.nm.lookup x ≠ some .globalImplicit then none else match C.fn.lookup x with
      | some (F, _) => (Mn.mapO (denE C n) (a :: es)).map (Mn.eCall F)
      | none => match es, denBlt1 C x, denE C n a with
        | [], some u, some fa => some (Mn.eUn u fa)
        | _, _, _ => none
    | .Call (.Attribute o x ap) [] [] pos => match ap.endLine == pos.line, denM0 x, denE C n o with
      | true, some (t, f), some fo => some (Mn.eM0 t f fo)
      | _, _, _ => none
    | .Call (.Attribute o x ap) [a] [] pos => match ap.endLine == pos.line, denM1 x, denE C n o, denE C n a with
      | true, some (t, f), some fo, some fa => some (Mn.eM1 t f fo fa)
      | _, _, _, _ => none
    | .Call (.Attribute o x ap) [a, b] [] pos => match ap.endLine == pos.line, denM2 x, denE C n o, denE C n a, denE C n b with
      | true, some (t, f), some fo, some fa, some fb => some (Mn.eM2 t f fo fa fb)
      | _, _, _, _, _ => none
    | .ListComp elt [⟨tg, iter, [], 0⟩] scope _ => if C.calm = true ∧ blkB C scope = true then (match denI C (denE C n) tg iter, denG (blkDc C scope) 20 tg, denE (blkDc C scope) n elt with
        | some s, some (t, ts), some fe => if ts.all (fun j => ((ownOf C scope).map (·.2)).contains j) = true then some (Mn.eLc s t ((ownOf C scope).map (·.2)) (Mn.eC (.bl true)) fe) else none
        | _, _, _ => none) else none
    | .ListComp elt [⟨tg, iter, [c], 0⟩] scope _ => if C.calm = true ∧ blkB C scope = true then (match denI C (denE C n) tg iter, denG (blkDc C scope) 20 tg, denE (blkDc C scope) n c, denE (blkDc C scope) n elt with
        | some s, some (t, ts), some fc, some fe => if ts.all (fun j => ((ownOf C scope).map (·.2)).contains j) = true then some (Mn.eLc s t ((ownOf C scope).map (·.2)) fc fe) else none
        | _, _, _, _ => none) else none
    | _ => none
section
variable {X : Cx} {T : Tb} {W : WX} {C : Dc}
theorem slot_get {x : Str} {i : Nat} (h : slotOf C x = some i) : C.N[i]? = some x := by
  unfold slotOf at h
  rw [List.findIdx?_eq_some_iff_getElem] at h
  obtain ⟨hi, h1, _⟩ := h
  rw [List.getElem?_eq_getElem hi]
  exact congrArg some (of_decide_eq_true h1)
theorem badName_no {x : Str} (h : ¬ badName x = true) : (x == ("__debug__" : Str)) = false ∧ (x == ("__classdict__" : Str)) = false ∧ x ≠ "__name__" := by
  unfold badName at h
  simp only [Bool.or_eq_true, not_or] at h
  refine ⟨by simpa using h.1.1, by simpa using h.1.2, fun z => h.2 (by simp [z])⟩
theorem name_ok (ok : Cok X T W C) {x : Str} {pos : Pos} {f : E} (h : denN C x = some f) : PE X (.Name x pos) (rdE T W f) := by
  unfold denN at h
  split at h
  · cases h
  · rename_i hb
    obtain ⟨b1, b2, b3⟩ := badName_no hb
    have go : ∀ i, slotOf C x = some i → Vis X.env.scope x → PE X (.Name x pos) (rdE T W (Mn.eVar i)) := fun i hi hv =>
      s_var (pe_var (by rw [ok.N]; exact slot_get hi) hv b1 b2)
    split at h
    · rename_i hk
      obtain ⟨i, hi, rfl⟩ := Option.map_eq_some_iff.mp h
      exact go i hi (.inl (by rw [ok.nm]; exact hk))
    · rename_i hk
      obtain ⟨i, hi, rfl⟩ := Option.map_eq_some_iff.mp h
      exact go i hi (.inr (.inl (by rw [ok.nm]; exact hk)))
    · rename_i hk
      obtain ⟨i, hi, rfl⟩ := Option.map_eq_some_iff.mp h
      exact go i hi (.inr (.inr (by rw [ok.nm]; exact hk)))
    · rename_i hk
      obtain ⟨v, hv, rfl⟩ := Option.map_eq_some_iff.mp h
      obtain ⟨u, w, e1, e2, e3⟩ := ok.con x v hv
      exact s_con (pe_glob (show X.env.scope.names.lookup x = some .globalImplicit by rw [ok.nm]; exact hk) e1 e2 b1) e3
    · cases h
theorem opB_ok (ok : Cok X T W C) {op : Operator} {f : Op} (h : opB op = some f) : OpR X (binaryOp op) (rdO T f) := by
  cases op <;> simp only [opB, Option.some.injEq, reduceCtorEq] at h <;> subst h
  · exact o_add ok.K
  · exact o_sub
  · exact o_mul
  · exact o_mod
  · exact o_pow
  · exact o_div
theorem opC_ok (ok : Cok X T W C) {op : CmpOp} {f : Op} (h : opC op = some f) : OpR X (compareOp op) (rdO T f) := by
  cases op <;> simp only [opC, Option.some.injEq, reduceCtorEq] at h <;> subst h
  · exact o_eq ok.K ok.un
  · exact o_ne ok.K ok.un
  · exact o_lt
  · exact o_le
  · exact o_gt
  · exact o_ge
  · exact o_isN
  · exact o_notN
  · exact o_in ok.K
  · exact o_notin ok.K
theorem noMark {n : Nat} {e : Expr} {f : E} (h : denE C n e = some f) (op : CmpOp) : behindInMarks op e = false := by
  cases e <;> first | rfl | (cases n <;> cases h)
theorem noMarks {n : Nat} {e : Expr} {f : E} (h : denE C n e = some f) (op op' : CmpOp) (b : Expr) : lastMarks [op, op'] [b, e] = false := noMark h op'
theorem noAttr {n : Nat} {e : Expr} {f : E} (h : denE C n e = some f) (x : Str) (env : PySem.Env) (m : Sem Value) : attributeBase e x env m = m := by
  cases e with
  | Call fn args kws pos =>
    cases args with
    | nil =>
      cases fn with
      | Name y p =>
        cases n <;> cases h
      | _ => rfl
    | cons a as =>
      cases fn <;> rfl
  | _ => rfl
theorem noStar {n : Nat} {e : Expr} {f : E} (h : denE C n e = some f) (es : List Expr) (env : PySem.Env) : starEach (e :: es) env = (false, eval e env) :: starEach es env := by
  cases e <;> first | rfl | (cases n <;> cases h)
theorem noStars {n : Nat} {env : PySem.Env} {pos : Pos} : ∀ {es : List Expr} {fs : List E}, Mn.mapO (denE C n) es = some fs → (backTo pos (starEach es env)).any (·.1) = false
  | [], _, _ => rfl
  | e :: es, fs, h => by
    unfold Mn.mapO at h
    split at h
    · rename_i f hf
      obtain ⟨gs, hg, _⟩ := Option.map_eq_some_iff.mp h
      rw [noStar hf]
      exact noStars (es := es) hg
    · cases h
theorem noSlice {n : Nat} {e : Expr} {f : E} (h : denE C n e = some f) : PlainIx e := by
  intro o i
  cases e <;> first | rfl | (cases n <;> cases h)
theorem glo (ok : Cok X T W C) {x : Str} (h : C.nm.lookup x = some .globalImplicit) : Gl X x := by
  show X.env.scope.names.lookup x = some .globalImplicit
  rw [ok.nm]
  exact h
theorem isB_ok (ok : Cok X T W C) {x : Str} (h : isB C x = true) : Gl X x ∧ X.mg x = none := by
  unfold isB at h
  rw [Bool.and_eq_true, decide_eq_true_eq] at h
  exact ⟨glo ok h.1, ok.blt x (by simpa using h.2)⟩
theorem kitB_ok : ∀ a ∈ tyNames, ∀ t ∈ tyOk, kitB a t = some (Mn.isT a t) := by decide +kernel
/-- a value's type, as the machine has it -/
theorem ty_of {R : List Addr} {H : Hp} {M : Store} (S : Sim T R H M) {v : Val} {x : V} (r : Rel T R H v x) {a : String} (h : Mn.tyName M v = some a) : TyX T.K H x (.type a) ∧ a ∈ tyNames := by
  cases r with
  | non =>
    cases h
    exact ⟨.base .non, by decide⟩
  | bl b =>
    cases h
    exact ⟨.base (.bl b), by decide⟩
  | int i =>
    cases h
    exact ⟨.base (.int i), by decide⟩
  | str s =>
    cases h
    exact ⟨.base (.str _), by decide⟩
  | tup ht rx =>
    cases h
    refine ⟨?_, by decide⟩
    rcases ht with ht | ⟨o, its, n, e1, e2, _⟩
    · exact .base (.tup ht)
    · exact .kTuple e1 e2
  | exc hm he => cases h
  | @ref n p hn =>
    obtain ⟨c, hc, hp⟩ := S.of hn
    unfold Mn.tyName at h
    simp only [hc] at h
    cases c with
    | lst xs =>
      cases h
      obtain ⟨vs, h1, _⟩ := hp
      exact ⟨.base (.lst h1), by decide⟩
    | ro xs =>
      cases h
      obtain ⟨o, vs, h1, _⟩ := hp
      exact ⟨.base (.frz h1), by decide⟩
    | dic xs =>
      cases h
      obtain ⟨vs, h1, _⟩ := hp
      exact ⟨.base (.dK h1), by decide⟩
    | rod xs =>
      cases h
      obtain ⟨o, vs, h1, _⟩ := hp
      exact ⟨.fDict h1, by decide⟩
    | obj c fs => cases h
/-- a class as the machine has it, and what is one of it -/
structure IsC (K : PySem.W.Frag) (T : Tb) (t : String) (w : V) (u : Value) : Prop where
  cl : ClsV w u
  ty : ∀ a ∈ tyNames, PySem.W.kitOne K (.type a) u = some (Mn.isT a t)
  ex : ∀ c ∈ T.xs, PySem.W.kitOne K (.ref (T.ca c)) u = some (Mn.isX c t)
theorem denTy_ok (ok : Cok X T W C) {c : Expr} {t : String} (h : denTy C c = some t) : ∃ w u, IsC X.K T t w u ∧ PE X c (tC w) := by
  unfold denTy at h
  split at h
  · rename_i x pos
    split at h
    · rename_i hb
      obtain ⟨hg, hm⟩ := isB_ok ok hb
      have e : Str.ofString t = x := by simpa using List.find?_some h
      have ht := List.mem_of_find?_eq_some h
      subst e
      have all : ∀ t ∈ tyOk, bootBuiltins (Str.ofString t) = some (.type t) ∧ (Str.ofString t) ≠ "__name__" ∧ ((Str.ofString t) == ("__debug__" : Str)) = false := by decide +kernel
      obtain ⟨h1, h2, h3⟩ := all t ht
      exact ⟨.ty t, .type t, ⟨.ty t, fun a ha => kit_ty (kitB_ok a ha t ht), fun c hc => ok.ex.kt c hc t ht⟩, pe_bltn hg hm h1 rfl h2 h3⟩
    · split at h
      · rename_i hb
        obtain ⟨b1, b2, b3⟩ := badName_no hb.2
        have e : Str.ofString t = x := by simpa using List.find?_some h
        have ht := List.mem_of_find?_eq_some h
        rw [ok.xs] at ht
        subst e
        exact ⟨.ref (T.ca t), .ref (T.ca t), ⟨.own _, fun a ha => ok.ex.kv a ha t ht, fun c hc => ok.ex.kx c hc t ht⟩, pe_glob (glo ok (of_decide_eq_true hb.1)) (ok.exc t ht) rfl b1⟩
      · cases h
  · cases h
theorem kitAny_all {K : PySem.W.Frag} {t : Value} {g : String → Bool} : ∀ {ts : List String} {us : List Value}, Paired (fun t' u => PySem.W.kitOne K t u = some (g t')) ts us → PySem.W.kitAny K t us = some (ts.any g)
  | _, _, .nil => rfl
  | _, _, .cons (a := a) h r => kitAny_cons h (fun hb => by
      rw [kitAny_all r, List.any_cons, hb, Bool.false_or]) fun hb => by rw [List.any_cons, hb, Bool.true_or]
/-- isinstance, of errors that are held too -/
theorem call_isV (ex : ExF X.K T.ca T.xs) (hK : X.K = T.K) {ts : List String} : CallR X (.builtin "isinstance") (fun xs H Q => ∃ (x c : V) (ws : List V) (us : List Value), xs = [x, c] ∧ Paired ClsV ws us ∧ Paired (fun t u => ∃ w, IsC X.K T t w u) ts us ∧ ((ws = [c]) ∨ ∃ p, c = .ref p ∧ H p = some (.tup ws)) ∧ rdU T (Mn.uIs ts) x H Q) := by
  intro pins s σ H xs us' Q I r ⟨x, c, ws, us, e, pc, pt, hc, R, M, u, S, ra, p⟩
  subst e
  have hany : ∀ {t : Value} {g : String → Bool}, (∀ t' u', (∃ w, IsC X.K T t' w u') → PySem.W.kitOne X.K t u' = some (g t')) → PySem.W.kitAny X.K t us = some (ts.any g) := fun {t g} hg => kitAny_all (L2.Paired.mapP pt fun a b q => hg a b q)
  have hone : ∀ {t : Value} {b : Bool} {u1 : Value}, us = [u1] → PySem.W.kitAny X.K t us = some b → PySem.W.kitOne X.K t u1 = some b := fun {t b u1} e h => by
    subst e
    unfold PySem.W.kitAny at h
    cases q : PySem.W.kitOne X.K t u1 with
    | none =>
      rw [q] at h
      cases h
    | some k =>
      rw [q] at h
      cases k <;> exact h
  unfold Mn.uIs at p
  cases ra with
  | @exc cn a hm he =>
    have p : Post T (fun _ _ _ => False) R H Q (.ok (.bl (ts.any (Mn.isX cn))) M) := p
    have fin : ∀ tk, EP X pins σ Q (.bool (ts.any (Mn.isX cn))) { s with toks := tk } := fun tk => ⟨.bl _, H, I.tok tk, rfl, post_ok S p (.bl _)⟩
    have hk := hany (t := .ref (T.ca cn)) (g := Mn.isX cn) fun t' u' ⟨w, z⟩ => z.ex cn hm
    obtain ⟨ph, _, _⟩ := I.hok a _ he
    obtain ⟨oe, vs, h1, h2, h3, h4⟩ := ph
    have J : PySem.W.InstAt s.heap a oe (T.ca cn) none := by
      obtain ⟨oc, od, oda, osl⟩ := oe
      dsimp only at h2 h3 h4
      subst h2 h3 h4
      exact ⟨h1, rfl, rfl, trivial⟩
    have E := ex.cc cn hm
    obtain ⟨u1, u2, rfl, r1, r2⟩ := vals2 r
    cases (show u1 = Value.ref a from r1)
    have Z := PySem.W.handS_kitx_exc (x := a) (ox := oe) E.hg E.hk E.hs E.hd E.ha E.hn E.ht E.hm
    rcases hc with hc | ⟨pp, rfl, hp⟩
    · subst hc
      cases pc with
      | cons k1 k2 =>
        cases k2
        have e2 := k1.eq r2
        subst e2
        exact PySem.W.kia_one Z I.kIn J (hone rfl hk) (fun z => nomatch z) fin
    · cases (show u2 = Value.ref pp from r2)
      obtain ⟨_, its, rv, o, h1, h2, n, h3⟩ := (show ObjOk X.prog X.w H s.heap pp (.tup ws) from I.hok pp _ hp)
      have e3 := ClsV.all pc rv
      subst e3
      obtain ⟨oc, od, dt, sl⟩ := o
      simp only at h2 h3
      subst h2 h3
      exact PySem.W.kia_tup Z I.kIn J h1 hk (fun z => nomatch z) fin
  | _ =>
    all_goals
      simp only at p
      split at p
      · rename_i a ea
        obtain ⟨ty, ha⟩ := ty_of S (by first | exact .non | exact .bl _ | exact .int _ | exact .str _ | (exact .tup (by assumption) (by assumption)) | exact .ref (by assumption)) ea
        rw [← hK] at ty
        have hk := hany (t := .type a) (g := Mn.isT a) fun t' u' ⟨w, z⟩ => z.ty a ha
        rcases hc with hc | ⟨pp, rfl, hp⟩
        · subst hc
          cases pc with
          | cons k1 k2 =>
            cases k2
            exact call_isi pins s σ H _ us' Q I r ⟨_, c, _, _, _, rfl, k1, ty, hone rfl hk, post_ok S p (.bl _)⟩
        · exact call_isiT pins s σ H _ us' Q I r ⟨_, pp, ws, _, us, _, rfl, hp, pc, ty, hk, post_ok S p (.bl _)⟩
      · exact p.elim
end
end MnS
end
section
set_option Elab.async false
set_option autoImplicit false
set_option linter.all false
set_option maxRecDepth 100000
set_option maxHeartbeats 4000000
namespace MnS
open PySem PySem.Spec PyProof.Rows L2
open Mn (Val Cell Store E Fn Op U Itr Src Tg)
theorem sOf_codes (s : Str) : sOf s.cps.toList = s := by
  show Str.mk s.cps.toList.toArray = s
  rw [Array.toArray_toList]
section
variable {X : Cx} {T : Tb} {W : WX} {C : Dc}
theorem denTys_ok (ok : Cok X T W C) {c : Expr} {ts : List String} (h : denTys C c = some ts) : ∃ (ws : List V) (us : List Value), Paired ClsV ws us ∧ Paired (fun t u => ∃ w, IsC X.K T t w u) ts us ∧
    ((∃ w, ws = [w] ∧ PE X c (tC w)) ∨ (∃ es k p, c = .Tuple es k p) ∧ PE X c (fun _ H Q => ∀ p, H p = none → Q (.ref p) (upd H p (.tup ws)))) ∧ (∀ es env, starEach (c :: es) env = (false, eval c env) :: starEach es env) := by
  unfold denTys at h
  split at h
  · rename_i es k pos
    have go : ∀ (es : List Expr) (ts : List String), Mn.mapO (denTy C) es = some ts → ∃ (ws : List V) (us : List Value), Paired ClsV ws us ∧ Paired (fun t u => ∃ w, IsC X.K T t w u) ts us ∧ PA X es (fun _ H Q => Q ws H) := by
      intro es
      induction es with
      | nil =>
        intro ts h
        cases h
        exact ⟨[], [], .nil, .nil, PA.imp pa_nil fun _ _ _ q => q⟩
      | cons e es ih =>
        intro ts h
        unfold Mn.mapO at h
        split at h
        · rename_i t ht
          obtain ⟨ts', h2, rfl⟩ := Option.map_eq_some_iff.mp h
          obtain ⟨w, u, z, pe⟩ := denTy_ok ok ht
          obtain ⟨ws, us, p1, p2, pa⟩ := ih ts' h2
          refine ⟨w :: ws, u :: us, .cons z.cl p1, .cons ⟨w, z⟩ p2, PA.imp (pa_cons pe pa ?_) fun _ _ _ q => q⟩
          cases e <;> first | rfl | cases ht
        · cases h
    split at h
    · rename_i hz
      obtain ⟨ws, us, p1, p2, pa⟩ := go es ts h
      refine ⟨ws, us, p1, p2, .inr ⟨⟨es, k, pos, rfl⟩, PE.imp (pe_tup pa) fun σ H Q q => ⟨?_, q⟩⟩, fun _ _ => rfl⟩
      have l1 := p1.length
      have l2 := p2.length
      have l3 : ∀ (es : List Expr) (ts : List String), Mn.mapO (denTy C) es = some ts → ts.length = es.length := by
        intro es
        induction es with
        | nil =>
          intro ts h
          cases h
          rfl
        | cons e es ih =>
          intro ts h
          unfold Mn.mapO at h
          split at h
          · obtain ⟨ts', h2, rfl⟩ := Option.map_eq_some_iff.mp h
            rw [List.length_cons, List.length_cons, ih ts' h2]
          · cases h
      have l4 := l3 es ts h
      rw [sizeLine_eq]
      omega
    · cases h
  · obtain ⟨t, ht, rfl⟩ := Option.map_eq_some_iff.mp h
    obtain ⟨w, u, z, pe⟩ := denTy_ok ok ht
    refine ⟨[w], [u], .cons z.cl .nil, .cons ⟨w, z⟩ .nil, .inl ⟨w, rfl, pe⟩, fun es env => ?_⟩
    cases c <;> first | rfl | cases ht
theorem isi_ok (ok : Cok X T W C) {a c : Expr} {p pos : Pos} {fa : E} {ts : List String} (hb : isB C "isinstance" = true) (ha : PE X a (rdE T W fa)) (hs : ∀ es env, starEach (a :: es) env = (false, eval a env) :: starEach es env) (hc : denTys C c = some ts) :
    PE X (.Call (.Name "isinstance" p) [a, c] [] pos) (rdE T W (Mn.eUn (Mn.uIs ts) fa)) := by
  obtain ⟨hg, hm⟩ := isB_ok ok hb
  obtain ⟨ws, us, p1, p2, h3, hs2⟩ := denTys_ok ok hc
  have hv : bootBuiltins ("isinstance" : Str) = some (.builtin "isinstance") := by decide +kernel
  rcases h3 with ⟨w, rfl, pe⟩ | ⟨⟨es, k, pp, rfl⟩, pe⟩
  · refine PE.imp (pe_callB (call_isV ok.ex ok.K (ts := ts)) hg hm hv (pa_cons ha (pa_cons pe pa_nil (hs2 _ _)) (hs _ _)) (by decide +kernel) (by decide +kernel) (hs _ _) (by rw [hs2]; rfl)) fun σ H Q h => ?_
    exact rdE_mono (un_rd σ H Q h) fun x H1 q => ⟨x, w, [w], us, rfl, p1, p2, .inl rfl, q⟩
  · refine PE.imp (pe_callB (call_isV ok.ex ok.K (ts := ts)) hg hm hv (pa_cons ha (pa_cons pe pa_nil (hs2 _ _)) (hs _ _)) (by decide +kernel) (by decide +kernel) (hs _ _) (by rw [hs2]; rfl)) fun σ H Q h => ?_
    refine rdE_mono (un_rd σ H Q h) fun x H1 ⟨R, M, u, S, ra, q⟩ => fun tp hp => ?_
    refine ⟨x, .ref tp, ws, us, rfl, p1, p2, .inr ⟨tp, rfl, upd_same⟩, R, M, u, S.other hp, ra.mono (List.prefix_refl R) (Keep.new hp), ?_⟩
    exact q.imp (List.prefix_refl R) (Keep.new hp) fun _ _ z => z
/-- the arguments of a call -/
theorem args_ok {n : Nat} (ih : ∀ e f, denE C n e = some f → PE X e (rdE T W f)) : ∀ (es : List Expr) (fs : List E), Mn.mapO (denE C n) es = some fs → PA X es (rdA T W fs)
  | [], fs, h => by
    cases h
    exact a_nil
  | e :: es, fs, h => by
    unfold Mn.mapO at h
    split at h
    · rename_i f hf
      obtain ⟨gs, hg, rfl⟩ := Option.map_eq_some_iff.mp h
      exact a_cons (ih e f hf) (args_ok ih es gs hg) (noStar hf es X.env)
    · cases h
/-- a call whose last values are filled up -/
theorem pe_callD {k : Nat} {f : Addr} {fd : FuncData} {ps : List Str} {sp : Sp} {Ee : L2.St → XK} {x : Str} {p pos : Pos} {e : Expr} {es : List Expr} {t : TA} {ds : List Value} {dvs : List V} (F : FnOk X.prog X.w X.K X.mg X.base (L2.CX X.prog X.w) k f fd ps sp) (hr : Room k X.A) (hg : Gl X x) (hm : X.mg x = some (.ref f))
    (hk : PySem.W.keepIn X.K (.ref f) = true) (hb : Binds X.K fd ps ds) (hd : Vals dvs ds) (hx : ∀ σ, PassesAt (L2.CX X.prog X.w) X σ (Ee σ)) (ha : PA X (e :: es) t) (hdb : (x == ("__debug__" : Str)) = false)
    (he : starEach (e :: es) X.env = (false, eval e X.env) :: starEach es X.env) (hpl : (backTo pos (starEach es X.env)).any (·.1) = false) :
    PE X (.Call (.Name x p) (e :: es) [] pos) (fun σ H Q => t σ H fun vs H1 => sp (vs ++ dvs) H1 Q (Ee σ)) := by
  refine ⟨fun pins s σ H Q I h => wpAny_Call_Name_kw (ld_glob I hg hm ?_ hdb)⟩
  refine PySem.W.callWith_K (h₀ := X.base) I.ok.mod.kin hk (thn (ha.run pos pins s σ H _ I h) fun us s1 ⟨vs, H1, I1, r, q⟩ => ⟨I1.kIn, ?_⟩) he hpl
  have r2 := r.append hd
  have hl : (us ++ ds).length = ps.length := r2.length.symm.trans (F.len _ _ _ _ q)
  refine wpAny_call (codeAny_mono (F.run X.A X.stack s1 H1 ⟨us, []⟩ _ _ Q (Ee σ) hr I1.env0 (hb s1 us I1.kIn hl) r2 q) fun r3 s2 hq => ?_)
  cases r3 with
  | error ex => exact hx σ pins H1 s1 ex s2 I1 hq
  | ok fl =>
    cases fl with
    | ret u => exact I1.after hq
    | _ => exact hq.elim
theorem callee_ok (ok : Cok X T W C) {x : Str} {F : Fn} {np : Nat} {p pos : Pos} {a : Expr} {es : List Expr} {fs : List E} (hb : ¬ (badName x = true ∨ C.nm.lookup x ≠ some .globalImplicit)) (hf : C.fn.lookup x = some (F, np)) (ha : PA X (a :: es) (rdA T W fs))
    (h1 : starEach (a :: es) X.env = (false, eval a X.env) :: starEach es X.env) (h2 : (backTo pos (starEach es X.env)).any (·.1) = false) : PE X (.Call (.Name x p) (a :: es) [] pos) (rdE T W (Mn.eCall F fs)) := by
  have hb1 : ¬ badName x = true := fun z => hb (.inl z)
  have hb2 : C.nm.lookup x = some .globalImplicit := Decidable.not_not.mp fun z => hb (.inr z)
  obtain ⟨ar, k, f, fd, ps, hr, hm, hk, hbd, _, ho⟩ := ok.fn x F np hf
  exact PE.imp (pe_callS ho hr (glo ok hb2) hm hk hbd (fun σ => passAt ok.tk σ) ha (badName_no hb1).1 h1 h2) (call_rd ar)
theorem evL_app {ρ : Mn.Env} {M : Store} {v : Val} : ∀ fs : List E, Mn.evL (fs ++ [Mn.eC v]) ρ M = (Mn.evL fs ρ M).bind fun vs M1 => .ok (vs ++ [v]) M1
  | [] => rfl
  | f :: fs => by
    show (f ρ M).bind (fun x M1 => (Mn.evL (fs ++ [Mn.eC v]) ρ M1).bind fun vs M2 => .ok (x :: vs) M2) = ((f ρ M).bind fun x M1 => (Mn.evL fs ρ M1).bind fun vs M2 => .ok (x :: vs) M2).bind _
    cases f ρ M with
    | ok x M1 =>
      simp only [Mn.R.bind_ok]
      rw [evL_app fs]
      cases Mn.evL fs ρ M1 <;> rfl
    | _ => rfl
theorem calleeD_ok (ok : Cok X T W C) {x : Str} {F : Fn} {np : Nat} {p pos : Pos} {a : Expr} {es : List Expr} {fs : List E} (hb : ¬ (badName x = true ∨ C.nm.lookup x ≠ some .globalImplicit)) (hf : C.fn.lookup x = some (F, np)) (hd : C.dn.contains x = true) (ha : PA X (a :: es) (rdA T W fs))
    (h1 : starEach (a :: es) X.env = (false, eval a X.env) :: starEach es X.env) (h2 : (backTo pos (starEach es X.env)).any (·.1) = false) : PE X (.Call (.Name x p) (a :: es) [] pos) (rdE T W (Mn.eCall F (fs ++ [Mn.eC .non]))) := by
  have hb1 : ¬ badName x = true := fun z => hb (.inl z)
  have hb2 : C.nm.lookup x = some .globalImplicit := Decidable.not_not.mp fun z => hb (.inr z)
  obtain ⟨ar, k, f, fd, ps, hr, hm, hk, _, hbd, ho⟩ := ok.fn x F np hf
  refine PE.imp (pe_callD ho hr (glo ok hb2) hm hk (hbd (by simpa using hd)) (show Vals [V.non] [Value.none] from .cons rfl .nil) (fun σ => passAt ok.tk σ) ha (badName_no hb1).1 h1 h2) fun σ H Q ⟨R, ρ, M, e, s, q⟩ => ?_
  unfold Mn.eCall at q
  rw [evL_app] at q
  have q2 : Post T (at_ W σ) R H Q ((Mn.evL fs ρ M).bind fun vs M1 => F (vs ++ [.non]) M1) := by
    cases z : Mn.evL fs ρ M with
    | ok vs M1 =>
      rw [z] at q
      exact q
    | exc c M1 =>
      rw [z] at q
      exact q
    | bad =>
      rw [z] at q
      exact q
  refine rdA_mono (rdA_bind e s q2) fun xs H1 ⟨R1, M1, vs, e1, s1, r1, q3⟩ => ?_
  have r2 : Rels T R1 H1 (vs ++ [.non]) (xs ++ [.non]) := r1.append (.cons .non .nil)
  refine ⟨R1, M1, vs ++ [.non], s1, r2, ?_, q3⟩
  by_cases h : (xs ++ [V.non]).length = np
  · exact h
  · rw [ar _ M1 (by rw [r2.length]; exact h)] at q3
    exact q3.elim
theorem blt1_ok (ok : Cok X T W C) {x : Str} {u : U} {p pos : Pos} {a : Expr} {fa : E} (h : denBlt1 C x = some u) (ha : PE X a (rdE T W fa)) (hs : ∀ es env, starEach (a :: es) env = (false, eval a env) :: starEach es env) :
    PE X (.Call (.Name x p) [a] [] pos) (rdE T W (Mn.eUn u fa)) := by
  unfold denBlt1 at h
  split at h
  case isFalse => cases h
  rename_i hb
  obtain ⟨hg, hm⟩ := isB_ok ok hb
  have pa := pa_cons ha pa_nil (hs [] X.env)
  split at h
  · rename_i e
    subst e
    cases h
    exact PE.imp (pe_callB b_abs hg hm (by decide +kernel) pa (by decide +kernel) (by decide +kernel) (hs [] X.env) rfl) b_rd
  split at h
  · rename_i e
    subst e
    cases h
    exact PE.imp (pe_callB (b_len ok.K) hg hm (by decide +kernel) pa (by decide +kernel) (by decide +kernel) (hs [] X.env) rfl) b_rd
  split at h
  · rename_i e
    subst e
    cases h
    exact PE.imp (pe_callTy (b_list ok.K) hg hm (by decide +kernel) pa (by decide +kernel) (by decide +kernel) (hs [] X.env) rfl) b_rd
  split at h
  · rename_i e
    subst e
    cases h
    exact PE.imp (pe_callTy (b_tup ok.K) hg hm (by decide +kernel) pa (by decide +kernel) (by decide +kernel) (hs [] X.env) rfl) b_rd
  split at h
  · rename_i e
    subst e
    cases h
    exact PE.imp (pe_callTy b_int hg hm (by decide +kernel) pa (by decide +kernel) (by decide +kernel) (hs [] X.env) rfl) b_rd
  split at h
  case isFalse => cases h
  rename_i hc
  split at h
  · rename_i e
    subst e
    cases h
    exact PE.imp (pe_callB (b_allG (cr_all (ok.calm hc)) ok.K) hg hm (by decide +kernel) pa (by decide +kernel) (by decide +kernel) (hs [] X.env) rfl) b_rd
  split at h
  · rename_i e
    subst e
    cases h
    exact PE.imp (pe_callB (b_allG (cr_any (ok.calm hc)) ok.K) hg hm (by decide +kernel) pa (by decide +kernel) (by decide +kernel) (hs [] X.env) rfl) b_rd
  · cases h
theorem blt2_ok (ok : Cok X T W C) {x : Str} {o : Op} {p pos : Pos} {a c : Expr} {fa fc : E} (h : denBlt2 C x = some o) (ha : PE X a (rdE T W fa)) (hc : PE X c (rdE T W fc)) (hs : ∀ es env, starEach (a :: es) env = (false, eval a env) :: starEach es env)
    (hs2 : ∀ es env, starEach (c :: es) env = (false, eval c env) :: starEach es env) : PE X (.Call (.Name x p) [a, c] [] pos) (rdE T W (Mn.eBin o fa fc)) := by
  unfold denBlt2 at h
  split at h
  case isFalse => cases h
  rename_i hb
  obtain ⟨hg, hm⟩ := isB_ok ok hb
  have pa := pa_cons ha (pa_cons hc pa_nil (hs2 [] X.env)) (hs [c] X.env)
  have pl : (backTo pos (starEach [c] X.env)).any (·.1) = false := by
    rw [hs2]
    rfl
  split at h
  · rename_i e
    subst e
    cases h
    exact PE.imp (pe_callB b_dm hg hm (by decide +kernel) pa (by decide +kernel) (by decide +kernel) (hs [c] X.env) pl) b2_rd
  split at h
  case isFalse => cases h
  rename_i hcalm
  split at h
  · rename_i e
    subst e
    cases h
    exact PE.imp (pe_callB (b_max (ok.calm hcalm)) hg hm (by decide +kernel) pa (by decide +kernel) (by decide +kernel) (hs [c] X.env) pl) b2_rd
  split at h
  · rename_i e
    subst e
    cases h
    exact PE.imp (pe_callB (b_min (ok.calm hcalm)) hg hm (by decide +kernel) pa (by decide +kernel) (by decide +kernel) (hs [c] X.env) pl) b2_rd
  · cases h
theorem m0_ok (hK : X.K = T.K) {x : Str} {t : String} {f : U} {ap pos : Pos} {a : Expr} {fa : E} (h : denM0 x = some (t, f)) (ha : PE X a (rdE T W fa)) (hb : attributeBase a x X.env (eval a X.env) = eval a X.env) (hl : (ap.endLine == pos.line) = true) :
    PE X (.Call (.Attribute a x ap) [] [] pos) (rdE T W (Mn.eM0 t f fa)) := by
  unfold denM0 at h
  split at h
  · rename_i e
    subst e
    cases h
    exact s_m0 PySem.F.plainAttrs_list PySem.F.slot_list_clear PySem.F.type_list_clear (.inl rfl) hK m_clr ha hb hl
  split at h
  · rename_i e
    subst e
    cases h
    exact s_m0 PySem.F.plainAttrs_list PySem.F.slot_list_pop PySem.F.type_list_pop (.inl rfl) hK m_pop ha hb hl
  · cases h
theorem m1_ok (hK : X.K = T.K) {x : Str} {t : String} {f : Op} {ap pos : Pos} {a b : Expr} {fa fb : E} (h : denM1 x = some (t, f)) (ha : PE X a (rdE T W fa)) (hb2 : PE X b (rdE T W fb)) (hb : attributeBase a x X.env (eval a X.env) = eval a X.env) (hl : (ap.endLine == pos.line) = true)
    (hs : ∀ es env, starEach (b :: es) env = (false, eval b env) :: starEach es env) : PE X (.Call (.Attribute a x ap) [b] [] pos) (rdE T W (Mn.eM1 t f fa fb)) := by
  unfold denM1 at h
  split at h
  · rename_i e
    subst e
    cases h
    exact s_m1 PySem.F.plainAttrs_list PySem.F.slot_list_append PySem.F.type_list_append (.inl rfl) hK m_app ha hb2 hb hl hs
  split at h
  · rename_i e
    subst e
    cases h
    exact s_m1 PySem.F.plainAttrs_list PySem.F.slot_list_extend PySem.F.type_list_extend (.inl rfl) hK m_ext ha hb2 hb hl hs
  · cases h
theorem m2_ok (hK : X.K = T.K) {x : Str} {t : String} {f : Mn.Tri} {ap pos : Pos} {a b c : Expr} {fa fb fc : E} (h : denM2 x = some (t, f)) (ha : PE X a (rdE T W fa)) (hb2 : PE X b (rdE T W fb)) (hc2 : PE X c (rdE T W fc)) (hb : attributeBase a x X.env (eval a X.env) = eval a X.env) (hl : (ap.endLine == pos.line) = true)
    (hs : ∀ es env, starEach (b :: es) env = (false, eval b env) :: starEach es env) (hs2 : ∀ es env, starEach (c :: es) env = (false, eval c env) :: starEach es env) : PE X (.Call (.Attribute a x ap) [b, c] [] pos) (rdE T W (Mn.eM2 t f fa fb fc)) := by
  unfold denM2 at h
  split at h
  · rename_i e
    subst e
    cases h
    exact s_m2 PySem.F.plainAttrs_list PySem.F.slot_list_insert PySem.F.type_list_insert (.inl rfl) hK m_ins ha hb2 hc2 hb hl hs hs2
  · cases h
theorem locOf_ok (ok : Cok X T W C) {x : Str} {i : Nat} (h : locOf C x = some i) : X.N[i]? = some x ∧ Loc X.env.scope x ∧ (X.fn x = true ∨ X.env.scope.names.lookup x = some .local) := by
  unfold locOf at h
  split at h
  · rename_i hc
    have q := ok.sto x (by simpa using hc)
    rw [ok.N]
    split at h
    · rename_i hk
      exact ⟨slot_get h, .inl (by rw [ok.nm]; exact hk), q⟩
    · rename_i hk
      exact ⟨slot_get h, .inr (by rw [ok.nm]; exact hk), q⟩
    · cases h
  · cases h
theorem denG_ok (ok : Cok X T W C) : ∀ (n : Nat) (e : Expr) (g : Tg) (ts : List Nat), denG C n e = some (g, ts) → PG X e (rdG T ts g) ∧ (∀ es env, (assignEach (e :: es) env) = (false, assign e env) :: assignEach es env)
  | 0, e, g, ts, h => by cases h
  | n + 1, e, g, ts, h => by
    unfold denG at h
    split at h
    · obtain ⟨i, hi, q⟩ := Option.map_eq_some_iff.mp h
      cases q
      obtain ⟨h1, h2, h3⟩ := locOf_ok ok hi
      exact ⟨g_name (pg_name (by rw [ok.N]; exact ok.nd) h1 h2 h3), fun _ _ => rfl⟩
    · rename_i es k p
      split at h
      case isFalse => cases h
      rename_i hcalm
      obtain ⟨l, hl, q⟩ := Option.map_eq_some_iff.mp h
      cases q
      have go : ∀ (es : List Expr) (l : List (Tg × List Nat)), Mn.mapO (denG C n) es = some l → PGs X es (rdGs T (l.flatMap (·.2)) (l.map (·.1))) ∧ es.length = l.length ∧ (assignEach es X.env).length = es.length ∧ (assignEach es X.env).findIdx? (·.1) = none := by
        intro es
        induction es with
        | nil =>
          intro l h
          cases h
          exact ⟨gs_nil, rfl, rfl, rfl⟩
        | cons e es ih =>
          intro l h
          unfold Mn.mapO at h
          split at h
          · rename_i t ht
            obtain ⟨l', h2, rfl⟩ := Option.map_eq_some_iff.mp h
            obtain ⟨g1, s1⟩ := denG_ok ok n e t.1 t.2 ht
            obtain ⟨g2, l2, a2, f2⟩ := ih l' h2
            refine ⟨?_, congrArg Nat.succ l2, ?_, ?_⟩
            · rw [List.flatMap_cons, List.map_cons]
              exact gs_cons g1 g2 (by rw [s1]; rfl)
            · rw [s1, List.length_cons, List.length_cons, a2]
            · rw [s1, List.findIdx?_cons]
              simp only [Bool.false_eq_true, if_false]
              rw [f2] <;> rfl
          · cases h
      obtain ⟨g1, l1, a1, f1⟩ := go es l hl
      exact ⟨g_tup ok.K (ok.calm hcalm) g1 (by rw [List.length_map]; exact l1) a1 f1, fun _ _ => rfl⟩
    · cases h
theorem noSet {n : Nat} {e : Expr} {f : E} (h : denE C n e = some f) (env : PySem.Env) (x : Value) : foldedSetIterable e env x = pure x := by
  cases e <;> first | rfl | (cases n <;> cases h)
theorem isTup_ok {e : Expr} (h : isTup e = true) : ∃ es k p, e = .Tuple es k p := by
  cases e <;> first | exact ⟨_, _, _, rfl⟩ | cases h
theorem denI_ok (ok : Cok X T W C) {n : Nat} (ih : ∀ e f, denE C n e = some f → PE X e (rdE T W f)) {e tg : Expr} {f : Src} (h : denI C (denE C n) tg e = some f) : PI X tg e (rdI T W f) ∧ (∀ x, foldedSetIterable e X.env x = pure x) := by
  have lst : ∀ e, (denE C n e).map Mn.iList = some f → PI X tg e (rdI T W f) ∧ (∀ x, foldedSetIterable e X.env x = pure x) := fun e h => by
    obtain ⟨g, hg, rfl⟩ := Option.map_eq_some_iff.mp h
    exact ⟨i_list ok.K (ih e g hg), noSet hg X.env⟩
  unfold denI at h
  split at h
  · split at h
    · rename_i hx
      obtain ⟨rfl, hb⟩ := hx
      obtain ⟨g, hg, rfl⟩ := Option.map_eq_some_iff.mp h
      obtain ⟨h1, h2⟩ := isB_ok ok hb
      exact ⟨i_range1 (pi_range1 h1 h2 (pa_cons (ih _ g hg) pa_nil (noStar hg _ _)) (by rw [noStar hg] <;> rfl)), fun _ => rfl⟩
    · split at h
      · rename_i hx
        obtain ⟨rfl, hb, htp⟩ := hx
        obtain ⟨es, k, p, rfl⟩ := isTup_ok htp
        obtain ⟨g, hg, rfl⟩ := Option.map_eq_some_iff.mp h
        obtain ⟨h1, h2⟩ := isB_ok ok hb
        exact ⟨i_enum ok.K h1 h2 (ih _ g hg) (noStar hg), fun _ => rfl⟩
      · split at h
        · rename_i hx
          obtain ⟨rfl, hb⟩ := hx
          obtain ⟨g, hg, rfl⟩ := Option.map_eq_some_iff.mp h
          obtain ⟨h1, h2⟩ := isB_ok ok hb
          exact ⟨i_rev ok.K h1 h2 (ih _ g hg) (noStar hg), fun _ => rfl⟩
        · exact lst _ h
  · split at h
    · rename_i hx
      obtain ⟨rfl, hb⟩ := hx
      split at h
      · rename_i ha hc
        cases h
        obtain ⟨h1, h2⟩ := isB_ok ok hb
        exact ⟨i_range2 (pi_range2 h1 h2 (pa_cons (ih _ _ ha) (pa_cons (ih _ _ hc) pa_nil (noStar hc _ _)) (noStar ha _ _)) (by rw [noStar ha, noStar hc] <;> rfl) (by rw [noStar hc] <;> rfl)), fun _ => rfl⟩
      · cases h
    · split at h
      · rename_i hx
        obtain ⟨rfl, hb, htp⟩ := hx
        obtain ⟨es, k, p, rfl⟩ := isTup_ok htp
        split at h
        · rename_i ha hc
          cases h
          obtain ⟨h1, h2⟩ := isB_ok ok hb
          exact ⟨i_zip ok.K h1 h2 (ih _ _ ha) (ih _ _ hc) (noStar ha) (noStar hc), fun _ => rfl⟩
        · cases h
      · exact lst _ h
  · exact lst _ h
/-! ### a comprehension's block -/
theorem blk_names (ok : Cok X T W C) {scope : Scope} : (relS scope X.env.scope).names = relN C.nm scope.names := by
  unfold relS relN
  rw [ok.kind, ok.nm]
  simp only [show ((ScopeKind.function == ScopeKind.function) = true) from rfl, Bool.and_true]
theorem blk_isOk (ok : Cok X T W C) {scope : Scope} (h : blkB C scope = true) : BlkOk X.N X.env.scope scope (ownOf C scope) := by
  have q := blkOk_by h
  rw [ok.N]
  exact ⟨q.kind, q.uniq, q.ix, fun y hy e => by rw [ok.nm]; exact q.free y hy e, q.own⟩
theorem blk_ok (ok : Cok X T W C) {scope : Scope} (h : blkB C scope = true) (s : Shared) (H : Hp) (A : Addr) (cl : List (Str × Addr)) (fp : List Addr) : Cok (X.blk s H scope (compEnvC scope cl A X.env) fp) T W0 (blkDc C scope) := by
  have q := blk_isOk ok h
  refine { K := ok.K, N := ok.N, nd := ok.nd, nm := blk_names ok, kind := q.kind, calm := ok.calm, stm := fun z => absurd z Bool.false_ne_true, tk := takes_none5, po := PassesOwn.never, un := ok.un, fn := ok.fn, con := ok.con, blt := ok.blt, ex := ok.ex, exc := ok.exc, xs := ok.xs, sto := fun x hx => ?_ }
  obtain ⟨⟨y, k⟩, hy, rfl⟩ := List.mem_map.mp hx
  obtain ⟨_, h2⟩ := List.mem_filter.mp hy
  simp only [Bool.and_eq_true, decide_eq_true_eq] at h2
  rcases h2.2 with z | z
  · refine .inr ?_
    show (relS scope X.env.scope).names.lookup y = some .local
    rw [blk_names ok]
    exact z
  · refine .inl ?_
    show (scope.names.lookup y == some NameKind.cell) = true
    rw [z]
    rfl
/-- the test of a comprehension that has none -/
theorem pts_yes {X : Cx} : PTs X [] (rdT T W0 (Mn.eC (.bl true))) := ⟨fun pins s σ H Q I ⟨R, ρ, M, e, S, p⟩ => pts_nil.run pins s σ H Q I (p R H (List.prefix_refl R) (Keep.refl H) S)⟩
/-- as a value and as a test -/
structure Both (X : Cx) (T : Tb) (W : WX) (e : Expr) (f : E) : Prop where
  pe : PE X e (rdE T W f)
  pt : PT X e (rdT T W f)
  pw : ∀ op vs pos, e = .BoolOp op vs pos → PW X e (rdT T W f)
theorem Both.val {e : Expr} {f : E} (h : PE X e (rdE T W f)) (he : ∀ whole, isTrue e X.env whole = (do let v ← whole; standAt e.pos; holding [v] (truthy v))) (hn : ∀ op vs pos, e ≠ .BoolOp op vs pos := by intro _ _ _ z; cases z) : Both X T W e f :=
  ⟨h, t_val h he, fun op vs pos z => absurd z (hn op vs pos)⟩
theorem denE_ok : ∀ (n : Nat) (X : Cx) (W : WX) (C : Dc), Cok X T W C → ∀ e f, denE C n e = some f → Both X T W e f
  | 0, _, _, _, _, e, f, h => by cases h
  | n + 1, X, W, C, ok, e, f, h => by
    have ih : ∀ e f, denE C n e = some f → Both X T W e f := denE_ok n X W C ok
    unfold denE at h
    split at h
    · cases h
      exact .val (s_con pe_int fun _ _ => .int _) fun _ => rfl
    · cases h
      exact .val (s_con pe_bl fun _ _ => .bl _) fun _ => rfl
    · rename_i s k p
      cases h
      refine .val (s_con pe_str fun R H => ?_) fun _ => rfl
      have q := Rel.str (T := T) (R := R) (H := H) s.cps.toList
      rw [sOf_codes] at q
      exact q
    · cases h
      exact .val (s_con pe_non fun _ _ => .non) fun _ => rfl
    · exact .val (name_ok ok h) fun _ => rfl
    · split at h
      · rename_i h1 h2 h3
        cases h
        exact .val (s_bin (opB_ok ok h1) (ih _ _ h2).pe (ih _ _ h3).pe) fun _ => rfl
      · cases h
    · obtain ⟨fa, ha, rfl⟩ := Option.map_eq_some_iff.mp h
      exact .val (s_un o_neg (ih _ _ ha).pe) fun _ => rfl
    · obtain ⟨fa, ha, rfl⟩ := Option.map_eq_some_iff.mp h
      exact ⟨s_not (ih _ _ ha).pe, t_not (ih _ _ ha).pt, fun _ _ _ z => by cases z⟩
    · exact ⟨pe_one (ih _ _ h).pe, (pw_and1 (ih _ _ h).pt).pt, fun _ _ _ _ => pw_and1 (ih _ _ h).pt⟩
    · split at h
      · rename_i h1 h2
        cases h
        have w := w_and (ih _ _ h1).pt ((ih _ _ h2).pw _ _ _ rfl)
        exact ⟨s_and (ih _ _ h1).pe (ih _ _ h2).pe, w.pt, fun _ _ _ _ => w⟩
      · cases h
    · exact ⟨pe_one (ih _ _ h).pe, (pw_or1 (ih _ _ h).pt).pt, fun _ _ _ _ => pw_or1 (ih _ _ h).pt⟩
    · split at h
      · rename_i h1 h2
        cases h
        have w := w_or (ih _ _ h1).pt ((ih _ _ h2).pw _ _ _ rfl)
        exact ⟨s_or (ih _ _ h1).pe (ih _ _ h2).pe, w.pt, fun _ _ _ _ => w⟩
      · cases h
    · split at h
      · rename_i h1 h2 h3
        cases h
        have o1 := opC_ok ok h1
        exact ⟨s_cmp o1 (ih _ _ h2).pe (ih _ _ h3).pe (noMark h3 _), t_cmp o1 (ih _ _ h2).pe (ih _ _ h3).pe (noMark h3 _), fun _ _ _ z => by cases z⟩
      · cases h
    · split at h
      · rename_i h1 h2 h3 h4 h5
        cases h
        have o1 := opC_ok ok h1
        have o4 := opC_ok ok h2
        exact ⟨PE.imp (pe_chain o1 o4 (ih _ _ h3).pe (ih _ _ h4).pe (ih _ _ h5).pe (noMarks h5 _ _ _)) chain_rd,
          PT.imp (pt_chain o1 o4 (ih _ _ h3).pe (ih _ _ h4).pe (ih _ _ h5).pe (noMarks h5 _ _ _)) fun σ H Q h => chain_rd σ H _ (test_rd σ H Q h), fun _ _ _ z => by cases z⟩
      · cases h
    · obtain ⟨fs, hs, rfl⟩ := Option.map_eq_some_iff.mp h
      exact .val (s_tup (args_ok (fun e f h => (ih e f h).pe) _ _ hs)) fun _ => rfl
    · obtain ⟨fs, hs, rfl⟩ := Option.map_eq_some_iff.mp h
      exact .val (s_lst (args_ok (fun e f h => (ih e f h).pe) _ _ hs)) fun _ => rfl
    · obtain ⟨fa, ha, rfl⟩ := Option.map_eq_some_iff.mp h
      exact .val (s_sl ok.K (ih _ _ ha).pe p_none p_none) fun _ => rfl
    · split at h
      · rename_i h1 h2
        cases h
        exact .val (s_sl ok.K (ih _ _ h1).pe (p_some (ih _ _ h2).pe) p_none) fun _ => rfl
      · cases h
    · split at h
      · rename_i h1 h2
        cases h
        exact .val (s_sl ok.K (ih _ _ h1).pe p_none (p_some (ih _ _ h2).pe)) fun _ => rfl
      · cases h
    · split at h
      · rename_i h1 h2 h3
        cases h
        exact .val (s_sl ok.K (ih _ _ h1).pe (p_some (ih _ _ h2).pe) (p_some (ih _ _ h3).pe)) fun _ => rfl
      · cases h
    · split at h
      · rename_i h1 h2
        cases h
        exact .val (s_ix ok.K (ih _ _ h1).pe (ih _ _ h2).pe (noSlice h2)) fun _ => rfl
      · cases h
    · split at h
      · rename_i hx
        split at h
        · rename_i h1 h2
          cases h
          obtain ⟨rfl, hb⟩ := hx
          exact .val (isi_ok ok hb (ih _ _ h1).pe (noStar h1) h2) fun _ => rfl
        · cases h
      · split at h
        · cases h
        · rename_i hb
          split at h
          · rename_i h1 h2 h3
            split at h
            · rename_i hd
              cases h
              exact .val (calleeD_ok (fs := [_, _]) ok hb h1 hd.2 (args_ok (fun e f h => (ih e f h).pe) _ _ (by simp only [Mn.mapO, h2, h3]; rfl)) (noStar h2 _ _) (noStars (fs := [_]) (n := n) (C := C) (by simp only [Mn.mapO, h3]; rfl))) fun _ => rfl
            · cases h
              exact .val (callee_ok ok hb h1 (args_ok (fun e f h => (ih e f h).pe) _ _ (by simp only [Mn.mapO, h2, h3]; rfl)) (noStar h2 _ _) (noStars (fs := [_]) (n := n) (C := C) (by simp only [Mn.mapO, h3]; rfl))) fun _ => rfl
          · rename_i h1 h2 h3
            obtain ⟨o, ho, rfl⟩ := Option.map_eq_some_iff.mp h
            exact .val (blt2_ok ok ho (ih _ _ h2).pe (ih _ _ h3).pe (noStar h2) (noStar h3)) fun _ => rfl
          · cases h
    · split at h
      · cases h
      · rename_i hb
        split at h
        · rename_i h1
          obtain ⟨fs, hs, rfl⟩ := Option.map_eq_some_iff.mp h
          have hs' := hs
          unfold Mn.mapO at hs
          split at hs
          · rename_i f1 hf1
            obtain ⟨gs, hg, _⟩ := Option.map_eq_some_iff.mp hs
            exact .val (callee_ok ok hb h1 (args_ok (fun e f h => (ih e f h).pe) _ _ hs') (noStar hf1 _ _) (noStars hg)) fun _ => rfl
          · cases hs
        · split at h
          · rename_i h1 h2 h3 h4
            cases h
            first
              | exact .val (blt1_ok ok h1 (ih _ _ h2).pe (noStar h2)) fun _ => rfl
              | exact .val (blt1_ok ok h2 (ih _ _ h3).pe (noStar h3)) fun _ => rfl
              | exact .val (blt1_ok ok h3 (ih _ _ h4).pe (noStar h4)) fun _ => rfl
          · cases h
    · split at h
      · rename_i hl hm ho
        cases h
        exact .val (m0_ok ok.K hm (ih _ _ ho).pe (noAttr ho _ _ _) hl) fun _ => rfl
      · cases h
    · split at h
      · rename_i hl hm ho ha
        cases h
        exact .val (m1_ok ok.K hm (ih _ _ ho).pe (ih _ _ ha).pe (noAttr ho _ _ _) hl (noStar ha)) fun _ => rfl
      · cases h
    · split at h
      · rename_i hl hm ho ha hb
        cases h
        exact .val (m2_ok ok.K hm (ih _ _ ho).pe (ih _ _ ha).pe (ih _ _ hb).pe (noAttr ho _ _ _) hl (noStar ha) (noStar hb)) fun _ => rfl
      · cases h
    · split at h
      · rename_i hc
        split at h
        · rename_i hi hg he
          split at h
          · rename_i hts
            cases h
            obtain ⟨i1, i2⟩ := denI_ok ok (fun e f h => (ih e f h).pe) hi
            refine .val (PE.imp (pe_lc (ok.calm hc.1) (by rw [ok.N]; exact ok.nd) i1 (blk_isOk ok hc.2) (fun s H A cl fp => (denG_ok (blk_ok ok hc.2 s H A cl fp) 20 _ _ _ hg).1) (fun _ _ _ _ _ => pts_yes (T := T)) (fun s H A cl fp => (denE_ok n _ _ _ (blk_ok ok hc.2 s H A cl fp) _ _ he).pe) i2) fun σ H Q q => ?_) fun _ => rfl
            exact lc_rd (fun j hj => by have := List.all_eq_true.mp hts j hj; simpa using this) σ H Q q
          · cases h
        · cases h
      · cases h
    · split at h
      · rename_i hc
        split at h
        · rename_i hi hg hcc he
          split at h
          · rename_i hts
            cases h
            obtain ⟨i1, i2⟩ := denI_ok ok (fun e f h => (ih e f h).pe) hi
            refine .val (PE.imp (pe_lc (ok.calm hc.1) (by rw [ok.N]; exact ok.nd) i1 (blk_isOk ok hc.2) (fun s H A cl fp => (denG_ok (blk_ok ok hc.2 s H A cl fp) 20 _ _ _ hg).1) (fun s H A cl fp => pts_one (denE_ok n _ _ _ (blk_ok ok hc.2 s H A cl fp) _ _ hcc).pt) (fun s H A cl fp => (denE_ok n _ _ _ (blk_ok ok hc.2 s H A cl fp) _ _ he).pe) i2) fun σ H Q q => ?_) fun _ => rfl
            exact lc_rd (fun j hj => by have := List.all_eq_true.mp hts j hj; simpa using this) σ H Q q
          · cases h
        · cases h
      · cases h
    · cases h
end
end MnS
end
section
set_option Elab.async false
set_option autoImplicit false
set_option linter.all false
set_option maxRecDepth 100000
set_option maxHeartbeats 4000000
namespace MnS
open PySem PySem.Spec PyProof.Rows L2
open Mn (Val Cell Store E Fn Op U Itr Src Tg)
section
variable (C : Dc)
/-- x, y = a, b that the compiler stores straight -/
def parOf (x : Str) (px : Pos) (y : Str) (py : Pos) (a b : Expr) : Option (Nat × Nat) := if x ≠ y ∧ C.nm.lookup x = some .local ∧ C.nm.lookup y = some .local ∧ px.line = py.line ∧ [a, b].all (foldedForSure 8) = false ∧ [a, b].all (constantsAlone 8) = false then
      (match slotOf C x, slotOf C y with
        | some i, some j => if i = j then none else some (i, j)
        | _, _ => none) else none
def isComp : Expr → Bool
  | .ListComp .. => true
  | .SetComp .. => true
  | .DictComp .. => true
  | _ => false
def isSl : Expr → Bool
  | .Slice .. => true
  | _ => false
/-- the class of an error -/
def denX (e : Expr) : Option String := match e with
  | .Name x _ => if badName x = true ∨ C.nm.lookup x ≠ some .globalImplicit then none else C.exc.find? fun t => decide (Str.ofString t = x)
  | _ => none
def denXs (e : Expr) : Option (Bool × List String) := match e with
  | .Tuple es _ _ => if es.length ≤ 20 then (Mn.mapO (denX C) es).map fun l => (true, l) else none
  | e => (denX C e).map fun t => (false, [t])
def denHn (n : Option Str) : Option (Option Nat) := match n with
  | none => some none
  | some x => if C.nm.lookup x = some .local then (slotOf C x).map some else none
/-- an except suite's context: not calm, no defs -/
def sufDc : Dc := { C with calm := false, stm := false, fn := [], dn := [] }
def tryDc : Dc := C
end
def denHs (den : List Stmt → Option Mn.St) (C : Dc) : List ExceptHandler → Option (List Mn.Hd)
  | [] => some []
  | .ExceptHandler (some t) n (b :: bs) _ :: r => match denXs C t, denHn C n, den (b :: bs), denHs den C r with
    | some (tp, cs), some o, some st, some l => some (⟨tp, cs, o, st⟩ :: l)
    | _, _, _, _ => none
  | _ => none
mutual
def denS : Dc → Nat → Stmt → Option Mn.St
  | _, 0, _ => none
  | C, n + 1, st => match st with
    | .Pass _ => some Mn.sPass
    | .Continue _ => some Mn.sCt
    | .Break _ => some Mn.sBk
    | .Expr e _ => if isComp e = true then none else (denE C n e).map Mn.sDrop
    | .Return (some e) _ => (denE C n e).map Mn.sRet
    | .If c a b _ => match denE C n c, denSs C n a, denSs C n b with
      | some fc, some fa, some fb => some (Mn.sIf fc fa fb)
      | _, _, _ => none
    | .While c b [] _ => match denE C n c, denSs C n b with
      | some fc, some fb => some (Mn.sWhile fc fb)
      | _, _ => none
    | .For t i b [] _ => match C.calm, denG C n t, denI C (denE C n) t i, denSs C n b with
      | true, some (g, _), some fi, some fb => some (Mn.sFor fi g fb)
      | _, _, _, _ => none
    | .Assign [.Tuple [.Name x px, .Name y py] k p] (.Tuple [a, b] k2 p2) _ => match C.calm, parOf C x px y py a b, denE C n a, denE C n b with
      | true, some (i, j), some fa, some fb => some (Mn.sPar i j fa fb)
      | _, _, _, _ => none
    | .Assign [.Tuple ts k p] e _ => match isTup e, denG C n (.Tuple ts k p), denE C n e with
      | false, some (g, _), some f => some (Mn.sAsg g f)
      | _, _, _ => none
    | .Assign [.Subscript o i p] e _ => match isSl i, denE C n o, denE C n i, denE C n e with
      | false, some fo, some fi, some f => some (Mn.sAsg (Mn.tSub fo fi) f)
      | _, _, _, _ => none
    | .Raise (some (.Call (.Name x _) [.Constant (.str _) _ _] [] _)) none _ => if C.calm = false ∨ badName x = true ∨ C.nm.lookup x ≠ some .globalImplicit then none else (C.exc.find? fun t => decide (Str.ofString t = x)).map Mn.sRaise
    | .Assign [.Name x p] e _ => match locOf C x, denE C n e with
      | some i, some f => some (Mn.sAsg (Mn.tName i) f)
      | _, _ => none
    | .Try b (h :: hs) els [] _ => match C.stm, denSs (tryDc C) n b, denHs (denSs (sufDc C) n) C (h :: hs), denSs C n els with
      | true, some fb, some l, some fe => some (Mn.sTry fb l fe)
      | _, _, _, _ => none
    | _ => none
def denSs : Dc → Nat → List Stmt → Option Mn.St
  | _, 0, _ => none
  | C, n + 1, l => match l with
    | [] => some Mn.sPass
    | [s] => denS C n s
    | s :: r => match denS C n s, denSs C n r with
      | some a, some b => some (Mn.sSeq a b)
      | _, _ => none
end
section
variable {X : Cx} {T : Tb} {W : WX} {C : Dc}
theorem swaps_no {e : Expr} (h : ¬ isComp e = true) (t : Option Expr) (l : Nat) (env : PySem.Env) : swapsWith e t l env = pure false := by
  cases e <;> first | rfl | (exact absurd rfl h)
def isStar : Expr → Bool
  | .Starred .. => true
  | _ => false
theorem par_ok (ok : Cok X T W C) (hcalm : C.calm = true) {x y : Str} {px py : Pos} {a b : Expr} {i j : Nat} {k k2 : Nat} {p p2 pos : Pos} {fa fb : E} (h : parOf C x px y py a b = some (i, j)) (ha : PA X [a, b] (rdA T W [fa, fb]))
    (na : isStar a = false) (nb : isStar b = false) :
    PS X (.Assign [.Tuple [.Name x px, .Name y py] k p] (.Tuple [a, b] k2 p2) pos) (rdS T W (Mn.sPar i j fa fb)) := by
  unfold parOf at h
  split at h
  · rename_i hc
    obtain ⟨hxy, hx, hy, hl, hf, hk⟩ := hc
    split at h
    · rename_i i' j' hi hj
      split at h
      · cases h
      · rename_i hij
        cases h
        have kx : X.env.kindOf x = some .local := by
          show X.env.scope.names.lookup x = _
          rw [ok.nm]
          exact hx
        have ky : X.env.kindOf y = some .local := by
          show X.env.scope.names.lookup y = _
          rw [ok.nm]
          exact hy
        refine s_par (ps_par (ok.calm hcalm) (by rw [ok.N]; exact ok.nd) (by rw [ok.N]; exact slot_get hi) (by rw [ok.N]; exact slot_get hj) hij kx ky ha ?_ rfl)
        have hb : X.env.blockKind = .function := by
          unfold Env.blockKind
          rw [ok.kind]
          rfl
        have yx : (y == x) = false := beq_eq_false_iff_ne.mpr (Ne.symm hxy)
        have ed : [x, y].eraseDups = [x, y] := by
          simp [List.eraseDups, List.eraseDupsBy, List.eraseDupsBy.loop, yx]
        have ha2 : ([a, b].any fun | .Starred .. => true | _ => false) = false := by
          have e1 : ∀ e : Expr, isStar e = false → (match e with | .Starred .. => true | _ => false) = false := fun e h => by
            cases e <;> first | rfl | cases h
          simp only [List.any_cons, List.any_nil, Bool.or_false]
          exact Bool.or_eq_false_iff.mpr ⟨e1 a na, e1 b nb⟩
        have fm : ([Expr.Name x px, Expr.Name y py].filterMap fun
            | .Name id pos => if X.env.kindOf id == some .local && pos.line == px.line then some id else none
            | _ => none) = [x, y] := by
          simp [List.filterMap, kx, ky, hl]
        show (if ((!(true || false)) || (2 != 2) || X.env.blockKind != .function) = true then _ else _) = _
        rw [hb, if_neg (by decide)]
        show (if ([a, b].any fun | .Starred .. => true | _ => false) = true then _ else _) = _
        rw [ha2, if_neg Bool.false_ne_true]
        show (if ((([Expr.Name x px, Expr.Name y py].filterMap fun
            | .Name id pos => if X.env.kindOf id == some .local && pos.line == px.line then some id else none
            | _ => none).length != 2) || (([Expr.Name x px, Expr.Name y py].filterMap fun
            | .Name id pos => if X.env.kindOf id == some .local && pos.line == px.line then some id else none
            | _ => none).eraseDups.length != ([Expr.Name x px, Expr.Name y py].filterMap fun
            | .Name id pos => if X.env.kindOf id == some .local && pos.line == px.line then some id else none
            | _ => none).length)) = true then _ else _) = _
        rw [fm, ed, if_neg (by simp)]
        show (if ([a, b].all (foldedForSure 8)) = true then _ else _) = _
        rw [hf, if_neg Bool.false_ne_true]
        show (if ([a, b].all (constantsAlone 8)) = true then _ else _) = _
        rw [hk, if_neg Bool.false_ne_true]
        exact congrArg (fun l => (pure (some l) : Sem (Option (List Str)))) fm
    · cases h
  · cases h
theorem isStar_no {n : Nat} {e : Expr} {f : E} (h : denE C n e = some f) : isStar e = false := by
  cases e <;> first | rfl | (cases n <;> cases h)
theorem swapped_no {ts : List Expr} {e : Expr} (h : isTup e = false) {k : Nat} {p : Pos} (env : PySem.Env) : swappedStores [.Tuple ts k p] e env = pure none := by
  cases e <;> first | rfl | cases h
/-! ### except -/
theorem denX_ok (ok : Cok X T W C) {e : Expr} {t : String} (h : denX C e = some t) : t ∈ T.xs ∧ (∀ es env, starEach (e :: es) env = (false, eval e env) :: starEach es env) ∧
    ∀ {a : Addr} {oe : Obj} {pn : List (Addr × Obj)} {σ : L2.St} {H : Hp} {s : Shared} {Q : Value → Shared → Prop} {E : Value → Shared → Prop}, L2.Inv (X.suite a ((a, oe) :: pn)) [] σ H s → Q (.ref (T.ca t)) s → wpAny (model X.prog X.w) (X.A.mark (some (.ref a))) (eval e X.env) Q E s := by
  unfold denX at h
  split at h
  · rename_i x p
    split at h
    · cases h
    · rename_i hb
      have hb1 := badName_no fun z => hb (.inl z)
      have hb2 := Decidable.not_not.mp fun z => hb (.inr z)
      have e : Str.ofString t = x := by simpa using List.find?_some h
      have hm := List.mem_of_find?_eq_some h
      rw [ok.xs] at hm
      subst e
      exact ⟨hm, fun _ _ => rfl, fun {a oe pn σ H s Q E} I q => ld_glob (X := X.suite a ((a, oe) :: pn)) I (glo ok hb2) (ok.exc t hm) q hb1.1⟩
  · cases h
theorem items_ok (ok : Cok X T W C) {a : Addr} {oe : Obj} {pn : List (Addr × Obj)} {σ : L2.St} {H : Hp} {s : Shared} {E : Value → Shared → Prop} {pos : Pos} (I : L2.Inv (X.suite a ((a, oe) :: pn)) [] σ H s) : ∀ (es : List Expr) (ts : List String), Mn.mapO (denX C) es = some ts → ts.length = es.length ∧ (∀ t ∈ ts, t ∈ T.xs) ∧
    ∀ {Q : List Value → Shared → Prop}, Q (ts.map fun t => .ref (T.ca t)) s → wpAny (model X.prog X.w) (X.A.mark (some (.ref a))) (spliced (backTo pos (starEach es X.env))) Q E s
  | [], ts, h => by
    cases h
    exact ⟨rfl, fun _ z => (by cases z), fun {Q} q => wpAny_items_nil q⟩
  | e :: es, ts, h => by
    unfold Mn.mapO at h
    split at h
    · rename_i t ht
      obtain ⟨ts', h2, rfl⟩ := Option.map_eq_some_iff.mp h
      obtain ⟨m1, s1, ev⟩ := denX_ok ok ht
      obtain ⟨l2, m2, ev2⟩ := items_ok ok I es ts' h2
      refine ⟨congrArg Nat.succ l2, fun u hu => ?_, fun {Q} q => ?_⟩
      · rcases List.mem_cons.mp hu with z | z
        · rw [z]
          exact m1
        · exact m2 u z
      · exact wpAny_items_cons (ev I (ev2 q)) (s1 _ _)
    · cases h
theorem denXs_ok (ok : Cok X T W C) {e : Expr} {tp : Bool} {cs : List String} (h : denXs C e = some (tp, cs)) : CTest X T e cs tp := by
  unfold denXs at h
  split at h
  · rename_i es k p
    split at h
    · rename_i hz
      obtain ⟨l, hl, e⟩ := Option.map_eq_some_iff.mp h
      cases e
      intro a c oe pn σ H s I hc LT hb Q E E2 q
      obtain ⟨l1, m1, ev⟩ := items_ok ok (pos := p) (E := E) I es cs hl
      have hb := hb rfl
      rw [hb] at q
      refine wpAny_Tuple (ev ⟨?_, ?_⟩)
      · rw [List.length_map, l1, sizeLine_eq]
        omega
      · have kp : ∀ b o, s.heap.get? b = some o → (s.heap.push { cls := .type "tuple", data := .seq (cs.map fun t => Value.ref (T.ca t)).toArray }).get? b = some o := fun b o z => Heap.get?_push_of_some _ z
        refine (exm_none (K := X.K) (cs := cs.map fun t => .ref (T.ca t)) (I.kIn.keeps kp) (LT.keeps kp) (Heap.get?_push_size s.heap rfl) fun v hv => ?_).here (q _ kp)
        obtain ⟨t, ht, rfl⟩ := List.mem_map.mp hv
        rw [ok.ex.ke c hc t (m1 t ht)]
        have z := List.any_eq_false.mp hb t ht
        simpa using z
    · cases h
  · obtain ⟨t, ht, e⟩ := Option.map_eq_some_iff.mp h
    cases e
    obtain ⟨m1, _, ev⟩ := denX_ok ok ht
    intro a c oe pn σ H s I hc LT _ Q E E2 q
    refine ev I ((PySem.W.exm_one (M := model X.prog X.w) (K := X.K) I.kIn LT (ok.ex.ke c hc t m1)).here ?_)
    have z := q s.heap fun _ _ z => z
    rw [List.any_cons, List.any_nil, Bool.or_false] at z
    exact z
theorem suf_ok (ok : Cok X T W C) (a : Addr) (pn : List (Addr × Obj)) : Cok (X.suite a pn) T W0 (sufDc C) :=
  { K := ok.K, N := ok.N, nd := ok.nd, nm := ok.nm, kind := ok.kind, calm := fun z => absurd z Bool.false_ne_true, stm := fun z => absurd z Bool.false_ne_true, tk := takes_none5, po := PassesOwn.never, un := ok.un, fn := fun _ _ _ z => (by cases z), con := ok.con, blt := ok.blt, ex := ok.ex, exc := ok.exc, xs := ok.xs, sto := ok.sto }
theorem try_ok (ok : Cok X T W C) {W' : WX} {pn : List (Addr × Obj)} {xe : Value → Shared → Prop} (tk : Takes (X.tr pn xe) W') (po : PassesOwn (model X.prog X.w) X.A X.env xe) : Cok (X.tr pn xe) T W' C :=
  { K := ok.K, N := ok.N, nd := ok.nd, nm := ok.nm, kind := ok.kind, calm := ok.calm, stm := ok.stm, tk := tk, po := po, un := ok.un, fn := ok.fn, con := ok.con, blt := ok.blt, ex := ok.ex, exc := ok.exc, xs := ok.xs, sto := ok.sto }
theorem hds_ok (ok : Cok X T W C) {den : List Stmt → Option Mn.St} (hd : ∀ (a : Addr) (pn : List (Addr × Obj)) b st, den b = some st → PSs (X.suite a pn) b (rdS T W0 st)) : ∀ (hs : List ExceptHandler) (l : List Mn.Hd), denHs den C hs = some l → HdsT X T hs l
  | [], l, h => by
    unfold denHs at h
    cases h
    exact .nil
  | hh :: r, l, h => by
    unfold denHs at h
    split at h
    · rename_i e
      cases e
    · rename_i t n b bs pos r' e
      cases e
      split at h
      · rename_i h1 h2 h3 h4
        cases h
        refine .cons (denXs_ok ok h1) ?_ (fun a pn => hd a pn _ _ h3) (hds_ok ok hd r _ h4)
        unfold denHn at h2
        split at h2
        · cases h2
          exact .inl ⟨rfl, rfl⟩
        · split at h2
          · rename_i x hk
            obtain ⟨i, hi, e⟩ := Option.map_eq_some_iff.mp h2
            cases e
            exact .inr ⟨_, i, rfl, rfl, by rw [ok.N]; exact slot_get hi, by show X.env.scope.names.lookup _ = _; rw [ok.nm]; exact hk⟩
          · cases h2
      · cases h
    · cases h
/-! ### a comprehension that is stored -/
theorem set_lc (ok : Cok X T W C) {n i : Nat} {y : Str} {py pos spos : Pos} {elt : Expr} {gs : List Comprehension} {scope : Scope} {f : E} (h : denE C n (.ListComp elt gs scope pos) = some f) (hi : X.N[i]? = some y) (hy : X.env.scope.names.lookup y = some .local)
    (hsw : swapsWith (.ListComp elt gs scope pos) (some (.Name y py)) spos.line X.env = pure true) : PS X (.Assign [.Name y py] (.ListComp elt gs scope pos) spos) (rdS T W (Mn.sAsg (Mn.tName i) f)) := by
  have fin : ∀ {t : TE}, PS X (.Assign [.Name y py] (.ListComp elt gs scope pos) spos) (tAsg t (gName i)) → (∀ σ H Q, rdE T W f σ H Q → t σ H Q) → PS X (.Assign [.Name y py] (.ListComp elt gs scope pos) spos) (rdS T W (Mn.sAsg (Mn.tName i) f)) := fun {t} hp hr => PS.imp hp fun σ H D ⟨R, ρ, M, e, s, p⟩ => by
    refine hr σ H _ (rdE_mono (st_rd e s p) fun x H1 ⟨R1, M1, v, e1, s1, r1, q⟩ => ?_)
    exact q R1 H1 _ (List.prefix_refl R1) (Keep.refl H1) s1 (e1.set r1 _)
  cases n with
  | zero => cases h
  | succ n =>
    have nd : X.N.Nodup := by rw [ok.N]; exact ok.nd
    unfold denE at h
    split at h <;> first | (rename_i z; cases z; done) | skip
    · rename_i z
      cases z
      split at h
      · rename_i hc
        split at h
        · rename_i hi2 hg he
          split at h
          · rename_i hts
            cases h
            obtain ⟨i1, i2⟩ := denI_ok ok (fun e f h => (denE_ok n X W C ok e f h).pe) hi2
            exact fin (ps_setLc (ok.calm hc.1) nd hi hy hsw i1 (blk_isOk ok hc.2) (fun s H A cl fp => (denG_ok (blk_ok ok hc.2 s H A cl fp) 20 _ _ _ hg).1) (fun _ _ _ _ _ => pts_yes (T := T)) (fun s H A cl fp => (denE_ok n _ _ _ (blk_ok ok hc.2 s H A cl fp) _ _ he).pe) i2)
              (lc_rd (fun j hj => by have := List.all_eq_true.mp hts j hj; simpa using this))
          · cases h
        · cases h
      · cases h
    · rename_i z
      cases z
      split at h
      · rename_i hc
        split at h
        · rename_i hi2 hg hcc he
          split at h
          · rename_i hts
            cases h
            obtain ⟨i1, i2⟩ := denI_ok ok (fun e f h => (denE_ok n X W C ok e f h).pe) hi2
            exact fin (ps_setLc (ok.calm hc.1) nd hi hy hsw i1 (blk_isOk ok hc.2) (fun s H A cl fp => (denG_ok (blk_ok ok hc.2 s H A cl fp) 20 _ _ _ hg).1) (fun s H A cl fp => pts_one (denE_ok n _ _ _ (blk_ok ok hc.2 s H A cl fp) _ _ hcc).pt) (fun s H A cl fp => (denE_ok n _ _ _ (blk_ok ok hc.2 s H A cl fp) _ _ he).pe) i2)
              (lc_rd (fun j hj => by have := List.all_eq_true.mp hts j hj; simpa using this))
          · cases h
        · cases h
      · cases h
    · cases h
/-- whether the compiler stores it within the comprehension's frame -/
theorem swaps_name {n : Nat} {e : Expr} {f : E} (h : denE C n e = some f) (y : Str) (py : Pos) (l : Nat) (env : PySem.Env) : swapsWith e (some (.Name y py)) l env = pure false ∨ (swapsWith e (some (.Name y py)) l env = pure true ∧ env.kindOf y = some .local ∧ ∃ elt gs scope pos, e = .ListComp elt gs scope pos) := by
  cases e with
  | ListComp elt gs scope pos =>
    have key : ∀ b : Bool, (env.blockKind == .function && env.kindOf y == some .local && py.line == (Expr.ListComp elt gs scope pos).pos.line && !(scope.names.any fun (n, k) => n == y && (k == .local || k == .cell))) = b → swapsWith (.ListComp elt gs scope pos) (some (.Name y py)) l env = pure b := fun b hb => by
      rw [← hb]
      rfl
    cases q : (env.blockKind == .function && env.kindOf y == some .local && py.line == (Expr.ListComp elt gs scope pos).pos.line && !(scope.names.any fun (n, k) => n == y && (k == .local || k == .cell))) with
    | false => exact .inl (key _ q)
    | true =>
      simp only [Bool.and_eq_true] at q
      exact .inr ⟨key _ (by simp only [Bool.and_eq_true]; exact q), by simpa using q.1.1.2, _, _, _, _, rfl⟩
  | SetComp => cases n <;> cases h
  | DictComp => cases n <;> cases h
  | _ => exact .inl rfl
theorem swaps_tg {e t : Expr} (h : ∀ x p, t ≠ .Name x p) (l : Nat) (env : PySem.Env) : swapsWithSole [t] e l env = pure false := by
  unfold swapsWithSole
  cases e <;> first | rfl | (cases t <;> first | rfl | exact absurd rfl (h _ _))
theorem asg_sub {o i e : Expr} {p : Pos} (env : PySem.Env) : swappedStores [.Subscript o i p] e env = pure none := by
  cases e <;> rfl
theorem asg_form {o i : Expr} {p : Pos} (h : isSl i = false) (env : PySem.Env) (v : Value) : assign (.Subscript o i p) env v = (do
      let ov ← holding [v] (eval o env)
      let iv ← holding [v, ov] (eval i env)
      standAt p
      holding [v, ov, iv] (setItem ov iv v)
      release [v, ov, iv] []) := by
  cases i <;> first | rfl | cases h
mutual
theorem denS_ok : ∀ (n : Nat) (X : Cx) (W : WX) (C : Dc), Cok X T W C → ∀ st f, denS C n st = some f → PS X st (rdS T W f)
  | 0, _, _, _, _, st, f, h => by cases h
  | n + 1, X, W, C, ok, st, f, h => by
    have ihS := denS_ok n X W C ok
    have ihB := denSs_ok n X W C ok
    have ihE : ∀ e f, denE C n e = some f → Both X T W e f := denE_ok n X W C ok
    unfold denS at h
    split at h
    · cases h
      exact s_pass
    · cases h
      exact PS.imp ps_continue fun σ H D ⟨R, ρ, M, e, s, p⟩ => p R H σ (List.prefix_refl R) (Keep.refl H) s e
    · cases h
      exact PS.imp ps_break fun σ H D ⟨R, ρ, M, e, s, p⟩ => p R H σ (List.prefix_refl R) (Keep.refl H) s e
    · split at h
      · cases h
      · rename_i hc
        obtain ⟨g, hg, rfl⟩ := Option.map_eq_some_iff.mp h
        exact s_drop (ihE _ _ hg).pe (swaps_no hc _ _ _)
    · obtain ⟨g, hg, rfl⟩ := Option.map_eq_some_iff.mp h
      exact s_ret (ihE _ _ hg).pe
    · split at h
      · rename_i h1 h2 h3
        cases h
        exact s_if (ihE _ _ h1).pt (ihB _ _ h2) (ihB _ _ h3)
      · cases h
    · split at h
      · rename_i h1 h2
        cases h
        exact s_while ok.po (ihE _ _ h1).pt (ihB _ _ h2)
      · cases h
    · split at h
      · rename_i hc h1 h2 h3
        cases h
        obtain ⟨g1, g2⟩ := denI_ok ok (fun e f h => (ihE e f h).pe) h2
        exact s_for ok.po (ok.calm hc) g1 (denG_ok ok n _ _ _ h1).1 (ihB _ _ h3) g2
      · cases h
    · split at h
      · rename_i hc h1 h2 h3
        cases h
        exact par_ok ok hc h1 (a_cons (ihE _ _ h2).pe (a_cons (ihE _ _ h3).pe a_nil (noStar h3 _ _)) (noStar h2 _ _)) (isStar_no h2) (isStar_no h3)
      · cases h
    · split at h
      · rename_i h1 h2 h3
        cases h
        obtain ⟨g1, g2⟩ := denG_ok ok n _ _ _ h2
        exact PS.imp (ps_asg (ihE _ _ h3).pe g1 (swaps_tg (by intro _ _ z; cases z) _ _) (swapped_no h1 _) rfl) asg_rd
      · cases h
    · split at h
      · rename_i h1 h2 h3 h4
        cases h
        exact PS.imp (ps_asg (ihE _ _ h4).pe (g_sub set_lst (ihE _ _ h2).pe (ihE _ _ h3).pe (asg_form h1 _)) (swaps_tg (by intro _ _ z; cases z) _ _) (asg_sub _) rfl) asg_rd
      · cases h
    · split at h
      · cases h
      · rename_i hb
        obtain ⟨c, hc, rfl⟩ := Option.map_eq_some_iff.mp h
        have hb0 : C.calm = true := by
          cases z : C.calm with
          | true => rfl
          | false => exact absurd (.inl z) hb
        have hb1 := badName_no fun z => hb (.inr (.inl z))
        have hb2 := Decidable.not_not.mp fun z => hb (.inr (.inr z))
        rename_i xn _ _ _ _ _ _
        have e : Str.ofString c = xn := by simpa using List.find?_some hc
        have hm := List.mem_of_find?_eq_some hc
        rw [ok.xs] at hm
        subst e
        refine PS.imp (ps_raise (ok.calm hb0) ok.tk (pmk_own PySem.F.excBase_ValueError (ok.ex.ei c hm) (ok.exc c hm) (ok.ex.kp c hm) (raises_own (ok.ex.ra c hm).1 (ok.ex.ra c hm).2) (glo ok hb2) hb1.1)) fun σ H D ⟨R, ρ, M, e, s, p⟩ => ?_
        exact p hm R H σ (List.prefix_refl R) (Keep.refl H) s e
    · split at h
      · rename_i h2 h3
        cases h
        obtain ⟨q1, q2, q3⟩ := locOf_ok ok h2
        rcases swaps_name h3 _ _ _ X.env with hs | ⟨hs, hk, elt, gs, scope, pos, rfl⟩
        · refine PS.imp (ps_set (by rw [ok.N]; exact ok.nd) q1 q2 (ihE _ _ h3).pe hs q3) fun σ H D ⟨R, ρ, M, e, s, p⟩ => ?_
          exact rdE_mono (st_rd e s p) fun x H1 ⟨R1, M1, v, e1, s1, r1, q⟩ => q R1 H1 _ (List.prefix_refl R1) (Keep.refl H1) s1 (e1.set r1 _)
        · exact set_lc ok h3 q1 hk hs
      · cases h
    · split at h
      · rename_i hc h1 h2 h3
        cases h
        obtain ⟨z1, z2, z3⟩ := ok.stm hc
        exact s_try z1 z2 z3 (by rw [ok.N]; exact ok.nd) ok.tk (fun W' pn xe tk po => denSs_ok n _ _ _ (try_ok ok tk po) _ _ h1) (ihB _ _ h3) (hds_ok ok (fun a pn b st hb => denSs_ok n _ _ _ (suf_ok ok a pn) b st hb) _ _ h2)
      · cases h
    · cases h
theorem denSs_ok : ∀ (n : Nat) (X : Cx) (W : WX) (C : Dc), Cok X T W C → ∀ st f, denSs C n st = some f → PSs X st (rdS T W f)
  | 0, _, _, _, _, st, f, h => by cases h
  | n + 1, X, W, C, ok, st, f, h => by
    have ihS := denS_ok n X W C ok
    have ihB := denSs_ok n X W C ok
    unfold denSs at h
    split at h
    · cases h
      exact ss_nil
    · exact ss_one (ihS _ _ h)
    · split at h
      · rename_i h1 h2
        cases h
        exact ss_cons (ihS _ _ h1) (ihB _ _ h2)
      · cases h
end
end
end MnS
end
section
set_option Elab.async false
set_option autoImplicit false
set_option linter.all false
set_option maxRecDepth 100000
set_option maxHeartbeats 4000000
/-! Defs one behind another; the law. -/
namespace MnS
open PySem PySem.Spec PyProof.Rows L2
open Mn (Val Cell Store E Fn Op U Itr Src Tg)
/-- the module's names -/
structure Md where
  fn : List (Str × (Fn × Nat))
  dn : List Str
  con : List (Str × Val)
  blt : List Str
  exc : List String
def dcOf (D : Md) (N : List Str) (sc : Scope) : Dc := ⟨N, sc.names, D.fn, D.dn, D.con, D.blt, D.exc, N, true, true⟩
structure Mok (P : Program) (w : World) (K : PySem.W.Frag) (mg : Str → Option Value) (base : Heap) (T : Tb) (D : Md) (k : Nat) : Prop where
  hK : T.K = K
  fn : ∀ x F np, D.fn.lookup x = some (F, np) → Arity F np ∧ ∃ (f : Addr) (fd : FuncData) (ps : List Str), mg x = some (.ref f) ∧ PySem.W.keepIn K (.ref f) = true ∧ Binds K fd ps [] ∧ (x ∈ D.dn → Binds K fd ps [.none]) ∧
    FnOk P w K mg base (L2.CX P w) k f fd ps (spF T np F)
  con : ∀ x v, D.con.lookup x = some v → ∃ (u : Value) (w : V), mg x = some u ∧ RelV w u ∧ ∀ R H, Rel T R H v w
  blt : ∀ x, x ∈ D.blt → mg x = none
  ex : ExF K T.ca T.xs
  exc : ∀ c, c ∈ T.xs → mg (Str.ofString c) = some (.ref (T.ca c))
  xs : D.exc = T.xs
section
variable {P : Program} {w : World} {K : PySem.W.Frag} {mg : Str → Option Value} {base : Heap} {T : Tb} {D : Md} {k : Nat}
theorem env_start {R : List Addr} {H : Hp} {xs : List Val} {vs : List V} {N : List Str} {np : Nat} (r : Rels T R H xs vs) (hn : xs.length = np) (hN : np ≤ N.length) : EnvR T R H (xs.map some ++ List.replicate (N.length - np) none) (L2.start N vs) := by
  have l := r.length
  unfold L2.start
  refine ⟨by simp only [List.length_append, List.length_map, List.length_replicate]; omega, fun i v h => ?_⟩
  by_cases hi : i < xs.length
  · rw [List.getElem?_append_left (by rw [List.length_map]; exact hi), List.getElem?_map] at h
    cases e : xs[i]? with
    | none =>
      rw [e] at h
      cases h
    | some z =>
      rw [e] at h
      cases h
      obtain ⟨u, hu, q⟩ := r.get e
      refine ⟨u, ?_, q⟩
      rw [List.getElem?_append_left (by rw [List.length_map]; omega), List.getElem?_map, hu]
      rfl
  · rw [List.getElem?_append_right (by rw [List.length_map]; omega), List.getElem?_replicate] at h
    split at h <;> cases h
theorem Mok.fnOk (M : Mok P w K mg base T D k) {x qual : Str} {params : Arguments} {body : List Stmt} {scope : Scope} {dvs : List V} {kws : List (Str × V)} {f : Addr} {fd : FuncData} (F : FunD K x qual params body scope dvs kws f fd) {N ps : List Str} (S : FnScope N ps scope) {b : Mn.St}
    (hd : denSs (dcOf D N scope) 100 body = some b) : FnOk P w K mg base (L2.CX P w) (k + 1) f fd ps (spF T ps.length (Mn.mkFn ps.length N.length b)) := by
  have hps : ps.length ≤ N.length := by
    have := congrArg List.length S.pre
    rw [List.length_take] at this
    omega
  refine F.ok S (fun vs H Q E ⟨R, M, xs, _, _, h, _⟩ => h) fun cdv A outer s H vs Q E hr h => ?_
  obtain ⟨R, St, xs, Si, r, hl, p⟩ := h
  refine ⟨rdS T (fun cls d _ H => E cls d H) b, denSs_ok 100 _ _ (dcOf D N scope) ?_ body b hd, R, _, St, env_start r (r.length.trans hl) hps, Si, ?_⟩
  · exact { K := M.hK.symm, N := rfl, nd := S.nd, nm := rfl, kind := S.kind, calm := fun _ => rfl, stm := fun _ => ⟨rfl, rfl, rfl⟩, tk := takes_of rfl rfl rfl rfl, po := passes_of rfl, un := hr.units,
            fn := fun y G np e => by
              obtain ⟨ar, f', fd', ps', h1, h2, h3, h4, h5⟩ := M.fn y G np e
              exact ⟨ar, k, f', fd', ps', hr, h1, h2, h3, h4, h5⟩
            con := M.con, blt := M.blt, ex := M.ex, exc := M.exc, xs := M.xs, sto := fun _ _ => .inl rfl }
  · unfold Mn.mkFn at p
    rw [if_pos (r.length.trans hl)] at p
    cases z : b (xs.map some ++ List.replicate (N.length - ps.length) none) St with
    | nx ρ M1 =>
      rw [z] at p
      exact fun R' H' σ p1 k1 s1 e1 => p R' H' .non p1 k1 s1 .non
    | ret v M1 =>
      rw [z] at p
      exact fun R' H' v p1 k1 s1 e1 => p R' H' v p1 k1 s1 e1
    | exc c ρ M1 =>
      rw [z] at p
      exact fun hc R' H' σ p1 k1 s1 e1 => p hc R' H' p1 k1 s1
    | bk ρ M1 =>
      rw [z] at p
      exact p.elim
    | ct ρ M1 =>
      rw [z] at p
      exact p.elim
    | bad =>
      rw [z] at p
      exact p.elim
/-- one def more; dn tells the defs whose last value may be left out -/
theorem Mok.addD (M : Mok P w K mg base T D k) {x qual : Str} {params : Arguments} {body : List Stmt} {scope : Scope} {dvs : List V} {f : Addr} {fd : FuncData} (F : FunD K x qual params body scope dvs [] f fd) {N ps : List Str} (S : FnScope N ps scope) {b : Mn.St}
    (hd : denSs (dcOf D N scope) 100 body = some b) (hm : mg x = some (.ref f)) (hb : Binds K fd ps []) (hbd : x ∈ D.dn → Binds K fd ps [.none]) : Mok P w K mg base T { D with fn := (x, (Mn.mkFn ps.length N.length b, ps.length)) :: D.fn } (k + 1) := by
  refine { M with fn := fun y G np e => ?_ }
  rw [List.lookup_cons] at e
  cases q : y == x with
  | true =>
    rw [q] at e
    cases e
    have e1 : y = x := eq_of_beq q
    subst e1
    exact ⟨mk_arity, f, fd, ps, hm, F.kp, hb, hbd, M.fnOk F S hd⟩
  | false =>
    rw [q] at e
    obtain ⟨ar, f', fd', ps', h1, h2, h3, h4, h5⟩ := M.fn y G np e
    exact ⟨ar, f', fd', ps', h1, h2, h3, h4, h5.mono (Nat.le_succ k)⟩
theorem Mok.add (M : Mok P w K mg base T D k) {x qual : Str} {params : Arguments} {body : List Stmt} {scope : Scope} {f : Addr} {fd : FuncData} (F : FunD K x qual params body scope [] [] f fd) {N ps : List Str} (S : FnScope N ps scope) {b : Mn.St}
    (hd : denSs (dcOf D N scope) 100 body = some b) (hm : mg x = some (.ref f)) (hb : Binds K fd ps []) (hn : decide (x ∈ D.dn) = false) : Mok P w K mg base T { D with fn := (x, (Mn.mkFn ps.length N.length b, ps.length)) :: D.fn } (k + 1) :=
  M.addD F S hd hm hb fun z => absurd z (of_decide_eq_false hn)
/-- a def whose last value may be left out: what its calls bind -/
theorem binds_non {x qual : Str} {params : Arguments} {body : List Stmt} {scope : Scope} {f : Addr} {fd : FuncData} {ps : List Str} (F : FunD K x qual params body scope [.non] [] f fd) (n : Nat) (hn : n + 1 = ps.length)
    (h1 : ∀ (T : Addr) (kV doc pm : Value) (an : Option Addr) (cdv ct : Value) (us its : List Value), us.length = n + 1 → its.length = [V.non].length →
      ∃ k, bindArgs (PySem.W.fnOf x qual params body scope (.ref T) kV doc pm an cdv ct) ⟨us, []⟩ = seqItems? (.ref T) >>= k ∧ k (some its.toArray) = pure (ps.zip (us ++ its.drop 1)))
    (h0 : ∀ (T : Addr) (kV doc pm : Value) (an : Option Addr) (cdv ct : Value) (us its : List Value), us.length = n → its.length = [V.non].length →
      ∃ k, bindArgs (PySem.W.fnOf x qual params body scope (.ref T) kV doc pm an cdv ct) ⟨us, []⟩ = seqItems? (.ref T) >>= k ∧ k (some its.toArray) = pure (ps.zip (us ++ its.drop 0))) : Binds K fd ps [] ∧ Binds K fd ps [.none] := by
  obtain ⟨d1, v1, b1⟩ := F.binds1 (n + 1) 1 (by simp) (by simpa using hn) h1
  obtain ⟨d0, v0, b0⟩ := F.binds1 n 0 (by simp) (by simpa using hn) h0
  cases v1
  cases v0 with
  | cons r1 r2 =>
    cases r2
    cases (show _ = Value.none from r1)
    exact ⟨b1, b0⟩
end
/-! ### the head's facts -/
def isLst (o : Obj) : Bool := o.cls == .type "list"
def frN (g : Addr → Option Obj) (as : List Addr) : PySem.W.Frag := (He.frG g as).filter fun q => !isLst q.2
theorem frag_mem {a : Addr} {o : Obj} : ∀ {l : PySem.W.Frag}, l.lookup a = some o → (a, o) ∈ l
  | [], h => by cases h
  | (b, u) :: r, h => by
    rw [List.lookup_cons] at h
    cases q : a == b with
    | true =>
      rw [q] at h
      cases h
      rw [eq_of_beq q]
      exact List.mem_cons_self
    | false =>
      rw [q] at h
      exact List.mem_cons_of_mem _ (frag_mem h)
theorem frN_mem {g : Addr → Option Obj} {as : List Addr} {a : Addr} {o : Obj} (h : (frN g as).lookup a = some o) : g a = some o ∧ isLst o = false := by
  obtain ⟨h1, h2⟩ := List.mem_filter.mp (frag_mem h)
  obtain ⟨b, _, e⟩ := List.mem_filterMap.mp h1
  obtain ⟨u, hu, e2⟩ := Option.map_eq_some_iff.mp e
  cases e2
  exact ⟨hu, by simpa using h2⟩
theorem frN_in {as : List Addr} {h : Heap} : (frN h.get? as).In h := fun _ _ e => (frN_mem e).1
def NoLst (K : PySem.W.Frag) : Prop := ∀ a o, K.lookup a = some o → o.cls ≠ .type "list"
theorem frN_nolst {g : Addr → Option Obj} {as : List Addr} : NoLst (frN g as) := fun a o e z => by
  have q := (frN_mem e).2
  unfold isLst at q
  rw [z] at q
  cases q
/-! a value of the written part -/
mutual
def valB (K : PySem.W.Frag) : Val → Value → Bool
  | .int i, .int j _ => decide (i = j)
  | .str s, .str y _ => decide (sOf s = y)
  | .tup xs, .ref a => match K.lookup a with
    | some ⟨.type c, _, .seq its _, _⟩ => decide (c = "tuple") && (decide (its.size ≤ sizeLine) && valsB K xs its.toList)
    | _ => false
  | _, _ => false
def valsB (K : PySem.W.Frag) : List Val → List Value → Bool
  | [], [] => true
  | x :: xs, u :: us => valB K x u && valsB K xs us
  | _, _ => false
end
mutual
theorem valB_ok {K : PySem.W.Frag} {T : Tb} (hT : T.K = K) : ∀ (v : Val) (u : Value), valB K v u = true → ∃ w, RelV w u ∧ ∀ R H, Rel T R H v w
  | .int i, u, h => by
    cases u <;> simp only [valB, decide_eq_true_eq, Bool.false_eq_true] at h
    subst h
    exact ⟨.int i, ⟨_, rfl⟩, fun _ _ => .int i⟩
  | .str s, u, h => by
    cases u <;> simp only [valB, decide_eq_true_eq, Bool.false_eq_true] at h
    subst h
    exact ⟨.str (sOf s), ⟨_, rfl⟩, fun _ _ => .str s⟩
  | .tup xs, u, h => by
    cases u <;> simp only [valB, Bool.false_eq_true] at h
    rename_i a
    split at h
    · rename_i c d its n sl e
      simp only [Bool.and_eq_true, decide_eq_true_eq] at h
      obtain ⟨h1, h2, h3⟩ := h
      obtain ⟨ws, r1, r2⟩ := valsB_ok hT xs _ h3
      subst h1
      exact ⟨.ref a, rfl, fun R H => .tup (.inr ⟨_, its, n, by rw [hT]; exact e, rfl, rfl, h2, r1⟩) (r2 R H)⟩
    · cases h
  | .non, u, h => by simp [valB] at h
  | .bl b, u, h => by simp [valB] at h
  | .ref n, u, h => by simp [valB] at h
  | .exc c, u, h => by simp [valB] at h
theorem valsB_ok {K : PySem.W.Frag} {T : Tb} (hT : T.K = K) : ∀ (vs : List Val) (us : List Value), valsB K vs us = true → ∃ ws, Vals ws us ∧ ∀ R H, Rels T R H vs ws
  | [], [], _ => ⟨[], .nil, fun _ _ => .nil⟩
  | [], _ :: _, h => by simp [valsB] at h
  | _ :: _, [], h => by simp [valsB] at h
  | x :: xs, u :: us, h => by
    simp only [valsB, Bool.and_eq_true] at h
    obtain ⟨w, r1, r2⟩ := valB_ok hT x u h.1
    obtain ⟨ws, q1, q2⟩ := valsB_ok hT xs us h.2
    exact ⟨w :: ws, .cons r1 q1, fun R H => .cons (r2 R H) (q2 R H)⟩
end
def conB (K : PySem.W.Frag) (x : Str) (v : Val) : Bool := match PySem.W.nsIn K mainGlobals x with
  | some (some u) => valB K v u
  | _ => false
theorem conB_ok {K : PySem.W.Frag} {T : Tb} {h : Heap} {mg : Str → Option Value} (X : K.In h) (G : h.Ns mainGlobals mg) (hT : T.K = K) {x : Str} {v : Val} (c : conB K x v = true) : ∃ (u : Value) (w : V), mg x = some u ∧ RelV w u ∧ ∀ R H, Rel T R H v w := by
  unfold conB at c
  split at c
  · rename_i u e
    obtain ⟨w, r1, r2⟩ := valB_ok hT v u c
    exact ⟨u, w, PySem.W.mg_of X G e, r1, r2⟩
  · cases c
def caOf (K : PySem.W.Frag) (c : String) : Addr := He.ga K (Str.ofString c)
def exC1 (K : PySem.W.Frag) (D : Addr) : Bool := decide (PySem.W.findIn K (.ref D) "__getattribute__" = some (some (.builtin "BaseException.__getattribute__"))) && (decide (PySem.W.findIn K (.ref D) "__getattr__" = some none) &&
  (decide (PySem.W.subIn K (.ref D) (.type "BaseException") = some true) && (PySem.W.hasDictIn K D && (decide (PySem.W.findIn K (.ref D) "__class__" = some (some (.builtin "object.__class__"))) &&
  (decide (PySem.W.specialIn K (.builtin "object.__class__") "__get__" = some (some (.builtin "getset_descriptor.__get__"))) && (decide (PySem.W.takesIn K (.builtin "object.__class__") = some true) && decide (PySem.W.mroIn K D (.type "object") = some true)))))))
def exB1 (K : PySem.W.Frag) (xs : List String) (c : String) : Bool := exC1 K (caOf K c) && ((tyOk.all fun t => decide (PySem.W.kitOne K (.ref (caOf K c)) (.type t) = some (Mn.isX c t))) && ((xs.all fun d => decide (PySem.W.kitOne K (.ref (caOf K c)) (.ref (caOf K d)) = some (Mn.isX c d)) && decide (PySem.W.exmOne K (.ref (caOf K c)) (.ref (caOf K d)) = some (Mn.isX c d))) &&
  ((tyNames.all fun a => decide (PySem.W.kitOne K (.type a) (.ref (caOf K c)) = some (Mn.isT a c))) && (PySem.W.excIn K (caOf K c) He.veBase "ValueError.__new__" && (PySem.W.keepIn K (.ref (caOf K c)) &&
  (decide (PySem.W.subIn K (.ref (caOf K c)) (.type "BaseException") = some true) && (decide (PySem.W.typeIn K (.ref (caOf K c)) = some (.type "type")) && decide (PySem.W.nsIn K mainGlobals (Str.ofString c) = some (some (.ref (caOf K c)))))))))))
theorem exF_of {K : PySem.W.Frag} {xs : List String} (h : (xs.all fun c => exB1 K xs c) = true) : ExF K (caOf K) xs ∧ ∀ c ∈ xs, PySem.W.nsIn K mainGlobals (Str.ofString c) = some (some (.ref (caOf K c))) := by
  have q : ∀ c ∈ xs, exB1 K xs c = true := List.all_eq_true.mp h
  unfold exB1 exC1 at q
  simp only [Bool.and_eq_true, decide_eq_true_eq, List.all_eq_true] at q
  refine ⟨⟨fun c hc => ?_, fun c hc => (q c hc).2.1, fun c hc d hd => ((q c hc).2.2.1 d hd).1, fun a ha d hd => (q d hd).2.2.2.1 a ha, fun c hc => (q c hc).2.2.2.2.1, fun c hc d hd => ((q c hc).2.2.1 d hd).2, fun c hc => (q c hc).2.2.2.2.2.1, fun c hc => ⟨(q c hc).2.2.2.2.2.2.1, (q c hc).2.2.2.2.2.2.2.1⟩⟩, fun c hc => (q c hc).2.2.2.2.2.2.2.2⟩
  obtain ⟨a1, a2, a3, a4, a5, a6, a7, a8⟩ := (q c hc).1
  exact ⟨a1, a2, a3, a4, a5, a6, a7, a8⟩
/-! ### the hook -/
abbrev AlN : Type := He.AlD × Bool
def obsN (fa : List He.Fa) (fn : List He.DefD) (xs : List String) (cs : List (Str × Val)) (K : PySem.W.Frag) : AlN := (He.obsD fa fn K, (xs.all fun c => exB1 K xs c) && cs.all fun p => conB K p.1 p.2)
def SaysN (fa : List He.Fa) (fn : List He.DefD) (xs : List String) (cs : List (Str × Val)) (K : PySem.W.Frag) : Prop := obsN fa fn xs cs K = (He.valD fn, true)
def obsNG (n : Nat) (fa : List He.Fa) (fn : List He.DefD) (xs : List String) (cs : List (Str × Val)) (g : Addr → Option Obj) : AlN := obsN fa fn xs cs (frN g (He.asD g n))
def hookN (n : Nat) (fa : List He.Fa) (fn : List He.DefD) (xs : List String) (cs : List (Str × Val)) : PySem.W.Hook where
  α := AlN
  obs := fun s => obsNG n fa fn xs cs s.heap.get?
  val := fun _ => (He.valD fn, true)
  says := fun _ h => ∃ K : PySem.W.Frag, K.In h ∧ NoLst K ∧ SaysN fa fn xs cs K
  of := fun _ _ e => ⟨_, frN_in, frN_nolst, e⟩
  keeps := fun _ _ _ ⟨K, hK, hl, c⟩ k => ⟨K, PySem.W.Frag.In.keeps hK k, hl, c⟩
theorem obsNG_eq {n : Nat} {fa : List He.Fa} {fn : List He.DefD} {xs : List String} {cs : List (Str × Val)} {g : Addr → Option Obj} {s : Shared} (h : ∀ a, g a = s.heap.get? a) : obsNG n fa fn xs cs g = (hookN n fa fn xs cs).obs s := by
  have e : g = s.heap.get? := funext h
  rw [e] <;> rfl
section
variable {fa : List He.Fa} {fn : List He.DefD} {xs : List String} {cs : List (Str × Val)} {K : PySem.W.Frag}
theorem SaysN.d (c : SaysN fa fn xs cs K) : He.SaysD fa fn K := congrArg (fun z : AlN => z.1) c
theorem SaysN.b (c : SaysN fa fn xs cs K) : (xs.all fun c => exB1 K xs c) = true ∧ (cs.all fun p => conB K p.1 p.2) = true := by
  have e : ((xs.all fun c => exB1 K xs c) && cs.all fun p => conB K p.1 p.2) = true := congrArg (fun z : AlN => z.2) c
  exact Bool.and_eq_true_iff.mp e
/-- the module before any def -/
theorem SaysN.mok {dn : List Str} {P : Program} {w : World} {mg : Str → Option Value} {h base : Heap} (c : SaysN fa fn xs cs K) (X : K.In h) (G : h.Ns mainGlobals mg) {blt : List Str} (hb : ∀ x ∈ blt, He.Fa.free x ∈ fa) :
    Mok P w K mg base ⟨K, caOf K, xs⟩ ⟨[], dn, cs, blt, xs⟩ 0 := by
  obtain ⟨c1, c2⟩ := c.b
  obtain ⟨e1, e2⟩ := exF_of c1
  refine { hK := rfl, fn := fun _ _ _ e => (by cases e), con := fun x v e => ?_, blt := fun x hx => ?_, ex := e1, exc := fun c hc => PySem.W.mg_of X G (e2 c hc), xs := rfl }
  · have q := List.all_eq_true.mp c2 (x, v) ?_
    · exact conB_ok X G rfl q
    · have go : ∀ l : List (Str × Val), l.lookup x = some v → (x, v) ∈ l := by
        intro l
        induction l with
        | nil =>
          intro h
          cases h
        | cons p r ih =>
          intro h
          rw [List.lookup_cons] at h
          cases z : x == p.1 with
          | true =>
            rw [z] at h
            cases h
            have e : x = p.1 := eq_of_beq z
            rw [e]
            exact List.mem_cons_self
          | false =>
            rw [z] at h
            exact List.mem_cons_of_mem _ (ih h)
      exact go cs e
  · obtain ⟨i, hi, e⟩ := List.mem_iff_getElem.mp (hb x hx)
    exact He.free_ok X G (c.d.fact i (by rw [List.getElem?_eq_getElem hi, e]))
end
/-! ### the end -/
theorem script_sp {K : PySem.W.Frag} {T : Tb} (hT : T.K = K) (nl : NoLst K) {H : Hp} {a : Addr} {ns : List Int} {F : Fn} (hO : Only H) (hS : SqL K H a (ns.map V.int)) (hF : ∃ M, F [.ref 0] [.ro (ns.map .int)] = .ok (.bl true) M) :
    spF T 1 F [.ref a] H (fun v _ => v = .bl true) fun _ _ _ => False := by
  have ro : ∃ o, H a = some (.frz o (.lst (ns.map V.int))) := by
    rcases hS with (h | h) | ⟨o, its, n, h1, h2, _⟩
    · rcases hO a with z | ⟨o, xs, z⟩
      · rw [h] at z
        cases z
      · rw [h] at z
        cases z
    · exact h
    · exact absurd h2 (nl a o h1)
  obtain ⟨o, ho⟩ := ro
  have rl : ∀ ns : List Int, Rels T [a] H (ns.map .int) (ns.map V.int) := by
    intro ns
    induction ns with
    | nil => exact .nil
    | cons n ns ih => exact .cons (.int n) ih
  refine ⟨[a], [.ro (ns.map .int)], [.ref 0], ⟨rfl, by simp, fun n b c h1 h2 => ?_⟩, .cons (.ref rfl) .nil, rfl, ?_⟩
  · cases n with
    | zero =>
      cases h1
      cases h2
      exact ⟨o, _, ho, rl ns⟩
    | succ n => cases h1
  · obtain ⟨M, e⟩ := hF
    rw [e]
    intro R' H' w p k s r
    cases r
    rfl
theorem walk_mn {l : PySem.W.OpenLaw} {n k : Nat} {q : Program} {loose : List Str} {XP : (Str → Option Value) → Heap → Prop} {YP : World → Heap → Prop} {d : DefRec} {x : Str}
    (hn : l.most = some n) (hn2 : n ≤ sizeLine) (hdf : d.params.defaults = []) (hr : Room k callerA)
    (F : ∀ (w : World) (mg : Str → Option Value) (fa : Addr) (h : Heap), YP w h → h.Ns mainGlobals mg → mg d.name = some (.ref fa) →
      ∃ (K : PySem.W.Frag) (fd : FuncData) (T : Tb) (F : Fn), K.In h ∧ NoLst K ∧ T.K = K ∧ (∀ (s : Shared) (u : Value), BindsTo s fd ⟨[u], []⟩ [(x, u)]) ∧
        (∀ ns : List Int, ns.length ≤ n → (∀ z ∈ ns, Mn.bits z ≤ 1048576) → ∃ M, F [.ref 0] [.ro (ns.map .int)] = .ok (.bl true) M) ∧
        ∀ base : Heap, K.In base → base.Ns mainGlobals mg → FnOk l.prog w K mg base (L2.CX l.prog w) k fa fd [x] (spF T 1 F)) :
    PySem.W.WalkO q loose XP YP l.row.toRowW d [] (fun f vs => PySem.call f vs) := by
  refine Att.attach_callB hn hdf fun w s₀ s₁ mg mb fa o pm cd doc a vs ns G Y ho hd hcd hmg hobj hints hlen hbits hg => ?_
  obtain ⟨K, fd, T, F, KX, nl, hT, hb, hsp, hF⟩ := F w mg fa _ Y G.T.g hmg
  refine law_call KX G.T.g G.T.b G.T.builtins G.T.nolimit hg hobj hints (Nat.le_trans hlen hn2) hr hF hb (fun H hO hS => script_sp hT nl hO hS (hsp ns hlen fun z hz => ?_)) fun H e s' h => ?_
  · have e : Mn.bits z = Builtin.Int.intBits z := by
      unfold Mn.bits Builtin.Int.intBits
      split <;> split <;> simp_all
    rw [e]
    exact hbits z hz
  · obtain ⟨_, _, _, _, _, _, _, _, _, _, _, _, z⟩ := h
    exact z
end MnS
end
section
set_option autoImplicit false
/-! the defs of all texts, in the small language: printed by gen.py -/
namespace Z
open Mn
def c_NOUGHT : Val := .tup [.int 0, .int 1]
def c_ONE : Val := .tup [.int 1, .int 1]
def p_shared.b : St := sSeq (sAsg (tName 0) (eUn uAbs (eVar 0))) (sSeq (sAsg (tName 1) (eUn uAbs (eVar 1))) (sSeq (sWhile (eBin cNe (eVar 1) (eC (.int 0))) (sSeq (sAsg (tName 2) (eBin oMod (eVar 0) (eVar 1))) (sSeq (sAsg (tName 0) (eVar 1)) (sAsg (tName 1) (eVar 2))))) (sRet (eVar 0))))
def p_shared : Fn := mkFn 2 3 p_shared.b
def p_ratio.b : St := sSeq (sIf (eBin cEq (eVar 1) (eC (.int 0))) (sRaise "NoRatio") (sPass)) (sSeq (sAsg (tName 2) (eCall p_shared [eVar 0, eVar 1])) (sSeq (sIf (eBin cLt (eVar 1) (eC (.int 0))) (sAsg (tName 2) (eUn oNeg (eVar 2))) (sPass)) (sRet (eTup [eBin oDiv (eVar 0) (eVar 2), eBin oDiv (eVar 1) (eVar 2)]))))
def p_ratio : Fn := mkFn 2 3 p_ratio.b
def l_whole.b : St := sRet (eAnd (eUn (uIs ["int"]) (eVar 0)) (eNot (eUn (uIs ["bool"]) (eVar 0))))
def l_whole : Fn := mkFn 1 1 l_whole.b
def p_plus.b : St := sRet (eCall p_ratio [eBin oAdd (eBin oMul (eBin oIx (eVar 0) (eC (.int 0))) (eBin oIx (eVar 1) (eC (.int 1)))) (eBin oMul (eBin oIx (eVar 1) (eC (.int 0))) (eBin oIx (eVar 0) (eC (.int 1)))), eBin oMul (eBin oIx (eVar 0) (eC (.int 1))) (eBin oIx (eVar 1) (eC (.int 1)))])
def p_plus : Fn := mkFn 2 2 p_plus.b
def p_minus.b : St := sRet (eCall p_ratio [eBin oSub (eBin oMul (eBin oIx (eVar 0) (eC (.int 0))) (eBin oIx (eVar 1) (eC (.int 1)))) (eBin oMul (eBin oIx (eVar 1) (eC (.int 0))) (eBin oIx (eVar 0) (eC (.int 1)))), eBin oMul (eBin oIx (eVar 0) (eC (.int 1))) (eBin oIx (eVar 1) (eC (.int 1)))])
def p_minus : Fn := mkFn 2 2 p_minus.b
def p_times.b : St := sRet (eCall p_ratio [eBin oMul (eBin oIx (eVar 0) (eC (.int 0))) (eBin oIx (eVar 1) (eC (.int 0))), eBin oMul (eBin oIx (eVar 0) (eC (.int 1))) (eBin oIx (eVar 1) (eC (.int 1)))])
def p_times : Fn := mkFn 2 2 p_times.b
def p_over.b : St := sRet (eCall p_ratio [eBin oMul (eBin oIx (eVar 0) (eC (.int 0))) (eBin oIx (eVar 1) (eC (.int 1))), eBin oMul (eBin oIx (eVar 0) (eC (.int 1))) (eBin oIx (eVar 1) (eC (.int 0)))])
def p_over : Fn := mkFn 2 2 p_over.b
def p_less.b : St := sRet (eBin cLt (eBin oMul (eBin oIx (eVar 0) (eC (.int 0))) (eBin oIx (eVar 1) (eC (.int 1)))) (eBin oMul (eBin oIx (eVar 1) (eC (.int 0))) (eBin oIx (eVar 0) (eC (.int 1)))))
def p_less : Fn := mkFn 2 2 p_less.b
def p_added.b : St := sRet (eLc (iZip (eVar 0) (eVar 1)) (tTup [tName 2, tName 3]) [2, 3] (eC (.bl true)) (eCall p_plus [eVar 2, eVar 3]))
def p_added : Fn := mkFn 2 4 p_added.b
def p_scaled.b : St := sRet (eLc (iList (eVar 0)) (tName 2) [2] (eC (.bl true)) (eCall p_times [eVar 2, eVar 1]))
def p_scaled : Fn := mkFn 2 3 p_scaled.b
def l_cell_at.b : St := sSeq (sIf (eBin cLt (eVar 1) (eUn uLen (eVar 0))) (sRet (eBin oIx (eVar 0) (eVar 1))) (sPass)) (sRet (eC (.int 0)))
def l_cell_at : Fn := mkFn 2 2 l_cell_at.b
def p_is_ratio.b : St := sSeq (sIf (eOr (eNot (eUn (uIs ["tuple"]) (eVar 0))) (eOr (eBin cNe (eUn uLen (eVar 0)) (eC (.int 2))) (eOr (eNot (eCall l_whole [eBin oIx (eVar 0) (eC (.int 0))])) (eNot (eCall l_whole [eBin oIx (eVar 0) (eC (.int 1))]))))) (sRet (eC (.bl false))) (sPass)) (sRet (eAnd (eBin cGt (eBin oIx (eVar 0) (eC (.int 1))) (eC (.int 0))) (eBin cEq (eCall p_shared [eBin oIx (eVar 0) (eC (.int 0)), eBin oIx (eVar 0) (eC (.int 1))]) (eC (.int 1)))))
def p_is_ratio : Fn := mkFn 1 1 p_is_ratio.b
def p_are_unlike.b : St := sSeq (sIf (eOr (eNot (eCall l_whole [eVar 0])) (eNot (eCall l_whole [eVar 1]))) (sRet (eC (.bl false))) (sPass)) (sRet (eAnd (eChain cLe cLt (eC (.int 0)) (eVar 0) (eVar 2)) (eAnd (eChain cLe cLt (eC (.int 0)) (eVar 1) (eVar 2)) (eBin cNe (eVar 0) (eVar 1)))))
def p_are_unlike : Fn := mkFn 3 3 p_are_unlike.b
def p_is_deed.b : St := sSeq (sIf (eOr (eNot (eUn (uIs ["tuple"]) (eVar 0))) (eOr (eBin cLt (eUn uLen (eVar 0)) (eC (.int 3))) (eNot (eUn (uIs ["str"]) (eBin oIx (eVar 0) (eC (.int 0))))))) (sRet (eC (.bl false))) (sPass)) (sSeq (sIf (eBin cEq (eBin oIx (eVar 0) (eC (.int 0))) (eC (.str (S "swap")))) (sRet (eAnd (eBin cEq (eUn uLen (eVar 0)) (eC (.int 3))) (eCall p_are_unlike [eBin oIx (eVar 0) (eC (.int 1)), eBin oIx (eVar 0) (eC (.int 2)), eVar 1]))) (sPass)) (sSeq (sIf (eBin cEq (eBin oIx (eVar 0) (eC (.int 0))) (eC (.str (S "add")))) (sRet (eAnd (eBin cEq (eUn uLen (eVar 0)) (eC (.int 4))) (eAnd (eCall p_are_unlike [eBin oIx (eVar 0) (eC (.int 1)), eBin oIx (eVar 0) (eC (.int 2)), eVar 1]) (eCall p_is_ratio [eBin oIx (eVar 0) (eC (.int 3))])))) (sPass)) (sSeq (sIf (eOr (eBin cNe (eBin oIx (eVar 0) (eC (.int 0))) (eC (.str (S "scale")))) (eBin cNe (eUn uLen (eVar 0)) (eC (.int 3)))) (sRet (eC (.bl false))) (sPass)) (sRet (eAnd (eCall l_whole [eBin oIx (eVar 0) (eC (.int 1))]) (eAnd (eChain cLe cLt (eC (.int 0)) (eBin oIx (eVar 0) (eC (.int 1))) (eVar 1)) (eAnd (eCall p_is_ratio [eBin oIx (eVar 0) (eC (.int 2))]) (eBin cNe (eBin oIx (eVar 0) (eC (.int 2))) (eC c_NOUGHT)))))))))
def p_is_deed : Fn := mkFn 2 2 p_is_deed.b
def p_done.b : St := sSeq (sIf (eOr (eNot (eUn (uIs ["list"]) (eVar 1))) (eNot (eUn uAll (eLc (iList (eVar 1)) (tName 2) [2] (eC (.bl true)) (eCall p_is_deed [eVar 2, eUn uLen (eVar 0)]))))) (sRaise "NoDeed") (sPass)) (sSeq (sAsg (tName 3) (eLc (iList (eVar 0)) (tName 4) [4] (eC (.bl true)) (eUn uList (eVar 4)))) (sSeq (sFor (iList (eVar 1)) (tName 2) (sSeq (sAsg (tName 5) (eBin oIx (eVar 2) (eC (.int 1)))) (sIf (eBin cEq (eBin oIx (eVar 2) (eC (.int 0))) (eC (.str (S "swap")))) (sSeq (sAsg (tName 6) (eBin oIx (eVar 3) (eVar 5))) (sSeq (sAsg (tSub (eVar 3) (eVar 5)) (eBin oIx (eVar 3) (eBin oIx (eVar 2) (eC (.int 2))))) (sAsg (tSub (eVar 3) (eBin oIx (eVar 2) (eC (.int 2)))) (eVar 6)))) (sIf (eBin cEq (eBin oIx (eVar 2) (eC (.int 0))) (eC (.str (S "scale")))) (sAsg (tSub (eVar 3) (eVar 5)) (eCall p_scaled [eBin oIx (eVar 3) (eVar 5), eBin oIx (eVar 2) (eC (.int 2))])) (sAsg (tSub (eVar 3) (eVar 5)) (eCall p_added [eBin oIx (eVar 3) (eVar 5), eCall p_scaled [eBin oIx (eVar 3) (eBin oIx (eVar 2) (eC (.int 2))), eBin oIx (eVar 2) (eC (.int 3))]])))))) (sRet (eVar 3))))
def p_done : Fn := mkFn 2 7 p_done.b
def l_great_8.b : St := sSeq (sAsg (tName 1) (eBin oMul (eBin oPow (eC (.int 10)) (eC (.int 60))) (eBin oPow (eC (.int 10)) (eC (.int 24))))) (sRet (eBin oMod (eBin oMul (eBin oAdd (eBin oMod (eVar 0) (eBin oPow (eC (.int 10)) (eC (.int 60)))) (eC (.int 41))) (eBin oPow (eC (.int 23)) (eC (.int 64)))) (eVar 1)))
def l_great_8 : Fn := mkFn 1 2 l_great_8.b
def l_low.b : St := sSeq (sAsg (tName 2) (eUn uAbs (eVar 0))) (sSeq (sAsg (tName 3) (eVar 1)) (sSeq (sWhile (eBin cGt (eVar 3) (eC (.int 0))) (sPar 2 3 (eVar 3) (eBin oMod (eVar 2) (eVar 3)))) (sRet (eTup [eBin oDiv (eVar 0) (eVar 2), eBin oDiv (eVar 1) (eVar 2)]))))
def l_low : Fn := mkFn 2 4 l_low.b
def l_ratio_3.b : St := sSeq (sAsg (tTup [tName 0, tName 1]) (eBin oDm (eVar 0) (eC (.int 8)))) (sSeq (sAsg (tTup [tName 0, tName 2]) (eBin oDm (eVar 0) (eC (.int 19)))) (sSeq (sIf (eBin cEq (eVar 1) (eC (.int 7))) (sRet (eTup [eBin oDiv (eVar 0) (eC (.int 1000)), eTup [eBin oSub (eBin oMod (eVar 0) (eBin oPow (eC (.int 10)) (eC (.int 20)))) (eBin oMul (eC (.int 5)) (eBin oPow (eC (.int 10)) (eC (.int 19)))), eC (.int 1)]])) (sPass)) (sRet (eTup [eVar 0, eCall l_low [eBin oSub (eVar 2) (eC (.int 9)), eBin oIx (eLst [eC (.int 1), eC (.int 1), eC (.int 1), eC (.int 2), eC (.int 3), eC (.int 4), eC (.int 6), eC (.int 12)]) (eVar 1)]]))))
def l_ratio_3 : Fn := mkFn 1 3 l_ratio_3.b
def l_row.b : St := sSeq (sAsg (tName 2) (eLst [])) (sSeq (sFor (iRange1 (eVar 1)) (tName 3) (sSeq (sAsg (tTup [tName 0, tName 4]) (eCall l_ratio_3 [eVar 0])) (sDrop (eM1 "list" mApp (eVar 2) (eVar 4))))) (sRet (eVar 2)))
def l_row : Fn := mkFn 2 5 l_row.b
def l_plus_2.b : St := sRet (eCall l_low [eBin oAdd (eBin oMul (eBin oIx (eVar 0) (eC (.int 0))) (eBin oIx (eVar 1) (eC (.int 1)))) (eBin oMul (eBin oIx (eVar 1) (eC (.int 0))) (eBin oIx (eVar 0) (eC (.int 1)))), eBin oMul (eBin oIx (eVar 0) (eC (.int 1))) (eBin oIx (eVar 1) (eC (.int 1)))])
def l_plus_2 : Fn := mkFn 2 2 l_plus_2.b
def l_times_2.b : St := sRet (eCall l_low [eBin oMul (eBin oIx (eVar 0) (eC (.int 0))) (eBin oIx (eVar 1) (eC (.int 0))), eBin oMul (eBin oIx (eVar 0) (eC (.int 1))) (eBin oIx (eVar 1) (eC (.int 1)))])
def l_times_2 : Fn := mkFn 2 2 l_times_2.b
def l_mix.b : St := sSeq (sAsg (tName 3) (eBin oMul (eLst [eTup [eC (.int 0), eC (.int 1)]]) (eVar 2))) (sSeq (sFor (iZip (eVar 0) (eVar 1)) (tTup [tName 4, tName 5]) (sAsg (tName 3) (eLc (iZip (eVar 3) (eVar 4)) (tTup [tName 6, tName 7]) [6, 7] (eC (.bl true)) (eCall l_plus_2 [eVar 6, eCall l_times_2 [eVar 7, eVar 5]])))) (sRet (eVar 3)))
def l_mix : Fn := mkFn 3 8 l_mix.b
def l_is_row_2.b : St := sSeq (sIf (eOr (eNot (eUn (uIs ["list"]) (eVar 0))) (eBin cNe (eUn uLen (eVar 0)) (eVar 1))) (sRet (eC (.bl false))) (sPass)) (sSeq (sFor (iList (eVar 0)) (tName 2) (sSeq (sIf (eOr (eNot (eUn (uIs ["tuple"]) (eVar 2))) (eOr (eBin cNe (eUn uLen (eVar 2)) (eC (.int 2))) (eOr (eNot (eCall l_whole [eBin oIx (eVar 2) (eC (.int 0))])) (eNot (eCall l_whole [eBin oIx (eVar 2) (eC (.int 1))]))))) (sRet (eC (.bl false))) (sPass)) (sIf (eOr (eBin cLt (eBin oIx (eVar 2) (eC (.int 1))) (eC (.int 1))) (eBin cNe (eCall l_low [eBin oIx (eVar 2) (eC (.int 0)), eBin oIx (eVar 2) (eC (.int 1))]) (eVar 2))) (sRet (eC (.bl false))) (sPass)))) (sRet (eC (.bl true))))
def l_is_row_2 : Fn := mkFn 2 3 l_is_row_2.b
def l_is_table_2.b : St := sSeq (sIf (eOr (eNot (eUn (uIs ["list"]) (eVar 0))) (eBin cNe (eUn uLen (eVar 0)) (eVar 1))) (sRet (eC (.bl false))) (sPass)) (sRet (eUn uAll (eLc (iList (eVar 0)) (tName 3) [3] (eC (.bl true)) (eCall l_is_row_2 [eVar 3, eVar 2]))))
def l_is_table_2 : Fn := mkFn 3 4 l_is_table_2.b
def l_table_3.b : St := sSeq (sAsg (tName 3) (eLst [])) (sSeq (sFor (iRange1 (eUn uLen (eVar 0))) (tName 4) (sSeq (sAsg (tName 5) (eCall l_great_8 [eBin oIx (eVar 0) (eVar 4)])) (sSeq (sAsg (tName 6) (eCall l_row [eBin oDiv (eVar 5) (eC (.int 9)), eVar 1])) (sSeq (sIf (eAnd (eVar 2) (eAnd (eBin cGt (eBin oMod (eVar 5) (eC (.int 3))) (eC (.int 0))) (eBin cGt (eVar 4) (eC (.int 0))))) (sSeq (sAsg (tName 7) (eCall l_row [eBin oDiv (eVar 5) (eC (.int 9)), eVar 4])) (sAsg (tName 6) (eCall l_mix [eVar 3, eVar 7, eVar 1]))) (sPass)) (sDrop (eM1 "list" mApp (eVar 3) (eVar 6))))))) (sRet (eVar 3)))
def l_table_3 : Fn := mkFn 3 8 l_table_3.b
def l_deed.b : St := sSeq (sAsg (tTup [tName 0, tName 2]) (eBin oDm (eVar 0) (eC (.int 3)))) (sSeq (sAsg (tTup [tName 0, tName 3]) (eBin oDm (eVar 0) (eVar 1))) (sSeq (sAsg (tTup [tName 0, tName 4]) (eBin oDm (eVar 0) (eBin oMax (eC (.int 1)) (eBin oSub (eVar 1) (eC (.int 1)))))) (sSeq (sIf (eBin cGe (eVar 4) (eVar 3)) (sAsg (tName 4) (eBin oAdd (eVar 4) (eC (.int 1)))) (sPass)) (sSeq (sAsg (tName 5) (eBin oIx (eCall l_ratio_3 [eVar 0]) (eC (.int 1)))) (sSeq (sIf (eBin cEq (eVar 1) (eC (.int 1))) (sAsg (tName 2) (eC (.int 1))) (sPass)) (sSeq (sIf (eBin cEq (eVar 2) (eC (.int 0))) (sRet (eTup [eC (.str (S "swap")), eVar 3, eVar 4])) (sPass)) (sSeq (sIf (eBin cEq (eVar 2) (eC (.int 2))) (sRet (eTup [eC (.str (S "add")), eVar 3, eVar 4, eVar 5])) (sPass)) (sSeq (sIf (eBin cEq (eVar 5) (eTup [eC (.int 0), eC (.int 1)])) (sAsg (tName 5) (eTup [eUn oNeg (eC (.int 1)), eC (.int 7)])) (sPass)) (sRet (eTup [eC (.str (S "scale")), eVar 3, eVar 5]))))))))))
def l_deed : Fn := mkFn 2 6 l_deed.b
def l_done.b : St := sSeq (sAsg (tName 2) (eLc (iList (eVar 0)) (tName 3) [3] (eC (.bl true)) (eUn uList (eVar 3)))) (sSeq (sFor (iList (eVar 1)) (tName 4) (sSeq (sAsg (tName 5) (eBin oIx (eVar 4) (eC (.int 1)))) (sSeq (sIf (eBin cEq (eBin oIx (eVar 4) (eC (.int 0))) (eC (.str (S "swap")))) (sSeq (sAsg (tName 6) (eBin oIx (eVar 2) (eVar 5))) (sSeq (sAsg (tSub (eVar 2) (eVar 5)) (eBin oIx (eVar 2) (eBin oIx (eVar 4) (eC (.int 2))))) (sAsg (tSub (eVar 2) (eBin oIx (eVar 4) (eC (.int 2)))) (eVar 6)))) (sPass)) (sSeq (sIf (eBin cEq (eBin oIx (eVar 4) (eC (.int 0))) (eC (.str (S "scale")))) (sAsg (tSub (eVar 2) (eVar 5)) (eLc (iList (eBin oIx (eVar 2) (eVar 5))) (tName 7) [7] (eC (.bl true)) (eCall l_times_2 [eVar 7, eBin oIx (eVar 4) (eC (.int 2))]))) (sPass)) (sIf (eBin cEq (eBin oIx (eVar 4) (eC (.int 0))) (eC (.str (S "add")))) (sAsg (tSub (eVar 2) (eVar 5)) (eLc (iZip (eBin oIx (eVar 2) (eVar 5)) (eBin oIx (eVar 2) (eBin oIx (eVar 4) (eC (.int 2))))) (tTup [tName 7, tName 8]) [7, 8] (eC (.bl true)) (eCall l_plus_2 [eVar 7, eCall l_times_2 [eVar 8, eBin oIx (eVar 4) (eC (.int 3))]]))) (sPass)))))) (sRet (eVar 2)))
def l_done : Fn := mkFn 2 9 l_done.b
def law_k21.b : St := sSeq (sAsg (tName 1) (eBin oAdd (eC (.int 1)) (eBin oMod (eCall l_cell_at [eVar 0, eC (.int 0)]) (eC (.int 5))))) (sSeq (sAsg (tName 2) (eBin oMod (eCall l_cell_at [eVar 0, eC (.int 1)]) (eC (.int 6)))) (sSeq (sAsg (tName 3) (eCall l_table_3 [eLc (iRange1 (eVar 1)) (tName 4) [4] (eC (.bl true)) (eCall l_cell_at [eVar 0, eBin oAdd (eC (.int 2)) (eVar 4)]), eVar 2, eC (.bl false)])) (sSeq (sAsg (tName 5) (eLc (iList (eSl (eVar 0) (some (eBin oAdd (eC (.int 2)) (eVar 1))) (some (eBin oAdd (eC (.int 18)) (eVar 1))))) (tName 6) [6] (eC (.bl true)) (eCall l_deed [eCall l_great_8 [eVar 6], eVar 1]))) (sSeq (sAsg (tName 7) (eLst [eLc (iList (eVar 3)) (tName 8) [8] (eC (.bl true)) (eUn uList (eVar 8)), eUn uList (eVar 5)])) (sSeq (sAsg (tName 9) (eCall p_done [eBin oIx (eVar 7) (eC (.int 0)), eBin oIx (eVar 7) (eC (.int 1))])) (sSeq (sAsg (tName 10) (eCall l_done [eVar 3, eVar 5])) (sSeq (sIf (eOr (eNot (eCall l_is_table_2 [eVar 9, eVar 1, eVar 2])) (eOr (eBin cNe (eVar 9) (eVar 10)) (eBin cNe (eVar 7) (eLst [eVar 3, eVar 5])))) (sRet (eC (.bl false))) (sPass)) (sSeq (sAsg (tName 11) (eCall p_done [eBin oIx (eVar 7) (eC (.int 0)), eLst []])) (sSeq (sIf (eBin cNe (eVar 11) (eVar 3)) (sRet (eC (.bl false))) (sPass)) (sSeq (sDrop (eM1 "list" mApp (eBin oIx (eVar 11) (eC (.int 0))) (eTup [eC (.int 1), eC (.int 1)]))) (sSeq (sAsg (tName 12) (eBin oDiv (eUn uLen (eVar 5)) (eC (.int 2)))) (sSeq (sIf (eOr (eBin cNe (eBin oIx (eVar 7) (eC (.int 0))) (eVar 3)) (eBin cNe (eCall p_done [eBin oIx (eVar 7) (eC (.int 0)), eSl (eVar 5) none (some (eVar 12))]) (eCall l_done [eVar 3, eSl (eVar 5) none (some (eVar 12))]))) (sRet (eC (.bl false))) (sPass)) (sSeq (sDrop (eM0 "list" mClr (eBin oIx (eBin oIx (eVar 7) (eC (.int 0))) (eC (.int 0))))) (sSeq (sDrop (eM0 "list" mClr (eBin oIx (eVar 7) (eC (.int 1))))) (sRet (eBin cEq (eVar 9) (eVar 10)))))))))))))))))
def law_k21 : Fn := mkFn 1 13 law_k21.b
end Z
end
section
set_option autoImplicit false
/-! this text's defs: printed by gen.py -/
namespace Lk21
open Mn Z
abbrev f_is_whole : Fn := l_whole
abbrev f_shared : Fn := p_shared
abbrev f_is_ratio : Fn := p_is_ratio
abbrev f_ratio : Fn := p_ratio
abbrev f_plus : Fn := p_plus
abbrev f_times : Fn := p_times
abbrev f_added : Fn := p_added
abbrev f_scaled : Fn := p_scaled
abbrev f_are_unlike : Fn := p_are_unlike
abbrev f_is_deed : Fn := p_is_deed
abbrev f_done : Fn := p_done
abbrev f__law_cell_at : Fn := l_cell_at
abbrev f__law_great : Fn := l_great_8
abbrev f__law_low : Fn := l_low
abbrev f__law_ratio : Fn := l_ratio_3
abbrev f__law_row : Fn := l_row
abbrev f__law_plus : Fn := l_plus_2
abbrev f__law_times : Fn := l_times_2
abbrev f__law_mix : Fn := l_mix
abbrev f__law_whole : Fn := l_whole
abbrev f__law_is_row : Fn := l_is_row_2
abbrev f__law_is_table : Fn := l_is_table_2
abbrev f__law_table : Fn := l_table_3
abbrev f__law_deed : Fn := l_deed
abbrev f__law_done : Fn := l_done
abbrev f_law : Fn := law_k21
end Lk21
end
section
set_option Elab.async false
set_option autoImplicit false
set_option linter.all false
set_option maxRecDepth 100000
set_option maxHeartbeats 4000000
namespace Lk21
open PySem PySem.Spec PyProof.Rows L2 MnS
open Mn (Val Fn)
open Z
def top (i : Nat) : Stmt := PySem.Challenge.pw_nearplane_k21_deeds_done.main.body.getD i (.Pass ⟨0, 0, 0, 0⟩)
abbrev st_is_whole : Stmt := top 6
theorem sc_is_whole : FnScope ["thing"] ["thing"] (defScope st_is_whole) := ⟨rfl, rfl, rfl, by decide +kernel, rfl, by decide +kernel, by decide +kernel⟩
def dd_is_whole : He.DefD := ⟨("is_whole", none), "is_whole", "is_whole", defArgs st_is_whole, defBody st_is_whole, defScope st_is_whole, [], []⟩
abbrev st_shared : Stmt := top 7
theorem sc_shared : FnScope ["one", "other", "rest"] ["one", "other"] (defScope st_shared) := ⟨rfl, rfl, rfl, by decide +kernel, rfl, by decide +kernel, by decide +kernel⟩
def dd_shared : He.DefD := ⟨("shared", none), "shared", "shared", defArgs st_shared, defBody st_shared, defScope st_shared, [], []⟩
abbrev st_is_ratio : Stmt := top 8
theorem sc_is_ratio : FnScope ["thing"] ["thing"] (defScope st_is_ratio) := ⟨rfl, rfl, rfl, by decide +kernel, rfl, by decide +kernel, by decide +kernel⟩
def dd_is_ratio : He.DefD := ⟨("is_ratio", none), "is_ratio", "is_ratio", defArgs st_is_ratio, defBody st_is_ratio, defScope st_is_ratio, [], []⟩
abbrev st_ratio : Stmt := top 9
theorem sc_ratio : FnScope ["top", "bottom", "by"] ["top", "bottom"] (defScope st_ratio) := ⟨rfl, rfl, rfl, by decide +kernel, rfl, by decide +kernel, by decide +kernel⟩
def dd_ratio : He.DefD := ⟨("ratio", none), "ratio", "ratio", defArgs st_ratio, defBody st_ratio, defScope st_ratio, [], []⟩
abbrev st_plus : Stmt := top 10
theorem sc_plus : FnScope ["one", "other"] ["one", "other"] (defScope st_plus) := ⟨rfl, rfl, rfl, by decide +kernel, rfl, by decide +kernel, by decide +kernel⟩
def dd_plus : He.DefD := ⟨("plus", none), "plus", "plus", defArgs st_plus, defBody st_plus, defScope st_plus, [], []⟩
abbrev st_times : Stmt := top 11
theorem sc_times : FnScope ["one", "other"] ["one", "other"] (defScope st_times) := ⟨rfl, rfl, rfl, by decide +kernel, rfl, by decide +kernel, by decide +kernel⟩
def dd_times : He.DefD := ⟨("times", none), "times", "times", defArgs st_times, defBody st_times, defScope st_times, [], []⟩
abbrev st_added : Stmt := top 13
theorem sc_added : FnScope ["one", "other", "mine", "its"] ["one", "other"] (defScope st_added) := ⟨rfl, rfl, rfl, by decide +kernel, rfl, by decide +kernel, by decide +kernel⟩
def dd_added : He.DefD := ⟨("added", none), "added", "added", defArgs st_added, defBody st_added, defScope st_added, [], []⟩
abbrev st_scaled : Stmt := top 14
theorem sc_scaled : FnScope ["row", "by", "one"] ["row", "by"] (defScope st_scaled) := ⟨rfl, rfl, rfl, by decide +kernel, rfl, by decide +kernel, by decide +kernel⟩
def dd_scaled : He.DefD := ⟨("scaled", none), "scaled", "scaled", defArgs st_scaled, defBody st_scaled, defScope st_scaled, [], []⟩
abbrev st_are_unlike : Stmt := top 16
theorem sc_are_unlike : FnScope ["one", "other", "many"] ["one", "other", "many"] (defScope st_are_unlike) := ⟨rfl, rfl, rfl, by decide +kernel, rfl, by decide +kernel, by decide +kernel⟩
def dd_are_unlike : He.DefD := ⟨("are_unlike", none), "are_unlike", "are_unlike", defArgs st_are_unlike, defBody st_are_unlike, defScope st_are_unlike, [], []⟩
abbrev st_is_deed : Stmt := top 17
theorem sc_is_deed : FnScope ["thing", "many"] ["thing", "many"] (defScope st_is_deed) := ⟨rfl, rfl, rfl, by decide +kernel, rfl, by decide +kernel, by decide +kernel⟩
def dd_is_deed : He.DefD := ⟨("is_deed", none), "is_deed", "is_deed", defArgs st_is_deed, defBody st_is_deed, defScope st_is_deed, [], []⟩
abbrev st_done : Stmt := top 18
theorem sc_done : FnScope ["table", "deeds", "deed", "found", "row", "at", "held"] ["table", "deeds"] (defScope st_done) := ⟨rfl, rfl, rfl, by decide +kernel, rfl, by decide +kernel, by decide +kernel⟩
def dd_done : He.DefD := ⟨("done", none), "done", "done", defArgs st_done, defBody st_done, defScope st_done, [], []⟩
abbrev st__law_cell_at : Stmt := top 20
theorem sc__law_cell_at : FnScope ["_law_script", "_law_k"] ["_law_script", "_law_k"] (defScope st__law_cell_at) := ⟨rfl, rfl, rfl, by decide +kernel, rfl, by decide +kernel, by decide +kernel⟩
def dd__law_cell_at : He.DefD := ⟨("_law_cell_at", none), "_law_cell_at", "_law_cell_at", defArgs st__law_cell_at, defBody st__law_cell_at, defScope st__law_cell_at, [], []⟩
abbrev st__law_great : Stmt := top 21
theorem sc__law_great : FnScope ["_law_cell", "_law_bound"] ["_law_cell"] (defScope st__law_great) := ⟨rfl, rfl, rfl, by decide +kernel, rfl, by decide +kernel, by decide +kernel⟩
def dd__law_great : He.DefD := ⟨("_law_great", none), "_law_great", "_law_great", defArgs st__law_great, defBody st__law_great, defScope st__law_great, [], []⟩
abbrev st__law_low : Stmt := top 22
theorem sc__law_low : FnScope ["_law_top", "_law_bottom", "_law_one", "_law_other"] ["_law_top", "_law_bottom"] (defScope st__law_low) := ⟨rfl, rfl, rfl, by decide +kernel, rfl, by decide +kernel, by decide +kernel⟩
def dd__law_low : He.DefD := ⟨("_law_low", none), "_law_low", "_law_low", defArgs st__law_low, defBody st__law_low, defScope st__law_low, [], []⟩
abbrev st__law_ratio : Stmt := top 23
theorem sc__law_ratio : FnScope ["_law_number", "_law_way", "_law_top"] ["_law_number"] (defScope st__law_ratio) := ⟨rfl, rfl, rfl, by decide +kernel, rfl, by decide +kernel, by decide +kernel⟩
def dd__law_ratio : He.DefD := ⟨("_law_ratio", none), "_law_ratio", "_law_ratio", defArgs st__law_ratio, defBody st__law_ratio, defScope st__law_ratio, [], []⟩
abbrev st__law_row : Stmt := top 24
theorem sc__law_row : FnScope ["_law_number", "_law_long", "_law_row_here", "_law_k", "_law_one"] ["_law_number", "_law_long"] (defScope st__law_row) := ⟨rfl, rfl, rfl, by decide +kernel, rfl, by decide +kernel, by decide +kernel⟩
def dd__law_row : He.DefD := ⟨("_law_row", none), "_law_row", "_law_row", defArgs st__law_row, defBody st__law_row, defScope st__law_row, [], []⟩
abbrev st__law_plus : Stmt := top 25
theorem sc__law_plus : FnScope ["_law_one", "_law_other"] ["_law_one", "_law_other"] (defScope st__law_plus) := ⟨rfl, rfl, rfl, by decide +kernel, rfl, by decide +kernel, by decide +kernel⟩
def dd__law_plus : He.DefD := ⟨("_law_plus", none), "_law_plus", "_law_plus", defArgs st__law_plus, defBody st__law_plus, defScope st__law_plus, [], []⟩
abbrev st__law_times : Stmt := top 26
theorem sc__law_times : FnScope ["_law_one", "_law_other"] ["_law_one", "_law_other"] (defScope st__law_times) := ⟨rfl, rfl, rfl, by decide +kernel, rfl, by decide +kernel, by decide +kernel⟩
def dd__law_times : He.DefD := ⟨("_law_times", none), "_law_times", "_law_times", defArgs st__law_times, defBody st__law_times, defScope st__law_times, [], []⟩
abbrev st__law_mix : Stmt := top 27
theorem sc__law_mix : FnScope ["_law_rows", "_law_shares", "_law_long", "_law_found", "_law_row_here", "_law_share", "_law_mine", "_law_its"] ["_law_rows", "_law_shares", "_law_long"] (defScope st__law_mix) := ⟨rfl, rfl, rfl, by decide +kernel, rfl, by decide +kernel, by decide +kernel⟩
def dd__law_mix : He.DefD := ⟨("_law_mix", none), "_law_mix", "_law_mix", defArgs st__law_mix, defBody st__law_mix, defScope st__law_mix, [], []⟩
abbrev st__law_whole : Stmt := top 28
theorem sc__law_whole : FnScope ["_law_thing"] ["_law_thing"] (defScope st__law_whole) := ⟨rfl, rfl, rfl, by decide +kernel, rfl, by decide +kernel, by decide +kernel⟩
def dd__law_whole : He.DefD := ⟨("_law_whole", none), "_law_whole", "_law_whole", defArgs st__law_whole, defBody st__law_whole, defScope st__law_whole, [], []⟩
abbrev st__law_is_row : Stmt := top 29
theorem sc__law_is_row : FnScope ["_law_found", "_law_long", "_law_one"] ["_law_found", "_law_long"] (defScope st__law_is_row) := ⟨rfl, rfl, rfl, by decide +kernel, rfl, by decide +kernel, by decide +kernel⟩
def dd__law_is_row : He.DefD := ⟨("_law_is_row", none), "_law_is_row", "_law_is_row", defArgs st__law_is_row, defBody st__law_is_row, defScope st__law_is_row, [], []⟩
abbrev st__law_is_table : Stmt := top 30
theorem sc__law_is_table : FnScope ["_law_found", "_law_many", "_law_wide", "_law_row_here"] ["_law_found", "_law_many", "_law_wide"] (defScope st__law_is_table) := ⟨rfl, rfl, rfl, by decide +kernel, rfl, by decide +kernel, by decide +kernel⟩
def dd__law_is_table : He.DefD := ⟨("_law_is_table", none), "_law_is_table", "_law_is_table", defArgs st__law_is_table, defBody st__law_is_table, defScope st__law_is_table, [], []⟩
abbrev st__law_table : Stmt := top 31
theorem sc__law_table : FnScope ["_law_cells", "_law_wide", "_law_mixing", "_law_table_here", "_law_k", "_law_number", "_law_row_here", "_law_shares"] ["_law_cells", "_law_wide", "_law_mixing"] (defScope st__law_table) := ⟨rfl, rfl, rfl, by decide +kernel, rfl, by decide +kernel, by decide +kernel⟩
def dd__law_table : He.DefD := ⟨("_law_table", none), "_law_table", "_law_table", defArgs st__law_table, defBody st__law_table, defScope st__law_table, [], []⟩
abbrev st__law_deed : Stmt := top 32
theorem sc__law_deed : FnScope ["_law_number", "_law_many", "_law_way", "_law_i", "_law_j", "_law_by"] ["_law_number", "_law_many"] (defScope st__law_deed) := ⟨rfl, rfl, rfl, by decide +kernel, rfl, by decide +kernel, by decide +kernel⟩
def dd__law_deed : He.DefD := ⟨("_law_deed", none), "_law_deed", "_law_deed", defArgs st__law_deed, defBody st__law_deed, defScope st__law_deed, [], []⟩
abbrev st__law_done : Stmt := top 33
theorem sc__law_done : FnScope ["_law_table_here", "_law_deeds", "_law_found", "_law_row_here", "_law_deed_here", "_law_i", "_law_held", "_law_one", "_law_its"] ["_law_table_here", "_law_deeds"] (defScope st__law_done) := ⟨rfl, rfl, rfl, by decide +kernel, rfl, by decide +kernel, by decide +kernel⟩
def dd__law_done : He.DefD := ⟨("_law_done", none), "_law_done", "_law_done", defArgs st__law_done, defBody st__law_done, defScope st__law_done, [], []⟩
abbrev st_law : Stmt := top 34
theorem sc_law : FnScope ["_law_script", "_law_many", "_law_wide", "_law_table_here", "_law_k", "_law_deeds", "_law_cell", "_law_handed", "_law_row_here", "_law_found", "_law_due", "_law_same_one", "_law_half"] ["_law_script"] (defScope st_law) := ⟨rfl, rfl, rfl, by decide +kernel, rfl, by decide +kernel, by decide +kernel⟩
def dd_law : He.DefD := ⟨("law", none), "law", "law", defArgs st_law, defBody st_law, defScope st_law, [], []⟩
def fn : List He.DefD := [dd_is_whole, dd_shared, dd_is_ratio, dd_ratio, dd_plus, dd_times, dd_added, dd_scaled, dd_are_unlike, dd_is_deed, dd_done, dd__law_cell_at, dd__law_great, dd__law_low, dd__law_ratio, dd__law_row, dd__law_plus, dd__law_times, dd__law_mix, dd__law_whole, dd__law_is_row, dd__law_is_table, dd__law_table, dd__law_deed, dd__law_done, dd_law]
def blt : List Str := ["abs", "all", "bool", "divmod", "int", "isinstance", "len", "list", "max", "range", "str", "tuple", "zip"]
def fa : List He.Fa := [.glo "is_whole", .glo "shared", .glo "is_ratio", .glo "ratio", .glo "plus", .glo "times", .glo "added", .glo "scaled", .glo "are_unlike", .glo "is_deed", .glo "done", .glo "_law_cell_at", .glo "_law_great", .glo "_law_low", .glo "_law_ratio", .glo "_law_row", .glo "_law_plus", .glo "_law_times", .glo "_law_mix", .glo "_law_whole", .glo "_law_is_row", .glo "_law_is_table", .glo "_law_table", .glo "_law_deed", .glo "_law_done", .glo "law", .free "abs", .free "all", .free "bool", .free "divmod", .free "int", .free "isinstance", .free "len", .free "list", .free "max", .free "range", .free "str", .free "tuple", .free "zip"]
def xs : List String := ["PlaneError", "NoRatio", "NoDeed"]
def cs : List (Str × Val) := [("NOUGHT", c_NOUGHT)]
abbrev R : PySem.W.OpenRow := PySem.W.OpenLaw.row PySem.Challenge.rw_nearplane_k21_deeds_done
abbrev hk : PySem.W.Hook := hookN 4 fa fn xs cs
def ob (s : PySem.W.SharedT) : AlN := obsNG 4 fa fn xs cs (HandSHeadRun.getT s)
theorem ob_eq (s : PySem.W.SharedT) : ob s = hk.obs s.abs := obsNG_eq (HandSHeadRun.getT_eq s)
def loose : List Str := (["PlaneError", "NoRatio", "NoDeed", "NOUGHT", "is_whole", "shared", "is_ratio", "ratio", "plus", "times", "added", "scaled", "are_unlike", "is_deed", "done", "_law_cell_at", "_law_great", "_law_low", "_law_ratio", "_law_row", "_law_plus", "_law_times", "_law_mix", "_law_whole", "_law_is_row", "_law_is_table", "_law_table", "_law_deed", "_law_done"] : List Str)
theorem run (w : World) : HandSHeadRun.RunEq R (PySem.W.view R.prog [34]) hk ob 20000 loose w := by
  intro os
  kernel_rfl
section
variable {P : Program} {w : World} {K : PySem.W.Frag} {mg : Str → Option Value} {h : Heap}
theorem blt_ok : ∀ x ∈ blt, He.Fa.free x ∈ fa := by
  intro x hx
  unfold blt at hx
  unfold fa
  simp only [List.mem_cons, List.not_mem_nil, or_false] at hx
  rcases hx with rfl | rfl | rfl | rfl | rfl | rfl | rfl | rfl | rfl | rfl | rfl | rfl | rfl <;> simp
def md_is_whole : Md := ⟨[], [], cs, blt, xs⟩
theorem den_is_whole : denSs (dcOf md_is_whole ["thing"] (defScope st_is_whole)) 100 (defBody st_is_whole) = some l_whole.b := by
  kernel_rfl
def md_shared : Md := ⟨("is_whole", (f_is_whole, 1)) :: md_is_whole.fn, [], cs, blt, xs⟩
theorem den_shared : denSs (dcOf md_shared ["one", "other", "rest"] (defScope st_shared)) 100 (defBody st_shared) = some p_shared.b := by
  kernel_rfl
def md_is_ratio : Md := ⟨("shared", (f_shared, 2)) :: md_shared.fn, [], cs, blt, xs⟩
theorem den_is_ratio : denSs (dcOf md_is_ratio ["thing"] (defScope st_is_ratio)) 100 (defBody st_is_ratio) = some p_is_ratio.b := by
  kernel_rfl
def md_ratio : Md := ⟨("is_ratio", (f_is_ratio, 1)) :: md_is_ratio.fn, [], cs, blt, xs⟩
theorem den_ratio : denSs (dcOf md_ratio ["top", "bottom", "by"] (defScope st_ratio)) 100 (defBody st_ratio) = some p_ratio.b := by
  kernel_rfl
def md_plus : Md := ⟨("ratio", (f_ratio, 2)) :: md_ratio.fn, [], cs, blt, xs⟩
theorem den_plus : denSs (dcOf md_plus ["one", "other"] (defScope st_plus)) 100 (defBody st_plus) = some p_plus.b := by
  kernel_rfl
def md_times : Md := ⟨("plus", (f_plus, 2)) :: md_plus.fn, [], cs, blt, xs⟩
theorem den_times : denSs (dcOf md_times ["one", "other"] (defScope st_times)) 100 (defBody st_times) = some p_times.b := by
  kernel_rfl
def md_added : Md := ⟨("times", (f_times, 2)) :: md_times.fn, [], cs, blt, xs⟩
theorem den_added : denSs (dcOf md_added ["one", "other", "mine", "its"] (defScope st_added)) 100 (defBody st_added) = some p_added.b := by
  kernel_rfl
def md_scaled : Md := ⟨("added", (f_added, 2)) :: md_added.fn, [], cs, blt, xs⟩
theorem den_scaled : denSs (dcOf md_scaled ["row", "by", "one"] (defScope st_scaled)) 100 (defBody st_scaled) = some p_scaled.b := by
  kernel_rfl
def md_are_unlike : Md := ⟨("scaled", (f_scaled, 2)) :: md_scaled.fn, [], cs, blt, xs⟩
theorem den_are_unlike : denSs (dcOf md_are_unlike ["one", "other", "many"] (defScope st_are_unlike)) 100 (defBody st_are_unlike) = some p_are_unlike.b := by
  kernel_rfl
def md_is_deed : Md := ⟨("are_unlike", (f_are_unlike, 3)) :: md_are_unlike.fn, [], cs, blt, xs⟩
theorem den_is_deed : denSs (dcOf md_is_deed ["thing", "many"] (defScope st_is_deed)) 100 (defBody st_is_deed) = some p_is_deed.b := by
  kernel_rfl
def md_done : Md := ⟨("is_deed", (f_is_deed, 2)) :: md_is_deed.fn, [], cs, blt, xs⟩
theorem den_done : denSs (dcOf md_done ["table", "deeds", "deed", "found", "row", "at", "held"] (defScope st_done)) 100 (defBody st_done) = some p_done.b := by
  kernel_rfl
def md__law_cell_at : Md := ⟨("done", (f_done, 2)) :: md_done.fn, [], cs, blt, xs⟩
theorem den__law_cell_at : denSs (dcOf md__law_cell_at ["_law_script", "_law_k"] (defScope st__law_cell_at)) 100 (defBody st__law_cell_at) = some l_cell_at.b := by
  kernel_rfl
def md__law_great : Md := ⟨("_law_cell_at", (f__law_cell_at, 2)) :: md__law_cell_at.fn, [], cs, blt, xs⟩
theorem den__law_great : denSs (dcOf md__law_great ["_law_cell", "_law_bound"] (defScope st__law_great)) 100 (defBody st__law_great) = some l_great_8.b := by
  kernel_rfl
def md__law_low : Md := ⟨("_law_great", (f__law_great, 1)) :: md__law_great.fn, [], cs, blt, xs⟩
theorem den__law_low : denSs (dcOf md__law_low ["_law_top", "_law_bottom", "_law_one", "_law_other"] (defScope st__law_low)) 100 (defBody st__law_low) = some l_low.b := by
  kernel_rfl
def md__law_ratio : Md := ⟨("_law_low", (f__law_low, 2)) :: md__law_low.fn, [], cs, blt, xs⟩
theorem den__law_ratio : denSs (dcOf md__law_ratio ["_law_number", "_law_way", "_law_top"] (defScope st__law_ratio)) 100 (defBody st__law_ratio) = some l_ratio_3.b := by
  kernel_rfl
def md__law_row : Md := ⟨("_law_ratio", (f__law_ratio, 1)) :: md__law_ratio.fn, [], cs, blt, xs⟩
theorem den__law_row : denSs (dcOf md__law_row ["_law_number", "_law_long", "_law_row_here", "_law_k", "_law_one"] (defScope st__law_row)) 100 (defBody st__law_row) = some l_row.b := by
  kernel_rfl
def md__law_plus : Md := ⟨("_law_row", (f__law_row, 2)) :: md__law_row.fn, [], cs, blt, xs⟩
theorem den__law_plus : denSs (dcOf md__law_plus ["_law_one", "_law_other"] (defScope st__law_plus)) 100 (defBody st__law_plus) = some l_plus_2.b := by
  kernel_rfl
def md__law_times : Md := ⟨("_law_plus", (f__law_plus, 2)) :: md__law_plus.fn, [], cs, blt, xs⟩
theorem den__law_times : denSs (dcOf md__law_times ["_law_one", "_law_other"] (defScope st__law_times)) 100 (defBody st__law_times) = some l_times_2.b := by
  kernel_rfl
def md__law_mix : Md := ⟨("_law_times", (f__law_times, 2)) :: md__law_times.fn, [], cs, blt, xs⟩
theorem den__law_mix : denSs (dcOf md__law_mix ["_law_rows", "_law_shares", "_law_long", "_law_found", "_law_row_here", "_law_share", "_law_mine", "_law_its"] (defScope st__law_mix)) 100 (defBody st__law_mix) = some l_mix.b := by
  kernel_rfl
def md__law_whole : Md := ⟨("_law_mix", (f__law_mix, 3)) :: md__law_mix.fn, [], cs, blt, xs⟩
theorem den__law_whole : denSs (dcOf md__law_whole ["_law_thing"] (defScope st__law_whole)) 100 (defBody st__law_whole) = some l_whole.b := by
  kernel_rfl
def md__law_is_row : Md := ⟨("_law_whole", (f__law_whole, 1)) :: md__law_whole.fn, [], cs, blt, xs⟩
theorem den__law_is_row : denSs (dcOf md__law_is_row ["_law_found", "_law_long", "_law_one"] (defScope st__law_is_row)) 100 (defBody st__law_is_row) = some l_is_row_2.b := by
  kernel_rfl
def md__law_is_table : Md := ⟨("_law_is_row", (f__law_is_row, 2)) :: md__law_is_row.fn, [], cs, blt, xs⟩
theorem den__law_is_table : denSs (dcOf md__law_is_table ["_law_found", "_law_many", "_law_wide", "_law_row_here"] (defScope st__law_is_table)) 100 (defBody st__law_is_table) = some l_is_table_2.b := by
  kernel_rfl
def md__law_table : Md := ⟨("_law_is_table", (f__law_is_table, 3)) :: md__law_is_table.fn, [], cs, blt, xs⟩
theorem den__law_table : denSs (dcOf md__law_table ["_law_cells", "_law_wide", "_law_mixing", "_law_table_here", "_law_k", "_law_number", "_law_row_here", "_law_shares"] (defScope st__law_table)) 100 (defBody st__law_table) = some l_table_3.b := by
  kernel_rfl
def md__law_deed : Md := ⟨("_law_table", (f__law_table, 3)) :: md__law_table.fn, [], cs, blt, xs⟩
theorem den__law_deed : denSs (dcOf md__law_deed ["_law_number", "_law_many", "_law_way", "_law_i", "_law_j", "_law_by"] (defScope st__law_deed)) 100 (defBody st__law_deed) = some l_deed.b := by
  kernel_rfl
def md__law_done : Md := ⟨("_law_deed", (f__law_deed, 2)) :: md__law_deed.fn, [], cs, blt, xs⟩
theorem den__law_done : denSs (dcOf md__law_done ["_law_table_here", "_law_deeds", "_law_found", "_law_row_here", "_law_deed_here", "_law_i", "_law_held", "_law_one", "_law_its"] (defScope st__law_done)) 100 (defBody st__law_done) = some l_done.b := by
  kernel_rfl
def md_law : Md := ⟨("_law_done", (f__law_done, 2)) :: md__law_done.fn, [], cs, blt, xs⟩
theorem den_law : denSs (dcOf md_law ["_law_script", "_law_many", "_law_wide", "_law_table_here", "_law_k", "_law_deeds", "_law_cell", "_law_handed", "_law_row_here", "_law_found", "_law_due", "_law_same_one", "_law_half"] (defScope st_law)) 100 (defBody st_law) = some law_k21.b := by
  kernel_rfl
theorem facts {f : Addr} (X : K.In h) (G : h.Ns mainGlobals mg) (hfa : mg ("law" : Str) = some (.ref f)) (c : SaysN fa fn xs cs K) :
    ∃ fd : FuncData, (∀ (s : Shared) (v : Value), BindsTo s fd ⟨[v], []⟩ [("_law_script", v)]) ∧ ∀ base : Heap, K.In base → base.Ns mainGlobals mg → FnOk P w K mg base (L2.CX P w) 26 f fd ["_law_script"] (spF ⟨K, caOf K, xs⟩ 1 f_law) := by
  obtain ⟨fd0, F0⟩ := c.d.def_ 0 (d := dd_is_whole) rfl
  have g0 := He.glo_ok X G (c.d.fact 0 (f := .glo "is_whole") rfl)
  have n0 : Binds K fd0 ["thing"] [] := FunD.bindsN F0 fun _ _ _ _ _ _ us hl => match us, hl with | [_], _ => rfl
  obtain ⟨fd1, F1⟩ := c.d.def_ 1 (d := dd_shared) rfl
  have g1 := He.glo_ok X G (c.d.fact 1 (f := .glo "shared") rfl)
  have n1 : Binds K fd1 ["one", "other"] [] := FunD.bindsN F1 fun _ _ _ _ _ _ us hl => match us, hl with | [_, _], _ => rfl
  obtain ⟨fd2, F2⟩ := c.d.def_ 2 (d := dd_is_ratio) rfl
  have g2 := He.glo_ok X G (c.d.fact 2 (f := .glo "is_ratio") rfl)
  have n2 : Binds K fd2 ["thing"] [] := FunD.bindsN F2 fun _ _ _ _ _ _ us hl => match us, hl with | [_], _ => rfl
  obtain ⟨fd3, F3⟩ := c.d.def_ 3 (d := dd_ratio) rfl
  have g3 := He.glo_ok X G (c.d.fact 3 (f := .glo "ratio") rfl)
  have n3 : Binds K fd3 ["top", "bottom"] [] := FunD.bindsN F3 fun _ _ _ _ _ _ us hl => match us, hl with | [_, _], _ => rfl
  obtain ⟨fd4, F4⟩ := c.d.def_ 4 (d := dd_plus) rfl
  have g4 := He.glo_ok X G (c.d.fact 4 (f := .glo "plus") rfl)
  have n4 : Binds K fd4 ["one", "other"] [] := FunD.bindsN F4 fun _ _ _ _ _ _ us hl => match us, hl with | [_, _], _ => rfl
  obtain ⟨fd5, F5⟩ := c.d.def_ 5 (d := dd_times) rfl
  have g5 := He.glo_ok X G (c.d.fact 5 (f := .glo "times") rfl)
  have n5 : Binds K fd5 ["one", "other"] [] := FunD.bindsN F5 fun _ _ _ _ _ _ us hl => match us, hl with | [_, _], _ => rfl
  obtain ⟨fd6, F6⟩ := c.d.def_ 6 (d := dd_added) rfl
  have g6 := He.glo_ok X G (c.d.fact 6 (f := .glo "added") rfl)
  have n6 : Binds K fd6 ["one", "other"] [] := FunD.bindsN F6 fun _ _ _ _ _ _ us hl => match us, hl with | [_, _], _ => rfl
  obtain ⟨fd7, F7⟩ := c.d.def_ 7 (d := dd_scaled) rfl
  have g7 := He.glo_ok X G (c.d.fact 7 (f := .glo "scaled") rfl)
  have n7 : Binds K fd7 ["row", "by"] [] := FunD.bindsN F7 fun _ _ _ _ _ _ us hl => match us, hl with | [_, _], _ => rfl
  obtain ⟨fd8, F8⟩ := c.d.def_ 8 (d := dd_are_unlike) rfl
  have g8 := He.glo_ok X G (c.d.fact 8 (f := .glo "are_unlike") rfl)
  have n8 : Binds K fd8 ["one", "other", "many"] [] := FunD.bindsN F8 fun _ _ _ _ _ _ us hl => match us, hl with | [_, _, _], _ => rfl
  obtain ⟨fd9, F9⟩ := c.d.def_ 9 (d := dd_is_deed) rfl
  have g9 := He.glo_ok X G (c.d.fact 9 (f := .glo "is_deed") rfl)
  have n9 : Binds K fd9 ["thing", "many"] [] := FunD.bindsN F9 fun _ _ _ _ _ _ us hl => match us, hl with | [_, _], _ => rfl
  obtain ⟨fd10, F10⟩ := c.d.def_ 10 (d := dd_done) rfl
  have g10 := He.glo_ok X G (c.d.fact 10 (f := .glo "done") rfl)
  have n10 : Binds K fd10 ["table", "deeds"] [] := FunD.bindsN F10 fun _ _ _ _ _ _ us hl => match us, hl with | [_, _], _ => rfl
  obtain ⟨fd11, F11⟩ := c.d.def_ 11 (d := dd__law_cell_at) rfl
  have g11 := He.glo_ok X G (c.d.fact 11 (f := .glo "_law_cell_at") rfl)
  have n11 : Binds K fd11 ["_law_script", "_law_k"] [] := FunD.bindsN F11 fun _ _ _ _ _ _ us hl => match us, hl with | [_, _], _ => rfl
  obtain ⟨fd12, F12⟩ := c.d.def_ 12 (d := dd__law_great) rfl
  have g12 := He.glo_ok X G (c.d.fact 12 (f := .glo "_law_great") rfl)
  have n12 : Binds K fd12 ["_law_cell"] [] := FunD.bindsN F12 fun _ _ _ _ _ _ us hl => match us, hl with | [_], _ => rfl
  obtain ⟨fd13, F13⟩ := c.d.def_ 13 (d := dd__law_low) rfl
  have g13 := He.glo_ok X G (c.d.fact 13 (f := .glo "_law_low") rfl)
  have n13 : Binds K fd13 ["_law_top", "_law_bottom"] [] := FunD.bindsN F13 fun _ _ _ _ _ _ us hl => match us, hl with | [_, _], _ => rfl
  obtain ⟨fd14, F14⟩ := c.d.def_ 14 (d := dd__law_ratio) rfl
  have g14 := He.glo_ok X G (c.d.fact 14 (f := .glo "_law_ratio") rfl)
  have n14 : Binds K fd14 ["_law_number"] [] := FunD.bindsN F14 fun _ _ _ _ _ _ us hl => match us, hl with | [_], _ => rfl
  obtain ⟨fd15, F15⟩ := c.d.def_ 15 (d := dd__law_row) rfl
  have g15 := He.glo_ok X G (c.d.fact 15 (f := .glo "_law_row") rfl)
  have n15 : Binds K fd15 ["_law_number", "_law_long"] [] := FunD.bindsN F15 fun _ _ _ _ _ _ us hl => match us, hl with | [_, _], _ => rfl
  obtain ⟨fd16, F16⟩ := c.d.def_ 16 (d := dd__law_plus) rfl
  have g16 := He.glo_ok X G (c.d.fact 16 (f := .glo "_law_plus") rfl)
  have n16 : Binds K fd16 ["_law_one", "_law_other"] [] := FunD.bindsN F16 fun _ _ _ _ _ _ us hl => match us, hl with | [_, _], _ => rfl
  obtain ⟨fd17, F17⟩ := c.d.def_ 17 (d := dd__law_times) rfl
  have g17 := He.glo_ok X G (c.d.fact 17 (f := .glo "_law_times") rfl)
  have n17 : Binds K fd17 ["_law_one", "_law_other"] [] := FunD.bindsN F17 fun _ _ _ _ _ _ us hl => match us, hl with | [_, _], _ => rfl
  obtain ⟨fd18, F18⟩ := c.d.def_ 18 (d := dd__law_mix) rfl
  have g18 := He.glo_ok X G (c.d.fact 18 (f := .glo "_law_mix") rfl)
  have n18 : Binds K fd18 ["_law_rows", "_law_shares", "_law_long"] [] := FunD.bindsN F18 fun _ _ _ _ _ _ us hl => match us, hl with | [_, _, _], _ => rfl
  obtain ⟨fd19, F19⟩ := c.d.def_ 19 (d := dd__law_whole) rfl
  have g19 := He.glo_ok X G (c.d.fact 19 (f := .glo "_law_whole") rfl)
  have n19 : Binds K fd19 ["_law_thing"] [] := FunD.bindsN F19 fun _ _ _ _ _ _ us hl => match us, hl with | [_], _ => rfl
  obtain ⟨fd20, F20⟩ := c.d.def_ 20 (d := dd__law_is_row) rfl
  have g20 := He.glo_ok X G (c.d.fact 20 (f := .glo "_law_is_row") rfl)
  have n20 : Binds K fd20 ["_law_found", "_law_long"] [] := FunD.bindsN F20 fun _ _ _ _ _ _ us hl => match us, hl with | [_, _], _ => rfl
  obtain ⟨fd21, F21⟩ := c.d.def_ 21 (d := dd__law_is_table) rfl
  have g21 := He.glo_ok X G (c.d.fact 21 (f := .glo "_law_is_table") rfl)
  have n21 : Binds K fd21 ["_law_found", "_law_many", "_law_wide"] [] := FunD.bindsN F21 fun _ _ _ _ _ _ us hl => match us, hl with | [_, _, _], _ => rfl
  obtain ⟨fd22, F22⟩ := c.d.def_ 22 (d := dd__law_table) rfl
  have g22 := He.glo_ok X G (c.d.fact 22 (f := .glo "_law_table") rfl)
  have n22 : Binds K fd22 ["_law_cells", "_law_wide", "_law_mixing"] [] := FunD.bindsN F22 fun _ _ _ _ _ _ us hl => match us, hl with | [_, _, _], _ => rfl
  obtain ⟨fd23, F23⟩ := c.d.def_ 23 (d := dd__law_deed) rfl
  have g23 := He.glo_ok X G (c.d.fact 23 (f := .glo "_law_deed") rfl)
  have n23 : Binds K fd23 ["_law_number", "_law_many"] [] := FunD.bindsN F23 fun _ _ _ _ _ _ us hl => match us, hl with | [_, _], _ => rfl
  obtain ⟨fd24, F24⟩ := c.d.def_ 24 (d := dd__law_done) rfl
  have g24 := He.glo_ok X G (c.d.fact 24 (f := .glo "_law_done") rfl)
  have n24 : Binds K fd24 ["_law_table_here", "_law_deeds"] [] := FunD.bindsN F24 fun _ _ _ _ _ _ us hl => match us, hl with | [_, _], _ => rfl
  obtain ⟨fd25, F25⟩ := c.d.def_ 25 (d := dd_law) rfl
  have e := hfa.symm.trans (He.glo_ok X G (c.d.fact 25 (f := .glo "law") rfl))
  cases e
  have b := FunD.bindsA (ps := ["_law_script"]) F25 fun _ _ _ _ _ _ us hl => match us, hl with | [_], _ => rfl
  refine ⟨fd25, fun s v => b s [v] rfl, fun base _ _ => ?_⟩
  have M0 : Mok P w K mg base ⟨K, caOf K, xs⟩ md_is_whole 0 := c.mok X G blt_ok
  have M1 : Mok P w K mg base ⟨K, caOf K, xs⟩ md_shared 1 := M0.add F0 sc_is_whole den_is_whole g0 n0 (by decide +kernel)
  have M2 : Mok P w K mg base ⟨K, caOf K, xs⟩ md_is_ratio 2 := M1.add F1 sc_shared den_shared g1 n1 (by decide +kernel)
  have M3 : Mok P w K mg base ⟨K, caOf K, xs⟩ md_ratio 3 := M2.add F2 sc_is_ratio den_is_ratio g2 n2 (by decide +kernel)
  have M4 : Mok P w K mg base ⟨K, caOf K, xs⟩ md_plus 4 := M3.add F3 sc_ratio den_ratio g3 n3 (by decide +kernel)
  have M5 : Mok P w K mg base ⟨K, caOf K, xs⟩ md_times 5 := M4.add F4 sc_plus den_plus g4 n4 (by decide +kernel)
  have M6 : Mok P w K mg base ⟨K, caOf K, xs⟩ md_added 6 := M5.add F5 sc_times den_times g5 n5 (by decide +kernel)
  have M7 : Mok P w K mg base ⟨K, caOf K, xs⟩ md_scaled 7 := M6.add F6 sc_added den_added g6 n6 (by decide +kernel)
  have M8 : Mok P w K mg base ⟨K, caOf K, xs⟩ md_are_unlike 8 := M7.add F7 sc_scaled den_scaled g7 n7 (by decide +kernel)
  have M9 : Mok P w K mg base ⟨K, caOf K, xs⟩ md_is_deed 9 := M8.add F8 sc_are_unlike den_are_unlike g8 n8 (by decide +kernel)
  have M10 : Mok P w K mg base ⟨K, caOf K, xs⟩ md_done 10 := M9.add F9 sc_is_deed den_is_deed g9 n9 (by decide +kernel)
  have M11 : Mok P w K mg base ⟨K, caOf K, xs⟩ md__law_cell_at 11 := M10.add F10 sc_done den_done g10 n10 (by decide +kernel)
  have M12 : Mok P w K mg base ⟨K, caOf K, xs⟩ md__law_great 12 := M11.add F11 sc__law_cell_at den__law_cell_at g11 n11 (by decide +kernel)
  have M13 : Mok P w K mg base ⟨K, caOf K, xs⟩ md__law_low 13 := M12.add F12 sc__law_great den__law_great g12 n12 (by decide +kernel)
  have M14 : Mok P w K mg base ⟨K, caOf K, xs⟩ md__law_ratio 14 := M13.add F13 sc__law_low den__law_low g13 n13 (by decide +kernel)
  have M15 : Mok P w K mg base ⟨K, caOf K, xs⟩ md__law_row 15 := M14.add F14 sc__law_ratio den__law_ratio g14 n14 (by decide +kernel)
  have M16 : Mok P w K mg base ⟨K, caOf K, xs⟩ md__law_plus 16 := M15.add F15 sc__law_row den__law_row g15 n15 (by decide +kernel)
  have M17 : Mok P w K mg base ⟨K, caOf K, xs⟩ md__law_times 17 := M16.add F16 sc__law_plus den__law_plus g16 n16 (by decide +kernel)
  have M18 : Mok P w K mg base ⟨K, caOf K, xs⟩ md__law_mix 18 := M17.add F17 sc__law_times den__law_times g17 n17 (by decide +kernel)
  have M19 : Mok P w K mg base ⟨K, caOf K, xs⟩ md__law_whole 19 := M18.add F18 sc__law_mix den__law_mix g18 n18 (by decide +kernel)
  have M20 : Mok P w K mg base ⟨K, caOf K, xs⟩ md__law_is_row 20 := M19.add F19 sc__law_whole den__law_whole g19 n19 (by decide +kernel)
  have M21 : Mok P w K mg base ⟨K, caOf K, xs⟩ md__law_is_table 21 := M20.add F20 sc__law_is_row den__law_is_row g20 n20 (by decide +kernel)
  have M22 : Mok P w K mg base ⟨K, caOf K, xs⟩ md__law_table 22 := M21.add F21 sc__law_is_table den__law_is_table g21 n21 (by decide +kernel)
  have M23 : Mok P w K mg base ⟨K, caOf K, xs⟩ md__law_deed 23 := M22.add F22 sc__law_table den__law_table g22 n22 (by decide +kernel)
  have M24 : Mok P w K mg base ⟨K, caOf K, xs⟩ md__law_done 24 := M23.add F23 sc__law_deed den__law_deed g23 n23 (by decide +kernel)
  have M25 : Mok P w K mg base ⟨K, caOf K, xs⟩ md_law 25 := M24.add F24 sc__law_done den__law_done g24 n24 (by decide +kernel)
  exact M25.fnOk F25 sc_law den_law
end
end Lk21
end
section
set_option Elab.async false
set_option autoImplicit false
/-! Running the small language by rewriting: each form waits for its part's outcome, nothing behind it is touched before. -/
namespace Mn

section
variable (ρ : Env) (M : Store) (a b c : E) (f g : Op) (x y v w : Val) (es : List E) (k : String)
def kBin2 (f : Op) (x : Val) : R Val → R Val
  | .ok y M => R.of (f x y M)
  | .exc c M => .exc c M
  | .bad => .bad
def kBin1 (f : Op) (b : E) (ρ : Env) : R Val → R Val
  | .ok x M => kBin2 f x (b ρ M)
  | .exc c M => .exc c M
  | .bad => .bad
theorem eBin_k : eBin f a b ρ M = kBin1 f b ρ (a ρ M) := by
  unfold eBin
  cases a ρ M with
  | ok x M1 =>
    show (b ρ M1).bind _ = kBin2 f x (b ρ M1)
    cases b ρ M1 <;> rfl
  | _ => rfl
theorem kBin1_ok : kBin1 f b ρ (.ok x M) = kBin2 f x (b ρ M) := id rfl
theorem kBin2_ok : kBin2 f x (.ok y M) = R.of (f x y M) := id rfl
def kUn (f : U) : R Val → R Val
  | .ok x M => R.of (f x M)
  | .exc c M => .exc c M
  | .bad => .bad
theorem eUn_k (f : U) : eUn f a ρ M = kUn f (a ρ M) := by
  unfold eUn
  cases a ρ M <;> rfl
theorem kUn_ok (f : U) : kUn f (.ok x M) = R.of (f x M) := id rfl
theorem of_some : R.of (some (v, M)) = .ok v M := id rfl
theorem eC_k : eC v ρ M = .ok v M := id rfl
theorem eVar_k {i : Nat} : eVar i ρ M = match ρ[i]? with
  | some (some v) => .ok v M
  | _ => .bad := rfl
def kL2 (v : Val) : R (List Val) → R (List Val)
  | .ok vs M => .ok (v :: vs) M
  | .exc c M => .exc c M
  | .bad => .bad
def kL1 (es : List E) (ρ : Env) : R Val → R (List Val)
  | .ok v M => kL2 v (evL es ρ M)
  | .exc c M => .exc c M
  | .bad => .bad
theorem evL_nil : evL [] ρ M = .ok [] M := id rfl
theorem evL_k : evL (a :: es) ρ M = kL1 es ρ (a ρ M) := by
  show (a ρ M).bind _ = _
  cases a ρ M with
  | ok x M1 =>
    show (evL es ρ M1).bind _ = kL2 x (evL es ρ M1)
    cases evL es ρ M1 <;> rfl
  | _ => rfl
theorem kL1_ok : kL1 es ρ (.ok v M) = kL2 v (evL es ρ M) := id rfl
theorem kL2_ok (vs : List Val) : kL2 v (.ok vs M) = .ok (v :: vs) M := id rfl
def kAnd (b : E) (ρ : Env) : R Val → R Val
  | .ok (.bl true) M => b ρ M
  | .ok (.bl false) M => .ok (.bl false) M
  | .ok _ _ => .bad
  | .exc c M => .exc c M
  | .bad => .bad
theorem eAnd_k : eAnd a b ρ M = kAnd b ρ (a ρ M) := by
  unfold eAnd
  cases a ρ M with
  | ok x M1 =>
    cases x with
    | bl q => cases q <;> rfl
    | _ => rfl
  | _ => rfl
theorem kAnd_t : kAnd b ρ (.ok (.bl true) M) = b ρ M := id rfl
theorem kAnd_f : kAnd b ρ (.ok (.bl false) M) = .ok (.bl false) M := id rfl
def kOr (b : E) (ρ : Env) : R Val → R Val
  | .ok (.bl true) M => .ok (.bl true) M
  | .ok (.bl false) M => b ρ M
  | .ok _ _ => .bad
  | .exc c M => .exc c M
  | .bad => .bad
theorem eOr_k : eOr a b ρ M = kOr b ρ (a ρ M) := by
  unfold eOr
  cases a ρ M with
  | ok x M1 =>
    cases x with
    | bl q => cases q <;> rfl
    | _ => rfl
  | _ => rfl
theorem kOr_t : kOr b ρ (.ok (.bl true) M) = .ok (.bl true) M := id rfl
theorem kOr_f : kOr b ρ (.ok (.bl false) M) = b ρ M := id rfl
def kNot : R Val → R Val
  | .ok (.bl q) M => .ok (.bl (!q)) M
  | .ok _ _ => .bad
  | .exc c M => .exc c M
  | .bad => .bad
theorem eNot_k : eNot a ρ M = kNot (a ρ M) := by
  unfold eNot
  cases a ρ M with
  | ok x M1 => cases x <;> rfl
  | _ => rfl
theorem kNot_ok (q : Bool) : kNot (.ok (.bl q) M) = .ok (.bl (!q)) M := id rfl
def kCh3 (g : Op) (y : Val) : R Val → R Val
  | .ok z M => R.of (g y z M)
  | .exc c M => .exc c M
  | .bad => .bad
def kCh2 (g : Op) (c : E) (y : Val) (ρ : Env) : R Val → R Val
  | .ok (.bl true) M => kCh3 g y (c ρ M)
  | .ok (.bl false) M => .ok (.bl false) M
  | .ok _ _ => .bad
  | .exc c M => .exc c M
  | .bad => .bad
def kCh1 (f g : Op) (x : Val) (c : E) (ρ : Env) : R Val → R Val
  | .ok y M => kCh2 g c y ρ (R.of (f x y M))
  | .exc c M => .exc c M
  | .bad => .bad
def kCh0 (f g : Op) (b c : E) (ρ : Env) : R Val → R Val
  | .ok x M => kCh1 f g x c ρ (b ρ M)
  | .exc c M => .exc c M
  | .bad => .bad
theorem eChain_k : eChain f g a b c ρ M = kCh0 f g b c ρ (a ρ M) := by
  unfold eChain
  cases a ρ M with
  | ok x M1 =>
    show (b ρ M1).bind _ = kCh1 f g x c ρ (b ρ M1)
    cases b ρ M1 with
    | ok y M2 =>
      show (R.of (f x y M2)).bind _ = kCh2 g c y ρ (R.of (f x y M2))
      cases R.of (f x y M2) with
      | ok r M3 =>
        cases r with
        | bl q =>
          cases q with
          | true =>
            show (c ρ M3).bind _ = kCh3 g y (c ρ M3)
            cases c ρ M3 <;> rfl
          | false => rfl
        | _ => rfl
      | _ => rfl
    | _ => rfl
  | _ => rfl
theorem kCh0_ok : kCh0 f g b c ρ (.ok x M) = kCh1 f g x c ρ (b ρ M) := id rfl
theorem kCh1_ok : kCh1 f g x c ρ (.ok y M) = kCh2 g c y ρ (R.of (f x y M)) := id rfl
theorem kCh2_t : kCh2 g c y ρ (.ok (.bl true) M) = kCh3 g y (c ρ M) := id rfl
theorem kCh2_f : kCh2 g c y ρ (.ok (.bl false) M) = .ok (.bl false) M := id rfl
theorem kCh3_ok : kCh3 g y (.ok x M) = R.of (g y x M) := id rfl
def kTup : R (List Val) → R Val
  | .ok vs M => if vs.length ≤ szLine then .ok (.tup vs) M else .bad
  | .exc c M => .exc c M
  | .bad => .bad
theorem eTup_k : eTup es ρ M = kTup (evL es ρ M) := by
  unfold eTup
  cases evL es ρ M <;> rfl
theorem kTup_ok {vs : List Val} (h : vs.length ≤ szLine) : kTup (.ok vs M) = .ok (.tup vs) M := if_pos h
theorem kTup_2 : kTup (.ok [x, y] M) = .ok (.tup [x, y]) M := id rfl
theorem kTup_3 : kTup (.ok [x, y, v] M) = .ok (.tup [x, y, v]) M := id rfl
theorem kTup_1 : kTup (.ok [x] M) = .ok (.tup [x]) M := id rfl
theorem kTup_4 : kTup (.ok [x, y, v, w] M) = .ok (.tup [x, y, v, w]) M := id rfl
def kLst : R (List Val) → R Val
  | .ok vs M => if vs.length ≤ szLine then .ok (.ref M.length) (M ++ [.lst vs]) else .bad
  | .exc c M => .exc c M
  | .bad => .bad
theorem eLst_k : eLst es ρ M = kLst (evL es ρ M) := by
  unfold eLst
  cases evL es ρ M <;> rfl
theorem kLst_ok {vs : List Val} (h : vs.length ≤ szLine) : kLst (.ok vs M) = .ok (.ref M.length) (M ++ [.lst vs]) := if_pos h
theorem kLst_0 : kLst (.ok [] M) = .ok (.ref M.length) (M ++ [.lst []]) := id rfl
theorem kLst_1 : kLst (.ok [x] M) = .ok (.ref M.length) (M ++ [.lst [x]]) := id rfl
theorem kLst_2 : kLst (.ok [x, y] M) = .ok (.ref M.length) (M ++ [.lst [x, y]]) := id rfl
theorem kLst_3 : kLst (.ok [x, y, v] M) = .ok (.ref M.length) (M ++ [.lst [x, y, v]]) := id rfl
theorem kLst_4 : kLst (.ok [x, y, v, w] M) = .ok (.ref M.length) (M ++ [.lst [x, y, v, w]]) := id rfl
theorem kLst_5 (u : Val) : kLst (.ok [x, y, v, w, u] M) = .ok (.ref M.length) (M ++ [.lst [x, y, v, w, u]]) := id rfl
theorem kLst_6 (u z : Val) : kLst (.ok [x, y, v, w, u, z] M) = .ok (.ref M.length) (M ++ [.lst [x, y, v, w, u, z]]) := id rfl
def kCall (F : Fn) : R (List Val) → R Val
  | .ok vs M => F vs M
  | .exc c M => .exc c M
  | .bad => .bad
theorem eCall_k (F : Fn) : eCall F es ρ M = kCall F (evL es ρ M) := by
  unfold eCall
  cases evL es ρ M <;> rfl
theorem kCall_ok (F : Fn) (vs : List Val) : kCall F (.ok vs M) = F vs M := id rfl
end
/-! statements -/
section
variable (ρ ρ' : Env) (M : Store) (a b c e : E) (s t : St) (x y v w : Val) (k : String)
def kSeq (t : St) : RS → RS
  | .nx ρ M => t ρ M
  | r => r
theorem sSeq_k : sSeq s t ρ M = kSeq t (s ρ M) := by
  unfold sSeq
  cases s ρ M <;> rfl
theorem kSeq_nx : kSeq t (.nx ρ M) = t ρ M := id rfl
theorem kSeq_ret : kSeq t (.ret v M) = .ret v M := id rfl
theorem kSeq_ct : kSeq t (.ct ρ M) = .ct ρ M := id rfl
theorem kSeq_bk : kSeq t (.bk ρ M) = .bk ρ M := id rfl
theorem kSeq_exc : kSeq t (.exc k ρ M) = .exc k ρ M := id rfl
theorem sPass_k : sPass ρ M = .nx ρ M := id rfl
def kTg : RS → RS
  | .nx ρ M => .nx ρ M
  | _ => .bad
theorem kTg_nx : kTg (.nx ρ M) = .nx ρ M := id rfl
def kAsg (t : Tg) (ρ : Env) : R Val → RS
  | .ok v M => kTg (t v ρ M)
  | .exc c M => .exc c ρ M
  | .bad => .bad
theorem sAsg_k (t : Tg) : sAsg t e ρ M = kAsg t ρ (e ρ M) := by
  unfold sAsg
  cases e ρ M with
  | ok v M1 =>
    show (t v ρ M1).tg = kTg (t v ρ M1)
    cases t v ρ M1 <;> rfl
  | _ => rfl
theorem kAsg_ok (t : Tg) : kAsg t ρ (.ok v M) = kTg (t v ρ M) := id rfl
theorem kAsg_exc (t : Tg) : kAsg t ρ (.exc k M) = .exc k ρ M := id rfl
theorem tName_k {i : Nat} : tName i v ρ M = .nx (ρ.set i (some v)) M := id rfl
theorem tTup_2 {s t : Tg} : tTup [s, t] (.tup [x, y]) ρ M = tAll [s, t] [x, y] ρ M := id rfl
theorem tTup_3 {s t u : Tg} : tTup [s, t, u] (.tup [x, y, v]) ρ M = tAll [s, t, u] [x, y, v] ρ M := id rfl
theorem tTup_4 {s t u r : Tg} : tTup [s, t, u, r] (.tup [x, y, v, w]) ρ M = tAll [s, t, u, r] [x, y, v, w] ρ M := id rfl
theorem tAll_nil : tAll [] [] ρ M = .nx ρ M := id rfl
theorem tAll_cons {t : Tg} {ts : List Tg} {vs : List Val} : tAll (t :: ts) (v :: vs) ρ M = kSeq (tAll ts vs) (t v ρ M) := id rfl
def kPut (ρ : Env) : Option Store → RS
  | some M => .nx ρ M
  | none => .bad
theorem kPut_some : kPut ρ (some M) = .nx ρ M := id rfl
def kSub2 (x v : Val) (ρ : Env) : R Val → RS
  | .ok y M => kPut ρ (setIt x y v M)
  | _ => .bad
def kSub1 (i : E) (v : Val) (ρ : Env) : R Val → RS
  | .ok x M => kSub2 x v ρ (i ρ M)
  | _ => .bad
theorem tSub_k {o i : E} : tSub o i v ρ M = kSub1 i v ρ (o ρ M) := by
  unfold tSub
  cases o ρ M with
  | ok x M1 =>
    simp only [kSub1]
    cases i ρ M1 with
    | ok y M2 =>
      simp only [kSub2]
      cases setIt x y v M2 <;> rfl
    | _ => rfl
  | _ => rfl
theorem kSub1_ok {i : E} : kSub1 i v ρ (.ok x M) = kSub2 x v ρ (i ρ M) := id rfl
theorem kSub2_ok : kSub2 x v ρ (.ok y M) = kPut ρ (setIt x y v M) := id rfl
theorem sCt_k : sCt ρ M = .ct ρ M := id rfl
theorem sBk_k : sBk ρ M = .bk ρ M := id rfl
def kRet (ρ : Env) : R Val → RS
  | .ok v M => .ret v M
  | .exc c M => .exc c ρ M
  | .bad => .bad
theorem sRet_k : sRet e ρ M = kRet ρ (e ρ M) := by
  unfold sRet
  cases e ρ M <;> rfl
theorem kRet_ok : kRet ρ (.ok v M) = .ret v M := id rfl
theorem kRet_exc : kRet ρ (.exc k M) = .exc k ρ M := id rfl
def kDrop (ρ : Env) : R Val → RS
  | .ok _ M => .nx ρ M
  | .exc c M => .exc c ρ M
  | .bad => .bad
theorem sDrop_k : sDrop e ρ M = kDrop ρ (e ρ M) := by
  unfold sDrop
  cases e ρ M <;> rfl
theorem kDrop_ok : kDrop ρ (.ok v M) = .nx ρ M := id rfl
theorem sRaise_k : sRaise k ρ M = .exc k ρ M := id rfl
def kIf (s t : St) (ρ : Env) : R Val → RS
  | .ok (.bl true) M => s ρ M
  | .ok (.bl false) M => t ρ M
  | .ok _ _ => .bad
  | .exc c M => .exc c ρ M
  | .bad => .bad
theorem sIf_k : sIf c s t ρ M = kIf s t ρ (c ρ M) := by
  unfold sIf
  cases c ρ M with
  | ok v M1 =>
    cases v with
    | bl q => cases q <;> rfl
    | _ => rfl
  | _ => rfl
theorem kIf_t : kIf s t ρ (.ok (.bl true) M) = s ρ M := id rfl
theorem kIf_f : kIf s t ρ (.ok (.bl false) M) = t ρ M := id rfl
def kPar (i j : Nat) (ρ : Env) : R (List Val) → RS
  | .ok [v, w] M => .nx ((ρ.set i (some v)).set j (some w)) M
  | .ok _ _ => .bad
  | .exc c M => .exc c ρ M
  | .bad => .bad
theorem sPar_k {i j : Nat} : sPar i j a b ρ M = kPar i j ρ (evL [a, b] ρ M) := by
  unfold sPar
  cases evL [a, b] ρ M with
  | ok vs M1 =>
    match vs with
    | [] => rfl
    | [_] => rfl
    | [_, _] => rfl
    | _ :: _ :: _ :: _ => rfl
  | _ => rfl
theorem kPar_ok {i j : Nat} : kPar i j ρ (.ok [v, w] M) = .nx ((ρ.set i (some v)).set j (some w)) M := id rfl
def kFor (t : Tg) (b : St) (ρ : Env) : R Itr → RS
  | .ok it M => sForN it t b it.n 0 ρ M
  | .exc c M => .exc c ρ M
  | .bad => .bad
theorem sFor_k (i : Src) (t : Tg) : sFor i t s ρ M = kFor t s ρ (i ρ M) := by
  unfold sFor
  cases i ρ M <;> rfl
theorem kFor_ok (t : Tg) (it : Itr) : kFor t s ρ (.ok it M) = sForN it t s it.n 0 ρ M := id rfl
def kFn : RS → R Val
  | .nx _ M => .ok .non M
  | .ret v M => .ok v M
  | .exc c _ M => .exc c M
  | _ => .bad
theorem mkFn_k {np nn : Nat} {vs : List Val} (h : vs.length = np) : mkFn np nn s vs M = kFn (s (vs.map some ++ List.replicate (nn - np) none) M) := by
  unfold mkFn
  rw [if_pos h]
  cases s (vs.map some ++ List.replicate (nn - np) none) M <;> rfl
theorem mkFn_0 {nn : Nat} : mkFn 0 nn s [] M = kFn (s ([] ++ List.replicate (nn - 0) none) M) := mkFn_k M s rfl
theorem mkFn_1 {nn : Nat} {x : Val} : mkFn 1 nn s [x] M = kFn (s ([some x] ++ List.replicate (nn - 1) none) M) := mkFn_k M s rfl
theorem mkFn_2 {nn : Nat} {x y : Val} : mkFn 2 nn s [x, y] M = kFn (s ([some x, some y] ++ List.replicate (nn - 2) none) M) := mkFn_k M s rfl
theorem mkFn_3 {nn : Nat} {x y z : Val} : mkFn 3 nn s [x, y, z] M = kFn (s ([some x, some y, some z] ++ List.replicate (nn - 3) none) M) := mkFn_k M s rfl
theorem mkFn_4 {nn : Nat} {x y z v : Val} : mkFn 4 nn s [x, y, z, v] M = kFn (s ([some x, some y, some z, some v] ++ List.replicate (nn - 4) none) M) := mkFn_k M s rfl
theorem mkFn_5 {nn : Nat} {x y z v w : Val} : mkFn 5 nn s [x, y, z, v, w] M = kFn (s ([some x, some y, some z, some v, some w] ++ List.replicate (nn - 5) none) M) := mkFn_k M s rfl
theorem mkFn_6 {nn : Nat} {x y z v w u : Val} : mkFn 6 nn s [x, y, z, v, w, u] M = kFn (s ([some x, some y, some z, some v, some w, some u] ++ List.replicate (nn - 6) none) M) := mkFn_k M s rfl
theorem kFn_ret : kFn (.ret v M) = .ok v M := id rfl
theorem kFn_nx : kFn (.nx ρ M) = .ok .non M := id rfl
theorem kFn_exc : kFn (.exc k ρ M) = .exc k M := id rfl
end
section
variable (ρ ρ' : Env) (M : Store) (a b c e : E) (s t : St) (x y v w : Val) (k : String)
def kTry (hs : List Hd) (els : St) : RS → RS
  | .exc c ρ' M' => handle hs c ρ' M'
  | .nx ρ' M' => els ρ' M'
  | r => r
theorem sTry_k (hs : List Hd) : sTry s hs t ρ M = kTry hs t (s ρ M) := by
  unfold sTry
  cases s ρ M <;> rfl
theorem kTry_nx (hs : List Hd) : kTry hs t (.nx ρ M) = t ρ M := id rfl
theorem kTry_ret (hs : List Hd) : kTry hs t (.ret v M) = .ret v M := id rfl
theorem kTry_exc (hs : List Hd) : kTry hs t (.exc k ρ M) = handle hs k ρ M := id rfl
theorem handle_nil : handle [] k ρ M = .exc k ρ M := id rfl
def kCl (o : Option Nat) : RS → RS
  | .nx ρ M => .nx (unO o ρ) M
  | .bk ρ M => .bk (unO o ρ) M
  | .ct ρ M => .ct (unO o ρ) M
  | .ret v M => .ret v M
  | _ => .bad
theorem handle_no {h : Hd} {hs : List Hd} (hn : h.cs.any (isX k) = false) : handle (h :: hs) k ρ M = handle hs k ρ M := by
  conv => lhs; unfold handle
  rw [if_neg (by rw [hn]; exact Bool.false_ne_true)]
theorem handle_yes {cs : List String} {o : Option Nat} {hs : List Hd} (hn : cs.any (isX k) = true) : handle (⟨false, cs, o, s⟩ :: hs) k ρ M = kCl o (s (setO o k ρ) M) := by
  unfold handle
  rw [if_pos hn]
  show ((s (setO o k ρ) M).calm).drop o = _
  cases s (setO o k ρ) M <;> rfl
theorem kCl_nx (o : Option Nat) : kCl o (.nx ρ M) = .nx (unO o ρ) M := id rfl
theorem kCl_ret (o : Option Nat) : kCl o (.ret v M) = .ret v M := id rfl
def kM0 (q : String) (f : U) : R Val → R Val
  | .ok x M => if isTy q x M = true then R.of (f x M) else .bad
  | .exc c M => .exc c M
  | .bad => .bad
theorem eM0_k (q : String) (f : U) : eM0 q f a ρ M = kM0 q f (a ρ M) := by
  unfold eM0
  cases a ρ M <;> rfl
theorem kM0_ok {q : String} {f : U} (h : isTy q x M = true) : kM0 q f (.ok x M) = R.of (f x M) := if_pos h
def kM1 (q : String) (f : Op) (b : E) (ρ : Env) : R Val → R Val
  | .ok x M => if isTy q x M = true then kBin2 f x (b ρ M) else .bad
  | .exc c M => .exc c M
  | .bad => .bad
theorem eM1_k (q : String) (f : Op) : eM1 q f a b ρ M = kM1 q f b ρ (a ρ M) := by
  unfold eM1
  cases a ρ M with
  | ok x M1 =>
    show (if isTy q x M1 = true then (b ρ M1).bind _ else .bad) = if isTy q x M1 = true then kBin2 f x (b ρ M1) else .bad
    cases b ρ M1 <;> rfl
  | _ => rfl
theorem kM1_ok {q : String} {f : Op} (h : isTy q x M = true) : kM1 q f b ρ (.ok x M) = kBin2 f x (b ρ M) := if_pos h
def kM2b (f : Tri) (x y : Val) : R Val → R Val
  | .ok z M => R.of (f x y z M)
  | .exc c M => .exc c M
  | .bad => .bad
def kM2a (f : Tri) (x : Val) (c : E) (ρ : Env) : R Val → R Val
  | .ok y M => kM2b f x y (c ρ M)
  | .exc c M => .exc c M
  | .bad => .bad
def kM2 (q : String) (f : Tri) (b c : E) (ρ : Env) : R Val → R Val
  | .ok x M => if isTy q x M = true then kM2a f x c ρ (b ρ M) else .bad
  | .exc c M => .exc c M
  | .bad => .bad
theorem eM2_k (q : String) (f : Tri) : eM2 q f a b c ρ M = kM2 q f b c ρ (a ρ M) := by
  unfold eM2
  cases a ρ M with
  | ok x M1 =>
    show (if isTy q x M1 = true then (b ρ M1).bind _ else .bad) = if isTy q x M1 = true then kM2a f x c ρ (b ρ M1) else .bad
    cases b ρ M1 with
    | ok y M2 =>
      show (if isTy q x M1 = true then (c ρ M2).bind _ else .bad) = if isTy q x M1 = true then kM2b f x y (c ρ M2) else .bad
      cases c ρ M2 <;> rfl
    | _ => rfl
  | _ => rfl
theorem kM2_ok {q : String} {f : Tri} (h : isTy q x M = true) : kM2 q f b c ρ (.ok x M) = kM2a f x c ρ (b ρ M) := if_pos h
theorem kM2a_ok (f : Tri) : kM2a f x c ρ (.ok y M) = kM2b f x y (c ρ M) := id rfl
theorem kM2b_ok (f : Tri) : kM2b f x y (.ok v M) = R.of (f x y v M) := id rfl
/-! a comprehension: its source, then its turns -/
def kLcE : R (List Val) → R Val
  | .ok ys M => .ok (.ref M.length) (M ++ [.lst ys])
  | .exc c M => .exc c M
  | .bad => .bad
def kLc (t : Tg) (vs : List Nat) (c e : E) (ρ : Env) : R Itr → R Val
  | .ok it M => if it.n ≤ szLine then kLcE (lcN it t c e (wipe ρ vs) it.n 0 [] M) else .bad
  | .exc c M => .exc c M
  | .bad => .bad
theorem eLc_k (i : Src) (t : Tg) (vs : List Nat) : eLc i t vs c e ρ M = kLc t vs c e ρ (i ρ M) := by
  unfold eLc
  cases i ρ M with
  | ok it M1 =>
    show (if it.n ≤ szLine then _ else _) = if it.n ≤ szLine then _ else _
    cases lcN it t c e (wipe ρ vs) it.n 0 [] M1 <;> rfl
  | _ => rfl
theorem kLc_ok {t : Tg} {vs : List Nat} {it : Itr} (h : it.n ≤ szLine) : kLc t vs c e ρ (.ok it M) = kLcE (lcN it t c e (wipe ρ vs) it.n 0 [] M) := if_pos h
theorem kLcE_ok (ys : List Val) : kLcE (.ok ys M) = .ok (.ref M.length) (M ++ [.lst ys]) := id rfl
/-! slices -/
def kSlC (v : Val) (l : Option Int) : R (Option Int) → R Val
  | .ok h M => R.of (cutOf v l h M)
  | .exc c M => .exc c M
  | .bad => .bad
def kSlB (v : Val) (hi : Option E) (ρ : Env) : R (Option Int) → R Val
  | .ok l M => kSlC v l (ePart hi ρ M)
  | .exc c M => .exc c M
  | .bad => .bad
def kSlA (lo hi : Option E) (ρ : Env) : R Val → R Val
  | .ok v M => kSlB v hi ρ (ePart lo ρ M)
  | .exc c M => .exc c M
  | .bad => .bad
theorem eSl_k (lo hi : Option E) : eSl a lo hi ρ M = kSlA lo hi ρ (a ρ M) := by
  unfold eSl
  cases a ρ M with
  | ok v M1 =>
    show (ePart lo ρ M1).bind _ = kSlB v hi ρ (ePart lo ρ M1)
    cases ePart lo ρ M1 with
    | ok l M2 =>
      show (ePart hi ρ M2).bind _ = kSlC v l (ePart hi ρ M2)
      cases ePart hi ρ M2 <;> rfl
    | _ => rfl
  | _ => rfl
theorem kSlA_ok (lo hi : Option E) : kSlA lo hi ρ (.ok v M) = kSlB v hi ρ (ePart lo ρ M) := id rfl
theorem kSlB_ok (hi : Option E) (l : Option Int) : kSlB v hi ρ (.ok l M) = kSlC v l (ePart hi ρ M) := id rfl
theorem kSlC_ok (l h : Option Int) : kSlC v l (.ok h M) = R.of (cutOf v l h M) := id rfl
def kPt : R Val → R (Option Int)
  | .ok (.int i) M => .ok (some i) M
  | .ok _ _ => .bad
  | .exc c M => .exc c M
  | .bad => .bad
theorem ePart_none : ePart none ρ M = .ok none M := id rfl
theorem ePart_k : ePart (some a) ρ M = kPt (a ρ M) := by
  unfold ePart
  simp only []
  cases a ρ M with
  | ok v M1 => cases v <;> rfl
  | _ => rfl
theorem kPt_ok (i : Int) : kPt (.ok (.int i) M) = .ok (some i) M := id rfl
/-! sources -/
def kSq : R Val → R Itr
  | .ok v M => (match seqOf M v with
    | some xs => .ok (itSeq v xs.length) M
    | none => .bad)
  | .exc c M => .exc c M
  | .bad => .bad
theorem iList_k : iList a ρ M = kSq (a ρ M) := by
  unfold iList
  cases a ρ M <;> rfl
theorem kSq_ok {xs : List Val} (h : seqOf M v = some xs) : kSq (.ok v M) = .ok (itSeq v xs.length) M := by
  unfold kSq
  simp only []
  rw [h]
def kEn : R Val → R Itr
  | .ok (.ref n) M => (match lstAt M n with
    | some xs => .ok (itEnum n xs.length) M
    | none => .bad)
  | .ok _ _ => .bad
  | .exc c M => .exc c M
  | .bad => .bad
theorem iEnum_k : iEnum a ρ M = kEn (a ρ M) := by
  unfold iEnum
  cases a ρ M with
  | ok v M1 => cases v <;> rfl
  | _ => rfl
theorem kEn_ok {n : Nat} {xs : List Val} (h : lstAt M n = some xs) : kEn (.ok (.ref n) M) = .ok (itEnum n xs.length) M := by
  unfold kEn
  simp only []
  rw [h]
def kZp2 (v : Val) : R Val → R Itr
  | .ok w M => if sameKind v w = true then (match seqOf M v, seqOf M w with
    | some xs, some ys => .ok (itZip v w (min xs.length ys.length)) M
    | _, _ => .bad) else .bad
  | .exc c M => .exc c M
  | .bad => .bad
def kZp (b : E) (ρ : Env) : R Val → R Itr
  | .ok v M => kZp2 v (b ρ M)
  | .exc c M => .exc c M
  | .bad => .bad
theorem iZip_k : iZip a b ρ M = kZp b ρ (a ρ M) := by
  unfold iZip
  cases a ρ M with
  | ok v M1 =>
    show (b ρ M1).bind _ = kZp2 v (b ρ M1)
    cases b ρ M1 <;> rfl
  | _ => rfl
theorem kZp_ok : kZp b ρ (.ok v M) = kZp2 v (b ρ M) := id rfl
theorem kZp2_ok {xs ys : List Val} (hk : sameKind v w = true) (h1 : seqOf M v = some xs) (h2 : seqOf M w = some ys) : kZp2 v (.ok w M) = .ok (itZip v w (min xs.length ys.length)) M := by
  unfold kZp2
  simp only []
  rw [if_pos hk, h1, h2]
def kRv : R Val → R Itr
  | .ok v M => (match seqOf M v with
    | some xs => .ok (itRev v xs.length) M
    | none => .bad)
  | .exc c M => .exc c M
  | .bad => .bad
theorem iRev_k : iRev a ρ M = kRv (a ρ M) := by
  unfold iRev
  cases a ρ M <;> rfl
theorem kRv_ok {xs : List Val} (h : seqOf M v = some xs) : kRv (.ok v M) = .ok (itRev v xs.length) M := by
  unfold kRv
  simp only []
  rw [h]
/-- lo, lo + 1, .., n of them -/
def itRg (lo : Int) (n : Nat) : Itr := ⟨n, fun i _ => some (.int (lo + (i : Int))), fun _ => true⟩
def kR1 : R Val → R Itr
  | .ok (.int j) M => if -(2 ^ 62) ≤ j ∧ j < 2 ^ 62 then .ok (itRg 0 j.toNat) M else .bad
  | .ok _ _ => .bad
  | .exc c M => .exc c M
  | .bad => .bad
theorem iRange1_k : iRange1 a ρ M = kR1 (a ρ M) := by
  unfold iRange1
  cases a ρ M with
  | ok v M1 => cases v <;> rfl
  | _ => rfl
theorem kR1_ok {j : Int} (h : -(2 ^ 62) ≤ j ∧ j < 2 ^ 62) : kR1 (.ok (.int j) M) = .ok (itRg 0 j.toNat) M := if_pos h
def kR2b (x : Val) : R Val → R Itr
  | .ok y M => (match x, y with
    | .int i, .int j => if -(2 ^ 62) ≤ i ∧ i < 2 ^ 62 ∧ -(2 ^ 62) ≤ j ∧ j < 2 ^ 62 then .ok (itRg i (j - i).toNat) M else .bad
    | _, _ => .bad)
  | .exc c M => .exc c M
  | .bad => .bad
def kR2 (b : E) (ρ : Env) : R Val → R Itr
  | .ok x M => kR2b x (b ρ M)
  | .exc c M => .exc c M
  | .bad => .bad
theorem iRange2_k : iRange2 a b ρ M = kR2 b ρ (a ρ M) := by
  unfold iRange2
  cases a ρ M with
  | ok v M1 =>
    show (b ρ M1).bind _ = kR2b v (b ρ M1)
    cases b ρ M1 <;> rfl
  | _ => rfl
theorem kR2_ok : kR2 b ρ (.ok x M) = kR2b x (b ρ M) := id rfl
theorem kR2b_ok {i j : Int} (h : -(2 ^ 62) ≤ i ∧ i < 2 ^ 62 ∧ -(2 ^ 62) ≤ j ∧ j < 2 ^ 62) : kR2b (.int i) (.ok (.int j) M) = .ok (itRg i (j - i).toNat) M := if_pos h
end
/-! operations on what is known -/
section
variable (M : Store) (i j : Int) (x y : List Nat) (xs ys : List Val)
theorem oAdd_int : oAdd (.int i) (.int j) M = some (.int (i + j), M) := id rfl
theorem oSub_int : oSub (.int i) (.int j) M = some (.int (i - j), M) := id rfl
theorem oNeg_int : oNeg (.int i) M = some (.int (-i), M) := id rfl
theorem oMul_int {i j : Int} (h : mulOk i j = true) : oMul (.int i) (.int j) M = some (.int (i * j), M) := if_pos h
theorem oDiv_int {i j : Int} (h0 : j ≠ 0) (h : divOk i j = true) : oDiv (.int i) (.int j) M = some (.int (i.fdiv j), M) := if_pos ⟨h0, h⟩
/-- a divisor that any number may be divided by -/
def SmD (j : Int) : Prop := j.natAbs.log2 < 9000
instance (j : Int) : Decidable (SmD j) := inferInstanceAs (Decidable (j.natAbs.log2 < 9000))
theorem SmD.ok {j : Int} (h : SmD j) (i : Int) : divOk i j = true := by
  unfold divOk
  rw [Bool.or_eq_true, decide_eq_true_eq]
  exact .inl h
theorem oDiv_sm {i j : Int} (h0 : j ≠ 0) (h : SmD j) : oDiv (.int i) (.int j) M = some (.int (i.fdiv j), M) := oDiv_int M h0 (h.ok i)
theorem oDm_int {i j : Int} (h0 : 0 < j) (h : divOk i j = true) : oDm (.int i) (.int j) M = some (.tup [.int (i / j), .int (i % j)], M) := if_pos ⟨h0, h⟩
theorem oDm_sm {i j : Int} (h0 : 0 < j) (h : SmD j) : oDm (.int i) (.int j) M = some (.tup [.int (i / j), .int (i % j)], M) := oDm_int M h0 (h.ok i)
theorem oMax_int : oMax (.int i) (.int j) M = some (.int (if j > i then j else i), M) := id rfl
theorem oMin_int : oMin (.int i) (.int j) M = some (.int (if j < i then j else i), M) := id rfl
theorem uInt_int : uInt (.int i) M = some (.int i, M) := id rfl
theorem uInt_bl (q : Bool) : uInt (.bl q) M = some (.int (if q then 1 else 0), M) := id rfl
theorem oMod_int {i j : Int} (h0 : j ≠ 0) : oMod (.int i) (.int j) M = some (.int (i.fmod j), M) := if_pos h0
theorem oPow_int {i j : Int} (h : 0 ≤ j ∧ j ≤ 1000000 ∧ i.natAbs < 2 ^ 64) : oPow (.int i) (.int j) M = some (.int (i ^ j.toNat), M) := if_pos h
theorem cLt_int : cLt (.int i) (.int j) M = some (.bl (decide (i < j)), M) := id rfl
theorem cLe_int : cLe (.int i) (.int j) M = some (.bl (decide (i ≤ j)), M) := id rfl
theorem cGt_int : cGt (.int i) (.int j) M = some (.bl (decide (j < i)), M) := id rfl
theorem cGe_int : cGe (.int i) (.int j) M = some (.bl (decide (j ≤ i)), M) := id rfl
theorem toT_int {k : Nat} : toT M (k + 1) (.int i) = some (.int i) := id rfl
theorem eqFuel_eq : eqFuel = 59 + 1 := id rfl
theorem cEq_int : cEq (.int i) (.int j) M = some (.bl (decide (i = j)), M) := id rfl
theorem cNe_int : cNe (.int i) (.int j) M = some (.bl (!decide (i = j)), M) := id rfl
theorem cEq_bl (p q : Bool) : cEq (.bl p) (.bl q) M = some (.bl (p == q), M) := id rfl
theorem cNe_bl (p q : Bool) : cNe (.bl p) (.bl q) M = some (.bl (!(p == q)), M) := id rfl
theorem cIsN_k (v : Val) : cIsN v .non M = some (.bl (isNon v), M) := id rfl
theorem cNotN_k (v : Val) : cNotN v .non M = some (.bl (!isNon v), M) := id rfl
theorem cEq_tt (a b c d : Int) : cEq (.tup [.int a, .int b]) (.tup [.int c, .int d]) M = some (.bl (decide (a = c) && (decide (b = d) && true)), M) := id rfl
theorem cNe_tt (a b c d : Int) : cNe (.tup [.int a, .int b]) (.tup [.int c, .int d]) M = some (.bl (!(decide (a = c) && (decide (b = d) && true))), M) := id rfl
theorem uAbs_int : uAbs (.int i) M = some (.int (if i < 0 then -i else i), M) := id rfl
theorem uLen_tup : uLen (.tup xs) M = some (.int xs.length, M) := id rfl
theorem oIx_tup : oIx (.tup xs) (.int i) M = (atI xs i).map fun v => (v, M) := id rfl
theorem oIx_0 (v : Val) : oIx (.tup (v :: xs)) (.int 0) M = some (v, M) := by
  show (atI (v :: xs) 0).map _ = _
  unfold atI atIx
  simp
theorem oIx_1 (v w : Val) : oIx (.tup (v :: w :: xs)) (.int 1) M = some (w, M) := by
  show (atI (v :: w :: xs) 1).map _ = _
  unfold atI atIx
  rw [if_pos (by decide), if_pos (by simp; omega)]
  rfl
theorem uIs_k (ts : List String) (v : Val) : uIs ts v M = match v with
  | .exc c => some (.bl (ts.any (isX c)), M)
  | v => match tyName M v with
    | some a => some (.bl (ts.any (isT a)), M)
    | none => none := rfl
theorem uIs_int (ts : List String) : uIs ts (.int i) M = some (.bl (ts.any (isT "int")), M) := id rfl
theorem uIs_tup (ts : List String) : uIs ts (.tup xs) M = some (.bl (ts.any (isT "tuple")), M) := id rfl
theorem uIs_bl (ts : List String) (q : Bool) : uIs ts (.bl q) M = some (.bl (ts.any (isT "bool")), M) := id rfl
theorem uIs_non (ts : List String) : uIs ts .non M = some (.bl (ts.any (isT "NoneType")), M) := id rfl
theorem uIs_exc (ts : List String) (c : String) : uIs ts (.exc c) M = some (.bl (ts.any (isX c)), M) := id rfl
end
theorem ty_tuple_tuple : (["tuple"].any (isT "tuple")) = true := by decide +kernel
theorem ty_tuple_list : (["tuple"].any (isT "list")) = false := by decide +kernel
theorem ty_tuple_int : (["tuple"].any (isT "int")) = false := by decide +kernel
theorem ty_tuple_bool : (["tuple"].any (isT "bool")) = false := by decide +kernel
theorem ty_tuple_str : (["tuple"].any (isT "str")) = false := by decide +kernel
theorem ty_tuple_NoneType : (["tuple"].any (isT "NoneType")) = false := by decide +kernel
theorem ty_list_tuple : (["list"].any (isT "tuple")) = false := by decide +kernel
theorem ty_list_list : (["list"].any (isT "list")) = true := by decide +kernel
theorem ty_list_int : (["list"].any (isT "int")) = false := by decide +kernel
theorem ty_list_bool : (["list"].any (isT "bool")) = false := by decide +kernel
theorem ty_list_str : (["list"].any (isT "str")) = false := by decide +kernel
theorem ty_list_NoneType : (["list"].any (isT "NoneType")) = false := by decide +kernel
theorem ty_int_tuple : (["int"].any (isT "tuple")) = false := by decide +kernel
theorem ty_int_list : (["int"].any (isT "list")) = false := by decide +kernel
theorem ty_int_int : (["int"].any (isT "int")) = true := by decide +kernel
theorem ty_int_bool : (["int"].any (isT "bool")) = true := by decide +kernel
theorem ty_int_str : (["int"].any (isT "str")) = false := by decide +kernel
theorem ty_int_NoneType : (["int"].any (isT "NoneType")) = false := by decide +kernel
theorem ty_bool_tuple : (["bool"].any (isT "tuple")) = false := by decide +kernel
theorem ty_bool_list : (["bool"].any (isT "list")) = false := by decide +kernel
theorem ty_bool_int : (["bool"].any (isT "int")) = false := by decide +kernel
theorem ty_bool_bool : (["bool"].any (isT "bool")) = true := by decide +kernel
theorem ty_bool_str : (["bool"].any (isT "str")) = false := by decide +kernel
theorem ty_bool_NoneType : (["bool"].any (isT "NoneType")) = false := by decide +kernel
theorem ty_str_tuple : (["str"].any (isT "tuple")) = false := by decide +kernel
theorem ty_str_list : (["str"].any (isT "list")) = false := by decide +kernel
theorem ty_str_int : (["str"].any (isT "int")) = false := by decide +kernel
theorem ty_str_bool : (["str"].any (isT "bool")) = false := by decide +kernel
theorem ty_str_str : (["str"].any (isT "str")) = true := by decide +kernel
theorem ty_str_NoneType : (["str"].any (isT "NoneType")) = false := by decide +kernel
/-! ### while -/
/-- a while whose turns are those of a machine on states -/
theorem while_run {σ : Type} {c : E} {b : St} (env : σ → Env) (M : Store) (p : σ → Bool) (f : σ → σ) (I : σ → Prop) (μ : σ → Nat)
    (hc : ∀ s, I s → c (env s) M = .ok (.bl (p s)) M) (hb : ∀ s, I s → p s = true → b (env s) M = .nx (env (f s)) M ∧ I (f s) ∧ μ (f s) < μ s) :
    ∀ (k : Nat) (s : σ), I s → μ s < k → ∃ s', I s' ∧ p s' = false ∧ sWhileN c b k (env s) M = .nx (env s') M
  | 0, s, _, h => by omega
  | k + 1, s, hI, h => by
    unfold sWhileN
    rw [hc s hI]
    cases hp : p s with
    | false => exact ⟨s, hI, hp, rfl⟩
    | true =>
      obtain ⟨h1, h2, h3⟩ := hb s hI hp
      obtain ⟨s', q1, q2, q3⟩ := while_run env M p f I μ hc hb k (f s) h2 (by omega)
      refine ⟨s', q1, q2, ?_⟩
      simp only [R.st_ok]
      rw [h1]
      exact q3
end Mn
end
section
set_option Elab.async false
set_option autoImplicit false
/-! Numbers: sizes, the greatest common divisor by turns, ratios in lowest terms. -/
namespace Mn
/-! ### sizes -/
/-- below 2 ^ n, either sign -/
def Lt2 (n : Nat) (i : Int) : Prop := i.natAbs < 2 ^ n
instance (n : Nat) (i : Int) : Decidable (Lt2 n i) := inferInstanceAs (Decidable (i.natAbs < 2 ^ n))
theorem Lt2.mono {m n : Nat} {i : Int} (h : Lt2 m i) (k : m ≤ n) : Lt2 n i := Nat.lt_of_lt_of_le h (Nat.pow_le_pow_right (by decide) k)
theorem Lt2.neg {n : Nat} {i : Int} (h : Lt2 n i) : Lt2 n (-i) := by
  unfold Lt2 at *
  rw [Int.natAbs_neg]
  exact h
theorem Lt2.add {m n : Nat} {i j : Int} (hi : Lt2 m i) (hj : Lt2 n j) : Lt2 (max m n + 1) (i + j) := by
  have h1 := hi.mono (Nat.le_max_left m n)
  have h2 := hj.mono (Nat.le_max_right m n)
  unfold Lt2 at *
  rw [Nat.pow_succ]
  have := Int.natAbs_add_le i j
  omega
theorem Lt2.sub {m n : Nat} {i j : Int} (hi : Lt2 m i) (hj : Lt2 n j) : Lt2 (max m n + 1) (i - j) := by
  rw [Int.sub_eq_add_neg]
  exact hi.add hj.neg
theorem Lt2.mul {m n : Nat} {i j : Int} (hi : Lt2 m i) (hj : Lt2 n j) : Lt2 (m + n) (i * j) := by
  unfold Lt2 at *
  rw [Int.natAbs_mul, Nat.pow_add]
  exact Nat.mul_lt_mul'' hi hj
theorem Lt2.le {n : Nat} {i j : Int} (hj : Lt2 n j) (h : i.natAbs ≤ j.natAbs) : Lt2 n i := Nat.lt_of_le_of_lt h hj
theorem bits_le {n : Nat} {i : Int} (h : Lt2 n i) : bits i ≤ n := by
  unfold bits
  split
  · exact Nat.zero_le _
  · rename_i h0
    have : i.natAbs ≠ 0 := by omega
    exact (Nat.log2_lt this).mpr h
theorem lt2_bits (i : Int) : Lt2 (bits i) i := by
  unfold bits Lt2
  split
  · rename_i h
    subst h
    decide
  · exact Nat.lt_log2_self
theorem mulOk_lt {m n : Nat} {i j : Int} (hi : Lt2 m i) (hj : Lt2 n j) (h : m + n ≤ 134217728) : mulOk i j = true := by
  have h1 := bits_le hi
  have h2 := bits_le hj
  unfold mulOk
  simp only [Bool.or_eq_true, decide_eq_true_eq]
  omega
theorem divOk_lt {n : Nat} {j : Int} (hj : Lt2 n j) (h : n ≤ 9000) (i : Int) : divOk i j = true := by
  unfold divOk
  rw [Bool.or_eq_true, decide_eq_true_eq]
  refine .inl ?_
  by_cases h0 : j.natAbs = 0
  · rw [h0]
    decide
  · exact Nat.lt_of_lt_of_le ((Nat.log2_lt h0).mpr hj) h
theorem smD_lt {n : Nat} {j : Int} (hj : Lt2 n j) (h : n ≤ 9000) : SmD j := by
  unfold SmD
  by_cases h0 : j.natAbs = 0
  · rw [h0]
    decide
  · exact Nat.lt_of_lt_of_le ((Nat.log2_lt h0).mpr hj) h
/-- a division whose outcome is small -/
theorem divOk_quo {n : Nat} {j q : Int} (hj : j ≠ 0) (hq : Lt2 n q) (h : n ≤ 4500) : divOk (j * q) j = true := by
  unfold divOk
  rw [Bool.or_eq_true, decide_eq_true_eq, decide_eq_true_eq]
  refine .inr ?_
  have j0 : j.natAbs ≠ 0 := by omega
  have e : (j * q).natAbs < 2 ^ (j.natAbs.log2 + 1 + n) := by
    rw [Int.natAbs_mul, Nat.pow_add]
    exact Nat.mul_lt_mul'' Nat.lt_log2_self hq
  have l : (j * q).natAbs.log2 ≤ j.natAbs.log2 + n := by
    by_cases h0 : (j * q).natAbs = 0
    · rw [h0]
      exact Nat.zero_le _
    · have := (Nat.log2_lt h0).mpr e
      omega
  omega
/-! ### turns -/
/-- how many turns the chain of rests takes -/
def est (x y : Nat) : Nat := if h : y = 0 then 0 else est y (x % y) + 1
termination_by y
decreasing_by exact Nat.mod_lt _ (Nat.pos_of_ne_zero h)
theorem est_zero (x : Nat) : est x 0 = 0 := by
  unfold est
  rw [dif_pos rfl]
theorem est_pos (x : Nat) {y : Nat} (h : y ≠ 0) : est x y = est y (x % y) + 1 := by
  conv => lhs; unfold est
  rw [dif_neg h]
theorem est_le : ∀ (n x y : Nat), y < 2 ^ n → est x y ≤ 2 * n
  | 0, x, y, h => by
    have : y = 0 := by simpa using h
    rw [this, est_zero]
    exact Nat.zero_le _
  | n + 1, x, y, h => by
    by_cases hy : y = 0
    · rw [hy, est_zero]
      exact Nat.zero_le _
    · rw [est_pos x hy]
      by_cases hr : x % y = 0
      · rw [hr, est_zero]
        omega
      · rw [est_pos y hr]
        have h1 : x % y < y := Nat.mod_lt _ (Nat.pos_of_ne_zero hy)
        have h2 : y % (x % y) < x % y := Nat.mod_lt _ (Nat.pos_of_ne_zero hr)
        have h3 : y % (x % y) + x % y ≤ y := by
          have e := Nat.div_add_mod y (x % y)
          have d : 1 ≤ y / (x % y) := Nat.div_pos (Nat.le_of_lt h1) (Nat.pos_of_ne_zero hr)
          have : x % y * 1 ≤ x % y * (y / (x % y)) := Nat.mul_le_mul_left _ d
          omega
        have h4 : y % (x % y) < 2 ^ n := by
          rw [Nat.pow_succ] at h
          omega
        have := est_le n (x % y) (y % (x % y)) h4
        omega
theorem whileLine_eq : whileLine = 1099511627776 := rfl
theorem est_line {n : Nat} {i : Int} (h : Lt2 n i) (hn : n ≤ 1000000000) (x : Nat) : est x i.natAbs < whileLine := by
  have := est_le n x i.natAbs h
  rw [whileLine_eq]
  omega
theorem fmod_nat (x y : Nat) : Int.fmod (x : Int) (y : Int) = ((x % y : Nat) : Int) := by
  rw [Int.fmod_eq_emod_of_nonneg _ (Int.natCast_nonneg y)]
  rfl
theorem gcd_step (x y : Nat) : Nat.gcd y (x % y) = Nat.gcd x y := by
  rw [Nat.gcd_comm, ← Nat.gcd_rec, Nat.gcd_comm]
/-! ### ratios in lowest terms -/
theorem red_unique {a b n : Int} {d : Nat} (hb : b ≠ 0) (hd : d ≠ 0) (hc : n.natAbs.Coprime d) (h : n * b = a * d) : (Rat.divInt a b).num = n ∧ (Rat.divInt a b).den = d := by
  have e : Rat.divInt a b = Rat.mk' n d hd hc := by
    have e2 : Rat.mk' n d hd hc = Rat.divInt n d := (Rat.num_divInt_den (Rat.mk' n d hd hc)).symm
    rw [e2, Rat.divInt_eq_divInt_iff hb (by omega)]
    rw [← h]
  rw [e]
  exact ⟨rfl, rfl⟩
/-- a number over the greatest common divisor, with the bottom's sign -/
theorem red_num {a b : Int} (hb : b ≠ 0) : (Rat.divInt a b).num = (if b < 0 then -(a / (Int.gcd a b : Int)) else a / (Int.gcd a b : Int)) ∧ ((Rat.divInt a b).den : Int) = (if b < 0 then -(b / (Int.gcd a b : Int)) else b / (Int.gcd a b : Int)) := by
  have g0 : Int.gcd a b ≠ 0 := fun z => hb (Int.gcd_eq_zero_iff.mp z).2
  obtain ⟨a', ha⟩ := Int.gcd_dvd_left a b
  obtain ⟨b', hb'⟩ := Int.gcd_dvd_right a b
  generalize hg : Int.gcd a b = g at *
  have gi : (g : Int) ≠ 0 := by omega
  have ea : a / (g : Int) = a' := by
    rw [ha]
    exact Int.mul_ediv_cancel_left _ gi
  have eb : b / (g : Int) = b' := by
    rw [hb']
    exact Int.mul_ediv_cancel_left _ gi
  have cop : a'.natAbs.Coprime b'.natAbs := by
    have e1 : g * (Nat.gcd a'.natAbs b'.natAbs) = g := by
      have : Nat.gcd (g * a'.natAbs) (g * b'.natAbs) = g := by
        have e2 : a.natAbs = g * a'.natAbs := by rw [ha, Int.natAbs_mul, Int.natAbs_natCast]
        have e3 : b.natAbs = g * b'.natAbs := by rw [hb', Int.natAbs_mul, Int.natAbs_natCast]
        rw [← e2, ← e3]
        exact hg
      rw [← Nat.gcd_mul_left]
      exact this
    exact Nat.eq_of_mul_eq_mul_left (Nat.pos_of_ne_zero g0) (by rw [e1, Nat.mul_one])
  have b0 : b' ≠ 0 := fun z => hb (by rw [hb', z, Int.mul_zero])
  rw [ea, eb]
  have gp : (0 : Int) < g := by omega
  by_cases hs : b < 0
  · have bs : b' < 0 := by
      rcases Int.lt_trichotomy b' 0 with h | h | h
      · exact h
      · exact absurd h b0
      · have := Int.mul_pos gp h
        omega
    rw [if_pos hs, if_pos hs]
    have q := red_unique (a := a) (b := b) (n := -a') (d := b'.natAbs) hb (by omega) (by rw [Int.natAbs_neg]; exact cop) (by
      have e : (b'.natAbs : Int) = -b' := by omega
      rw [e, ha, hb']
      grind)
    exact ⟨q.1, by rw [q.2]; omega⟩
  · have bs : 0 < b' := by
      rcases Int.lt_trichotomy b' 0 with h | h | h
      · have := Int.mul_neg_of_pos_of_neg gp h
        omega
      · exact absurd h b0
      · exact h
    rw [if_neg hs, if_neg hs]
    have q := red_unique (a := a) (b := b) (n := a') (d := b'.natAbs) hb (by omega) cop (by
      have e : (b'.natAbs : Int) = b' := by omega
      rw [e, ha, hb']
      grind)
    exact ⟨q.1, by rw [q.2]; omega⟩
/-- a ratio as a value -/
def rv (q : Rat) : Val := .tup [.int q.num, .int q.den]
theorem rv0 : Val.tup [.int 0, .int 1] = rv 0 := id rfl
theorem rv1 : Val.tup [.int 1, .int 1] = rv 1 := id rfl
/-- both its numbers below 2 ^ n -/
def Sz (n : Nat) (q : Rat) : Prop := Lt2 n q.num ∧ q.den < 2 ^ n
instance (n : Nat) (q : Rat) : Decidable (Sz n q) := inferInstanceAs (Decidable (_ ∧ _))
theorem oIx_rv0 (q : Rat) (M : Store) : oIx (rv q) (.int 0) M = some (.int q.num, M) := oIx_0 M _ _
theorem oIx_rv1 (q : Rat) (M : Store) : oIx (rv q) (.int 1) M = some (.int q.den, M) := oIx_1 M _ _ _
theorem tTup_rv (s t : Tg) (q : Rat) (ρ : Env) (M : Store) : tTup [s, t] (rv q) ρ M = tAll [s, t] [.int q.num, .int q.den] ρ M := id rfl
theorem cEq_rv (p q : Rat) (M : Store) : cEq (rv p) (rv q) M = some (.bl (decide (p = q)), M) := by
  unfold rv
  rw [cEq_tt]
  have e : (decide (p.num = q.num) && (decide ((p.den : Int) = q.den) && true)) = decide (p = q) := by
    rw [Bool.and_true, ← Bool.decide_and]
    refine decide_eq_decide.mpr ⟨fun h => Rat.ext h.1 (by omega), fun h => by rw [h]; exact ⟨rfl, rfl⟩⟩
  rw [e]
theorem cNe_rv (p q : Rat) (M : Store) : cNe (rv p) (rv q) M = some (.bl (!decide (p = q)), M) := by
  unfold rv
  rw [cNe_tt]
  have e : (decide (p.num = q.num) && (decide ((p.den : Int) = q.den) && true)) = decide (p = q) := by
    rw [Bool.and_true, ← Bool.decide_and]
    refine decide_eq_decide.mpr ⟨fun h => Rat.ext h.1 (by omega), fun h => by rw [h]; exact ⟨rfl, rfl⟩⟩
  rw [e]
theorem uIs_rv (ts : List String) (q : Rat) (M : Store) : uIs ts (rv q) M = some (.bl (ts.any (isT "tuple")), M) := id rfl
theorem uLen_rv (q : Rat) (M : Store) : uLen (rv q) M = some (.int 2, M) := id rfl
theorem Sz.den {n : Nat} {q : Rat} (h : Sz n q) : Lt2 n (q.den : Int) := by
  unfold Lt2
  rw [Int.natAbs_natCast]
  exact h.2
theorem Sz.mono {m n : Nat} {q : Rat} (h : Sz m q) (k : m ≤ n) : Sz n q := ⟨h.1.mono k, Nat.lt_of_lt_of_le h.2 (Nat.pow_le_pow_right (by decide) k)⟩
theorem sz_divInt {n : Nat} {a b : Int} (h0 : b ≠ 0) (ha : Lt2 n a) (hb : Lt2 n b) : Sz n (Rat.divInt a b) := by
  obtain ⟨h1, h2⟩ := red_num (a := a) h0
  have d1 : ∀ x : Int, (x / (Int.gcd a b : Int)).natAbs ≤ x.natAbs := fun x => Int.natAbs_ediv_le_natAbs x _
  refine ⟨Lt2.le ha ?_, ?_⟩
  · rw [h1]
    split
    · rw [Int.natAbs_neg]
      exact d1 a
    · exact d1 a
  · have e : (Rat.divInt a b).den = ((Rat.divInt a b).den : Int).natAbs := by rw [Int.natAbs_natCast]
    rw [e, h2]
    refine Nat.lt_of_le_of_lt ?_ hb
    split
    · rw [Int.natAbs_neg]
      exact d1 b
    · exact d1 b
theorem divInt_div (a b : Int) : Rat.divInt a b = (a : Rat) / (b : Rat) := Rat.divInt_eq_div a b
theorem rat_add (p q : Rat) : Rat.divInt (p.num * q.den + q.num * p.den) (p.den * q.den) = p + q := by
  rw [← Rat.divInt_add_divInt _ _ (by have := p.den_nz; omega) (by have := q.den_nz; omega), Rat.num_divInt_den, Rat.num_divInt_den]
theorem rat_mul (p q : Rat) : Rat.divInt (p.num * q.num) (p.den * q.den) = p * q := by
  rw [← Rat.divInt_mul_divInt, Rat.num_divInt_den, Rat.num_divInt_den]
theorem den_ne (p : Rat) : (p.den : Int) ≠ 0 := by have := p.den_nz; omega
theorem rat_sub (p q : Rat) : Rat.divInt (p.num * q.den - q.num * p.den) (p.den * q.den) = p - q := by
  have e := rat_add p (-q)
  rw [Rat.neg_num, Rat.neg_den] at e
  rw [Rat.sub_eq_add_neg, ← e]
  congr 1
  grind
theorem rat_div (p q : Rat) (h : q ≠ 0) : Rat.divInt (p.num * q.den) (p.den * q.num) = p / q := by
  have hn : q.num ≠ 0 := fun z => h (Rat.num_eq_zero.mp z)
  have e1 : p / q * q = p := by
    grind
  have e2 : Rat.divInt (p.num * q.den) (p.den * q.num) * q = p := by
    have e3 : Rat.divInt (p.num * q.den) (p.den * q.num) * q = Rat.divInt (p.num * q.den) (p.den * q.num) * Rat.divInt q.num q.den := by rw [Rat.num_divInt_den]
    rw [e3, Rat.divInt_mul_divInt]
    have e4 : Rat.divInt (p.num * q.den * q.num) (p.den * q.num * q.den) = Rat.divInt p.num p.den := by
      rw [Rat.divInt_eq_divInt_iff (Int.mul_ne_zero (Int.mul_ne_zero (den_ne p) hn) (den_ne q)) (den_ne p)]
      grind
    rw [e4, Rat.num_divInt_den]
  grind
end Mn
end
section
set_option Elab.async false
set_option autoImplicit false
set_option maxRecDepth 100000
set_option maxHeartbeats 2000000
open Mn
local macro_rules | `(tactic| array_get_dec) => `(tactic| simp (disch := first | assumption | rfl | decide | decide +kernel) only [oMul_int, oDiv_int, oDiv_sm, oDm_int, oDm_sm, oMax_int, oMin_int, uInt_int, uInt_bl, oMod_int, oPow_int, eBin_k, kBin1_ok, kBin2_ok, eUn_k, kUn_ok, of_some, eC_k, eVar_k, evL_nil, evL_k, kL1_ok, kL2_ok, eAnd_k, kAnd_t, kAnd_f, eOr_k, kOr_t, kOr_f, eNot_k, kNot_ok, eChain_k, kCh0_ok, kCh1_ok, kCh2_t, kCh2_f, kCh3_ok,
  eTup_k, kTup_1, kTup_2, kTup_3, kTup_4, kLst_0, kLst_1, kLst_2, kLst_3, kLst_4, kLst_5, kLst_6, kTup_ok, kLst_ok, eLst_k, eCall_k, kCall_ok, sSeq_k, kSeq_nx, kSeq_ret, kSeq_ct, kSeq_bk, kSeq_exc, sPass_k, sAsg_k, kAsg_ok, kAsg_exc, kTg_nx, tName_k, tAll_nil, tTup_2, tTup_3, tTup_4, tTup_rv, tAll_cons, tSub_k, kSub1_ok, kSub2_ok, kPut_some, sCt_k, sBk_k, sRet_k, kRet_ok, kRet_exc, sDrop_k, kDrop_ok, sRaise_k, sIf_k, kIf_t, kIf_f, sPar_k, kPar_ok, sFor_k, kFor_ok, mkFn_0, mkFn_1, mkFn_2, mkFn_3, mkFn_4, mkFn_5, mkFn_6, kFn_ret, kFn_nx, kFn_exc,
  sTry_k, kTry_nx, kTry_ret, kTry_exc, handle_nil, kCl_nx, kCl_ret, eM0_k, eM1_k, eM2_k, kM2a_ok, kM2b_ok, eLc_k, kLcE_ok, eSl_k, kSlA_ok, kSlB_ok, kSlC_ok, ePart_none, ePart_k, kPt_ok, iList_k, iEnum_k, iZip_k, kZp_ok, iRev_k, iRange1_k, iRange2_k, kR2_ok,
  oAdd_int, oSub_int, oNeg_int, cLt_int, cLe_int, cGt_int, cGe_int, cEq_int, cNe_int, cEq_bl, cNe_bl, cIsN_k, cNotN_k, cEq_tt, cNe_tt, oIx_rv0, oIx_rv1, rv0, rv1, cEq_rv, cNe_rv, uIs_rv, uLen_rv, uAbs_int, uLen_tup, oIx_0, oIx_1, uIs_int, uIs_tup, uIs_bl, uIs_non, uIs_exc, ty_tuple_tuple, ty_tuple_list, ty_tuple_int, ty_tuple_bool, ty_tuple_str, ty_tuple_NoneType, ty_list_tuple, ty_list_list, ty_list_int, ty_list_bool, ty_list_str, ty_list_NoneType, ty_int_tuple, ty_int_list, ty_int_int, ty_int_bool, ty_int_str, ty_int_NoneType, ty_bool_tuple, ty_bool_list, ty_bool_int, ty_bool_bool, ty_bool_str, ty_bool_NoneType, ty_str_tuple, ty_str_list, ty_str_int, ty_str_bool, ty_str_str, ty_str_NoneType,
  List.map_cons, List.map_nil, List.cons_append, List.nil_append, List.append_nil, List.reduceReplicate, Nat.reduceSub, List.getElem?_cons_zero, List.getElem?_cons_succ, List.set_cons_zero, List.set_cons_succ, List.length_cons, List.length_nil, Nat.zero_add, Nat.reduceAdd, decide_true, decide_false, beq_self_eq_true, Bool.not_true, Bool.not_false])
/-! The ratios: the program's, the texts' own. -/
namespace Z
open Mn
theorem p_shared_ok {n : Nat} {a b : Int} (hb : Lt2 n b) (hn : n ≤ 1000000000) (M : Store) : p_shared [.int a, .int b] M = .ok (.int (Int.gcd a b : Nat)) M := by
  unfold p_shared
  array_get_dec
  unfold p_shared.b
  array_get_dec
  have e1 : ∀ x : Int, (if x < 0 then -x else x) = (x.natAbs : Int) := fun x => by split <;> omega
  rw [e1, e1]
  obtain ⟨⟨x, y, r⟩, hI, hp, hw⟩ := while_run (σ := Nat × Nat × Option Val) (c := eBin cNe (eVar 1) (eC (.int 0))) (b := sSeq (sAsg (tName 2) (eBin oMod (eVar 0) (eVar 1))) (sSeq (sAsg (tName 0) (eVar 1)) (sAsg (tName 1) (eVar 2))))
    (fun s => [some (.int s.1), some (.int s.2.1), s.2.2]) M (fun s => !decide ((s.2.1 : Int) = 0)) (fun s => (s.2.1, s.1 % s.2.1, some (.int (s.1 % s.2.1 : Nat)))) (fun s => Nat.gcd s.1 s.2.1 = Int.gcd a b) (fun s => est s.1 s.2.1)
    (fun s _ => by array_get_dec) (fun s hs hp => by
      have h0 : s.2.1 ≠ 0 := by simpa using hp
      have h1 : (s.2.1 : Int) ≠ 0 := by omega
      refine ⟨?_, (gcd_step _ _).trans hs, ?_⟩
      · array_get_dec
        simp only [fmod_nat]
      · show est s.2.1 (s.1 % s.2.1) < est s.1 s.2.1
        rw [est_pos s.1 h0]
        omega) whileLine (a.natAbs, b.natAbs, none) rfl (est_line hb hn _)
  unfold sWhile
  rw [hw]
  have hy : y = 0 := by simpa using hp
  subst hy
  have hx : x = Int.gcd a b := by simpa using hI
  rw [← hx]
  array_get_dec
theorem fdiv_dvd {a g : Int} (h : g ∣ a) (h0 : g ≠ 0) : a.fdiv g = a / g := by
  obtain ⟨k, rfl⟩ := h
  rw [Int.mul_fdiv_cancel_left _ h0, Int.mul_ediv_cancel_left _ h0]
theorem fdiv_neg_dvd {a g : Int} (h : g ∣ a) (h0 : g ≠ 0) : a.fdiv (-g) = -(a / g) := by
  obtain ⟨k, rfl⟩ := h
  have e : g * k = -g * -k := by grind
  rw [Int.mul_ediv_cancel_left _ h0, e, Int.mul_fdiv_cancel_left _ (by omega)]
theorem p_ratio_exc {a : Int} (M : Store) : p_ratio [.int a, .int 0] M = .exc "NoRatio" M := by
  unfold p_ratio
  array_get_dec
  unfold p_ratio.b
  array_get_dec
theorem gcd_lt {n : Nat} {a b : Int} (hb : b ≠ 0) (h : Lt2 n b) : Lt2 n (Int.gcd a b : Int) := by
  refine h.le ?_
  rw [Int.natAbs_natCast]
  exact Nat.le_of_dvd (by omega) (Int.gcd_dvd_natAbs_right a b)
theorem gcd_mul_num {a b : Int} (hb : b ≠ 0) : (if b < 0 then -(Int.gcd a b : Int) else (Int.gcd a b : Int)) * (Rat.divInt a b).num = a ∧ (if b < 0 then -(Int.gcd a b : Int) else (Int.gcd a b : Int)) * ((Rat.divInt a b).den : Int) = b := by
  obtain ⟨e1, e2⟩ := red_num (a := a) hb
  rw [e1, e2]
  have h1 := Int.mul_ediv_cancel' (Int.gcd_dvd_left a b)
  have h2 := Int.mul_ediv_cancel' (Int.gcd_dvd_right a b)
  split
  · exact ⟨by rw [Int.neg_mul_neg]; exact h1, by rw [Int.neg_mul_neg]; exact h2⟩
  · exact ⟨h1, h2⟩
/-- the divisions of a reduction: a small bottom, or a small outcome -/
theorem red_div {m : Nat} {a b : Int} (hb : b ≠ 0) (hm : Lt2 m b) (h : m ≤ 9000 ∨ Sz 4500 (Rat.divInt a b)) : divOk a (if b < 0 then -(Int.gcd a b : Int) else (Int.gcd a b : Int)) = true ∧ divOk b (if b < 0 then -(Int.gcd a b : Int) else (Int.gcd a b : Int)) = true := by
  have g0 : (Int.gcd a b : Int) ≠ 0 := by
    have : Int.gcd a b ≠ 0 := fun z => hb (Int.gcd_eq_zero_iff.mp z).2
    omega
  rcases h with h | h
  · have hg := gcd_lt (a := a) hb hm
    have d : Lt2 m (if b < 0 then -(Int.gcd a b : Int) else (Int.gcd a b : Int)) := by
      split
      · exact hg.neg
      · exact hg
    exact ⟨divOk_lt d h a, divOk_lt d h b⟩
  · obtain ⟨e1, e2⟩ := gcd_mul_num (a := a) hb
    have n0 : (if b < 0 then -(Int.gcd a b : Int) else (Int.gcd a b : Int)) ≠ 0 := by split <;> omega
    have q1 := divOk_quo n0 h.1 (Nat.le_refl _)
    have q2 := divOk_quo n0 h.den (Nat.le_refl _)
    rw [e1] at q1
    rw [e2] at q2
    exact ⟨q1, q2⟩
theorem p_ratio_ok {m : Nat} {a b : Int} (hb0 : b ≠ 0) (hb : Lt2 m b) (hm : m ≤ 1000000000) (hd : m ≤ 9000 ∨ Sz 4500 (Rat.divInt a b)) (M : Store) : p_ratio [.int a, .int b] M = .ok (rv (Rat.divInt a b)) M := by
  unfold p_ratio
  array_get_dec
  unfold p_ratio.b
  array_get_dec
  rw [decide_eq_false hb0]
  array_get_dec
  rw [p_shared_ok hb hm]
  array_get_dec
  have g0 : (Int.gcd a b : Int) ≠ 0 := by
    have : Int.gcd a b ≠ 0 := fun z => hb0 (Int.gcd_eq_zero_iff.mp z).2
    omega
  obtain ⟨e1, e2⟩ := red_num (a := a) hb0
  obtain ⟨d1, d2⟩ := red_div hb0 hb hd
  by_cases hs : b < 0
  · rw [decide_eq_true hs]
    array_get_dec
    have g1 : -(Int.gcd a b : Int) ≠ 0 := by omega
    rw [if_pos hs] at e1 e2 d1 d2
    array_get_dec
    rw [fdiv_neg_dvd (Int.gcd_dvd_left a b) g0, fdiv_neg_dvd (Int.gcd_dvd_right a b) g0]
    rw [← e1, ← e2]
    rfl
  · rw [decide_eq_false hs]
    array_get_dec
    rw [if_neg hs] at e1 e2 d1 d2
    array_get_dec
    rw [fdiv_dvd (Int.gcd_dvd_left a b) g0, fdiv_dvd (Int.gcd_dvd_right a b) g0]
    rw [← e1, ← e2]
    rfl
theorem sz_add {m n : Nat} {p q : Rat} (hp : Sz m p) (hq : Sz n q) : Sz (m + n + 1) (p + q) := by
  rw [← rat_add]
  refine sz_divInt (Int.mul_ne_zero (den_ne p) (den_ne q)) ?_ ((hp.den.mul hq.den).mono (by omega))
  exact ((hp.1.mul hq.den).add (hq.1.mul hp.den)).mono (by omega)
theorem sz_sub {m n : Nat} {p q : Rat} (hp : Sz m p) (hq : Sz n q) : Sz (m + n + 1) (p - q) := by
  rw [← rat_sub]
  refine sz_divInt (Int.mul_ne_zero (den_ne p) (den_ne q)) ?_ ((hp.den.mul hq.den).mono (by omega))
  exact ((hp.1.mul hq.den).sub (hq.1.mul hp.den)).mono (by omega)
theorem sz_mul {m n : Nat} {p q : Rat} (hp : Sz m p) (hq : Sz n q) : Sz (m + n) (p * q) := by
  rw [← rat_mul]
  exact sz_divInt (Int.mul_ne_zero (den_ne p) (den_ne q)) (hp.1.mul hq.1) (hp.den.mul hq.den)
theorem sz_div {m n : Nat} {p q : Rat} (h : q ≠ 0) (hp : Sz m p) (hq : Sz n q) : Sz (m + n) (p / q) := by
  rw [← rat_div p q h]
  exact sz_divInt (Int.mul_ne_zero (den_ne p) fun z => h (Rat.num_eq_zero.mp z)) (hp.1.mul hq.den) (hp.den.mul hq.1)
theorem p_plus_ok {m n : Nat} {p q : Rat} (hp : Sz m p) (hq : Sz n q) (h : m + n + 1 ≤ 100000000) (hd : m + n ≤ 9000 ∨ Sz 4500 (p + q)) (M : Store) : p_plus [rv p, rv q] M = .ok (rv (p + q)) M := by
  unfold p_plus rv
  array_get_dec
  unfold p_plus.b
  have e1 := mulOk_lt hp.1 hq.den (by omega)
  have e2 := mulOk_lt hq.1 hp.den (by omega)
  have e3 := mulOk_lt hp.den hq.den (by omega)
  array_get_dec
  rw [p_ratio_ok (Int.mul_ne_zero (den_ne p) (den_ne q)) (hp.den.mul hq.den) (by omega) (by rw [rat_add]; exact hd), rat_add]
  array_get_dec
  rfl
theorem p_minus_ok {m n : Nat} {p q : Rat} (hp : Sz m p) (hq : Sz n q) (h : m + n + 1 ≤ 100000000) (hd : m + n ≤ 9000 ∨ Sz 4500 (p - q)) (M : Store) : p_minus [rv p, rv q] M = .ok (rv (p - q)) M := by
  unfold p_minus rv
  array_get_dec
  unfold p_minus.b
  have e1 := mulOk_lt hp.1 hq.den (by omega)
  have e2 := mulOk_lt hq.1 hp.den (by omega)
  have e3 := mulOk_lt hp.den hq.den (by omega)
  array_get_dec
  rw [p_ratio_ok (Int.mul_ne_zero (den_ne p) (den_ne q)) (hp.den.mul hq.den) (by omega) (by rw [rat_sub]; exact hd), rat_sub]
  array_get_dec
  rfl
theorem p_times_ok {m n : Nat} {p q : Rat} (hp : Sz m p) (hq : Sz n q) (h : m + n + 1 ≤ 100000000) (hd : m + n ≤ 9000 ∨ Sz 4500 (p * q)) (M : Store) : p_times [rv p, rv q] M = .ok (rv (p * q)) M := by
  unfold p_times rv
  array_get_dec
  unfold p_times.b
  have e1 := mulOk_lt hp.1 hq.1 (by omega)
  have e3 := mulOk_lt hp.den hq.den (by omega)
  array_get_dec
  rw [p_ratio_ok (Int.mul_ne_zero (den_ne p) (den_ne q)) (hp.den.mul hq.den) (by omega) (by rw [rat_mul]; exact hd), rat_mul]
  array_get_dec
  rfl
theorem p_over_ok {m n : Nat} {p q : Rat} (h0 : q ≠ 0) (hp : Sz m p) (hq : Sz n q) (h : m + n + 1 ≤ 100000000) (hd : m + n ≤ 9000 ∨ Sz 4500 (p / q)) (M : Store) : p_over [rv p, rv q] M = .ok (rv (p / q)) M := by
  unfold p_over rv
  array_get_dec
  unfold p_over.b
  have e1 := mulOk_lt hp.1 hq.den (by omega)
  have e2 := mulOk_lt hp.den hq.1 (by omega)
  have n0 : q.num ≠ 0 := fun z => h0 (Rat.num_eq_zero.mp z)
  array_get_dec
  rw [p_ratio_ok (Int.mul_ne_zero (den_ne p) n0) (hp.den.mul hq.1) (by omega) (by rw [rat_div p q h0]; exact hd), rat_div p q h0]
  array_get_dec
  rfl
theorem p_over_exc {m : Nat} {p : Rat} (hp : Sz m p) (h : m + 1 ≤ 100000000) (M : Store) : p_over [rv p, rv 0] M = .exc "NoRatio" M := by
  unfold p_over rv
  array_get_dec
  unfold p_over.b
  have e1 := mulOk_lt hp.1 (show Lt2 1 ((0 : Rat).den : Int) by decide) (by omega)
  have e2 := mulOk_lt hp.den (show Lt2 1 (0 : Rat).num by decide) (by omega)
  array_get_dec
  rw [show (p.den : Int) * (0 : Rat).num = 0 from Int.mul_zero _, p_ratio_exc]
  array_get_dec
theorem p_less_ok {m n : Nat} {p q : Rat} (hp : Sz m p) (hq : Sz n q) (h : m + n + 1 ≤ 100000000) (M : Store) : p_less [rv p, rv q] M = .ok (.bl (decide (p.num * q.den < q.num * p.den))) M := by
  unfold p_less rv
  array_get_dec
  unfold p_less.b
  have e1 := mulOk_lt hp.1 hq.den (by omega)
  have e2 := mulOk_lt hq.1 hp.den (by omega)
  array_get_dec
/-- small things -/
theorem p_plus_s {m n : Nat} {p q : Rat} (hp : Sz m p) (hq : Sz n q) (h : m + n ≤ 9000) (M : Store) : p_plus [rv p, rv q] M = .ok (rv (p + q)) M := p_plus_ok hp hq (by omega) (.inl h) M
theorem p_minus_s {m n : Nat} {p q : Rat} (hp : Sz m p) (hq : Sz n q) (h : m + n ≤ 9000) (M : Store) : p_minus [rv p, rv q] M = .ok (rv (p - q)) M := p_minus_ok hp hq (by omega) (.inl h) M
theorem p_times_s {m n : Nat} {p q : Rat} (hp : Sz m p) (hq : Sz n q) (h : m + n ≤ 9000) (M : Store) : p_times [rv p, rv q] M = .ok (rv (p * q)) M := p_times_ok hp hq (by omega) (.inl h) M
end Z
end
section
set_option Elab.async false
set_option autoImplicit false
/-! Loops over lists, stores that grow. -/
namespace Mn
/-- a store that has only grown -/
def Gr (M M' : Store) : Prop := ∃ g, M' = M ++ g
theorem Gr.refl (M : Store) : Gr M M := ⟨[], (List.append_nil M).symm⟩
theorem Gr.trans {a b c : Store} (h : Gr a b) (k : Gr b c) : Gr a c := by
  obtain ⟨g, rfl⟩ := h
  obtain ⟨g', rfl⟩ := k
  exact ⟨g ++ g', by rw [List.append_assoc]⟩
theorem Gr.one (M : Store) (c : Cell) : Gr M (M ++ [c]) := ⟨[c], rfl⟩
theorem Gr.at {M M' : Store} (h : Gr M M') {n : Nat} {c : Cell} (e : M[n]? = some c) : M'[n]? = some c := by
  obtain ⟨g, rfl⟩ := h
  rw [List.getElem?_append_left (by
    have := List.getElem?_eq_some_iff.mp e
    exact this.1)]
  exact e
theorem lstAt_lst {M : Store} {n : Nat} {xs : List Val} (h : M[n]? = some (.lst xs)) : lstAt M n = some xs := by
  unfold lstAt
  rw [h]
theorem lstAt_ro {M : Store} {n : Nat} {xs : List Val} (h : M[n]? = some (.ro xs)) : lstAt M n = some xs := by
  unfold lstAt
  rw [h]
theorem Gr.lstAt {M M' : Store} (h : Gr M M') {n : Nat} {xs : List Val} (e : Mn.lstAt M n = some xs) : Mn.lstAt M' n = some xs := by
  unfold Mn.lstAt at *
  cases hc : M[n]? with
  | none =>
    rw [hc] at e
    exact nomatch e
  | some c =>
    rw [h.at hc]
    rw [hc] at e
    exact e
theorem lst_new (M : Store) (xs : List Val) : lstAt (M ++ [.lst xs]) M.length = some xs := lstAt_lst (by simp)
theorem lst_new' (M : Store) (c : Cell) : (M ++ [c])[M.length]? = some c := by simp
theorem oIx_ref {M : Store} {n : Nat} {xs : List Val} (h : lstAt M n = some xs) (i : Int) : oIx (.ref n) (.int i) M = (atI xs i).map fun v => (v, M) := by
  show (match lstAt M n with | some xs => (atI xs i).map fun v => (v, M) | none => none) = _
  rw [h]
theorem atI_nat {α : Type} {xs : List α} {i : Nat} {x : α} (h : xs[i]? = some x) : atI xs (i : Int) = some x := by
  have hl := (List.getElem?_eq_some_iff.mp h).1
  unfold atI atIx
  rw [if_pos (Int.natCast_nonneg i), if_pos (by omega)]
  exact h
theorem oIx_nat {M : Store} {n : Nat} {xs : List Val} (h : lstAt M n = some xs) {i : Nat} {v : Val} (hv : xs[i]? = some v) : oIx (.ref n) (.int i) M = some (v, M) := by
  rw [oIx_ref h, atI_nat hv]
  rfl
theorem uLen_ref {M : Store} {n : Nat} {xs : List Val} (h : lstAt M n = some xs) : uLen (.ref n) M = some (.int xs.length, M) := by
  show (match lstAt M n with | some xs => some (Val.int xs.length, M) | none => none) = _
  rw [h]
/-- a turn's outcome: on with J, or over with Q -/
def Turn (r : RS) (J : Env → Store → Prop) (Q : RS → Prop) : Prop := match r with
  | .nx ρ M => J ρ M
  | .ct ρ M => J ρ M
  | .bk ρ M => Q (.nx ρ M)
  | r => Q r
theorem for_inv {it : Itr} {t : Tg} {b : St} {N : Nat} (I : Nat → Env → Store → Prop) (Q : RS → Prop)
    (hs : ∀ i, i < N → ∀ ρ M, I i ρ M → ∃ v ρ1 M1, it.nxt i M = some v ∧ t v ρ M = .nx ρ1 M1 ∧ Turn (b ρ1 M1) (I (i + 1)) Q) (he : ∀ ρ M, I N ρ M → it.fin M = true ∧ Q (.nx ρ M)) :
    ∀ (k i : Nat) (ρ : Env) (M : Store), i + k = N → I i ρ M → Q (sForN it t b k i ρ M)
  | 0, i, ρ, M, e, h => by
    have : i = N := e
    subst this
    obtain ⟨h1, h2⟩ := he ρ M h
    unfold sForN
    rw [if_pos h1]
    exact h2
  | k + 1, i, ρ, M, e, h => by
    obtain ⟨v, ρ1, M1, h1, h2, h3⟩ := hs i (by omega) ρ M h
    unfold sForN
    rw [h1]
    simp only []
    rw [h2]
    simp only []
    cases hb : b ρ1 M1 with
    | nx ρ' M' =>
      rw [hb] at h3
      exact for_inv I Q hs he k (i + 1) ρ' M' (by omega) h3
    | ct ρ' M' =>
      rw [hb] at h3
      exact for_inv I Q hs he k (i + 1) ρ' M' (by omega) h3
    | bk ρ' M' =>
      rw [hb] at h3
      exact h3
    | ret v M' =>
      rw [hb] at h3
      exact h3
    | exc c ρ' M' =>
      rw [hb] at h3
      exact h3
    | bad =>
      rw [hb] at h3
      exact h3
/-- a loop over a sequence that stands -/
theorem for_seq {w : Val} {xs : List Val} {t : Tg} {b : St} (I : Nat → Env → Store → Prop) (Q : RS → Prop) (hl : ∀ i ρ M, I i ρ M → seqOf M w = some xs)
    (hs : ∀ i v, xs[i]? = some v → ∀ ρ M, I i ρ M → ∃ ρ1 M1, t v ρ M = .nx ρ1 M1 ∧ Turn (b ρ1 M1) (I (i + 1)) Q) (he : ∀ ρ M, I xs.length ρ M → Q (.nx ρ M))
    (ρ : Env) (M : Store) (h : I 0 ρ M) : Q (sForN (itSeq w xs.length) t b (itSeq w xs.length).n 0 ρ M) := by
  refine for_inv (N := xs.length) I Q ?_ ?_ xs.length 0 ρ M (Nat.zero_add _) h
  · intro i hi ρ M hI
    have hv : xs[i]? = some xs[i] := by simp [hi]
    obtain ⟨ρ1, M1, h1, h2⟩ := hs i _ hv ρ M hI
    refine ⟨_, ρ1, M1, ?_, h1, h2⟩
    show (seqOf M w).bind _ = _
    rw [hl i ρ M hI]
    exact hv
  · intro ρ M hI
    refine ⟨?_, he ρ M hI⟩
    show (match seqOf M w with | some ys => decide (ys.length ≤ xs.length) | none => false) = true
    rw [hl _ ρ M hI]
    exact decide_eq_true (Nat.le_refl _)
/-- index and thing -/
theorem for_enum {n : Nat} {xs : List Val} {t : Tg} {b : St} (I : Nat → Env → Store → Prop) (Q : RS → Prop) (hl : ∀ i ρ M, I i ρ M → lstAt M n = some xs)
    (hs : ∀ (i : Nat) v, xs[i]? = some v → ∀ ρ M, I i ρ M → ∃ ρ1 M1, t (.tup [.int i, v]) ρ M = .nx ρ1 M1 ∧ Turn (b ρ1 M1) (I (i + 1)) Q) (he : ∀ ρ M, I xs.length ρ M → Q (.nx ρ M))
    (ρ : Env) (M : Store) (h : I 0 ρ M) : Q (sForN (itEnum n xs.length) t b (itEnum n xs.length).n 0 ρ M) := by
  refine for_inv (N := xs.length) I Q ?_ ?_ xs.length 0 ρ M (Nat.zero_add _) h
  · intro i hi ρ M hI
    have hv : xs[i]? = some xs[i] := by simp [hi]
    obtain ⟨ρ1, M1, h1, h2⟩ := hs i _ hv ρ M hI
    refine ⟨_, ρ1, M1, ?_, h1, h2⟩
    show (lstAt M n).bind _ = _
    rw [hl i ρ M hI]
    show xs[i]?.map _ = _
    rw [hv]
    rfl
  · intro ρ M hI
    refine ⟨?_, he ρ M hI⟩
    show (match lstAt M n with | some ys => decide (ys.length ≤ xs.length) | none => false) = true
    rw [hl _ ρ M hI]
    exact decide_eq_true (Nat.le_refl _)
/-- two sequences of one length, side by side -/
theorem for_zip {w w' : Val} {xs ys : List Val} {t : Tg} {b : St} (hn : xs.length = ys.length) (I : Nat → Env → Store → Prop) (Q : RS → Prop) (hl : ∀ i ρ M, I i ρ M → seqOf M w = some xs ∧ seqOf M w' = some ys)
    (hs : ∀ (i : Nat) x y, xs[i]? = some x → ys[i]? = some y → ∀ ρ M, I i ρ M → ∃ ρ1 M1, t (.tup [x, y]) ρ M = .nx ρ1 M1 ∧ Turn (b ρ1 M1) (I (i + 1)) Q) (he : ∀ ρ M, I xs.length ρ M → Q (.nx ρ M))
    (ρ : Env) (M : Store) (h : I 0 ρ M) : Q (sForN (itZip w w' (min xs.length ys.length)) t b (itZip w w' (min xs.length ys.length)).n 0 ρ M) := by
  rw [← hn, Nat.min_self]
  refine for_inv (N := xs.length) I Q ?_ ?_ xs.length 0 ρ M (Nat.zero_add _) h
  · intro i hi ρ M hI
    have hv : xs[i]? = some xs[i] := by simp [hi]
    have hy : ys[i]? = some (ys[i]'(by omega)) := by simp [show i < ys.length by omega]
    obtain ⟨ρ1, M1, h1, h2⟩ := hs i _ _ hv hy ρ M hI
    refine ⟨_, ρ1, M1, ?_, h1, h2⟩
    obtain ⟨e1, e2⟩ := hl i ρ M hI
    show (match seqOf M w, seqOf M w' with
      | some xs, some ys => (match xs[i]?, ys[i]? with
        | some x, some y => some (Val.tup [x, y])
        | _, _ => none)
      | _, _ => none) = _
    rw [e1, e2]
    simp only []
    rw [hv, hy]
  · intro ρ M hI
    refine ⟨?_, he ρ M hI⟩
    obtain ⟨e1, e2⟩ := hl _ ρ M hI
    show (match seqOf M w, seqOf M w' with
      | some xs', some ys => decide (xs'.length ≤ xs.length) || decide (ys.length ≤ xs.length)
      | _, _ => false) = true
    rw [e1, e2]
    simp
theorem for_rg {lo : Int} {n : Nat} {t : Tg} {b : St} (I : Nat → Env → Store → Prop) (Q : RS → Prop)
    (hs : ∀ i, i < n → ∀ ρ M, I i ρ M → ∃ ρ1 M1, t (.int (lo + (i : Int))) ρ M = .nx ρ1 M1 ∧ Turn (b ρ1 M1) (I (i + 1)) Q) (he : ∀ ρ M, I n ρ M → Q (.nx ρ M))
    (ρ : Env) (M : Store) (h : I 0 ρ M) : Q (sForN (itRg lo n) t b (itRg lo n).n 0 ρ M) := by
  refine for_inv (N := n) I Q ?_ ?_ n 0 ρ M (Nat.zero_add _) h
  · intro i hi ρ M hI
    obtain ⟨ρ1, M1, h1, h2⟩ := hs i hi ρ M hI
    exact ⟨_, ρ1, M1, rfl, h1, h2⟩
  · intro ρ M hI
    exact ⟨rfl, he ρ M hI⟩
theorem while_inv {c : E} {b : St} (I : Nat → Env → Store → Prop) (Q : RS → Prop)
    (hs : ∀ m ρ M, I m ρ M → (∃ M1, c ρ M = .ok (.bl false) M1 ∧ Q (.nx ρ M1)) ∨ ∃ M1, c ρ M = .ok (.bl true) M1 ∧ Turn (b ρ M1) (fun ρ' M' => ∃ m', m' < m ∧ I m' ρ' M') Q) :
    ∀ (k m : Nat) (ρ : Env) (M : Store), m < k → I m ρ M → Q (sWhileN c b k ρ M)
  | 0, m, ρ, M, h, _ => by omega
  | k + 1, m, ρ, M, h, hI => by
    unfold sWhileN
    rcases hs m ρ M hI with ⟨M1, h1, h2⟩ | ⟨M1, h1, h2⟩
    · rw [h1]
      exact h2
    · rw [h1]
      simp only [R.st_ok]
      cases hb : b ρ M1 with
      | nx ρ' M' =>
        rw [hb] at h2
        obtain ⟨m', l, hI'⟩ := h2
        exact while_inv I Q hs k m' ρ' M' (by omega) hI'
      | ct ρ' M' =>
        rw [hb] at h2
        obtain ⟨m', l, hI'⟩ := h2
        exact while_inv I Q hs k m' ρ' M' (by omega) hI'
      | bk ρ' M' =>
        rw [hb] at h2
        exact h2
      | ret v M' =>
        rw [hb] at h2
        exact h2
      | exc x ρ' M' =>
        rw [hb] at h2
        exact h2
      | bad =>
        rw [hb] at h2
        exact h2
/-! ### comprehensions -/
theorem lc_inv {it : Itr} {t : Tg} {c e : E} {ρ : Env} {N : Nat} (I : Nat → List Val → Store → Prop)
    (hs : ∀ i, i < N → ∀ acc M, I i acc M → ∃ v ρ1 M1, it.nxt i M = some v ∧ t v ρ M = .nx ρ1 M1 ∧
      ((∃ M2 y M3, c ρ1 M1 = .ok (.bl true) M2 ∧ e ρ1 M2 = .ok y M3 ∧ I (i + 1) (acc ++ [y]) M3) ∨ ∃ M2, c ρ1 M1 = .ok (.bl false) M2 ∧ I (i + 1) acc M2)) (he : ∀ acc M, I N acc M → it.fin M = true) :
    ∀ (k i : Nat) (acc : List Val) (M : Store), i + k = N → I i acc M → ∃ ys M', lcN it t c e ρ k i acc M = .ok ys M' ∧ I N ys M'
  | 0, i, acc, M, en, h => by
    have : i = N := en
    subst this
    unfold lcN
    rw [if_pos (he acc M h)]
    exact ⟨acc, M, rfl, h⟩
  | k + 1, i, acc, M, en, h => by
    obtain ⟨v, ρ1, M1, h1, h2, h3⟩ := hs i (by omega) acc M h
    unfold lcN
    rw [h1]
    simp only []
    rw [h2]
    simp only []
    rcases h3 with ⟨M2, y, M3, h3, h4, h5⟩ | ⟨M2, h3, h4⟩
    · rw [h3]
      simp only []
      rw [h4]
      simp only []
      exact lc_inv I hs he k (i + 1) _ M3 (by omega) h5
    · rw [h3]
      simp only []
      exact lc_inv I hs he k (i + 1) _ M2 (by omega) h4
/-- the turns of a walk that stands: what it yields at i -/
structure Walks (it : Itr) (n : Nat) (f : Nat → Option Val) (M : Store) : Prop where
  cnt : it.n = n
  nxt : ∀ M', Gr M M' → ∀ i, i < n → it.nxt i M' = f i
  fin : ∀ M', Gr M M' → it.fin M' = true
theorem Gr.seq {M M' : Store} (h : Gr M M') {w : Val} {xs : List Val} (e : seqOf M w = some xs) : seqOf M' w = some xs := by
  cases w with
  | ref n => exact h.lstAt e
  | tup ys => exact e
  | _ => cases e
theorem walks_seq {M : Store} {w : Val} {xs : List Val} (h : seqOf M w = some xs) : Walks (itSeq w xs.length) xs.length (fun i => xs[i]?) M := by
  refine ⟨rfl, fun M' g i _ => ?_, fun M' g => ?_⟩
  · show (seqOf M' w).bind _ = _
    rw [g.seq h]
    rfl
  · show (match seqOf M' w with | some ys => decide (ys.length ≤ xs.length) | none => false) = true
    rw [g.seq h]
    exact decide_eq_true (Nat.le_refl _)
theorem walks_rev {M : Store} {w : Val} {xs : List Val} (h : seqOf M w = some xs) : Walks (itRev w xs.length) xs.length (fun i => xs[xs.length - 1 - i]?) M := by
  refine ⟨rfl, fun M' g i _ => ?_, fun M' g => rfl⟩
  show (seqOf M' w).bind _ = _
  rw [g.seq h]
  rfl
theorem walks_enum {M : Store} {n : Nat} {xs : List Val} (h : lstAt M n = some xs) : Walks (itEnum n xs.length) xs.length (fun i => xs[i]?.map fun y => .tup [.int i, y]) M := by
  refine ⟨rfl, fun M' g i _ => ?_, fun M' g => ?_⟩
  · show (lstAt M' n).bind _ = _
    rw [g.lstAt h]
    rfl
  · show (match lstAt M' n with | some ys => decide (ys.length ≤ xs.length) | none => false) = true
    rw [g.lstAt h]
    exact decide_eq_true (Nat.le_refl _)
theorem walks_rg (lo : Int) (n : Nat) (M : Store) : Walks (itRg lo n) n (fun i => some (.int (lo + (i : Int)))) M := ⟨rfl, fun _ _ _ _ => rfl, fun _ _ => rfl⟩
theorem walks_zip {M : Store} {w w' : Val} {xs ys : List Val} (h : seqOf M w = some xs) (h' : seqOf M w' = some ys) : Walks (itZip w w' (min xs.length ys.length)) (min xs.length ys.length) (fun i => match xs[i]?, ys[i]? with
    | some x, some y => some (.tup [x, y])
    | _, _ => none) M := by
  refine ⟨rfl, fun M' g i _ => ?_, fun M' g => ?_⟩
  · show (match seqOf M' w, seqOf M' w' with
      | some xs, some ys => (match xs[i]?, ys[i]? with
        | some x, some y => some (Val.tup [x, y])
        | _, _ => none)
      | _, _ => none) = _
    rw [g.seq h, g.seq h']
  · show (match seqOf M' w, seqOf M' w' with
      | some xs', some ys' => decide (xs'.length ≤ min xs.length ys.length) || decide (ys'.length ≤ min xs.length ys.length)
      | _, _ => false) = true
    rw [g.seq h, g.seq h']
    simp only [Bool.or_eq_true, decide_eq_true_eq]
    omega
/-- a comprehension without a test, whose turns only let the store grow: P tells thing by thing what is made -/
theorem lc_map {it : Itr} {t : Tg} {e : E} {ρ : Env} {M : Store} {n : Nat} {f : Nat → Option Val} (w : Walks it n f M) (P : Nat → Val → Store → Prop) (hP : ∀ i v M1 M2, P i v M1 → Gr M1 M2 → P i v M2)
    (hs : ∀ i, i < n → ∀ M1, Gr M M1 → ∃ v ρ1 y M2, f i = some v ∧ t v ρ M1 = .nx ρ1 M1 ∧ e ρ1 M1 = .ok y M2 ∧ Gr M1 M2 ∧ P i y M2) :
    ∃ ys M', lcN it t (eC (.bl true)) e ρ it.n 0 [] M = .ok ys M' ∧ Gr M M' ∧ ys.length = n ∧ ∀ i v, ys[i]? = some v → P i v M' := by
  obtain ⟨ys, M', h1, h2, h3, h4⟩ := lc_inv (it := it) (t := t) (c := eC (.bl true)) (e := e) (ρ := ρ) (N := n) (fun i acc M1 => Gr M M1 ∧ acc.length = i ∧ ∀ j v, acc[j]? = some v → P j v M1)
    (fun i hi acc M1 ⟨g, l, p⟩ => by
      obtain ⟨v, ρ1, y, M2, q1, q2, q3, q4, q5⟩ := hs i hi M1 g
      refine ⟨v, ρ1, M1, (w.nxt M1 g i hi).trans q1, q2, .inl ⟨M1, y, M2, rfl, q3, g.trans q4, by rw [List.length_append, l]; rfl, fun j u hu => ?_⟩⟩
      by_cases hj : j < acc.length
      · rw [List.getElem?_append_left hj] at hu
        exact hP j u M1 M2 (p j u hu) q4
      · have hl := (List.getElem?_eq_some_iff.mp hu).1
        rw [List.length_append, List.length_singleton] at hl
        have ej : j = acc.length := by omega
        subst ej
        rw [List.getElem?_append_right (Nat.le_refl _), Nat.sub_self] at hu
        cases hu
        rw [l]
        exact q5) (fun acc M1 ⟨g, _, _⟩ => w.fin M1 g) n 0 [] M (Nat.zero_add _) ⟨Gr.refl M, rfl, fun j v z => by cases z⟩
  rw [w.cnt]
  exact ⟨ys, M', h1, h2, h3, h4⟩
end Mn
end
section
set_option Elab.async false
set_option autoImplicit false
/-! Rows of ratios in the store, exact comprehensions, cuts, copies, == of rows. -/
namespace Mn
theorem lc_exact {it : Itr} {t : Tg} {e : E} {ρ : Env} {M : Store} {n : Nat} {f : Nat → Option Val} (w : Walks it n f M) (ys : List Val) (hl : ys.length = n)
    (hs : ∀ i y, ys[i]? = some y → ∃ v ρ1, f i = some v ∧ t v ρ M = .nx ρ1 M ∧ e ρ1 M = .ok y M) : lcN it t (eC (.bl true)) e ρ it.n 0 [] M = .ok ys M := by
  obtain ⟨zs, M', h1, h2, h3⟩ := lc_inv (it := it) (t := t) (c := eC (.bl true)) (e := e) (ρ := ρ) (N := n) (fun i acc M1 => M1 = M ∧ acc = ys.take i)
    (fun i hi acc M1 ⟨e1, e2⟩ => by
      subst e1 e2
      have hy : ys[i]? = some (ys[i]'(by omega)) := by simp [show i < ys.length by omega]
      obtain ⟨v, ρ1, q1, q2, q3⟩ := hs i _ hy
      exact ⟨v, ρ1, M1, (w.nxt M1 (Gr.refl M1) i hi).trans q1, q2, .inl ⟨M1, _, M1, rfl, q3, rfl, by rw [List.take_add_one, hy]; rfl⟩⟩) (fun acc M1 ⟨e1, _⟩ => by
        subst e1
        exact w.fin M1 (Gr.refl M1)) n 0 [] M (Nat.zero_add _) ⟨rfl, rfl⟩
  rw [w.cnt, h1, h2, h3, ← hl, List.take_length]
/-- a row of ratios at n -/
def Row (M : Store) (n : Nat) (qs : List Rat) : Prop := M[n]? = some (.lst (qs.map rv))
section
variable {M M' : Store} {m n : Nat} {ps qs : List Rat}
theorem Row.lst (h : Row M n qs) : lstAt M n = some (qs.map rv) := lstAt_lst h
theorem Row.seq (h : Row M n qs) : seqOf M (.ref n) = some (qs.map rv) := lstAt_lst h
theorem Row.gr (h : Row M n qs) (g : Gr M M') : Row M' n qs := g.at h
theorem Row.lt (h : Row M n qs) : n < M.length := (List.getElem?_eq_some_iff.mp h).1
theorem Row.set (h : Row M n qs) {c : Cell} (d : n ≠ m) : Row (M.set m c) n qs := by
  unfold Row
  rw [List.getElem?_set_ne (Ne.symm d)]
  exact h
theorem Row.new (M : Store) (qs : List Rat) : Row (M ++ [.lst (qs.map rv)]) M.length qs := lst_new' M _
theorem Row.app (h : Row M n qs) (c : Cell) : Row (M ++ [c]) n qs := h.gr (Gr.one M c)
theorem Row.ix (h : Row M n qs) {i : Nat} {q : Rat} (hq : qs[i]? = some q) : oIx (.ref n) (.int i) M = some (rv q, M) := oIx_nat h.lst (by rw [List.getElem?_map, hq]; rfl)
theorem Row.len (h : Row M n qs) : uLen (.ref n) M = some (.int qs.length, M) := by
  rw [uLen_ref h.lst, List.length_map]
theorem Gr.set (g : Gr M M') {c : Cell} (h : M.length ≤ m) : Gr M (M'.set m c) := by
  obtain ⟨k, rfl⟩ := g
  exact ⟨k.set (m - M.length) c, by rw [List.set_append_right _ _ h]⟩
theorem Gr.len (g : Gr M M') : M.length ≤ M'.length := by
  obtain ⟨k, rfl⟩ := g
  rw [List.length_append]
  omega
end
/-- every one below 2 ^ n -/
def SzA (n : Nat) (qs : List Rat) : Prop := ∀ q ∈ qs, Sz n q
theorem SzA.at {n i : Nat} {qs : List Rat} {q : Rat} (h : SzA n qs) (hq : qs[i]? = some q) : Sz n q := h q (List.mem_of_getElem? hq)
theorem SzA.mono {m n : Nat} {qs : List Rat} (h : SzA m qs) (k : m ≤ n) : SzA n qs := fun q hq => (h q hq).mono k
/-- several rows -/
def Rows (M : Store) : List (Nat × List Rat) → Prop
  | [] => True
  | p :: l => Row M p.1 p.2 ∧ Rows M l
theorem Rows.gr {M M' : Store} (g : Gr M M') : ∀ {l : List (Nat × List Rat)}, Rows M l → Rows M' l
  | [], _ => trivial
  | _ :: _, h => ⟨h.1.gr g, Rows.gr g h.2⟩
theorem Rows.lt {M : Store} : ∀ {l : List (Nat × List Rat)}, Rows M l → ∀ p ∈ l, p.1 < M.length
  | [], _, p, hp => by cases hp
  | _ :: _, h, p, hp => by
    rcases List.mem_cons.mp hp with e | hp
    · rw [e]
      exact h.1.lt
    · exact Rows.lt h.2 p hp
theorem Rows.set {M : Store} {m : Nat} {c : Cell} : ∀ {l : List (Nat × List Rat)}, Rows M l → (∀ p ∈ l, p.1 ≠ m) → Rows (M.set m c) l
  | [], _, _ => trivial
  | _ :: _, h, d => ⟨h.1.set (d _ List.mem_cons_self), Rows.set h.2 fun p hp => d p (List.mem_cons_of_mem _ hp)⟩
/-- things that are ratios, as a row -/
theorem rats_of {n : Nat} : ∀ {ys : List Val}, (∀ (i : Nat) v, ys[i]? = some v → ∃ q, v = rv q ∧ Sz n q) → ∃ qs : List Rat, ys = qs.map rv ∧ SzA n qs
  | [], _ => ⟨[], rfl, fun q hq => by cases hq⟩
  | y :: ys, h => by
    obtain ⟨q, rfl, hq⟩ := h 0 _ rfl
    obtain ⟨qs, rfl, hs⟩ := rats_of (ys := ys) fun i v hv => h (i + 1) v hv
    refine ⟨q :: qs, rfl, fun p hp => ?_⟩
    rcases List.mem_cons.mp hp with e | hp
    · rw [e]
      exact hq
    · exact hs p hp
/-! ### cuts -/
theorem cut_map {α β : Type} (f : α → β) (xs : List α) (lo hi : Option Int) : cut (xs.map f) lo hi = (cut xs lo hi).map f := by
  unfold cut
  rw [List.length_map, List.map_take, List.map_drop]
theorem cutIx_nat (n d k : Nat) : cutIx n d (some (k : Int)) = min k n := by
  show (if (k : Int) < 0 then ((k : Int) + (n : Int)).toNat else min (k : Int).toNat n) = min k n
  rw [if_neg (by omega), Int.toNat_natCast]
theorem cutIx_none (n d : Nat) : cutIx n d none = d := rfl
theorem cut_to {α : Type} (xs : List α) (k : Nat) : cut xs none (some (k : Int)) = xs.take k := by
  unfold cut
  rw [cutIx_nat, cutIx_none, List.drop_zero, Nat.sub_zero, List.take_eq_take_iff]
  omega
theorem cut_from {α : Type} (xs : List α) (k : Nat) : cut xs (some (k : Int)) none = xs.drop k := by
  unfold cut
  rw [cutIx_nat, cutIx_none]
  by_cases h : k ≤ xs.length
  · rw [Nat.min_eq_left h]
    exact List.take_of_length_le (by rw [List.length_drop]; omega)
  · rw [List.drop_eq_nil_of_le (by omega : xs.length ≤ min k xs.length), List.drop_eq_nil_of_le (by omega)]
    simp
theorem cut_mid {α : Type} (xs : List α) (j k : Nat) (h : j ≤ k) : cut xs (some (j : Int)) (some (k : Int)) = (xs.drop j).take (k - j) := by
  unfold cut
  rw [cutIx_nat, cutIx_nat]
  by_cases h1 : j ≤ xs.length
  · rw [Nat.min_eq_left h1, List.take_eq_take_iff, List.length_drop]
    omega
  · rw [List.drop_eq_nil_of_le (by omega : xs.length ≤ min j xs.length), List.drop_eq_nil_of_le (by omega)]
    simp
theorem cutOf_ref {M : Store} {n : Nat} {xs : List Val} (h : lstAt M n = some xs) (lo hi : Option Int) : cutOf (.ref n) lo hi M = some (.ref M.length, M ++ [.lst (cut xs lo hi)]) := by
  unfold cutOf
  simp only []
  rw [h]
  rfl
theorem uList_seq {M : Store} {v : Val} {xs : List Val} (h : seqOf M v = some xs) : uList v M = some (.ref M.length, M ++ [.lst xs]) := by
  unfold uList
  rw [h]
  rfl
theorem oMul_lst {M : Store} {n : Nat} {xs : List Val} {k : Int} (h : M[n]? = some (.lst xs)) (hk : xs.length * k.toNat ≤ szLine ∧ -(2 ^ 63) ≤ k ∧ k < 2 ^ 63) : oMul (.ref n) (.int k) M = some (.ref M.length, M ++ [.lst (List.replicate k.toNat xs).flatten]) := by
  unfold oMul
  simp only []
  rw [h]
  exact if_pos hk
theorem flat_one {α : Type} (k : Nat) (x : α) : (List.replicate k [x]).flatten = List.replicate k x := by
  induction k with
  | zero => rfl
  | succ k ih =>
    rw [List.replicate_succ, List.replicate_succ, List.flatten_cons, ih]
    rfl
theorem mApp_ref {M : Store} {n : Nat} {xs : List Val} {v : Val} (h : M[n]? = some (.lst xs)) (hz : xs.length < szLine) : mApp (.ref n) v M = some (.non, M.set n (.lst (xs ++ [v]))) := by
  unfold mApp
  simp only []
  rw [h]
  exact if_pos hz
theorem isTy_lst {M : Store} {n : Nat} {xs : List Val} (h : M[n]? = some (.lst xs)) : isTy "list" (.ref n) M = true := by
  refine decide_eq_true ?_
  unfold tyName
  simp only []
  rw [h]
theorem uIs_lst {M : Store} {n : Nat} {xs : List Val} (h : M[n]? = some (.lst xs)) (ts : List String) : uIs ts (.ref n) M = some (.bl (ts.any (isT "list")), M) := by
  unfold uIs tyName
  simp only []
  rw [h]
theorem mapO_bl (bs : List Bool) : mapO toBl (bs.map .bl) = some bs := by
  induction bs with
  | nil => rfl
  | cons b bs ih =>
    show ((mapO toBl (bs.map .bl)).map fun l => b :: l) = _
    rw [ih]
    rfl
theorem uAll_new (M : Store) (bs : List Bool) : uAll (.ref M.length) (M ++ [.lst (bs.map .bl)]) = some (.bl (bs.all id), M ++ [.lst (bs.map .bl)]) := by
  unfold uAll uAllG
  simp only []
  rw [lst_new]
  simp only []
  rw [mapO_bl]
theorem uAny_new (M : Store) (bs : List Bool) : uAny (.ref M.length) (M ++ [.lst (bs.map .bl)]) = some (.bl (bs.any id), M ++ [.lst (bs.map .bl)]) := by
  unfold uAny uAllG
  simp only []
  rw [lst_new]
  simp only []
  rw [mapO_bl]
theorem seq_lst {M : Store} {n : Nat} {xs : List Val} (h : M[n]? = some (.lst xs)) : seqOf M (.ref n) = some xs := lstAt_lst h
theorem oIx_l0 {M : Store} {n : Nat} {v : Val} {xs : List Val} (h : lstAt M n = some (v :: xs)) : oIx (.ref n) (.int 0) M = some (v, M) := oIx_nat (i := 0) h rfl
theorem oIx_l1 {M : Store} {n : Nat} {v w : Val} {xs : List Val} (h : lstAt M n = some (v :: w :: xs)) : oIx (.ref n) (.int 1) M = some (w, M) := oIx_nat (i := 1) h rfl
theorem oIx_l2 {M : Store} {n : Nat} {u v w : Val} {xs : List Val} (h : lstAt M n = some (u :: v :: w :: xs)) : oIx (.ref n) (.int 2) M = some (w, M) := oIx_nat (i := 2) h rfl
theorem sForN_go {it : Itr} {t : Tg} {b : St} {k i : Nat} {ρ ρ1 ρ2 : Env} {M M1 M2 : Store} {v : Val} (h1 : it.nxt i M = some v) (h2 : t v ρ M = .nx ρ1 M1) (h3 : b ρ1 M1 = .nx ρ2 M2) : sForN it t b (k + 1) i ρ M = sForN it t b k (i + 1) ρ2 M2 := by
  conv => lhs; unfold sForN
  rw [h1]
  simp only []
  rw [h2]
  simp only []
  rw [h3]
theorem sForN_end {it : Itr} {t : Tg} {b : St} {i : Nat} {ρ : Env} {M : Store} (h : it.fin M = true) : sForN it t b 0 i ρ M = .nx ρ M := by
  unfold sForN
  rw [if_pos h]
theorem mIns_ref {M : Store} {n : Nat} {xs : List Val} {v : Val} {i : Int} (h : M[n]? = some (.lst xs)) (hz : xs.length < szLine ∧ 0 ≤ i ∧ i < 2 ^ 63) : mIns (.ref n) (.int i) v M = some (.non, M.set n (Cell.lst (xs.take i.toNat ++ [v] ++ xs.drop i.toNat))) := by
  unfold mIns
  simp only []
  rw [h]
  exact if_pos hz
/-- n noughts, by the display and * -/
theorem rep_x {M : Store} {q : Rat} {k : Nat} (hk : k ≤ 1000000) : ∃ M', oMul (.ref M.length) (.int (k : Int)) (M ++ [Cell.lst [rv q]]) = some (.ref (M.length + 1), M') ∧ Gr M M' ∧ Row M' (M.length + 1) (List.replicate k q) := by
  have e : M.length + 1 = (M ++ [Cell.lst [rv q]]).length := by rw [List.length_append]; rfl
  have sz : szLine = 16777216 := rfl
  rw [oMul_lst (lst_new' M _) (by rw [Int.toNat_natCast, List.length_singleton]; omega), Int.toNat_natCast, flat_one, ← e]
  refine ⟨_, rfl, (Gr.one _ _).trans (Gr.one _ (Cell.lst (List.replicate k (rv q)))), ?_⟩
  rw [e, ← List.map_replicate]
  exact Row.new _ _
/-! ### == of rows, of tables -/
mutual
theorem eqv_refl : ∀ t : T, t.eqv t = true
  | .non => by simp [T.eqv]
  | .bl b => by simp [T.eqv]
  | .int i => by simp [T.eqv]
  | .str s => by simp [T.eqv]
  | .tup xs => by
    unfold T.eqv
    exact eqvs_refl xs
  | .lst xs => by
    unfold T.eqv
    exact eqvs_refl xs
theorem eqvs_refl : ∀ ts : List T, T.eqvs ts ts = true
  | [] => by simp [T.eqvs]
  | t :: ts => by
    unfold T.eqvs
    rw [eqv_refl t, eqvs_refl ts]
    rfl
end
theorem mapO_some {α β : Type} {f : α → Option β} {g : α → β} : ∀ {xs : List α}, (∀ x ∈ xs, f x = some (g x)) → mapO f xs = some (xs.map g)
  | [], _ => rfl
  | x :: xs, h => by
    unfold mapO
    rw [h x List.mem_cons_self]
    simp only []
    rw [mapO_some fun y hy => h y (List.mem_cons_of_mem _ hy)]
    rfl
/-- a ratio's tree -/
def tq (q : Rat) : T := .tup [.int q.num, .int q.den]
theorem toT_rv (M : Store) (k : Nat) (q : Rat) : toT M (k + 2) (rv q) = some (tq q) := rfl
theorem mapO_rv (M : Store) (k : Nat) : ∀ l : List Rat, mapO (toT M (k + 2)) (l.map rv) = some (l.map tq)
  | [] => rfl
  | q :: l => by
    show ((mapO (toT M (k + 2)) (l.map rv)).map fun l => tq q :: l) = _
    rw [mapO_rv M k l]
    rfl
theorem toT_row {M : Store} {n : Nat} {qs : List Rat} (h : Row M n qs) (k : Nat) : toT M (k + 3) (.ref n) = some (.lst (qs.map tq)) := by
  show (match lstAt M n with
    | some xs => (mapO (toT M (k + 2)) xs).map T.lst
    | none => none) = _
  rw [h.lst]
  simp only []
  rw [mapO_rv]
  rfl
theorem eqv_tq (p q : Rat) : (tq p).eqv (tq q) = decide (p = q) := by
  have e : (tq p).eqv (tq q) = (decide (p.num = q.num) && (decide ((p.den : Int) = q.den) && true)) := by simp [tq, T.eqv, T.eqvs]
  rw [e, Bool.and_true, ← Bool.decide_and]
  exact decide_eq_decide.mpr ⟨fun h => Rat.ext h.1 (by omega), fun h => by rw [h]; exact ⟨rfl, rfl⟩⟩
theorem eqvs_tq : ∀ ps qs : List Rat, T.eqvs (ps.map tq) (qs.map tq) = decide (ps = qs)
  | [], [] => by simp [T.eqvs]
  | [], _ :: _ => by simp [T.eqvs]
  | _ :: _, [] => by simp [T.eqvs]
  | p :: ps, q :: qs => by
    rw [List.map_cons, List.map_cons]
    unfold T.eqvs
    rw [eqv_tq, eqvs_tq ps qs, ← Bool.decide_and]
    exact decide_eq_decide.mpr (by rw [List.cons.injEq])
theorem valEq_row {M : Store} {m n : Nat} {ps qs : List Rat} (h : Row M m ps) (h' : Row M n qs) : valEq (.ref m) (.ref n) M = some (decide (ps = qs)) := by
  unfold valEq
  rw [show eqFuel = 57 + 3 from rfl, toT_row h, toT_row h']
  simp only [T.eqv]
  rw [eqvs_tq]
theorem cEq_row {M : Store} {m n : Nat} {ps qs : List Rat} (h : Row M m ps) (h' : Row M n qs) : cEq (.ref m) (.ref n) M = some (.bl (decide (ps = qs)), M) := by
  unfold cEq
  rw [valEq_row h h']
  rfl
theorem cNe_row {M : Store} {m n : Nat} {ps qs : List Rat} (h : Row M m ps) (h' : Row M n qs) : cNe (.ref m) (.ref n) M = some (.bl (!decide (ps = qs)), M) := by
  unfold cNe
  rw [valEq_row h h']
  rfl
/-- lists of rows: the same rows -/
theorem toT_two {M : Store} {n a b : Nat} {ps qs : List Rat} (h : lstAt M n = some [.ref a, .ref b]) (ha : Row M a ps) (hb : Row M b qs) : toT M eqFuel (.ref n) = some (.lst [.lst (ps.map tq), .lst (qs.map tq)]) := by
  rw [show eqFuel = 59 + 1 from rfl]
  show (match lstAt M n with
    | some xs => (mapO (toT M 59) xs).map T.lst
    | none => none) = _
  rw [h]
  have e1 : toT M 59 (.ref a) = some (.lst (ps.map tq)) := toT_row ha 56
  have e2 : toT M 59 (.ref b) = some (.lst (qs.map tq)) := toT_row hb 56
  simp only [mapO, e1, e2]
  rfl
theorem cNe_same {M : Store} {v w : Val} {t : T} (h : toT M eqFuel v = some t) (h' : toT M eqFuel w = some t) : cNe v w M = some (.bl false, M) := by
  unfold cNe valEq
  rw [h, h']
  simp only []
  rw [eqv_refl]
  rfl
theorem cEq_same {M : Store} {v w : Val} {t : T} (h : toT M eqFuel v = some t) (h' : toT M eqFuel w = some t) : cEq v w M = some (.bl true, M) := by
  unfold cEq valEq
  rw [h, h']
  simp only []
  rw [eqv_refl]
  rfl
end Mn
end
section
set_option Elab.async false
set_option autoImplicit false
set_option maxRecDepth 100000
/-! Values as trees: what a value stands for in a store, nested lists and all. -/
namespace Mn
mutual
/-- v stands for t (lists of one's own alone) -/
inductive Rp (M : Store) : Val → T → Prop
  | non : Rp M .non .non
  | bl (b : Bool) : Rp M (.bl b) (.bl b)
  | int (i : Int) : Rp M (.int i) (.int i)
  | str {s : List Nat} : s.all (fun c => decide (c < 1114112)) = true → Rp M (.str s) (.str s)
  | tup {xs : List Val} {ts : List T} : Rpl M xs ts → Rp M (.tup xs) (.tup ts)
  | lst {n : Nat} {xs : List Val} {ts : List T} : M[n]? = some (.lst xs) → Rpl M xs ts → Rp M (.ref n) (.lst ts)
inductive Rpl (M : Store) : List Val → List T → Prop
  | nil : Rpl M [] []
  | cons {x : Val} {t : T} {xs : List Val} {ts : List T} : Rp M x t → Rpl M xs ts → Rpl M (x :: xs) (t :: ts)
end
mutual
def T.dp : T → Nat
  | .tup ts => T.dps ts + 1
  | .lst ts => T.dps ts + 1
  | _ => 1
def T.dps : List T → Nat
  | [] => 0
  | t :: ts => max t.dp (T.dps ts)
end
mutual
/-- what a part of the store holds stays, where this part stays -/
theorem Rp.gr {M M' : Store} (g : Gr M M') : ∀ {v : Val} {t : T}, Rp M v t → Rp M' v t
  | _, _, .non => .non
  | _, _, .bl b => .bl b
  | _, _, .int i => .int i
  | _, _, .str h => .str h
  | _, _, .tup h => .tup (Rpl.gr g h)
  | _, _, .lst h r => .lst (g.at h) (Rpl.gr g r)
theorem Rpl.gr {M M' : Store} (g : Gr M M') : ∀ {vs : List Val} {ts : List T}, Rpl M vs ts → Rpl M' vs ts
  | _, _, .nil => .nil
  | _, _, .cons h r => .cons (Rp.gr g h) (Rpl.gr g r)
end
mutual
theorem Rp.toT {M : Store} : ∀ {v : Val} {t : T} (k : Nat), Rp M v t → t.dp ≤ k → toT M k v = some t
  | _, _, 0, r, h => by
    cases r <;> simp [T.dp] at h
  | _, _, k + 1, .non, _ => rfl
  | _, _, k + 1, .bl b, _ => rfl
  | _, _, k + 1, .int i, _ => rfl
  | _, _, k + 1, .str hs, _ => by
    unfold Mn.toT
    rw [if_pos hs]
  | _, _, k + 1, .tup r, h => by
    unfold T.dp at h
    unfold Mn.toT
    rw [Rpl.toT k r (by omega)]
    rfl
  | _, _, k + 1, .lst hn r, h => by
    unfold T.dp at h
    unfold Mn.toT
    simp only [lstAt_lst hn]
    rw [Rpl.toT k r (by omega)]
    rfl
theorem Rpl.toT {M : Store} : ∀ {vs : List Val} {ts : List T} (k : Nat), Rpl M vs ts → T.dps ts ≤ k → mapO (toT M k) vs = some ts
  | _, _, k, .nil, _ => rfl
  | _, _, k, .cons r rs, h => by
    unfold T.dps at h
    unfold mapO
    rw [Rp.toT k r (by omega)]
    simp only []
    rw [Rpl.toT k rs (by omega)]
    rfl
end
theorem valEq_rp {M : Store} {v w : Val} {t u : T} (h : Rp M v t) (h' : Rp M w u) (d : t.dp ≤ 60) (d' : u.dp ≤ 60) : valEq v w M = some (t.eqv u) := by
  unfold valEq
  rw [Rp.toT eqFuel h d, Rp.toT eqFuel h' d']
theorem cEq_rp {M : Store} {v w : Val} {t u : T} (h : Rp M v t) (h' : Rp M w u) (d : t.dp ≤ 60) (d' : u.dp ≤ 60) : cEq v w M = some (.bl (t.eqv u), M) := by
  unfold cEq
  rw [valEq_rp h h' d d']
  rfl
theorem cNe_rp {M : Store} {v w : Val} {t u : T} (h : Rp M v t) (h' : Rp M w u) (d : t.dp ≤ 60) (d' : u.dp ≤ 60) : cNe v w M = some (.bl (!t.eqv u), M) := by
  unfold cNe
  rw [valEq_rp h h' d d']
  rfl
theorem Rpl.length {M : Store} : ∀ {xs : List Val} {ts : List T}, Rpl M xs ts → xs.length = ts.length
  | _, _, .nil => rfl
  | _, _, .cons _ r => congrArg Nat.succ (Rpl.length r)
theorem Rpl.get {M : Store} : ∀ {xs : List Val} {ts : List T} {i : Nat} {t : T}, Rpl M xs ts → ts[i]? = some t → ∃ v, xs[i]? = some v ∧ Rp M v t
  | _, _, _, _, .nil, e => by cases e
  | _, _, 0, _, .cons h _, e => by
    cases e
    exact ⟨_, rfl, h⟩
  | _, _, i + 1, _, .cons _ r, e => Rpl.get (i := i) r e
theorem Rpl.getV {M : Store} : ∀ {xs : List Val} {ts : List T} {i : Nat} {v : Val}, Rpl M xs ts → xs[i]? = some v → ∃ t, ts[i]? = some t ∧ Rp M v t
  | _, _, _, _, .nil, e => by cases e
  | _, _, 0, _, .cons h _, e => by
    cases e
    exact ⟨_, rfl, h⟩
  | _, _, i + 1, _, .cons _ r, e => Rpl.getV (i := i) r e
theorem Rpl.of {M : Store} : ∀ {xs : List Val} {ts : List T}, xs.length = ts.length → (∀ (i : Nat) (v : Val) (t : T), xs[i]? = some v → ts[i]? = some t → Rp M v t) → Rpl M xs ts
  | [], [], _, _ => .nil
  | [], _ :: _, h, _ => by cases h
  | _ :: _, [], h, _ => by cases h
  | x :: xs, t :: ts, h, p => .cons (p 0 x t rfl rfl) (Rpl.of (Nat.succ.inj h) fun i v u e e' => p (i + 1) v u e e')
theorem Rpl.append {M : Store} : ∀ {xs ys : List Val} {ts us : List T}, Rpl M xs ts → Rpl M ys us → Rpl M (xs ++ ys) (ts ++ us)
  | _, _, _, _, .nil, s => s
  | _, _, _, _, .cons h r, s => .cons h (Rpl.append r s)
theorem Rpl.take {M : Store} : ∀ {xs : List Val} {ts : List T} (k : Nat), Rpl M xs ts → Rpl M (xs.take k) (ts.take k)
  | _, _, 0, _ => .nil
  | _, _, _ + 1, .nil => .nil
  | _, _, k + 1, .cons h r => .cons h (Rpl.take k r)
theorem Rpl.drop {M : Store} : ∀ {xs : List Val} {ts : List T} (k : Nat), Rpl M xs ts → Rpl M (xs.drop k) (ts.drop k)
  | _, _, 0, r => r
  | _, _, _ + 1, .nil => .nil
  | _, _, k + 1, .cons _ r => Rpl.drop k r
theorem Rpl.cut {M : Store} {xs : List Val} {ts : List T} (r : Rpl M xs ts) (lo hi : Option Int) : Rpl M (Mn.cut xs lo hi) (Mn.cut ts lo hi) := by
  unfold Mn.cut
  rw [r.length]
  exact (r.drop _).take _
theorem Rpl.set {M : Store} {x : Val} {t : T} (h : Rp M x t) : ∀ {xs : List Val} {ts : List T} (i : Nat), Rpl M xs ts → Rpl M (xs.set i x) (ts.set i t)
  | _, _, _, .nil => .nil
  | _, _, 0, .cons _ r => .cons h r
  | _, _, i + 1, .cons g r => .cons g (Rpl.set h i r)
/-! ### ratios, rows, tables -/
theorem rp_q (M : Store) (q : Rat) : Rp M (rv q) (tq q) := .tup (.cons (.int _) (.cons (.int _) .nil))
theorem Rp.q {M : Store} {v : Val} {q : Rat} (h : Rp M v (tq q)) : v = rv q := by
  unfold tq at h
  cases h with
  | tup r =>
    cases r with
    | cons r1 r2 =>
      cases r2 with
      | cons r2 r3 =>
        cases r1
        cases r2
        cases r3
        rfl
theorem rpl_q (M : Store) : ∀ qs : List Rat, Rpl M (qs.map rv) (qs.map tq)
  | [] => .nil
  | q :: qs => .cons (rp_q M q) (rpl_q M qs)
theorem Rpl.q {M : Store} : ∀ {qs : List Rat} {xs : List Val}, Rpl M xs (qs.map tq) → xs = qs.map rv
  | [], _, .nil => rfl
  | q :: qs, _, .cons h r => by rw [h.q, Rpl.q r]; rfl
/-- a row's tree, a table's -/
def tr (qs : List Rat) : T := .lst (qs.map tq)
def tt (rs : List (List Rat)) : T := .lst (rs.map tr)
theorem Row.rp {M : Store} {n : Nat} {qs : List Rat} (h : Row M n qs) : Rp M (.ref n) (tr qs) := .lst h (rpl_q M qs)
theorem Rp.row {M : Store} {v : Val} {qs : List Rat} (h : Rp M v (tr qs)) : ∃ n, v = .ref n ∧ Row M n qs := by
  unfold tr at h
  cases h with
  | lst hn r => exact ⟨_, rfl, by rw [Row, hn, r.q]⟩
/-- a list's place and things -/
theorem Rp.list {M : Store} {v : Val} {ts : List T} (h : Rp M v (.lst ts)) : ∃ n xs, v = .ref n ∧ M[n]? = some (.lst xs) ∧ Rpl M xs ts := by
  cases h with
  | lst hn r => exact ⟨_, _, rfl, hn, r⟩
/-- a table's place and rows -/
def Tab (M : Store) (n : Nat) (rs : List (List Rat)) : Prop := ∃ xs, M[n]? = some (.lst xs) ∧ Rpl M xs (rs.map tr)
theorem Tab.rp {M : Store} {n : Nat} {rs : List (List Rat)} (h : Tab M n rs) : Rp M (.ref n) (tt rs) := let ⟨_, h1, h2⟩ := h; .lst h1 h2
theorem Rp.tab {M : Store} {v : Val} {rs : List (List Rat)} (h : Rp M v (tt rs)) : ∃ n, v = .ref n ∧ Tab M n rs := by
  unfold tt at h
  cases h with
  | lst hn r => exact ⟨_, rfl, _, hn, r⟩
theorem Tab.gr {M M' : Store} {n : Nat} {rs : List (List Rat)} (h : Tab M n rs) (g : Gr M M') : Tab M' n rs := let ⟨xs, h1, h2⟩ := h; ⟨xs, g.at h1, h2.gr g⟩
theorem Tab.row {M : Store} {n i : Nat} {rs : List (List Rat)} {qs : List Rat} (h : Tab M n rs) (hi : rs[i]? = some qs) : ∃ m, oIx (.ref n) (.int i) M = some (.ref m, M) ∧ Row M m qs := by
  obtain ⟨xs, h1, h2⟩ := h
  obtain ⟨v, hv, hr⟩ := h2.get (i := i) (t := tr qs) (by rw [List.getElem?_map, hi]; rfl)
  obtain ⟨m, rfl, hm⟩ := hr.row
  exact ⟨m, oIx_nat (lstAt_lst h1) hv, hm⟩
theorem Tab.len {M : Store} {n : Nat} {rs : List (List Rat)} (h : Tab M n rs) : uLen (.ref n) M = some (.int rs.length, M) := by
  obtain ⟨xs, h1, h2⟩ := h
  rw [uLen_ref (lstAt_lst h1), h2.length, List.length_map]
theorem Tab.lt {M : Store} {n : Nat} {rs : List (List Rat)} (h : Tab M n rs) : n < M.length := let ⟨_, h1, _⟩ := h; (List.getElem?_eq_some_iff.mp h1).1
theorem dp_tq (q : Rat) : (tq q).dp = 2 := rfl
theorem dps_tq : ∀ qs : List Rat, T.dps (qs.map tq) ≤ 2
  | [] => by simp [T.dps]
  | q :: qs => by
    rw [List.map_cons]
    unfold T.dps
    have := dps_tq qs
    have := dp_tq q
    omega
theorem dp_tr (qs : List Rat) : (tr qs).dp ≤ 3 := by
  unfold tr T.dp
  have := dps_tq qs
  omega
theorem dps_tr : ∀ rs : List (List Rat), T.dps (rs.map tr) ≤ 3
  | [] => by simp [T.dps]
  | r :: rs => by
    rw [List.map_cons]
    unfold T.dps
    have := dps_tr rs
    have := dp_tr r
    omega
theorem dp_tt (rs : List (List Rat)) : (tt rs).dp ≤ 4 := by
  unfold tt T.dp
  have := dps_tr rs
  omega
theorem eqv_tr (ps qs : List Rat) : (tr ps).eqv (tr qs) = decide (ps = qs) := by
  unfold tr T.eqv
  exact eqvs_tq ps qs
theorem eqvs_tr : ∀ rs ss : List (List Rat), T.eqvs (rs.map tr) (ss.map tr) = decide (rs = ss)
  | [], [] => by simp [T.eqvs]
  | [], _ :: _ => by simp [T.eqvs]
  | _ :: _, [] => by simp [T.eqvs]
  | p :: ps, q :: qs => by
    rw [List.map_cons, List.map_cons]
    unfold T.eqvs
    rw [eqv_tr, eqvs_tr ps qs, ← Bool.decide_and]
    exact decide_eq_decide.mpr (by rw [List.cons.injEq])
theorem eqv_tt (rs ss : List (List Rat)) : (tt rs).eqv (tt ss) = decide (rs = ss) := by
  unfold tt T.eqv
  exact eqvs_tr rs ss
/-- several values -/
def Rps (M : Store) : List (Val × T) → Prop
  | [] => True
  | p :: l => Rp M p.1 p.2 ∧ Rps M l
theorem Rps.gr {M M' : Store} (g : Gr M M') : ∀ {l : List (Val × T)}, Rps M l → Rps M' l
  | [], _ => trivial
  | _ :: _, h => ⟨h.1.gr g, Rps.gr g h.2⟩
/-- a new list of what is made one by one -/
theorem rp_new {M : Store} {ys : List Val} {ts : List T} (r : Rpl M ys ts) : Rp (M ++ [.lst ys]) (.ref M.length) (.lst ts) := .lst (lst_new' M _) (r.gr (Gr.one M _))
/-- a comprehension without a test, each thing's tree told -/
theorem lc_trees {it : Itr} {t : Tg} {e : E} {ρ : Env} {M : Store} {n : Nat} {f : Nat → Option Val} (w : Walks it n f M) (ts : List T) (hl : ts.length = n)
    (hs : ∀ i u, ts[i]? = some u → ∀ M1, Gr M M1 → ∃ v ρ1 y M2, f i = some v ∧ t v ρ M1 = .nx ρ1 M1 ∧ e ρ1 M1 = .ok y M2 ∧ Gr M1 M2 ∧ Rp M2 y u) :
    ∃ ys M', lcN it t (eC (.bl true)) e ρ it.n 0 [] M = .ok ys M' ∧ Gr M M' ∧ Rpl M' ys ts := by
  obtain ⟨ys, M', h1, h2, h3, h4⟩ := lc_map (it := it) (t := t) (e := e) (ρ := ρ) w (fun i v M1 => ∀ u, ts[i]? = some u → Rp M1 v u) (fun i v M1 M2 h g u hu => (h u hu).gr g) (fun i hi M1 g => by
    have hu : ts[i]? = some (ts[i]'(by omega)) := List.getElem?_eq_getElem (by omega)
    obtain ⟨v, ρ1, y, M2, q1, q2, q3, q4, q5⟩ := hs i _ hu M1 g
    refine ⟨v, ρ1, y, M2, q1, q2, q3, q4, fun u hu2 => ?_⟩
    rw [hu] at hu2
    cases hu2
    exact q5)
  exact ⟨ys, M', h1, h2, Rpl.of (by rw [h3, hl]) fun i v u hv hu => h4 i v hv u hu⟩
end Mn
end
section
set_option Elab.async false
set_option autoImplicit false
set_option maxRecDepth 100000
set_option linter.all false
/-! Values as trees, a program without a store: what the small language says where each list has one owner. -/
namespace Mn
inductive V where
  | non
  | bl (b : Bool)
  | int (i : Int)
  | str (s : List Nat)
  | exc (c : String)
  | tup (xs : List V)
  | lst (xs : List V)
  | ro (xs : List V)
  | obj (c : String) (ks : List String) (vs : List V)
  | dic (ks vs : List V)
  deriving Inhabited
mutual
/-- a list or an object is in it -/
def V.hasL : V → Bool
  | .tup xs => V.hasLs xs
  | .lst _ => true
  | .ro _ => true
  | .obj _ _ _ => true
  | .dic _ _ => true
  | _ => false
def V.hasLs : List V → Bool
  | [] => false
  | x :: xs => x.hasL || V.hasLs xs
end
mutual
def V.dp : V → Nat
  | .tup xs => V.dps xs + 1
  | .lst xs => V.dps xs + 1
  | .ro xs => V.dps xs + 1
  | _ => 1
def V.dps : List V → Nat
  | [] => 0
  | x :: xs => max x.dp (V.dps xs)
end
mutual
/-- as data for == -/
def V.tt : V → Option T
  | .non => some .non
  | .bl b => some (.bl b)
  | .int i => some (.int i)
  | .str s => if s.all (fun c => decide (c < 1114112)) = true then some (.str s) else none
  | .exc _ => none
  | .tup xs => (V.tts xs).map T.tup
  | .lst xs => (V.tts xs).map T.lst
  | .ro xs => (V.tts xs).map T.lst
  | .obj _ _ _ => none
  | .dic _ _ => none
def V.tts : List V → Option (List T)
  | [] => some []
  | x :: xs => match x.tt with
    | some t => (V.tts xs).map (t :: ·)
    | none => none
end
mutual
/-- v stands for t, its lists at places of P -/
inductive Rq (P : Nat → Prop) (M : Store) : Val → V → Prop
  | non : Rq P M .non .non
  | bl (b : Bool) : Rq P M (.bl b) (.bl b)
  | int (i : Int) : Rq P M (.int i) (.int i)
  | str (s : List Nat) : Rq P M (.str s) (.str s)
  | exc (c : String) : Rq P M (.exc c) (.exc c)
  | tup {xs : List Val} {ts : List V} : Rql P M xs ts → Rq P M (.tup xs) (.tup ts)
  | lst {n : Nat} {xs : List Val} {ts : List V} : M[n]? = some (.lst xs) → P n → Rql P M xs ts → Rq P M (.ref n) (.lst ts)
  | ro {n : Nat} {xs : List Val} {ts : List V} : M[n]? = some (.ro xs) → P n → Rql P M xs ts → Rq P M (.ref n) (.ro ts)
  | obj {n : Nat} {c : String} {fs : List (String × Val)} {ts : List V} : M[n]? = some (.obj c fs) → P n → Rql P M (fs.map (·.2)) ts → Rq P M (.ref n) (.obj c (fs.map (·.1)) ts)
  | dic {n : Nat} {kvs : List (Val × Val)} {ks ts : List V} : M[n]? = some (.dic kvs) → P n → Rql P M (kvs.map (·.1)) ks → Rql P M (kvs.map (·.2)) ts → Rq P M (.ref n) (.dic ks ts)
inductive Rql (P : Nat → Prop) (M : Store) : List Val → List V → Prop
  | nil : Rql P M [] []
  | cons {x : Val} {t : V} {xs : List Val} {ts : List V} : Rq P M x t → Rql P M xs ts → Rql P M (x :: xs) (t :: ts)
end
mutual
theorem Rq.map {P Q : Nat → Prop} {M M' : Store} (g : ∀ m c, P m → M[m]? = some c → M'[m]? = some c ∧ Q m) : ∀ {v : Val} {t : V}, Rq P M v t → Rq Q M' v t
  | _, _, .non => .non
  | _, _, .bl b => .bl b
  | _, _, .int i => .int i
  | _, _, .str s => .str s
  | _, _, .exc c => .exc c
  | _, _, .tup h => .tup (Rql.map g h)
  | _, _, .lst h p r => .lst (g _ _ p h).1 (g _ _ p h).2 (Rql.map g r)
  | _, _, .ro h p r => .ro (g _ _ p h).1 (g _ _ p h).2 (Rql.map g r)
  | _, _, .obj h p r => .obj (g _ _ p h).1 (g _ _ p h).2 (Rql.map g r)
  | _, _, .dic h p r r' => .dic (g _ _ p h).1 (g _ _ p h).2 (Rql.map g r) (Rql.map g r')
theorem Rql.map {P Q : Nat → Prop} {M M' : Store} (g : ∀ m c, P m → M[m]? = some c → M'[m]? = some c ∧ Q m) : ∀ {vs : List Val} {ts : List V}, Rql P M vs ts → Rql Q M' vs ts
  | _, _, .nil => .nil
  | _, _, .cons h r => .cons (Rq.map g h) (Rql.map g r)
end
mutual
theorem Rq.noL {P Q : Nat → Prop} {M : Store} : ∀ {v : Val} {t : V}, t.hasL = false → Rq P M v t → Rq Q M v t
  | _, _, _, .non => .non
  | _, _, _, .bl b => .bl b
  | _, _, _, .int i => .int i
  | _, _, _, .str s => .str s
  | _, _, _, .exc c => .exc c
  | _, _, h, .tup r => .tup (Rql.noL (by simpa [V.hasL] using h) r)
  | _, _, h, .lst _ _ _ => by simp [V.hasL] at h
  | _, _, h, .ro _ _ _ => by simp [V.hasL] at h
  | _, _, h, .obj _ _ _ => by simp [V.hasL] at h
  | _, _, h, .dic _ _ _ _ => by simp [V.hasL] at h
theorem Rql.noL {P Q : Nat → Prop} {M : Store} : ∀ {vs : List Val} {ts : List V}, V.hasLs ts = false → Rql P M vs ts → Rql Q M vs ts
  | _, _, _, .nil => .nil
  | _, _, h, .cons x r => by
    unfold V.hasLs at h
    rw [Bool.or_eq_false_iff] at h
    exact .cons (Rq.noL h.1 x) (Rql.noL h.2 r)
end
mutual
theorem Rq.toT {P : Nat → Prop} {M : Store} : ∀ {v : Val} {t : V} {u : T} (k : Nat), Rq P M v t → t.tt = some u → t.dp ≤ k → toT M k v = some u
  | _, _, _, 0, r, _, h => by
    cases r <;> simp [V.dp] at h
  | _, _, _, k + 1, .non, e, _ => e
  | _, _, _, k + 1, .bl b, e, _ => e
  | _, _, _, k + 1, .int i, e, _ => e
  | _, _, _, k + 1, .str s, e, _ => e
  | _, _, _, k + 1, .exc c, e, _ => e
  | _, _, _, k + 1, .tup (ts := ts) r, e, h => by
    unfold V.dp at h
    unfold V.tt at e
    unfold Mn.toT
    cases e2 : V.tts ts with
    | none => rw [e2] at e; cases e
    | some us =>
      rw [e2] at e
      rw [Rql.toT k r e2 (by omega)]
      exact e
  | _, _, _, k + 1, .lst (ts := ts) hn _ r, e, h => by
    unfold V.dp at h
    unfold V.tt at e
    unfold Mn.toT
    simp only [lstAt_lst hn]
    cases e2 : V.tts ts with
    | none => rw [e2] at e; cases e
    | some us =>
      rw [e2] at e
      rw [Rql.toT k r e2 (by omega)]
      exact e
  | _, _, _, k + 1, .ro (ts := ts) hn _ r, e, h => by
    unfold V.dp at h
    unfold V.tt at e
    unfold Mn.toT
    simp only [lstAt_ro hn]
    cases e2 : V.tts ts with
    | none => rw [e2] at e; cases e
    | some us =>
      rw [e2] at e
      rw [Rql.toT k r e2 (by omega)]
      exact e
  | _, _, _, k + 1, .obj _ _ _, e, _ => by
    unfold V.tt at e
    cases e
  | _, _, _, k + 1, .dic _ _ _ _, e, _ => by
    unfold V.tt at e
    cases e
theorem Rql.toT {P : Nat → Prop} {M : Store} : ∀ {vs : List Val} {ts : List V} {us : List T} (k : Nat), Rql P M vs ts → V.tts ts = some us → V.dps ts ≤ k → mapO (toT M k) vs = some us
  | _, _, _, k, .nil, e, _ => e
  | _, _, _, k, .cons (t := t) (ts := ts) r rs, e, h => by
    unfold V.dps at h
    unfold V.tts at e
    unfold mapO
    cases e1 : t.tt with
    | none => rw [e1] at e; cases e
    | some u =>
      rw [e1] at e
      rw [Rq.toT k r e1 (by omega)]
      simp only [] at e ⊢
      cases e2 : V.tts ts with
      | none => rw [e2] at e; cases e
      | some us =>
        rw [e2] at e
        rw [Rql.toT k rs e2 (by omega)]
        exact e
end
theorem Rql.length {P : Nat → Prop} {M : Store} : ∀ {xs : List Val} {ts : List V}, Rql P M xs ts → xs.length = ts.length
  | _, _, .nil => rfl
  | _, _, .cons _ r => congrArg Nat.succ (Rql.length r)
theorem Rql.get {P : Nat → Prop} {M : Store} : ∀ {xs : List Val} {ts : List V} {i : Nat} {t : V}, Rql P M xs ts → ts[i]? = some t → ∃ v, xs[i]? = some v ∧ Rq P M v t
  | _, _, _, _, .nil, e => by cases e
  | _, _, 0, _, .cons h _, e => by
    cases e
    exact ⟨_, rfl, h⟩
  | _, _, i + 1, _, .cons _ r, e => Rql.get (i := i) r e
theorem Rql.append {P : Nat → Prop} {M : Store} : ∀ {xs ys : List Val} {ts us : List V}, Rql P M xs ts → Rql P M ys us → Rql P M (xs ++ ys) (ts ++ us)
  | _, _, _, _, .nil, s => s
  | _, _, _, _, .cons h r, s => .cons h (Rql.append r s)
theorem Rql.take {P : Nat → Prop} {M : Store} : ∀ {xs : List Val} {ts : List V} (k : Nat), Rql P M xs ts → Rql P M (xs.take k) (ts.take k)
  | _, _, 0, _ => .nil
  | _, _, _ + 1, .nil => .nil
  | _, _, k + 1, .cons h r => .cons h (Rql.take k r)
theorem Rql.drop {P : Nat → Prop} {M : Store} : ∀ {xs : List Val} {ts : List V} (k : Nat), Rql P M xs ts → Rql P M (xs.drop k) (ts.drop k)
  | _, _, 0, r => r
  | _, _, _ + 1, .nil => .nil
  | _, _, k + 1, .cons _ r => Rql.drop k r
theorem Rql.cut {P : Nat → Prop} {M : Store} {xs : List Val} {ts : List V} (r : Rql P M xs ts) (lo hi : Option Int) : Rql P M (Mn.cut xs lo hi) (Mn.cut ts lo hi) := by
  unfold Mn.cut
  rw [r.length]
  exact (r.drop _).take _
theorem Rql.set {P : Nat → Prop} {M : Store} {x : Val} {t : V} (h : Rq P M x t) : ∀ {xs : List Val} {ts : List V} (i : Nat), Rql P M xs ts → Rql P M (xs.set i x) (ts.set i t)
  | _, _, _, .nil => .nil
  | _, _, 0, .cons _ r => .cons h r
  | _, _, i + 1, .cons g r => .cons g (Rql.set h i r)
theorem Rql.rep {P : Nat → Prop} {M : Store} {xs : List Val} {ts : List V} (h : Rql P M xs ts) : ∀ k : Nat, Rql P M (List.replicate k xs).flatten (List.replicate k ts).flatten
  | 0 => .nil
  | k + 1 => by
    rw [List.replicate_succ, List.replicate_succ, List.flatten_cons, List.flatten_cons]
    exact h.append (h.rep k)
/-! ### a value all of whose lists are one's own -/
mutual
inductive Ow (M : Store) : Val → V → List Nat → Prop
  | non : Ow M .non .non []
  | bl (b : Bool) : Ow M (.bl b) (.bl b) []
  | int (i : Int) : Ow M (.int i) (.int i) []
  | str (s : List Nat) : Ow M (.str s) (.str s) []
  | exc (c : String) : Ow M (.exc c) (.exc c) []
  | tup {xs : List Val} {ts : List V} {cs : List Nat} : Owl M xs ts cs → Ow M (.tup xs) (.tup ts) cs
  | lst {n : Nat} {xs : List Val} {ts : List V} {cs : List Nat} : M[n]? = some (.lst xs) → Owl M xs ts cs → Ow M (.ref n) (.lst ts) (n :: cs)
  | obj {n : Nat} {c : String} {fs : List (String × Val)} {ts : List V} {cs : List Nat} : M[n]? = some (.obj c fs) → Owl M (fs.map (·.2)) ts cs → Ow M (.ref n) (.obj c (fs.map (·.1)) ts) (n :: cs)
  | dic {n : Nat} {kvs : List (Val × Val)} {ks ts : List V} {cs : List Nat} : M[n]? = some (.dic kvs) → Owl M (kvs.map (·.1)) ks [] → Owl M (kvs.map (·.2)) ts cs → Ow M (.ref n) (.dic ks ts) (n :: cs)
inductive Owl (M : Store) : List Val → List V → List Nat → Prop
  | nil : Owl M [] [] []
  | cons {x : Val} {t : V} {xs : List Val} {ts : List V} {a b : List Nat} : Ow M x t a → Owl M xs ts b → Owl M (x :: xs) (t :: ts) (a ++ b)
end
mutual
theorem Ow.map {M M' : Store} : ∀ {v : Val} {t : V} {cs : List Nat}, Ow M v t cs → (∀ m c, m ∈ cs → M[m]? = some c → M'[m]? = some c) → Ow M' v t cs
  | _, _, _, .non, _ => .non
  | _, _, _, .bl b, _ => .bl b
  | _, _, _, .int i, _ => .int i
  | _, _, _, .str s, _ => .str s
  | _, _, _, .exc c, _ => .exc c
  | _, _, _, .tup h, g => .tup (Owl.map h g)
  | _, _, _, .lst h r, g => .lst (g _ _ List.mem_cons_self h) (Owl.map r fun m c hm => g m c (List.mem_cons_of_mem _ hm))
  | _, _, _, .obj h r, g => .obj (g _ _ List.mem_cons_self h) (Owl.map r fun m c hm => g m c (List.mem_cons_of_mem _ hm))
  | _, _, _, .dic h k r, g => .dic (g _ _ List.mem_cons_self h) (Owl.map k fun m c hm => by cases hm) (Owl.map r fun m c hm => g m c (List.mem_cons_of_mem _ hm))
theorem Owl.map {M M' : Store} : ∀ {vs : List Val} {ts : List V} {cs : List Nat}, Owl M vs ts cs → (∀ m c, m ∈ cs → M[m]? = some c → M'[m]? = some c) → Owl M' vs ts cs
  | _, _, _, .nil, _ => .nil
  | _, _, _, .cons h r, g => .cons (Ow.map h fun m c hm => g m c (List.mem_append_left _ hm)) (Owl.map r fun m c hm => g m c (List.mem_append_right _ hm))
end
mutual
theorem Ow.fn {M : Store} : ∀ {v : Val} {t : V} {cs cs' : List Nat}, Ow M v t cs → Ow M v t cs' → cs = cs'
  | _, _, _, _, .non, .non => rfl
  | _, _, _, _, .bl b, .bl _ => rfl
  | _, _, _, _, .int i, .int _ => rfl
  | _, _, _, _, .str s, .str _ => rfl
  | _, _, _, _, .exc c, .exc _ => rfl
  | _, _, _, _, .tup h, .tup h' => Owl.fn h h'
  | _, _, _, _, .lst h r, .lst h' r' => by
    rw [h] at h'
    cases h'
    rw [Owl.fn r r']
  | _, _, _, _, .obj h r, b => by
    generalize hv : Val.ref _ = v at b
    generalize ht : V.obj _ _ _ = t at b
    cases b with
    | obj h' r' =>
      cases hv
      rw [h] at h'
      cases h'
      cases ht
      rw [Owl.fn r r']
    | _ => cases ht
  | _, _, _, _, .dic h k r, .dic h' k' r' => by
    rw [h] at h'
    cases h'
    rw [Owl.fn r r']
theorem Owl.fn {M : Store} : ∀ {vs : List Val} {ts : List V} {cs cs' : List Nat}, Owl M vs ts cs → Owl M vs ts cs' → cs = cs'
  | _, _, _, _, .nil, .nil => rfl
  | _, _, _, _, .cons h r, .cons h' r' => by rw [Ow.fn h h', Owl.fn r r']
end
mutual
theorem Ow.rq {M : Store} {P : Nat → Prop} : ∀ {v : Val} {t : V} {cs : List Nat}, Ow M v t cs → (∀ n ∈ cs, P n) → Rq P M v t
  | _, _, _, .non, _ => .non
  | _, _, _, .bl b, _ => .bl b
  | _, _, _, .int i, _ => .int i
  | _, _, _, .str s, _ => .str s
  | _, _, _, .exc c, _ => .exc c
  | _, _, _, .tup h, g => .tup (Owl.rq h g)
  | _, _, _, .lst h r, g => .lst h (g _ List.mem_cons_self) (Owl.rq r fun m hm => g m (List.mem_cons_of_mem _ hm))
  | _, _, _, .obj h r, g => .obj h (g _ List.mem_cons_self) (Owl.rq r fun m hm => g m (List.mem_cons_of_mem _ hm))
  | _, _, _, .dic h k r, g => .dic h (g _ List.mem_cons_self) (Owl.rq k fun m hm => by cases hm) (Owl.rq r fun m hm => g m (List.mem_cons_of_mem _ hm))
theorem Owl.rq {M : Store} {P : Nat → Prop} : ∀ {vs : List Val} {ts : List V} {cs : List Nat}, Owl M vs ts cs → (∀ n ∈ cs, P n) → Rql P M vs ts
  | _, _, _, .nil, _ => .nil
  | _, _, _, .cons h r, g => .cons (Ow.rq h fun m hm => g m (List.mem_append_left _ hm)) (Owl.rq r fun m hm => g m (List.mem_append_right _ hm))
end
theorem get_lt {M : Store} {m : Nat} {c : Cell} (h : M[m]? = some c) : m < M.length := (List.getElem?_eq_some_iff.mp h).1
mutual
theorem Ow.lt {M : Store} : ∀ {v : Val} {t : V} {cs : List Nat}, Ow M v t cs → ∀ n ∈ cs, n < M.length
  | _, _, _, .tup h => Owl.lt h
  | _, _, _, .lst h r => fun n hn => by
    rcases List.mem_cons.mp hn with e | hn
    · rw [e]
      exact get_lt h
    · exact Owl.lt r n hn
  | _, _, _, .obj h r => fun n hn => by
    rcases List.mem_cons.mp hn with e | hn
    · rw [e]
      exact get_lt h
    · exact Owl.lt r n hn
  | _, _, _, .dic h k r => fun n hn => by
    rcases List.mem_cons.mp hn with e | hn
    · rw [e]
      exact get_lt h
    · exact Owl.lt r n hn
  | _, _, _, .non => fun n h => by cases h
  | _, _, _, .bl _ => fun n h => by cases h
  | _, _, _, .int _ => fun n h => by cases h
  | _, _, _, .str _ => fun n h => by cases h
  | _, _, _, .exc _ => fun n h => by cases h
theorem Owl.lt {M : Store} : ∀ {vs : List Val} {ts : List V} {cs : List Nat}, Owl M vs ts cs → ∀ n ∈ cs, n < M.length
  | _, _, _, .nil => fun n h => by cases h
  | _, _, _, .cons h r => fun n hn => by
    rcases List.mem_append.mp hn with hn | hn
    · exact Ow.lt h n hn
    · exact Owl.lt r n hn
end
theorem Ow.gr {M M' : Store} (g : Gr M M') {v : Val} {t : V} {cs : List Nat} (h : Ow M v t cs) : Ow M' v t cs := h.map fun _ _ _ e => g.at e
/-! ### whose a value is -/
inductive Fl where
  | fr
  | dr
  | fz
  | bo
  | bd
structure W where
  fl : Fl
  tn : Bool
  t : V
def W.at (t : V) : W := ⟨.fz, false, t⟩
/-- a thing of a list -/
def eFl : Fl → Fl
  | .bd => .bd
  | _ => .fz
def isB : Fl → Bool
  | .bo => true
  | .bd => true
  | _ => false
/-- without a list in it a value is anybody's -/
def nW (fl : Fl) (tn : Bool) (t : V) : W := if t.hasL = true then ⟨fl, tn, t⟩ else .at t
abbrev PEnv := List (Option W)
inductive PR (α : Type) where
  | ok (a : α)
  | exc (c : String)
  | bad
abbrev PE := PEnv → PR W
abbrev PF := List V → PR W
inductive PRS where
  | nx (π : PEnv)
  | ret (w : W)
  | bk (π : PEnv)
  | ct (π : PEnv)
  | exc (c : String) (π : PEnv)
  | bad
abbrev PS := PEnv → PRS
/-! ### what a value of W is in a store -/
def Lv (B : Nat) (Pa : Nat → Prop) (tn : Bool) (m : Nat) : Prop := B ≤ m ∨ (tn = true ∧ Pa m)
def Av (O : Nat → Prop) (B : Nat) (Pa : Nat → Prop) (tn : Bool) (m : Nat) : Prop := ¬O m ∧ Lv B Pa tn m
def RW (B : Nat) (Pa O : Nat → Prop) (L : Nat) (M : Store) (v : Val) (w : W) : Prop := match w.fl with
  | .fr => ∃ n xs ts, v = .ref n ∧ L ≤ n ∧ M[n]? = some (.lst xs) ∧ w.t = .lst ts ∧ Rql (fun m => m ≠ n ∧ Av O B Pa w.tn m) M xs ts
  | .dr => ∃ cs, Ow M v w.t cs ∧ cs.Nodup ∧ ∀ n ∈ cs, L ≤ n ∧ Av O B Pa false n
  | .fz => Rq (Av O B Pa w.tn) M v w.t
  | .bo => ∃ n xs ts, v = .ref n ∧ O n ∧ M[n]? = some (.lst xs) ∧ w.t = .lst ts ∧ Rql (Av O B Pa w.tn) M xs ts
  | .bd => Rq (Lv B Pa w.tn) M v w.t
/-- under a name -/
def RV (B : Nat) (Pa O : Nat → Prop) (M : Store) (v : Val) (w : W) : Prop := match w.fl with
  | .dr => ∃ cs, Ow M v w.t cs ∧ cs.Nodup ∧ ∀ n ∈ cs, B ≤ n
  | _ => RW B Pa O B M v w
def isO : Fl → Bool
  | .fr => true
  | .dr => true
  | _ => false
/-- the places that one owns by a name -/
def Oc (fl : Fl) (M : Store) (v : Val) (t : V) (cs : List Nat) : Prop := match fl with
  | .fr => ∃ n, v = .ref n ∧ cs = [n]
  | .dr => Ow M v t cs
  | _ => False
structure PSt (B : Nat) (Pa O : Nat → Prop) (ρ : Env) (M : Store) (π : PEnv) : Prop where
  len : ρ.length = π.length
  low : B ≤ M.length
  bnd : ∀ n, O n → B ≤ n ∧ n < M.length
  own : ∀ (i : Nat) (w : W), π[i]? = some (some w) → isO w.fl = true → ∃ v cs, ρ[i]? = some (some v) ∧ Oc w.fl M v w.t cs ∧ ∀ n ∈ cs, O n
  inj : ∀ (i j : Nat) (w w' : W) (v v' : Val) (cs cs' : List Nat) (n : Nat), π[i]? = some (some w) → π[j]? = some (some w') → ρ[i]? = some (some v) → ρ[j]? = some (some v') → Oc w.fl M v w.t cs → Oc w'.fl M v' w'.t cs' → n ∈ cs → n ∈ cs' → i = j
  val : ∀ (i : Nat) (w : W), π[i]? = some (some w) → ∃ v, ρ[i]? = some (some v) ∧ RV B Pa O M v w
  nb : ∀ (i : Nat) (w : W), π[i]? = some (some w) → isB w.fl = false
theorem Oc.gr {fl : Fl} {M M' : Store} {v : Val} {t : V} {cs : List Nat} (g : Gr M M') (h : Oc fl M v t cs) : Oc fl M' v t cs := by
  cases fl with
  | fr => exact h
  | dr => exact Ow.gr g h
  | _ => exact h.elim
theorem Oc.fn {fl : Fl} {M : Store} {v : Val} {t : V} {cs cs' : List Nat} (h : Oc fl M v t cs) (h' : Oc fl M v t cs') : cs = cs' := by
  cases fl with
  | fr =>
    obtain ⟨n, rfl, rfl⟩ := h
    obtain ⟨m, e, rfl⟩ := h'
    cases e
    rfl
  | dr => exact Ow.fn h h'
  | _ => exact h.elim
theorem Oc.isO {fl : Fl} {M : Store} {v : Val} {t : V} {cs : List Nat} (h : Oc fl M v t cs) : Mn.isO fl = true := by
  cases fl <;> first | rfl | exact h.elim
/-- what nobody may change stays -/
def Ext (O : Nat → Prop) (M : Store) (O' : Nat → Prop) (M' : Store) : Prop := M.length ≤ M'.length ∧ ∀ m, m < M.length → ¬O m → M'[m]? = M[m]? ∧ ¬O' m
theorem Ext.refl (O : Nat → Prop) (M : Store) : Ext O M O M := ⟨Nat.le_refl _, fun _ _ h => ⟨rfl, h⟩⟩
theorem Ext.trans {O O1 O2 : Nat → Prop} {M M1 M2 : Store} (a : Ext O M O1 M1) (b : Ext O1 M1 O2 M2) : Ext O M O2 M2 :=
  ⟨Nat.le_trans a.1 b.1, fun m h n => let ⟨e1, n1⟩ := a.2 m h n; let ⟨e2, n2⟩ := b.2 m (Nat.lt_of_lt_of_le h a.1) n1; ⟨e2.trans e1, n2⟩⟩
theorem Ext.gr {O : Nat → Prop} {M M' : Store} (g : Gr M M') : Ext O M O M' := by
  obtain ⟨k, rfl⟩ := g
  exact ⟨by rw [List.length_append]; omega, fun m h n => ⟨List.getElem?_append_left h, n⟩⟩
theorem Gr.of_prefix {M M' : Store} (hl : M.length ≤ M'.length) (h : ∀ m, m < M.length → M'[m]? = M[m]?) : Gr M M' := by
  refine ⟨M'.drop M.length, List.ext_getElem? fun i => ?_⟩
  by_cases hi : i < M.length
  · rw [List.getElem?_append_left hi]
    exact h i hi
  · rw [List.getElem?_append_right (by omega), List.getElem?_drop]
    congr 1
    omega
theorem RW.gr {B L : Nat} {Pa O : Nat → Prop} {M M' : Store} {v : Val} {w : W} (g : Gr M M') (h : RW B Pa O L M v w) : RW B Pa O L M' v w := by
  have k : ∀ (P : Nat → Prop) m c, P m → M[m]? = some c → M'[m]? = some c ∧ P m := fun P m c p e => ⟨g.at e, p⟩
  unfold RW at *
  split at h
  · obtain ⟨n, xs, ts, a, b, c, d, e⟩ := h
    exact ⟨n, xs, ts, a, b, g.at c, d, e.map (k _)⟩
  · obtain ⟨cs, a, b, c⟩ := h
    exact ⟨cs, a.gr g, b, c⟩
  · exact h.map (k _)
  · obtain ⟨n, xs, ts, a, b, c, d, e⟩ := h
    exact ⟨n, xs, ts, a, b, g.at c, d, e.map (k _)⟩
  · exact h.map (k _)
theorem RV.gr {B : Nat} {Pa O : Nat → Prop} {M M' : Store} {v : Val} {w : W} (g : Gr M M') (h : RV B Pa O M v w) : RV B Pa O M' v w := by
  obtain ⟨fl, tn, t⟩ := w
  cases fl with
  | dr =>
    obtain ⟨cs, a, b, c⟩ := h
    exact ⟨cs, Ow.gr g a, b, c⟩
  | fr => exact RW.gr (O := O) (L := B) (w := ⟨.fr, tn, t⟩) g h
  | fz => exact RW.gr (O := O) (L := B) (w := ⟨.fz, tn, t⟩) g h
  | bo => exact RW.gr (O := O) (L := B) (w := ⟨.bo, tn, t⟩) g h
  | bd => exact RW.gr (O := O) (L := B) (w := ⟨.bd, tn, t⟩) g h
theorem RW.low {B L L' : Nat} {Pa O : Nat → Prop} {M : Store} {v : Val} {w : W} (l : L' ≤ L) (h : RW B Pa O L M v w) : RW B Pa O L' M v w := by
  unfold RW at *
  split at h
  · obtain ⟨n, xs, ts, a, b, c, d, e⟩ := h
    exact ⟨n, xs, ts, a, Nat.le_trans l b, c, d, e⟩
  · obtain ⟨cs, a, b, c⟩ := h
    exact ⟨cs, a, b, fun n hn => ⟨Nat.le_trans l (c n hn).1, (c n hn).2⟩⟩
  · exact h
  · exact h
  · exact h
theorem PSt.gr {B : Nat} {Pa O : Nat → Prop} {ρ : Env} {M M' : Store} {π : PEnv} (g : Gr M M') (h : PSt B Pa O ρ M π) : PSt B Pa O ρ M' π := by
  have back : ∀ (i : Nat) (w : W) (v : Val) (cs : List Nat), π[i]? = some (some w) → ρ[i]? = some (some v) → Oc w.fl M' v w.t cs → Oc w.fl M v w.t cs := fun i w v cs e r o => by
    obtain ⟨v', cs', a, b, _⟩ := h.own i w e o.isO
    rw [r] at a
    cases a
    rw [o.fn (b.gr g)]
    exact b
  exact ⟨h.len, Nat.le_trans h.low g.len, fun n o => ⟨(h.bnd n o).1, Nat.lt_of_lt_of_le (h.bnd n o).2 g.len⟩, fun i w e f => let ⟨v, cs, a, b, c⟩ := h.own i w e f; ⟨v, cs, a, b.gr g, c⟩, fun i j w w' v v' cs cs' n e1 e2 r1 r2 o1 o2 m1 m2 => h.inj i j w w' v v' cs cs' n e1 e2 r1 r2 (back i w v cs e1 r1 o1) (back j w' v' cs' e2 r2 o2) m1 m2, fun i w e => let ⟨v, a, b⟩ := h.val i w e; ⟨v, a, b.gr g⟩, h.nb⟩
/-- what a value stands for, whosever it is -/
theorem RW.any {B L : Nat} {Pa O : Nat → Prop} {M : Store} {v : Val} {w : W} (h : RW B Pa O L M v w) : Rq (fun _ => True) M v w.t := by
  have k : ∀ (P : Nat → Prop) m c, P m → M[m]? = some c → M[m]? = some c ∧ True := fun P m c p e => ⟨e, trivial⟩
  unfold RW at h
  split at h
  · obtain ⟨n, xs, ts, rfl, b, c, d, e⟩ := h
    rw [d]
    exact .lst c trivial (e.map (k _))
  · obtain ⟨cs, a, b, c⟩ := h
    exact a.rq fun _ _ => trivial
  · exact h.map (k _)
  · obtain ⟨n, xs, ts, rfl, b, c, d, e⟩ := h
    rw [d]
    exact .lst c trivial (e.map (k _))
  · exact h.map (k _)
/-- not lent: its places are nobody's -/
theorem RW.free {B L : Nat} {Pa O : Nat → Prop} {M : Store} {v : Val} {w : W} (hb : ∀ n, O n → n < L) (hl : B ≤ L) (n : isB w.fl = false) (h : RW B Pa O L M v w) : Rq (Av O B Pa w.tn) M v w.t := by
  unfold RW at h
  split at h
  · obtain ⟨n, xs, ts, rfl, b, c, d, e⟩ := h
    rw [d]
    exact .lst c ⟨fun o => by have := hb n o; omega, .inl (by omega)⟩ (e.map fun m c p e => ⟨e, p.2⟩)
  · obtain ⟨cs, a, b, c⟩ := h
    exact a.rq fun n hn => ⟨(c n hn).2.1, (c n hn).2.2.imp id fun z => by cases z.1⟩
  · exact h
  · rename_i e
    rw [e] at n
    cases n
  · rename_i e
    rw [e] at n
    cases n
theorem RW.live {B L : Nat} {Pa O : Nat → Prop} {M : Store} {v : Val} {w : W} (hb : ∀ n, O n → B ≤ n) (hl : B ≤ L) (h : RW B Pa O L M v w) : Rq (Lv B Pa w.tn) M v w.t := by
  unfold RW at h
  split at h
  · obtain ⟨n, xs, ts, rfl, b, c, d, e⟩ := h
    rw [d]
    exact .lst c (.inl (by omega)) (e.map fun m c p e => ⟨e, p.2.2⟩)
  · obtain ⟨cs, a, b, c⟩ := h
    exact a.rq fun n hn => (c n hn).2.2.imp id fun z => by cases z.1
  · exact h.map fun m c p e => ⟨e, p.2⟩
  · obtain ⟨n, xs, ts, rfl, b, c, d, e⟩ := h
    rw [d]
    exact .lst c (.inl (hb n b)) (e.map fun m c p e => ⟨e, p.2⟩)
  · exact h
theorem RW.at {B L : Nat} {Pa O : Nat → Prop} {M : Store} {v : Val} {t : V} {P : Nat → Prop} (h : t.hasL = false) (r : Rq P M v t) : RW B Pa O L M v (.at t) := r.noL h
theorem RW.nW {B L : Nat} {Pa O : Nat → Prop} {M : Store} {v : Val} {fl : Fl} {tn : Bool} {t : V} (h : RW B Pa O L M v ⟨fl, tn, t⟩) : RW B Pa O L M v (Mn.nW fl tn t) := by
  unfold Mn.nW
  by_cases e : t.hasL = true
  · rw [if_pos e]
    exact h
  · rw [if_neg e]
    exact RW.at (by simpa using e) h.any
theorem Lv.mono {B : Nat} {Pa : Nat → Prop} {a b : Bool} {m : Nat} (h : Lv B Pa a m) (k : a = true → b = true) : Lv B Pa b m := h.imp id fun ⟨x, y⟩ => ⟨k x, y⟩
theorem Av.mono {O : Nat → Prop} {B : Nat} {Pa : Nat → Prop} {a b : Bool} {m : Nat} (h : Av O B Pa a m) (k : a = true → b = true) : Av O B Pa b m := ⟨h.1, h.2.mono k⟩
end Mn
end
section
set_option Elab.async false
set_option autoImplicit false
set_option maxRecDepth 100000
set_option linter.all false
/-! Expressions over trees, and that the small language says the same. -/
namespace Mn
/-! ### operations -/
def isD : Fl → Bool
  | .bd => true
  | _ => false
/-- a thing of a list, a tuple -/
def elW (ds tn : Bool) (x : V) : W := nW (if ds = true then .bd else .fz) tn x
def mkL (ds tn : Bool) (xs : List V) : W := ⟨if (ds && V.hasLs xs) = true then .bd else .fr, tn && V.hasLs xs, .lst xs⟩
def mkT (ds tn : Bool) (xs : List V) : W := nW (if ds = true then .bd else .fz) tn (.tup xs)
def qSeq (w : W) : Option (List V) := match w.t with
  | .lst xs => some xs
  | .ro xs => some xs
  | .tup xs => some xs
  | _ => none
def qLs (w : W) : Option (List V) := match w.t with
  | .lst xs => some xs
  | .ro xs => some xs
  | _ => none
abbrev PO := W → W → PR W
abbrev PU := W → PR W
def qInt (g : Int → Int → V) (ok : Int → Int → Bool) : PO := fun a b => match a.t, b.t with
  | .int i, .int j => if ok i j = true then .ok (.at (g i j)) else .bad
  | _, _ => .bad
def qAdd : PO := fun a b => match a.t, b.t with
  | .int i, .int j => .ok (.at (.int (i + j)))
  | .str x, .str y => if x.length + y.length ≤ szLine then .ok (.at (.str (x ++ y))) else .bad
  | .lst xs, .lst ys => if xs.length + ys.length ≤ szLine then .ok (mkL (isD a.fl || isD b.fl) (a.tn || b.tn) (xs ++ ys)) else .bad
  | .tup xs, .tup ys => if xs.length + ys.length ≤ szLine then .ok (mkT (isD a.fl || isD b.fl) (a.tn || b.tn) (xs ++ ys)) else .bad
  | _, _ => .bad
def qSub : PO := qInt (fun i j => .int (i - j)) fun _ _ => true
def qMul : PO := fun a b => match a.t, b.t with
  | .int i, .int j => if mulOk i j = true then .ok (.at (.int (i * j))) else .bad
  | .lst xs, .int k => if xs.length * k.toNat ≤ szLine ∧ -(2 ^ 63) ≤ k ∧ k < 2 ^ 63 then .ok (mkL (isD a.fl) a.tn (List.replicate k.toNat xs).flatten) else .bad
  | _, _ => .bad
def qDiv : PO := qInt (fun i j => .int (i.fdiv j)) fun i j => decide (j ≠ 0) && divOk i j
def qMod : PO := qInt (fun i j => .int (i.fmod j)) fun _ j => decide (j ≠ 0)
def qPow : PO := qInt (fun i j => .int (i ^ j.toNat)) fun i j => decide (0 ≤ j ∧ j ≤ 1000000 ∧ i.natAbs < 2 ^ 64)
def qDm : PO := qInt (fun i j => .tup [.int (i / j), .int (i % j)]) fun i j => decide (0 < j) && divOk i j
def qMax : PO := qInt (fun i j => .int (if j > i then j else i)) fun _ _ => true
def qMin : PO := qInt (fun i j => .int (if j < i then j else i)) fun _ _ => true
def qLt : PO := qInt (fun i j => .bl (decide (i < j))) fun _ _ => true
def qLe : PO := qInt (fun i j => .bl (decide (i ≤ j))) fun _ _ => true
def qGt : PO := qInt (fun i j => .bl (decide (j < i))) fun _ _ => true
def qGe : PO := qInt (fun i j => .bl (decide (j ≤ i))) fun _ _ => true
def vEq (a b : V) : Option Bool := if a.dp ≤ 60 ∧ b.dp ≤ 60 then match a.tt, b.tt with
  | some x, some y => some (x.eqv y)
  | _, _ => none
  else none
def qEqG (neg : Bool) : PO := fun a b => match vEq a.t b.t with
  | some r => .ok (.at (.bl (if neg = true then !r else r)))
  | none => .bad
def qEq : PO := qEqG false
def qNe : PO := qEqG true
def isNonV : V → Bool
  | .non => true
  | _ => false
def qIsN : PO := fun a b => match b.t with
  | .non => .ok (.at (.bl (isNonV a.t)))
  | _ => .bad
def qNotN : PO := fun a b => match b.t with
  | .non => .ok (.at (.bl (!isNonV a.t)))
  | _ => .bad
def flatV : V → Bool
  | .non => true
  | .bl _ => true
  | .int _ => true
  | .str _ => true
  | _ => false
def eqV : V → V → Bool
  | .non, .non => true
  | .bl a, .bl b => a == b
  | .int a, .int b => a == b
  | .str a, .str b => a == b
  | .bl a, .int b => b2i a == b
  | .int a, .bl b => a == b2i b
  | _, _ => false
def qInG (neg : Bool) : PO := fun a b => match qSeq b with
  | some xs => if flatV a.t = true ∧ xs.all flatV = true then .ok (.at (.bl (if neg then !(xs.any fun y => eqV y a.t) else xs.any fun y => eqV y a.t))) else .bad
  | none => .bad
def qIn : PO := qInG false
def qNotIn : PO := qInG true
def qIx : PO := fun a b => match qSeq a, b.t with
  | some xs, .int i => match atI xs i with
    | some x => .ok (elW (isD a.fl) a.tn x)
    | none => .bad
  | _, _ => .bad
def qNeg : PU := fun a => match a.t with
  | .int i => .ok (.at (.int (-i)))
  | _ => .bad
def qAbs : PU := fun a => match a.t with
  | .int i => .ok (.at (.int (if i < 0 then -i else i)))
  | _ => .bad
def qLen : PU := fun a => match a.t with
  | .tup xs => .ok (.at (.int xs.length))
  | .lst xs => .ok (.at (.int xs.length))
  | .ro xs => .ok (.at (.int xs.length))
  | .str s => if s.length ≤ szLine then .ok (.at (.int s.length)) else .bad
  | _ => .bad
def qList : PU := fun a => match qSeq a with
  | some xs => .ok (mkL (isD a.fl) a.tn xs)
  | none => .bad
def qTup : PU := fun a => match qSeq a with
  | some xs => .ok (mkT (isD a.fl) a.tn xs)
  | none => .bad
def toBlV : V → Option Bool
  | .bl b => some b
  | _ => none
def qAllG (g : List Bool → Bool) : PU := fun a => match qLs a with
  | some xs => match mapO toBlV xs with
    | some bs => .ok (.at (.bl (g bs)))
    | none => .bad
  | none => .bad
def qAll : PU := qAllG fun bs => bs.all id
def qAny : PU := qAllG fun bs => bs.any id
def qToInt : PU := fun a => match a.t with
  | .int i => .ok (.at (.int i))
  | .bl b => .ok (.at (.int (if b then 1 else 0)))
  | _ => .bad
def tyV : V → Option String
  | .non => some "NoneType"
  | .bl _ => some "bool"
  | .int _ => some "int"
  | .str _ => some "str"
  | .tup _ => some "tuple"
  | .lst _ => some "list"
  | .ro _ => some "list"
  | _ => none
def qIs (ts : List String) : PU := fun a => match a.t with
  | .exc c => .ok (.at (.bl (ts.any (isX c))))
  | v => match tyV v with
    | some a => .ok (.at (.bl (ts.any (isT a))))
    | none => .bad
def qCut (a : W) (lo hi : Option Int) : PR W := match a.t with
  | .lst xs => .ok (mkL (isD a.fl) a.tn (cut xs lo hi))
  | .ro xs => .ok (mkL (isD a.fl) a.tn (cut xs lo hi))
  | .tup xs => .ok (mkT (isD a.fl) a.tn (cut xs lo hi))
  | .str s => if s.length ≤ szLine then .ok (.at (.str (cut s lo hi))) else .bad
  | _ => .bad
/-! ### that they agree -/
structure Cx (B : Nat) (Pa O : Nat → Prop) (L : Nat) (M : Store) : Prop where
  bnd : ∀ n, O n → B ≤ n ∧ n < L
  low : B ≤ L
  up : L ≤ M.length
theorem Cx.gr {B L : Nat} {Pa O : Nat → Prop} {M M' : Store} (c : Cx B Pa O L M) (g : Gr M M') : Cx B Pa O L M' := ⟨c.bnd, c.low, Nat.le_trans c.up g.len⟩
section
variable {B L : Nat} {Pa O : Nat → Prop} {M M' : Store} {x y v : Val} {w w' : W}
def RE (B : Nat) (Pa O : Nat → Prop) (ds tn : Bool) (M : Store) (xs : List Val) (ts : List V) : Prop := Rql (if ds = true then Lv B Pa tn else Av O B Pa tn) M xs ts
theorem RW.seq (h : RW B Pa O L M v w) {ts : List V} (e : qSeq w = some ts) : ∃ xs, seqOf M v = some xs ∧ RE B Pa O (isD w.fl) w.tn M xs ts := by
  obtain ⟨fl, tn, t⟩ := w
  unfold RW at h
  unfold qSeq at e
  unfold RE
  cases fl with
  | fr =>
    obtain ⟨n, xs, us, rfl, b, c, d, f⟩ := h
    simp only at d
    subst d
    cases e
    exact ⟨xs, lstAt_lst c, f.map fun m c p e => ⟨e, p.2⟩⟩
  | dr =>
    obtain ⟨cs, a, b, c⟩ := h
    have av : ∀ n ∈ cs, Av O B Pa tn n := fun n hn => ⟨(c n hn).2.1, (c n hn).2.2.imp id fun z => by cases z.1⟩
    cases a with
    | lst a r =>
      cases e
      exact ⟨_, lstAt_lst a, Owl.rq r fun m hm => av m (List.mem_cons_of_mem _ hm)⟩
    | tup r =>
      cases e
      exact ⟨_, rfl, Owl.rq r av⟩
    | _ => cases e
  | bo =>
    obtain ⟨n, xs, us, rfl, b, c, d, f⟩ := h
    simp only at d
    subst d
    cases e
    exact ⟨xs, lstAt_lst c, f⟩
  | fz =>
    cases h with
    | lst a b c =>
      cases e
      exact ⟨_, lstAt_lst a, c⟩
    | ro a b c =>
      cases e
      exact ⟨_, lstAt_ro a, c⟩
    | tup c =>
      cases e
      exact ⟨_, rfl, c⟩
    | _ => cases e
  | bd =>
    cases h with
    | lst a b c =>
      cases e
      exact ⟨_, lstAt_lst a, c⟩
    | ro a b c =>
      cases e
      exact ⟨_, lstAt_ro a, c⟩
    | tup c =>
      cases e
      exact ⟨_, rfl, c⟩
    | _ => cases e
/-- a list of one's own kind -/
theorem RW.lst (h : RW B Pa O L M v w) {ts : List V} (e : w.t = .lst ts) : ∃ n xs, v = .ref n ∧ M[n]? = some (.lst xs) ∧ RE B Pa O (isD w.fl) w.tn M xs ts := by
  have a := h.any
  rw [e] at a
  cases a with
  | lst h1 _ h2 =>
    obtain ⟨xs, q, r⟩ := h.seq (ts := ts) (by unfold qSeq; rw [e])
    have : some _ = some xs := (lstAt_lst h1).symm.trans q
    cases this
    exact ⟨_, _, rfl, h1, r⟩
theorem RW.tup (h : RW B Pa O L M v w) {ts : List V} (e : w.t = .tup ts) : ∃ xs, v = .tup xs ∧ RE B Pa O (isD w.fl) w.tn M xs ts := by
  have a := h.any
  rw [e] at a
  cases a with
  | tup h2 =>
    obtain ⟨xs, q, r⟩ := h.seq (ts := ts) (by unfold qSeq; rw [e])
    cases q
    exact ⟨_, rfl, r⟩
theorem RW.int (h : RW B Pa O L M v w) {i : Int} (e : w.t = .int i) : v = .int i := by
  have a := h.any
  rw [e] at a
  cases a
  rfl
theorem RW.bl (h : RW B Pa O L M v w) {i : Bool} (e : w.t = .bl i) : v = .bl i := by
  have a := h.any
  rw [e] at a
  cases a
  rfl
theorem RW.str (h : RW B Pa O L M v w) {i : List Nat} (e : w.t = .str i) : v = .str i := by
  have a := h.any
  rw [e] at a
  cases a
  rfl
theorem RW.non (h : RW B Pa O L M v w) (e : w.t = .non) : v = .non := by
  have a := h.any
  rw [e] at a
  cases a
  rfl
theorem RE.elW {ds tn : Bool} {v : Val} {t : V} (h : Rq (if ds = true then Lv B Pa tn else Av O B Pa tn) M v t) : RW B Pa O L M v (Mn.elW ds tn t) := by
  unfold Mn.elW
  refine RW.nW ?_
  cases ds
  · exact h
  · exact h
theorem RE.get {ds tn : Bool} {xs : List Val} {ts : List V} (h : RE B Pa O ds tn M xs ts) {i : Nat} {t : V} (e : ts[i]? = some t) : ∃ v, xs[i]? = some v ∧ RW B Pa O L M v (Mn.elW ds tn t) := by
  obtain ⟨v, a, b⟩ := Rql.get h e
  exact ⟨v, a, RE.elW b⟩
theorem RE.mono {ds ds' tn tn' : Bool} {xs : List Val} {ts : List V} (h : RE B Pa O ds tn M xs ts) (a : ds = true → ds' = true) (b : tn = true → tn' = true) : RE B Pa O ds' tn' M xs ts := by
  unfold RE at *
  refine h.map fun m c p e => ⟨e, ?_⟩
  cases ds <;> cases ds'
  · exact p.mono b
  · exact p.2.mono b
  · exact absurd (a rfl) (by decide)
  · exact Lv.mono p b
theorem RE.gr {ds tn : Bool} {xs : List Val} {ts : List V} (g : Gr M M') (h : RE B Pa O ds tn M xs ts) : RE B Pa O ds tn M' xs ts := Rql.map (fun m c p e => ⟨g.at e, p⟩) h
theorem RE.noL {ds tn tn' : Bool} {xs : List Val} {ts : List V} (h : RE B Pa O ds tn M xs ts) (e : V.hasLs ts = false) : RE B Pa O ds tn' M xs ts := Rql.noL e h
theorem RE.tn {ds tn : Bool} {xs : List Val} {ts : List V} (h : RE B Pa O ds tn M xs ts) : RE B Pa O ds (tn && V.hasLs ts) M xs ts := by
  cases e : V.hasLs ts with
  | false => exact h.noL e
  | true =>
    rw [Bool.and_true]
    exact h
theorem mkL_ok (c : Cx B Pa O L M) {ds tn : Bool} {xs : List Val} {ts : List V} (h : RE B Pa O ds tn M xs ts) : RW B Pa O L (M ++ [.lst xs]) (.ref M.length) (mkL ds tn ts) := by
  have key : ∀ ds, RE B Pa O ds (tn && V.hasLs ts) M xs ts → RW B Pa O L (M ++ [.lst xs]) (.ref M.length) ⟨if ds = true then .bd else .fr, tn && V.hasLs ts, .lst ts⟩ := fun ds h1 => by
    have h2 := RE.gr (Gr.one M (.lst xs)) h1
    cases ds with
    | false =>
      refine ⟨M.length, xs, ts, rfl, c.up, lst_new' _ _, rfl, ?_⟩
      exact Rql.map (fun m c p e => ⟨(Gr.one M _).at e, Nat.ne_of_lt (get_lt e), p⟩) h1
    | true => exact Rq.lst (lst_new' _ _) (.inl (Nat.le_trans c.low c.up)) h2
  unfold mkL
  refine key _ ?_
  cases e : V.hasLs ts with
  | true =>
    rw [Bool.and_true, Bool.and_true]
    exact h
  | false =>
    rw [Bool.and_false, Bool.and_false]
    exact Rql.noL e h
theorem mkT_ok {ds tn : Bool} {xs : List Val} {ts : List V} (h : RE B Pa O ds tn M xs ts) : RW B Pa O L M (.tup xs) (mkT ds tn ts) := by
  unfold mkT
  refine RW.nW ?_
  cases ds
  · exact Rq.tup h
  · exact Rq.tup h
theorem RW.ai (i : Int) : RW B Pa O L M (.int i) (.at (.int i)) := Rq.int i
theorem RW.ab (i : Bool) : RW B Pa O L M (.bl i) (.at (.bl i)) := Rq.bl i
theorem RW.as (i : List Nat) : RW B Pa O L M (.str i) (.at (.str i)) := Rq.str i
theorem RW.an : RW B Pa O L M .non (.at .non) := Rq.non
end
def SimO (f : Op) (g : PO) : Prop := ∀ (B L : Nat) (Pa O : Nat → Prop) (M : Store) (x y : Val) (w w' u : W), Cx B Pa O L M → RW B Pa O L M x w → RW B Pa O L M y w' → g w w' = .ok u → ∃ v M', f x y M = some (v, M') ∧ Gr M M' ∧ RW B Pa O L M' v u
def SimU (f : U) (g : PU) : Prop := ∀ (B L : Nat) (Pa O : Nat → Prop) (M : Store) (x : Val) (w u : W), Cx B Pa O L M → RW B Pa O L M x w → g w = .ok u → ∃ v M', f x M = some (v, M') ∧ Gr M M' ∧ RW B Pa O L M' v u
theorem qInt_ok {g : Int → Int → V} {ok : Int → Int → Bool} {w w' u : W} (h : qInt g ok w w' = .ok u) : ∃ i j, w.t = .int i ∧ w'.t = .int j ∧ ok i j = true ∧ u = .at (g i j) := by
  unfold qInt at h
  split at h
  · split at h
    · cases h
      exact ⟨_, _, ‹_›, ‹_›, ‹_›, rfl⟩
    · cases h
  · cases h
theorem so_int {f : Op} {g : Int → Int → V} {ok : Int → Int → Bool} {gv : Int → Int → Val} (hf : ∀ i j M, ok i j = true → f (.int i) (.int j) M = some (gv i j, M)) (hr : ∀ P i j M, Rq P M (gv i j) (g i j)) (hl : ∀ i j, (g i j).hasL = false) : SimO f (qInt g ok) := by
  intro B L Pa O M x y w w' u c hx hy h
  obtain ⟨i, j, e1, e2, h1, rfl⟩ := qInt_ok h
  rw [hx.int e1, hy.int e2]
  exact ⟨_, M, hf i j M h1, Gr.refl M, RW.at (hl i j) (hr (fun _ => True) i j M)⟩
theorem so_sub : SimO oSub qSub := so_int (gv := fun i j => .int (i - j)) (fun _ _ _ _ => rfl) (fun _ _ _ _ => .int _) fun _ _ => rfl
theorem so_div : SimO oDiv qDiv := so_int (gv := fun i j => .int (i.fdiv j)) (fun i j M h => if_pos (by simpa using h)) (fun _ _ _ _ => .int _) fun _ _ => rfl
theorem so_mod : SimO oMod qMod := so_int (gv := fun i j => .int (i.fmod j)) (fun i j M h => if_pos (by simpa using h)) (fun _ _ _ _ => .int _) fun _ _ => rfl
theorem so_pow : SimO oPow qPow := so_int (gv := fun i j => .int (i ^ j.toNat)) (fun i j M h => if_pos (of_decide_eq_true h)) (fun _ _ _ _ => .int _) fun _ _ => rfl
theorem so_dm : SimO oDm qDm := so_int (gv := fun i j => .tup [.int (i / j), .int (i % j)]) (fun i j M h => if_pos (by simpa using h)) (fun _ _ _ _ => .tup (.cons (.int _) (.cons (.int _) .nil))) fun _ _ => rfl
theorem so_max : SimO oMax qMax := so_int (gv := fun i j => .int (if j > i then j else i)) (fun _ _ _ _ => rfl) (fun _ _ _ _ => .int _) fun _ _ => rfl
theorem so_min : SimO oMin qMin := so_int (gv := fun i j => .int (if j < i then j else i)) (fun _ _ _ _ => rfl) (fun _ _ _ _ => .int _) fun _ _ => rfl
theorem so_lt : SimO cLt qLt := so_int (gv := fun i j => .bl (decide (i < j))) (fun _ _ _ _ => rfl) (fun _ _ _ _ => .bl _) fun _ _ => rfl
theorem so_le : SimO cLe qLe := so_int (gv := fun i j => .bl (decide (i ≤ j))) (fun _ _ _ _ => rfl) (fun _ _ _ _ => .bl _) fun _ _ => rfl
theorem so_gt : SimO cGt qGt := so_int (gv := fun i j => .bl (decide (j < i))) (fun _ _ _ _ => rfl) (fun _ _ _ _ => .bl _) fun _ _ => rfl
theorem so_ge : SimO cGe qGe := so_int (gv := fun i j => .bl (decide (j ≤ i))) (fun _ _ _ _ => rfl) (fun _ _ _ _ => .bl _) fun _ _ => rfl
theorem or_t {a b : Bool} : (a = true → (a || b) = true) := fun h => by rw [h]; rfl
theorem or_t' {a b : Bool} : (b = true → (a || b) = true) := fun h => by rw [h, Bool.or_true]
theorem so_add : SimO oAdd qAdd := by
  intro B L Pa O M x y w w' u c hx hy h
  unfold qAdd at h
  split at h
  · rename_i e1 e2
    cases h
    rw [hx.int e1, hy.int e2]
    exact ⟨_, M, rfl, Gr.refl M, RW.ai _⟩
  · rename_i e1 e2
    split at h
    · cases h
      rename_i hz
      rw [hx.str e1, hy.str e2]
      exact ⟨_, M, if_pos hz, Gr.refl M, RW.as _⟩
    · cases h
  · rename_i e1 e2
    split at h
    · cases h
      rename_i hz
      obtain ⟨n, xs, rfl, h1, r1⟩ := hx.lst e1
      obtain ⟨n', ys, rfl, h2, r2⟩ := hy.lst e2
      refine ⟨.ref M.length, M ++ [.lst (xs ++ ys)], ?_, Gr.one _ _, mkL_ok c (Rql.append (RE.mono r1 or_t or_t) (RE.mono r2 or_t' or_t'))⟩
      unfold oAdd
      simp only []
      rw [h1, h2]
      exact if_pos (by rw [Rql.length r1, Rql.length r2]; exact hz)
    · cases h
  · rename_i e1 e2
    split at h
    · cases h
      rename_i hz
      obtain ⟨xs, rfl, r1⟩ := hx.tup e1
      obtain ⟨ys, rfl, r2⟩ := hy.tup e2
      exact ⟨_, M, if_pos (by rw [Rql.length r1, Rql.length r2]; exact hz), Gr.refl M, mkT_ok (Rql.append (RE.mono r1 or_t or_t) (RE.mono r2 or_t' or_t'))⟩
    · cases h
  · cases h
theorem so_mul : SimO oMul qMul := by
  intro B L Pa O M x y w w' u c hx hy h
  unfold qMul at h
  split at h
  · rename_i e1 e2
    split at h
    · cases h
      rename_i hz
      rw [hx.int e1, hy.int e2]
      exact ⟨_, M, if_pos hz, Gr.refl M, RW.ai _⟩
    · cases h
  · rename_i e1 e2
    split at h
    · cases h
      rename_i hz
      obtain ⟨n, xs, rfl, h1, r1⟩ := hx.lst e1
      rw [hy.int e2]
      refine ⟨_, _, oMul_lst h1 (by rw [Rql.length r1]; exact hz), Gr.one _ _, mkL_ok c (Rql.rep r1 _)⟩
    · cases h
  · cases h
theorem vEq_ok {P Q : Nat → Prop} {M : Store} {x y : Val} {a b : V} {r : Bool} (hx : Rq P M x a) (hy : Rq Q M y b) (h : vEq a b = some r) : valEq x y M = some r := by
  unfold vEq at h
  split at h
  · rename_i hd
    split at h
    · rename_i e1 e2
      cases h
      unfold valEq
      rw [hx.toT eqFuel e1 hd.1, hy.toT eqFuel e2 hd.2]
    · cases h
  · cases h
theorem so_eq : SimO cEq qEq := by
  intro B L Pa O M x y w w' u c hx hy h
  unfold qEq qEqG at h
  split at h
  · cases h
    rename_i r e
    refine ⟨.bl r, M, ?_, Gr.refl M, RW.ab _⟩
    unfold cEq
    rw [vEq_ok hx.any hy.any e]
    rfl
  · cases h
theorem so_ne : SimO cNe qNe := by
  intro B L Pa O M x y w w' u c hx hy h
  unfold qNe qEqG at h
  split at h
  · cases h
    rename_i r e
    refine ⟨.bl (!r), M, ?_, Gr.refl M, RW.ab _⟩
    unfold cNe
    rw [vEq_ok hx.any hy.any e]
    rfl
  · cases h
theorem isNon_ok {P : Nat → Prop} {M : Store} {x : Val} {a : V} (h : Rq P M x a) : isNon x = isNonV a := by cases h <;> rfl
theorem so_isn : SimO cIsN qIsN := by
  intro B L Pa O M x y w w' u c hx hy h
  unfold qIsN at h
  split at h
  · cases h
    rename_i e
    rw [hy.non e, ← isNon_ok hx.any]
    exact ⟨_, M, rfl, Gr.refl M, RW.ab _⟩
  · cases h
theorem so_notn : SimO cNotN qNotN := by
  intro B L Pa O M x y w w' u c hx hy h
  unfold qNotN at h
  split at h
  · cases h
    rename_i e
    rw [hy.non e, ← isNon_ok hx.any]
    exact ⟨_, M, rfl, Gr.refl M, RW.ab _⟩
  · cases h
theorem flat_ok {P : Nat → Prop} {M : Store} {x : Val} {a : V} (h : Rq P M x a) (k : flatV a = true) : flat x = true ∧ ∀ {y : Val} {b : V}, Rq P M y b → flatV b = true → eqF y x = eqV b a := by
  cases h with
  | non => exact ⟨rfl, fun r k => by cases r <;> first | rfl | cases k⟩
  | bl => exact ⟨rfl, fun r k => by cases r <;> first | rfl | cases k⟩
  | int => exact ⟨rfl, fun r k => by cases r <;> first | rfl | cases k⟩
  | str => exact ⟨rfl, fun r k => by cases r <;> first | rfl | cases k⟩
  | _ => cases k
theorem in_ok {P : Nat → Prop} {M : Store} {x : Val} {a : V} (h : Rq P M x a) (k : flatV a = true) : ∀ {ys : List Val} {ts : List V}, Rql P M ys ts → ts.all flatV = true → ys.all flat = true ∧ (ys.any fun y => eqF y x) = ts.any fun y => eqV y a
  | _, _, .nil, _ => ⟨rfl, rfl⟩
  | _, _, .cons r rs, q => by
    rw [List.all_cons, Bool.and_eq_true] at q
    obtain ⟨i1, i2⟩ := in_ok h k rs q.2
    rw [List.all_cons, List.any_cons, List.any_cons, i1, i2, (flat_ok r q.1).1, (flat_ok h k).2 r q.1]
    exact ⟨rfl, rfl⟩
theorem so_in (neg : Bool) : SimO (cInG neg) (qInG neg) := by
  intro B L Pa O M x y w w' u c hx hy h
  unfold qInG at h
  split at h
  · rename_i e
    split at h
    · rename_i hz
      cases h
      obtain ⟨xs, hs, r⟩ := hy.seq e
      obtain ⟨i1, i2⟩ := in_ok hx.any hz.1 (Rql.map (Q := fun _ => True) (fun m c p e => ⟨e, trivial⟩) r) hz.2
      refine ⟨_, M, ?_, Gr.refl M, RW.ab _⟩
      unfold cInG
      rw [hs]
      simp only []
      rw [if_pos ⟨(flat_ok hx.any hz.1).1, i1⟩, i2]
    · cases h
  · cases h
theorem so_ix : SimO oIx qIx := by
  intro B L Pa O M x y w w' u c hx hy h
  unfold qIx at h
  split at h
  · rename_i ts i e1 e2
    cases e3 : atI ts i with
    | none =>
      rw [e3] at h
      cases h
    | some t =>
      rw [e3] at h
      cases h
      obtain ⟨xs, hs, r⟩ := hx.seq e1
      rw [hy.int e2]
      unfold atI at e3
      cases e4 : atIx ts.length i with
      | none =>
        rw [e4] at e3
        cases e3
      | some k =>
        rw [e4] at e3
        obtain ⟨v, hv, rv⟩ := r.get (L := L) (i := k) e3
        have e5 : atI xs i = some v := by
          unfold atI
          rw [Rql.length r, e4]
          exact hv
        refine ⟨v, M, ?_, Gr.refl M, rv⟩
        cases x with
        | tup ys =>
          cases hs
          show (atI xs i).map _ = _
          rw [e5]
          rfl
        | ref n =>
          show (match lstAt M n with | some xs => (atI xs i).map fun v => (v, M) | none => none) = _
          rw [show lstAt M n = some xs from hs]
          show (atI xs i).map _ = _
          rw [e5]
          rfl
        | _ => cases hs
  · cases h
theorem su_neg : SimU oNeg qNeg := by
  intro B L Pa O M x w u c hx h
  unfold qNeg at h
  split at h
  · cases h
    rw [hx.int ‹_›]
    exact ⟨_, M, rfl, Gr.refl M, RW.ai _⟩
  · cases h
theorem su_abs : SimU uAbs qAbs := by
  intro B L Pa O M x w u c hx h
  unfold qAbs at h
  split at h
  · cases h
    rw [hx.int ‹_›]
    exact ⟨_, M, rfl, Gr.refl M, RW.ai _⟩
  · cases h
theorem su_len : SimU uLen qLen := by
  intro B L Pa O M x w u c hx h
  unfold qLen at h
  have a := hx.any
  split at h
  · rename_i e
    cases h
    rw [e] at a
    cases a with
    | tup r => exact ⟨_, M, by rw [← r.length]; rfl, Gr.refl M, RW.ai _⟩
  · rename_i e
    cases h
    rw [e] at a
    cases a with
    | lst q _ r => exact ⟨_, M, by rw [← r.length]; exact uLen_ref (lstAt_lst q), Gr.refl M, RW.ai _⟩
  · rename_i e
    cases h
    rw [e] at a
    cases a with
    | ro q _ r => exact ⟨_, M, by rw [← r.length]; exact uLen_ref (lstAt_ro q), Gr.refl M, RW.ai _⟩
  · rename_i e
    split at h
    · cases h
      rw [hx.str e]
      exact ⟨_, M, if_pos ‹_›, Gr.refl M, RW.ai _⟩
    · cases h
  · cases h
theorem su_list : SimU uList qList := by
  intro B L Pa O M x w u c hx h
  unfold qList at h
  split at h
  · rename_i e
    cases h
    obtain ⟨xs, hs, r⟩ := hx.seq e
    exact ⟨_, _, uList_seq hs, Gr.one _ _, mkL_ok c r⟩
  · cases h
theorem su_tup : SimU uTup qTup := by
  intro B L Pa O M x w u c hx h
  unfold qTup at h
  split at h
  · rename_i e
    cases h
    obtain ⟨xs, hs, r⟩ := hx.seq e
    refine ⟨.tup xs, M, ?_, Gr.refl M, mkT_ok r⟩
    cases x with
    | tup ys =>
      cases hs
      rfl
    | ref n =>
      show (match lstAt M n with | some xs => some (Val.tup xs, M) | none => none) = _
      rw [show lstAt M n = some xs from hs]
    | _ => cases hs
  · cases h
theorem toBl_ok {P : Nat → Prop} {M : Store} : ∀ {xs : List Val} {ts : List V} {bs : List Bool}, Rql P M xs ts → mapO toBlV ts = some bs → mapO toBl xs = some bs
  | _, _, _, .nil, e => e
  | _, _, _, .cons (t := t) (ts := ts) r rs, e => by
    unfold mapO at e ⊢
    cases t with
    | bl b =>
      cases r
      simp only [toBlV] at e
      simp only [toBl]
      cases e2 : mapO toBlV ts with
      | none => rw [e2] at e; cases e
      | some us =>
        rw [e2] at e
        rw [toBl_ok rs e2]
        exact e
    | _ => cases e
theorem su_allG (g : List Bool → Bool) : SimU (uAllG g) (qAllG g) := by
  intro B L Pa O M x w u c hx h
  unfold qAllG at h
  split at h
  · rename_i ts e
    split at h
    · rename_i bs e2
      cases h
      have a := hx.any
      unfold qLs at e
      split at e
      · rename_i e3
        cases e
        rw [e3] at a
        cases a with
        | lst q _ r =>
          refine ⟨.bl (g bs), M, ?_, Gr.refl M, RW.ab _⟩
          unfold uAllG
          simp only [lstAt_lst q, toBl_ok r e2]
      · rename_i e3
        cases e
        rw [e3] at a
        cases a with
        | ro q _ r =>
          refine ⟨.bl (g bs), M, ?_, Gr.refl M, RW.ab _⟩
          unfold uAllG
          simp only [lstAt_ro q, toBl_ok r e2]
      · cases e
    · cases h
  · cases h
theorem su_int : SimU uInt qToInt := by
  intro B L Pa O M x w u c hx h
  unfold qToInt at h
  split at h
  · cases h
    rw [hx.int ‹_›]
    exact ⟨_, M, rfl, Gr.refl M, RW.ai _⟩
  · cases h
    rw [hx.bl ‹_›]
    exact ⟨_, M, rfl, Gr.refl M, RW.ai _⟩
  · cases h
theorem su_is (ts : List String) : SimU (uIs ts) (qIs ts) := by
  intro B L Pa O M x w u c hx h
  unfold qIs at h
  have a := hx.any
  split at h
  · rename_i c e
    cases h
    rw [e] at a
    cases a
    exact ⟨_, M, rfl, Gr.refl M, RW.ab _⟩
  · rename_i v hv
    generalize w.t = t at *
    cases a with
    | lst q _ _ =>
      cases h
      exact ⟨_, M, uIs_lst q ts, Gr.refl M, RW.ab _⟩
    | ro q _ _ =>
      cases h
      refine ⟨_, M, ?_, Gr.refl M, RW.ab _⟩
      unfold uIs tyName
      simp only []
      rw [q]
    | exc c => exact absurd rfl (hv c)
    | obj _ _ _ => cases h
    | dic _ _ _ _ => cases h
    | _ =>
      cases h
      exact ⟨_, M, rfl, Gr.refl M, RW.ab _⟩
theorem cut_ok {B L : Nat} {Pa O : Nat → Prop} {M : Store} {x : Val} {w u : W} {lo hi : Option Int} (c : Cx B Pa O L M) (hx : RW B Pa O L M x w) (h : qCut w lo hi = .ok u) : ∃ v M', cutOf x lo hi M = some (v, M') ∧ Gr M M' ∧ RW B Pa O L M' v u := by
  unfold qCut at h
  split at h
  · rename_i e
    cases h
    obtain ⟨n, xs, rfl, q, r⟩ := hx.lst e
    exact ⟨_, _, cutOf_ref (lstAt_lst q) lo hi, Gr.one _ _, mkL_ok c (Rql.cut r lo hi)⟩
  · rename_i e
    cases h
    obtain ⟨xs, hs, r⟩ := hx.seq (by unfold qSeq; rw [e])
    have a := hx.any
    rw [e] at a
    cases a with
    | ro q _ _ => exact ⟨_, _, cutOf_ref hs lo hi, Gr.one _ _, mkL_ok c (Rql.cut r lo hi)⟩
  · rename_i e
    cases h
    obtain ⟨xs, rfl, r⟩ := hx.tup e
    exact ⟨_, M, rfl, Gr.refl M, mkT_ok (Rql.cut r lo hi)⟩
  · rename_i e
    split at h
    · cases h
      rw [hx.str e]
      exact ⟨_, M, if_pos ‹_›, Gr.refl M, RW.as _⟩
    · cases h
  · cases h
end Mn
end
section
set_option Elab.async false
set_option autoImplicit false
set_option maxRecDepth 100000
set_option linter.all false
/-! Expressions, calls, walks, comprehensions over trees. -/
namespace Mn
def RelE (B : Nat) (Pa O : Nat → Prop) (L : Nat) (M : Store) (r : R Val) (p : PR W) : Prop := match p with
  | .ok w => ∃ v M', r = .ok v M' ∧ Gr M M' ∧ RW B Pa O L M' v w
  | .exc c => ∃ M', r = .exc c M' ∧ Gr M M'
  | .bad => True
structure SimE (e : E) (p : PE) : Prop where
  go : ∀ (B : Nat) (Pa O : Nat → Prop) (ρ : Env) (M : Store) (π : PEnv), PSt B Pa O ρ M π → RelE B Pa O M.length M (e ρ M) (p π)
instance {e : E} {p : PE} : CoeFun (SimE e p) fun _ => ∀ (B : Nat) (Pa O : Nat → Prop) (ρ : Env) (M : Store) (π : PEnv), PSt B Pa O ρ M π → RelE B Pa O M.length M (e ρ M) (p π) := ⟨SimE.go⟩
theorem PSt.cx {B : Nat} {Pa O : Nat → Prop} {ρ : Env} {M M' : Store} {π : PEnv} (h : PSt B Pa O ρ M π) (g : Gr M M') : Cx B Pa O M.length M' := ⟨h.bnd, h.low, g.len⟩
/-! variables, constants -/
def vW (w : W) : W := match w with
  | ⟨.fr, tn, t⟩ => ⟨.bo, tn, t⟩
  | ⟨.dr, tn, t⟩ => ⟨.bd, tn, t⟩
  | w => w
def pVar (i : Nat) : PE := fun π => match π[i]? with
  | some (some w) => .ok (vW w)
  | _ => .bad
theorem RW.var {B : Nat} {Pa O : Nat → Prop} {ρ : Env} {M : Store} {π : PEnv} (h : PSt B Pa O ρ M π) {i : Nat} {w : W} (e : π[i]? = some (some w)) : ∃ v, ρ[i]? = some (some v) ∧ RW B Pa O M.length M v (vW w) := by
  obtain ⟨v, a, b⟩ := h.val i w e
  refine ⟨v, a, ?_⟩
  obtain ⟨fl, tn, t⟩ := w
  cases fl with
  | fr =>
    obtain ⟨n, xs, ts, rfl, q1, q2, q3, q4⟩ := b
    obtain ⟨v', cs, e2, ⟨n', e3, e4⟩, o⟩ := h.own i _ e rfl
    rw [a] at e2
    cases e2
    cases e3
    subst e4
    exact ⟨n, xs, ts, rfl, o n List.mem_cons_self, q2, q3, q4.map fun m c p e => ⟨e, p.2⟩⟩
  | dr =>
    obtain ⟨cs, q1, q2, q3⟩ := b
    exact q1.rq fun n hn => .inl (q3 n hn)
  | _ => exact b
theorem sx_var (i : Nat) : SimE (eVar i) (pVar i) := by
  refine ⟨?_⟩
  intro B Pa O ρ M π h
  unfold pVar
  split
  · rename_i w e
    obtain ⟨v, a, b⟩ := RW.var h e
    refine ⟨v, M, ?_, Gr.refl M, b⟩
    unfold eVar
    rw [a]
  · exact trivial
mutual
def cV : Val → V
  | .non => .non
  | .bl b => .bl b
  | .int i => .int i
  | .str s => .str s
  | .tup xs => .tup (cVs xs)
  | .ref _ => .non
  | .exc c => .exc c
def cVs : List Val → List V
  | [] => []
  | x :: xs => cV x :: cVs xs
end
mutual
def cOk : Val → Bool
  | .tup xs => cOks xs
  | .ref _ => false
  | _ => true
def cOks : List Val → Bool
  | [] => true
  | x :: xs => cOk x && cOks xs
end
mutual
theorem cV_ok (P : Nat → Prop) (M : Store) : ∀ v : Val, cOk v = true → Rq P M v (cV v) ∧ (cV v).hasL = false
  | .non, _ => ⟨.non, rfl⟩
  | .bl b, _ => ⟨.bl b, rfl⟩
  | .int i, _ => ⟨.int i, rfl⟩
  | .str s, _ => ⟨.str s, rfl⟩
  | .exc c, _ => ⟨.exc c, rfl⟩
  | .tup xs, h => by
    unfold cOk at h
    obtain ⟨a, b⟩ := cVs_ok P M xs h
    unfold cV V.hasL
    exact ⟨.tup a, b⟩
  | .ref _, h => by cases h
theorem cVs_ok (P : Nat → Prop) (M : Store) : ∀ vs : List Val, cOks vs = true → Rql P M vs (cVs vs) ∧ V.hasLs (cVs vs) = false
  | [], _ => ⟨.nil, rfl⟩
  | x :: xs, h => by
    unfold cOks at h
    rw [Bool.and_eq_true] at h
    obtain ⟨a, b⟩ := cV_ok P M x h.1
    obtain ⟨c, d⟩ := cVs_ok P M xs h.2
    unfold cVs V.hasLs
    rw [b, d]
    exact ⟨.cons a c, rfl⟩
end
def pC (v : Val) : PE := fun _ => if cOk v = true then .ok (.at (cV v)) else .bad
theorem sx_c (v : Val) : SimE (eC v) (pC v) := by
  refine ⟨?_⟩
  intro B Pa O ρ M π h
  unfold pC
  split
  · rename_i e
    obtain ⟨a, b⟩ := cV_ok (fun _ => True) M v e
    exact ⟨v, M, rfl, Gr.refl M, RW.at b a⟩
  · exact trivial
/-! operators -/
def kq2 (g : PO) (x : W) : PR W → PR W
  | .ok y => g x y
  | .exc c => .exc c
  | .bad => .bad
def kq1 (g : PO) (b : PE) (π : PEnv) : PR W → PR W
  | .ok x => kq2 g x (b π)
  | .exc c => .exc c
  | .bad => .bad
def pBin (g : PO) (a b : PE) : PE := fun π => kq1 g b π (a π)
def NoX2 (g : PO) : Prop := ∀ w w' c, g w w' ≠ .exc c
def NoX1 (g : PU) : Prop := ∀ w c, g w ≠ .exc c
theorem RelE.op {B L : Nat} {Pa O : Nat → Prop} {M M2 : Store} {o : P} {p : PR W} (g : Gr M M2) (hn : ∀ c, p ≠ .exc c) (h : ∀ u, p = .ok u → ∃ v M', o = some (v, M') ∧ Gr M2 M' ∧ RW B Pa O L M' v u) : RelE B Pa O L M (R.of o) p := by
  cases p with
  | ok u =>
    obtain ⟨v, M', e, g2, r⟩ := h u rfl
    rw [e]
    exact ⟨v, M', rfl, g.trans g2, r⟩
  | exc c => exact absurd rfl (hn c)
  | bad => exact trivial
theorem sx_bin {f : Op} {g : PO} {a b : E} {p q : PE} (hf : SimO f g) (hn : NoX2 g) (ha : SimE a p) (hb : SimE b q) : SimE (eBin f a b) (pBin g p q) := by
  refine ⟨?_⟩
  intro B Pa O ρ M π h
  have h1 := ha B Pa O ρ M π h
  unfold pBin eBin
  cases e1 : p π with
  | bad => exact trivial
  | exc c =>
    rw [e1] at h1
    obtain ⟨M', e2, g1⟩ := h1
    rw [e2]
    exact ⟨M', rfl, g1⟩
  | ok w =>
    rw [e1] at h1
    obtain ⟨x, M1, e2, g1, r1⟩ := h1
    rw [e2]
    have h2 := hb B Pa O ρ M1 π (h.gr g1)
    unfold kq1
    simp only [R.bind_ok]
    cases e3 : q π with
    | bad => exact trivial
    | exc c =>
      rw [e3] at h2
      obtain ⟨M', e4, g2⟩ := h2
      rw [e4]
      exact ⟨M', rfl, g1.trans g2⟩
    | ok w' =>
      rw [e3] at h2
      obtain ⟨y, M2, e4, g2, r2⟩ := h2
      rw [e4]
      exact RelE.op (g1.trans g2) (hn w w') fun u hu => hf B M.length Pa O M2 x y w w' u (h.cx (g1.trans g2)) (r1.gr g2) (r2.low g1.len) hu
def kqU (g : PU) : PR W → PR W
  | .ok x => g x
  | .exc c => .exc c
  | .bad => .bad
def pUn (g : PU) (a : PE) : PE := fun π => kqU g (a π)
theorem sx_un {f : U} {g : PU} {a : E} {p : PE} (hf : SimU f g) (hn : NoX1 g) (ha : SimE a p) : SimE (eUn f a) (pUn g p) := by
  refine ⟨?_⟩
  intro B Pa O ρ M π h
  have h1 := ha B Pa O ρ M π h
  unfold pUn eUn
  cases e1 : p π with
  | bad => exact trivial
  | exc c =>
    rw [e1] at h1
    obtain ⟨M', e2, g1⟩ := h1
    rw [e2]
    exact ⟨M', rfl, g1⟩
  | ok w =>
    rw [e1] at h1
    obtain ⟨x, M1, e2, g1, r1⟩ := h1
    rw [e2]
    exact RelE.op g1 (hn w) fun u hu => hf B M.length Pa O M1 x w u (h.cx g1) r1 hu
/-! truths -/
def kqAnd (b : PE) (π : PEnv) : PR W → PR W
  | .ok w => match w.t with
    | .bl true => b π
    | .bl false => .ok (.at (.bl false))
    | _ => .bad
  | .exc c => .exc c
  | .bad => .bad
def pAnd (a b : PE) : PE := fun π => kqAnd b π (a π)
def kqOr (b : PE) (π : PEnv) : PR W → PR W
  | .ok w => match w.t with
    | .bl true => .ok (.at (.bl true))
    | .bl false => b π
    | _ => .bad
  | .exc c => .exc c
  | .bad => .bad
def pOr (a b : PE) : PE := fun π => kqOr b π (a π)
def kqNot : PR W → PR W
  | .ok w => match w.t with
    | .bl c => .ok (.at (.bl (!c)))
    | _ => .bad
  | .exc c => .exc c
  | .bad => .bad
def pNot (a : PE) : PE := fun π => kqNot (a π)
theorem RelE.pre {B L : Nat} {Pa O : Nat → Prop} {M M1 : Store} {r : R Val} {p : PR W} (g : Gr M M1) (l : L ≤ M1.length) (h : RelE B Pa O M1.length M1 r p) : RelE B Pa O L M r p := by
  cases p with
  | bad => exact trivial
  | exc c =>
    obtain ⟨M', e, g2⟩ := h
    exact ⟨M', e, g.trans g2⟩
  | ok w =>
    obtain ⟨v, M', e, g2, r⟩ := h
    exact ⟨v, M', e, g.trans g2, r.low l⟩
theorem sx_and {a b : E} {p q : PE} (ha : SimE a p) (hb : SimE b q) : SimE (eAnd a b) (pAnd p q) := by
  refine ⟨?_⟩
  intro B Pa O ρ M π h
  have h1 := ha B Pa O ρ M π h
  unfold pAnd eAnd
  cases e1 : p π with
  | bad => exact trivial
  | exc c =>
    rw [e1] at h1
    obtain ⟨M', e2, g1⟩ := h1
    rw [e2]
    exact ⟨M', rfl, g1⟩
  | ok w =>
    rw [e1] at h1
    obtain ⟨x, M1, e2, g1, r1⟩ := h1
    rw [e2]
    unfold kqAnd
    simp only [R.bind_ok]
    cases e3 : w.t with
    | bl t =>
      rw [r1.bl e3]
      cases t with
      | true => exact RelE.pre g1 g1.len (hb B Pa O ρ M1 π (h.gr g1))
      | false => exact ⟨_, M1, rfl, g1, RW.ab _⟩
    | _ => exact trivial
theorem sx_or {a b : E} {p q : PE} (ha : SimE a p) (hb : SimE b q) : SimE (eOr a b) (pOr p q) := by
  refine ⟨?_⟩
  intro B Pa O ρ M π h
  have h1 := ha B Pa O ρ M π h
  unfold pOr eOr
  cases e1 : p π with
  | bad => exact trivial
  | exc c =>
    rw [e1] at h1
    obtain ⟨M', e2, g1⟩ := h1
    rw [e2]
    exact ⟨M', rfl, g1⟩
  | ok w =>
    rw [e1] at h1
    obtain ⟨x, M1, e2, g1, r1⟩ := h1
    rw [e2]
    unfold kqOr
    simp only [R.bind_ok]
    cases e3 : w.t with
    | bl t =>
      rw [r1.bl e3]
      cases t with
      | false => exact RelE.pre g1 g1.len (hb B Pa O ρ M1 π (h.gr g1))
      | true => exact ⟨_, M1, rfl, g1, RW.ab _⟩
    | _ => exact trivial
theorem sx_not {a : E} {p : PE} (ha : SimE a p) : SimE (eNot a) (pNot p) := by
  refine ⟨?_⟩
  intro B Pa O ρ M π h
  have h1 := ha B Pa O ρ M π h
  unfold pNot eNot
  cases e1 : p π with
  | bad => exact trivial
  | exc c =>
    rw [e1] at h1
    obtain ⟨M', e2, g1⟩ := h1
    rw [e2]
    exact ⟨M', rfl, g1⟩
  | ok w =>
    rw [e1] at h1
    obtain ⟨x, M1, e2, g1, r1⟩ := h1
    rw [e2]
    unfold kqNot
    simp only [R.bind_ok]
    cases e3 : w.t with
    | bl t =>
      rw [r1.bl e3]
      exact ⟨_, M1, rfl, g1, RW.ab _⟩
    | _ => exact trivial
def kqC3 (g : PO) (y : W) : PR W → PR W
  | .ok z => g y z
  | .exc c => .exc c
  | .bad => .bad
def kqC2 (g : PO) (c : PE) (y : W) (π : PEnv) : PR W → PR W
  | .ok w => match w.t with
    | .bl true => kqC3 g y (c π)
    | .bl false => .ok (.at (.bl false))
    | _ => .bad
  | .exc c => .exc c
  | .bad => .bad
def kqC1 (f g : PO) (x : W) (c : PE) (π : PEnv) : PR W → PR W
  | .ok y => kqC2 g c y π (f x y)
  | .exc c => .exc c
  | .bad => .bad
def kqC0 (f g : PO) (b c : PE) (π : PEnv) : PR W → PR W
  | .ok x => kqC1 f g x c π (b π)
  | .exc c => .exc c
  | .bad => .bad
def pChain (f g : PO) (a b c : PE) : PE := fun π => kqC0 f g b c π (a π)
theorem sx_chain {f g : Op} {f' g' : PO} {a b c : E} {p q r : PE} (hf : SimO f f') (hn : NoX2 f') (hg : SimO g g') (hm : NoX2 g') (ha : SimE a p) (hb : SimE b q) (hc : SimE c r) : SimE (eChain f g a b c) (pChain f' g' p q r) := by
  refine ⟨?_⟩
  intro B Pa O ρ M π h
  have h1 := ha B Pa O ρ M π h
  unfold pChain eChain
  cases e1 : p π with
  | bad => exact trivial
  | exc c =>
    rw [e1] at h1
    obtain ⟨M', e2, g1⟩ := h1
    rw [e2]
    exact ⟨M', rfl, g1⟩
  | ok w =>
    rw [e1] at h1
    obtain ⟨x, M1, e2, g1, r1⟩ := h1
    rw [e2]
    have h2 := hb B Pa O ρ M1 π (h.gr g1)
    unfold kqC0
    simp only [R.bind_ok]
    cases e3 : q π with
    | bad => exact trivial
    | exc c =>
      rw [e3] at h2
      obtain ⟨M', e4, g2⟩ := h2
      rw [e4]
      exact ⟨M', rfl, g1.trans g2⟩
    | ok w' =>
      rw [e3] at h2
      obtain ⟨y, M2, e4, g2, r2⟩ := h2
      rw [e4]
      unfold kqC1
      simp only [R.bind_ok]
      cases e5 : f' w w' with
      | bad => exact trivial
      | exc c => exact absurd e5 (hn w w' c)
      | ok u =>
        obtain ⟨z, M3, e6, g3, r3⟩ := hf B M.length Pa O M2 x y w w' u (h.cx (g1.trans g2)) (r1.gr g2) (r2.low g1.len) e5
        have G3 := (g1.trans g2).trans g3
        rw [e6]
        unfold kqC2
        simp only [R.of_some, R.bind_ok]
        cases e9 : u.t with
        | bl t =>
          rw [r3.bl e9]
          cases t with
          | false => exact ⟨_, M3, rfl, G3, RW.ab _⟩
          | true =>
            simp only []
            have h4 := hc B Pa O ρ M3 π (h.gr G3)
            cases e7 : r π with
            | bad => exact trivial
            | exc c =>
              rw [e7] at h4
              obtain ⟨M', e8, g4⟩ := h4
              rw [e8]
              exact ⟨M', rfl, G3.trans g4⟩
            | ok w3 =>
              rw [e7] at h4
              obtain ⟨z2, M4, e8, g4, r4⟩ := h4
              rw [e8]
              exact RelE.op (G3.trans g4) (hm w' w3) fun u hu => hg B M.length Pa O M4 y z2 w' w3 u (h.cx (G3.trans g4)) ((r2.low g1.len).gr (g3.trans g4)) (r4.low G3.len) hu
        | _ => exact trivial
/-! several things -/
def kqL2 (w : W) : PR (List W) → PR (List W)
  | .ok ws => .ok (w :: ws)
  | .exc c => .exc c
  | .bad => .bad
def pvL : List PE → PEnv → PR (List W)
  | [], _ => .ok []
  | e :: es, π => match e π with
    | .ok w => kqL2 w (pvL es π)
    | .exc c => .exc c
    | .bad => .bad
def kqL1 (es : List PE) (π : PEnv) : PR W → PR (List W)
  | .ok w => kqL2 w (pvL es π)
  | .exc c => .exc c
  | .bad => .bad
theorem pvL_k (e : PE) (es : List PE) (π : PEnv) : pvL (e :: es) π = kqL1 es π (e π) := by
  conv => lhs; unfold pvL
  cases e π <;> rfl
inductive SimL : List E → List PE → Prop
  | nil : SimL [] []
  | cons {e : E} {p : PE} {es : List E} {ps : List PE} : SimE e p → SimL es ps → SimL (e :: es) (p :: ps)
inductive RWl (B : Nat) (Pa O : Nat → Prop) (L : Nat) (M : Store) : List Val → List W → Prop
  | nil : RWl B Pa O L M [] []
  | cons {v : Val} {w : W} {vs : List Val} {ws : List W} : RW B Pa O L M v w → RWl B Pa O L M vs ws → RWl B Pa O L M (v :: vs) (w :: ws)
theorem RWl.gr {B L : Nat} {Pa O : Nat → Prop} {M M' : Store} (g : Gr M M') : ∀ {vs : List Val} {ws : List W}, RWl B Pa O L M vs ws → RWl B Pa O L M' vs ws
  | _, _, .nil => .nil
  | _, _, .cons h r => .cons (h.gr g) (RWl.gr g r)
theorem RWl.low {B L L' : Nat} {Pa O : Nat → Prop} {M : Store} (l : L' ≤ L) : ∀ {vs : List Val} {ws : List W}, RWl B Pa O L M vs ws → RWl B Pa O L' M vs ws
  | _, _, .nil => .nil
  | _, _, .cons h r => .cons (h.low l) (RWl.low l r)
theorem RWl.length {B L : Nat} {Pa O : Nat → Prop} {M : Store} : ∀ {vs : List Val} {ws : List W}, RWl B Pa O L M vs ws → vs.length = ws.length
  | _, _, .nil => rfl
  | _, _, .cons h r => congrArg Nat.succ (RWl.length r)
def RelL (B : Nat) (Pa O : Nat → Prop) (L : Nat) (M : Store) (r : R (List Val)) (p : PR (List W)) : Prop := match p with
  | .ok ws => ∃ vs M', r = .ok vs M' ∧ Gr M M' ∧ RWl B Pa O L M' vs ws
  | .exc c => ∃ M', r = .exc c M' ∧ Gr M M'
  | .bad => True
theorem sx_list : ∀ {es : List E} {ps : List PE}, SimL es ps → ∀ (B : Nat) (Pa O : Nat → Prop) (ρ : Env) (M : Store) (π : PEnv), PSt B Pa O ρ M π → RelL B Pa O M.length M (evL es ρ M) (pvL ps π)
  | _, _, .nil, B, Pa, O, ρ, M, π, h => by
    unfold pvL
    exact ⟨[], M, rfl, Gr.refl M, .nil⟩
  | _, _, .cons (e := e) (p := p) (es := es) (ps := ps) he hr, B, Pa, O, ρ, M, π, h => by
    have h1 := he B Pa O ρ M π h
    rw [pvL_k]
    unfold evL
    cases e1 : p π with
    | bad =>
      unfold kqL1
      exact trivial
    | exc c =>
      rw [e1] at h1
      obtain ⟨M', e2, g1⟩ := h1
      rw [e2]
      unfold kqL1
      exact ⟨M', rfl, g1⟩
    | ok w =>
      rw [e1] at h1
      obtain ⟨x, M1, e2, g1, r1⟩ := h1
      rw [e2]
      have h2 := sx_list hr B Pa O ρ M1 π (h.gr g1)
      unfold kqL1
      simp only [R.bind_ok]
      cases e3 : pvL ps π with
      | bad => exact trivial
      | exc c =>
        rw [e3] at h2
        obtain ⟨M', e4, g2⟩ := h2
        rw [e4]
        exact ⟨M', rfl, g1.trans g2⟩
      | ok ws =>
        rw [e3] at h2
        obtain ⟨vs, M2, e4, g2, r2⟩ := h2
        rw [e4]
        exact ⟨_, M2, rfl, g1.trans g2, .cons (r1.gr g2) (r2.low g1.len)⟩
def anyB (ws : List W) : Bool := ws.any fun w => isB w.fl
def anyT (ws : List W) : Bool := ws.any fun w => w.tn
/-- several values as a list's things -/
theorem RWl.re {B L : Nat} {Pa O : Nat → Prop} {M : Store} (c : Cx B Pa O L M) {vs : List Val} {ws : List W} (h : RWl B Pa O L M vs ws) : RE B Pa O (anyB ws) (anyT ws) M vs (ws.map W.t) := by
  have go : ∀ {vs : List Val} {ws : List W}, RWl B Pa O L M vs ws → ∀ (d tn : Bool), (anyB ws = true → d = true) → (anyT ws = true → tn = true) → RE B Pa O d tn M vs (ws.map W.t) := by
    intro vs ws h
    induction h with
    | nil => exact fun _ _ _ _ => .nil
    | @cons v w vs ws h r ih =>
      intro d tn hd ht
      have i := ih d tn (fun k => hd (by unfold anyB at *; rw [List.any_cons, k, Bool.or_true])) (fun k => ht (by unfold anyT at *; rw [List.any_cons, k, Bool.or_true]))
      refine Rql.cons ?_ i
      have tm : w.tn = true → tn = true := fun k => ht (by unfold anyT; rw [List.any_cons, k]; rfl)
      cases hb : isB w.fl with
      | false =>
        have f := h.free (fun n o => (c.bnd n o).2) c.low hb
        cases d with
        | false => exact f.map fun m c p e => ⟨e, p.mono tm⟩
        | true => exact f.map fun m c p e => ⟨e, p.2.mono tm⟩
      | true =>
        have : d = true := hd (by unfold anyB; rw [List.any_cons, hb]; rfl)
        subst this
        exact (h.live (fun n o => (c.bnd n o).1) c.low).map fun m c p e => ⟨e, p.mono tm⟩
  exact go h _ _ id id
def kqTup : PR (List W) → PR W
  | .ok ws => if ws.length ≤ szLine then .ok (mkT (anyB ws) (anyT ws) (ws.map W.t)) else .bad
  | .exc c => .exc c
  | .bad => .bad
def pTup (es : List PE) : PE := fun π => kqTup (pvL es π)
def kqLst : PR (List W) → PR W
  | .ok ws => if ws.length ≤ szLine then .ok (mkL (anyB ws) (anyT ws) (ws.map W.t)) else .bad
  | .exc c => .exc c
  | .bad => .bad
def pLst (es : List PE) : PE := fun π => kqLst (pvL es π)
theorem sx_tup {es : List E} {ps : List PE} (hs : SimL es ps) : SimE (eTup es) (pTup ps) := by
  refine ⟨?_⟩
  intro B Pa O ρ M π h
  have h1 := sx_list hs B Pa O ρ M π h
  unfold pTup eTup
  cases e1 : pvL ps π with
  | bad => exact trivial
  | exc c =>
    rw [e1] at h1
    obtain ⟨M', e2, g1⟩ := h1
    rw [e2]
    exact ⟨M', rfl, g1⟩
  | ok ws =>
    rw [e1] at h1
    obtain ⟨vs, M1, e2, g1, r1⟩ := h1
    rw [e2]
    unfold kqTup
    simp only [R.bind_ok]
    rw [r1.length]
    by_cases hz : ws.length ≤ szLine
    · rw [if_pos hz, if_pos hz]
      exact ⟨_, M1, rfl, g1, mkT_ok (r1.re (h.cx g1))⟩
    · rw [if_neg hz, if_neg hz]
      exact trivial
theorem sx_lst {es : List E} {ps : List PE} (hs : SimL es ps) : SimE (eLst es) (pLst ps) := by
  refine ⟨?_⟩
  intro B Pa O ρ M π h
  have h1 := sx_list hs B Pa O ρ M π h
  unfold pLst eLst
  cases e1 : pvL ps π with
  | bad => exact trivial
  | exc c =>
    rw [e1] at h1
    obtain ⟨M', e2, g1⟩ := h1
    rw [e2]
    exact ⟨M', rfl, g1⟩
  | ok ws =>
    rw [e1] at h1
    obtain ⟨vs, M1, e2, g1, r1⟩ := h1
    rw [e2]
    unfold kqLst
    simp only [R.bind_ok]
    rw [r1.length]
    by_cases hz : ws.length ≤ szLine
    · rw [if_pos hz, if_pos hz]
      exact ⟨_, _, rfl, g1.trans (Gr.one _ _), mkL_ok (h.cx g1) (r1.re (h.cx g1))⟩
    · rw [if_neg hz, if_neg hz]
      exact trivial
/-! calls -/
def RF (B : Nat) (Pa : Nat → Prop) (M : Store) (v : Val) (w : W) : Prop := match w.fl with
  | .fr => ∃ n xs ts, v = .ref n ∧ B ≤ n ∧ M[n]? = some (.lst xs) ∧ w.t = .lst ts ∧ Rql (fun m => m ≠ n ∧ Lv B Pa w.tn m) M xs ts
  | .dr => ∃ cs, Ow M v w.t cs ∧ cs.Nodup ∧ ∀ n ∈ cs, B ≤ n
  | .fz => Rq (Lv B Pa w.tn) M v w.t
  | _ => False
def RelF (F : Fn) (G : PF) : Prop := ∀ (Pa : Nat → Prop) (M : Store) (vs : List Val) (ts : List V), Rql Pa M vs ts → match G ts with
  | .ok w => ∃ v M', F vs M = .ok v M' ∧ Gr M M' ∧ RF M.length Pa M' v w
  | .exc c => ∃ M', F vs M = .exc c M' ∧ Gr M M'
  | .bad => True
structure SimF (F : Fn) (G : PF) : Prop where
  go : RelF F G
def callW (ws : List W) (w : W) : W := match w.tn with
  | false => w
  | true => if anyB ws = true then ⟨.bd, true, w.t⟩ else nW w.fl (anyT ws) w.t
def kqRes (ws : List W) : PR W → PR W
  | .ok w => .ok (callW ws w)
  | .exc c => .exc c
  | .bad => .bad
def kqCall (G : PF) : PR (List W) → PR W
  | .ok ws => kqRes ws (G (ws.map W.t))
  | .exc c => .exc c
  | .bad => .bad
def pCall (G : PF) (es : List PE) : PE := fun π => kqCall G (pvL es π)
theorem RF.call {B L : Nat} {Pa O : Nat → Prop} {M M' : Store} {v : Val} {w : W} {ws : List W} (c : Cx B Pa O L M) (g : Gr M M') (h : RF M.length (fun m => if anyB ws = true then Lv B Pa (anyT ws) m else Av O B Pa (anyT ws) m) M' v w) : RW B Pa O L M' v (callW ws w) := by
  obtain ⟨fl, tn, t⟩ := w
  have lo : ∀ m, M.length ≤ m → Av O B Pa false m := fun m hm => ⟨fun o => by have := (c.bnd m o).2; have := c.up; omega, .inl (by have := c.low; have := c.up; omega)⟩
  unfold callW
  cases tn with
  | false =>
    have k : ∀ m, Lv M.length (fun m => if anyB ws = true then Lv B Pa (anyT ws) m else Av O B Pa (anyT ws) m) false m → Av O B Pa false m := fun m p => by
      rcases p with p | ⟨p, _⟩
      · exact lo m p
      · cases p
    cases fl with
    | fr =>
      obtain ⟨n, xs, ts, rfl, a, b, d, r⟩ := h
      exact ⟨n, xs, ts, rfl, Nat.le_trans c.up a, b, d, r.map fun m c p e => ⟨e, p.1, k m p.2⟩⟩
    | dr =>
      obtain ⟨cs, a, b, d⟩ := h
      exact ⟨cs, a, b, fun n hn => ⟨Nat.le_trans c.up (d n hn), lo n (d n hn)⟩⟩
    | fz => exact Rq.map (fun m c p e => ⟨e, k m p⟩) h
    | _ => exact h.elim
  | true =>
    simp only []
    by_cases hb : anyB ws = true
    · rw [if_pos hb]
      have k : ∀ m, Lv M.length (fun m => if anyB ws = true then Lv B Pa (anyT ws) m else Av O B Pa (anyT ws) m) true m → Lv B Pa true m := fun m p => by
        rcases p with p | ⟨_, p⟩
        · exact .inl (by have := c.low; have := c.up; omega)
        · rw [if_pos hb] at p
          exact p.mono fun _ => rfl
      cases fl with
      | fr =>
        obtain ⟨n, xs, ts, rfl, a, b, d, r⟩ := h
        simp only at d
        subst d
        exact Rq.lst b (.inl (by have := c.low; have := c.up; omega)) (r.map fun m c p e => ⟨e, k m p.2⟩)
      | dr =>
        obtain ⟨cs, a, b, d⟩ := h
        exact Ow.rq a fun n hn => .inl (by have := d n hn; have := c.low; have := c.up; omega)
      | fz => exact Rq.map (fun m c p e => ⟨e, k m p⟩) h
      | _ => exact h.elim
    · rw [if_neg hb]
      have k : ∀ m, Lv M.length (fun m => if anyB ws = true then Lv B Pa (anyT ws) m else Av O B Pa (anyT ws) m) true m → Av O B Pa (anyT ws) m := fun m p => by
        rcases p with p | ⟨_, p⟩
        · exact (lo m p).mono fun h => by cases h
        · rw [if_neg hb] at p
          exact p
      refine RW.nW ?_
      cases fl with
      | fr =>
        obtain ⟨n, xs, ts, rfl, a, b, d, r⟩ := h
        exact ⟨n, xs, ts, rfl, Nat.le_trans c.up a, b, d, r.map fun m c p e => ⟨e, p.1, k m p.2⟩⟩
      | dr =>
        obtain ⟨cs, a, b, d⟩ := h
        exact ⟨cs, a, b, fun n hn => ⟨Nat.le_trans c.up (d n hn), lo n (d n hn)⟩⟩
      | fz => exact Rq.map (fun m c p e => ⟨e, k m p⟩) h
      | _ => exact h.elim
theorem sx_call {F : Fn} {G : PF} {es : List E} {ps : List PE} (hf : SimF F G) (hs : SimL es ps) : SimE (eCall F es) (pCall G ps) := by
  refine ⟨?_⟩
  intro B Pa O ρ M π h
  have h1 := sx_list hs B Pa O ρ M π h
  unfold pCall eCall
  cases e1 : pvL ps π with
  | bad => exact trivial
  | exc c =>
    rw [e1] at h1
    obtain ⟨M', e2, g1⟩ := h1
    rw [e2]
    exact ⟨M', rfl, g1⟩
  | ok ws =>
    rw [e1] at h1
    obtain ⟨vs, M1, e2, g1, r1⟩ := h1
    rw [e2]
    unfold kqCall
    simp only [R.bind_ok]
    have re := r1.re (h.cx g1)
    have q := hf.go (fun m => if anyB ws = true then Lv B Pa (anyT ws) m else Av O B Pa (anyT ws) m) M1 vs (ws.map W.t) (by
      unfold RE at re
      by_cases hb : anyB ws = true
      · rw [if_pos hb] at re
        exact re.map fun m c p e => ⟨e, by rw [if_pos hb]; exact p⟩
      · rw [if_neg hb] at re
        exact re.map fun m c p e => ⟨e, by rw [if_neg hb]; exact p⟩)
    cases e3 : G (ws.map W.t) with
    | bad => exact trivial
    | exc c =>
      rw [e3] at q
      obtain ⟨M', e4, g2⟩ := q
      rw [e4]
      exact ⟨M', rfl, g1.trans g2⟩
    | ok w =>
      rw [e3] at q
      obtain ⟨v, M2, e4, g2, r2⟩ := q
      rw [e4]
      exact ⟨v, M2, rfl, g1.trans g2, RF.call (h.cx g1) g2 r2⟩
/-! parts -/
def kqPt : PR W → PR (Option Int)
  | .ok w => match w.t with
    | .int i => .ok (some i)
    | _ => .bad
  | .exc c => .exc c
  | .bad => .bad
def pPart : Option PE → PEnv → PR (Option Int)
  | none, _ => .ok none
  | some e, π => kqPt (e π)
def SimOE : Option E → Option PE → Prop
  | none, none => True
  | some e, some p => SimE e p
  | _, _ => False
theorem soe_no : SimOE none none := trivial
theorem soe_so {e : E} {p : PE} (h : SimE e p) : SimOE (some e) (some p) := h
theorem sx_part {e : Option E} {p : Option PE} (h : SimOE e p) {B : Nat} {Pa O : Nat → Prop} {ρ : Env} {M : Store} {π : PEnv} (hs : PSt B Pa O ρ M π) : match pPart p π with
    | .ok i => ∃ M', ePart e ρ M = .ok i M' ∧ Gr M M'
    | .exc c => ∃ M', ePart e ρ M = .exc c M' ∧ Gr M M'
    | .bad => True := by
  cases e with
  | none =>
    cases p with
    | none => exact ⟨M, rfl, Gr.refl M⟩
    | some p => exact h.elim
  | some e =>
    cases p with
    | none => exact h.elim
    | some p =>
      have h0 : SimE e p := h
      have h1 := h0 B Pa O ρ M π hs
      show match kqPt (p π) with
        | .ok i => ∃ M', ((e ρ M).bind fun v M1 => match v with
          | .int i => R.ok (some i) M1
          | _ => .bad) = .ok i M' ∧ Gr M M'
        | .exc c => ∃ M', ((e ρ M).bind fun v M1 => match v with
          | .int i => R.ok (some i) M1
          | _ => .bad) = .exc c M' ∧ Gr M M'
        | .bad => True
      cases e1 : p π with
      | bad => exact trivial
      | exc c =>
        rw [e1] at h1
        obtain ⟨M', e2, g1⟩ := h1
        rw [e2]
        exact ⟨M', rfl, g1⟩
      | ok w =>
        rw [e1] at h1
        obtain ⟨v, M1, e2, g1, r1⟩ := h1
        rw [e2]
        have k : kqPt (.ok w) = match w.t with
          | .int i => .ok (some i)
          | _ => .bad := rfl
        rw [k]
        cases e3 : w.t with
        | int i =>
          rw [r1.int e3]
          exact ⟨M1, rfl, g1⟩
        | _ => exact trivial
def kqSl3 (w : W) (l : Option Int) : PR (Option Int) → PR W
  | .ok h => qCut w l h
  | .exc c => .exc c
  | .bad => .bad
def kqSl2 (w : W) (hi : Option PE) (π : PEnv) : PR (Option Int) → PR W
  | .ok l => kqSl3 w l (pPart hi π)
  | .exc c => .exc c
  | .bad => .bad
def kqSl1 (lo hi : Option PE) (π : PEnv) : PR W → PR W
  | .ok w => kqSl2 w hi π (pPart lo π)
  | .exc c => .exc c
  | .bad => .bad
def pSl (e : PE) (lo hi : Option PE) : PE := fun π => kqSl1 lo hi π (e π)
theorem qCut_no (w : W) (l h : Option Int) (c : String) : qCut w l h ≠ .exc c := by
  unfold qCut
  repeat' split
  all_goals exact fun h => by cases h
theorem sx_sl {e : E} {lo hi : Option E} {p : PE} {lo' hi' : Option PE} (he : SimE e p) (hl : SimOE lo lo') (hh : SimOE hi hi') : SimE (eSl e lo hi) (pSl p lo' hi') := by
  refine ⟨?_⟩
  intro B Pa O ρ M π h
  have h1 := he B Pa O ρ M π h
  unfold pSl eSl
  cases e1 : p π with
  | bad => exact trivial
  | exc c =>
    rw [e1] at h1
    obtain ⟨M', e2, g1⟩ := h1
    rw [e2]
    exact ⟨M', rfl, g1⟩
  | ok w =>
    rw [e1] at h1
    obtain ⟨x, M1, e2, g1, r1⟩ := h1
    rw [e2]
    have h2 := sx_part hl (h.gr g1)
    unfold kqSl1
    simp only [R.bind_ok]
    cases e3 : pPart lo' π with
    | bad => exact trivial
    | exc c =>
      rw [e3] at h2
      obtain ⟨M', e4, g2⟩ := h2
      rw [e4]
      exact ⟨M', rfl, g1.trans g2⟩
    | ok l =>
      rw [e3] at h2
      obtain ⟨M2, e4, g2⟩ := h2
      rw [e4]
      have h3 := sx_part hh (h.gr (g1.trans g2))
      unfold kqSl2
      simp only [R.bind_ok]
      cases e5 : pPart hi' π with
      | bad => exact trivial
      | exc c =>
        rw [e5] at h3
        obtain ⟨M', e6, g3⟩ := h3
        rw [e6]
        exact ⟨M', rfl, (g1.trans g2).trans g3⟩
      | ok u =>
        rw [e5] at h3
        obtain ⟨M3, e6, g3⟩ := h3
        rw [e6]
        have G := (g1.trans g2).trans g3
        exact RelE.op G (qCut_no w l u) fun u hu => cut_ok (h.cx G) (r1.gr (g2.trans g3)) hu
end Mn
end
section
set_option Elab.async false
set_option autoImplicit false
set_option maxRecDepth 100000
set_option linter.all false
/-! Targets, walks, comprehensions over trees. -/
namespace Mn
/-! ### names of one's own change -/
theorem PSt.kill {B : Nat} {Pa O : Nat → Prop} {ρ : Env} {M : Store} {π : PEnv} (h : PSt B Pa O ρ M π) (i : Nat) : PSt B Pa O ρ M (π.set i none) := by
  have k : ∀ {j : Nat} {w : W}, (π.set i none)[j]? = some (some w) → π[j]? = some (some w) := fun {j w} e => by
    rw [List.getElem?_set] at e
    split at e
    · split at e <;> cases e
    · exact e
  exact ⟨by rw [List.length_set]; exact h.len, h.low, h.bnd, fun j w e f => h.own j w (k e) f, fun a b w w' v v' cs cs' n e1 e2 r1 r2 o1 o2 m1 m2 => h.inj a b w w' v v' cs cs' n (k e1) (k e2) r1 r2 o1 o2 m1 m2, fun j w e => h.val j w (k e), fun j w e => h.nb j w (k e)⟩
theorem PSt.wipe1 {B : Nat} {Pa O : Nat → Prop} {ρ : Env} {M : Store} {π : PEnv} (h : PSt B Pa O ρ M π) (i : Nat) : PSt B Pa O (ρ.set i none) M (π.set i none) := by
  have k : ∀ {j : Nat} {w : W}, (π.set i none)[j]? = some (some w) → π[j]? = some (some w) ∧ (ρ.set i none)[j]? = ρ[j]? := fun {j w} e => by
    rw [List.getElem?_set] at e
    split at e
    · split at e <;> cases e
    · rename_i n
      exact ⟨e, List.getElem?_set_ne n⟩
  refine ⟨by rw [List.length_set, List.length_set]; exact h.len, h.low, h.bnd, fun j w e f => ?_, fun a b w w' v v' cs cs' n e1 e2 r1 r2 o1 o2 m1 m2 => ?_, fun j w e => ?_, fun j w e => h.nb j w (k e).1⟩
  · rw [(k e).2]
    exact h.own j w (k e).1 f
  · rw [(k e1).2] at r1
    rw [(k e2).2] at r2
    exact h.inj a b w w' v v' cs cs' n (k e1).1 (k e2).1 r1 r2 o1 o2 m1 m2
  · rw [(k e).2]
    exact h.val j w (k e).1
/-- a value that is not one's own goes to a name -/
theorem PSt.put {B : Nat} {Pa O : Nat → Prop} {ρ : Env} {M : Store} {π : PEnv} (h : PSt B Pa O ρ M π) (i : Nat) {v : Val} {w : W} (hf : w.fl = .fz) (hv : RW B Pa O B M v w) : PSt B Pa O (ρ.set i (some v)) M (π.set i (some w)) := by
  have k : ∀ {j : Nat} {u : W}, (π.set i (some w))[j]? = some (some u) → (j = i ∧ u = w ∧ (ρ.set i (some v))[j]? = some (some v)) ∨ (π[j]? = some (some u) ∧ (ρ.set i (some v))[j]? = ρ[j]?) := fun {j u} e => by
    rw [List.getElem?_set] at e
    split at e
    · rename_i n
      subst n
      split at e
      · cases e
        exact .inl ⟨rfl, rfl, List.getElem?_set_self (by rw [h.len]; assumption)⟩
      · cases e
    · rename_i n
      exact .inr ⟨e, List.getElem?_set_ne n⟩
  refine ⟨by rw [List.length_set, List.length_set]; exact h.len, h.low, h.bnd, fun j u e f => ?_, fun a b u u' x x' cs cs' n e1 e2 r1 r2 o1 o2 m1 m2 => ?_, fun j u e => ?_, fun j u e => ?_⟩
  · rcases k e with ⟨_, rfl, _⟩ | ⟨a, b⟩
    · rw [hf] at f
      cases f
    · rw [b]
      exact h.own j u a f
  · rcases k e1 with ⟨_, rfl, _⟩ | ⟨a1, b1⟩
    · rw [hf] at o1
      exact o1.elim
    · rcases k e2 with ⟨_, rfl, _⟩ | ⟨a2, b2⟩
      · rw [hf] at o2
        exact o2.elim
      · rw [b1] at r1
        rw [b2] at r2
        exact h.inj a b u u' x x' cs cs' n a1 a2 r1 r2 o1 o2 m1 m2
  · rcases k e with ⟨_, rfl, c⟩ | ⟨a, b⟩
    · refine ⟨v, c, ?_⟩
      unfold RV
      rw [hf]
      exact hv
    · rw [b]
      exact h.val j u a
  · rcases k e with ⟨_, rfl, _⟩ | ⟨a, _⟩
    · rw [hf]
      rfl
    · exact h.nb j u a
/-! ### targets of names -/
abbrev PT := W → PEnv → PRS
def ptName (i : Nat) : PT := fun w π => match w.fl with
  | .fz => .nx (π.set i (some w))
  | _ => .bad
def ptAll : List PT → List W → PEnv → PRS
  | [], [], π => .nx π
  | t :: ts, w :: ws, π => match t w π with
    | .nx π1 => ptAll ts ws π1
    | _ => .bad
  | _, _, _ => .bad
def ptTup (ts : List PT) : PT := fun w π => match qSeq w with
  | some xs => if xs.length = ts.length then ptAll ts (xs.map (elW (isD w.fl) w.tn)) π else .bad
  | none => .bad
def RelT (B : Nat) (Pa O : Nat → Prop) (M : Store) (r : RS) (p : PRS) : Prop := match p with
  | .nx π' => ∃ ρ', r = .nx ρ' M ∧ PSt B Pa O ρ' M π'
  | .bad => True
  | _ => False
def SimT (t : Tg) (p : PT) : Prop := ∀ (B L : Nat) (Pa O : Nat → Prop) (ρ : Env) (M : Store) (π : PEnv) (v : Val) (w : W), PSt B Pa O ρ M π → RW B Pa O L M v w → RelT B Pa O M (t v ρ M) (p w π)
inductive SimTL : List Tg → List PT → Prop
  | nil : SimTL [] []
  | cons {t : Tg} {p : PT} {ts : List Tg} {ps : List PT} : SimT t p → SimTL ts ps → SimTL (t :: ts) (p :: ps)
theorem SimTL.length : ∀ {ts : List Tg} {ps : List PT}, SimTL ts ps → ts.length = ps.length
  | _, _, .nil => rfl
  | _, _, .cons _ r => congrArg Nat.succ (SimTL.length r)
theorem RW.fz {B L L' : Nat} {Pa O : Nat → Prop} {M : Store} {v : Val} {w : W} (h : RW B Pa O L M v w) (e : w.fl = .fz) : RW B Pa O L' M v w := by
  unfold RW at *
  rw [e] at h ⊢
  exact h
theorem st_name (i : Nat) : SimT (tName i) (ptName i) := by
  intro B L Pa O ρ M π v w h r
  unfold ptName
  cases e : w.fl with
  | fz => exact ⟨_, rfl, h.put i e (r.fz e)⟩
  | _ => exact trivial
theorem st_all : ∀ {ts : List Tg} {ps : List PT}, SimTL ts ps → ∀ (B L : Nat) (Pa O : Nat → Prop) (ρ : Env) (M : Store) (π : PEnv) (vs : List Val) (ws : List W), PSt B Pa O ρ M π → RWl B Pa O L M vs ws → RelT B Pa O M (tAll ts vs ρ M) (ptAll ps ws π)
  | _, _, .nil, B, L, Pa, O, ρ, M, π, vs, ws, h, r => by
    cases r with
    | nil => exact ⟨ρ, rfl, h⟩
    | cons _ _ => exact trivial
  | _, _, .cons (t := t) (p := p) (ts := ts) (ps := ps) a b, B, L, Pa, O, ρ, M, π, vs, ws, h, r => by
    cases r with
    | nil => exact trivial
    | @cons v w vs ws r1 r2 =>
      have h1 := a B L Pa O ρ M π v w h r1
      unfold ptAll
      cases e : p w π with
      | nx π1 =>
        rw [e] at h1
        obtain ⟨ρ1, e1, s1⟩ := h1
        have h2 := st_all b B L Pa O ρ1 M π1 vs ws s1 r2
        simp only [tAll, e1, RS.andThen]
        exact h2
      | bad => exact trivial
      | _ =>
        rw [e] at h1
        exact h1.elim
theorem RE.rwl {B L : Nat} {Pa O : Nat → Prop} {M : Store} {ds tn : Bool} {xs : List Val} {ts : List V} (h : RE B Pa O ds tn M xs ts) : RWl B Pa O L M xs (ts.map (Mn.elW ds tn)) := by
  unfold RE at h
  induction ts generalizing xs with
  | nil =>
    cases h
    exact .nil
  | cons t ts ih =>
    cases h with
    | cons a b => exact .cons (RE.elW a) (ih b)
theorem st_tup {ts : List Tg} {ps : List PT} (h : SimTL ts ps) : SimT (tTup ts) (ptTup ps) := by
  intro B L Pa O ρ M π v w s r
  unfold ptTup tTup
  cases e : qSeq w with
  | none => exact trivial
  | some us =>
    obtain ⟨xs, e1, r1⟩ := r.seq e
    rw [e1]
    simp only []
    rw [Rql.length r1, h.length]
    by_cases hl : us.length = ps.length
    · rw [if_pos hl, if_pos hl]
      exact st_all h B L Pa O ρ M π xs _ s r1.rwl
    · rw [if_neg hl, if_neg hl]
      exact trivial
/-! ### walks -/
structure Ws where
  ws : List W
  st : Bool
abbrev PSrc := PEnv → PR Ws
structure Wk (B : Nat) (Pa O : Nat → Prop) (M : Store) (it : Itr) (s : Ws) : Prop where
  cnt : it.n = s.ws.length
  go : ∀ (O' : Nat → Prop) (M' : Store), (if s.st = true then Ext O M O' M' else O' = O ∧ Gr M M') → (∀ (i : Nat) (w : W), s.ws[i]? = some w → ∃ v, it.nxt i M' = some v ∧ RW B Pa O' B M' v w) ∧ it.fin M' = true
def RelI (B : Nat) (Pa O : Nat → Prop) (M : Store) (r : R Itr) (p : PR Ws) : Prop := match p with
  | .ok s => ∃ it M', r = .ok it M' ∧ Gr M M' ∧ Wk B Pa O M' it s
  | .exc c => ∃ M', r = .exc c M' ∧ Gr M M'
  | .bad => True
structure SimI (i : Src) (p : PSrc) : Prop where
  go : ∀ (B : Nat) (Pa O : Nat → Prop) (ρ : Env) (M : Store) (π : PEnv), PSt B Pa O ρ M π → RelI B Pa O M (i ρ M) (p π)
instance {i : Src} {p : PSrc} : CoeFun (SimI i p) fun _ => ∀ (B : Nat) (Pa O : Nat → Prop) (ρ : Env) (M : Store) (π : PEnv), PSt B Pa O ρ M π → RelI B Pa O M (i ρ M) (p π) := ⟨SimI.go⟩
/-- what is at a place goes on standing -/
theorem Rq.ext {B : Nat} {Pa O O' : Nat → Prop} {M M' : Store} {tn : Bool} {v : Val} {t : V} (x : Ext O M O' M') (h : Rq (Av O B Pa tn) M v t) : Rq (Av O' B Pa tn) M' v t :=
  h.map fun m c p e => let ⟨a, b⟩ := x.2 m (get_lt e) p.1; ⟨a.trans e, b, p.2⟩
theorem Rql.ext {B : Nat} {Pa O O' : Nat → Prop} {M M' : Store} {tn : Bool} {v : List Val} {t : List V} (x : Ext O M O' M') (h : Rql (Av O B Pa tn) M v t) : Rql (Av O' B Pa tn) M' v t :=
  h.map fun m c p e => let ⟨a, b⟩ := x.2 m (get_lt e) p.1; ⟨a.trans e, b, p.2⟩
/-- a sequence's things, now and later -/
theorem RW.later {B L : Nat} {Pa O : Nat → Prop} {M : Store} {v : Val} {w : W} (hb : ∀ n, O n → n < L) (h : RW B Pa O L M v w) {ts : List V} (e : qSeq w = some ts) (O' : Nat → Prop) (M' : Store) (x : if (!isB w.fl) = true then Ext O M O' M' else O' = O ∧ Gr M M') :
    ∃ xs, seqOf M v = some xs ∧ seqOf M' v = some xs ∧ xs.length = ts.length ∧ RE B Pa O' (isD w.fl) w.tn M' xs ts := by
  obtain ⟨fl, tn, t⟩ := w
  obtain ⟨xs, h1, h2⟩ := h.seq e
  refine ⟨xs, h1, ?_, Rql.length h2, ?_⟩
  · cases fl with
    | fr =>
      obtain ⟨n, ys, us, rfl, b, c, d, f⟩ := h
      have := (x.2 n (get_lt c) fun o => by have := hb n o; omega).1
      have q : lstAt M n = some xs := h1
      show lstAt M' n = some xs
      unfold lstAt at *
      rw [this]
      exact q
    | dr =>
      obtain ⟨cs, a, b, c⟩ := h
      cases v with
      | ref n =>
        have hn : n ∈ cs ∧ n < M.length := by
          cases a with
          | lst q _ => exact ⟨List.mem_cons_self, get_lt q⟩
          | obj q _ => exact ⟨List.mem_cons_self, get_lt q⟩
          | dic q _ _ => exact ⟨List.mem_cons_self, get_lt q⟩
        have := (x.2 n hn.2 (c n hn.1).2.1).1
        have q : lstAt M n = some xs := h1
        show lstAt M' n = some xs
        unfold lstAt at *
        rw [this]
        exact q
      | tup ys => exact h1
      | _ => cases h1
    | fz =>
      cases v with
      | ref n =>
        have q : lstAt M n = some xs := h1
        show lstAt M' n = some xs
        have k : ∀ c, M[n]? = some c → Av O B Pa tn n → M'[n]? = M[n]? := fun c e p => (x.2 n (get_lt e) p.1).1
        unfold RW at h
        simp only at h
        cases h with
        | lst a p _ =>
          unfold lstAt at *
          rw [k _ a p]
          exact q
        | ro a p _ =>
          unfold lstAt at *
          rw [k _ a p]
          exact q
        | obj a p _ => cases e
        | dic a p _ _ => cases e
      | tup ys => exact h1
      | _ => cases h1
    | bo => exact x.2.seq h1
    | bd => exact x.2.seq h1
  · cases fl with
    | fr => exact Rql.ext (O := O) (M := M) x h2
    | dr => exact Rql.ext (O := O) (M := M) x h2
    | fz => exact Rql.ext (O := O) (M := M) x h2
    | bo =>
      obtain ⟨rfl, g⟩ := x
      exact RE.gr g h2
    | bd =>
      obtain ⟨rfl, g⟩ := x
      exact RE.gr g h2
def kqSeq : PR W → PR Ws
  | .ok w => match qSeq w with
    | some xs => .ok ⟨xs.map (elW (isD w.fl) w.tn), !isB w.fl⟩
    | none => .bad
  | .exc c => .exc c
  | .bad => .bad
def pList (e : PE) : PSrc := fun π => kqSeq (e π)
theorem RE.at {B L : Nat} {Pa O : Nat → Prop} {M : Store} {ds tn : Bool} {xs : List Val} {ts : List V} (h : RE B Pa O ds tn M xs ts) {i : Nat} {w : W} (e : (ts.map (Mn.elW ds tn))[i]? = some w) : ∃ v, xs[i]? = some v ∧ RW B Pa O L M v w := by
  rw [List.getElem?_map] at e
  obtain ⟨t, e1, rfl⟩ := Option.map_eq_some_iff.mp e
  exact h.get e1
theorem wk_seq {B L : Nat} {Pa O : Nat → Prop} {M : Store} {v : Val} {w : W} (hb : ∀ n, O n → n < L) (h : RW B Pa O L M v w) {ts : List V} (e : qSeq w = some ts) {xs : List Val} (hx : seqOf M v = some xs) : Wk B Pa O M (itSeq v xs.length) ⟨ts.map (elW (isD w.fl) w.tn), !isB w.fl⟩ := by
  have hl : xs.length = ts.length := by
    obtain ⟨ys, h1, h2⟩ := h.seq e
    rw [hx] at h1
    cases h1
    exact Rql.length h2
  refine ⟨by rw [List.length_map]; exact hl, fun O' M' x => ?_⟩
  obtain ⟨ys, a, b, c, d⟩ := h.later hb e O' M' x
  rw [hx] at a
  cases a
  refine ⟨fun i w hw => ?_, ?_⟩
  · obtain ⟨u, e1, r⟩ := d.at (L := B) hw
    refine ⟨u, ?_, r⟩
    show (seqOf M' v).bind _ = _
    rw [b]
    exact e1
  · show (match seqOf M' v with | some ys => decide (ys.length ≤ xs.length) | none => false) = true
    rw [b]
    exact decide_eq_true (Nat.le_refl _)
theorem si_list {e : E} {p : PE} (he : SimE e p) : SimI (iList e) (pList p) := by
  refine ⟨?_⟩
  intro B Pa O ρ M π h
  have h1 := he B Pa O ρ M π h
  unfold pList iList
  cases e1 : p π with
  | bad => exact trivial
  | exc c =>
    rw [e1] at h1
    obtain ⟨M', e2, g1⟩ := h1
    rw [e2]
    exact ⟨M', rfl, g1⟩
  | ok w =>
    rw [e1] at h1
    obtain ⟨x, M1, e2, g1, r1⟩ := h1
    rw [e2]
    unfold kqSeq
    simp only [R.bind_ok]
    cases e3 : qSeq w with
    | none => exact trivial
    | some ts =>
      obtain ⟨xs, hx, rx⟩ := r1.seq e3
      rw [hx]
      exact ⟨_, M1, rfl, g1, wk_seq (fun n o => (h.bnd n o).2) r1 e3 hx⟩
def kqRev : PR W → PR Ws
  | .ok w => match qSeq w with
    | some xs => .ok ⟨(xs.map (elW (isD w.fl) w.tn)).reverse, !isB w.fl⟩
    | none => .bad
  | .exc c => .exc c
  | .bad => .bad
def pRev (e : PE) : PSrc := fun π => kqRev (e π)
theorem si_rev {e : E} {p : PE} (he : SimE e p) : SimI (iRev e) (pRev p) := by
  refine ⟨?_⟩
  intro B Pa O ρ M π h
  have h1 := he B Pa O ρ M π h
  unfold pRev iRev
  cases e1 : p π with
  | bad => exact trivial
  | exc c =>
    rw [e1] at h1
    obtain ⟨M', e2, g1⟩ := h1
    rw [e2]
    exact ⟨M', rfl, g1⟩
  | ok w =>
    rw [e1] at h1
    obtain ⟨x, M1, e2, g1, r1⟩ := h1
    rw [e2]
    unfold kqRev
    simp only [R.bind_ok]
    cases e3 : qSeq w with
    | none => exact trivial
    | some ts =>
      obtain ⟨xs, hx, rx⟩ := r1.seq e3
      rw [hx]
      have hl := Rql.length rx
      refine ⟨_, M1, rfl, g1, by rw [List.length_reverse, List.length_map]; exact hl, fun O' M' x => ?_⟩
      obtain ⟨ys, a, b, c, d⟩ := r1.later (fun n o => (h.bnd n o).2) e3 O' M' x
      rw [hx] at a
      cases a
      refine ⟨fun i w' hw => ?_, rfl⟩
      have hi := (List.getElem?_eq_some_iff.mp hw).1
      rw [List.length_reverse, List.length_map] at hi
      rw [List.getElem?_reverse (by rw [List.length_map]; exact hi), List.length_map] at hw
      obtain ⟨u, e1, r⟩ := d.at (L := B) hw
      refine ⟨u, ?_, r⟩
      show (seqOf M' _).bind _ = _
      rw [b]
      show xs[xs.length - 1 - i]? = _
      rw [hl]
      exact e1
def enumW (ds tn : Bool) : Nat → List V → List W
  | _, [] => []
  | i, x :: xs => mkT ds tn [.int i, x] :: enumW ds tn (i + 1) xs
theorem enumW_len (ds tn : Bool) : ∀ (k : Nat) (xs : List V), (enumW ds tn k xs).length = xs.length
  | _, [] => rfl
  | k, _ :: xs => congrArg Nat.succ (enumW_len ds tn (k + 1) xs)
theorem enumW_get (ds tn : Bool) : ∀ (k : Nat) (xs : List V) (i : Nat), (enumW ds tn k xs)[i]? = xs[i]?.map fun x => mkT ds tn [.int ((k + i : Nat) : Int), x]
  | _, [], i => by simp [enumW]
  | k, x :: xs, 0 => by simp [enumW]
  | k, x :: xs, i + 1 => by
    unfold enumW
    rw [List.getElem?_cons_succ, List.getElem?_cons_succ, enumW_get ds tn (k + 1) xs i]
    congr 1
    funext x
    rw [show k + 1 + i = k + (i + 1) by omega]
def kqEnum : PR W → PR Ws
  | .ok w => match qLs w with
    | some xs => .ok ⟨enumW (isD w.fl) w.tn 0 xs, !isB w.fl⟩
    | none => .bad
  | .exc c => .exc c
  | .bad => .bad
def pEnum (e : PE) : PSrc := fun π => kqEnum (e π)
theorem qLs_seq {w : W} {ts : List V} (h : qLs w = some ts) : qSeq w = some ts := by
  unfold qLs at h
  unfold qSeq
  split at h <;> simp_all
theorem qLs_ref {B L : Nat} {Pa O : Nat → Prop} {M : Store} {v : Val} {w : W} (h : RW B Pa O L M v w) {ts : List V} (e : qLs w = some ts) : ∃ n, v = .ref n := by
  have a := h.any
  unfold qLs at e
  split at e
  · rename_i q
    rw [q] at a
    cases a
    exact ⟨_, rfl⟩
  · rename_i q
    rw [q] at a
    cases a
    exact ⟨_, rfl⟩
  · cases e
theorem RE.two {B L : Nat} {Pa O : Nat → Prop} {M : Store} {ds tn : Bool} {xs : List Val} {ts : List V} (h : RE B Pa O ds tn M xs ts) : RW B Pa O L M (.tup xs) (mkT ds tn ts) := mkT_ok h
theorem si_enum {e : E} {p : PE} (he : SimE e p) : SimI (iEnum e) (pEnum p) := by
  refine ⟨?_⟩
  intro B Pa O ρ M π h
  have h1 := he B Pa O ρ M π h
  unfold pEnum iEnum
  cases e1 : p π with
  | bad => exact trivial
  | exc c =>
    rw [e1] at h1
    obtain ⟨M', e2, g1⟩ := h1
    rw [e2]
    exact ⟨M', rfl, g1⟩
  | ok w =>
    rw [e1] at h1
    obtain ⟨x, M1, e2, g1, r1⟩ := h1
    rw [e2]
    unfold kqEnum
    simp only [R.bind_ok]
    cases e3 : qLs w with
    | none => exact trivial
    | some ts =>
      obtain ⟨n, rfl⟩ := qLs_ref r1 e3
      obtain ⟨xs, hx, rx⟩ := r1.seq (qLs_seq e3)
      have hx2 : lstAt M1 n = some xs := hx
      simp only [hx2]
      have hl := Rql.length rx
      refine ⟨_, M1, rfl, g1, by rw [enumW_len]; exact hl, fun O' M' x => ?_⟩
      obtain ⟨ys, a, b, c, d⟩ := r1.later (fun n o => (h.bnd n o).2) (qLs_seq e3) O' M' x
      rw [hx] at a
      cases a
      have b2 : lstAt M' n = some xs := b
      refine ⟨fun i w' hw => ?_, ?_⟩
      · rw [enumW_get] at hw
        obtain ⟨t, ht, rfl⟩ := Option.map_eq_some_iff.mp hw
        obtain ⟨u, e1, r⟩ := Rql.get d ht
        refine ⟨.tup [.int i, u], ?_, mkT_ok (.cons (by rw [Nat.zero_add]; exact .int _) (.cons r .nil))⟩
        show (lstAt M' n).bind _ = _
        rw [b2]
        show xs[i]?.map _ = _
        rw [e1]
        rfl
      · show (match lstAt M' n with | some ys => decide (ys.length ≤ xs.length) | none => false) = true
        rw [b2]
        exact decide_eq_true (Nat.le_refl _)
def zipW (ds tn : Bool) : List V → List V → List W
  | x :: xs, y :: ys => mkT ds tn [x, y] :: zipW ds tn xs ys
  | _, _ => []
theorem zipW_len (ds tn : Bool) : ∀ (xs ys : List V), (zipW ds tn xs ys).length = min xs.length ys.length
  | [], ys => by simp [zipW]
  | _ :: _, [] => by simp [zipW]
  | _ :: xs, _ :: ys => by
    unfold zipW
    rw [List.length_cons, zipW_len ds tn xs ys, List.length_cons, List.length_cons]
    omega
theorem zipW_get (ds tn : Bool) : ∀ (xs ys : List V) (i : Nat) (w : W), (zipW ds tn xs ys)[i]? = some w → ∃ x y, xs[i]? = some x ∧ ys[i]? = some y ∧ w = mkT ds tn [x, y]
  | [], ys, i, w, h => by simp [zipW] at h
  | _ :: _, [], i, w, h => by simp [zipW] at h
  | x :: xs, y :: ys, 0, w, h => by
    unfold zipW at h
    cases h
    exact ⟨x, y, rfl, rfl, rfl⟩
  | x :: xs, y :: ys, i + 1, w, h => by
    unfold zipW at h
    exact zipW_get ds tn xs ys i w h
def sameV : V → V → Bool
  | .lst _, .lst _ => true
  | .lst _, .ro _ => true
  | .ro _, .lst _ => true
  | .ro _, .ro _ => true
  | .tup _, .tup _ => true
  | _, _ => false
def zipOf (w w' : W) : PR Ws := match qSeq w, qSeq w' with
  | some xs, some ys => if sameV w.t w'.t = true then .ok ⟨zipW (isD w.fl || isD w'.fl) (w.tn || w'.tn) xs ys, !isB w.fl && !isB w'.fl⟩ else .bad
  | _, _ => .bad
def kqZip2 (w : W) : PR W → PR Ws
  | .ok w' => zipOf w w'
  | .exc c => .exc c
  | .bad => .bad
def kqZip1 (b : PE) (π : PEnv) : PR W → PR Ws
  | .ok w => kqZip2 w (b π)
  | .exc c => .exc c
  | .bad => .bad
def pZip (a b : PE) : PSrc := fun π => kqZip1 b π (a π)
theorem same_ok {P Q : Nat → Prop} {M : Store} {x y : Val} {a b : V} (h : Rq P M x a) (h' : Rq Q M y b) (k : sameV a b = true) : sameKind x y = true := by
  cases h <;> cases h' <;> first | rfl | cases k
theorem si_zip {a b : E} {p q : PE} (ha : SimE a p) (hb : SimE b q) : SimI (iZip a b) (pZip p q) := by
  refine ⟨?_⟩
  intro B Pa O ρ M π h
  have h1 := ha B Pa O ρ M π h
  unfold pZip iZip
  cases e1 : p π with
  | bad => exact trivial
  | exc c =>
    rw [e1] at h1
    obtain ⟨M', e2, g1⟩ := h1
    rw [e2]
    exact ⟨M', rfl, g1⟩
  | ok w =>
    rw [e1] at h1
    obtain ⟨x, M1, e2, g1, r1⟩ := h1
    rw [e2]
    have h2 := hb B Pa O ρ M1 π (h.gr g1)
    unfold kqZip1
    simp only [R.bind_ok]
    cases e3 : q π with
    | bad => exact trivial
    | exc c =>
      rw [e3] at h2
      obtain ⟨M', e4, g2⟩ := h2
      rw [e4]
      exact ⟨M', rfl, g1.trans g2⟩
    | ok w' =>
      rw [e3] at h2
      obtain ⟨y, M2, e4, g2, r2⟩ := h2
      rw [e4]
      unfold kqZip2 zipOf
      simp only [R.bind_ok]
      cases e5 : qSeq w with
      | none => exact trivial
      | some ts =>
        cases e6 : qSeq w' with
        | none => exact trivial
        | some us =>
          simp only []
          by_cases hk : sameV w.t w'.t = true
          · rw [if_pos hk]
            have r1 := r1.gr g2
            have r2 := r2.low g1.len
            obtain ⟨xs, hx, rx⟩ := r1.seq e5
            obtain ⟨ys, hy, ry⟩ := r2.seq e6
            have lx := Rql.length rx
            have ly := Rql.length ry
            rw [if_pos (same_ok r1.any r2.any hk), hx, hy]
            refine ⟨_, M2, rfl, g1.trans g2, by rw [zipW_len, ← lx, ← ly]; rfl, fun O' M' x => ?_⟩
            have x1 : if (!isB w.fl) = true then Ext O M2 O' M' else O' = O ∧ Gr M2 M' := by
              cases e1 : isB w.fl <;> cases e2 : isB w'.fl <;> simp only [e1, e2] at x ⊢ <;> first | exact x | (obtain ⟨rfl, g⟩ := x; first | exact ⟨rfl, g⟩ | exact Ext.gr g)
            have x2 : if (!isB w'.fl) = true then Ext O M2 O' M' else O' = O ∧ Gr M2 M' := by
              cases e1 : isB w.fl <;> cases e2 : isB w'.fl <;> simp only [e1, e2] at x ⊢ <;> first | exact x | (obtain ⟨rfl, g⟩ := x; first | exact ⟨rfl, g⟩ | exact Ext.gr g)
            obtain ⟨xs2, a1, b1, c1, d1⟩ := r1.later (fun n o => (h.bnd n o).2) e5 O' M' x1
            obtain ⟨ys2, a2, b2, c2, d2⟩ := r2.later (fun n o => (h.bnd n o).2) e6 O' M' x2
            rw [hx] at a1
            cases a1
            rw [hy] at a2
            cases a2
            refine ⟨fun i w' hw => ?_, ?_⟩
            · obtain ⟨t, u, ht, hu, rfl⟩ := zipW_get _ _ _ _ _ _ hw
              obtain ⟨v1, f1, q1⟩ := Rql.get (RE.mono d1 or_t or_t) ht
              obtain ⟨v2, f2, q2⟩ := Rql.get (RE.mono d2 or_t' or_t') hu
              refine ⟨.tup [v1, v2], ?_, mkT_ok (.cons q1 (.cons q2 .nil))⟩
              simp only [itZip, b1, b2, f1, f2]
            · simp only [itZip, b1, b2, Bool.or_eq_true, decide_eq_true_eq]
              omega
          · rw [if_neg hk]
            exact trivial
def rangeW (lo : Int) (n : Nat) : List W := (List.range n).map fun (i : Nat) => W.at (.int (lo + (i : Int)))
theorem wk_range {B : Nat} {Pa O : Nat → Prop} {M : Store} (lo : Int) (n : Nat) (f : Nat → Store → Option Val) (hf : ∀ i M, f i M = some (.int (lo + (i : Int)))) : Wk B Pa O M ⟨n, f, fun _ => true⟩ ⟨rangeW lo n, true⟩ := by
  refine ⟨by simp [rangeW], fun O' M' x => ⟨fun i w hw => ?_, rfl⟩⟩
  unfold rangeW at hw
  rw [List.getElem?_map] at hw
  obtain ⟨j, hj, rfl⟩ := Option.map_eq_some_iff.mp hw
  have hi := (List.getElem?_eq_some_iff.mp hj)
  obtain ⟨h1, h2⟩ := hi
  rw [List.getElem_range] at h2
  subst h2
  exact ⟨_, hf i M', RW.ai _⟩
def kqR1 : PR W → PR Ws
  | .ok w => match w.t with
    | .int j => if -(2 ^ 62) ≤ j ∧ j < 2 ^ 62 then .ok ⟨rangeW 0 j.toNat, true⟩ else .bad
    | _ => .bad
  | .exc c => .exc c
  | .bad => .bad
def pRange1 (a : PE) : PSrc := fun π => kqR1 (a π)
theorem si_range1 {a : E} {p : PE} (ha : SimE a p) : SimI (iRange1 a) (pRange1 p) := by
  refine ⟨?_⟩
  intro B Pa O ρ M π h
  have h1 := ha B Pa O ρ M π h
  unfold pRange1 iRange1
  cases e1 : p π with
  | bad => exact trivial
  | exc c =>
    rw [e1] at h1
    obtain ⟨M', e2, g1⟩ := h1
    rw [e2]
    exact ⟨M', rfl, g1⟩
  | ok w =>
    rw [e1] at h1
    obtain ⟨x, M1, e2, g1, r1⟩ := h1
    rw [e2]
    unfold kqR1
    simp only [R.bind_ok]
    cases e3 : w.t with
    | int j =>
      rw [r1.int e3]
      simp only []
      by_cases hj : -(2 ^ 62) ≤ j ∧ j < 2 ^ 62
      · rw [if_pos hj, if_pos hj]
        exact ⟨_, M1, rfl, g1, wk_range 0 _ _ fun _ _ => rfl⟩
      · rw [if_neg hj, if_neg hj]
        exact trivial
    | _ => exact trivial
def r2Of (w w' : W) : PR Ws := match w.t, w'.t with
  | .int i, .int j => if -(2 ^ 62) ≤ i ∧ i < 2 ^ 62 ∧ -(2 ^ 62) ≤ j ∧ j < 2 ^ 62 then .ok ⟨rangeW i (j - i).toNat, true⟩ else .bad
  | _, _ => .bad
def kqR22 (w : W) : PR W → PR Ws
  | .ok w' => r2Of w w'
  | .exc c => .exc c
  | .bad => .bad
def kqR21 (b : PE) (π : PEnv) : PR W → PR Ws
  | .ok w => kqR22 w (b π)
  | .exc c => .exc c
  | .bad => .bad
def pRange2 (a b : PE) : PSrc := fun π => kqR21 b π (a π)
theorem si_range2 {a b : E} {p q : PE} (ha : SimE a p) (hb : SimE b q) : SimI (iRange2 a b) (pRange2 p q) := by
  refine ⟨?_⟩
  intro B Pa O ρ M π h
  have h1 := ha B Pa O ρ M π h
  unfold pRange2 iRange2
  cases e1 : p π with
  | bad => exact trivial
  | exc c =>
    rw [e1] at h1
    obtain ⟨M', e2, g1⟩ := h1
    rw [e2]
    exact ⟨M', rfl, g1⟩
  | ok w =>
    rw [e1] at h1
    obtain ⟨x, M1, e2, g1, r1⟩ := h1
    rw [e2]
    have h2 := hb B Pa O ρ M1 π (h.gr g1)
    unfold kqR21
    simp only [R.bind_ok]
    cases e3 : q π with
    | bad => exact trivial
    | exc c =>
      rw [e3] at h2
      obtain ⟨M', e4, g2⟩ := h2
      rw [e4]
      exact ⟨M', rfl, g1.trans g2⟩
    | ok w' =>
      rw [e3] at h2
      obtain ⟨y, M2, e4, g2, r2⟩ := h2
      rw [e4]
      unfold kqR22 r2Of
      simp only [R.bind_ok]
      cases e5 : w.t with
      | int i =>
        cases e6 : w'.t with
        | int j =>
          rw [r1.int e5, r2.int e6]
          simp only []
          by_cases hj : -(2 ^ 62) ≤ i ∧ i < 2 ^ 62 ∧ -(2 ^ 62) ≤ j ∧ j < 2 ^ 62
          · rw [if_pos hj, if_pos hj]
            exact ⟨_, M2, rfl, g1.trans g2, wk_range i _ _ fun _ _ => rfl⟩
          · rw [if_neg hj, if_neg hj]
            exact trivial
        | _ => exact trivial
      | _ => exact trivial
/-! ### comprehensions -/
def killP (π : PEnv) : List Nat → PEnv
  | [] => π
  | v :: vs => (killP π vs).set v none
theorem PSt.wipe {B : Nat} {Pa O : Nat → Prop} {ρ : Env} {M : Store} {π : PEnv} (h : PSt B Pa O ρ M π) : ∀ vs : List Nat, PSt B Pa O (Mn.wipe ρ vs) M (killP π vs)
  | [] => h
  | v :: vs => (PSt.wipe h vs).wipe1 v
theorem PSt.kills {B : Nat} {Pa O : Nat → Prop} {ρ : Env} {M : Store} {π : PEnv} (h : PSt B Pa O ρ M π) : ∀ vs : List Nat, PSt B Pa O ρ M (killP π vs)
  | [] => h
  | v :: vs => (PSt.kills h vs).kill v
def pLcN (t : PT) (c e : PE) (π : PEnv) : List W → PR (List W)
  | [] => .ok []
  | w :: ws => match t w π with
    | .nx π1 => match c π1 with
      | .ok b => match b.t with
        | .bl true => match e π1 with
          | .ok u => kqL2 u (pLcN t c e π ws)
          | _ => .bad
        | .bl false => pLcN t c e π ws
        | _ => .bad
      | _ => .bad
    | _ => .bad
def kqLc2 : PR (List W) → PR W
  | .ok us => .ok (mkL (anyB us) (anyT us) (us.map W.t))
  | .exc c => .exc c
  | .bad => .bad
def kqLc (t : PT) (c e : PE) (π : PEnv) : PR Ws → PR W
  | .ok s => if s.ws.length ≤ szLine then kqLc2 (pLcN t c e π s.ws) else .bad
  | .exc c => .exc c
  | .bad => .bad
def pLc (s : PSrc) (t : PT) (vs : List Nat) (c e : PE) : PE := fun π => kqLc t c e (killP π vs) (s π)
theorem RWl.append {B L : Nat} {Pa O : Nat → Prop} {M : Store} : ∀ {vs us : List Val} {ws xs : List W}, RWl B Pa O L M vs ws → RWl B Pa O L M us xs → RWl B Pa O L M (vs ++ us) (ws ++ xs)
  | _, _, _, _, .nil, s => s
  | _, _, _, _, .cons h r, s => .cons h (RWl.append r s)
def LcR (B : Nat) (Pa O : Nat → Prop) (L : Nat) (M : Store) (r : R (List Val)) (aw : List W) (p : PR (List W)) : Prop := match p with
  | .ok us => ∃ vs M', r = .ok vs M' ∧ Gr M M' ∧ RWl B Pa O L M' vs (aw ++ us)
  | .exc _ => False
  | .bad => True
theorem lc_ok {B L : Nat} {Pa O : Nat → Prop} {ρ : Env} {M0 : Store} {π : PEnv} {it : Itr} {s : Ws} {t : Tg} {t' : PT} {c e : E} {c' e' : PE} (ht : SimT t t') (hc : SimE c c') (he : SimE e e') (wk : Wk B Pa O M0 it s) (hL : L ≤ M0.length) :
    ∀ (ws : List W) (k i : Nat) (acc : List Val) (aw : List W) (M : Store), ws = s.ws.drop i → k = ws.length → Gr M0 M → PSt B Pa O ρ M π → RWl B Pa O L M acc aw → LcR B Pa O L M (lcN it t c e ρ k i acc M) aw (pLcN t' c' e' π ws)
  | [], k, i, acc, aw, M, ew, ek, g, st, r => by
    subst ek
    have f := (wk.go O M (by split; exact Ext.gr g; exact ⟨rfl, g⟩)).2
    refine ⟨acc, M, ?_, Gr.refl M, by rw [List.append_nil]; exact r⟩
    show lcN it t c e ρ 0 i acc M = _
    unfold lcN
    rw [if_pos f]
  | w :: ws, k, i, acc, aw, M, ew, ek, g, st, r => by
    subst ek
    have hw : s.ws[i]? = some w := by
      have : (s.ws.drop i)[0]? = some w := by rw [← ew]; rfl
      rw [List.getElem?_drop] at this
      exact this
    have hd : ws = s.ws.drop (i + 1) := by
      have : (w :: ws).drop 1 = (s.ws.drop i).drop 1 := by rw [ew]
      rw [List.drop_drop] at this
      exact this
    obtain ⟨v, e1, rv⟩ := (wk.go O M (by split; exact Ext.gr g; exact ⟨rfl, g⟩)).1 i w hw
    have h1 := ht B B Pa O ρ M π v w st rv
    unfold pLcN
    show LcR B Pa O L M (lcN it t c e ρ (ws.length + 1) i acc M) aw _
    unfold lcN
    rw [e1]
    simp only []
    cases e2 : t' w π with
    | nx π1 =>
      rw [e2] at h1
      obtain ⟨ρ1, e3, s1⟩ := h1
      rw [e3]
      simp only []
      have h2 := hc B Pa O ρ1 M π1 s1
      cases e4 : c' π1 with
      | ok b =>
        rw [e4] at h2
        obtain ⟨bv, M1, e5, g1, rb⟩ := h2
        rw [e5]
        simp only []
        cases e6 : b.t with
        | bl q =>
          rw [rb.bl e6]
          cases q with
          | false =>
            simp only []
            have h3 := lc_ok ht hc he wk hL ws ws.length (i + 1) acc aw M1 hd rfl (g.trans g1) (st.gr g1) (r.gr g1)
            cases e7 : pLcN t' c' e' π ws with
            | ok us =>
              rw [e7] at h3
              obtain ⟨vs, M', a, b, c⟩ := h3
              exact ⟨vs, M', a, g1.trans b, c⟩
            | exc x =>
              rw [e7] at h3
              exact h3.elim
            | bad => exact trivial
          | true =>
            simp only []
            have h3 := he B Pa O ρ1 M1 π1 (s1.gr g1)
            cases e7 : e' π1 with
            | ok u =>
              rw [e7] at h3
              obtain ⟨y, M2, e8, g2, ru⟩ := h3
              rw [e8]
              simp only []
              have g12 := g1.trans g2
              have h4 := lc_ok ht hc he wk hL ws ws.length (i + 1) (acc ++ [y]) (aw ++ [u]) M2 hd rfl (g.trans g12) (st.gr g12) ((r.gr g12).append (.cons (ru.low (Nat.le_trans hL (g.trans g1).len)) .nil))
              cases e9 : pLcN t' c' e' π ws with
              | ok us =>
                rw [e9] at h4
                obtain ⟨vs, M', a, b, c⟩ := h4
                rw [List.append_assoc] at c
                exact ⟨vs, M', a, g12.trans b, c⟩
              | exc x =>
                rw [e9] at h4
                exact h4.elim
              | bad => exact trivial
            | _ => exact trivial
        | _ => exact trivial
      | _ => exact trivial
    | _ => exact trivial
theorem sx_lc {s : Src} {s' : PSrc} {t : Tg} {t' : PT} {c e : E} {c' e' : PE} (vs : List Nat) (hs : SimI s s') (ht : SimT t t') (hc : SimE c c') (he : SimE e e') : SimE (eLc s t vs c e) (pLc s' t' vs c' e') := by
  refine ⟨?_⟩
  intro B Pa O ρ M π h
  have h1 := hs B Pa O ρ M π h
  unfold pLc eLc
  cases e1 : s' π with
  | bad => exact trivial
  | exc c =>
    rw [e1] at h1
    obtain ⟨M', e2, g1⟩ := h1
    rw [e2]
    exact ⟨M', rfl, g1⟩
  | ok z =>
    rw [e1] at h1
    obtain ⟨it, M1, e2, g1, wk⟩ := h1
    rw [e2]
    unfold kqLc
    simp only [R.bind_ok]
    rw [wk.cnt]
    by_cases hz : z.ws.length ≤ szLine
    · rw [if_pos hz, if_pos hz]
      have h2 := lc_ok (L := M.length) ht hc he wk g1.len z.ws z.ws.length 0 [] [] M1 rfl rfl (Gr.refl M1) ((h.gr g1).wipe vs) .nil
      cases e3 : pLcN t' c' e' (killP π vs) z.ws with
      | ok us =>
        rw [e3] at h2
        obtain ⟨ys, M2, a, b, c⟩ := h2
        rw [a]
        exact ⟨_, _, rfl, (g1.trans b).trans (Gr.one _ _), mkL_ok (h.cx (g1.trans b)) (c.re (h.cx (g1.trans b)))⟩
      | exc c =>
        rw [e3] at h2
        exact h2.elim
      | bad => exact trivial
    · rw [if_neg hz, if_neg hz]
      exact trivial
end Mn
end
section
set_option Elab.async false
set_option autoImplicit false
set_option maxRecDepth 100000
set_option linter.all false
/-! What one owns: new names, changes, gifts. -/
namespace Mn
theorem set_cases {α : Type} {xs : List (Option α)} {i j : Nat} {o : Option α} {u : α} (e : (xs.set i o)[j]? = some (some u)) : (j = i ∧ o = some u ∧ i < xs.length) ∨ (j ≠ i ∧ xs[j]? = some (some u)) := by
  rw [List.getElem?_set] at e
  split at e
  · rename_i n
    subst n
    split at e
    · cases e
      exact .inl ⟨rfl, rfl, by assumption⟩
    · cases e
  · rename_i n
    exact .inr ⟨fun z => n z.symm, e⟩
/-- what a name's value is, its places told apart from n -/
theorem RV.keep {B : Nat} {Pa O O' : Nat → Prop} {M M' : Store} {v : Val} {w : W} (nb : isB w.fl = false) (ho : ∀ cs, Oc w.fl M v w.t cs → ∀ n ∈ cs, ∀ c, M[n]? = some c → M'[n]? = some c) (hf : ∀ n c, ¬O n → M[n]? = some c → M'[n]? = some c ∧ ¬O' n) (h : RV B Pa O M v w) : RV B Pa O' M' v w := by
  obtain ⟨fl, tn, t⟩ := w
  cases fl with
  | fr =>
    obtain ⟨n, xs, ts, rfl, a, b, c, d⟩ := h
    simp only at c
    subst c
    exact ⟨n, xs, ts, rfl, a, ho [n] ⟨n, rfl, rfl⟩ n List.mem_cons_self _ b, rfl, d.map fun m c p e => ⟨(hf m c p.2.1 e).1, p.1, (hf m c p.2.1 e).2, p.2.2⟩⟩
  | dr =>
    obtain ⟨cs, a, b, c⟩ := h
    exact ⟨cs, Ow.map a fun m c hm e => ho cs a m hm c e, b, c⟩
  | fz => exact Rq.map (fun m c p e => ⟨(hf m c p.1 e).1, (hf m c p.1 e).2, p.2⟩) h
  | bo => cases nb
  | bd => cases nb
theorem Oc.keep {fl : Fl} {M M' : Store} {v : Val} {t : V} {cs : List Nat} (h : Oc fl M v t cs) (k : ∀ n ∈ cs, ∀ c, M[n]? = some c → M'[n]? = some c) : Oc fl M' v t cs := by
  cases fl with
  | fr => exact h
  | dr => exact Ow.map h fun m c hm e => k m hm c e
  | _ => exact h.elim
/-- what is one's own in a new value -/
theorem RW.oc {B L : Nat} {Pa O : Nat → Prop} {M : Store} {v : Val} {w : W} (h : RW B Pa O L M v w) (hf : isO w.fl = true) : ∃ cs, Oc w.fl M v w.t cs ∧ cs.Nodup ∧ ∀ n ∈ cs, L ≤ n ∧ n < M.length := by
  obtain ⟨fl, tn, t⟩ := w
  cases fl with
  | fr =>
    obtain ⟨n, xs, ts, rfl, a, b, c, d⟩ := h
    refine ⟨[n], ⟨n, rfl, rfl⟩, by simp, fun m hm => ?_⟩
    rw [List.mem_singleton.mp hm]
    exact ⟨a, get_lt b⟩
  | dr =>
    obtain ⟨cs, a, b, c⟩ := h
    exact ⟨cs, a, b, fun n hn => ⟨(c n hn).1, Ow.lt a n hn⟩⟩
  | _ => cases hf
theorem RW.rv {B L : Nat} {Pa O O' : Nat → Prop} {M : Store} {v : Val} {w : W} {cs : List Nat} (hl : B ≤ L) (hf : isO w.fl = true) (h : RW B Pa O L M v w) (oc : Oc w.fl M v w.t cs) (ho : ∀ n, O' n → O n ∨ n ∈ cs) : RV B Pa O' M v w := by
  obtain ⟨fl, tn, t⟩ := w
  cases fl with
  | fr =>
    obtain ⟨n, xs, ts, rfl, a, b, c, d⟩ := h
    obtain ⟨m, e1, e2⟩ := oc
    cases e1
    subst e2
    exact ⟨n, xs, ts, rfl, Nat.le_trans hl a, b, c, d.map fun m c p e => ⟨e, p.1, fun z => (ho m z).elim p.2.1 fun y => p.1 (List.mem_singleton.mp y), p.2.2⟩⟩
  | dr =>
    obtain ⟨cs, a, b, c⟩ := h
    exact ⟨cs, a, b, fun n hn => Nat.le_trans hl (c n hn).1⟩
  | _ => cases hf
theorem PSt.putO {B : Nat} {Pa O : Nat → Prop} {ρ : Env} {M0 M : Store} {π : PEnv} (h : PSt B Pa O ρ M0 π) (g : Gr M0 M) (i : Nat) {v : Val} {w : W} (hf : isO w.fl = true) (hv : RW B Pa O M0.length M v w) :
    ∃ O', Ext O M0 O' M ∧ PSt B Pa O' (ρ.set i (some v)) M (π.set i (some w)) := by
  obtain ⟨cs, oc, nd, low⟩ := hv.oc hf
  have h' := h.gr g
  have lt : ∀ m, O m → m < M0.length := fun m o => (h.bnd m o).2
  have ri : i < π.length → (ρ.set i (some v))[i]? = some (some v) := fun hi => List.getElem?_set_self (by rw [h.len]; exact hi)
  have rn : ∀ {j}, j ≠ i → (ρ.set i (some v))[j]? = ρ[j]? := fun d => List.getElem?_set_ne (Ne.symm d)
  refine ⟨fun m => O m ∨ m ∈ cs, ⟨g.len, fun m hm o => ⟨?_, fun z => ?_⟩⟩, ⟨by rw [List.length_set, List.length_set]; exact h.len, Nat.le_trans h.low g.len, fun m o => ?_, fun j u e f => ?_, fun p q u u' x x' ds ds' m e1 e2 r1 r2 o1 o2 m1 m2 => ?_, fun j u e => ?_, fun j u e => ?_⟩⟩
  · obtain ⟨y, rfl⟩ := g
    exact List.getElem?_append_left hm
  · rcases z with z | z
    · exact o z
    · have := low m z
      omega
  · rcases o with o | o
    · exact ⟨(h.bnd m o).1, Nat.lt_of_lt_of_le (h.bnd m o).2 g.len⟩
    · exact ⟨Nat.le_trans h.low (low m o).1, (low m o).2⟩
  · rcases set_cases e with ⟨rfl, e, hi⟩ | ⟨d, e⟩
    · cases e
      exact ⟨v, cs, ri hi, oc, fun n hn => .inr hn⟩
    · obtain ⟨x, ds, a, b, c⟩ := h'.own j u e f
      exact ⟨x, ds, by rw [rn d]; exact a, b, fun n hn => .inl (c n hn)⟩
  · have nn : ∀ (j : Nat) (u : W) (x : Val) (ds : List Nat), π[j]? = some (some u) → ρ[j]? = some (some x) → Oc u.fl M x u.t ds → m ∈ ds → m ∈ cs → False := fun j u x ds e r o hm hc => by
      obtain ⟨x', ds', a, b, c⟩ := h'.own j u e o.isO
      rw [r] at a
      cases a
      rw [o.fn b] at hm
      have := lt m (c m hm)
      have := (low m hc).1
      omega
    rcases set_cases e1 with ⟨c1, g1, hi⟩ | ⟨d1, f1⟩
    · subst c1
      cases g1
      rw [ri hi] at r1
      cases r1
      rw [o1.fn oc] at m1
      rcases set_cases e2 with ⟨c2, e2, _⟩ | ⟨d2, e2⟩
      · exact c2.symm
      · rw [rn d2] at r2
        exact (nn q u' x' ds' e2 r2 o2 m2 m1).elim
    · rw [rn d1] at r1
      rcases set_cases e2 with ⟨c2, g2, hi⟩ | ⟨d2, e2⟩
      · subst c2
        cases g2
        rw [ri hi] at r2
        cases r2
        rw [o2.fn oc] at m2
        exact (nn p u x ds f1 r1 o1 m1 m2).elim
      · rw [rn d2] at r2
        exact h'.inj p q u u' x x' ds ds' m f1 e2 r1 r2 o1 o2 m1 m2
  · rcases set_cases e with ⟨rfl, e, hi⟩ | ⟨d, e⟩
    · cases e
      exact ⟨v, ri hi, hv.rv h.low hf oc fun n hn => hn⟩
    · obtain ⟨x, a, b⟩ := h.val j u e
      refine ⟨x, by rw [rn d]; exact a, b.keep (h.nb j u e) (fun ds _ n hn c e => g.at e) fun n c o e => ⟨g.at e, fun z => z.elim o fun y => ?_⟩⟩
      have := (low n y).1
      have := get_lt e
      omega
  · rcases set_cases e with ⟨rfl, e, hi⟩ | ⟨d, e⟩
    · cases e
      obtain ⟨fl, tn, t⟩ := w
      cases fl <;> first | rfl | cases hf
    · exact h.nb j u e
/-- what one owns by a name is changed: places of its own alone, new ones come to it -/
theorem PSt.change {B : Nat} {Pa O : Nat → Prop} {ρ : Env} {M M' : Store} {π : PEnv} (h : PSt B Pa O ρ M π) {j : Nat} {w w' : W} {v : Val} {cs cs' : List Nat} (e : π[j]? = some (some w)) (r : ρ[j]? = some (some v)) (oc : Oc w.fl M v w.t cs)
    (hl : M.length ≤ M'.length) (hs : ∀ n c, n ∉ cs → M[n]? = some c → M'[n]? = some c) (oc' : Oc w'.fl M' v w'.t cs') (hc : ∀ n ∈ cs', n ∈ cs ∨ (M.length ≤ n ∧ n < M'.length)) (hv : RV B Pa (fun n => O n ∨ n ∈ cs') M' v w') :
    Ext O M (fun n => O n ∨ n ∈ cs') M' ∧ PSt B Pa (fun n => O n ∨ n ∈ cs') ρ M' (π.set j (some w')) := by
  obtain ⟨v0, cs0, r0, oc0, on⟩ := h.own j w e oc.isO
  rw [r] at r0
  cases r0
  rw [← oc.fn oc0] at on
  have nc : ∀ n, ¬O n → n ∉ cs := fun n o z => o (on n z)
  -- what others own
  have others : ∀ (i : Nat) (u : W) (x : Val) (ds : List Nat), i ≠ j → π[i]? = some (some u) → ρ[i]? = some (some x) → Oc u.fl M x u.t ds → ∀ n ∈ ds, n ∉ cs := fun i u x ds d e1 r1 o1 n hn z => d (h.inj i j u w x v ds cs n e1 e r1 r o1 oc hn z)
  have oth : ∀ (i : Nat) (u : W) (x : Val) (ds : List Nat), i ≠ j → π[i]? = some (some u) → ρ[i]? = some (some x) → Oc u.fl M' x u.t ds → Oc u.fl M x u.t ds := fun i u x ds d e1 r1 o1 => by
    obtain ⟨x', ds', a, b, c⟩ := h.own i u e1 o1.isO
    rw [r1] at a
    cases a
    rw [o1.fn (b.keep fun n hn c e => hs n c (others i u x ds' d e1 r1 b n hn) e)]
    exact b
  have lt : ∀ m, O m → m < M.length := fun m o => (h.bnd m o).2
  refine ⟨⟨hl, fun m hm o => ⟨?_, fun z => ?_⟩⟩, ⟨by rw [List.length_set]; exact h.len, Nat.le_trans h.low hl, fun m o => ?_, fun i u q f => ?_, fun a b u u' x x' ds ds' m q1 q2 r1 r2 o1 o2 m1 m2 => ?_, fun i u q => ?_, fun i u q => ?_⟩⟩
  · obtain ⟨c, hc⟩ : ∃ c, M[m]? = some c := ⟨_, List.getElem?_eq_getElem hm⟩
    rw [hs m c (nc m o) hc, hc]
  · rcases z with z | z
    · exact o z
    · rcases hc m z with z | z
      · exact o (on m z)
      · omega
  · rcases o with o | o
    · exact ⟨(h.bnd m o).1, Nat.lt_of_lt_of_le (h.bnd m o).2 hl⟩
    · rcases hc m o with z | z
      · exact ⟨(h.bnd m (on m z)).1, Nat.lt_of_lt_of_le (h.bnd m (on m z)).2 hl⟩
      · exact ⟨Nat.le_trans h.low z.1, z.2⟩
  · rcases set_cases q with ⟨rfl, q, hi⟩ | ⟨d, q⟩
    · cases q
      exact ⟨v, cs', r, oc', fun n hn => .inr hn⟩
    · obtain ⟨x, ds, a, b, c⟩ := h.own i u q f
      exact ⟨x, ds, a, b.keep fun n hn c e => hs n c (others i u x ds d q a b n hn) e, fun n hn => .inl (c n hn)⟩
  · have nn : ∀ (i : Nat) (u : W) (x : Val) (ds : List Nat), i ≠ j → π[i]? = some (some u) → ρ[i]? = some (some x) → Oc u.fl M' x u.t ds → m ∈ ds → m ∈ cs' → False := fun i u x ds d e1 r1 o1 hm hc2 => by
      have o2 := oth i u x ds d e1 r1 o1
      rcases hc m hc2 with z | z
      · exact others i u x ds d e1 r1 o2 m hm z
      · obtain ⟨x', ds', a, b, c⟩ := h.own i u e1 o2.isO
        rw [r1] at a
        cases a
        rw [o2.fn b] at hm
        have := lt m (c m hm)
        omega
    rcases set_cases q1 with ⟨c1, g1, hi⟩ | ⟨d1, f1⟩
    · subst c1
      cases g1
      rw [r] at r1
      cases r1
      rw [o1.fn oc'] at m1
      rcases set_cases q2 with ⟨c2, _, _⟩ | ⟨d2, q2⟩
      · exact c2.symm
      · exact (nn b u' x' ds' d2 q2 r2 o2 m2 m1).elim
    · rcases set_cases q2 with ⟨c2, g2, hi⟩ | ⟨d2, q2⟩
      · subst c2
        cases g2
        rw [r] at r2
        cases r2
        rw [o2.fn oc'] at m2
        exact (nn a u x ds d1 f1 r1 o1 m1 m2).elim
      · exact h.inj a b u u' x x' ds ds' m f1 q2 r1 r2 (oth a u x ds d1 f1 r1 o1) (oth b u' x' ds' d2 q2 r2 o2) m1 m2
  · rcases set_cases q with ⟨rfl, q, hi⟩ | ⟨d, q⟩
    · cases q
      exact ⟨v, r, hv⟩
    · obtain ⟨x, a, b⟩ := h.val i u q
      refine ⟨x, a, b.keep (h.nb i u q) (fun ds oc n hn c e => hs n c (others i u x ds d q a oc n hn) e) fun n c o e => ⟨hs n c (nc n o) e, fun z => z.elim o fun y => ?_⟩⟩
      rcases hc n y with z | z
      · exact o (on n z)
      · have := get_lt e
        omega
  · rcases set_cases q with ⟨rfl, q, hi⟩ | ⟨d, q⟩
    · cases q
      obtain ⟨fl, tn, t⟩ := w'
      have := oc'.isO
      cases fl <;> first | rfl | cases this
    · exact h.nb i u q
theorem Ext.weak {O O' O'' : Nat → Prop} {M M' : Store} (x : Ext O M O' M') (k : ∀ n, O'' n → O' n) : Ext O M O'' M' := ⟨x.1, fun m h n => ⟨(x.2 m h n).1, fun z => (x.2 m h n).2 (k m z)⟩⟩
theorem PSt.mut {B : Nat} {Pa O : Nat → Prop} {ρ : Env} {M : Store} {π : PEnv} (h : PSt B Pa O ρ M π) {j : Nat} {tn tn' : Bool} {ts us : List V} {ys : List Val} {n : Nat} (e : π[j]? = some (some ⟨.fr, tn, .lst ts⟩)) (r : ρ[j]? = some (some (.ref n))) (hy : Rql (fun m => m ≠ n ∧ Av O B Pa tn' m) M ys us) :
    ∃ O', Ext O M O' (M.set n (.lst ys)) ∧ PSt B Pa O' ρ (M.set n (.lst ys)) (π.set j (some ⟨.fr, tn', .lst us⟩)) := by
  obtain ⟨v', cs, r', oc, on⟩ := h.own j _ e rfl
  rw [r] at r'
  cases r'
  obtain ⟨n', e1, e2⟩ := id oc
  cases e1
  subst e2
  have hn := (h.bnd n (on n List.mem_cons_self)).2
  have st : ∀ m c, m ≠ n → M[m]? = some c → (M.set n (.lst ys))[m]? = some c := fun m c d e => (List.getElem?_set_ne (Ne.symm d)).trans e
  exact ⟨_, h.change e r oc (cs' := [n]) (by rw [List.length_set]; exact Nat.le_refl _) (fun m c d e => st m c (fun z => d (by rw [z]; exact List.mem_cons_self)) e) ⟨n, rfl, rfl⟩ (fun m hm => .inl hm)
    ⟨n, ys, us, rfl, (h.bnd n (on n List.mem_cons_self)).1, List.getElem?_set_self hn, rfl, hy.map fun m c p e => ⟨st m c p.1 e, p.1, fun z => z.elim p.2.1 fun y => p.1 (List.mem_singleton.mp y), p.2.2⟩⟩⟩
/-- it becomes everybody's -/
def fzW (w : W) : W := ⟨.fz, w.tn, w.t⟩
def fzO : Option W → Option W
  | some w => some (fzW w)
  | none => none
def frz (j : Nat) (π : PEnv) : PEnv := match π[j]? with
  | some o => π.set j (fzO o)
  | none => π
theorem PSt.freeze {B : Nat} {Pa O : Nat → Prop} {ρ : Env} {M : Store} {π : PEnv} (h : PSt B Pa O ρ M π) (j : Nat) : ∃ O', Ext O M O' M ∧ PSt B Pa O' ρ M (frz j π) := by
  unfold frz
  cases e : π[j]? with
  | none => exact ⟨O, Ext.refl O M, h⟩
  | some o =>
    cases o with
    | none =>
      refine ⟨O, Ext.refl O M, ?_⟩
      have : π.set j (fzO none) = π := List.ext_getElem? fun i => by
        rw [List.getElem?_set]
        split
        · rename_i z
          subst z
          rw [e]
          split
          · rfl
          · rename_i k
            exact absurd (List.getElem?_eq_some_iff.mp e).1 k
        · rfl
      show PSt B Pa O ρ M (π.set j (fzO none))
      rw [this]
      exact h
    | some w =>
      obtain ⟨v, r, x⟩ := h.val j w e
      have nbj := h.nb j w e
      show ∃ O', Ext O M O' M ∧ PSt B Pa O' ρ M (π.set j (some (fzW w)))
      -- the places that are given up
      obtain ⟨cs, hcs⟩ : ∃ cs : List Nat, (∀ ds, Oc w.fl M v w.t ds → ds = cs) ∧ (isO w.fl = true → Oc w.fl M v w.t cs) ∧ (isO w.fl = false → cs = []) := by
        cases ho : isO w.fl with
        | true =>
          obtain ⟨v', cs, r', oc, _⟩ := h.own j w e ho
          rw [r] at r'
          cases r'
          exact ⟨cs, fun ds d => d.fn oc, fun _ => oc, fun z => by cases z⟩
        | false => exact ⟨[], (fun ds d => by rw [d.isO] at ho; cases ho), (fun z => by cases z), fun _ => rfl⟩
      obtain ⟨c1, c2, c3⟩ := hcs
      refine ⟨fun m => O m ∧ m ∉ cs, ⟨Nat.le_refl _, fun m _ o => ⟨rfl, fun z => o z.1⟩⟩, ⟨by rw [List.length_set]; exact h.len, h.low, fun m o => h.bnd m o.1, fun i u q f => ?_, fun a b u u' x x' ds ds' m q1 q2 r1 r2 o1 o2 m1 m2 => ?_, fun i u q => ?_, fun i u q => ?_⟩⟩
      · rcases set_cases q with ⟨rfl, q, hi⟩ | ⟨d, q⟩
        · cases q
          cases f
        · obtain ⟨x, ds, a, b, c⟩ := h.own i u q f
          refine ⟨x, ds, a, b, fun n hn => ⟨c n hn, fun z => ?_⟩⟩
          cases ho : isO w.fl with
          | true => exact d (h.inj i j u w x v ds cs n q e a r b (c2 ho) hn z)
          | false =>
            rw [c3 ho] at z
            cases z
      · rcases set_cases q1 with ⟨c1, q1, hi⟩ | ⟨d1, q1⟩
        · cases q1
          exact o1.elim
        · rcases set_cases q2 with ⟨c1, q2, hi⟩ | ⟨d2, q2⟩
          · cases q2
            exact o2.elim
          · exact h.inj a b u u' x x' ds ds' m q1 q2 r1 r2 o1 o2 m1 m2
      · rcases set_cases q with ⟨rfl, q, hi⟩ | ⟨d, q⟩
        · cases q
          refine ⟨v, r, ?_⟩
          obtain ⟨fl, tn, t⟩ := w
          cases fl with
          | fr =>
            obtain ⟨n, xs, ts, rfl, a, b, c, d⟩ := x
            simp only at c
            subst c
            have ec := c1 [n] ⟨n, rfl, rfl⟩
            exact Rq.lst b ⟨fun z => z.2 (by rw [← ec]; exact List.mem_cons_self), .inl a⟩ (d.map fun m c p e => ⟨e, fun z => p.2.1 z.1, p.2.2⟩)
          | dr =>
            obtain ⟨ds, a, b, c⟩ := x
            have ec := c1 ds a
            exact Ow.rq a fun n hn => ⟨fun z => z.2 (by rw [← ec]; exact hn), .inl (c n hn)⟩
          | fz => exact Rq.map (fun l c p e => ⟨e, fun z => p.1 z.1, p.2⟩) x
          | bo => cases nbj
          | bd => cases nbj
        · obtain ⟨v1, r1, y⟩ := h.val i u q
          exact ⟨v1, r1, y.keep (h.nb i u q) (fun _ _ _ _ _ e => e) fun n c o e => ⟨e, fun z => o z.1⟩⟩
      · rcases set_cases q with ⟨rfl, q, hi⟩ | ⟨d, q⟩
        · cases q
          rfl
        · exact h.nb i u q
end Mn
end
section
set_option Elab.async false
set_option autoImplicit false
set_option maxRecDepth 100000
set_option linter.all false
/-! Statements, loops, functions over trees. -/
namespace Mn
def RelS (B : Nat) (Pa O : Nat → Prop) (M : Store) (r : RS) (p : PRS) : Prop := match p with
  | .nx π' => ∃ ρ' M' O', r = .nx ρ' M' ∧ Ext O M O' M' ∧ PSt B Pa O' ρ' M' π'
  | .ct π' => ∃ ρ' M' O', r = .ct ρ' M' ∧ Ext O M O' M' ∧ PSt B Pa O' ρ' M' π'
  | .bk π' => ∃ ρ' M' O', r = .bk ρ' M' ∧ Ext O M O' M' ∧ PSt B Pa O' ρ' M' π'
  | .exc c π' => ∃ ρ' M' O', r = .exc c ρ' M' ∧ Ext O M O' M' ∧ PSt B Pa O' ρ' M' π'
  | .ret w => ∃ v M' O', r = .ret v M' ∧ Ext O M O' M' ∧ RF B Pa M' v w
  | .bad => True
structure SimS (s : St) (p : PS) : Prop where
  go : ∀ (B : Nat) (Pa O : Nat → Prop) (ρ : Env) (M : Store) (π : PEnv), PSt B Pa O ρ M π → RelS B Pa O M (s ρ M) (p π)
instance {s : St} {p : PS} : CoeFun (SimS s p) fun _ => ∀ (B : Nat) (Pa O : Nat → Prop) (ρ : Env) (M : Store) (π : PEnv), PSt B Pa O ρ M π → RelS B Pa O M (s ρ M) (p π) := ⟨SimS.go⟩
theorem RelS.pre {B : Nat} {Pa O O1 : Nat → Prop} {M M1 : Store} {r : RS} {p : PRS} (x : Ext O M O1 M1) (h : RelS B Pa O1 M1 r p) : RelS B Pa O M r p := by
  cases p with
  | bad => exact trivial
  | ret w =>
    obtain ⟨v, M', O', a, b, c⟩ := h
    exact ⟨v, M', O', a, x.trans b, c⟩
  | _ =>
    obtain ⟨v, M', O', a, b, c⟩ := h
    exact ⟨v, M', O', a, x.trans b, c⟩
def kqSeq2 (t : PS) : PRS → PRS
  | .nx π => t π
  | r => r
def pSeq (a b : PS) : PS := fun π => kqSeq2 b (a π)
theorem ss_seq {a b : St} {p q : PS} (ha : SimS a p) (hb : SimS b q) : SimS (sSeq a b) (pSeq p q) := by
  refine ⟨?_⟩
  intro B Pa O ρ M π h
  have h1 := ha B Pa O ρ M π h
  unfold pSeq sSeq
  cases e : p π with
  | nx π1 =>
    rw [e] at h1
    obtain ⟨ρ1, M1, O1, e1, x1, s1⟩ := h1
    rw [e1]
    exact RelS.pre x1 (hb B Pa O1 ρ1 M1 π1 s1)
  | bad => exact trivial
  | _ =>
    rw [e] at h1
    obtain ⟨ρ1, M1, O1, e1, x1, s1⟩ := h1
    rw [e1]
    exact ⟨ρ1, M1, O1, rfl, x1, s1⟩
def pPass : PS := fun π => .nx π
def pCt : PS := fun π => .ct π
def pBk : PS := fun π => .bk π
def pRaise (c : String) : PS := fun π => .exc c π
theorem ss_pass : SimS sPass pPass := ⟨fun B Pa O ρ M π h => ⟨ρ, M, O, rfl, Ext.refl O M, h⟩⟩
theorem ss_ct : SimS sCt pCt := ⟨fun B Pa O ρ M π h => ⟨ρ, M, O, rfl, Ext.refl O M, h⟩⟩
theorem ss_bk : SimS sBk pBk := ⟨fun B Pa O ρ M π h => ⟨ρ, M, O, rfl, Ext.refl O M, h⟩⟩
theorem ss_raise (c : String) : SimS (sRaise c) (pRaise c) := ⟨fun B Pa O ρ M π h => ⟨ρ, M, O, rfl, Ext.refl O M, h⟩⟩
/-- names that nobody reads any more -/
def pKl (ks : List Nat) (s : PS) : PS := fun π => s (killP π ks)
theorem ss_kl (ks : List Nat) {s : St} {p : PS} (h : SimS s p) : SimS s (pKl ks p) := ⟨fun B Pa O ρ M π st => h B Pa O ρ M _ (st.kills ks)⟩
def pFz (j : Nat) (s : PS) : PS := fun π => s (frz j π)
theorem ss_fz (j : Nat) {s : St} {p : PS} (h : SimS s p) : SimS s (pFz j p) := by
  refine ⟨?_⟩
  intro B Pa O ρ M π st
  obtain ⟨O', x, s'⟩ := st.freeze j
  exact RelS.pre x (h B Pa O' ρ M _ s')
/-! stores -/
def kqAsg (i : Nat) (π : PEnv) : PR W → PRS
  | .ok w => if isB w.fl = true then .bad else .nx (π.set i (some w))
  | .exc c => .exc c π
  | .bad => .bad
def pAsg (i : Nat) (e : PE) : PS := fun π => kqAsg i π (e π)
theorem ss_asg (i : Nat) {e : E} {p : PE} (he : SimE e p) : SimS (sAsg (tName i) e) (pAsg i p) := by
  refine ⟨?_⟩
  intro B Pa O ρ M π h
  have h1 := he B Pa O ρ M π h
  unfold pAsg sAsg
  cases e1 : p π with
  | bad => exact trivial
  | exc c =>
    rw [e1] at h1
    obtain ⟨M', e2, g1⟩ := h1
    rw [e2]
    exact ⟨ρ, M', O, rfl, Ext.gr g1, h.gr g1⟩
  | ok w =>
    rw [e1] at h1
    obtain ⟨v, M1, e2, g1, r1⟩ := h1
    rw [e2]
    unfold kqAsg
    simp only []
    cases hf : w.fl with
    | fr =>
      obtain ⟨O', x, s'⟩ := h.putO g1 i (by rw [hf]; rfl) r1
      exact ⟨_, M1, O', rfl, x, s'⟩
    | dr =>
      obtain ⟨O', x, s'⟩ := h.putO g1 i (by rw [hf]; rfl) r1
      exact ⟨_, M1, O', rfl, x, s'⟩
    | fz => exact ⟨_, M1, O, rfl, Ext.gr g1, (h.gr g1).put i hf (r1.fz hf)⟩
    | bo => exact trivial
    | bd => exact trivial
/-- what is never changed is everybody's at once -/
def kqAsgF (i : Nat) (π : PEnv) : PR W → PRS
  | .ok w => if isB w.fl = true then .bad else .nx (π.set i (some (fzW w)))
  | .exc c => .exc c π
  | .bad => .bad
def pAsgF (i : Nat) (e : PE) : PS := fun π => kqAsgF i π (e π)
theorem ss_asgF (i : Nat) {e : E} {p : PE} (he : SimE e p) : SimS (sAsg (tName i) e) (pAsgF i p) := by
  refine ⟨?_⟩
  intro B Pa O ρ M π h
  have h1 := he B Pa O ρ M π h
  unfold pAsgF sAsg
  cases e1 : p π with
  | bad => exact trivial
  | exc c =>
    rw [e1] at h1
    obtain ⟨M', e2, g1⟩ := h1
    rw [e2]
    exact ⟨ρ, M', O, rfl, Ext.gr g1, h.gr g1⟩
  | ok w =>
    rw [e1] at h1
    obtain ⟨v, M1, e2, g1, r1⟩ := h1
    rw [e2]
    unfold kqAsgF
    simp only []
    by_cases hb : isB w.fl = true
    · rw [if_pos hb]
      exact trivial
    · rw [if_neg hb]
      have f := r1.free (fun n o => (h.bnd n o).2) h.low (by simpa using hb)
      exact ⟨_, M1, O, rfl, Ext.gr g1, (h.gr g1).put i rfl f⟩
def kqAsgT (t : PT) (π : PEnv) : PR W → PRS
  | .ok w => match t w π with
    | .nx π' => .nx π'
    | _ => .bad
  | .exc c => .exc c π
  | .bad => .bad
def pAsgT (t : PT) (e : PE) : PS := fun π => kqAsgT t π (e π)
theorem ss_asgT {t : Tg} {t' : PT} {e : E} {p : PE} (ht : SimT t t') (he : SimE e p) : SimS (sAsg t e) (pAsgT t' p) := by
  refine ⟨?_⟩
  intro B Pa O ρ M π h
  have h1 := he B Pa O ρ M π h
  unfold pAsgT sAsg
  cases e1 : p π with
  | bad => exact trivial
  | exc c =>
    rw [e1] at h1
    obtain ⟨M', e2, g1⟩ := h1
    rw [e2]
    exact ⟨ρ, M', O, rfl, Ext.gr g1, h.gr g1⟩
  | ok w =>
    rw [e1] at h1
    obtain ⟨v, M1, e2, g1, r1⟩ := h1
    rw [e2]
    unfold kqAsgT
    simp only []
    have h2 := ht B M.length Pa O ρ M1 π v w (h.gr g1) r1
    cases e3 : t' w π with
    | nx π' =>
      rw [e3] at h2
      obtain ⟨ρ', e4, s'⟩ := h2
      simp only [R.st_ok, e4, RS.tg]
      exact ⟨ρ', M1, O, rfl, Ext.gr g1, s'⟩
    | _ => exact trivial
/-- a list of one's own by a name: what it holds, whether it may be others' too -/
def ownOf (j : Nat) (π : PEnv) : Option (List V × Bool) := match π[j]? with
  | some (some ⟨.fr, tn, .lst ts⟩) => some (ts, tn)
  | _ => none
theorem ownOf_ok {j : Nat} {π : PEnv} {ts : List V} {tn : Bool} (h : ownOf j π = some (ts, tn)) : π[j]? = some (some ⟨.fr, tn, .lst ts⟩) := by
  unfold ownOf at h
  split at h
  · cases h
    assumption
  · cases h
def newOwn (j : Nat) (π : PEnv) (tn : Bool) (ts : List V) : PRS := .nx (π.set j (some ⟨.fr, tn, .lst ts⟩))
theorem own_at {B : Nat} {Pa O : Nat → Prop} {ρ : Env} {M : Store} {π : PEnv} (h : PSt B Pa O ρ M π) {j : Nat} {ts : List V} {tn : Bool} (e : π[j]? = some (some ⟨.fr, tn, .lst ts⟩)) : ∃ n xs, ρ[j]? = some (some (.ref n)) ∧ O n ∧ M[n]? = some (.lst xs) ∧ Rql (fun m => m ≠ n ∧ Av O B Pa tn m) M xs ts := by
  obtain ⟨v, a, b⟩ := h.val j _ e
  obtain ⟨n, xs, us, rfl, p, q, r, s⟩ := b
  obtain ⟨v', cs, q2, ⟨n', e3, e4⟩, o⟩ := h.own j _ e rfl
  rw [a] at q2
  cases q2
  cases e3
  subst e4
  cases r
  exact ⟨n, xs, a, o n List.mem_cons_self, q, s⟩
/-- a value that may go into a list of one's own -/
theorem RW.into {B L : Nat} {Pa O : Nat → Prop} {M : Store} {v : Val} {w : W} {n : Nat} (hb : ∀ n, O n → n < L) (hl : B ≤ L) (on : O n) (nb : isB w.fl = false) (tn : Bool) (h : RW B Pa O L M v w) : Rq (fun m => m ≠ n ∧ Av O B Pa (tn || w.tn) m) M v w.t :=
  (h.free hb hl nb).map fun m c p e => ⟨e, fun z => p.1 (by rw [z]; exact on), p.mono or_t'⟩
def kqApp (j : Nat) (π : PEnv) : PR W → PRS
  | .ok w => match ownOf j π with
    | some (ts, tn) => if isB w.fl = false ∧ ts.length < szLine then newOwn j π (tn || w.tn) (ts ++ [w.t]) else .bad
    | none => .bad
  | _ => .bad
def pApp (j : Nat) (e : PE) : PS := fun π => kqApp j π (e π)
theorem eVar_at {ρ : Env} {M : Store} {j : Nat} {v : Val} (h : ρ[j]? = some (some v)) : eVar j ρ M = .ok v M := by
  unfold eVar
  rw [h]
theorem ss_app (j : Nat) {e : E} {p : PE} (he : SimE e p) : SimS (sDrop (eM1 "list" mApp (eVar j) e)) (pApp j p) := by
  refine ⟨?_⟩
  intro B Pa O ρ M π h
  have h1 := he B Pa O ρ M π h
  unfold pApp
  cases e1 : p π with
  | ok w =>
    rw [e1] at h1
    obtain ⟨v, M1, e2, g1, r1⟩ := h1
    unfold kqApp
    simp only []
    cases e3 : ownOf j π with
    | none => exact trivial
    | some q =>
      obtain ⟨ts, tn⟩ := q
      simp only []
      have hj := ownOf_ok e3
      by_cases hc : isB w.fl = false ∧ ts.length < szLine
      · rw [if_pos hc]
        obtain ⟨n, xs, rj, on, hn, rx⟩ := own_at h hj
        have rx1 : Rql (fun m => m ≠ n ∧ Av O B Pa tn m) M1 xs ts := rx.map fun m c p e => ⟨g1.at e, p⟩
        have ry : Rql (fun m => m ≠ n ∧ Av O B Pa (tn || w.tn) m) M1 (xs ++ [v]) (ts ++ [w.t]) := Rql.append (rx1.map fun m c p e => ⟨e, p.1, p.2.mono or_t⟩) (.cons (RW.into (fun n o => (h.bnd n o).2) h.low on hc.1 tn r1) .nil)
        obtain ⟨O', x, s'⟩ := (h.gr g1).mut hj rj ry
        refine ⟨ρ, _, O', ?_, (Ext.gr g1).trans x, s'⟩
        unfold sDrop eM1
        rw [eVar_at rj]
        simp only [R.bind_ok]
        rw [isTy_lst hn, if_pos rfl, e2]
        simp only [R.bind_ok]
        rw [mApp_ref (g1.at hn) (by rw [Rql.length rx]; exact hc.2)]
        rfl
      · rw [if_neg hc]
        exact trivial
  | _ => exact trivial
def kqExt (j : Nat) (π : PEnv) : PR W → PRS
  | .ok w => match ownOf j π, w.t with
    | some (ts, tn), .lst us => if isD w.fl = false ∧ ts.length + us.length ≤ szLine then newOwn j π (tn || (w.tn && V.hasLs us)) (ts ++ us) else .bad
    | _, _ => .bad
  | _ => .bad
def pExt (j : Nat) (e : PE) : PS := fun π => kqExt j π (e π)
theorem mExt_ref {M : Store} {n m : Nat} {xs ys : List Val} (h : M[n]? = some (.lst xs)) (h' : M[m]? = some (.lst ys)) (hz : xs.length + ys.length ≤ szLine) : mExt (.ref n) (.ref m) M = some (.non, M.set n (.lst (xs ++ ys))) := by
  unfold mExt
  simp only []
  rw [h, h']
  exact if_pos hz
theorem ss_ext (j : Nat) {e : E} {p : PE} (he : SimE e p) : SimS (sDrop (eM1 "list" mExt (eVar j) e)) (pExt j p) := by
  refine ⟨?_⟩
  intro B Pa O ρ M π h
  have h1 := he B Pa O ρ M π h
  unfold pExt
  cases e1 : p π with
  | ok w =>
    rw [e1] at h1
    obtain ⟨v, M1, e2, g1, r1⟩ := h1
    unfold kqExt
    simp only []
    cases e3 : ownOf j π with
    | none => exact trivial
    | some q =>
      obtain ⟨ts, tn⟩ := q
      cases e4 : w.t with
      | lst us =>
        simp only []
        have hj := ownOf_ok e3
        by_cases hc : isD w.fl = false ∧ ts.length + us.length ≤ szLine
        · rw [if_pos hc]
          obtain ⟨n, xs, rj, on, hn, rx⟩ := own_at h hj
          obtain ⟨k, zs, rfl, hk, rz⟩ := r1.lst e4
          have rz2 := RE.tn rz
          rw [hc.1] at rz2
          have rx1 : Rql (fun m => m ≠ n ∧ Av O B Pa tn m) M1 xs ts := rx.map fun m c p e => ⟨g1.at e, p⟩
          have rz3 : Rql (Av O B Pa (w.tn && V.hasLs us)) M1 zs us := rz2
          have ry : Rql (fun m => m ≠ n ∧ Av O B Pa (tn || (w.tn && V.hasLs us)) m) M1 (xs ++ zs) (ts ++ us) := Rql.append (rx1.map fun m c p e => ⟨e, p.1, p.2.mono or_t⟩) (rz3.map fun m c p e => ⟨e, fun z => p.1 (by rw [z]; exact on), p.mono or_t'⟩)
          obtain ⟨O', x, s'⟩ := (h.gr g1).mut hj rj ry
          refine ⟨ρ, _, O', ?_, (Ext.gr g1).trans x, s'⟩
          unfold sDrop eM1
          rw [eVar_at rj]
          simp only [R.bind_ok]
          rw [isTy_lst hn, if_pos rfl, e2]
          simp only [R.bind_ok]
          rw [mExt_ref (g1.at hn) hk (by rw [Rql.length rx, Rql.length rz]; exact hc.2)]
          rfl
        · rw [if_neg hc]
          exact trivial
      | _ => exact trivial
  | _ => exact trivial
def insOf (j : Nat) (π : PEnv) (i w : W) : PRS := match ownOf j π, i.t with
  | some (ts, tn), .int k => if isB w.fl = false ∧ ts.length < szLine ∧ 0 ≤ k ∧ k < 2 ^ 63 then newOwn j π (tn || w.tn) (ts.take k.toNat ++ [w.t] ++ ts.drop k.toNat) else .bad
  | _, _ => .bad
def kqIns2 (j : Nat) (i : W) (π : PEnv) : PR W → PRS
  | .ok w => insOf j π i w
  | _ => .bad
def kqIns1 (j : Nat) (e : PE) (π : PEnv) : PR W → PRS
  | .ok i => kqIns2 j i π (e π)
  | _ => .bad
def pIns (j : Nat) (i e : PE) : PS := fun π => kqIns1 j e π (i π)
theorem ss_ins (j : Nat) {i e : E} {q p : PE} (hi : SimE i q) (he : SimE e p) : SimS (sDrop (eM2 "list" mIns (eVar j) i e)) (pIns j q p) := by
  refine ⟨?_⟩
  intro B Pa O ρ M π h
  have h0 := hi B Pa O ρ M π h
  unfold pIns
  cases e0 : q π with
  | ok iw =>
    rw [e0] at h0
    obtain ⟨iv, M0, d2, g0, r0⟩ := h0
    have h1 := he B Pa O ρ M0 π (h.gr g0)
    unfold kqIns1
    simp only []
    cases e1 : p π with
    | ok w =>
      rw [e1] at h1
      obtain ⟨v, M1, e2, g1, r1⟩ := h1
      unfold kqIns2 insOf
      simp only []
      cases e3 : ownOf j π with
      | none => exact trivial
      | some q =>
        obtain ⟨ts, tn⟩ := q
        cases e4 : iw.t with
        | int k =>
          simp only []
          have hj := ownOf_ok e3
          by_cases hc : isB w.fl = false ∧ ts.length < szLine ∧ 0 ≤ k ∧ k < 2 ^ 63
          · rw [if_pos hc]
            obtain ⟨n, xs, rj, on, hn, rx⟩ := own_at h hj
            have g := g0.trans g1
            have lx := Rql.length rx
            have rx1 : Rql (fun m => m ≠ n ∧ Av O B Pa (tn || w.tn) m) M1 xs ts := rx.map fun m c p e => ⟨g.at e, p.1, p.2.mono or_t⟩
            have ry : Rql (fun m => m ≠ n ∧ Av O B Pa (tn || w.tn) m) M1 (xs.take k.toNat ++ [v] ++ xs.drop k.toNat) (ts.take k.toNat ++ [w.t] ++ ts.drop k.toNat) := Rql.append (Rql.append (rx1.take _) (.cons (RW.into (fun n o => Nat.lt_of_lt_of_le (h.bnd n o).2 g0.len) (Nat.le_trans h.low g0.len) on hc.1 tn r1) .nil)) (rx1.drop _)
            obtain ⟨O', x, s'⟩ := (h.gr g).mut hj rj ry
            refine ⟨ρ, _, O', ?_, (Ext.gr g).trans x, s'⟩
            unfold sDrop eM2
            rw [eVar_at rj]
            simp only [R.bind_ok]
            rw [isTy_lst hn, if_pos rfl, d2]
            simp only [R.bind_ok]
            rw [e2]
            simp only [R.bind_ok]
            rw [r0.int e4, mIns_ref (g.at hn) (by rw [lx]; exact hc.2)]
            rfl
          · rw [if_neg hc]
            exact trivial
        | _ => exact trivial
    | _ => exact trivial
  | _ => exact trivial
def pClr (j : Nat) : PS := fun π => match ownOf j π with
  | some _ => newOwn j π false []
  | none => .bad
theorem ss_clr (j : Nat) : SimS (sDrop (eM0 "list" mClr (eVar j))) (pClr j) := by
  refine ⟨?_⟩
  intro B Pa O ρ M π h
  unfold pClr
  cases e3 : ownOf j π with
  | none => exact trivial
  | some q =>
    obtain ⟨ts, tn⟩ := q
    have hj := ownOf_ok e3
    obtain ⟨n, xs, rj, on, hn, rx⟩ := own_at h hj
    obtain ⟨O', x, s'⟩ := h.mut (tn' := false) (us := []) (ys := []) hj rj .nil
    refine ⟨ρ, _, O', ?_, x, s'⟩
    unfold sDrop eM0
    rw [eVar_at rj]
    simp only [R.bind_ok]
    rw [isTy_lst hn, if_pos rfl]
    unfold mClr
    simp only [hn]
    rfl
/-- x[i] = e -/
def subOf (j : Nat) (π : PEnv) (w i : W) : PRS := match ownOf j π, i.t with
  | some (ts, tn), .int k => match atIx ts.length k with
    | some m => if isB w.fl = false then newOwn j π (tn || w.tn) (ts.set m w.t) else .bad
    | none => .bad
  | _, _ => .bad
def kqSub2 (j : Nat) (w : W) (π : PEnv) : PR W → PRS
  | .ok i => subOf j π w i
  | _ => .bad
def kqSub1 (j : Nat) (i : PE) (π : PEnv) : PR W → PRS
  | .ok w => kqSub2 j w π (i π)
  | .exc c => .exc c π
  | .bad => .bad
def pSubA (j : Nat) (i e : PE) : PS := fun π => kqSub1 j i π (e π)
theorem ss_sub (j : Nat) {i e : E} {q p : PE} (hi : SimE i q) (he : SimE e p) : SimS (sAsg (tSub (eVar j) i) e) (pSubA j q p) := by
  refine ⟨?_⟩
  intro B Pa O ρ M π h
  have h1 := he B Pa O ρ M π h
  unfold pSubA
  cases e1 : p π with
  | bad => exact trivial
  | exc c =>
    rw [e1] at h1
    obtain ⟨M', e2, g1⟩ := h1
    unfold sAsg
    rw [e2]
    exact ⟨ρ, M', O, rfl, Ext.gr g1, h.gr g1⟩
  | ok w =>
    rw [e1] at h1
    obtain ⟨v, M1, e2, g1, r1⟩ := h1
    have h2 := hi B Pa O ρ M1 π (h.gr g1)
    unfold kqSub1
    simp only []
    cases e3 : q π with
    | ok iw =>
      rw [e3] at h2
      obtain ⟨iv, M2, e4, g2, r2⟩ := h2
      unfold kqSub2 subOf
      simp only []
      cases e5 : ownOf j π with
      | none => exact trivial
      | some z =>
        obtain ⟨ts, tn⟩ := z
        cases e6 : iw.t with
        | int k =>
          simp only []
          cases e7 : atIx ts.length k with
          | none => exact trivial
          | some m =>
            simp only []
            by_cases hc : isB w.fl = false
            · rw [if_pos hc]
              have hj := ownOf_ok e5
              obtain ⟨n, xs, rj, on, hn, rx⟩ := own_at h hj
              have g := g1.trans g2
              have rx1 : Rql (fun m => m ≠ n ∧ Av O B Pa (tn || w.tn) m) M2 xs ts := rx.map fun m c p e => ⟨g.at e, p.1, p.2.mono or_t⟩
              have ry := Rql.set (RW.into (fun n o => (h.bnd n o).2) h.low on hc tn (r1.gr g2)) m rx1
              obtain ⟨O', x, s'⟩ := (h.gr g).mut hj rj ry
              refine ⟨ρ, _, O', ?_, (Ext.gr g).trans x, s'⟩
              unfold sAsg
              rw [e2]
              simp only [R.st_ok]
              unfold tSub
              rw [eVar_at rj]
              simp only []
              rw [e4]
              simp only []
              unfold setIt
              rw [r2.int e6]
              simp only [g.at hn]
              rw [Rql.length rx, e7]
              rfl
            · rw [if_neg hc]
              exact trivial
        | _ => exact trivial
    | _ => exact trivial
def parOf (i j : Nat) (π : PEnv) : List W → PRS
  | [v, w] => match v.fl, w.fl with
    | .fz, .fz => .nx ((π.set i (some v)).set j (some w))
    | _, _ => .bad
  | _ => .bad
def kqPar (i j : Nat) (π : PEnv) : PR (List W) → PRS
  | .ok ws => parOf i j π ws
  | .exc c => .exc c π
  | .bad => .bad
def pPar (i j : Nat) (a b : PE) : PS := fun π => kqPar i j π (pvL [a, b] π)
theorem ss_par (i j : Nat) {a b : E} {p q : PE} (ha : SimE a p) (hb : SimE b q) : SimS (sPar i j a b) (pPar i j p q) := by
  refine ⟨?_⟩
  intro B Pa O ρ M π h
  have h1 := sx_list (.cons ha (.cons hb .nil)) B Pa O ρ M π h
  unfold pPar sPar
  cases e1 : pvL [p, q] π with
  | bad => exact trivial
  | exc c =>
    rw [e1] at h1
    obtain ⟨M', e2, g1⟩ := h1
    rw [e2]
    exact ⟨ρ, M', O, rfl, Ext.gr g1, h.gr g1⟩
  | ok ws =>
    rw [e1] at h1
    obtain ⟨vs, M1, e2, g1, r1⟩ := h1
    rw [e2]
    unfold kqPar
    simp only [R.st_ok]
    cases r1 with
    | nil => exact trivial
    | cons x1 r1 =>
      cases r1 with
      | nil => exact trivial
      | cons x2 r1 =>
        cases r1 with
        | cons _ _ => exact trivial
        | nil =>
          rename_i v w v' w'
          show RelS B Pa O M (.nx ((ρ.set i (some v)).set j (some v')) M1) (match w.fl, w'.fl with
            | .fz, .fz => .nx ((π.set i (some w)).set j (some w'))
            | _, _ => .bad)
          cases f1 : w.fl with
          | fz =>
            cases f2 : w'.fl with
            | fz => exact ⟨_, M1, O, rfl, Ext.gr g1, ((h.gr g1).put i f1 (x1.fz f1)).put j f2 (x2.fz f2)⟩
            | _ => exact trivial
          | _ => exact trivial
def kqDrop (π : PEnv) : PR W → PRS
  | .ok _ => .nx π
  | .exc c => .exc c π
  | .bad => .bad
def pDrop (e : PE) : PS := fun π => kqDrop π (e π)
theorem ss_drop {e : E} {p : PE} (he : SimE e p) : SimS (sDrop e) (pDrop p) := by
  refine ⟨?_⟩
  intro B Pa O ρ M π h
  have h1 := he B Pa O ρ M π h
  unfold pDrop sDrop
  cases e1 : p π with
  | bad => exact trivial
  | exc c =>
    rw [e1] at h1
    obtain ⟨M', e2, g1⟩ := h1
    rw [e2]
    exact ⟨ρ, M', O, rfl, Ext.gr g1, h.gr g1⟩
  | ok w =>
    rw [e1] at h1
    obtain ⟨v, M1, e2, g1, r1⟩ := h1
    rw [e2]
    exact ⟨ρ, M1, O, rfl, Ext.gr g1, h.gr g1⟩
def retW (w : W) : W := match w with
  | ⟨.bo, tn, t⟩ => ⟨.fr, tn, t⟩
  | ⟨.bd, tn, t⟩ => ⟨.fz, tn, t⟩
  | w => w
def kqRet (π : PEnv) : PR W → PRS
  | .ok w => .ret (retW w)
  | .exc c => .exc c π
  | .bad => .bad
def pRet (e : PE) : PS := fun π => kqRet π (e π)
theorem ss_ret {e : E} {p : PE} (he : SimE e p) : SimS (sRet e) (pRet p) := by
  refine ⟨?_⟩
  intro B Pa O ρ M π h
  have h1 := he B Pa O ρ M π h
  unfold pRet sRet
  cases e1 : p π with
  | bad => exact trivial
  | exc c =>
    rw [e1] at h1
    obtain ⟨M', e2, g1⟩ := h1
    rw [e2]
    exact ⟨ρ, M', O, rfl, Ext.gr g1, h.gr g1⟩
  | ok w =>
    rw [e1] at h1
    obtain ⟨v, M1, e2, g1, r1⟩ := h1
    rw [e2]
    refine ⟨v, M1, O, rfl, Ext.gr g1, ?_⟩
    obtain ⟨fl, tn, t⟩ := w
    cases fl with
    | fr =>
      obtain ⟨n, xs, ts, rfl, a, b, c, d⟩ := r1
      exact ⟨n, xs, ts, rfl, Nat.le_trans h.low a, b, c, d.map fun m c p e => ⟨e, p.1, p.2.2⟩⟩
    | dr =>
      obtain ⟨cs, a, b, c⟩ := r1
      exact ⟨cs, a, b, fun n hn => Nat.le_trans h.low (c n hn).1⟩
    | fz => exact Rq.map (fun m c p e => ⟨e, p.2⟩) r1
    | bo =>
      obtain ⟨n, xs, ts, rfl, a, b, c, d⟩ := r1
      exact ⟨n, xs, ts, rfl, (h.bnd n a).1, b, c, d.map fun m c p e => ⟨e, fun z => p.1 (by rw [z]; exact a), p.2⟩⟩
    | bd => exact r1
def kqIf (a b : PS) (π : PEnv) : PR W → PRS
  | .ok w => match w.t with
    | .bl true => a π
    | .bl false => b π
    | _ => .bad
  | .exc c => .exc c π
  | .bad => .bad
def pIf (c : PE) (a b : PS) : PS := fun π => kqIf a b π (c π)
theorem ss_if {c : E} {a b : St} {p : PE} {q r : PS} (hc : SimE c p) (ha : SimS a q) (hb : SimS b r) : SimS (sIf c a b) (pIf p q r) := by
  refine ⟨?_⟩
  intro B Pa O ρ M π h
  have h1 := hc B Pa O ρ M π h
  unfold pIf sIf
  cases e1 : p π with
  | bad => exact trivial
  | exc c =>
    rw [e1] at h1
    obtain ⟨M', e2, g1⟩ := h1
    rw [e2]
    exact ⟨ρ, M', O, rfl, Ext.gr g1, h.gr g1⟩
  | ok w =>
    rw [e1] at h1
    obtain ⟨v, M1, e2, g1, r1⟩ := h1
    rw [e2]
    unfold kqIf
    simp only [R.st_ok]
    cases e3 : w.t with
    | bl t =>
      rw [r1.bl e3]
      cases t with
      | true => exact RelS.pre (Ext.gr g1) (ha B Pa O ρ M1 π (h.gr g1))
      | false => exact RelS.pre (Ext.gr g1) (hb B Pa O ρ M1 π (h.gr g1))
    | _ => exact trivial
/-! loops -/
def kqWb (ks : List Nat) (k : PS) : PRS → PRS
  | .nx π => k (killP π ks)
  | .ct π => k (killP π ks)
  | .bk π => .nx (killP π ks)
  | r => r
def kqWh (b k : PS) (ks : List Nat) (π : PEnv) : PR W → PRS
  | .ok w => match w.t with
    | .bl false => .nx π
    | .bl true => kqWb ks k (b π)
    | _ => .bad
  | .exc c => .exc c π
  | .bad => .bad
def pWhileN (ks : List Nat) (c : PE) (b : PS) : Nat → PS
  | 0, _ => .bad
  | n + 1, π => kqWh b (pWhileN ks c b n) ks π (c π)
def pWhile (ks : List Nat) (c : PE) (b : PS) : PS := fun π => pWhileN ks c b whileLine (killP π ks)
theorem sWhileN_succ (c : E) (b : St) (n : Nat) (ρ : Env) (M : Store) : sWhileN c b (n + 1) ρ M = (c ρ M).st ρ fun v M1 => match v with
    | .bl false => .nx ρ M1
    | .bl true => match b ρ M1 with
      | .nx ρ' M' => sWhileN c b n ρ' M'
      | .ct ρ' M' => sWhileN c b n ρ' M'
      | .bk ρ' M' => .nx ρ' M'
      | r => r
    | _ => .bad := rfl
theorem ss_whileN (ks : List Nat) {c : E} {b : St} {p : PE} {q : PS} (hc : SimE c p) (hb : SimS b q) : ∀ n, SimS (sWhileN c b n) (pWhileN ks p q n)
  | 0 => ⟨fun B Pa O ρ M π h => trivial⟩
  | n + 1 => by
    refine ⟨?_⟩
    intro B Pa O ρ M π h
    have h1 := hc B Pa O ρ M π h
    unfold pWhileN
    rw [sWhileN_succ]
    cases e1 : p π with
    | bad => exact trivial
    | exc c =>
      rw [e1] at h1
      obtain ⟨M', e2, g1⟩ := h1
      rw [e2]
      exact ⟨ρ, M', O, rfl, Ext.gr g1, h.gr g1⟩
    | ok w =>
      rw [e1] at h1
      obtain ⟨v, M1, e2, g1, r1⟩ := h1
      rw [e2]
      unfold kqWh
      simp only [R.st_ok]
      cases e3 : w.t with
      | bl t =>
        rw [r1.bl e3]
        cases t with
        | false => exact ⟨ρ, M1, O, rfl, Ext.gr g1, h.gr g1⟩
        | true =>
          simp only []
          have h2 := hb B Pa O ρ M1 π (h.gr g1)
          cases e4 : q π with
          | bad => exact trivial
          | nx π1 =>
            rw [e4] at h2
            obtain ⟨ρ1, M2, O1, e5, x1, s1⟩ := h2
            rw [e5]
            exact RelS.pre ((Ext.gr g1).trans x1) (ss_whileN ks hc hb n B Pa O1 ρ1 M2 _ (s1.kills ks))
          | ct π1 =>
            rw [e4] at h2
            obtain ⟨ρ1, M2, O1, e5, x1, s1⟩ := h2
            rw [e5]
            exact RelS.pre ((Ext.gr g1).trans x1) (ss_whileN ks hc hb n B Pa O1 ρ1 M2 _ (s1.kills ks))
          | bk π1 =>
            rw [e4] at h2
            obtain ⟨ρ1, M2, O1, e5, x1, s1⟩ := h2
            rw [e5]
            exact ⟨ρ1, M2, O1, rfl, (Ext.gr g1).trans x1, s1.kills ks⟩
          | ret w =>
            rw [e4] at h2
            obtain ⟨v, M2, O1, e5, x1, s1⟩ := h2
            rw [e5]
            exact ⟨v, M2, O1, rfl, (Ext.gr g1).trans x1, s1⟩
          | exc c π1 =>
            rw [e4] at h2
            obtain ⟨ρ1, M2, O1, e5, x1, s1⟩ := h2
            rw [e5]
            exact ⟨ρ1, M2, O1, rfl, (Ext.gr g1).trans x1, s1⟩
      | _ => exact trivial
theorem ss_while (ks : List Nat) {c : E} {b : St} {p : PE} {q : PS} (hc : SimE c p) (hb : SimS b q) : SimS (sWhile c b) (pWhile ks p q) := ss_kl ks (ss_whileN ks hc hb whileLine)
def kqFb (ks : List Nat) (k : PS) : PRS → PRS
  | .nx π => k (killP π ks)
  | .ct π => k (killP π ks)
  | .bk π => .nx (killP π ks)
  | r => r
def kqFt (ks : List Nat) (b k : PS) : PRS → PRS
  | .nx π => kqFb ks k (b π)
  | _ => .bad
def pForN (ks : List Nat) (t : PT) (b : PS) : List W → PS
  | [], π => .nx π
  | w :: ws, π => kqFt ks b (pForN ks t b ws) (t w π)
def kqFor (ks : List Nat) (t : PT) (b : PS) (π : PEnv) : PR Ws → PRS
  | .ok s => match s.st with
    | true => pForN ks t b s.ws (killP π ks)
    | false => .bad
  | .exc c => .exc c π
  | .bad => .bad
def pFor (ks : List Nat) (s : PSrc) (t : PT) (b : PS) : PS := fun π => kqFor ks t b π (s π)
theorem sForN_succ (it : Itr) (t : Tg) (b : St) (k i : Nat) (ρ : Env) (M : Store) : sForN it t b (k + 1) i ρ M = match it.nxt i M with
    | none => .bad
    | some v => match t v ρ M with
      | .nx ρ1 M1 => match b ρ1 M1 with
        | .nx ρ' M' => sForN it t b k (i + 1) ρ' M'
        | .ct ρ' M' => sForN it t b k (i + 1) ρ' M'
        | .bk ρ' M' => .nx ρ' M'
        | r => r
      | _ => .bad := rfl
theorem ss_forN {ks : List Nat} {t : Tg} {t' : PT} {b : St} {q : PS} (ht : SimT t t') (hb : SimS b q) {B : Nat} {Pa O0 : Nat → Prop} {M0 : Store} {it : Itr} {s : Ws} (hst : s.st = true) (wk : Wk B Pa O0 M0 it s) :
    ∀ (ws : List W) (i : Nat) (O : Nat → Prop) (ρ : Env) (M : Store) (π : PEnv), ws = s.ws.drop i → Ext O0 M0 O M → PSt B Pa O ρ M π → RelS B Pa O M (sForN it t b ws.length i ρ M) (pForN ks t' q ws π)
  | [], i, O, ρ, M, π, ew, x, st => by
    have f := (wk.go O M (by rw [if_pos hst]; exact x)).2
    show RelS B Pa O M (sForN it t b 0 i ρ M) (.nx π)
    rw [sForN_end f]
    exact ⟨ρ, M, O, rfl, Ext.refl O M, st⟩
  | w :: ws, i, O, ρ, M, π, ew, x, st => by
    have hw : s.ws[i]? = some w := by
      have : (s.ws.drop i)[0]? = some w := by rw [← ew]; rfl
      rw [List.getElem?_drop] at this
      exact this
    have hd : ws = s.ws.drop (i + 1) := by
      have : (w :: ws).drop 1 = (s.ws.drop i).drop 1 := by rw [ew]
      rw [List.drop_drop] at this
      exact this
    obtain ⟨v, e1, rv⟩ := (wk.go O M (by rw [if_pos hst]; exact x)).1 i w hw
    have h1 := ht B B Pa O ρ M π v w st rv
    show RelS B Pa O M (sForN it t b (ws.length + 1) i ρ M) (kqFt ks q (pForN ks t' q ws) (t' w π))
    rw [sForN_succ, e1]
    simp only []
    cases e2 : t' w π with
    | nx π1 =>
      rw [e2] at h1
      obtain ⟨ρ1, e3, s1⟩ := h1
      rw [e3]
      unfold kqFt
      simp only []
      have h2 := hb B Pa O ρ1 M π1 s1
      cases e4 : q π1 with
      | bad => exact trivial
      | nx π2 =>
        rw [e4] at h2
        obtain ⟨ρ2, M2, O2, e5, x2, s2⟩ := h2
        rw [e5]
        exact RelS.pre x2 (ss_forN ht hb hst wk ws (i + 1) O2 ρ2 M2 _ hd (x.trans x2) (s2.kills ks))
      | ct π2 =>
        rw [e4] at h2
        obtain ⟨ρ2, M2, O2, e5, x2, s2⟩ := h2
        rw [e5]
        exact RelS.pre x2 (ss_forN ht hb hst wk ws (i + 1) O2 ρ2 M2 _ hd (x.trans x2) (s2.kills ks))
      | bk π2 =>
        rw [e4] at h2
        obtain ⟨ρ2, M2, O2, e5, x2, s2⟩ := h2
        rw [e5]
        exact ⟨ρ2, M2, O2, rfl, x2, s2.kills ks⟩
      | ret w =>
        rw [e4] at h2
        obtain ⟨v, M2, O2, e5, x2, s2⟩ := h2
        rw [e5]
        exact ⟨v, M2, O2, rfl, x2, s2⟩
      | exc c π2 =>
        rw [e4] at h2
        obtain ⟨ρ2, M2, O2, e5, x2, s2⟩ := h2
        rw [e5]
        exact ⟨ρ2, M2, O2, rfl, x2, s2⟩
    | _ => exact trivial
theorem ss_for (ks : List Nat) {s : Src} {s' : PSrc} {t : Tg} {t' : PT} {b : St} {q : PS} (hs : SimI s s') (ht : SimT t t') (hb : SimS b q) : SimS (sFor s t b) (pFor ks s' t' q) := by
  refine ⟨?_⟩
  intro B Pa O ρ M π h
  have h1 := hs B Pa O ρ M π h
  unfold pFor sFor
  cases e1 : s' π with
  | bad => exact trivial
  | exc c =>
    rw [e1] at h1
    obtain ⟨M', e2, g1⟩ := h1
    rw [e2]
    exact ⟨ρ, M', O, rfl, Ext.gr g1, h.gr g1⟩
  | ok z =>
    rw [e1] at h1
    obtain ⟨it, M1, e2, g1, wk⟩ := h1
    rw [e2]
    unfold kqFor
    simp only [R.st_ok]
    cases hst : z.st with
    | false => exact trivial
    | true =>
      rw [wk.cnt]
      exact RelS.pre (Ext.gr g1) (ss_forN ht hb hst wk z.ws 0 O ρ M1 _ rfl (Ext.refl O M1) ((h.gr g1).kills ks))
/-! try -/
structure PHd where
  tup : Bool
  cs : List String
  slot : Option Nat
  st : PS
def pSetO (o : Option Nat) (c : String) (π : PEnv) : PEnv := match o with
  | some i => π.set i (some (.at (.exc c)))
  | none => π
def pUnO (o : Option Nat) (π : PEnv) : PEnv := match o with
  | some i => π.set i none
  | none => π
def kqHd (o : Option Nat) : PRS → PRS
  | .nx π => .nx (pUnO o π)
  | .bk π => .bk (pUnO o π)
  | .ct π => .ct (pUnO o π)
  | .ret w => .ret w
  | .exc _ _ => .bad
  | .bad => .bad
def pHandle : List PHd → String → PS
  | [], c, π => .exc c π
  | h :: r, c, π => if h.cs.any (isX c) = true then (if h.tup = true then .bad else kqHd h.slot (h.st (pSetO h.slot c π))) else pHandle r c π
inductive SimHs : List Hd → List PHd → Prop
  | nil : SimHs [] []
  | cons {t : Bool} {cs : List String} {o : Option Nat} {s : St} {p : PS} {hs : List Hd} {ps : List PHd} : SimS s p → SimHs hs ps → SimHs (⟨t, cs, o, s⟩ :: hs) (⟨t, cs, o, p⟩ :: ps)
theorem ss_handle : ∀ {hs : List Hd} {ps : List PHd}, SimHs hs ps → ∀ (c : String), SimS (handle hs c) (pHandle ps c)
  | _, _, .nil, c => ⟨fun B Pa O ρ M π h => ⟨ρ, M, O, rfl, Ext.refl O M, h⟩⟩
  | _, _, .cons (t := t) (cs := cs) (o := o) (s := s) (p := p) (hs := hs) (ps := ps) a b, c => by
    refine ⟨?_⟩
    intro B Pa O ρ M π h
    unfold handle pHandle
    by_cases h1 : cs.any (isX c) = true
    · rw [if_pos h1, if_pos h1]
      by_cases h2 : t = true
      · rw [if_pos h2, if_pos h2]
        exact trivial
      · rw [if_neg h2, if_neg h2]
        have st : PSt B Pa O (setO o c ρ) M (pSetO o c π) := by
          cases o with
          | none => exact h
          | some i => exact h.put i rfl (Rq.exc c)
        have un : ∀ {O' : Nat → Prop} {ρ' : Env} {M' : Store} {π' : PEnv}, PSt B Pa O' ρ' M' π' → PSt B Pa O' (unO o ρ') M' (pUnO o π') := fun {O' ρ' M' π'} h => by
          cases o with
          | none => exact h
          | some i => exact h.wipe1 i
        have h3 := a B Pa O _ M _ st
        simp only []
        cases e : p (pSetO o c π) with
        | bad => exact trivial
        | exc _ _ => exact trivial
        | ret w =>
          rw [e] at h3
          obtain ⟨v, M', O', e1, x1, r1⟩ := h3
          rw [e1]
          exact ⟨v, M', O', rfl, x1, r1⟩
        | _ =>
          rw [e] at h3
          obtain ⟨v, M', O', e1, x1, r1⟩ := h3
          rw [e1]
          exact ⟨_, M', O', rfl, x1, un r1⟩
    · rw [if_neg h1, if_neg h1]
      exact ss_handle b c B Pa O ρ M π h
def kqTry (hs : List PHd) (els : PS) : PRS → PRS
  | .exc c π => pHandle hs c π
  | .nx π => els π
  | r => r
def pTry (b : PS) (hs : List PHd) (els : PS) : PS := fun π => kqTry hs els (b π)
theorem ss_try {b els : St} {p q : PS} {hs : List Hd} {ps : List PHd} (hb : SimS b p) (hh : SimHs hs ps) (he : SimS els q) : SimS (sTry b hs els) (pTry p ps q) := by
  refine ⟨?_⟩
  intro B Pa O ρ M π h
  have h1 := hb B Pa O ρ M π h
  unfold sTry pTry
  cases e : p π with
  | bad => exact trivial
  | nx π1 =>
    rw [e] at h1
    obtain ⟨ρ1, M1, O1, e1, x1, s1⟩ := h1
    rw [e1]
    exact RelS.pre x1 (he B Pa O1 ρ1 M1 π1 s1)
  | exc c π1 =>
    rw [e] at h1
    obtain ⟨ρ1, M1, O1, e1, x1, s1⟩ := h1
    rw [e1]
    exact RelS.pre x1 (ss_handle hh c B Pa O1 ρ1 M1 π1 s1)
  | _ =>
    rw [e] at h1
    obtain ⟨ρ1, M1, O1, e1, x1, s1⟩ := h1
    rw [e1]
    exact ⟨ρ1, M1, O1, rfl, x1, s1⟩
/-! functions -/
def kqFn : PRS → PR W
  | .nx _ => .ok (.at .non)
  | .ret w => .ok w
  | .exc c _ => .exc c
  | _ => .bad
def pFn (np nn : Nat) (b : PS) : PF := fun ts => if ts.length = np then kqFn (b (ts.map (fun t => some (nW .fz true t)) ++ List.replicate (nn - np) none)) else .bad
theorem sf_fn (np nn : Nat) {b : St} {p : PS} (hb : SimS b p) : SimF (mkFn np nn b) (pFn np nn p) := by
  refine ⟨?_⟩
  intro Pa M vs ts r
  unfold pFn mkFn
  rw [Rql.length r]
  by_cases hl : ts.length = np
  · rw [if_pos hl, if_pos hl]
    have lv := Rql.length r
    have k : ∀ (i : Nat) (w : W), (ts.map (fun t => some (nW .fz true t)) ++ List.replicate (nn - np) none)[i]? = some (some w) → ∃ t v, ts[i]? = some t ∧ w = nW .fz true t ∧ vs[i]? = some v ∧ Rq Pa M v t := fun i w e => by
      by_cases hi : i < ts.length
      · rw [List.getElem?_append_left (by rw [List.length_map]; exact hi), List.getElem?_map] at e
        obtain ⟨t, ht, e⟩ := Option.map_eq_some_iff.mp e
        cases e
        obtain ⟨v, hv, rv⟩ := Rql.get r ht
        exact ⟨t, v, ht, rfl, hv, rv⟩
      · rw [List.getElem?_append_right (by rw [List.length_map]; omega), List.getElem?_replicate] at e
        split at e <;> cases e
    have nf : ∀ t, (nW .fz true t).fl = .fz := fun t => by
      unfold nW
      split <;> rfl
    have st : PSt M.length Pa (fun _ => False) (vs.map some ++ List.replicate (nn - np) none) M (ts.map (fun t => some (nW .fz true t)) ++ List.replicate (nn - np) none) := by
      refine ⟨by simp [lv], Nat.le_refl _, fun n o => o.elim, fun i w e f => ?_, fun a b w w' v v' cs cs' n e1 e2 r1 r2 o1 o2 m1 m2 => ?_, fun i w e => ?_, fun i w e => ?_⟩
      · obtain ⟨t, v, _, rfl, _⟩ := k i w e
        rw [nf] at f
        cases f
      · obtain ⟨t, v, _, rfl, _⟩ := k a w e1
        rw [nf] at o1
        exact o1.elim
      · obtain ⟨t, v, h1, rfl, h2, h3⟩ := k i w e
        have rw1 : RW M.length Pa (fun _ => False) M.length M v (nW .fz true t) := RW.nW (Rq.map (fun m c p e => ⟨e, fun z => z, .inr ⟨rfl, p⟩⟩) h3)
        refine ⟨v, ?_, by unfold RV; rw [nf]; exact rw1⟩
        rw [List.getElem?_append_left (by rw [List.length_map]; exact (List.getElem?_eq_some_iff.mp h2).1), List.getElem?_map, h2]
        rfl
      · obtain ⟨t, v, _, rfl, _⟩ := k i w e
        rw [nf]
        rfl
    have h1 := hb M.length Pa (fun _ => False) _ M _ st
    have gr : ∀ {O' : Nat → Prop} {M' : Store}, Ext (fun _ => False) M O' M' → Gr M M' := fun x => Gr.of_prefix x.1 fun m hm => (x.2 m hm fun z => z).1
    cases e : p (ts.map (fun t => some (nW .fz true t)) ++ List.replicate (nn - np) none) with
    | nx π1 =>
      rw [e] at h1
      obtain ⟨ρ1, M1, O1, e1, x1, s1⟩ := h1
      rw [e1]
      exact ⟨.non, M1, rfl, gr x1, Rq.non⟩
    | ret w =>
      rw [e] at h1
      obtain ⟨v, M1, O1, e1, x1, s1⟩ := h1
      rw [e1]
      exact ⟨v, M1, rfl, gr x1, s1⟩
    | exc c π1 =>
      rw [e] at h1
      obtain ⟨ρ1, M1, O1, e1, x1, s1⟩ := h1
      rw [e1]
      exact ⟨M1, rfl, gr x1⟩
    | _ => exact trivial
  · rw [if_neg hl]
    exact trivial
/-! nothing of these raises -/
theorem nx_int (g : Int → Int → V) (ok : Int → Int → Bool) : NoX2 (qInt g ok) := fun w w' c h => by
  unfold qInt at h
  repeat' split at h
  all_goals cases h
theorem nx_add : NoX2 qAdd := fun w w' c h => by
  unfold qAdd at h
  repeat' split at h
  all_goals cases h
theorem nx_mul : NoX2 qMul := fun w w' c h => by
  unfold qMul at h
  repeat' split at h
  all_goals cases h
theorem nx_eqG (n : Bool) : NoX2 (qEqG n) := fun w w' c h => by
  unfold qEqG at h
  split at h <;> cases h
theorem nx_isn : NoX2 qIsN := fun w w' c h => by
  unfold qIsN at h
  split at h <;> cases h
theorem nx_notn : NoX2 qNotN := fun w w' c h => by
  unfold qNotN at h
  split at h <;> cases h
theorem nx_inG (n : Bool) : NoX2 (qInG n) := fun w w' c h => by
  unfold qInG at h
  repeat' split at h
  all_goals cases h
theorem nx_ix : NoX2 qIx := fun w w' c h => by
  unfold qIx at h
  repeat' split at h
  all_goals cases h
theorem nu_neg : NoX1 qNeg := fun w c h => by
  unfold qNeg at h
  split at h <;> cases h
theorem nu_abs : NoX1 qAbs := fun w c h => by
  unfold qAbs at h
  split at h <;> cases h
theorem nu_len : NoX1 qLen := fun w c h => by
  unfold qLen at h
  repeat' split at h
  all_goals cases h
theorem nu_list : NoX1 qList := fun w c h => by
  unfold qList at h
  split at h <;> cases h
theorem nu_tup : NoX1 qTup := fun w c h => by
  unfold qTup at h
  split at h <;> cases h
theorem nu_allG (g : List Bool → Bool) : NoX1 (qAllG g) := fun w c h => by
  unfold qAllG at h
  repeat' split at h
  all_goals cases h
theorem nu_int : NoX1 qToInt := fun w c h => by
  unfold qToInt at h
  split at h <;> cases h
theorem nu_is (ts : List String) : NoX1 (qIs ts) := fun w c h => by
  unfold qIs at h
  repeat' split at h
  all_goals cases h
/-- a law that tells True over trees tells it over the store -/
theorem SimF.law {F : Fn} {G : PF} (h : SimF F G) {ns : List Int} (e : G [.ro (ns.map .int)] = .ok (.at (.bl true))) : ∃ M, F [.ref 0] [.ro (ns.map .int)] = .ok (.bl true) M := by
  have r : ∀ ns : List Int, Rql (fun _ => True) [.ro (ns.map .int)] (ns.map .int) (ns.map .int) := fun ns => by
    generalize [Cell.ro (ns.map .int)] = M
    induction ns with
    | nil => exact .nil
    | cons n ns ih => exact .cons (.int n) ih
  have q := h.go (fun _ => True) [.ro (ns.map .int)] [.ref 0] [.ro (ns.map .int)] (.cons (.ro rfl trivial (r ns)) .nil)
  rw [e] at q
  obtain ⟨v, M', e1, _, f⟩ := q
  have f2 : Rq (Lv 1 (fun _ => True) false) M' v (.bl true) := f
  cases f2
  exact ⟨M', e1⟩
theorem SimF.run {F : Fn} {G : PF} (h : SimF F G) (Pa : Nat → Prop) (M : Store) (vs : List Val) (ts : List V) (r : Rql Pa M vs ts) {w : W} (e : G ts = .ok w) : ∃ v M', F vs M = .ok v M' ∧ Gr M M' ∧ RF M.length Pa M' v w := by
  have q := h.go Pa M vs ts r
  rw [e] at q
  exact q
end Mn
end
section
set_option Elab.async false
set_option autoImplicit false
set_option maxRecDepth 100000
set_option linter.all false
/-! Running over trees by rewriting. -/
namespace Mn
section
variable (π : PEnv) (a b c e : PE) (f g : PO) (u : PU) (x y z w : W) (es : List PE) (k : String) (s t : PS)
theorem vW_at (t : V) : vW (.at t) = .at t := id rfl
theorem vW_fz (tn : Bool) (t : V) : vW ⟨.fz, tn, t⟩ = ⟨.fz, tn, t⟩ := id rfl
theorem vW_dr (tn : Bool) (t : V) : vW ⟨.dr, tn, t⟩ = ⟨.bd, tn, t⟩ := id rfl
theorem isB_dr : isB .dr = false := id rfl
theorem isD_dr : isD .dr = false := id rfl
theorem vW_fr (tn : Bool) (t : V) : vW ⟨.fr, tn, t⟩ = ⟨.bo, tn, t⟩ := id rfl
theorem pVar_k {i : Nat} : pVar i π = match π[i]? with
  | some (some w) => .ok (vW w)
  | _ => .bad := rfl
theorem pC_int (i : Int) : pC (.int i) π = .ok (.at (.int i)) := id rfl
theorem pC_bl (i : Bool) : pC (.bl i) π = .ok (.at (.bl i)) := id rfl
theorem pC_str (i : List Nat) : pC (.str i) π = .ok (.at (.str i)) := id rfl
theorem pC_non : pC .non π = .ok (.at .non) := id rfl
theorem pC_t2 (i j : Int) : pC (.tup [.int i, .int j]) π = .ok (.at (.tup [.int i, .int j])) := id rfl
theorem pBin_k : pBin g a b π = kq1 g b π (a π) := id rfl
theorem kq1_ok : kq1 g b π (.ok x) = kq2 g x (b π) := id rfl
theorem kq1_exc : kq1 g b π (.exc k) = .exc k := id rfl
theorem kq2_ok : kq2 g x (.ok y) = g x y := id rfl
theorem kq2_exc : kq2 g x (.exc k) = .exc k := id rfl
theorem pUn_k : pUn u a π = kqU u (a π) := id rfl
theorem kqU_ok : kqU u (.ok x) = u x := id rfl
theorem kqU_exc : kqU u (.exc k) = .exc k := id rfl
theorem pAnd_k : pAnd a b π = kqAnd b π (a π) := id rfl
theorem kqAnd_t : kqAnd b π (.ok (.at (.bl true))) = b π := id rfl
theorem kqAnd_f : kqAnd b π (.ok (.at (.bl false))) = .ok (.at (.bl false)) := id rfl
theorem pOr_k : pOr a b π = kqOr b π (a π) := id rfl
theorem kqOr_t : kqOr b π (.ok (.at (.bl true))) = .ok (.at (.bl true)) := id rfl
theorem kqOr_f : kqOr b π (.ok (.at (.bl false))) = b π := id rfl
theorem pNot_k : pNot a π = kqNot (a π) := id rfl
theorem kqNot_ok (q : Bool) : kqNot (.ok (.at (.bl q))) = .ok (.at (.bl (!q))) := id rfl
theorem pChain_k : pChain f g a b c π = kqC0 f g b c π (a π) := id rfl
theorem kqC0_ok : kqC0 f g b c π (.ok x) = kqC1 f g x c π (b π) := id rfl
theorem kqC1_ok : kqC1 f g x c π (.ok y) = kqC2 g c y π (f x y) := id rfl
theorem kqC2_t : kqC2 g c y π (.ok (.at (.bl true))) = kqC3 g y (c π) := id rfl
theorem kqC2_f : kqC2 g c y π (.ok (.at (.bl false))) = .ok (.at (.bl false)) := id rfl
theorem kqC3_ok : kqC3 g y (.ok z) = g y z := id rfl
theorem pvL_nil : pvL [] π = .ok [] := id rfl
theorem kqL1_ok : kqL1 es π (.ok w) = kqL2 w (pvL es π) := id rfl
theorem kqL1_exc : kqL1 es π (.exc k) = .exc k := id rfl
theorem kqL2_ok (ws : List W) : kqL2 w (.ok ws) = .ok (w :: ws) := id rfl
theorem kqL2_exc : kqL2 w (.exc k) = .exc k := id rfl
theorem pTup_k : pTup es π = kqTup (pvL es π) := id rfl
theorem pLst_k : pLst es π = kqLst (pvL es π) := id rfl
theorem kqTup_ok {ws : List W} (h : ws.length ≤ szLine) : kqTup (.ok ws) = .ok (mkT (anyB ws) (anyT ws) (ws.map W.t)) := if_pos h
theorem kqLst_ok {ws : List W} (h : ws.length ≤ szLine) : kqLst (.ok ws) = .ok (mkL (anyB ws) (anyT ws) (ws.map W.t)) := if_pos h
theorem kqTup_exc : kqTup (.exc k) = .exc k := id rfl
theorem kqLst_exc : kqLst (.exc k) = .exc k := id rfl
theorem kqTup_1 : kqTup (.ok [x]) = .ok (mkT (anyB [x]) (anyT [x]) [x.t]) := id rfl
theorem kqTup_2 : kqTup (.ok [x, y]) = .ok (mkT (anyB [x, y]) (anyT [x, y]) [x.t, y.t]) := id rfl
theorem kqTup_3 : kqTup (.ok [x, y, z]) = .ok (mkT (anyB [x, y, z]) (anyT [x, y, z]) [x.t, y.t, z.t]) := id rfl
theorem kqTup_4 : kqTup (.ok [x, y, z, w]) = .ok (mkT (anyB [x, y, z, w]) (anyT [x, y, z, w]) [x.t, y.t, z.t, w.t]) := id rfl
theorem kqLst_0 : kqLst (.ok []) = .ok (mkL false false []) := id rfl
theorem kqLst_1 : kqLst (.ok [x]) = .ok (mkL (anyB [x]) (anyT [x]) [x.t]) := id rfl
theorem kqLst_2 : kqLst (.ok [x, y]) = .ok (mkL (anyB [x, y]) (anyT [x, y]) [x.t, y.t]) := id rfl
theorem kqLst_3 : kqLst (.ok [x, y, z]) = .ok (mkL (anyB [x, y, z]) (anyT [x, y, z]) [x.t, y.t, z.t]) := id rfl
theorem kqLst_4 : kqLst (.ok [x, y, z, w]) = .ok (mkL (anyB [x, y, z, w]) (anyT [x, y, z, w]) [x.t, y.t, z.t, w.t]) := id rfl
theorem anyB_nil : anyB [] = false := id rfl
theorem anyB_cons (w : W) (ws : List W) : anyB (w :: ws) = (isB w.fl || anyB ws) := id rfl
theorem anyT_nil : anyT [] = false := id rfl
theorem anyT_cons (w : W) (ws : List W) : anyT (w :: ws) = (w.tn || anyT ws) := id rfl
theorem at_fl (t : V) : (W.at t).fl = .fz := id rfl
theorem at_tn (t : V) : (W.at t).tn = false := id rfl
theorem at_t (t : V) : (W.at t).t = t := id rfl
theorem mk_fl (fl : Fl) (tn : Bool) (t : V) : (W.mk fl tn t).fl = fl := id rfl
theorem mk_tn (fl : Fl) (tn : Bool) (t : V) : (W.mk fl tn t).tn = tn := id rfl
theorem mk_t (fl : Fl) (tn : Bool) (t : V) : (W.mk fl tn t).t = t := id rfl
theorem isB_fr : isB .fr = false := id rfl
theorem isB_fz : isB .fz = false := id rfl
theorem isB_bo : isB .bo = true := id rfl
theorem isB_bd : isB .bd = true := id rfl
theorem isD_fr : isD .fr = false := id rfl
theorem isD_fz : isD .fz = false := id rfl
theorem isD_bo : isD .bo = false := id rfl
theorem isD_bd : isD .bd = true := id rfl
theorem nW_at {fl : Fl} {tn : Bool} {t : V} (h : t.hasL = false) : nW fl tn t = .at t := by
  unfold nW
  rw [h]
  rfl
theorem nW_l {fl : Fl} {tn : Bool} {t : V} (h : t.hasL = true) : nW fl tn t = ⟨fl, tn, t⟩ := if_pos h
theorem elW_at {ds tn : Bool} {t : V} (h : t.hasL = false) : elW ds tn t = .at t := nW_at h
theorem elW_f {tn : Bool} {t : V} (h : t.hasL = true) : elW false tn t = ⟨.fz, tn, t⟩ := nW_l h
theorem elW_t {tn : Bool} {t : V} (h : t.hasL = true) : elW true tn t = ⟨.bd, tn, t⟩ := nW_l h
theorem mkT_at {ds tn : Bool} {xs : List V} (h : V.hasLs xs = false) : mkT ds tn xs = .at (.tup xs) := nW_at h
theorem mkT_f {tn : Bool} {xs : List V} (h : V.hasLs xs = true) : mkT false tn xs = ⟨.fz, tn, .tup xs⟩ := nW_l h
theorem mkT_t {tn : Bool} {xs : List V} (h : V.hasLs xs = true) : mkT true tn xs = ⟨.bd, tn, .tup xs⟩ := nW_l h
theorem mkL_at {ds tn : Bool} {xs : List V} (h : V.hasLs xs = false) : mkL ds tn xs = ⟨.fr, false, .lst xs⟩ := by
  unfold mkL
  rw [h, Bool.and_false, Bool.and_false]
  rfl
theorem mkL_f {tn : Bool} {xs : List V} (h : V.hasLs xs = true) : mkL false tn xs = ⟨.fr, tn, .lst xs⟩ := by
  unfold mkL
  rw [h, Bool.and_true, Bool.and_true]
  rfl
theorem mkL_t {tn : Bool} {xs : List V} (h : V.hasLs xs = true) : mkL true tn xs = ⟨.bd, tn, .lst xs⟩ := by
  unfold mkL
  rw [h, Bool.and_true, Bool.and_true]
  rfl
theorem nW_k (fl : Fl) (tn : Bool) (t : V) : nW fl tn t = bif t.hasL then ⟨fl, tn, t⟩ else .at t := by
  cases h : t.hasL
  · exact nW_at h
  · exact nW_l h
theorem elW_k (ds tn : Bool) (t : V) : elW ds tn t = bif t.hasL then ⟨bif ds then .bd else .fz, tn, t⟩ else .at t := by
  cases h : t.hasL
  · exact elW_at h
  · cases ds
    · exact elW_f h
    · exact elW_t h
theorem mkT_k (ds tn : Bool) (xs : List V) : mkT ds tn xs = bif V.hasLs xs then ⟨bif ds then .bd else .fz, tn, .tup xs⟩ else .at (.tup xs) := elW_k ds tn (.tup xs)
theorem mkL_k (ds tn : Bool) (xs : List V) : mkL ds tn xs = ⟨bif (ds && V.hasLs xs) then .bd else .fr, tn && V.hasLs xs, .lst xs⟩ := by
  unfold mkL
  cases ds <;> cases V.hasLs xs <;> rfl
/-! calls -/
theorem pCall_k (G : PF) : pCall G es π = kqCall G (pvL es π) := id rfl
theorem kqCall_ok (G : PF) (ws : List W) : kqCall G (.ok ws) = kqRes ws (G (ws.map W.t)) := id rfl
theorem kqCall_exc (G : PF) : kqCall G (.exc k) = .exc k := id rfl
theorem kqRes_ok (ws : List W) : kqRes ws (.ok w) = .ok (callW ws w) := id rfl
theorem kqRes_exc (ws : List W) : kqRes ws (.exc k) = .exc k := id rfl
theorem callW_at (ws : List W) (t : V) : callW ws (.at t) = .at t := id rfl
theorem callW_f (ws : List W) (fl : Fl) (t : V) : callW ws ⟨fl, false, t⟩ = ⟨fl, false, t⟩ := id rfl
theorem callW_t (ws : List W) (fl : Fl) (t : V) (h : anyB ws = false) : callW ws ⟨fl, true, t⟩ = nW fl (anyT ws) t := by
  unfold callW
  simp only [h]
  rfl
theorem fn_1 {nn : Nat} {p : PS} {a : V} : pFn 1 nn p [a] = kqFn (p ([some (nW .fz true a)] ++ List.replicate (nn - 1) none)) := id rfl
theorem fn_2 {nn : Nat} {p : PS} {a b : V} : pFn 2 nn p [a, b] = kqFn (p ([some (nW .fz true a), some (nW .fz true b)] ++ List.replicate (nn - 2) none)) := id rfl
theorem fn_3 {nn : Nat} {p : PS} {a b c : V} : pFn 3 nn p [a, b, c] = kqFn (p ([some (nW .fz true a), some (nW .fz true b), some (nW .fz true c)] ++ List.replicate (nn - 3) none)) := id rfl
theorem fn_4 {nn : Nat} {p : PS} {a b c d : V} : pFn 4 nn p [a, b, c, d] = kqFn (p ([some (nW .fz true a), some (nW .fz true b), some (nW .fz true c), some (nW .fz true d)] ++ List.replicate (nn - 4) none)) := id rfl
theorem fn_5 {nn : Nat} {p : PS} {a b c d e : V} : pFn 5 nn p [a, b, c, d, e] = kqFn (p ([some (nW .fz true a), some (nW .fz true b), some (nW .fz true c), some (nW .fz true d), some (nW .fz true e)] ++ List.replicate (nn - 5) none)) := id rfl
theorem fn_6 {nn : Nat} {p : PS} {a b c d e f : V} : pFn 6 nn p [a, b, c, d, e, f] = kqFn (p ([some (nW .fz true a), some (nW .fz true b), some (nW .fz true c), some (nW .fz true d), some (nW .fz true e), some (nW .fz true f)] ++ List.replicate (nn - 6) none)) := id rfl
theorem kqFn_nx : kqFn (.nx π) = .ok (.at .non) := id rfl
theorem kqFn_ret : kqFn (.ret w) = .ok w := id rfl
theorem kqFn_exc : kqFn (.exc k π) = .exc k := id rfl
/-! parts -/
theorem pSl_k (lo hi : Option PE) : pSl e lo hi π = kqSl1 lo hi π (e π) := id rfl
theorem kqSl1_ok (lo hi : Option PE) : kqSl1 lo hi π (.ok w) = kqSl2 w hi π (pPart lo π) := id rfl
theorem kqSl2_ok (hi : Option PE) (l : Option Int) : kqSl2 w hi π (.ok l) = kqSl3 w l (pPart hi π) := id rfl
theorem kqSl3_ok (l h : Option Int) : kqSl3 w l (.ok h) = qCut w l h := id rfl
theorem pPart_n : pPart none π = .ok none := id rfl
theorem pPart_s : pPart (some e) π = kqPt (e π) := id rfl
theorem kqPt_ok (i : Int) : kqPt (.ok (.at (.int i))) = .ok (some i) := id rfl
/-! walks -/
theorem pList_k : pList e π = kqSeq (e π) := id rfl
theorem pRev_k : pRev e π = kqRev (e π) := id rfl
theorem pEnum_k : pEnum e π = kqEnum (e π) := id rfl
theorem pZip_k : pZip a b π = kqZip1 b π (a π) := id rfl
theorem kqZip1_ok : kqZip1 b π (.ok w) = kqZip2 w (b π) := id rfl
theorem kqZip2_ok : kqZip2 w (.ok x) = zipOf w x := id rfl
theorem pRange1_k : pRange1 e π = kqR1 (e π) := id rfl
theorem pRange2_k : pRange2 a b π = kqR21 b π (a π) := id rfl
theorem kqR21_ok : kqR21 b π (.ok w) = kqR22 w (b π) := id rfl
theorem kqR22_ok : kqR22 w (.ok x) = r2Of w x := id rfl
theorem kqR1_nat {n : Nat} (h : (n : Int) < 2 ^ 62) : kqR1 (.ok (.at (.int n))) = .ok ⟨(List.range n).map fun (i : Nat) => W.at (.int (i : Int)), true⟩ := by
  unfold kqR1
  simp only [W.at]
  rw [if_pos (by omega), Int.toNat_natCast]
  unfold rangeW
  refine congrArg (fun ws => PR.ok (Ws.mk ws true)) (List.map_congr_left fun i _ => ?_)
  rw [Int.zero_add]
  rfl
theorem r2Of_nat {m n : Nat} (h : (m : Int) < 2 ^ 62) (h' : (n : Int) < 2 ^ 62) : r2Of (.at (.int m)) (.at (.int n)) = .ok ⟨(List.range (n - m)).map fun (i : Nat) => W.at (.int ((m + i : Nat) : Int)), true⟩ := by
  unfold r2Of
  simp only [W.at]
  rw [if_pos (by omega), show ((n : Int) - m).toNat = n - m by omega]
  unfold rangeW
  congr 2
theorem pLc_k (i : PSrc) (t : PT) (vs : List Nat) : pLc i t vs c e π = kqLc t c e (killP π vs) (i π) := id rfl
theorem killP_nil : killP π [] = π := id rfl
theorem killP_cons (v : Nat) (vs : List Nat) : killP π (v :: vs) = (killP π vs).set v none := id rfl
theorem ptName_at (i : Nat) (t : V) : ptName i (.at t) π = .nx (π.set i (some (.at t))) := id rfl
theorem ptName_fz (i : Nat) (tn : Bool) (t : V) : ptName i ⟨.fz, tn, t⟩ π = .nx (π.set i (some ⟨.fz, tn, t⟩)) := id rfl
theorem ptTup_k {ts : List PT} {w : W} {xs : List V} (h : qSeq w = some xs) (l : xs.length = ts.length) : ptTup ts w π = ptAll ts (xs.map (elW (isD w.fl) w.tn)) π := by
  unfold ptTup
  rw [h]
  exact if_pos l
theorem ptTup_at {ts : List PT} {xs : List V} (l : xs.length = ts.length) : ptTup ts (.at (.tup xs)) π = ptAll ts (xs.map (elW false false)) π := ptTup_k π rfl l
theorem ptTup_fz {ts : List PT} {tn : Bool} {xs : List V} (l : xs.length = ts.length) : ptTup ts ⟨.fz, tn, .tup xs⟩ π = ptAll ts (xs.map (elW false tn)) π := ptTup_k π rfl l
theorem ptTup_a2 (s t : PT) (x y : V) : ptTup [s, t] (.at (.tup [x, y])) π = ptAll [s, t] [elW false false x, elW false false y] π := id rfl
theorem ptTup_a3 (s t r : PT) (x y z : V) : ptTup [s, t, r] (.at (.tup [x, y, z])) π = ptAll [s, t, r] [elW false false x, elW false false y, elW false false z] π := id rfl
theorem ptTup_f2 (s t : PT) (tn : Bool) (x y : V) : ptTup [s, t] ⟨.fz, tn, .tup [x, y]⟩ π = ptAll [s, t] [elW false tn x, elW false tn y] π := id rfl
theorem ptTup_f3 (s t r : PT) (tn : Bool) (x y z : V) : ptTup [s, t, r] ⟨.fz, tn, .tup [x, y, z]⟩ π = ptAll [s, t, r] [elW false tn x, elW false tn y, elW false tn z] π := id rfl
def kqAll (ts : List PT) (ws : List W) : PRS → PRS
  | .nx π => ptAll ts ws π
  | _ => .bad
theorem ptAll_nil : ptAll [] [] π = .nx π := id rfl
theorem ptAll_cons (t : PT) (ts : List PT) (ws : List W) : ptAll (t :: ts) (w :: ws) π = kqAll ts ws (t w π) := by
  conv => lhs; unfold ptAll
  cases t w π <;> rfl
theorem kqAll_nx (ts : List PT) (ws : List W) : kqAll ts ws (.nx π) = ptAll ts ws π := id rfl
/-! statements -/
theorem pSeq_k : pSeq s t π = kqSeq2 t (s π) := id rfl
theorem kqSeq2_nx : kqSeq2 t (.nx π) = t π := id rfl
theorem kqSeq2_ret : kqSeq2 t (.ret w) = .ret w := id rfl
theorem kqSeq2_ct : kqSeq2 t (.ct π) = .ct π := id rfl
theorem kqSeq2_bk : kqSeq2 t (.bk π) = .bk π := id rfl
theorem kqSeq2_exc : kqSeq2 t (.exc k π) = .exc k π := id rfl
theorem pPass_k : pPass π = .nx π := id rfl
theorem pCt_k : pCt π = .ct π := id rfl
theorem pBk_k : pBk π = .bk π := id rfl
theorem pRaise_k : pRaise k π = .exc k π := id rfl
theorem pKl_k (ks : List Nat) : pKl ks s π = s (killP π ks) := id rfl
theorem pFz_k (j : Nat) : pFz j s π = s (frz j π) := id rfl
theorem frz_k (j : Nat) : frz j π = match π[j]? with
  | some o => π.set j (fzO o)
  | none => π := rfl
theorem fzO_at (t : V) : fzO (some (.at t)) = some (.at t) := id rfl
theorem fzO_mk (fl : Fl) (tn : Bool) (t : V) : fzO (some ⟨fl, tn, t⟩) = some ⟨.fz, tn, t⟩ := id rfl
theorem fzO_none : fzO none = none := id rfl
theorem fzW_at (t : V) : fzW (.at t) = .at t := id rfl
theorem fzW_mk (fl : Fl) (tn : Bool) (t : V) : fzW ⟨fl, tn, t⟩ = ⟨.fz, tn, t⟩ := id rfl
theorem pAsg_k (i : Nat) : pAsg i e π = kqAsg i π (e π) := id rfl
theorem kqAsg_at (i : Nat) (t : V) : kqAsg i π (.ok (.at t)) = .nx (π.set i (some (.at t))) := id rfl
theorem kqAsg_fr (i : Nat) (tn : Bool) (t : V) : kqAsg i π (.ok ⟨.fr, tn, t⟩) = .nx (π.set i (some ⟨.fr, tn, t⟩)) := id rfl
theorem kqAsg_dr (i : Nat) (tn : Bool) (t : V) : kqAsg i π (.ok ⟨.dr, tn, t⟩) = .nx (π.set i (some ⟨.dr, tn, t⟩)) := id rfl
theorem kqAsgF_dr (i : Nat) (tn : Bool) (t : V) : kqAsgF i π (.ok ⟨.dr, tn, t⟩) = .nx (π.set i (some ⟨.fz, tn, t⟩)) := id rfl
theorem kqRet_dr (tn : Bool) (t : V) : kqRet π (.ok ⟨.dr, tn, t⟩) = .ret ⟨.dr, tn, t⟩ := id rfl
theorem kqAsg_fz (i : Nat) (tn : Bool) (t : V) : kqAsg i π (.ok ⟨.fz, tn, t⟩) = .nx (π.set i (some ⟨.fz, tn, t⟩)) := id rfl
theorem kqAsg_exc (i : Nat) : kqAsg i π (.exc k) = .exc k π := id rfl
theorem pAsgF_k (i : Nat) : pAsgF i e π = kqAsgF i π (e π) := id rfl
theorem kqAsgF_at (i : Nat) (t : V) : kqAsgF i π (.ok (.at t)) = .nx (π.set i (some (.at t))) := id rfl
theorem kqAsgF_fr (i : Nat) (tn : Bool) (t : V) : kqAsgF i π (.ok ⟨.fr, tn, t⟩) = .nx (π.set i (some ⟨.fz, tn, t⟩)) := id rfl
theorem kqAsgF_fz (i : Nat) (tn : Bool) (t : V) : kqAsgF i π (.ok ⟨.fz, tn, t⟩) = .nx (π.set i (some ⟨.fz, tn, t⟩)) := id rfl
theorem kqAsgF_exc (i : Nat) : kqAsgF i π (.exc k) = .exc k π := id rfl
theorem pAsgT_k (t : PT) : pAsgT t e π = kqAsgT t π (e π) := id rfl
def kqTg : PRS → PRS
  | .nx π => .nx π
  | _ => .bad
theorem kqAsgT_ok (t : PT) : kqAsgT t π (.ok w) = kqTg (t w π) := by
  unfold kqAsgT kqTg
  rfl
theorem kqTg_nx : kqTg (.nx π) = .nx π := id rfl
theorem kqAsgT_exc (t : PT) : kqAsgT t π (.exc k) = .exc k π := id rfl
theorem pApp_k (j : Nat) : pApp j e π = kqApp j π (e π) := id rfl
theorem kqApp_ok {j : Nat} {w : W} {ts : List V} {tn : Bool} (h : π[j]? = some (some ⟨.fr, tn, .lst ts⟩)) (hb : isB w.fl = false) (hz : ts.length < szLine) : kqApp j π (.ok w) = .nx (π.set j (some ⟨.fr, tn || w.tn, .lst (ts ++ [w.t])⟩)) := by
  unfold kqApp ownOf
  rw [h]
  exact if_pos ⟨hb, hz⟩
theorem pExt_k (j : Nat) : pExt j e π = kqExt j π (e π) := id rfl
theorem kqExt_ok {j : Nat} {w : W} {ts us : List V} {tn : Bool} (h : π[j]? = some (some ⟨.fr, tn, .lst ts⟩)) (hw : w.t = .lst us) (hb : isD w.fl = false) (hz : ts.length + us.length ≤ szLine) : kqExt j π (.ok w) = .nx (π.set j (some ⟨.fr, tn || (w.tn && V.hasLs us), .lst (ts ++ us)⟩)) := by
  unfold kqExt ownOf
  simp only [h, hw]
  exact if_pos ⟨hb, hz⟩
theorem pIns_k (j : Nat) (i : PE) : pIns j i e π = kqIns1 j e π (i π) := id rfl
theorem kqIns1_ok (j : Nat) : kqIns1 j e π (.ok w) = kqIns2 j w π (e π) := id rfl
theorem kqIns2_ok {j : Nat} {w : W} {k : Int} {ts : List V} {tn : Bool} (h : π[j]? = some (some ⟨.fr, tn, .lst ts⟩)) (hb : isB w.fl = false) (hz : ts.length < szLine ∧ 0 ≤ k ∧ k < 2 ^ 63) : kqIns2 j (.at (.int k)) π (.ok w) = .nx (π.set j (some ⟨.fr, tn || w.tn, .lst (ts.take k.toNat ++ [w.t] ++ ts.drop k.toNat)⟩)) := by
  unfold kqIns2 insOf ownOf
  simp only [h]
  exact if_pos ⟨hb, hz⟩
theorem pClr_k {j : Nat} {ts : List V} {tn : Bool} (h : π[j]? = some (some ⟨.fr, tn, .lst ts⟩)) : pClr j π = .nx (π.set j (some ⟨.fr, false, .lst []⟩)) := by
  unfold pClr ownOf
  rw [h]
  rfl
theorem pSubA_k (j : Nat) (i : PE) : pSubA j i e π = kqSub1 j i π (e π) := id rfl
theorem kqSub1_ok (j : Nat) (i : PE) : kqSub1 j i π (.ok w) = kqSub2 j w π (i π) := id rfl
theorem kqSub1_exc (j : Nat) (i : PE) : kqSub1 j i π (.exc k) = .exc k π := id rfl
theorem kqSub2_ok {j : Nat} {w : W} {i : Nat} {ts : List V} {tn : Bool} (h : π[j]? = some (some ⟨.fr, tn, .lst ts⟩)) (hb : isB w.fl = false) (hz : i < ts.length) : kqSub2 j w π (.ok (.at (.int i))) = .nx (π.set j (some ⟨.fr, tn || w.tn, .lst (ts.set i w.t)⟩)) := by
  unfold kqSub2 subOf ownOf
  simp only [h]
  have : atIx ts.length (i : Int) = some i := by
    unfold atIx
    simp [hz]
  simp only [W.at, this]
  exact if_pos hb
theorem kqSub2_neg {j : Nat} {w : W} {i : Nat} {ts : List V} {tn : Bool} (h : π[j]? = some (some ⟨.fr, tn, .lst ts⟩)) (hb : isB w.fl = false) (h0 : 0 < i) (hz : i ≤ ts.length) : kqSub2 j w π (.ok (.at (.int (-(i : Int))))) = .nx (π.set j (some ⟨.fr, tn || w.tn, .lst (ts.set (ts.length - i) w.t)⟩)) := by
  unfold kqSub2 subOf ownOf
  simp only [h]
  have : atIx ts.length (-(i : Int)) = some (ts.length - i) := by
    unfold atIx
    rw [if_neg (by omega), if_pos (by omega)]
    congr 1
    omega
  simp only [W.at, this]
  exact if_pos hb
theorem pPar_k (i j : Nat) : pPar i j a b π = kqPar i j π (pvL [a, b] π) := id rfl
theorem kqPar_at (i j : Nat) (t u : V) : kqPar i j π (.ok [.at t, .at u]) = .nx ((π.set i (some (.at t))).set j (some (.at u))) := id rfl
theorem kqPar_1 (i j : Nat) (tn : Bool) (t u : V) : kqPar i j π (.ok [⟨.fz, tn, t⟩, .at u]) = .nx ((π.set i (some ⟨.fz, tn, t⟩)).set j (some (.at u))) := id rfl
theorem kqPar_2 (i j : Nat) (tn : Bool) (t u : V) : kqPar i j π (.ok [.at t, ⟨.fz, tn, u⟩]) = .nx ((π.set i (some (.at t))).set j (some ⟨.fz, tn, u⟩)) := id rfl
theorem kqPar_3 (i j : Nat) (tn tn' : Bool) (t u : V) : kqPar i j π (.ok [⟨.fz, tn, t⟩, ⟨.fz, tn', u⟩]) = .nx ((π.set i (some ⟨.fz, tn, t⟩)).set j (some ⟨.fz, tn', u⟩)) := id rfl
theorem pDrop_k : pDrop e π = kqDrop π (e π) := id rfl
theorem kqDrop_ok : kqDrop π (.ok w) = .nx π := id rfl
theorem kqDrop_exc : kqDrop π (.exc k) = .exc k π := id rfl
theorem pRet_k : pRet e π = kqRet π (e π) := id rfl
theorem kqRet_at (t : V) : kqRet π (.ok (.at t)) = .ret (.at t) := id rfl
theorem kqRet_fr (tn : Bool) (t : V) : kqRet π (.ok ⟨.fr, tn, t⟩) = .ret ⟨.fr, tn, t⟩ := id rfl
theorem kqRet_fz (tn : Bool) (t : V) : kqRet π (.ok ⟨.fz, tn, t⟩) = .ret ⟨.fz, tn, t⟩ := id rfl
theorem kqRet_bo (tn : Bool) (t : V) : kqRet π (.ok ⟨.bo, tn, t⟩) = .ret ⟨.fr, tn, t⟩ := id rfl
theorem kqRet_bd (tn : Bool) (t : V) : kqRet π (.ok ⟨.bd, tn, t⟩) = .ret ⟨.fz, tn, t⟩ := id rfl
theorem kqRet_exc : kqRet π (.exc k) = .exc k π := id rfl
theorem pIf_k : pIf c s t π = kqIf s t π (c π) := id rfl
theorem kqIf_t : kqIf s t π (.ok (.at (.bl true))) = s π := id rfl
theorem kqIf_f : kqIf s t π (.ok (.at (.bl false))) = t π := id rfl
theorem kqIf_exc : kqIf s t π (.exc k) = .exc k π := id rfl
theorem pFor_k (ks : List Nat) (i : PSrc) (t : PT) : pFor ks i t s π = kqFor ks t s π (i π) := id rfl
theorem kqFor_ok (ks : List Nat) (t : PT) (ws : List W) : kqFor ks t s π (.ok ⟨ws, true⟩) = pForN ks t s ws (killP π ks) := id rfl
theorem pWhile_k (ks : List Nat) : pWhile ks c s π = pWhileN ks c s whileLine (killP π ks) := id rfl
theorem pTry_k (hs : List PHd) : pTry s hs t π = kqTry hs t (s π) := id rfl
theorem kqTry_nx (hs : List PHd) : kqTry hs t (.nx π) = t π := id rfl
theorem kqTry_ret (hs : List PHd) : kqTry hs t (.ret w) = .ret w := id rfl
theorem kqTry_exc (hs : List PHd) : kqTry hs t (.exc k π) = pHandle hs k π := id rfl
end
/-! ### loops -/
def stepK (ks : List Nat) : PRS → PRS
  | .nx π => .nx (killP π ks)
  | .ct π => .nx (killP π ks)
  | .bk π => .bk (killP π ks)
  | r => r
theorem stepK_nx (ks : List Nat) (π : PEnv) : stepK ks (.nx π) = .nx (killP π ks) := id rfl
theorem stepK_ct (ks : List Nat) (π : PEnv) : stepK ks (.ct π) = .nx (killP π ks) := id rfl
theorem stepK_bk (ks : List Nat) (π : PEnv) : stepK ks (.bk π) = .bk (killP π ks) := id rfl
theorem stepK_ret (ks : List Nat) (w : W) : stepK ks (.ret w) = .ret w := id rfl
theorem stepK_exc (ks : List Nat) (c : String) (π : PEnv) : stepK ks (.exc c π) = .exc c π := id rfl
def stepF (ks : List Nat) (b : PS) : PRS → PRS
  | .nx π => stepK ks (b π)
  | _ => .bad
theorem stepF_nx (ks : List Nat) (b : PS) (π : PEnv) : stepF ks b (.nx π) = stepK ks (b π) := id rfl
def goF (k : PS) : PRS → PRS
  | .nx π => k π
  | .bk π => .nx π
  | r => r
theorem forN_cons (ks : List Nat) (t : PT) (b : PS) (w : W) (ws : List W) (π : PEnv) : pForN ks t b (w :: ws) π = goF (pForN ks t b ws) (stepF ks b (t w π)) := by
  show kqFt ks b (pForN ks t b ws) (t w π) = _
  cases t w π with
  | nx π1 =>
    show kqFb ks _ (b π1) = goF _ (stepK ks (b π1))
    cases b π1 with
    | ct => rfl
    | nx => rfl
    | bk => rfl
    | ret => rfl
    | exc => rfl
    | bad => rfl
  | _ => rfl
theorem goF_nx (k : PS) (π : PEnv) : goF k (.nx π) = k π := id rfl
theorem goF_bk (k : PS) (π : PEnv) : goF k (.bk π) = .nx π := id rfl
theorem goF_ret (k : PS) (w : W) : goF k (.ret w) = .ret w := id rfl
theorem goF_exc (k : PS) (c : String) (π : PEnv) : goF k (.exc c π) = .exc c π := id rfl
theorem forN_nil (ks : List Nat) (t : PT) (b : PS) (π : PEnv) : pForN ks t b [] π = .nx π := id rfl
/-- a loop that goes to its end: what stands before turn i -/
theorem forN_map {α : Type} {ks : List Nat} {t : PT} {b : PS} {g : α → W} (f : Nat → PEnv) {xs : List α} {π : PEnv} (h0 : π = f 0)
    (hs : ∀ (i : Nat) (x : α), xs[i]? = some x → stepF ks b (t (g x) (f i)) = .nx (f (i + 1))) : pForN ks t b (xs.map g) π = .nx (f xs.length) := by
  subst h0
  have go : ∀ (ys : List α) (i : Nat), ys = xs.drop i → i ≤ xs.length → pForN ks t b (ys.map g) (f i) = .nx (f xs.length) := by
    intro ys
    induction ys with
    | nil =>
      intro i e hi
      have hl : xs.length ≤ i := List.drop_eq_nil_iff.mp e.symm
      have : i = xs.length := by omega
      subst this
      rfl
    | cons y ys ih =>
      intro i e hi
      have hy : xs[i]? = some y := by
        have : (xs.drop i)[0]? = some y := by rw [← e]; rfl
        rw [List.getElem?_drop] at this
        exact this
      have hd : ys = xs.drop (i + 1) := by
        have : (y :: ys).drop 1 = (xs.drop i).drop 1 := by rw [e]
        rw [List.drop_drop] at this
        exact this
      rw [List.map_cons, forN_cons, hs i y hy, goF_nx]
      exact ih (i + 1) hd (List.getElem?_eq_some_iff.mp hy).1
  exact go xs 0 rfl (Nat.zero_le _)
/-- a loop that ends early at turn k -/
theorem forN_stop {α : Type} {ks : List Nat} {t : PT} {b : PS} {g : α → W} (f : Nat → PEnv) {xs : List α} {π : PEnv} {k : Nat} {x : α} {r : PRS} (h0 : π = f 0) (hx : xs[k]? = some x)
    (hs : ∀ (i : Nat) (x : α), i < k → xs[i]? = some x → stepF ks b (t (g x) (f i)) = .nx (f (i + 1))) (hr : stepF ks b (t (g x) (f k)) = r) (hn : ∀ π, r ≠ .nx π) : pForN ks t b (xs.map g) π = goF (fun π => .nx π) r := by
  subst h0
  have go : ∀ (ys : List α) (i : Nat), ys = xs.drop i → i ≤ k → pForN ks t b (ys.map g) (f i) = goF (fun π => .nx π) r := by
    intro ys
    induction ys with
    | nil =>
      intro i e hi
      have hl : xs.length ≤ i := List.drop_eq_nil_iff.mp e.symm
      have := (List.getElem?_eq_some_iff.mp hx).1
      omega
    | cons y ys ih =>
      intro i e hi
      have hy : xs[i]? = some y := by
        have : (xs.drop i)[0]? = some y := by rw [← e]; rfl
        rw [List.getElem?_drop] at this
        exact this
      have hd : ys = xs.drop (i + 1) := by
        have : (y :: ys).drop 1 = (xs.drop i).drop 1 := by rw [e]
        rw [List.drop_drop] at this
        exact this
      rw [List.map_cons, forN_cons]
      by_cases hk : i = k
      · subst hk
        rw [hx] at hy
        cases hy
        rw [hr]
        cases r with
        | nx π => exact absurd rfl (hn π)
        | _ => rfl
      · rw [hs i y (by omega) hy, goF_nx]
        exact ih (i + 1) hd (by omega)
  exact go xs 0 rfl (Nat.zero_le _)
def stepW (b : PS) (ks : List Nat) (π : PEnv) : PR W → PRS
  | .ok w => match w.t with
    | .bl true => stepK ks (b π)
    | _ => .bad
  | _ => .bad
/-- a while: a measure that falls, what stands at each turn -/
theorem whileN_run {σ : Type} {ks : List Nat} {c : PE} {b : PS} (f : σ → PEnv) (I : σ → Prop) (m : σ → Nat) (p : σ → Bool) (nxt : σ → σ)
    (hc : ∀ s, I s → c (f s) = .ok (.at (.bl (p s)))) (hb : ∀ s, I s → p s = true → stepK ks (b (f s)) = .nx (f (nxt s)) ∧ I (nxt s) ∧ m (nxt s) < m s) :
    ∀ (n : Nat) (s : σ), I s → m s < n → ∃ s', I s' ∧ p s' = false ∧ pWhileN ks c b n (f s) = .nx (f s')
  | 0, s, _, h => by omega
  | n + 1, s, hI, h => by
    cases hp : p s with
    | false =>
      refine ⟨s, hI, hp, ?_⟩
      unfold pWhileN
      rw [hc s hI, hp]
      rfl
    | true =>
      obtain ⟨h1, h2, h3⟩ := hb s hI hp
      obtain ⟨s', a, d, e⟩ := whileN_run f I m p nxt hc hb n (nxt s) h2 (by omega)
      refine ⟨s', a, d, ?_⟩
      unfold pWhileN
      rw [hc s hI, hp]
      show kqWb ks (pWhileN ks c b n) (b (f s)) = _
      cases hbb : b (f s) with
      | nx π1 =>
        rw [hbb] at h1
        have h1 : PRS.nx (killP π1 ks) = .nx (f (nxt s)) := h1
        have h1 := PRS.nx.inj h1
        show pWhileN ks c b n (killP π1 ks) = _
        rw [h1]
        exact e
      | ct π1 =>
        rw [hbb] at h1
        have h1 : PRS.nx (killP π1 ks) = .nx (f (nxt s)) := h1
        have h1 := PRS.nx.inj h1
        show pWhileN ks c b n (killP π1 ks) = _
        rw [h1]
        exact e
      | _ =>
        rw [hbb] at h1
        cases h1
/-! ### comprehensions -/
def lcStep (e : PE) : PRS → PR W
  | .nx π => e π
  | _ => .bad
theorem lcStep_nx (e : PE) (π : PEnv) : lcStep e (.nx π) = e π := id rfl
theorem lcN_map {α : Type} {t : PT} {e : PE} {π : PEnv} {g h : α → W} {xs : List α} (hs : ∀ (i : Nat) (x : α), xs[i]? = some x → lcStep e (t (g x) π) = .ok (h x)) : pLcN t (pC (.bl true)) e π (xs.map g) = .ok (xs.map h) := by
  induction xs with
  | nil => rfl
  | cons x xs ih =>
    have h1 := hs 0 x rfl
    have h2 := ih fun i x hx => hs (i + 1) x hx
    rw [List.map_cons, List.map_cons]
    unfold pLcN
    cases ht : t (g x) π with
    | nx π1 =>
      rw [ht, lcStep_nx] at h1
      show (match e π1 with
        | .ok u => kqL2 u (pLcN t (pC (.bl true)) e π (xs.map g))
        | _ => .bad) = _
      rw [h1, h2]
      rfl
    | _ =>
      rw [ht] at h1
      cases h1
/-- with a test -/
theorem lcN_filter {α : Type} {t : PT} {c e : PE} {π : PEnv} {g h : α → W} {p : α → Bool} {xs : List α} (hs : ∀ (i : Nat) (x : α), xs[i]? = some x → lcStep c (t (g x) π) = .ok (.at (.bl (p x))) ∧ (p x = true → lcStep e (t (g x) π) = .ok (h x))) : pLcN t c e π (xs.map g) = .ok ((xs.filter p).map h) := by
  induction xs with
  | nil => rfl
  | cons x xs ih =>
    obtain ⟨h0, h1⟩ := hs 0 x rfl
    have h2 := ih fun i x hx => hs (i + 1) x hx
    rw [List.map_cons]
    unfold pLcN
    cases ht : t (g x) π with
    | nx π1 =>
      rw [ht, lcStep_nx] at h0 h1
      simp only [h0, W.at]
      cases hp : p x with
      | true =>
        simp only [h1 hp, h2]
        rw [List.filter_cons_of_pos hp]
        rfl
      | false =>
        simp only [h2]
        rw [List.filter_cons_of_neg (by rw [hp]; decide)]
    | _ =>
      rw [ht] at h0
      cases h0
theorem kqLc_ok {t : PT} {c e : PE} {π : PEnv} {ws us : List W} {st : Bool} (hz : ws.length ≤ szLine) (h : pLcN t c e π ws = .ok us) : kqLc t c e π (.ok ⟨ws, st⟩) = .ok (mkL (anyB us) (anyT us) (us.map W.t)) := by
  show (if ws.length ≤ szLine then kqLc2 (pLcN t c e π ws) else .bad) = _
  rw [if_pos hz, h]
  rfl
theorem anyB_map {α : Type} (xs : List α) (h : α → W) (k : ∀ x, isB (h x).fl = false) : anyB (xs.map h) = false := by
  unfold anyB
  rw [List.any_map, List.any_eq_false]
  intro x _
  simp [k]
theorem anyT_map {α : Type} (xs : List α) (h : α → W) (k : ∀ x, (h x).tn = false) : anyT (xs.map h) = false := by
  unfold anyT
  rw [List.any_map, List.any_eq_false]
  intro x _
  simp [k]
/-- a comprehension whose things are new -/
theorem kqLc_new {α : Type} {t : PT} {e : PE} {π : PEnv} {g : α → W} {xs : List α} {st : Bool} (fl : α → Fl) (u : α → V) (hz : xs.length ≤ szLine) (hf : ∀ x, isB (fl x) = false)
    (hs : ∀ (i : Nat) (x : α), xs[i]? = some x → lcStep e (t (g x) π) = .ok ⟨fl x, false, u x⟩) : kqLc t (pC (.bl true)) e π (.ok ⟨xs.map g, st⟩) = .ok ⟨.fr, false, .lst (xs.map u)⟩ := by
  rw [kqLc_ok (by rw [List.length_map]; exact hz) (lcN_map hs), anyB_map xs _ hf, anyT_map xs _ fun _ => rfl, List.map_map]
  rfl
theorem kqLc_filter {α : Type} {t : PT} {c e : PE} {π : PEnv} {g : α → W} {p : α → Bool} {xs : List α} {st : Bool} (fl : α → Fl) (u : α → V) (hz : xs.length ≤ szLine) (hf : ∀ x, isB (fl x) = false)
    (hs : ∀ (i : Nat) (x : α), xs[i]? = some x → lcStep c (t (g x) π) = .ok (.at (.bl (p x))) ∧ (p x = true → lcStep e (t (g x) π) = .ok ⟨fl x, false, u x⟩)) : kqLc t c e π (.ok ⟨xs.map g, st⟩) = .ok ⟨.fr, false, .lst ((xs.filter p).map u)⟩ := by
  rw [kqLc_ok (by rw [List.length_map]; exact hz) (lcN_filter hs), anyB_map _ _ hf, anyT_map _ _ fun _ => rfl, List.map_map]
  rfl
end Mn
end
section
set_option Elab.async false
set_option autoImplicit false
set_option maxRecDepth 100000
set_option linter.all false
/-! Ratios, rows, tables as trees. -/
namespace Mn
def vq (q : Rat) : V := .tup [.int q.num, .int q.den]
def vr (qs : List Rat) : V := .lst (qs.map vq)
def vt (rs : List (List Rat)) : V := .lst (rs.map vr)
def vi (xs : List Int) : V := .lst (xs.map .int)
theorem vq0 : V.tup [.int 0, .int 1] = vq 0 := id rfl
theorem vq1 : V.tup [.int 1, .int 1] = vq 1 := id rfl
theorem vq_n (i : Int) : V.tup [.int i, .int 1] = vq (i : Rat) := by
  unfold vq
  rw [Rat.num_intCast, Rat.den_intCast]
  rfl
theorem hL_q (q : Rat) : (vq q).hasL = false := id rfl
theorem hL_r (qs : List Rat) : (vr qs).hasL = true := id rfl
theorem hL_t (rs : List (List Rat)) : (vt rs).hasL = true := id rfl
theorem hL_i (xs : List Int) : (vi xs).hasL = true := id rfl
theorem hL_int (i : Int) : (V.int i).hasL = false := id rfl
theorem hL_bl (i : Bool) : (V.bl i).hasL = false := id rfl
theorem hL_str (i : List Nat) : (V.str i).hasL = false := id rfl
theorem hL_non : V.non.hasL = false := id rfl
theorem hL_exc (c : String) : (V.exc c).hasL = false := id rfl
theorem hL_lst (xs : List V) : (V.lst xs).hasL = true := id rfl
theorem hL_ro (xs : List V) : (V.ro xs).hasL = true := id rfl
theorem hL_tup (xs : List V) : (V.tup xs).hasL = V.hasLs xs := id rfl
theorem hL_nil : V.hasLs [] = false := id rfl
theorem hL_cons (x : V) (xs : List V) : V.hasLs (x :: xs) = (x.hasL || V.hasLs xs) := id rfl
theorem hLs_map {α : Type} (f : α → V) (h : ∀ x, (f x).hasL = false) : ∀ xs : List α, V.hasLs (xs.map f) = false
  | [] => rfl
  | x :: xs => by
    rw [List.map_cons, hL_cons, h, hLs_map f h xs]
    rfl
theorem hLs_q (qs : List Rat) : V.hasLs (qs.map vq) = false := hLs_map vq hL_q qs
theorem hLs_i (xs : List Int) : V.hasLs (xs.map .int) = false := hLs_map .int hL_int xs
theorem hLs_bl (xs : List Bool) : V.hasLs (xs.map .bl) = false := hLs_map .bl hL_bl xs
theorem hLs_app : ∀ xs ys : List V, V.hasLs (xs ++ ys) = (V.hasLs xs || V.hasLs ys)
  | [], ys => rfl
  | x :: xs, ys => by
    rw [List.cons_append, hL_cons, hL_cons, hLs_app xs ys, Bool.or_assoc]
/-! data -/
theorem tt_q (q : Rat) : (vq q).tt = some (tq q) := id rfl
theorem tts_map {α : Type} (f : α → V) (g : α → T) (h : ∀ x, (f x).tt = some (g x)) : ∀ xs : List α, V.tts (xs.map f) = some (xs.map g)
  | [] => rfl
  | x :: xs => by
    rw [List.map_cons]
    unfold V.tts
    rw [h, tts_map f g h xs]
    rfl
theorem tt_r (qs : List Rat) : (vr qs).tt = some (tr qs) := by
  show (V.tts (qs.map vq)).map T.lst = _
  rw [tts_map vq tq tt_q]
  rfl
theorem tt_t (rs : List (List Rat)) : (vt rs).tt = some (tt rs) := by
  show (V.tts (rs.map vr)).map T.lst = _
  rw [tts_map vr tr tt_r]
  rfl
theorem tt_i (xs : List Int) : (vi xs).tt = some (.lst (xs.map .int)) := by
  show (V.tts (xs.map .int)).map T.lst = _
  rw [tts_map V.int T.int fun _ => rfl]
  rfl
theorem dps_map {α : Type} (f : α → V) (k : Nat) (h : ∀ x, (f x).dp ≤ k) : ∀ xs : List α, V.dps (xs.map f) ≤ k
  | [] => Nat.zero_le _
  | x :: xs => by
    rw [List.map_cons]
    unfold V.dps
    have := h x
    have := dps_map f k h xs
    omega
theorem dp_vq (q : Rat) : (vq q).dp = 2 := id rfl
theorem dp_vr (qs : List Rat) : (vr qs).dp ≤ 3 := Nat.succ_le_succ (dps_map vq 2 (fun q => Nat.le_of_eq (dp_vq q)) qs)
theorem dp_vt (rs : List (List Rat)) : (vt rs).dp ≤ 4 := Nat.succ_le_succ (dps_map vr 3 dp_vr rs)
theorem dp_vi (xs : List Int) : (vi xs).dp ≤ 2 := Nat.succ_le_succ (dps_map V.int 1 (fun _ => Nat.le_refl _) xs)
theorem vEq_of {x y : V} {a b : T} (hx : x.tt = some a) (hy : y.tt = some b) (dx : x.dp ≤ 60) (dy : y.dp ≤ 60) : vEq x y = some (a.eqv b) := by
  unfold vEq
  rw [if_pos ⟨dx, dy⟩, hx, hy]
theorem qEq_of {x y : V} {r : Bool} (h : vEq x y = some r) (f f' : Fl) (t t' : Bool) : qEq ⟨f, t, x⟩ ⟨f', t', y⟩ = .ok (.at (.bl r)) := by
  unfold qEq qEqG
  rw [h]
  rfl
theorem qNe_of {x y : V} {r : Bool} (h : vEq x y = some r) (f f' : Fl) (t t' : Bool) : qNe ⟨f, t, x⟩ ⟨f', t', y⟩ = .ok (.at (.bl (!r))) := by
  unfold qNe qEqG
  rw [h]
  rfl
theorem vEq_q (p q : Rat) : vEq (vq p) (vq q) = some (decide (p = q)) := by rw [vEq_of (tt_q p) (tt_q q) (Nat.le_of_ble_eq_true rfl) (Nat.le_of_ble_eq_true rfl), eqv_tq]
theorem vEq_r (p q : List Rat) : vEq (vr p) (vr q) = some (decide (p = q)) := by
  have := dp_vr p
  have := dp_vr q
  rw [vEq_of (tt_r p) (tt_r q) (by omega) (by omega), eqv_tr]
theorem vEq_t (p q : List (List Rat)) : vEq (vt p) (vt q) = some (decide (p = q)) := by
  have := dp_vt p
  have := dp_vt q
  rw [vEq_of (tt_t p) (tt_t q) (by omega) (by omega), eqv_tt]
theorem eqvs_int : ∀ xs ys : List Int, T.eqvs (xs.map .int) (ys.map .int) = decide (xs = ys)
  | [], [] => by simp [T.eqvs]
  | [], _ :: _ => by simp [T.eqvs]
  | _ :: _, [] => by simp [T.eqvs]
  | p :: ps, q :: qs => by
    rw [List.map_cons, List.map_cons]
    unfold T.eqvs
    have e : (T.int p).eqv (.int q) = decide (p = q) := by simp [T.eqv]
    rw [e, eqvs_int ps qs, ← Bool.decide_and]
    exact decide_eq_decide.mpr (by rw [List.cons.injEq])
theorem vEq_vi (p q : List Int) : vEq (vi p) (vi q) = some (decide (p = q)) := by
  have := dp_vi p
  have := dp_vi q
  rw [vEq_of (tt_i p) (tt_i q) (by omega) (by omega)]
  congr 1
  unfold T.eqv
  exact eqvs_int p q
theorem vEq_int (i j : Int) : vEq (.int i) (.int j) = some (decide (i = j)) := by
  rw [vEq_of (a := .int i) (b := .int j) rfl rfl (Nat.le_of_ble_eq_true rfl) (Nat.le_of_ble_eq_true rfl)]
  simp [T.eqv]
theorem vEq_bl (i j : Bool) : vEq (.bl i) (.bl j) = some (i == j) := by
  rw [vEq_of (a := .bl i) (b := .bl j) rfl rfl (Nat.le_of_ble_eq_true rfl) (Nat.le_of_ble_eq_true rfl)]
  simp [T.eqv]
theorem vEq_same {x : V} {a : T} (hx : x.tt = some a) (dx : x.dp ≤ 60) : vEq x x = some true := by rw [vEq_of hx hx dx dx, eqv_refl]
theorem qEq_q (p q : Rat) : qEq (.at (vq p)) (.at (vq q)) = .ok (.at (.bl (decide (p = q)))) := qEq_of (vEq_q p q) _ _ _ _
theorem qNe_q (p q : Rat) : qNe (.at (vq p)) (.at (vq q)) = .ok (.at (.bl (!decide (p = q)))) := qNe_of (vEq_q p q) _ _ _ _
theorem qEq_int (p q : Int) : qEq (.at (.int p)) (.at (.int q)) = .ok (.at (.bl (decide (p = q)))) := qEq_of (vEq_int p q) _ _ _ _
theorem qNe_int (p q : Int) : qNe (.at (.int p)) (.at (.int q)) = .ok (.at (.bl (!decide (p = q)))) := qNe_of (vEq_int p q) _ _ _ _
theorem qEq_bl (p q : Bool) : qEq (.at (.bl p)) (.at (.bl q)) = .ok (.at (.bl (p == q))) := qEq_of (vEq_bl p q) _ _ _ _
theorem qNe_bl (p q : Bool) : qNe (.at (.bl p)) (.at (.bl q)) = .ok (.at (.bl (!(p == q)))) := qNe_of (vEq_bl p q) _ _ _ _
theorem qEq_r (f f' : Fl) (t t' : Bool) (p q : List Rat) : qEq ⟨f, t, vr p⟩ ⟨f', t', vr q⟩ = .ok (.at (.bl (decide (p = q)))) := qEq_of (vEq_r p q) _ _ _ _
theorem qNe_r (f f' : Fl) (t t' : Bool) (p q : List Rat) : qNe ⟨f, t, vr p⟩ ⟨f', t', vr q⟩ = .ok (.at (.bl (!decide (p = q)))) := qNe_of (vEq_r p q) _ _ _ _
theorem qEq_t (f f' : Fl) (t t' : Bool) (p q : List (List Rat)) : qEq ⟨f, t, vt p⟩ ⟨f', t', vt q⟩ = .ok (.at (.bl (decide (p = q)))) := qEq_of (vEq_t p q) _ _ _ _
theorem qNe_t (f f' : Fl) (t t' : Bool) (p q : List (List Rat)) : qNe ⟨f, t, vt p⟩ ⟨f', t', vt q⟩ = .ok (.at (.bl (!decide (p = q)))) := qNe_of (vEq_t p q) _ _ _ _
theorem qEq_vi (f f' : Fl) (t t' : Bool) (p q : List Int) : qEq ⟨f, t, vi p⟩ ⟨f', t', vi q⟩ = .ok (.at (.bl (decide (p = q)))) := qEq_of (vEq_vi p q) _ _ _ _
theorem qNe_vi (f f' : Fl) (t t' : Bool) (p q : List Int) : qNe ⟨f, t, vi p⟩ ⟨f', t', vi q⟩ = .ok (.at (.bl (!decide (p = q)))) := qNe_of (vEq_vi p q) _ _ _ _
/-! numbers -/
section
variable (i j : Int) (f g : Fl) (s t : Bool)
theorem qAdd_int : qAdd (.at (.int i)) (.at (.int j)) = .ok (.at (.int (i + j))) := id rfl
theorem qSub_int : qSub (.at (.int i)) (.at (.int j)) = .ok (.at (.int (i - j))) := id rfl
theorem qMul_int {i j : Int} (h : mulOk i j = true) : qMul (.at (.int i)) (.at (.int j)) = .ok (.at (.int (i * j))) := if_pos h
theorem qInt_at {gg : Int → Int → V} {ok : Int → Int → Bool} {i j : Int} (h : ok i j = true) : qInt gg ok (.at (.int i)) (.at (.int j)) = .ok (.at (gg i j)) := if_pos h
theorem qDiv_int {i j : Int} (h0 : j ≠ 0) (h : divOk i j = true) : qDiv (.at (.int i)) (.at (.int j)) = .ok (.at (.int (i.fdiv j))) := qInt_at (by rw [decide_eq_true h0, h]; rfl)
theorem qDiv_sm {i j : Int} (h0 : j ≠ 0) (h : SmD j) : qDiv (.at (.int i)) (.at (.int j)) = .ok (.at (.int (i.fdiv j))) := qDiv_int h0 (by
  unfold divOk
  rw [Bool.or_eq_true, decide_eq_true_eq]
  exact .inl h)
theorem qMod_int {i j : Int} (h0 : j ≠ 0) : qMod (.at (.int i)) (.at (.int j)) = .ok (.at (.int (i.fmod j))) := qInt_at (decide_eq_true h0)
theorem qPow_int {i j : Int} (h : 0 ≤ j ∧ j ≤ 1000000 ∧ i.natAbs < 2 ^ 64) : qPow (.at (.int i)) (.at (.int j)) = .ok (.at (.int (i ^ j.toNat))) := qInt_at (decide_eq_true h)
theorem qDm_sm {i j : Int} (h0 : 0 < j) (h : SmD j) : qDm (.at (.int i)) (.at (.int j)) = .ok (.at (.tup [.int (i / j), .int (i % j)])) := qInt_at (by
  rw [decide_eq_true h0]
  unfold divOk
  rw [Bool.true_and, Bool.or_eq_true, decide_eq_true_eq]
  exact .inl h)
theorem qMax_int : qMax (.at (.int i)) (.at (.int j)) = .ok (.at (.int (if j > i then j else i))) := id rfl
theorem qMin_int : qMin (.at (.int i)) (.at (.int j)) = .ok (.at (.int (if j < i then j else i))) := id rfl
theorem qLt_int : qLt (.at (.int i)) (.at (.int j)) = .ok (.at (.bl (decide (i < j)))) := id rfl
theorem qLe_int : qLe (.at (.int i)) (.at (.int j)) = .ok (.at (.bl (decide (i ≤ j)))) := id rfl
theorem qGt_int : qGt (.at (.int i)) (.at (.int j)) = .ok (.at (.bl (decide (j < i)))) := id rfl
theorem qGe_int : qGe (.at (.int i)) (.at (.int j)) = .ok (.at (.bl (decide (j ≤ i)))) := id rfl
theorem qNeg_int : qNeg (.at (.int i)) = .ok (.at (.int (-i))) := id rfl
theorem qAbs_int : qAbs (.at (.int i)) = .ok (.at (.int (if i < 0 then -i else i))) := id rfl
theorem qToInt_int : qToInt (.at (.int i)) = .ok (.at (.int i)) := id rfl
theorem qToInt_bl (b : Bool) : qToInt (.at (.bl b)) = .ok (.at (.int (if b then 1 else 0))) := id rfl
theorem qIsN_at (x : V) : qIsN ⟨f, s, x⟩ (.at .non) = .ok (.at (.bl (isNonV x))) := id rfl
theorem qIsN_a (x : V) : qIsN (.at x) (.at .non) = .ok (.at (.bl (isNonV x))) := id rfl
theorem qNotN_at (x : V) : qNotN ⟨f, s, x⟩ (.at .non) = .ok (.at (.bl (!isNonV x))) := id rfl
theorem qNotN_a (x : V) : qNotN (.at x) (.at .non) = .ok (.at (.bl (!isNonV x))) := id rfl
theorem isNon_non : isNonV .non = true := id rfl
theorem isNon_int : isNonV (.int i) = false := id rfl
theorem isNon_q (q : Rat) : isNonV (vq q) = false := id rfl
theorem isNon_r (q : List Rat) : isNonV (vr q) = false := id rfl
/-! parts of ratios -/
theorem qIx_q0 (q : Rat) : qIx (.at (vq q)) (.at (.int 0)) = .ok (.at (.int q.num)) := id rfl
theorem qIx_q1 (q : Rat) : qIx (.at (vq q)) (.at (.int 1)) = .ok (.at (.int q.den)) := id rfl
theorem ptTup_q (s t : PT) (q : Rat) (π : PEnv) : ptTup [s, t] (.at (vq q)) π = ptAll [s, t] [.at (.int q.num), .at (.int q.den)] π := id rfl
theorem qLen_q (q : Rat) : qLen (.at (vq q)) = .ok (.at (.int 2)) := id rfl
theorem qLen_r (q : List Rat) : qLen ⟨f, s, vr q⟩ = .ok (.at (.int q.length)) := by
  show PR.ok (W.at (.int ((q.map vq).length : Nat))) = _
  rw [List.length_map]
theorem qLen_t (q : List (List Rat)) : qLen ⟨f, s, vt q⟩ = .ok (.at (.int q.length)) := by
  show PR.ok (W.at (.int ((q.map vr).length : Nat))) = _
  rw [List.length_map]
theorem qLen_vi (q : List Int) : qLen ⟨f, s, vi q⟩ = .ok (.at (.int q.length)) := by
  show PR.ok (W.at (.int ((q.map V.int).length : Nat))) = _
  rw [List.length_map]
theorem qLen_l (q : List V) : qLen ⟨f, s, .lst q⟩ = .ok (.at (.int q.length)) := id rfl
theorem qLen_ro (q : List V) : qLen ⟨f, s, .ro q⟩ = .ok (.at (.int q.length)) := id rfl
theorem qLen_tp (q : List V) : qLen ⟨f, s, .tup q⟩ = .ok (.at (.int q.length)) := id rfl
theorem qLen_ta (q : List V) : qLen (.at (.tup q)) = .ok (.at (.int q.length)) := id rfl
/-! kinds -/
theorem qIs_q (ts : List String) (q : Rat) : qIs ts (.at (vq q)) = .ok (.at (.bl (ts.any (isT "tuple")))) := id rfl
theorem qIs_r (ts : List String) (q : List Rat) : qIs ts ⟨f, s, vr q⟩ = .ok (.at (.bl (ts.any (isT "list")))) := id rfl
theorem qIs_t (ts : List String) (q : List (List Rat)) : qIs ts ⟨f, s, vt q⟩ = .ok (.at (.bl (ts.any (isT "list")))) := id rfl
theorem qIs_vi (ts : List String) (q : List Int) : qIs ts ⟨f, s, vi q⟩ = .ok (.at (.bl (ts.any (isT "list")))) := id rfl
theorem qIs_l (ts : List String) (q : List V) : qIs ts ⟨f, s, .lst q⟩ = .ok (.at (.bl (ts.any (isT "list")))) := id rfl
theorem qIs_ro (ts : List String) (q : List V) : qIs ts ⟨f, s, .ro q⟩ = .ok (.at (.bl (ts.any (isT "list")))) := id rfl
theorem qIs_tp (ts : List String) (q : List V) : qIs ts ⟨f, s, .tup q⟩ = .ok (.at (.bl (ts.any (isT "tuple")))) := id rfl
theorem qIs_ta (ts : List String) (q : List V) : qIs ts (.at (.tup q)) = .ok (.at (.bl (ts.any (isT "tuple")))) := id rfl
theorem qIs_int (ts : List String) : qIs ts (.at (.int i)) = .ok (.at (.bl (ts.any (isT "int")))) := id rfl
theorem qIs_bl (ts : List String) (b : Bool) : qIs ts (.at (.bl b)) = .ok (.at (.bl (ts.any (isT "bool")))) := id rfl
theorem qIs_str (ts : List String) (b : List Nat) : qIs ts (.at (.str b)) = .ok (.at (.bl (ts.any (isT "str")))) := id rfl
theorem qIs_non (ts : List String) : qIs ts (.at .non) = .ok (.at (.bl (ts.any (isT "NoneType")))) := id rfl
theorem qIs_exc (ts : List String) (c : String) : qIs ts (.at (.exc c)) = .ok (.at (.bl (ts.any (isX c)))) := id rfl
end
theorem any_nil {α : Type} (p : α → Bool) : [].any p = false := id rfl
theorem any_cons {α : Type} (p : α → Bool) (x : α) (xs : List α) : (x :: xs).any p = (p x || xs.any p) := id rfl
/-! things of rows, tables -/
section
variable {f g : Fl} {s t : Bool}
theorem qIx_l {xs : List V} {i : Nat} {x : V} (h : xs[i]? = some x) : qIx ⟨f, s, .lst xs⟩ (.at (.int i)) = .ok (elW (isD f) s x) := by
  show (match atI xs (i : Int) with
    | some x => PR.ok (elW (isD f) s x)
    | none => .bad) = _
  rw [atI_nat h]
theorem qIx_ro {xs : List V} {i : Nat} {x : V} (h : xs[i]? = some x) : qIx ⟨f, s, .ro xs⟩ (.at (.int i)) = .ok (elW (isD f) s x) := by
  show (match atI xs (i : Int) with
    | some x => PR.ok (elW (isD f) s x)
    | none => .bad) = _
  rw [atI_nat h]
theorem qIx_tp {xs : List V} {i : Nat} {x : V} (h : xs[i]? = some x) : qIx ⟨f, s, .tup xs⟩ (.at (.int i)) = .ok (elW (isD f) s x) := by
  show (match atI xs (i : Int) with
    | some x => PR.ok (elW (isD f) s x)
    | none => .bad) = _
  rw [atI_nat h]
theorem qIx_ta {xs : List V} {i : Nat} {x : V} (h : xs[i]? = some x) : qIx (.at (.tup xs)) (.at (.int i)) = .ok (elW false false x) := qIx_tp h
theorem qIx_r {qs : List Rat} {i : Nat} {q : Rat} (h : qs[i]? = some q) : qIx ⟨f, s, vr qs⟩ (.at (.int i)) = .ok (.at (vq q)) := by
  rw [vr, qIx_l (x := vq q) (by rw [List.getElem?_map, h]; rfl), elW_at (hL_q q)]
theorem qIx_vi {qs : List Int} {i : Nat} {q : Int} (h : qs[i]? = some q) : qIx ⟨f, s, vi qs⟩ (.at (.int i)) = .ok (.at (.int q)) := by
  rw [vi, qIx_l (x := .int q) (by rw [List.getElem?_map, h]; rfl), elW_at (hL_int q)]
theorem qIx_t {rs : List (List Rat)} {i : Nat} {r : List Rat} (h : rs[i]? = some r) : qIx ⟨.fz, s, vt rs⟩ (.at (.int i)) = .ok ⟨.fz, s, vr r⟩ := by
  rw [vt, qIx_l (x := vr r) (by rw [List.getElem?_map, h]; rfl), isD_fz, elW_f (hL_r r)]
theorem qIx_tb {rs : List (List Rat)} {i : Nat} {r : List Rat} (h : rs[i]? = some r) : qIx ⟨.bo, s, vt rs⟩ (.at (.int i)) = .ok ⟨.fz, s, vr r⟩ := by
  rw [vt, qIx_l (x := vr r) (by rw [List.getElem?_map, h]; rfl), isD_bo, elW_f (hL_r r)]
theorem qIx_tr {rs : List (List Rat)} {i : Nat} {r : List Rat} (h : rs[i]? = some r) : qIx ⟨.fr, s, vt rs⟩ (.at (.int i)) = .ok ⟨.fz, s, vr r⟩ := by
  rw [vt, qIx_l (x := vr r) (by rw [List.getElem?_map, h]; rfl), isD_fr, elW_f (hL_r r)]
/-! copies, cuts, joins -/
theorem isB_D {f : Fl} (h : isB f = false) : isD f = false := by cases f <;> first | rfl | cases h
theorem qList_l {xs : List V} : qList ⟨f, s, .lst xs⟩ = .ok (mkL (isD f) s xs) := id rfl
theorem qList_r (h : isD f = false) {qs : List Rat} : qList ⟨f, s, vr qs⟩ = .ok ⟨.fr, false, vr qs⟩ := by
  show PR.ok (mkL (isD f) s (qs.map vq)) = _
  rw [h, mkL_at (hLs_q qs)]
  rfl
theorem hLs_r : ∀ (rs : List (List Rat)), V.hasLs (rs.map vr) = !rs.isEmpty
  | [] => rfl
  | r :: rs => by
    rw [List.map_cons, hL_cons, hL_r]
    rfl
theorem qCut_l {xs : List V} (lo hi : Option Int) : qCut ⟨f, s, .lst xs⟩ lo hi = .ok (mkL (isD f) s (cut xs lo hi)) := id rfl
theorem qCut_ro {xs : List V} (lo hi : Option Int) : qCut ⟨f, s, .ro xs⟩ lo hi = .ok (mkL (isD f) s (cut xs lo hi)) := id rfl
theorem qCut_r (h : isD f = false) {qs : List Rat} (lo hi : Option Int) : qCut ⟨f, s, vr qs⟩ lo hi = .ok ⟨.fr, false, vr (cut qs lo hi)⟩ := by
  show PR.ok (mkL (isD f) s (cut (qs.map vq) lo hi)) = _
  rw [h, cut_map, mkL_at (hLs_q _)]
  rfl
theorem qCut_ri (h : isD f = false) {ns : List Int} (lo hi : Option Int) : qCut ⟨f, s, .ro (ns.map .int)⟩ lo hi = .ok ⟨.fr, false, vi (cut ns lo hi)⟩ := by
  show PR.ok (mkL (isD f) s (cut (ns.map V.int) lo hi)) = _
  rw [h, cut_map, mkL_at (hLs_i _)]
  rfl
theorem qAdd_r (h : isD f = false) (h' : isD g = false) {ps qs : List Rat} (hz : ps.length + qs.length ≤ szLine) : qAdd ⟨f, s, vr ps⟩ ⟨g, t, vr qs⟩ = .ok ⟨.fr, false, vr (ps ++ qs)⟩ := by
  show (if (ps.map vq).length + (qs.map vq).length ≤ szLine then PR.ok (mkL (isD f || isD g) (s || t) (ps.map vq ++ qs.map vq)) else .bad) = _
  rw [if_pos (by rw [List.length_map, List.length_map]; exact hz), h, h', ← List.map_append]
  show PR.ok (mkL false (s || t) _) = _
  rw [mkL_at (hLs_q _)]
  rfl
theorem qMul_one {x : V} (h : isD f = false) (hx : x.hasL = false) {k : Nat} (hk : k ≤ 1000000) : qMul ⟨f, s, .lst [x]⟩ (.at (.int k)) = .ok ⟨.fr, false, .lst (List.replicate k x)⟩ := by
  have sz : szLine = 16777216 := rfl
  show (if [x].length * (k : Int).toNat ≤ szLine ∧ -(2 ^ 63) ≤ (k : Int) ∧ (k : Int) < 2 ^ 63 then PR.ok (mkL (isD f) s (List.replicate (k : Int).toNat [x]).flatten) else .bad) = _
  rw [Int.toNat_natCast, if_pos (by rw [List.length_singleton]; omega), h, flat_one, mkL_at (by
    induction k with
    | zero => rfl
    | succ k ih =>
      rw [List.replicate_succ, hL_cons, hx, ih (by omega)]
      rfl)]
theorem vr_rep (k : Nat) (q : Rat) : V.lst (List.replicate k (vq q)) = vr (List.replicate k q) := by
  unfold vr
  rw [List.map_replicate]
theorem qMul_q (h : isD f = false) {q : Rat} {k : Nat} (hk : k ≤ 1000000) : qMul ⟨f, s, .lst [vq q]⟩ (.at (.int k)) = .ok ⟨.fr, false, vr (List.replicate k q)⟩ := by
  rw [qMul_one h (hL_q q) hk, vr_rep]
theorem mapO_bls (bs : List Bool) : mapO toBlV (bs.map .bl) = some bs := by
  induction bs with
  | nil => rfl
  | cons b bs ih =>
    show ((mapO toBlV (bs.map .bl)).map fun l => b :: l) = _
    rw [ih]
    rfl
theorem qAll_bl (bs : List Bool) : qAll ⟨f, s, .lst (bs.map .bl)⟩ = .ok (.at (.bl (bs.all id))) := by
  show (match mapO toBlV (bs.map .bl) with
    | some bs => PR.ok (W.at (.bl (bs.all id)))
    | none => .bad) = _
  rw [mapO_bls]
theorem qAny_bl (bs : List Bool) : qAny ⟨f, s, .lst (bs.map .bl)⟩ = .ok (.at (.bl (bs.any id))) := by
  show (match mapO toBlV (bs.map .bl) with
    | some bs => PR.ok (W.at (.bl (bs.any id)))
    | none => .bad) = _
  rw [mapO_bls]
/-! walks -/
theorem kqSeq_r {qs : List Rat} : kqSeq (.ok ⟨f, s, vr qs⟩) = .ok ⟨qs.map fun q => .at (vq q), !isB f⟩ := by
  show PR.ok (Ws.mk ((qs.map vq).map (elW (isD f) s)) (!isB f)) = _
  rw [List.map_map]
  rfl
theorem kqSeq_vi {qs : List Int} : kqSeq (.ok ⟨f, s, vi qs⟩) = .ok ⟨qs.map fun q => .at (.int q), !isB f⟩ := by
  show PR.ok (Ws.mk ((qs.map V.int).map (elW (isD f) s)) (!isB f)) = _
  rw [List.map_map]
  rfl
theorem kqSeq_t (h : isD f = false) {rs : List (List Rat)} : kqSeq (.ok ⟨f, s, vt rs⟩) = .ok ⟨rs.map fun r => ⟨.fz, s, vr r⟩, !isB f⟩ := by
  show PR.ok (Ws.mk ((rs.map vr).map (elW (isD f) s)) (!isB f)) = _
  rw [List.map_map, h]
  rfl
theorem kqSeq_l {xs : List V} : kqSeq (.ok ⟨f, s, .lst xs⟩) = .ok ⟨xs.map (elW (isD f) s), !isB f⟩ := id rfl
theorem kqEnum_l {xs : List V} : kqEnum (.ok ⟨f, s, .lst xs⟩) = .ok ⟨enumW (isD f) s 0 xs, !isB f⟩ := id rfl
theorem enumW_map {α : Type} (v : α → V) (ds tn : Bool) : ∀ (k : Nat) (xs : List α), enumW ds tn k (xs.map v) = (xs.zipIdx k).map fun p => mkT ds tn [.int (p.2 : Nat), v p.1]
  | _, [] => rfl
  | k, x :: xs => by
    rw [List.map_cons, List.zipIdx_cons, List.map_cons]
    show _ :: enumW ds tn (k + 1) (xs.map v) = _
    rw [enumW_map v ds tn (k + 1) xs]
theorem kqEnum_r {qs : List Rat} : kqEnum (.ok ⟨f, s, vr qs⟩) = .ok ⟨qs.zipIdx.map fun p => .at (.tup [.int (p.2 : Nat), vq p.1]), !isB f⟩ := by
  rw [vr, kqEnum_l, enumW_map]
  rfl
theorem kqEnum_vi {qs : List Int} : kqEnum (.ok ⟨f, s, vi qs⟩) = .ok ⟨qs.zipIdx.map fun p => .at (.tup [.int (p.2 : Nat), .int p.1]), !isB f⟩ := by
  rw [vi, kqEnum_l, enumW_map]
  rfl
theorem kqEnum_t (h : isD f = false) {rs : List (List Rat)} : kqEnum (.ok ⟨f, s, vt rs⟩) = .ok ⟨rs.zipIdx.map fun p => ⟨.fz, s, .tup [.int (p.2 : Nat), vr p.1]⟩, !isB f⟩ := by
  rw [vt, kqEnum_l, enumW_map, h]
  rfl
theorem zipW_map {α β : Type} (v : α → V) (u : β → V) (ds tn : Bool) : ∀ (xs : List α) (ys : List β), zipW ds tn (xs.map v) (ys.map u) = (xs.zip ys).map fun p => mkT ds tn [v p.1, u p.2]
  | [], ys => by
    unfold zipW
    simp
  | _ :: _, [] => by
    unfold zipW
    simp
  | x :: xs, y :: ys => by
    rw [List.map_cons, List.map_cons, List.zip_cons_cons, List.map_cons]
    show _ :: zipW ds tn (xs.map v) (ys.map u) = _
    rw [zipW_map v u ds tn xs ys]
theorem zipOf_l {xs ys : List V} : zipOf ⟨f, s, .lst xs⟩ ⟨g, t, .lst ys⟩ = .ok ⟨zipW (isD f || isD g) (s || t) xs ys, !isB f && !isB g⟩ := id rfl
theorem zipOf_rr {ps qs : List Rat} : zipOf ⟨f, s, vr ps⟩ ⟨g, t, vr qs⟩ = .ok ⟨(ps.zip qs).map fun p => .at (.tup [vq p.1, vq p.2]), !isB f && !isB g⟩ := by
  rw [vr, vr, zipOf_l, zipW_map]
  rfl
theorem zipOf_tr (h : isD f = false) (h' : isD g = false) {ps : List (List Rat)} {qs : List Rat} : zipOf ⟨f, s, vt ps⟩ ⟨g, t, vr qs⟩ = .ok ⟨(ps.zip qs).map fun p => ⟨.fz, s || t, .tup [vr p.1, vq p.2]⟩, !isB f && !isB g⟩ := by
  rw [vt, vr, zipOf_l, zipW_map, h, h']
  rfl
theorem zipOf_tt (h : isD f = false) (h' : isD g = false) {ps qs : List (List Rat)} : zipOf ⟨f, s, vt ps⟩ ⟨g, t, vt qs⟩ = .ok ⟨(ps.zip qs).map fun p => ⟨.fz, s || t, .tup [vr p.1, vr p.2]⟩, !isB f && !isB g⟩ := by
  rw [vt, vt, zipOf_l, zipW_map, h, h']
  rfl
end
/-! ### comprehensions -/
section
variable {α : Type} {t : PT} {c e : PE} {π : PEnv} {g : α → W} {xs : List α} {st : Bool}
theorem lc_rats (k : α → Rat) (hz : xs.length ≤ szLine) (hs : ∀ (i : Nat) (x : α), xs[i]? = some x → lcStep e (t (g x) π) = .ok (.at (vq (k x)))) : kqLc t (pC (.bl true)) e π (.ok ⟨xs.map g, st⟩) = .ok ⟨.fr, false, vr (xs.map k)⟩ := by
  rw [kqLc_new (fun _ => .fz) (fun x => vq (k x)) hz (fun _ => rfl) hs, vr, List.map_map]
  rfl
theorem lc_ints (k : α → Int) (hz : xs.length ≤ szLine) (hs : ∀ (i : Nat) (x : α), xs[i]? = some x → lcStep e (t (g x) π) = .ok (.at (.int (k x)))) : kqLc t (pC (.bl true)) e π (.ok ⟨xs.map g, st⟩) = .ok ⟨.fr, false, vi (xs.map k)⟩ := by
  rw [kqLc_new (fun _ => .fz) (fun x => .int (k x)) hz (fun _ => rfl) hs, vi, List.map_map]
  rfl
theorem lc_bls (k : α → Bool) (hz : xs.length ≤ szLine) (hs : ∀ (i : Nat) (x : α), xs[i]? = some x → lcStep e (t (g x) π) = .ok (.at (.bl (k x)))) : kqLc t (pC (.bl true)) e π (.ok ⟨xs.map g, st⟩) = .ok ⟨.fr, false, .lst ((xs.map k).map .bl)⟩ := by
  rw [kqLc_new (fun _ => .fz) (fun x => .bl (k x)) hz (fun _ => rfl) hs, List.map_map]
  rfl
theorem lc_rows (k : α → List Rat) (hz : xs.length ≤ szLine) (hs : ∀ (i : Nat) (x : α), xs[i]? = some x → lcStep e (t (g x) π) = .ok ⟨.fr, false, vr (k x)⟩) : kqLc t (pC (.bl true)) e π (.ok ⟨xs.map g, st⟩) = .ok ⟨.fr, false, vt (xs.map k)⟩ := by
  rw [kqLc_new (fun _ => .fr) (fun x => vr (k x)) hz (fun _ => rfl) hs, vt, List.map_map]
  rfl
end
end Mn
end
section
set_option Elab.async false
set_option autoImplicit false
set_option maxRecDepth 100000
set_option linter.all false
/-! Trees all of whose lists one owns: made, changed within, told. -/
namespace Mn
def dOk (w : W) : Bool := match w.fl with
  | .dr => true
  | .fr => match w.t with
    | .lst ts => !V.hasLs ts
    | _ => false
  | _ => !w.t.hasL
mutual
theorem Rq.ow0 {P : Nat → Prop} {M : Store} : ∀ {v : Val} {t : V}, Rq P M v t → t.hasL = false → Ow M v t []
  | _, _, .non, _ => .non
  | _, _, .bl b, _ => .bl b
  | _, _, .int i, _ => .int i
  | _, _, .str s, _ => .str s
  | _, _, .exc c, _ => .exc c
  | _, _, .tup r, h => .tup (Rql.ow0 r (by simpa [V.hasL] using h))
  | _, _, .lst _ _ _, h => by simp [V.hasL] at h
  | _, _, .ro _ _ _, h => by simp [V.hasL] at h
  | _, _, .obj _ _ _, h => by simp [V.hasL] at h
  | _, _, .dic _ _ _ _, h => by simp [V.hasL] at h
theorem Rql.ow0 {P : Nat → Prop} {M : Store} : ∀ {vs : List Val} {ts : List V}, Rql P M vs ts → V.hasLs ts = false → Owl M vs ts []
  | _, _, .nil, _ => .nil
  | _, _, .cons r rs, h => by
    unfold V.hasLs at h
    rw [Bool.or_eq_false_iff] at h
    have := Owl.cons (Rq.ow0 r h.1) (Rql.ow0 rs h.2)
    rw [List.append_nil] at this
    exact this
end
theorem RW.deep {B L : Nat} {Pa O : Nat → Prop} {M : Store} {v : Val} {w : W} (hb : ∀ n, O n → n < L) (hl : B ≤ L) (h : RW B Pa O L M v w) (k : dOk w = true) : ∃ cs, Ow M v w.t cs ∧ cs.Nodup ∧ ∀ n ∈ cs, L ≤ n ∧ Av O B Pa false n := by
  have flat : w.t.hasL = false → ∃ cs, Ow M v w.t cs ∧ cs.Nodup ∧ ∀ n ∈ cs, L ≤ n ∧ Av O B Pa false n := fun q => ⟨[], h.any.ow0 q, List.nodup_nil, fun n hn => by cases hn⟩
  obtain ⟨fl, tn, t⟩ := w
  cases fl with
  | dr => exact h
  | fr =>
    obtain ⟨n, xs, ts, rfl, a, b, c, d⟩ := h
    simp only at c
    subst c
    have k : V.hasLs ts = false := by simpa [dOk] using k
    refine ⟨[n], .lst b (Rql.ow0 d k), by simp, fun m hm => ?_⟩
    rw [List.mem_singleton.mp hm]
    exact ⟨a, fun o => by have := hb n o; omega, .inl (by omega)⟩
  | fz => exact flat (by simpa [dOk] using k)
  | bo => exact flat (by simpa [dOk] using k)
  | bd => exact flat (by simpa [dOk] using k)
/-- made one's own, whole -/
def kqDeep : PR W → PR W
  | .ok w => if dOk w = true then .ok ⟨.dr, false, w.t⟩ else .bad
  | .exc c => .exc c
  | .bad => .bad
def pDeep (e : PE) : PE := fun π => kqDeep (e π)
theorem sx_deep {e : E} {p : PE} (he : SimE e p) : SimE e (pDeep p) := by
  refine ⟨?_⟩
  intro B Pa O ρ M π h
  have h1 := he B Pa O ρ M π h
  unfold pDeep
  cases e1 : p π with
  | bad => exact trivial
  | exc c =>
    rw [e1] at h1
    exact h1
  | ok w =>
    rw [e1] at h1
    obtain ⟨v, M1, e2, g1, r1⟩ := h1
    unfold kqDeep
    simp only []
    by_cases hd : dOk w = true
    · rw [if_pos hd]
      exact ⟨v, M1, e2, g1, RW.deep (w := w) (fun n o => (h.bnd n o).2) h.low r1 hd⟩
    · rw [if_neg hd]
      exact trivial
theorem Owl.append {M : Store} : ∀ {xs ys : List Val} {ts us : List V} {a b : List Nat}, Owl M xs ts a → Owl M ys us b → Owl M (xs ++ ys) (ts ++ us) (a ++ b)
  | _, _, _, _, _, _, .nil, s => s
  | _, _, _, _, _, _, .cons h r, s => by
    rw [List.append_assoc]
    exact .cons h (Owl.append r s)
theorem Owl.one {M : Store} {x : Val} {t : V} {a : List Nat} (h : Ow M x t a) : Owl M [x] [t] a := by
  have := Owl.cons h (Owl.nil (M := M))
  rw [List.append_nil] at this
  exact this
theorem Owl.gr {M M' : Store} (g : Gr M M') {vs : List Val} {ts : List V} {cs : List Nat} (h : Owl M vs ts cs) : Owl M' vs ts cs := h.map fun _ _ _ e => g.at e
theorem Owl.length {M : Store} : ∀ {xs : List Val} {ts : List V} {cs : List Nat}, Owl M xs ts cs → xs.length = ts.length
  | _, _, _, .nil => rfl
  | _, _, _, .cons _ r => congrArg Nat.succ (Owl.length r)
theorem nodup_app {a b : List Nat} (ha : a.Nodup) (hb : b.Nodup) (h : ∀ n, n ∈ a → n ∈ b → False) : (a ++ b).Nodup := List.nodup_append.mpr ⟨ha, hb, fun x hx y hy e => h x hx (by rw [e]; exact hy)⟩
/-! several things, each newer than the one before -/
def AccD (B : Nat) (Pa O : Nat → Prop) (L : Nat) (M : Store) (vs : List Val) (ws : List W) : Prop := ws.all dOk = true → ∃ cs, Owl M vs (ws.map W.t) cs ∧ cs.Nodup ∧ ∀ n ∈ cs, L ≤ n ∧ Av O B Pa false n
theorem AccD.nil {B L : Nat} {Pa O : Nat → Prop} {M : Store} : AccD B Pa O L M [] [] := fun _ => ⟨[], .nil, List.nodup_nil, fun n h => by cases h⟩
theorem AccD.gr {B L : Nat} {Pa O : Nat → Prop} {M M' : Store} {vs : List Val} {ws : List W} (g : Gr M M') (h : AccD B Pa O L M vs ws) : AccD B Pa O L M' vs ws := fun k => let ⟨cs, a, b, c⟩ := h k; ⟨cs, a.gr g, b, c⟩
theorem AccD.snoc {B L : Nat} {Pa O : Nat → Prop} {M M' : Store} {vs : List Val} {ws : List W} {y : Val} {u : W} (hb : ∀ n, O n → n < L) (hl : B ≤ L) (l : L ≤ M.length) (g : Gr M M') (h : AccD B Pa O L M vs ws) (r : RW B Pa O M.length M' y u) : AccD B Pa O L M' (vs ++ [y]) (ws ++ [u]) := fun k => by
  rw [List.all_append, Bool.and_eq_true] at k
  obtain ⟨cs, a, b, c⟩ := h k.1
  have k2 : dOk u = true := by simpa using k.2
  obtain ⟨ds, d, e, f⟩ := r.deep (fun n o => Nat.lt_of_lt_of_le (hb n o) l) (Nat.le_trans hl l) k2
  refine ⟨cs ++ ds, ?_, nodup_app b e fun n h1 h2 => ?_, fun n hn => ?_⟩
  · rw [List.map_append]
    exact Owl.append (a.gr g) (Owl.one d)
  · have := Owl.lt a n h1
    have := (f n h2).1
    omega
  · rcases List.mem_append.mp hn with hn | hn
    · exact c n hn
    · exact ⟨Nat.le_trans l (f n hn).1, (f n hn).2⟩
theorem sx_listD : ∀ {es : List E} {ps : List PE}, SimL es ps → ∀ (B L : Nat) (Pa O : Nat → Prop) (ρ : Env) (M : Store) (π : PEnv), PSt B Pa O ρ M π → (∀ n, O n → n < L) → B ≤ L → L ≤ M.length → match pvL ps π with
    | .ok ws => ∃ vs M', evL es ρ M = .ok vs M' ∧ Gr M M' ∧ AccD B Pa O M.length M' vs ws
    | .exc c => ∃ M', evL es ρ M = .exc c M' ∧ Gr M M'
    | .bad => True
  | _, _, .nil, B, L, Pa, O, ρ, M, π, h, _, _, _ => by
    unfold pvL
    exact ⟨[], M, rfl, Gr.refl M, AccD.nil⟩
  | _, _, .cons (e := e) (p := p) (es := es) (ps := ps) he hr, B, L, Pa, O, ρ, M, π, h, hb, hl, l => by
    have h1 := he B Pa O ρ M π h
    rw [pvL_k]
    unfold evL
    cases e1 : p π with
    | bad =>
      unfold kqL1
      exact trivial
    | exc c =>
      rw [e1] at h1
      obtain ⟨M', e2, g1⟩ := h1
      rw [e2]
      unfold kqL1
      exact ⟨M', rfl, g1⟩
    | ok w =>
      rw [e1] at h1
      obtain ⟨x, M1, e2, g1, r1⟩ := h1
      rw [e2]
      have h2 := sx_listD hr B L Pa O ρ M1 π (h.gr g1) hb hl (Nat.le_trans l g1.len)
      unfold kqL1
      simp only [R.bind_ok]
      cases e3 : pvL ps π with
      | bad => exact trivial
      | exc c =>
        rw [e3] at h2
        obtain ⟨M', e4, g2⟩ := h2
        rw [e4]
        exact ⟨M', rfl, g1.trans g2⟩
      | ok ws =>
        rw [e3] at h2
        obtain ⟨vs, M2, e4, g2, r2⟩ := h2
        rw [e4]
        refine ⟨_, M2, rfl, g1.trans g2, fun k => ?_⟩
        rw [List.all_cons, Bool.and_eq_true] at k
        obtain ⟨ds, d, e, f⟩ := r1.deep (fun n o => (h.bnd n o).2) h.low k.1
        obtain ⟨cs, a, b, c⟩ := r2 k.2
        refine ⟨ds ++ cs, .cons (Ow.gr g2 d) a, nodup_app e b fun n h1 h2 => ?_, fun n hn => ?_⟩
        · have := Ow.lt d n h1
          have := (c n h2).1
          omega
        · rcases List.mem_append.mp hn with hn | hn
          · exact f n hn
          · exact ⟨Nat.le_trans g1.len (c n hn).1, (c n hn).2⟩
def kqTupD : PR (List W) → PR W
  | .ok ws => if ws.length ≤ szLine ∧ ws.all dOk = true then .ok ⟨.dr, false, .tup (ws.map W.t)⟩ else .bad
  | .exc c => .exc c
  | .bad => .bad
def pTupD (es : List PE) : PE := fun π => kqTupD (pvL es π)
def kqLstD : PR (List W) → PR W
  | .ok ws => if ws.length ≤ szLine ∧ ws.all dOk = true then .ok ⟨.dr, false, .lst (ws.map W.t)⟩ else .bad
  | .exc c => .exc c
  | .bad => .bad
def pLstD (es : List PE) : PE := fun π => kqLstD (pvL es π)
theorem sx_tupD {es : List E} {ps : List PE} (hs : SimL es ps) : SimE (eTup es) (pTupD ps) := by
  refine ⟨?_⟩
  intro B Pa O ρ M π h
  have h1 := sx_listD hs B M.length Pa O ρ M π h (fun n o => (h.bnd n o).2) h.low (Nat.le_refl _)
  unfold pTupD eTup
  cases e1 : pvL ps π with
  | bad => exact trivial
  | exc c =>
    rw [e1] at h1
    obtain ⟨M', e2, g1⟩ := h1
    rw [e2]
    exact ⟨M', rfl, g1⟩
  | ok ws =>
    rw [e1] at h1
    obtain ⟨vs, M1, e2, g1, r1⟩ := h1
    rw [e2]
    unfold kqTupD
    simp only [R.bind_ok]
    by_cases hz : ws.length ≤ szLine ∧ ws.all dOk = true
    · obtain ⟨cs, a, b, c⟩ := r1 hz.2
      have hl : vs.length = ws.length := by rw [a.length, List.length_map]
      rw [if_pos hz, if_pos (by rw [hl]; exact hz.1)]
      exact ⟨_, M1, rfl, g1, cs, .tup a, b, c⟩
    · rw [if_neg hz]
      exact trivial
theorem newD {B L : Nat} {Pa O : Nat → Prop} {M : Store} (c : Cx B Pa O L M) {vs : List Val} {ts : List V} {cs : List Nat} (a : Owl M vs ts cs) (b : cs.Nodup) (d : ∀ n ∈ cs, L ≤ n ∧ Av O B Pa false n) : RW B Pa O L (M ++ [.lst vs]) (.ref M.length) ⟨.dr, false, .lst ts⟩ := by
  refine ⟨M.length :: cs, .lst (lst_new' M _) (a.gr (Gr.one M _)), List.nodup_cons.mpr ⟨fun z => Nat.lt_irrefl _ (Owl.lt a _ z), b⟩, fun n hn => ?_⟩
  rcases List.mem_cons.mp hn with e | hn
  · rw [e]
    exact ⟨c.up, fun o => by have := (c.bnd _ o).2; have := c.up; omega, .inl (Nat.le_trans c.low c.up)⟩
  · exact d n hn
theorem sx_lstD {es : List E} {ps : List PE} (hs : SimL es ps) : SimE (eLst es) (pLstD ps) := by
  refine ⟨?_⟩
  intro B Pa O ρ M π h
  have h1 := sx_listD hs B M.length Pa O ρ M π h (fun n o => (h.bnd n o).2) h.low (Nat.le_refl _)
  unfold pLstD eLst
  cases e1 : pvL ps π with
  | bad => exact trivial
  | exc c =>
    rw [e1] at h1
    obtain ⟨M', e2, g1⟩ := h1
    rw [e2]
    exact ⟨M', rfl, g1⟩
  | ok ws =>
    rw [e1] at h1
    obtain ⟨vs, M1, e2, g1, r1⟩ := h1
    rw [e2]
    unfold kqLstD
    simp only [R.bind_ok]
    by_cases hz : ws.length ≤ szLine ∧ ws.all dOk = true
    · obtain ⟨cs, a, b, c⟩ := r1 hz.2
      have hl : vs.length = ws.length := by rw [a.length, List.length_map]
      rw [if_pos hz, if_pos (by rw [hl]; exact hz.1)]
      exact ⟨_, _, rfl, g1.trans (Gr.one _ _), newD (h.cx g1) a b c⟩
    · rw [if_neg hz]
      exact trivial
/-! comprehensions -/
def LcD (B : Nat) (Pa O : Nat → Prop) (L : Nat) (M : Store) (r : R (List Val)) (aw : List W) (p : PR (List W)) : Prop := match p with
  | .ok us => ∃ vs M', r = .ok vs M' ∧ Gr M M' ∧ AccD B Pa O L M' vs (aw ++ us)
  | .exc _ => False
  | .bad => True
theorem lcD_ok {B L : Nat} {Pa O : Nat → Prop} {ρ : Env} {M0 : Store} {π : PEnv} {it : Itr} {s : Ws} {t : Tg} {t' : PT} {c e : E} {c' e' : PE} (ht : SimT t t') (hc : SimE c c') (he : SimE e e') (wk : Wk B Pa O M0 it s) (hL : L ≤ M0.length) (hb : ∀ n, O n → n < L) (hB : B ≤ L) :
    ∀ (ws : List W) (k i : Nat) (acc : List Val) (aw : List W) (M : Store), ws = s.ws.drop i → k = ws.length → Gr M0 M → PSt B Pa O ρ M π → AccD B Pa O L M acc aw → LcD B Pa O L M (lcN it t c e ρ k i acc M) aw (pLcN t' c' e' π ws)
  | [], k, i, acc, aw, M, ew, ek, g, st, r => by
    subst ek
    have f := (wk.go O M (by split; exact Ext.gr g; exact ⟨rfl, g⟩)).2
    refine ⟨acc, M, ?_, Gr.refl M, by rw [List.append_nil]; exact r⟩
    show lcN it t c e ρ 0 i acc M = _
    unfold lcN
    rw [if_pos f]
  | w :: ws, k, i, acc, aw, M, ew, ek, g, st, r => by
    subst ek
    have hw : s.ws[i]? = some w := by
      have : (s.ws.drop i)[0]? = some w := by rw [← ew]; rfl
      rw [List.getElem?_drop] at this
      exact this
    have hd : ws = s.ws.drop (i + 1) := by
      have : (w :: ws).drop 1 = (s.ws.drop i).drop 1 := by rw [ew]
      rw [List.drop_drop] at this
      exact this
    obtain ⟨v, e1, rv⟩ := (wk.go O M (by split; exact Ext.gr g; exact ⟨rfl, g⟩)).1 i w hw
    have h1 := ht B B Pa O ρ M π v w st rv
    unfold pLcN
    show LcD B Pa O L M (lcN it t c e ρ (ws.length + 1) i acc M) aw _
    unfold lcN
    rw [e1]
    simp only []
    cases e2 : t' w π with
    | nx π1 =>
      rw [e2] at h1
      obtain ⟨ρ1, e3, s1⟩ := h1
      rw [e3]
      simp only []
      have h2 := hc B Pa O ρ1 M π1 s1
      cases e4 : c' π1 with
      | ok b =>
        rw [e4] at h2
        obtain ⟨bv, M1, e5, g1, rb⟩ := h2
        rw [e5]
        simp only []
        cases e6 : b.t with
        | bl q =>
          rw [rb.bl e6]
          cases q with
          | false =>
            simp only []
            have h3 := lcD_ok ht hc he wk hL hb hB ws ws.length (i + 1) acc aw M1 hd rfl (g.trans g1) (st.gr g1) (r.gr g1)
            cases e7 : pLcN t' c' e' π ws with
            | ok us =>
              rw [e7] at h3
              obtain ⟨vs, M', a, b, c⟩ := h3
              exact ⟨vs, M', a, g1.trans b, c⟩
            | exc x =>
              rw [e7] at h3
              exact h3.elim
            | bad => exact trivial
          | true =>
            simp only []
            have h3 := he B Pa O ρ1 M1 π1 (s1.gr g1)
            cases e7 : e' π1 with
            | ok u =>
              rw [e7] at h3
              obtain ⟨y, M2, e8, g2, ru⟩ := h3
              rw [e8]
              simp only []
              have g12 := g1.trans g2
              have h4 := lcD_ok ht hc he wk hL hb hB ws ws.length (i + 1) (acc ++ [y]) (aw ++ [u]) M2 hd rfl (g.trans g12) (st.gr g12) ((r.gr g1).snoc hb hB (Nat.le_trans hL (g.trans g1).len) g2 ru)
              cases e9 : pLcN t' c' e' π ws with
              | ok us =>
                rw [e9] at h4
                obtain ⟨vs, M', a, b, c⟩ := h4
                rw [List.append_assoc] at c
                exact ⟨vs, M', a, g12.trans b, c⟩
              | exc x =>
                rw [e9] at h4
                exact h4.elim
              | bad => exact trivial
            | _ => exact trivial
        | _ => exact trivial
      | _ => exact trivial
    | _ => exact trivial
def kqLcD2 : PR (List W) → PR W
  | .ok us => if us.all dOk = true then .ok ⟨.dr, false, .lst (us.map W.t)⟩ else .bad
  | .exc c => .exc c
  | .bad => .bad
def kqLcD (t : PT) (c e : PE) (π : PEnv) : PR Ws → PR W
  | .ok s => if s.ws.length ≤ szLine then kqLcD2 (pLcN t c e π s.ws) else .bad
  | .exc c => .exc c
  | .bad => .bad
def pLcD (s : PSrc) (t : PT) (vs : List Nat) (c e : PE) : PE := fun π => kqLcD t c e (killP π vs) (s π)
theorem sx_lcD {s : Src} {s' : PSrc} {t : Tg} {t' : PT} {c e : E} {c' e' : PE} (vs : List Nat) (hs : SimI s s') (ht : SimT t t') (hc : SimE c c') (he : SimE e e') : SimE (eLc s t vs c e) (pLcD s' t' vs c' e') := by
  refine ⟨?_⟩
  intro B Pa O ρ M π h
  have h1 := hs B Pa O ρ M π h
  unfold pLcD eLc
  cases e1 : s' π with
  | bad => exact trivial
  | exc c =>
    rw [e1] at h1
    obtain ⟨M', e2, g1⟩ := h1
    rw [e2]
    exact ⟨M', rfl, g1⟩
  | ok z =>
    rw [e1] at h1
    obtain ⟨it, M1, e2, g1, wk⟩ := h1
    rw [e2]
    unfold kqLcD
    simp only [R.bind_ok]
    rw [wk.cnt]
    by_cases hz : z.ws.length ≤ szLine
    · rw [if_pos hz, if_pos hz]
      have h2 := lcD_ok (L := M.length) ht hc he wk g1.len (fun n o => (h.bnd n o).2) h.low z.ws z.ws.length 0 [] [] M1 rfl rfl (Gr.refl M1) ((h.gr g1).wipe vs) AccD.nil
      cases e3 : pLcN t' c' e' (killP π vs) z.ws with
      | ok us =>
        rw [e3] at h2
        obtain ⟨ys, M2, a, b, c⟩ := h2
        rw [a]
        unfold kqLcD2
        simp only []
        by_cases hd : us.all dOk = true
        · rw [if_pos hd]
          obtain ⟨cs, d, f, k⟩ := c hd
          exact ⟨_, _, rfl, (g1.trans b).trans (Gr.one _ _), newD (h.cx (g1.trans b)) d f k⟩
        · rw [if_neg hd]
          exact trivial
      | exc c =>
        rw [e3] at h2
        exact h2.elim
      | bad => exact trivial
    · rw [if_neg hz, if_neg hz]
      exact trivial
/-! told -/
/-- a name's value, whole -/
def ownD (j : Nat) (π : PEnv) : Option V := match π[j]? with
  | some (some ⟨.dr, _, t⟩) => some t
  | _ => none
theorem ownD_ok {j : Nat} {π : PEnv} {t : V} (h : ownD j π = some t) : ∃ tn, π[j]? = some (some ⟨.dr, tn, t⟩) := by
  unfold ownD at h
  split at h
  · cases h
    exact ⟨_, by assumption⟩
  · cases h
theorem ownD_at {B : Nat} {Pa O : Nat → Prop} {ρ : Env} {M : Store} {π : PEnv} (h : PSt B Pa O ρ M π) {j : Nat} {tn : Bool} {t : V} (e : π[j]? = some (some ⟨.dr, tn, t⟩)) : ∃ v cs, ρ[j]? = some (some v) ∧ Ow M v t cs ∧ cs.Nodup ∧ (∀ n ∈ cs, O n) ∧ ∀ n ∈ cs, B ≤ n := by
  obtain ⟨v, a, cs, b, c, d⟩ := h.val j _ e
  obtain ⟨v', cs', a', b', on⟩ := h.own j _ e rfl
  rw [a] at a'
  cases a'
  have b2 : Ow M v t cs' := b'
  rw [← Ow.fn b b2] at on
  exact ⟨v, cs, a, b, c, on, d⟩
def pRetD (j : Nat) : PS := fun π => match ownD j π with
  | some t => .ret ⟨.dr, false, t⟩
  | none => .bad
theorem ss_retD (j : Nat) : SimS (sRet (eVar j)) (pRetD j) := by
  refine ⟨?_⟩
  intro B Pa O ρ M π h
  unfold pRetD
  cases e : ownD j π with
  | none => exact trivial
  | some t =>
    obtain ⟨tn, e1⟩ := ownD_ok e
    obtain ⟨v, cs, a, b, c, d, f⟩ := ownD_at h e1
    refine ⟨v, M, O, ?_, Ext.refl O M, cs, b, c, f⟩
    unfold sRet
    rw [eVar_at a]
    rfl
end Mn
end
section
set_option Elab.async false
set_option autoImplicit false
set_option maxRecDepth 100000
set_option linter.all false
/-! Changes within a tree of one's own, several names told at once. -/
namespace Mn
/-! ### several names told as one -/
/-- a name's value where all its lists are one's own -/
def deepW (w : W) : Option V := match w with
  | ⟨.dr, _, t⟩ => some t
  | ⟨.fr, _, .lst ts⟩ => if V.hasLs ts = false then some (.lst ts) else none
  | ⟨.fz, _, t⟩ => if t.hasL = false then some t else none
  | _ => none
theorem deep_at {B : Nat} {Pa O : Nat → Prop} {ρ : Env} {M : Store} {π : PEnv} (h : PSt B Pa O ρ M π) {j : Nat} {w : W} {t : V} (e : π[j]? = some (some w)) (k : deepW w = some t) :
    ∃ v cs, ρ[j]? = some (some v) ∧ Ow M v t cs ∧ cs.Nodup ∧ (∀ n ∈ cs, B ≤ n) ∧ (∀ n ∈ cs, ∃ ds, Oc w.fl M v w.t ds ∧ n ∈ ds) := by
  obtain ⟨fl, tn, u⟩ := w
  cases fl with
  | dr =>
    cases k
    obtain ⟨v, cs, a, b, c, d, f⟩ := ownD_at h e
    exact ⟨v, cs, a, b, c, f, fun n hn => ⟨cs, b, hn⟩⟩
  | fr =>
    cases u with
    | lst ts =>
      have k : (if V.hasLs ts = false then some (V.lst ts) else none) = some t := k
      by_cases hk : V.hasLs ts = false
      · rw [if_pos hk] at k
        cases k
        obtain ⟨v, a, b⟩ := h.val j _ e
        obtain ⟨n, xs, us, rfl, p, q, r, s⟩ := b
        cases r
        refine ⟨.ref n, [n], a, .lst q (Rql.ow0 s hk), by simp, fun m hm => ?_, fun m hm => ⟨[n], ⟨n, rfl, rfl⟩, hm⟩⟩
        rw [List.mem_singleton.mp hm]
        exact p
      · rw [if_neg hk] at k
        cases k
    | _ => cases k
  | fz =>
    have k : (if u.hasL = false then some u else none) = some t := k
    by_cases hk : u.hasL = false
    · rw [if_pos hk] at k
      cases k
      obtain ⟨v, a, b⟩ := h.val j _ e
      exact ⟨v, [], a, Rq.ow0 (P := Av O B Pa tn) b hk, List.nodup_nil, (fun n hn => by cases hn), (fun n hn => by cases hn)⟩
    · rw [if_neg hk] at k
      cases k
  | _ => cases k
def deeps (π : PEnv) : List Nat → Option (List V)
  | [] => some []
  | j :: js => match π[j]? with
    | some (some w) => match deepW w with
      | some t => (deeps π js).map (t :: ·)
      | none => none
    | _ => none
def pRetV (js : List Nat) : PS := fun π => match deeps π js with
  | some ts => if js.Nodup ∧ ts.length ≤ szLine then .ret ⟨.dr, false, .tup ts⟩ else .bad
  | none => .bad
theorem deeps_ok {B : Nat} {Pa O : Nat → Prop} {ρ : Env} {M : Store} {π : PEnv} (h : PSt B Pa O ρ M π) : ∀ (js : List Nat) (ts : List V), js.Nodup → deeps π js = some ts →
    ∃ vs cs, evL (js.map eVar) ρ M = .ok vs M ∧ Owl M vs ts cs ∧ cs.Nodup ∧ (∀ n ∈ cs, B ≤ n) ∧ ∀ n ∈ cs, ∃ j ∈ js, ∃ (w : W) (v : Val) (ds : List Nat), π[j]? = some (some w) ∧ ρ[j]? = some (some v) ∧ Oc w.fl M v w.t ds ∧ n ∈ ds
  | [], ts, _, e => by
    cases e
    exact ⟨[], [], rfl, .nil, List.nodup_nil, (fun n hn => by cases hn), (fun n hn => by cases hn)⟩
  | j :: js, ts, nd, e => by
    unfold deeps at e
    obtain ⟨nj, nd⟩ := List.nodup_cons.mp nd
    split at e
    · rename_i w ew
      split at e
      · rename_i t et
        cases e2 : deeps π js with
        | none =>
          rw [e2] at e
          cases e
        | some us =>
          rw [e2] at e
          cases e
          obtain ⟨v, cs, a, b, c, d, f⟩ := deep_at h ew et
          obtain ⟨vs, ds, p, q, r, s, uu⟩ := deeps_ok h js us nd e2
          refine ⟨v :: vs, cs ++ ds, ?_, .cons b q, nodup_app c r fun n h1 h2 => ?_, fun n hn => ?_, fun n hn => ?_⟩
          · rw [List.map_cons]
            unfold evL
            rw [eVar_at a]
            simp only [R.bind_ok]
            rw [p]
            rfl
          · obtain ⟨es, o1, m1⟩ := f n h1
            obtain ⟨k, hk, w', v', es', e3, e4, o2, m2⟩ := uu n h2
            have := h.inj j k w w' v v' es es' n ew e3 a e4 o1 o2 m1 m2
            rw [this] at nj
            exact nj hk
          · rcases List.mem_append.mp hn with hn | hn
            · exact d n hn
            · exact s n hn
          · rcases List.mem_append.mp hn with hn | hn
            · obtain ⟨es, o1, m1⟩ := f n hn
              exact ⟨j, List.mem_cons_self, w, v, es, ew, a, o1, m1⟩
            · obtain ⟨k, hk, rest⟩ := uu n hn
              exact ⟨k, List.mem_cons_of_mem _ hk, rest⟩
      · cases e
    · cases e
theorem ss_retV (js : List Nat) : SimS (sRet (eTup (js.map eVar))) (pRetV js) := by
  refine ⟨?_⟩
  intro B Pa O ρ M π h
  unfold pRetV
  cases e : deeps π js with
  | none => exact trivial
  | some ts =>
    simp only []
    by_cases hz : js.Nodup ∧ ts.length ≤ szLine
    · rw [if_pos hz]
      obtain ⟨vs, cs, a, b, c, d, f⟩ := deeps_ok h js ts hz.1 e
      refine ⟨.tup vs, M, O, ?_, Ext.refl O M, cs, .tup b, c, d⟩
      unfold sRet eTup
      rw [a]
      simp only [R.bind_ok]
      rw [if_pos (by rw [b.length]; exact hz.2)]
      rfl
    · rw [if_neg hz]
      exact trivial
/-! ### a change within -/
/-- the part of a tree that a way of places leads to -/
def subV : List Nat → V → Option V
  | [], t => some t
  | i :: p, .lst ts => match ts[i]? with
    | some t => subV p t
    | none => none
  | i :: p, .tup ts => match ts[i]? with
    | some t => subV p t
    | none => none
  | _, _ => none
def putV : List Nat → V → V → V
  | [], _, u => u
  | i :: p, .lst ts, u => match ts[i]? with
    | some t => .lst (ts.set i (putV p t u))
    | none => .lst ts
  | i :: p, .tup ts, u => match ts[i]? with
    | some t => .tup (ts.set i (putV p t u))
    | none => .tup ts
  | _, t, _ => t
/-- the same of values -/
def subX (M : Store) : List Nat → Val → Option Val
  | [], v => some v
  | i :: p, .ref n => match M[n]? with
    | some (.lst xs) => match xs[i]? with
      | some x => subX M p x
      | none => none
    | _ => none
  | i :: p, .tup xs => match xs[i]? with
    | some x => subX M p x
    | none => none
  | _, _ => none
/-- one thing of several: its places, the others' -/
theorem Owl.split {M : Store} : ∀ {xs : List Val} {ts : List V} {cs : List Nat} {i : Nat} {t : V}, Owl M xs ts cs → ts[i]? = some t →
    ∃ x a c b, xs[i]? = some x ∧ Ow M x t c ∧ cs = a ++ c ++ b ∧ ∀ (M' : Store) (x' : Val) (t' : V) (c' : List Nat), (∀ n k, n ∈ a ∨ n ∈ b → M[n]? = some k → M'[n]? = some k) → Ow M' x' t' c' → Owl M' (xs.set i x') (ts.set i t') (a ++ c' ++ b)
  | _, _, _, _, _, .nil, e => by cases e
  | _, _, _, 0, _, .cons (x := x) (a := c) (b := b) h r, e => by
    cases e
    refine ⟨x, [], c, b, rfl, h, by rw [List.nil_append], fun M' x' t' c' k o => ?_⟩
    rw [List.nil_append]
    exact .cons o (Owl.map r fun m k2 hm e => k m k2 (.inr hm) e)
  | _, _, _, i + 1, _, .cons (x := y) (a := d) h r, e => by
    obtain ⟨x, a, c, b, e1, o, rfl, f⟩ := Owl.split (i := i) r e
    refine ⟨x, d ++ a, c, b, e1, o, by simp only [List.append_assoc], fun M' x' t' c' k o' => ?_⟩
    have := Owl.cons (Ow.map h fun m k2 hm e => k m k2 (.inl (List.mem_append_left _ hm)) e) (f M' x' t' c' (fun n k2 hn => k n k2 (hn.imp (List.mem_append_right _) id)) o')
    simp only [List.append_assoc] at this ⊢
    exact this
theorem nodup_mid {a c b c' : List Nat} (h : (a ++ c ++ b).Nodup) (hc : c'.Nodup) (d : ∀ n ∈ c', n ∈ c ∨ (n ∉ a ∧ n ∉ b)) : (a ++ c' ++ b).Nodup := by
  rw [List.append_assoc] at h ⊢
  rw [List.nodup_append] at h ⊢
  obtain ⟨h1, h2, h3⟩ := h
  rw [List.nodup_append] at h2
  obtain ⟨h4, h5, h6⟩ := h2
  refine ⟨h1, List.nodup_append.mpr ⟨hc, h5, fun x hx y hy e => ?_⟩, fun x hx y hy e => ?_⟩
  · subst e
    rcases d x hx with z | z
    · exact h6 x z x hy rfl
    · exact z.2 hy
  · subst e
    rcases List.mem_append.mp hy with hy | hy
    · rcases d x hy with z | z
      · exact h3 x hx x (List.mem_append_left _ z) rfl
      · exact z.1 hx
    · exact h3 x hx x (List.mem_append_right _ hy) rfl
/-- a list within: where it stands, and the tree with another list in its place -/
theorem Ow.lens {M : Store} : ∀ (p : List Nat) {v : Val} {t : V} {cs : List Nat} {us : List V}, Ow M v t cs → cs.Nodup → subV p t = some (.lst us) →
    ∃ n xs cu, subX M p v = some (.ref n) ∧ M[n]? = some (.lst xs) ∧ Owl M xs us cu ∧ n ∈ cs ∧ (∀ m ∈ cu, m ∈ cs) ∧ cu.Nodup ∧ n ∉ cu ∧
      ∀ (M' : Store) (ys : List Val) (us' : List V) (cu' : List Nat), (∀ m k, m ∈ cs → m ≠ n → m ∉ cu → M[m]? = some k → M'[m]? = some k) → M'[n]? = some (.lst ys) → Owl M' ys us' cu' → cu'.Nodup → n ∉ cu' → (∀ m ∈ cu', m ∈ cu ∨ m ∉ cs) →
        ∃ cs', Ow M' v (putV p t (.lst us')) cs' ∧ cs'.Nodup ∧ ∀ m ∈ cs', m ∈ cs ∨ m ∈ cu'
  | [], v, t, cs, us, h, nd, e => by
    cases e
    cases h with
    | @lst n xs _ cu hn r =>
      obtain ⟨n1, n2⟩ := List.nodup_cons.mp nd
      refine ⟨n, xs, cu, rfl, hn, r, List.mem_cons_self, fun m hm => List.mem_cons_of_mem _ hm, n2, n1, fun M' ys us' cu' k hn' r' nd' nn dd => ?_⟩
      refine ⟨n :: cu', .lst hn' r', List.nodup_cons.mpr ⟨nn, nd'⟩, fun m hm => ?_⟩
      rcases List.mem_cons.mp hm with e | hm
      · exact .inl (by rw [e]; exact List.mem_cons_self)
      · exact .inr hm
  | i :: p, v, t, cs, us, h, nd, e => by
    -- a list, a tuple
    have step : ∀ (xs : List Val) (ts : List V) (ds : List Nat) (t1 : V), Owl M xs ts ds → ds.Nodup → ts[i]? = some t1 → subV p t1 = some (.lst us) → ∃ x, xs[i]? = some x ∧ ∃ n ys cu, subX M p x = some (.ref n) ∧ M[n]? = some (.lst ys) ∧ Owl M ys us cu ∧ n ∈ ds ∧ (∀ m ∈ cu, m ∈ ds) ∧ cu.Nodup ∧ n ∉ cu ∧
        ∀ (M' : Store) (zs : List Val) (us' : List V) (cu' : List Nat), (∀ m k, m ∈ ds → m ≠ n → m ∉ cu → M[m]? = some k → M'[m]? = some k) → M'[n]? = some (.lst zs) → Owl M' zs us' cu' → cu'.Nodup → n ∉ cu' → (∀ m ∈ cu', m ∈ cu ∨ m ∉ ds) →
          ∃ ds', Owl M' xs (ts.set i (putV p t1 (.lst us'))) ds' ∧ ds'.Nodup ∧ ∀ m ∈ ds', m ∈ ds ∨ m ∈ cu' := fun xs ts ds t1 r nd e1 e2 => by
      obtain ⟨x, a, c, b, ex, o, rfl, f⟩ := Owl.split r e1
      have ndc : c.Nodup := by
        rw [List.append_assoc] at nd
        exact (List.nodup_append.mp (List.nodup_append.mp nd).2.1).1
      obtain ⟨n, ys, cu, g1, g2, g3, g4, g5, g6, g7, g8⟩ := Ow.lens p o ndc e2
      have inc : ∀ m, m ∈ c → m ∈ a ++ c ++ b := fun m hm => List.mem_append_left _ (List.mem_append_right _ hm)
      refine ⟨x, ex, n, ys, cu, g1, g2, g3, inc n g4, fun m hm => inc m (g5 m hm), g6, g7, fun M' zs us' cu' k hn' r' nd' nn dd => ?_⟩
      have dis : ∀ m, m ∈ c → m ∉ a ∧ m ∉ b := fun m hm => by
        rw [List.append_assoc, List.nodup_append] at nd
        obtain ⟨_, q2, q3⟩ := nd
        exact ⟨fun z => q3 m z m (List.mem_append_left _ hm) rfl, fun z => (List.nodup_append.mp q2).2.2 m hm m z rfl⟩
      obtain ⟨c', o', nc', kc'⟩ := g8 M' zs us' cu' (fun m k2 hm h1 h2 e => k m k2 (inc m hm) h1 h2 e) hn' r' nd' nn (fun m hm => (dd m hm).imp id fun z y => z (inc m y))
      have keep := f M' x (putV p t1 (.lst us')) c' (fun m k2 hm e => by
        refine k m k2 ?_ (fun z => ?_) (fun z => ?_) e
        · rcases hm with hm | hm
          · exact List.mem_append_left _ (List.mem_append_left _ hm)
          · exact List.mem_append_right _ hm
        · subst z
          rcases hm with hm | hm
          · exact (dis m g4).1 hm
          · exact (dis m g4).2 hm
        · rcases hm with hm | hm
          · exact (dis m (g5 m z)).1 hm
          · exact (dis m (g5 m z)).2 hm) o'
      have same : xs.set i x = xs := List.ext_getElem? fun l => by
        rw [List.getElem?_set]
        split
        · rename_i z
          subst z
          rw [ex]
          split
          · rfl
          · rename_i q
            exact absurd (List.getElem?_eq_some_iff.mp ex).1 q
        · rfl
      rw [same] at keep
      refine ⟨a ++ c' ++ b, keep, nodup_mid nd nc' fun m hm => ?_, fun m hm => ?_⟩
      · rcases kc' m hm with z | z
        · exact .inl z
        · rcases dd m z with y | y
          · exact .inl (g5 m y)
          · exact .inr ⟨fun w => y (List.mem_append_left _ (List.mem_append_left _ w)), fun w => y (List.mem_append_right _ w)⟩
      · rcases List.mem_append.mp hm with hm | hm
        · rcases List.mem_append.mp hm with hm | hm
          · exact .inl (List.mem_append_left _ (List.mem_append_left _ hm))
          · exact (kc' m hm).imp (inc m) id
        · exact .inl (List.mem_append_right _ hm)
    cases h with
    | @lst n0 xs ts ds hn0 r =>
      unfold subV at e
      cases e1 : ts[i]? with
      | none =>
        rw [e1] at e
        cases e
      | some t1 =>
        rw [e1] at e
        obtain ⟨n1, n2⟩ := List.nodup_cons.mp nd
        obtain ⟨x, ex, n, ys, cu, g1, g2, g3, g4, g5, g6, g7, g8⟩ := step xs ts ds t1 r n2 e1 e
        refine ⟨n, ys, cu, ?_, g2, g3, List.mem_cons_of_mem _ g4, fun m hm => List.mem_cons_of_mem _ (g5 m hm), g6, g7, fun M' zs us' cu' k hn' r' nd' nn dd => ?_⟩
        · unfold subX
          simp only [hn0, ex]
          exact g1
        · obtain ⟨ds', o', nc', kc'⟩ := g8 M' zs us' cu' (fun m k2 hm => k m k2 (List.mem_cons_of_mem _ hm)) hn' r' nd' nn (fun m hm => (dd m hm).imp id fun z y => z (List.mem_cons_of_mem _ y))
          have h0 : M'[n0]? = some (.lst xs) := k n0 _ List.mem_cons_self (fun z => n1 (by rw [z]; exact g4)) (fun z => n1 (g5 n0 z)) hn0
          refine ⟨n0 :: ds', ?_, List.nodup_cons.mpr ⟨fun z => ?_, nc'⟩, fun m hm => ?_⟩
          · unfold putV
            simp only [e1]
            exact .lst h0 o'
          · rcases kc' n0 z with y | y
            · exact n1 y
            · rcases dd n0 y with y | y
              · exact n1 (g5 n0 y)
              · exact y List.mem_cons_self
          · rcases List.mem_cons.mp hm with e | hm
            · exact .inl (by rw [e]; exact List.mem_cons_self)
            · exact (kc' m hm).imp (List.mem_cons_of_mem _) id
    | @tup xs ts _ r =>
      unfold subV at e
      cases e1 : ts[i]? with
      | none =>
        rw [e1] at e
        cases e
      | some t1 =>
        rw [e1] at e
        obtain ⟨x, ex, n, ys, cu, g1, g2, g3, g4, g5, g6, g7, g8⟩ := step xs ts cs t1 r nd e1 e
        refine ⟨n, ys, cu, ?_, g2, g3, g4, g5, g6, g7, fun M' zs us' cu' k hn' r' nd' nn dd => ?_⟩
        · unfold subX
          simp only [ex]
          exact g1
        · obtain ⟨ds', o', nc', kc'⟩ := g8 M' zs us' cu' k hn' r' nd' nn dd
          refine ⟨ds', ?_, nc', kc'⟩
          unfold putV
          simp only [e1]
          exact .tup o'
    | _ => cases e
end Mn
end
section
set_option Elab.async false
set_option autoImplicit false
set_option maxRecDepth 100000
set_option linter.all false
/-! Statements that change a tree of one's own within. -/
namespace Mn
/-! ### ways of places -/
def pathE : E → List E → E
  | e, [] => e
  | e, i :: is => pathE (eBin oIx e i) is
def kqPi (t : V) (k : Nat → V → PR (List Nat)) : PR W → PR (List Nat)
  | .ok w => match w.t with
    | .int i => match qLsT t with
      | some ts => match atIx ts.length i with
        | some m => match ts[m]? with
          | some u => k m u
          | none => .bad
        | none => .bad
      | none => .bad
    | _ => .bad
  | _ => .bad
where qLsT : V → Option (List V)
  | .lst xs => some xs
  | .tup xs => some xs
  | _ => none
def kqPm (m : Nat) : PR (List Nat) → PR (List Nat)
  | .ok p => .ok (m :: p)
  | .exc c => .exc c
  | .bad => .bad
def pPath : List PE → PEnv → V → PR (List Nat)
  | [], _, _ => .ok []
  | i :: is, π, t => kqPi t (fun m u => kqPm m (pPath is π u)) (i π)
theorem subX_gr {M M' : Store} (g : Gr M M') : ∀ (p : List Nat) {v x : Val}, subX M p v = some x → subX M' p v = some x
  | [], v, x, h => h
  | i :: p, .ref n, x, h => by
    unfold subX at h ⊢
    split at h
    · rename_i xs e
      rw [g.at e]
      simp only []
      split at h
      · rename_i y e2
        exact subX_gr g p h
      · cases h
    · cases h
  | i :: p, .tup xs, x, h => by
    unfold subX at h ⊢
    split at h
    · rename_i y e2
      exact subX_gr g p h
    · cases h
  | _ :: _, .non, _, h => by cases h
  | _ :: _, .bl _, _, h => by cases h
  | _ :: _, .int _, _, h => by cases h
  | _ :: _, .str _, _, h => by cases h
  | _ :: _, .exc _, _, h => by cases h
theorem path_ok {B : Nat} {Pa O : Nat → Prop} {ρ : Env} {π : PEnv} : ∀ {es : List E} {is : List PE}, SimL es is → ∀ (e : E) (M M1 : Store) (x : Val) (t : V) (cs : List Nat) (p : List Nat), PSt B Pa O ρ M π → e ρ M = .ok x M1 → Gr M M1 → Ow M1 x t cs → pPath is π t = .ok p →
    ∃ y M2 u, pathE e es ρ M = .ok y M2 ∧ Gr M1 M2 ∧ subX M2 p x = some y ∧ subV p t = some u
  | _, _, .nil, e, M, M1, x, t, cs, p, h, he, g, o, hp => by
    cases hp
    exact ⟨x, M1, t, he, Gr.refl M1, rfl, rfl⟩
  | _, _, .cons (e := ie) (p := ip) (es := es) (ps := is) hi hr, e, M, M1, x, t, cs, p, h, he, g, o, hp => by
    unfold pPath kqPi at hp
    split at hp
    · rename_i w ew
      split at hp
      · rename_i k ek
        split at hp
        · rename_i ts et
          split at hp
          · rename_i m em
            split at hp
            · rename_i u eu
              have h1 := hi B Pa O ρ M1 π (h.gr g)
              rw [ew] at h1
              obtain ⟨iv, M2, e2, g2, r2⟩ := h1
              have e3 := r2.int ek
              subst e3
              have hp : kqPm m (pPath is π u) = .ok p := hp
              cases hq : pPath is π u with
              | ok q =>
                rw [hq] at hp
                cases hp
                -- the thing at the place
                have key : ∃ y c, oIx x (.int k) M2 = some (y, M2) ∧ Ow M2 y u c ∧ (∀ M3, Gr M2 M3 → ∀ q z, subX M3 q y = some z → subX M3 (m :: q) x = some z) ∧ ∀ z, subV q u = some z → subV (m :: q) t = some z := by
                  cases o with
                  | @lst n xs _ ds hn r =>
                    cases et
                    obtain ⟨y, a, c, b, e5, o5, _, _⟩ := Owl.split r eu
                    have hl := r.length
                    refine ⟨y, c, ?_, Ow.gr g2 o5, fun M3 g3 q z hz => ?_, fun z hz => ?_⟩
                    · show (match lstAt M2 n with
                        | some xs => (atI xs k).map fun v => (v, M2)
                        | none => none) = _
                      rw [lstAt_lst (g2.at hn)]
                      show (atI xs k).map _ = _
                      unfold atI
                      rw [hl, em]
                      show (xs[m]?).map _ = _
                      rw [e5]
                      rfl
                    · unfold subX
                      simp only [g3.at (g2.at hn), e5]
                      exact hz
                    · unfold subV
                      simp only [eu]
                      exact hz
                  | @tup xs _ _ r =>
                    cases et
                    obtain ⟨y, a, c, b, e5, o5, _, _⟩ := Owl.split r eu
                    have hl := r.length
                    refine ⟨y, c, ?_, Ow.gr g2 o5, fun M3 g3 q z hz => ?_, fun z hz => ?_⟩
                    · show (atI xs k).map _ = _
                      unfold atI
                      rw [hl, em]
                      show (xs[m]?).map _ = _
                      rw [e5]
                      rfl
                    · unfold subX
                      simp only [e5]
                      exact hz
                    · unfold subV
                      simp only [eu]
                      exact hz
                  | _ => cases et
                obtain ⟨y, c, e6, o6, s6, v6⟩ := key
                have he2 : eBin oIx e ie ρ M = .ok y M2 := by
                  unfold eBin
                  rw [he]
                  simp only [R.bind_ok]
                  rw [e2]
                  simp only [R.bind_ok]
                  rw [e6]
                  rfl
                obtain ⟨z, M3, u3, f1, f2, f3, f4⟩ := path_ok hr (eBin oIx e ie) M M2 y u c q h he2 (g.trans g2) o6 hq
                exact ⟨z, M3, u3, f1, g2.trans f2, s6 M3 f2 q z f3, v6 u3 f4⟩
              | _ =>
                rw [hq] at hp
                cases hp
            · cases hp
          · cases hp
        · cases hp
      · cases hp
    · cases hp
/-- a list within a tree is changed -/
theorem PSt.within {B : Nat} {Pa O : Nat → Prop} {ρ : Env} {M M2 : Store} {π : PEnv} (h : PSt B Pa O ρ M π) (g : Gr M M2) {j : Nat} {tn : Bool} {t : V} {v : Val} {cs p : List Nat} {us' : List V} {ys : List Val} {cu cu' : List Nat} {n : Nat}
    (e : π[j]? = some (some ⟨.dr, tn, t⟩)) (r : ρ[j]? = some (some v)) (o : Ow M v t cs) (nd : cs.Nodup) (on : ∀ n ∈ cs, O n) (lo : ∀ n ∈ cs, B ≤ n)
    (lens : ∀ (M' : Store) (ys : List Val) (us' : List V) (cu' : List Nat), (∀ m k, m ∈ cs → m ≠ n → m ∉ cu → M2[m]? = some k → M'[m]? = some k) → M'[n]? = some (.lst ys) → Owl M' ys us' cu' → cu'.Nodup → n ∉ cu' → (∀ m ∈ cu', m ∈ cu ∨ m ∉ cs) → ∃ cs', Ow M' v (putV p t (.lst us')) cs' ∧ cs'.Nodup ∧ ∀ m ∈ cs', m ∈ cs ∨ m ∈ cu')
    (hn : n ∈ cs) (oy : Owl (M2.set n (.lst ys)) ys us' cu') (ndc : cu'.Nodup) (nn : n ∉ cu') (hc : ∀ m ∈ cu', m ∈ cu ∨ (M.length ≤ m ∧ m < M2.length)) (hcu : ∀ m ∈ cu, m ∈ cs) :
    ∃ O', Ext O M O' (M2.set n (.lst ys)) ∧ PSt B Pa O' ρ (M2.set n (.lst ys)) (π.set j (some ⟨.dr, false, putV p t (.lst us')⟩)) := by
  have st : ∀ m c, m ≠ n → M2[m]? = some c → (M2.set n (.lst ys))[m]? = some c := fun m c d e => (List.getElem?_set_ne (Ne.symm d)).trans e
  have hn2 : n < M2.length := Nat.lt_of_lt_of_le (o.lt n hn) g.len
  obtain ⟨cs', o', nd', kc⟩ := lens (M2.set n (.lst ys)) ys us' cu' (fun m k _ h1 _ e => st m k h1 e) (List.getElem?_set_self hn2) oy ndc nn (fun m hm => (hc m hm).imp id fun z y => by
    have := o.lt m y
    omega)
  have kc2 : ∀ m ∈ cs', m ∈ cs ∨ (M.length ≤ m ∧ m < M2.length) := fun m hm => by
    rcases kc m hm with z | z
    · exact .inl z
    · rcases hc m z with y | y
      · exact .inl (hcu m y)
      · exact .inr y
  exact ⟨_, h.change (w' := ⟨.dr, false, putV p t (.lst us')⟩) e r (cs := cs) o (cs' := cs') (by rw [List.length_set]; exact g.len) (fun m c d e => st m c (fun z => d (by rw [z]; exact hn)) (g.at e)) o' (fun m hm => by
    rw [List.length_set]
    exact kc2 m hm) ⟨cs', o', nd', fun m hm => by
      rcases kc2 m hm with z | z
      · exact lo m z
      · exact Nat.le_trans h.low z.1⟩⟩
/-! ### append, clear, a store at a place -/
def appOf (j : Nat) (π : PEnv) (t : V) (p : List Nat) : PR W → PRS
  | .ok w => match subV p t with
    | some (.lst us) => if dOk w = true ∧ us.length < szLine then .nx (π.set j (some ⟨.dr, false, putV p t (.lst (us ++ [w.t]))⟩)) else .bad
    | _ => .bad
  | _ => .bad
def kqApP (j : Nat) (π : PEnv) (t : V) (e : PE) : PR (List Nat) → PRS
  | .ok p => appOf j π t p (e π)
  | _ => .bad
/-- x[..].append(e) -/
def pAppP (j : Nat) (is : List PE) (e : PE) : PS := fun π => match ownD j π with
  | some t => kqApP j π t e (pPath is π t)
  | none => .bad
theorem ss_appP (j : Nat) {es : List E} {is : List PE} {e : E} {p : PE} (hi : SimL es is) (he : SimE e p) : SimS (sDrop (eM1 "list" mApp (pathE (eVar j) es) e)) (pAppP j is p) := by
  refine ⟨?_⟩
  intro B Pa O ρ M π h
  unfold pAppP
  cases ej : ownD j π with
  | none => exact trivial
  | some t =>
    simp only []
    obtain ⟨tn, e1⟩ := ownD_ok ej
    obtain ⟨v, cs, r, o, nd, on, lo⟩ := ownD_at h e1
    cases ep : pPath is π t with
    | ok q =>
      obtain ⟨y, M1, u, f1, g1, f3, f4⟩ := path_ok hi (eVar j) M M v t cs q h (eVar_at r) (Gr.refl M) o ep
      unfold kqApP
      simp only []
      have h2 := he B Pa O ρ M1 π (h.gr g1)
      cases ew : p π with
      | ok w =>
        rw [ew] at h2
        obtain ⟨a, M2, e2, g2, r2⟩ := h2
        unfold appOf
        simp only []
        cases es2 : subV q t with
        | none => exact trivial
        | some tu =>
          cases tu with
          | lst us =>
            simp only []
            by_cases hd : dOk w = true ∧ us.length < szLine
            · rw [if_pos hd]
              obtain ⟨n, xs, cu, k1, k2, k3, k4, k5, k6, k7, k8⟩ := Ow.lens q (Ow.gr (g1.trans g2) o) nd es2
              have ey : y = .ref n := Option.some.inj ((subX_gr g2 q f3).symm.trans k1)
              subst ey
              have hn1 : M1[n]? = some (.lst xs) := by
                obtain ⟨n', xs', cu', l1, l2, _⟩ := Ow.lens q (Ow.gr g1 o) nd es2
                have z := Option.some.inj (f3.symm.trans l1)
                cases z
                rw [l2, ← l2, l2]
                have := (g2.at l2).symm.trans k2
                cases this
                rfl
              obtain ⟨ca, d1, d2, d3⟩ := RW.deep (fun n o => Nat.lt_of_lt_of_le (h.bnd n o).2 g1.len) (Nat.le_trans h.low g1.len) r2 hd.1
              have xl : xs.length = us.length := k3.length
              have na : ∀ m ∈ ca, m ≠ n := fun m hm z => by
                have h1 := (d3 m hm).1
                have h2 := o.lt n k4
                have h3 := g1.len
                omega
              have stn : ∀ m c, m ≠ n → M2[m]? = some c → (M2.set n (.lst (xs ++ [a])))[m]? = some c := fun m c d e => (List.getElem?_set_ne (Ne.symm d)).trans e
              obtain ⟨O', x, s'⟩ := h.within (g1.trans g2) (cu := cu) (us' := us ++ [w.t]) (ys := xs ++ [a]) (cu' := cu ++ ca) (n := n) e1 r o nd on lo k8 k4 (Owl.append (k3.map fun m c hm e => stn m c (fun z => k7 (z ▸ hm)) e) (Owl.one (d1.map fun m c hm e => stn m c (na m hm) e))) (nodup_app k6 d2 fun m h1 h2 => by
                  have := (d3 m h2).1
                  have := o.lt m (k5 m h1)
                  have := g1.len
                  omega) (fun z => by
                  rcases List.mem_append.mp z with z | z
                  · exact k7 z
                  · exact na n z rfl) (fun m hm => by
                  rcases List.mem_append.mp hm with hm | hm
                  · exact .inl hm
                  · exact .inr ⟨Nat.le_trans g1.len (d3 m hm).1, d1.lt m hm⟩) k5
              refine ⟨ρ, _, O', ?_, x, s'⟩
              unfold sDrop eM1
              rw [f1]
              simp only [R.bind_ok]
              rw [isTy_lst hn1, if_pos rfl, e2]
              simp only [R.bind_ok]
              rw [mApp_ref k2 (by rw [xl]; exact hd.2)]
              rfl
            · rw [if_neg hd]
              exact trivial
          | _ => exact trivial
      | _ => exact trivial
    | _ => exact trivial
def clrOf (j : Nat) (π : PEnv) (t : V) : PR (List Nat) → PRS
  | .ok p => match subV p t with
    | some (.lst _) => .nx (π.set j (some ⟨.dr, false, putV p t (.lst [])⟩))
    | _ => .bad
  | _ => .bad
/-- x[..].clear() -/
def pClrP (j : Nat) (is : List PE) : PS := fun π => match ownD j π with
  | some t => clrOf j π t (pPath is π t)
  | none => .bad
theorem ss_clrP (j : Nat) {es : List E} {is : List PE} (hi : SimL es is) : SimS (sDrop (eM0 "list" mClr (pathE (eVar j) es))) (pClrP j is) := by
  refine ⟨?_⟩
  intro B Pa O ρ M π h
  unfold pClrP
  cases ej : ownD j π with
  | none => exact trivial
  | some t =>
    simp only []
    obtain ⟨tn, e1⟩ := ownD_ok ej
    obtain ⟨v, cs, r, o, nd, on, lo⟩ := ownD_at h e1
    cases ep : pPath is π t with
    | ok q =>
      obtain ⟨y, M1, u, f1, g1, f3, f4⟩ := path_ok hi (eVar j) M M v t cs q h (eVar_at r) (Gr.refl M) o ep
      unfold clrOf
      simp only []
      cases es2 : subV q t with
      | none => exact trivial
      | some tu =>
        cases tu with
        | lst us =>
          obtain ⟨n, xs, cu, k1, k2, k3, k4, k5, k6, k7, k8⟩ := Ow.lens q (Ow.gr g1 o) nd es2
          have ey : y = .ref n := Option.some.inj (f3.symm.trans k1)
          subst ey
          obtain ⟨O', x, s'⟩ := h.within g1 (cu := cu) (us' := []) (ys := []) (cu' := []) (n := n) e1 r o nd on lo k8 k4 .nil List.nodup_nil (fun z => by cases z) (fun m hm => by cases hm) k5
          refine ⟨ρ, _, O', ?_, x, s'⟩
          unfold sDrop eM0
          rw [f1]
          simp only [R.bind_ok]
          rw [isTy_lst k2, if_pos rfl]
          unfold mClr
          simp only [k2]
          rfl
        | _ => exact trivial
    | _ => exact trivial
end Mn
end
section
set_option Elab.async false
set_option autoImplicit false
set_option maxRecDepth 100000
set_option linter.all false
/-! Stores into trees of one's own, exchanges, loops that clear. -/
namespace Mn
/-! ### x[..][i] = e -/
def subDOf (j : Nat) (π : PEnv) (t : V) (p : List Nat) (w : W) : PR W → PRS
  | .ok i => match subV p t, i.t with
    | some (.lst us), .int k => match atIx us.length k with
      | some m => if dOk w = true then .nx (π.set j (some ⟨.dr, false, putV p t (.lst (us.set m w.t))⟩)) else .bad
      | none => .bad
    | _, _ => .bad
  | _ => .bad
def kqSubDp (j : Nat) (π : PEnv) (t : V) (i : PE) (w : W) : PR (List Nat) → PRS
  | .ok p => subDOf j π t p w (i π)
  | _ => .bad
def kqSubD (j : Nat) (is : List PE) (i : PE) (π : PEnv) : PR W → PRS
  | .ok w => match ownD j π with
    | some t => kqSubDp j π t i w (pPath is π t)
    | none => .bad
  | .exc c => .exc c π
  | .bad => .bad
def pSubD (j : Nat) (is : List PE) (i e : PE) : PS := fun π => kqSubD j is i π (e π)
theorem Owl.setD {M M' : Store} {xs : List Val} {us : List V} {cu ca : List Nat} {m : Nat} {a : Val} {w : V} (h : Owl M xs us cu) (hm : m < us.length) (nd : cu.Nodup) (oa : Ow M' a w ca) (na : ca.Nodup) (dis : ∀ n ∈ ca, n ∉ cu) (st : ∀ n k, n ∈ cu → M[n]? = some k → M'[n]? = some k) :
    ∃ cu', Owl M' (xs.set m a) (us.set m w) cu' ∧ cu'.Nodup ∧ ∀ n ∈ cu', n ∈ cu ∨ n ∈ ca := by
  obtain ⟨x, p, c, q, e1, o, rfl, f⟩ := Owl.split h (List.getElem?_eq_getElem hm)
  have inc : ∀ n, n ∈ p ∨ n ∈ q → n ∈ p ++ c ++ q := fun n hn => by
    rcases hn with hn | hn
    · exact List.mem_append_left _ (List.mem_append_left _ hn)
    · exact List.mem_append_right _ hn
  refine ⟨p ++ ca ++ q, f M' a w ca (fun n k hn e => st n k (inc n hn) e) oa, nodup_mid nd na fun n hn => .inr ⟨fun z => dis n hn (inc n (.inl z)), fun z => dis n hn (inc n (.inr z))⟩, fun n hn => ?_⟩
  rcases List.mem_append.mp hn with hn | hn
  · rcases List.mem_append.mp hn with hn | hn
    · exact .inl (inc n (.inl hn))
    · exact .inr hn
  · exact .inl (inc n (.inr hn))
theorem atIx_lt {n : Nat} {k : Int} {m : Nat} (h : atIx n k = some m) : m < n := by
  unfold atIx at h
  split at h
  · split at h
    · cases h
      omega
    · cases h
  · split at h
    · cases h
      omega
    · cases h
theorem ss_subD (j : Nat) {es : List E} {is : List PE} {ie e : E} {ip p : PE} (hs : SimL es is) (hi : SimE ie ip) (he : SimE e p) : SimS (sAsg (tSub (pathE (eVar j) es) ie) e) (pSubD j is ip p) := by
  refine ⟨?_⟩
  intro B Pa O ρ M π h
  have h1 := he B Pa O ρ M π h
  unfold pSubD
  cases ew : p π with
  | bad => exact trivial
  | exc c =>
    rw [ew] at h1
    obtain ⟨M', e2, g1⟩ := h1
    unfold sAsg
    rw [e2]
    exact ⟨ρ, M', O, rfl, Ext.gr g1, h.gr g1⟩
  | ok w =>
    rw [ew] at h1
    obtain ⟨a, M0, e0, g0, r0⟩ := h1
    unfold kqSubD
    simp only []
    cases ej : ownD j π with
    | none => exact trivial
    | some t =>
      simp only []
      obtain ⟨tn, e1⟩ := ownD_ok ej
      obtain ⟨v, cs, r, o, nd, on, lo⟩ := ownD_at h e1
      cases ep : pPath is π t with
      | ok q =>
        obtain ⟨y, M1, u, f1, g1, f3, f4⟩ := path_ok hs (eVar j) M0 M0 v t cs q (h.gr g0) (eVar_at r) (Gr.refl M0) (Ow.gr g0 o) ep
        unfold kqSubDp
        simp only []
        have h2 := hi B Pa O ρ M1 π (h.gr (g0.trans g1))
        cases ei : ip π with
        | ok iw =>
          rw [ei] at h2
          obtain ⟨iv, M2, e2, g2, r2⟩ := h2
          unfold subDOf
          simp only []
          cases es2 : subV q t with
          | none => exact trivial
          | some tu =>
            cases tu with
            | lst us =>
              cases ek : iw.t with
              | int k =>
                simp only []
                cases em : atIx us.length k with
                | none => exact trivial
                | some m =>
                  simp only []
                  by_cases hd : dOk w = true
                  · rw [if_pos hd]
                    have G := (g0.trans g1).trans g2
                    obtain ⟨n, xs, cu, k1, k2, k3, k4, k5, k6, k7, k8⟩ := Ow.lens q (Ow.gr G o) nd es2
                    have ey : y = .ref n := Option.some.inj ((subX_gr g2 q f3).symm.trans k1)
                    subst ey
                    obtain ⟨ca, d1, d2, d3⟩ := RW.deep (fun n o => (h.bnd n o).2) h.low (r0.gr (g1.trans g2)) hd
                    have xl : xs.length = us.length := k3.length
                    have ne : ∀ l ∈ ca, l ∉ cs := fun l hl z => by
                      have := (d3 l hl).1
                      have := o.lt l z
                      omega
                    have na : ∀ l ∈ ca, l ≠ n := fun l hl z => ne l hl (by rw [z]; exact k4)
                    have stn : ∀ l c, l ≠ n → M2[l]? = some c → (M2.set n (.lst (xs.set m a)))[l]? = some c := fun l c d e => (List.getElem?_set_ne (Ne.symm d)).trans e
                    have mlt := atIx_lt em
                    obtain ⟨cu', o', nd', kc⟩ := Owl.setD (M' := M2.set n (.lst (xs.set m a))) k3 mlt k6 (d1.map fun l c hl e => stn l c (na l hl) e) d2 (fun l hl z => ne l hl (k5 l z)) (fun l c hl e => stn l c (fun z => k7 (z ▸ hl)) e)
                    obtain ⟨O', x, s'⟩ := h.within G (cu := cu) (us' := us.set m w.t) (ys := xs.set m a) (cu' := cu') (n := n) e1 r o nd on lo k8 k4 o' nd' (fun z => by
                      rcases kc n z with z | z
                      · exact k7 z
                      · exact na n z rfl) (fun l hl => (kc l hl).imp id fun z => ⟨(d3 l z).1, d1.lt l z⟩) k5
                    refine ⟨ρ, _, O', ?_, x, s'⟩
                    unfold sAsg
                    rw [e0]
                    simp only [R.st_ok]
                    unfold tSub
                    rw [f1]
                    simp only []
                    rw [e2]
                    simp only []
                    rw [r2.int ek]
                    unfold setIt
                    simp only [k2]
                    rw [xl, em]
                    rfl
                  · rw [if_neg hd]
                    exact trivial
              | _ => exact trivial
            | _ => exact trivial
        | _ => exact trivial
      | _ => exact trivial
/-! ### two things exchanged -/
/-- h = x[i]; x[i] = x[d[2]]; x[d[2]] = h -/
def pSwap (j h i d : Nat) : PS := fun π => match ownD j π, π[i]?, π[d]? with
  | some (.lst us), some (some wi), some (some wd) => match wi.t, wd.t with
    | .int k, .tup ds => match (ds[2]? : Option V) with
      | some (.int l) => match atIx us.length k, atIx us.length l with
        | some m, some n => match us[m]?, us[n]? with
          | some t, some u => if h < π.length then .nx ((π.set j (some ⟨.dr, false, .lst ((us.set m u).set n t)⟩)).set h none) else .bad
          | _, _ => .bad
        | _, _ => .bad
      | _ => .bad
    | _, _ => .bad
  | _, _, _ => .bad
theorem PSt.junk {B : Nat} {Pa O : Nat → Prop} {ρ : Env} {M : Store} {π : PEnv} (h : PSt B Pa O ρ M π) (i : Nat) (x : Option Val) : PSt B Pa O (ρ.set i x) M (π.set i none) := by
  have k : ∀ {j : Nat} {w : W}, (π.set i none)[j]? = some (some w) → π[j]? = some (some w) ∧ (ρ.set i x)[j]? = ρ[j]? := fun {j w} e => by
    rcases set_cases e with ⟨_, e, _⟩ | ⟨d, e⟩
    · cases e
    · exact ⟨e, List.getElem?_set_ne (Ne.symm d)⟩
  refine ⟨by rw [List.length_set, List.length_set]; exact h.len, h.low, h.bnd, fun j w e f => ?_, fun a b w w' v v' cs cs' n e1 e2 r1 r2 o1 o2 m1 m2 => ?_, fun j w e => ?_, fun j w e => h.nb j w (k e).1⟩
  · rw [(k e).2]
    exact h.own j w (k e).1 f
  · rw [(k e1).2] at r1
    rw [(k e2).2] at r2
    exact h.inj a b w w' v v' cs cs' n (k e1).1 (k e2).1 r1 r2 o1 o2 m1 m2
  · rw [(k e).2]
    exact h.val j w (k e).1
theorem RV.any {B : Nat} {Pa O : Nat → Prop} {M : Store} {v : Val} {w : W} (h : RV B Pa O M v w) : Rq (fun _ => True) M v w.t := by
  obtain ⟨fl, tn, t⟩ := w
  cases fl with
  | dr =>
    obtain ⟨cs, a, _⟩ := h
    exact a.rq fun _ _ => trivial
  | fr => exact RW.any (O := O) (L := B) (w := ⟨.fr, tn, t⟩) h
  | fz => exact RW.any (O := O) (L := B) (w := ⟨.fz, tn, t⟩) h
  | bo => exact RW.any (O := O) (L := B) (w := ⟨.bo, tn, t⟩) h
  | bd => exact RW.any (O := O) (L := B) (w := ⟨.bd, tn, t⟩) h
theorem Owl.swap {M M' : Store} {xs : List Val} {us : List V} {cs : List Nat} {m n : Nat} {x y : Val} {t u : V} (h : Owl M xs us cs) (nd : cs.Nodup) (hm : us[m]? = some t) (hn : us[n]? = some u) (hx : xs[m]? = some x) (hy : xs[n]? = some y) (st : ∀ l k, l ∈ cs → M[l]? = some k → M'[l]? = some k) :
    ∃ cs', Owl M' ((xs.set m y).set n x) ((us.set m u).set n t) cs' ∧ cs'.Nodup ∧ ∀ l ∈ cs', l ∈ cs := by
  by_cases e : m = n
  · subst e
    rw [hm] at hn
    cases hn
    rw [hx] at hy
    cases hy
    have s1 : ∀ {α : Type} {zs : List α} {z : α}, zs[m]? = some z → (zs.set m z).set m z = zs := fun {α zs z} hz => by
      rw [List.set_set]
      refine List.ext_getElem? fun i => ?_
      rw [List.getElem?_set]
      split
      · rename_i q
        subst q
        rw [hz]
        split
        · rfl
        · rename_i q
          exact absurd (List.getElem?_eq_some_iff.mp hz).1 q
      · rfl
    rw [s1 hx, s1 hm]
    exact ⟨cs, h.map st, nd, fun l hl => hl⟩
  · -- take both out, put both in
    obtain ⟨x', a, c, b, e1, o, rfl, f⟩ := Owl.split h hm
    rw [hx] at e1
    cases e1
    have ndc : c.Nodup ∧ ∀ l ∈ c, l ∉ a ∧ l ∉ b := by
      rw [List.append_assoc, List.nodup_append] at nd
      obtain ⟨_, q2, q3⟩ := nd
      exact ⟨(List.nodup_append.mp q2).1, fun l hl => ⟨fun z => q3 l z l (List.mem_append_left _ hl) rfl, fun z => (List.nodup_append.mp q2).2.2 l hl l z rfl⟩⟩
    have inc : ∀ l, l ∈ c → l ∈ a ++ c ++ b := fun l hl => List.mem_append_left _ (List.mem_append_right _ hl)
    have inab : ∀ l, l ∈ a ∨ l ∈ b → l ∈ a ++ c ++ b := fun l hl => by
      rcases hl with hl | hl
      · exact List.mem_append_left _ (List.mem_append_left _ hl)
      · exact List.mem_append_right _ hl
    -- a hole: the number 0
    have h1 := f M (.int 0) (.int 0) [] (fun l k _ e => e) (.int 0)
    rw [List.append_nil] at h1
    have nd1 : (a ++ b).Nodup := by
      rw [List.append_assoc, List.nodup_append] at nd
      obtain ⟨q1, q2, q3⟩ := nd
      exact List.nodup_append.mpr ⟨q1, (List.nodup_append.mp q2).2.1, fun x hx y hy => q3 x hx y (List.mem_append_right _ hy)⟩
    have hn1 : (us.set m (.int 0))[n]? = some u := by rw [List.getElem?_set_ne e]; exact hn
    obtain ⟨y', p, d, q, e2, o2, e3, f2⟩ := Owl.split h1 hn1
    rw [List.getElem?_set_ne e, hy] at e2
    cases e2
    have h2 := f2 M x t c (fun l k _ e => e) o
    have dab : ∀ l, l ∈ p ++ d ++ q → l ∈ a ++ c ++ b := fun l hl => by
      rw [← e3] at hl
      exact inab l (List.mem_append.mp hl)
    rw [e3] at nd1
    have nd2 : (p ++ c ++ q).Nodup := nodup_mid nd1 ndc.1 fun l hl => .inr ⟨fun z => by
        have : l ∈ a ++ b := by rw [e3]; exact List.mem_append_left _ (List.mem_append_left _ z)
        rcases List.mem_append.mp this with w | w
        · exact (ndc.2 l hl).1 w
        · exact (ndc.2 l hl).2 w, fun z => by
        have : l ∈ a ++ b := by rw [e3]; exact List.mem_append_right _ z
        rcases List.mem_append.mp this with w | w
        · exact (ndc.2 l hl).1 w
        · exact (ndc.2 l hl).2 w⟩
    have hl : m < ((us.set m (.int 0)).set n t).length := by
      rw [List.length_set, List.length_set]
      exact (List.getElem?_eq_some_iff.mp hm).1
    have ndd : d.Nodup := by
      rw [List.append_assoc, List.nodup_append] at nd1
      exact (List.nodup_append.mp nd1.2.1).1
    have dd : ∀ l ∈ d, l ∉ p ++ c ++ q := fun l hl z => by
      have nd1' := nd1
      rw [List.append_assoc, List.nodup_append] at nd1'
      obtain ⟨_, q2, q3⟩ := nd1'
      rcases List.mem_append.mp z with z | z
      · rcases List.mem_append.mp z with z | z
        · exact q3 l z l (List.mem_append_left _ hl) rfl
        · have : l ∈ a ++ b := by rw [e3]; exact List.mem_append_left _ (List.mem_append_right _ hl)
          rcases List.mem_append.mp this with w | w
          · exact (ndc.2 l z).1 w
          · exact (ndc.2 l z).2 w
      · exact (List.nodup_append.mp q2).2.2 l hl l z rfl
    have alld : ∀ l, l ∈ d → l ∈ a ++ c ++ b := fun l hl => dab l (List.mem_append_left _ (List.mem_append_right _ hl))
    have allp : ∀ l, l ∈ p ++ c ++ q → l ∈ a ++ c ++ b := fun l hl => by
      rcases List.mem_append.mp hl with hl | hl
      · rcases List.mem_append.mp hl with hl | hl
        · exact dab l (List.mem_append_left _ (List.mem_append_left _ hl))
        · exact inc l hl
      · exact dab l (List.mem_append_right _ hl)
    obtain ⟨cu', o3, nd3, kc⟩ := Owl.setD (M := M) (M' := M') (m := m) (a := y) (w := u) h2 hl nd2 (o2.map fun l k hl e => st l k (alld l hl) e) ndd dd (fun l k hl e => st l k (allp l hl) e)
    refine ⟨cu', ?_, nd3, fun l hl => (kc l hl).elim (allp l) (alld l)⟩
    have s2 : ∀ {α : Type} (zs : List α) (p q r : α), ((zs.set m p).set n q).set m r = (zs.set m r).set n q := fun {α} zs p q r => by
      rw [List.set_comm _ _ e, List.set_set, List.set_comm _ _ (Ne.symm e)]
    rw [s2, s2] at o3
    exact o3
theorem ss_swap (j h i d : Nat) (hj : h ≠ j) (hi : h ≠ i) (hd : h ≠ d) : SimS (sSeq (sAsg (tName h) (eBin oIx (eVar j) (eVar i))) (sSeq (sAsg (tSub (eVar j) (eVar i)) (eBin oIx (eVar j) (eBin oIx (eVar d) (eC (.int 2))))) (sAsg (tSub (eVar j) (eBin oIx (eVar d) (eC (.int 2)))) (eVar h)))) (pSwap j h i d) := by
  refine ⟨?_⟩
  intro B Pa O ρ M π st
  unfold pSwap
  split
  · rename_i us wi wd ej ei ed
    split
    · rename_i k ds ek eds
      split
      · rename_i l el
        split
        · rename_i m n em en
          split
          · rename_i t u et eu
            obtain ⟨tn, e1⟩ := ownD_ok ej
            obtain ⟨v, cs, r, o, nd, on, lo⟩ := ownD_at st e1
            obtain ⟨vi, ri, xi⟩ := st.val i wi ei
            have xi := xi.any
            rw [ek] at xi
            cases xi
            obtain ⟨vd, rd, xd⟩ := st.val d wd ed
            have xd := xd.any
            rw [eds] at xd
            cases xd with
            | @tup dv _ rdv =>
              obtain ⟨lv, el2, rl⟩ := rdv.get el
              cases rl
              generalize hus : V.lst us = tv at o
              cases o with
              | @lst a xs us' c0 hn ro =>
                cases hus
                obtain ⟨na, nd0⟩ := List.nodup_cons.mp nd
                obtain ⟨x, _, _, _, ex, _, _, _⟩ := Owl.split ro et
                obtain ⟨y, _, _, _, ey, _, _, _⟩ := Owl.split ro eu
                have hl := ro.length
                have stn : ∀ (z : Cell) l c, l ≠ a → M[l]? = some c → (M.set a z)[l]? = some c := fun z l c d e => (List.getElem?_set_ne (Ne.symm d)).trans e
                have alt : a < M.length := get_lt hn
                have hh : h < ρ.length ∨ ¬ h < ρ.length := Decidable.em _
                have rn : ∀ {q : Nat} {z : Option Val}, h ≠ q → (ρ.set h z)[q]? = ρ[q]? := fun e => List.getElem?_set_ne e
                have mlt := atIx_lt em
                have nlt := atIx_lt en
                have ix : ∀ (M' : Store) (zs : List Val) (k : Int) (m : Nat) (z : Val), M'[a]? = some (.lst zs) → zs.length = us.length → atIx us.length k = some m → zs[m]? = some z → oIx (.ref a) (.int k) M' = some (z, M') := fun M' zs k m z h1 h2 h3 h4 => by
                  show (match lstAt M' a with
                    | some xs => (atI xs k).map fun v => (v, M')
                    | none => none) = _
                  rw [lstAt_lst h1]
                  show (atI zs k).map _ = _
                  unfold atI
                  rw [h2, h3]
                  show (zs[m]?).map _ = _
                  rw [h4]
                  rfl
                have id2 : ∀ (ρ' : Env) (M' : Store), ρ'[d]? = ρ[d]? → eBin oIx (eVar d) (eC (.int 2)) ρ' M' = .ok (.int l) M' := fun ρ' M' e => by
                  unfold eBin
                  rw [eVar_at (e.trans rd)]
                  simp only [R.bind_ok, eC]
                  have : oIx (.tup dv) (.int 2) M' = some (.int l, M') := by
                    show (atI dv ((2 : Nat) : Int)).map _ = _
                    rw [atI_nat el2]
                    rfl
                  rw [this]
                  rfl
                have s1 : sAsg (tName h) (eBin oIx (eVar j) (eVar i)) ρ M = .nx (ρ.set h (some x)) M := by
                  unfold sAsg eBin
                  rw [eVar_at r]
                  simp only [R.bind_ok]
                  rw [eVar_at ri]
                  simp only [R.bind_ok]
                  rw [ix M xs k m x hn hl em ex]
                  rfl
                have s2 : sAsg (tSub (eVar j) (eVar i)) (eBin oIx (eVar j) (eBin oIx (eVar d) (eC (.int 2)))) (ρ.set h (some x)) M = .nx (ρ.set h (some x)) (M.set a (.lst (xs.set m y))) := by
                  unfold sAsg
                  have : eBin oIx (eVar j) (eBin oIx (eVar d) (eC (.int 2))) (ρ.set h (some x)) M = .ok y M := by
                    unfold eBin
                    rw [eVar_at ((rn hj).trans r)]
                    simp only [R.bind_ok]
                    have e2 := id2 (ρ.set h (some x)) M (rn hd)
                    unfold eBin at e2
                    rw [e2]
                    simp only [R.bind_ok]
                    rw [ix M xs l n y hn hl en ey]
                    rfl
                  rw [this]
                  simp only [R.st_ok]
                  unfold tSub
                  rw [eVar_at ((rn hj).trans r)]
                  simp only []
                  rw [eVar_at ((rn hi).trans ri)]
                  simp only []
                  unfold setIt
                  simp only [hn]
                  rw [hl, em]
                  rfl
                by_cases hlt : h < π.length
                · rw [if_pos hlt]
                  rw [← st.len] at hlt
                  have s3 : sAsg (tSub (eVar j) (eBin oIx (eVar d) (eC (.int 2)))) (eVar h) (ρ.set h (some x)) (M.set a (.lst (xs.set m y))) = .nx (ρ.set h (some x)) (M.set a (.lst ((xs.set m y).set n x))) := by
                    unfold sAsg
                    rw [eVar_at (List.getElem?_set_self hlt)]
                    simp only [R.st_ok]
                    unfold tSub
                    rw [eVar_at ((rn hj).trans r)]
                    simp only []
                    rw [id2 (ρ.set h (some x)) _ (rn hd)]
                    simp only []
                    unfold setIt
                    simp only [List.getElem?_set_self alt]
                    rw [List.length_set, hl, en]
                    show (RS.nx _ ((M.set a _).set a _)).tg = _
                    rw [List.set_set]
                    rfl
                  obtain ⟨c', o', nd', kc⟩ := Owl.swap (M' := M.set a (.lst ((xs.set m y).set n x))) ro nd0 et eu ex ey (fun l c hl e => stn _ l c (fun z => na (z ▸ hl)) e)
                  have oc : Oc .dr M (.ref a) (.lst us) (a :: c0) := Ow.lst hn ro
                  have oc' : Oc .dr (M.set a (.lst ((xs.set m y).set n x))) (.ref a) (.lst ((us.set m u).set n t)) (a :: c') := Ow.lst (List.getElem?_set_self alt) o'
                  have kc2 : ∀ l ∈ a :: c', l ∈ a :: c0 := fun l hl => by
                    rcases List.mem_cons.mp hl with e | hl
                    · rw [e]
                      exact List.mem_cons_self
                    · exact List.mem_cons_of_mem _ (kc l hl)
                  obtain ⟨X, S⟩ := st.change (w' := ⟨.dr, false, .lst ((us.set m u).set n t)⟩) (M' := M.set a (.lst ((xs.set m y).set n x))) e1 r oc (by rw [List.length_set]; exact Nat.le_refl _) (fun l c d e => stn _ l c (fun z => d (by rw [z]; exact List.mem_cons_self)) e) oc' (fun l hl => .inl (kc2 l hl)) ⟨a :: c', oc', List.nodup_cons.mpr ⟨fun z => na (kc a z), nd'⟩, fun l hl => lo l (kc2 l hl)⟩
                  refine ⟨_, _, _, ?_, X, S.junk h (some x)⟩
                  unfold sSeq
                  rw [s1]
                  simp only [RS.andThen]
                  rw [s2]
                  simp only []
                  rw [s3]
                · rw [if_neg hlt]
                  exact trivial
              | _ => cases hus
          · exact trivial
        · exact trivial
      · exact trivial
    · exact trivial
  · exact trivial
end Mn
end
section
set_option Elab.async false
set_option autoImplicit false
set_option maxRecDepth 100000
set_option linter.all false
/-! Loops that change each list of a list; what is told parted among names. -/
namespace Mn
/-! ### for r in x[..]: r.clear(), r.append(c) -/
def opF : Option Val → List Val → List Val
  | none, _ => []
  | some c, xs => xs ++ [c]
def opG : Option Val → List V → List V
  | none, _ => []
  | some c, xs => xs ++ [cV c]
def opOk : Option Val → Bool
  | none => true
  | some c => cOk c
def lstOf : V → Option (List V)
  | .lst us => some us
  | _ => none
theorem op_ow {M M' : Store} {xs : List Val} {us : List V} {cu : List Nat} (o : Option Val) (ho : opOk o = true) (h : Owl M xs us cu) (st : ∀ m k, m ∈ cu → M[m]? = some k → M'[m]? = some k) : ∃ cu', Owl M' (opF o xs) (opG o us) cu' ∧ (cu.Nodup → cu'.Nodup) ∧ ∀ m ∈ cu', m ∈ cu := by
  cases o with
  | none => exact ⟨[], .nil, fun _ => List.nodup_nil, fun m hm => by cases hm⟩
  | some c =>
    obtain ⟨a, b⟩ := cV_ok (fun _ => True) M' c ho
    have := Owl.append (h.map st) (Owl.one (a.ow0 b))
    rw [List.append_nil] at this
    exact ⟨cu, this, id, fun m hm => hm⟩
theorem forOp {o : Option Val} (ho : opOk o = true) {r : Nat} {body : St} (hb : ∀ (ρ : Env) (M : Store) (m : Nat) (zs : List Val), ρ[r]? = some (some (.ref m)) → M[m]? = some (.lst zs) → zs.length < szLine → body ρ M = .nx ρ (M.set m (.lst (opF o zs)))) {n : Nat} {xs : List Val} {len : Nat} (hlen : len = xs.length) :
    ∀ (k i : Nat) (ρ : Env) (M : Store) (us : List V) (zss : List (List V)) (cd : List Nat), r < ρ.length → i + k = len → M[n]? = some (.lst xs) → Owl M (xs.drop i) us cd → cd.Nodup → n ∉ cd → mapO lstOf us = some zss → (∀ zs ∈ zss, zs.length < szLine) →
      ∃ ρ' M' cd', sForN (itSeq (.ref n) len) (tName r) body k i ρ M = .nx ρ' M' ∧ (∃ z, ρ' = ρ.set r z ∨ ρ' = ρ) ∧ M'.length = M.length ∧ M'[n]? = some (.lst xs) ∧ Owl M' (xs.drop i) (zss.map fun zs => .lst (opG o zs)) cd' ∧ cd'.Nodup ∧ (∀ m ∈ cd', m ∈ cd) ∧ ∀ m, m ∉ cd → M'[m]? = M[m]?
  | 0, i, ρ, M, us, zss, cd, hr, e, hn, ow, nd, nn, hz, hs => by
    have hi : i = xs.length := by omega
    subst hi
    rw [List.drop_length] at ow ⊢
    cases ow
    cases hz
    refine ⟨ρ, M, [], sForN_end ?_, ⟨none, .inr rfl⟩, rfl, hn, .nil, List.nodup_nil, (fun m hm => by cases hm), fun m _ => rfl⟩
    show (match seqOf M (.ref n) with | some ys => decide (ys.length ≤ len) | none => false) = true
    rw [seq_lst hn]
    simp [hlen]
  | k + 1, i, ρ, M, us, zss, cd, hr, e, hn, ow, nd, nn, hz, hs => by
    have hi : i < xs.length := by omega
    rw [List.drop_eq_getElem_cons hi] at ow ⊢
    cases ow with
    | @cons _ t _ us2 a b ow1 ow2 =>
      unfold mapO at hz
      cases t with
      | lst zs =>
        simp only [lstOf] at hz
        cases hz2 : mapO lstOf us2 with
        | none =>
          rw [hz2] at hz
          cases hz
        | some zss2 =>
          rw [hz2] at hz
          cases hz
          generalize hx : xs[i] = x at ow1
          cases ow1 with
          | @lst m ys _ c hm oy =>
            rw [List.nodup_append] at nd
            obtain ⟨nd1, nd2, nd3⟩ := nd
            obtain ⟨nm, nd1'⟩ := List.nodup_cons.mp nd1
            have hmn : m ≠ n := fun z => nn (by rw [← z]; exact List.mem_append_left _ List.mem_cons_self)
            have hl : ys.length < szLine := by
              rw [oy.length]
              exact hs zs List.mem_cons_self
            have hb2 := hb (ρ.set r (some (.ref m))) M m ys (List.getElem?_set_self hr) hm hl
            have st : ∀ (q : Nat) (c2 : Cell), q ≠ m → M[q]? = some c2 → (M.set m (.lst (opF o ys)))[q]? = some c2 := fun q c2 d e => (List.getElem?_set_ne (Ne.symm d)).trans e
            have mlt := get_lt hm
            have ow3 := Owl.map (M' := M.set m (.lst (opF o ys))) ow2 fun q c2 hq e => st q c2 (fun z => nd3 m List.mem_cons_self q hq z.symm) e
            obtain ⟨ρ', M', cd', f1, f2, f3, f4, f5, f6, f7, f8⟩ := forOp ho hb hlen k (i + 1) (ρ.set r (some (.ref m))) (M.set m (.lst (opF o ys))) us2 zss2 b (by rw [List.length_set]; exact hr) (by omega) (st n _ (Ne.symm hmn) hn) ow3 nd2 (fun z => nn (List.mem_append_right _ z)) hz2 (fun z hz => hs z (List.mem_cons_of_mem _ hz))
            have keep : ∀ q, q ∉ b → M'[q]? = (M.set m (.lst (opF o ys)))[q]? := f8
            have mb : m ∉ b := fun z => nd3 m List.mem_cons_self m z rfl
            obtain ⟨c', g1, g2, g3⟩ := op_ow (M' := M') o ho oy (fun q c2 hq e => by
              have q1 : q ∉ b := fun z => nd3 q (List.mem_cons_of_mem _ hq) q z rfl
              rw [keep q q1]
              exact st q c2 (fun z => nm (z ▸ hq)) e)
            have hm' : M'[m]? = some (.lst (opF o ys)) := by
              rw [keep m mb]
              exact List.getElem?_set_self mlt
            refine ⟨ρ', M', (m :: c') ++ cd', ?_, ?_, ?_, f4, ?_, nodup_app (List.nodup_cons.mpr ⟨fun z => nm (g3 m z), g2 nd1'⟩) f6 (fun q h1 h2 => ?_), fun q hq => ?_, fun q hq => ?_⟩
            · rw [sForN_succ]
              have nx : (itSeq (.ref n) len).nxt i M = some (.ref m) := by
                show (seqOf M (.ref n)).bind _ = _
                rw [seq_lst hn]
                show xs[i]? = _
                rw [List.getElem?_eq_getElem hi, hx]
              rw [nx]
              simp only [tName]
              rw [hb2]
              exact f1
            · obtain ⟨z, hz⟩ := f2
              rcases hz with hz | hz
              · exact ⟨z, .inl (by rw [hz, List.set_set])⟩
              · exact ⟨_, .inl hz⟩
            · rw [f3, List.length_set]
            · exact .cons (.lst hm' g1) f5
            · have h3 := f7 q h2
              rcases List.mem_cons.mp h1 with z | z
              · rw [z] at h3
                exact mb h3
              · exact nd3 q (List.mem_cons_of_mem _ (g3 q z)) q h3 rfl
            · rcases List.mem_append.mp hq with hq | hq
              · refine List.mem_append_left _ ?_
                rcases List.mem_cons.mp hq with z | z
                · rw [z]
                  exact List.mem_cons_self
                · exact List.mem_cons_of_mem _ (g3 q z)
              · exact List.mem_append_right _ (f7 q hq)
            · rw [f8 q fun z => hq (List.mem_append_right _ z)]
              exact List.getElem?_set_ne fun z => hq (by rw [← z]; exact List.mem_append_left _ List.mem_cons_self)
      | _ => cases hz
def forOf (o : Option Val) (j r : Nat) (π : PEnv) (t : V) : PR (List Nat) → PRS
  | .ok p => match subV p t with
    | some (.lst us) => match mapO lstOf us with
      | some zss => if opOk o = true ∧ r < π.length ∧ (zss.all fun zs => decide (zs.length < szLine)) = true then .nx ((π.set j (some ⟨.dr, false, putV p t (.lst (zss.map fun zs => .lst (opG o zs)))⟩)).set r none) else .bad
      | none => .bad
    | _ => .bad
  | _ => .bad
def pForOp (o : Option Val) (j : Nat) (is : List PE) (r : Nat) : PS := fun π => match ownD j π with
  | some t => forOf o j r π t (pPath is π t)
  | none => .bad
theorem ss_forOp (o : Option Val) (j r : Nat) {es : List E} {is : List PE} {body : St} (hb : ∀ (ρ : Env) (M : Store) (m : Nat) (zs : List Val), ρ[r]? = some (some (.ref m)) → M[m]? = some (.lst zs) → zs.length < szLine → body ρ M = .nx ρ (M.set m (.lst (opF o zs)))) (hi : SimL es is) : SimS (sFor (iList (pathE (eVar j) es)) (tName r) body) (pForOp o j is r) := by
  refine ⟨?_⟩
  intro B Pa O ρ M π h
  unfold pForOp
  cases ej : ownD j π with
  | none => exact trivial
  | some t =>
    simp only []
    obtain ⟨tn, e1⟩ := ownD_ok ej
    obtain ⟨v, cs, rj, ow, nd, on, lo⟩ := ownD_at h e1
    cases ep : pPath is π t with
    | ok q =>
      obtain ⟨y, M1, u, f1, g1, f3, f4⟩ := path_ok hi (eVar j) M M v t cs q h (eVar_at rj) (Gr.refl M) ow ep
      unfold forOf
      simp only []
      cases es2 : subV q t with
      | none => exact trivial
      | some tu =>
        cases tu with
        | lst us =>
          simp only []
          cases ez : mapO lstOf us with
          | none => exact trivial
          | some zss =>
            simp only []
            by_cases hc : opOk o = true ∧ r < π.length ∧ (zss.all fun zs => decide (zs.length < szLine)) = true
            · rw [if_pos hc]
              obtain ⟨n, xs, cu, k1, k2, k3, k4, k5, k6, k7, k8⟩ := Ow.lens q (Ow.gr g1 ow) nd es2
              have ey : y = .ref n := Option.some.inj (f3.symm.trans k1)
              subst ey
              have h1 := h.gr g1
              obtain ⟨ρ', M', cd', s1, s2, s3, s4, s5, s6, s7, s8⟩ := forOp hc.1 hb (n := n) (xs := xs) (len := xs.length) rfl xs.length 0 ρ M1 us zss cu (by rw [h.len]; exact hc.2.1) (Nat.zero_add _) k2 (by rw [List.drop_zero]; exact k3) k6 k7 ez (fun zs hz => of_decide_eq_true (List.all_eq_true.mp hc.2.2 zs hz))
              rw [List.drop_zero] at s5
              obtain ⟨cs', o', nd', kc⟩ := k8 M' xs (zss.map fun zs => .lst (opG o zs)) cd' (fun m k hm h1 h2 e => by rw [s8 m h2]; exact e) s4 s5 s6 (fun z => k7 (s7 n z)) (fun m hm => .inl (s7 m hm))
              have kc2 : ∀ m ∈ cs', m ∈ cs := fun m hm => (kc m hm).elim id fun z => k5 m (s7 m z)
              obtain ⟨X, S⟩ := h1.change (w' := ⟨.dr, false, putV q t (.lst (zss.map fun zs => .lst (opG o zs)))⟩) (M' := M') e1 rj (cs := cs) (cs' := cs') (Ow.gr g1 ow) (by rw [s3]; exact Nat.le_refl _) (fun m c d e => by
                rw [s8 m fun z => d (k5 m z)]
                exact e) o' (fun m hm => .inl (kc2 m hm)) ⟨cs', o', nd', fun m hm => lo m (kc2 m hm)⟩
              have S2 : ∃ z : Option Val, ρ' = ρ.set r z := by
                obtain ⟨z, hz⟩ := s2
                rcases hz with hz | hz
                · exact ⟨z, hz⟩
                · refine ⟨ρ[r]'(by rw [h.len]; exact hc.2.1), ?_⟩
                  rw [hz, List.set_getElem_self]
              obtain ⟨z, hz⟩ := S2
              refine ⟨ρ', M', _, ?_, (Ext.gr g1).trans X, by rw [hz]; exact S.junk r z⟩
              unfold sFor iList
              rw [f1]
              simp only [R.bind_ok]
              rw [seq_lst k2]
              exact s1
            · rw [if_neg hc]
              exact trivial
        | _ => exact trivial
    | _ => exact trivial
theorem body_clr (r : Nat) (ρ : Env) (M : Store) (m : Nat) (zs : List Val) (h : ρ[r]? = some (some (.ref m))) (hm : M[m]? = some (.lst zs)) (_ : zs.length < szLine) : sDrop (eM0 "list" mClr (eVar r)) ρ M = .nx ρ (M.set m (.lst (opF none zs))) := by
  unfold sDrop eM0
  rw [eVar_at h]
  simp only [R.bind_ok]
  rw [isTy_lst hm, if_pos rfl]
  unfold mClr
  simp only [hm]
  rfl
theorem body_app (r : Nat) (c : Val) (ρ : Env) (M : Store) (m : Nat) (zs : List Val) (h : ρ[r]? = some (some (.ref m))) (hm : M[m]? = some (.lst zs)) (hz : zs.length < szLine) : sDrop (eM1 "list" mApp (eVar r) (eC c)) ρ M = .nx ρ (M.set m (.lst (opF (some c) zs))) := by
  unfold sDrop eM1
  rw [eVar_at h]
  simp only [R.bind_ok]
  rw [isTy_lst hm, if_pos rfl]
  simp only [eC, R.bind_ok]
  rw [mApp_ref hm hz]
  rfl
/-! ### what is told, parted among names -/
def kqAsgD (is : List Nat) (π : PEnv) : PR W → PRS
  | .ok w => match w.fl, w.t with
    | .dr, .tup ts => if ts.length = is.length ∧ is.Nodup then .nx ((is.zip ts).foldl (fun π p => π.set p.1 (some ⟨.dr, false, p.2⟩)) π) else .bad
    | _, _ => .bad
  | .exc c => .exc c π
  | .bad => .bad
/-- a, b, .. = f(..), each of them one's own -/
def pAsgD (is : List Nat) (e : PE) : PS := fun π => kqAsgD is π (e π)
theorem PSt.moreO {B : Nat} {Pa O : Nat → Prop} {ρ : Env} {M0 M : Store} {π : PEnv} (h : PSt B Pa O ρ M0 π) (g : Gr M0 M) (cs : List Nat) (hc : ∀ n ∈ cs, M0.length ≤ n ∧ n < M.length) : Ext O M0 (fun n => O n ∨ n ∈ cs) M ∧ PSt B Pa (fun n => O n ∨ n ∈ cs) ρ M π := by
  have h' := h.gr g
  refine ⟨⟨g.len, fun m hm o => ⟨?_, fun z => z.elim o fun y => by have := (hc m y).1; omega⟩⟩, ⟨h.len, h'.low, fun n o => ?_, fun i w e f => let ⟨v, ds, a, b, c⟩ := h'.own i w e f; ⟨v, ds, a, b, fun n hn => .inl (c n hn)⟩, h'.inj, fun i w e => ?_, h.nb⟩⟩
  · obtain ⟨y, rfl⟩ := g
    exact List.getElem?_append_left hm
  · rcases o with o | o
    · exact h'.bnd n o
    · exact ⟨Nat.le_trans h.low (hc n o).1, (hc n o).2⟩
  · obtain ⟨x, a, b⟩ := h.val i w e
    refine ⟨x, a, b.keep (h.nb i w e) (fun ds _ n hn c e => g.at e) fun n c o e => ⟨g.at e, fun z => z.elim o fun y => ?_⟩⟩
    have := (hc n y).1
    have := get_lt e
    omega
theorem PSt.putIn {B : Nat} {Pa O : Nat → Prop} {ρ : Env} {M : Store} {π : PEnv} (h : PSt B Pa O ρ M π) (i : Nat) {v : Val} {t : V} {b : List Nat} (ow : Ow M v t b) (nd : b.Nodup) (bo : ∀ n ∈ b, O n) (free : ∀ (j : Nat) (w : W) (x : Val) (ds : List Nat) (n : Nat), π[j]? = some (some w) → ρ[j]? = some (some x) → Oc w.fl M x w.t ds → n ∈ ds → n ∈ b → False) : PSt B Pa O (ρ.set i (some v)) M (π.set i (some ⟨.dr, false, t⟩)) := by
  have ri : i < π.length → (ρ.set i (some v))[i]? = some (some v) := fun hi => List.getElem?_set_self (by rw [h.len]; exact hi)
  have rn : ∀ {j}, j ≠ i → (ρ.set i (some v))[j]? = ρ[j]? := fun d => List.getElem?_set_ne (Ne.symm d)
  refine ⟨by rw [List.length_set, List.length_set]; exact h.len, h.low, h.bnd, fun j u e f => ?_, fun p q u u' x x' ds ds' m e1 e2 r1 r2 o1 o2 m1 m2 => ?_, fun j u e => ?_, fun j u e => ?_⟩
  · rcases set_cases e with ⟨rfl, e, hi⟩ | ⟨d, e⟩
    · cases e
      exact ⟨v, b, ri hi, ow, bo⟩
    · rw [rn d]
      exact h.own j u e f
  · rcases set_cases e1 with ⟨c1, g1, hi⟩ | ⟨d1, f1⟩
    · subst c1
      cases g1
      rw [ri hi] at r1
      cases r1
      have q1 : ds = b := Ow.fn o1 ow
      rw [q1] at m1
      rcases set_cases e2 with ⟨c2, _, _⟩ | ⟨d2, f2⟩
      · exact c2.symm
      · rw [rn d2] at r2
        exact (free q u' x' ds' m f2 r2 o2 m2 m1).elim
    · rw [rn d1] at r1
      rcases set_cases e2 with ⟨c2, g2, hi⟩ | ⟨d2, f2⟩
      · subst c2
        cases g2
        rw [ri hi] at r2
        cases r2
        have q2 : ds' = b := Ow.fn o2 ow
        rw [q2] at m2
        exact (free p u x ds m f1 r1 o1 m1 m2).elim
      · rw [rn d2] at r2
        exact h.inj p q u u' x x' ds ds' m f1 f2 r1 r2 o1 o2 m1 m2
  · rcases set_cases e with ⟨rfl, e, hi⟩ | ⟨d, e⟩
    · cases e
      exact ⟨v, ri hi, b, ow, nd, fun n hn => (h.bnd n (bo n hn)).1⟩
    · rw [rn d]
      exact h.val j u e
  · rcases set_cases e with ⟨rfl, e, hi⟩ | ⟨d, e⟩
    · cases e
      rfl
    · exact h.nb j u e
theorem asgD_ok {B : Nat} {Pa O : Nat → Prop} {M : Store} : ∀ (is : List Nat) (xs : List Val) (ts : List V) (cs : List Nat) (ρ : Env) (π : PEnv), Owl M xs ts cs → cs.Nodup → is.length = ts.length → (∀ n ∈ cs, O n) → (∀ (j : Nat) (w : W) (x : Val) (ds : List Nat) (n : Nat), π[j]? = some (some w) → ρ[j]? = some (some x) → Oc w.fl M x w.t ds → n ∈ ds → n ∈ cs → False) → PSt B Pa O ρ M π →
    ∃ ρ', tAll (is.map tName) xs ρ M = .nx ρ' M ∧ PSt B Pa O ρ' M ((is.zip ts).foldl (fun π p => π.set p.1 (some ⟨.dr, false, p.2⟩)) π)
  | [], xs, ts, cs, ρ, π, ow, nd, le, ho, fr, S => by
    cases ts with
    | nil =>
      cases ow
      exact ⟨ρ, rfl, S⟩
    | cons _ _ => cases le
  | i :: is, xs, ts, cs, ρ, π, ow, nd, le, ho, fr, S => by
    cases ow with
    | nil => cases le
    | @cons x t xs ts a b ow1 ow2 =>
      obtain ⟨n1, n2, n3⟩ := List.nodup_append.mp nd
      have S1 := S.putIn i ow1 n1 (fun n hn => ho n (List.mem_append_left _ hn)) fun j w x ds n e r o h1 h2 => fr j w x ds n e r o h1 (List.mem_append_left _ h2)
      obtain ⟨ρ', e1, S2⟩ := asgD_ok is xs ts b (ρ.set i (some x)) (π.set i (some ⟨.dr, false, t⟩)) ow2 n2 (Nat.succ.inj le) (fun n hn => ho n (List.mem_append_right _ hn)) (fun j w y ds n e r o h1 h2 => by
        rcases set_cases e with ⟨rfl, e, hi⟩ | ⟨d, e⟩
        · cases e
          rw [List.getElem?_set_self (by rw [S.len]; exact hi)] at r
          cases r
          have q : ds = a := Ow.fn o ow1
          rw [q] at h1
          exact n3 n h1 n h2 rfl
        · rw [List.getElem?_set_ne (Ne.symm d)] at r
          exact fr j w y ds n e r o h1 (List.mem_append_right _ h2)) S1
      exact ⟨ρ', e1, S2⟩
theorem ss_asgD (is : List Nat) {e : E} {p : PE} (he : SimE e p) : SimS (sAsg (tTup (is.map tName)) e) (pAsgD is p) := by
  refine ⟨?_⟩
  intro B Pa O ρ M π h
  have h1 := he B Pa O ρ M π h
  unfold pAsgD sAsg
  cases e1 : p π with
  | bad => exact trivial
  | exc c =>
    rw [e1] at h1
    obtain ⟨M', e2, g1⟩ := h1
    rw [e2]
    exact ⟨ρ, M', O, rfl, Ext.gr g1, h.gr g1⟩
  | ok w =>
    rw [e1] at h1
    obtain ⟨v, M1, e2, g1, r1⟩ := h1
    rw [e2]
    obtain ⟨fl, tn, t⟩ := w
    unfold kqAsgD
    simp only [R.st_ok]
    cases fl with
    | dr =>
      cases t with
      | tup ts =>
        simp only []
        by_cases hz : ts.length = is.length ∧ is.Nodup
        · rw [if_pos hz]
          obtain ⟨cs, a, b, c⟩ := r1
          generalize ht : V.tup ts = tu at a
          cases a with
          | @tup xs us _ ow =>
            cases ht
            obtain ⟨X, S⟩ := h.moreO g1 cs fun n hn => ⟨(c n hn).1, ow.lt n hn⟩
            have h' := h.gr g1
            obtain ⟨ρ', e3, S2⟩ := asgD_ok is xs _ cs ρ π ow b hz.1.symm (fun n hn => .inr hn) (fun j w x ds n e r o h1 h2 => by
              obtain ⟨x', ds', a1, b1, c1⟩ := h'.own j w e o.isO
              rw [r] at a1
              cases a1
              rw [o.fn b1] at h1
              have := (h.bnd n (c1 n h1)).2
              have := (c n h2).1
              omega) S
            refine ⟨ρ', M1, _, ?_, X, S2⟩
            unfold tTup
            show (match seqOf M1 (.tup xs) with
              | some xs => if xs.length = (is.map tName).length then tAll (is.map tName) xs ρ M1 else .bad
              | none => RS.bad).tg = _
            simp only [seqOf]
            rw [if_pos (by rw [List.length_map, ow.length]; exact hz.1), e3]
            rfl
          | _ => cases ht
        · rw [if_neg hz]
          exact trivial
      | _ => exact trivial
    | _ => exact trivial
end Mn
namespace Mn
def takeOf (is : List Nat) (j : Nat) (π : PEnv) : V → PRS
  | .tup ts => if ts.length = is.length ∧ is.Nodup then .nx ((is.zip ts).foldl (fun π p => π.set p.1 (some ⟨.dr, false, p.2⟩)) (π.set j none)) else .bad
  | _ => .bad
/-- a, b, .. = x, that goes -/
def pTakeD (is : List Nat) (j : Nat) : PS := fun π => match ownD j π with
  | some t => takeOf is j π t
  | none => .bad
theorem ss_takeD (is : List Nat) (j : Nat) : SimS (sAsg (tTup (is.map tName)) (eVar j)) (pTakeD is j) := by
  refine ⟨?_⟩
  intro B Pa O ρ M π h
  unfold pTakeD
  cases ej : ownD j π with
  | none => exact trivial
  | some t =>
    obtain ⟨tn, e1⟩ := ownD_ok ej
    obtain ⟨v, cs, r, o, nd, on, lo⟩ := ownD_at h e1
    unfold takeOf
    cases t with
    | tup ts =>
      simp only []
      by_cases hz : ts.length = is.length ∧ is.Nodup
      · rw [if_pos hz]
        have oc : Oc .dr M v (.tup ts) cs := o
        generalize ht : V.tup ts = tu at o
        cases o with
        | @tup xs us _ ow =>
          cases ht
          obtain ⟨ρ', e3, S2⟩ := asgD_ok is xs _ cs ρ (π.set j none) ow nd hz.1.symm on (fun i w x ds n e r2 o2 h1 h2 => by
            rcases set_cases e with ⟨_, e, _⟩ | ⟨d, e⟩
            · cases e
            · exact d (h.inj i j w _ x _ ds cs n e e1 r2 r o2 oc h1 h2)) (h.kill j)
          refine ⟨ρ', M, O, ?_, Ext.refl O M, S2⟩
          unfold sAsg tTup
          rw [eVar_at r]
          show (match seqOf M (.tup xs) with
            | some xs => if xs.length = (is.map tName).length then tAll (is.map tName) xs ρ M else .bad
            | none => RS.bad).tg = _
          simp only [seqOf]
          rw [if_pos (by rw [List.length_map, ow.length]; exact hz.1), e3]
          rfl
        | _ => cases ht
      · rw [if_neg hz]
        exact trivial
    | _ => exact trivial
end Mn
namespace Mn
/-! ### looked at while nothing changes -/
def frzAll (π : PEnv) : PEnv := π.map fzO
theorem PSt.freezeAll {B : Nat} {Pa O : Nat → Prop} {ρ : Env} {M : Store} {π : PEnv} (h : PSt B Pa O ρ M π) : PSt B Pa (fun _ => False) ρ M (frzAll π) := by
  have k : ∀ (i : Nat) (w : W), (frzAll π)[i]? = some (some w) → ∃ u, π[i]? = some (some u) ∧ w = fzW u := fun i w e => by
    unfold frzAll at e
    rw [List.getElem?_map] at e
    obtain ⟨o, e1, e2⟩ := Option.map_eq_some_iff.mp e
    cases o with
    | none => cases e2
    | some u =>
      cases e2
      exact ⟨u, e1, rfl⟩
  refine ⟨by unfold frzAll; rw [List.length_map]; exact h.len, h.low, fun n o => o.elim, fun i w e f => ?_, fun a b w w' v v' cs cs' n e1 e2 r1 r2 o1 o2 m1 m2 => ?_, fun i w e => ?_, fun i w e => ?_⟩
  · obtain ⟨u, _, rfl⟩ := k i w e
    cases f
  · obtain ⟨u, _, rfl⟩ := k a w e1
    exact o1.elim
  · obtain ⟨u, e1, rfl⟩ := k i w e
    obtain ⟨v, a, b⟩ := h.val i u e1
    refine ⟨v, a, ?_⟩
    have nb := h.nb i u e1
    show Rq (Av (fun _ => False) B Pa u.tn) M v u.t
    obtain ⟨fl, tn, t⟩ := u
    cases fl with
    | fr =>
      obtain ⟨n, xs, ts, rfl, p, q, r, s⟩ := b
      simp only at r
      subst r
      exact .lst q ⟨id, .inl p⟩ (s.map fun m c p e => ⟨e, id, p.2.2⟩)
    | dr =>
      obtain ⟨cs, p, q, r⟩ := b
      exact p.rq fun n hn => ⟨id, .inl (r n hn)⟩
    | fz => exact Rq.map (fun m c p e => ⟨e, id, p.2⟩) b
    | bo => cases nb
    | bd => cases nb
  · obtain ⟨u, _, rfl⟩ := k i w e
    rfl
def kqTmp : PR W → PR W
  | .ok w => if dOk w = true then .ok w else .bad
  | .exc c => .exc c
  | .bad => .bad
def pTmp (p : PE) : PE := fun π => kqTmp (p (frzAll π))
theorem sx_tmp {e : E} {p : PE} (he : SimE e p) : SimE e (pTmp p) := by
  refine ⟨?_⟩
  intro B Pa O ρ M π h
  have h1 := he B Pa _ ρ M _ h.freezeAll
  unfold pTmp
  cases e1 : p (frzAll π) with
  | bad => exact trivial
  | exc c =>
    rw [e1] at h1
    exact h1
  | ok w =>
    rw [e1] at h1
    obtain ⟨v, M1, e2, g1, r1⟩ := h1
    unfold kqTmp
    simp only []
    by_cases hd : dOk w = true
    · rw [if_pos hd]
      refine ⟨v, M1, e2, g1, ?_⟩
      obtain ⟨cs, a, b, c⟩ := RW.deep (w := w) (fun n o => o.elim) h.low r1 hd
      have lo : ∀ n, M.length ≤ n → Av O B Pa false n := fun n hn => ⟨fun o => by have := (h.bnd n o).2; omega, .inl (Nat.le_trans h.low hn)⟩
      obtain ⟨fl, tn, t⟩ := w
      have flat : t.hasL = false → Rq (fun _ => True) M1 v t → ∀ P : Nat → Prop, Rq P M1 v t := fun q r P => r.noL q
      cases fl with
      | dr => exact ⟨cs, a, b, fun n hn => ⟨(c n hn).1, lo n (c n hn).1⟩⟩
      | fr =>
        obtain ⟨n, xs, ts, rfl, p, q, r, s⟩ := r1
        simp only at r
        subst r
        have k : V.hasLs ts = false := by simpa [dOk] using hd
        exact ⟨n, xs, ts, rfl, p, q, rfl, s.noL k⟩
      | fz => exact flat (by simpa [dOk] using hd) r1.any _
      | bo =>
        obtain ⟨n, xs, ts, rfl, p, _⟩ := r1
        exact p.elim
      | bd => exact flat (by simpa [dOk] using hd) r1.any _
    · rw [if_neg hd]
      exact trivial
end Mn
end
section
set_option Elab.async false
set_option autoImplicit false
set_option maxRecDepth 100000
set_option linter.all false
set_option maxHeartbeats 400000
/-! the defs of all texts over trees, and that they agree: printed by vgen.py -/
namespace Z
open Mn
def v_p_shared.b : PS := pSeq (pAsg 0 (pUn qAbs (pVar 0))) (pSeq (pAsgF 1 (pUn qAbs (pVar 1))) (pSeq (pWhile [2] (pBin qNe (pVar 1) (pC (.int 0))) (pSeq (pAsgF 2 (pBin qMod (pVar 0) (pVar 1))) (pSeq (pAsg 0 (pVar 1)) (pAsgF 1 (pVar 2))))) (pRet (pVar 0))))
def v_p_shared : PF := pFn 2 3 v_p_shared.b
theorem s_p_shared : SimF p_shared v_p_shared := sf_fn 2 3 (show SimS p_shared.b v_p_shared.b from ss_seq (ss_asg _ (sx_un (su_abs) (nu_abs) (sx_var 0))) (ss_seq (ss_asgF _ (sx_un (su_abs) (nu_abs) (sx_var 1))) (ss_seq (ss_while _ (sx_bin (so_ne) (nx_eqG _) (sx_var 1) (sx_c _)) (ss_seq (ss_asgF _ (sx_bin (so_mod) (nx_int _ _) (sx_var 0) (sx_var 1))) (ss_seq (ss_asg _ (sx_var 1)) (ss_asgF _ (sx_var 2))))) (ss_ret (sx_var 0)))))
def v_p_ratio.b : PS := pSeq (pIf (pBin qEq (pVar 1) (pC (.int 0))) (pRaise "NoRatio") (pPass)) (pSeq (pAsgF 2 (pCall v_p_shared [pVar 0, pVar 1])) (pSeq (pIf (pBin qLt (pVar 1) (pC (.int 0))) (pAsgF 2 (pUn qNeg (pVar 2))) (pPass)) (pRet (pTup [pBin qDiv (pVar 0) (pVar 2), pBin qDiv (pVar 1) (pVar 2)]))))
def v_p_ratio : PF := pFn 2 3 v_p_ratio.b
theorem s_p_ratio : SimF p_ratio v_p_ratio := sf_fn 2 3 (show SimS p_ratio.b v_p_ratio.b from ss_seq (ss_if (sx_bin (so_eq) (nx_eqG _) (sx_var 1) (sx_c _)) (ss_raise _) (ss_pass)) (ss_seq (ss_asgF _ (sx_call s_p_shared (.cons (sx_var 0) (.cons (sx_var 1) (.nil))))) (ss_seq (ss_if (sx_bin (so_lt) (nx_int _ _) (sx_var 1) (sx_c _)) (ss_asgF _ (sx_un (su_neg) (nu_neg) (sx_var 2))) (ss_pass)) (ss_ret (sx_tup (.cons (sx_bin (so_div) (nx_int _ _) (sx_var 0) (sx_var 2)) (.cons (sx_bin (so_div) (nx_int _ _) (sx_var 1) (sx_var 2)) (.nil))))))))
def v_l_whole.b : PS := pRet (pAnd (pUn (qIs ["int"]) (pVar 0)) (pNot (pUn (qIs ["bool"]) (pVar 0))))
def v_l_whole : PF := pFn 1 1 v_l_whole.b
theorem s_l_whole : SimF l_whole v_l_whole := sf_fn 1 1 (show SimS l_whole.b v_l_whole.b from ss_ret (sx_and (sx_un (su_is _) (nu_is _) (sx_var 0)) (sx_not (sx_un (su_is _) (nu_is _) (sx_var 0)))))
def v_p_plus.b : PS := pRet (pCall v_p_ratio [pBin qAdd (pBin qMul (pBin qIx (pVar 0) (pC (.int 0))) (pBin qIx (pVar 1) (pC (.int 1)))) (pBin qMul (pBin qIx (pVar 1) (pC (.int 0))) (pBin qIx (pVar 0) (pC (.int 1)))), pBin qMul (pBin qIx (pVar 0) (pC (.int 1))) (pBin qIx (pVar 1) (pC (.int 1)))])
def v_p_plus : PF := pFn 2 2 v_p_plus.b
theorem s_p_plus : SimF p_plus v_p_plus := sf_fn 2 2 (show SimS p_plus.b v_p_plus.b from ss_ret (sx_call s_p_ratio (.cons (sx_bin (so_add) (nx_add) (sx_bin (so_mul) (nx_mul) (sx_bin (so_ix) (nx_ix) (sx_var 0) (sx_c _)) (sx_bin (so_ix) (nx_ix) (sx_var 1) (sx_c _))) (sx_bin (so_mul) (nx_mul) (sx_bin (so_ix) (nx_ix) (sx_var 1) (sx_c _)) (sx_bin (so_ix) (nx_ix) (sx_var 0) (sx_c _)))) (.cons (sx_bin (so_mul) (nx_mul) (sx_bin (so_ix) (nx_ix) (sx_var 0) (sx_c _)) (sx_bin (so_ix) (nx_ix) (sx_var 1) (sx_c _))) (.nil)))))
def v_p_minus.b : PS := pRet (pCall v_p_ratio [pBin qSub (pBin qMul (pBin qIx (pVar 0) (pC (.int 0))) (pBin qIx (pVar 1) (pC (.int 1)))) (pBin qMul (pBin qIx (pVar 1) (pC (.int 0))) (pBin qIx (pVar 0) (pC (.int 1)))), pBin qMul (pBin qIx (pVar 0) (pC (.int 1))) (pBin qIx (pVar 1) (pC (.int 1)))])
def v_p_minus : PF := pFn 2 2 v_p_minus.b
def v_p_times.b : PS := pRet (pCall v_p_ratio [pBin qMul (pBin qIx (pVar 0) (pC (.int 0))) (pBin qIx (pVar 1) (pC (.int 0))), pBin qMul (pBin qIx (pVar 0) (pC (.int 1))) (pBin qIx (pVar 1) (pC (.int 1)))])
def v_p_times : PF := pFn 2 2 v_p_times.b
theorem s_p_times : SimF p_times v_p_times := sf_fn 2 2 (show SimS p_times.b v_p_times.b from ss_ret (sx_call s_p_ratio (.cons (sx_bin (so_mul) (nx_mul) (sx_bin (so_ix) (nx_ix) (sx_var 0) (sx_c _)) (sx_bin (so_ix) (nx_ix) (sx_var 1) (sx_c _))) (.cons (sx_bin (so_mul) (nx_mul) (sx_bin (so_ix) (nx_ix) (sx_var 0) (sx_c _)) (sx_bin (so_ix) (nx_ix) (sx_var 1) (sx_c _))) (.nil)))))
def v_p_over.b : PS := pRet (pCall v_p_ratio [pBin qMul (pBin qIx (pVar 0) (pC (.int 0))) (pBin qIx (pVar 1) (pC (.int 1))), pBin qMul (pBin qIx (pVar 0) (pC (.int 1))) (pBin qIx (pVar 1) (pC (.int 0)))])
def v_p_over : PF := pFn 2 2 v_p_over.b
def v_p_less.b : PS := pRet (pBin qLt (pBin qMul (pBin qIx (pVar 0) (pC (.int 0))) (pBin qIx (pVar 1) (pC (.int 1)))) (pBin qMul (pBin qIx (pVar 1) (pC (.int 0))) (pBin qIx (pVar 0) (pC (.int 1)))))
def v_p_less : PF := pFn 2 2 v_p_less.b
def v_p_added.b : PS := pRet (pLc (pZip (pVar 0) (pVar 1)) (ptTup [ptName 2, ptName 3]) [2, 3] (pC (.bl true)) (pCall v_p_plus [pVar 2, pVar 3]))
def v_p_added : PF := pFn 2 4 v_p_added.b
theorem s_p_added : SimF p_added v_p_added := sf_fn 2 4 (show SimS p_added.b v_p_added.b from ss_ret (sx_lc _ (si_zip (sx_var 0) (sx_var 1)) (st_tup (.cons (st_name _) (.cons (st_name _) (.nil)))) (sx_c _) (sx_call s_p_plus (.cons (sx_var 2) (.cons (sx_var 3) (.nil))))))
def v_p_taken.b : PS := pRet (pLc (pZip (pVar 0) (pVar 1)) (ptTup [ptName 2, ptName 3]) [2, 3] (pC (.bl true)) (pCall v_p_minus [pVar 2, pVar 3]))
def v_p_taken : PF := pFn 2 4 v_p_taken.b
def v_p_scaled.b : PS := pRet (pLc (pList (pVar 0)) (ptName 2) [2] (pC (.bl true)) (pCall v_p_times [pVar 2, pVar 1]))
def v_p_scaled : PF := pFn 2 3 v_p_scaled.b
theorem s_p_scaled : SimF p_scaled v_p_scaled := sf_fn 2 3 (show SimS p_scaled.b v_p_scaled.b from ss_ret (sx_lc _ (si_list (sx_var 0)) (st_name _) (sx_c _) (sx_call s_p_times (.cons (sx_var 2) (.cons (sx_var 1) (.nil))))))
def v_p_is_still.b : PS := pRet (pUn qAll (pLc (pList (pVar 0)) (ptName 1) [1] (pC (.bl true)) (pBin qEq (pVar 1) (pC c_NOUGHT))))
def v_p_is_still : PF := pFn 1 2 v_p_is_still.b
def v_l_cell_at.b : PS := pSeq (pIf (pBin qLt (pVar 1) (pUn qLen (pVar 0))) (pRet (pBin qIx (pVar 0) (pVar 1))) (pPass)) (pRet (pC (.int 0)))
def v_l_cell_at : PF := pFn 2 2 v_l_cell_at.b
theorem s_l_cell_at : SimF l_cell_at v_l_cell_at := sf_fn 2 2 (show SimS l_cell_at.b v_l_cell_at.b from ss_seq (ss_if (sx_bin (so_lt) (nx_int _ _) (sx_var 1) (sx_un (su_len) (nu_len) (sx_var 0))) (ss_ret (sx_bin (so_ix) (nx_ix) (sx_var 0) (sx_var 1))) (ss_pass)) (ss_ret (sx_c _)))
def v_p_mixed.b : PS := pSeq (pAsg 3 (pBin qMul (pLst [pC c_NOUGHT]) (pVar 2))) (pSeq (pFor [0, 1, 2, 4, 5] (pZip (pVar 0) (pVar 1)) (ptTup [ptName 4, ptName 5]) (pAsg 3 (pCall v_p_added [pVar 3, pCall v_p_scaled [pVar 4, pVar 5]]))) (pRet (pVar 3)))
def v_p_mixed : PF := pFn 3 6 v_p_mixed.b
def v_p_turned.b : PS := pRet (pLc (pRange1 (pVar 1)) (ptName 3) [3] (pC (.bl true)) (pLc (pList (pVar 0)) (ptName 2) [2] (pC (.bl true)) (pBin qIx (pVar 2) (pVar 3))))
def v_p_turned : PF := pFn 2 4 v_p_turned.b
def v_p_unit.b : PS := pSeq (pAsg 1 (pLst [])) (pSeq (pFor [2, 3] (pRange1 (pVar 0)) (ptName 2) (pSeq (pAsg 3 (pBin qMul (pLst [pC c_NOUGHT]) (pVar 0))) (pSeq (pSubA 3 (pVar 2) (pC c_ONE)) (pFz 3 (pApp 1 (pVar 3)))))) (pRet (pVar 1)))
def v_p_unit : PF := pFn 1 4 v_p_unit.b
def v_p_product.b : PS := pRet (pLc (pList (pVar 0)) (ptName 3) [3] (pC (.bl true)) (pCall v_p_mixed [pVar 1, pVar 3, pVar 2]))
def v_p_product : PF := pFn 3 4 v_p_product.b
def v_p_is_ratio.b : PS := pSeq (pIf (pOr (pNot (pUn (qIs ["tuple"]) (pVar 0))) (pOr (pBin qNe (pUn qLen (pVar 0)) (pC (.int 2))) (pOr (pNot (pCall v_l_whole [pBin qIx (pVar 0) (pC (.int 0))])) (pNot (pCall v_l_whole [pBin qIx (pVar 0) (pC (.int 1))]))))) (pRet (pC (.bl false))) (pPass)) (pRet (pAnd (pBin qGt (pBin qIx (pVar 0) (pC (.int 1))) (pC (.int 0))) (pBin qEq (pCall v_p_shared [pBin qIx (pVar 0) (pC (.int 0)), pBin qIx (pVar 0) (pC (.int 1))]) (pC (.int 1)))))
def v_p_is_ratio : PF := pFn 1 1 v_p_is_ratio.b
theorem s_p_is_ratio : SimF p_is_ratio v_p_is_ratio := sf_fn 1 1 (show SimS p_is_ratio.b v_p_is_ratio.b from ss_seq (ss_if (sx_or (sx_not (sx_un (su_is _) (nu_is _) (sx_var 0))) (sx_or (sx_bin (so_ne) (nx_eqG _) (sx_un (su_len) (nu_len) (sx_var 0)) (sx_c _)) (sx_or (sx_not (sx_call s_l_whole (.cons (sx_bin (so_ix) (nx_ix) (sx_var 0) (sx_c _)) (.nil)))) (sx_not (sx_call s_l_whole (.cons (sx_bin (so_ix) (nx_ix) (sx_var 0) (sx_c _)) (.nil))))))) (ss_ret (sx_c _)) (ss_pass)) (ss_ret (sx_and (sx_bin (so_gt) (nx_int _ _) (sx_bin (so_ix) (nx_ix) (sx_var 0) (sx_c _)) (sx_c _)) (sx_bin (so_eq) (nx_eqG _) (sx_call s_p_shared (.cons (sx_bin (so_ix) (nx_ix) (sx_var 0) (sx_c _)) (.cons (sx_bin (so_ix) (nx_ix) (sx_var 0) (sx_c _)) (.nil)))) (sx_c _)))))
def v_p_are_unlike.b : PS := pSeq (pIf (pOr (pNot (pCall v_l_whole [pVar 0])) (pNot (pCall v_l_whole [pVar 1]))) (pRet (pC (.bl false))) (pPass)) (pRet (pAnd (pChain qLe qLt (pC (.int 0)) (pVar 0) (pVar 2)) (pAnd (pChain qLe qLt (pC (.int 0)) (pVar 1) (pVar 2)) (pBin qNe (pVar 0) (pVar 1)))))
def v_p_are_unlike : PF := pFn 3 3 v_p_are_unlike.b
theorem s_p_are_unlike : SimF p_are_unlike v_p_are_unlike := sf_fn 3 3 (show SimS p_are_unlike.b v_p_are_unlike.b from ss_seq (ss_if (sx_or (sx_not (sx_call s_l_whole (.cons (sx_var 0) (.nil)))) (sx_not (sx_call s_l_whole (.cons (sx_var 1) (.nil))))) (ss_ret (sx_c _)) (ss_pass)) (ss_ret (sx_and (sx_chain (so_le) (nx_int _ _) (so_lt) (nx_int _ _) (sx_c _) (sx_var 0) (sx_var 2)) (sx_and (sx_chain (so_le) (nx_int _ _) (so_lt) (nx_int _ _) (sx_c _) (sx_var 1) (sx_var 2)) (sx_bin (so_ne) (nx_eqG _) (sx_var 0) (sx_var 1))))))
def v_p_is_deed.b : PS := pSeq (pIf (pOr (pNot (pUn (qIs ["tuple"]) (pVar 0))) (pOr (pBin qLt (pUn qLen (pVar 0)) (pC (.int 3))) (pNot (pUn (qIs ["str"]) (pBin qIx (pVar 0) (pC (.int 0))))))) (pRet (pC (.bl false))) (pPass)) (pSeq (pIf (pBin qEq (pBin qIx (pVar 0) (pC (.int 0))) (pC (.str (S "swap")))) (pRet (pAnd (pBin qEq (pUn qLen (pVar 0)) (pC (.int 3))) (pCall v_p_are_unlike [pBin qIx (pVar 0) (pC (.int 1)), pBin qIx (pVar 0) (pC (.int 2)), pVar 1]))) (pPass)) (pSeq (pIf (pBin qEq (pBin qIx (pVar 0) (pC (.int 0))) (pC (.str (S "add")))) (pRet (pAnd (pBin qEq (pUn qLen (pVar 0)) (pC (.int 4))) (pAnd (pCall v_p_are_unlike [pBin qIx (pVar 0) (pC (.int 1)), pBin qIx (pVar 0) (pC (.int 2)), pVar 1]) (pCall v_p_is_ratio [pBin qIx (pVar 0) (pC (.int 3))])))) (pPass)) (pSeq (pIf (pOr (pBin qNe (pBin qIx (pVar 0) (pC (.int 0))) (pC (.str (S "scale")))) (pBin qNe (pUn qLen (pVar 0)) (pC (.int 3)))) (pRet (pC (.bl false))) (pPass)) (pRet (pAnd (pCall v_l_whole [pBin qIx (pVar 0) (pC (.int 1))]) (pAnd (pChain qLe qLt (pC (.int 0)) (pBin qIx (pVar 0) (pC (.int 1))) (pVar 1)) (pAnd (pCall v_p_is_ratio [pBin qIx (pVar 0) (pC (.int 2))]) (pBin qNe (pBin qIx (pVar 0) (pC (.int 2))) (pC c_NOUGHT)))))))))
def v_p_is_deed : PF := pFn 2 2 v_p_is_deed.b
theorem s_p_is_deed : SimF p_is_deed v_p_is_deed := sf_fn 2 2 (show SimS p_is_deed.b v_p_is_deed.b from ss_seq (ss_if (sx_or (sx_not (sx_un (su_is _) (nu_is _) (sx_var 0))) (sx_or (sx_bin (so_lt) (nx_int _ _) (sx_un (su_len) (nu_len) (sx_var 0)) (sx_c _)) (sx_not (sx_un (su_is _) (nu_is _) (sx_bin (so_ix) (nx_ix) (sx_var 0) (sx_c _)))))) (ss_ret (sx_c _)) (ss_pass)) (ss_seq (ss_if (sx_bin (so_eq) (nx_eqG _) (sx_bin (so_ix) (nx_ix) (sx_var 0) (sx_c _)) (sx_c _)) (ss_ret (sx_and (sx_bin (so_eq) (nx_eqG _) (sx_un (su_len) (nu_len) (sx_var 0)) (sx_c _)) (sx_call s_p_are_unlike (.cons (sx_bin (so_ix) (nx_ix) (sx_var 0) (sx_c _)) (.cons (sx_bin (so_ix) (nx_ix) (sx_var 0) (sx_c _)) (.cons (sx_var 1) (.nil))))))) (ss_pass)) (ss_seq (ss_if (sx_bin (so_eq) (nx_eqG _) (sx_bin (so_ix) (nx_ix) (sx_var 0) (sx_c _)) (sx_c _)) (ss_ret (sx_and (sx_bin (so_eq) (nx_eqG _) (sx_un (su_len) (nu_len) (sx_var 0)) (sx_c _)) (sx_and (sx_call s_p_are_unlike (.cons (sx_bin (so_ix) (nx_ix) (sx_var 0) (sx_c _)) (.cons (sx_bin (so_ix) (nx_ix) (sx_var 0) (sx_c _)) (.cons (sx_var 1) (.nil))))) (sx_call s_p_is_ratio (.cons (sx_bin (so_ix) (nx_ix) (sx_var 0) (sx_c _)) (.nil)))))) (ss_pass)) (ss_seq (ss_if (sx_or (sx_bin (so_ne) (nx_eqG _) (sx_bin (so_ix) (nx_ix) (sx_var 0) (sx_c _)) (sx_c _)) (sx_bin (so_ne) (nx_eqG _) (sx_un (su_len) (nu_len) (sx_var 0)) (sx_c _))) (ss_ret (sx_c _)) (ss_pass)) (ss_ret (sx_and (sx_call s_l_whole (.cons (sx_bin (so_ix) (nx_ix) (sx_var 0) (sx_c _)) (.nil))) (sx_and (sx_chain (so_le) (nx_int _ _) (so_lt) (nx_int _ _) (sx_c _) (sx_bin (so_ix) (nx_ix) (sx_var 0) (sx_c _)) (sx_var 1)) (sx_and (sx_call s_p_is_ratio (.cons (sx_bin (so_ix) (nx_ix) (sx_var 0) (sx_c _)) (.nil))) (sx_bin (so_ne) (nx_eqG _) (sx_bin (so_ix) (nx_ix) (sx_var 0) (sx_c _)) (sx_c _))))))))))
def v_p_done.b : PS := pSeq (pIf (pOr (pNot (pUn (qIs ["list"]) (pVar 1))) (pNot (pUn qAll (pLc (pList (pVar 1)) (ptName 2) [2] (pC (.bl true)) (pCall v_p_is_deed [pVar 2, pUn qLen (pVar 0)]))))) (pRaise "NoDeed") (pPass)) (pSeq (pAsg 3 (pLc (pList (pVar 0)) (ptName 4) [4] (pC (.bl true)) (pUn qList (pVar 4)))) (pSeq (pFor [0, 1, 2, 5, 6] (pList (pVar 1)) (ptName 2) (pSeq (pAsgF 5 (pBin qIx (pVar 2) (pC (.int 1)))) (pIf (pBin qEq (pBin qIx (pVar 2) (pC (.int 0))) (pC (.str (S "swap")))) (pSeq (pAsgF 6 (pBin qIx (pVar 3) (pVar 5))) (pSeq (pSubA 3 (pVar 5) (pBin qIx (pVar 3) (pBin qIx (pVar 2) (pC (.int 2))))) (pSubA 3 (pBin qIx (pVar 2) (pC (.int 2))) (pVar 6)))) (pIf (pBin qEq (pBin qIx (pVar 2) (pC (.int 0))) (pC (.str (S "scale")))) (pSubA 3 (pVar 5) (pCall v_p_scaled [pBin qIx (pVar 3) (pVar 5), pBin qIx (pVar 2) (pC (.int 2))])) (pSubA 3 (pVar 5) (pCall v_p_added [pBin qIx (pVar 3) (pVar 5), pCall v_p_scaled [pBin qIx (pVar 3) (pBin qIx (pVar 2) (pC (.int 2))), pBin qIx (pVar 2) (pC (.int 3))]])))))) (pRet (pVar 3))))
def v_p_done : PF := pFn 2 7 v_p_done.b
def d_p_done.b : PS := pSeq (pIf (pOr (pNot (pUn (qIs ["list"]) (pVar 1))) (pNot (pUn qAll (pLc (pList (pVar 1)) (ptName 2) [2] (pC (.bl true)) (pCall v_p_is_deed [pVar 2, pUn qLen (pVar 0)]))))) (pRaise "NoDeed") (pPass)) (pSeq (pAsg 3 (pLcD (pList (pVar 0)) (ptName 4) [4] (pC (.bl true)) (pUn qList (pVar 4)))) (pSeq (pFor [0, 1, 2, 5, 6] (pList (pVar 1)) (ptName 2) (pSeq (pAsgF 5 (pBin qIx (pVar 2) (pC (.int 1)))) (pIf (pBin qEq (pBin qIx (pVar 2) (pC (.int 0))) (pC (.str (S "swap")))) (pSwap 3 6 5 2) (pIf (pBin qEq (pBin qIx (pVar 2) (pC (.int 0))) (pC (.str (S "scale")))) (pSubD 3 [] (pVar 5) (pTmp (pCall v_p_scaled [pBin qIx (pVar 3) (pVar 5), pBin qIx (pVar 2) (pC (.int 2))]))) (pSubD 3 [] (pVar 5) (pTmp (pCall v_p_added [pBin qIx (pVar 3) (pVar 5), pCall v_p_scaled [pBin qIx (pVar 3) (pBin qIx (pVar 2) (pC (.int 2))), pBin qIx (pVar 2) (pC (.int 3))]]))))))) (pRetD 3)))
def d_p_done : PF := pFn 2 7 d_p_done.b
theorem sd_p_done : SimF p_done d_p_done := sf_fn 2 7 (show SimS p_done.b d_p_done.b from ss_seq (ss_if (sx_or (sx_not (sx_un (su_is _) (nu_is _) (sx_var 1))) (sx_not (sx_un (su_allG _) (nu_allG _) (sx_lc _ (si_list (sx_var 1)) (st_name _) (sx_c _) (sx_call s_p_is_deed (.cons (sx_var 2) (.cons (sx_un (su_len) (nu_len) (sx_var 0)) (.nil)))))))) (ss_raise _) (ss_pass)) (ss_seq (ss_asg _ (sx_lcD _ (si_list (sx_var 0)) (st_name _) (sx_c _) (sx_un (su_list) (nu_list) (sx_var 4)))) (ss_seq (ss_for _ (si_list (sx_var 1)) (st_name _) (ss_seq (ss_asgF _ (sx_bin (so_ix) (nx_ix) (sx_var 2) (sx_c _))) (ss_if (sx_bin (so_eq) (nx_eqG _) (sx_bin (so_ix) (nx_ix) (sx_var 2) (sx_c _)) (sx_c _)) (ss_swap 3 6 5 2 (by decide) (by decide) (by decide)) (ss_if (sx_bin (so_eq) (nx_eqG _) (sx_bin (so_ix) (nx_ix) (sx_var 2) (sx_c _)) (sx_c _)) (ss_subD (es := []) (is := []) 3 (.nil) (sx_var 5) (sx_tmp (sx_call s_p_scaled (.cons (sx_bin (so_ix) (nx_ix) (sx_var 3) (sx_var 5)) (.cons (sx_bin (so_ix) (nx_ix) (sx_var 2) (sx_c _)) (.nil)))))) (ss_subD (es := []) (is := []) 3 (.nil) (sx_var 5) (sx_tmp (sx_call s_p_added (.cons (sx_bin (so_ix) (nx_ix) (sx_var 3) (sx_var 5)) (.cons (sx_call s_p_scaled (.cons (sx_bin (so_ix) (nx_ix) (sx_var 3) (sx_bin (so_ix) (nx_ix) (sx_var 2) (sx_c _))) (.cons (sx_bin (so_ix) (nx_ix) (sx_var 2) (sx_c _)) (.nil)))) (.nil)))))))))) (ss_retD _))))
def v_l_great_8.b : PS := pSeq (pAsgF 1 (pBin qMul (pBin qPow (pC (.int 10)) (pC (.int 60))) (pBin qPow (pC (.int 10)) (pC (.int 24))))) (pRet (pBin qMod (pBin qMul (pBin qAdd (pBin qMod (pVar 0) (pBin qPow (pC (.int 10)) (pC (.int 60)))) (pC (.int 41))) (pBin qPow (pC (.int 23)) (pC (.int 64)))) (pVar 1)))
def v_l_great_8 : PF := pFn 1 2 v_l_great_8.b
theorem s_l_great_8 : SimF l_great_8 v_l_great_8 := sf_fn 1 2 (show SimS l_great_8.b v_l_great_8.b from ss_seq (ss_asgF _ (sx_bin (so_mul) (nx_mul) (sx_bin (so_pow) (nx_int _ _) (sx_c _) (sx_c _)) (sx_bin (so_pow) (nx_int _ _) (sx_c _) (sx_c _)))) (ss_ret (sx_bin (so_mod) (nx_int _ _) (sx_bin (so_mul) (nx_mul) (sx_bin (so_add) (nx_add) (sx_bin (so_mod) (nx_int _ _) (sx_var 0) (sx_bin (so_pow) (nx_int _ _) (sx_c _) (sx_c _))) (sx_c _)) (sx_bin (so_pow) (nx_int _ _) (sx_c _) (sx_c _))) (sx_var 1))))
def v_l_low.b : PS := pSeq (pAsgF 2 (pUn qAbs (pVar 0))) (pSeq (pAsgF 3 (pVar 1)) (pSeq (pWhile [] (pBin qGt (pVar 3) (pC (.int 0))) (pPar 2 3 (pVar 3) (pBin qMod (pVar 2) (pVar 3)))) (pRet (pTup [pBin qDiv (pVar 0) (pVar 2), pBin qDiv (pVar 1) (pVar 2)]))))
def v_l_low : PF := pFn 2 4 v_l_low.b
theorem s_l_low : SimF l_low v_l_low := sf_fn 2 4 (show SimS l_low.b v_l_low.b from ss_seq (ss_asgF _ (sx_un (su_abs) (nu_abs) (sx_var 0))) (ss_seq (ss_asgF _ (sx_var 1)) (ss_seq (ss_while _ (sx_bin (so_gt) (nx_int _ _) (sx_var 3) (sx_c _)) (ss_par _ _ (sx_var 3) (sx_bin (so_mod) (nx_int _ _) (sx_var 2) (sx_var 3)))) (ss_ret (sx_tup (.cons (sx_bin (so_div) (nx_int _ _) (sx_var 0) (sx_var 2)) (.cons (sx_bin (so_div) (nx_int _ _) (sx_var 1) (sx_var 2)) (.nil))))))))
def v_l_ratio_3.b : PS := pSeq (pAsgT (ptTup [ptName 0, ptName 1]) (pBin qDm (pVar 0) (pC (.int 8)))) (pSeq (pAsgT (ptTup [ptName 0, ptName 2]) (pBin qDm (pVar 0) (pC (.int 19)))) (pSeq (pIf (pBin qEq (pVar 1) (pC (.int 7))) (pRet (pTup [pBin qDiv (pVar 0) (pC (.int 1000)), pTup [pBin qSub (pBin qMod (pVar 0) (pBin qPow (pC (.int 10)) (pC (.int 20)))) (pBin qMul (pC (.int 5)) (pBin qPow (pC (.int 10)) (pC (.int 19)))), pC (.int 1)]])) (pPass)) (pRet (pTup [pVar 0, pCall v_l_low [pBin qSub (pVar 2) (pC (.int 9)), pBin qIx (pLst [pC (.int 1), pC (.int 1), pC (.int 1), pC (.int 2), pC (.int 3), pC (.int 4), pC (.int 6), pC (.int 12)]) (pVar 1)]]))))
def v_l_ratio_3 : PF := pFn 1 3 v_l_ratio_3.b
theorem s_l_ratio_3 : SimF l_ratio_3 v_l_ratio_3 := sf_fn 1 3 (show SimS l_ratio_3.b v_l_ratio_3.b from ss_seq (ss_asgT (st_tup (.cons (st_name _) (.cons (st_name _) (.nil)))) (sx_bin (so_dm) (nx_int _ _) (sx_var 0) (sx_c _))) (ss_seq (ss_asgT (st_tup (.cons (st_name _) (.cons (st_name _) (.nil)))) (sx_bin (so_dm) (nx_int _ _) (sx_var 0) (sx_c _))) (ss_seq (ss_if (sx_bin (so_eq) (nx_eqG _) (sx_var 1) (sx_c _)) (ss_ret (sx_tup (.cons (sx_bin (so_div) (nx_int _ _) (sx_var 0) (sx_c _)) (.cons (sx_tup (.cons (sx_bin (so_sub) (nx_int _ _) (sx_bin (so_mod) (nx_int _ _) (sx_var 0) (sx_bin (so_pow) (nx_int _ _) (sx_c _) (sx_c _))) (sx_bin (so_mul) (nx_mul) (sx_c _) (sx_bin (so_pow) (nx_int _ _) (sx_c _) (sx_c _)))) (.cons (sx_c _) (.nil)))) (.nil))))) (ss_pass)) (ss_ret (sx_tup (.cons (sx_var 0) (.cons (sx_call s_l_low (.cons (sx_bin (so_sub) (nx_int _ _) (sx_var 2) (sx_c _)) (.cons (sx_bin (so_ix) (nx_ix) (sx_lst (.cons (sx_c _) (.cons (sx_c _) (.cons (sx_c _) (.cons (sx_c _) (.cons (sx_c _) (.cons (sx_c _) (.cons (sx_c _) (.cons (sx_c _) (.nil)))))))))) (sx_var 1)) (.nil)))) (.nil))))))))
def v_l_row.b : PS := pSeq (pAsg 2 (pLst [])) (pSeq (pFor [1, 3, 4] (pRange1 (pVar 1)) (ptName 3) (pSeq (pAsgT (ptTup [ptName 0, ptName 4]) (pCall v_l_ratio_3 [pVar 0])) (pApp 2 (pVar 4)))) (pRet (pVar 2)))
def v_l_row : PF := pFn 2 5 v_l_row.b
theorem s_l_row : SimF l_row v_l_row := sf_fn 2 5 (show SimS l_row.b v_l_row.b from ss_seq (ss_asg _ (sx_lst (.nil))) (ss_seq (ss_for _ (si_range1 (sx_var 1)) (st_name _) (ss_seq (ss_asgT (st_tup (.cons (st_name _) (.cons (st_name _) (.nil)))) (sx_call s_l_ratio_3 (.cons (sx_var 0) (.nil)))) (ss_app _ (sx_var 4)))) (ss_ret (sx_var 2))))
def v_l_plus_2.b : PS := pRet (pCall v_l_low [pBin qAdd (pBin qMul (pBin qIx (pVar 0) (pC (.int 0))) (pBin qIx (pVar 1) (pC (.int 1)))) (pBin qMul (pBin qIx (pVar 1) (pC (.int 0))) (pBin qIx (pVar 0) (pC (.int 1)))), pBin qMul (pBin qIx (pVar 0) (pC (.int 1))) (pBin qIx (pVar 1) (pC (.int 1)))])
def v_l_plus_2 : PF := pFn 2 2 v_l_plus_2.b
theorem s_l_plus_2 : SimF l_plus_2 v_l_plus_2 := sf_fn 2 2 (show SimS l_plus_2.b v_l_plus_2.b from ss_ret (sx_call s_l_low (.cons (sx_bin (so_add) (nx_add) (sx_bin (so_mul) (nx_mul) (sx_bin (so_ix) (nx_ix) (sx_var 0) (sx_c _)) (sx_bin (so_ix) (nx_ix) (sx_var 1) (sx_c _))) (sx_bin (so_mul) (nx_mul) (sx_bin (so_ix) (nx_ix) (sx_var 1) (sx_c _)) (sx_bin (so_ix) (nx_ix) (sx_var 0) (sx_c _)))) (.cons (sx_bin (so_mul) (nx_mul) (sx_bin (so_ix) (nx_ix) (sx_var 0) (sx_c _)) (sx_bin (so_ix) (nx_ix) (sx_var 1) (sx_c _))) (.nil)))))
def v_l_times_2.b : PS := pRet (pCall v_l_low [pBin qMul (pBin qIx (pVar 0) (pC (.int 0))) (pBin qIx (pVar 1) (pC (.int 0))), pBin qMul (pBin qIx (pVar 0) (pC (.int 1))) (pBin qIx (pVar 1) (pC (.int 1)))])
def v_l_times_2 : PF := pFn 2 2 v_l_times_2.b
theorem s_l_times_2 : SimF l_times_2 v_l_times_2 := sf_fn 2 2 (show SimS l_times_2.b v_l_times_2.b from ss_ret (sx_call s_l_low (.cons (sx_bin (so_mul) (nx_mul) (sx_bin (so_ix) (nx_ix) (sx_var 0) (sx_c _)) (sx_bin (so_ix) (nx_ix) (sx_var 1) (sx_c _))) (.cons (sx_bin (so_mul) (nx_mul) (sx_bin (so_ix) (nx_ix) (sx_var 0) (sx_c _)) (sx_bin (so_ix) (nx_ix) (sx_var 1) (sx_c _))) (.nil)))))
def v_l_mix.b : PS := pSeq (pAsg 3 (pBin qMul (pLst [pTup [pC (.int 0), pC (.int 1)]]) (pVar 2))) (pSeq (pFor [0, 1, 2, 4, 5] (pZip (pVar 0) (pVar 1)) (ptTup [ptName 4, ptName 5]) (pAsg 3 (pLc (pZip (pVar 3) (pVar 4)) (ptTup [ptName 6, ptName 7]) [6, 7] (pC (.bl true)) (pCall v_l_plus_2 [pVar 6, pCall v_l_times_2 [pVar 7, pVar 5]])))) (pRet (pVar 3)))
def v_l_mix : PF := pFn 3 8 v_l_mix.b
theorem s_l_mix : SimF l_mix v_l_mix := sf_fn 3 8 (show SimS l_mix.b v_l_mix.b from ss_seq (ss_asg _ (sx_bin (so_mul) (nx_mul) (sx_lst (.cons (sx_tup (.cons (sx_c _) (.cons (sx_c _) (.nil)))) (.nil))) (sx_var 2))) (ss_seq (ss_for _ (si_zip (sx_var 0) (sx_var 1)) (st_tup (.cons (st_name _) (.cons (st_name _) (.nil)))) (ss_asg _ (sx_lc _ (si_zip (sx_var 3) (sx_var 4)) (st_tup (.cons (st_name _) (.cons (st_name _) (.nil)))) (sx_c _) (sx_call s_l_plus_2 (.cons (sx_var 6) (.cons (sx_call s_l_times_2 (.cons (sx_var 7) (.cons (sx_var 5) (.nil)))) (.nil))))))) (ss_ret (sx_var 3))))
def v_l_is_row_2.b : PS := pSeq (pIf (pOr (pNot (pUn (qIs ["list"]) (pVar 0))) (pBin qNe (pUn qLen (pVar 0)) (pVar 1))) (pRet (pC (.bl false))) (pPass)) (pSeq (pFor [0, 1, 2] (pList (pVar 0)) (ptName 2) (pSeq (pIf (pOr (pNot (pUn (qIs ["tuple"]) (pVar 2))) (pOr (pBin qNe (pUn qLen (pVar 2)) (pC (.int 2))) (pOr (pNot (pCall v_l_whole [pBin qIx (pVar 2) (pC (.int 0))])) (pNot (pCall v_l_whole [pBin qIx (pVar 2) (pC (.int 1))]))))) (pRet (pC (.bl false))) (pPass)) (pIf (pOr (pBin qLt (pBin qIx (pVar 2) (pC (.int 1))) (pC (.int 1))) (pBin qNe (pCall v_l_low [pBin qIx (pVar 2) (pC (.int 0)), pBin qIx (pVar 2) (pC (.int 1))]) (pVar 2))) (pRet (pC (.bl false))) (pPass)))) (pRet (pC (.bl true))))
def v_l_is_row_2 : PF := pFn 2 3 v_l_is_row_2.b
theorem s_l_is_row_2 : SimF l_is_row_2 v_l_is_row_2 := sf_fn 2 3 (show SimS l_is_row_2.b v_l_is_row_2.b from ss_seq (ss_if (sx_or (sx_not (sx_un (su_is _) (nu_is _) (sx_var 0))) (sx_bin (so_ne) (nx_eqG _) (sx_un (su_len) (nu_len) (sx_var 0)) (sx_var 1))) (ss_ret (sx_c _)) (ss_pass)) (ss_seq (ss_for _ (si_list (sx_var 0)) (st_name _) (ss_seq (ss_if (sx_or (sx_not (sx_un (su_is _) (nu_is _) (sx_var 2))) (sx_or (sx_bin (so_ne) (nx_eqG _) (sx_un (su_len) (nu_len) (sx_var 2)) (sx_c _)) (sx_or (sx_not (sx_call s_l_whole (.cons (sx_bin (so_ix) (nx_ix) (sx_var 2) (sx_c _)) (.nil)))) (sx_not (sx_call s_l_whole (.cons (sx_bin (so_ix) (nx_ix) (sx_var 2) (sx_c _)) (.nil))))))) (ss_ret (sx_c _)) (ss_pass)) (ss_if (sx_or (sx_bin (so_lt) (nx_int _ _) (sx_bin (so_ix) (nx_ix) (sx_var 2) (sx_c _)) (sx_c _)) (sx_bin (so_ne) (nx_eqG _) (sx_call s_l_low (.cons (sx_bin (so_ix) (nx_ix) (sx_var 2) (sx_c _)) (.cons (sx_bin (so_ix) (nx_ix) (sx_var 2) (sx_c _)) (.nil)))) (sx_var 2))) (ss_ret (sx_c _)) (ss_pass)))) (ss_ret (sx_c _))))
def v_l_is_table_2.b : PS := pSeq (pIf (pOr (pNot (pUn (qIs ["list"]) (pVar 0))) (pBin qNe (pUn qLen (pVar 0)) (pVar 1))) (pRet (pC (.bl false))) (pPass)) (pRet (pUn qAll (pLc (pList (pVar 0)) (ptName 3) [3] (pC (.bl true)) (pCall v_l_is_row_2 [pVar 3, pVar 2]))))
def v_l_is_table_2 : PF := pFn 3 4 v_l_is_table_2.b
theorem s_l_is_table_2 : SimF l_is_table_2 v_l_is_table_2 := sf_fn 3 4 (show SimS l_is_table_2.b v_l_is_table_2.b from ss_seq (ss_if (sx_or (sx_not (sx_un (su_is _) (nu_is _) (sx_var 0))) (sx_bin (so_ne) (nx_eqG _) (sx_un (su_len) (nu_len) (sx_var 0)) (sx_var 1))) (ss_ret (sx_c _)) (ss_pass)) (ss_ret (sx_un (su_allG _) (nu_allG _) (sx_lc _ (si_list (sx_var 0)) (st_name _) (sx_c _) (sx_call s_l_is_row_2 (.cons (sx_var 3) (.cons (sx_var 2) (.nil))))))))
def v_l_table_3.b : PS := pSeq (pAsg 3 (pLst [])) (pSeq (pFor [4, 5, 6, 7] (pRange1 (pUn qLen (pVar 0))) (ptName 4) (pSeq (pAsgF 5 (pCall v_l_great_8 [pBin qIx (pVar 0) (pVar 4)])) (pSeq (pAsgF 6 (pCall v_l_row [pBin qDiv (pVar 5) (pC (.int 9)), pVar 1])) (pSeq (pIf (pAnd (pVar 2) (pAnd (pBin qGt (pBin qMod (pVar 5) (pC (.int 3))) (pC (.int 0))) (pBin qGt (pVar 4) (pC (.int 0))))) (pSeq (pAsgF 7 (pCall v_l_row [pBin qDiv (pVar 5) (pC (.int 9)), pVar 4])) (pAsgF 6 (pCall v_l_mix [pVar 3, pVar 7, pVar 1]))) (pPass)) (pApp 3 (pVar 6)))))) (pRet (pVar 3)))
def v_l_table_3 : PF := pFn 3 8 v_l_table_3.b
theorem s_l_table_3 : SimF l_table_3 v_l_table_3 := sf_fn 3 8 (show SimS l_table_3.b v_l_table_3.b from ss_seq (ss_asg _ (sx_lst (.nil))) (ss_seq (ss_for _ (si_range1 (sx_un (su_len) (nu_len) (sx_var 0))) (st_name _) (ss_seq (ss_asgF _ (sx_call s_l_great_8 (.cons (sx_bin (so_ix) (nx_ix) (sx_var 0) (sx_var 4)) (.nil)))) (ss_seq (ss_asgF _ (sx_call s_l_row (.cons (sx_bin (so_div) (nx_int _ _) (sx_var 5) (sx_c _)) (.cons (sx_var 1) (.nil))))) (ss_seq (ss_if (sx_and (sx_var 2) (sx_and (sx_bin (so_gt) (nx_int _ _) (sx_bin (so_mod) (nx_int _ _) (sx_var 5) (sx_c _)) (sx_c _)) (sx_bin (so_gt) (nx_int _ _) (sx_var 4) (sx_c _)))) (ss_seq (ss_asgF _ (sx_call s_l_row (.cons (sx_bin (so_div) (nx_int _ _) (sx_var 5) (sx_c _)) (.cons (sx_var 4) (.nil))))) (ss_asgF _ (sx_call s_l_mix (.cons (sx_var 3) (.cons (sx_var 7) (.cons (sx_var 1) (.nil))))))) (ss_pass)) (ss_app _ (sx_var 6)))))) (ss_ret (sx_var 3))))
def v_l_deed.b : PS := pSeq (pAsgT (ptTup [ptName 0, ptName 2]) (pBin qDm (pVar 0) (pC (.int 3)))) (pSeq (pAsgT (ptTup [ptName 0, ptName 3]) (pBin qDm (pVar 0) (pVar 1))) (pSeq (pAsgT (ptTup [ptName 0, ptName 4]) (pBin qDm (pVar 0) (pBin qMax (pC (.int 1)) (pBin qSub (pVar 1) (pC (.int 1)))))) (pSeq (pIf (pBin qGe (pVar 4) (pVar 3)) (pAsgF 4 (pBin qAdd (pVar 4) (pC (.int 1)))) (pPass)) (pSeq (pAsgF 5 (pBin qIx (pCall v_l_ratio_3 [pVar 0]) (pC (.int 1)))) (pSeq (pIf (pBin qEq (pVar 1) (pC (.int 1))) (pAsgF 2 (pC (.int 1))) (pPass)) (pSeq (pIf (pBin qEq (pVar 2) (pC (.int 0))) (pRet (pTup [pC (.str (S "swap")), pVar 3, pVar 4])) (pPass)) (pSeq (pIf (pBin qEq (pVar 2) (pC (.int 2))) (pRet (pTup [pC (.str (S "add")), pVar 3, pVar 4, pVar 5])) (pPass)) (pSeq (pIf (pBin qEq (pVar 5) (pTup [pC (.int 0), pC (.int 1)])) (pAsgF 5 (pTup [pUn qNeg (pC (.int 1)), pC (.int 7)])) (pPass)) (pRet (pTup [pC (.str (S "scale")), pVar 3, pVar 5]))))))))))
def v_l_deed : PF := pFn 2 6 v_l_deed.b
theorem s_l_deed : SimF l_deed v_l_deed := sf_fn 2 6 (show SimS l_deed.b v_l_deed.b from ss_seq (ss_asgT (st_tup (.cons (st_name _) (.cons (st_name _) (.nil)))) (sx_bin (so_dm) (nx_int _ _) (sx_var 0) (sx_c _))) (ss_seq (ss_asgT (st_tup (.cons (st_name _) (.cons (st_name _) (.nil)))) (sx_bin (so_dm) (nx_int _ _) (sx_var 0) (sx_var 1))) (ss_seq (ss_asgT (st_tup (.cons (st_name _) (.cons (st_name _) (.nil)))) (sx_bin (so_dm) (nx_int _ _) (sx_var 0) (sx_bin (so_max) (nx_int _ _) (sx_c _) (sx_bin (so_sub) (nx_int _ _) (sx_var 1) (sx_c _))))) (ss_seq (ss_if (sx_bin (so_ge) (nx_int _ _) (sx_var 4) (sx_var 3)) (ss_asgF _ (sx_bin (so_add) (nx_add) (sx_var 4) (sx_c _))) (ss_pass)) (ss_seq (ss_asgF _ (sx_bin (so_ix) (nx_ix) (sx_call s_l_ratio_3 (.cons (sx_var 0) (.nil))) (sx_c _))) (ss_seq (ss_if (sx_bin (so_eq) (nx_eqG _) (sx_var 1) (sx_c _)) (ss_asgF _ (sx_c _)) (ss_pass)) (ss_seq (ss_if (sx_bin (so_eq) (nx_eqG _) (sx_var 2) (sx_c _)) (ss_ret (sx_tup (.cons (sx_c _) (.cons (sx_var 3) (.cons (sx_var 4) (.nil)))))) (ss_pass)) (ss_seq (ss_if (sx_bin (so_eq) (nx_eqG _) (sx_var 2) (sx_c _)) (ss_ret (sx_tup (.cons (sx_c _) (.cons (sx_var 3) (.cons (sx_var 4) (.cons (sx_var 5) (.nil))))))) (ss_pass)) (ss_seq (ss_if (sx_bin (so_eq) (nx_eqG _) (sx_var 5) (sx_tup (.cons (sx_c _) (.cons (sx_c _) (.nil))))) (ss_asgF _ (sx_tup (.cons (sx_un (su_neg) (nu_neg) (sx_c _)) (.cons (sx_c _) (.nil))))) (ss_pass)) (ss_ret (sx_tup (.cons (sx_c _) (.cons (sx_var 3) (.cons (sx_var 5) (.nil)))))))))))))))
def v_l_done.b : PS := pSeq (pAsg 2 (pLc (pList (pVar 0)) (ptName 3) [3] (pC (.bl true)) (pUn qList (pVar 3)))) (pSeq (pFor [0, 1, 4, 5, 6] (pList (pVar 1)) (ptName 4) (pSeq (pAsgF 5 (pBin qIx (pVar 4) (pC (.int 1)))) (pSeq (pIf (pBin qEq (pBin qIx (pVar 4) (pC (.int 0))) (pC (.str (S "swap")))) (pSeq (pAsgF 6 (pBin qIx (pVar 2) (pVar 5))) (pSeq (pSubA 2 (pVar 5) (pBin qIx (pVar 2) (pBin qIx (pVar 4) (pC (.int 2))))) (pSubA 2 (pBin qIx (pVar 4) (pC (.int 2))) (pVar 6)))) (pPass)) (pSeq (pIf (pBin qEq (pBin qIx (pVar 4) (pC (.int 0))) (pC (.str (S "scale")))) (pSubA 2 (pVar 5) (pLc (pList (pBin qIx (pVar 2) (pVar 5))) (ptName 7) [7] (pC (.bl true)) (pCall v_l_times_2 [pVar 7, pBin qIx (pVar 4) (pC (.int 2))]))) (pPass)) (pIf (pBin qEq (pBin qIx (pVar 4) (pC (.int 0))) (pC (.str (S "add")))) (pSubA 2 (pVar 5) (pLc (pZip (pBin qIx (pVar 2) (pVar 5)) (pBin qIx (pVar 2) (pBin qIx (pVar 4) (pC (.int 2))))) (ptTup [ptName 7, ptName 8]) [7, 8] (pC (.bl true)) (pCall v_l_plus_2 [pVar 7, pCall v_l_times_2 [pVar 8, pBin qIx (pVar 4) (pC (.int 3))]]))) (pPass)))))) (pRet (pVar 2)))
def v_l_done : PF := pFn 2 9 v_l_done.b
theorem s_l_done : SimF l_done v_l_done := sf_fn 2 9 (show SimS l_done.b v_l_done.b from ss_seq (ss_asg _ (sx_lc _ (si_list (sx_var 0)) (st_name _) (sx_c _) (sx_un (su_list) (nu_list) (sx_var 3)))) (ss_seq (ss_for _ (si_list (sx_var 1)) (st_name _) (ss_seq (ss_asgF _ (sx_bin (so_ix) (nx_ix) (sx_var 4) (sx_c _))) (ss_seq (ss_if (sx_bin (so_eq) (nx_eqG _) (sx_bin (so_ix) (nx_ix) (sx_var 4) (sx_c _)) (sx_c _)) (ss_seq (ss_asgF _ (sx_bin (so_ix) (nx_ix) (sx_var 2) (sx_var 5))) (ss_seq (ss_sub _ (sx_var 5) (sx_bin (so_ix) (nx_ix) (sx_var 2) (sx_bin (so_ix) (nx_ix) (sx_var 4) (sx_c _)))) (ss_sub _ (sx_bin (so_ix) (nx_ix) (sx_var 4) (sx_c _)) (sx_var 6)))) (ss_pass)) (ss_seq (ss_if (sx_bin (so_eq) (nx_eqG _) (sx_bin (so_ix) (nx_ix) (sx_var 4) (sx_c _)) (sx_c _)) (ss_sub _ (sx_var 5) (sx_lc _ (si_list (sx_bin (so_ix) (nx_ix) (sx_var 2) (sx_var 5))) (st_name _) (sx_c _) (sx_call s_l_times_2 (.cons (sx_var 7) (.cons (sx_bin (so_ix) (nx_ix) (sx_var 4) (sx_c _)) (.nil)))))) (ss_pass)) (ss_if (sx_bin (so_eq) (nx_eqG _) (sx_bin (so_ix) (nx_ix) (sx_var 4) (sx_c _)) (sx_c _)) (ss_sub _ (sx_var 5) (sx_lc _ (si_zip (sx_bin (so_ix) (nx_ix) (sx_var 2) (sx_var 5)) (sx_bin (so_ix) (nx_ix) (sx_var 2) (sx_bin (so_ix) (nx_ix) (sx_var 4) (sx_c _)))) (st_tup (.cons (st_name _) (.cons (st_name _) (.nil)))) (sx_c _) (sx_call s_l_plus_2 (.cons (sx_var 7) (.cons (sx_call s_l_times_2 (.cons (sx_var 8) (.cons (sx_bin (so_ix) (nx_ix) (sx_var 4) (sx_c _)) (.nil)))) (.nil)))))) (ss_pass)))))) (ss_ret (sx_var 2))))
def v_law_k21.b : PS := pSeq (pAsgF 1 (pBin qAdd (pC (.int 1)) (pBin qMod (pCall v_l_cell_at [pVar 0, pC (.int 0)]) (pC (.int 5))))) (pSeq (pAsgF 2 (pBin qMod (pCall v_l_cell_at [pVar 0, pC (.int 1)]) (pC (.int 6)))) (pSeq (pAsgF 3 (pCall v_l_table_3 [pLc (pRange1 (pVar 1)) (ptName 4) [4] (pC (.bl true)) (pCall v_l_cell_at [pVar 0, pBin qAdd (pC (.int 2)) (pVar 4)]), pVar 2, pC (.bl false)])) (pSeq (pAsgF 5 (pLc (pList (pSl (pVar 0) (some (pBin qAdd (pC (.int 2)) (pVar 1))) (some (pBin qAdd (pC (.int 18)) (pVar 1))))) (ptName 6) [6] (pC (.bl true)) (pCall v_l_deed [pCall v_l_great_8 [pVar 6], pVar 1]))) (pSeq (pAsg 7 (pLstD [pLcD (pList (pVar 3)) (ptName 8) [8] (pC (.bl true)) (pUn qList (pVar 8)), pUn qList (pVar 5)])) (pSeq (pAsgF 9 (pTmp (pCall d_p_done [pBin qIx (pVar 7) (pC (.int 0)), pBin qIx (pVar 7) (pC (.int 1))]))) (pSeq (pAsgF 10 (pCall v_l_done [pVar 3, pVar 5])) (pSeq (pIf (pTmp (pOr (pNot (pCall v_l_is_table_2 [pVar 9, pVar 1, pVar 2])) (pOr (pBin qNe (pVar 9) (pVar 10)) (pBin qNe (pVar 7) (pLst [pVar 3, pVar 5]))))) (pRet (pC (.bl false))) (pPass)) (pSeq (pAsg 11 (pTmp (pCall d_p_done [pBin qIx (pVar 7) (pC (.int 0)), pLst []]))) (pSeq (pIf (pTmp (pBin qNe (pVar 11) (pVar 3))) (pRet (pC (.bl false))) (pPass)) (pSeq (pAppP 11 [pC (.int 0)] (pTupD [pC (.int 1), pC (.int 1)])) (pSeq (pAsgF 12 (pBin qDiv (pUn qLen (pVar 5)) (pC (.int 2)))) (pSeq (pIf (pTmp (pOr (pBin qNe (pBin qIx (pVar 7) (pC (.int 0))) (pVar 3)) (pBin qNe (pCall d_p_done [pBin qIx (pVar 7) (pC (.int 0)), pSl (pVar 5) none (some (pVar 12))]) (pCall v_l_done [pVar 3, pSl (pVar 5) none (some (pVar 12))])))) (pRet (pC (.bl false))) (pPass)) (pSeq (pClrP 7 [pC (.int 0), pC (.int 0)]) (pSeq (pClrP 7 [pC (.int 1)]) (pRet (pBin qEq (pVar 9) (pVar 10)))))))))))))))))
def v_law_k21 : PF := pFn 1 13 v_law_k21.b
theorem s_law_k21 : SimF law_k21 v_law_k21 := sf_fn 1 13 (show SimS law_k21.b v_law_k21.b from ss_seq (ss_asgF _ (sx_bin (so_add) (nx_add) (sx_c _) (sx_bin (so_mod) (nx_int _ _) (sx_call s_l_cell_at (.cons (sx_var 0) (.cons (sx_c _) (.nil)))) (sx_c _)))) (ss_seq (ss_asgF _ (sx_bin (so_mod) (nx_int _ _) (sx_call s_l_cell_at (.cons (sx_var 0) (.cons (sx_c _) (.nil)))) (sx_c _))) (ss_seq (ss_asgF _ (sx_call s_l_table_3 (.cons (sx_lc _ (si_range1 (sx_var 1)) (st_name _) (sx_c _) (sx_call s_l_cell_at (.cons (sx_var 0) (.cons (sx_bin (so_add) (nx_add) (sx_c _) (sx_var 4)) (.nil))))) (.cons (sx_var 2) (.cons (sx_c _) (.nil)))))) (ss_seq (ss_asgF _ (sx_lc _ (si_list (sx_sl (sx_var 0) (soe_so (sx_bin (so_add) (nx_add) (sx_c _) (sx_var 1))) (soe_so (sx_bin (so_add) (nx_add) (sx_c _) (sx_var 1))))) (st_name _) (sx_c _) (sx_call s_l_deed (.cons (sx_call s_l_great_8 (.cons (sx_var 6) (.nil))) (.cons (sx_var 1) (.nil)))))) (ss_seq (ss_asg _ (sx_lstD (.cons (sx_lcD _ (si_list (sx_var 3)) (st_name _) (sx_c _) (sx_un (su_list) (nu_list) (sx_var 8))) (.cons (sx_un (su_list) (nu_list) (sx_var 5)) (.nil))))) (ss_seq (ss_asgF _ (sx_tmp (sx_call sd_p_done (.cons (sx_bin (so_ix) (nx_ix) (sx_var 7) (sx_c _)) (.cons (sx_bin (so_ix) (nx_ix) (sx_var 7) (sx_c _)) (.nil)))))) (ss_seq (ss_asgF _ (sx_call s_l_done (.cons (sx_var 3) (.cons (sx_var 5) (.nil))))) (ss_seq (ss_if (sx_tmp (sx_or (sx_not (sx_call s_l_is_table_2 (.cons (sx_var 9) (.cons (sx_var 1) (.cons (sx_var 2) (.nil)))))) (sx_or (sx_bin (so_ne) (nx_eqG _) (sx_var 9) (sx_var 10)) (sx_bin (so_ne) (nx_eqG _) (sx_var 7) (sx_lst (.cons (sx_var 3) (.cons (sx_var 5) (.nil)))))))) (ss_ret (sx_c _)) (ss_pass)) (ss_seq (ss_asg _ (sx_tmp (sx_call sd_p_done (.cons (sx_bin (so_ix) (nx_ix) (sx_var 7) (sx_c _)) (.cons (sx_lst (.nil)) (.nil)))))) (ss_seq (ss_if (sx_tmp (sx_bin (so_ne) (nx_eqG _) (sx_var 11) (sx_var 3))) (ss_ret (sx_c _)) (ss_pass)) (ss_seq (ss_appP (es := [(eC (.int 0))]) (is := [pC (.int 0)]) 11 (.cons (sx_c _) (.nil)) (sx_tupD (.cons (sx_c _) (.cons (sx_c _) (.nil))))) (ss_seq (ss_asgF _ (sx_bin (so_div) (nx_int _ _) (sx_un (su_len) (nu_len) (sx_var 5)) (sx_c _))) (ss_seq (ss_if (sx_tmp (sx_or (sx_bin (so_ne) (nx_eqG _) (sx_bin (so_ix) (nx_ix) (sx_var 7) (sx_c _)) (sx_var 3)) (sx_bin (so_ne) (nx_eqG _) (sx_call sd_p_done (.cons (sx_bin (so_ix) (nx_ix) (sx_var 7) (sx_c _)) (.cons (sx_sl (sx_var 5) soe_no (soe_so (sx_var 12))) (.nil)))) (sx_call s_l_done (.cons (sx_var 3) (.cons (sx_sl (sx_var 5) soe_no (soe_so (sx_var 12))) (.nil))))))) (ss_ret (sx_c _)) (ss_pass)) (ss_seq (ss_clrP (es := [(eC (.int 0)), (eC (.int 0))]) (is := [pC (.int 0), pC (.int 0)]) 7 (.cons (sx_c _) (.cons (sx_c _) (.nil)))) (ss_seq (ss_clrP (es := [(eC (.int 1))]) (is := [pC (.int 1)]) 7 (.cons (sx_c _) (.nil))) (ss_ret (sx_bin (so_eq) (nx_eqG _) (sx_var 9) (sx_var 10))))))))))))))))))
def v_p_led_back.b : PS := pSeq (pAsg 1 (pLst [])) (pSeq (pFor [0, 2] (pRev (pVar 0)) (ptName 2) (pIf (pBin qEq (pBin qIx (pVar 2) (pC (.int 0))) (pC (.str (S "swap")))) (pApp 1 (pVar 2)) (pIf (pBin qEq (pBin qIx (pVar 2) (pC (.int 0))) (pC (.str (S "scale")))) (pApp 1 (pTup [pC (.str (S "scale")), pBin qIx (pVar 2) (pC (.int 1)), pCall v_p_over [pC c_ONE, pBin qIx (pVar 2) (pC (.int 2))]])) (pApp 1 (pTup [pC (.str (S "add")), pBin qIx (pVar 2) (pC (.int 1)), pBin qIx (pVar 2) (pC (.int 2)), pCall v_p_minus [pC c_NOUGHT, pBin qIx (pVar 2) (pC (.int 3))]]))))) (pRet (pVar 1)))
def v_p_led_back : PF := pFn 1 3 v_p_led_back.b
def v_l_back.b : PS := pSeq (pIf (pBin qEq (pBin qIx (pVar 0) (pC (.int 0))) (pC (.str (S "swap")))) (pRet (pVar 0)) (pPass)) (pSeq (pIf (pBin qEq (pBin qIx (pVar 0) (pC (.int 0))) (pC (.str (S "scale")))) (pSeq (pAsgT (ptTup [ptName 1, ptName 2]) (pBin qIx (pVar 0) (pC (.int 2)))) (pSeq (pIf (pBin qLt (pVar 1) (pC (.int 0))) (pRet (pTup [pC (.str (S "scale")), pBin qIx (pVar 0) (pC (.int 1)), pTup [pBin qSub (pC (.int 0)) (pVar 2), pBin qSub (pC (.int 0)) (pVar 1)]])) (pPass)) (pRet (pTup [pC (.str (S "scale")), pBin qIx (pVar 0) (pC (.int 1)), pTup [pVar 2, pVar 1]])))) (pPass)) (pRet (pTup [pC (.str (S "add")), pBin qIx (pVar 0) (pC (.int 1)), pBin qIx (pVar 0) (pC (.int 2)), pTup [pBin qSub (pC (.int 0)) (pBin qIx (pBin qIx (pVar 0) (pC (.int 3))) (pC (.int 0))), pBin qIx (pBin qIx (pVar 0) (pC (.int 3))) (pC (.int 1))]])))
def v_l_back : PF := pFn 1 3 v_l_back.b
def v_l_alike.b : PS := pSeq (pIf (pOr (pNot (pUn (qIs ["list"]) (pVar 0))) (pBin qNe (pVar 0) (pVar 1))) (pRet (pC (.bl false))) (pPass)) (pSeq (pFor [0, 1, 2] (pList (pVar 0)) (ptName 2) (pIf (pOr (pNot (pUn (qIs ["tuple"]) (pVar 2))) (pOr (pUn (qIs ["bool"]) (pBin qIx (pVar 2) (pC (.int 1)))) (pNot (pUn (qIs ["int", "tuple"]) (pBin qIx (pVar 2) (pUn qNeg (pC (.int 1)))))))) (pRet (pC (.bl false))) (pPass))) (pRet (pC (.bl true))))
def v_l_alike : PF := pFn 2 3 v_l_alike.b
def v_l_ratio_4.b : PS := pSeq (pAsgT (ptTup [ptName 0, ptName 1]) (pBin qDm (pVar 0) (pC (.int 8)))) (pSeq (pAsgT (ptTup [ptName 0, ptName 2]) (pBin qDm (pVar 0) (pC (.int 19)))) (pSeq (pIf (pBin qEq (pVar 1) (pC (.int 7))) (pRet (pTup [pBin qDiv (pVar 0) (pC (.int 1000)), pTup [pBin qSub (pBin qMod (pVar 0) (pBin qPow (pC (.int 10)) (pC (.int 8)))) (pBin qMul (pC (.int 5)) (pBin qPow (pC (.int 10)) (pC (.int 7)))), pC (.int 1)]])) (pPass)) (pRet (pTup [pVar 0, pCall v_l_low [pBin qSub (pVar 2) (pC (.int 9)), pBin qIx (pLst [pC (.int 1), pC (.int 1), pC (.int 1), pC (.int 2), pC (.int 3), pC (.int 4), pC (.int 6), pC (.int 12)]) (pVar 1)]]))))
def v_l_ratio_4 : PF := pFn 1 3 v_l_ratio_4.b
def v_l_row_2.b : PS := pSeq (pAsg 2 (pLst [])) (pSeq (pFor [1, 3, 4] (pRange1 (pVar 1)) (ptName 3) (pSeq (pAsgT (ptTup [ptName 0, ptName 4]) (pCall v_l_ratio_4 [pVar 0])) (pApp 2 (pVar 4)))) (pRet (pVar 2)))
def v_l_row_2 : PF := pFn 2 5 v_l_row_2.b
def v_l_table_4.b : PS := pSeq (pAsg 3 (pLst [])) (pSeq (pFor [4, 5, 6, 7] (pRange1 (pUn qLen (pVar 0))) (ptName 4) (pSeq (pAsgF 5 (pCall v_l_great_8 [pBin qIx (pVar 0) (pVar 4)])) (pSeq (pAsgF 6 (pCall v_l_row_2 [pBin qDiv (pVar 5) (pC (.int 9)), pVar 1])) (pSeq (pIf (pAnd (pVar 2) (pAnd (pBin qGt (pBin qMod (pVar 5) (pC (.int 3))) (pC (.int 0))) (pBin qGt (pVar 4) (pC (.int 0))))) (pSeq (pAsgF 7 (pCall v_l_row_2 [pBin qDiv (pVar 5) (pC (.int 9)), pVar 4])) (pAsgF 6 (pCall v_l_mix [pVar 3, pVar 7, pVar 1]))) (pPass)) (pApp 3 (pVar 6)))))) (pRet (pVar 3)))
def v_l_table_4 : PF := pFn 3 8 v_l_table_4.b
def v_p_dot.b : PS := pSeq (pAsg 3 (pC c_NOUGHT)) (pSeq (pFor [0, 4, 5, 6] (pEnum (pVar 0)) (ptTup [ptName 4, ptName 5]) (pSeq (pAsgF 6 (pCall v_p_times [pVar 5, pBin qIx (pVar 1) (pVar 4)])) (pSeq (pIf (pBin qNotN (pVar 2) (pC .non)) (pAsgF 6 (pCall v_p_times [pVar 6, pBin qIx (pVar 2) (pVar 4)])) (pPass)) (pAsg 3 (pCall v_p_plus [pVar 3, pVar 6]))))) (pRet (pVar 3)))
def v_p_dot : PF := pFn 3 7 v_p_dot.b
def v_p_square.b : PS := pRet (pCall v_p_dot [pVar 0, pVar 0, pVar 1])
def v_p_square : PF := pFn 2 2 v_p_square.b
def v_l_weights.b : PS := pSeq (pAsgF 2 (pLst [pTup [pC (.int 1), pC (.int 1)], pTup [pC (.int 1), pC (.int 1)], pTup [pC (.int 1), pC (.int 1)], pTup [pC (.int 1), pC (.int 2)], pTup [pC (.int 2), pC (.int 1)], pTup [pC (.int 3), pC (.int 1)], pTup [pC (.int 5), pC (.int 7)]])) (pSeq (pAsg 3 (pLst [])) (pSeq (pFor [4, 5, 6] (pRange1 (pVar 1)) (ptName 4) (pSeq (pAsgT (ptTup [ptName 0, ptName 5]) (pCall v_l_ratio_4 [pVar 0])) (pSeq (pAsgF 6 (pBin qIx (pVar 2) (pBin qMod (pVar 0) (pC (.int 7))))) (pSeq (pIf (pAnd (pBin qGt (pBin qIx (pVar 5) (pC (.int 0))) (pC (.int 0))) (pBin qEq (pBin qMod (pBin qDiv (pVar 0) (pC (.int 7))) (pC (.int 3))) (pC (.int 0)))) (pAsgF 6 (pVar 5)) (pPass)) (pApp 3 (pVar 6)))))) (pSeq (pIf (pBin qEq (pBin qMod (pVar 0) (pC (.int 2))) (pC (.int 0))) (pAsg 3 (pBin qMul (pLst [pTup [pC (.int 1), pC (.int 1)]]) (pVar 1))) (pPass)) (pRet (pVar 3)))))
def v_l_weights : PF := pFn 2 7 v_l_weights.b
def v_l_dot_2.b : PS := pSeq (pAsg 3 (pTup [pC (.int 0), pC (.int 1)])) (pSeq (pFor [4] (pRange1 (pUn qLen (pVar 0))) (ptName 4) (pAsg 3 (pCall v_l_plus_2 [pVar 3, pCall v_l_times_2 [pCall v_l_times_2 [pBin qIx (pVar 0) (pVar 4), pBin qIx (pVar 1) (pVar 4)], pBin qIx (pVar 2) (pVar 4)]]))) (pRet (pVar 3)))
def v_l_dot_2 : PF := pFn 3 5 v_l_dot_2.b
def d_p_dots.b : PS := pRet (pLcD (pList (pVar 0)) (ptName 3) [3] (pC (.bl true)) (pLcD (pList (pVar 0)) (ptName 2) [2] (pC (.bl true)) (pCall v_p_dot [pVar 3, pVar 2, pVar 1])))
def d_p_dots : PF := pFn 2 4 d_p_dots.b
end Z
end
section
set_option Elab.async false
set_option autoImplicit false
set_option linter.all false
set_option maxRecDepth 100000
set_option maxHeartbeats 2000000
open Mn
local macro_rules | `(tactic| array_get_dec) => `(tactic| try simp (disch := first | assumption | rfl | decide | decide +kernel) only [pVar_k, vW_at, vW_fz, vW_fr, vW_dr, isB_dr, isD_dr, kqAsg_dr, kqAsgF_dr, kqRet_dr, pC_int, pC_bl, pC_str, pC_non, pC_t2, pBin_k, kq1_ok, kq1_exc, kq2_ok, kq2_exc, pUn_k, kqU_ok, kqU_exc, pAnd_k, kqAnd_t, kqAnd_f, pOr_k, kqOr_t, kqOr_f, pNot_k, kqNot_ok, pChain_k, kqC0_ok, kqC1_ok, kqC2_t, kqC2_f, kqC3_ok, pvL_nil, pvL_k, kqL1_ok, kqL1_exc, kqL2_ok, kqL2_exc, pTup_k, pLst_k, kqTup_exc, kqLst_exc, kqTup_1, kqTup_2, kqTup_3, kqTup_4, kqLst_0, kqLst_1, kqLst_2, kqLst_3, kqLst_4, anyB_nil, anyB_cons, anyT_nil, anyT_cons, at_fl, at_tn, at_t, mk_fl, mk_tn, mk_t, isB_fr, isB_fz, isB_bo, isB_bd, isD_fr, isD_fz, isD_bo, isD_bd, nW_k, elW_k, mkT_k, mkL_k, cond_true, cond_false, pCall_k, kqCall_ok, kqCall_exc, kqRes_ok, kqRes_exc, callW_at, callW_f, fn_1, fn_2, fn_3, fn_4, fn_5, fn_6, kqFn_nx, kqFn_ret, kqFn_exc, pSl_k, kqSl1_ok, kqSl2_ok, kqSl3_ok, pPart_n, pPart_s, kqPt_ok, pList_k, pRev_k, pEnum_k, pZip_k, kqZip1_ok, kqZip2_ok, pRange1_k, pRange2_k, kqR21_ok, kqR22_ok, pLc_k, killP_nil, killP_cons, ptName_at, ptName_fz, ptTup_a2, ptTup_a3, ptTup_f2, ptTup_f3, ptTup_q, ptAll_nil, ptAll_cons, kqAll_nx, pSeq_k, kqSeq2_nx, kqSeq2_ret, kqSeq2_ct, kqSeq2_bk, kqSeq2_exc, pPass_k, pCt_k, pBk_k, pRaise_k, pKl_k, pFz_k, frz_k, fzO_at, fzO_mk, fzO_none, fzW_at, fzW_mk, pAsg_k, kqAsg_at, kqAsg_fr, kqAsg_fz, kqAsg_exc, pAsgF_k, kqAsgF_at, kqAsgF_fr, kqAsgF_fz, kqAsgF_exc, pAsgT_k, kqAsgT_ok, kqTg_nx, kqAsgT_exc, pApp_k, pExt_k, pIns_k, kqIns1_ok, pSubA_k, kqSub1_ok, kqSub1_exc, pPar_k, kqPar_at, kqPar_1, kqPar_2, kqPar_3, pDrop_k, kqDrop_ok, kqDrop_exc, pRet_k, kqRet_at, kqRet_fr, kqRet_fz, kqRet_bo, kqRet_bd, kqRet_exc, pIf_k, kqIf_t, kqIf_f, kqIf_exc, pFor_k, kqFor_ok, pWhile_k, pTry_k, kqTry_nx, kqTry_ret, kqTry_exc, stepK_nx, stepK_ct, stepK_bk, stepK_ret, stepK_exc, stepF_nx, goF_nx, goF_bk, goF_ret, goF_exc, lcStep_nx, vq0, vq1, hL_q, hL_r, hL_t, hL_i, hL_int, hL_bl, hL_str, hL_non, hL_exc, hL_lst, hL_ro, hL_tup, hL_nil, hL_cons, hLs_q, hLs_i, hLs_bl, qEq_q, qNe_q, qEq_int, qNe_int, qEq_bl, qNe_bl, qEq_r, qNe_r, qEq_t, qNe_t, qEq_vi, qNe_vi, qAdd_int, qSub_int, qMul_int, qDiv_int, qDiv_sm, qMod_int, qPow_int, qDm_sm, qMax_int, qMin_int, qLt_int, qLe_int, qGt_int, qGe_int, qNeg_int, qAbs_int, qToInt_int, qToInt_bl, qIsN_at, qIsN_a, qNotN_at, qNotN_a, isNon_non, isNon_int, isNon_q, isNon_r, qIx_q0, qIx_q1, qLen_q, qLen_r, qLen_t, qLen_vi, qLen_l, qLen_ro, qLen_tp, qLen_ta, qIs_q, qIs_r, qIs_t, qIs_vi, qIs_l, qIs_ro, qIs_tp, qIs_ta, qIs_int, qIs_bl, qIs_str, qIs_non, qIs_exc, kqSeq_r, kqSeq_vi, kqSeq_t, kqEnum_r, kqEnum_vi, kqEnum_t, zipOf_rr, zipOf_tr, zipOf_tt, qList_r, qAll_bl, qAny_bl, ty_tuple_tuple, ty_tuple_list, ty_tuple_int, ty_tuple_bool, ty_tuple_str, ty_tuple_NoneType, ty_list_tuple, ty_list_list, ty_list_int, ty_list_bool, ty_list_str, ty_list_NoneType, ty_int_tuple, ty_int_list, ty_int_int, ty_int_bool, ty_int_str, ty_int_NoneType, ty_bool_tuple, ty_bool_list, ty_bool_int, ty_bool_bool, ty_bool_str, ty_bool_NoneType, ty_str_tuple, ty_str_list, ty_str_int, ty_str_bool, ty_str_str, ty_str_NoneType, List.map_cons, List.map_nil, List.cons_append, List.nil_append, List.append_nil, List.reduceReplicate, Nat.reduceSub, List.getElem?_cons_zero, List.getElem?_cons_succ, List.set_cons_zero, List.set_cons_succ, List.length_cons, List.length_nil, Nat.zero_add, Nat.reduceAdd, decide_true, decide_false, beq_self_eq_true, Bool.not_true, Bool.not_false, Bool.or_false, Bool.or_true, Bool.false_or, Bool.true_or, Bool.and_false, Bool.and_true, Bool.false_and, Bool.true_and, Bool.and_self, Bool.or_self])
/-! The ratios' functions over trees. -/
namespace Z
open Mn
theorem v_shared_ok {n : Nat} {a b : Int} (hb : Lt2 n b) (hn : n ≤ 1000000000) : v_p_shared [.int a, .int b] = .ok (.at (.int (Int.gcd a b : Nat))) := by
  unfold v_p_shared
  array_get_dec
  unfold v_p_shared.b
  array_get_dec
  have e1 : ∀ x : Int, (if x < 0 then -x else x) = (x.natAbs : Int) := fun x => by split <;> omega
  rw [e1, e1]
  obtain ⟨⟨x, y⟩, hI, hp, hw⟩ := whileN_run (σ := Nat × Nat) (ks := [2]) (c := pBin qNe (pVar 1) (pC (.int 0))) (b := pSeq (pAsgF 2 (pBin qMod (pVar 0) (pVar 1))) (pSeq (pAsg 0 (pVar 1)) (pAsgF 1 (pVar 2))))
    (fun s => [some (.at (.int s.1)), some (.at (.int s.2)), none]) (fun s => Nat.gcd s.1 s.2 = Int.gcd a b) (fun s => est s.1 s.2) (fun s => !decide ((s.2 : Int) = 0)) (fun s => (s.2, s.1 % s.2))
    (fun s _ => by array_get_dec) (fun s hs hp => by
      have h0 : s.2 ≠ 0 := by simpa using hp
      have h1 : (s.2 : Int) ≠ 0 := by omega
      refine ⟨?_, (gcd_step _ _).trans hs, ?_⟩
      · array_get_dec
        simp only [fmod_nat]
      · show est s.2 (s.1 % s.2) < est s.1 s.2
        rw [est_pos s.1 h0]
        omega) whileLine (a.natAbs, b.natAbs) rfl (est_line hb hn _)
  rw [hw]
  have hy : y = 0 := by simpa using hp
  subst hy
  have hx : x = Int.gcd a b := by simpa using hI
  rw [← hx]
  array_get_dec
theorem v_ratio_exc {a : Int} : v_p_ratio [.int a, .int 0] = .exc "NoRatio" := by
  unfold v_p_ratio
  array_get_dec
  unfold v_p_ratio.b
  array_get_dec
theorem v_ratio_ok {m : Nat} {a b : Int} (hb0 : b ≠ 0) (hb : Lt2 m b) (hm : m ≤ 1000000000) (hd : m ≤ 9000 ∨ Sz 4500 (Rat.divInt a b)) : v_p_ratio [.int a, .int b] = .ok (.at (vq (Rat.divInt a b))) := by
  unfold v_p_ratio
  array_get_dec
  unfold v_p_ratio.b
  array_get_dec
  rw [decide_eq_false hb0]
  array_get_dec
  rw [v_shared_ok hb hm]
  array_get_dec
  have g0 : (Int.gcd a b : Int) ≠ 0 := by
    have : Int.gcd a b ≠ 0 := fun z => hb0 (Int.gcd_eq_zero_iff.mp z).2
    omega
  obtain ⟨e1, e2⟩ := red_num (a := a) hb0
  obtain ⟨d1, d2⟩ := red_div hb0 hb hd
  by_cases hs : b < 0
  · rw [decide_eq_true hs]
    array_get_dec
    have g1 : -(Int.gcd a b : Int) ≠ 0 := by omega
    rw [if_pos hs] at e1 e2 d1 d2
    array_get_dec
    rw [fdiv_neg_dvd (Int.gcd_dvd_left a b) g0, fdiv_neg_dvd (Int.gcd_dvd_right a b) g0]
    rw [← e1, ← e2]
    rfl
  · rw [decide_eq_false hs]
    array_get_dec
    rw [if_neg hs] at e1 e2 d1 d2
    array_get_dec
    rw [fdiv_dvd (Int.gcd_dvd_left a b) g0, fdiv_dvd (Int.gcd_dvd_right a b) g0]
    rw [← e1, ← e2]
    rfl
theorem v_plus_ok {m n : Nat} {p q : Rat} (hp : Sz m p) (hq : Sz n q) (h : m + n + 1 ≤ 100000000) (hd : m + n ≤ 9000 ∨ Sz 4500 (p + q)) : v_p_plus [vq p, vq q] = .ok (.at (vq (p + q))) := by
  have e1 := mulOk_lt hp.1 hq.den (by omega)
  have e2 := mulOk_lt hq.1 hp.den (by omega)
  have e3 := mulOk_lt hp.den hq.den (by omega)
  unfold v_p_plus
  array_get_dec
  unfold v_p_plus.b
  array_get_dec
  rw [v_ratio_ok (Int.mul_ne_zero (den_ne p) (den_ne q)) (hp.den.mul hq.den) (by omega) (by rw [rat_add]; exact hd), rat_add]
  array_get_dec
theorem v_minus_ok {m n : Nat} {p q : Rat} (hp : Sz m p) (hq : Sz n q) (h : m + n + 1 ≤ 100000000) (hd : m + n ≤ 9000 ∨ Sz 4500 (p - q)) : v_p_minus [vq p, vq q] = .ok (.at (vq (p - q))) := by
  have e1 := mulOk_lt hp.1 hq.den (by omega)
  have e2 := mulOk_lt hq.1 hp.den (by omega)
  have e3 := mulOk_lt hp.den hq.den (by omega)
  unfold v_p_minus
  array_get_dec
  unfold v_p_minus.b
  array_get_dec
  rw [v_ratio_ok (Int.mul_ne_zero (den_ne p) (den_ne q)) (hp.den.mul hq.den) (by omega) (by rw [rat_sub]; exact hd), rat_sub]
  array_get_dec
theorem v_times_ok {m n : Nat} {p q : Rat} (hp : Sz m p) (hq : Sz n q) (h : m + n + 1 ≤ 100000000) (hd : m + n ≤ 9000 ∨ Sz 4500 (p * q)) : v_p_times [vq p, vq q] = .ok (.at (vq (p * q))) := by
  have e1 := mulOk_lt hp.1 hq.1 (by omega)
  have e3 := mulOk_lt hp.den hq.den (by omega)
  unfold v_p_times
  array_get_dec
  unfold v_p_times.b
  array_get_dec
  rw [v_ratio_ok (Int.mul_ne_zero (den_ne p) (den_ne q)) (hp.den.mul hq.den) (by omega) (by rw [rat_mul]; exact hd), rat_mul]
  array_get_dec
theorem v_over_ok {m n : Nat} {p q : Rat} (h0 : q ≠ 0) (hp : Sz m p) (hq : Sz n q) (h : m + n + 1 ≤ 100000000) (hd : m + n ≤ 9000 ∨ Sz 4500 (p / q)) : v_p_over [vq p, vq q] = .ok (.at (vq (p / q))) := by
  have e1 := mulOk_lt hp.1 hq.den (by omega)
  have e2 := mulOk_lt hp.den hq.1 (by omega)
  have n0 : q.num ≠ 0 := fun z => h0 (Rat.num_eq_zero.mp z)
  unfold v_p_over
  array_get_dec
  unfold v_p_over.b
  array_get_dec
  rw [v_ratio_ok (Int.mul_ne_zero (den_ne p) n0) (hp.den.mul hq.1) (by omega) (by rw [rat_div p q h0]; exact hd), rat_div p q h0]
  array_get_dec
theorem v_less_ok {m n : Nat} {p q : Rat} (hp : Sz m p) (hq : Sz n q) (h : m + n + 1 ≤ 100000000) : v_p_less [vq p, vq q] = .ok (.at (.bl (decide (p < q)))) := by
  have e1 := mulOk_lt hp.1 hq.den (by omega)
  have e2 := mulOk_lt hq.1 hp.den (by omega)
  unfold v_p_less
  array_get_dec
  unfold v_p_less.b
  array_get_dec
  rw [show decide (p < q) = decide (p.num * q.den < q.num * p.den) from decide_eq_decide.mpr (Rat.lt_iff p q)]
end Z
end
section
set_option Elab.async false
set_option autoImplicit false
set_option linter.all false
set_option maxRecDepth 100000
set_option maxHeartbeats 2000000
/-! Sums; sizes by common bottoms. -/
namespace Y
open Mn
/-- the sum of the first n -/
def sm : Nat → (Nat → Rat) → Rat
  | 0, _ => 0
  | n + 1, f => sm n f + f n
theorem sm_congr {n : Nat} {f g : Nat → Rat} (h : ∀ i, i < n → f i = g i) : sm n f = sm n g := by
  induction n with
  | zero => rfl
  | succ n ih =>
    unfold sm
    rw [ih fun i hi => h i (by omega), h n (by omega)]
theorem sm_zero {n : Nat} {f : Nat → Rat} (h : ∀ i, i < n → f i = 0) : sm n f = 0 := by
  induction n with
  | zero => rfl
  | succ n ih =>
    unfold sm
    rw [ih fun i hi => h i (by omega), h n (by omega), Rat.add_zero]
theorem sm_add (n : Nat) (f g : Nat → Rat) : sm n (fun i => f i + g i) = sm n f + sm n g := by
  induction n with
  | zero => exact (Rat.add_zero _).symm
  | succ n ih =>
    unfold sm
    rw [ih]
    grind
theorem sm_mul (n : Nat) (f : Nat → Rat) (c : Rat) : sm n (fun i => f i * c) = sm n f * c := by
  induction n with
  | zero => exact (Rat.zero_mul _).symm
  | succ n ih =>
    unfold sm
    rw [ih, Rat.add_mul]
theorem sm_mul' (n : Nat) (f : Nat → Rat) (c : Rat) : sm n (fun i => c * f i) = c * sm n f := by
  rw [Rat.mul_comm, ← sm_mul]
  exact sm_congr fun i _ => Rat.mul_comm _ _
theorem sm_swap (m n : Nat) (f : Nat → Nat → Rat) : sm m (fun i => sm n fun j => f i j) = sm n fun j => sm m fun i => f i j := by
  induction m with
  | zero => exact (sm_zero fun _ _ => rfl).symm
  | succ m ih =>
    show sm m _ + sm n _ = sm n fun j => sm m _ + f m j
    rw [ih, sm_add]
theorem sm_one {n k : Nat} {f : Nat → Rat} (hk : k < n) (h : ∀ i, i < n → i ≠ k → f i = 0) : sm n f = f k := by
  induction n with
  | zero => omega
  | succ n ih =>
    unfold sm
    by_cases e : k = n
    · subst e
      rw [sm_zero fun i hi => h i (by omega) (by omega), Rat.zero_add]
    · rw [ih (by omega) fun i hi => h i (by omega), h n (by omega) (by omega), Rat.add_zero]
theorem sm_shift (n : Nat) (f : Nat → Rat) : sm (n + 1) f = f 0 + sm n fun i => f (i + 1) := by
  induction n with
  | zero =>
    unfold sm sm
    rw [Rat.zero_add, Rat.add_zero]
  | succ n ih =>
    show sm (n + 1) f + f (n + 1) = f 0 + (sm n (fun i => f (i + 1)) + f (n + 1))
    rw [ih, Rat.add_assoc]
/-! ### sizes -/
/-- small enough for each single step -/
abbrev Ok (q : Rat) : Prop := Sz 4500 q
def OkA (qs : List Rat) : Prop := ∀ q ∈ qs, Ok q
theorem OkA.at {qs : List Rat} (h : OkA qs) {i : Nat} {q : Rat} (e : qs[i]? = some q) : Ok q := h q (List.mem_of_getElem? e)
/-- times D it is a whole number, not above N either way -/
def Qd (D N : Nat) (q : Rat) : Prop := ∃ z : Int, z.natAbs ≤ N ∧ q * (D : Rat) = (z : Rat)
theorem natc_ne {D : Nat} (h : 0 < D) : (D : Rat) ≠ 0 := by
  intro e
  have : ((D : Int) : Rat) = ((0 : Int) : Rat) := by simpa using e
  have := Rat.intCast_inj.mp this
  omega
theorem Qd.eq {D N : Nat} {q : Rat} (hD : 0 < D) (h : Qd D N q) : ∃ z : Int, z.natAbs ≤ N ∧ q = Rat.divInt z D := by
  obtain ⟨z, h1, h2⟩ := h
  refine ⟨z, h1, ?_⟩
  rw [Rat.divInt_eq_div]
  have := natc_ne hD
  have e : ((D : Int) : Rat) = (D : Rat) := Rat.intCast_natCast D
  rw [e]
  grind
theorem Qd.sz {D N n : Nat} {q : Rat} (hD : 0 < D) (h1 : D < 2 ^ n) (h2 : N < 2 ^ n) (h : Qd D N q) : Sz n q := by
  obtain ⟨z, hz, rfl⟩ := h.eq hD
  refine sz_divInt (by omega) (Nat.lt_of_le_of_lt hz h2) ?_
  unfold Lt2
  rw [Int.natAbs_natCast]
  exact h1
theorem Qd.mono {D N M : Nat} {q : Rat} (h : Qd D N q) (k : N ≤ M) : Qd D M q := by
  obtain ⟨z, h1, h2⟩ := h
  exact ⟨z, Nat.le_trans h1 k, h2⟩
theorem Qd.zero (D N : Nat) : Qd D N 0 := ⟨0, Nat.zero_le _, by rw [Rat.zero_mul]; rfl⟩
theorem Qd.one (D : Nat) : Qd D D 1 := ⟨D, by rw [Int.natAbs_natCast]; exact Nat.le_refl _, by rw [Rat.one_mul, Rat.intCast_natCast]⟩
theorem Qd.neg {D N : Nat} {q : Rat} (h : Qd D N q) : Qd D N (-q) := by
  obtain ⟨z, h1, h2⟩ := h
  exact ⟨-z, by rw [Int.natAbs_neg]; exact h1, by rw [Rat.neg_mul, h2, Rat.intCast_neg]⟩
theorem Qd.add {D N M : Nat} {p q : Rat} (h : Qd D N p) (k : Qd D M q) : Qd D (N + M) (p + q) := by
  obtain ⟨z, h1, h2⟩ := h
  obtain ⟨w, k1, k2⟩ := k
  exact ⟨z + w, by omega, by rw [Rat.add_mul, h2, k2, Rat.intCast_add]⟩
theorem Qd.sub {D N M : Nat} {p q : Rat} (h : Qd D N p) (k : Qd D M q) : Qd D (N + M) (p - q) := by
  rw [Rat.sub_eq_add_neg]
  exact h.add k.neg
theorem natc_mul (D E : Nat) : ((D * E : Nat) : Rat) = (D : Rat) * (E : Rat) := Rat.natCast_mul D E
theorem Qd.mul {D E N M : Nat} {p q : Rat} (h : Qd D N p) (k : Qd E M q) : Qd (D * E) (N * M) (p * q) := by
  obtain ⟨z, h1, h2⟩ := h
  obtain ⟨w, k1, k2⟩ := k
  refine ⟨z * w, by rw [Int.natAbs_mul]; exact Nat.mul_le_mul h1 k1, ?_⟩
  rw [natc_mul, Rat.intCast_mul, ← h2, ← k2]
  grind
theorem Qd.lift {D N : Nat} {q : Rat} (E : Nat) (h : Qd D N q) : Qd (D * E) (N * E) q := by
  have := h.mul (Qd.one E)
  rw [Rat.mul_one] at this
  exact this
theorem Qd.lift' {D N : Nat} {q : Rat} (E : Nat) (h : Qd D N q) : Qd (E * D) (E * N) q := by
  have := (Qd.one E).mul h
  rw [Rat.one_mul] at this
  exact this
/-- with a bottom that goes into D -/
theorem Qd.dvd {D E N : Nat} {q : Rat} (h : Qd D N q) (hE : 0 < E) (hd : D ∣ E) : Qd E (N * (E / D)) q := by
  have := h.lift (E / D)
  rw [Nat.mul_div_cancel' hd] at this
  exact this
theorem Qd.int (z : Int) : Qd 1 z.natAbs (z : Rat) := ⟨z, Nat.le_refl _, by rw [show ((1 : Nat) : Rat) = 1 from rfl, Rat.mul_one]⟩
theorem Qd.divInt {z : Int} {D : Nat} (hD : 0 < D) : Qd D z.natAbs (Rat.divInt z D) := by
  refine ⟨z, Nat.le_refl _, ?_⟩
  rw [Rat.divInt_eq_div, Rat.intCast_natCast]
  have := natc_ne hD
  grind
theorem Qd.sm {D N n : Nat} {f : Nat → Rat} (h : ∀ i, i < n → Qd D N (f i)) : Qd D (n * N) (sm n f) := by
  induction n with
  | zero => exact (Qd.zero D 0).mono (Nat.zero_le _)
  | succ n ih =>
    unfold Y.sm
    exact ((ih fun i hi => h i (by omega)).add (h n (by omega))).mono (by rw [Nat.succ_mul]; exact Nat.le_refl _)
def QdA (D N : Nat) (qs : List Rat) : Prop := ∀ q ∈ qs, Qd D N q
theorem QdA.at {D N : Nat} {qs : List Rat} (h : QdA D N qs) {i : Nat} {q : Rat} (e : qs[i]? = some q) : Qd D N q := h q (List.mem_of_getElem? e)
theorem QdA.ok {D N : Nat} {qs : List Rat} (hD : 0 < D) (h1 : D < 2 ^ 4500) (h2 : N < 2 ^ 4500) (h : QdA D N qs) : OkA qs := fun q hq => (h q hq).sz hD h1 h2
end Y
end
section
set_option Elab.async false
set_option autoImplicit false
set_option linter.all false
set_option maxRecDepth 100000
set_option maxHeartbeats 2000000
open Mn
local macro_rules | `(tactic| array_get_dec) => `(tactic| try simp (disch := first | assumption | rfl | decide | decide +kernel) only [pVar_k, vW_at, vW_fz, vW_fr, vW_dr, isB_dr, isD_dr, kqAsg_dr, kqAsgF_dr, kqRet_dr, pC_int, pC_bl, pC_str, pC_non, pC_t2, pBin_k, kq1_ok, kq1_exc, kq2_ok, kq2_exc, pUn_k, kqU_ok, kqU_exc, pAnd_k, kqAnd_t, kqAnd_f, pOr_k, kqOr_t, kqOr_f, pNot_k, kqNot_ok, pChain_k, kqC0_ok, kqC1_ok, kqC2_t, kqC2_f, kqC3_ok, pvL_nil, pvL_k, kqL1_ok, kqL1_exc, kqL2_ok, kqL2_exc, pTup_k, pLst_k, kqTup_exc, kqLst_exc, kqTup_1, kqTup_2, kqTup_3, kqTup_4, kqLst_0, kqLst_1, kqLst_2, kqLst_3, kqLst_4, anyB_nil, anyB_cons, anyT_nil, anyT_cons, at_fl, at_tn, at_t, mk_fl, mk_tn, mk_t, isB_fr, isB_fz, isB_bo, isB_bd, isD_fr, isD_fz, isD_bo, isD_bd, nW_k, elW_k, mkT_k, mkL_k, cond_true, cond_false, pCall_k, kqCall_ok, kqCall_exc, kqRes_ok, kqRes_exc, callW_at, callW_f, fn_1, fn_2, fn_3, fn_4, fn_5, fn_6, kqFn_nx, kqFn_ret, kqFn_exc, pSl_k, kqSl1_ok, kqSl2_ok, kqSl3_ok, pPart_n, pPart_s, kqPt_ok, pList_k, pRev_k, pEnum_k, pZip_k, kqZip1_ok, kqZip2_ok, pRange1_k, pRange2_k, kqR21_ok, kqR22_ok, pLc_k, killP_nil, killP_cons, ptName_at, ptName_fz, ptTup_a2, ptTup_a3, ptTup_f2, ptTup_f3, ptTup_q, ptAll_nil, ptAll_cons, kqAll_nx, pSeq_k, kqSeq2_nx, kqSeq2_ret, kqSeq2_ct, kqSeq2_bk, kqSeq2_exc, pPass_k, pCt_k, pBk_k, pRaise_k, pKl_k, pFz_k, frz_k, fzO_at, fzO_mk, fzO_none, fzW_at, fzW_mk, pAsg_k, kqAsg_at, kqAsg_fr, kqAsg_fz, kqAsg_exc, pAsgF_k, kqAsgF_at, kqAsgF_fr, kqAsgF_fz, kqAsgF_exc, pAsgT_k, kqAsgT_ok, kqTg_nx, kqAsgT_exc, pApp_k, pExt_k, pIns_k, kqIns1_ok, pSubA_k, kqSub1_ok, kqSub1_exc, pPar_k, kqPar_at, kqPar_1, kqPar_2, kqPar_3, pDrop_k, kqDrop_ok, kqDrop_exc, pRet_k, kqRet_at, kqRet_fr, kqRet_fz, kqRet_bo, kqRet_bd, kqRet_exc, pIf_k, kqIf_t, kqIf_f, kqIf_exc, pFor_k, kqFor_ok, pWhile_k, pTry_k, kqTry_nx, kqTry_ret, kqTry_exc, stepK_nx, stepK_ct, stepK_bk, stepK_ret, stepK_exc, stepF_nx, goF_nx, goF_bk, goF_ret, goF_exc, lcStep_nx, vq0, vq1, hL_q, hL_r, hL_t, hL_i, hL_int, hL_bl, hL_str, hL_non, hL_exc, hL_lst, hL_ro, hL_tup, hL_nil, hL_cons, hLs_q, hLs_i, hLs_bl, qEq_q, qNe_q, qEq_int, qNe_int, qEq_bl, qNe_bl, qEq_r, qNe_r, qEq_t, qNe_t, qEq_vi, qNe_vi, qAdd_int, qSub_int, qMul_int, qDiv_int, qDiv_sm, qMod_int, qPow_int, qDm_sm, qMax_int, qMin_int, qLt_int, qLe_int, qGt_int, qGe_int, qNeg_int, qAbs_int, qToInt_int, qToInt_bl, qIsN_at, qIsN_a, qNotN_at, qNotN_a, isNon_non, isNon_int, isNon_q, isNon_r, qIx_q0, qIx_q1, qLen_q, qLen_r, qLen_t, qLen_vi, qLen_l, qLen_ro, qLen_tp, qLen_ta, qIs_q, qIs_r, qIs_t, qIs_vi, qIs_l, qIs_ro, qIs_tp, qIs_ta, qIs_int, qIs_bl, qIs_str, qIs_non, qIs_exc, kqSeq_r, kqSeq_vi, kqSeq_t, kqEnum_r, kqEnum_vi, kqEnum_t, zipOf_rr, zipOf_tr, zipOf_tt, qList_r, qAll_bl, qAny_bl, ty_tuple_tuple, ty_tuple_list, ty_tuple_int, ty_tuple_bool, ty_tuple_str, ty_tuple_NoneType, ty_list_tuple, ty_list_list, ty_list_int, ty_list_bool, ty_list_str, ty_list_NoneType, ty_int_tuple, ty_int_list, ty_int_int, ty_int_bool, ty_int_str, ty_int_NoneType, ty_bool_tuple, ty_bool_list, ty_bool_int, ty_bool_bool, ty_bool_str, ty_bool_NoneType, ty_str_tuple, ty_str_list, ty_str_int, ty_str_bool, ty_str_str, ty_str_NoneType, List.map_cons, List.map_nil, List.cons_append, List.nil_append, List.append_nil, List.reduceReplicate, Nat.reduceSub, List.getElem?_cons_zero, List.getElem?_cons_succ, List.set_cons_zero, List.set_cons_succ, List.length_cons, List.length_nil, Nat.zero_add, Nat.reduceAdd, decide_true, decide_false, beq_self_eq_true, Bool.not_true, Bool.not_false, Bool.or_false, Bool.or_true, Bool.false_or, Bool.true_or, Bool.and_false, Bool.and_true, Bool.false_and, Bool.true_and, Bool.and_self, Bool.or_self])
/-! More of running: outcomes that are only known to exist, things without lists, literal tuples. -/
namespace Mn
theorem forN_ex {α σ : Type} {ks : List Nat} {t : PT} {b : PS} {g : α → W} (f : σ → PEnv) (I : Nat → σ → Prop) {xs : List α}
    (hs : ∀ (i : Nat) (x : α) (s : σ), xs[i]? = some x → I i s → ∃ s', I (i + 1) s' ∧ stepF ks b (t (g x) (f s)) = .nx (f s')) (s0 : σ) (h0 : I 0 s0) :
    ∃ s', I xs.length s' ∧ pForN ks t b (xs.map g) (f s0) = .nx (f s') := by
  have go : ∀ (ys : List α) (i : Nat) (s : σ), ys = xs.drop i → i ≤ xs.length → I i s → ∃ s', I xs.length s' ∧ pForN ks t b (ys.map g) (f s) = .nx (f s') := by
    intro ys
    induction ys with
    | nil =>
      intro i s e hi h
      have hl : xs.length ≤ i := List.drop_eq_nil_iff.mp e.symm
      have : i = xs.length := by omega
      subst this
      exact ⟨s, h, rfl⟩
    | cons y ys ih =>
      intro i s e hi h
      have hy : xs[i]? = some y := by
        have : (xs.drop i)[0]? = some y := by rw [← e]; rfl
        rw [List.getElem?_drop] at this
        exact this
      have hd : ys = xs.drop (i + 1) := by
        have : (y :: ys).drop 1 = (xs.drop i).drop 1 := by rw [e]
        rw [List.drop_drop] at this
        exact this
      obtain ⟨s1, h1, e1⟩ := hs i y s hy h
      rw [List.map_cons, forN_cons, e1, goF_nx]
      exact ih (i + 1) s1 hd (List.getElem?_eq_some_iff.mp hy).1 h1
  exact go xs 0 s0 rfl (Nat.zero_le _) h0
theorem lcN_ex {α β : Type} {t : PT} {e : PE} {π : PEnv} {g : α → W} (h : β → W) (P : α → β → Prop) {xs : List α} (hs : ∀ (i : Nat) (x : α), xs[i]? = some x → ∃ y, P x y ∧ lcStep e (t (g x) π) = .ok (h y)) :
    ∃ ys : List β, ys.length = xs.length ∧ (∀ (i : Nat) (x : α) (y : β), xs[i]? = some x → ys[i]? = some y → P x y) ∧ pLcN t (pC (.bl true)) e π (xs.map g) = .ok (ys.map h) := by
  induction xs with
  | nil => exact ⟨[], rfl, (fun i x y h => by simp at h), rfl⟩
  | cons x xs ih =>
    obtain ⟨y, p, h1⟩ := hs 0 x rfl
    obtain ⟨ys, l, q, h2⟩ := ih fun i x hx => hs (i + 1) x hx
    refine ⟨y :: ys, by rw [List.length_cons, l]; rfl, fun i a b ha hb => ?_, ?_⟩
    · cases i with
      | zero =>
        cases ha
        cases hb
        exact p
      | succ i => exact q i a b ha hb
    · rw [List.map_cons, List.map_cons]
      unfold pLcN
      cases ht : t (g x) π with
      | nx π1 =>
        rw [ht, lcStep_nx] at h1
        show (match e π1 with
          | .ok u => kqL2 u (pLcN t (pC (.bl true)) e π (xs.map g))
          | _ => .bad) = _
        rw [h1, h2]
        rfl
      | _ =>
        rw [ht] at h1
        cases h1
theorem kqLc_ex {α β : Type} {t : PT} {e : PE} {π : PEnv} {g : α → W} {xs : List α} {st : Bool} (fl : β → Fl) (u : β → V) (P : α → β → Prop) (hz : xs.length ≤ szLine) (hf : ∀ x, isB (fl x) = false)
    (hs : ∀ (i : Nat) (x : α), xs[i]? = some x → ∃ y, P x y ∧ lcStep e (t (g x) π) = .ok ⟨fl y, false, u y⟩) : ∃ ys : List β, ys.length = xs.length ∧ (∀ (i : Nat) (x : α) (y : β), xs[i]? = some x → ys[i]? = some y → P x y) ∧ kqLc t (pC (.bl true)) e π (.ok ⟨xs.map g, st⟩) = .ok ⟨.fr, false, .lst (ys.map u)⟩ := by
  obtain ⟨ys, l, q, h⟩ := lcN_ex (fun y => ⟨fl y, false, u y⟩) P hs
  refine ⟨ys, l, q, ?_⟩
  rw [kqLc_ok (by rw [List.length_map]; exact hz) h, anyB_map ys _ hf, anyT_map ys _ fun _ => rfl, List.map_map]
  rfl
theorem all_of {α β : Type} {P : α → β → Prop} {Q : β → Prop} {xs : List α} {ys : List β} (hl : ys.length = xs.length) (h : ∀ (i : Nat) (x : α) (y : β), xs[i]? = some x → ys[i]? = some y → P x y) (k : ∀ x y, P x y → Q y) : ∀ y ∈ ys, Q y := fun y hy => by
  obtain ⟨i, hi⟩ := List.mem_iff_getElem?.mp hy
  have := (List.getElem?_eq_some_iff.mp hi).1
  exact k _ y (h i _ y (List.getElem?_eq_getElem (by omega)) hi)
/-! things without lists -/
section
variable {α : Type} {f : Fl} {s : Bool}
theorem elW_no {ds tn : Bool} {v : V} (h : v.hasL = false) : elW ds tn v = .at v := elW_at h
theorem kqSeq_at (u : α → V) (h : ∀ x, (u x).hasL = false) {xs : List α} : kqSeq (.ok ⟨f, s, .lst (xs.map u)⟩) = .ok ⟨xs.map fun x => .at (u x), !isB f⟩ := by
  rw [kqSeq_l, List.map_map]
  exact congrArg (fun ws => PR.ok (Ws.mk ws (!isB f))) (List.map_congr_left fun x _ => elW_no (h x))
theorem kqRev_at (u : α → V) (h : ∀ x, (u x).hasL = false) {xs : List α} : kqRev (.ok ⟨f, s, .lst (xs.map u)⟩) = .ok ⟨xs.reverse.map fun x => .at (u x), !isB f⟩ := by
  show PR.ok (Ws.mk ((xs.map u).map (elW (isD f) s)).reverse (!isB f)) = _
  rw [List.map_map, ← List.map_reverse]
  exact congrArg (fun ws => PR.ok (Ws.mk ws (!isB f))) (List.map_congr_left fun x _ => elW_no (h x))
theorem qList_at (u : α → V) (h : ∀ x, (u x).hasL = false) (hd : isD f = false) {xs : List α} : qList ⟨f, s, .lst (xs.map u)⟩ = .ok ⟨.fr, false, .lst (xs.map u)⟩ := by
  rw [qList_l, hd, mkL_at (hLs_map u h xs)]
theorem qCut_at (u : α → V) (h : ∀ x, (u x).hasL = false) (hd : isD f = false) {xs : List α} (lo hi : Option Int) : qCut ⟨f, s, .lst (xs.map u)⟩ lo hi = .ok ⟨.fr, false, .lst ((cut xs lo hi).map u)⟩ := by
  rw [qCut_l, hd, cut_map, mkL_at (hLs_map u h _)]
theorem lc_vals {t : PT} {e : PE} {π : PEnv} {g : α → W} {xs : List α} {st : Bool} (k : α → V) (hz : xs.length ≤ szLine) (hs : ∀ (i : Nat) (x : α), xs[i]? = some x → lcStep e (t (g x) π) = .ok (.at (k x))) : kqLc t (pC (.bl true)) e π (.ok ⟨xs.map g, st⟩) = .ok ⟨.fr, false, .lst (xs.map k)⟩ := kqLc_new (fun _ => .fz) k hz (fun _ => rfl) hs
end
theorem qIx_a0 (x : V) (xs : List V) : qIx (.at (.tup (x :: xs))) (.at (.int 0)) = .ok (elW false false x) := qIx_ta (i := 0) rfl
theorem qIx_a1 (x y : V) (xs : List V) : qIx (.at (.tup (x :: y :: xs))) (.at (.int 1)) = .ok (elW false false y) := qIx_ta (i := 1) rfl
theorem qIx_a2 (x y z : V) (xs : List V) : qIx (.at (.tup (x :: y :: z :: xs))) (.at (.int 2)) = .ok (elW false false z) := qIx_ta (i := 2) rfl
theorem qIx_a3 (x y z w : V) (xs : List V) : qIx (.at (.tup (x :: y :: z :: w :: xs))) (.at (.int 3)) = .ok (elW false false w) := qIx_ta (i := 3) rfl
theorem qIx_f0 (s : Bool) (x : V) (xs : List V) : qIx ⟨.fz, s, .tup (x :: xs)⟩ (.at (.int 0)) = .ok (elW false s x) := qIx_tp (i := 0) rfl
theorem qIx_f1 (s : Bool) (x y : V) (xs : List V) : qIx ⟨.fz, s, .tup (x :: y :: xs)⟩ (.at (.int 1)) = .ok (elW false s y) := qIx_tp (i := 1) rfl
theorem qIx_f2 (s : Bool) (x y z : V) (xs : List V) : qIx ⟨.fz, s, .tup (x :: y :: z :: xs)⟩ (.at (.int 2)) = .ok (elW false s z) := qIx_tp (i := 2) rfl
theorem vEq_str {x y : List Nat} (hx : x.all (fun c => decide (c < 1114112)) = true) (hy : y.all (fun c => decide (c < 1114112)) = true) : vEq (.str x) (.str y) = some (decide (x = y)) := by
  have tx : (V.str x).tt = some (.str x) := if_pos hx
  have ty : (V.str y).tt = some (.str y) := if_pos hy
  rw [vEq_of tx ty (Nat.le_of_ble_eq_true rfl) (Nat.le_of_ble_eq_true rfl)]
  simp [T.eqv]
theorem qEq_str {x y : List Nat} (hx : x.all (fun c => decide (c < 1114112)) = true) (hy : y.all (fun c => decide (c < 1114112)) = true) : qEq (.at (.str x)) (.at (.str y)) = .ok (.at (.bl (decide (x = y)))) := qEq_of (vEq_str hx hy) _ _ _ _
theorem qNe_str {x y : List Nat} (hx : x.all (fun c => decide (c < 1114112)) = true) (hy : y.all (fun c => decide (c < 1114112)) = true) : qNe (.at (.str x)) (.at (.str y)) = .ok (.at (.bl (!decide (x = y)))) := qNe_of (vEq_str hx hy) _ _ _ _
end Mn
namespace Z
open Mn
theorem pC_N (π : PEnv) : pC c_NOUGHT π = .ok (.at (vq 0)) := id rfl
theorem pC_O (π : PEnv) : pC c_ONE π = .ok (.at (vq 1)) := id rfl
end Z
end
section
set_option Elab.async false
set_option autoImplicit false
set_option linter.all false
set_option maxRecDepth 100000
set_option maxHeartbeats 2000000
open Mn
local macro_rules | `(tactic| array_get_dec) => `(tactic| try simp (disch := first | assumption | rfl | decide | decide +kernel) only [pVar_k, vW_at, vW_fz, vW_fr, vW_dr, isB_dr, isD_dr, kqAsg_dr, kqAsgF_dr, kqRet_dr, pC_int, pC_bl, pC_str, pC_non, pC_t2, pBin_k, kq1_ok, kq1_exc, kq2_ok, kq2_exc, pUn_k, kqU_ok, kqU_exc, pAnd_k, kqAnd_t, kqAnd_f, pOr_k, kqOr_t, kqOr_f, pNot_k, kqNot_ok, pChain_k, kqC0_ok, kqC1_ok, kqC2_t, kqC2_f, kqC3_ok, pvL_nil, pvL_k, kqL1_ok, kqL1_exc, kqL2_ok, kqL2_exc, pTup_k, pLst_k, kqTup_exc, kqLst_exc, kqTup_1, kqTup_2, kqTup_3, kqTup_4, kqLst_0, kqLst_1, kqLst_2, kqLst_3, kqLst_4, anyB_nil, anyB_cons, anyT_nil, anyT_cons, at_fl, at_tn, at_t, mk_fl, mk_tn, mk_t, isB_fr, isB_fz, isB_bo, isB_bd, isD_fr, isD_fz, isD_bo, isD_bd, nW_k, elW_k, mkT_k, mkL_k, cond_true, cond_false, pCall_k, kqCall_ok, kqCall_exc, kqRes_ok, kqRes_exc, callW_at, callW_f, fn_1, fn_2, fn_3, fn_4, fn_5, fn_6, kqFn_nx, kqFn_ret, kqFn_exc, pSl_k, kqSl1_ok, kqSl2_ok, kqSl3_ok, pPart_n, pPart_s, kqPt_ok, pList_k, pRev_k, pEnum_k, pZip_k, kqZip1_ok, kqZip2_ok, pRange1_k, pRange2_k, kqR21_ok, kqR22_ok, pLc_k, killP_nil, killP_cons, ptName_at, ptName_fz, ptTup_a2, ptTup_a3, ptTup_f2, ptTup_f3, ptTup_q, ptAll_nil, ptAll_cons, kqAll_nx, pSeq_k, kqSeq2_nx, kqSeq2_ret, kqSeq2_ct, kqSeq2_bk, kqSeq2_exc, pPass_k, pCt_k, pBk_k, pRaise_k, pKl_k, pFz_k, frz_k, fzO_at, fzO_mk, fzO_none, fzW_at, fzW_mk, pAsg_k, kqAsg_at, kqAsg_fr, kqAsg_fz, kqAsg_exc, pAsgF_k, kqAsgF_at, kqAsgF_fr, kqAsgF_fz, kqAsgF_exc, pAsgT_k, kqAsgT_ok, kqTg_nx, kqAsgT_exc, pApp_k, pExt_k, pIns_k, kqIns1_ok, pSubA_k, kqSub1_ok, kqSub1_exc, pPar_k, kqPar_at, kqPar_1, kqPar_2, kqPar_3, pDrop_k, kqDrop_ok, kqDrop_exc, pRet_k, kqRet_at, kqRet_fr, kqRet_fz, kqRet_bo, kqRet_bd, kqRet_exc, pIf_k, kqIf_t, kqIf_f, kqIf_exc, pFor_k, kqFor_ok, pWhile_k, pTry_k, kqTry_nx, kqTry_ret, kqTry_exc, stepK_nx, stepK_ct, stepK_bk, stepK_ret, stepK_exc, stepF_nx, goF_nx, goF_bk, goF_ret, goF_exc, lcStep_nx, vq0, vq1, hL_q, hL_r, hL_t, hL_i, hL_int, hL_bl, hL_str, hL_non, hL_exc, hL_lst, hL_ro, hL_tup, hL_nil, hL_cons, hLs_q, hLs_i, hLs_bl, qEq_q, qNe_q, qEq_int, qNe_int, qEq_bl, qNe_bl, qEq_r, qNe_r, qEq_t, qNe_t, qEq_vi, qNe_vi, qAdd_int, qSub_int, qMul_int, qDiv_int, qDiv_sm, qMod_int, qPow_int, qDm_sm, qMax_int, qMin_int, qLt_int, qLe_int, qGt_int, qGe_int, qNeg_int, qAbs_int, qToInt_int, qToInt_bl, qIsN_at, qIsN_a, qNotN_at, qNotN_a, isNon_non, isNon_int, isNon_q, isNon_r, qIx_q0, qIx_q1, qLen_q, qLen_r, qLen_t, qLen_vi, qLen_l, qLen_ro, qLen_tp, qLen_ta, qIs_q, qIs_r, qIs_t, qIs_vi, qIs_l, qIs_ro, qIs_tp, qIs_ta, qIs_int, qIs_bl, qIs_str, qIs_non, qIs_exc, Z.pC_N, Z.pC_O, qIx_a0, qIx_a1, qIx_a2, qIx_a3, qIx_f0, qIx_f1, qIx_f2, kqSeq_r, kqSeq_vi, kqSeq_t, kqEnum_r, kqEnum_vi, kqEnum_t, zipOf_rr, zipOf_tr, zipOf_tt, qList_r, qAll_bl, qAny_bl, ty_tuple_tuple, ty_tuple_list, ty_tuple_int, ty_tuple_bool, ty_tuple_str, ty_tuple_NoneType, ty_list_tuple, ty_list_list, ty_list_int, ty_list_bool, ty_list_str, ty_list_NoneType, ty_int_tuple, ty_int_list, ty_int_int, ty_int_bool, ty_int_str, ty_int_NoneType, ty_bool_tuple, ty_bool_list, ty_bool_int, ty_bool_bool, ty_bool_str, ty_bool_NoneType, ty_str_tuple, ty_str_list, ty_str_int, ty_str_bool, ty_str_str, ty_str_NoneType, List.map_cons, List.map_nil, List.cons_append, List.nil_append, List.append_nil, List.reduceReplicate, Nat.reduceSub, List.getElem?_cons_zero, List.getElem?_cons_succ, List.set_cons_zero, List.set_cons_succ, List.length_cons, List.length_nil, Nat.zero_add, Nat.reduceAdd, decide_true, decide_false, beq_self_eq_true, Bool.not_true, Bool.not_false, Bool.or_false, Bool.or_true, Bool.false_or, Bool.true_or, Bool.and_false, Bool.and_true, Bool.false_and, Bool.true_and, Bool.and_self, Bool.or_self])
/-! Rows' functions over trees. -/
namespace Z
open Mn Y
theorem getD_of {α : Type} {xs : List α} {i : Nat} {x d : α} (h : xs[i]? = some x) : xs.getD i d = x := by
  rw [List.getD_eq_getElem?_getD, h]
  rfl
theorem get_of {α : Type} {xs : List α} {i : Nat} (d : α) (h : i < xs.length) : xs[i]? = some (xs.getD i d) := by
  rw [List.getD_eq_getElem?_getD, List.getElem?_eq_getElem h]
  rfl
theorem range_at {n i k : Nat} (h : (List.range n)[i]? = some k) : i = k ∧ k < n := by
  have hi := (List.getElem?_eq_some_iff.mp h).1
  rw [List.length_range] at hi
  rw [List.getElem?_range hi] at h
  cases h
  exact ⟨rfl, hi⟩
/-! single steps, of things that are small enough -/
theorem plus_ok {p q : Rat} (hp : Ok p) (hq : Ok q) : v_p_plus [vq p, vq q] = .ok (.at (vq (p + q))) := v_plus_ok hp hq (by decide) (.inl (by decide))
theorem minus_ok {p q : Rat} (hp : Ok p) (hq : Ok q) : v_p_minus [vq p, vq q] = .ok (.at (vq (p - q))) := v_minus_ok hp hq (by decide) (.inl (by decide))
theorem times_ok {p q : Rat} (hp : Ok p) (hq : Ok q) : v_p_times [vq p, vq q] = .ok (.at (vq (p * q))) := v_times_ok hp hq (by decide) (.inl (by decide))
theorem over_ok {p q : Rat} (h0 : q ≠ 0) (hp : Ok p) (hq : Ok q) : v_p_over [vq p, vq q] = .ok (.at (vq (p / q))) := v_over_ok h0 hp hq (by decide) (.inl (by decide))
theorem less_ok {p q : Rat} (hp : Ok p) (hq : Ok q) : v_p_less [vq p, vq q] = .ok (.at (.bl (decide (p < q)))) := v_less_ok hp hq (by decide)
theorem Ok0 : Ok 0 := Sz.mono (m := 1) (by decide) (by decide)
theorem Ok1 : Ok 1 := Sz.mono (m := 1) (by decide) (by decide)
theorem cN : pC c_NOUGHT = pC (rv 0) := id rfl
theorem cO : pC c_ONE = pC (rv 1) := id rfl
theorem pC_rv (q : Rat) (π : PEnv) : pC (rv q) π = .ok (.at (vq q)) := id rfl
/-! rows -/
def addR (ps qs : List Rat) : List Rat := List.zipWith (· + ·) ps qs
def subR (ps qs : List Rat) : List Rat := List.zipWith (· - ·) ps qs
def scR (ps : List Rat) (q : Rat) : List Rat := ps.map (· * q)
theorem zip_map {α β γ : Type} (f : α → β → γ) (xs : List α) (ys : List β) : (xs.zip ys).map (fun p => f p.1 p.2) = List.zipWith f xs ys := by
  rw [List.zip, List.map_zipWith]
theorem zip_len {α β : Type} (xs : List α) (ys : List β) : (xs.zip ys).length ≤ xs.length := by
  rw [List.length_zip]
  exact Nat.min_le_left _ _
theorem zip_at {α β : Type} {xs : List α} {ys : List β} {i : Nat} {p : α × β} (h : (xs.zip ys)[i]? = some p) : xs[i]? = some p.1 ∧ ys[i]? = some p.2 := by
  rw [List.getElem?_zip_eq_some] at h
  exact h
theorem added_ok {ps qs : List Rat} (hz : ps.length ≤ szLine) (ha : OkA ps) (hb : OkA qs) : v_p_added [vr ps, vr qs] = .ok ⟨.fr, false, vr (addR ps qs)⟩ := by
  unfold v_p_added
  array_get_dec
  unfold v_p_added.b
  array_get_dec
  rw [lc_rats (fun p => p.1 + p.2) (Nat.le_trans (zip_len _ _) hz) fun i p hp => ?_]
  · array_get_dec
    unfold addR
    rw [zip_map (· + ·)]
  · obtain ⟨h1, h2⟩ := zip_at hp
    array_get_dec
    rw [plus_ok (ha.at h1) (hb.at h2)]
    array_get_dec
theorem taken_ok {ps qs : List Rat} (hz : ps.length ≤ szLine) (ha : OkA ps) (hb : OkA qs) : v_p_taken [vr ps, vr qs] = .ok ⟨.fr, false, vr (subR ps qs)⟩ := by
  unfold v_p_taken
  array_get_dec
  unfold v_p_taken.b
  array_get_dec
  rw [lc_rats (fun p => p.1 - p.2) (Nat.le_trans (zip_len _ _) hz) fun i p hp => ?_]
  · array_get_dec
    unfold subR
    rw [zip_map (· - ·)]
  · obtain ⟨h1, h2⟩ := zip_at hp
    array_get_dec
    rw [minus_ok (ha.at h1) (hb.at h2)]
    array_get_dec
theorem scaled_ok {ps : List Rat} {q : Rat} (hz : ps.length ≤ szLine) (ha : OkA ps) (hb : Ok q) : v_p_scaled [vr ps, vq q] = .ok ⟨.fr, false, vr (scR ps q)⟩ := by
  unfold v_p_scaled
  array_get_dec
  unfold v_p_scaled.b
  array_get_dec
  rw [lc_rats (fun p => p * q) hz fun i p hp => ?_]
  · array_get_dec
    rfl
  · array_get_dec
    rw [times_ok (ha.at hp) hb]
    array_get_dec
def stillR (ps : List Rat) : Bool := ps.all fun q => decide (q = 0)
theorem is_still_ok {ps : List Rat} (hz : ps.length ≤ szLine) : v_p_is_still [vr ps] = .ok (.at (.bl (stillR ps))) := by
  unfold v_p_is_still
  array_get_dec
  unfold v_p_is_still.b
  array_get_dec
  rw [lc_bls (fun p => decide (p = 0)) hz fun i p hp => ?_]
  · array_get_dec
    rw [List.all_map]
    rfl
  · rw [cN]
    array_get_dec
    rw [pC_rv]
    array_get_dec
/-- products added up, the first k -/
def dot2 (ps qs : List Rat) (k : Nat) : Rat := sm k fun j => ps.getD j 0 * qs.getD j 0
def dot3 (ps qs ws : List Rat) (k : Nat) : Rat := sm k fun j => ps.getD j 0 * qs.getD j 0 * ws.getD j 0
theorem zipIdx_get {α : Type} {xs : List α} {i : Nat} {p : α × Nat} (h : xs.zipIdx[i]? = some p) : xs[i]? = some p.1 ∧ p.2 = i := by
  rw [List.getElem?_zipIdx] at h
  obtain ⟨x, h1, rfl⟩ := Option.map_eq_some_iff.mp h
  exact ⟨h1, Nat.zero_add i⟩
theorem dot_ok {ps qs : List Rat} (hl : ps.length = qs.length) (ha : OkA ps) (hb : OkA qs) (h1 : ∀ j, j < ps.length → Ok (ps.getD j 0 * qs.getD j 0)) (h2 : ∀ k, k ≤ ps.length → Ok (dot2 ps qs k)) :
    v_p_dot [vr ps, vr qs, .non] = .ok (.at (vq (dot2 ps qs ps.length))) := by
  unfold v_p_dot
  array_get_dec
  unfold v_p_dot.b
  rw [cN]
  array_get_dec
  rw [pC_rv]
  array_get_dec
  rw [forN_map (fun i => [none, some ⟨.fz, true, vr qs⟩, some (.at .non), some (.at (vq (dot2 ps qs i))), none, none, none]) ?_ fun i p hp => ?_]
  · array_get_dec
    rw [List.length_zipIdx]
  · rfl
  · obtain ⟨e1, e2⟩ := zipIdx_get hp
    have hi := (List.getElem?_eq_some_iff.mp e1).1
    rw [e2]
    array_get_dec
    have e3 : qs[i]? = some (qs.getD i 0) := get_of 0 (by omega)
    rw [qIx_r e3]
    array_get_dec
    have e4 := getD_of (d := 0) e1
    rw [times_ok (ha.at e1) (hb.at e3)]
    array_get_dec
    have h1 := h1 i hi
    rw [e4] at h1
    rw [plus_ok (h2 i (by omega)) h1]
    array_get_dec
    unfold dot2
    rw [show sm (i + 1) (fun j => ps.getD j 0 * qs.getD j 0) = sm i (fun j => ps.getD j 0 * qs.getD j 0) + ps.getD i 0 * qs.getD i 0 from rfl, e4]
theorem dotw_ok {ps qs ws : List Rat} (hl : ps.length = qs.length) (hl2 : ps.length = ws.length) (ha : OkA ps) (hb : OkA qs) (hc : OkA ws) (h0 : ∀ j, j < ps.length → Ok (ps.getD j 0 * qs.getD j 0)) (h1 : ∀ j, j < ps.length → Ok (ps.getD j 0 * qs.getD j 0 * ws.getD j 0)) (h2 : ∀ k, k ≤ ps.length → Ok (dot3 ps qs ws k)) :
    v_p_dot [vr ps, vr qs, vr ws] = .ok (.at (vq (dot3 ps qs ws ps.length))) := by
  unfold v_p_dot
  array_get_dec
  unfold v_p_dot.b
  rw [cN]
  array_get_dec
  rw [pC_rv]
  array_get_dec
  rw [forN_map (fun i => [none, some ⟨.fz, true, vr qs⟩, some ⟨.fz, true, vr ws⟩, some (.at (vq (dot3 ps qs ws i))), none, none, none]) ?_ fun i p hp => ?_]
  · array_get_dec
    rw [List.length_zipIdx]
  · rfl
  · obtain ⟨e1, e2⟩ := zipIdx_get hp
    have hi := (List.getElem?_eq_some_iff.mp e1).1
    rw [e2]
    array_get_dec
    have e3 : qs[i]? = some (qs.getD i 0) := get_of 0 (by omega)
    have e5 : ws[i]? = some (ws.getD i 0) := get_of 0 (by omega)
    rw [qIx_r e3]
    array_get_dec
    have e4 := getD_of (d := 0) e1
    rw [times_ok (ha.at e1) (hb.at e3)]
    array_get_dec
    have h0 := h0 i hi
    have h1 := h1 i hi
    rw [e4] at h0 h1
    rw [qIx_r e5]
    array_get_dec
    rw [times_ok h0 (hc.at e5)]
    array_get_dec
    rw [plus_ok (h2 i (by omega)) h1]
    array_get_dec
    unfold dot3
    rw [show sm (i + 1) (fun j => ps.getD j 0 * qs.getD j 0 * ws.getD j 0) = sm i (fun j => ps.getD j 0 * qs.getD j 0 * ws.getD j 0) + ps.getD i 0 * qs.getD i 0 * ws.getD i 0 from rfl, e4]
end Z
end
section
set_option Elab.async false
set_option autoImplicit false
set_option linter.all false
set_option maxRecDepth 100000
set_option maxHeartbeats 2000000
open Mn
local macro_rules | `(tactic| array_get_dec) => `(tactic| try simp (disch := first | assumption | rfl | decide | decide +kernel) only [pVar_k, vW_at, vW_fz, vW_fr, vW_dr, isB_dr, isD_dr, kqAsg_dr, kqAsgF_dr, kqRet_dr, pC_int, pC_bl, pC_str, pC_non, pC_t2, pBin_k, kq1_ok, kq1_exc, kq2_ok, kq2_exc, pUn_k, kqU_ok, kqU_exc, pAnd_k, kqAnd_t, kqAnd_f, pOr_k, kqOr_t, kqOr_f, pNot_k, kqNot_ok, pChain_k, kqC0_ok, kqC1_ok, kqC2_t, kqC2_f, kqC3_ok, pvL_nil, pvL_k, kqL1_ok, kqL1_exc, kqL2_ok, kqL2_exc, pTup_k, pLst_k, kqTup_exc, kqLst_exc, kqTup_1, kqTup_2, kqTup_3, kqTup_4, kqLst_0, kqLst_1, kqLst_2, kqLst_3, kqLst_4, anyB_nil, anyB_cons, anyT_nil, anyT_cons, at_fl, at_tn, at_t, mk_fl, mk_tn, mk_t, isB_fr, isB_fz, isB_bo, isB_bd, isD_fr, isD_fz, isD_bo, isD_bd, nW_k, elW_k, mkT_k, mkL_k, cond_true, cond_false, pCall_k, kqCall_ok, kqCall_exc, kqRes_ok, kqRes_exc, callW_at, callW_f, fn_1, fn_2, fn_3, fn_4, fn_5, fn_6, kqFn_nx, kqFn_ret, kqFn_exc, pSl_k, kqSl1_ok, kqSl2_ok, kqSl3_ok, pPart_n, pPart_s, kqPt_ok, pList_k, pRev_k, pEnum_k, pZip_k, kqZip1_ok, kqZip2_ok, pRange1_k, pRange2_k, kqR21_ok, kqR22_ok, pLc_k, killP_nil, killP_cons, ptName_at, ptName_fz, ptTup_a2, ptTup_a3, ptTup_f2, ptTup_f3, ptTup_q, ptAll_nil, ptAll_cons, kqAll_nx, pSeq_k, kqSeq2_nx, kqSeq2_ret, kqSeq2_ct, kqSeq2_bk, kqSeq2_exc, pPass_k, pCt_k, pBk_k, pRaise_k, pKl_k, pFz_k, frz_k, fzO_at, fzO_mk, fzO_none, fzW_at, fzW_mk, pAsg_k, kqAsg_at, kqAsg_fr, kqAsg_fz, kqAsg_exc, pAsgF_k, kqAsgF_at, kqAsgF_fr, kqAsgF_fz, kqAsgF_exc, pAsgT_k, kqAsgT_ok, kqTg_nx, kqAsgT_exc, pApp_k, pExt_k, pIns_k, kqIns1_ok, pSubA_k, kqSub1_ok, kqSub1_exc, pPar_k, kqPar_at, kqPar_1, kqPar_2, kqPar_3, pDrop_k, kqDrop_ok, kqDrop_exc, pRet_k, kqRet_at, kqRet_fr, kqRet_fz, kqRet_bo, kqRet_bd, kqRet_exc, pIf_k, kqIf_t, kqIf_f, kqIf_exc, pFor_k, kqFor_ok, pWhile_k, pTry_k, kqTry_nx, kqTry_ret, kqTry_exc, stepK_nx, stepK_ct, stepK_bk, stepK_ret, stepK_exc, stepF_nx, goF_nx, goF_bk, goF_ret, goF_exc, lcStep_nx, vq0, vq1, hL_q, hL_r, hL_t, hL_i, hL_int, hL_bl, hL_str, hL_non, hL_exc, hL_lst, hL_ro, hL_tup, hL_nil, hL_cons, hLs_q, hLs_i, hLs_bl, qEq_q, qNe_q, qEq_int, qNe_int, qEq_bl, qNe_bl, qEq_r, qNe_r, qEq_t, qNe_t, qEq_vi, qNe_vi, qAdd_int, qSub_int, qMul_int, qDiv_int, qDiv_sm, qMod_int, qPow_int, qDm_sm, qMax_int, qMin_int, qLt_int, qLe_int, qGt_int, qGe_int, qNeg_int, qAbs_int, qToInt_int, qToInt_bl, qIsN_at, qIsN_a, qNotN_at, qNotN_a, isNon_non, isNon_int, isNon_q, isNon_r, qIx_q0, qIx_q1, qLen_q, qLen_r, qLen_t, qLen_vi, qLen_l, qLen_ro, qLen_tp, qLen_ta, qIs_q, qIs_r, qIs_t, qIs_vi, qIs_l, qIs_ro, qIs_tp, qIs_ta, qIs_int, qIs_bl, qIs_str, qIs_non, qIs_exc, Z.pC_N, Z.pC_O, qIx_a0, qIx_a1, qIx_a2, qIx_a3, qIx_f0, qIx_f1, qIx_f2, kqSeq_r, kqSeq_vi, kqSeq_t, kqEnum_r, kqEnum_vi, kqEnum_t, zipOf_rr, zipOf_tr, zipOf_tt, qList_r, qAll_bl, qAny_bl, ty_tuple_tuple, ty_tuple_list, ty_tuple_int, ty_tuple_bool, ty_tuple_str, ty_tuple_NoneType, ty_list_tuple, ty_list_list, ty_list_int, ty_list_bool, ty_list_str, ty_list_NoneType, ty_int_tuple, ty_int_list, ty_int_int, ty_int_bool, ty_int_str, ty_int_NoneType, ty_bool_tuple, ty_bool_list, ty_bool_int, ty_bool_bool, ty_bool_str, ty_bool_NoneType, ty_str_tuple, ty_str_list, ty_str_int, ty_str_bool, ty_str_str, ty_str_NoneType, List.map_cons, List.map_nil, List.cons_append, List.nil_append, List.append_nil, List.reduceReplicate, Nat.reduceSub, List.getElem?_cons_zero, List.getElem?_cons_succ, List.set_cons_zero, List.set_cons_succ, List.length_cons, List.length_nil, Nat.zero_add, Nat.reduceAdd, decide_true, decide_false, beq_self_eq_true, Bool.not_true, Bool.not_false, Bool.or_false, Bool.or_true, Bool.false_or, Bool.true_or, Bool.and_false, Bool.and_true, Bool.false_and, Bool.true_and, Bool.and_self, Bool.or_self])
/-! The laws' own ratios over trees. -/
namespace Z
open Mn Y
theorem low_ok {m : Nat} {a b : Int} (hb0 : 0 < b) (hb : Lt2 m b) (hm : m ≤ 1000000000) (hd : m ≤ 9000 ∨ Sz 4500 (Rat.divInt a b)) : v_l_low [.int a, .int b] = .ok (.at (vq (Rat.divInt a b))) := by
  unfold v_l_low
  array_get_dec
  unfold v_l_low.b
  array_get_dec
  have e1 : ∀ x : Int, (if x < 0 then -x else x) = (x.natAbs : Int) := fun x => by split <;> omega
  rw [e1]
  have hbn : b ≠ 0 := by omega
  have e2 : b = (b.natAbs : Int) := by omega
  obtain ⟨⟨x, y⟩, hI, hp, hw⟩ := whileN_run (σ := Nat × Nat) (ks := []) (c := pBin qGt (pVar 3) (pC (.int 0))) (b := pPar 2 3 (pVar 3) (pBin qMod (pVar 2) (pVar 3)))
    (fun s => [some (.at (.int a)), some (.at (.int b)), some (.at (.int s.1)), some (.at (.int s.2))]) (fun s => Nat.gcd s.1 s.2 = Int.gcd a b) (fun s => est s.1 s.2) (fun s => decide (0 < (s.2 : Int))) (fun s => (s.2, s.1 % s.2))
    (fun s _ => by array_get_dec) (fun s hs hp => by
      have h0 : s.2 ≠ 0 := by
        have := of_decide_eq_true hp
        omega
      have h1 : (s.2 : Int) ≠ 0 := by omega
      refine ⟨?_, (gcd_step _ _).trans hs, ?_⟩
      · array_get_dec
        simp only [fmod_nat]
      · show est s.2 (s.1 % s.2) < est s.1 s.2
        rw [est_pos s.1 h0]
        omega) whileLine (a.natAbs, b.natAbs) rfl (est_line hb hm _)
  have ee : ([some (W.at (.int a)), some (W.at (.int b)), some (W.at (.int (a.natAbs : Int))), some (W.at (.int b))] : PEnv) = [some (.at (.int a)), some (.at (.int b)), some (.at (.int (a.natAbs : Int))), some (.at (.int (b.natAbs : Int)))] := by rw [← e2]
  rw [ee, hw]
  have hy : y = 0 := by
    have := of_decide_eq_false hp
    simp only at this
    omega
  subst hy
  have hx : x = Int.gcd a b := by simpa using hI
  subst hx
  have g0 : (Int.gcd a b : Int) ≠ 0 := by
    have : Int.gcd a b ≠ 0 := fun z => hbn (Int.gcd_eq_zero_iff.mp z).2
    omega
  obtain ⟨f1, f2⟩ := red_num (a := a) hbn
  obtain ⟨d1, d2⟩ := red_div hbn hb hd
  rw [if_neg (by omega)] at f1 f2 d1 d2
  array_get_dec
  rw [fdiv_dvd (Int.gcd_dvd_left a b) g0, fdiv_dvd (Int.gcd_dvd_right a b) g0]
  rw [← f1, ← f2]
  rfl
theorem den_pos (q : Rat) : (0 : Int) < q.den := by
  have := q.den_nz
  omega
theorem lplus_ok {p q : Rat} (hp : Ok p) (hq : Ok q) : v_l_plus_2 [vq p, vq q] = .ok (.at (vq (p + q))) := by
  have e1 := mulOk_lt hp.1 hq.den (by decide)
  have e2 := mulOk_lt hq.1 hp.den (by decide)
  have e3 := mulOk_lt hp.den hq.den (by decide)
  unfold v_l_plus_2
  array_get_dec
  unfold v_l_plus_2.b
  array_get_dec
  rw [low_ok (Int.mul_pos (den_pos p) (den_pos q)) (hp.den.mul hq.den) (by decide) (.inl (by decide)), rat_add]
  array_get_dec
theorem ltimes_ok {p q : Rat} (hp : Ok p) (hq : Ok q) : v_l_times_2 [vq p, vq q] = .ok (.at (vq (p * q))) := by
  have e1 := mulOk_lt hp.1 hq.1 (by decide)
  have e3 := mulOk_lt hp.den hq.den (by decide)
  unfold v_l_times_2
  array_get_dec
  unfold v_l_times_2.b
  array_get_dec
  rw [low_ok (Int.mul_pos (den_pos p) (den_pos q)) (hp.den.mul hq.den) (by decide) (.inl (by decide)), rat_mul]
  array_get_dec
theorem whole_ok (i : Int) : v_l_whole [.int i] = .ok (.at (.bl true)) := by
  unfold v_l_whole
  array_get_dec
  unfold v_l_whole.b
  array_get_dec
theorem is_ratio_ok {q : Rat} (hq : Ok q) : v_p_is_ratio [vq q] = .ok (.at (.bl true)) := by
  unfold v_p_is_ratio
  array_get_dec
  unfold v_p_is_ratio.b
  array_get_dec
  rw [whole_ok]
  array_get_dec
  rw [whole_ok]
  array_get_dec
  rw [show decide ((0 : Int) < q.den) = true from decide_eq_true (den_pos q)]
  array_get_dec
  rw [v_shared_ok hq.den (by decide)]
  array_get_dec
  rw [show Int.gcd q.num q.den = 1 by
    have := q.reduced
    unfold Int.gcd
    rw [Int.natAbs_natCast]
    exact this]
  rfl
/-- the cell at a place, 0 where there is none -/
theorem cell_ok (ns : List Int) (k : Nat) : v_l_cell_at [.ro (ns.map .int), .int k] = .ok (.at (.int (ns.getD k 0))) := by
  unfold v_l_cell_at
  array_get_dec
  unfold v_l_cell_at.b
  array_get_dec
  rw [List.length_map]
  by_cases h : (k : Int) < (ns.length : Int)
  · rw [decide_eq_true h]
    array_get_dec
    rw [qIx_ro (x := .int (ns.getD k 0)) (by rw [List.getElem?_map, get_of (0 : Int) (by omega : k < ns.length)]; rfl)]
    array_get_dec
  · rw [decide_eq_false h]
    array_get_dec
    rw [List.getD_eq_getElem?_getD, List.getElem?_eq_none (by omega)]
    rfl
end Z
end
section
set_option Elab.async false
set_option autoImplicit false
set_option linter.all false
set_option maxRecDepth 100000
set_option maxHeartbeats 2000000
open Mn
local macro_rules | `(tactic| array_get_dec) => `(tactic| try simp (disch := first | assumption | rfl | decide | decide +kernel) only [pVar_k, vW_at, vW_fz, vW_fr, vW_dr, isB_dr, isD_dr, kqAsg_dr, kqAsgF_dr, kqRet_dr, pC_int, pC_bl, pC_str, pC_non, pC_t2, pBin_k, kq1_ok, kq1_exc, kq2_ok, kq2_exc, pUn_k, kqU_ok, kqU_exc, pAnd_k, kqAnd_t, kqAnd_f, pOr_k, kqOr_t, kqOr_f, pNot_k, kqNot_ok, pChain_k, kqC0_ok, kqC1_ok, kqC2_t, kqC2_f, kqC3_ok, pvL_nil, pvL_k, kqL1_ok, kqL1_exc, kqL2_ok, kqL2_exc, pTup_k, pLst_k, kqTup_exc, kqLst_exc, kqTup_1, kqTup_2, kqTup_3, kqTup_4, kqLst_0, kqLst_1, kqLst_2, kqLst_3, kqLst_4, anyB_nil, anyB_cons, anyT_nil, anyT_cons, at_fl, at_tn, at_t, mk_fl, mk_tn, mk_t, isB_fr, isB_fz, isB_bo, isB_bd, isD_fr, isD_fz, isD_bo, isD_bd, nW_k, elW_k, mkT_k, mkL_k, cond_true, cond_false, pCall_k, kqCall_ok, kqCall_exc, kqRes_ok, kqRes_exc, callW_at, callW_f, fn_1, fn_2, fn_3, fn_4, fn_5, fn_6, kqFn_nx, kqFn_ret, kqFn_exc, pSl_k, kqSl1_ok, kqSl2_ok, kqSl3_ok, pPart_n, pPart_s, kqPt_ok, pList_k, pRev_k, pEnum_k, pZip_k, kqZip1_ok, kqZip2_ok, pRange1_k, pRange2_k, kqR21_ok, kqR22_ok, pLc_k, killP_nil, killP_cons, ptName_at, ptName_fz, ptTup_a2, ptTup_a3, ptTup_f2, ptTup_f3, ptTup_q, ptAll_nil, ptAll_cons, kqAll_nx, pSeq_k, kqSeq2_nx, kqSeq2_ret, kqSeq2_ct, kqSeq2_bk, kqSeq2_exc, pPass_k, pCt_k, pBk_k, pRaise_k, pKl_k, pFz_k, frz_k, fzO_at, fzO_mk, fzO_none, fzW_at, fzW_mk, pAsg_k, kqAsg_at, kqAsg_fr, kqAsg_fz, kqAsg_exc, pAsgF_k, kqAsgF_at, kqAsgF_fr, kqAsgF_fz, kqAsgF_exc, pAsgT_k, kqAsgT_ok, kqTg_nx, kqAsgT_exc, pApp_k, pExt_k, pIns_k, kqIns1_ok, pSubA_k, kqSub1_ok, kqSub1_exc, pPar_k, kqPar_at, kqPar_1, kqPar_2, kqPar_3, pDrop_k, kqDrop_ok, kqDrop_exc, pRet_k, kqRet_at, kqRet_fr, kqRet_fz, kqRet_bo, kqRet_bd, kqRet_exc, pIf_k, kqIf_t, kqIf_f, kqIf_exc, pFor_k, kqFor_ok, pWhile_k, pTry_k, kqTry_nx, kqTry_ret, kqTry_exc, stepK_nx, stepK_ct, stepK_bk, stepK_ret, stepK_exc, stepF_nx, goF_nx, goF_bk, goF_ret, goF_exc, lcStep_nx, vq0, vq1, hL_q, hL_r, hL_t, hL_i, hL_int, hL_bl, hL_str, hL_non, hL_exc, hL_lst, hL_ro, hL_tup, hL_nil, hL_cons, hLs_q, hLs_i, hLs_bl, qEq_q, qNe_q, qEq_int, qNe_int, qEq_bl, qNe_bl, qEq_r, qNe_r, qEq_t, qNe_t, qEq_vi, qNe_vi, qAdd_int, qSub_int, qMul_int, qDiv_int, qDiv_sm, qMod_int, qPow_int, qDm_sm, qMax_int, qMin_int, qLt_int, qLe_int, qGt_int, qGe_int, qNeg_int, qAbs_int, qToInt_int, qToInt_bl, qIsN_at, qIsN_a, qNotN_at, qNotN_a, isNon_non, isNon_int, isNon_q, isNon_r, qIx_q0, qIx_q1, qLen_q, qLen_r, qLen_t, qLen_vi, qLen_l, qLen_ro, qLen_tp, qLen_ta, qIs_q, qIs_r, qIs_t, qIs_vi, qIs_l, qIs_ro, qIs_tp, qIs_ta, qIs_int, qIs_bl, qIs_str, qIs_non, qIs_exc, Z.pC_N, Z.pC_O, qIx_a0, qIx_a1, qIx_a2, qIx_a3, qIx_f0, qIx_f1, qIx_f2, kqSeq_r, kqSeq_vi, kqSeq_t, kqEnum_r, kqEnum_vi, kqEnum_t, zipOf_rr, zipOf_tr, zipOf_tt, qList_r, qAll_bl, qAny_bl, ty_tuple_tuple, ty_tuple_list, ty_tuple_int, ty_tuple_bool, ty_tuple_str, ty_tuple_NoneType, ty_list_tuple, ty_list_list, ty_list_int, ty_list_bool, ty_list_str, ty_list_NoneType, ty_int_tuple, ty_int_list, ty_int_int, ty_int_bool, ty_int_str, ty_int_NoneType, ty_bool_tuple, ty_bool_list, ty_bool_int, ty_bool_bool, ty_bool_str, ty_bool_NoneType, ty_str_tuple, ty_str_list, ty_str_int, ty_str_bool, ty_str_str, ty_str_NoneType, List.map_cons, List.map_nil, List.cons_append, List.nil_append, List.append_nil, List.reduceReplicate, Nat.reduceSub, List.getElem?_cons_zero, List.getElem?_cons_succ, List.set_cons_zero, List.set_cons_succ, List.length_cons, List.length_nil, Nat.zero_add, Nat.reduceAdd, decide_true, decide_false, beq_self_eq_true, Bool.not_true, Bool.not_false, Bool.or_false, Bool.or_true, Bool.false_or, Bool.true_or, Bool.and_false, Bool.and_true, Bool.false_and, Bool.true_and, Bool.and_self, Bool.or_self])
/-! The laws' own tables: drawn ratios, rows, tables. -/
namespace Z
open Mn Y
/-- a bounded number that is drawn -/
def Gt (n : Nat) : Prop := n < 10 ^ 90
theorem great8_ok {z : Int} (hz : bits z ≤ 1048576) : ∃ n : Nat, Gt n ∧ v_l_great_8 [.int z] = .ok (.at (.int n)) := by
  have a1 : Lt2 200 ((10 : Int) ^ (60 : Int).toNat) := by decide +kernel
  have a2 : Lt2 80 ((10 : Int) ^ (24 : Int).toNat) := by decide +kernel
  have a3 : Lt2 290 ((23 : Int) ^ (64 : Int).toNat) := by decide +kernel
  have m1 := mulOk_lt a1 a2 (by decide)
  have n1 : (10 : Int) ^ (60 : Int).toNat ≠ 0 := by decide +kernel
  have n2 : (10 : Int) ^ (60 : Int).toNat * 10 ^ (24 : Int).toNat ≠ 0 := by decide +kernel
  have p1 : (0 : Int) < (10 : Int) ^ (60 : Int).toNat := by decide +kernel
  obtain ⟨k, hk, ek⟩ : ∃ k : Nat, k < 10 ^ 60 ∧ Int.fmod z ((10 : Int) ^ (60 : Int).toNat) = (k : Int) := by
    rw [Int.fmod_eq_emod_of_nonneg _ (Int.le_of_lt p1)]
    have g1 := Int.emod_nonneg z n1
    have g2 := Int.emod_lt_of_pos z p1
    have e : (10 : Int) ^ (60 : Int).toNat = 10 ^ 60 := by decide +kernel
    rw [e] at g1 g2 ⊢
    generalize z % 10 ^ 60 = w at *
    obtain ⟨k, rfl⟩ := Int.eq_ofNat_of_zero_le g1
    exact ⟨k, by omega, rfl⟩
  have hk2 : Lt2 210 ((k : Int) + 41) := by
    have : k + 41 < 2 ^ 210 := Nat.lt_of_lt_of_le (show k + 41 < 10 ^ 60 + 41 by omega) (by decide +kernel)
    unfold Lt2
    omega
  have m2 := mulOk_lt hk2 a3 (by decide)
  unfold v_l_great_8
  array_get_dec
  unfold v_l_great_8.b
  array_get_dec
  rw [ek]
  array_get_dec
  generalize ((k : Int) + 41) * 23 ^ (64 : Int).toNat = y
  have e : (10 : Int) ^ (60 : Int).toNat * 10 ^ (24 : Int).toNat = 10 ^ 84 := by decide +kernel
  rw [e]
  rw [Int.fmod_eq_emod_of_nonneg _ (by decide +kernel)]
  have g1 := Int.emod_nonneg y (show (10 : Int) ^ 84 ≠ 0 by decide +kernel)
  have g2 := Int.emod_lt_of_pos y (show (0 : Int) < 10 ^ 84 by decide +kernel)
  generalize y % 10 ^ 84 = w at *
  obtain ⟨k, rfl⟩ := Int.eq_ofNat_of_zero_le g1
  exact ⟨k, by unfold Gt; omega, rfl⟩
theorem div_nat (a b : Nat) : (a : Int) / (b : Int) = ((a / b : Nat) : Int) := rfl
theorem mod_nat (a b : Nat) : (a : Int) % (b : Int) = ((a % b : Nat) : Int) := rfl
theorem fdiv_nat (a b : Nat) : Int.fdiv (a : Int) (b : Int) = ((a / b : Nat) : Int) := by
  rw [Int.fdiv_eq_ediv_of_nonneg _ (by omega)]
  rfl
theorem SmD_nat {b : Nat} (h : b < 2 ^ 9000) : SmD (b : Int) := smD_lt (n := 9000) (by unfold Lt2; omega) (Nat.le_refl _)
/-- the bottoms that are drawn -/
def bots : List Nat := [1, 1, 1, 2, 3, 4, 6, 12]
theorem bots_dvd : ∀ b ∈ bots, b ∣ 12 ∧ 0 < b ∧ b < 2 ^ 4 := by decide
/-- drawn ratios: twelve times it is whole -/
def Dr (N : Nat) (q : Rat) : Prop := Qd 12 N q
theorem Dr.ok {N : Nat} {q : Rat} (h : Dr N q) (hN : N < 2 ^ 4500) : Ok q := h.sz (by decide) (Nat.lt_of_lt_of_le (show (12 : Nat) < 2 ^ 4 by decide) (Nat.pow_le_pow_right (by decide) (by decide))) hN
theorem dr_small {t b : Nat} (ht : t < 19) (hb : b ∈ bots) : Dr 108 (Rat.divInt ((t : Int) - 9) (b : Nat)) := by
  obtain ⟨h1, h2, h3⟩ := bots_dvd b hb
  refine ((Qd.divInt h2).dvd (by decide) h1).mono ?_
  have : ((t : Int) - 9).natAbs ≤ 9 := by omega
  have k : 12 / b ≤ 12 := Nat.div_le_self _ _
  calc ((t : Int) - 9).natAbs * (12 / b) ≤ 9 * 12 := Nat.mul_le_mul this k
    _ = 108 := rfl
theorem ratio3_ok {n : Nat} (hn : Gt n) : ∃ (m : Nat) (q : Rat), Gt m ∧ Dr (12 * 10 ^ 20) q ∧ v_l_ratio_3 [.int n] = .ok (.at (.tup [.int m, vq q])) := by
  have s8 : SmD ((8 : Nat) : Int) := SmD_nat (Nat.lt_of_lt_of_le (by decide : 8 < 2 ^ 4) (Nat.pow_le_pow_right (by decide) (by decide)))
  have s19 : SmD ((19 : Nat) : Int) := SmD_nat (Nat.lt_of_lt_of_le (by decide : 19 < 2 ^ 5) (Nat.pow_le_pow_right (by decide) (by decide)))
  have s1000 : SmD ((1000 : Nat) : Int) := SmD_nat (Nat.lt_of_lt_of_le (by decide : 1000 < 2 ^ 10) (Nat.pow_le_pow_right (by decide) (by decide)))
  have a0 : (0 : Int) < 8 := by decide
  have a1 : (0 : Int) < 19 := by decide
  have a2 : (1000 : Int) ≠ 0 := by decide
  replace s8 : SmD 8 := s8
  replace s19 : SmD 19 := s19
  replace s1000 : SmD 1000 := s1000
  unfold v_l_ratio_3
  array_get_dec
  unfold v_l_ratio_3.b
  array_get_dec
  rw [show (n : Int) / 8 = ((n / 8 : Nat) : Int) from rfl, show (n : Int) % 8 = ((n % 8 : Nat) : Int) from rfl, show ((n / 8 : Nat) : Int) / 19 = ((n / 8 / 19 : Nat) : Int) from rfl, show ((n / 8 : Nat) : Int) % 19 = ((n / 8 % 19 : Nat) : Int) from rfl]
  have l1 : n / 8 / 19 ≤ n := by omega
  have hg : Gt (n / 8 / 19) := by unfold Gt at *; omega
  have hw : n % 8 < 8 := Nat.mod_lt _ (by decide)
  have ht : n / 8 % 19 < 19 := Nat.mod_lt _ (by decide)
  generalize n / 8 / 19 = m at *
  generalize n % 8 = w at *
  generalize n / 8 % 19 = t at *
  by_cases h7 : (w : Int) = 7
  · rw [decide_eq_true h7]
    have b1 : Lt2 80 ((10 : Int) ^ (19 : Int).toNat) := by decide +kernel
    have b2 : mulOk 5 ((10 : Int) ^ (19 : Int).toNat) = true := mulOk_lt (m := 4) (by decide) b1 (by decide)
    have b3 : (10 : Int) ^ (20 : Int).toNat ≠ 0 := by decide +kernel
    array_get_dec
    rw [vq_n]
    rw [show Int.fdiv (m : Int) 1000 = ((m / 1000 : Nat) : Int) from fdiv_nat m 1000]
    refine ⟨_, _, by unfold Gt at *; omega, ?_, rfl⟩
    have e1 : (10 : Int) ^ (20 : Int).toNat = 10 ^ 20 := by decide +kernel
    have e2 : 5 * (10 : Int) ^ (19 : Int).toNat = 5 * 10 ^ 19 := by decide +kernel
    rw [e1, e2, Int.fmod_eq_emod_of_nonneg _ (by decide +kernel)]
    have g1 := Int.emod_nonneg (m : Int) (show (10 : Int) ^ 20 ≠ 0 by decide +kernel)
    have g2 := Int.emod_lt_of_pos (m : Int) (show (0 : Int) < 10 ^ 20 by decide +kernel)
    generalize (m : Int) % 10 ^ 20 = w at *
    exact ((Qd.int (w - 5 * 10 ^ 19)).dvd (by decide) (by decide)).mono (by omega)
  · rw [decide_eq_false h7]
    array_get_dec
    have hx : [V.int 1, V.int 1, V.int 1, V.int 2, V.int 3, V.int 4, V.int 6, V.int 12][w]? = some (.int ((bots.getD w 1 : Nat) : Int)) := by
      rcases w with _ | _ | _ | _ | _ | _ | _ | _ | w <;> first | rfl | omega
    have hm : bots.getD w 1 ∈ bots := by
      rcases w with _ | _ | _ | _ | _ | _ | _ | _ | w <;> first | decide | omega
    rw [kqLst_ok (by decide)]
    array_get_dec
    rw [qIx_l hx]
    array_get_dec
    generalize bots.getD w 1 = b at *
    obtain ⟨h1, h2, h3⟩ := bots_dvd b hm
    rw [low_ok (m := 4) (by omega) (by unfold Lt2; omega) (by decide) (.inl (by decide))]
    array_get_dec
    refine ⟨_, _, hg, (dr_small ht hm).mono (by decide), rfl⟩
/-- a function that draws a ratio, tells what is left of the number too -/
def Draws (R : PF) : Prop := ∀ n, Gt n → ∃ (m : Nat) (q : Rat), Gt m ∧ Dr (12 * 10 ^ 20) q ∧ R [.int n] = .ok (.at (.tup [.int m, vq q]))
theorem draws3 : Draws v_l_ratio_3 := fun _ h => ratio3_ok h
def vRow (R : PF) : PF := pFn 2 5 (pSeq (pAsg 2 (pLst [])) (pSeq (pFor [1, 3, 4] (pRange1 (pVar 1)) (ptName 3) (pSeq (pAsgT (ptTup [ptName 0, ptName 4]) (pCall R [pVar 0])) (pApp 2 (pVar 4)))) (pRet (pVar 2))))
theorem row_ok {R : PF} (hR : Draws R) {n L : Nat} (hn : Gt n) (hL : L ≤ 1000) : ∃ qs : List Rat, qs.length = L ∧ QdA 12 (12 * 10 ^ 20) qs ∧ vRow R [.int n, .int L] = .ok ⟨.fr, false, vr qs⟩ := by
  have szl : szLine = 16777216 := rfl
  unfold vRow
  array_get_dec
  rw [kqR1_nat (by omega)]
  array_get_dec
  obtain ⟨⟨m, qs⟩, ⟨h1, h2, h3⟩, e⟩ := forN_ex (ks := [1, 3, 4]) (t := ptName 3) (b := pSeq (pAsgT (ptTup [ptName 0, ptName 4]) (pCall R [pVar 0])) (pApp 2 (pVar 4))) (g := fun i : Nat => W.at (.int (i : Int))) (σ := Nat × List Rat)
    (fun s => [some (.at (.int s.1)), none, some ⟨.fr, false, vr s.2⟩, none, none]) (fun i s => Gt s.1 ∧ s.2.length = i ∧ QdA 12 (12 * 10 ^ 20) s.2) (xs := List.range L)
    (fun i x s hx hs => by
      obtain ⟨a, b, c⟩ := hs
      have hi := (List.getElem?_eq_some_iff.mp hx).1
      rw [List.length_range] at hi
      obtain ⟨m', q, g', d', e'⟩ := hR _ a
      refine ⟨(m', s.2 ++ [q]), ⟨g', by rw [List.length_append, b]; rfl, fun p hp => ?_⟩, ?_⟩
      · rcases List.mem_append.mp hp with hp | hp
        · exact c p hp
        · rw [List.mem_singleton.mp hp]
          exact d'
      · array_get_dec
        rw [e']
        array_get_dec
        rw [kqApp_ok (ts := s.2.map vq) (tn := false) _ rfl rfl (by rw [List.length_map]; omega)]
        array_get_dec
        rw [show s.2.map vq ++ [vq q] = (s.2 ++ [q]).map vq by rw [List.map_append]; rfl]
        rfl) (n, []) ⟨hn, rfl, fun q h => by cases h⟩
  rw [show (⟨.fr, false, V.lst []⟩ : W) = ⟨.fr, false, vr []⟩ from rfl, e]
  array_get_dec
  rw [List.length_range] at h2
  exact ⟨qs, h2, h3, rfl⟩
end Z
end
section
set_option Elab.async false
set_option autoImplicit false
set_option linter.all false
set_option maxRecDepth 100000
set_option maxHeartbeats 2000000
open Mn
local macro_rules | `(tactic| array_get_dec) => `(tactic| try simp (disch := first | assumption | rfl | decide | decide +kernel) only [pVar_k, vW_at, vW_fz, vW_fr, vW_dr, isB_dr, isD_dr, kqAsg_dr, kqAsgF_dr, kqRet_dr, pC_int, pC_bl, pC_str, pC_non, pC_t2, pBin_k, kq1_ok, kq1_exc, kq2_ok, kq2_exc, pUn_k, kqU_ok, kqU_exc, pAnd_k, kqAnd_t, kqAnd_f, pOr_k, kqOr_t, kqOr_f, pNot_k, kqNot_ok, pChain_k, kqC0_ok, kqC1_ok, kqC2_t, kqC2_f, kqC3_ok, pvL_nil, pvL_k, kqL1_ok, kqL1_exc, kqL2_ok, kqL2_exc, pTup_k, pLst_k, kqTup_exc, kqLst_exc, kqTup_1, kqTup_2, kqTup_3, kqTup_4, kqLst_0, kqLst_1, kqLst_2, kqLst_3, kqLst_4, anyB_nil, anyB_cons, anyT_nil, anyT_cons, at_fl, at_tn, at_t, mk_fl, mk_tn, mk_t, isB_fr, isB_fz, isB_bo, isB_bd, isD_fr, isD_fz, isD_bo, isD_bd, nW_k, elW_k, mkT_k, mkL_k, cond_true, cond_false, pCall_k, kqCall_ok, kqCall_exc, kqRes_ok, kqRes_exc, callW_at, callW_f, fn_1, fn_2, fn_3, fn_4, fn_5, fn_6, kqFn_nx, kqFn_ret, kqFn_exc, pSl_k, kqSl1_ok, kqSl2_ok, kqSl3_ok, pPart_n, pPart_s, kqPt_ok, pList_k, pRev_k, pEnum_k, pZip_k, kqZip1_ok, kqZip2_ok, pRange1_k, pRange2_k, kqR21_ok, kqR22_ok, pLc_k, killP_nil, killP_cons, ptName_at, ptName_fz, ptTup_a2, ptTup_a3, ptTup_f2, ptTup_f3, ptTup_q, ptAll_nil, ptAll_cons, kqAll_nx, pSeq_k, kqSeq2_nx, kqSeq2_ret, kqSeq2_ct, kqSeq2_bk, kqSeq2_exc, pPass_k, pCt_k, pBk_k, pRaise_k, pKl_k, pFz_k, frz_k, fzO_at, fzO_mk, fzO_none, fzW_at, fzW_mk, pAsg_k, kqAsg_at, kqAsg_fr, kqAsg_fz, kqAsg_exc, pAsgF_k, kqAsgF_at, kqAsgF_fr, kqAsgF_fz, kqAsgF_exc, pAsgT_k, kqAsgT_ok, kqTg_nx, kqAsgT_exc, pApp_k, pExt_k, pIns_k, kqIns1_ok, pSubA_k, kqSub1_ok, kqSub1_exc, pPar_k, kqPar_at, kqPar_1, kqPar_2, kqPar_3, pDrop_k, kqDrop_ok, kqDrop_exc, pRet_k, kqRet_at, kqRet_fr, kqRet_fz, kqRet_bo, kqRet_bd, kqRet_exc, pIf_k, kqIf_t, kqIf_f, kqIf_exc, pFor_k, kqFor_ok, pWhile_k, pTry_k, kqTry_nx, kqTry_ret, kqTry_exc, stepK_nx, stepK_ct, stepK_bk, stepK_ret, stepK_exc, stepF_nx, goF_nx, goF_bk, goF_ret, goF_exc, lcStep_nx, vq0, vq1, hL_q, hL_r, hL_t, hL_i, hL_int, hL_bl, hL_str, hL_non, hL_exc, hL_lst, hL_ro, hL_tup, hL_nil, hL_cons, hLs_q, hLs_i, hLs_bl, qEq_q, qNe_q, qEq_int, qNe_int, qEq_bl, qNe_bl, qEq_r, qNe_r, qEq_t, qNe_t, qEq_vi, qNe_vi, qAdd_int, qSub_int, qMul_int, qDiv_int, qDiv_sm, qMod_int, qPow_int, qDm_sm, qMax_int, qMin_int, qLt_int, qLe_int, qGt_int, qGe_int, qNeg_int, qAbs_int, qToInt_int, qToInt_bl, qIsN_at, qIsN_a, qNotN_at, qNotN_a, isNon_non, isNon_int, isNon_q, isNon_r, qIx_q0, qIx_q1, qLen_q, qLen_r, qLen_t, qLen_vi, qLen_l, qLen_ro, qLen_tp, qLen_ta, qIs_q, qIs_r, qIs_t, qIs_vi, qIs_l, qIs_ro, qIs_tp, qIs_ta, qIs_int, qIs_bl, qIs_str, qIs_non, qIs_exc, Z.pC_N, Z.pC_O, qIx_a0, qIx_a1, qIx_a2, qIx_a3, qIx_f0, qIx_f1, qIx_f2, kqSeq_r, kqSeq_vi, kqSeq_t, kqEnum_r, kqEnum_vi, kqEnum_t, zipOf_rr, zipOf_tr, zipOf_tt, qList_r, qAll_bl, qAny_bl, ty_tuple_tuple, ty_tuple_list, ty_tuple_int, ty_tuple_bool, ty_tuple_str, ty_tuple_NoneType, ty_list_tuple, ty_list_list, ty_list_int, ty_list_bool, ty_list_str, ty_list_NoneType, ty_int_tuple, ty_int_list, ty_int_int, ty_int_bool, ty_int_str, ty_int_NoneType, ty_bool_tuple, ty_bool_list, ty_bool_int, ty_bool_bool, ty_bool_str, ty_bool_NoneType, ty_str_tuple, ty_str_list, ty_str_int, ty_str_bool, ty_str_str, ty_str_NoneType, List.map_cons, List.map_nil, List.cons_append, List.nil_append, List.append_nil, List.reduceReplicate, Nat.reduceSub, List.getElem?_cons_zero, List.getElem?_cons_succ, List.set_cons_zero, List.set_cons_succ, List.length_cons, List.length_nil, Nat.zero_add, Nat.reduceAdd, decide_true, decide_false, beq_self_eq_true, Bool.not_true, Bool.not_false, Bool.or_false, Bool.or_true, Bool.false_or, Bool.true_or, Bool.and_false, Bool.and_true, Bool.false_and, Bool.true_and, Bool.and_self, Bool.or_self])
/-! Mixes, turned tables, products, units; the laws' tables. -/
namespace Z
open Mn Y
theorem zip_get {α β γ : Type} (f : α → β → γ) {xs : List α} {ys : List β} {i : Nat} {z : γ} (h : (List.zipWith f xs ys)[i]? = some z) : ∃ x y, xs[i]? = some x ∧ ys[i]? = some y ∧ f x y = z := by
  rw [List.getElem?_zipWith] at h
  cases hx : xs[i]? with
  | none =>
    rw [hx] at h
    cases h
  | some x =>
    rw [hx] at h
    cases hy : ys[i]? with
    | none =>
      rw [hy] at h
      cases h
    | some y =>
      rw [hy] at h
      exact ⟨x, y, rfl, rfl, Option.some.inj h⟩
def el (rs : List (List Rat)) (i j : Nat) : Rat := (rs.getD i []).getD j 0
/-- the first k rows, each times its share, added up -/
def mixK (L : Nat) (rs : List (List Rat)) (ss : List Rat) : Nat → List Rat
  | 0 => List.replicate L 0
  | k + 1 => addR (mixK L rs ss k) (scR (rs.getD k []) (ss.getD k 0))
theorem addR_len {ps qs : List Rat} (h : ps.length ≤ qs.length) : (addR ps qs).length = ps.length := by
  unfold addR
  rw [List.length_zipWith]
  omega
theorem scR_len (ps : List Rat) (q : Rat) : (scR ps q).length = ps.length := List.length_map ..
theorem mixK_len {L : Nat} {rs : List (List Rat)} {ss : List Rat} (hL : ∀ r ∈ rs, r.length = L) : ∀ k, k ≤ rs.length → (mixK L rs ss k).length = L
  | 0, _ => List.length_replicate
  | k + 1, h => by
    unfold mixK
    have h1 := mixK_len (ss := ss) hL k (by omega)
    have h2 : (rs.getD k []).length = L := by
      have := get_of [] (show k < rs.length by omega)
      exact hL _ (List.mem_of_getElem? this)
    rw [addR_len (by rw [scR_len, h1, h2]; exact Nat.le_refl _), h1]
theorem addR_get {ps qs : List Rat} {c : Nat} (h : c < ps.length) (h' : c < qs.length) : (addR ps qs).getD c 0 = ps.getD c 0 + qs.getD c 0 := by
  unfold addR
  rw [List.getD_eq_getElem?_getD, List.getElem?_zipWith, get_of (0 : Rat) h, get_of (0 : Rat) h']
  rfl
theorem subR_get {ps qs : List Rat} {c : Nat} (h : c < ps.length) (h' : c < qs.length) : (subR ps qs).getD c 0 = ps.getD c 0 - qs.getD c 0 := by
  unfold subR
  rw [List.getD_eq_getElem?_getD, List.getElem?_zipWith, get_of (0 : Rat) h, get_of (0 : Rat) h']
  rfl
theorem scR_get {ps : List Rat} {q : Rat} {c : Nat} : (scR ps q).getD c 0 = ps.getD c 0 * q := by
  unfold scR
  rw [List.getD_eq_getElem?_getD, List.getElem?_map, List.getD_eq_getElem?_getD]
  cases ps[c]? with
  | none => exact (Rat.zero_mul q).symm
  | some x => rfl
theorem mixK_get {L : Nat} {rs : List (List Rat)} {ss : List Rat} {c : Nat} (hc : c < L) (hL : ∀ r ∈ rs, r.length = L) : ∀ k, k ≤ rs.length → (mixK L rs ss k).getD c 0 = sm k fun j => el rs j c * ss.getD j 0
  | 0, _ => by
    unfold mixK sm
    rw [List.getD_eq_getElem?_getD, List.getElem?_replicate, if_pos hc]
    rfl
  | k + 1, h => by
    have h2 : (rs.getD k []).length = L := hL _ (List.mem_of_getElem? (get_of [] (show k < rs.length by omega)))
    unfold mixK
    rw [addR_get (by rw [mixK_len hL k (by omega)]; exact hc) (by rw [scR_len, h2]; exact hc), mixK_get hc hL k (by omega), scR_get]
    rfl
theorem all_getD {P : Rat → Prop} {qs : List Rat} (h : ∀ c, c < qs.length → P (qs.getD c 0)) : ∀ q ∈ qs, P q := fun q hq => by
  obtain ⟨i, hi⟩ := List.mem_iff_getElem?.mp hq
  have := h i (List.getElem?_eq_some_iff.mp hi).1
  rw [getD_of hi] at this
  exact this
theorem QdA.getD {D N : Nat} {qs : List Rat} (h : QdA D N qs) (c : Nat) : Qd D N (qs.getD c 0) := by
  rw [List.getD_eq_getElem?_getD]
  cases e : qs[c]? with
  | none => exact Qd.zero D N
  | some q => exact h.at e
theorem QdA.el {D N : Nat} {rs : List (List Rat)} (h : ∀ r ∈ rs, QdA D N r) (i j : Nat) : Qd D N (el rs i j) := by
  unfold Z.el
  rw [List.getD_eq_getElem?_getD (l := rs)]
  cases e : rs[i]? with
  | none => exact Qd.zero D N
  | some r => exact QdA.getD (h r (List.mem_of_getElem? e)) j
theorem mixK_qd {L D N E M : Nat} {rs : List (List Rat)} {ss : List Rat} (hL : ∀ r ∈ rs, r.length = L) (hr : ∀ r ∈ rs, QdA D N r) (hs : QdA E M ss) (k : Nat) (hk : k ≤ rs.length) : QdA (D * E) (k * (N * M)) (mixK L rs ss k) := by
  refine all_getD fun c hc => ?_
  rw [mixK_len hL k hk] at hc
  rw [mixK_get hc hL k hk]
  exact Qd.sm fun j _ => (QdA.el hr j c).mul (QdA.getD hs j)
theorem scR_qd {D N E M : Nat} {ps : List Rat} {q : Rat} (h : QdA D N ps) (k : Qd E M q) : QdA (D * E) (N * M) (scR ps q) := fun r hr => by
  obtain ⟨p, hp, rfl⟩ := List.mem_map.mp hr
  exact (h p hp).mul k
theorem addR_qd {D N M : Nat} {ps qs : List Rat} (h : QdA D N ps) (k : QdA D M qs) : QdA D (N + M) (addR ps qs) := fun r hr => by
  obtain ⟨i, hi⟩ := List.mem_iff_getElem?.mp hr
  obtain ⟨p, q, hp, hq, rfl⟩ := zip_get _ hi
  exact (h.at hp).add (k.at hq)
theorem subR_qd {D N M : Nat} {ps qs : List Rat} (h : QdA D N ps) (k : QdA D M qs) : QdA D (N + M) (subR ps qs) := fun r hr => by
  obtain ⟨i, hi⟩ := List.mem_iff_getElem?.mp hr
  obtain ⟨p, q, hp, hq, rfl⟩ := zip_get _ hi
  exact (h.at hp).sub (k.at hq)
theorem okA_rep (L : Nat) : OkA (List.replicate L 0) := fun q hq => by
  rw [(List.mem_replicate.mp hq).2]
  exact Ok0
theorem mixed_ok {L : Nat} {rs : List (List Rat)} {ss : List Rat} (hl : rs.length = ss.length) (hz : L ≤ 1000000) (hL : ∀ r ∈ rs, r.length = L) (h1 : ∀ r ∈ rs, OkA r) (h2 : OkA ss) (h3 : ∀ k, k < rs.length → OkA (scR (rs.getD k []) (ss.getD k 0))) (h4 : ∀ k, k ≤ rs.length → OkA (mixK L rs ss k)) :
    v_p_mixed [vt rs, vr ss, .int L] = .ok ⟨.fr, false, vr (mixK L rs ss rs.length)⟩ := by
  have szl : szLine = 16777216 := rfl
  unfold v_p_mixed
  array_get_dec
  unfold v_p_mixed.b
  array_get_dec
  rw [qMul_q rfl hz]
  array_get_dec
  rw [forN_map (fun i => [none, none, none, some ⟨.fr, false, vr (mixK L rs ss i)⟩, none, none]) ?_ fun i p hp => ?_]
  · array_get_dec
    rw [List.length_zip, ← hl, Nat.min_self]
  · rfl
  · obtain ⟨e1, e2⟩ := zip_at hp
    have m1 := List.mem_of_getElem? e1
    have hi := (List.getElem?_eq_some_iff.mp e1).1
    have g1 := getD_of (d := []) e1
    have g2 := getD_of (d := (0 : Rat)) e2
    have k3 := h3 i hi
    rw [g1, g2] at k3
    array_get_dec
    rw [scaled_ok (by rw [hL _ m1]; omega) (h1 _ m1) (h2.at e2)]
    array_get_dec
    rw [added_ok (by rw [mixK_len hL i (by omega)]; omega) (h4 i (by omega)) k3]
    array_get_dec
    rw [show mixK L rs ss (i + 1) = addR (mixK L rs ss i) (scR (rs.getD i []) (ss.getD i 0)) from rfl, g1, g2]
theorem lmix_ok {L : Nat} {rs : List (List Rat)} {ss : List Rat} (hl : rs.length = ss.length) (hz : L ≤ 1000000) (hL : ∀ r ∈ rs, r.length = L) (h1 : ∀ r ∈ rs, OkA r) (h2 : OkA ss) (h3 : ∀ k, k < rs.length → OkA (scR (rs.getD k []) (ss.getD k 0))) (h4 : ∀ k, k ≤ rs.length → OkA (mixK L rs ss k)) :
    v_l_mix [vt rs, vr ss, .int L] = .ok ⟨.fr, false, vr (mixK L rs ss rs.length)⟩ := by
  have szl : szLine = 16777216 := rfl
  unfold v_l_mix
  array_get_dec
  unfold v_l_mix.b
  array_get_dec
  rw [qMul_q rfl hz]
  array_get_dec
  rw [forN_map (fun i => [none, none, none, some ⟨.fr, false, vr (mixK L rs ss i)⟩, none, none, none, none]) ?_ fun i p hp => ?_]
  · array_get_dec
    rw [List.length_zip, ← hl, Nat.min_self]
  · rfl
  · obtain ⟨e1, e2⟩ := zip_at hp
    have m1 := List.mem_of_getElem? e1
    have hi := (List.getElem?_eq_some_iff.mp e1).1
    have g1 := getD_of (d := []) e1
    have g2 := getD_of (d := (0 : Rat)) e2
    have k3 := h3 i hi
    have k4 := h4 i (by omega)
    have ml := mixK_len (ss := ss) hL i (by omega)
    rw [g1, g2] at k3
    array_get_dec
    rw [lc_rats (fun q => q.1 + q.2 * p.2) (Nat.le_trans (zip_len _ _) (by omega)) fun j q hq => ?_]
    · array_get_dec
      rw [show mixK L rs ss (i + 1) = addR (mixK L rs ss i) (scR (rs.getD i []) (ss.getD i 0)) from rfl, g1, g2]
      unfold addR scR
      rw [zip_map (fun a b => a + b * p.2), List.zipWith_map_right]
    · obtain ⟨f1, f2⟩ := zip_at hq
      array_get_dec
      rw [ltimes_ok ((h1 _ m1).at f2) (h2.at e2)]
      array_get_dec
      rw [lplus_ok (k4.at f1) (k3 _ (List.mem_map_of_mem (List.mem_of_getElem? f2)))]
      array_get_dec
def tur (C : Nat) (rs : List (List Rat)) : List (List Rat) := (List.range C).map fun j => rs.map fun r => r.getD j 0
theorem turned_ok {C : Nat} {rs : List (List Rat)} (hL : ∀ r ∈ rs, C ≤ r.length) (hz : C ≤ 1000000) (hr : rs.length ≤ 1000000) : v_p_turned [vt rs, .int C] = .ok ⟨.fr, false, vt (tur C rs)⟩ := by
  have szl : szLine = 16777216 := rfl
  unfold v_p_turned
  array_get_dec
  unfold v_p_turned.b
  array_get_dec
  rw [kqR1_nat (by omega), lc_rows (fun j => rs.map fun r => r.getD j 0) (by rw [List.length_range]; omega) fun j k hk => ?_]
  · array_get_dec
    rfl
  · obtain ⟨rfl, hj⟩ := range_at hk
    array_get_dec
    rw [lc_rats (fun r => r.getD j 0) (by omega) fun i r hr => ?_]
    have := hL r (List.mem_of_getElem? hr)
    array_get_dec
    rw [qIx_r (get_of 0 (by omega : j < r.length))]
def unitR (n : Nat) : List (List Rat) := (List.range n).map fun i => (List.replicate n (0 : Rat)).set i 1
theorem unit_ok {n : Nat} (hn : n ≤ 1000) : v_p_unit [.int n] = .ok ⟨.fr, false, vt (unitR n)⟩ := by
  have szl : szLine = 16777216 := rfl
  unfold v_p_unit
  array_get_dec
  unfold v_p_unit.b
  array_get_dec
  rw [kqR1_nat (by omega)]
  array_get_dec
  rw [forN_map (fun i => [some (.at (.int n)), some ⟨.fr, false, vt ((unitR n).take i)⟩, none, none]) ?_ fun i k hk => ?_]
  · array_get_dec
    rw [List.length_range, List.take_of_length_le (by unfold unitR; rw [List.length_map, List.length_range]; exact Nat.le_refl _)]
  · rfl
  · obtain ⟨rfl, hi⟩ := range_at hk
    array_get_dec
    rw [qMul_q rfl (by omega)]
    array_get_dec
    rw [vr, kqSub2_ok (ts := (List.replicate n 0).map vq) (tn := false) _ rfl rfl (by rw [List.length_map, List.length_replicate]; exact hi)]
    array_get_dec
    rw [kqApp_ok (ts := ((unitR n).take i).map vr) (tn := false) _ rfl rfl (by rw [List.length_map, List.length_take]; omega)]
    array_get_dec
    rw [List.take_add_one, show (unitR n)[i]? = some ((List.replicate n (0 : Rat)).set i 1) by
      unfold unitR
      rw [List.getElem?_map, List.getElem?_range hi]
      rfl]
    unfold vt vr
    rw [List.map_append, ← List.map_set]
    rfl
def prodT (C : Nat) (A B : List (List Rat)) : List (List Rat) := A.map fun r => mixK C B r B.length
theorem product_ok {C : Nat} {A B : List (List Rat)} (hA : ∀ r ∈ A, r.length = B.length) (hB : ∀ r ∈ B, r.length = C) (hC : C ≤ 1000000) (lA : A.length ≤ 1000000) (h1 : ∀ r ∈ B, OkA r) (h2 : ∀ r ∈ A, OkA r) (h3 : ∀ r ∈ A, ∀ k, k < B.length → OkA (scR (B.getD k []) (r.getD k 0))) (h4 : ∀ r ∈ A, ∀ k, k ≤ B.length → OkA (mixK C B r k)) :
    v_p_product [vt A, vt B, .int C] = .ok ⟨.fr, false, vt (prodT C A B)⟩ := by
  have szl : szLine = 16777216 := rfl
  unfold v_p_product
  array_get_dec
  unfold v_p_product.b
  array_get_dec
  rw [lc_rows (fun r => mixK C B r B.length) (by omega) fun i r hr => ?_]
  · array_get_dec
    rfl
  · have m := List.mem_of_getElem? hr
    array_get_dec
    rw [mixed_ok (hA r m).symm hC hB h1 (h2 r m) (h3 r m) (h4 r m)]
    array_get_dec
end Z
end
section
set_option Elab.async false
set_option autoImplicit false
set_option linter.all false
set_option maxRecDepth 100000
set_option maxHeartbeats 2000000
open Mn
local macro_rules | `(tactic| array_get_dec) => `(tactic| try simp (disch := first | assumption | rfl | decide | decide +kernel) only [pVar_k, vW_at, vW_fz, vW_fr, vW_dr, isB_dr, isD_dr, kqAsg_dr, kqAsgF_dr, kqRet_dr, pC_int, pC_bl, pC_str, pC_non, pC_t2, pBin_k, kq1_ok, kq1_exc, kq2_ok, kq2_exc, pUn_k, kqU_ok, kqU_exc, pAnd_k, kqAnd_t, kqAnd_f, pOr_k, kqOr_t, kqOr_f, pNot_k, kqNot_ok, pChain_k, kqC0_ok, kqC1_ok, kqC2_t, kqC2_f, kqC3_ok, pvL_nil, pvL_k, kqL1_ok, kqL1_exc, kqL2_ok, kqL2_exc, pTup_k, pLst_k, kqTup_exc, kqLst_exc, kqTup_1, kqTup_2, kqTup_3, kqTup_4, kqLst_0, kqLst_1, kqLst_2, kqLst_3, kqLst_4, anyB_nil, anyB_cons, anyT_nil, anyT_cons, at_fl, at_tn, at_t, mk_fl, mk_tn, mk_t, isB_fr, isB_fz, isB_bo, isB_bd, isD_fr, isD_fz, isD_bo, isD_bd, nW_k, elW_k, mkT_k, mkL_k, cond_true, cond_false, pCall_k, kqCall_ok, kqCall_exc, kqRes_ok, kqRes_exc, callW_at, callW_f, fn_1, fn_2, fn_3, fn_4, fn_5, fn_6, kqFn_nx, kqFn_ret, kqFn_exc, pSl_k, kqSl1_ok, kqSl2_ok, kqSl3_ok, pPart_n, pPart_s, kqPt_ok, pList_k, pRev_k, pEnum_k, pZip_k, kqZip1_ok, kqZip2_ok, pRange1_k, pRange2_k, kqR21_ok, kqR22_ok, pLc_k, killP_nil, killP_cons, ptName_at, ptName_fz, ptTup_a2, ptTup_a3, ptTup_f2, ptTup_f3, ptTup_q, ptAll_nil, ptAll_cons, kqAll_nx, pSeq_k, kqSeq2_nx, kqSeq2_ret, kqSeq2_ct, kqSeq2_bk, kqSeq2_exc, pPass_k, pCt_k, pBk_k, pRaise_k, pKl_k, pFz_k, frz_k, fzO_at, fzO_mk, fzO_none, fzW_at, fzW_mk, pAsg_k, kqAsg_at, kqAsg_fr, kqAsg_fz, kqAsg_exc, pAsgF_k, kqAsgF_at, kqAsgF_fr, kqAsgF_fz, kqAsgF_exc, pAsgT_k, kqAsgT_ok, kqTg_nx, kqAsgT_exc, pApp_k, pExt_k, pIns_k, kqIns1_ok, pSubA_k, kqSub1_ok, kqSub1_exc, pPar_k, kqPar_at, kqPar_1, kqPar_2, kqPar_3, pDrop_k, kqDrop_ok, kqDrop_exc, pRet_k, kqRet_at, kqRet_fr, kqRet_fz, kqRet_bo, kqRet_bd, kqRet_exc, pIf_k, kqIf_t, kqIf_f, kqIf_exc, pFor_k, kqFor_ok, pWhile_k, pTry_k, kqTry_nx, kqTry_ret, kqTry_exc, stepK_nx, stepK_ct, stepK_bk, stepK_ret, stepK_exc, stepF_nx, goF_nx, goF_bk, goF_ret, goF_exc, lcStep_nx, vq0, vq1, hL_q, hL_r, hL_t, hL_i, hL_int, hL_bl, hL_str, hL_non, hL_exc, hL_lst, hL_ro, hL_tup, hL_nil, hL_cons, hLs_q, hLs_i, hLs_bl, qEq_q, qNe_q, qEq_int, qNe_int, qEq_bl, qNe_bl, qEq_r, qNe_r, qEq_t, qNe_t, qEq_vi, qNe_vi, qAdd_int, qSub_int, qMul_int, qDiv_int, qDiv_sm, qMod_int, qPow_int, qDm_sm, qMax_int, qMin_int, qLt_int, qLe_int, qGt_int, qGe_int, qNeg_int, qAbs_int, qToInt_int, qToInt_bl, qIsN_at, qIsN_a, qNotN_at, qNotN_a, isNon_non, isNon_int, isNon_q, isNon_r, qIx_q0, qIx_q1, qLen_q, qLen_r, qLen_t, qLen_vi, qLen_l, qLen_ro, qLen_tp, qLen_ta, qIs_q, qIs_r, qIs_t, qIs_vi, qIs_l, qIs_ro, qIs_tp, qIs_ta, qIs_int, qIs_bl, qIs_str, qIs_non, qIs_exc, Z.pC_N, Z.pC_O, qIx_a0, qIx_a1, qIx_a2, qIx_a3, qIx_f0, qIx_f1, qIx_f2, kqSeq_r, kqSeq_vi, kqSeq_t, kqEnum_r, kqEnum_vi, kqEnum_t, zipOf_rr, zipOf_tr, zipOf_tt, qList_r, qAll_bl, qAny_bl, ty_tuple_tuple, ty_tuple_list, ty_tuple_int, ty_tuple_bool, ty_tuple_str, ty_tuple_NoneType, ty_list_tuple, ty_list_list, ty_list_int, ty_list_bool, ty_list_str, ty_list_NoneType, ty_int_tuple, ty_int_list, ty_int_int, ty_int_bool, ty_int_str, ty_int_NoneType, ty_bool_tuple, ty_bool_list, ty_bool_int, ty_bool_bool, ty_bool_str, ty_bool_NoneType, ty_str_tuple, ty_str_list, ty_str_int, ty_str_bool, ty_str_str, ty_str_NoneType, List.map_cons, List.map_nil, List.cons_append, List.nil_append, List.append_nil, List.reduceReplicate, Nat.reduceSub, List.getElem?_cons_zero, List.getElem?_cons_succ, List.set_cons_zero, List.set_cons_succ, List.length_cons, List.length_nil, Nat.zero_add, Nat.reduceAdd, decide_true, decide_false, beq_self_eq_true, Bool.not_true, Bool.not_false, Bool.or_false, Bool.or_true, Bool.false_or, Bool.true_or, Bool.and_false, Bool.and_true, Bool.false_and, Bool.true_and, Bool.and_self, Bool.or_self])
/-! Deeds of tables over trees. -/
namespace Z
open Mn Y
inductive Deed where
  | swap (i j : Nat)
  | scale (i : Nat) (q : Rat)
  | add (i j : Nat) (q : Rat)
def vd : Deed → V
  | .swap i j => .tup [.str (S "swap"), .int i, .int j]
  | .scale i q => .tup [.str (S "scale"), .int i, vq q]
  | .add i j q => .tup [.str (S "add"), .int i, .int j, vq q]
def vds (ds : List Deed) : V := .lst (ds.map vd)
theorem hL_d (d : Deed) : (vd d).hasL = false := by cases d <;> rfl
theorem hL_ds (ds : List Deed) : (vds ds).hasL = true := id rfl
theorem hLs_d (ds : List Deed) : V.hasLs (ds.map vd) = false := hLs_map vd hL_d ds
/-- of a table with n rows -/
def Deed.Is (n : Nat) : Deed → Prop
  | .swap i j => i < n ∧ j < n ∧ i ≠ j
  | .scale i q => i < n ∧ q ≠ 0 ∧ Ok q
  | .add i j q => i < n ∧ j < n ∧ i ≠ j ∧ Ok q
def doneD (T : List (List Rat)) : Deed → List (List Rat)
  | .swap i j => (T.set i (T.getD j [])).set j (T.getD i [])
  | .scale i q => T.set i (scR (T.getD i []) q)
  | .add i j q => T.set i (addR (T.getD i []) (scR (T.getD j []) q))
def doneL (T : List (List Rat)) (ds : List Deed) : List (List Rat) := ds.foldl doneD T
/-- the row that is made on the way is small enough -/
def Deed.Sm (T : List (List Rat)) : Deed → Prop
  | .add _ j q => OkA (scR (T.getD j []) q)
  | _ => True
def OkT (T : List (List Rat)) : Prop := ∀ r ∈ T, OkA r
theorem doneD_len (T : List (List Rat)) (d : Deed) : (doneD T d).length = T.length := by cases d <;> simp [doneD]
theorem doneL_len (T : List (List Rat)) (ds : List Deed) : (doneL T ds).length = T.length := by
  unfold doneL
  induction ds generalizing T with
  | nil => rfl
  | cons d ds ih => rw [List.foldl_cons, ih, doneD_len]
theorem take_snoc {α : Type} {xs : List α} {i : Nat} {x : α} (h : xs[i]? = some x) : xs.take (i + 1) = xs.take i ++ [x] := by
  rw [List.take_add_one, h]
  rfl
theorem doneL_snoc (T : List (List Rat)) (ds : List Deed) (d : Deed) : doneL T (ds ++ [d]) = doneD (doneL T ds) d := by
  unfold doneL
  rw [List.foldl_append]
  rfl
/-! strings -/
theorem se_ww : qEq (.at (.str (S "swap"))) (.at (.str (S "swap"))) = .ok (.at (.bl true)) := by
  rw [qEq_str (by decide) (by decide)]
  rfl
theorem se_ss : qEq (.at (.str (S "scale"))) (.at (.str (S "scale"))) = .ok (.at (.bl true)) := by
  rw [qEq_str (by decide) (by decide)]
  rfl
theorem se_aa : qEq (.at (.str (S "add"))) (.at (.str (S "add"))) = .ok (.at (.bl true)) := by
  rw [qEq_str (by decide) (by decide)]
  rfl
theorem se_ws : qEq (.at (.str (S "swap"))) (.at (.str (S "scale"))) = .ok (.at (.bl false)) := by
  rw [qEq_str (by decide) (by decide)]
  rfl
theorem se_wa : qEq (.at (.str (S "swap"))) (.at (.str (S "add"))) = .ok (.at (.bl false)) := by
  rw [qEq_str (by decide) (by decide)]
  rfl
theorem se_sw : qEq (.at (.str (S "scale"))) (.at (.str (S "swap"))) = .ok (.at (.bl false)) := by
  rw [qEq_str (by decide) (by decide)]
  rfl
theorem se_sa : qEq (.at (.str (S "scale"))) (.at (.str (S "add"))) = .ok (.at (.bl false)) := by
  rw [qEq_str (by decide) (by decide)]
  rfl
theorem se_aw : qEq (.at (.str (S "add"))) (.at (.str (S "swap"))) = .ok (.at (.bl false)) := by
  rw [qEq_str (by decide) (by decide)]
  rfl
theorem se_as : qEq (.at (.str (S "add"))) (.at (.str (S "scale"))) = .ok (.at (.bl false)) := by
  rw [qEq_str (by decide) (by decide)]
  rfl
theorem sn_ss : qNe (.at (.str (S "scale"))) (.at (.str (S "scale"))) = .ok (.at (.bl false)) := by
  rw [qNe_str (by decide) (by decide)]
  rfl
theorem unlike_ok {i j n : Nat} (hi : i < n) (hj : j < n) (h : i ≠ j) : v_p_are_unlike [.int i, .int j, .int n] = .ok (.at (.bl true)) := by
  unfold v_p_are_unlike
  array_get_dec
  unfold v_p_are_unlike.b
  array_get_dec
  rw [whole_ok]
  array_get_dec
  rw [whole_ok]
  array_get_dec
  rw [decide_eq_true (Int.natCast_nonneg i)]
  array_get_dec
  rw [decide_eq_true (show (i : Int) < n by omega)]
  array_get_dec
  rw [decide_eq_true (Int.natCast_nonneg j)]
  array_get_dec
  rw [decide_eq_true (show (j : Int) < n by omega)]
  array_get_dec
  rw [decide_eq_false (show ¬(i : Int) = j by omega)]
  rfl
theorem is_deed_ok {d : Deed} {n : Nat} (h : d.Is n) : v_p_is_deed [vd d, .int n] = .ok (.at (.bl true)) := by
  unfold v_p_is_deed
  cases d with
  | swap i j =>
    obtain ⟨h1, h2, h3⟩ := h
    unfold vd
    array_get_dec
    unfold v_p_is_deed.b
    array_get_dec
    rw [show decide (((0 + 1 + 1 + 1 : Nat) : Int) < 3) = false from rfl]
    array_get_dec
    rw [se_ww]
    array_get_dec
    rw [show decide (((0 + 1 + 1 + 1 : Nat) : Int) = 3) = true from rfl]
    array_get_dec
    rw [unlike_ok h1 h2 h3]
    array_get_dec
  | scale i q =>
    obtain ⟨h1, h2, h3⟩ := h
    unfold vd
    array_get_dec
    unfold v_p_is_deed.b
    array_get_dec
    rw [show decide (((0 + 1 + 1 + 1 : Nat) : Int) < 3) = false from rfl]
    array_get_dec
    rw [se_sw]
    array_get_dec
    rw [se_sa]
    array_get_dec
    rw [sn_ss]
    array_get_dec
    rw [show decide (((0 + 1 + 1 + 1 : Nat) : Int) = 3) = true from rfl]
    array_get_dec
    rw [whole_ok]
    array_get_dec
    rw [decide_eq_true (Int.natCast_nonneg i)]
    array_get_dec
    rw [decide_eq_true (show (i : Int) < n by omega)]
    array_get_dec
    rw [is_ratio_ok h3]
    array_get_dec
    rw [decide_eq_false h2]
    rfl
  | add i j q =>
    obtain ⟨h1, h2, h3, h4⟩ := h
    unfold vd
    array_get_dec
    unfold v_p_is_deed.b
    array_get_dec
    rw [show decide (((0 + 1 + 1 + 1 + 1 : Nat) : Int) < 3) = false from rfl]
    array_get_dec
    rw [se_aw]
    array_get_dec
    rw [se_aa]
    array_get_dec
    rw [show decide (((0 + 1 + 1 + 1 + 1 : Nat) : Int) = 4) = true from rfl]
    array_get_dec
    rw [unlike_ok h1 h2 h3]
    array_get_dec
    rw [is_ratio_ok h4]
    array_get_dec
end Z
end
section
set_option Elab.async false
set_option autoImplicit false
set_option linter.all false
set_option maxRecDepth 100000
set_option maxHeartbeats 2000000
open Mn
local macro_rules | `(tactic| array_get_dec) => `(tactic| try simp (disch := first | assumption | rfl | decide | decide +kernel) only [pVar_k, vW_at, vW_fz, vW_fr, vW_dr, isB_dr, isD_dr, kqAsg_dr, kqAsgF_dr, kqRet_dr, pC_int, pC_bl, pC_str, pC_non, pC_t2, pBin_k, kq1_ok, kq1_exc, kq2_ok, kq2_exc, pUn_k, kqU_ok, kqU_exc, pAnd_k, kqAnd_t, kqAnd_f, pOr_k, kqOr_t, kqOr_f, pNot_k, kqNot_ok, pChain_k, kqC0_ok, kqC1_ok, kqC2_t, kqC2_f, kqC3_ok, pvL_nil, pvL_k, kqL1_ok, kqL1_exc, kqL2_ok, kqL2_exc, pTup_k, pLst_k, kqTup_exc, kqLst_exc, kqTup_1, kqTup_2, kqTup_3, kqTup_4, kqLst_0, kqLst_1, kqLst_2, kqLst_3, kqLst_4, anyB_nil, anyB_cons, anyT_nil, anyT_cons, at_fl, at_tn, at_t, mk_fl, mk_tn, mk_t, isB_fr, isB_fz, isB_bo, isB_bd, isD_fr, isD_fz, isD_bo, isD_bd, nW_k, elW_k, mkT_k, mkL_k, cond_true, cond_false, pCall_k, kqCall_ok, kqCall_exc, kqRes_ok, kqRes_exc, callW_at, callW_f, fn_1, fn_2, fn_3, fn_4, fn_5, fn_6, kqFn_nx, kqFn_ret, kqFn_exc, pSl_k, kqSl1_ok, kqSl2_ok, kqSl3_ok, pPart_n, pPart_s, kqPt_ok, pList_k, pRev_k, pEnum_k, pZip_k, kqZip1_ok, kqZip2_ok, pRange1_k, pRange2_k, kqR21_ok, kqR22_ok, pLc_k, killP_nil, killP_cons, ptName_at, ptName_fz, ptTup_a2, ptTup_a3, ptTup_f2, ptTup_f3, ptTup_q, ptAll_nil, ptAll_cons, kqAll_nx, pSeq_k, kqSeq2_nx, kqSeq2_ret, kqSeq2_ct, kqSeq2_bk, kqSeq2_exc, pPass_k, pCt_k, pBk_k, pRaise_k, pKl_k, pFz_k, frz_k, fzO_at, fzO_mk, fzO_none, fzW_at, fzW_mk, pAsg_k, kqAsg_at, kqAsg_fr, kqAsg_fz, kqAsg_exc, pAsgF_k, kqAsgF_at, kqAsgF_fr, kqAsgF_fz, kqAsgF_exc, pAsgT_k, kqAsgT_ok, kqTg_nx, kqAsgT_exc, pApp_k, pExt_k, pIns_k, kqIns1_ok, pSubA_k, kqSub1_ok, kqSub1_exc, pPar_k, kqPar_at, kqPar_1, kqPar_2, kqPar_3, pDrop_k, kqDrop_ok, kqDrop_exc, pRet_k, kqRet_at, kqRet_fr, kqRet_fz, kqRet_bo, kqRet_bd, kqRet_exc, pIf_k, kqIf_t, kqIf_f, kqIf_exc, pFor_k, kqFor_ok, pWhile_k, pTry_k, kqTry_nx, kqTry_ret, kqTry_exc, stepK_nx, stepK_ct, stepK_bk, stepK_ret, stepK_exc, stepF_nx, goF_nx, goF_bk, goF_ret, goF_exc, lcStep_nx, vq0, vq1, Int.cast_ofNat_Int, Int.reduceLT, Int.reduceEq, Int.reduceLE, Int.reduceGT, Z.hL_d, Z.hL_ds, Z.hLs_d, Z.se_ww, Z.se_ss, Z.se_aa, Z.se_ws, Z.se_wa, Z.se_sw, Z.se_sa, Z.se_aw, Z.se_as, Z.sn_ss, hL_q, hL_r, hL_t, hL_i, hL_int, hL_bl, hL_str, hL_non, hL_exc, hL_lst, hL_ro, hL_tup, hL_nil, hL_cons, hLs_q, hLs_i, hLs_bl, qEq_q, qNe_q, qEq_int, qNe_int, qEq_bl, qNe_bl, qEq_r, qNe_r, qEq_t, qNe_t, qEq_vi, qNe_vi, qAdd_int, qSub_int, qMul_int, qDiv_int, qDiv_sm, qMod_int, qPow_int, qDm_sm, qMax_int, qMin_int, qLt_int, qLe_int, qGt_int, qGe_int, qNeg_int, qAbs_int, qToInt_int, qToInt_bl, qIsN_at, qIsN_a, qNotN_at, qNotN_a, isNon_non, isNon_int, isNon_q, isNon_r, qIx_q0, qIx_q1, qLen_q, qLen_r, qLen_t, qLen_vi, qLen_l, qLen_ro, qLen_tp, qLen_ta, qIs_q, qIs_r, qIs_t, qIs_vi, qIs_l, qIs_ro, qIs_tp, qIs_ta, qIs_int, qIs_bl, qIs_str, qIs_non, qIs_exc, Z.pC_N, Z.pC_O, qIx_a0, qIx_a1, qIx_a2, qIx_a3, qIx_f0, qIx_f1, qIx_f2, kqSeq_r, kqSeq_vi, kqSeq_t, kqEnum_r, kqEnum_vi, kqEnum_t, zipOf_rr, zipOf_tr, zipOf_tt, qList_r, qAll_bl, qAny_bl, ty_tuple_tuple, ty_tuple_list, ty_tuple_int, ty_tuple_bool, ty_tuple_str, ty_tuple_NoneType, ty_list_tuple, ty_list_list, ty_list_int, ty_list_bool, ty_list_str, ty_list_NoneType, ty_int_tuple, ty_int_list, ty_int_int, ty_int_bool, ty_int_str, ty_int_NoneType, ty_bool_tuple, ty_bool_list, ty_bool_int, ty_bool_bool, ty_bool_str, ty_bool_NoneType, ty_str_tuple, ty_str_list, ty_str_int, ty_str_bool, ty_str_str, ty_str_NoneType, List.map_cons, List.map_nil, List.cons_append, List.nil_append, List.append_nil, List.reduceReplicate, Nat.reduceSub, List.getElem?_cons_zero, List.getElem?_cons_succ, List.set_cons_zero, List.set_cons_succ, List.length_cons, List.length_nil, Nat.zero_add, Nat.reduceAdd, decide_true, decide_false, beq_self_eq_true, Bool.not_true, Bool.not_false, Bool.or_false, Bool.or_true, Bool.false_or, Bool.true_or, Bool.and_false, Bool.and_true, Bool.false_and, Bool.true_and, Bool.and_self, Bool.or_self])
/-! Deeds done, led back. -/
namespace Z
open Mn Y
theorem set_getD {T : List (List Rat)} {i : Nat} {r : List Rat} : (vt T) = .lst (T.map vr) := id rfl
theorem vt_set (T : List (List Rat)) (i : Nat) (r : List Rat) : V.lst ((T.map vr).set i (vr r)) = vt (T.set i r) := by
  unfold vt
  rw [List.map_set]
theorem getD_set_self {T : List (List Rat)} {i : Nat} {r : List Rat} (h : i < T.length) : (T.set i r).getD i [] = r := by
  rw [List.getD_eq_getElem?_getD, List.getElem?_set_self h]
  rfl
theorem getD_set_ne {T : List (List Rat)} {i j : Nat} {r : List Rat} (h : i ≠ j) : (T.set i r).getD j [] = T.getD j [] := by
  rw [List.getD_eq_getElem?_getD, List.getElem?_set_ne h, ← List.getD_eq_getElem?_getD]
theorem sub_ok {s : Bool} {π : PEnv} {j i : Nat} {T : List (List Rat)} {r : List Rat} {fl : Fl} (h : π[j]? = some (some ⟨.fr, false, vt T⟩)) (hb : isB fl = false) (hi : i < T.length) : kqSub2 j ⟨fl, false, vr r⟩ π (.ok (.at (.int i))) = .nx (π.set j (some ⟨.fr, false, vt (T.set i r)⟩)) := by
  rw [kqSub2_ok (ts := T.map vr) (tn := false) _ h hb (by rw [List.length_map]; exact hi), vt_set]
  rfl
theorem copies_ok {rs : List (List Rat)} {s : Bool} {π : PEnv} {v : Nat} (hv : v < π.length) (hz : rs.length ≤ szLine) {st : Bool} : kqLc (ptName v) (pC (.bl true)) (pUn qList (pVar v)) π (.ok ⟨rs.map fun r => ⟨.fz, s, vr r⟩, st⟩) = .ok ⟨.fr, false, vt rs⟩ := by
  rw [lc_rows (fun r => r) hz fun i r hr => ?_, List.map_id']
  have e : pVar v (π.set v (some ⟨.fz, s, vr r⟩)) = .ok ⟨.fz, s, vr r⟩ := by
    rw [pVar_k, List.getElem?_set_self hv]
    rfl
  rw [ptName_fz, lcStep_nx, pUn_k, e, kqU_ok, qList_r rfl]
theorem doneD_row {T : List (List Rat)} {d : Deed} (hd : d.Is T.length) : True := trivial
theorem done_ok {T : List (List Rat)} {ds : List Deed} (lT : T.length ≤ 1000000) (lL : ∀ k r, r ∈ doneL T (ds.take k) → r.length ≤ 1000000) (lD : ds.length ≤ 1000000) (hd : ∀ d ∈ ds, d.Is T.length) (h1 : ∀ k, k < ds.length → OkT (doneL T (ds.take k))) (h2 : ∀ (k : Nat) (d : Deed), ds[k]? = some d → d.Sm (doneL T (ds.take k))) :
    v_p_done [vt T, vds ds] = .ok ⟨.fr, false, vt (doneL T ds)⟩ := by
  have szl : szLine = 16777216 := rfl
  unfold v_p_done
  array_get_dec
  unfold v_p_done.b
  unfold vds
  array_get_dec
  rw [kqSeq_at vd hL_d, lc_bls (fun _ => true) (by omega) fun i d hi => ?_]
  · array_get_dec
    rw [show ((ds.map fun _ => true).all id) = true from List.all_eq_true.mpr fun q hq => by
      obtain ⟨_, _, rfl⟩ := List.mem_map.mp hq
      rfl]
    array_get_dec
    rw [copies_ok (by simp only [List.length_cons]; omega) (by omega)]
    array_get_dec
    rw [kqSeq_at vd hL_d]
    array_get_dec
    rw [forN_map (fun i => [none, none, none, some ⟨.fr, false, vt (doneL T (ds.take i))⟩, none, none, none]) ?_ fun i d hi => ?_]
    · array_get_dec
      rw [List.take_length]
    · rfl
    · have hi2 := (List.getElem?_eq_some_iff.mp hi).1
      have hd := hd d (List.mem_of_getElem? hi)
      have h1 := h1 i hi2
      have h2 := h2 i d hi
      have lL := lL i
      have ln := doneL_len T (ds.take i)
      rw [take_snoc hi, doneL_snoc]
      generalize doneL T (ds.take i) = U at *
      have gu : ∀ k, k < T.length → U[k]? = some (U.getD k []) := fun k hk => get_of [] (by omega)
      have mu : ∀ k, k < T.length → U.getD k [] ∈ U := fun k hk => List.mem_of_getElem? (gu k hk)
      cases d with
      | swap a b =>
        obtain ⟨k1, k2, k3⟩ := hd
        unfold vd
        array_get_dec
        rw [qIx_tb (gu a k1)]
        array_get_dec
        rw [qIx_tb (gu b k2)]
        array_get_dec
        rw [sub_ok (s := false) (T := U) rfl rfl (by omega)]
        array_get_dec
        rw [sub_ok (s := false) (T := U.set a (U.getD b [])) rfl rfl (by rw [List.length_set]; omega)]
        array_get_dec
        rfl
      | scale a q =>
        obtain ⟨k1, k2, k3⟩ := hd
        unfold vd
        array_get_dec
        rw [qIx_tb (gu a k1)]
        array_get_dec
        rw [scaled_ok (by have := lL _ (mu a k1); omega) (h1 _ (mu a k1)) k3]
        array_get_dec
        rw [sub_ok (s := false) (T := U) rfl rfl (by omega)]
        array_get_dec
        rfl
      | add a b q =>
        obtain ⟨k1, k2, k3, k4⟩ := hd
        unfold vd
        array_get_dec
        rw [qIx_tb (gu a k1)]
        array_get_dec
        rw [qIx_tb (gu b k2)]
        array_get_dec
        rw [scaled_ok (by have := lL _ (mu b k2); omega) (h1 _ (mu b k2)) k4]
        array_get_dec
        rw [added_ok (by have := lL _ (mu a k1); omega) (h1 _ (mu a k1)) h2]
        array_get_dec
        rw [sub_ok (s := false) (T := U) rfl rfl (by omega)]
        array_get_dec
        rfl
  · array_get_dec
    rw [is_deed_ok (hd d (List.mem_of_getElem? hi))]
    array_get_dec
end Z
end
section
set_option Elab.async false
set_option autoImplicit false
set_option linter.all false
set_option maxRecDepth 100000
set_option maxHeartbeats 2000000
open Mn
local macro_rules | `(tactic| array_get_dec) => `(tactic| try simp (disch := first | assumption | rfl | decide | decide +kernel) only [pVar_k, vW_at, vW_fz, vW_fr, vW_dr, isB_dr, isD_dr, kqAsg_dr, kqAsgF_dr, kqRet_dr, pC_int, pC_bl, pC_str, pC_non, pC_t2, pBin_k, kq1_ok, kq1_exc, kq2_ok, kq2_exc, pUn_k, kqU_ok, kqU_exc, pAnd_k, kqAnd_t, kqAnd_f, pOr_k, kqOr_t, kqOr_f, pNot_k, kqNot_ok, pChain_k, kqC0_ok, kqC1_ok, kqC2_t, kqC2_f, kqC3_ok, pvL_nil, pvL_k, kqL1_ok, kqL1_exc, kqL2_ok, kqL2_exc, pTup_k, pLst_k, kqTup_exc, kqLst_exc, kqTup_1, kqTup_2, kqTup_3, kqTup_4, kqLst_0, kqLst_1, kqLst_2, kqLst_3, kqLst_4, anyB_nil, anyB_cons, anyT_nil, anyT_cons, at_fl, at_tn, at_t, mk_fl, mk_tn, mk_t, isB_fr, isB_fz, isB_bo, isB_bd, isD_fr, isD_fz, isD_bo, isD_bd, nW_k, elW_k, mkT_k, mkL_k, cond_true, cond_false, pCall_k, kqCall_ok, kqCall_exc, kqRes_ok, kqRes_exc, callW_at, callW_f, fn_1, fn_2, fn_3, fn_4, fn_5, fn_6, kqFn_nx, kqFn_ret, kqFn_exc, pSl_k, kqSl1_ok, kqSl2_ok, kqSl3_ok, pPart_n, pPart_s, kqPt_ok, pList_k, pRev_k, pEnum_k, pZip_k, kqZip1_ok, kqZip2_ok, pRange1_k, pRange2_k, kqR21_ok, kqR22_ok, pLc_k, killP_nil, killP_cons, ptName_at, ptName_fz, ptTup_a2, ptTup_a3, ptTup_f2, ptTup_f3, ptTup_q, ptAll_nil, ptAll_cons, kqAll_nx, pSeq_k, kqSeq2_nx, kqSeq2_ret, kqSeq2_ct, kqSeq2_bk, kqSeq2_exc, pPass_k, pCt_k, pBk_k, pRaise_k, pKl_k, pFz_k, frz_k, fzO_at, fzO_mk, fzO_none, fzW_at, fzW_mk, pAsg_k, kqAsg_at, kqAsg_fr, kqAsg_fz, kqAsg_exc, pAsgF_k, kqAsgF_at, kqAsgF_fr, kqAsgF_fz, kqAsgF_exc, pAsgT_k, kqAsgT_ok, kqTg_nx, kqAsgT_exc, pApp_k, pExt_k, pIns_k, kqIns1_ok, pSubA_k, kqSub1_ok, kqSub1_exc, pPar_k, kqPar_at, kqPar_1, kqPar_2, kqPar_3, pDrop_k, kqDrop_ok, kqDrop_exc, pRet_k, kqRet_at, kqRet_fr, kqRet_fz, kqRet_bo, kqRet_bd, kqRet_exc, pIf_k, kqIf_t, kqIf_f, kqIf_exc, pFor_k, kqFor_ok, pWhile_k, pTry_k, kqTry_nx, kqTry_ret, kqTry_exc, stepK_nx, stepK_ct, stepK_bk, stepK_ret, stepK_exc, stepF_nx, goF_nx, goF_bk, goF_ret, goF_exc, lcStep_nx, vq0, vq1, Int.cast_ofNat_Int, Int.reduceLT, Int.reduceEq, Int.reduceLE, Int.reduceGT, Z.hL_d, Z.hL_ds, Z.hLs_d, Z.se_ww, Z.se_ss, Z.se_aa, Z.se_ws, Z.se_wa, Z.se_sw, Z.se_sa, Z.se_aw, Z.se_as, Z.sn_ss, hL_q, hL_r, hL_t, hL_i, hL_int, hL_bl, hL_str, hL_non, hL_exc, hL_lst, hL_ro, hL_tup, hL_nil, hL_cons, hLs_q, hLs_i, hLs_bl, qEq_q, qNe_q, qEq_int, qNe_int, qEq_bl, qNe_bl, qEq_r, qNe_r, qEq_t, qNe_t, qEq_vi, qNe_vi, qAdd_int, qSub_int, qMul_int, qDiv_int, qDiv_sm, qMod_int, qPow_int, qDm_sm, qMax_int, qMin_int, qLt_int, qLe_int, qGt_int, qGe_int, qNeg_int, qAbs_int, qToInt_int, qToInt_bl, qIsN_at, qIsN_a, qNotN_at, qNotN_a, isNon_non, isNon_int, isNon_q, isNon_r, qIx_q0, qIx_q1, qLen_q, qLen_r, qLen_t, qLen_vi, qLen_l, qLen_ro, qLen_tp, qLen_ta, qIs_q, qIs_r, qIs_t, qIs_vi, qIs_l, qIs_ro, qIs_tp, qIs_ta, qIs_int, qIs_bl, qIs_str, qIs_non, qIs_exc, Z.pC_N, Z.pC_O, qIx_a0, qIx_a1, qIx_a2, qIx_a3, qIx_f0, qIx_f1, qIx_f2, kqSeq_r, kqSeq_vi, kqSeq_t, kqEnum_r, kqEnum_vi, kqEnum_t, zipOf_rr, zipOf_tr, zipOf_tt, qList_r, qAll_bl, qAny_bl, ty_tuple_tuple, ty_tuple_list, ty_tuple_int, ty_tuple_bool, ty_tuple_str, ty_tuple_NoneType, ty_list_tuple, ty_list_list, ty_list_int, ty_list_bool, ty_list_str, ty_list_NoneType, ty_int_tuple, ty_int_list, ty_int_int, ty_int_bool, ty_int_str, ty_int_NoneType, ty_bool_tuple, ty_bool_list, ty_bool_int, ty_bool_bool, ty_bool_str, ty_bool_NoneType, ty_str_tuple, ty_str_list, ty_str_int, ty_str_bool, ty_str_str, ty_str_NoneType, List.map_cons, List.map_nil, List.cons_append, List.nil_append, List.append_nil, List.reduceReplicate, Nat.reduceSub, List.getElem?_cons_zero, List.getElem?_cons_succ, List.set_cons_zero, List.set_cons_succ, List.length_cons, List.length_nil, Nat.zero_add, Nat.reduceAdd, decide_true, decide_false, beq_self_eq_true, Bool.not_true, Bool.not_false, Bool.or_false, Bool.or_true, Bool.false_or, Bool.true_or, Bool.and_false, Bool.and_true, Bool.false_and, Bool.true_and, Bool.and_self, Bool.or_self])
/-! The laws' own deeds; deeds led back. -/
namespace Z
open Mn Y
theorem ldone_ok {T : List (List Rat)} {ds : List Deed} (lT : T.length ≤ 1000000) (lL : ∀ k r, r ∈ doneL T (ds.take k) → r.length ≤ 1000000) (hd : ∀ d ∈ ds, d.Is T.length) (h1 : ∀ k, k < ds.length → OkT (doneL T (ds.take k))) (h2 : ∀ (k : Nat) (d : Deed), ds[k]? = some d → d.Sm (doneL T (ds.take k))) :
    v_l_done [vt T, vds ds] = .ok ⟨.fr, false, vt (doneL T ds)⟩ := by
  have szl : szLine = 16777216 := rfl
  unfold v_l_done
  array_get_dec
  unfold v_l_done.b
  unfold vds
  array_get_dec
  rw [copies_ok (by simp only [List.length_cons]; omega) (by omega)]
  array_get_dec
  rw [kqSeq_at vd hL_d]
  array_get_dec
  rw [forN_map (fun i => [none, none, some ⟨.fr, false, vt (doneL T (ds.take i))⟩, none, none, none, none, none, none]) ?_ fun i d hi => ?_]
  · array_get_dec
    rw [List.take_length]
  · rfl
  · have hi2 := (List.getElem?_eq_some_iff.mp hi).1
    have hd := hd d (List.mem_of_getElem? hi)
    have h1 := h1 i hi2
    have h2 := h2 i d hi
    have lL := lL i
    have ln := doneL_len T (ds.take i)
    rw [take_snoc hi, doneL_snoc]
    generalize doneL T (ds.take i) = U at *
    have gu : ∀ k, k < T.length → U[k]? = some (U.getD k []) := fun k hk => get_of [] (by omega)
    have mu : ∀ k, k < T.length → U.getD k [] ∈ U := fun k hk => List.mem_of_getElem? (gu k hk)
    cases d with
    | swap a b =>
      obtain ⟨k1, k2, k3⟩ := hd
      unfold vd
      array_get_dec
      rw [qIx_tb (gu a k1)]
      array_get_dec
      rw [qIx_tb (gu b k2)]
      array_get_dec
      rw [sub_ok (s := false) (T := U) rfl rfl (by omega)]
      array_get_dec
      rw [sub_ok (s := false) (T := U.set a (U.getD b [])) rfl rfl (by rw [List.length_set]; omega)]
      array_get_dec
      rfl
    | scale a q =>
      obtain ⟨k1, k2, k3⟩ := hd
      unfold vd
      array_get_dec
      rw [qIx_tb (gu a k1)]
      array_get_dec
      rw [lc_rats (fun p => p * q) (by have := lL _ (mu a k1); omega) fun j p hp => ?_]
      · array_get_dec
        rw [sub_ok (s := false) (T := U) (r := (U.getD a []).map fun p => p * q) rfl rfl (by omega)]
        array_get_dec
        rfl
      · array_get_dec
        rw [ltimes_ok ((h1 _ (mu a k1)).at hp) k3]
        array_get_dec
    | add a b q =>
      obtain ⟨k1, k2, k3, k4⟩ := hd
      unfold vd
      array_get_dec
      rw [qIx_tb (gu a k1)]
      array_get_dec
      rw [qIx_tb (gu b k2)]
      array_get_dec
      rw [lc_rats (fun p => p.1 + p.2 * q) (Nat.le_trans (zip_len _ _) (by have := lL _ (mu a k1); omega)) fun j p hp => ?_]
      · array_get_dec
        rw [sub_ok (s := false) (T := U) (r := ((U.getD a []).zip (U.getD b [])).map fun p => p.1 + p.2 * q) rfl rfl (by omega)]
        array_get_dec
        show _ = PRS.nx [none, none, some ⟨.fr, false, vt (U.set a (List.zipWith (· + ·) (U.getD a []) ((U.getD b []).map (· * q))))⟩, none, none, none, none, none, none]
        rw [zip_map (fun a b => a + b * q), List.zipWith_map_right]
      · obtain ⟨e1, e2⟩ := zip_at hp
        array_get_dec
        rw [ltimes_ok ((h1 _ (mu b k2)).at e2) k4]
        array_get_dec
        rw [lplus_ok ((h1 _ (mu a k1)).at e1) (h2 _ (List.mem_map_of_mem (List.mem_of_getElem? e2)))]
        array_get_dec
def backD : Deed → Deed
  | .swap i j => .swap i j
  | .scale i q => .scale i (1 / q)
  | .add i j q => .add i j (0 - q)
theorem backD_back : ∀ d : Deed, backD (backD d) = d
  | .swap i j => rfl
  | .scale i q => by
    show Deed.scale i (1 / (1 / q)) = _
    congr 1
    rw [Rat.div_def, Rat.div_def, Rat.one_mul, Rat.one_mul, Rat.inv_inv]
  | .add i j q => by
    show Deed.add i j (0 - (0 - q)) = _
    congr 1
    grind
def backL (ds : List Deed) : List Deed := ds.reverse.map backD
def Deed.OkB (d : Deed) : Prop := match d with
  | .swap _ _ => True
  | .scale _ q => q ≠ 0 ∧ Ok q
  | .add _ _ q => Ok q
theorem led_back_ok {ds : List Deed} (lD : ds.length ≤ 1000000) (h : ∀ d ∈ ds, d.OkB) : v_p_led_back [vds ds] = .ok ⟨.fr, false, vds (backL ds)⟩ := by
  have szl : szLine = 16777216 := rfl
  unfold v_p_led_back
  array_get_dec
  unfold v_p_led_back.b
  unfold vds
  array_get_dec
  rw [kqRev_at vd hL_d]
  array_get_dec
  rw [forN_map (fun i => [none, some ⟨.fr, false, .lst (((backL ds).take i).map vd)⟩, none]) ?_ fun i d hi => ?_]
  · array_get_dec
    rw [List.take_of_length_le (by unfold backL; rw [List.length_map]; exact Nat.le_refl _)]
  · rfl
  · have hd := h d (List.mem_reverse.mp (List.mem_of_getElem? hi))
    have hz := (List.getElem?_eq_some_iff.mp hi).1
    rw [List.length_reverse] at hz
    have e : (backL ds)[i]? = some (backD d) := by
      unfold backL
      rw [List.getElem?_map, hi]
      rfl
    have lz : (((backL ds).take i).map vd).length < szLine := by
      rw [List.length_map, List.length_take]
      omega
    rw [take_snoc e, List.map_append]
    cases d with
    | swap a b =>
      unfold vd
      array_get_dec
      rw [kqApp_ok (ts := ((backL ds).take i).map vd) (tn := false) _ rfl rfl lz]
      array_get_dec
      rfl
    | scale a q =>
      unfold vd
      array_get_dec
      rw [over_ok hd.1 Ok1 hd.2]
      array_get_dec
      rw [kqApp_ok (ts := ((backL ds).take i).map vd) (tn := false) _ rfl rfl lz]
      array_get_dec
      rfl
    | add a b q =>
      unfold vd
      array_get_dec
      rw [minus_ok Ok0 hd]
      array_get_dec
      rw [kqApp_ok (ts := ((backL ds).take i).map vd) (tn := false) _ rfl rfl lz]
      array_get_dec
      rfl
theorem vq_inv {q : Rat} (h : q ≠ 0) : vq (1 / q) = if q.num < 0 then .tup [.int (0 - (q.den : Int)), .int (0 - q.num)] else .tup [.int q.den, .int q.num] := by
  have n0 : q.num ≠ 0 := fun z => h (Rat.num_eq_zero.mp z)
  have e := rat_div 1 q h
  rw [show (1 : Rat).num * q.den = q.den from Int.one_mul _, show ((1 : Rat).den : Int) * q.num = q.num from Int.one_mul _] at e
  have cop : Nat.Coprime q.den q.num.natAbs := q.reduced.symm
  unfold vq
  by_cases hs : q.num < 0
  · rw [if_pos hs]
    obtain ⟨f1, f2⟩ := red_unique (a := (q.den : Int)) (b := q.num) (n := -(q.den : Int)) (d := q.num.natAbs) n0 (by omega) (by rw [Int.natAbs_neg, Int.natAbs_natCast]; exact cop) (by
      have : (q.num.natAbs : Int) = -q.num := by omega
      rw [this, Int.neg_mul, Int.mul_neg])
    rw [← e, f1, f2]
    congr 3
    · omega
    · congr 2
      omega
  · rw [if_neg hs]
    obtain ⟨f1, f2⟩ := red_unique (a := (q.den : Int)) (b := q.num) (n := (q.den : Int)) (d := q.num.natAbs) n0 (by omega) (by rw [Int.natAbs_natCast]; exact cop) (by
      have : (q.num.natAbs : Int) = q.num := by omega
      rw [this])
    rw [← e, f1, f2]
    congr 4
    omega
theorem lback_ok {d : Deed} (h : d.OkB) : v_l_back [vd d] = .ok (.at (vd (backD d))) := by
  unfold v_l_back
  cases d with
  | swap a b =>
    unfold vd
    array_get_dec
    unfold v_l_back.b
    array_get_dec
    rfl
  | scale a q =>
    unfold vd
    array_get_dec
    unfold v_l_back.b
    array_get_dec
    have e := vq_inv h.1
    show _ = PR.ok (W.at (.tup [.str (S "scale"), .int a, vq (1 / q)]))
    rw [e]
    by_cases hs : q.num < 0
    · rw [decide_eq_true hs, if_pos hs]
      array_get_dec
    · rw [decide_eq_false hs, if_neg hs]
      array_get_dec
  | add a b q =>
    unfold vd
    array_get_dec
    unfold v_l_back.b
    array_get_dec
    show _ = PR.ok (W.at (.tup [.str (S "add"), .int a, .int b, vq (0 - q)]))
    rw [show vq (0 - q) = .tup [.int (0 - q.num), .int q.den] by
      unfold vq
      rw [show (0 : Rat) - q = -q by grind, Rat.neg_num, Rat.neg_den, Int.zero_sub]]
theorem tt_d (d : Deed) : ∃ t, (vd d).tt = some t ∧ (vd d).dp ≤ 3 := by
  have hs : ∀ s : List Nat, s.all (fun c => decide (c < 1114112)) = true → (V.str s).tt = some (.str s) := fun s h => if_pos h
  cases d with
  | swap i j => exact ⟨.tup [.str (S "swap"), .int i, .int j], by unfold vd; simp only [V.tt, V.tts]; rfl, Nat.le_of_ble_eq_true rfl⟩
  | scale i q => exact ⟨.tup [.str (S "scale"), .int i, tq q], by unfold vd; simp only [V.tt, V.tts, vq]; rfl, Nat.le_of_ble_eq_true rfl⟩
  | add i j q => exact ⟨.tup [.str (S "add"), .int i, .int j, tq q], by unfold vd; simp only [V.tt, V.tts, vq]; rfl, Nat.le_of_ble_eq_true rfl⟩
theorem vEq_ds (ds : List Deed) : vEq (vds ds) (vds ds) = some true := by
  obtain ⟨g, hg⟩ : ∃ g : Deed → T, ∀ d, (vd d).tt = some (g d) := ⟨fun d => Classical.choose (tt_d d), fun d => (Classical.choose_spec (tt_d d)).1⟩
  have e : (vds ds).tt = some (.lst (ds.map g)) := by
    show (V.tts (ds.map vd)).map T.lst = _
    rw [tts_map vd g hg]
    rfl
  refine vEq_same e ?_
  have := dps_map vd 3 (fun d => (Classical.choose_spec (tt_d d)).2) ds
  show V.dps (ds.map vd) + 1 ≤ 60
  omega
theorem alike_ok {ds : List Deed} : v_l_alike [vds ds, vds ds] = .ok (.at (.bl true)) := by
  unfold v_l_alike
  array_get_dec
  unfold v_l_alike.b
  have e := qNe_of (vEq_ds ds) .fz .fz true true
  unfold vds at *
  array_get_dec
  rw [e]
  array_get_dec
  rw [kqSeq_at vd hL_d]
  array_get_dec
  rw [forN_map (fun i => [none, none, none]) ?_ fun i d hi => ?_]
  · array_get_dec
  · rfl
  · have hn1 : ∀ (xs : List V) (x : V), qIx (.at (.tup (xs ++ [x]))) (.at (.int (-1))) = .ok (elW false false x) := fun xs x => by
      show (match atI (xs ++ [x]) (-1) with
        | some x => PR.ok (elW false false x)
        | none => .bad) = _
      have : atI (xs ++ [x]) (-1) = some x := by
        unfold atI atIx
        rw [if_neg (by decide), if_pos (by rw [List.length_append]; simp; omega)]
        show (xs ++ [x])[((-1 : Int) + ((xs ++ [x]).length : Nat)).toNat]? = _
        rw [show ((-1 : Int) + ((xs ++ [x]).length : Nat)).toNat = xs.length by rw [List.length_append]; simp; omega]
        simp
      rw [this]
    cases d with
    | swap a b =>
      unfold vd
      array_get_dec
      rw [show qIx (.at (.tup [.str (S "swap"), .int a, .int b])) (.at (.int (-1))) = .ok (elW false false (.int b)) from hn1 [.str (S "swap"), .int a] (.int b)]
      array_get_dec
      rw [show ["int", "tuple"].any (isT "int") = true by decide +kernel]
      array_get_dec
    | scale a q =>
      unfold vd
      array_get_dec
      rw [show qIx (.at (.tup [.str (S "scale"), .int a, vq q])) (.at (.int (-1))) = .ok (elW false false (vq q)) from hn1 [.str (S "scale"), .int a] (vq q)]
      array_get_dec
      rw [show ["int", "tuple"].any (isT "tuple") = true by decide +kernel]
      array_get_dec
    | add a b q =>
      unfold vd
      array_get_dec
      rw [show qIx (.at (.tup [.str (S "add"), .int a, .int b, vq q])) (.at (.int (-1))) = .ok (elW false false (vq q)) from hn1 [.str (S "add"), .int a, .int b] (vq q)]
      array_get_dec
      rw [show ["int", "tuple"].any (isT "tuple") = true by decide +kernel]
      array_get_dec
end Z
end
section
set_option Elab.async false
set_option autoImplicit false
set_option linter.all false
set_option maxRecDepth 100000
set_option maxHeartbeats 2000000
open Mn
local macro_rules | `(tactic| array_get_dec) => `(tactic| try simp (disch := first | assumption | rfl | decide | decide +kernel) only [pVar_k, vW_at, vW_fz, vW_fr, vW_dr, isB_dr, isD_dr, kqAsg_dr, kqAsgF_dr, kqRet_dr, pC_int, pC_bl, pC_str, pC_non, pC_t2, pBin_k, kq1_ok, kq1_exc, kq2_ok, kq2_exc, pUn_k, kqU_ok, kqU_exc, pAnd_k, kqAnd_t, kqAnd_f, pOr_k, kqOr_t, kqOr_f, pNot_k, kqNot_ok, pChain_k, kqC0_ok, kqC1_ok, kqC2_t, kqC2_f, kqC3_ok, pvL_nil, pvL_k, kqL1_ok, kqL1_exc, kqL2_ok, kqL2_exc, pTup_k, pLst_k, kqTup_exc, kqLst_exc, kqTup_1, kqTup_2, kqTup_3, kqTup_4, kqLst_0, kqLst_1, kqLst_2, kqLst_3, kqLst_4, anyB_nil, anyB_cons, anyT_nil, anyT_cons, at_fl, at_tn, at_t, mk_fl, mk_tn, mk_t, isB_fr, isB_fz, isB_bo, isB_bd, isD_fr, isD_fz, isD_bo, isD_bd, nW_k, elW_k, mkT_k, mkL_k, cond_true, cond_false, pCall_k, kqCall_ok, kqCall_exc, kqRes_ok, kqRes_exc, callW_at, callW_f, fn_1, fn_2, fn_3, fn_4, fn_5, fn_6, kqFn_nx, kqFn_ret, kqFn_exc, pSl_k, kqSl1_ok, kqSl2_ok, kqSl3_ok, pPart_n, pPart_s, kqPt_ok, pList_k, pRev_k, pEnum_k, pZip_k, kqZip1_ok, kqZip2_ok, pRange1_k, pRange2_k, kqR21_ok, kqR22_ok, pLc_k, killP_nil, killP_cons, ptName_at, ptName_fz, ptTup_a2, ptTup_a3, ptTup_f2, ptTup_f3, ptTup_q, ptAll_nil, ptAll_cons, kqAll_nx, pSeq_k, kqSeq2_nx, kqSeq2_ret, kqSeq2_ct, kqSeq2_bk, kqSeq2_exc, pPass_k, pCt_k, pBk_k, pRaise_k, pKl_k, pFz_k, frz_k, fzO_at, fzO_mk, fzO_none, fzW_at, fzW_mk, pAsg_k, kqAsg_at, kqAsg_fr, kqAsg_fz, kqAsg_exc, pAsgF_k, kqAsgF_at, kqAsgF_fr, kqAsgF_fz, kqAsgF_exc, pAsgT_k, kqAsgT_ok, kqTg_nx, kqAsgT_exc, pApp_k, pExt_k, pIns_k, kqIns1_ok, pSubA_k, kqSub1_ok, kqSub1_exc, pPar_k, kqPar_at, kqPar_1, kqPar_2, kqPar_3, pDrop_k, kqDrop_ok, kqDrop_exc, pRet_k, kqRet_at, kqRet_fr, kqRet_fz, kqRet_bo, kqRet_bd, kqRet_exc, pIf_k, kqIf_t, kqIf_f, kqIf_exc, pFor_k, kqFor_ok, pWhile_k, pTry_k, kqTry_nx, kqTry_ret, kqTry_exc, stepK_nx, stepK_ct, stepK_bk, stepK_ret, stepK_exc, stepF_nx, goF_nx, goF_bk, goF_ret, goF_exc, lcStep_nx, vq0, vq1, Int.cast_ofNat_Int, Int.reduceLT, Int.reduceEq, Int.reduceLE, Int.reduceGT, Z.hL_d, Z.hL_ds, Z.hLs_d, Z.se_ww, Z.se_ss, Z.se_aa, Z.se_ws, Z.se_wa, Z.se_sw, Z.se_sa, Z.se_aw, Z.se_as, Z.sn_ss, hL_q, hL_r, hL_t, hL_i, hL_int, hL_bl, hL_str, hL_non, hL_exc, hL_lst, hL_ro, hL_tup, hL_nil, hL_cons, hLs_q, hLs_i, hLs_bl, qEq_q, qNe_q, qEq_int, qNe_int, qEq_bl, qNe_bl, qEq_r, qNe_r, qEq_t, qNe_t, qEq_vi, qNe_vi, qAdd_int, qSub_int, qMul_int, qDiv_int, qDiv_sm, qMod_int, qPow_int, qDm_sm, qMax_int, qMin_int, qLt_int, qLe_int, qGt_int, qGe_int, qNeg_int, qAbs_int, qToInt_int, qToInt_bl, qIsN_at, qIsN_a, qNotN_at, qNotN_a, isNon_non, isNon_int, isNon_q, isNon_r, qIx_q0, qIx_q1, qLen_q, qLen_r, qLen_t, qLen_vi, qLen_l, qLen_ro, qLen_tp, qLen_ta, qIs_q, qIs_r, qIs_t, qIs_vi, qIs_l, qIs_ro, qIs_tp, qIs_ta, qIs_int, qIs_bl, qIs_str, qIs_non, qIs_exc, Z.pC_N, Z.pC_O, qIx_a0, qIx_a1, qIx_a2, qIx_a3, qIx_f0, qIx_f1, qIx_f2, kqSeq_r, kqSeq_vi, kqSeq_t, kqEnum_r, kqEnum_vi, kqEnum_t, zipOf_rr, zipOf_tr, zipOf_tt, qList_r, qAll_bl, qAny_bl, ty_tuple_tuple, ty_tuple_list, ty_tuple_int, ty_tuple_bool, ty_tuple_str, ty_tuple_NoneType, ty_list_tuple, ty_list_list, ty_list_int, ty_list_bool, ty_list_str, ty_list_NoneType, ty_int_tuple, ty_int_list, ty_int_int, ty_int_bool, ty_int_str, ty_int_NoneType, ty_bool_tuple, ty_bool_list, ty_bool_int, ty_bool_bool, ty_bool_str, ty_bool_NoneType, ty_str_tuple, ty_str_list, ty_str_int, ty_str_bool, ty_str_str, ty_str_NoneType, List.map_cons, List.map_nil, List.cons_append, List.nil_append, List.append_nil, List.reduceReplicate, Nat.reduceSub, List.getElem?_cons_zero, List.getElem?_cons_succ, List.set_cons_zero, List.set_cons_succ, List.length_cons, List.length_nil, Nat.zero_add, Nat.reduceAdd, decide_true, decide_false, beq_self_eq_true, Bool.not_true, Bool.not_false, Bool.or_false, Bool.or_true, Bool.false_or, Bool.true_or, Bool.and_false, Bool.and_true, Bool.false_and, Bool.true_and, Bool.and_self, Bool.or_self])
/-! Deeds that are drawn, tables that are drawn; how great what is done gets. -/
namespace Z
open Mn Y
/-- over one common bottom -/
def BdT (n : Nat) (T : List (List Rat)) : Prop := ∃ D N, 0 < D ∧ D < 2 ^ n ∧ N < 2 ^ n ∧ ∀ r ∈ T, QdA D N r
theorem sz_qd {m : Nat} {q : Rat} (h : Sz m q) : ∃ E M, 0 < E ∧ E < 2 ^ m ∧ M < 2 ^ m ∧ Qd E M q := by
  refine ⟨q.den, q.num.natAbs, Nat.pos_of_ne_zero q.den_nz, h.2, h.1, q.num, Nat.le_refl _, ?_⟩
  have e : Rat.divInt q.num q.den = q := Rat.num_divInt_den q
  have h2 := natc_ne (Nat.pos_of_ne_zero q.den_nz)
  rw [Rat.divInt_eq_div, Rat.intCast_natCast] at e
  have : q * (q.den : Rat) = (q.num : Rat) / (q.den : Rat) * (q.den : Rat) := by rw [e]
  rw [this]
  grind
theorem BdT.ok {n : Nat} {T : List (List Rat)} (h : BdT n T) (hn : n ≤ 4500) : OkT T := by
  obtain ⟨D, N, h1, h2, h3, h4⟩ := h
  exact fun r hr => (h4 r hr).ok h1 (Nat.lt_of_lt_of_le h2 (Nat.pow_le_pow_right (by decide) hn)) (Nat.lt_of_lt_of_le h3 (Nat.pow_le_pow_right (by decide) hn))
theorem BdT.mono {m n : Nat} {T : List (List Rat)} (h : BdT m T) (k : m ≤ n) : BdT n T := by
  obtain ⟨D, N, h1, h2, h3, h4⟩ := h
  exact ⟨D, N, h1, Nat.lt_of_lt_of_le h2 (Nat.pow_le_pow_right (by decide) k), Nat.lt_of_lt_of_le h3 (Nat.pow_le_pow_right (by decide) k), h4⟩
theorem pow_lt2 {a b m n : Nat} (ha : a < 2 ^ m) (hb : b < 2 ^ n) : a * b < 2 ^ (m + n) := by
  rw [Nat.pow_add]
  exact Nat.mul_lt_mul'' ha hb
theorem BdT.scale {m n : Nat} {T : List (List Rat)} {r : List Rat} {q : Rat} (h : BdT n T) (hr : r ∈ T) (hq : Sz m q) (k : n + m ≤ 4500) : OkA (scR r q) := by
  obtain ⟨D, N, h1, h2, h3, h4⟩ := h
  obtain ⟨E, M, k1, k2, k3, k4⟩ := sz_qd hq
  have l : ∀ {x}, x < 2 ^ (n + m) → x < 2 ^ 4500 := fun h => Nat.lt_of_lt_of_le h (Nat.pow_le_pow_right (by decide) k)
  exact (scR_qd (h4 r hr) k4).ok (Nat.mul_pos h1 k1) (l (pow_lt2 h2 k2)) (l (pow_lt2 h3 k3))
def Deed.Sz (m : Nat) : Deed → Prop
  | .swap _ _ => True
  | .scale _ q => Mn.Sz m q
  | .add _ _ q => Mn.Sz m q
theorem mem_set {T : List (List Rat)} {i : Nat} {r x : List Rat} (h : x ∈ T.set i r) : x = r ∨ x ∈ T := by
  rcases List.mem_or_eq_of_mem_set h with h | h
  · exact .inr h
  · exact .inl h
theorem BdT.deed {m n : Nat} {T : List (List Rat)} {d : Deed} (h : BdT n T) (hd : d.Is T.length) (hm : d.Sz m) : BdT (n + m + 1) (doneD T d) := by
  cases d with
  | swap a b =>
    obtain ⟨k1, k2, k3⟩ := hd
    obtain ⟨D, N, h1, h2, h3, h4⟩ := h.mono (show n ≤ n + m + 1 by omega)
    have g : ∀ k, k < T.length → QdA D N (T.getD k []) := fun k hk => h4 _ (List.mem_of_getElem? (get_of [] hk))
    refine ⟨D, N, h1, h2, h3, fun r hr => ?_⟩
    rcases mem_set hr with rfl | hr
    · exact g _ k1
    · rcases mem_set hr with rfl | hr
      · exact g _ k2
      · exact h4 r hr
  | scale a q =>
    obtain ⟨k1, k2, k3⟩ := hd
    obtain ⟨D, N, h1, h2, h3, h4⟩ := h
    obtain ⟨E, M, e1, e2, e3, e4⟩ := sz_qd (show Mn.Sz m q from hm)
    refine ⟨D * E, N * (M + E), Nat.mul_pos h1 e1, ?_, ?_, fun r hr => ?_⟩
    · exact Nat.lt_of_lt_of_le (pow_lt2 h2 e2) (Nat.pow_le_pow_right (by decide) (by omega))
    · exact pow_lt2 (m := n) (n := m + 1) h3 (by rw [Nat.pow_succ]; omega)
    · rcases mem_set hr with rfl | hr
      · exact fun p hp => (scR_qd (h4 _ (List.mem_of_getElem? (get_of [] k1))) e4 p hp).mono (Nat.mul_le_mul_left _ (by omega))
      · exact fun p hp => ((h4 r hr p hp).lift E).mono (Nat.mul_le_mul_left _ (by omega))
  | add a b q =>
    obtain ⟨k1, k2, k3, k5⟩ := hd
    obtain ⟨D, N, h1, h2, h3, h4⟩ := h
    obtain ⟨E, M, e1, e2, e3, e4⟩ := sz_qd (show Mn.Sz m q from hm)
    refine ⟨D * E, N * (M + E), Nat.mul_pos h1 e1, ?_, ?_, fun r hr => ?_⟩
    · exact Nat.lt_of_lt_of_le (pow_lt2 h2 e2) (Nat.pow_le_pow_right (by decide) (by omega))
    · exact pow_lt2 (m := n) (n := m + 1) h3 (by rw [Nat.pow_succ]; omega)
    · rcases mem_set hr with rfl | hr
      · refine fun p hp => (addR_qd (D := D * E) (N := N * E) (M := N * M) (fun p hp => (h4 _ (List.mem_of_getElem? (get_of [] k1)) p hp).lift E) (scR_qd (h4 _ (List.mem_of_getElem? (get_of [] k2))) e4) p hp).mono ?_
        rw [Nat.mul_add]
        omega
      · exact fun p hp => ((h4 r hr p hp).lift E).mono (Nat.mul_le_mul_left _ (by omega))
theorem BdT.deeds {m n : Nat} {T : List (List Rat)} {ds : List Deed} (h : BdT n T) (hd : ∀ d ∈ ds, d.Is T.length ∧ d.Sz m) : ∀ k, k ≤ ds.length → BdT (n + k * (m + 1)) (doneL T (ds.take k))
  | 0, _ => by
    rw [List.take_zero]
    exact h.mono (by omega)
  | k + 1, hk => by
    have e := get_of (Deed.swap 0 0) (show k < ds.length by omega)
    obtain ⟨h1, h2⟩ := hd _ (List.mem_of_getElem? e)
    rw [take_snoc e, doneL_snoc]
    refine ((BdT.deeds h hd k (by omega)).deed (by rw [doneL_len]; exact h1) h2).mono ?_
    rw [Nat.succ_mul]
    omega
/-- all rows as long -/
def Wid (C : Nat) (T : List (List Rat)) : Prop := ∀ r ∈ T, r.length = C
theorem Wid.deed {C : Nat} {T : List (List Rat)} {d : Deed} (h : Wid C T) (hd : d.Is T.length) : Wid C (doneD T d) := by
  have g : ∀ k, k < T.length → (T.getD k []).length = C := fun k hk => h _ (List.mem_of_getElem? (get_of [] hk))
  intro r hr
  cases d with
  | swap a b =>
    rcases mem_set hr with rfl | hr
    · exact g _ hd.1
    · rcases mem_set hr with rfl | hr
      · exact g _ hd.2.1
      · exact h r hr
  | scale a q =>
    rcases mem_set hr with rfl | hr
    · rw [scR_len]
      exact g _ hd.1
    · exact h r hr
  | add a b q =>
    rcases mem_set hr with rfl | hr
    · rw [addR_len (by rw [scR_len, g _ hd.1, g _ hd.2.1]; exact Nat.le_refl _)]
      exact g _ hd.1
    · exact h r hr
theorem Wid.deeds {C : Nat} {T : List (List Rat)} : ∀ {ds : List Deed}, Wid C T → (∀ d ∈ ds, d.Is T.length) → Wid C (doneL T ds) := by
  intro ds
  induction ds generalizing T with
  | nil => exact fun h _ => h
  | cons d ds ih =>
    intro h hd
    exact ih (h.deed (hd d List.mem_cons_self)) fun e he => by
      rw [doneD_len]
      exact hd e (List.mem_cons_of_mem _ he)
/-- deeds done, all sizes told at once -/
theorem done_all {C m n : Nat} {T : List (List Rat)} {ds : List Deed} (lT : T.length ≤ 1000000) (hC : C ≤ 1000000) (lD : ds.length ≤ 1000000) (hw : Wid C T) (hb : BdT n T) (hd : ∀ d ∈ ds, d.Is T.length ∧ d.Sz m) (hs : n + ds.length * (m + 1) ≤ 4500) :
    v_p_done [vt T, vds ds] = .ok ⟨.fr, false, vt (doneL T ds)⟩ ∧ v_l_done [vt T, vds ds] = .ok ⟨.fr, false, vt (doneL T ds)⟩ := by
  have wk : ∀ k, Wid C (doneL T (ds.take k)) := fun k => hw.deeds fun d hd2 => (hd d (List.mem_of_mem_take hd2)).1
  have lL : ∀ k r, r ∈ doneL T (ds.take k) → r.length ≤ 1000000 := fun k r hr => by rw [wk k r hr]; exact hC
  have le : ∀ k, k ≤ ds.length → n + k * (m + 1) ≤ n + ds.length * (m + 1) := fun k hk => Nat.add_le_add_left (Nat.mul_le_mul_right _ hk) _
  have h1 : ∀ k, k < ds.length → OkT (doneL T (ds.take k)) := fun k hk => (hb.deeds hd k (by omega)).ok (by have := le k (by omega); omega)
  have h2 : ∀ (k : Nat) (d : Deed), ds[k]? = some d → d.Sm (doneL T (ds.take k)) := fun k d hk => by
    have hk2 := (List.getElem?_eq_some_iff.mp hk).1
    obtain ⟨a, b⟩ := hd d (List.mem_of_getElem? hk)
    cases d with
    | swap _ _ => exact trivial
    | scale _ _ => exact trivial
    | add i j q =>
      refine (hb.deeds hd k (by omega)).scale (List.mem_of_getElem? (get_of [] (by rw [doneL_len]; exact a.2.1))) (show Mn.Sz m q from b) ?_
      have := le (k + 1) (by omega)
      rw [Nat.succ_mul] at this
      omega
  exact ⟨done_ok lT lL lD (fun d hd2 => (hd d hd2).1) h1 h2, ldone_ok lT lL (fun d hd2 => (hd d hd2).1) h1 h2⟩
/-! ### led back -/
theorem addR_back {ps qs : List Rat} {q : Rat} (h : ps.length = qs.length) : addR (addR ps (scR qs q)) (scR qs (0 - q)) = ps := by
  refine List.ext_getElem? fun i => ?_
  unfold addR scR
  rw [List.getElem?_zipWith, List.getElem?_zipWith, List.getElem?_map, List.getElem?_map]
  by_cases hi : i < ps.length
  · rw [List.getElem?_eq_getElem hi, List.getElem?_eq_getElem (by omega)]
    show some _ = some _
    congr 1
    grind
  · rw [List.getElem?_eq_none (by omega)]
theorem scR_back {ps : List Rat} {q : Rat} (h : q ≠ 0) : scR (scR ps q) (1 / q) = ps := by
  unfold scR
  rw [List.map_map]
  conv => rhs; rw [← List.map_id ps]
  refine List.map_congr_left fun x _ => ?_
  show x * q * (1 / q) = x
  grind
theorem set_set_getD {T : List (List Rat)} {a : Nat} (h : a < T.length) (r : List Rat) : (T.set a r).set a (T.getD a []) = T := by
  rw [List.set_set]
  refine List.ext_getElem? fun i => ?_
  rw [List.getElem?_set]
  split
  · rename_i e
    subst e
    rw [get_of [] h]
  · rfl
theorem doneD_back {C : Nat} {T : List (List Rat)} {d : Deed} (hw : Wid C T) (hd : d.Is T.length) : doneD (doneD T d) (backD d) = T := by
  have g : ∀ k, k < T.length → (T.getD k []).length = C := fun k hk => hw _ (List.mem_of_getElem? (get_of [] hk))
  cases d with
  | swap a b =>
    obtain ⟨k1, k2, k3⟩ := hd
    refine List.ext_getElem? fun i => ?_
    show ((((T.set a (T.getD b [])).set b (T.getD a [])).set a (((T.set a (T.getD b [])).set b (T.getD a [])).getD b [])).set b (((T.set a (T.getD b [])).set b (T.getD a [])).getD a []))[i]? = _
    rw [getD_set_self (by rw [List.length_set]; exact k2), getD_set_ne (Ne.symm k3), getD_set_self k1]
    simp only [List.getElem?_set, List.length_set]
    by_cases hb : b = i
    · subst hb
      simp [k2, get_of [] k2]
    · by_cases ha : a = i
      · subst ha
        simp [k1, hb, get_of [] k1]
      · simp [ha, hb]
  | scale a q =>
    obtain ⟨k1, k2, k3⟩ := hd
    show (T.set a _).set a (scR ((T.set a (scR (T.getD a []) q)).getD a []) (1 / q)) = T
    rw [getD_set_self k1, scR_back k2]
    exact set_set_getD k1 _
  | add a b q =>
    obtain ⟨k1, k2, k3, k4⟩ := hd
    show (T.set a _).set a (addR ((T.set a (addR (T.getD a []) (scR (T.getD b []) q))).getD a []) (scR ((T.set a (addR (T.getD a []) (scR (T.getD b []) q))).getD b []) (0 - q))) = T
    rw [getD_set_self k1, getD_set_ne k3, addR_back (by rw [g a k1, g b k2])]
    exact set_set_getD k1 _
theorem doneL_back {C : Nat} {T : List (List Rat)} : ∀ {ds : List Deed}, Wid C T → (∀ d ∈ ds, d.Is T.length) → doneL (doneL T ds) (backL ds) = T := by
  intro ds
  induction ds generalizing T with
  | nil => exact fun _ _ => rfl
  | cons d ds ih =>
    intro hw hd
    have hd0 := hd d List.mem_cons_self
    have e : backL (d :: ds) = backL ds ++ [backD d] := by
      unfold backL
      rw [List.reverse_cons, List.map_append]
      rfl
    rw [e, doneL_snoc]
    show doneD (doneL (doneL (doneD T d) ds) (backL ds)) (backD d) = T
    rw [ih (hw.deed hd0) fun e he => by
      rw [doneD_len]
      exact hd e (List.mem_cons_of_mem _ he)]
    exact doneD_back hw hd0
theorem sz_inv {m : Nat} {q : Rat} (h0 : q ≠ 0) (h : Mn.Sz m q) : Mn.Sz m (1 / q) := by
  have n0 : q.num ≠ 0 := fun z => h0 (Rat.num_eq_zero.mp z)
  have e := rat_div 1 q h0
  rw [show (1 : Rat).num * q.den = q.den from Int.one_mul _, show ((1 : Rat).den : Int) * q.num = q.num from Int.one_mul _] at e
  rw [← e]
  exact sz_divInt n0 h.den h.1
theorem sz_neg {m : Nat} {q : Rat} (h : Mn.Sz m q) : Mn.Sz m (0 - q) := by
  rw [show (0 : Rat) - q = -q by grind]
  exact ⟨by rw [Rat.neg_num]; exact h.1.neg, by rw [Rat.neg_den]; exact h.2⟩
theorem backD_is {n m : Nat} {d : Deed} (h : d.Is n ∧ d.Sz m) (hm : m ≤ 4500) : (backD d).Is n ∧ (backD d).Sz m := by
  obtain ⟨h1, h2⟩ := h
  cases d with
  | swap a b => exact ⟨h1, trivial⟩
  | scale a q =>
    refine ⟨⟨h1.1, ?_, (sz_inv h1.2.1 h2).mono hm⟩, sz_inv h1.2.1 h2⟩
    intro z
    have : q * (1 / q) = 1 := by
      have := h1.2.1
      grind
    rw [z, Rat.mul_zero] at this
    exact absurd this (by decide)
  | add a b q => exact ⟨⟨h1.1, h1.2.1, h1.2.2.1, (sz_neg h2).mono hm⟩, sz_neg h2⟩
theorem is_okb {n : Nat} {d : Deed} (h : d.Is n) : d.OkB := by
  cases d with
  | swap a b => exact trivial
  | scale a q => exact ⟨h.2.1, h.2.2⟩
  | add a b q => exact h.2.2.2
end Z
end
section
set_option Elab.async false
set_option autoImplicit false
set_option linter.all false
set_option maxRecDepth 100000
set_option maxHeartbeats 2000000
open Mn
local macro_rules | `(tactic| array_get_dec) => `(tactic| try simp (disch := first | assumption | rfl | decide | decide +kernel) only [pVar_k, vW_at, vW_fz, vW_fr, vW_dr, isB_dr, isD_dr, kqAsg_dr, kqAsgF_dr, kqRet_dr, pC_int, pC_bl, pC_str, pC_non, pC_t2, pBin_k, kq1_ok, kq1_exc, kq2_ok, kq2_exc, pUn_k, kqU_ok, kqU_exc, pAnd_k, kqAnd_t, kqAnd_f, pOr_k, kqOr_t, kqOr_f, pNot_k, kqNot_ok, pChain_k, kqC0_ok, kqC1_ok, kqC2_t, kqC2_f, kqC3_ok, pvL_nil, pvL_k, kqL1_ok, kqL1_exc, kqL2_ok, kqL2_exc, pTup_k, pLst_k, kqTup_exc, kqLst_exc, kqTup_1, kqTup_2, kqTup_3, kqTup_4, kqLst_0, kqLst_1, kqLst_2, kqLst_3, kqLst_4, anyB_nil, anyB_cons, anyT_nil, anyT_cons, at_fl, at_tn, at_t, mk_fl, mk_tn, mk_t, isB_fr, isB_fz, isB_bo, isB_bd, isD_fr, isD_fz, isD_bo, isD_bd, nW_k, elW_k, mkT_k, mkL_k, cond_true, cond_false, pCall_k, kqCall_ok, kqCall_exc, kqRes_ok, kqRes_exc, callW_at, callW_f, fn_1, fn_2, fn_3, fn_4, fn_5, fn_6, kqFn_nx, kqFn_ret, kqFn_exc, pSl_k, kqSl1_ok, kqSl2_ok, kqSl3_ok, pPart_n, pPart_s, kqPt_ok, pList_k, pRev_k, pEnum_k, pZip_k, kqZip1_ok, kqZip2_ok, pRange1_k, pRange2_k, kqR21_ok, kqR22_ok, pLc_k, killP_nil, killP_cons, ptName_at, ptName_fz, ptTup_a2, ptTup_a3, ptTup_f2, ptTup_f3, ptTup_q, ptAll_nil, ptAll_cons, kqAll_nx, pSeq_k, kqSeq2_nx, kqSeq2_ret, kqSeq2_ct, kqSeq2_bk, kqSeq2_exc, pPass_k, pCt_k, pBk_k, pRaise_k, pKl_k, pFz_k, frz_k, fzO_at, fzO_mk, fzO_none, fzW_at, fzW_mk, pAsg_k, kqAsg_at, kqAsg_fr, kqAsg_fz, kqAsg_exc, pAsgF_k, kqAsgF_at, kqAsgF_fr, kqAsgF_fz, kqAsgF_exc, pAsgT_k, kqAsgT_ok, kqTg_nx, kqAsgT_exc, pApp_k, pExt_k, pIns_k, kqIns1_ok, pSubA_k, kqSub1_ok, kqSub1_exc, pPar_k, kqPar_at, kqPar_1, kqPar_2, kqPar_3, pDrop_k, kqDrop_ok, kqDrop_exc, pRet_k, kqRet_at, kqRet_fr, kqRet_fz, kqRet_bo, kqRet_bd, kqRet_exc, pIf_k, kqIf_t, kqIf_f, kqIf_exc, pFor_k, kqFor_ok, pWhile_k, pTry_k, kqTry_nx, kqTry_ret, kqTry_exc, stepK_nx, stepK_ct, stepK_bk, stepK_ret, stepK_exc, stepF_nx, goF_nx, goF_bk, goF_ret, goF_exc, lcStep_nx, vq0, vq1, Int.cast_ofNat_Int, Int.reduceLT, Int.reduceEq, Int.reduceLE, Int.reduceGT, Z.hL_d, Z.hL_ds, Z.hLs_d, Z.se_ww, Z.se_ss, Z.se_aa, Z.se_ws, Z.se_wa, Z.se_sw, Z.se_sa, Z.se_aw, Z.se_as, Z.sn_ss, hL_q, hL_r, hL_t, hL_i, hL_int, hL_bl, hL_str, hL_non, hL_exc, hL_lst, hL_ro, hL_tup, hL_nil, hL_cons, hLs_q, hLs_i, hLs_bl, qEq_q, qNe_q, qEq_int, qNe_int, qEq_bl, qNe_bl, qEq_r, qNe_r, qEq_t, qNe_t, qEq_vi, qNe_vi, qAdd_int, qSub_int, qMul_int, qDiv_int, qDiv_sm, qMod_int, qPow_int, qDm_sm, qMax_int, qMin_int, qLt_int, qLe_int, qGt_int, qGe_int, qNeg_int, qAbs_int, qToInt_int, qToInt_bl, qIsN_at, qIsN_a, qNotN_at, qNotN_a, isNon_non, isNon_int, isNon_q, isNon_r, qIx_q0, qIx_q1, qLen_q, qLen_r, qLen_t, qLen_vi, qLen_l, qLen_ro, qLen_tp, qLen_ta, qIs_q, qIs_r, qIs_t, qIs_vi, qIs_l, qIs_ro, qIs_tp, qIs_ta, qIs_int, qIs_bl, qIs_str, qIs_non, qIs_exc, Z.pC_N, Z.pC_O, qIx_a0, qIx_a1, qIx_a2, qIx_a3, qIx_f0, qIx_f1, qIx_f2, kqSeq_r, kqSeq_vi, kqSeq_t, kqEnum_r, kqEnum_vi, kqEnum_t, zipOf_rr, zipOf_tr, zipOf_tt, qList_r, qAll_bl, qAny_bl, ty_tuple_tuple, ty_tuple_list, ty_tuple_int, ty_tuple_bool, ty_tuple_str, ty_tuple_NoneType, ty_list_tuple, ty_list_list, ty_list_int, ty_list_bool, ty_list_str, ty_list_NoneType, ty_int_tuple, ty_int_list, ty_int_int, ty_int_bool, ty_int_str, ty_int_NoneType, ty_bool_tuple, ty_bool_list, ty_bool_int, ty_bool_bool, ty_bool_str, ty_bool_NoneType, ty_str_tuple, ty_str_list, ty_str_int, ty_str_bool, ty_str_str, ty_str_NoneType, List.map_cons, List.map_nil, List.cons_append, List.nil_append, List.append_nil, List.reduceReplicate, Nat.reduceSub, List.getElem?_cons_zero, List.getElem?_cons_succ, List.set_cons_zero, List.set_cons_succ, List.length_cons, List.length_nil, Nat.zero_add, Nat.reduceAdd, decide_true, decide_false, beq_self_eq_true, Bool.not_true, Bool.not_false, Bool.or_false, Bool.or_true, Bool.false_or, Bool.true_or, Bool.and_false, Bool.and_true, Bool.false_and, Bool.true_and, Bool.and_self, Bool.or_self])
/-! Tables and deeds that are drawn. -/
namespace Z
open Mn Y
theorem sz70 {q : Rat} (h : Dr (12 * 10 ^ 20) q) : Mn.Sz 71 q := h.sz (by decide) (Nat.lt_of_lt_of_le (by decide : 12 < 2 ^ 4) (Nat.pow_le_pow_right (by decide) (by decide))) (by decide +kernel)
theorem ldeed_ok {n m : Nat} (hn : Gt n) (hm : 0 < m) (hm2 : m ≤ 5) : ∃ d : Deed, (d.Is m ∧ d.Sz 71) ∧ v_l_deed [.int n, .int m] = .ok (.at (vd d)) := by
  have sm : ∀ k : Nat, k ≤ 5 → SmD (k : Int) := fun k hk => SmD_nat (Nat.lt_of_lt_of_le (show k < 2 ^ 3 by omega) (Nat.pow_le_pow_right (by decide) (by decide)))
  have s3 : SmD 3 := sm 3 (by decide)
  have sM : SmD (m : Int) := sm m hm2
  have a3 : (0 : Int) < 3 := by decide
  have am : (0 : Int) < m := by omega
  unfold v_l_deed
  array_get_dec
  unfold v_l_deed.b
  array_get_dec
  obtain ⟨M, hM, eM⟩ : ∃ M : Nat, (M = max 1 (m - 1)) ∧ (if (m : Int) - 1 > 1 then (m : Int) - 1 else 1) = (M : Int) := by
    refine ⟨_, rfl, ?_⟩
    split <;> omega
  rw [eM]
  have sMM : SmD (M : Int) := sm M (by omega)
  have aM : (0 : Int) < M := by omega
  array_get_dec
  rw [show (n : Int) / 3 = ((n / 3 : Nat) : Int) from rfl, show (n : Int) % 3 = ((n % 3 : Nat) : Int) from rfl, show ((n / 3 : Nat) : Int) / (m : Int) = ((n / 3 / m : Nat) : Int) from rfl, show ((n / 3 : Nat) : Int) % (m : Int) = ((n / 3 % m : Nat) : Int) from rfl, show ((n / 3 / m : Nat) : Int) / (M : Int) = ((n / 3 / m / M : Nat) : Int) from rfl, show ((n / 3 / m : Nat) : Int) % (M : Int) = ((n / 3 / m % M : Nat) : Int) from rfl]
  have g : Gt (n / 3 / m / M) := by
    have h1 : n / 3 / m / M ≤ n := Nat.le_trans (Nat.div_le_self _ _) (Nat.le_trans (Nat.div_le_self _ _) (Nat.div_le_self _ _))
    unfold Gt at *
    omega
  have hw : n % 3 < 3 := Nat.mod_lt _ (by decide)
  have hi : n / 3 % m < m := Nat.mod_lt _ hm
  have hj : n / 3 / m % M < M := Nat.mod_lt _ (by omega)
  generalize n / 3 / m / M = N at *
  generalize n % 3 = w at *
  generalize n / 3 % m = i at *
  generalize n / 3 / m % M = j0 at *
  clear eM
  obtain ⟨m', q, g', dq, eq⟩ := ratio3_ok g
  have sq := sz70 dq
  obtain ⟨j, hj1, hj2, ej⟩ : ∃ j : Nat, (1 < m → j < m) ∧ j ≠ i ∧ (if i ≤ j0 then ((j0 : Int) + 1) else (j0 : Int)) = (j : Int) := by
    by_cases h : i ≤ j0
    · exact ⟨j0 + 1, by omega, by omega, by rw [if_pos h]; rfl⟩
    · exact ⟨j0, by omega, by omega, by rw [if_neg h]⟩
  have step : ∀ (x5 : Option W) (w' : Nat) (N' i' : V), kqSeq2 (pPass) (kqIf (pAsgF 4 (pBin qAdd (pVar 4) (pC (.int 1)))) pPass [some (.at N'), some (.at (.int m)), some (.at (.int w')), some (.at (.int i)), some (.at (.int j0)), x5] (.ok (.at (.bl (decide ((i : Int) ≤ j0)))))) = .nx [some (.at N'), some (.at (.int m)), some (.at (.int w')), some (.at (.int i)), some (.at (.int j)), x5] := fun x5 w' N' i' => by
    by_cases h : i ≤ j0
    · rw [decide_eq_true (show (i : Int) ≤ j0 by omega)]
      rw [if_pos h] at ej
      array_get_dec
      rw [ej]
    · rw [decide_eq_false (show ¬(i : Int) ≤ j0 by omega)]
      rw [if_neg h] at ej
      array_get_dec
      rw [ej]
  have st2 := step none w (.int N) .non
  unfold kqSeq2 at st2
  obtain ⟨r, hr⟩ : ∃ r, kqIf (pAsgF 4 (pBin qAdd (pVar 4) (pC (.int 1)))) pPass [some (.at (.int N)), some (.at (.int m)), some (.at (.int w)), some (.at (.int i)), some (.at (.int j0)), none] (.ok (.at (.bl (decide ((i : Int) ≤ j0))))) = r := ⟨_, rfl⟩
  rw [hr] at st2 ⊢
  have rr : r = .nx [some (.at (.int N)), some (.at (.int m)), some (.at (.int w)), some (.at (.int i)), some (.at (.int j)), none] := by
    cases r with
    | nx π => exact st2
    | _ => cases st2
  rw [rr]
  clear st2 step hr rr
  array_get_dec
  rw [eq]
  array_get_dec
  have k0 : (0 : Rat) = 0 := rfl
  -- the kind of deed
  have fin : ∀ (w' : Nat), w' < 3 → (m = 1 → w' = 1) → ∃ d : Deed, (d.Is m ∧ d.Sz 71) ∧ kqFn (kqSeq2 (pSeq (pIf (pBin qEq (pVar 2) (pC (.int 2))) (pRet (pTup [pC (.str (S "add")), pVar 3, pVar 4, pVar 5])) (pPass)) (pSeq (pIf (pBin qEq (pVar 5) (pTup [pC (.int 0), pC (.int 1)])) (pAsgF 5 (pTup [pUn qNeg (pC (.int 1)), pC (.int 7)])) (pPass)) (pRet (pTup [pC (.str (S "scale")), pVar 3, pVar 5])))) (pIf (pBin qEq (pVar 2) (pC (.int 0))) (pRet (pTup [pC (.str (S "swap")), pVar 3, pVar 4])) (pPass) [some (.at (.int N)), some (.at (.int m)), some (.at (.int w')), some (.at (.int i)), some (.at (.int j)), some (.at (vq q))])) = .ok (.at (vd d)) := fun w' h1 h2 => by
    have hjm : w' ≠ 1 → j < m := fun h => hj1 (by omega)
    rcases w' with _ | _ | _ | w'
    · refine ⟨.swap i j, ⟨⟨hi, hjm (by decide), Ne.symm hj2⟩, trivial⟩, ?_⟩
      rw [show (((0 : Nat) : Int)) = 0 from rfl]
      array_get_dec
      rfl
    · rw [show (((0 + 1 : Nat) : Int)) = 1 from rfl]
      by_cases hq : q = 0
      · refine ⟨.scale i (Rat.divInt (-1) 7), ⟨⟨hi, by decide +kernel, by decide +kernel⟩, show Mn.Sz 71 _ by decide +kernel⟩, ?_⟩
        array_get_dec
        rw [decide_eq_true hq]
        array_get_dec
        rw [show vd (.scale i (Rat.divInt (-1) 7)) = .tup [.str (S "scale"), .int i, .tup [.int (-1), .int 7]] from by
          show V.tup [.str (S "scale"), .int i, .tup [.int (Rat.divInt (-1) 7).num, .int ((Rat.divInt (-1) 7).den : Nat)]] = _
          rw [show (Rat.divInt (-1) 7).num = -1 by decide +kernel, show (Rat.divInt (-1) 7).den = 7 by decide +kernel]
          rfl]
      · refine ⟨.scale i q, ⟨⟨hi, hq, sq.mono (by decide)⟩, sq⟩, ?_⟩
        array_get_dec
        rw [decide_eq_false hq]
        array_get_dec
        rfl
    · refine ⟨.add i j q, ⟨⟨hi, hjm (by decide), Ne.symm hj2, sq.mono (by decide)⟩, sq⟩, ?_⟩
      rw [show (((0 + 1 + 1 : Nat) : Int)) = 2 from rfl]
      array_get_dec
      rfl
    · omega
  by_cases h1 : m = 1
  · subst h1
    obtain ⟨d, hd, e⟩ := fin 1 (by decide) (fun _ => rfl)
    refine ⟨d, hd, ?_⟩
    rw [← e, show decide ((((1 : Nat) : Int)) = 1) = true from rfl]
    array_get_dec
  · obtain ⟨d, hd, e⟩ := fin w hw (fun h => absurd h h1)
    refine ⟨d, hd, ?_⟩
    rw [← e, decide_eq_false (show ¬((m : Int)) = 1 by omega)]
    array_get_dec
end Z
end
section
set_option Elab.async false
set_option autoImplicit false
set_option linter.all false
set_option maxRecDepth 100000
set_option maxHeartbeats 2000000
open Mn
local macro_rules | `(tactic| array_get_dec) => `(tactic| try simp (disch := first | assumption | rfl | decide | decide +kernel) only [pVar_k, vW_at, vW_fz, vW_fr, vW_dr, isB_dr, isD_dr, kqAsg_dr, kqAsgF_dr, kqRet_dr, pC_int, pC_bl, pC_str, pC_non, pC_t2, pBin_k, kq1_ok, kq1_exc, kq2_ok, kq2_exc, pUn_k, kqU_ok, kqU_exc, pAnd_k, kqAnd_t, kqAnd_f, pOr_k, kqOr_t, kqOr_f, pNot_k, kqNot_ok, pChain_k, kqC0_ok, kqC1_ok, kqC2_t, kqC2_f, kqC3_ok, pvL_nil, pvL_k, kqL1_ok, kqL1_exc, kqL2_ok, kqL2_exc, pTup_k, pLst_k, kqTup_exc, kqLst_exc, kqTup_1, kqTup_2, kqTup_3, kqTup_4, kqLst_0, kqLst_1, kqLst_2, kqLst_3, kqLst_4, anyB_nil, anyB_cons, anyT_nil, anyT_cons, at_fl, at_tn, at_t, mk_fl, mk_tn, mk_t, isB_fr, isB_fz, isB_bo, isB_bd, isD_fr, isD_fz, isD_bo, isD_bd, nW_k, elW_k, mkT_k, mkL_k, cond_true, cond_false, pCall_k, kqCall_ok, kqCall_exc, kqRes_ok, kqRes_exc, callW_at, callW_f, fn_1, fn_2, fn_3, fn_4, fn_5, fn_6, kqFn_nx, kqFn_ret, kqFn_exc, pSl_k, kqSl1_ok, kqSl2_ok, kqSl3_ok, pPart_n, pPart_s, kqPt_ok, pList_k, pRev_k, pEnum_k, pZip_k, kqZip1_ok, kqZip2_ok, pRange1_k, pRange2_k, kqR21_ok, kqR22_ok, pLc_k, killP_nil, killP_cons, ptName_at, ptName_fz, ptTup_a2, ptTup_a3, ptTup_f2, ptTup_f3, ptTup_q, ptAll_nil, ptAll_cons, kqAll_nx, pSeq_k, kqSeq2_nx, kqSeq2_ret, kqSeq2_ct, kqSeq2_bk, kqSeq2_exc, pPass_k, pCt_k, pBk_k, pRaise_k, pKl_k, pFz_k, frz_k, fzO_at, fzO_mk, fzO_none, fzW_at, fzW_mk, pAsg_k, kqAsg_at, kqAsg_fr, kqAsg_fz, kqAsg_exc, pAsgF_k, kqAsgF_at, kqAsgF_fr, kqAsgF_fz, kqAsgF_exc, pAsgT_k, kqAsgT_ok, kqTg_nx, kqAsgT_exc, pApp_k, pExt_k, pIns_k, kqIns1_ok, pSubA_k, kqSub1_ok, kqSub1_exc, pPar_k, kqPar_at, kqPar_1, kqPar_2, kqPar_3, pDrop_k, kqDrop_ok, kqDrop_exc, pRet_k, kqRet_at, kqRet_fr, kqRet_fz, kqRet_bo, kqRet_bd, kqRet_exc, pIf_k, kqIf_t, kqIf_f, kqIf_exc, pFor_k, kqFor_ok, pWhile_k, pTry_k, kqTry_nx, kqTry_ret, kqTry_exc, stepK_nx, stepK_ct, stepK_bk, stepK_ret, stepK_exc, stepF_nx, goF_nx, goF_bk, goF_ret, goF_exc, lcStep_nx, vq0, vq1, Int.cast_ofNat_Int, Int.reduceLT, Int.reduceEq, Int.reduceLE, Int.reduceGT, Z.hL_d, Z.hL_ds, Z.hLs_d, Z.se_ww, Z.se_ss, Z.se_aa, Z.se_ws, Z.se_wa, Z.se_sw, Z.se_sa, Z.se_aw, Z.se_as, Z.sn_ss, hL_q, hL_r, hL_t, hL_i, hL_int, hL_bl, hL_str, hL_non, hL_exc, hL_lst, hL_ro, hL_tup, hL_nil, hL_cons, hLs_q, hLs_i, hLs_bl, qEq_q, qNe_q, qEq_int, qNe_int, qEq_bl, qNe_bl, qEq_r, qNe_r, qEq_t, qNe_t, qEq_vi, qNe_vi, qAdd_int, qSub_int, qMul_int, qDiv_int, qDiv_sm, qMod_int, qPow_int, qDm_sm, qMax_int, qMin_int, qLt_int, qLe_int, qGt_int, qGe_int, qNeg_int, qAbs_int, qToInt_int, qToInt_bl, qIsN_at, qIsN_a, qNotN_at, qNotN_a, isNon_non, isNon_int, isNon_q, isNon_r, qIx_q0, qIx_q1, qLen_q, qLen_r, qLen_t, qLen_vi, qLen_l, qLen_ro, qLen_tp, qLen_ta, qIs_q, qIs_r, qIs_t, qIs_vi, qIs_l, qIs_ro, qIs_tp, qIs_ta, qIs_int, qIs_bl, qIs_str, qIs_non, qIs_exc, Z.pC_N, Z.pC_O, qIx_a0, qIx_a1, qIx_a2, qIx_a3, qIx_f0, qIx_f1, qIx_f2, kqSeq_r, kqSeq_vi, kqSeq_t, kqEnum_r, kqEnum_vi, kqEnum_t, zipOf_rr, zipOf_tr, zipOf_tt, qList_r, qAll_bl, qAny_bl, ty_tuple_tuple, ty_tuple_list, ty_tuple_int, ty_tuple_bool, ty_tuple_str, ty_tuple_NoneType, ty_list_tuple, ty_list_list, ty_list_int, ty_list_bool, ty_list_str, ty_list_NoneType, ty_int_tuple, ty_int_list, ty_int_int, ty_int_bool, ty_int_str, ty_int_NoneType, ty_bool_tuple, ty_bool_list, ty_bool_int, ty_bool_bool, ty_bool_str, ty_bool_NoneType, ty_str_tuple, ty_str_list, ty_str_int, ty_str_bool, ty_str_str, ty_str_NoneType, List.map_cons, List.map_nil, List.cons_append, List.nil_append, List.append_nil, List.reduceReplicate, Nat.reduceSub, List.getElem?_cons_zero, List.getElem?_cons_succ, List.set_cons_zero, List.set_cons_succ, List.length_cons, List.length_nil, Nat.zero_add, Nat.reduceAdd, decide_true, decide_false, beq_self_eq_true, Bool.not_true, Bool.not_false, Bool.or_false, Bool.or_true, Bool.false_or, Bool.true_or, Bool.and_false, Bool.and_true, Bool.false_and, Bool.true_and, Bool.and_self, Bool.or_self])
/-! Tables that are drawn row by row, some rows mixes of those ahead. -/
namespace Z
open Mn Y
/-- a function that draws a row -/
def DrawsR (R : PF) : Prop := ∀ n L, Gt n → L ≤ 1000 → ∃ qs : List Rat, qs.length = L ∧ QdA 12 (12 * 10 ^ 20) qs ∧ R [.int n, .int L] = .ok ⟨.fr, false, vr qs⟩
theorem drawsR3 : DrawsR v_l_row := fun n L h h2 => row_ok draws3 h h2
def vTable (R : PF) : PF := pFn 3 8 (pSeq (pAsg 3 (pLst [])) (pSeq (pFor [4, 5, 6, 7] (pRange1 (pUn qLen (pVar 0))) (ptName 4) (pSeq (pAsgF 5 (pCall v_l_great_8 [pBin qIx (pVar 0) (pVar 4)])) (pSeq (pAsgF 6 (pCall R [pBin qDiv (pVar 5) (pC (.int 9)), pVar 1])) (pSeq (pIf (pAnd (pVar 2) (pAnd (pBin qGt (pBin qMod (pVar 5) (pC (.int 3))) (pC (.int 0))) (pBin qGt (pVar 4) (pC (.int 0))))) (pSeq (pAsgF 7 (pCall R [pBin qDiv (pVar 5) (pC (.int 9)), pVar 4])) (pAsgF 6 (pCall v_l_mix [pVar 3, pVar 7, pVar 1]))) (pPass)) (pApp 3 (pVar 6)))))) (pRet (pVar 3))))
theorem table3_eq : v_l_table_3 = vTable v_l_row := id rfl
theorem n71 : 12 * 10 ^ 20 < 2 ^ 71 := by decide +kernel
/-- the bounds of the first k rows -/
def QdT (D N : Nat) (T : List (List Rat)) : Prop := ∀ r ∈ T, QdA D N r
theorem QdT.bd {k : Nat} {T : List (List Rat)} (h : QdT (12 ^ k) (2 ^ (75 * k)) T) : BdT (75 * k + 1) T := by
  refine ⟨12 ^ k, 2 ^ (75 * k), Nat.pow_pos (by decide), ?_, Nat.pow_lt_pow_right (by decide) (by omega), h⟩
  calc 12 ^ k ≤ 16 ^ k := Nat.pow_le_pow_left (by decide) k
    _ = 2 ^ (4 * k) := by rw [show (16 : Nat) = 2 ^ 4 from rfl, ← Nat.pow_mul]
    _ < 2 ^ (75 * k + 1) := Nat.pow_lt_pow_right (by decide) (by omega)
theorem mix_bound {L k : Nat} {rs : List (List Rat)} {ss : List Rat} (hk : k ≤ 8) (hl : rs.length = k) (hw : Wid L rs) (hT : QdT (12 ^ k) (2 ^ (75 * k)) rs) (hs : QdA 12 (12 * 10 ^ 20) ss) (j : Nat) (hj : j ≤ k) : QdA (12 ^ (k + 1)) (2 ^ (75 * (k + 1))) (mixK L rs ss j) := by
  intro q hq
  have h := mixK_qd hw hT hs j (by omega) q hq
  rw [← Nat.pow_succ] at h
  refine h.mono ?_
  have e : 2 ^ (75 * (k + 1)) = 2 ^ (75 * k) * 2 ^ 75 := by rw [← Nat.pow_add]; rfl
  have b1 : j * (12 * 10 ^ 20) ≤ 2 ^ 75 := by
    have := n71
    have : j * (12 * 10 ^ 20) ≤ 8 * (12 * 10 ^ 20) := Nat.mul_le_mul_right _ (by omega)
    have e75 : (2 : Nat) ^ 75 = 2 ^ 71 * 16 := by decide +kernel
    omega
  rw [e, Nat.mul_left_comm]
  exact Nat.mul_le_mul_left _ b1
theorem table_ok {R : PF} (hR : DrawsR R) {cs : List Int} {L : Nat} (b : Bool) (hc : cs.length ≤ 8) (hL : L ≤ 1000) (hb : ∀ z ∈ cs, bits z ≤ 1048576) : ∃ rs : List (List Rat), rs.length = cs.length ∧ Wid L rs ∧ QdT (12 ^ cs.length) (2 ^ (75 * cs.length)) rs ∧ vTable R [vi cs, .int L, .bl b] = .ok ⟨.fr, false, vt rs⟩ := by
  have szl : szLine = 16777216 := rfl
  have s9 : SmD 9 := SmD_nat (b := 9) (Nat.lt_of_lt_of_le (by decide : 9 < 2 ^ 4) (Nat.pow_le_pow_right (by decide) (by decide)))
  have a9 : (9 : Int) ≠ 0 := by decide
  have a3 : (3 : Int) ≠ 0 := by decide
  unfold vTable
  array_get_dec
  rw [kqR1_nat (by omega)]
  array_get_dec
  obtain ⟨rs, ⟨h1, h2, h3⟩, e⟩ := forN_ex (ks := [4, 5, 6, 7]) (t := ptName 4) (b := pSeq (pAsgF 5 (pCall v_l_great_8 [pBin qIx (pVar 0) (pVar 4)])) (pSeq (pAsgF 6 (pCall R [pBin qDiv (pVar 5) (pC (.int 9)), pVar 1])) (pSeq (pIf (pAnd (pVar 2) (pAnd (pBin qGt (pBin qMod (pVar 5) (pC (.int 3))) (pC (.int 0))) (pBin qGt (pVar 4) (pC (.int 0))))) (pSeq (pAsgF 7 (pCall R [pBin qDiv (pVar 5) (pC (.int 9)), pVar 4])) (pAsgF 6 (pCall v_l_mix [pVar 3, pVar 7, pVar 1]))) (pPass)) (pApp 3 (pVar 6))))) (g := fun i : Nat => W.at (.int (i : Int))) (σ := List (List Rat))
    (fun s => [some ⟨.fz, true, vi cs⟩, some (.at (.int L)), some (.at (.bl b)), some ⟨.fr, false, vt s⟩, none, none, none, none]) (fun i s => s.length = i ∧ Wid L s ∧ QdT (12 ^ i) (2 ^ (75 * i)) s) (xs := List.range cs.length)
    (fun i x s hx hs => by
      obtain ⟨rfl, hi⟩ := range_at hx
      obtain ⟨a1, a2, a4⟩ := hs
      have ez := get_of (0 : Int) hi
      obtain ⟨n, gn, en⟩ := great8_ok (hb _ (List.mem_of_getElem? ez))
      have g9 : Gt (n / 9) := by unfold Gt at *; omega
      obtain ⟨qs, q1, q2, q3⟩ := hR (n / 9) L g9 hL
      array_get_dec
      rw [qIx_vi ez]
      array_get_dec
      rw [en]
      array_get_dec
      rw [show Int.fdiv (n : Int) 9 = ((n / 9 : Nat) : Int) from fdiv_nat n 9, q3]
      array_get_dec
      -- the row that is put behind
      have put : ∀ (r : List Rat) (x5 x7 : Option W), r.length = L → QdA (12 ^ (i + 1)) (2 ^ (75 * (i + 1))) r → ∃ s', (s'.length = i + 1 ∧ Wid L s' ∧ QdT (12 ^ (i + 1)) (2 ^ (75 * (i + 1))) s') ∧ stepK [4, 5, 6, 7] (kqApp 3 [some ⟨.fz, true, vi cs⟩, some (.at (.int L)), some (.at (.bl b)), some ⟨.fr, false, vt s⟩, some (.at (.int i)), x5, some ⟨.fz, false, vr r⟩, x7] (.ok ⟨.fz, false, vr r⟩)) = .nx [some ⟨.fz, true, vi cs⟩, some (.at (.int L)), some (.at (.bl b)), some ⟨.fr, false, vt s'⟩, none, none, none, none] := fun r x5 x7 hr hq => by
        refine ⟨s ++ [r], ⟨by rw [List.length_append, a1]; rfl, fun p hp => ?_, fun p hp => ?_⟩, ?_⟩
        · rcases List.mem_append.mp hp with hp | hp
          · exact a2 p hp
          · rw [List.mem_singleton.mp hp]
            exact hr
        · rcases List.mem_append.mp hp with hp | hp
          · intro q hq
            have h := (a4 p hp q hq).lift 12
            rw [← Nat.pow_succ] at h
            refine h.mono ?_
            have e : 2 ^ (75 * (i + 1)) = 2 ^ (75 * i) * 2 ^ 75 := by rw [← Nat.pow_add]; rfl
            rw [e]
            exact Nat.mul_le_mul_left _ (by decide)
          · rw [List.mem_singleton.mp hp]
            exact hq
        · rw [kqApp_ok (ts := s.map vr) (tn := false) _ rfl rfl (by rw [List.length_map]; omega)]
          array_get_dec
          rw [show s.map vr ++ [vr r] = (s ++ [r]).map vr by rw [List.map_append]; rfl]
          rfl
      have q2' : QdA (12 ^ (i + 1)) (2 ^ (75 * (i + 1))) qs := fun q hq => by
        have h := (q2 q hq).lift (12 ^ i)
        rw [show 12 * 12 ^ i = 12 ^ (i + 1) by rw [Nat.pow_succ, Nat.mul_comm]] at h
        refine h.mono ?_
        have e : 2 ^ (75 * (i + 1)) = 2 ^ 75 * 2 ^ (75 * i) := by rw [← Nat.pow_add, Nat.mul_succ, Nat.add_comm]
        have b2 : 12 ^ i ≤ 2 ^ (75 * i) := calc 12 ^ i ≤ 16 ^ i := Nat.pow_le_pow_left (by decide) i
          _ = 2 ^ (4 * i) := by rw [show (16 : Nat) = 2 ^ 4 from rfl, ← Nat.pow_mul]
          _ ≤ 2 ^ (75 * i) := Nat.pow_le_pow_right (by decide) (by omega)
        rw [e]
        exact Nat.mul_le_mul (Nat.le_of_lt (Nat.lt_trans n71 (by decide +kernel))) b2
      have skip := put qs (some (.at (.int n))) none q1 q2'
      cases b with
      | false =>
        array_get_dec
        exact skip
      | true =>
        array_get_dec
        obtain ⟨t, ht⟩ : ∃ t : Bool, decide (0 < Int.fmod (n : Int) 3) = t := ⟨_, rfl⟩
        rw [ht]
        cases t with
        | false => 
          array_get_dec
          exact skip
        | true =>
          array_get_dec
          by_cases h0 : (0 : Int) < i
          · rw [decide_eq_true h0]
            array_get_dec
            obtain ⟨ss, s1, s2, s3⟩ := hR (n / 9) i g9 (by omega)
            rw [show Int.fdiv (n : Int) 9 = ((n / 9 : Nat) : Int) from fdiv_nat n 9, s3]
            array_get_dec
            have okD : ∀ {p : List Rat}, QdA (12 ^ (i + 1)) (2 ^ (75 * (i + 1))) p → OkA p := fun h => ((QdT.bd (T := [_]) fun r hr => by rw [List.mem_singleton.mp hr]; exact h).ok (by omega)) _ List.mem_cons_self
            have mb := fun j hj => mix_bound (L := L) (ss := ss) (show i ≤ 8 by omega) a1 a2 a4 s2 j hj
            rw [lmix_ok (L := L) (rs := s) (ss := ss) (by omega) (by omega) a2 ((QdT.bd a4).ok (by omega)) (fun q hq => (s2 q hq).sz (by decide) (Nat.lt_of_lt_of_le (by decide : 12 < 2 ^ 4) (Nat.pow_le_pow_right (by decide) (by decide))) (Nat.lt_of_lt_of_le n71 (Nat.pow_le_pow_right (by decide) (by decide)))) (fun k hk => ?_) (fun k hk => okD (mb k (by omega)))]
            · array_get_dec
              exact put _ _ _ (mixK_len a2 _ (by omega)) (mb _ (by omega))
            · refine okD fun q hq => ?_
              have h := scR_qd (a4 _ (List.mem_of_getElem? (get_of [] hk))) (QdA.getD s2 k) q hq
              rw [← Nat.pow_succ] at h
              refine h.mono ?_
              have e : 2 ^ (75 * (i + 1)) = 2 ^ (75 * i) * 2 ^ 75 := by rw [← Nat.pow_add]; rfl
              rw [e]
              exact Nat.mul_le_mul_left _ (Nat.le_of_lt (Nat.lt_trans n71 (by decide +kernel)))
          · rw [decide_eq_false h0]
            array_get_dec
            exact skip) [] ⟨rfl, (fun r h => by cases h), fun r h => by cases h⟩
  rw [show (⟨.fr, false, V.lst []⟩ : W) = ⟨.fr, false, vt []⟩ from rfl, e]
  array_get_dec
  rw [List.length_range] at h1 h3
  exact ⟨rs, h1, h2, h3, rfl⟩
end Z
end
section
set_option Elab.async false
set_option autoImplicit false
set_option maxRecDepth 100000
set_option linter.all false
/-! Running with trees of one's own. -/
namespace Mn
section
variable (π : PEnv) (e i : PE) (w x y : W) (es : List PE)
theorem pTupD_k : pTupD es π = kqTupD (pvL es π) := id rfl
theorem pLstD_k : pLstD es π = kqLstD (pvL es π) := id rfl
theorem kqTupD_ok {ws : List W} (h : ws.length ≤ szLine) (k : ws.all dOk = true) : kqTupD (.ok ws) = .ok ⟨.dr, false, .tup (ws.map W.t)⟩ := if_pos ⟨h, k⟩
theorem kqLstD_ok {ws : List W} (h : ws.length ≤ szLine) (k : ws.all dOk = true) : kqLstD (.ok ws) = .ok ⟨.dr, false, .lst (ws.map W.t)⟩ := if_pos ⟨h, k⟩
theorem kqLstD_0 : kqLstD (.ok []) = .ok ⟨.dr, false, .lst []⟩ := id rfl
theorem pLcD_k (s : PSrc) (t : PT) (vs : List Nat) (c e : PE) : pLcD s t vs c e π = kqLcD t c e (killP π vs) (s π) := id rfl
theorem dOk_dr (tn : Bool) (t : V) : dOk ⟨.dr, tn, t⟩ = true := id rfl
theorem dOk_r (tn : Bool) (qs : List Rat) : dOk ⟨.fr, tn, vr qs⟩ = true := by
  show (!V.hasLs (qs.map vq)) = true
  rw [hLs_q]
  rfl
theorem dOk_at {t : V} (h : t.hasL = false) : dOk (.at t) = true := by
  show (!t.hasL) = true
  rw [h]
  rfl
theorem dOk_l {tn : Bool} {ts : List V} (h : V.hasLs ts = false) : dOk ⟨.fr, tn, .lst ts⟩ = true := by
  show (!V.hasLs ts) = true
  rw [h]
  rfl
theorem pRetD_k {j : Nat} {tn : Bool} {t : V} (h : π[j]? = some (some ⟨.dr, tn, t⟩)) : pRetD j π = .ret ⟨.dr, false, t⟩ := by
  unfold pRetD ownD
  rw [h]
theorem pRetV_k {js : List Nat} {ts : List V} (h : deeps π js = some ts) (nd : js.Nodup) (l : ts.length ≤ szLine) : pRetV js π = .ret ⟨.dr, false, .tup ts⟩ := by
  unfold pRetV
  rw [h]
  exact if_pos ⟨nd, l⟩
theorem appP_0 {j : Nat} {tn : Bool} {us : List V} (h : π[j]? = some (some ⟨.dr, tn, .lst us⟩)) (he : e π = .ok w) (hd : dOk w = true) (hz : us.length < szLine) : pAppP j [] e π = .nx (π.set j (some ⟨.dr, false, .lst (us ++ [w.t])⟩)) := by
  unfold pAppP ownD
  rw [h]
  show kqApP j π (.lst us) e (.ok []) = _
  unfold kqApP appOf
  simp only [he, subV]
  exact if_pos ⟨hd, hz⟩
theorem pPath_1 {t : V} {k : Nat} {u : V} {ts : List V} (ht : t = .lst ts ∨ t = .tup ts) (hi : i π = .ok (.at (.int k))) (hk : ts[k]? = some u) : pPath (i :: es) π t = kqPm k (pPath es π u) := by
  have hl := (List.getElem?_eq_some_iff.mp hk).1
  have e1 : atIx ts.length (k : Int) = some k := by
    unfold atIx
    simp [hl]
  show kqPi t (fun m u => kqPm m (pPath es π u)) (i π) = _
  rw [hi]
  unfold kqPi
  rcases ht with rfl | rfl
  · simp only [W.at, kqPi.qLsT, e1, hk]
  · simp only [W.at, kqPi.qLsT, e1, hk]
theorem appP_1 {j : Nat} {tn : Bool} {us vs : List V} {k : Nat} (h : π[j]? = some (some ⟨.dr, tn, .lst us⟩)) (hi : i π = .ok (.at (.int k))) (hk : us[k]? = some (.lst vs)) (he : e π = .ok w) (hd : dOk w = true) (hz : vs.length < szLine) : pAppP j [i] e π = .nx (π.set j (some ⟨.dr, false, .lst (us.set k (.lst (vs ++ [w.t])))⟩)) := by
  unfold pAppP ownD
  rw [h]
  show kqApP j π (.lst us) e (pPath [i] π (.lst us)) = _
  rw [pPath_1 π i [] (.inl rfl) hi hk]
  show kqApP j π (.lst us) e (.ok [k]) = _
  unfold kqApP appOf
  simp only [he, subV, hk, putV]
  exact if_pos ⟨hd, hz⟩
theorem clrP_1 {j : Nat} {tn : Bool} {us vs : List V} {k : Nat} (h : π[j]? = some (some ⟨.dr, tn, .lst us⟩)) (hi : i π = .ok (.at (.int k))) (hk : us[k]? = some (.lst vs)) : pClrP j [i] π = .nx (π.set j (some ⟨.dr, false, .lst (us.set k (.lst []))⟩)) := by
  unfold pClrP ownD
  rw [h]
  show clrOf j π (.lst us) (pPath [i] π (.lst us)) = _
  rw [pPath_1 π i [] (.inl rfl) hi hk]
  show clrOf j π (.lst us) (.ok [k]) = _
  unfold clrOf
  simp only [subV, hk, putV]
theorem clrP_2 {j : Nat} {tn : Bool} {us vs zs : List V} {i2 : PE} {k l : Nat} (h : π[j]? = some (some ⟨.dr, tn, .lst us⟩)) (hi : i π = .ok (.at (.int k))) (hk : us[k]? = some (.lst vs)) (hi2 : i2 π = .ok (.at (.int l))) (hl : vs[l]? = some (.lst zs)) : pClrP j [i, i2] π = .nx (π.set j (some ⟨.dr, false, .lst (us.set k (.lst (vs.set l (.lst []))))⟩)) := by
  unfold pClrP ownD
  rw [h]
  show clrOf j π (.lst us) (pPath [i, i2] π (.lst us)) = _
  rw [pPath_1 π i [i2] (.inl rfl) hi hk, pPath_1 π i2 [] (.inl rfl) hi2 hl]
  show clrOf j π (.lst us) (.ok [k, l]) = _
  unfold clrOf
  simp only [subV, hk, hl, putV]
theorem pSubD_k (j : Nat) (is : List PE) : pSubD j is i e π = kqSubD j is i π (e π) := id rfl
theorem kqSubD_0 {j : Nat} {tn : Bool} {us : List V} {k : Nat} (h : π[j]? = some (some ⟨.dr, tn, .lst us⟩)) (hi : i π = .ok (.at (.int k))) (hk : k < us.length) (hd : dOk w = true) : kqSubD j [] i π (.ok w) = .nx (π.set j (some ⟨.dr, false, .lst (us.set k w.t)⟩)) := by
  have e1 : atIx us.length (k : Int) = some k := by
    unfold atIx
    simp [hk]
  unfold kqSubD ownD
  simp only [h]
  show kqSubDp j π (.lst us) i w (.ok []) = _
  unfold kqSubDp subDOf
  simp only [hi, subV, W.at, e1, putV]
  exact if_pos hd
theorem pSwap_k {j h i d : Nat} {tn f : Bool} {fl : Fl} {us ds : List V} {k l : Nat} {t u : V} (hj : π[j]? = some (some ⟨.dr, tn, .lst us⟩)) (hi : π[i]? = some (some (.at (.int k)))) (hd : π[d]? = some (some ⟨fl, f, .tup ds⟩)) (h2 : ds[2]? = some (.int l)) (hk : us[k]? = some t) (hl : us[l]? = some u) (hh : h < π.length) : pSwap j h i d π = .nx ((π.set j (some ⟨.dr, false, .lst ((us.set k u).set l t)⟩)).set h none) := by
  have a1 : atIx us.length (k : Int) = some k := by
    have := (List.getElem?_eq_some_iff.mp hk).1
    unfold atIx
    simp [this]
  have a2 : atIx us.length (l : Int) = some l := by
    have := (List.getElem?_eq_some_iff.mp hl).1
    unfold atIx
    simp [this]
  unfold pSwap ownD
  simp only [hj, hi, hd, W.at, h2, a1, a2, hk, hl]
  exact if_pos hh
theorem forOp_0 {o : Option Val} {j r : Nat} {tn : Bool} {us : List V} {zss : List (List V)} (h : π[j]? = some (some ⟨.dr, tn, .lst us⟩)) (hz : mapO lstOf us = some zss) (ho : opOk o = true) (hr : r < π.length) (hs : ∀ zs ∈ zss, zs.length < szLine) : pForOp o j [] r π = .nx ((π.set j (some ⟨.dr, false, .lst (zss.map fun zs => .lst (opG o zs))⟩)).set r none) := by
  unfold pForOp ownD
  rw [h]
  show forOf o j r π (.lst us) (.ok []) = _
  unfold forOf
  simp only [subV, hz, putV]
  exact if_pos ⟨ho, hr, List.all_eq_true.mpr fun zs h => decide_eq_true (hs zs h)⟩
theorem forOp_1 {o : Option Val} {j r : Nat} {tn : Bool} {us vs : List V} {k : Nat} {zss : List (List V)} (h : π[j]? = some (some ⟨.dr, tn, .lst us⟩)) (hi : i π = .ok (.at (.int k))) (hk : us[k]? = some (.lst vs)) (hz : mapO lstOf vs = some zss) (ho : opOk o = true) (hr : r < π.length) (hs : ∀ zs ∈ zss, zs.length < szLine) : pForOp o j [i] r π = .nx ((π.set j (some ⟨.dr, false, .lst (us.set k (.lst (zss.map fun zs => .lst (opG o zs))))⟩)).set r none) := by
  unfold pForOp ownD
  rw [h]
  show forOf o j r π (.lst us) (pPath [i] π (.lst us)) = _
  rw [pPath_1 π i [] (.inl rfl) hi hk]
  show forOf o j r π (.lst us) (.ok [k]) = _
  unfold forOf
  simp only [subV, hk, hz, putV]
  exact if_pos ⟨ho, hr, List.all_eq_true.mpr fun zs h => decide_eq_true (hs zs h)⟩
theorem mapO_rows (rs : List (List Rat)) : mapO lstOf (rs.map vr) = some (rs.map fun r => r.map vq) := mapO_map rs
where mapO_map : ∀ rs : List (List Rat), mapO lstOf (rs.map vr) = some (rs.map fun r => r.map vq)
  | [] => rfl
  | r :: rs => by
    rw [List.map_cons]
    unfold mapO
    rw [mapO_map rs]
    rfl
theorem pTakeD_k {is : List Nat} {j : Nat} {tn : Bool} {ts : List V} (h : π[j]? = some (some ⟨.dr, tn, .tup ts⟩)) (hl : ts.length = is.length) (nd : is.Nodup) : pTakeD is j π = .nx ((is.zip ts).foldl (fun π p => π.set p.1 (some ⟨.dr, false, p.2⟩)) (π.set j none)) := by
  unfold pTakeD ownD
  rw [h]
  exact if_pos ⟨hl, nd⟩
end
/-! comprehensions made whole -/
theorem kqLcD_new {α : Type} {t : PT} {e : PE} {π : PEnv} {g : α → W} {xs : List α} {st : Bool} (h : α → W) (hz : xs.length ≤ szLine) (hd : ∀ x, dOk (h x) = true)
    (hs : ∀ (i : Nat) (x : α), xs[i]? = some x → lcStep e (t (g x) π) = .ok (h x)) : kqLcD t (pC (.bl true)) e π (.ok ⟨xs.map g, st⟩) = .ok ⟨.dr, false, .lst (xs.map fun x => (h x).t)⟩ := by
  show (if (xs.map g).length ≤ szLine then kqLcD2 (pLcN t (pC (.bl true)) e π (xs.map g)) else .bad) = _
  rw [if_pos (by rw [List.length_map]; exact hz), lcN_map hs]
  show (if (xs.map h).all dOk = true then PR.ok (W.mk .dr false (.lst ((xs.map h).map W.t))) else .bad) = _
  rw [if_pos (by
    rw [List.all_map, List.all_eq_true]
    intro x _
    exact hd x), List.map_map]
  rfl
theorem lcD_rows {α : Type} {t : PT} {e : PE} {π : PEnv} {g : α → W} {xs : List α} {st : Bool} (k : α → List Rat) (hz : xs.length ≤ szLine)
    (hs : ∀ (i : Nat) (x : α), xs[i]? = some x → lcStep e (t (g x) π) = .ok ⟨.fr, false, vr (k x)⟩) : kqLcD t (pC (.bl true)) e π (.ok ⟨xs.map g, st⟩) = .ok ⟨.dr, false, vt (xs.map k)⟩ := by
  rw [kqLcD_new (fun x => ⟨.fr, false, vr (k x)⟩) hz (fun x => dOk_r _ _) hs, vt, List.map_map]
  rfl
theorem lcD_rowsD {α : Type} {t : PT} {e : PE} {π : PEnv} {g : α → W} {xs : List α} {st : Bool} (k : α → List Rat) (hz : xs.length ≤ szLine)
    (hs : ∀ (i : Nat) (x : α), xs[i]? = some x → lcStep e (t (g x) π) = .ok ⟨.dr, false, vr (k x)⟩) : kqLcD t (pC (.bl true)) e π (.ok ⟨xs.map g, st⟩) = .ok ⟨.dr, false, vt (xs.map k)⟩ := by
  rw [kqLcD_new (fun x => ⟨.dr, false, vr (k x)⟩) hz (fun x => rfl) hs, vt, List.map_map]
  rfl
theorem lcD_rats {α : Type} {t : PT} {e : PE} {π : PEnv} {g : α → W} {xs : List α} {st : Bool} (k : α → Rat) (hz : xs.length ≤ szLine)
    (hs : ∀ (i : Nat) (x : α), xs[i]? = some x → lcStep e (t (g x) π) = .ok (.at (vq (k x)))) : kqLcD t (pC (.bl true)) e π (.ok ⟨xs.map g, st⟩) = .ok ⟨.dr, false, vr (xs.map k)⟩ := by
  rw [kqLcD_new (fun x => .at (vq (k x))) hz (fun x => rfl) hs, vr, List.map_map]
  rfl
/-- copies of lent rows -/
theorem kqSeq_tb {s : Bool} {rs : List (List Rat)} : kqSeq (.ok ⟨.bd, s, vt rs⟩) = .ok ⟨rs.map fun r => ⟨.bd, s, vr r⟩, false⟩ := by
  show PR.ok (Ws.mk ((rs.map vr).map (elW true s)) false) = _
  rw [List.map_map]
  rfl
theorem qList_rb {f : Fl} {s : Bool} {qs : List Rat} : qList ⟨f, s, vr qs⟩ = .ok ⟨.fr, false, vr qs⟩ := by
  show PR.ok (mkL (isD f) s (qs.map vq)) = _
  rw [mkL_at (hLs_q qs)]
  rfl
theorem qIx_td {s : Bool} {rs : List (List Rat)} {i : Nat} {r : List Rat} (h : rs[i]? = some r) : qIx ⟨.bd, s, vt rs⟩ (.at (.int i)) = .ok ⟨.bd, s, vr r⟩ := by
  rw [vt, qIx_l (x := vr r) (by rw [List.getElem?_map, h]; rfl), isD_bd, elW_t (hL_r r)]
theorem ptName_no (i : Nat) (tn : Bool) (t : V) (π : PEnv) : ptName i ⟨.bd, tn, t⟩ π = .bad := id rfl
theorem pTmp_k (p : PE) (π : PEnv) : pTmp p π = kqTmp (p (frzAll π)) := id rfl
theorem frzAll_nil : frzAll [] = [] := id rfl
theorem frzAll_cons (o : Option W) (π : PEnv) : frzAll (o :: π) = fzO o :: frzAll π := id rfl
theorem kqTmp_ok {w : W} (h : dOk w = true) : kqTmp (.ok w) = .ok w := if_pos h
theorem kqTmp_exc (c : String) : kqTmp (.exc c) = .exc c := id rfl
theorem kqTmp_bl (b : Bool) : kqTmp (.ok (.at (.bl b))) = .ok (.at (.bl b)) := id rfl
theorem kqTmp_int (b : Int) : kqTmp (.ok (.at (.int b))) = .ok (.at (.int b)) := id rfl
theorem kqTmp_q (b : Rat) : kqTmp (.ok (.at (vq b))) = .ok (.at (vq b)) := id rfl
theorem kqTmp_non : kqTmp (.ok (.at .non)) = .ok (.at .non) := id rfl
theorem kqTmp_dr (tn : Bool) (t : V) : kqTmp (.ok ⟨.dr, tn, t⟩) = .ok ⟨.dr, tn, t⟩ := id rfl
theorem kqTmp_r (tn : Bool) (qs : List Rat) : kqTmp (.ok ⟨.fr, tn, vr qs⟩) = .ok ⟨.fr, tn, vr qs⟩ := kqTmp_ok (dOk_r tn qs)
end Mn
end
section
set_option Elab.async false
set_option autoImplicit false
set_option linter.all false
set_option maxRecDepth 100000
set_option maxHeartbeats 2000000
open Mn
local macro_rules | `(tactic| array_get_dec) => `(tactic| try simp (disch := first | assumption | rfl | decide | decide +kernel) only [pVar_k, vW_at, vW_fz, vW_fr, vW_dr, isB_dr, isD_dr, kqAsg_dr, kqAsgF_dr, kqRet_dr, pC_int, pC_bl, pC_str, pC_non, pC_t2, pBin_k, kq1_ok, kq1_exc, kq2_ok, kq2_exc, pUn_k, kqU_ok, kqU_exc, pAnd_k, kqAnd_t, kqAnd_f, pOr_k, kqOr_t, kqOr_f, pNot_k, kqNot_ok, pChain_k, kqC0_ok, kqC1_ok, kqC2_t, kqC2_f, kqC3_ok, pvL_nil, pvL_k, kqL1_ok, kqL1_exc, kqL2_ok, kqL2_exc, pTup_k, pLst_k, kqTup_exc, kqLst_exc, kqTup_1, kqTup_2, kqTup_3, kqTup_4, kqLst_0, kqLst_1, kqLst_2, kqLst_3, kqLst_4, anyB_nil, anyB_cons, anyT_nil, anyT_cons, at_fl, at_tn, at_t, mk_fl, mk_tn, mk_t, isB_fr, isB_fz, isB_bo, isB_bd, isD_fr, isD_fz, isD_bo, isD_bd, nW_k, elW_k, mkT_k, mkL_k, cond_true, cond_false, pCall_k, kqCall_ok, kqCall_exc, kqRes_ok, kqRes_exc, callW_at, callW_f, fn_1, fn_2, fn_3, fn_4, fn_5, fn_6, kqFn_nx, kqFn_ret, kqFn_exc, pSl_k, kqSl1_ok, kqSl2_ok, kqSl3_ok, pPart_n, pPart_s, kqPt_ok, pList_k, pRev_k, pEnum_k, pZip_k, kqZip1_ok, kqZip2_ok, pRange1_k, pRange2_k, kqR21_ok, kqR22_ok, pLc_k, killP_nil, killP_cons, ptName_at, ptName_fz, ptTup_a2, ptTup_a3, ptTup_f2, ptTup_f3, ptTup_q, ptAll_nil, ptAll_cons, kqAll_nx, pSeq_k, kqSeq2_nx, kqSeq2_ret, kqSeq2_ct, kqSeq2_bk, kqSeq2_exc, pPass_k, pCt_k, pBk_k, pRaise_k, pKl_k, pFz_k, frz_k, fzO_at, fzO_mk, fzO_none, fzW_at, fzW_mk, pAsg_k, kqAsg_at, kqAsg_fr, kqAsg_fz, kqAsg_exc, pAsgF_k, kqAsgF_at, kqAsgF_fr, kqAsgF_fz, kqAsgF_exc, pAsgT_k, kqAsgT_ok, kqTg_nx, kqAsgT_exc, pApp_k, pExt_k, pIns_k, kqIns1_ok, pSubA_k, kqSub1_ok, kqSub1_exc, pPar_k, kqPar_at, kqPar_1, kqPar_2, kqPar_3, pDrop_k, kqDrop_ok, kqDrop_exc, pRet_k, kqRet_at, kqRet_fr, kqRet_fz, kqRet_bo, kqRet_bd, kqRet_exc, pIf_k, kqIf_t, kqIf_f, kqIf_exc, pFor_k, kqFor_ok, pWhile_k, pTry_k, kqTry_nx, kqTry_ret, kqTry_exc, stepK_nx, stepK_ct, stepK_bk, stepK_ret, stepK_exc, stepF_nx, goF_nx, goF_bk, goF_ret, goF_exc, lcStep_nx, pTmp_k, frzAll_nil, frzAll_cons, kqTmp_bl, kqTmp_int, kqTmp_q, kqTmp_non, kqTmp_dr, kqTmp_r, pTupD_k, pLstD_k, kqLstD_0, pLcD_k, pSubD_k, vq0, vq1, Int.cast_ofNat_Int, Int.reduceLT, Int.reduceEq, Int.reduceLE, Int.reduceGT, Z.hL_d, Z.hL_ds, Z.hLs_d, Z.se_ww, Z.se_ss, Z.se_aa, Z.se_ws, Z.se_wa, Z.se_sw, Z.se_sa, Z.se_aw, Z.se_as, Z.sn_ss, hL_q, hL_r, hL_t, hL_i, hL_int, hL_bl, hL_str, hL_non, hL_exc, hL_lst, hL_ro, hL_tup, hL_nil, hL_cons, hLs_q, hLs_i, hLs_bl, qEq_q, qNe_q, qEq_int, qNe_int, qEq_bl, qNe_bl, qEq_r, qNe_r, qEq_t, qNe_t, qEq_vi, qNe_vi, qAdd_int, qSub_int, qMul_int, qDiv_int, qDiv_sm, qMod_int, qPow_int, qDm_sm, qMax_int, qMin_int, qLt_int, qLe_int, qGt_int, qGe_int, qNeg_int, qAbs_int, qToInt_int, qToInt_bl, qIsN_at, qIsN_a, qNotN_at, qNotN_a, isNon_non, isNon_int, isNon_q, isNon_r, qIx_q0, qIx_q1, qLen_q, qLen_r, qLen_t, qLen_vi, qLen_l, qLen_ro, qLen_tp, qLen_ta, qIs_q, qIs_r, qIs_t, qIs_vi, qIs_l, qIs_ro, qIs_tp, qIs_ta, qIs_int, qIs_bl, qIs_str, qIs_non, qIs_exc, Z.pC_N, Z.pC_O, qIx_a0, qIx_a1, qIx_a2, qIx_a3, qIx_f0, qIx_f1, qIx_f2, kqSeq_r, kqSeq_vi, kqSeq_t, kqEnum_r, kqEnum_vi, kqEnum_t, zipOf_rr, zipOf_tr, zipOf_tt, qList_r, qAll_bl, qAny_bl, ty_tuple_tuple, ty_tuple_list, ty_tuple_int, ty_tuple_bool, ty_tuple_str, ty_tuple_NoneType, ty_list_tuple, ty_list_list, ty_list_int, ty_list_bool, ty_list_str, ty_list_NoneType, ty_int_tuple, ty_int_list, ty_int_int, ty_int_bool, ty_int_str, ty_int_NoneType, ty_bool_tuple, ty_bool_list, ty_bool_int, ty_bool_bool, ty_bool_str, ty_bool_NoneType, ty_str_tuple, ty_str_list, ty_str_int, ty_str_bool, ty_str_str, ty_str_NoneType, List.map_cons, List.map_nil, List.cons_append, List.nil_append, List.append_nil, List.reduceReplicate, Nat.reduceSub, List.getElem?_cons_zero, List.getElem?_cons_succ, List.set_cons_zero, List.set_cons_succ, List.length_cons, List.length_nil, Nat.zero_add, Nat.reduceAdd, decide_true, decide_false, beq_self_eq_true, Bool.not_true, Bool.not_false, Bool.or_false, Bool.or_true, Bool.false_or, Bool.true_or, Bool.and_false, Bool.and_true, Bool.false_and, Bool.true_and, Bool.and_self, Bool.or_self])
/-! Dots, squares, weights; what the laws look at. -/
namespace Z
open Mn Y
theorem ratio4_ok {n : Nat} (hn : Gt n) : ∃ (m : Nat) (q : Rat), Gt m ∧ Dr (12 * 10 ^ 20) q ∧ v_l_ratio_4 [.int n] = .ok (.at (.tup [.int m, vq q])) := by
  have s8 : SmD ((8 : Nat) : Int) := SmD_nat (Nat.lt_of_lt_of_le (by decide : 8 < 2 ^ 4) (Nat.pow_le_pow_right (by decide) (by decide)))
  have s19 : SmD ((19 : Nat) : Int) := SmD_nat (Nat.lt_of_lt_of_le (by decide : 19 < 2 ^ 5) (Nat.pow_le_pow_right (by decide) (by decide)))
  have s1000 : SmD ((1000 : Nat) : Int) := SmD_nat (Nat.lt_of_lt_of_le (by decide : 1000 < 2 ^ 10) (Nat.pow_le_pow_right (by decide) (by decide)))
  have a0 : (0 : Int) < 8 := by decide
  have a1 : (0 : Int) < 19 := by decide
  have a2 : (1000 : Int) ≠ 0 := by decide
  replace s8 : SmD 8 := s8
  replace s19 : SmD 19 := s19
  replace s1000 : SmD 1000 := s1000
  unfold v_l_ratio_4
  array_get_dec
  unfold v_l_ratio_4.b
  array_get_dec
  rw [show (n : Int) / 8 = ((n / 8 : Nat) : Int) from rfl, show (n : Int) % 8 = ((n % 8 : Nat) : Int) from rfl, show ((n / 8 : Nat) : Int) / 19 = ((n / 8 / 19 : Nat) : Int) from rfl, show ((n / 8 : Nat) : Int) % 19 = ((n / 8 % 19 : Nat) : Int) from rfl]
  have l1 : n / 8 / 19 ≤ n := by omega
  have hg : Gt (n / 8 / 19) := by unfold Gt at *; omega
  have hw : n % 8 < 8 := Nat.mod_lt _ (by decide)
  have ht : n / 8 % 19 < 19 := Nat.mod_lt _ (by decide)
  generalize n / 8 / 19 = m at *
  generalize n % 8 = w at *
  generalize n / 8 % 19 = t at *
  by_cases h7 : (w : Int) = 7
  · rw [decide_eq_true h7]
    have b1 : Lt2 80 ((10 : Int) ^ (7 : Int).toNat) := by decide +kernel
    have b2 : mulOk 5 ((10 : Int) ^ (7 : Int).toNat) = true := mulOk_lt (m := 4) (by decide) b1 (by decide)
    have b3 : (10 : Int) ^ (8 : Int).toNat ≠ 0 := by decide +kernel
    array_get_dec
    rw [vq_n]
    rw [show Int.fdiv (m : Int) 1000 = ((m / 1000 : Nat) : Int) from fdiv_nat m 1000]
    refine ⟨_, _, by unfold Gt at *; omega, ?_, rfl⟩
    have e1 : (10 : Int) ^ (8 : Int).toNat = 10 ^ 8 := by decide +kernel
    have e2 : 5 * (10 : Int) ^ (7 : Int).toNat = 5 * 10 ^ 7 := by decide +kernel
    rw [e1, e2, Int.fmod_eq_emod_of_nonneg _ (by decide +kernel)]
    have g1 := Int.emod_nonneg (m : Int) (show (10 : Int) ^ 8 ≠ 0 by decide +kernel)
    have g2 := Int.emod_lt_of_pos (m : Int) (show (0 : Int) < 10 ^ 8 by decide +kernel)
    generalize (m : Int) % 10 ^ 8 = w at *
    exact ((Qd.int (w - 5 * 10 ^ 7)).dvd (by decide) (by decide)).mono (by omega)
  · rw [decide_eq_false h7]
    array_get_dec
    have hx : [V.int 1, V.int 1, V.int 1, V.int 2, V.int 3, V.int 4, V.int 6, V.int 12][w]? = some (.int ((bots.getD w 1 : Nat) : Int)) := by
      rcases w with _ | _ | _ | _ | _ | _ | _ | _ | w <;> first | rfl | omega
    have hm : bots.getD w 1 ∈ bots := by
      rcases w with _ | _ | _ | _ | _ | _ | _ | _ | w <;> first | decide | omega
    rw [kqLst_ok (by decide)]
    array_get_dec
    rw [qIx_l hx]
    array_get_dec
    generalize bots.getD w 1 = b at *
    obtain ⟨h1, h2, h3⟩ := bots_dvd b hm
    rw [low_ok (m := 4) (by omega) (by unfold Lt2; omega) (by decide) (.inl (by decide))]
    array_get_dec
    refine ⟨_, _, hg, (dr_small ht hm).mono (by decide), rfl⟩
theorem draws4 : Draws v_l_ratio_4 := fun _ h => ratio4_ok h
theorem drawsR4 : DrawsR v_l_row_2 := fun n L h h2 => row_ok draws4 h h2
theorem table4_eq : v_l_table_4 = vTable v_l_row_2 := id rfl
/-! what the laws look at -/
theorem low_q {q : Rat} (hq : Ok q) : v_l_low [.int q.num, .int q.den] = .ok (.at (vq q)) := by
  rw [low_ok (den_pos q) hq.den (by decide) (.inl (by decide)), Rat.num_divInt_den]
theorem isrow_ok {qs : List Rat} (h : OkA qs) : v_l_is_row_2 [vr qs, .int qs.length] = .ok (.at (.bl true)) := by
  unfold v_l_is_row_2
  array_get_dec
  unfold v_l_is_row_2.b
  array_get_dec
  rw [forN_map (fun i => [none, none, none]) ?_ fun i q hi => ?_]
  · array_get_dec
  · rfl
  · array_get_dec
    rw [whole_ok]
    array_get_dec
    rw [whole_ok]
    array_get_dec
    rw [decide_eq_false (show ¬((q.den : Int) < 1) by have := den_pos q; omega)]
    array_get_dec
    rw [low_q (h.at hi)]
    array_get_dec
theorem istable_ok {rs : List (List Rat)} {C : Nat} (hz : rs.length ≤ 1000000) (hw : Wid C rs) (h : OkT rs) : v_l_is_table_2 [vt rs, .int rs.length, .int C] = .ok (.at (.bl true)) := by
  have szl : szLine = 16777216 := rfl
  unfold v_l_is_table_2
  array_get_dec
  unfold v_l_is_table_2.b
  array_get_dec
  rw [lc_bls (fun _ => true) (by omega) fun i r hi => ?_]
  · array_get_dec
    rw [show ((rs.map fun _ => true).all id) = true from List.all_eq_true.mpr fun q hq => by
      obtain ⟨_, _, rfl⟩ := List.mem_map.mp hq
      rfl]
  · have m := List.mem_of_getElem? hi
    have := isrow_ok (h r m)
    rw [hw r m] at this
    array_get_dec
    rw [this]
    array_get_dec
theorem ldot_ok {ps qs ws : List Rat} (hl : ps.length = qs.length) (hl2 : ps.length = ws.length) (hz : ps.length ≤ 1000000) (ha : OkA ps) (hb : OkA qs) (hc : OkA ws) (h0 : ∀ j, j < ps.length → Ok (ps.getD j 0 * qs.getD j 0)) (h1 : ∀ j, j < ps.length → Ok (ps.getD j 0 * qs.getD j 0 * ws.getD j 0)) (h2 : ∀ k, k ≤ ps.length → Ok (dot3 ps qs ws k)) :
    v_l_dot_2 [vr ps, vr qs, vr ws] = .ok (.at (vq (dot3 ps qs ws ps.length))) := by
  unfold v_l_dot_2
  array_get_dec
  unfold v_l_dot_2.b
  array_get_dec
  rw [kqR1_nat (by omega)]
  array_get_dec
  rw [forN_map (fun i => [some ⟨.fz, true, vr ps⟩, some ⟨.fz, true, vr qs⟩, some ⟨.fz, true, vr ws⟩, some (.at (vq (dot3 ps qs ws i))), none]) ?_ fun i p hp => ?_]
  · array_get_dec
    rw [List.length_range]
  · rfl
  · obtain ⟨rfl, hi⟩ := range_at hp
    have e1 : ps[i]? = some (ps.getD i 0) := get_of 0 hi
    have e3 : qs[i]? = some (qs.getD i 0) := get_of 0 (by omega)
    have e5 : ws[i]? = some (ws.getD i 0) := get_of 0 (by omega)
    array_get_dec
    rw [qIx_r e1]
    array_get_dec
    rw [qIx_r e3]
    array_get_dec
    rw [ltimes_ok (ha.at e1) (hb.at e3)]
    array_get_dec
    rw [qIx_r e5]
    array_get_dec
    rw [ltimes_ok (h0 i hi) (hc.at e5)]
    array_get_dec
    rw [lplus_ok (h2 i (by omega)) (h1 i hi)]
    array_get_dec
    rfl
/-! sizes of dots -/
def Bd (n : Nat) (qs : List Rat) : Prop := BdT n [qs]
theorem BdT.row {n : Nat} {T : List (List Rat)} (h : BdT n T) {r : List Rat} (hr : r ∈ T) : Bd n r := by
  obtain ⟨D, N, h1, h2, h3, h4⟩ := h
  exact ⟨D, N, h1, h2, h3, fun x hx => by rw [List.mem_singleton.mp hx]; exact h4 r hr⟩
theorem Bd.qd {n : Nat} {qs : List Rat} (h : Bd n qs) : ∃ D N, 0 < D ∧ D < 2 ^ n ∧ N < 2 ^ n ∧ QdA D N qs := by
  obtain ⟨D, N, h1, h2, h3, h4⟩ := h
  exact ⟨D, N, h1, h2, h3, h4 qs List.mem_cons_self⟩
theorem Bd.ok {n : Nat} {qs : List Rat} (h : Bd n qs) (hn : n ≤ 4500) : OkA qs := BdT.ok h hn _ List.mem_cons_self
theorem Bd.mono {m n : Nat} {qs : List Rat} (h : Bd m qs) (k : m ≤ n) : Bd n qs := BdT.mono h k
theorem Bd.of {D N n : Nat} {qs : List Rat} (h1 : 0 < D) (h2 : D < 2 ^ n) (h3 : N < 2 ^ n) (h : QdA D N qs) : Bd n qs := ⟨D, N, h1, h2, h3, fun x hx => by rw [List.mem_singleton.mp hx]; exact h⟩
theorem dot3_sz {a b c : Nat} {ps qs ws : List Rat} (hp : Bd a ps) (hq : Bd b qs) (hw : Bd c ws) (k : Nat) (hk : k ≤ 64) : Mn.Sz (a + b + c + 6) (dot3 ps qs ws k) ∧ ∀ j, Mn.Sz (a + b + c + 6) (ps.getD j 0 * qs.getD j 0) ∧ Mn.Sz (a + b + c + 6) (ps.getD j 0 * qs.getD j 0 * ws.getD j 0) := by
  obtain ⟨D, N, d1, d2, d3, d4⟩ := hp.qd
  obtain ⟨E, M, e1, e2, e3, e4⟩ := hq.qd
  obtain ⟨F, W, f1, f2, f3, f4⟩ := hw.qd
  have p2 : ∀ j, Qd (D * E) (N * M) (ps.getD j 0 * qs.getD j 0) := fun j => (QdA.getD d4 j).mul (QdA.getD e4 j)
  have p3 : ∀ j, Qd (D * E * F) (N * M * W) (ps.getD j 0 * qs.getD j 0 * ws.getD j 0) := fun j => (p2 j).mul (QdA.getD f4 j)
  have D2 : D * E < 2 ^ (a + b) := pow_lt2 d2 e2
  have N2 : N * M < 2 ^ (a + b) := pow_lt2 d3 e3
  have D3 : D * E * F < 2 ^ (a + b + c) := pow_lt2 D2 f2
  have N3 : N * M * W < 2 ^ (a + b + c) := pow_lt2 N2 f3
  have up : ∀ {x m}, x < 2 ^ m → m ≤ a + b + c + 6 → x < 2 ^ (a + b + c + 6) := fun h l => Nat.lt_of_lt_of_le h (Nat.pow_le_pow_right (by decide) l)
  refine ⟨?_, fun j => ⟨?_, ?_⟩⟩
  · refine (Qd.sm (n := k) fun j _ => p3 j).sz (Nat.mul_pos (Nat.mul_pos d1 e1) f1) (up D3 (by omega)) ?_
    have : k * (N * M * W) ≤ 64 * (N * M * W) := Nat.mul_le_mul_right _ hk
    rw [Nat.pow_add]
    omega
  · exact (p2 j).sz (Nat.mul_pos d1 e1) (up D2 (by omega)) (up N2 (by omega))
  · exact (p3 j).sz (Nat.mul_pos (Nat.mul_pos d1 e1) f1) (up D3 (by omega)) (up N3 (by omega))
/-- both dots, by sizes -/
theorem dots_all {a b c : Nat} {ps qs ws : List Rat} (hl : ps.length = qs.length) (hl2 : ps.length = ws.length) (hz : ps.length ≤ 64) (hp : Bd a ps) (hq : Bd b qs) (hw : Bd c ws) (hs : a + b + c + 6 ≤ 4500) :
    v_p_dot [vr ps, vr qs, vr ws] = .ok (.at (vq (dot3 ps qs ws ps.length))) ∧ v_l_dot_2 [vr ps, vr qs, vr ws] = .ok (.at (vq (dot3 ps qs ws ps.length))) := by
  have h := fun k hk => dot3_sz hp hq hw k hk
  have ap := hp.ok (show a ≤ 4500 by omega)
  have aq := hq.ok (show b ≤ 4500 by omega)
  have aw := hw.ok (show c ≤ 4500 by omega)
  have h0 : ∀ j, j < ps.length → Ok (ps.getD j 0 * qs.getD j 0) := fun j _ => ((h 0 (by omega)).2 j).1.mono hs
  have h1 : ∀ j, j < ps.length → Ok (ps.getD j 0 * qs.getD j 0 * ws.getD j 0) := fun j _ => ((h 0 (by omega)).2 j).2.mono hs
  have h2 : ∀ k, k ≤ ps.length → Ok (dot3 ps qs ws k) := fun k hk => (h k (by omega)).1.mono hs
  exact ⟨dotw_ok hl hl2 ap aq aw h0 h1 h2, ldot_ok hl hl2 (by omega) ap aq aw h0 h1 h2⟩
theorem square_ok {a c : Nat} {ps ws : List Rat} (hl2 : ps.length = ws.length) (hz : ps.length ≤ 64) (hp : Bd a ps) (hw : Bd c ws) (hs : a + a + c + 6 ≤ 4500) : v_p_square [vr ps, vr ws] = .ok (.at (vq (dot3 ps ps ws ps.length))) := by
  unfold v_p_square
  array_get_dec
  unfold v_p_square.b
  array_get_dec
  rw [(dots_all rfl hl2 hz hp hp hw hs).1]
  array_get_dec
def dotsT (L : Nat) (rs : List (List Rat)) (ws : List Rat) : List (List Rat) := rs.map fun p => rs.map fun q => dot3 p q ws L
theorem dots_ok {a c L : Nat} {rs : List (List Rat)} {ws : List Rat} (hr : rs.length ≤ 1000000) (hw : Wid L rs) (hl : ws.length = L) (hz : L ≤ 64) (hb : BdT a rs) (hbw : Bd c ws) (hs : a + a + c + 6 ≤ 4500) : d_p_dots [vt rs, vr ws] = .ok ⟨.dr, false, vt (dotsT L rs ws)⟩ := by
  have szl : szLine = 16777216 := rfl
  unfold d_p_dots
  array_get_dec
  unfold d_p_dots.b
  array_get_dec
  rw [lcD_rowsD (fun p => rs.map fun q => dot3 p q ws L) (by omega) fun i p hi => ?_]
  · array_get_dec
    rfl
  · have mp := List.mem_of_getElem? hi
    array_get_dec
    rw [lcD_rats (fun q => dot3 p q ws L) (by omega) fun k q hk => ?_]
    have mq := List.mem_of_getElem? hk
    array_get_dec
    rw [(dots_all (by rw [hw p mp, hw q mq]) (by rw [hw p mp, hl]) (by rw [hw p mp]; exact hz) (hb.row mp) (hb.row mq) hbw hs).1, hw p mp]
    array_get_dec
/-! weights -/
theorem weights_ok {n L : Nat} (hn : Gt n) (hL : L ≤ 1000) : ∃ ws : List Rat, ws.length = L ∧ (∀ w ∈ ws, 0 < w) ∧ QdA 84 (84 * 10 ^ 20) ws ∧ v_l_weights [.int n, .int L] = .ok ⟨.fr, false, vr ws⟩ := by
  have szl : szLine = 16777216 := rfl
  have s7 : SmD ((7 : Nat) : Int) := SmD_nat (Nat.lt_of_lt_of_le (by decide : 7 < 2 ^ 3) (Nat.pow_le_pow_right (by decide) (by decide)))
  replace s7 : SmD 7 := s7
  have a7 : (7 : Int) ≠ 0 := by decide
  have a3 : (3 : Int) ≠ 0 := by decide
  have a2 : (2 : Int) ≠ 0 := by decide
  have up : ∀ {q : Rat}, Dr (12 * 10 ^ 20) q → Qd 84 (84 * 10 ^ 20) q := fun h => (h.lift 7).mono (by decide)
  unfold v_l_weights
  array_get_dec
  unfold v_l_weights.b
  array_get_dec
  rw [kqLst_ok (by decide)]
  array_get_dec
  have w12 : V.tup [.int 1, .int 2] = vq (Rat.divInt 1 2) := by
    unfold vq
    rw [show (Rat.divInt 1 2).num = 1 by decide +kernel, show (Rat.divInt 1 2).den = 2 by decide +kernel]
    rfl
  have w57 : V.tup [.int 5, .int 7] = vq (Rat.divInt 5 7) := by
    unfold vq
    rw [show (Rat.divInt 5 7).num = 5 by decide +kernel, show (Rat.divInt 5 7).den = 7 by decide +kernel]
    rfl
  have w2 : V.tup [.int 2, .int 1] = vq 2 := rfl
  have w3 : V.tup [.int 3, .int 1] = vq 3 := rfl
  rw [w12, w57, w2, w3, kqR1_nat (by omega)]
  array_get_dec
  rw [show V.lst [vq 1, vq 1, vq 1, vq (Rat.divInt 1 2), vq 2, vq 3, vq (Rat.divInt 5 7)] = vr [1, 1, 1, Rat.divInt 1 2, 2, 3, Rat.divInt 5 7] from rfl]
  have some7 : ∀ k : Nat, k < 7 → ∃ q : Rat, ([1, 1, 1, Rat.divInt 1 2, 2, 3, Rat.divInt 5 7] : List Rat)[k]? = some q ∧ 0 < q ∧ Qd 84 (84 * 10 ^ 20) q := fun k hk => by
    have one : Qd 84 (84 * 10 ^ 20) 1 := (Qd.one 84).mono (by decide)
    rcases k with _ | _ | _ | _ | _ | _ | _ | k
    · exact ⟨1, rfl, by decide +kernel, one⟩
    · exact ⟨1, rfl, by decide +kernel, one⟩
    · exact ⟨1, rfl, by decide +kernel, one⟩
    · exact ⟨_, rfl, by decide +kernel, ((Qd.divInt (z := 1) (D := 2) (by decide)).dvd (by decide) (by decide)).mono (by decide)⟩
    · exact ⟨2, rfl, by decide +kernel, ((Qd.int 2).dvd (by decide) (by decide)).mono (by decide)⟩
    · exact ⟨3, rfl, by decide +kernel, ((Qd.int 3).dvd (by decide) (by decide)).mono (by decide)⟩
    · exact ⟨_, rfl, by decide +kernel, ((Qd.divInt (z := 5) (D := 7) (by decide)).dvd (by decide) (by decide)).mono (by decide)⟩
    · omega
  generalize ([1, 1, 1, Rat.divInt 1 2, 2, 3, Rat.divInt 5 7] : List Rat) = tab at *
  obtain ⟨⟨m, ws⟩, ⟨h1, h2, h3, h4⟩, e⟩ := forN_ex (ks := [4, 5, 6]) (t := ptName 4) (b := pSeq (pAsgT (ptTup [ptName 0, ptName 5]) (pCall v_l_ratio_4 [pVar 0])) (pSeq (pAsgF 6 (pBin qIx (pVar 2) (pBin qMod (pVar 0) (pC (.int 7))))) (pSeq (pIf (pAnd (pBin qGt (pBin qIx (pVar 5) (pC (.int 0))) (pC (.int 0))) (pBin qEq (pBin qMod (pBin qDiv (pVar 0) (pC (.int 7))) (pC (.int 3))) (pC (.int 0)))) (pAsgF 6 (pVar 5)) (pPass)) (pApp 3 (pVar 6))))) (g := fun i : Nat => W.at (.int (i : Int))) (σ := Nat × List Rat)
    (fun s => [some (.at (.int s.1)), some (.at (.int L)), some ⟨.fz, false, vr tab⟩, some ⟨.fr, false, vr s.2⟩, none, none, none]) (fun i s => Gt s.1 ∧ s.2.length = i ∧ (∀ w ∈ s.2, 0 < w) ∧ QdA 84 (84 * 10 ^ 20) s.2) (xs := List.range L)
    (fun i x s hx hs => by
      obtain ⟨a, b, c, d⟩ := hs
      obtain ⟨rfl, hi⟩ := range_at hx
      obtain ⟨m', q, g', d', e'⟩ := ratio4_ok a
      obtain ⟨p, p1, p2, p3⟩ := some7 (m' % 7) (Nat.mod_lt _ (by decide))
      array_get_dec
      rw [e']
      array_get_dec
      rw [show Int.fmod (m' : Int) 7 = ((m' % 7 : Nat) : Int) from fmod_nat m' 7, qIx_r p1]
      array_get_dec
      have put : ∀ (r : Rat) (x4 x5 : Option W), 0 < r → Qd 84 (84 * 10 ^ 20) r → ∃ s' : Nat × List Rat, (Gt s'.1 ∧ s'.2.length = i + 1 ∧ (∀ w ∈ s'.2, 0 < w) ∧ QdA 84 (84 * 10 ^ 20) s'.2) ∧ stepK [4, 5, 6] (kqApp 3 [some (.at (.int m')), some (.at (.int L)), some ⟨.fz, false, vr tab⟩, some ⟨.fr, false, vr s.2⟩, x4, x5, some (.at (vq r))] (.ok (.at (vq r)))) = .nx [some (.at (.int s'.1)), some (.at (.int L)), some ⟨.fz, false, vr tab⟩, some ⟨.fr, false, vr s'.2⟩, none, none, none] := fun r x4 x5 hr hq => by
        refine ⟨(m', s.2 ++ [r]), ⟨g', by rw [List.length_append, b]; rfl, fun w hw => ?_, fun w hw => ?_⟩, ?_⟩
        · rcases List.mem_append.mp hw with hw | hw
          · exact c w hw
          · rw [List.mem_singleton.mp hw]
            exact hr
        · rcases List.mem_append.mp hw with hw | hw
          · exact d w hw
          · rw [List.mem_singleton.mp hw]
            exact hq
        · rw [kqApp_ok (ts := s.2.map vq) (tn := false) _ rfl rfl (by rw [List.length_map]; omega)]
          array_get_dec
          rw [show s.2.map vq ++ [vq r] = (s.2 ++ [r]).map vq by rw [List.map_append]; rfl]
          rfl
      by_cases hq : (0 : Int) < q.num
      · rw [decide_eq_true hq]
        array_get_dec
        obtain ⟨t, ht⟩ : ∃ t : Bool, decide (Int.fmod (Int.fdiv (m' : Int) 7) 3 = 0) = t := ⟨_, rfl⟩
        rw [ht]
        cases t with
        | true =>
          array_get_dec
          exact put q _ _ ((Rat.lt_iff 0 q).mpr (by show (0 : Int) * q.den < q.num * 1; omega)) (up d')
        | false =>
          array_get_dec
          exact put p _ _ p2 p3
      · rw [decide_eq_false hq]
        array_get_dec
        exact put p _ _ p2 p3) (n, []) ⟨hn, rfl, (fun q h => by cases h), fun q h => by cases h⟩
  rw [show (⟨.fr, false, V.lst []⟩ : W) = ⟨.fr, false, vr []⟩ from rfl, e]
  array_get_dec
  rw [List.length_range] at h2
  obtain ⟨t, ht⟩ : ∃ t : Bool, decide (Int.fmod (m : Int) 2 = 0) = t := ⟨_, rfl⟩
  rw [ht]
  cases t with
  | true =>
    array_get_dec
    rw [qMul_q rfl (by omega)]
    array_get_dec
    refine ⟨_, List.length_replicate, fun w hw => ?_, fun w hw => ?_, rfl⟩
    · rw [(List.mem_replicate.mp hw).2]
      decide +kernel
    · rw [(List.mem_replicate.mp hw).2]
      exact (Qd.one 84).mono (by decide)
  | false =>
    array_get_dec
    exact ⟨ws, h2, h3, h4, rfl⟩
end Z
end
section
set_option Elab.async false
set_option autoImplicit false
set_option linter.all false
set_option maxRecDepth 100000
set_option maxHeartbeats 2000000
open Mn
local macro_rules | `(tactic| array_get_dec) => `(tactic| try simp (disch := first | assumption | rfl | decide | decide +kernel) only [pVar_k, vW_at, vW_fz, vW_fr, vW_dr, isB_dr, isD_dr, kqAsg_dr, kqAsgF_dr, kqRet_dr, pC_int, pC_bl, pC_str, pC_non, pC_t2, pBin_k, kq1_ok, kq1_exc, kq2_ok, kq2_exc, pUn_k, kqU_ok, kqU_exc, pAnd_k, kqAnd_t, kqAnd_f, pOr_k, kqOr_t, kqOr_f, pNot_k, kqNot_ok, pChain_k, kqC0_ok, kqC1_ok, kqC2_t, kqC2_f, kqC3_ok, pvL_nil, pvL_k, kqL1_ok, kqL1_exc, kqL2_ok, kqL2_exc, pTup_k, pLst_k, kqTup_exc, kqLst_exc, kqTup_1, kqTup_2, kqTup_3, kqTup_4, kqLst_0, kqLst_1, kqLst_2, kqLst_3, kqLst_4, anyB_nil, anyB_cons, anyT_nil, anyT_cons, at_fl, at_tn, at_t, mk_fl, mk_tn, mk_t, isB_fr, isB_fz, isB_bo, isB_bd, isD_fr, isD_fz, isD_bo, isD_bd, nW_k, elW_k, mkT_k, mkL_k, cond_true, cond_false, pCall_k, kqCall_ok, kqCall_exc, kqRes_ok, kqRes_exc, callW_at, callW_f, fn_1, fn_2, fn_3, fn_4, fn_5, fn_6, kqFn_nx, kqFn_ret, kqFn_exc, pSl_k, kqSl1_ok, kqSl2_ok, kqSl3_ok, pPart_n, pPart_s, kqPt_ok, pList_k, pRev_k, pEnum_k, pZip_k, kqZip1_ok, kqZip2_ok, pRange1_k, pRange2_k, kqR21_ok, kqR22_ok, pLc_k, killP_nil, killP_cons, ptName_at, ptName_fz, ptTup_a2, ptTup_a3, ptTup_f2, ptTup_f3, ptTup_q, ptAll_nil, ptAll_cons, kqAll_nx, pSeq_k, kqSeq2_nx, kqSeq2_ret, kqSeq2_ct, kqSeq2_bk, kqSeq2_exc, pPass_k, pCt_k, pBk_k, pRaise_k, pKl_k, pFz_k, frz_k, fzO_at, fzO_mk, fzO_none, fzW_at, fzW_mk, pAsg_k, kqAsg_at, kqAsg_fr, kqAsg_fz, kqAsg_exc, pAsgF_k, kqAsgF_at, kqAsgF_fr, kqAsgF_fz, kqAsgF_exc, pAsgT_k, kqAsgT_ok, kqTg_nx, kqAsgT_exc, pApp_k, pExt_k, pIns_k, kqIns1_ok, pSubA_k, kqSub1_ok, kqSub1_exc, pPar_k, kqPar_at, kqPar_1, kqPar_2, kqPar_3, pDrop_k, kqDrop_ok, kqDrop_exc, pRet_k, kqRet_at, kqRet_fr, kqRet_fz, kqRet_bo, kqRet_bd, kqRet_exc, pIf_k, kqIf_t, kqIf_f, kqIf_exc, pFor_k, kqFor_ok, pWhile_k, pTry_k, kqTry_nx, kqTry_ret, kqTry_exc, stepK_nx, stepK_ct, stepK_bk, stepK_ret, stepK_exc, stepF_nx, goF_nx, goF_bk, goF_ret, goF_exc, lcStep_nx, pTmp_k, frzAll_nil, frzAll_cons, kqTmp_bl, kqTmp_int, kqTmp_q, kqTmp_non, kqTmp_dr, kqTmp_r, pTupD_k, pLstD_k, kqLstD_0, pLcD_k, pSubD_k, vq0, vq1, Int.cast_ofNat_Int, Int.reduceLT, Int.reduceEq, Int.reduceLE, Int.reduceGT, Z.hL_d, Z.hL_ds, Z.hLs_d, Z.se_ww, Z.se_ss, Z.se_aa, Z.se_ws, Z.se_wa, Z.se_sw, Z.se_sa, Z.se_aw, Z.se_as, Z.sn_ss, hL_q, hL_r, hL_t, hL_i, hL_int, hL_bl, hL_str, hL_non, hL_exc, hL_lst, hL_ro, hL_tup, hL_nil, hL_cons, hLs_q, hLs_i, hLs_bl, qEq_q, qNe_q, qEq_int, qNe_int, qEq_bl, qNe_bl, qEq_r, qNe_r, qEq_t, qNe_t, qEq_vi, qNe_vi, qAdd_int, qSub_int, qMul_int, qDiv_int, qDiv_sm, qMod_int, qPow_int, qDm_sm, qMax_int, qMin_int, qLt_int, qLe_int, qGt_int, qGe_int, qNeg_int, qAbs_int, qToInt_int, qToInt_bl, qIsN_at, qIsN_a, qNotN_at, qNotN_a, isNon_non, isNon_int, isNon_q, isNon_r, qIx_q0, qIx_q1, qLen_q, qLen_r, qLen_t, qLen_vi, qLen_l, qLen_ro, qLen_tp, qLen_ta, qIs_q, qIs_r, qIs_t, qIs_vi, qIs_l, qIs_ro, qIs_tp, qIs_ta, qIs_int, qIs_bl, qIs_str, qIs_non, qIs_exc, Z.pC_N, Z.pC_O, qIx_a0, qIx_a1, qIx_a2, qIx_a3, qIx_f0, qIx_f1, qIx_f2, kqSeq_r, kqSeq_vi, kqSeq_t, kqEnum_r, kqEnum_vi, kqEnum_t, zipOf_rr, zipOf_tr, zipOf_tt, qList_r, qAll_bl, qAny_bl, ty_tuple_tuple, ty_tuple_list, ty_tuple_int, ty_tuple_bool, ty_tuple_str, ty_tuple_NoneType, ty_list_tuple, ty_list_list, ty_list_int, ty_list_bool, ty_list_str, ty_list_NoneType, ty_int_tuple, ty_int_list, ty_int_int, ty_int_bool, ty_int_str, ty_int_NoneType, ty_bool_tuple, ty_bool_list, ty_bool_int, ty_bool_bool, ty_bool_str, ty_bool_NoneType, ty_str_tuple, ty_str_list, ty_str_int, ty_str_bool, ty_str_str, ty_str_NoneType, List.map_cons, List.map_nil, List.cons_append, List.nil_append, List.append_nil, List.reduceReplicate, Nat.reduceSub, List.getElem?_cons_zero, List.getElem?_cons_succ, List.set_cons_zero, List.set_cons_succ, List.length_cons, List.length_nil, Nat.zero_add, Nat.reduceAdd, decide_true, decide_false, beq_self_eq_true, Bool.not_true, Bool.not_false, Bool.or_false, Bool.or_true, Bool.false_or, Bool.true_or, Bool.and_false, Bool.and_true, Bool.false_and, Bool.true_and, Bool.and_self, Bool.or_self])
/-! What the laws' own texts share. -/
namespace Z
open Mn Y
theorem bits_getD {ns : List Int} (hb : ∀ z ∈ ns, bits z ≤ 1048576) (k : Nat) : bits (ns.getD k 0) ≤ 1048576 := by
  rw [List.getD_eq_getElem?_getD]
  cases e : ns[k]? with
  | none => decide
  | some z => exact hb z (List.mem_of_getElem? e)
theorem fmod_lt (z : Int) {m : Nat} (h : 0 < m) : ∃ k : Nat, k < m ∧ Int.fmod z (m : Int) = (k : Int) := by
  rw [Int.fmod_eq_emod_of_nonneg _ (by omega)]
  have g1 := Int.emod_nonneg z (show (m : Int) ≠ 0 by omega)
  have g2 := Int.emod_lt_of_pos z (show (0 : Int) < m by omega)
  obtain ⟨k, hk⟩ := Int.eq_ofNat_of_zero_le g1
  exact ⟨k, by omega, hk⟩
theorem cell0_ok (ns : List Int) : v_l_cell_at [.ro (ns.map .int), .int 0] = .ok (.at (.int (ns.getD 0 0))) := cell_ok ns 0
theorem cell1_ok (ns : List Int) : v_l_cell_at [.ro (ns.map .int), .int 1] = .ok (.at (.int (ns.getD 1 0))) := cell_ok ns 1
theorem cell2_ok (ns : List Int) : v_l_cell_at [.ro (ns.map .int), .int 2] = .ok (.at (.int (ns.getD 2 0))) := cell_ok ns 2
theorem vEq_two {rs : List (List Rat)} {ws : List Rat} : vEq (.lst [vt rs, vr ws]) (.lst [vt rs, vr ws]) = some true := by
  refine vEq_same (a := .lst [tt rs, tr ws]) ?_ ?_
  · simp only [V.tt, V.tts, tt_t, tt_r]
    rfl
  · have := dp_vt rs
    have := dp_vr ws
    simp only [V.dp, V.dps]
    omega
/-- the cells of a table -/
theorem cells_ok {ns : List Int} {m : Nat} (hm : m ≤ 1000) {a : Nat} {x : Nat} {π : PEnv} (hx : x < π.length) (h0 : π[0]? = some (some ⟨.fz, true, .ro (ns.map .int)⟩)) (hne : x ≠ 0) {st : Bool} : kqLc (ptName x) (pC (.bl true)) (pCall v_l_cell_at [pVar 0, pBin qAdd (pC (.int (a : Int))) (pVar x)]) π (.ok ⟨(List.range m).map fun (i : Nat) => W.at (.int (i : Int)), st⟩) = .ok ⟨.fr, false, vi ((List.range m).map fun k => ns.getD (a + k) 0)⟩ := by
  have szl : szLine = 16777216 := rfl
  rw [lc_ints (fun k => ns.getD (a + k) 0) (by rw [List.length_range]; omega) fun i k hk => ?_]
  obtain ⟨rfl, hi⟩ := range_at hk
  have e0 : pVar 0 (π.set x (some (.at (.int (i : Int))))) = .ok ⟨.fz, true, .ro (ns.map .int)⟩ := by
    rw [pVar_k, List.getElem?_set_ne hne, h0]
    rfl
  have ex : pVar x (π.set x (some (.at (.int (i : Int))))) = .ok (.at (.int i)) := by
    rw [pVar_k, List.getElem?_set_self hx]
    rfl
  rw [ptName_at, lcStep_nx, pCall_k, pvL_k, e0, kqL1_ok, pvL_k, pBin_k, pC_int, kq1_ok, ex, kq2_ok, qAdd_int, kqL1_ok, pvL_nil, kqL2_ok, kqL2_ok, kqCall_ok, List.map_cons, List.map_cons, List.map_nil, mk_t, at_t, show (a : Int) + (i : Int) = ((a + i : Nat) : Int) by omega, cell_ok, kqRes_ok, callW_at]
theorem cells_bits {ns : List Int} (hb : ∀ z ∈ ns, bits z ≤ 1048576) (m a : Nat) : ∀ z ∈ (List.range m).map fun k => ns.getD (a + k) 0, bits z ≤ 1048576 := fun z hz => by
  obtain ⟨k, _, rfl⟩ := List.mem_map.mp hz
  exact bits_getD hb _
theorem cells_len (ns : List Int) (m a : Nat) : ((List.range m).map fun k => ns.getD (a + k) 0).length = m := by rw [List.length_map, List.length_range]
theorem bd_weights {ws : List Rat} (h : QdA 84 (84 * 10 ^ 20) ws) : Bd 74 ws := Bd.of (by decide) (Nat.lt_of_lt_of_le (by decide : 84 < 2 ^ 7) (Nat.pow_le_pow_right (by decide) (by decide))) (by decide +kernel) h
theorem qdT_bd {k : Nat} {T : List (List Rat)} (h : QdT (12 ^ k) (2 ^ (75 * k)) T) (hk : k ≤ 8) : BdT 601 T := h.bd.mono (by omega)
theorem dot3_comm (ps qs ws : List Rat) (k : Nat) : dot3 ps qs ws k = dot3 qs ps ws k := sm_congr fun j _ => by rw [Rat.mul_comm (ps.getD j 0)]
theorem dot3_nonneg {ps ws : List Rat} (h : ∀ w ∈ ws, 0 < w) (k : Nat) : 0 ≤ dot3 ps ps ws k := by
  have wn : ∀ j, 0 ≤ ws.getD j 0 := fun j => by
    rw [List.getD_eq_getElem?_getD]
    cases e : ws[j]? with
    | none => exact Rat.le_refl
    | some w => exact Rat.le_of_lt (h w (List.mem_of_getElem? e))
  have sq : ∀ q : Rat, 0 ≤ q * q := fun q => by
    rcases Rat.le_total (a := 0) (b := q) with z | z
    · exact Rat.mul_nonneg z z
    · have n : 0 ≤ -q := by grind
      have := Rat.mul_nonneg n n
      rw [Rat.neg_mul, Rat.mul_neg, Rat.neg_neg] at this
      exact this
  unfold dot3
  induction k with
  | zero => exact Rat.le_refl
  | succ k ih =>
    unfold sm
    exact Rat.add_nonneg ih (Rat.mul_nonneg (sq _) (wn k))
end Z
end
section
set_option Elab.async false
set_option autoImplicit false
set_option linter.all false
set_option maxRecDepth 100000
set_option maxHeartbeats 2000000
open Mn
local macro_rules | `(tactic| array_get_dec) => `(tactic| try simp (disch := first | assumption | rfl | decide | decide +kernel) only [pVar_k, vW_at, vW_fz, vW_fr, vW_dr, isB_dr, isD_dr, kqAsg_dr, kqAsgF_dr, kqRet_dr, pC_int, pC_bl, pC_str, pC_non, pC_t2, pBin_k, kq1_ok, kq1_exc, kq2_ok, kq2_exc, pUn_k, kqU_ok, kqU_exc, pAnd_k, kqAnd_t, kqAnd_f, pOr_k, kqOr_t, kqOr_f, pNot_k, kqNot_ok, pChain_k, kqC0_ok, kqC1_ok, kqC2_t, kqC2_f, kqC3_ok, pvL_nil, pvL_k, kqL1_ok, kqL1_exc, kqL2_ok, kqL2_exc, pTup_k, pLst_k, kqTup_exc, kqLst_exc, kqTup_1, kqTup_2, kqTup_3, kqTup_4, kqLst_0, kqLst_1, kqLst_2, kqLst_3, kqLst_4, anyB_nil, anyB_cons, anyT_nil, anyT_cons, at_fl, at_tn, at_t, mk_fl, mk_tn, mk_t, isB_fr, isB_fz, isB_bo, isB_bd, isD_fr, isD_fz, isD_bo, isD_bd, nW_k, elW_k, mkT_k, mkL_k, cond_true, cond_false, pCall_k, kqCall_ok, kqCall_exc, kqRes_ok, kqRes_exc, callW_at, callW_f, fn_1, fn_2, fn_3, fn_4, fn_5, fn_6, kqFn_nx, kqFn_ret, kqFn_exc, pSl_k, kqSl1_ok, kqSl2_ok, kqSl3_ok, pPart_n, pPart_s, kqPt_ok, pList_k, pRev_k, pEnum_k, pZip_k, kqZip1_ok, kqZip2_ok, pRange1_k, pRange2_k, kqR21_ok, kqR22_ok, pLc_k, killP_nil, killP_cons, ptName_at, ptName_fz, ptTup_a2, ptTup_a3, ptTup_f2, ptTup_f3, ptTup_q, ptAll_nil, ptAll_cons, kqAll_nx, pSeq_k, kqSeq2_nx, kqSeq2_ret, kqSeq2_ct, kqSeq2_bk, kqSeq2_exc, pPass_k, pCt_k, pBk_k, pRaise_k, pKl_k, pFz_k, frz_k, fzO_at, fzO_mk, fzO_none, fzW_at, fzW_mk, pAsg_k, kqAsg_at, kqAsg_fr, kqAsg_fz, kqAsg_exc, pAsgF_k, kqAsgF_at, kqAsgF_fr, kqAsgF_fz, kqAsgF_exc, pAsgT_k, kqAsgT_ok, kqTg_nx, kqAsgT_exc, pApp_k, pExt_k, pIns_k, kqIns1_ok, pSubA_k, kqSub1_ok, kqSub1_exc, pPar_k, kqPar_at, kqPar_1, kqPar_2, kqPar_3, pDrop_k, kqDrop_ok, kqDrop_exc, pRet_k, kqRet_at, kqRet_fr, kqRet_fz, kqRet_bo, kqRet_bd, kqRet_exc, pIf_k, kqIf_t, kqIf_f, kqIf_exc, pFor_k, kqFor_ok, pWhile_k, pTry_k, kqTry_nx, kqTry_ret, kqTry_exc, stepK_nx, stepK_ct, stepK_bk, stepK_ret, stepK_exc, stepF_nx, goF_nx, goF_bk, goF_ret, goF_exc, lcStep_nx, pTmp_k, frzAll_nil, frzAll_cons, kqTmp_bl, kqTmp_int, kqTmp_q, kqTmp_non, kqTmp_dr, kqTmp_r, pTupD_k, pLstD_k, kqLstD_0, pLcD_k, pSubD_k, vq0, vq1, Int.cast_ofNat_Int, Int.reduceLT, Int.reduceEq, Int.reduceLE, Int.reduceGT, Z.hL_d, Z.hL_ds, Z.hLs_d, Z.se_ww, Z.se_ss, Z.se_aa, Z.se_ws, Z.se_wa, Z.se_sw, Z.se_sa, Z.se_aw, Z.se_as, Z.sn_ss, hL_q, hL_r, hL_t, hL_i, hL_int, hL_bl, hL_str, hL_non, hL_exc, hL_lst, hL_ro, hL_tup, hL_nil, hL_cons, hLs_q, hLs_i, hLs_bl, qEq_q, qNe_q, qEq_int, qNe_int, qEq_bl, qNe_bl, qEq_r, qNe_r, qEq_t, qNe_t, qEq_vi, qNe_vi, qAdd_int, qSub_int, qMul_int, qDiv_int, qDiv_sm, qMod_int, qPow_int, qDm_sm, qMax_int, qMin_int, qLt_int, qLe_int, qGt_int, qGe_int, qNeg_int, qAbs_int, qToInt_int, qToInt_bl, qIsN_at, qIsN_a, qNotN_at, qNotN_a, isNon_non, isNon_int, isNon_q, isNon_r, qIx_q0, qIx_q1, qLen_q, qLen_r, qLen_t, qLen_vi, qLen_l, qLen_ro, qLen_tp, qLen_ta, qIs_q, qIs_r, qIs_t, qIs_vi, qIs_l, qIs_ro, qIs_tp, qIs_ta, qIs_int, qIs_bl, qIs_str, qIs_non, qIs_exc, Z.pC_N, Z.pC_O, qIx_a0, qIx_a1, qIx_a2, qIx_a3, qIx_f0, qIx_f1, qIx_f2, kqSeq_r, kqSeq_vi, kqSeq_t, kqEnum_r, kqEnum_vi, kqEnum_t, zipOf_rr, zipOf_tr, zipOf_tt, qList_r, qAll_bl, qAny_bl, ty_tuple_tuple, ty_tuple_list, ty_tuple_int, ty_tuple_bool, ty_tuple_str, ty_tuple_NoneType, ty_list_tuple, ty_list_list, ty_list_int, ty_list_bool, ty_list_str, ty_list_NoneType, ty_int_tuple, ty_int_list, ty_int_int, ty_int_bool, ty_int_str, ty_int_NoneType, ty_bool_tuple, ty_bool_list, ty_bool_int, ty_bool_bool, ty_bool_str, ty_bool_NoneType, ty_str_tuple, ty_str_list, ty_str_int, ty_str_bool, ty_str_str, ty_str_NoneType, List.map_cons, List.map_nil, List.cons_append, List.nil_append, List.append_nil, List.reduceReplicate, Nat.reduceSub, List.getElem?_cons_zero, List.getElem?_cons_succ, List.set_cons_zero, List.set_cons_succ, List.length_cons, List.length_nil, Nat.zero_add, Nat.reduceAdd, decide_true, decide_false, beq_self_eq_true, Bool.not_true, Bool.not_false, Bool.or_false, Bool.or_true, Bool.false_or, Bool.true_or, Bool.and_false, Bool.and_true, Bool.false_and, Bool.true_and, Bool.and_self, Bool.or_self])
namespace Mn

theorem qIx_l0 (f : Fl) (s : Bool) (x : V) (xs : List V) : qIx ⟨f, s, .lst (x :: xs)⟩ (.at (.int 0)) = .ok (elW (isD f) s x) := qIx_l (i := 0) rfl
theorem qIx_l1 (f : Fl) (s : Bool) (x y : V) (xs : List V) : qIx ⟨f, s, .lst (x :: y :: xs)⟩ (.at (.int 1)) = .ok (elW (isD f) s y) := qIx_l (i := 1) rfl
theorem qIx_l2 (f : Fl) (s : Bool) (x y z : V) (xs : List V) : qIx ⟨f, s, .lst (x :: y :: z :: xs)⟩ (.at (.int 2)) = .ok (elW (isD f) s z) := qIx_l (i := 2) rfl
end Mn
end
section
set_option Elab.async false
set_option autoImplicit false
set_option linter.all false
set_option maxRecDepth 100000
set_option maxHeartbeats 2000000
open Mn
local macro_rules | `(tactic| array_get_dec) => `(tactic| try simp (disch := first | assumption | rfl | decide | decide +kernel) only [pVar_k, vW_at, vW_fz, vW_fr, vW_dr, isB_dr, isD_dr, kqAsg_dr, kqAsgF_dr, kqRet_dr, pC_int, pC_bl, pC_str, pC_non, pC_t2, pBin_k, kq1_ok, kq1_exc, kq2_ok, kq2_exc, pUn_k, kqU_ok, kqU_exc, pAnd_k, kqAnd_t, kqAnd_f, pOr_k, kqOr_t, kqOr_f, pNot_k, kqNot_ok, pChain_k, kqC0_ok, kqC1_ok, kqC2_t, kqC2_f, kqC3_ok, pvL_nil, pvL_k, kqL1_ok, kqL1_exc, kqL2_ok, kqL2_exc, pTup_k, pLst_k, kqTup_exc, kqLst_exc, kqTup_1, kqTup_2, kqTup_3, kqTup_4, kqLst_0, kqLst_1, kqLst_2, kqLst_3, kqLst_4, anyB_nil, anyB_cons, anyT_nil, anyT_cons, at_fl, at_tn, at_t, mk_fl, mk_tn, mk_t, isB_fr, isB_fz, isB_bo, isB_bd, isD_fr, isD_fz, isD_bo, isD_bd, nW_k, elW_k, mkT_k, mkL_k, cond_true, cond_false, pCall_k, kqCall_ok, kqCall_exc, kqRes_ok, kqRes_exc, callW_at, callW_f, fn_1, fn_2, fn_3, fn_4, fn_5, fn_6, kqFn_nx, kqFn_ret, kqFn_exc, pSl_k, kqSl1_ok, kqSl2_ok, kqSl3_ok, pPart_n, pPart_s, kqPt_ok, pList_k, pRev_k, pEnum_k, pZip_k, kqZip1_ok, kqZip2_ok, pRange1_k, pRange2_k, kqR21_ok, kqR22_ok, pLc_k, killP_nil, killP_cons, ptName_at, ptName_fz, ptTup_a2, ptTup_a3, ptTup_f2, ptTup_f3, ptTup_q, ptAll_nil, ptAll_cons, kqAll_nx, pSeq_k, kqSeq2_nx, kqSeq2_ret, kqSeq2_ct, kqSeq2_bk, kqSeq2_exc, pPass_k, pCt_k, pBk_k, pRaise_k, pKl_k, pFz_k, frz_k, fzO_at, fzO_mk, fzO_none, fzW_at, fzW_mk, pAsg_k, kqAsg_at, kqAsg_fr, kqAsg_fz, kqAsg_exc, pAsgF_k, kqAsgF_at, kqAsgF_fr, kqAsgF_fz, kqAsgF_exc, pAsgT_k, kqAsgT_ok, kqTg_nx, kqAsgT_exc, pApp_k, pExt_k, pIns_k, kqIns1_ok, pSubA_k, kqSub1_ok, kqSub1_exc, pPar_k, kqPar_at, kqPar_1, kqPar_2, kqPar_3, pDrop_k, kqDrop_ok, kqDrop_exc, pRet_k, kqRet_at, kqRet_fr, kqRet_fz, kqRet_bo, kqRet_bd, kqRet_exc, pIf_k, kqIf_t, kqIf_f, kqIf_exc, pFor_k, kqFor_ok, pWhile_k, pTry_k, kqTry_nx, kqTry_ret, kqTry_exc, stepK_nx, stepK_ct, stepK_bk, stepK_ret, stepK_exc, stepF_nx, goF_nx, goF_bk, goF_ret, goF_exc, lcStep_nx, pTmp_k, frzAll_nil, frzAll_cons, kqTmp_bl, kqTmp_int, kqTmp_q, kqTmp_non, kqTmp_dr, kqTmp_r, pTupD_k, pLstD_k, kqLstD_0, pLcD_k, pSubD_k, vq0, vq1, Int.cast_ofNat_Int, Int.reduceLT, Int.reduceEq, Int.reduceLE, Int.reduceGT, Z.hL_d, Z.hL_ds, Z.hLs_d, Z.se_ww, Z.se_ss, Z.se_aa, Z.se_ws, Z.se_wa, Z.se_sw, Z.se_sa, Z.se_aw, Z.se_as, Z.sn_ss, hL_q, hL_r, hL_t, hL_i, hL_int, hL_bl, hL_str, hL_non, hL_exc, hL_lst, hL_ro, hL_tup, hL_nil, hL_cons, hLs_q, hLs_i, hLs_bl, qEq_q, qNe_q, qEq_int, qNe_int, qEq_bl, qNe_bl, qEq_r, qNe_r, qEq_t, qNe_t, qEq_vi, qNe_vi, qAdd_int, qSub_int, qMul_int, qDiv_int, qDiv_sm, qMod_int, qPow_int, qDm_sm, qMax_int, qMin_int, qLt_int, qLe_int, qGt_int, qGe_int, qNeg_int, qAbs_int, qToInt_int, qToInt_bl, qIsN_at, qIsN_a, qNotN_at, qNotN_a, isNon_non, isNon_int, isNon_q, isNon_r, qIx_q0, qIx_q1, qLen_q, qLen_r, qLen_t, qLen_vi, qLen_l, qLen_ro, qLen_tp, qLen_ta, qIs_q, qIs_r, qIs_t, qIs_vi, qIs_l, qIs_ro, qIs_tp, qIs_ta, qIs_int, qIs_bl, qIs_str, qIs_non, qIs_exc, Z.pC_N, Z.pC_O, qIx_a0, qIx_a1, qIx_a2, qIx_a3, qIx_f0, qIx_f1, qIx_f2, qIx_l0, qIx_l1, qIx_l2, kqSeq_r, kqSeq_vi, kqSeq_t, kqEnum_r, kqEnum_vi, kqEnum_t, zipOf_rr, zipOf_tr, zipOf_tt, qList_r, qAll_bl, qAny_bl, ty_tuple_tuple, ty_tuple_list, ty_tuple_int, ty_tuple_bool, ty_tuple_str, ty_tuple_NoneType, ty_list_tuple, ty_list_list, ty_list_int, ty_list_bool, ty_list_str, ty_list_NoneType, ty_int_tuple, ty_int_list, ty_int_int, ty_int_bool, ty_int_str, ty_int_NoneType, ty_bool_tuple, ty_bool_list, ty_bool_int, ty_bool_bool, ty_bool_str, ty_bool_NoneType, ty_str_tuple, ty_str_list, ty_str_int, ty_str_bool, ty_str_str, ty_str_NoneType, List.map_cons, List.map_nil, List.cons_append, List.nil_append, List.append_nil, List.reduceReplicate, Nat.reduceSub, List.getElem?_cons_zero, List.getElem?_cons_succ, List.set_cons_zero, List.set_cons_succ, List.length_cons, List.length_nil, Nat.zero_add, Nat.reduceAdd, decide_true, decide_false, beq_self_eq_true, Bool.not_true, Bool.not_false, Bool.or_false, Bool.or_true, Bool.false_or, Bool.true_or, Bool.and_false, Bool.and_true, Bool.false_and, Bool.true_and, Bool.and_self, Bool.or_self])
/-! Deeds done, told as a tree of its own. -/
namespace Z
open Mn Y
theorem dsub_ok {π : PEnv} {is : PE} {j i : Nat} {T : List (List Rat)} {r : List Rat} {tn : Bool} (h : π[j]? = some (some ⟨.dr, false, vt T⟩)) (hi : is π = .ok (.at (.int i))) (hk : i < T.length) : kqSubD j [] is π (.ok ⟨.fr, tn, vr r⟩) = .nx (π.set j (some ⟨.dr, false, vt (T.set i r)⟩)) := by
  rw [kqSubD_0 (π := π) (i := is) _ (us := T.map vr) (tn := false) h hi (by rw [List.length_map]; exact hk) (dOk_r _ _)]
  show _ = PRS.nx (π.set j (some ⟨.dr, false, vt (T.set i r)⟩))
  rw [← vt_set]
theorem copiesD_ok {rs : List (List Rat)} {s : Bool} {π : PEnv} {v : Nat} (hv : v < π.length) (hz : rs.length ≤ szLine) {st : Bool} : kqLcD (ptName v) (pC (.bl true)) (pUn qList (pVar v)) π (.ok ⟨rs.map fun r => ⟨.fz, s, vr r⟩, st⟩) = .ok ⟨.dr, false, vt rs⟩ := by
  rw [lcD_rows (fun r => r) hz fun i r hr => ?_, List.map_id']
  have e : pVar v (π.set v (some ⟨.fz, s, vr r⟩)) = .ok ⟨.fz, s, vr r⟩ := by
    rw [pVar_k, List.getElem?_set_self hv]
    rfl
  rw [ptName_fz, lcStep_nx, pUn_k, e, kqU_ok, qList_r rfl]
theorem d_done_ok {T : List (List Rat)} {ds : List Deed} (lT : T.length ≤ 1000000) (lL : ∀ k r, r ∈ doneL T (ds.take k) → r.length ≤ 1000000) (lD : ds.length ≤ 1000000) (hd : ∀ d ∈ ds, d.Is T.length) (h1 : ∀ k, k < ds.length → OkT (doneL T (ds.take k))) (h2 : ∀ (k : Nat) (d : Deed), ds[k]? = some d → d.Sm (doneL T (ds.take k))) :
    d_p_done [vt T, vds ds] = .ok ⟨.dr, false, vt (doneL T ds)⟩ := by
  have szl : szLine = 16777216 := rfl
  unfold d_p_done
  array_get_dec
  unfold d_p_done.b
  unfold vds
  array_get_dec
  rw [kqSeq_at vd hL_d, lc_bls (fun _ => true) (by omega) fun i d hi => ?_]
  · array_get_dec
    rw [show ((ds.map fun _ => true).all id) = true from List.all_eq_true.mpr fun q hq => by
      obtain ⟨_, _, rfl⟩ := List.mem_map.mp hq
      rfl]
    array_get_dec
    rw [copiesD_ok (by simp only [List.length_cons]; omega) (by omega)]
    array_get_dec
    rw [kqSeq_at vd hL_d]
    array_get_dec
    rw [forN_map (fun i => [none, none, none, some ⟨.dr, false, vt (doneL T (ds.take i))⟩, none, none, none]) ?_ fun i d hi => ?_]
    · array_get_dec
      rw [List.take_length]
      rw [pRetD_k _ (j := 3) (tn := false) (t := vt (doneL T ds)) rfl]
      array_get_dec
    · rfl
    · have hi2 := (List.getElem?_eq_some_iff.mp hi).1
      have hd := hd d (List.mem_of_getElem? hi)
      have h1 := h1 i hi2
      have h2 := h2 i d hi
      have lL := lL i
      have ln := doneL_len T (ds.take i)
      rw [take_snoc hi, doneL_snoc]
      generalize doneL T (ds.take i) = U at *
      have gu : ∀ k, k < T.length → U[k]? = some (U.getD k []) := fun k hk => get_of [] (by omega)
      have mu : ∀ k, k < T.length → U.getD k [] ∈ U := fun k hk => List.mem_of_getElem? (gu k hk)
      have gv : ∀ k, k < T.length → (U.map vr)[k]? = some (vr (U.getD k [])) := fun k hk => by rw [List.getElem?_map, gu k hk]; rfl
      cases d with
      | swap a b =>
        obtain ⟨k1, k2, k3⟩ := hd
        unfold vd
        array_get_dec
        rw [pSwap_k _ (us := U.map vr) (k := a) (l := b) rfl rfl rfl rfl (gv a k1) (gv b k2) (by simp only [List.length_cons]; omega), ← List.map_set, ← List.map_set, show V.lst (((U.set a (U.getD b [])).set b (U.getD a [])).map vr) = vt ((U.set a (U.getD b [])).set b (U.getD a [])) from rfl]
        array_get_dec
        rfl
      | scale a q =>
        obtain ⟨k1, k2, k3⟩ := hd
        unfold vd
        array_get_dec
        rw [qIx_t (gu a k1)]
        array_get_dec
        rw [scaled_ok (by have := lL _ (mu a k1); omega) (h1 _ (mu a k1)) k3]
        array_get_dec
        rw [dsub_ok (T := U) rfl rfl (by omega)]
        array_get_dec
        rfl
      | add a b q =>
        obtain ⟨k1, k2, k3, k4⟩ := hd
        unfold vd
        array_get_dec
        rw [qIx_t (gu a k1)]
        array_get_dec
        rw [qIx_t (gu b k2)]
        array_get_dec
        rw [scaled_ok (by have := lL _ (mu b k2); omega) (h1 _ (mu b k2)) k4]
        array_get_dec
        rw [added_ok (by have := lL _ (mu a k1); omega) (h1 _ (mu a k1)) h2]
        array_get_dec
        rw [dsub_ok (T := U) rfl rfl (by omega)]
        array_get_dec
        rfl
  · array_get_dec
    rw [is_deed_ok (hd d (List.mem_of_getElem? hi))]
    array_get_dec
end Z
end
section
set_option Elab.async false
set_option autoImplicit false
set_option linter.all false
set_option maxRecDepth 100000
set_option maxHeartbeats 2000000
open Mn
local macro_rules | `(tactic| array_get_dec) => `(tactic| try simp (disch := first | assumption | rfl | decide | decide +kernel) only [pVar_k, vW_at, vW_fz, vW_fr, vW_dr, isB_dr, isD_dr, kqAsg_dr, kqAsgF_dr, kqRet_dr, pC_int, pC_bl, pC_str, pC_non, pC_t2, pBin_k, kq1_ok, kq1_exc, kq2_ok, kq2_exc, pUn_k, kqU_ok, kqU_exc, pAnd_k, kqAnd_t, kqAnd_f, pOr_k, kqOr_t, kqOr_f, pNot_k, kqNot_ok, pChain_k, kqC0_ok, kqC1_ok, kqC2_t, kqC2_f, kqC3_ok, pvL_nil, pvL_k, kqL1_ok, kqL1_exc, kqL2_ok, kqL2_exc, pTup_k, pLst_k, kqTup_exc, kqLst_exc, kqTup_1, kqTup_2, kqTup_3, kqTup_4, kqLst_0, kqLst_1, kqLst_2, kqLst_3, kqLst_4, anyB_nil, anyB_cons, anyT_nil, anyT_cons, at_fl, at_tn, at_t, mk_fl, mk_tn, mk_t, isB_fr, isB_fz, isB_bo, isB_bd, isD_fr, isD_fz, isD_bo, isD_bd, nW_k, elW_k, mkT_k, mkL_k, cond_true, cond_false, pCall_k, kqCall_ok, kqCall_exc, kqRes_ok, kqRes_exc, callW_at, callW_f, fn_1, fn_2, fn_3, fn_4, fn_5, fn_6, kqFn_nx, kqFn_ret, kqFn_exc, pSl_k, kqSl1_ok, kqSl2_ok, kqSl3_ok, pPart_n, pPart_s, kqPt_ok, pList_k, pRev_k, pEnum_k, pZip_k, kqZip1_ok, kqZip2_ok, pRange1_k, pRange2_k, kqR21_ok, kqR22_ok, pLc_k, killP_nil, killP_cons, ptName_at, ptName_fz, ptTup_a2, ptTup_a3, ptTup_f2, ptTup_f3, ptTup_q, ptAll_nil, ptAll_cons, kqAll_nx, pSeq_k, kqSeq2_nx, kqSeq2_ret, kqSeq2_ct, kqSeq2_bk, kqSeq2_exc, pPass_k, pCt_k, pBk_k, pRaise_k, pKl_k, pFz_k, frz_k, fzO_at, fzO_mk, fzO_none, fzW_at, fzW_mk, pAsg_k, kqAsg_at, kqAsg_fr, kqAsg_fz, kqAsg_exc, pAsgF_k, kqAsgF_at, kqAsgF_fr, kqAsgF_fz, kqAsgF_exc, pAsgT_k, kqAsgT_ok, kqTg_nx, kqAsgT_exc, pApp_k, pExt_k, pIns_k, kqIns1_ok, pSubA_k, kqSub1_ok, kqSub1_exc, pPar_k, kqPar_at, kqPar_1, kqPar_2, kqPar_3, pDrop_k, kqDrop_ok, kqDrop_exc, pRet_k, kqRet_at, kqRet_fr, kqRet_fz, kqRet_bo, kqRet_bd, kqRet_exc, pIf_k, kqIf_t, kqIf_f, kqIf_exc, pFor_k, kqFor_ok, pWhile_k, pTry_k, kqTry_nx, kqTry_ret, kqTry_exc, stepK_nx, stepK_ct, stepK_bk, stepK_ret, stepK_exc, stepF_nx, goF_nx, goF_bk, goF_ret, goF_exc, lcStep_nx, pTmp_k, frzAll_nil, frzAll_cons, kqTmp_bl, kqTmp_int, kqTmp_q, kqTmp_non, kqTmp_dr, kqTmp_r, pTupD_k, pLstD_k, kqLstD_0, pLcD_k, pSubD_k, vq0, vq1, Int.cast_ofNat_Int, Int.reduceLT, Int.reduceEq, Int.reduceLE, Int.reduceGT, Z.hL_d, Z.hL_ds, Z.hLs_d, Z.se_ww, Z.se_ss, Z.se_aa, Z.se_ws, Z.se_wa, Z.se_sw, Z.se_sa, Z.se_aw, Z.se_as, Z.sn_ss, hL_q, hL_r, hL_t, hL_i, hL_int, hL_bl, hL_str, hL_non, hL_exc, hL_lst, hL_ro, hL_tup, hL_nil, hL_cons, hLs_q, hLs_i, hLs_bl, qEq_q, qNe_q, qEq_int, qNe_int, qEq_bl, qNe_bl, qEq_r, qNe_r, qEq_t, qNe_t, qEq_vi, qNe_vi, qAdd_int, qSub_int, qMul_int, qDiv_int, qDiv_sm, qMod_int, qPow_int, qDm_sm, qMax_int, qMin_int, qLt_int, qLe_int, qGt_int, qGe_int, qNeg_int, qAbs_int, qToInt_int, qToInt_bl, qIsN_at, qIsN_a, qNotN_at, qNotN_a, isNon_non, isNon_int, isNon_q, isNon_r, qIx_q0, qIx_q1, qLen_q, qLen_r, qLen_t, qLen_vi, qLen_l, qLen_ro, qLen_tp, qLen_ta, qIs_q, qIs_r, qIs_t, qIs_vi, qIs_l, qIs_ro, qIs_tp, qIs_ta, qIs_int, qIs_bl, qIs_str, qIs_non, qIs_exc, Z.pC_N, Z.pC_O, qIx_a0, qIx_a1, qIx_a2, qIx_a3, qIx_f0, qIx_f1, qIx_f2, qIx_l0, qIx_l1, qIx_l2, kqSeq_r, kqSeq_vi, kqSeq_t, kqEnum_r, kqEnum_vi, kqEnum_t, zipOf_rr, zipOf_tr, zipOf_tt, qList_r, qAll_bl, qAny_bl, ty_tuple_tuple, ty_tuple_list, ty_tuple_int, ty_tuple_bool, ty_tuple_str, ty_tuple_NoneType, ty_list_tuple, ty_list_list, ty_list_int, ty_list_bool, ty_list_str, ty_list_NoneType, ty_int_tuple, ty_int_list, ty_int_int, ty_int_bool, ty_int_str, ty_int_NoneType, ty_bool_tuple, ty_bool_list, ty_bool_int, ty_bool_bool, ty_bool_str, ty_bool_NoneType, ty_str_tuple, ty_str_list, ty_str_int, ty_str_bool, ty_str_str, ty_str_NoneType, List.map_cons, List.map_nil, List.cons_append, List.nil_append, List.append_nil, List.reduceReplicate, Nat.reduceSub, List.getElem?_cons_zero, List.getElem?_cons_succ, List.set_cons_zero, List.set_cons_succ, List.length_cons, List.length_nil, Nat.zero_add, Nat.reduceAdd, decide_true, decide_false, beq_self_eq_true, Bool.not_true, Bool.not_false, Bool.or_false, Bool.or_true, Bool.false_or, Bool.true_or, Bool.and_false, Bool.and_true, Bool.false_and, Bool.true_and, Bool.and_self, Bool.or_self])
namespace Lk21
open Mn Z Y
theorem d_done_all {C m n : Nat} {T : List (List Rat)} {ds : List Deed} (lT : T.length ≤ 1000000) (hC : C ≤ 1000000) (lD : ds.length ≤ 1000000) (hw : Wid C T) (hb : BdT n T) (hd : ∀ d ∈ ds, d.Is T.length ∧ d.Sz m) (hs : n + ds.length * (m + 1) ≤ 4500) :
    d_p_done [vt T, vds ds] = .ok ⟨.dr, false, vt (doneL T ds)⟩ ∧ v_l_done [vt T, vds ds] = .ok ⟨.fr, false, vt (doneL T ds)⟩ := by
  have wk : ∀ k, Wid C (doneL T (ds.take k)) := fun k => hw.deeds fun d hd2 => (hd d (List.mem_of_mem_take hd2)).1
  have lL : ∀ k r, r ∈ doneL T (ds.take k) → r.length ≤ 1000000 := fun k r hr => by rw [wk k r hr]; exact hC
  have le : ∀ k, k ≤ ds.length → n + k * (m + 1) ≤ n + ds.length * (m + 1) := fun k hk => Nat.add_le_add_left (Nat.mul_le_mul_right _ hk) _
  have h1 : ∀ k, k < ds.length → OkT (doneL T (ds.take k)) := fun k hk => (hb.deeds hd k (by omega)).ok (by have := le k (by omega); omega)
  have h2 : ∀ (k : Nat) (d : Deed), ds[k]? = some d → d.Sm (doneL T (ds.take k)) := fun k d hk => by
    have hk2 := (List.getElem?_eq_some_iff.mp hk).1
    obtain ⟨a, b⟩ := hd d (List.mem_of_getElem? hk)
    cases d with
    | swap _ _ => exact trivial
    | scale _ _ => exact trivial
    | add i j q =>
      refine (hb.deeds hd k (by omega)).scale (List.mem_of_getElem? (get_of [] (by rw [doneL_len]; exact a.2.1))) (show Mn.Sz m q from b) ?_
      have := le (k + 1) (by omega)
      rw [Nat.succ_mul] at this
      omega
  exact ⟨d_done_ok lT lL lD (fun d hd2 => (hd d hd2).1) h1 h2, ldone_ok lT lL (fun d hd2 => (hd d hd2).1) h1 h2⟩
theorem tts_ds : ∀ ds : List Deed, ∃ ts, V.tts (ds.map vd) = some ts ∧ V.dps (ds.map vd) ≤ 3
  | [] => ⟨[], rfl, by decide⟩
  | d :: ds => by
    obtain ⟨t, a, b⟩ := tt_d d
    obtain ⟨ts, c, e⟩ := tts_ds ds
    refine ⟨t :: ts, ?_, ?_⟩
    · rw [List.map_cons, V.tts, a, c]
      rfl
    · rw [List.map_cons, V.dps]
      omega
theorem vEq_td (rs : List (List Rat)) (ds : List Deed) : vEq (.lst [vt rs, vds ds]) (.lst [vt rs, vds ds]) = some true := by
  obtain ⟨ts, c, e⟩ := tts_ds ds
  refine vEq_same (a := .lst [tt rs, .lst ts]) ?_ ?_
  · unfold vds
    simp only [V.tt, V.tts, tt_t, c]
    rfl
  · have := dp_vt rs
    unfold vds
    simp only [V.dp, V.dps]
    omega
theorem hL_ds2 (ds : List Deed) : V.hasLs (ds.map vd) = false := hLs_map vd hL_d ds
theorem cut_take {α : Type} (xs : List α) (k : Nat) : cut xs none (some (k : Int)) = xs.take k := by
  have := cut_mid xs 0 k (by omega)
  rw [List.drop_zero, Nat.sub_zero] at this
  rw [← this]
  unfold cut
  rw [show cutIx xs.length 0 (some ((0 : Nat) : Int)) = cutIx xs.length 0 none by unfold cutIx; simp]
theorem v_ok (ns : List Int) (hn : ns.length ≤ 63) (hb : ∀ z ∈ ns, bits z ≤ 1048576) : v_law_k21 [.ro (ns.map .int)] = .ok (.at (.bl true)) := by
  have szl : szLine = 16777216 := rfl
  unfold v_law_k21
  array_get_dec
  unfold v_law_k21.b
  array_get_dec
  rw [cell0_ok]
  array_get_dec
  obtain ⟨m0, hm0, em0⟩ := fmod_lt (ns.getD 0 0) (m := 5) (by decide)
  rw [show Int.fmod (ns.getD 0 0) 5 = (m0 : Int) from em0, show (1 : Int) + (m0 : Int) = ((1 + m0 : Nat) : Int) by omega]
  obtain ⟨m, hm, hm2, em⟩ : ∃ m, 0 < m ∧ m ≤ 5 ∧ 1 + m0 = m := ⟨_, by omega, by omega, rfl⟩
  rw [em, cell1_ok]
  array_get_dec
  obtain ⟨w, hw, ew⟩ := fmod_lt (ns.getD 1 0) (m := 6) (by decide)
  rw [show Int.fmod (ns.getD 1 0) 6 = (w : Int) from ew, kqR1_nat (by omega)]
  array_get_dec
  rw [show (2 : Int) = ((2 : Nat) : Int) from rfl, cells_ok (by omega) (by simp only [List.length_cons]; omega) rfl (by decide)]
  array_get_dec
  obtain ⟨T, t1, t2, t3, t4⟩ := table_ok drawsR3 (cs := (List.range m).map fun k => ns.getD (2 + k) 0) (L := w) false (by rw [cells_len]; omega) (by omega) (cells_bits hb m 2)
  rw [cells_len] at t1 t3
  rw [table3_eq, t4]
  array_get_dec
  rw [show (2 : Int) + (m : Int) = ((2 + m : Nat) : Int) by omega, show (18 : Int) + (m : Int) = ((18 + m : Nat) : Int) by omega, qCut_ri rfl, cut_mid _ _ _ (by omega)]
  array_get_dec
  obtain ⟨ds, d1, d2, d3⟩ := kqLc_ex (t := ptName 6) (e := pCall v_l_deed [pCall v_l_great_8 [pVar 6], pVar 1]) (π := [some ⟨.fz, true, .ro (ns.map .int)⟩, some (.at (.int m)), some (.at (.int w)), some ⟨.fz, false, vt T⟩, none, none, none, none, none, none, none, none, none]) (g := fun q => W.at (.int q)) (xs := (ns.drop (2 + m)).take (18 + m - (2 + m))) (st := true) (fun _ => .fz) vd (fun _ d => d.Is m ∧ d.Sz 71) (by rw [List.length_take]; omega) (fun _ => rfl) (fun i z hz => by
    have hz2 : z ∈ ns := List.mem_of_mem_drop (List.mem_of_mem_take (List.mem_of_getElem? hz))
    obtain ⟨n, g1, g2⟩ := great8_ok (hb z hz2)
    obtain ⟨d, k1, k2⟩ := ldeed_ok g1 hm hm2
    refine ⟨d, k1, ?_⟩
    array_get_dec
    rw [g2]
    array_get_dec
    rw [k2]
    array_get_dec
    rfl)
  rw [d3]
  have dl : ds.length ≤ 16 := by
    rw [d1, List.length_take]
    omega
  have dp : ∀ d ∈ ds, d.Is m ∧ d.Sz 71 := all_of d1 d2 fun _ _ h => h
  clear d2 d3 t4
  have bT := t3.bd
  have dT : ∀ d ∈ ds, d.Is T.length ∧ d.Sz 71 := fun d hd => by
    rw [t1]
    exact dp d hd
  have le16 : ds.length * (71 + 1) ≤ 16 * 72 := Nat.mul_le_mul_right _ dl
  obtain ⟨q1, q2⟩ := d_done_all (T := T) (ds := ds) (m := 71) (by omega) (show w ≤ 1000000 by omega) (by omega) t2 bT dT (by omega)
  obtain ⟨q3, _⟩ := d_done_all (T := T) (ds := []) (m := 71) (by omega) (show w ≤ 1000000 by omega) (by decide) t2 bT (fun d hd => by cases hd) (by show _ + 0 * 72 ≤ _; omega)
  have lh : (ds.take (ds.length / 2)).length ≤ 16 := by rw [List.length_take]; omega
  have le16h : (ds.take (ds.length / 2)).length * (71 + 1) ≤ 16 * 72 := Nat.mul_le_mul_right _ lh
  obtain ⟨q5, q6⟩ := d_done_all (T := T) (ds := ds.take (ds.length / 2)) (m := 71) (by omega) (show w ≤ 1000000 by omega) (by omega) t2 bT (fun d hd => dT d (List.mem_of_mem_take hd)) (by omega)
  have bU : BdT (75 * m + 1 + ds.length * (71 + 1)) (doneL T ds) := by
    have := bT.deeds dT ds.length (Nat.le_refl _)
    rw [List.take_length] at this
    exact this
  have it := istable_ok (rs := doneL T ds) (C := w) (by rw [doneL_len]; omega) (t2.deeds fun d hd => (dT d hd).1) (bU.ok (by omega))
  rw [doneL_len, t1] at it
  array_get_dec
  rw [copiesD_ok (by simp only [List.length_cons]; omega) (by omega)]
  array_get_dec
  rw [qList_at vd hL_d rfl]
  array_get_dec
  rw [kqLstD_ok (ws := [⟨.dr, false, vt T⟩, ⟨.fr, false, .lst (ds.map vd)⟩]) (by rw [szl]; exact (by decide : 2 ≤ 16777216)) (by
    show (dOk _ && (dOk _ && true)) = true
    rw [dOk_dr, dOk_l (hL_ds2 ds)]
    rfl)]
  array_get_dec
  rw [show V.lst (ds.map vd) = vds ds from rfl, q1]
  array_get_dec
  rw [q2]
  array_get_dec
  rw [it]
  array_get_dec
  rw [qNe_of (vEq_td T ds)]
  array_get_dec
  rw [show V.lst [] = vds [] from rfl, q3]
  array_get_dec
  rw [show doneL T [] = T from rfl]
  array_get_dec
  have g0 : T[0]? = some (T.getD 0 []) := get_of [] (by omega)
  have w0 : (T.getD 0 []).length = w := t2 _ (List.mem_of_getElem? g0)
  rw [appP_1 (k := 0) (us := T.map vr) (vs := (T.getD 0 []).map vq) (tn := false) (w := ⟨.dr, false, .tup [.int 1, .int 1]⟩) _ _ _ rfl rfl (by rw [List.getElem?_map, g0]; rfl) rfl rfl (by rw [List.length_map]; omega)]
  array_get_dec
  rw [show qLen ⟨.fz, false, vds ds⟩ = .ok (.at (.int (ds.length : Int))) by unfold vds; rw [qLen_l, List.length_map]]
  have a2 : (2 : Int) ≠ 0 := by decide
  have s2 : SmD 2 := SmD_nat (b := 2) (Nat.lt_of_lt_of_le (by decide : 2 < 2 ^ 7) (Nat.pow_le_pow_right (by decide) (by decide)))
  array_get_dec
  rw [show Int.fdiv (ds.length : Int) 2 = ((ds.length / 2 : Nat) : Int) by
    rw [Int.fdiv_eq_ediv_of_nonneg _ (by decide)]
    rfl]
  array_get_dec
  rw [show vds ds = .lst (ds.map vd) from rfl, qCut_at vd hL_d rfl, cut_take]
  array_get_dec
  rw [show V.lst ((ds.take (ds.length / 2)).map vd) = vds (ds.take (ds.length / 2)) from rfl, q5]
  array_get_dec
  rw [qCut_at vd hL_d rfl, cut_take]
  array_get_dec
  rw [show V.lst ((ds.take (ds.length / 2)).map vd) = vds (ds.take (ds.length / 2)) from rfl, q6]
  array_get_dec
  rw [clrP_2 _ _ (k := 0) (l := 0) (us := [vt T, vds ds]) (vs := T.map vr) (zs := (T.getD 0 []).map vq) (tn := false) rfl rfl rfl rfl (by rw [List.getElem?_map, g0]; rfl)]
  array_get_dec
  rw [clrP_1 _ _ (k := 1) (us := [.lst ((T.map vr).set 0 (.lst [])), vds ds]) (vs := ds.map vd) (tn := false) rfl rfl rfl]
  array_get_dec
theorem holds (ns : List Int) (hn : ns.length ≤ 63) (hb : ∀ z ∈ ns, bits z ≤ 1048576) : ∃ M, f_law [.ref 0] [.ro (ns.map .int)] = .ok (.bl true) M := s_law_k21.law (v_ok ns hn hb)
end Lk21
end
section
set_option Elab.async false
set_option autoImplicit false
set_option linter.all false
set_option maxRecDepth 100000
open PySem PySem.W PySem.Calls PyProof.Rows
set_option maxRecDepth 100000 in
set_option maxHeartbeats 0 in
theorem PySem.Challenge.cw_nearplane_k21_deeds_done_holds : PySem.Challenge.rw_nearplane_k21_deeds_done.Holds := by
  w_on; o_law
  refine HandSHeadRun.head_any (r := OpenLaw.row PySem.Challenge.rw_nearplane_k21_deeds_done) (q := view (OpenLaw.row PySem.Challenge.rw_nearplane_k21_deeds_done).prog [34]) (H := Lk21.hk) (ob := Lk21.ob) (M := 20000) (loose := Lk21.loose) (d := HandSHeadRun.topDef (OpenLaw.row PySem.Challenge.rw_nearplane_k21_deeds_done).prog 34) (kwd := []) Lk21.ob_eq
    (by kernel_rfl) (fun s => by kernel_rfl) Lk21.run (by kernel_rfl) (by kernel_rfl) (by kernel_rfl) (by rfl) (by first | assumption | decide +kernel) (by decide +kernel) ⟨rfl, rfl, rfl, rfl, rfl, by decide +kernel⟩ ?hw ?hc
  case hw => w_witness2
  case hc =>
    refine MnS.walk_mn (l := PySem.Challenge.rw_nearplane_k21_deeds_done) (n := 63) (k := 26) (x := "_law_script") rfl (by decide) (by kernel_rfl) ⟨rfl, by decide, by decide⟩ ?F
    intro w mg fa h Y G hmg0
    obtain ⟨K, KX, nl, c⟩ := Y
    have hmg : mg ("law" : PySem.Str) = some (.ref fa) := by
      have e : (HandSHeadRun.topDef (OpenLaw.row PySem.Challenge.rw_nearplane_k21_deeds_done).prog 34).name = ("law" : PySem.Str) := by kernel_rfl
      rw [← e]
      exact hmg0
    obtain ⟨fd, hb, hF⟩ := Lk21.facts (P := (PySem.Challenge.rw_nearplane_k21_deeds_done).prog) (w := w) KX G hmg c
    exact ⟨K, fd, ⟨K, MnS.caOf K, Lk21.xs⟩, Lk21.f_law, KX, nl, rfl, hb, fun ns h1 h2 => Lk21.holds ns h1 h2, hF⟩
end
