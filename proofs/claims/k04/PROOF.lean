import PyProof.Rows.All
import Wide.All
import OpenK.AllK
import Wide.FinOn
import HandS.ForMost
import HandS.ForExc
import HandS.Wide
import HandS.TupAny
import HandS.DeepEq
import PyProof.NeKinds
import PyProof.NeData
import HandS.IsInst
import HandS.Zip
import HandS.Rev
import HandS.WideBits
import HandS.More
import HandS.Codes
import HandS.Comp
import HandS.TryElse
import HandS.Dict
import HandS.Defaults
import HandS.Style
import HandS.Conv
import HandS.SortInts
import HandS.Iter
import HandS.WordsDict
import HandS.Small
import HandS.DictSubView
import HandS.CallSlots
import HandS.HeadHook1
import HandS.HeadHook2
import HandS.ExcIs
import KE.KIsAll
import HandS.Ends
import HandS.EndBits
import HandS.HeadEnd
import HandS.Head0
import HandS.Head1
import HandS.Head2
import HandS.MakeKw
import PySem.Challenge.RW_nearplane_k04_written_and_read
set_option Elab.async false
section
set_option Elab.async false
set_option autoImplicit false
namespace Mn
inductive Val where
  | non
  | bl (b : Bool)
  | int (i : Int)
  | str (s : List Nat)
  | tup (xs : List Val)
  | ref (n : Nat)
  | exc (c : String)
  deriving Inhabited
inductive Cell where
  | lst (xs : List Val)
  | ro (xs : List Val)
  | dic (kvs : List (Val × Val))
  | rod (kvs : List (Val × Val))
  | obj (c : String) (fs : List (String × Val))
  deriving Inhabited
abbrev Store := List Cell
inductive R (α : Type) where
  | ok (a : α) (M : Store)
  | exc (c : String) (M : Store)
  | bad
def R.bind {α β : Type} (r : R α) (f : α → Store → R β) : R β := match r with
  | .ok a M => f a M
  | .exc c M => .exc c M
  | .bad => .bad
@[simp] theorem R.bind_ok {α β : Type} (a : α) (M : Store) (f : α → Store → R β) : (R.ok a M).bind f = f a M := rfl
@[simp] theorem R.bind_exc {α β : Type} (c : String) (M : Store) (f : α → Store → R β) : (R.exc c M : R α).bind f = .exc c M := rfl
@[simp] theorem R.bind_bad {α β : Type} (f : α → Store → R β) : (R.bad : R α).bind f = .bad := rfl
abbrev Env := List (Option Val)
abbrev E := Env → Store → R Val
abbrev Fn := List Val → Store → R Val
abbrev P := Option (Val × Store)
def R.of (o : P) : R Val := match o with
  | some (v, M) => .ok v M
  | none => .bad
@[simp] theorem R.of_some (v : Val) (M : Store) : R.of (some (v, M)) = .ok v M := rfl
@[simp] theorem R.of_none : R.of none = .bad := rfl
abbrev Op := Val → Val → Store → P
abbrev U := Val → Store → P
def S (s : String) : List Nat := s.toList.map Char.toNat
def szLine : Nat := 16777216
def bits (i : Int) : Nat := if i = 0 then 0 else i.natAbs.log2 + 1
def mulOk (i j : Int) : Bool := decide (bits i ≤ 64) || decide (bits j ≤ 64) || decide (bits i + bits j ≤ 134217728)
def divOk (i j : Int) : Bool := decide (j.natAbs.log2 < 9000) || decide (i.natAbs.log2 / 30 ≤ j.natAbs.log2 / 30 + 150)
def eVar (i : Nat) : E := fun ρ M => match ρ[i]? with
  | some (some v) => .ok v M
  | _ => .bad
def eC (v : Val) : E := fun _ M => .ok v M
def eBin (f : Op) (a b : E) : E := fun ρ M => (a ρ M).bind fun x M1 => (b ρ M1).bind fun y M2 => R.of (f x y M2)
def eUn (f : U) (a : E) : E := fun ρ M => (a ρ M).bind fun x M1 => R.of (f x M1)
abbrev Tri := Val → Val → Val → Store → P
def mIns : Tri
  | .ref n, .int i, v, M => match M[n]? with
    | some (.lst xs) => if xs.length < szLine ∧ 0 ≤ i ∧ i < 2 ^ 63 then some (.non, M.set n (.lst (xs.take i.toNat ++ [v] ++ xs.drop i.toNat))) else none
    | _ => none
  | _, _, _, _ => none
def evL : List E → Env → Store → R (List Val)
  | [], _, M => .ok [] M
  | e :: es, ρ, M => (e ρ M).bind fun v M1 => (evL es ρ M1).bind fun vs M2 => .ok (v :: vs) M2
def alloc (c : Cell) (M : Store) : P := some (.ref M.length, M ++ [c])
def lstAt (M : Store) (n : Nat) : Option (List Val) := match M[n]? with
  | some (.lst xs) => some xs
  | some (.ro xs) => some xs
  | _ => none
def oAdd : Op
  | .int i, .int j, M => some (.int (i + j), M)
  | .str x, .str y, M => if x.length + y.length ≤ szLine then some (.str (x ++ y), M) else none
  | .ref m, .ref n, M => match M[m]?, M[n]? with
    | some (.lst xs), some (.lst ys) => if xs.length + ys.length ≤ szLine then alloc (.lst (xs ++ ys)) M else none
    | _, _ => none
  | .tup xs, .tup ys, M => if xs.length + ys.length ≤ szLine then some (.tup (xs ++ ys), M) else none
  | _, _, _ => none
def oSub : Op
  | .int i, .int j, M => some (.int (i - j), M)
  | _, _, _ => none
def oMul : Op
  | .int i, .int j, M => if mulOk i j then some (.int (i * j), M) else none
  | .ref n, .int k, M => match M[n]? with
    | some (.lst xs) => if xs.length * k.toNat ≤ szLine ∧ -(2 ^ 63) ≤ k ∧ k < 2 ^ 63 then alloc (.lst ((List.replicate k.toNat xs).flatten)) M else none
    | _ => none
  | _, _, _ => none
def oDiv : Op
  | .int i, .int j, M => if j ≠ 0 ∧ divOk i j then some (.int (i.fdiv j), M) else none
  | _, _, _ => none
def oMod : Op
  | .int i, .int j, M => if j ≠ 0 then some (.int (i.fmod j), M) else none
  | _, _, _ => none
def oPow : Op
  | .int i, .int j, M => if 0 ≤ j ∧ j ≤ 1000000 ∧ i.natAbs < 2 ^ 64 then some (.int (i ^ j.toNat), M) else none
  | _, _, _ => none
def oDm : Op
  | .int i, .int j, M => if 0 < j ∧ divOk i j then some (.tup [.int (i / j), .int (i % j)], M) else none
  | _, _, _ => none
def oMax : Op
  | .int i, .int j, M => some (.int (if j > i then j else i), M)
  | _, _, _ => none
def oMin : Op
  | .int i, .int j, M => some (.int (if j < i then j else i), M)
  | _, _, _ => none
def mApp : Op
  | .ref n, v, M => match M[n]? with
    | some (.lst xs) => if xs.length < szLine then some (.non, M.set n (.lst (xs ++ [v]))) else none
    | _ => none
  | _, _, _ => none
def mExt : Op
  | .ref n, .ref m, M => match M[n]?, M[m]? with
    | some (.lst xs), some (.lst ys) => if xs.length + ys.length ≤ szLine then some (.non, M.set n (.lst (xs ++ ys))) else none
    | _, _ => none
  | _, _, _ => none
def mClr : U
  | .ref n, M => match M[n]? with
    | some (.lst _) => some (.non, M.set n (.lst []))
    | _ => none
  | _, _ => none
def mPop : U
  | .ref n, M => match M[n]? with
    | some (.lst xs) => match xs[xs.length - 1]? with
      | some y => some (y, M.set n (.lst xs.dropLast))
      | none => none
    | _ => none
  | _, _ => none
def oNeg : U
  | .int i, M => some (.int (-i), M)
  | _, _ => none
inductive T where
  | non
  | bl (b : Bool)
  | int (i : Int)
  | str (s : List Nat)
  | tup (xs : List T)
  | lst (xs : List T)
  deriving Inhabited
def b2i (b : Bool) : Int := if b then 1 else 0
mutual
def T.eqv : T → T → Bool
  | .non, .non => true
  | .bl a, .bl b => a == b
  | .bl a, .int j => decide (b2i a = j)
  | .int i, .bl b => decide (i = b2i b)
  | .int i, .int j => decide (i = j)
  | .str x, .str y => decide (x = y)
  | .tup xs, .tup ys => T.eqvs xs ys
  | .lst xs, .lst ys => T.eqvs xs ys
  | _, _ => false
def T.eqvs : List T → List T → Bool
  | [], [] => true
  | x :: xs, y :: ys => T.eqv x y && T.eqvs xs ys
  | _, _ => false
end
def mapO {α β : Type} (f : α → Option β) : List α → Option (List β)
  | [] => some []
  | x :: xs => match f x with
    | some y => (mapO f xs).map (y :: ·)
    | none => none
def toT (M : Store) : Nat → Val → Option T
  | 0, _ => none
  | _ + 1, .non => some .non
  | _ + 1, .bl b => some (.bl b)
  | _ + 1, .int i => some (.int i)
  | _ + 1, .str s => if s.all (fun c => decide (c < 1114112)) = true then some (.str s) else none
  | _ + 1, .exc _ => none
  | k + 1, .tup xs => (mapO (toT M k) xs).map T.tup
  | k + 1, .ref n => match lstAt M n with
    | some xs => (mapO (toT M k) xs).map T.lst
    | none => none
def eqFuel : Nat := 60
def valEq (x y : Val) (M : Store) : Option Bool := match toT M eqFuel x, toT M eqFuel y with
  | some a, some b => some (a.eqv b)
  | _, _ => none
def pB (o : Option Bool) (M : Store) : P := o.map fun b => (.bl b, M)
def cEq : Op := fun x y M => pB (valEq x y M) M
def emD (M : Store) : Val → Bool
  | .ref n => match M[n]? with
    | some (.dic []) => true
    | _ => false
  | _ => false
def eqT? : Option T → Option T → Bool
  | some a, some b => a.eqv b
  | _, _ => false
def eqLk (M : Store) (x y : Val) : Bool := eqT? (toT M eqFuel x) (toT M eqFuel y) || (emD M x && emD M y)
def eqLks (M : Store) : List Val → List Val → Bool
  | [], [] => true
  | x :: xs, y :: ys => eqLk M x y && eqLks M xs ys
  | _, _ => false
def lstsEq (M : Store) : Val → Val → Bool
  | .ref n, .ref m => match lstAt M n, lstAt M m with
    | some xs, some ys => eqLks M xs ys
    | _, _ => false
  | _, _ => false
def valNe (x y : Val) (M : Store) : Option Bool := match valEq x y M with
  | some b => some (!b)
  | none => if lstsEq M x y = true then some false else none
theorem valNe_of {x y : Val} {M : Store} {b : Bool} (h : valEq x y M = some b) : valNe x y M = some (!b) := by
  unfold valNe
  rw [h]
def cNe : Op := fun x y M => pB (valNe x y M) M
def cInt (p : Int → Int → Bool) : Op
  | .int i, .int j, M => some (.bl (p i j), M)
  | _, _, _ => none
def cLt : Op := cInt fun i j => decide (i < j)
def cLe : Op := cInt fun i j => decide (i ≤ j)
def cGt : Op := cInt fun i j => decide (j < i)
def cGe : Op := cInt fun i j => decide (j ≤ i)
def isNon : Val → Bool
  | .non => true
  | _ => false
def cIsN : Op := fun x y M => match y with
  | .non => some (.bl (isNon x), M)
  | .bl b => match x with
    | .bl a => some (.bl (a == b), M)
    | _ => none
  | _ => none
def cNotN : Op := fun x y M => match y with
  | .non => some (.bl (!isNon x), M)
  | .bl b => match x with
    | .bl a => some (.bl (!(a == b)), M)
    | _ => none
  | _ => none
def flat : Val → Bool
  | .non => true
  | .bl _ => true
  | .int _ => true
  | .str _ => true
  | _ => false
def eqF : Val → Val → Bool
  | .non, .non => true
  | .bl a, .bl b => a == b
  | .int a, .int b => a == b
  | .str a, .str b => a == b
  | .bl a, .int b => b2i a == b
  | .int a, .bl b => a == b2i b
  | _, _ => false
def seqOf (M : Store) : Val → Option (List Val)
  | .ref n => lstAt M n
  | .tup xs => some xs
  | _ => none
def cInG (neg : Bool) : Op := fun x y M => match seqOf M y with
  | some xs => if flat x = true ∧ xs.all flat = true then some (.bl (if neg then !(xs.any fun y => eqF y x) else xs.any fun y => eqF y x), M) else none
  | none => none
def cIn : Op := cInG false
def cNotIn : Op := cInG true
def eAnd (a b : E) : E := fun ρ M => (a ρ M).bind fun x M1 => match x with
  | .bl true => b ρ M1
  | .bl false => .ok (.bl false) M1
  | _ => .bad
def eOr (a b : E) : E := fun ρ M => (a ρ M).bind fun x M1 => match x with
  | .bl true => .ok (.bl true) M1
  | .bl false => b ρ M1
  | _ => .bad
def eNot (a : E) : E := fun ρ M => (a ρ M).bind fun x M1 => match x with
  | .bl c => .ok (.bl (!c)) M1
  | _ => .bad
def eChain (f g : Op) (a b c : E) : E := fun ρ M => (a ρ M).bind fun x M1 => (b ρ M1).bind fun y M2 => (R.of (f x y M2)).bind fun r M3 => match r with
  | .bl true => (c ρ M3).bind fun z M4 => R.of (g y z M4)
  | .bl false => .ok (.bl false) M3
  | _ => .bad
def eTup (es : List E) : E := fun ρ M => (evL es ρ M).bind fun vs M1 => if vs.length ≤ szLine then .ok (.tup vs) M1 else .bad
def eLst (es : List E) : E := fun ρ M => (evL es ρ M).bind fun vs M1 => if vs.length ≤ szLine then R.of (alloc (.lst vs) M1) else .bad
def atIx (n : Nat) (i : Int) : Option Nat := if 0 ≤ i then (if i < n then some i.toNat else none) else (if -(n : Int) ≤ i then some (i + n).toNat else none)
def atI {α : Type} (xs : List α) (i : Int) : Option α := (atIx xs.length i).bind fun k => xs[k]?
def oIx : Op
  | .tup xs, .int i, M => (atI xs i).map fun v => (v, M)
  | .ref n, .int i, M => match lstAt M n with
    | some xs => (atI xs i).map fun v => (v, M)
    | none => none
  | _, _, _ => none
def eCall (F : Fn) (es : List E) : E := fun ρ M => (evL es ρ M).bind fun vs M1 => F vs M1
def uAbs : U
  | .int i, M => some (.int (if i < 0 then -i else i), M)
  | _, _ => none
def uLen : U
  | .tup xs, M => some (.int xs.length, M)
  | .str s, M => if s.length ≤ szLine then some (.int s.length, M) else none
  | .ref n, M => match lstAt M n with
    | some xs => some (.int xs.length, M)
    | none => none
  | _, _ => none
def uList : U := fun v M => match seqOf M v with
  | some xs => alloc (.lst xs) M
  | none => none
def uTup : U
  | .ref n, M => match lstAt M n with
    | some xs => some (.tup xs, M)
    | none => none
  | .tup xs, M => some (.tup xs, M)
  | _, _ => none
def toBl : Val → Option Bool
  | .bl b => some b
  | _ => none
def uAllG (g : List Bool → Bool) : U
  | .ref n, M => match lstAt M n with
    | some xs => match mapO toBl xs with
      | some bs => some (.bl (g bs), M)
      | none => none
    | none => none
  | _, _ => none
def uAll : U := uAllG fun bs => bs.all id
def uAny : U := uAllG fun bs => bs.any id
def uInt : U
  | .int i, M => some (.int i, M)
  | .bl b, M => some (.int (if b then 1 else 0), M)
  | _, _ => none
def cutIx (n d : Nat) : Option Int → Nat
  | none => d
  | some v => if v < 0 then ((v + n) : Int).toNat else min v.toNat n
def cut {α : Type} (xs : List α) (lo hi : Option Int) : List α := (xs.drop (cutIx xs.length 0 lo)).take (cutIx xs.length xs.length hi - cutIx xs.length 0 lo)
def ePart (o : Option E) (ρ : Env) (M : Store) : R (Option Int) := match o with
  | none => .ok none M
  | some e => (e ρ M).bind fun v M1 => match v with
    | .int i => .ok (some i) M1
    | _ => .bad
def cutOf (v : Val) (lo hi : Option Int) (M : Store) : P := match v with
  | .ref n => match lstAt M n with
    | some xs => alloc (.lst (cut xs lo hi)) M
    | none => none
  | .tup xs => some (.tup (cut xs lo hi), M)
  | .str s => if s.length ≤ szLine then some (.str (cut s lo hi), M) else none
  | _ => none
def eSl (e : E) (lo hi : Option E) : E := fun ρ M => (e ρ M).bind fun v M1 => (ePart lo ρ M1).bind fun l M2 => (ePart hi ρ M2).bind fun h M3 => R.of (cutOf v l h M3)
def tyName (M : Store) : Val → Option String
  | .non => some "NoneType"
  | .bl _ => some "bool"
  | .int _ => some "int"
  | .str _ => some "str"
  | .tup _ => some "tuple"
  | .exc _ => none
  | .ref n => match M[n]? with
    | some (.lst _) => some "list"
    | some (.ro _) => some "list"
    | some (.dic _) => some "dict"
    | some (.rod _) => some "dict"
    | _ => none
def isTy (t : String) (v : Val) (M : Store) : Bool := decide (tyName M v = some t)
def eM0 (t : String) (f : U) (a : E) : E := fun ρ M => (a ρ M).bind fun x M1 => if isTy t x M1 = true then R.of (f x M1) else .bad
def eM1 (t : String) (f : Op) (a b : E) : E := fun ρ M => (a ρ M).bind fun x M1 => if isTy t x M1 = true then (b ρ M1).bind fun y M2 => R.of (f x y M2) else .bad
def eM2 (t : String) (f : Tri) (a b c : E) : E := fun ρ M => (a ρ M).bind fun x M1 => if isTy t x M1 = true then (b ρ M1).bind fun y M2 => (c ρ M2).bind fun z M3 => R.of (f x y z M3) else .bad
def isT (a b : String) : Bool := a == b || (a == "bool" && b == "int")
def isX (c d : String) : Bool := c == d || d == "PlaneError" || d == "ValueError"
def uIs (ts : List String) : U := fun v M => match v with
  | .exc c => some (.bl (ts.any (isX c)), M)
  | v => match tyName M v with
    | some a => some (.bl (ts.any (isT a)), M)
    | none => none
inductive RS where
  | nx (ρ : Env) (M : Store)
  | ret (v : Val) (M : Store)
  | bk (ρ : Env) (M : Store)
  | ct (ρ : Env) (M : Store)
  | exc (c : String) (ρ : Env) (M : Store)
  | bad
abbrev St := Env → Store → RS
def R.st {α : Type} (r : R α) (ρ : Env) (f : α → Store → RS) : RS := match r with
  | .ok a M => f a M
  | .exc c M => .exc c ρ M
  | .bad => .bad
@[simp] theorem R.st_ok {α : Type} (a : α) (M : Store) (ρ : Env) (f : α → Store → RS) : (R.ok a M).st ρ f = f a M := rfl
@[simp] theorem R.st_exc {α : Type} (c : String) (M : Store) (ρ : Env) (f : α → Store → RS) : (R.exc c M : R α).st ρ f = .exc c ρ M := rfl
@[simp] theorem R.st_bad {α : Type} (ρ : Env) (f : α → Store → RS) : (R.bad : R α).st ρ f = .bad := rfl
def RS.andThen (r : RS) (f : St) : RS := match r with
  | .nx ρ M => f ρ M
  | r => r
abbrev Tg := Val → St
def tName (i : Nat) : Tg := fun v ρ M => .nx (ρ.set i (some v)) M
def tAll : List Tg → List Val → St
  | [], [], ρ, M => .nx ρ M
  | t :: ts, v :: vs, ρ, M => (t v ρ M).andThen (tAll ts vs)
  | _, _, _, _ => .bad
def tTup (ts : List Tg) : Tg := fun v ρ M => match seqOf M v with
  | some xs => if xs.length = ts.length then tAll ts xs ρ M else .bad
  | none => .bad
def setIt : Val → Val → Val → Store → Option Store
  | .ref n, .int k, v, M => match M[n]? with
    | some (.lst xs) => (atIx xs.length k).map fun j => M.set n (.lst (xs.set j v))
    | _ => none
  | _, _, _, _ => none
def tSub (o i : E) : Tg := fun v ρ M => match o ρ M with
  | .ok x M1 => match i ρ M1 with
    | .ok y M2 => match setIt x y v M2 with
      | some M3 => .nx ρ M3
      | none => .bad
    | _ => .bad
  | _ => .bad
def sPass : St := fun ρ M => .nx ρ M
def sCt : St := fun ρ M => .ct ρ M
def sBk : St := fun ρ M => .bk ρ M
def sSeq (a b : St) : St := fun ρ M => (a ρ M).andThen b
def RS.tg : RS → RS
  | .nx ρ M => .nx ρ M
  | _ => .bad
def sAsg (t : Tg) (e : E) : St := fun ρ M => (e ρ M).st ρ fun v M1 => (t v ρ M1).tg
def sPar (i j : Nat) (a b : E) : St := fun ρ M => (evL [a, b] ρ M).st ρ fun vs M1 => match vs with
  | [v, w] => .nx ((ρ.set i (some v)).set j (some w)) M1
  | _ => .bad
def sDrop (e : E) : St := fun ρ M => (e ρ M).st ρ fun _ M1 => .nx ρ M1
def sRet (e : E) : St := fun ρ M => (e ρ M).st ρ fun v M1 => .ret v M1
def sRaise (c : String) : St := fun ρ M => .exc c ρ M
def sIf (c : E) (a b : St) : St := fun ρ M => (c ρ M).st ρ fun v M1 => match v with
  | .bl true => a ρ M1
  | .bl false => b ρ M1
  | _ => .bad
def whileLine : Nat := 1099511627776
def sWhileN (c : E) (b : St) : Nat → St
  | 0, _, _ => .bad
  | k + 1, ρ, M => (c ρ M).st ρ fun v M1 => match v with
    | .bl false => .nx ρ M1
    | .bl true => match b ρ M1 with
      | .nx ρ' M' => sWhileN c b k ρ' M'
      | .ct ρ' M' => sWhileN c b k ρ' M'
      | .bk ρ' M' => .nx ρ' M'
      | r => r
    | _ => .bad
def sWhile (c : E) (b : St) : St := sWhileN c b whileLine
structure Itr where
  n : Nat
  nxt : Nat → Store → Option Val
  fin : Store → Bool
abbrev Src := Env → Store → R Itr
def itSeq (w : Val) (len : Nat) : Itr := ⟨len, fun i M => (seqOf M w).bind fun ys => ys[i]?, fun M => match seqOf M w with
    | some ys => decide (ys.length ≤ len)
    | none => false⟩
def iList (e : E) : Src := fun ρ M => (e ρ M).bind fun v M1 => match seqOf M1 v with
  | some xs => .ok (itSeq v xs.length) M1
  | none => .bad
def itEnum (n len : Nat) : Itr := ⟨len, fun i M => (lstAt M n).bind fun ys => ys[i]?.map fun y => .tup [.int i, y], fun M => match lstAt M n with
    | some ys => decide (ys.length ≤ len)
    | none => false⟩
def iEnum (e : E) : Src := fun ρ M => (e ρ M).bind fun v M1 => match v with
  | .ref n => match lstAt M1 n with
    | some xs => .ok (itEnum n xs.length) M1
    | none => .bad
  | _ => .bad
def sameKind : Val → Val → Bool
  | .ref _, .ref _ => true
  | .tup _, .tup _ => true
  | _, _ => false
def itZip (v w : Val) (len : Nat) : Itr := ⟨len, fun i M => match seqOf M v, seqOf M w with
    | some xs, some ys => match xs[i]?, ys[i]? with
      | some x, some y => some (.tup [x, y])
      | _, _ => none
    | _, _ => none, fun M => match seqOf M v, seqOf M w with
    | some xs, some ys => decide (xs.length ≤ len) || decide (ys.length ≤ len)
    | _, _ => false⟩
def iZip (a b : E) : Src := fun ρ M => (a ρ M).bind fun v M1 => (b ρ M1).bind fun w M2 => if sameKind v w = true then (match seqOf M2 v, seqOf M2 w with
    | some xs, some ys => .ok (itZip v w (min xs.length ys.length)) M2
    | _, _ => .bad) else .bad
def itRev (w : Val) (len : Nat) : Itr := ⟨len, fun i M => (seqOf M w).bind fun ys => ys[len - 1 - i]?, fun _ => true⟩
def iRev (e : E) : Src := fun ρ M => (e ρ M).bind fun v M1 => match seqOf M1 v with
  | some xs => .ok (itRev v xs.length) M1
  | none => .bad
def iRange1 (a : E) : Src := fun ρ M => (a ρ M).bind fun v M1 => match v with
  | .int j => if -(2 ^ 62) ≤ j ∧ j < 2 ^ 62 then .ok ⟨j.toNat, fun i _ => some (.int (0 + (i : Int))), fun _ => true⟩ M1 else .bad
  | _ => .bad
def iRange2 (a b : E) : Src := fun ρ M => (a ρ M).bind fun u M1 => (b ρ M1).bind fun v M2 => match u, v with
  | .int i, .int j => if -(2 ^ 62) ≤ i ∧ i < 2 ^ 62 ∧ -(2 ^ 62) ≤ j ∧ j < 2 ^ 62 then .ok ⟨(j - i).toNat, fun k _ => some (.int (i + (k : Int))), fun _ => true⟩ M2 else .bad
  | _, _ => .bad
def sForN (it : Itr) (t : Tg) (b : St) : Nat → Nat → St
  | 0, _, ρ, M => if it.fin M then .nx ρ M else .bad
  | k + 1, i, ρ, M => match it.nxt i M with
    | none => .bad
    | some v => match t v ρ M with
      | .nx ρ1 M1 => match b ρ1 M1 with
        | .nx ρ' M' => sForN it t b k (i + 1) ρ' M'
        | .ct ρ' M' => sForN it t b k (i + 1) ρ' M'
        | .bk ρ' M' => .nx ρ' M'
        | r => r
      | _ => .bad
def sFor (s : Src) (t : Tg) (b : St) : St := fun ρ M => (s ρ M).st ρ fun it M1 => sForN it t b it.n 0 ρ M1
def wipe (ρ : Env) : List Nat → Env
  | [] => ρ
  | v :: vs => (wipe ρ vs).set v none
def lcN (it : Itr) (t : Tg) (c e : E) (ρ : Env) : Nat → Nat → List Val → Store → R (List Val)
  | 0, _, acc, M => if it.fin M then .ok acc M else .bad
  | k + 1, i, acc, M => match it.nxt i M with
    | none => .bad
    | some v => match t v ρ M with
      | .nx ρ1 M1 => match c ρ1 M1 with
        | .ok (.bl true) M2 => match e ρ1 M2 with
          | .ok y M3 => lcN it t c e ρ k (i + 1) (acc ++ [y]) M3
          | _ => .bad
        | .ok (.bl false) M2 => lcN it t c e ρ k (i + 1) acc M2
        | _ => .bad
      | _ => .bad
def eLc (s : Src) (t : Tg) (vs : List Nat) (c e : E) : E := fun ρ M => (s ρ M).bind fun it M1 => if it.n ≤ szLine then (lcN it t c e (wipe ρ vs) it.n 0 [] M1).bind fun ys M2 => R.of (alloc (.lst ys) M2) else .bad
structure Hd where
  tup : Bool
  cs : List String
  slot : Option Nat
  st : St
def RS.calm : RS → RS
  | .exc _ _ _ => .bad
  | r => r
def setO (o : Option Nat) (c : String) (ρ : Env) : Env := match o with
  | some i => ρ.set i (some (.exc c))
  | none => ρ
def unO (o : Option Nat) (ρ : Env) : Env := match o with
  | some i => ρ.set i none
  | none => ρ
def RS.drop (o : Option Nat) : RS → RS
  | .nx ρ M => .nx (unO o ρ) M
  | .bk ρ M => .bk (unO o ρ) M
  | .ct ρ M => .ct (unO o ρ) M
  | r => r
def handle : List Hd → String → St
  | [], c, ρ, M => .exc c ρ M
  | h :: r, c, ρ, M => if h.cs.any (isX c) = true then (if h.tup = true then .bad else ((h.st (setO h.slot c ρ) M).calm).drop h.slot) else handle r c ρ M
def sTry (b : St) (hs : List Hd) (els : St) : St := fun ρ M => match b ρ M with
  | .exc c ρ' M' => handle hs c ρ' M'
  | .nx ρ' M' => els ρ' M'
  | r => r
def mkFn (np nn : Nat) (b : St) : Fn := fun vs M => if vs.length = np then match b (vs.map some ++ List.replicate (nn - np) none) M with
  | .nx _ M1 => .ok .non M1
  | .ret v M1 => .ok v M1
  | .exc c _ M1 => .exc c M1
  | _ => .bad
  else .bad
end Mn
end
section
set_option Elab.async false
set_option autoImplicit false
set_option linter.all false
set_option maxRecDepth 100000
set_option maxHeartbeats 1000000
namespace MnS
open PySem PySem.Spec PyProof.Rows L2
open Mn (Val Cell Store E Fn Op U Itr Src Tg)
structure Tb where
  K : PySem.W.Frag
  ca : String → Addr
  xs : List String
def sOf (s : List Nat) : Str := ⟨s.toArray⟩
def TupAt (K : PySem.W.Frag) (H : Hp) (a : Addr) (xs : List V) : Prop := H a = some (.tup xs) ∨
  ∃ (o : Obj) (its : Array Value) (n : Nat), K.lookup a = some o ∧ o.cls = .type "tuple" ∧ o.data = .seq its n ∧ its.size ≤ sizeLine ∧ Vals xs its.toList
theorem TupAt.sq {K : PySem.W.Frag} {H : Hp} {a : Addr} {xs : List V} (h : TupAt K H a xs) : SqT K H a xs := by
  rcases h with h | h
  · exact .inl (.inl h)
  · exact .inr h
def excPhi (C a : Addr) : Heap → Prop := fun h => ∃ o vs, h.get? a = some o ∧ o.cls = .ref C ∧ o.dict = none ∧ o.data = .fields vs
mutual
inductive Rel (T : Tb) (R : List Addr) (H : Hp) : Val → V → Prop
  | non : Rel T R H .non .non
  | bl (b : Bool) : Rel T R H (.bl b) (.bl b)
  | int (i : Int) : Rel T R H (.int i) (.int i)
  | str (s : List Nat) : Rel T R H (.str s) (.str (sOf s))
  | tup {xs : List Val} {a : Addr} {vs : List V} : TupAt T.K H a vs → Rels T R H xs vs → Rel T R H (.tup xs) (.ref a)
  | ref {n : Nat} {a : Addr} : R[n]? = some a → Rel T R H (.ref n) (.ref a)
  | exc {c : String} {a : Addr} : c ∈ T.xs → H a = some (.ext (excPhi (T.ca c) a)) → Rel T R H (.exc c) (.ref a)
inductive Rels (T : Tb) (R : List Addr) (H : Hp) : List Val → List V → Prop
  | nil : Rels T R H [] []
  | cons {x : Val} {v : V} {xs : List Val} {vs : List V} : Rel T R H x v → Rels T R H xs vs → Rels T R H (x :: xs) (v :: vs)
end
structure Keep (R R' : List Addr) (H H' : Hp) : Prop where
  tup : ∀ a xs, H a = some (.tup xs) → H' a = some (.tup xs)
  ext : ∀ a φ, H a = some (.ext φ) → H' a = some (.ext φ)
  fr : ∀ a o, H a = some o → a ∉ R → H' a = some o ∧ a ∉ R'
  fz : ∀ a o u, H a = some (.frz o u) → H' a = some (.frz o u)
theorem Keep.refl {R : List Addr} (H : Hp) : Keep R R H H := ⟨fun _ _ h => h, fun _ _ h => h, fun _ _ h n => ⟨h, n⟩, fun _ _ _ h => h⟩
theorem Keep.trans {R R1 R2 : List Addr} {H H1 H2 : Hp} (a : Keep R R1 H H1) (b : Keep R1 R2 H1 H2) : Keep R R2 H H2 :=
  ⟨fun x y h => b.tup x y (a.tup x y h), fun x y h => b.ext x y (a.ext x y h), fun x o h n => let ⟨h1, n1⟩ := a.fr x o h n; b.fr x o h1 n1, fun x o u h => b.fz x o u (a.fz x o u h)⟩
theorem Keep.upd {R : List Addr} {H : Hp} {a : Addr} {o : HO} (m : a ∈ R) (h : (∀ xs, H a ≠ some (.tup xs)) ∧ ∀ φ, H a ≠ some (.ext φ)) (hz : ∀ d u, H a ≠ some (.frz d u)) : Keep R R H (upd H a o) := by
  refine ⟨fun b xs e => ?_, fun b φ e => ?_, fun b u e n => ⟨?_, n⟩, fun b d u e => ?_⟩
  · have n : b ≠ a := fun z => h.1 xs (z ▸ e)
    rw [upd_ne n]
    exact e
  · have n : b ≠ a := fun z => h.2 φ (z ▸ e)
    rw [upd_ne n]
    exact e
  · have n' : b ≠ a := fun z => n (z ▸ m)
    rw [upd_ne n']
    exact e
  · have n' : b ≠ a := fun z => hz d u (z ▸ e)
    rw [upd_ne n']
    exact e
theorem Keep.new {R : List Addr} {H : Hp} {a : Addr} {o : HO} (h : H a = none) : Keep R R H (L2.upd H a o) := by
  have k : ∀ b u, H b = some u → L2.upd H a o b = some u := fun b u e => by
    rw [upd_ne (ne_of_none e h)]
    exact e
  exact ⟨fun b xs e => k b _ e, fun b φ e => k b _ e, fun b u e n => ⟨k b u e, n⟩, fun b d u e => k b _ e⟩
theorem Keep.cell {R : List Addr} {H : Hp} {a : Addr} {o : HO} (h : H a = none) : Keep R (R ++ [a]) H (L2.upd H a o) := by
  have k : ∀ b u, H b = some u → L2.upd H a o b = some u := fun b u e => by
    rw [upd_ne (ne_of_none e h)]
    exact e
  refine ⟨fun b xs e => k b _ e, fun b φ e => k b _ e, fun b u e n => ⟨k b u e, fun z => ?_⟩, fun b d u e => k b _ e⟩
  rcases List.mem_append.mp z with z | z
  · exact n z
  · exact ne_of_none e h (by simpa using z)
theorem TupAt.keep {K : PySem.W.Frag} {R R' : List Addr} {H H' : Hp} {a : Addr} {xs : List V} (h : TupAt K H a xs) (k : Keep R R' H H') : TupAt K H' a xs := by
  rcases h with h | h
  · exact .inl (k.tup _ _ h)
  · exact .inr h
theorem pre_get {R R' : List Addr} (p : R <+: R') {n : Nat} {a : Addr} (h : R[n]? = some a) : R'[n]? = some a := by
  obtain ⟨t, rfl⟩ := p
  have hn : n < R.length := (List.getElem?_eq_some_iff.mp h).1
  rw [List.getElem?_append_left hn]
  exact h
structure Stay (H H' : Hp) : Prop where
  tup : ∀ a xs, H a = some (.tup xs) → H' a = some (.tup xs)
  ext : ∀ a φ, H a = some (.ext φ) → H' a = some (.ext φ)
theorem Stay.refl (H : Hp) : Stay H H := ⟨fun _ _ h => h, fun _ _ h => h⟩
theorem Keep.st {R R' : List Addr} {H H' : Hp} (k : Keep R R' H H') : Stay H H' := ⟨k.tup, k.ext⟩
theorem TupAt.stay {K : PySem.W.Frag} {H H' : Hp} {a : Addr} {xs : List V} (h : TupAt K H a xs) (k : Stay H H') : TupAt K H' a xs := by
  rcases h with h | h
  · exact .inl (k.tup _ _ h)
  · exact .inr h
mutual
theorem Rel.stay {T : Tb} {R R' : List Addr} {H H' : Hp} (p : R <+: R') (k : Stay H H') : ∀ {x : Val} {v : V}, Rel T R H x v → Rel T R' H' x v
  | _, _, .non => .non
  | _, _, .bl b => .bl b
  | _, _, .int i => .int i
  | _, _, .str s => .str s
  | _, _, .tup h r => .tup (h.stay k) (Rels.stay p k r)
  | _, _, .ref h => .ref (pre_get p h)
  | _, _, .exc m h => .exc m (k.ext _ _ h)
theorem Rels.stay {T : Tb} {R R' : List Addr} {H H' : Hp} (p : R <+: R') (k : Stay H H') : ∀ {xs : List Val} {vs : List V}, Rels T R H xs vs → Rels T R' H' xs vs
  | _, _, .nil => .nil
  | _, _, .cons h r => .cons (Rel.stay p k h) (Rels.stay p k r)
end
theorem Rel.mono {T : Tb} {R R' : List Addr} {H H' : Hp} (p : R <+: R') (k : Keep R R' H H') {x : Val} {v : V} (h : Rel T R H x v) : Rel T R' H' x v := h.stay p k.st
theorem Rels.mono {T : Tb} {R R' : List Addr} {H H' : Hp} (p : R <+: R') (k : Keep R R' H H') {xs : List Val} {vs : List V} (h : Rels T R H xs vs) : Rels T R' H' xs vs := h.stay p k.st
theorem Rels.length {T : Tb} {R : List Addr} {H : Hp} : ∀ {xs : List Val} {vs : List V}, Rels T R H xs vs → xs.length = vs.length
  | _, _, .nil => rfl
  | _, _, .cons _ r => congrArg Nat.succ (Rels.length r)
theorem Rels.get {T : Tb} {R : List Addr} {H : Hp} : ∀ {xs : List Val} {vs : List V} {i : Nat} {x : Val}, Rels T R H xs vs → xs[i]? = some x → ∃ v, vs[i]? = some v ∧ Rel T R H x v
  | _, _, _, _, .nil, e => by cases e
  | _, _, 0, _, .cons h _, e => by
    cases e
    exact ⟨_, rfl, h⟩
  | _, _, i + 1, _, .cons _ r, e => Rels.get (i := i) r e
theorem Rels.append {T : Tb} {R : List Addr} {H : Hp} : ∀ {xs ys : List Val} {vs ws : List V}, Rels T R H xs vs → Rels T R H ys ws → Rels T R H (xs ++ ys) (vs ++ ws)
  | _, _, _, _, .nil, s => s
  | _, _, _, _, .cons h r, s => .cons h (Rels.append r s)
theorem Rels.set {T : Tb} {R : List Addr} {H : Hp} {x : Val} {v : V} (q : Rel T R H x v) : ∀ {xs : List Val} {vs : List V} (i : Nat), Rels T R H xs vs → Rels T R H (xs.set i x) (vs.set i v)
  | _, _, _, .nil => .nil
  | _, _, 0, .cons _ r => .cons q r
  | _, _, i + 1, .cons h r => .cons h (Rels.set q i r)
def keyOf : Val → Option Key
  | .int i => some (.inl i)
  | .str s => some (.inr (sOf s))
  | _ => none
inductive RelK (T : Tb) (R : List Addr) (H : Hp) : List (Val × Val) → List (Key × V) → Prop
  | nil : RelK T R H [] []
  | cons {k x : Val} {q : Key} {v : V} {xs : List (Val × Val)} {vs : List (Key × V)} : keyOf k = some q → Rel T R H x v → RelK T R H xs vs → RelK T R H ((k, x) :: xs) ((q, v) :: vs)
theorem RelK.stay {T : Tb} {R R' : List Addr} {H H' : Hp} (p : R <+: R') (k : Stay H H') : ∀ {xs : List (Val × Val)} {vs : List (Key × V)}, RelK T R H xs vs → RelK T R' H' xs vs
  | _, _, .nil => .nil
  | _, _, .cons e h r => .cons e (h.stay p k) (RelK.stay p k r)
inductive RelF (T : Tb) (R : List Addr) (H : Hp) : List (String × Val) → List (Str × V) → Prop
  | nil : RelF T R H [] []
  | cons {f : String} {x : Val} {v : V} {xs : List (String × Val)} {vs : List (Str × V)} : Rel T R H x v → RelF T R H xs vs → RelF T R H ((f, x) :: xs) ((Str.ofString f, v) :: vs)
theorem RelF.stay {T : Tb} {R R' : List Addr} {H H' : Hp} (p : R <+: R') (k : Stay H H') : ∀ {xs : List (String × Val)} {vs : List (Str × V)}, RelF T R H xs vs → RelF T R' H' xs vs
  | _, _, .nil => .nil
  | _, _, .cons h r => .cons (h.stay p k) (RelF.stay p k r)
def CellAt (T : Tb) (R : List Addr) (H : Hp) (a : Addr) : Cell → Prop
  | .lst xs => ∃ vs, H a = some (.lst vs) ∧ Rels T R H xs vs
  | .ro xs => ∃ o vs, H a = some (.frz o (.lst vs)) ∧ Rels T R H xs vs
  | .dic kvs => ∃ vs, H a = some (.dK vs) ∧ RelK T R H kvs vs
  | .rod kvs => ∃ o vs, H a = some (.frz o (.dK vs)) ∧ RelK T R H kvs vs
  | .obj c fs => ∃ dx vs, H a = some (.ins (T.ca c) dx vs) ∧ RelF T R H fs vs
theorem CellAt.stay {T : Tb} {R R' : List Addr} {H H' : Hp} {a : Addr} (p : R <+: R') (k : Stay H H') (e : H' a = H a) : ∀ {c : Cell}, CellAt T R H a c → CellAt T R' H' a c
  | .lst _, ⟨vs, h, r⟩ => ⟨vs, e.trans h, r.stay p k⟩
  | .ro _, ⟨o, vs, h, r⟩ => ⟨o, vs, e.trans h, r.stay p k⟩
  | .dic _, ⟨vs, h, r⟩ => ⟨vs, e.trans h, r.stay p k⟩
  | .rod _, ⟨o, vs, h, r⟩ => ⟨o, vs, e.trans h, r.stay p k⟩
  | .obj _ _, ⟨dx, vs, h, r⟩ => ⟨dx, vs, e.trans h, r.stay p k⟩
theorem CellAt.mono {T : Tb} {R R' : List Addr} {H H' : Hp} {a : Addr} (p : R <+: R') (k : Keep R R' H H') (e : H' a = H a) {c : Cell} (h : CellAt T R H a c) : CellAt T R' H' a c := h.stay p k.st e
theorem CellAt.some {T : Tb} {R : List Addr} {H : Hp} {a : Addr} : ∀ {c : Cell}, CellAt T R H a c → ∃ o, H a = some o ∧ (∀ xs, o ≠ .tup xs) ∧ ∀ φ, o ≠ .ext φ
  | .lst _, ⟨vs, h, r⟩ => ⟨_, h, fun _ z => (by cases z), fun _ z => (by cases z)⟩
  | .ro _, ⟨o, vs, h, r⟩ => ⟨_, h, fun _ z => (by cases z), fun _ z => (by cases z)⟩
  | .dic _, ⟨vs, h, r⟩ => ⟨_, h, fun _ z => (by cases z), fun _ z => (by cases z)⟩
  | .rod _, ⟨o, vs, h, r⟩ => ⟨_, h, fun _ z => (by cases z), fun _ z => (by cases z)⟩
  | .obj _ _, ⟨dx, vs, h, r⟩ => ⟨_, h, fun _ z => (by cases z), fun _ z => (by cases z)⟩
structure Sim (T : Tb) (R : List Addr) (H : Hp) (M : Store) : Prop where
  len : R.length = M.length
  nd : R.Nodup
  cell : ∀ (n : Nat) (a : Addr) (c : Cell), R[n]? = some a → M[n]? = some c → CellAt T R H a c
section
variable {T : Tb} {R R' : List Addr} {H H' : Hp} {M M' : Store}
theorem Sim.at (S : Sim T R H M) {n : Nat} {c : Cell} (h : M[n]? = some c) : ∃ a, R[n]? = some a ∧ CellAt T R H a c := by
  have hn : n < R.length := by
    rw [S.len]
    exact (List.getElem?_eq_some_iff.mp h).1
  exact ⟨R[n], List.getElem?_eq_getElem hn, S.cell n _ c (List.getElem?_eq_getElem hn) h⟩
theorem Sim.of (S : Sim T R H M) {n : Nat} {a : Addr} (h : R[n]? = some a) : ∃ c, M[n]? = some c ∧ CellAt T R H a c := by
  have hn : n < M.length := by
    rw [← S.len]
    exact (List.getElem?_eq_some_iff.mp h).1
  exact ⟨M[n], List.getElem?_eq_getElem hn, S.cell n _ _ h (List.getElem?_eq_getElem hn)⟩
theorem Sim.inj (S : Sim T R H M) {m n : Nat} {a : Addr} (h : R[m]? = some a) (h' : R[n]? = some a) : m = n := by
  obtain ⟨h1, e1⟩ := List.getElem?_eq_some_iff.mp h
  obtain ⟨h2, e2⟩ := List.getElem?_eq_some_iff.mp h'
  exact (List.getElem_inj S.nd).mp (e1.trans e2.symm)
theorem Sim.stay (S : Sim T R H M) (k : Stay H H') (e : ∀ (n : Nat) (a : Addr), R[n]? = some a → H' a = H a) : Sim T R H' M :=
  ⟨S.len, S.nd, fun n a c h1 h2 => (S.cell n a c h1 h2).stay (List.prefix_refl R) k (e n a h1)⟩
theorem Sim.keep (S : Sim T R H M) (k : Keep R R H H') (e : ∀ (n : Nat) (a : Addr), R[n]? = some a → H' a = H a) : Sim T R H' M := S.stay k.st e
theorem Sim.other (S : Sim T R H M) {p : Addr} {o : HO} (hp : H p = none) : Sim T R (upd H p o) M :=
  S.keep (Keep.new hp) fun n a h => by
    obtain ⟨c, _, hc⟩ := S.of h
    obtain ⟨u, hu, _⟩ := hc.some
    rw [upd_ne (ne_of_none hu hp)]
theorem Sim.new (S : Sim T R H M) {p : Addr} {o : HO} {c : Cell} (hp : H p = none) (hc : CellAt T (R ++ [p]) (upd H p o) p c) : Sim T (R ++ [p]) (upd H p o) (M ++ [c]) := by
  have np : ∀ (n : Nat) (a : Addr), R[n]? = some a → a ≠ p := fun n a h => by
    obtain ⟨c, _, hc⟩ := S.of h
    obtain ⟨u, hu, _⟩ := hc.some
    exact ne_of_none hu hp
  refine ⟨by rw [List.length_append, List.length_append, S.len]; rfl, ?_, fun n a d h1 h2 => ?_⟩
  · rw [List.nodup_append]
    refine ⟨S.nd, by simp, fun a ha b hb z => ?_⟩
    obtain ⟨n, hn, e⟩ := List.mem_iff_getElem.mp ha
    have hb : b = p := by simpa using hb
    exact np n a (by rw [List.getElem?_eq_getElem hn, e]) (z.trans hb)
  · by_cases hn : n < R.length
    · rw [List.getElem?_append_left hn] at h1
      rw [List.getElem?_append_left (by rw [← S.len]; exact hn)] at h2
      exact (S.cell n a d h1 h2).mono (List.prefix_append R [p]) (Keep.cell hp) (upd_ne (np n a h1))
    · have hl : n < (R ++ [p]).length := (List.getElem?_eq_some_iff.mp h1).1
      rw [List.length_append] at hl
      have en : n = R.length := by
        have : [p].length = 1 := rfl
        omega
      subst en
      rw [List.getElem?_append_right (Nat.le_refl _), Nat.sub_self] at h1
      rw [S.len, List.getElem?_append_right (Nat.le_refl _), Nat.sub_self] at h2
      cases h1
      cases h2
      exact hc
theorem Sim.adopt (S : Sim T R H M) {p : Addr} {c : Cell} (np : p ∉ R) (hc : CellAt T R H p c) : Sim T (R ++ [p]) H (M ++ [c]) := by
  have g : R <+: R ++ [p] := List.prefix_append R [p]
  refine ⟨by rw [List.length_append, List.length_append, S.len]; rfl, ?_, fun n a d h1 h2 => ?_⟩
  · rw [List.nodup_append]
    refine ⟨S.nd, by simp, fun a ha b hb z => ?_⟩
    have hb : b = p := by simpa using hb
    exact np (by rw [← hb, ← z]; exact ha)
  · by_cases hn : n < R.length
    · rw [List.getElem?_append_left hn] at h1
      rw [List.getElem?_append_left (by rw [← S.len]; exact hn)] at h2
      exact (S.cell n a d h1 h2).stay g (Stay.refl H) rfl
    · have hl : n < (R ++ [p]).length := (List.getElem?_eq_some_iff.mp h1).1
      rw [List.length_append] at hl
      have en : n = R.length := by
        have : [p].length = 1 := rfl
        omega
      subst en
      rw [List.getElem?_append_right (Nat.le_refl _), Nat.sub_self] at h1
      rw [S.len, List.getElem?_append_right (Nat.le_refl _), Nat.sub_self] at h2
      cases h1
      cases h2
      exact hc.stay g (Stay.refl H) rfl
theorem Sim.mem (S : Sim T R H M) {p : Addr} (hp : H p = none) : p ∉ R := fun m => by
  obtain ⟨n, hn⟩ := List.mem_iff_getElem?.mp m
  obtain ⟨c, _, hc⟩ := S.of hn
  obtain ⟨u, hu, _⟩ := hc.some
  rw [hp] at hu
  cases hu
def Wr : Cell → Bool
  | .ro _ => false
  | .rod _ => false
  | _ => true
theorem wr_nofz {T : Tb} {R : List Addr} {H : Hp} {a : Addr} {c : Cell} (h : CellAt T R H a c) (w : Wr c = true) : ∀ d u, H a ≠ some (.frz d u) := fun d u e => by
  cases c with
  | ro => cases w
  | rod => cases w
  | lst xs =>
    obtain ⟨vs, h, _⟩ := h
    rw [h] at e
    cases e
  | dic xs =>
    obtain ⟨vs, h, _⟩ := h
    rw [h] at e
    cases e
  | obj cn fs =>
    obtain ⟨dx, vs, h, _⟩ := h
    rw [h] at e
    cases e
theorem Sim.write (S : Sim T R H M) {n : Nat} {p : Addr} {o : HO} {c c0 : Cell} (hn : R[n]? = some p) (h0 : M[n]? = some c0) (w0 : Wr c0 = true) (hc : CellAt T R (upd H p o) p c) : Sim T R (upd H p o) (M.set n c) ∧ Keep R R H (upd H p o) := by
  have hd := S.cell n p c0 hn h0
  obtain ⟨u, hu, u1, u2⟩ := hd.some
  have k : Keep R R H (upd H p o) := Keep.upd (List.mem_of_getElem? hn) ⟨fun xs e => u1 xs (Option.some.inj (hu.symm.trans e)), fun φ e => u2 φ (Option.some.inj (hu.symm.trans e))⟩ (wr_nofz hd w0)
  refine ⟨⟨by rw [List.length_set]; exact S.len, S.nd, fun m a d h1 h2 => ?_⟩, k⟩
  by_cases e : m = n
  · subst e
    have hl : m < M.length := by
      rw [← S.len]
      exact (List.getElem?_eq_some_iff.mp hn).1
    rw [List.getElem?_set_self hl] at h2
    cases h2
    rw [hn] at h1
    cases h1
    exact hc
  · rw [List.getElem?_set_ne (Ne.symm e)] at h2
    exact (S.cell m a d h1 h2).mono (List.prefix_refl R) k (upd_ne fun z => e (S.inj h1 (show R[n]? = some a by rw [z]; exact hn)))
end
def EnvR (T : Tb) (R : List Addr) (H : Hp) (ρ : Mn.Env) (σ : L2.St) : Prop := ρ.length = σ.length ∧ ∀ (i : Nat) (v : Val), ρ[i]? = some (some v) → ∃ w, σ[i]? = some (some w) ∧ Rel T R H v w
theorem EnvR.mono {T : Tb} {R R' : List Addr} {H H' : Hp} {ρ : Mn.Env} {σ : L2.St} (h : EnvR T R H ρ σ) (p : R <+: R') (k : Keep R R' H H') : EnvR T R' H' ρ σ :=
  ⟨h.1, fun i v e => let ⟨w, e1, r⟩ := h.2 i v e; ⟨w, e1, r.mono p k⟩⟩
theorem EnvR.set {T : Tb} {R : List Addr} {H : Hp} {ρ : Mn.Env} {σ : L2.St} (h : EnvR T R H ρ σ) {v : Val} {w : V} (r : Rel T R H v w) (i : Nat) : EnvR T R H (ρ.set i (some v)) (σ.set i (some w)) := by
  refine ⟨by rw [List.length_set, List.length_set]; exact h.1, fun j u e => ?_⟩
  by_cases hj : i = j
  · subst hj
    by_cases hi : i < ρ.length
    · rw [List.getElem?_set_self hi] at e
      cases e
      exact ⟨w, List.getElem?_set_self (by rw [← h.1]; exact hi), r⟩
    · rw [List.getElem?_eq_none (by rw [List.length_set]; omega)] at e
      cases e
  · rw [List.getElem?_set_ne hj] at e ⊢
    exact h.2 j u e
def Post (T : Tb) (W : XK) (R : List Addr) (H : Hp) (Q : VK) : Mn.R Val → Prop
  | .ok v M => ∀ R' H' w, R <+: R' → Keep R R' H H' → Sim T R' H' M → Rel T R' H' v w → Q w H'
  | .exc c M => c ∈ T.xs → ∀ R' H', R <+: R' → Keep R R' H H' → Sim T R' H' M → W (.ref (T.ca c)) none H'
  | .bad => False
def PostL (T : Tb) (W : XK) (R : List Addr) (H : Hp) (Q : List V → Hp → Prop) : Mn.R (List Val) → Prop
  | .ok v M => ∀ R' H' w, R <+: R' → Keep R R' H H' → Sim T R' H' M → Rels T R' H' v w → Q w H'
  | .exc c M => c ∈ T.xs → ∀ R' H', R <+: R' → Keep R R' H H' → Sim T R' H' M → W (.ref (T.ca c)) none H'
  | .bad => False
def PostB (T : Tb) (W : XK) (R : List Addr) (H : Hp) (Q : Bool → Hp → Prop) : Mn.R Val → Prop
  | .ok (.bl b) M => ∀ R' H', R <+: R' → Keep R R' H H' → Sim T R' H' M → Q b H'
  | .ok _ _ => False
  | .exc c M => c ∈ T.xs → ∀ R' H', R <+: R' → Keep R R' H H' → Sim T R' H' M → W (.ref (T.ca c)) none H'
  | .bad => False
abbrev at_ (W : WX) (σ : L2.St) : XK := fun cls d H => W cls d σ H
def rdE (T : Tb) (W : WX) (f : E) : TE := fun σ H Q => ∃ R ρ M, EnvR T R H ρ σ ∧ Sim T R H M ∧ Post T (at_ W σ) R H Q (f ρ M)
def rdT (T : Tb) (W : WX) (f : E) : TT := fun σ H Q => ∃ R ρ M, EnvR T R H ρ σ ∧ Sim T R H M ∧ PostB T (at_ W σ) R H Q (f ρ M)
def rdA (T : Tb) (W : WX) (fs : List E) : TA := fun σ H Q => ∃ R ρ M, EnvR T R H ρ σ ∧ Sim T R H M ∧ PostL T (at_ W σ) R H Q (Mn.evL fs ρ M)
def rdO (T : Tb) (f : Op) : R2 := fun x y H Q => ∃ R M u v, Sim T R H M ∧ Rel T R H u x ∧ Rel T R H v y ∧ Post T (fun _ _ _ => False) R H Q (Mn.R.of (f u v M))
def rdU (T : Tb) (f : U) : V → Hp → VK → Prop := fun x H Q => ∃ R M u, Sim T R H M ∧ Rel T R H u x ∧ Post T (fun _ _ _ => False) R H Q (Mn.R.of (f u M))
section
variable {T : Tb} {W : WX} {W' : XK} {R R' : List Addr} {H H' : Hp} {Q Q' : VK}
theorem Post.imp {r : Mn.R Val} (h : Post T W' R H Q r) (p : R <+: R') (k : Keep R R' H H') (q : ∀ w H1, Q w H1 → Q' w H1) : Post T W' R' H' Q' r := by
  cases r with
  | ok v M => exact fun R2 H2 w p2 k2 s2 r2 => q _ _ (h R2 H2 w (p.trans p2) (k.trans k2) s2 r2)
  | exc c M => exact fun hc R2 H2 p2 k2 s2 => h hc R2 H2 (p.trans p2) (k.trans k2) s2
  | bad => exact h
theorem Post.bind {r : Mn.R Val} {f : Val → Store → Mn.R Val} (h : Post T W' R H Q (r.bind f)) :
    Post T W' R H (fun x H1 => ∃ R1 M1 v, R <+: R1 ∧ Keep R R1 H H1 ∧ Sim T R1 H1 M1 ∧ Rel T R1 H1 v x ∧ Post T W' R1 H1 Q (f v M1)) r := by
  cases r with
  | ok v M => exact fun R1 H1 w p1 k1 s1 r1 => ⟨R1, M, v, p1, k1, s1, r1, Post.imp (r := f v M) h p1 k1 fun _ _ q => q⟩
  | exc c M => exact h
  | bad => exact h
theorem Post.bindL {r : Mn.R (List Val)} {f : List Val → Store → Mn.R Val} (h : Post T W' R H Q (r.bind f)) :
    PostL T W' R H (fun x H1 => ∃ R1 M1 v, R <+: R1 ∧ Keep R R1 H H1 ∧ Sim T R1 H1 M1 ∧ Rels T R1 H1 v x ∧ Post T W' R1 H1 Q (f v M1)) r := by
  cases r with
  | ok v M => exact fun R1 H1 w p1 k1 s1 r1 => ⟨R1, M, v, p1, k1, s1, r1, Post.imp (r := f v M) h p1 k1 fun _ _ q => q⟩
  | exc c M => exact h
  | bad => exact h
theorem rdE_bind {a : E} {f : Val → Store → Mn.R Val} {ρ : Mn.Env} {M : Store} {σ : L2.St} (e : EnvR T R H ρ σ) (s : Sim T R H M) (h : Post T (at_ W σ) R H Q ((a ρ M).bind f)) :
    rdE T W a σ H fun x H1 => ∃ R1 M1 v, EnvR T R1 H1 ρ σ ∧ Sim T R1 H1 M1 ∧ Rel T R1 H1 v x ∧ R <+: R1 ∧ Keep R R1 H H1 ∧ Post T (at_ W σ) R1 H1 Q (f v M1) :=
  ⟨R, ρ, M, e, s, h.bind.imp (List.prefix_refl R) (Keep.refl H) fun _ _ ⟨R1, M1, v, p1, k1, s1, r1, q⟩ => ⟨R1, M1, v, e.mono p1 k1, s1, r1, p1, k1, q⟩⟩
theorem of_noexc {o : Mn.P} (h : Post T W' R H Q (Mn.R.of o)) : Post T (fun _ _ _ => False) R H Q (Mn.R.of o) := by
  cases o with
  | none => exact h
  | some q => exact h
end
theorem PE.imp {X : Cx} {e : Expr} {t t' : TE} (h : PE X e t) (i : ∀ σ H Q, t' σ H Q → t σ H Q) : PE X e t' := ⟨fun pins s σ H Q I q => h.run pins s σ H Q I (i σ H Q q)⟩
theorem PT.imp {X : Cx} {e : Expr} {t t' : TT} (h : PT X e t) (i : ∀ σ H Q, t' σ H Q → t σ H Q) : PT X e t' := ⟨fun pins s σ H Q I q => h.run pins s σ H Q I (i σ H Q q)⟩
theorem PA.imp {X : Cx} {e : List Expr} {t t' : TA} (h : PA X e t) (i : ∀ σ H Q, t' σ H Q → t σ H Q) : PA X e t' := ⟨fun pos pins s σ H Q I q => h.run pos pins s σ H Q I (i σ H Q q)⟩
theorem PS.imp {X : Cx} {e : Stmt} {t t' : TS} (h : PS X e t) (i : ∀ σ H Q, t' Q σ H → t Q σ H) : PS X e t' := ⟨fun pins s σ H Q I q => h.run pins s σ H Q I (i σ H Q q)⟩
theorem PSs.imp {X : Cx} {e : List Stmt} {t t' : TS} (h : PSs X e t) (i : ∀ σ H Q, t' Q σ H → t Q σ H) : PSs X e t' := ⟨fun pins s σ H Q I q => h.run pins s σ H Q I (i σ H Q q)⟩
section
variable {X : Cx} {T : Tb} {W : WX} {a b c : Expr} {fa fb fc : E} {pos : Pos}
theorem s_var {i : Nat} (h : PE X a (tVar i)) : PE X a (rdE T W (Mn.eVar i)) := PE.imp h fun σ H Q ⟨R, ρ, M, e, s, p⟩ => by
  unfold Mn.eVar at p
  split at p
  · rename_i v hv
    obtain ⟨w, e1, r⟩ := e.2 i v hv
    exact ⟨w, e1, p R H w (List.prefix_refl R) (Keep.refl H) s r⟩
  · exact p.elim
theorem s_con {v : Val} {w : V} (h : PE X a (tC w)) (r : ∀ R H, Rel T R H v w) : PE X a (rdE T W (Mn.eC v)) := PE.imp h fun σ H Q ⟨R, ρ, M, e, s, p⟩ => p R H w (List.prefix_refl R) (Keep.refl H) s (r R H)
theorem bin_rd {f : Op} : ∀ σ H Q, rdE T W (Mn.eBin f fa fb) σ H Q → tOp (rdO T f) (rdE T W fa) (rdE T W fb) σ H Q := fun σ H Q ⟨R, ρ, M, e, s, p⟩ => by
  obtain ⟨R0, ρ0, M0, e0, s0, p0⟩ := rdE_bind e s p
  refine ⟨R0, ρ0, M0, e0, s0, p0.imp (List.prefix_refl _) (Keep.refl _) fun x H1 ⟨R1, M1, v, e1, s1, r1, pr1, k1, q⟩ => ?_⟩
  obtain ⟨R2, ρ2, M2, e2, s2, p2⟩ := rdE_bind e1 s1 q
  exact ⟨R2, ρ2, M2, e2, s2, p2.imp (List.prefix_refl _) (Keep.refl _) fun y H2 ⟨R3, M3, u, e3, s3, r3, pr3, k3, q3⟩ => ⟨R3, M3, v, u, s3, r1.mono pr3 k3, r3, of_noexc q3⟩⟩
theorem s_bin {op : Operator} {f : Op} (ho : OpR X (binaryOp op) (rdO T f)) (ha : PE X a (rdE T W fa)) (hb : PE X b (rdE T W fb)) : PE X (.BinOp a op b pos) (rdE T W (Mn.eBin f fa fb)) :=
  PE.imp (pe_op ho ha hb) bin_rd
theorem s_cmp {op : CmpOp} {f : Op} (ho : OpR X (compareOp op) (rdO T f)) (ha : PE X a (rdE T W fa)) (hb : PE X b (rdE T W fb)) (hm : behindInMarks op b = false) : PE X (.Compare a [op] [b] pos) (rdE T W (Mn.eBin f fa fb)) :=
  PE.imp (pe_cmpR ho ha hb hm) bin_rd
theorem un_rd {f : U} : ∀ σ H Q, rdE T W (Mn.eUn f fa) σ H Q → tUn (rdU T f) (rdE T W fa) σ H Q := fun σ H Q ⟨R, ρ, M, e, s, p⟩ => by
  obtain ⟨R0, ρ0, M0, e0, s0, p0⟩ := rdE_bind e s p
  exact ⟨R0, ρ0, M0, e0, s0, p0.imp (List.prefix_refl _) (Keep.refl _) fun x H1 ⟨R1, M1, v, e1, s1, r1, pr1, k1, q⟩ => ⟨R1, M1, v, s1, r1, of_noexc q⟩⟩
theorem s_un {op : UnaryOp} {f : U} (ho : UnR X (unaryOp op) (rdU T f)) (ha : PE X a (rdE T W fa)) : PE X (.UnaryOp op a pos) (rdE T W (Mn.eUn f fa)) := PE.imp (pe_un ho ha) un_rd
end
end MnS
end
section
set_option Elab.async false
set_option autoImplicit false
set_option linter.all false
set_option maxRecDepth 100000
namespace L2
open PySem PySem.Spec PyProof.Rows
section
variable {X : Cx} {pins : List (Addr × Obj)} {σ : St} {H : Hp} {s : Shared}
theorem dict0_any {prog prog' : Program} {w w' : World} {h : Heap} {a : Addr} (d : h.DictOf (mixKind prog w) a []) : h.DictOf (mixKind prog' w') a [] := by
  obtain ⟨o, es, ep, h1, h2, h3, h4, h5, h6⟩ := d
  have e : es = #[] := by
    have := h5.length
    simpa using this
  subst e
  exact ⟨o, #[], ep, h1, h2, h3, fun x hx => by simp at hx, by
    have : (#[] : Array DictEntry).toList = [] := rfl
    rw [this]
    exact .nil, h6⟩
theorem eqAt_dict0 {A : Around} (I : Inv X pins σ H s) (hu : A.units < cLine) {a b : Addr} (ha : H a = some (.dK [])) (hb : H b = some (.dK [])) : SeqAt.EqAt A s (.ref a) (.ref b) true := by
  by_cases e : a = b
  · subst e
    exact SeqAt.EqAt.same _
  · refine SeqAt.EqAt.of_refs e fun prog w E Q q => ?_
    obtain ⟨_, ya, va, ra, da⟩ := (show ObjOk X.prog X.w H s.heap a (.dK []) from I.hok a _ ha)
    obtain ⟨_, yb, vb, rb, db⟩ := (show ObjOk X.prog X.w H s.heap b (.dK []) from I.hok b _ hb)
    cases ra
    cases rb
    exact PySem.W.rcP_dicts (knd := mixKind prog w) (r := true) ya yb (dict0_any da) (dict0_any db) hu (fun _ => .nil) E Q q
def EqLk (K : PySem.W.Frag) (H : Hp) (x y : V) : Prop :=
  (∃ d e, Dp K H x d ∧ Dp K H y e ∧ d.canLay0 = true ∧ e.canLay0 = true ∧ d.depth ≤ 62 ∧ PyData.eqv d e = true) ∨ ∃ a b, x = .ref a ∧ y = .ref b ∧ H a = some (.dK []) ∧ H b = some (.dK [])
theorem eqLk_at {A : Around} (I : Inv X pins σ H s) (hu : A.units + 62 < cLine) {x y : V} {v u : Value} (h : EqLk X.K H x y) (rx : RelV x v) (ry : RelV y u) : SeqAt.EqAt A s v u true := by
  rcases h with ⟨d, e, h1, h2, c1, c2, p, q⟩ | ⟨a, b, rfl, rfl, ha, hb⟩
  · obtain ⟨as, r1⟩ := Dp.reads I d x v h1 rx
    obtain ⟨bs, r2⟩ := Dp.reads I e y u h2 ry
    have := SeqAt.eqAt_reads d e A s v u as bs r1 r2 c1 c2 (by have : min d.depth e.depth ≤ d.depth := Nat.min_le_left _ _; omega)
    rw [q] at this
    exact this
  · obtain rfl : v = Value.ref a := rx
    obtain rfl : u = Value.ref b := ry
    exact eqAt_dict0 I (by omega) ha hb
theorem items_lk {A : Around} (I : Inv X pins σ H s) (hu : A.units + 62 < cLine) {xs ys : List V} (hp : Paired (EqLk X.K H) xs ys) :
    ∀ {us ws : List Value}, Vals xs us → Vals ys ws → ∀ j (h1 : j < us.length) (h2 : j < ws.length), SeqAt.EqAt A s us[j] ws[j] true := by
  induction hp with
  | nil =>
    intro us ws r1 r2 j h1 h2
    cases r1
    exact absurd h1 (Nat.not_lt_zero j)
  | cons h _ k =>
    intro us ws r1 r2 j h1 h2
    cases r1 with
    | cons a1 b1 =>
      cases r2 with
      | cons a2 b2 =>
        cases j with
        | zero => exact eqLk_at I hu h a1 a2
        | succ j => exact k b1 b2 j (Nat.lt_of_succ_lt_succ h1) (Nat.lt_of_succ_lt_succ h2)
end
section
variable {X : Cx}
def rNeLk (K : PySem.W.Frag) : R2 := fun x y H Q => ∃ a b xs ys, x = .ref a ∧ y = .ref b ∧ SqL K H a xs ∧ SqL K H b ys ∧ Paired (EqLk K H) xs ys ∧ Q (.bl false) H
theorem op_neLk (hu : X.A.units + 64 < cLine) : OpR X (compareOp .NotEq) (rNeLk X.K) := by
  intro pins s σ H x y v u Q I rx ry h
  obtain ⟨a, b, xs, ys, rfl, rfl, ha, hb, hp, q⟩ := h
  obtain rfl : v = Value.ref a := rx
  obtain rfl : u = Value.ref b := ry
  obtain ⟨us, r1, p1, _⟩ := I.list ha
  obtain ⟨ws, r2, p2, _⟩ := I.list hb
  have hsz : us.toArray.size = ws.toArray.size := by
    rw [List.size_toArray, List.size_toArray, ← r1.length, ← r2.length]
    exact Paired.length hp
  have k := SeqAt.RcNeAt.lists (A := X.A) (e := fun _ => true) p1.isList p2.isList hsz (by omega) (fun j h1 h2 => by
    have k := items_lk (A := X.A.in1) I (by show X.A.units + 1 + 62 < cLine; omega) hp r1 r2 j (by simpa using h1) (by simpa using h2)
    simpa using k)
  rw [show ((List.range us.toArray.size).all fun _ => true) = true from List.all_eq_true.mpr fun _ _ => rfl] at k
  exact k X.prog X.w _ _ ⟨.bl false, H, I, rfl, q⟩
end
end L2
end
section
set_option Elab.async false
set_option autoImplicit false
set_option linter.all false
set_option maxRecDepth 100000
set_option maxHeartbeats 1000000
namespace MnS
open PySem PySem.Spec PyProof.Rows L2
open Mn (Val Cell Store E Fn Op U Itr Src Tg)
section
variable {T : Tb} {W : WX} {W' : XK} {R R' : List Addr} {H H' : Hp} {Q Q' : VK} {M : Store}
theorem szLine_eq : Mn.szLine = sizeLine := by
  rw [sizeLine_eq]
  rfl
theorem Sim.lst (S : Sim T R H M) {n : Nat} {xs : List Val} (h : Mn.lstAt M n = some xs) : ∃ a vs, R[n]? = some a ∧ SqL T.K H a vs ∧ Rels T R H xs vs := by
  unfold Mn.lstAt at h
  split at h
  · rename_i ys e
    cases h
    obtain ⟨a, ha, vs, h1, h2⟩ := S.at e
    exact ⟨a, vs, ha, .inl (.inl h1), h2⟩
  · rename_i ys e
    cases h
    obtain ⟨a, ha, o, vs, h1, h2⟩ := S.at e
    exact ⟨a, vs, ha, .inl (.inr ⟨o, h1⟩), h2⟩
  · cases h
theorem post_ok {v : Val} {w : V} (S : Sim T R H M) (h : Post T W' R H Q (.ok v M)) (r : Rel T R H v w) : Q w H := h R H w (List.prefix_refl R) (Keep.refl H) S r
theorem post_new {c : Cell} {p : Addr} {o : HO} (S : Sim T R H M) (h : Post T W' R H Q (Mn.R.of (Mn.alloc c M))) (hp : H p = none) (hc : CellAt T (R ++ [p]) (upd H p o) p c) : Q (.ref p) (upd H p o) := by
  refine h (R ++ [p]) (upd H p o) (.ref p) (List.prefix_append R [p]) (Keep.cell hp) (S.new hp hc) (.ref ?_)
  rw [← S.len, List.getElem?_append_right (Nat.le_refl _), Nat.sub_self]
  rfl
theorem new_lst {xs : List Val} {vs : List V} {p : Addr} (r : Rels T R H xs vs) (hp : H p = none) : CellAt T (R ++ [p]) (upd H p (.lst vs)) p (.lst xs) :=
  ⟨vs, upd_same, r.mono (List.prefix_append R [p]) (Keep.cell hp)⟩
theorem Rels.rep {xs : List Val} {vs : List V} (r : Rels T R H xs vs) : ∀ k : Nat, Rels T R H (List.replicate k xs).flatten (List.replicate k vs).flatten
  | 0 => .nil
  | k + 1 => by
    rw [List.replicate_succ, List.replicate_succ, List.flatten_cons, List.flatten_cons]
    exact r.append (Rels.rep r k)
theorem sOf_len (s : List Nat) : (sOf s).length = s.length := by simp [sOf, Str.length]
theorem sOf_add (x y : List Nat) : sOf x ++ sOf y = sOf (x ++ y) := by
  show Str.mk (x.toArray ++ y.toArray) = Str.mk (x ++ y).toArray
  rw [List.append_toArray]
theorem mulOk_of {i j : Int} (h : Mn.mulOk i j = true) : IntMulOk i j := by
  have b : ∀ x : Int, Builtin.Int.intBits x ≤ Mn.bits x := fun x => by
    unfold Builtin.Int.intBits Mn.bits
    split <;> split <;> simp_all
  unfold Mn.mulOk at h
  simp only [Bool.or_eq_true, decide_eq_true_eq] at h
  have b1 := b i
  have b2 := b j
  rcases h with (h | h) | h
  · exact .of_left (by omega)
  · exact .of_right (by omega)
  · unfold IntMulOk
    intro z
    rw [Bool.and_eq_true] at z
    have z2 := z.2
    unfold Builtin.Int.intTooBig at z2
    have z3 := of_decide_eq_true z2
    have e : bitsLine = 134217728 := bitsLine_eq
    rw [e] at z3
    omega
end
section
variable {X : Cx} {T : Tb}
theorem op_mulF : OpR X (binaryOp .Mult) (rI (fun i j => Mn.mulOk i j = true) fun i j => .int (i * j)) := opI fun _ _ _ _ _ _ _ hc q => mul_int q (mulOk_of hc)
theorem divOk_of {i j : Int} (h0 : j ≠ 0) (h : Mn.divOk i j = true) : Builtin.divisionGoesByPylong i j = false := by
  unfold Mn.divOk at h
  rw [Bool.or_eq_true, decide_eq_true_eq, decide_eq_true_eq] at h
  rcases h with h | h
  · exact PyProof.noPylong_of_log2 h
  · unfold Builtin.divisionGoesByPylong
    have e1 : (j == 0) = false := beq_eq_false_iff_ne.mpr h0
    simp only [e1, Bool.false_eq_true, if_false]
    have : ¬ ((if (i == 0) = true then 0 else i.natAbs.log2 / 30 + 1) > j.natAbs.log2 / 30 + 1 + 150) := by
      split <;> omega
    simp only [decide_eq_false this, Bool.and_false]
theorem op_divF : OpR X (binaryOp .FloorDiv) (rI (fun i j => j ≠ 0 ∧ Mn.divOk i j = true) fun i j => .int (i.fdiv j)) :=
  opI fun _ _ _ _ _ _ _ hc q => floordiv_int hc.1 q (.inl (divOk_of hc.1 hc.2))
theorem o_add (hK : X.K = T.K) : OpR X (binaryOp .Add) (rdO T Mn.oAdd) := by
  intro pins s σ H x y v u Q I rx ry ⟨R, M, a, b, S, ra, rb, p⟩
  unfold Mn.oAdd at p
  split at p
  · cases ra
    cases rb
    exact op_add pins s σ H _ _ v u Q I rx ry ⟨_, _, rfl, rfl, post_ok S p (.int _)⟩
  · cases ra
    cases rb
    split at p
    · rename_i hz
      refine op_add_str pins s σ H _ _ v u Q I rx ry ⟨_, _, rfl, rfl, by rw [sOf_len, sOf_len, ← szLine_eq]; exact hz, ?_⟩
      rw [sOf_add]
      exact post_ok S p (.str _)
    · exact p.elim
  · split at p
    · rename_i m n M' xs ys e1 e2
      split at p
      · rename_i hz
        cases ra with
        | ref q1 =>
          cases rb with
          | ref q2 =>
            obtain ⟨a1, z1, vs, h1, k1⟩ := S.at e1
            obtain ⟨a2, z2, ws, h2, k2⟩ := S.at e2
            rw [q1] at z1
            rw [q2] at z2
            cases z1
            cases z2
            refine op_cat pins s σ H _ _ v u Q I rx ry ⟨_, _, vs, ws, rfl, rfl, h1, h2, by rw [← k1.length, ← k2.length, ← szLine_eq]; exact hz, fun pp hp => ?_⟩
            exact post_new S p hp (new_lst (k1.append k2) hp)
      · exact p.elim
    · exact p.elim
  · split at p
    · rename_i xs ys M' hz
      cases ra with
      | tup h1 k1 =>
        cases rb with
        | tup h2 k2 =>
          refine op_catA pins s σ H _ _ v u Q I rx ry ⟨_, _, _, _, rfl, rfl, by rw [hK]; exact h1.sq, by rw [hK]; exact h2.sq, by rw [← k1.length, ← k2.length, ← szLine_eq]; exact hz, fun e => ?_, fun _ e => ?_, fun _ _ pp hp => ?_⟩
          · have l1 := k1.length
            rw [e] at l1
            have e1 := List.eq_nil_of_length_eq_zero l1
            rw [e1, List.nil_append] at p
            exact post_ok S p (.tup h2 k2)
          · have l2 := k2.length
            rw [e] at l2
            have e2 := List.eq_nil_of_length_eq_zero l2
            rw [e2, List.append_nil] at p
            exact post_ok S p (.tup h1 k1)
          · exact p R _ _ (List.prefix_refl R) (Keep.new hp) (S.other hp) (.tup (.inl upd_same) ((k1.append k2).mono (List.prefix_refl R) (Keep.new hp)))
    · exact p.elim
  · exact p.elim
theorem o_sub : OpR X (binaryOp .Sub) (rdO T Mn.oSub) := by
  intro pins s σ H x y v u Q I rx ry ⟨R, M, a, b, S, ra, rb, p⟩
  unfold Mn.oSub at p
  split at p
  · cases ra
    cases rb
    exact op_sub pins s σ H _ _ v u Q I rx ry ⟨_, _, rfl, rfl, post_ok S p (.int _)⟩
  · exact p.elim
theorem o_mul : OpR X (binaryOp .Mult) (rdO T Mn.oMul) := by
  intro pins s σ H x y v u Q I rx ry ⟨R, M, a, b, S, ra, rb, p⟩
  unfold Mn.oMul at p
  split at p
  · split at p
    · rename_i hc
      cases ra
      cases rb
      exact op_mulF pins s σ H _ _ v u Q I rx ry ⟨_, _, rfl, rfl, hc, post_ok S p (.int _)⟩
    · exact p.elim
  · split at p
    · rename_i n k M' xs e1
      split at p
      · rename_i hz
        cases ra with
        | ref q1 =>
          cases rb
          obtain ⟨a1, z1, vs, h1, k1⟩ := S.at e1
          rw [q1] at z1
          cases z1
          refine op_rep pins s σ H _ _ v u Q I rx ry ⟨_, k, vs, rfl, rfl, h1, hz.2.1, hz.2.2, by rw [← k1.length, ← szLine_eq]; exact hz.1, fun pp hp => ?_⟩
          exact post_new S p hp (new_lst (k1.rep _) hp)
      · exact p.elim
    · exact p.elim
  · exact p.elim
theorem o_div : OpR X (binaryOp .FloorDiv) (rdO T Mn.oDiv) := by
  intro pins s σ H x y v u Q I rx ry ⟨R, M, a, b, S, ra, rb, p⟩
  unfold Mn.oDiv at p
  split at p
  · split at p
    · rename_i hc
      cases ra
      cases rb
      exact op_divF pins s σ H _ _ v u Q I rx ry ⟨_, _, rfl, rfl, hc, post_ok S p (.int _)⟩
    · exact p.elim
  · exact p.elim
theorem o_mod : OpR X (binaryOp .Mod) (rdO T Mn.oMod) := by
  intro pins s σ H x y v u Q I rx ry ⟨R, M, a, b, S, ra, rb, p⟩
  unfold Mn.oMod at p
  split at p
  · split at p
    · rename_i hc
      cases ra
      cases rb
      exact op_modN pins s σ H _ _ v u Q I rx ry ⟨_, _, rfl, rfl, hc, post_ok S p (.int _)⟩
    · exact p.elim
  · exact p.elim
theorem o_pow : OpR X (binaryOp .Pow) (rdO T Mn.oPow) := by
  intro pins s σ H x y v u Q I rx ry ⟨R, M, a, b, S, ra, rb, p⟩
  unfold Mn.oPow at p
  split at p
  · split at p
    · rename_i hc
      cases ra
      cases rb
      exact op_pow pins s σ H _ _ v u Q I rx ry ⟨_, _, rfl, rfl, hc, post_ok S p (.int _)⟩
    · exact p.elim
  · exact p.elim
theorem o_neg : UnR X (unaryOp .USub) (rdU T Mn.oNeg) := by
  intro pins s σ H x v Q I rx ⟨R, M, a, S, ra, p⟩
  unfold Mn.oNeg at p
  split at p
  · cases ra
    exact un_neg pins s σ H _ v Q I rx ⟨_, rfl, post_ok S p (.int _)⟩
  · exact p.elim
theorem o_int {op : CmpOp} {g : Int → Int → Bool} (h : OpR X (compareOp op) (rI0 fun i j => .bl (g i j))) : OpR X (compareOp op) (rdO T (Mn.cInt g)) := by
  intro pins s σ H x y v u Q I rx ry ⟨R, M, a, b, S, ra, rb, p⟩
  unfold Mn.cInt at p
  split at p
  · cases ra
    cases rb
    exact h pins s σ H _ _ v u Q I rx ry ⟨_, _, rfl, rfl, post_ok S p (.bl _)⟩
  · exact p.elim
theorem o_lt : OpR X (compareOp .Lt) (rdO T Mn.cLt) := o_int op_lt
theorem o_le : OpR X (compareOp .LtE) (rdO T Mn.cLe) := o_int op_le
theorem o_gt : OpR X (compareOp .Gt) (rdO T Mn.cGt) := o_int op_gt
theorem o_ge : OpR X (compareOp .GtE) (rdO T Mn.cGe) := o_int op_ge
theorem isNon_rel {R : List Addr} {H : Hp} {a : Val} {x : V} (r : Rel T R H a x) : Mn.isNon a = decide (x = .non) := by
  cases r <;> rfl
theorem op_isB : OpR X (compareOp .Is) (fun x y H Q => ∃ a b, x = .bl a ∧ y = .bl b ∧ Q (.bl (a == b)) H) := by
  intro pins s σ H x y v u Q I rx ry ⟨a, b, e1, e2, q⟩
  subst e1 e2
  cases rx
  cases ry
  exact wpAny_pure (fin_bl I q (by cases a <;> cases b <;> rfl))
theorem op_notB : OpR X (compareOp .IsNot) (fun x y H Q => ∃ a b, x = .bl a ∧ y = .bl b ∧ Q (.bl (!(a == b))) H) := by
  intro pins s σ H x y v u Q I rx ry ⟨a, b, e1, e2, q⟩
  subst e1 e2
  cases rx
  cases ry
  exact wpAny_pure (fin_bl I q (by cases a <;> cases b <;> rfl))
theorem o_isN : OpR X (compareOp .Is) (rdO T Mn.cIsN) := by
  intro pins s σ H x y v u Q I rx ry ⟨R, M, a, b, S, ra, rb, p⟩
  unfold Mn.cIsN at p
  split at p
  · cases rb
    refine op_isN pins s σ H _ _ v u Q I rx ry ⟨rfl, ?_⟩
    rw [← isNon_rel ra]
    exact post_ok S p (.bl _)
  · split at p
    · cases ra
      cases rb
      exact op_isB pins s σ H _ _ v u Q I rx ry ⟨_, _, rfl, rfl, post_ok S p (.bl _)⟩
    · exact p.elim
  · exact p.elim
theorem o_notN : OpR X (compareOp .IsNot) (rdO T Mn.cNotN) := by
  intro pins s σ H x y v u Q I rx ry ⟨R, M, a, b, S, ra, rb, p⟩
  unfold Mn.cNotN at p
  split at p
  · cases rb
    refine op_notN pins s σ H _ _ v u Q I rx ry ⟨rfl, ?_⟩
    rw [← isNon_rel ra]
    exact post_ok S p (.bl _)
  · split at p
    · cases ra
      cases rb
      exact op_notB pins s σ H _ _ v u Q I rx ry ⟨_, _, rfl, rfl, post_ok S p (.bl _)⟩
    · exact p.elim
  · exact p.elim
end
mutual
def pd : Mn.T → PyData
  | .non => .none
  | .bl b => .bool b
  | .int i => .int i
  | .str s => .str (sOf s)
  | .tup xs => .tuple (pds xs)
  | .lst xs => .list (pds xs)
def pds : List Mn.T → List PyData
  | [] => []
  | x :: xs => pd x :: pds xs
end
theorem sOf_inj {x y : List Nat} : sOf x = sOf y ↔ x = y := by
  constructor
  · intro h
    have e : x.toArray = y.toArray := Str.mk.inj h
    simpa using congrArg Array.toList e
  · intro h
    rw [h]
theorem sOf_beq (x y : List Nat) : (sOf x == sOf y) = decide (x = y) := by
  by_cases h : x = y
  · rw [h]
    simp
  · rw [decide_eq_false h]
    exact beq_eq_false_iff_ne.mpr fun z => h (sOf_inj.mp z)
mutual
theorem eqv_pd : ∀ (a b : Mn.T), PyData.eqv (pd a) (pd b) = Mn.T.eqv a b
  | .non, b => by cases b <;> simp [pd, PyData.eqv, Mn.T.eqv]
  | .bl x, b => by cases b <;> simp [pd, PyData.eqv, Mn.T.eqv, Mn.b2i, Bool.beq_eq_decide_eq] <;> exact decide_eq_decide.mpr Iff.rfl
  | .int i, b => by cases b <;> simp [pd, PyData.eqv, Mn.T.eqv, Mn.b2i, Bool.beq_eq_decide_eq] <;> exact decide_eq_decide.mpr Iff.rfl
  | .str s, b => by cases b <;> simp [pd, PyData.eqv, Mn.T.eqv, sOf_beq]
  | .tup xs, .tup ys => by
    simp only [pd, PyData.eqv, Mn.T.eqv]
    exact eqv_pds xs ys
  | .lst xs, .lst ys => by
    simp only [pd, PyData.eqv, Mn.T.eqv]
    exact eqv_pds xs ys
  | .tup xs, .non => by simp [pd, PyData.eqv, Mn.T.eqv]
  | .tup xs, .bl _ => by simp [pd, PyData.eqv, Mn.T.eqv]
  | .tup xs, .int _ => by simp [pd, PyData.eqv, Mn.T.eqv]
  | .tup xs, .str _ => by simp [pd, PyData.eqv, Mn.T.eqv]
  | .tup xs, .lst _ => by simp [pd, PyData.eqv, Mn.T.eqv]
  | .lst xs, .non => by simp [pd, PyData.eqv, Mn.T.eqv]
  | .lst xs, .bl _ => by simp [pd, PyData.eqv, Mn.T.eqv]
  | .lst xs, .int _ => by simp [pd, PyData.eqv, Mn.T.eqv]
  | .lst xs, .str _ => by simp [pd, PyData.eqv, Mn.T.eqv]
  | .lst xs, .tup _ => by simp [pd, PyData.eqv, Mn.T.eqv]
theorem eqv_pds : ∀ (a b : List Mn.T), PyData.eqvAll (pds a) (pds b) = Mn.T.eqvs a b
  | [], [] => by simp [pds, PyData.eqvAll, Mn.T.eqvs]
  | [], _ :: _ => by simp [pds, PyData.eqvAll, Mn.T.eqvs]
  | _ :: _, [] => by simp [pds, PyData.eqvAll, Mn.T.eqvs]
  | x :: xs, y :: ys => by
    simp only [pds, PyData.eqvAll, Mn.T.eqvs]
    rw [eqv_pd x y, eqv_pds xs ys]
end
theorem toT_pd {T : Tb} {R : List Addr} {H : Hp} {M : Store} (S : Sim T R H M) : ∀ (k : Nat),
    (∀ (x : Val) (v : V) (t : Mn.T), Rel T R H x v → Mn.toT M k x = some t → Dp T.K H v (pd t) ∧ (pd t).canLay0 = true ∧ (pd t).depth ≤ k)
  | 0, x, v, t, _, h => by
    unfold Mn.toT at h
    cases h
  | k + 1, x, v, t, r, h => by
    have go : ∀ (xs : List Val) (vs : List V) (ts : List Mn.T), Rels T R H xs vs → Mn.mapO (Mn.toT M k) xs = some ts → DpAll T.K H vs (pds ts) ∧ PyData.canLayAll0 (pds ts) = true ∧ PyData.depthAll (pds ts) ≤ k := by
      intro xs
      induction xs with
      | nil =>
        intro vs ts r h
        cases r
        cases h
        exact ⟨.nil, by simp [pds, PyData.canLayAll0], by simp [pds, PyData.depthAll]⟩
      | cons y ys ih =>
        intro vs ts r h
        cases r with
        | cons r1 r2 =>
          unfold Mn.mapO at h
          cases e1 : Mn.toT M k y with
          | none =>
            rw [e1] at h
            cases h
          | some t1 =>
            rw [e1] at h
            cases e2 : Mn.mapO (Mn.toT M k) ys with
            | none =>
              rw [e2] at h
              cases h
            | some t2 =>
              rw [e2] at h
              cases h
              obtain ⟨d1, c1, p1⟩ := toT_pd S k y _ t1 r1 e1
              obtain ⟨d2, c2, p2⟩ := ih _ t2 r2 e2
              refine ⟨.cons d1 d2, by simp [pds, PyData.canLayAll0, c1, c2], ?_⟩
              simp only [pds, PyData.depthAll]
              omega
    cases r with
    | non =>
      cases h
      exact ⟨.non, by simp [pd, PyData.canLay0], by simp [pd, PyData.depth]⟩
    | bl b =>
      cases h
      exact ⟨.bl b, by simp [pd, PyData.canLay0], by simp [pd, PyData.depth]⟩
    | int i =>
      cases h
      exact ⟨.int i, by simp [pd, PyData.canLay0], by simp [pd, PyData.depth]⟩
    | str s =>
      unfold Mn.toT at h
      split at h
      · rename_i hs
        cases h
        refine ⟨.str _, ?_, by simp [pd, PyData.depth]⟩
        simp only [pd, PyData.canLay0, PyData.strOk, sOf]
        simpa using hs
      · cases h
    | tup hx rx =>
      unfold Mn.toT at h
      rename_i xs a vs
      cases e : Mn.mapO (Mn.toT M k) xs with
      | none =>
        rw [e] at h
        cases h
      | some ts =>
        rw [e] at h
        cases h
        obtain ⟨d, c, p⟩ := go xs vs ts rx e
        exact ⟨.tup hx.sq d, by simp [pd, PyData.canLay0, c], by simp only [pd, PyData.depth]; omega⟩
    | ref hn =>
      unfold Mn.toT at h
      rename_i n a
      cases el : Mn.lstAt M n with
      | none =>
        rw [el] at h
        cases h
      | some xs =>
        rw [el] at h
        cases e : Mn.mapO (Mn.toT M k) xs with
        | none =>
          simp only [e] at h
          cases h
        | some ts =>
          simp only [e] at h
          cases h
          obtain ⟨a', vs, ha, sq, rx⟩ := S.lst el
          rw [hn] at ha
          cases ha
          obtain ⟨d, c, p⟩ := go xs vs ts rx e
          exact ⟨.lst sq d, by simp [pd, PyData.canLay0, c], by simp only [pd, PyData.depth]; omega⟩
    | exc hm he =>
      unfold Mn.toT at h
      cases h
theorem toT_shaped {T : Tb} {R : List Addr} {H : Hp} {M : Store} (S : Sim T R H M) {x : Val} {v : V} {t : Mn.T} (r : Rel T R H x v) (h : Mn.toT M Mn.eqFuel x = some t) : Dp T.K H v (pd t) ∧ SeqAt.shaped (pd t) = true := by
  obtain ⟨d, c, p⟩ := toT_pd S _ x v t r h
  refine ⟨d, ?_⟩
  unfold SeqAt.shaped
  rw [c, Bool.true_and, decide_eq_true_eq]
  exact Nat.le_trans p (by decide)
section
variable {X : Cx} {T : Tb}
theorem o_eq (hK : X.K = T.K) (hu : X.A.units + 64 < cLine) : OpR X (compareOp .Eq) (rdO T Mn.cEq) := by
  intro pins s σ H x y v u Q I rx ry ⟨R, M, a, b, S, ra, rb, p⟩
  unfold Mn.cEq Mn.valEq at p
  split at p
  · rename_i t1 t2 e1 e2
    obtain ⟨d1, s1⟩ := toT_shaped S ra e1
    obtain ⟨d2, s2⟩ := toT_shaped S rb e2
    rw [← hK] at d1 d2
    refine op_eqD hu pins s σ H _ _ v u Q I rx ry ⟨pd t1, pd t2, d1, d2, s1, s2, ?_⟩
    rw [eqv_pd]
    exact post_ok S p (.bl _)
  · exact p.elim
theorem emD_run {R : List Addr} {H : Hp} {M : Store} (S : Sim T R H M) {x : Val} {v : V} (r : Rel T R H x v) (h : Mn.emD M x = true) : ∃ a, v = .ref a ∧ H a = some (.dK []) := by
  unfold Mn.emD at h
  split at h
  · split at h
    · rename_i e
      cases r with
      | ref hn =>
        obtain ⟨a, z, vs, h1, h2⟩ := S.at e
        rw [hn] at z
        cases z
        cases h2
        exact ⟨_, rfl, h1⟩
    · cases h
  · cases h
theorem eqLk_run {R : List Addr} {H : Hp} {M : Store} (S : Sim T R H M) {x y : Val} {v u : V} (r : Rel T R H x v) (r' : Rel T R H y u) (h : Mn.eqLk M x y = true) : EqLk T.K H v u := by
  unfold Mn.eqLk at h
  rw [Bool.or_eq_true] at h
  rcases h with h | h
  · unfold Mn.eqT? at h
    split at h
    · rename_i t1 t2 e1 e2
      obtain ⟨d1, c1, p1⟩ := toT_pd S _ x v t1 r e1
      obtain ⟨d2, c2, p2⟩ := toT_pd S _ y u t2 r' e2
      exact .inl ⟨pd t1, pd t2, d1, d2, c1, c2, Nat.le_trans p1 (by decide), by rw [eqv_pd]; exact h⟩
    · cases h
  · rw [Bool.and_eq_true] at h
    obtain ⟨a, e1, h1⟩ := emD_run S r h.1
    obtain ⟨b, e2, h2⟩ := emD_run S r' h.2
    exact .inr ⟨a, b, e1, e2, h1, h2⟩
theorem eqLks_run {R : List Addr} {H : Hp} {M : Store} (S : Sim T R H M) : ∀ {xs ys : List Val} {vs us : List V}, Rels T R H xs vs → Rels T R H ys us → Mn.eqLks M xs ys = true → Paired (EqLk T.K H) vs us
  | _, _, _, _, .nil, .nil, _ => .nil
  | _, _, _, _, .nil, .cons _ _, h => by cases h
  | _, _, _, _, .cons _ _, .nil, h => by cases h
  | _, _, _, _, .cons r1 r2, .cons q1 q2, h => by
    unfold Mn.eqLks at h
    rw [Bool.and_eq_true] at h
    exact .cons (eqLk_run S r1 q1 h.1) (eqLks_run S r2 q2 h.2)
theorem o_ne (hK : X.K = T.K) (hu : X.A.units + 64 < cLine) : OpR X (compareOp .NotEq) (rdO T Mn.cNe) := by
  intro pins s σ H x y v u Q I rx ry ⟨R, M, a, b, S, ra, rb, p⟩
  unfold Mn.cNe at p
  cases e : Mn.valEq a b M with
  | some r =>
    rw [Mn.valNe_of e] at p
    unfold Mn.valEq at e
    split at e
    · rename_i t1 t2 e1 e2
      cases e
      obtain ⟨d1, s1⟩ := toT_shaped S ra e1
      obtain ⟨d2, s2⟩ := toT_shaped S rb e2
      rw [← hK] at d1 d2
      refine op_neD hu pins s σ H _ _ v u Q I rx ry ⟨pd t1, pd t2, d1, d2, s1, s2, ?_⟩
      rw [eqv_pd]
      exact post_ok S p (.bl _)
    · cases e
  | none =>
    unfold Mn.valNe at p
    rw [e] at p
    simp only [] at p
    by_cases hl : Mn.lstsEq M a b = true
    · rw [if_pos hl] at p
      unfold Mn.lstsEq at hl
      split at hl
      · split at hl
        · rename_i e1 e2
          obtain ⟨a1, vs, z1, q1, k1⟩ := S.lst e1
          obtain ⟨a2, us, z2, q2, k2⟩ := S.lst e2
          cases ra with
          | ref hn =>
            cases rb with
            | ref hm =>
              rw [hn] at z1
              cases z1
              rw [hm] at z2
              cases z2
              have pr := eqLks_run S k1 k2 hl
              rw [← hK] at q1 q2 pr
              exact op_neLk hu pins s σ H _ _ v u Q I rx ry ⟨_, _, vs, us, rfl, rfl, q1, q2, pr, post_ok S p (.bl _)⟩
        · cases hl
      · cases hl
    · rw [if_neg hl] at p
      exact p.elim
end
end MnS
end
section
set_option Elab.async false
set_option autoImplicit false
set_option linter.all false
set_option maxRecDepth 100000
set_option maxHeartbeats 1000000
namespace MnS
open PySem PySem.Spec PyProof.Rows L2
open Mn (Val Cell Store E Fn Op U Itr Src Tg)
section
variable {X : Cx} {T : Tb} {W : WX} {a b c : Expr} {fa fb fc : E} {pos : Pos} {rest : List Expr}
theorem and_rd : ∀ σ H Q, rdE T W (Mn.eAnd fa fb) σ H Q → tAndV (rdE T W fa) (rdE T W fb) σ H Q := fun σ H Q ⟨R, ρ, M, e, s, p⟩ => by
  obtain ⟨R0, ρ0, M0, e0, s0, p0⟩ := rdE_bind e s p
  refine ⟨R0, ρ0, M0, e0, s0, p0.imp (List.prefix_refl _) (Keep.refl _) fun x H1 ⟨R1, M1, v, e1, s1, r1, pr1, k1, q⟩ => ?_⟩
  cases r1 with
  | bl k =>
    refine ⟨k, rfl, ?_⟩
    cases k with
    | true =>
      rw [if_pos rfl]
      exact ⟨R1, ρ, M1, e1, s1, q⟩
    | false =>
      rw [if_neg Bool.false_ne_true]
      exact post_ok s1 q (.bl _)
  | _ => exact q.elim
theorem or_rd : ∀ σ H Q, rdE T W (Mn.eOr fa fb) σ H Q → tOrV (rdE T W fa) (rdE T W fb) σ H Q := fun σ H Q ⟨R, ρ, M, e, s, p⟩ => by
  obtain ⟨R0, ρ0, M0, e0, s0, p0⟩ := rdE_bind e s p
  refine ⟨R0, ρ0, M0, e0, s0, p0.imp (List.prefix_refl _) (Keep.refl _) fun x H1 ⟨R1, M1, v, e1, s1, r1, pr1, k1, q⟩ => ?_⟩
  cases r1 with
  | bl k =>
    refine ⟨k, rfl, ?_⟩
    cases k with
    | true =>
      rw [if_pos rfl]
      exact post_ok s1 q (.bl _)
    | false =>
      rw [if_neg Bool.false_ne_true]
      exact ⟨R1, ρ, M1, e1, s1, q⟩
  | _ => exact q.elim
theorem not_rd : ∀ σ H Q, rdE T W (Mn.eNot fa) σ H Q → tNotV (rdE T W fa) σ H Q := fun σ H Q ⟨R, ρ, M, e, s, p⟩ => by
  obtain ⟨R0, ρ0, M0, e0, s0, p0⟩ := rdE_bind e s p
  refine ⟨R0, ρ0, M0, e0, s0, p0.imp (List.prefix_refl _) (Keep.refl _) fun x H1 ⟨R1, M1, v, e1, s1, r1, pr1, k1, q⟩ => ?_⟩
  cases r1 with
  | bl k => exact ⟨k, rfl, post_ok s1 q (.bl _)⟩
  | _ => exact q.elim
theorem s_and (ha : PE X a (rdE T W fa)) (hb : PE X (.BoolOp .And (b :: rest) pos) (rdE T W fb)) : PE X (.BoolOp .And (a :: b :: rest) pos) (rdE T W (Mn.eAnd fa fb)) := PE.imp (pe_and ha hb) and_rd
theorem s_or (ha : PE X a (rdE T W fa)) (hb : PE X (.BoolOp .Or (b :: rest) pos) (rdE T W fb)) : PE X (.BoolOp .Or (a :: b :: rest) pos) (rdE T W (Mn.eOr fa fb)) := PE.imp (pe_or ha hb) or_rd
theorem s_not (ha : PE X a (rdE T W fa)) : PE X (.UnaryOp .Not a pos) (rdE T W (Mn.eNot fa)) := PE.imp (pe_not ha) not_rd
theorem test_rd : ∀ σ H Q, rdT T W fa σ H Q → rdE T W fa σ H (fun x H1 => ∃ k, x = .bl k ∧ Q k H1) := fun σ H Q ⟨R, ρ, M, e, s, p⟩ => by
  refine ⟨R, ρ, M, e, s, ?_⟩
  cases q : fa ρ M with
  | bad =>
    rw [q] at p
    exact p
  | exc c M' =>
    rw [q] at p
    exact p
  | ok v M' =>
    rw [q] at p
    cases v with
    | bl k =>
      intro R1 H1 w p1 k1 s1 r1
      cases r1
      exact ⟨k, rfl, p R1 H1 p1 k1 s1⟩
    | _ => exact p.elim
theorem t_val (ha : PE X a (rdE T W fa)) (he : ∀ whole, isTrue a X.env whole = (do let v ← whole; standAt a.pos; holding [v] (truthy v))) : PT X a (rdT T W fa) := PT.imp (pt_val ha he) test_rd
theorem t_cmp {op : CmpOp} {f : Op} (ho : OpR X (compareOp op) (rdO T f)) (ha : PE X a (rdE T W fa)) (hb : PE X b (rdE T W fb)) (hm : behindInMarks op b = false) : PT X (.Compare a [op] [b] pos) (rdT T W (Mn.eBin f fa fb)) :=
  PT.imp (pt_cmpR ho ha hb hm) fun σ H Q h => bin_rd σ H _ (test_rd σ H Q h)
theorem bool_post {r : Mn.R Val} {f : Val → Store → Mn.R Val} {R : List Addr} {H : Hp} {Q : Bool → Hp → Prop} {W' : XK} (h : PostB T W' R H Q (r.bind f)) :
    (∃ v M, r = .ok v M ∧ PostB T W' R H Q (f v M)) ∨ (∃ c M, r = .exc c M ∧ (c ∈ T.xs → ∀ R' H', R <+: R' → Keep R R' H H' → Sim T R' H' M → W' (.ref (T.ca c)) none H')) := by
  cases r with
  | ok v M => exact .inl ⟨v, M, rfl, h⟩
  | exc c M => exact .inr ⟨c, M, rfl, h⟩
  | bad => exact h.elim
theorem PostB.mono {r : Mn.R Val} {R R' : List Addr} {H H' : Hp} {Q : Bool → Hp → Prop} {W' : XK} (h : PostB T W' R H Q r) (p : R <+: R') (k : Keep R R' H H') : PostB T W' R' H' Q r := by
  cases r with
  | ok v M =>
    cases v with
    | bl b => exact fun R2 H2 p2 k2 s2 => h R2 H2 (p.trans p2) (k.trans k2) s2
    | _ => exact h
  | exc c M => exact fun hc R2 H2 p2 k2 s2 => h hc R2 H2 (p.trans p2) (k.trans k2) s2
  | bad => exact h
theorem tand_rd : ∀ σ H Q, rdT T W (Mn.eAnd fa fb) σ H Q → tAnd (rdT T W fa) (rdT T W fb) σ H Q := fun σ H Q ⟨R, ρ, M, e, s, p⟩ => by
  refine ⟨R, ρ, M, e, s, ?_⟩
  rcases bool_post p with ⟨v, M', q, p⟩ | ⟨c, M', q, p⟩
  · rw [q]
    cases v with
    | bl k =>
      intro R1 H1 p1 k1 s1
      cases k with
      | true =>
        rw [if_pos rfl]
        exact ⟨R1, ρ, M', e.mono p1 k1, s1, PostB.mono p p1 k1⟩
      | false =>
        rw [if_neg Bool.false_ne_true]
        exact p R1 H1 p1 k1 s1
    | _ => exact p.elim
  · rw [q]
    exact p
theorem tor_rd : ∀ σ H Q, rdT T W (Mn.eOr fa fb) σ H Q → tOr (rdT T W fa) (rdT T W fb) σ H Q := fun σ H Q ⟨R, ρ, M, e, s, p⟩ => by
  refine ⟨R, ρ, M, e, s, ?_⟩
  rcases bool_post p with ⟨v, M', q, p⟩ | ⟨c, M', q, p⟩
  · rw [q]
    cases v with
    | bl k =>
      intro R1 H1 p1 k1 s1
      cases k with
      | true =>
        rw [if_pos rfl]
        exact p R1 H1 p1 k1 s1
      | false =>
        rw [if_neg Bool.false_ne_true]
        exact ⟨R1, ρ, M', e.mono p1 k1, s1, PostB.mono p p1 k1⟩
    | _ => exact p.elim
  · rw [q]
    exact p
theorem tnot_rd : ∀ σ H Q, rdT T W (Mn.eNot fa) σ H Q → tNot (rdT T W fa) σ H Q := fun σ H Q ⟨R, ρ, M, e, s, p⟩ => by
  refine ⟨R, ρ, M, e, s, ?_⟩
  rcases bool_post p with ⟨v, M', q, p⟩ | ⟨c, M', q, p⟩
  · rw [q]
    cases v with
    | bl k => exact fun R1 H1 p1 k1 s1 => p R1 H1 p1 k1 s1
    | _ => exact p.elim
  · rw [q]
    exact p
theorem w_and (ha : PT X a (rdT T W fa)) (hb : PW X (.BoolOp .And (b :: rest) pos) (rdT T W fb)) : PW X (.BoolOp .And (a :: b :: rest) pos) (rdT T W (Mn.eAnd fa fb)) :=
  ⟨fun wh pins s σ H Q I h => (pw_and ha hb).run wh pins s σ H Q I (tand_rd σ H Q h)⟩
theorem w_or (ha : PT X a (rdT T W fa)) (hb : PW X (.BoolOp .Or (b :: rest) pos) (rdT T W fb)) : PW X (.BoolOp .Or (a :: b :: rest) pos) (rdT T W (Mn.eOr fa fb)) :=
  ⟨fun wh pins s σ H Q I h => (pw_or ha hb).run wh pins s σ H Q I (tor_rd σ H Q h)⟩
theorem t_not (ha : PT X a (rdT T W fa)) : PT X (.UnaryOp .Not a pos) (rdT T W (Mn.eNot fa)) := PT.imp (pt_not ha) tnot_rd
theorem chain_rd {f g : Op} : ∀ σ H Q, rdE T W (Mn.eChain f g fa fb fc) σ H Q → tChain (rdO T f) (rdO T g) (rdE T W fa) (rdE T W fb) (rdE T W fc) σ H Q := fun σ H Q ⟨R, ρ, M, e, s, p⟩ => by
  obtain ⟨R0, ρ0, M0, e0, s0, p0⟩ := rdE_bind e s p
  refine ⟨R0, ρ0, M0, e0, s0, p0.imp (List.prefix_refl _) (Keep.refl _) fun x H1 ⟨R1, M1, v, e1, s1, r1, pr1, k1, q⟩ => ?_⟩
  obtain ⟨R2, ρ2, M2, e2, s2, p2⟩ := rdE_bind e1 s1 q
  refine ⟨R2, ρ2, M2, e2, s2, p2.imp (List.prefix_refl _) (Keep.refl _) fun y H2 ⟨R3, M3, u, e3, s3, r3, pr3, k3, q3⟩ => ?_⟩
  have rv := r1.mono pr3 k3
  refine ⟨R3, M3, v, u, s3, rv, r3, ?_⟩
  cases eo : f v u M3 with
  | none =>
    rw [eo] at q3
    exact q3
  | some z =>
    obtain ⟨z, M4⟩ := z
    rw [eo] at q3
    show Post T _ R3 H2 _ (.ok z M4)
    intro R4 H4 w p4 k4 s4 r4
    cases r4 with
    | bl k =>
      refine ⟨k, rfl, ?_⟩
      cases k with
      | false =>
        first
          | exact q3 R4 H4 (.bl false) p4 k4 s4 (.bl false)
          | exact (by rw [if_neg Bool.false_ne_true]; exact q3 R4 H4 (.bl false) p4 k4 s4 (.bl false))
      | true =>
        have q4 : Post T (at_ W σ) R4 H4 Q ((fc ρ M4).bind fun z M4 => Mn.R.of (g u z M4)) := Post.imp (r := (fc ρ M4).bind fun z M4 => Mn.R.of (g u z M4)) q3 p4 k4 fun _ _ q => q
        obtain ⟨R5, ρ5, M5, e5, s5, p5⟩ := rdE_bind (e3.mono p4 k4) s4 q4
        have fin : rdE T W fc σ H4 fun z H5 => rdO T g y z H5 Q :=
          ⟨R5, ρ5, M5, e5, s5, p5.imp (List.prefix_refl _) (Keep.refl _) fun zz H6 ⟨R7, M7, uu, e7, s7, r7, pr7, k7, q7⟩ => ⟨R7, M7, u, uu, s7, (r3.mono p4 k4).mono pr7 k7, r7, of_noexc q7⟩⟩
        first
          | exact fin
          | exact (by rw [if_pos rfl]; exact fin)
    | _ => exact q3.elim
end
end MnS
end
section
set_option Elab.async false
set_option autoImplicit false
namespace Mn
def mkObj (c : String) (F : Fn) : Fn := fun vs M => (F (.ref M.length :: vs) (M ++ [.obj c []])).bind fun v M2 => match v with
  | .non => .ok (.ref M.length) M2
  | _ => .bad
def uFld (cs : List String) (f : String) : U := fun x M => match x with
  | .ref n => match M[n]? with
    | some (.obj c fs) => if cs.contains c = true then (fs.lookup f).map fun v => (v, M) else none
    | _ => none
  | _ => none
def putM (f : String) (v : Val) : List (String × Val) → List (String × Val)
  | [] => [(f, v)]
  | (g, x) :: r => if g = f then (g, v) :: r else (g, x) :: putM f v r
def setFld (cs : List String) (f : String) : Val → Val → Store → Option Store
  | .ref n, v, M => match M[n]? with
    | some (.obj c fs) => if cs.contains c = true ∧ fs.length < 1000 then some (M.set n (.obj c (putM f v fs))) else none
    | _ => none
  | _, _, _ => none
def tFld (cs : List String) (f : String) (o : E) : Tg := fun v ρ M => match o ρ M with
  | .ok x M1 => match setFld cs f x v M1 with
    | some M2 => .nx ρ M2
    | none => .bad
  | _ => .bad
def methOf (tb : List (String × Fn)) (m : String) (x : Val) (M : Store) : Option Fn := match x with
  | .ref n => match M[n]? with
    | some (.obj c fs) => if (fs.lookup m).isNone = true then tb.lookup c else none
    | _ => none
  | _ => none
def eMeth (tb : List (String × Fn)) (m : String) (o : E) (es : List E) : E := fun ρ M => (o ρ M).bind fun x M1 => match methOf tb m x M1 with
  | some F => (evL es ρ M1).bind fun vs M2 => F (x :: vs) M2
  | none => .bad
end Mn
end
section
set_option autoImplicit false
namespace Mn
def truV (M : Store) : Val → Option Bool
  | .non => some false
  | .bl b => some b
  | .int i => some (i != 0)
  | .str s => if s.length ≤ szLine then some ((s.length : Int) != 0) else none
  | .tup xs => some (!xs.isEmpty)
  | .ref n => (lstAt M n).map fun xs => !xs.isEmpty
  | _ => none
def orS (s : List Nat) (x : Val) (M : Store) : Option Bool → R Val
  | some true => .ok x M
  | some false => .ok (.str s) M
  | none => .bad
def eOrS (a : E) (s : List Nat) : E := fun ρ M => (a ρ M).bind fun x M1 => orS s x M1 (truV M1 x)
end Mn
end
section
set_option Elab.async false
set_option autoImplicit false
set_option linter.all false
set_option maxRecDepth 100000
namespace MnS
open PySem PySem.Spec PyProof.Rows L2
open Mn (Val Store Env E szLine)
section
variable {X : Cx} {T : Tb} {W : WX} {a b : Expr} {rest : List Expr} {pos : Pos} {fa fb : E}
theorem pe_orV {ta tb : TE} (ha : PE X a ta) (hb : PE X (.BoolOp .Or (b :: rest) pos) tb) : PE X (.BoolOp .Or (a :: b :: rest) pos) (fun σ H Q => ta σ H fun x H1 => ∃ c, TruV X.K x H1 c ∧ if c = true then Q x H1 else tb σ H1 Q) := by
  refine ⟨fun pins s σ H Q I h => ?_⟩
  refine BoolOp_or (thn (ha.run pins s σ H _ I h) fun v s1 ⟨x, H1, I1, r1, q1⟩ => ?_)
  obtain ⟨c, e, q1⟩ := q1
  refine thn (tru_ok pins s1 σ H1 x v (fun k H' => k = c ∧ H' = H1) I1 r1 ⟨c, e, rfl, rfl⟩) fun d s2 ⟨H2, I2, hd, hH⟩ => ?_
  subst hd
  subst hH
  cases d with
  | false => exact hb.run pins s2 σ H2 Q I2 q1
  | true => exact ⟨x, H2, I2, r1, q1⟩
theorem rels_emp {T : Tb} {R : List Addr} {H : Hp} {xs : List Val} {vs : List V} (r : Rels T R H xs vs) : (!xs.isEmpty) = !vs.isEmpty := by cases r <;> rfl
theorem truV_ok (hK : X.K = T.K) {R : List Addr} {H : Hp} {M : Store} {v : Val} {x : V} {c : Bool} (S : Sim T R H M) (r : Rel T R H v x) (h : Mn.truV M v = some c) : TruV X.K x H c := by
  have e0 : szLine = 16777216 := rfl
  have e1 : sizeLine = 16777216 := sizeLine_eq
  cases r with
  | non => cases h; rfl
  | bl b => cases h; rfl
  | int i => cases h; rfl
  | str s =>
    unfold Mn.truV at h
    simp only [] at h
    split at h
    · cases h
      have := sOf_len s
      exact ⟨by omega, by rw [this]⟩
    · cases h
  | tup ta rs =>
    cases h
    exact .inr (.inl ⟨_, by rw [hK]; exact ta.sq, rels_emp rs⟩)
  | @ref n a hn =>
    unfold Mn.truV at h
    obtain ⟨xs, e, rfl⟩ := Option.map_eq_some_iff.mp h
    obtain ⟨a', vs, ha, sq, rx⟩ := S.lst e
    rw [hn] at ha
    cases ha
    exact .inl ⟨vs, by rw [hK]; exact sq, rels_emp rx⟩
  | exc _ _ => cases h
theorem s_orS (hK : X.K = T.K) {s : List Nat} (ha : PE X a (rdE T W fa)) (hb : PE X (.BoolOp .Or (b :: rest) pos) (rdE T W (Mn.eC (.str s)))) : PE X (.BoolOp .Or (a :: b :: rest) pos) (rdE T W (Mn.eOrS fa s)) := by
  refine PE.imp (pe_orV ha hb) fun σ H Q ⟨R, ρ, M, e, st, p⟩ => ?_
  obtain ⟨R0, ρ0, M0, e0, s0, p0⟩ := rdE_bind e st p
  refine ⟨R0, ρ0, M0, e0, s0, p0.imp (List.prefix_refl _) (Keep.refl _) fun x H1 ⟨R1, M1, v, e1, s1, r1, pr1, k1, q⟩ => ?_⟩
  cases c : Mn.truV M1 v with
  | none =>
    rw [c] at q
    exact q.elim
  | some d =>
    rw [c] at q
    refine ⟨d, truV_ok hK s1 r1 c, ?_⟩
    cases d with
    | true =>
      rw [if_pos rfl]
      exact post_ok s1 q r1
    | false =>
      rw [if_neg Bool.false_ne_true]
      exact ⟨R1, ρ, M1, e1, s1, q⟩
theorem tor_orS {s : List Nat} {tb : TT} : ∀ σ H Q, rdT T W (Mn.eOrS fa s) σ H Q → tOr (rdT T W fa) tb σ H Q := fun σ H Q ⟨R, ρ, M, e, st, p⟩ => by
  refine ⟨R, ρ, M, e, st, ?_⟩
  rcases bool_post p with ⟨v, M', q, p⟩ | ⟨c, M', q, p⟩
  · rw [q]
    cases v with
    | bl k =>
      intro R1 H1 p1 k1 s1
      cases k with
      | true =>
        rw [if_pos rfl]
        exact p R1 H1 p1 k1 s1
      | false => exact (show False from p).elim
    | _ =>
      exfalso
      unfold Mn.orS at p
      split at p <;> exact p
  · rw [q]
    exact p
theorem w_orS {s : List Nat} {tb : TT} (ha : PT X a (rdT T W fa)) (hb : PW X (.BoolOp .Or (b :: rest) pos) tb) : PW X (.BoolOp .Or (a :: b :: rest) pos) (rdT T W (Mn.eOrS fa s)) :=
  ⟨fun wh pins s σ H Q I h => (pw_or ha hb).run wh pins s σ H Q I (tor_orS σ H Q h)⟩
end
end MnS
end
section
set_option Elab.async false
set_option autoImplicit false
set_option linter.all false
set_option maxRecDepth 100000
set_option maxHeartbeats 1000000
namespace MnS
open PySem PySem.Spec PyProof.Rows L2
open Mn (Val Cell Store E Fn Op U Itr Src Tg)
theorem rdE_mono {T : Tb} {W : WX} {f : E} {σ : L2.St} {H : Hp} {Q Q' : VK} (h : rdE T W f σ H Q) (q : ∀ w H1, Q w H1 → Q' w H1) : rdE T W f σ H Q' :=
  let ⟨R, ρ, M, e, s, p⟩ := h
  ⟨R, ρ, M, e, s, p.imp (List.prefix_refl R) (Keep.refl H) q⟩
theorem tOp_mono {T : Tb} {W : WX} {f g : E} {r r' : R2} (i : ∀ x y H Q, r x y H Q → r' x y H Q) : ∀ σ H Q, tOp r (rdE T W f) (rdE T W g) σ H Q → tOp r' (rdE T W f) (rdE T W g) σ H Q := fun _ _ _ h =>
  rdE_mono h fun _ _ h1 => rdE_mono h1 fun _ _ h2 => i _ _ _ _ h2
section
variable {X : Cx} {T : Tb} {W : WX} {W' : XK} {a b c e : Expr} {es : List Expr} {fa fb fc f : E} {fs : List E} {pos : Pos} {R R' : List Addr} {H H' : Hp}
theorem PostL.imp {Q Q' : List V → Hp → Prop} {r : Mn.R (List Val)} (h : PostL T W' R H Q r) (p : R <+: R') (k : Keep R R' H H') (q : ∀ w H1, Q w H1 → Q' w H1) : PostL T W' R' H' Q' r := by
  cases r with
  | ok v M => exact fun R2 H2 w p2 k2 s2 r2 => q _ _ (h R2 H2 w (p.trans p2) (k.trans k2) s2 r2)
  | exc c M => exact fun hc R2 H2 p2 k2 s2 => h hc R2 H2 (p.trans p2) (k.trans k2) s2
  | bad => exact h
theorem rdA_nil : ∀ σ H Q, rdA T W [] σ H Q → tNil σ H Q := fun σ H Q ⟨R, ρ, M, e, s, p⟩ => p R H [] (List.prefix_refl R) (Keep.refl H) s .nil
theorem rdA_cons : ∀ σ H Q, rdA T W (f :: fs) σ H Q → tCons (rdE T W f) (rdA T W fs) σ H Q := fun σ H Q ⟨R, ρ, M, e, s, p⟩ => by
  unfold Mn.evL at p
  refine ⟨R, ρ, M, e, s, ?_⟩
  cases q : f ρ M with
  | bad =>
    rw [q] at p
    exact p
  | exc c M' =>
    rw [q] at p
    exact p
  | ok v M1 =>
    rw [q] at p
    intro R1 H1 w p1 k1 s1 r1
    refine ⟨R1, ρ, M1, e.mono p1 k1, s1, ?_⟩
    cases q2 : Mn.evL fs ρ M1 with
    | bad =>
      rw [Mn.R.bind_ok, q2] at p
      exact p
    | exc c M' =>
      rw [Mn.R.bind_ok, q2] at p
      exact fun hc R2 H2 p2 k2 s2 => p hc R2 H2 (p1.trans p2) (k1.trans k2) s2
    | ok vs M2 =>
      rw [Mn.R.bind_ok, q2] at p
      exact fun R2 H2 ws p2 k2 s2 r2 => p R2 H2 (w :: ws) (p1.trans p2) (k1.trans k2) s2 (.cons (r1.mono p2 k2) r2)
theorem a_nil : PA X [] (rdA T W []) := PA.imp pa_nil rdA_nil
theorem a_cons (ha : PE X e (rdE T W f)) (hr : PA X es (rdA T W fs)) (hs : starEach (e :: es) X.env = (false, eval e X.env) :: starEach es X.env) : PA X (e :: es) (rdA T W (f :: fs)) := PA.imp (pa_cons ha hr hs) rdA_cons
theorem rdA_bind {g : List Val → Store → Mn.R Val} {Q : VK} {ρ : Mn.Env} {M : Store} {σ : L2.St} (e : EnvR T R H ρ σ) (s : Sim T R H M) (h : Post T (at_ W σ) R H Q ((Mn.evL fs ρ M).bind g)) :
    rdA T W fs σ H fun xs H1 => ∃ R1 M1 vs, EnvR T R1 H1 ρ σ ∧ Sim T R1 H1 M1 ∧ Rels T R1 H1 vs xs ∧ Post T (at_ W σ) R1 H1 Q (g vs M1) :=
  ⟨R, ρ, M, e, s, h.bindL.imp (List.prefix_refl R) (Keep.refl H) fun _ _ ⟨R1, M1, v, p1, k1, s1, r1, q⟩ => ⟨R1, M1, v, e.mono p1 k1, s1, r1, q⟩⟩
theorem rdA_mono {σ : L2.St} {Q Q' : List V → Hp → Prop} (h : rdA T W fs σ H Q) (q : ∀ w H1, Q w H1 → Q' w H1) : rdA T W fs σ H Q' :=
  let ⟨R, ρ, M, e, s, p⟩ := h
  ⟨R, ρ, M, e, s, p.imp (List.prefix_refl R) (Keep.refl H) q⟩
theorem s_tup {k : Nat} (h : PA X es (rdA T W fs)) : PE X (.Tuple es k pos) (rdE T W (Mn.eTup fs)) := PE.imp (pe_tup h) fun σ H Q ⟨R, ρ, M, e, s, p⟩ => by
  refine rdA_mono (rdA_bind e s p) fun xs H1 ⟨R1, M1, vs, e1, s1, r1, q⟩ => ?_
  split at q
  · rename_i hz
    refine ⟨by rw [← r1.length, ← szLine_eq]; exact hz, fun pp hp => ?_⟩
    exact q R1 _ _ (List.prefix_refl R1) (Keep.new hp) (s1.other hp) (.tup (.inl upd_same) (r1.mono (List.prefix_refl R1) (Keep.new hp)))
  · exact q.elim
theorem s_lst (h : PA X es (rdA T W fs)) : PE X (.List es pos) (rdE T W (Mn.eLst fs)) := PE.imp (pe_lst h) fun σ H Q ⟨R, ρ, M, e, s, p⟩ => by
  refine rdA_mono (rdA_bind e s p) fun xs H1 ⟨R1, M1, vs, e1, s1, r1, q⟩ => ?_
  split at q
  · rename_i hz
    refine ⟨by rw [← r1.length, ← szLine_eq]; exact hz, fun pp hp => ?_⟩
    exact post_new s1 q hp (new_lst r1 hp)
  · exact q.elim
theorem atI_rel {xs : List Val} {vs : List V} {i : Int} {x : Val} (r : Rels T R H xs vs) (h : Mn.atI xs i = some x) : ∃ v, L2.atI vs i = some v ∧ Rel T R H x v := by
  unfold Mn.atI at h
  cases e : Mn.atIx xs.length i with
  | none =>
    rw [e] at h
    cases h
  | some k =>
    rw [e] at h
    obtain ⟨v, hv, q⟩ := r.get (i := k) h
    refine ⟨v, ?_, q⟩
    show (Mn.atIx vs.length i).bind (fun k => vs[k]?) = some v
    rw [← r.length, e]
    exact hv
theorem ix_rd (hK : X.K = T.K) : ∀ (x y : V) (H : Hp) (Q : VK), rdO T Mn.oIx x y H Q → rIx X.K x y H Q := fun x y H Q ⟨R, M, u, v, S, ra, rb, p⟩ => by
  unfold Mn.oIx at p
  split at p
  · rename_i M' xs i
    cases rb
    cases e : Mn.atI xs i with
    | none =>
      rw [e] at p
      exact p.elim
    | some z =>
      rw [e] at p
      cases ra with
      | tup ht rx =>
        obtain ⟨w, hw, rw_⟩ := atI_rel rx e
        exact .inr (.inl ⟨_, _, i, w, rfl, rfl, by rw [hK]; exact ht.sq, hw, post_ok S p rw_⟩)
  · rename_i M' n i
    cases rb
    split at p
    · rename_i xs el
      cases e : Mn.atI xs i with
      | none =>
        rw [e] at p
        exact p.elim
      | some z =>
        rw [e] at p
        cases ra with
        | ref hn =>
          obtain ⟨a', vs, ha, sq, rx⟩ := S.lst el
          rw [hn] at ha
          cases ha
          obtain ⟨w, hw, rw_⟩ := atI_rel rx e
          exact .inl ⟨_, _, i, w, rfl, rfl, by rw [hK]; exact sq, hw, post_ok S p rw_⟩
    · exact p.elim
  · exact p.elim
theorem s_ix (hK : X.K = T.K) (ha : PE X a (rdE T W fa)) (hb : PE X b (rdE T W fb)) (hs : PlainIx b) : PE X (.Subscript a b pos) (rdE T W (Mn.eBin Mn.oIx fa fb)) :=
  PE.imp (pe_ix ix_seq ha hb hs) fun σ H Q h => tOp_mono (ix_rd hK) σ H Q (bin_rd σ H Q h)
def spF (T : Tb) (np : Nat) (F : Fn) : Sp := fun vs H Q E => ∃ R M xs, Sim T R H M ∧ Rels T R H xs vs ∧ vs.length = np ∧ Post T E R H Q (F xs M)
def Arity (F : Fn) (np : Nat) : Prop := ∀ xs M, xs.length ≠ np → F xs M = .bad
theorem call_rd {F : Fn} {np : Nat} (A : Arity F np) : ∀ σ H Q, rdE T W (Mn.eCall F fs) σ H Q → tCallS (spF T np F) (WE W) (rdA T W fs) σ H Q := fun σ H Q ⟨R, ρ, M, e, s, p⟩ => by
  refine rdA_mono (rdA_bind e s p) fun xs H1 ⟨R1, M1, vs, e1, s1, r1, q⟩ => ?_
  refine ⟨R1, M1, vs, s1, r1, ?_, q⟩
  by_cases h : vs.length = np
  · exact r1.length.symm.trans h
  · rw [A vs M1 h] at q
    exact q.elim
theorem mk_arity {np nn : Nat} {b : Mn.St} : Arity (Mn.mkFn np nn b) np := fun xs M h => by
  unfold Mn.mkFn
  rw [if_neg h]
end
def PostS (T : Tb) (W : WX) (D : Ends) (R : List Addr) (H : Hp) : Mn.RS → Prop
  | .nx ρ M => ∀ R' H' σ, R <+: R' → Keep R R' H H' → Sim T R' H' M → EnvR T R' H' ρ σ → D.nx σ H'
  | .ret v M => ∀ R' H' w, R <+: R' → Keep R R' H H' → Sim T R' H' M → Rel T R' H' v w → D.rt w H'
  | .bk ρ M => ∀ R' H' σ, R <+: R' → Keep R R' H H' → Sim T R' H' M → EnvR T R' H' ρ σ → D.bk σ H'
  | .ct ρ M => ∀ R' H' σ, R <+: R' → Keep R R' H H' → Sim T R' H' M → EnvR T R' H' ρ σ → D.ct σ H'
  | .exc c ρ M => c ∈ T.xs → ∀ R' H' σ, R <+: R' → Keep R R' H H' → Sim T R' H' M → EnvR T R' H' ρ σ → W (.ref (T.ca c)) none σ H'
  | .bad => False
def rdS (T : Tb) (W : WX) (f : Mn.St) : TS := fun D σ H => ∃ R ρ M, EnvR T R H ρ σ ∧ Sim T R H M ∧ PostS T W D R H (f ρ M)
section
variable {X : Cx} {T : Tb} {W : WX} {a b c e : Expr} {es : List Expr} {fa fb fc f : E} {fs : List E} {s t : Mn.St} {pos : Pos} {R R' : List Addr} {H H' : Hp} {D D' : Ends} {st : Stmt} {sts : List Stmt}
theorem PostS.mono {r : Mn.RS} (h : PostS T W D R H r) (p : R <+: R') (k : Keep R R' H H') : PostS T W D R' H' r := by
  cases r with
  | nx ρ M => exact fun R2 H2 σ p2 k2 s2 e2 => h R2 H2 σ (p.trans p2) (k.trans k2) s2 e2
  | ret v M => exact fun R2 H2 σ p2 k2 s2 e2 => h R2 H2 σ (p.trans p2) (k.trans k2) s2 e2
  | bk ρ M => exact fun R2 H2 σ p2 k2 s2 e2 => h R2 H2 σ (p.trans p2) (k.trans k2) s2 e2
  | ct ρ M => exact fun R2 H2 σ p2 k2 s2 e2 => h R2 H2 σ (p.trans p2) (k.trans k2) s2 e2
  | exc c ρ M => exact fun hc R2 H2 σ p2 k2 s2 e2 => h hc R2 H2 σ (p.trans p2) (k.trans k2) s2 e2
  | bad => exact h
theorem st_rd {g : Val → Store → Mn.RS} {ρ : Mn.Env} {M : Store} {σ : L2.St} (e : EnvR T R H ρ σ) (s : Sim T R H M) (h : PostS T W D R H ((fa ρ M).st ρ g)) :
    rdE T W fa σ H fun x H1 => ∃ R1 M1 v, EnvR T R1 H1 ρ σ ∧ Sim T R1 H1 M1 ∧ Rel T R1 H1 v x ∧ PostS T W D R1 H1 (g v M1) := by
  refine ⟨R, ρ, M, e, s, ?_⟩
  cases q : fa ρ M with
  | bad =>
    rw [q] at h
    exact h
  | exc c M' =>
    rw [q] at h
    exact fun hc R1 H1 p1 k1 s1 => h hc R1 H1 σ p1 k1 s1 (e.mono p1 k1)
  | ok v M' =>
    rw [q] at h
    exact fun R1 H1 w p1 k1 s1 r1 => ⟨R1, M', v, e.mono p1 k1, s1, r1, PostS.mono (r := g v M') h p1 k1⟩
theorem stT_rd {A B : Store → Mn.RS} {ρ : Mn.Env} {M : Store} {σ : L2.St} (e : EnvR T R H ρ σ) (s : Sim T R H M) (h : PostS T W D R H ((fa ρ M).st ρ fun v M1 => match v with
    | .bl true => A M1
    | .bl false => B M1
    | _ => .bad)) :
    rdT T W fa σ H fun k H1 => ∃ R1 M1, EnvR T R1 H1 ρ σ ∧ Sim T R1 H1 M1 ∧ PostS T W D R1 H1 (if k = true then A M1 else B M1) := by
  refine ⟨R, ρ, M, e, s, ?_⟩
  cases q : fa ρ M with
  | bad =>
    rw [q] at h
    exact h
  | exc c M' =>
    rw [q] at h
    exact fun hc R1 H1 p1 k1 s1 => h hc R1 H1 σ p1 k1 s1 (e.mono p1 k1)
  | ok v M' =>
    rw [q] at h
    cases v with
    | bl k =>
      intro R1 H1 p1 k1 s1
      refine ⟨R1, M', e.mono p1 k1, s1, ?_⟩
      cases k with
      | true =>
        rw [if_pos rfl]
        exact PostS.mono (r := A M') h p1 k1
      | false =>
        rw [if_neg Bool.false_ne_true]
        exact PostS.mono (r := B M') h p1 k1
    | _ => exact h.elim
theorem ss_nil : PSs X [] (rdS T W Mn.sPass) := PSs.imp pss_nil fun σ H D ⟨R, ρ, M, e, s, p⟩ => p R H σ (List.prefix_refl R) (Keep.refl H) s e
theorem s_pass : PS X (.Pass pos) (rdS T W Mn.sPass) := PS.imp ps_pass fun σ H D ⟨R, ρ, M, e, s, p⟩ => p R H σ (List.prefix_refl R) (Keep.refl H) s e
theorem seq_post {r : Mn.RS} {u : Mn.St} (h : PostS T W D R H (r.andThen u)) : PostS T W { D with nx := rdS T W u D } R H r := by
  cases r with
  | nx ρ M => exact fun R2 H2 σ p2 k2 s2 e2 => ⟨R2, ρ, M, e2, s2, PostS.mono (r := u ρ M) h p2 k2⟩
  | ret v M => exact h
  | bk ρ M => exact h
  | ct ρ M => exact h
  | exc c ρ M => exact h
  | bad => exact h
theorem ss_cons {u : Mn.St} (h1 : PS X st (rdS T W t)) (h2 : PSs X sts (rdS T W u)) : PSs X (st :: sts) (rdS T W (Mn.sSeq t u)) :=
  PSs.imp (pss_cons h1 h2) fun σ H D ⟨R, ρ, M, e, s, p⟩ => ⟨R, ρ, M, e, s, seq_post p⟩
theorem ss_one (h1 : PS X st (rdS T W t)) : PSs X [st] (rdS T W t) := pss_one h1
theorem s_drop (he : PE X e (rdE T W f)) (hs : swapsWith e none pos.line X.env = pure false) : PS X (.Expr e pos) (rdS T W (Mn.sDrop f)) := PS.imp (ps_expr he hs) fun σ H D ⟨R, ρ, M, e, s, p⟩ =>
  rdE_mono (st_rd e s p) fun x H1 ⟨R1, M1, v, e1, s1, r1, q⟩ => q R1 H1 σ (List.prefix_refl R1) (Keep.refl H1) s1 e1
theorem s_ret (he : PE X e (rdE T W f)) : PS X (.Return (some e) pos) (rdS T W (Mn.sRet f)) := PS.imp (ps_ret he) fun σ H D ⟨R, ρ, M, e, s, p⟩ =>
  rdE_mono (st_rd e s p) fun x H1 ⟨R1, M1, v, e1, s1, r1, q⟩ => q R1 H1 x (List.prefix_refl R1) (Keep.refl H1) s1 r1
theorem rdT_mono {f : E} {σ : L2.St} {Q Q' : Bool → Hp → Prop} (h : rdT T W f σ H Q) (q : ∀ w H1, Q w H1 → Q' w H1) : rdT T W f σ H Q' := by
  obtain ⟨R, ρ, M, e, s, p⟩ := h
  refine ⟨R, ρ, M, e, s, ?_⟩
  cases z : f ρ M with
  | ok v M' =>
    rw [z] at p
    cases v with
    | bl k => exact fun R2 H2 p2 k2 s2 => q _ _ (p R2 H2 p2 k2 s2)
    | _ => exact p
  | exc c M' =>
    rw [z] at p
    exact p
  | bad =>
    rw [z] at p
    exact p
theorem s_if {c : Expr} {xs ys : List Stmt} {u : Mn.St} (hc : PT X c (rdT T W fc)) (ha : PSs X xs (rdS T W t)) (hb : PSs X ys (rdS T W u)) : PS X (.If c xs ys pos) (rdS T W (Mn.sIf fc t u)) :=
  PS.imp (ps_if hc ha hb) fun σ H D ⟨R, ρ, M, e, s, p⟩ => by
    refine rdT_mono (stT_rd e s p) fun k H1 ⟨R1, M1, e1, s1, q⟩ => ?_
    cases k with
    | true =>
      rw [if_pos rfl] at q ⊢
      exact ⟨R1, ρ, M1, e1, s1, q⟩
    | false =>
      rw [if_neg Bool.false_ne_true] at q ⊢
      exact ⟨R1, ρ, M1, e1, s1, q⟩
def PostG (T : Tb) (ts : List Nat) (R : List Addr) (H : Hp) (σ : L2.St) (Q : L2.St → Hp → Prop) : Mn.RS → Prop
  | .nx ρ' M' => ∀ R' H' σ', R <+: R' → Keep R R' H H' → Sim T R' H' M' → EnvR T R' H' ρ' σ' → σ'.length = σ.length → (∀ j, j ∉ ts → σ'[j]? = σ[j]?) → Q σ' H'
  | _ => False
def rdG (T : Tb) (ts : List Nat) (t : Tg) : TG := fun v σ H Q => ∃ R ρ M x, EnvR T R H ρ σ ∧ Sim T R H M ∧ Rel T R H x v ∧ PostG T ts R H σ Q (t x ρ M)
def rdGs (T : Tb) (ts : List Nat) (t : List Tg) : TGs := fun vs σ H Q => ∃ R ρ M xs, EnvR T R H ρ σ ∧ Sim T R H M ∧ Rels T R H xs vs ∧ PostG T ts R H σ Q (Mn.tAll t xs ρ M)
theorem PG.imp {e : Expr} {t t' : TG} (h : PG X e t) (i : ∀ v σ H Q, t' v σ H Q → t v σ H Q) : PG X e t' := ⟨fun pins s σ H v u Q I r q => h.run pins s σ H v u Q I r (i v σ H Q q)⟩
theorem PGs.imp {e : List Expr} {t t' : TGs} (h : PGs X e t) (i : ∀ v σ H Q, t' v σ H Q → t v σ H Q) : PGs X e t' := ⟨fun pins s σ H v u Q I r q => h.run pins s σ H v u Q I r (i v σ H Q q)⟩
theorem g_name {i : Nat} (h : PG X e (gName i)) : PG X e (rdG T [i] (Mn.tName i)) := PG.imp h fun v σ H Q ⟨R, ρ, M, x, e, s, r, p⟩ =>
  p R H _ (List.prefix_refl R) (Keep.refl H) s (e.set r i) (List.length_set) fun j hj => List.getElem?_set_ne fun z => hj (by simp [z])
theorem gs_nil : PGs X [] (rdGs T [] []) := PGs.imp pgs_nil fun v σ H Q ⟨R, ρ, M, xs, e, s, r, p⟩ => by
  cases r with
  | nil => exact ⟨rfl, p R H σ (List.prefix_refl R) (Keep.refl H) s e rfl fun _ _ => rfl⟩
  | cons _ _ => exact p.elim
theorem gs_cons {ts us : List Nat} {t : Tg} {u : List Tg} (h1 : PG X e (rdG T ts t)) (h2 : PGs X es (rdGs T us u)) (hs : (assignEach (e :: es) X.env).map (·.2) = assign e X.env :: (assignEach es X.env).map (·.2)) : PGs X (e :: es) (rdGs T (ts ++ us) (t :: u)) :=
  PGs.imp (pgs_cons h1 h2 hs) fun v σ H Q ⟨R, ρ, M, xs, e, s, r, p⟩ => by
    cases r with
    | nil => exact p.elim
    | @cons x w xs ws r1 r2 =>
      refine ⟨w, ws, rfl, R, ρ, M, x, e, s, r1, ?_⟩
      unfold Mn.tAll at p
      cases q : t x ρ M with
      | nx ρ1 M1 =>
        rw [q] at p
        intro R1 H1 σ1 p1 k1 s1 e1 l1 d1
        refine ⟨R1, ρ1, M1, xs, e1, s1, r2.mono p1 k1, ?_⟩
        have p : PostG T (ts ++ us) R H σ Q (Mn.tAll u xs ρ1 M1) := p
        cases q2 : Mn.tAll u xs ρ1 M1 with
        | nx ρ2 M2 =>
          rw [q2] at p
          intro R2 H2 σ2 p2 k2 s2 e2 l2 d2
          refine p R2 H2 σ2 (p1.trans p2) (k1.trans k2) s2 e2 (l2.trans l1) fun j hj => ?_
          rw [List.mem_append] at hj
          exact (d2 j fun z => hj (.inr z)).trans (d1 j fun z => hj (.inl z))
        | _ =>
          rw [q2] at p
          exact p.elim
      | _ =>
        rw [q] at p
        exact p.elim
def rdSt (T : Tb) (f : Val → Val → Val → Store → Option Store) : TSet := fun o i v H Q => ∃ R M x y z, Sim T R H M ∧ Rel T R H x o ∧ Rel T R H y i ∧ Rel T R H z v ∧ ∃ M', f x y z M = some M' ∧ ∀ H', Keep R R H H' → Sim T R H' M' → Q H'
theorem g_sub {o i : Expr} {fo fi : E} (hs : PSet X (rdSt T Mn.setIt)) (ho : PE X o (rdE T W fo)) (hi : PE X i (rdE T W fi))
    (ha : ∀ v, assign (.Subscript o i pos) X.env v = (do
      let ov ← holding [v] (eval o X.env)
      let iv ← holding [v, ov] (eval i X.env)
      standAt pos
      holding [v, ov, iv] (setItem ov iv v)
      release [v, ov, iv] [])) : PG X (.Subscript o i pos) (rdG T [] (Mn.tSub fo fi)) :=
  PG.imp (pg_sub ho hi hs ha) fun v σ H Q ⟨R, ρ, M, x, e, s, r, p⟩ => by
    refine ⟨R, ρ, M, e, s, ?_⟩
    unfold Mn.tSub at p
    cases q : fo ρ M with
    | ok ov M1 =>
      simp only [q] at p
      intro R1 H1 w1 p1 k1 s1 r1
      refine ⟨R1, ρ, M1, e.mono p1 k1, s1, ?_⟩
      cases q2 : fi ρ M1 with
      | ok iv M2 =>
        simp only [q2] at p
        intro R2 H2 w2 p2 k2 s2 r2
        cases q3 : Mn.setIt ov iv x M2 with
        | some M3 =>
          simp only [q3] at p
          refine ⟨R2, M2, ov, iv, x, s2, r1.mono p2 k2, r2, r.mono (p1.trans p2) (k1.trans k2), M3, q3, fun H3 k3 s3 => ?_⟩
          exact p R2 H3 σ (p1.trans p2) ((k1.trans k2).trans k3) s3 ((e.mono (p1.trans p2) (k1.trans k2)).mono (List.prefix_refl R2) k3) rfl fun _ _ => rfl
        | none =>
          simp only [q3] at p
          exact p.elim
      | _ =>
        simp only [q2] at p
        exact p.elim
    | _ =>
      simp only [q] at p
      exact p.elim
theorem PG.or {e : Expr} {t t' : TG} (h : PG X e t) (h' : PG X e t') : PG X e (fun v σ H Q => t v σ H Q ∨ t' v σ H Q) :=
  ⟨fun pins s σ H v u Q I r q => q.elim (h.run pins s σ H v u Q I r) (h'.run pins s σ H v u Q I r)⟩
theorem g_tup {k : Nat} {ts : List Nat} {t : List Tg} (hK : X.K = T.K) (hc : X.calm = true) (h : PGs X es (rdGs T ts t)) (hl : es.length = t.length) (hn : (assignEach es X.env).length = es.length) (hst : (assignEach es X.env).findIdx? (·.1) = none) : PG X (.Tuple es k pos) (rdG T ts (Mn.tTup t)) :=
  PG.imp (PG.or (pg_tup hc h hn hst) (pg_lst hc h hn hst)) fun v σ H Q ⟨R, ρ, M, x, e, s, r, p⟩ => by
    unfold Mn.tTup at p
    cases r with
    | @tup xs a vs ht rx =>
      by_cases hz : xs.length = t.length
      · simp only [Mn.seqOf, if_pos hz] at p
        exact .inl ⟨_, vs, rfl, by rw [hK]; exact ht.sq, by rw [← rx.length, hz, hl], R, ρ, M, xs, e, s, rx, p⟩
      · simp only [Mn.seqOf, if_neg hz] at p
        exact p.elim
    | @ref n a hn2 =>
      cases el : Mn.lstAt M n with
      | none =>
        simp only [Mn.seqOf, el] at p
        exact p.elim
      | some xs =>
        simp only [Mn.seqOf, el] at p
        by_cases hz : xs.length = t.length
        · simp only [if_pos hz] at p
          obtain ⟨a', vs, ha, sq, rx⟩ := s.lst el
          rw [hn2] at ha
          cases ha
          exact .inr ⟨_, vs, rfl, by rw [hK]; exact sq, by rw [← rx.length, hz, hl], R, ρ, M, xs, e, s, rx, p⟩
        · simp only [if_neg hz] at p
          exact p.elim
    | _ => exact p.elim
theorem asg_rd {ts : List Nat} {t : Tg} : ∀ σ H D, rdS T W (Mn.sAsg t f) D σ H → tAsg (rdE T W f) (rdG T ts t) D σ H := fun σ H D ⟨R, ρ, M, e, s, p⟩ => by
  refine rdE_mono (st_rd e s p) fun x H1 ⟨R1, M1, v, e1, s1, r1, q⟩ => ?_
  refine ⟨R1, ρ, M1, v, e1, s1, r1, ?_⟩
  cases z : t v ρ M1 with
  | nx ρ' M' =>
    rw [z] at q
    exact fun R2 H2 σ' p2 k2 s2 e' _ _ => q R2 H2 σ' p2 k2 s2 e'
  | _ =>
    rw [z] at q
    exact q.elim
theorem s_par {i j : Nat} (h : PS X st (tPar i j (rdA T W [fa, fb]))) : PS X st (rdS T W (Mn.sPar i j fa fb)) := PS.imp h fun σ H D ⟨R, ρ, M, e, s, p⟩ => by
  refine ⟨R, ρ, M, e, s, ?_⟩
  cases q : Mn.evL [fa, fb] ρ M with
  | bad =>
    unfold Mn.sPar at p
    rw [q] at p
    exact p
  | exc c M' =>
    unfold Mn.sPar at p
    rw [q] at p
    exact fun hc R1 H1 p1 k1 s1 => p hc R1 H1 σ p1 k1 s1 (e.mono p1 k1)
  | ok vs M' =>
    unfold Mn.sPar at p
    rw [q] at p
    intro R1 H1 ws p1 k1 s1 r1
    cases r1 with
    | nil => exact p.elim
    | cons ra rr =>
      cases rr with
      | nil => exact p.elim
      | cons rb rr =>
        cases rr with
        | cons _ _ => exact p.elim
        | nil => exact ⟨_, _, rfl, p R1 H1 _ p1 k1 s1 (((e.mono p1 k1).set ra i).set rb j)⟩
theorem s_while {c : Expr} {body : List Stmt} {b : Mn.St} (hp : PassesOwn (model X.prog X.w) X.A X.env X.xe) (hc : PT X c (rdT T W fc)) (hb : PSs X body (rdS T W b)) : PS X (.While c body [] pos) (rdS T W (Mn.sWhile fc b)) :=
  PS.imp (ps_while hp hc hb) fun σ H D ⟨R, ρ, M, e, s, p⟩ => by
    refine ⟨fun m σ H => ∃ R ρ M, EnvR T R H ρ σ ∧ Sim T R H M ∧ PostS T W D R H (Mn.sWhileN fc b m ρ M), ⟨_, R, ρ, M, e, s, p⟩, ?_⟩
    rintro m σ H ⟨R, ρ, M, e, s, p⟩
    cases m with
    | zero => exact p.elim
    | succ m =>
      have p2 : PostS T W D R H ((fc ρ M).st ρ fun v M1 => match v with
        | .bl true => (match b ρ M1 with
          | .nx ρ' M' => Mn.sWhileN fc b m ρ' M'
          | .ct ρ' M' => Mn.sWhileN fc b m ρ' M'
          | .bk ρ' M' => .nx ρ' M'
          | r => r)
        | .bl false => .nx ρ M1
        | _ => .bad) := by
        unfold Mn.sWhileN at p
        have e : (fun (v : Val) (M1 : Store) => (match v with
          | .bl false => Mn.RS.nx ρ M1
          | .bl true => (match b ρ M1 with
            | .nx ρ' M' => Mn.sWhileN fc b m ρ' M'
            | .ct ρ' M' => Mn.sWhileN fc b m ρ' M'
            | .bk ρ' M' => .nx ρ' M'
            | r => r)
          | _ => .bad)) = fun v M1 => match v with
          | .bl true => (match b ρ M1 with
            | .nx ρ' M' => Mn.sWhileN fc b m ρ' M'
            | .ct ρ' M' => Mn.sWhileN fc b m ρ' M'
            | .bk ρ' M' => .nx ρ' M'
            | r => r)
          | .bl false => .nx ρ M1
          | _ => .bad := by
          funext v M1
          cases v with
          | bl k => cases k <;> rfl
          | _ => rfl
        rw [← e]
        exact p
      refine rdT_mono (stT_rd e s p2) fun k H1 ⟨R1, M1, e1, s1, q⟩ => ?_
      cases k with
      | false =>
        rw [if_neg Bool.false_ne_true] at q ⊢
        exact q R1 H1 σ (List.prefix_refl R1) (Keep.refl H1) s1 e1
      | true =>
        rw [if_pos rfl] at q ⊢
        refine ⟨fun σ' H' => ∃ R ρ M, EnvR T R H' ρ σ' ∧ Sim T R H' M ∧ PostS T W D R H' (Mn.sWhileN fc b m ρ M), fun σ' H' h => ⟨m, Nat.lt_succ_self m, h⟩, R1, ρ, M1, e1, s1, ?_⟩
        cases z : b ρ M1 with
        | nx ρ2 M2 =>
          rw [z] at q
          exact fun R3 H3 σ3 p3 k3 s3 e3 => ⟨R3, ρ2, M2, e3, s3, PostS.mono (r := Mn.sWhileN fc b m ρ2 M2) q p3 k3⟩
        | ct ρ2 M2 =>
          rw [z] at q
          exact fun R3 H3 σ3 p3 k3 s3 e3 => ⟨R3, ρ2, M2, e3, s3, PostS.mono (r := Mn.sWhileN fc b m ρ2 M2) q p3 k3⟩
        | bk ρ2 M2 =>
          rw [z] at q
          exact q
        | ret v M2 =>
          rw [z] at q
          exact q
        | exc c ρ2 M2 =>
          rw [z] at q
          exact q
        | bad =>
          rw [z] at q
          exact q
end
end MnS
end
section
set_option Elab.async false
set_option autoImplicit false
set_option linter.all false
set_option maxRecDepth 100000
set_option maxHeartbeats 1000000
namespace MnS
open PySem PySem.Spec PyProof.Rows L2
open Mn (Val Cell Store E Fn Op U Itr Src Tg)
structure ItOk (T : Tb) (R0 : List Addr) (H0 : Hp) (it : Itr) (J : It) : Prop where
  stop : ∀ R H M, R0 <+: R → Keep R0 R H0 H → Sim T R H M → it.fin M = true → J.stop it.n H
  go : ∀ (i : Nat) (R : List Addr) (H : Hp) (M : Store) (v : Val), R0 <+: R → Keep R0 R H0 H → Sim T R H M → i < it.n → it.nxt i M = some v →
    J.go i H ∧ ∀ x H', J.yld i H x H' → ∃ R', R <+: R' ∧ Keep R R' H H' ∧ Sim T R' H' M ∧ Rel T R' H' v x
theorem ItOk.mono {T : Tb} {R0 R1 : List Addr} {H0 H1 : Hp} {it : Itr} {J : It} (o : ItOk T R0 H0 it J) (p : R0 <+: R1) (k : Keep R0 R1 H0 H1) : ItOk T R1 H1 it J :=
  ⟨fun R H M q k2 => o.stop R H M (p.trans q) (k.trans k2), fun i R H M v q k2 => o.go i R H M v (p.trans q) (k.trans k2)⟩
def rdI (T : Tb) (W : WX) (f : Src) : TI := fun σ H Q => ∃ R ρ M, EnvR T R H ρ σ ∧ Sim T R H M ∧ match f ρ M with
  | .ok it M' => ∀ R' H' J, R <+: R' → Keep R R' H H' → Sim T R' H' M' → ItOk T R' H' it J → Q J H'
  | .exc c M' => c ∈ T.xs → ∀ R' H', R <+: R' → Keep R R' H H' → Sim T R' H' M' → W (.ref (T.ca c)) none σ H'
  | .bad => False
section
variable {X : Cx} {T : Tb} {W : WX} {a b c e tg : Expr} {es : List Expr} {fa fb fc f : E} {fs : List E} {s t : Mn.St} {pos : Pos} {R R' : List Addr} {H H' : Hp} {D D' : Ends} {st : Stmt} {sts : List Stmt}
theorem PI.imp {e : Expr} {t t' : TI} (h : PI X tg e t) (i : ∀ σ H Q, t' σ H Q → t σ H Q) : PI X tg e t' := ⟨fun pins s σ H R I q => h.run pins s σ H R I (i σ H R q)⟩
theorem src_rd {g : Val → Store → Mn.R Itr} {Q : It → Hp → Prop} {ρ : Mn.Env} {M : Store} {σ : L2.St} (e : EnvR T R H ρ σ) (s : Sim T R H M) (h : match (fa ρ M).bind g with
    | .ok it M' => ∀ R' H' J, R <+: R' → Keep R R' H H' → Sim T R' H' M' → ItOk T R' H' it J → Q J H'
    | .exc c M' => c ∈ T.xs → ∀ R' H', R <+: R' → Keep R R' H H' → Sim T R' H' M' → W (.ref (T.ca c)) none σ H'
    | .bad => False) : rdE T W fa σ H fun x H1 => ∃ R1 M1 v, EnvR T R1 H1 ρ σ ∧ Sim T R1 H1 M1 ∧ Rel T R1 H1 v x ∧ R <+: R1 ∧ Keep R R1 H H1 ∧ match g v M1 with
    | .ok it M' => ∀ R' H' J, R1 <+: R' → Keep R1 R' H1 H' → Sim T R' H' M' → ItOk T R' H' it J → Q J H'
    | .exc c M' => c ∈ T.xs → ∀ R' H', R1 <+: R' → Keep R1 R' H1 H' → Sim T R' H' M' → W (.ref (T.ca c)) none σ H'
    | .bad => False := by
  refine ⟨R, ρ, M, e, s, ?_⟩
  cases q : fa ρ M with
  | bad =>
    rw [q] at h
    exact h
  | exc c M' =>
    rw [q] at h
    exact h
  | ok v M' =>
    rw [q, Mn.R.bind_ok] at h
    intro R1 H1 w p1 k1 s1 r1
    refine ⟨R1, M', v, e.mono p1 k1, s1, r1, p1, k1, ?_⟩
    cases z : g v M' with
    | bad =>
      rw [z] at h
      exact h
    | exc c M2 =>
      rw [z] at h
      exact fun hc R2 H2 p2 k2 s2 => h hc R2 H2 (p1.trans p2) (k1.trans k2) s2
    | ok it M2 =>
      rw [z] at h
      exact fun R2 H2 J p2 k2 s2 o2 => h R2 H2 J (p1.trans p2) (k1.trans k2) s2 o2
def SqA (K : PySem.W.Frag) (H : Hp) (v : Val) (a : Addr) (vs : List V) : Prop := match v with
  | .ref _ => SqL K H a vs
  | _ => SqT K H a vs
theorem Sim.seq {M : Store} (S : Sim T R H M) {v : Val} {x : V} {xs : List Val} (r : Rel T R H v x) (h : Mn.seqOf M v = some xs) : ∃ a vs, x = .ref a ∧ SqA T.K H v a vs ∧ Rels T R H xs vs := by
  cases r with
  | @tup ys a vs ht rx =>
    cases h
    exact ⟨a, vs, rfl, ht.sq, rx⟩
  | @ref n a hn =>
    obtain ⟨a', vs, ha, sq, rx⟩ := S.lst h
    rw [hn] at ha
    cases ha
    exact ⟨a, vs, rfl, sq, rx⟩
  | _ => cases h
theorem it_list {n len : Nat} {a : Addr} (hn : R[n]? = some a) : ItOk T R H (Mn.itSeq (.ref n) len) (Itl T.K a) := by
  refine ⟨fun R' H M p _ S h => ?_, fun i R' H M v p _ S hi h => ?_⟩
  · have h : (match Mn.lstAt M n with | some ys => decide (ys.length ≤ len) | none => false) = true := h
    cases e : Mn.lstAt M n with
    | none =>
      rw [e] at h
      cases h
    | some ys =>
      rw [e] at h
      obtain ⟨a', vs, ha, sq, rx⟩ := S.lst e
      rw [pre_get p hn] at ha
      cases ha
      exact ⟨vs, sq, by rw [← rx.length]; exact of_decide_eq_true h⟩
  · have h : (Mn.lstAt M n).bind (fun ys => ys[i]?) = some v := h
    cases e : Mn.lstAt M n with
    | none =>
      rw [e] at h
      cases h
    | some ys =>
      rw [e] at h
      obtain ⟨a', vs, ha, sq, rx⟩ := S.lst e
      rw [pre_get p hn] at ha
      cases ha
      obtain ⟨w, hw, rw_⟩ := rx.get (i := i) h
      refine ⟨⟨vs, w, sq, hw⟩, fun x H' ⟨e1, e2⟩ => ?_⟩
      subst e1
      have e3 := e2 vs sq
      rw [hw] at e3
      cases e3
      exact ⟨R', List.prefix_refl R', Keep.refl _, S, rw_⟩
theorem it_tup {xs : List Val} {a : Addr} {vs : List V} (ht : TupAt T.K H a vs) (rx : Rels T R H xs vs) : ItOk T R H (Mn.itSeq (.tup xs) xs.length) (Itt T.K a) := by
  refine ⟨fun R' H M p k S h => ?_, fun i R' H M v p k S hi h => ?_⟩
  · exact ⟨vs, (ht.keep k).sq, Nat.le_of_eq rx.length.symm⟩
  · have h : xs[i]? = some v := h
    obtain ⟨w, hw, rw_⟩ := (rx.mono p k).get (i := i) h
    refine ⟨⟨vs, w, (ht.keep k).sq, hw⟩, fun x H' ⟨e1, e2⟩ => ?_⟩
    subst e1
    have e3 := e2 vs (ht.keep k).sq
    rw [hw] at e3
    cases e3
    exact ⟨R', List.prefix_refl R', Keep.refl _, S, rw_⟩
theorem PI.or {e : Expr} {t t' : TI} (h : PI X tg e t) (h' : PI X tg e t') : PI X tg e (fun σ H Q => t σ H Q ∨ t' σ H Q) :=
  ⟨fun pins s σ H R I q => q.elim (h.run pins s σ H R I) (h'.run pins s σ H R I)⟩
theorem i_list (hK : X.K = T.K) (ha : PE X a (rdE T W fa)) : PI X tg a (rdI T W (Mn.iList fa)) := PI.imp (PI.or (pi_list ha) (pi_tup ha)) fun σ H Q ⟨R, ρ, M, e, s, p⟩ => by
  by_cases hv : ∃ xs M1, fa ρ M = .ok (.tup xs) M1
  · obtain ⟨xs, M1, hv⟩ := hv
    refine .inr ⟨R, ρ, M, e, s, ?_⟩
    unfold Mn.iList at p
    rw [hv] at p ⊢
    intro R1 H1 x p1 k1 s1 r1
    cases r1 with
    | @tup _ a vs ht rx =>
      refine ⟨a, rfl, ⟨vs, by rw [hK]; exact ht.sq⟩, ?_⟩
      rw [hK]
      exact p R1 H1 _ p1 k1 s1 (it_tup ht rx)
  · refine .inl ?_
    refine ⟨R, ρ, M, e, s, ?_⟩
    unfold Mn.iList at p
    cases z : fa ρ M with
    | bad =>
      rw [z] at p
      exact p
    | exc c M1 =>
      rw [z] at p
      exact p
    | ok v M1 =>
      rw [z, Mn.R.bind_ok] at p
      intro R1 H1 x p1 k1 s1 r1
      cases r1 with
      | @ref n a hn =>
        cases el : Mn.lstAt M1 n with
        | none =>
          simp only [Mn.seqOf, el] at p
        | some xs =>
          simp only [Mn.seqOf, el] at p
          obtain ⟨a', vs, ha, sq, rx⟩ := s1.lst el
          rw [hn] at ha
          cases ha
          refine ⟨_, rfl, ⟨vs, by rw [hK]; exact sq⟩, ?_⟩
          rw [hK]
          exact p R1 H1 _ p1 k1 s1 (it_list hn)
      | @tup xs a vs ht rx => exact absurd ⟨xs, M1, z⟩ hv
      | _ => exact p.elim
theorem it_range {lo : Int} {n : Nat} : ItOk T R H ⟨n, fun k _ => some (.int (lo + (k : Int))), fun _ => true⟩ (Itr lo n) := by
  refine ⟨fun R' H M p _ S h => Nat.le_refl n, fun i R' H M v p _ S hi h => ⟨hi, fun x H' ⟨e1, e2⟩ => ?_⟩⟩
  subst e1
  subst e2
  cases h
  exact ⟨R', List.prefix_refl R', Keep.refl _, S, .int _⟩
theorem i_range1 (h : PI X tg e (iRng1 (tCons (rdE T W fa) tNil))) : PI X tg e (rdI T W (Mn.iRange1 fa)) := PI.imp h fun σ H Q ⟨R, ρ, M, e, s, p⟩ => by
  refine rdE_mono (src_rd e s p) fun x H1 ⟨R1, M1, v, e1, s1, r1, p1, k1, q⟩ => ?_
  cases r1 with
  | int j =>
    by_cases hz : -(2 ^ 62) ≤ j ∧ j < 2 ^ 62
    · simp only [if_pos hz] at q
      exact ⟨j, rfl, hz.1, hz.2, q R1 H1 _ (List.prefix_refl R1) (Keep.refl _) s1 it_range⟩
    · simp only [if_neg hz] at q
  | _ => exact q.elim
theorem i_range2 (h : PI X tg e (iRng2 (tCons (rdE T W fa) (tCons (rdE T W fb) tNil)))) : PI X tg e (rdI T W (Mn.iRange2 fa fb)) := PI.imp h fun σ H Q ⟨R, ρ, M, e, s, p⟩ => by
  refine rdE_mono (src_rd e s p) fun x H1 ⟨R1, M1, v, e1, s1, r1, p1, k1, q⟩ => ?_
  refine rdE_mono (src_rd e1 s1 q) fun y H2 ⟨R2, M2, u, e2, s2, r2, p2, k2, q2⟩ => ?_
  have r1 := r1.mono p2 k2
  cases r1 with
  | int i =>
    cases r2 with
    | int j =>
      by_cases hz : -(2 ^ 62) ≤ i ∧ i < 2 ^ 62 ∧ -(2 ^ 62) ≤ j ∧ j < 2 ^ 62
      · simp only [if_pos hz] at q2
        exact ⟨i, j, rfl, hz, q2 R2 H2 _ (List.prefix_refl R2) (Keep.refl _) s2 it_range⟩
      · simp only [if_neg hz] at q2
    | _ => exact q2.elim
  | _ => exact q2.elim
theorem s_for {iter : Expr} {body : List Stmt} {b : Mn.St} {f : Src} {ts : List Nat} {t : Tg} (hp : PassesOwn (model X.prog X.w) X.A X.env X.xe) (hc : X.calm = true) (hi : PI X tg iter (rdI T W f)) (hg : PG X tg (rdG T ts t)) (hb : PSs X body (rdS T W b))
    (hs : ∀ x, foldedSetIterable iter X.env x = pure x) : PS X (.For tg iter body [] pos) (rdS T W (Mn.sFor f t b)) :=
  PS.imp (ps_for hp hc hi hg hb hs) fun σ H D ⟨R, ρ, M, e, s, p⟩ => by
    refine ⟨R, ρ, M, e, s, ?_⟩
    unfold Mn.sFor at p
    cases q : f ρ M with
    | bad =>
      rw [q] at p
      exact p
    | exc c M' =>
      rw [q] at p
      exact fun hc R1 H1 p1 k1 s1 => p hc R1 H1 σ p1 k1 s1 (e.mono p1 k1)
    | ok it M1 =>
      rw [q] at p
      intro R1 H1 J p1 k1 s1 o1
      refine ⟨fun i m σ H => ∃ R ρ M, R1 <+: R ∧ Keep R1 R H1 H ∧ EnvR T R H ρ σ ∧ Sim T R H M ∧ i + m = it.n ∧ PostS T W D R H (Mn.sForN it t b m i ρ M), ⟨it.n, R1, ρ, M1, List.prefix_refl _, Keep.refl _, e.mono p1 k1, s1, Nat.zero_add _, PostS.mono (r := Mn.sForN it t b it.n 0 ρ M1) p p1 k1⟩, ?_⟩
      rintro i m σ H ⟨R, ρ, M, pr, kr, e, s, hm, p⟩
      cases m with
      | zero =>
        unfold Mn.sForN at p
        split at p
        · rename_i hf
          have hi : i = it.n := by omega
          subst hi
          exact .inl ⟨o1.stop R H M pr kr s hf, p R H σ (List.prefix_refl R) (Keep.refl _) s e⟩
        · exact p.elim
      | succ m =>
        unfold Mn.sForN at p
        cases en : it.nxt i M with
        | none =>
          rw [en] at p
          exact p.elim
        | some v =>
          simp only [en] at p
          obtain ⟨g1, g2⟩ := o1.go i R H M v pr kr s (by omega) en
          refine .inr ⟨g1, fun σ' H' => ∃ R ρ M, R1 <+: R ∧ Keep R1 R H1 H' ∧ EnvR T R H' ρ σ' ∧ Sim T R H' M ∧ (i + 1) + m = it.n ∧ PostS T W D R H' (Mn.sForN it t b m (i + 1) ρ M), fun σ' H' h => ⟨m, Nat.lt_succ_self m, h⟩, fun x H' hy => ?_⟩
          obtain ⟨R2, p2, k2, s2, r2⟩ := g2 x H' hy
          refine ⟨R2, ρ, M, v, e.mono p2 k2, s2, r2, ?_⟩
          cases et : t v ρ M with
          | nx ρ1 M1 =>
            simp only [et] at p
            intro R3 H3 σ3 p3 k3 s3 e3 _ _
            refine ⟨R3, ρ1, M1, e3, s3, ?_⟩
            have p := PostS.mono p (p2.trans p3) (k2.trans k3)
            cases z : b ρ1 M1 with
            | nx ρ3 M3 =>
              rw [z] at p
              exact fun R4 H4 σ4 p4 k4 s4 e4 => ⟨R4, ρ3, M3, pr.trans (p2.trans (p3.trans p4)), kr.trans (k2.trans (k3.trans k4)), e4, s4, by omega, PostS.mono (r := Mn.sForN it t b m (i + 1) ρ3 M3) p p4 k4⟩
            | ct ρ3 M3 =>
              rw [z] at p
              exact fun R4 H4 σ4 p4 k4 s4 e4 => ⟨R4, ρ3, M3, pr.trans (p2.trans (p3.trans p4)), kr.trans (k2.trans (k3.trans k4)), e4, s4, by omega, PostS.mono (r := Mn.sForN it t b m (i + 1) ρ3 M3) p p4 k4⟩
            | bk ρ3 M3 =>
              rw [z] at p
              exact p
            | ret v M3 =>
              rw [z] at p
              exact p
            | exc c ρ3 M3 =>
              rw [z] at p
              exact p
            | bad =>
              rw [z] at p
              exact p
          | _ =>
            simp only [et] at p
            exact p.elim
def rdB (T : Tb) (f : U) : List V → Hp → VK → Prop := fun xs H Q => ∃ x, xs = [x] ∧ rdU T f x H Q
theorem b_rd {g : U} : ∀ σ H Q, rdE T W (Mn.eUn g fa) σ H Q → tCB (rdB T g) (tCons (rdE T W fa) tNil) σ H Q := fun σ H Q h => rdE_mono (un_rd σ H Q h) fun x H1 q => ⟨x, rfl, q⟩
theorem b_abs : CallR X (.builtin "abs") (rdB T Mn.uAbs) := by
  intro pins s σ H xs us Q I r ⟨x, e, R, M, u, S, ra, p⟩
  subst e
  unfold Mn.uAbs at p
  split at p
  · cases ra
    exact call_abs pins s σ H _ us Q I r ⟨_, rfl, post_ok S p (.int _)⟩
  · exact p.elim
theorem b_len (hK : X.K = T.K) : CallR X (.builtin "len") (rdB T Mn.uLen) := by
  intro pins s σ H xs us Q I r ⟨x, e, R, M, u, S, ra, p⟩
  subst e
  unfold Mn.uLen at p
  split at p
  · cases ra with
    | tup ht rx =>
      refine call_len_seq pins s σ H _ us Q I r ⟨_, _, rfl, .inr (by rw [hK]; exact ht.sq), ?_⟩
      rw [← rx.length]
      exact post_ok S p (.int _)
  · split at p
    · rename_i hz
      cases ra
      refine call_len_str pins s σ H _ us Q I r ⟨_, rfl, by rw [sOf_len, ← szLine_eq]; exact hz, ?_⟩
      rw [sOf_len]
      exact post_ok S p (.int _)
    · exact p.elim
  · split at p
    · rename_i el
      cases ra with
      | ref hn =>
        obtain ⟨a', vs, ha, sq, rx⟩ := S.lst el
        rw [hn] at ha
        cases ha
        refine call_len_seq pins s σ H _ us Q I r ⟨_, _, rfl, .inl (by rw [hK]; exact sq), ?_⟩
        rw [← rx.length]
        exact post_ok S p (.int _)
    · exact p.elim
  · exact p.elim
end
end MnS
end
section
set_option Elab.async false
set_option autoImplicit false
set_option linter.all false
set_option maxRecDepth 100000
set_option maxHeartbeats 2000000
namespace MnS
open PySem PySem.Spec PyProof.Rows L2
open Mn (Val Cell Store E Fn Op U Itr Src Tg)
section
variable {X : Cx} {T : Tb} {W : WX} {a b c e tg : Expr} {es : List Expr} {fa fb fc f : E} {fs : List E} {s t : Mn.St} {pos : Pos} {R R' : List Addr} {H H' : Hp} {M : Store}
theorem it_enum {n len : Nat} {a : Addr} (hn : R[n]? = some a) : ItOk T R H (Mn.itEnum n len) (Ite T.K a) := by
  refine ⟨fun R' H M p _ S h => ?_, fun i R' H M v p _ S hi h => ?_⟩
  · have h : (match Mn.lstAt M n with | some ys => decide (ys.length ≤ len) | none => false) = true := h
    cases e : Mn.lstAt M n with
    | none =>
      rw [e] at h
      cases h
    | some ys =>
      rw [e] at h
      obtain ⟨a', vs, ha, sq, rx⟩ := S.lst e
      rw [pre_get p hn] at ha
      cases ha
      exact ⟨vs, sq, by rw [← rx.length]; exact of_decide_eq_true h⟩
  · have h : (Mn.lstAt M n).bind (fun ys => ys[i]?.map fun y => .tup [.int i, y]) = some v := h
    cases e : Mn.lstAt M n with
    | none =>
      rw [e] at h
      cases h
    | some ys =>
      rw [e] at h
      obtain ⟨y, hy, rfl⟩ := Option.map_eq_some_iff.mp (show ys[i]?.map (fun y => Val.tup [.int i, y]) = some v from h)
      obtain ⟨a', vs, ha, sq, rx⟩ := S.lst e
      rw [pre_get p hn] at ha
      cases ha
      obtain ⟨w, hw, rw_⟩ := rx.get (i := i) hy
      refine ⟨⟨vs, w, sq, hw⟩, fun x H' ⟨tp, z, e1, e2, e3, e4⟩ => ?_⟩
      subst e1 e3
      have e5 := e4 vs sq
      rw [hw] at e5
      cases e5
      exact ⟨R', List.prefix_refl R', Keep.new e2, S.other e2, .tup (.inl upd_same) (.cons (.int _) (.cons (rw_.mono (List.prefix_refl R') (Keep.new e2)) .nil))⟩
theorem i_enum {elts : List Expr} {kk : Nat} {tpos p : Pos} (hK : X.K = T.K) (hg : Gl X "enumerate") (hm : X.mg "enumerate" = none) (ha : PE X a (rdE T W fa)) (hs : ∀ es env, starEach (a :: es) env = (false, eval a env) :: starEach es env) :
    PI X (.Tuple elts kk tpos) (.Call (.Name "enumerate" p) [a] [] pos) (rdI T W (Mn.iEnum fa)) := PI.imp (pi_enum hg hm (pa_cons ha pa_nil (hs _ _)) (hs _ _)) fun σ H Q ⟨R, ρ, M, e, s, p⟩ => by
  refine rdE_mono (src_rd e s p) fun x H1 ⟨R1, M1, v, e1, s1, r1, p1, k1, q⟩ => ?_
  cases r1 with
  | @ref n a hn =>
    cases el : Mn.lstAt M1 n with
    | none => simp only [el] at q
    | some xs =>
      simp only [el] at q
      obtain ⟨a', vs, ha, sq, rx⟩ := s1.lst el
      rw [hn] at ha
      cases ha
      refine ⟨_, vs, rfl, by rw [hK]; exact sq, ?_⟩
      rw [hK]
      exact q R1 H1 _ (List.prefix_refl R1) (Keep.refl _) s1 (it_enum hn)
  | _ => exact q.elim
theorem it_zipL {m n len : Nat} {a b : Addr} (hm : R[m]? = some a) (hn : R[n]? = some b) : ItOk T R H (Mn.itZip (.ref m) (.ref n) len) (Itz T.K a b) := by
  refine ⟨fun R' H M p _ S h => ?_, fun i R' H M v p _ S hi h => ?_⟩
  · have h : (match Mn.lstAt M m, Mn.lstAt M n with
      | some xs, some ys => decide (xs.length ≤ len) || decide (ys.length ≤ len)
      | _, _ => false) = true := h
    split at h
    · rename_i xs ys e1 e2
      obtain ⟨a', vs, ha, sq, rx⟩ := S.lst e1
      obtain ⟨b', ws, hb, sq2, ry⟩ := S.lst e2
      rw [pre_get p hm] at ha
      rw [pre_get p hn] at hb
      cases ha
      cases hb
      rw [Bool.or_eq_true, decide_eq_true_eq, decide_eq_true_eq, rx.length, ry.length] at h
      exact ⟨vs, ws, sq, sq2, h⟩
    · cases h
  · have h : (match Mn.lstAt M m, Mn.lstAt M n with
      | some xs, some ys => match xs[i]?, ys[i]? with
        | some x, some y => some (Val.tup [x, y])
        | _, _ => none
      | _, _ => none) = some v := h
    split at h
    · rename_i xs ys e1 e2
      split at h
      · rename_i x y g1 g2
        cases h
        obtain ⟨a', vs, ha, sq, rx⟩ := S.lst e1
        obtain ⟨b', ws, hb, sq2, ry⟩ := S.lst e2
        rw [pre_get p hm] at ha
        rw [pre_get p hn] at hb
        cases ha
        cases hb
        obtain ⟨w1, hw1, q1⟩ := rx.get (i := i) g1
        obtain ⟨w2, hw2, q2⟩ := ry.get (i := i) g2
        refine ⟨⟨vs, ws, w1, w2, sq, sq2, hw1, hw2⟩, fun x H' ⟨tp, z1, z2, d1, d2, d3, d4, d5⟩ => ?_⟩
        subst d1 d3
        have d6 := d4 vs sq
        rw [hw1] at d6
        cases d6
        have d7 := d5 ws sq2
        rw [hw2] at d7
        cases d7
        exact ⟨R', List.prefix_refl R', Keep.new d2, S.other d2, .tup (.inl upd_same) (.cons (q1.mono (List.prefix_refl R') (Keep.new d2)) (.cons (q2.mono (List.prefix_refl R') (Keep.new d2)) .nil))⟩
      · cases h
    · cases h
theorem it_zipT {xs ys : List Val} {len : Nat} {a b : Addr} {vs ws : List V} (ht : TupAt T.K H a vs) (rx : Rels T R H xs vs) (hu : TupAt T.K H b ws) (ry : Rels T R H ys ws) : ItOk T R H (Mn.itZip (.tup xs) (.tup ys) len) (RZ.ItzT T.K a b) := by
  refine ⟨fun R' H M p k S h => ?_, fun i R' H M v p k S hi h => ?_⟩
  · have h : (decide (xs.length ≤ len) || decide (ys.length ≤ len)) = true := h
    rw [Bool.or_eq_true, decide_eq_true_eq, decide_eq_true_eq, rx.length, ry.length] at h
    exact ⟨vs, ws, (ht.keep k).sq, (hu.keep k).sq, h⟩
  · have h : (match xs[i]?, ys[i]? with
        | some x, some y => some (Val.tup [x, y])
        | _, _ => none) = some v := h
    split at h
    · rename_i x y g1 g2
      cases h
      obtain ⟨w1, hw1, q1⟩ := (rx.mono p k).get (i := i) g1
      obtain ⟨w2, hw2, q2⟩ := (ry.mono p k).get (i := i) g2
      refine ⟨⟨vs, ws, w1, w2, (ht.keep k).sq, (hu.keep k).sq, hw1, hw2⟩, fun x H' ⟨tp, z1, z2, d1, d2, d3, d4, d5⟩ => ?_⟩
      subst d1 d3
      have d6 := d4 vs (ht.keep k).sq
      rw [hw1] at d6
      cases d6
      have d7 := d5 ws (hu.keep k).sq
      rw [hw2] at d7
      cases d7
      exact ⟨R', List.prefix_refl R', Keep.new d2, S.other d2, .tup (.inl upd_same) (.cons (q1.mono (List.prefix_refl R') (Keep.new d2)) (.cons (q2.mono (List.prefix_refl R') (Keep.new d2)) .nil))⟩
    · cases h
theorem i_zip {elts : List Expr} {kk : Nat} {tpos p : Pos} (hK : X.K = T.K) (hg : Gl X "zip") (hm : X.mg "zip" = none) (ha : PE X a (rdE T W fa)) (hb : PE X b (rdE T W fb)) (hs : ∀ es env, starEach (a :: es) env = (false, eval a env) :: starEach es env)
    (hs2 : ∀ es env, starEach (b :: es) env = (false, eval b env) :: starEach es env) : PI X (.Tuple elts kk tpos) (.Call (.Name "zip" p) [a, b] [] pos) (rdI T W (Mn.iZip fa fb)) :=
  PI.imp (RZ.pi_zipA hg hm (pa_cons ha (pa_cons hb pa_nil (hs2 _ _)) (hs _ _)) (hs _ _) (by rw [hs2]; rfl)) fun σ H Q ⟨R, ρ, M, e, s, p⟩ => by
  refine rdE_mono (src_rd e s p) fun x H1 ⟨R1, M1, v, e1, s1, r1, p1, k1, q⟩ => ?_
  refine rdE_mono (src_rd e1 s1 q) fun y H2 ⟨R2, M2, w, e2, s2, r2, p2, k2, q2⟩ => ?_
  have r1 := r1.mono p2 k2
  cases r1 with
  | @ref m a hm =>
    cases r2 with
    | @ref n b hn =>
      simp only [Mn.sameKind, if_true, Mn.seqOf] at q2
      cases el : Mn.lstAt M2 m with
      | none => simp only [el] at q2
      | some xs =>
        cases el2 : Mn.lstAt M2 n with
        | none => simp only [el, el2] at q2
        | some ys =>
          simp only [el, el2] at q2
          obtain ⟨a', vs, ha, sq, rx⟩ := s2.lst el
          obtain ⟨b', ws, hb, sq2, ry⟩ := s2.lst el2
          rw [hm] at ha
          rw [hn] at hb
          cases ha
          cases hb
          refine ⟨_, _, vs, ws, rfl, .inl ⟨by rw [hK]; exact sq, by rw [hK]; exact sq2, ?_⟩⟩
          rw [hK]
          exact q2 R2 H2 _ (List.prefix_refl R2) (Keep.refl _) s2 (it_zipL hm hn)
    | _ => exact q2.elim
  | @tup xs a vs ht rx =>
    cases r2 with
    | @tup ys b ws hu ry =>
      simp only [Mn.sameKind, if_true, Mn.seqOf] at q2
      refine ⟨_, _, vs, ws, rfl, .inr ⟨by rw [hK]; exact ht.sq, by rw [hK]; exact hu.sq, ?_⟩⟩
      rw [hK]
      exact q2 R2 H2 _ (List.prefix_refl R2) (Keep.refl _) s2 (it_zipT ht rx hu ry)
    | _ => exact q2.elim
  | _ =>
    cases r2 <;> exact q2.elim
theorem it_revL {n len : Nat} {a : Addr} (hn : R[n]? = some a) : ItOk T R H (Mn.itRev (.ref n) len) (Itv T.K a len) := by
  refine ⟨fun R' H M p _ S h => Nat.le_refl len, fun i R' H M v p _ S hi h => ?_⟩
  have h : (Mn.lstAt M n).bind (fun ys => ys[len - 1 - i]?) = some v := h
  cases e : Mn.lstAt M n with
  | none =>
    rw [e] at h
    cases h
  | some ys =>
    rw [e] at h
    obtain ⟨a', vs, ha, sq, rx⟩ := S.lst e
    rw [pre_get p hn] at ha
    cases ha
    obtain ⟨w, hw, rw_⟩ := rx.get (i := len - 1 - i) h
    refine ⟨⟨hi, vs, w, sq, hw⟩, fun x H' ⟨e1, e2⟩ => ?_⟩
    subst e1
    have e3 := e2 vs sq
    rw [hw] at e3
    cases e3
    exact ⟨R', List.prefix_refl R', Keep.refl _, S, rw_⟩
theorem it_revT {xs : List Val} {len : Nat} {a : Addr} {vs : List V} (ht : TupAt T.K H a vs) (rx : Rels T R H xs vs) : ItOk T R H (Mn.itRev (.tup xs) len) (RT.ItvT T.K a len) := by
  refine ⟨fun R' H M p k S h => Nat.le_refl len, fun i R' H M v p k S hi h => ?_⟩
  have h : xs[len - 1 - i]? = some v := h
  obtain ⟨w, hw, rw_⟩ := (rx.mono p k).get (i := len - 1 - i) h
  refine ⟨⟨hi, vs, w, (ht.keep k).sq, hw⟩, fun x H' ⟨e1, e2⟩ => ?_⟩
  subst e1
  have e3 := e2 vs (ht.keep k).sq
  rw [hw] at e3
  cases e3
  exact ⟨R', List.prefix_refl R', Keep.refl _, S, rw_⟩
theorem i_rev {p : Pos} (hK : X.K = T.K) (hg : Gl X "reversed") (hm : X.mg "reversed" = none) (ha : PE X a (rdE T W fa)) (hs : ∀ es env, starEach (a :: es) env = (false, eval a env) :: starEach es env) :
    PI X tg (.Call (.Name "reversed" p) [a] [] pos) (rdI T W (Mn.iRev fa)) := PI.imp (RT.pi_revA hg hm ha (hs _ _)) fun σ H Q ⟨R, ρ, M, e, s, p⟩ => by
  refine rdE_mono (src_rd e s p) fun x H1 ⟨R1, M1, v, e1, s1, r1, p1, k1, q⟩ => ?_
  cases r1 with
  | @ref n a hn =>
    cases el : Mn.lstAt M1 n with
    | none => simp only [Mn.seqOf, el] at q
    | some xs =>
      simp only [Mn.seqOf, el] at q
      obtain ⟨a', vs, ha, sq, rx⟩ := s1.lst el
      rw [hn] at ha
      cases ha
      refine ⟨_, vs, rfl, .inl ⟨by rw [hK]; exact sq, ?_⟩⟩
      rw [hK, ← rx.length]
      exact q R1 H1 _ (List.prefix_refl R1) (Keep.refl _) s1 (it_revL hn)
  | @tup xs a vs ht rx =>
    simp only [Mn.seqOf] at q
    refine ⟨_, vs, rfl, .inr ⟨by rw [hK]; exact ht.sq, ?_⟩⟩
    rw [hK, ← rx.length]
    exact q R1 H1 _ (List.prefix_refl R1) (Keep.refl _) s1 (it_revT ht rx)
  | _ => exact q.elim
end
end MnS
end
section
set_option Elab.async false
set_option autoImplicit false
set_option linter.all false
set_option maxRecDepth 100000
set_option maxHeartbeats 2000000
namespace MnS
open PySem PySem.Spec PyProof.Rows L2
open Mn (Val Cell Store E Fn Op U Itr Src Tg)
section
variable {X : Cx} {T : Tb} {W : WX} {W' : XK} {a b c e tg : Expr} {es : List Expr} {fa fb fc f : E} {fs : List E} {s t : Mn.St} {pos : Pos} {R R' : List Addr} {H H' : Hp} {M : Store} {Q : VK}
theorem post_tup {xs : List Val} {vs : List V} {p : Addr} (S : Sim T R H M) (h : Post T W' R H Q (.ok (.tup xs) M)) (hp : H p = none) (r : Rels T R H xs vs) : Q (.ref p) (upd H p (.tup vs)) :=
  h R _ _ (List.prefix_refl R) (Keep.new hp) (S.other hp) (.tup (.inl upd_same) (r.mono (List.prefix_refl R) (Keep.new hp)))
theorem post_wr {n : Nat} {p : Addr} {o : HO} {c : Cell} {v : Val} {w : V} (S : Sim T R H M) (h : Post T W' R H Q (.ok v (M.set n c))) (hn : R[n]? = some p) {c0 : Cell} (h0 : M[n]? = some c0) (w0 : Wr c0 = true) (hc : CellAt T R (upd H p o) p c) (r : ∀ k : Keep R R H (upd H p o), Rel T R (upd H p o) v w) : Q w (upd H p o) := by
  obtain ⟨S2, k⟩ := S.write hn h0 w0 hc
  exact h R _ w (List.prefix_refl R) k S2 (r k)
theorem wr_lst {n : Nat} {p : Addr} {xs : List Val} {vs : List V} (S : Sim T R H M) (hn : R[n]? = some p) (r : Rels T R H xs vs) : CellAt T R (upd H p (.lst vs)) p (.lst xs) := by
  obtain ⟨c, _, hc⟩ := S.of hn
  obtain ⟨u, hu, u1, u2⟩ := hc.some
  have k : Stay H (upd H p (.lst vs)) := ⟨fun a xs e => by
    rw [upd_ne (fun z => by
      rw [z] at e
      exact u1 xs (Option.some.inj (hu.symm.trans e)))]
    exact e, fun a φ e => by
    rw [upd_ne (fun z => by
      rw [z] at e
      exact u2 φ (Option.some.inj (hu.symm.trans e)))]
    exact e⟩
  exact ⟨vs, upd_same, r.stay (List.prefix_refl R) k⟩
def rdB2 (T : Tb) (f : Op) : List V → Hp → VK → Prop := fun xs H Q => ∃ x y, xs = [x, y] ∧ rdO T f x y H Q
theorem b2_rd {g : Op} : ∀ σ H Q, rdE T W (Mn.eBin g fa fb) σ H Q → tCB (rdB2 T g) (tCons (rdE T W fa) (tCons (rdE T W fb) tNil)) σ H Q := fun σ H Q h =>
  rdE_mono (bin_rd σ H Q h) fun x H1 q => rdE_mono q fun y H2 q2 => ⟨x, y, rfl, q2⟩
theorem b_dm : CallR X (.builtin "divmod") (rdB2 T Mn.oDm) := by
  intro pins s σ H xs us Q I r ⟨x, y, e, R, M, u, v, S, ra, rb, p⟩
  subst e
  unfold Mn.oDm at p
  split at p
  · split at p
    · rename_i hc
      cases ra
      cases rb
      refine call_divmodW pins s σ H _ us Q I r ⟨_, _, rfl, ⟨hc.1, divOk_of (by omega) hc.2⟩, fun pp hp => ?_⟩
      exact post_tup S p hp (.cons (.int _) (.cons (.int _) .nil))
    · exact p.elim
  · exact p.elim
theorem b_max (hc : X.calm = true) : CallR X (.builtin "max") (rdB2 T Mn.oMax) := by
  intro pins s σ H xs us Q I r ⟨x, y, e, R, M, u, v, S, ra, rb, p⟩
  subst e
  unfold Mn.oMax at p
  split at p
  · cases ra
    cases rb
    exact call_max2 hc pins s σ H _ us Q I r ⟨_, _, rfl, post_ok S p (.int _)⟩
  · exact p.elim
theorem b_min (hc : X.calm = true) : CallR X (.builtin "min") (rdB2 T Mn.oMin) := by
  intro pins s σ H xs us Q I r ⟨x, y, e, R, M, u, v, S, ra, rb, p⟩
  subst e
  unfold Mn.oMin at p
  split at p
  · cases ra
    cases rb
    exact call_min2 hc pins s σ H _ us Q I r ⟨_, _, rfl, post_ok S p (.int _)⟩
  · exact p.elim
theorem b_list (hK : X.K = T.K) : CallR X (.type "list") (rdB T Mn.uList) := by
  intro pins s σ H xs us Q I r ⟨x, e, R, M, u, S, ra, p⟩
  subst e
  unfold Mn.uList at p
  cases eq : Mn.seqOf M u with
  | none =>
    rw [eq] at p
    exact p.elim
  | some ys =>
    rw [eq] at p
    obtain ⟨a, vs, rfl, sq, rx⟩ := S.seq ra eq
    refine call_list_of pins s σ H _ us Q I r ⟨a, vs, rfl, ?_, fun l hl => post_new S p hl (new_lst rx hl)⟩
    rw [hK]
    unfold SqA at sq
    split at sq
    · exact .inl sq
    · exact .inr sq
theorem b_tup (hK : X.K = T.K) : CallR X (.type "tuple") (rdB T Mn.uTup) := by
  intro pins s σ H xs us Q I r ⟨x, e, R, M, u, S, ra, p⟩
  subst e
  unfold Mn.uTup at p
  cases ra with
  | @ref n a hn =>
    simp only [] at p
    cases el : Mn.lstAt M n with
    | none =>
      simp only [el] at p
      exact p.elim
    | some ys =>
      simp only [el] at p
      obtain ⟨a', vs, ha, sq, rx⟩ := S.lst el
      rw [hn] at ha
      cases ha
      exact call_tuple_of pins s σ H _ us Q I r ⟨a, vs, rfl, .inl ⟨by rw [hK]; exact sq, fun l hl => post_tup S p hl rx⟩⟩
  | @tup ys a vs ht rx => exact call_tuple_of pins s σ H _ us Q I r ⟨a, vs, rfl, .inr ⟨by rw [hK]; exact ht.sq, post_ok S p (.tup ht rx)⟩⟩
  | _ => exact p.elim
theorem rels_bls {bs : List Bool} : ∀ {xs : List Val} {vs : List V}, Rels T R H xs vs → Mn.mapO Mn.toBl xs = some bs → vs = bs.map V.bl := by
  induction bs with
  | nil =>
    intro xs vs r h
    cases r with
    | nil => rfl
    | cons r1 r2 =>
      unfold Mn.mapO at h
      split at h
      · obtain ⟨_, _, e⟩ := Option.map_eq_some_iff.mp h
        cases e
      · cases h
  | cons b bs ih =>
    intro xs vs r h
    cases r with
    | nil => cases h
    | cons r1 r2 =>
      unfold Mn.mapO at h
      split at h
      · rename_i z hz
        obtain ⟨l, hl, e⟩ := Option.map_eq_some_iff.mp h
        cases e
        cases r1 <;> cases hz
        rw [ih r2 hl]
        rfl
      · cases h
theorem b_allG {id : String} {g : List Bool → Bool} (hr : CallR X (.builtin id) (fun vs H Q => ∃ (a : Addr) (bs : List Bool), vs = [V.ref a] ∧ SqL X.K H a (bs.map V.bl) ∧ Q (.bl (g bs)) H)) (hK : X.K = T.K) : CallR X (.builtin id) (rdB T (Mn.uAllG g)) := by
  intro pins s σ H xs us Q I r ⟨x, e, R, M, u, S, ra, p⟩
  subst e
  unfold Mn.uAllG at p
  cases ra with
  | @ref n a hn =>
    simp only [] at p
    cases el : Mn.lstAt M n with
    | none =>
      simp only [el] at p
      exact p.elim
    | some ys =>
      simp only [el] at p
      cases eb : Mn.mapO Mn.toBl ys with
      | none =>
        simp only [eb] at p
        exact p.elim
      | some bs =>
        simp only [eb] at p
        obtain ⟨a', vs, ha, sq, rx⟩ := S.lst el
        rw [hn] at ha
        cases ha
        rw [rels_bls rx eb, ← hK] at sq
        exact hr pins s σ H _ us Q I r ⟨a, bs, rfl, sq, post_ok S p (.bl _)⟩
  | _ => exact p.elim
theorem b_int : CallR X (.type "int") (rdB T Mn.uInt) := by
  intro pins s σ H xs us Q I r ⟨x, e, R, M, u, S, ra, p⟩
  subst e
  unfold Mn.uInt at p
  split at p
  · cases ra
    exact call_int1 pins s σ H _ us Q I r (.inl ⟨_, rfl, post_ok S p (.int _)⟩)
  · cases ra
    exact call_int1 pins s σ H _ us Q I r (.inr ⟨_, rfl, post_ok S p (.int _)⟩)
  · exact p.elim
def rdM0 (T : Tb) (f : U) : V → List V → Hp → VK → Prop := fun x vs H Q => vs = [] ∧ rdU T f x H Q
def rdM1 (T : Tb) (f : Op) : V → List V → Hp → VK → Prop := fun x vs H Q => ∃ y, vs = [y] ∧ rdO T f x y H Q
def rdM2 (T : Tb) (f : Mn.Tri) : V → List V → Hp → VK → Prop := fun x vs H Q => ∃ y z, vs = [y, z] ∧ ∃ R M u v w, Sim T R H M ∧ Rel T R H u x ∧ Rel T R H v y ∧ Rel T R H w z ∧ Post T (fun _ _ _ => False) R H Q (Mn.R.of (f u v w M))
theorem m_app : MtR X "list.append" (rdM1 T Mn.mApp) := by
  intro pins s σ H x vs v us Q I rx rv ⟨y, e, R, M, u, z, S, ra, rb, p⟩
  subst e
  unfold Mn.mApp at p
  split at p
  · split at p
    · rename_i xs e1
      split at p
      · rename_i hz
        cases ra with
        | ref hn =>
          obtain ⟨a1, z1, ws, h1, k1⟩ := S.at e1
          rw [hn] at z1
          cases z1
          refine mt_append pins s σ H _ _ v us Q I rx rv ⟨_, ws, y, rfl, rfl, h1, by rw [← k1.length, ← szLine_eq]; exact hz, ?_⟩
          exact post_wr S p hn e1 rfl (wr_lst S hn (k1.append (.cons rb .nil))) fun _ => .non
      · exact p.elim
    · exact p.elim
  · exact p.elim
theorem m_ext : MtR X "list.extend" (rdM1 T Mn.mExt) := by
  intro pins s σ H x vs v us Q I rx rv ⟨y, e, R, M, u, z, S, ra, rb, p⟩
  subst e
  unfold Mn.mExt at p
  split at p
  · split at p
    · rename_i xs ys e1 e2
      split at p
      · rename_i hz
        cases ra with
        | ref hn =>
          cases rb with
          | ref hm =>
            obtain ⟨a1, z1, ws, h1, k1⟩ := S.at e1
            obtain ⟨a2, z2, us', h2, k2⟩ := S.at e2
            rw [hn] at z1
            rw [hm] at z2
            cases z1
            cases z2
            refine mt_extend pins s σ H _ _ v us Q I rx rv ⟨_, _, ws, us', rfl, rfl, h1, h2, by rw [← k1.length, ← k2.length, ← szLine_eq]; exact hz, ?_⟩
            exact post_wr S p hn e1 rfl (wr_lst S hn (k1.append k2)) fun _ => .non
      · exact p.elim
    · exact p.elim
  · exact p.elim
theorem m_clr : MtR X "list.clear" (rdM0 T Mn.mClr) := by
  intro pins s σ H x vs v us Q I rx rv ⟨e, R, M, u, S, ra, p⟩
  subst e
  unfold Mn.mClr at p
  split at p
  · split at p
    · rename_i xs e1
      cases ra with
      | ref hn =>
        obtain ⟨a1, z1, ws, h1, k1⟩ := S.at e1
        rw [hn] at z1
        cases z1
        refine mt_clear pins s σ H _ _ v us Q I rx rv ⟨_, ws, rfl, rfl, h1, ?_⟩
        exact post_wr S p hn e1 rfl (wr_lst S hn .nil) fun _ => .non
    · exact p.elim
  · exact p.elim
theorem Rels.dropLast : ∀ {xs : List Val} {vs : List V}, Rels T R H xs vs → Rels T R H xs.dropLast vs.dropLast
  | _, _, .nil => .nil
  | _, _, .cons _ .nil => .nil
  | _, _, .cons h (.cons h2 r) => .cons h (Rels.dropLast (.cons h2 r))
theorem Rels.take : ∀ {xs : List Val} {vs : List V} (k : Nat), Rels T R H xs vs → Rels T R H (xs.take k) (vs.take k)
  | _, _, 0, _ => .nil
  | _, _, _ + 1, .nil => .nil
  | _, _, k + 1, .cons h r => .cons h (Rels.take k r)
theorem Rels.drop : ∀ {xs : List Val} {vs : List V} (k : Nat), Rels T R H xs vs → Rels T R H (xs.drop k) (vs.drop k)
  | _, _, 0, r => r
  | _, _, _ + 1, .nil => .nil
  | _, _, k + 1, .cons _ r => Rels.drop k r
theorem m_pop : MtR X "list.pop" (rdM0 T Mn.mPop) := by
  intro pins s σ H x vs v us Q I rx rv ⟨e, R, M, u, S, ra, p⟩
  subst e
  unfold Mn.mPop at p
  split at p
  · split at p
    · rename_i xs e1
      split at p
      · rename_i y hy
        cases ra with
        | ref hn =>
          obtain ⟨a1, z1, ws, h1, k1⟩ := S.at e1
          rw [hn] at z1
          cases z1
          obtain ⟨w, hw, rw_⟩ := k1.get hy
          rw [k1.length] at hw
          refine mt_pop pins s σ H _ _ v us Q I rx rv ⟨_, ws, w, rfl, rfl, h1, hw, ?_⟩
          exact post_wr S p hn e1 rfl (wr_lst S hn k1.dropLast) fun k => rw_.mono (List.prefix_refl R) k
      · exact p.elim
    · exact p.elim
  · exact p.elim
theorem m_ins : MtR X "list.insert" (rdM2 T Mn.mIns) := by
  intro pins s σ H x vs v us Q I rx rv ⟨y, z, e, R, M, u, w, w2, S, ra, rb, rc, p⟩
  subst e
  unfold Mn.mIns at p
  split at p
  · split at p
    · rename_i xs e1
      split at p
      · rename_i hz
        cases ra with
        | ref hn =>
          cases rb
          obtain ⟨a1, z1, ws, h1, k1⟩ := S.at e1
          rw [hn] at z1
          cases z1
          refine mt_insert pins s σ H _ _ v us Q I rx rv ⟨_, ws, _, z, rfl, rfl, h1, by rw [← k1.length, ← szLine_eq]; exact hz.1, hz.2.1, hz.2.2, ?_⟩
          exact post_wr S p hn e1 rfl (wr_lst S hn (((k1.take _).append (.cons rc .nil)).append (k1.drop _))) fun _ => .non
      · exact p.elim
    · exact p.elim
  · exact p.elim
theorem ty_v (hK : X.K = T.K) {t : String} (ht : t = "list" ∨ t = "str") (S : Sim T R H M) {v : Val} {x : V} (r : Rel T R H v x) (h : Mn.isTy t v M = true) : tyV X.K t x H := by
  have h := of_decide_eq_true h
  cases r with
  | str s =>
    cases h
    rfl
  | @ref n p hn =>
    obtain ⟨c, hc, hp⟩ := S.of hn
    unfold Mn.tyName at h
    simp only [hc] at h
    cases c with
    | lst xs =>
      cases h
      obtain ⟨vs, h1, _⟩ := hp
      exact .inl ⟨rfl, vs, .inl (.inl h1)⟩
    | ro xs =>
      cases h
      obtain ⟨o, vs, h1, _⟩ := hp
      exact .inl ⟨rfl, vs, .inl (.inr ⟨o, h1⟩)⟩
    | dic xs =>
      cases h
      rcases ht with z | z <;> exact absurd z (by decide)
    | rod xs =>
      cases h
      rcases ht with z | z <;> exact absurd z (by decide)
    | obj c fs => cases h
  | int i =>
    cases h
    rcases ht with z | z <;> exact absurd z (by decide)
  | non =>
    cases h
    rcases ht with z | z <;> exact absurd z (by decide)
  | bl b =>
    cases h
    rcases ht with z | z <;> exact absurd z (by decide)
  | tup _ _ =>
    cases h
    rcases ht with z | z <;> exact absurd z (by decide)
  | exc _ _ => cases h
theorem s_m0 {t id name : String} {f : U} {ap : Pos} (pa : PlainAttrs t) (slot : Slot t name id) (hty : typeOf (.builtin id) = pure (.type "method_descriptor")) (ht : t = "list" ∨ t = "str") (hK : X.K = T.K) (hm : MtR X id (rdM0 T f))
    (ha : PE X a (rdE T W fa)) (hb : attributeBase a name X.env (eval a X.env) = eval a X.env) (hl : (ap.endLine == pos.line) = true) : PE X (.Call (.Attribute a name ap) [] [] pos) (rdE T W (Mn.eM0 t f fa)) :=
  PE.imp (pe_bm0 pa slot hty hm ha hb hl) fun σ H Q ⟨R, ρ, M, e, s, p⟩ => by
    obtain ⟨R0, ρ0, M0, e0, s0, p0⟩ := rdE_bind e s p
    refine ⟨R0, ρ0, M0, e0, s0, p0.imp (List.prefix_refl _) (Keep.refl _) fun x H1 ⟨R1, M1, v, e1, s1, r1, pr1, k1, q⟩ => ?_⟩
    split at q
    · rename_i hz
      exact ⟨ty_v hK ht s1 r1 hz, rfl, R1, M1, v, s1, r1, of_noexc q⟩
    · exact q.elim
theorem s_m1 {t id name : String} {f : Op} {ap : Pos} (pa : PlainAttrs t) (slot : Slot t name id) (hty : typeOf (.builtin id) = pure (.type "method_descriptor")) (ht : t = "list" ∨ t = "str") (hK : X.K = T.K) (hm : MtR X id (rdM1 T f))
    (ha : PE X a (rdE T W fa)) (hb2 : PE X b (rdE T W fb)) (hb : attributeBase a name X.env (eval a X.env) = eval a X.env) (hl : (ap.endLine == pos.line) = true) (hs : ∀ es env, starEach (b :: es) env = (false, eval b env) :: starEach es env) :
    PE X (.Call (.Attribute a name ap) [b] [] pos) (rdE T W (Mn.eM1 t f fa fb)) :=
  PE.imp (pe_bm pa slot hty hm ha (pa_cons hb2 pa_nil (hs _ _)) hb (by rw [hs]; rfl) hl (hs _ _) rfl) fun σ H Q ⟨R, ρ, M, e, s, p⟩ => by
    obtain ⟨R0, ρ0, M0, e0, s0, p0⟩ := rdE_bind e s p
    refine ⟨R0, ρ0, M0, e0, s0, p0.imp (List.prefix_refl _) (Keep.refl _) fun x H1 ⟨R1, M1, v, e1, s1, r1, pr1, k1, q⟩ => ?_⟩
    split at q
    · rename_i hz
      refine ⟨ty_v hK ht s1 r1 hz, ?_⟩
      obtain ⟨R2, ρ2, M2, e2, s2, p2⟩ := rdE_bind e1 s1 q
      exact ⟨R2, ρ2, M2, e2, s2, p2.imp (List.prefix_refl _) (Keep.refl _) fun y H2 ⟨R3, M3, u, e3, s3, r3, pr3, k3, q3⟩ => ⟨y, rfl, R3, M3, v, u, s3, r1.mono pr3 k3, r3, of_noexc q3⟩⟩
    · exact q.elim
theorem s_m2 {t id name : String} {f : Mn.Tri} {ap : Pos} (pa : PlainAttrs t) (slot : Slot t name id) (hty : typeOf (.builtin id) = pure (.type "method_descriptor")) (ht : t = "list" ∨ t = "str") (hK : X.K = T.K) (hm : MtR X id (rdM2 T f))
    (ha : PE X a (rdE T W fa)) (hb2 : PE X b (rdE T W fb)) (hc2 : PE X c (rdE T W fc)) (hb : attributeBase a name X.env (eval a X.env) = eval a X.env) (hl : (ap.endLine == pos.line) = true) (hs : ∀ es env, starEach (b :: es) env = (false, eval b env) :: starEach es env)
    (hs2 : ∀ es env, starEach (c :: es) env = (false, eval c env) :: starEach es env) :
    PE X (.Call (.Attribute a name ap) [b, c] [] pos) (rdE T W (Mn.eM2 t f fa fb fc)) :=
  PE.imp (pe_bm pa slot hty hm ha (pa_cons hb2 (pa_cons hc2 pa_nil (hs2 _ _)) (hs _ _)) hb (by rw [hs, hs2]; rfl) hl (hs _ _) (by rw [hs2]; rfl)) fun σ H Q ⟨R, ρ, M, e, s, p⟩ => by
    obtain ⟨R0, ρ0, M0, e0, s0, p0⟩ := rdE_bind e s p
    refine ⟨R0, ρ0, M0, e0, s0, p0.imp (List.prefix_refl _) (Keep.refl _) fun x H1 ⟨R1, M1, v, e1, s1, r1, pr1, k1, q⟩ => ?_⟩
    split at q
    · rename_i hz
      refine ⟨ty_v hK ht s1 r1 hz, ?_⟩
      obtain ⟨R2, ρ2, M2, e2, s2, p2⟩ := rdE_bind e1 s1 q
      refine ⟨R2, ρ2, M2, e2, s2, p2.imp (List.prefix_refl _) (Keep.refl _) fun y H2 ⟨R3, M3, u, e3, s3, r3, pr3, k3, q3⟩ => ?_⟩
      obtain ⟨R4, ρ4, M4, e4, s4, p4⟩ := rdE_bind e3 s3 q3
      exact ⟨R4, ρ4, M4, e4, s4, p4.imp (List.prefix_refl _) (Keep.refl _) fun z H5 ⟨R5, M5, w, e5, s5, r5, pr5, k5, q5⟩ =>
        ⟨y, z, rfl, R5, M5, v, u, w, s5, (r1.mono pr3 k3).mono pr5 k5, r3.mono pr5 k5, r5, of_noexc q5⟩⟩
    · exact q.elim
theorem cutIx_eq (n d : Nat) (o : Option Int) : Mn.cutIx n d o = HT.sIx n d o := by
  cases o <;> rfl
theorem cut_v (xs : List V) (lo hi : Option Int) : Mn.cut xs lo hi = cutV xs lo hi := by
  unfold Mn.cut cutV
  rw [cutIx_eq, cutIx_eq]
theorem Rels.cut {xs : List Val} {vs : List V} (r : Rels T R H xs vs) (lo hi : Option Int) : Rels T R H (Mn.cut xs lo hi) (cutV vs lo hi) := by
  rw [← cut_v]
  unfold Mn.cut
  rw [r.length]
  exact (r.drop _).take _
theorem cut_all {α : Type} {xs : List α} {lo hi : Option Int} (h : HT.sIx xs.length 0 lo = 0 ∧ HT.sIx xs.length xs.length hi = xs.length) : Mn.cut xs lo hi = xs := by
  unfold Mn.cut
  rw [cutIx_eq, cutIx_eq, h.1, h.2]
  simp
theorem cut_s (s : List Nat) (lo hi : Option Int) : cutS (sOf s) lo hi = sOf (Mn.cut s lo hi) := by
  unfold cutS Mn.cut sOf
  rw [cutIx_eq, cutIx_eq]
  simp [Str.length]
def rdC (T : Tb) : V → Option Int → Option Int → Hp → VK → Prop := fun x lo hi H Q => ∃ R M v, Sim T R H M ∧ Rel T R H v x ∧ Post T (fun _ _ _ => False) R H Q (Mn.R.of (Mn.cutOf v lo hi M))
theorem SlR.imp {r r' : V → Option Int → Option Int → Hp → VK → Prop} (h : SlR X r) (i : ∀ x lo hi H Q, r' x lo hi H Q → r x lo hi H Q) : SlR X r' := fun pins s σ H x v vl vu lo hi sl Q I rx hs pl pu q => h pins s σ H x v vl vu lo hi sl Q I rx hs pl pu (i _ _ _ _ _ q)
theorem sl_all (hK : X.K = T.K) : SlR X (rdC T) := SlR.imp (sl_list.or (sl_tupA.or sl_str)) fun x lo hi H Q ⟨R, M, v, S, r, p⟩ => by
  unfold Mn.cutOf at p
  cases r with
  | @ref n a hn =>
    simp only [] at p
    cases el : Mn.lstAt M n with
    | none =>
      simp only [el] at p
      exact p.elim
    | some xs =>
      simp only [el] at p
      obtain ⟨a', vs, ha, sq, rx⟩ := S.lst el
      rw [hn] at ha
      cases ha
      exact .inl ⟨a, vs, rfl, by rw [hK]; exact sq, fun pp hp => post_new S p hp (new_lst (rx.cut lo hi) hp)⟩
  | @tup xs a vs ht rx =>
    refine .inr (.inl ⟨a, vs, rfl, by rw [hK]; exact ht.sq, fun h => ?_, fun _ pp hp => post_tup S p hp (rx.cut lo hi)⟩)
    rw [← rx.length] at h
    have p : Post T (fun _ _ _ => False) R H Q (.ok (.tup (Mn.cut xs lo hi)) M) := p
    rw [cut_all h] at p
    exact post_ok S p (.tup ht rx)
  | str s =>
    by_cases hz : s.length ≤ Mn.szLine
    · simp only [if_pos hz] at p
      refine .inr (.inr ⟨_, rfl, by rw [sOf_len, ← szLine_eq]; exact hz, ?_⟩)
      rw [cut_s]
      exact post_ok S p (.str _)
    · simp only [if_neg hz] at p
      exact p.elim
  | _ => exact p.elim
def PostO (T : Tb) (W : XK) (R : List Addr) (H : Hp) (Q : Option Int → Hp → Prop) : Mn.R (Option Int) → Prop
  | .ok v M => ∀ R' H', R <+: R' → Keep R R' H H' → Sim T R' H' M → Q v H'
  | .exc c M => c ∈ T.xs → ∀ R' H', R <+: R' → Keep R R' H H' → Sim T R' H' M → W (.ref (T.ca c)) none H'
  | .bad => False
def rdP (T : Tb) (W : WX) (o : Option E) : TO := fun σ H Q => ∃ R ρ M, EnvR T R H ρ σ ∧ Sim T R H M ∧ PostO T (at_ W σ) R H Q (Mn.ePart o ρ M)
theorem PO.imp {o : Option Expr} {t t' : TO} (h : PO X o t) (i : ∀ σ H Q, t' σ H Q → t σ H Q) : PO X o t' := ⟨fun pins s σ H Q I q => h.run pins s σ H Q I (i σ H Q q)⟩
theorem p_none : PO X none (rdP T W none) := PO.imp po_none fun σ H Q ⟨R, ρ, M, e, s, p⟩ => p R H (List.prefix_refl R) (Keep.refl H) s
theorem p_some (h : PE X a (rdE T W fa)) : PO X (some a) (rdP T W (some fa)) := PO.imp (po_some h) fun σ H Q ⟨R, ρ, M, e, s, p⟩ => by
  refine ⟨R, ρ, M, e, s, ?_⟩
  unfold Mn.ePart at p
  dsimp only at p
  cases q : fa ρ M with
  | bad =>
    rw [q] at p
    exact p
  | exc c M' =>
    rw [q] at p
    exact p
  | ok v M1 =>
    rw [q] at p
    intro R1 H1 w p1 k1 s1 r1
    cases r1 with
    | int i => exact ⟨i, rfl, p R1 H1 p1 k1 s1⟩
    | _ => exact p.elim
theorem PostO.bind {r : Mn.R (Option Int)} {f : Option Int → Store → Mn.R Val} (h : Post T W' R H Q (r.bind f)) :
    PostO T W' R H (fun x H1 => ∃ R1 M1, R <+: R1 ∧ Keep R R1 H H1 ∧ Sim T R1 H1 M1 ∧ Post T W' R1 H1 Q (f x M1)) r := by
  cases r with
  | ok v M => exact fun R1 H1 p1 k1 s1 => ⟨R1, M, p1, k1, s1, Post.imp (r := f v M) h p1 k1 fun _ _ q => q⟩
  | exc c M => exact h
  | bad => exact h
theorem PostO.imp {Q Q' : Option Int → Hp → Prop} {r : Mn.R (Option Int)} (h : PostO T W' R H Q r) (q : ∀ v H', Q v H' → Q' v H') : PostO T W' R H Q' r := by
  cases r with
  | ok v M => exact fun R1 H1 p1 k1 s1 => q _ _ (h R1 H1 p1 k1 s1)
  | exc c M => exact h
  | bad => exact h
theorem s_sl {lo hi : Option Expr} {l h : Option E} {p2 : Pos} (hK : X.K = T.K) (ha : PE X a (rdE T W fa)) (hl : PO X lo (rdP T W l)) (hh : PO X hi (rdP T W h)) : PE X (.Subscript a (.Slice lo hi none p2) pos) (rdE T W (Mn.eSl fa l h)) :=
  PE.imp (pe_slice (sl_all hK) ha hl hh) fun σ H Q ⟨R, ρ, M, e, s, p⟩ => by
    obtain ⟨R0, ρ0, M0, e0, s0, p0⟩ := rdE_bind e s p
    refine ⟨R0, ρ0, M0, e0, s0, p0.imp (List.prefix_refl _) (Keep.refl _) fun x H1 ⟨R1, M1, v, e1, s1, r1, pr1, k1, q⟩ => ?_⟩
    refine ⟨R1, ρ, M1, e1, s1, (PostO.bind q).imp fun lo2 H2 ⟨R2, M2, p2, k2, s2, q2⟩ => ?_⟩
    have e2 := e1.mono p2 k2
    refine ⟨R2, ρ, M2, e2, s2, (PostO.bind q2).imp fun hi2 H3 ⟨R3, M3, p3, k3, s3, q3⟩ => ?_⟩
    exact ⟨R3, M3, v, s3, (r1.mono p2 k2).mono p3 k3, of_noexc q3⟩
theorem set_lst : PSet X (rdSt T Mn.setIt) := by
  intro pins s σ H o i v ov iv u Q I ro ri rv ⟨R, M, x, y, z, S, rx, ry, rz, M', hM, q⟩
  unfold Mn.setIt at hM
  split at hM
  · split at hM
    · rename_i xs e1
      obtain ⟨j, hj, rfl⟩ := Option.map_eq_some_iff.mp hM
      cases rx with
      | ref hn =>
        cases ry
        obtain ⟨a1, z1, ws, h1, k1⟩ := S.at e1
        rw [hn] at z1
        cases z1
        rw [k1.length] at hj
        refine set_list pins s σ H _ _ v ov iv u Q I ro ri rv ⟨_, ws, _, j, rfl, rfl, h1, hj, ?_⟩
        obtain ⟨S2, kk⟩ := S.write hn e1 rfl (wr_lst S hn (k1.set rz j))
        exact q _ kk S2
    · cases hM
  · cases hM
theorem flat_rel {x : Val} {v : V} (r : Rel T R H x v) (h : Mn.flat x = true) : flatV v = true := by
  cases r <;> first | rfl | cases h
theorem flat_rels : ∀ {xs : List Val} {vs : List V}, Rels T R H xs vs → xs.all Mn.flat = true → vs.all flatV = true
  | _, _, .nil, _ => rfl
  | _, _, .cons r1 r2, h => by
    rw [List.all_cons, Bool.and_eq_true] at h ⊢
    exact ⟨flat_rel r1 h.1, flat_rels r2 h.2⟩
theorem eqF_rel {x y : Val} {v w : V} (r : Rel T R H x v) (r' : Rel T R H y w) (h : Mn.flat x = true) (h' : Mn.flat y = true) : eqV v w = Mn.eqF x y := by
  cases r <;> first | cases h | skip
  all_goals cases r' <;> first | cases h' | skip
  all_goals first
    | rfl
    | (rename_i a b
       show (sOf a == sOf b) = (a == b)
       rw [sOf_beq]
       by_cases z : a = b
       · simp [z]
       · rw [decide_eq_false z]
         exact (beq_eq_false_iff_ne.mpr z).symm)
theorem any_rel {y : Val} {w : V} (r' : Rel T R H y w) (h' : Mn.flat y = true) : ∀ {xs : List Val} {vs : List V}, Rels T R H xs vs → xs.all Mn.flat = true → inV w vs = xs.any fun x => Mn.eqF x y
  | _, _, .nil, _ => rfl
  | _, _, .cons r1 r2, h => by
    rw [List.all_cons, Bool.and_eq_true] at h
    unfold inV
    rw [List.any_cons, List.any_cons, eqF_rel r1 r' h.1 h']
    exact congrArg _ (any_rel r' h' r2 h.2)
theorem o_inG (neg : Bool) (hK : X.K = T.K) {op : CmpOp} (h : OpR X (compareOp op) (rIn X.K neg)) : OpR X (compareOp op) (rdO T (Mn.cInG neg)) := by
  intro pins s σ H x y v u Q I rx ry ⟨R, M, a, b, S, ra, rb, p⟩
  unfold Mn.cInG at p
  cases eq : Mn.seqOf M b with
  | none =>
    simp only [eq] at p
    exact p.elim
  | some xs =>
    simp only [eq] at p
    by_cases hz : Mn.flat a = true ∧ xs.all Mn.flat = true
    · rw [if_pos hz] at p
      obtain ⟨ad, vs, rfl, sq, rxs⟩ := S.seq rb eq
      refine h pins s σ H _ _ v u Q I rx ry ⟨ad, vs, rfl, ?_, flat_rel ra hz.1, flat_rels rxs hz.2, ?_⟩
      · rw [hK]
        unfold SqA at sq
        split at sq
        · exact .inl sq
        · exact .inr sq
      · rw [any_rel ra hz.1 rxs hz.2]
        exact post_ok S p (.bl _)
    · rw [if_neg hz] at p
      exact p.elim
theorem o_in (hK : X.K = T.K) : OpR X (compareOp .In) (rdO T Mn.cIn) := o_inG false hK op_in_seq
theorem o_notin (hK : X.K = T.K) : OpR X (compareOp .NotIn) (rdO T Mn.cNotIn) := o_inG true hK op_notIn_seq
end
end MnS
end
section
set_option autoImplicit false
namespace Mn
def slAll : Val → Val → Store → Option Store
  | .ref n, .ref m, M => match M[n]?, M[m]? with
    | some (.lst xs), some (.lst ys) => if n ≠ m ∧ xs.length + ys.length ≤ szLine then some (M.set n (.lst ys)) else none
    | _, _ => none
  | _, _, _ => none
def tSlAll (o : E) : Tg := fun v ρ M => match o ρ M with
  | .ok x M1 => match slAll x v M1 with
    | some M2 => .nx ρ M2
    | none => .bad
  | _ => .bad
end Mn
end
section
set_option Elab.async false
set_option autoImplicit false
set_option linter.all false
set_option maxRecDepth 100000
set_option maxHeartbeats 2000000
namespace MnS
open PySem PySem.Spec PyProof.Rows L2
open Mn (Val Cell Store E Tg)
section
variable {prog : Program} {w : World} {A : Around} {Ex : Value → Shared → Prop} {s : Shared}
theorem all_bounds (n : Nat) : sliceBounds none none none n = ((0 : Int), (n : Int), 1) := by
  simp [sliceBounds]
theorem all_splice (its its2 : List Value) : its.toArray.extract 0 0 ++ its2.toArray ++ its.toArray.extract its.toArray.size its.toArray.size = its2.toArray := by
  apply Array.toList_inj.mp
  simp
theorem store_all {l b sl : Addr} {items new : Array Value} {n n2 : Nat} {Q : Unit → Shared → Prop}
    (e : s.heap.get? l = some { cls := .type "list", data := .seq items n }) (e2 : s.heap.get? b = some { cls := .type "list", data := .seq new n2 }) (hne : l ≠ b)
    (hs : s.heap.IsSliceOf sl .none .none .none) (hsz : items.size + new.size ≤ sizeLine)
    (h : Q () { s with heap := s.heap.update l (Obj.mapSeq fun xs => xs.extract 0 0 ++ new ++ xs.extract items.size xs.size) }) :
    wpAny (model prog w) A (setItem (.ref l) (.ref sl) (.ref b)) Q Ex s := by
  have hl : s.heap.IsList l items := PySem.IsL.isList e
  have hb : s.heap.IsList b new := PySem.IsL.isList e2
  obtain ⟨os, hos, hcs, hds⟩ := id hs
  have hT : s.TypeIs (.ref sl) "slice" := ⟨os, hos, hcs⟩
  have ns : ¬ ((rawPart none == rawInt 0) = true) := Bool.false_ne_true
  have nr : Builtin.List.listSameRef (.ref l) (.ref b) = false := by
    unfold Builtin.List.listSameRef
    exact beq_eq_false_iff_ne.mpr hne
  have hm : (max (0 : Int) (items.size : Int)).toNat = items.size := by omega
  unfold setItem
  refine wpAny_holding ?_
  refine wpAny_bind (wpAny_sequenceKey hl.typeIs (by decide) ?_)
  refine wpAny_bind (wpAny_callSpecial?_slot (name := Str.ofString "__setitem__") hl.typeIs slot_list_setitem
    (wpAny_call_entry slot_list_setitem hl.typeIs entry_list_setitem ?_ (args_list_setitem _ _ _)))
  show wpAny _ _ (Builtin.List.listSubscript? (.ref sl) >>= _) _ _ s
  refine wpAny_bind ?_
  unfold Builtin.List.listSubscript?
  refine wpAny_bind (wpAny_specialOf hT slice_no_index ?_)
  simp only [Option.isNone_none, if_true]
  refine wpAny_pure ?_
  show wpAny _ _ (typeOf (.ref sl) >>= _) _ _ s
  refine wpAny_bind (wpAny_typeOf hT ?_)
  rw [if_neg (by decide), listSliceParts_eq]
  refine wpAny_bind (wpAny_bind (wpAny_field hos hds (x := .none) rfl (wpAny_bind (wpAny_listPart .none ?_))))
  rw [if_neg ns]
  refine wpAny_bind (wpAny_field hos hds (x := .none) rfl (wpAny_bind (wpAny_listPart .none ?_)))
  refine wpAny_bind (wpAny_field hos hds (x := .none) rfl (wpAny_bind (wpAny_listPart .none (wpAny_pure ?_))))
  simp only [nr, Bool.false_eq_true, if_false]
  refine wpAny_bind (m := Builtin.List.listAllItems (.ref b) "must assign iterable to extended slice") ?_
  unfold Builtin.List.listAllItems
  refine wpAny_bind (wpAny_typeOf hb.typeIs ?_)
  rw [if_pos (by decide)]
  unfold Builtin.List.listItems
  refine wpAny_bind (wpAny_seqItems e2 rfl (wpAny_pure ?_))
  refine wpAny_bind (wpAny_bind (wpAny_seqItems e rfl (wpAny_pure ?_)))
  refine wpAny_bind (wpAny_of_eq ((sliceIndices_raw none none none items.size (by simp)).trans (congrArg (pure : Int × Int × Int → Sem (Int × Int × Int)) (all_bounds items.size))) ?_)
  show wpAny _ _ (if ((1 : Int) == 1) = true then _ else _) _ _ s
  rw [if_pos (by decide)]
  refine wpAny_bind (wpAny_rule ?_)
  simp only [notLongL hsz, Bool.false_eq_true, if_false]
  show wpAny _ _ (updateSeq l (fun xs => xs.extract 0 ((0 : Int)).toNat ++ new ++ xs.extract (max (0 : Int) (items.size : Int)).toNat xs.size) >>= _) _ _ s
  rw [hm, Int.toNat_zero]
  refine wpAny_bind (wpAny_updateSeq (hz := Nat.le_trans (Nat.le_add_right _ _) hsz) (_hz' := by
    simp only [Array.size_append, Array.size_extract]
    omega) e rfl ?_)
  refine wpAny_bind (wpAny_letGo ?_)
  exact wpAny_pure ⟨.none, rfl, wpAny_pure h⟩
end
section
variable {X : Cx} {T : Tb} {W : WX} {pos p2 : Pos}
theorem set_all {pins : List (Addr × Obj)} {s : Shared} {σ : L2.St} {H : Hp} {l b sl : Addr} {xs ys : List V} {Q : Unit → Shared → Prop} (I : Inv X pins σ H s)
    (hH : H l = some (.lst xs)) (hB : H b = some (.lst ys)) (hne : l ≠ b) (hs : s.heap.IsSliceOf sl .none .none .none)
    (hz : xs.length + ys.length ≤ sizeLine) (h : ∀ s', Inv X pins σ (upd H l (.lst ys)) s' → Q () s') :
    wpAny (model X.prog X.w) X.A (setItem (.ref l) (.ref sl) (.ref b)) Q X.xe s := by
  obtain ⟨z, its, n, r, hl, e⟩ := I.lstM hH
  obtain ⟨z2, its2, n2, r2, hl2, e2⟩ := I.lstM hB
  refine store_all e e2 hne hs (by rw [List.size_toArray, List.size_toArray]; omega) (h _ ?_)
  exact I.lset (its' := its2) (t' := s.toks) hH e (all_splice its its2) r2 (by omega)
def gAll (ta : TE) : TG := fun v σ H Q => ta σ H fun x H1 => ∃ l b xs ys, x = .ref l ∧ v = .ref b ∧ H1 l = some (.lst xs) ∧ H1 b = some (.lst ys) ∧ l ≠ b ∧ xs.length + ys.length ≤ sizeLine ∧ Q σ (upd H1 l (.lst ys))
theorem pg_all {o : Expr} {ta : TE} (ho : PE X o ta) : PG X (.Subscript o (.Slice none none none p2) pos) (gAll ta) := by
  refine ⟨fun pins s σ H v u Q I r h => ?_⟩
  rw [show assign (.Subscript o (.Slice none none none p2) pos) X.env u = (do
      let ov ← holding [u] (eval o X.env)
      let iv ← holding [u, ov] (eval (.Slice none none none p2) X.env)
      standAt pos
      holding [u, ov, iv] (setItem ov iv u)
      release [iv, u, ov] []) from rfl]
  refine wpAny_bind (wpAny_holding (thn (ho.run pins s σ H _ I h) fun ov s1 ⟨x, H1, I1, rx, l, b, xs, ys, ex, ev, hl, hb, hne, hz, q⟩ => ?_))
  subst ex
  subst ev
  obtain rfl : ov = Value.ref l := rx
  obtain rfl : u = Value.ref b := r
  refine wpAny_bind (wpAny_holding (wpAny_Slice ?_))
  rw [evalPart_none]
  refine wpAny_pure (wpAny_pure (wpAny_pure ?_))
  have I4 : Inv X pins σ H1 { s1 with heap := s1.heap.push { cls := .type "slice", data := .fields #[.none, .none, .none] } } := I1.kept (t' := s1.toks) fun b ob q => Heap.get?_push_of_some _ q
  exact wpAny_bind (wpAny_standAt (wpAny_bind (wpAny_holding (set_all I4 hl hb hne (Heap.IsSliceOf.new ..) hz fun s3 I3 => wpAny_release ⟨σ, _, I3, q⟩))))
theorem g_all {o : Expr} {fo : E} (ho : PE X o (rdE T W fo)) : PG X (.Subscript o (.Slice none none none p2) pos) (rdG T [] (Mn.tSlAll fo)) :=
  PG.imp (pg_all ho) fun v σ H Q ⟨R, ρ, M, y, e, s, r, p⟩ => by
    refine ⟨R, ρ, M, e, s, ?_⟩
    unfold Mn.tSlAll at p
    cases z : fo ρ M with
    | ok ov M1 =>
      simp only [z] at p
      intro R1 H1 w1 p1 g1 s1 r1
      cases z2 : Mn.slAll ov y M1 with
      | none =>
        simp only [z2] at p
        exact p.elim
      | some M2 =>
        simp only [z2] at p
        unfold Mn.slAll at z2
        split at z2
        · split at z2
          · rename_i xs ys e1 e2
            split at z2
            · rename_i hc
              cases z2
              have rm := r.mono p1 g1
              cases r1 with
              | ref hn =>
                cases rm with
                | ref hm =>
                  obtain ⟨a1, q1, ws, h1, k1⟩ := s1.at e1
                  rw [hn] at q1
                  cases q1
                  obtain ⟨b1, q2, us, h2, k2⟩ := s1.at e2
                  rw [hm] at q2
                  cases q2
                  obtain ⟨S2, kk⟩ := s1.write hn e1 rfl (wr_lst s1 hn k2)
                  refine ⟨_, _, ws, us, rfl, rfl, h1, h2, fun w => hc.1 (s1.inj hn (by rw [w]; exact hm)), by rw [← k1.length, ← k2.length]; exact hc.2, ?_⟩
                  exact p R1 _ σ p1 (g1.trans kk) S2 (e.mono p1 (g1.trans kk)) rfl fun _ _ => rfl
            · cases z2
          · cases z2
        · cases z2
    | _ =>
      simp only [z] at p
      exact p.elim
end
end MnS
end
section
set_option autoImplicit false
namespace Mn
def numL (n : Nat) : List Nat := (Nat.toDigits 10 n).map Char.toNat
def intL (i : Int) : List Nat := if i < 0 then 45 :: numL i.natAbs else numL i.natAbs
def uStr : U
  | .int i, M => if i.natAbs.log2 < 1920 then some (.str (intL i), M) else none
  | _, _ => none
def isFig (c : Nat) : Bool := decide (48 ≤ c) && decide (c ≤ 57)
def figV (s : List Nat) : Nat := s.foldl (fun a c => a * 10 + (c - 48)) 0
def figsOk (s : List Nat) : Bool := s.all isFig && !s.isEmpty && decide (s.length ≤ 630)
def rdInt : List Nat → Option Int
  | 45 :: s => if figsOk s = true then some (-(figV s : Int)) else none
  | s => if figsOk s = true then some (figV s : Int) else none
def uIntS : U
  | .str s, M => (rdInt s).map fun i => (.int i, M)
  | _, _ => none
def mStarts : Op
  | .str s, .str [c], M => some (.bl (decide (s[0]? = some c)), M)
  | _, _, _ => none
def parL (c : Nat) : List Nat → Option (List Nat × List Nat)
  | [] => none
  | d :: r => if d = c then some ([], r) else (parL c r).map fun p => (d :: p.1, p.2)
def parV (c : Nat) (s : List Nat) : List (List Nat) := match parL c s with
  | some (a, b) => [a, [c], b]
  | none => [s, [], []]
def mPart : Op
  | .str s, .str [c], M => if s.length ≤ szLine then some (.tup ((parV c s).map .str), M) else none
  | _, _, _ => none
def splL (c : Nat) : List Nat → List (List Nat)
  | [] => [[]]
  | d :: r => if d = c then [] :: splL c r else match splL c r with
    | [] => [[d]]
    | p :: ps => (d :: p) :: ps
def mSplit : Op
  | .str s, .str [c], M => if s.length + 2 ≤ szLine ∧ c < 256 then alloc (.lst ((splL c s).map .str)) M else none
  | _, _, _ => none
def joinL (s : List Nat) : List (List Nat) → List Nat
  | [] => []
  | [p] => p
  | p :: q :: r => p ++ (s ++ joinL s (q :: r))
def strsOf : List Val → Option (List (List Nat))
  | [] => some []
  | .str s :: r => (strsOf r).map (s :: ·)
  | _ => none
def joinOk (s : List Nat) (ys : List (List Nat)) : Bool := decide ((ys.map List.length).sum + ys.length * s.length ≤ szLine)
def mJoin : Op
  | .str s, .ref n, M => match lstAt M n with
    | some xs => match strsOf xs with
      | some ys => if joinOk s ys = true then some (.str (joinL s ys), M) else none
      | none => none
    | none => none
  | _, _, _ => none
def oIxS : Op
  | .str s, .int i, M => if s.length ≤ szLine then (atI s i).map fun c => (.str [c], M) else none
  | _, _, _ => none
def cInS (neg : Bool) : Op
  | .str [c], .str s, M => some (.bl (if neg then !decide (c ∈ s) else decide (c ∈ s)), M)
  | _, _, _ => none
def itStr (s : List Nat) : Itr := ⟨s.length, fun i _ => s[i]?.map fun c => .str [c], fun _ => true⟩
def iStr (e : E) : Src := fun ρ M => (e ρ M).bind fun v M1 => match v with
  | .str s => .ok (itStr s) M1
  | _ => .bad
end Mn
end
section
set_option Elab.async false
set_option autoImplicit false
set_option linter.all false
set_option maxRecDepth 100000
set_option maxHeartbeats 2000000
namespace MnS
open PySem PySem.Spec PyProof.Rows L2
open Mn (Val Cell Store E Op U Itr Src)
section
variable {X : Cx} {T : Tb} {W : WX} {a b e tg : Expr} {fa fb f : E} {pos ap : Pos} {R R' : List Addr} {H H' : Hp} {M : Store}
theorem sOf_int (i : Int) : Str.ofString (toString i) = sOf (Mn.intL i) := by
  unfold Mn.intL
  cases i with
  | ofNat n =>
    rw [if_neg (by show ¬ (n : Int) < 0; omega)]
    exact SX.num_S n
  | negSucc n =>
    rw [if_pos (by omega)]
    refine TL.ext_tl ?_
    have e : toString (Int.negSucc n) = "-" ++ toString ((n + 1 : Nat) : Int) := rfl
    rw [e, TL.tl_ofString, String.toList_append, List.map_append]
    have h := TL.tl_num (n + 1)
    rw [TL.tl_ofString] at h
    rw [h]
    rfl
theorem b_str : CallR X (.type "str") (rdB T Mn.uStr) := by
  intro pins s σ H xs us Q I r ⟨x, e, R, M, u, S, ra, p⟩
  subst e
  unfold Mn.uStr at p
  split at p
  · split at p
    · rename_i hz
      cases ra
      refine call_str_int pins s σ H _ us Q I r ⟨_, rfl, hz, ?_⟩
      have q := post_ok S p (.str _)
      rw [← sOf_int] at q
      exact q
    · exact p.elim
  · exact p.elim
theorem figs_ok {s : List Nat} (h : Mn.figsOk s = true) : s.all (fun c => decide (48 ≤ c) && decide (c ≤ 57)) = true ∧ s ≠ [] ∧ s.length ≤ 630 := by
  unfold Mn.figsOk at h
  rw [Bool.and_eq_true, Bool.and_eq_true, decide_eq_true_eq] at h
  refine ⟨h.1.1, fun z => ?_, h.2⟩
  rw [z] at h
  cases h.1.2
theorem rdInt_ok {s : List Nat} {i : Int} (h : Mn.rdInt s = some i) : PySem.intText? (sOf s) = some i ∧ s.length ≤ 640 := by
  unfold Mn.rdInt at h
  split at h
  · rename_i s0
    split at h
    · rename_i hf
      cases h
      obtain ⟨h1, h2, h3⟩ := figs_ok hf
      refine ⟨intText_neg (x := sOf (45 :: s0)) (cs := s0) rfl (fun c hc => ?_) h2 (by rw [show (sOf (45 :: s0)).length = (45 :: s0).length from SX.S_len _]; show s0.length + 1 ≤ 4300; omega), by show s0.length + 1 ≤ 640; omega⟩
      have z := List.all_eq_true.mp h1 c hc
      rw [Bool.and_eq_true, decide_eq_true_eq, decide_eq_true_eq] at z
      exact z
    · cases h
  · split at h
    · rename_i hf
      cases h
      obtain ⟨h1, h2, h3⟩ := figs_ok hf
      exact ⟨SX.int_S h1 h2 (by omega), by omega⟩
    · cases h
theorem b_intS : CallR X (.type "int") (rdB T Mn.uIntS) := by
  intro pins s σ H xs us Q I r ⟨x, e, R, M, u, S, ra, p⟩
  subst e
  unfold Mn.uIntS at p
  split at p
  · rename_i s0
    cases e : Mn.rdInt s0 with
    | none =>
      rw [e] at p
      exact p.elim
    | some i =>
      rw [e] at p
      obtain ⟨h1, h2⟩ := rdInt_ok e
      cases ra
      exact call_int_str pins s σ H _ us Q I r ⟨_, _, rfl, h1, by rw [show (sOf s0).length = s0.length from SX.S_len s0]; exact h2, post_ok S p (.int _)⟩
  · exact p.elim
theorem o_inS : OpR X (compareOp .In) (rdO T (Mn.cInS false)) := by
  intro pins s σ H x y v u Q I rx ry ⟨R, M, a, b, S, ra, rb, p⟩
  unfold Mn.cInS at p
  split at p
  · rename_i c t
    cases ra
    cases rb
    refine op_in_str pins s σ H _ _ v u Q I rx ry ⟨_, _, rfl, rfl, ?_⟩
    have e : (!(Builtin.Str.occurrences (sOf t) (sOf [c]) 0 (sOf t).length 1).isEmpty) = decide (c ∈ t) := SX.in_one t c
    rw [e]
    exact post_ok S p (.bl _)
  · exact p.elim
theorem o_notInS : OpR X (compareOp .NotIn) (rdO T (Mn.cInS true)) := by
  intro pins s σ H x y v u Q I rx ry ⟨R, M, a, b, S, ra, rb, p⟩
  unfold Mn.cInS at p
  split at p
  · rename_i c t
    cases ra
    cases rb
    refine op_notin_str pins s σ H _ _ v u Q I rx ry ⟨_, _, rfl, rfl, ?_⟩
    have e : (!(Builtin.Str.occurrences (sOf t) (sOf [c]) 0 (sOf t).length 1).isEmpty) = decide (c ∈ t) := SX.in_one t c
    rw [e]
    exact post_ok S p (.bl _)
  · exact p.elim
theorem ixS_rd : ∀ (x y : V) (H : Hp) (Q : VK), rdO T Mn.oIxS x y H Q → rIxS x y H Q := fun x y H Q ⟨R, M, u, v, S, ra, rb, p⟩ => by
  unfold Mn.oIxS at p
  split at p
  · rename_i M' t i
    split at p
    · rename_i hz
      cases ra
      cases rb
      cases e : Mn.atI t i with
      | none =>
        rw [e] at p
        exact p.elim
      | some c =>
        rw [e] at p
        exact ⟨_, i, c, rfl, rfl, by rw [show (sOf t).length = t.length from SX.S_len t]; exact hz, e, post_ok S p (.str [c])⟩
    · exact p.elim
  · exact p.elim
theorem s_ixS (ha : PE X a (rdE T W fa)) (hb : PE X b (rdE T W fb)) (hs : PlainIx b) : PE X (.Subscript a b pos) (rdE T W (Mn.eBin Mn.oIxS fa fb)) :=
  PE.imp (pe_ix ix_str ha hb hs) fun σ H Q h => tOp_mono ixS_rd σ H Q (bin_rd σ H Q h)
theorem m_starts : MtR X "str.startswith" (rdM1 T Mn.mStarts) := by
  intro pins s σ H x vs v us Q I rx rv ⟨y, e, R, M, u, z, S, ra, rb, p⟩
  subst e
  unfold Mn.mStarts at p
  split at p
  · rename_i t c
    cases ra
    cases rb
    refine mt_startswith pins s σ H _ _ v us Q I rx rv ⟨_, _, rfl, rfl, ?_⟩
    have e : Txt.startswith (sOf t) (sOf [c]) = decide (t[0]? = some c) := by
      have h := StrLaws.subAt_one (sOf t) c 0
      rw [Bool.eq_iff_iff, decide_eq_true_eq]
      unfold Txt.startswith
      rw [Bool.and_eq_true, decide_eq_true_eq]
      exact h
    rw [e]
    exact post_ok S p (.bl _)
  · exact p.elim
theorem par_eq (c : Nat) : ∀ (l acc : List Nat), TL.par [c] acc l = (Mn.parL c l).map fun p => (acc ++ p.1, p.2)
  | [], acc => rfl
  | d :: r, acc => by
    have hp : TL.pre [c] (d :: r) = decide (d = c) := by
      show ([d] == [c]) = _
      rw [Bool.eq_iff_iff, decide_eq_true_eq, beq_iff_eq]
      exact ⟨fun h => (List.cons.inj h).1, fun h => by rw [h]⟩
    unfold Mn.parL
    by_cases h : d = c
    · rw [if_pos h, TL.par_hit (by rw [hp]; exact decide_eq_true h)]
      show some (acc, r) = some (acc ++ [], r)
      rw [List.append_nil]
    · rw [if_neg h, TL.par_miss (by rw [hp]; exact decide_eq_false h), par_eq c r]
      cases Mn.parL c r with
      | none => rfl
      | some q =>
        show some (acc ++ [d] ++ q.1, q.2) = some (acc ++ (d :: q.1), q.2)
        rw [List.append_assoc]
        rfl
theorem part_eq (c : Nat) (t : List Nat) : [(Txt.partition (sOf t) (sOf [c])).1, (Txt.partition (sOf t) (sOf [c])).2.1, (Txt.partition (sOf t) (sOf [c])).2.2] = (Mn.parV c t).map sOf := by
  have h := par_eq c t []
  unfold Mn.parV
  cases e : Mn.parL c t with
  | none =>
    rw [e] at h
    have q : Txt.partition (sOf t) (sOf [c]) = (sOf t, sOf [], sOf []) := SX.partition_none (List.cons_ne_nil _ _) h
    rw [q]
    rfl
  | some z =>
    rw [e] at h
    have q : Txt.partition (sOf t) (sOf [c]) = (sOf z.1, sOf [c], sOf z.2) := SX.partition_some (List.cons_ne_nil _ _) h
    rw [q]
    rfl
theorem rels_strs : ∀ l : List (List Nat), Rels T R H (l.map Val.str) ((l.map sOf).map V.str)
  | [] => .nil
  | x :: l => .cons (.str x) (rels_strs l)
theorem m_part : MtR X "str.partition" (rdM1 T Mn.mPart) := by
  intro pins s σ H x vs v us Q I rx rv ⟨y, e, R, M, u, z, S, ra, rb, p⟩
  subst e
  unfold Mn.mPart at p
  split at p
  · rename_i t c
    split at p
    · rename_i hz
      cases ra
      cases rb
      refine mt_partition pins s σ H _ _ v us Q I rx rv ⟨_, _, rfl, rfl, rfl, by rw [show (sOf t).length = t.length from SX.S_len t]; exact hz, fun w hw => ?_⟩
      have e : ([V.str (Txt.partition (sOf t) (sOf [c])).1, V.str (Txt.partition (sOf t) (sOf [c])).2.1, V.str (Txt.partition (sOf t) (sOf [c])).2.2] : List V) = ((Mn.parV c t).map sOf).map V.str := by
        rw [← part_eq]
        rfl
      rw [e]
      exact p R _ _ (List.prefix_refl R) (Keep.new hw) (S.other hw) (.tup (.inl upd_same) (rels_strs _))
    · exact p.elim
  · exact p.elim
theorem splL_ne (c : Nat) : ∀ l : List Nat, Mn.splL c l ≠ []
  | [] => fun h => by cases h
  | d :: r => fun h => by
    unfold Mn.splL at h
    split at h
    · cases h
    · split at h <;> cases h
theorem spl_eq (c : Nat) : ∀ (l acc : List Nat), TL.spl [c] 0 acc l = (match Mn.splL c l with
    | [] => [acc]
    | p :: ps => (acc ++ p) :: ps)
  | [], acc => by
    show [acc] = [acc ++ []]
    rw [List.append_nil]
  | d :: r, acc => by
    have hp : TL.pre [c] (d :: r) = decide (d = c) := by
      show ([d] == [c]) = _
      rw [Bool.eq_iff_iff, decide_eq_true_eq, beq_iff_eq]
      exact ⟨fun h => (List.cons.inj h).1, fun h => by rw [h]⟩
    unfold Mn.splL
    by_cases h : d = c
    · rw [if_pos h, TL.spl_hit (by rw [hp]; exact decide_eq_true h)]
      show acc :: TL.spl [c] 0 [] r = (acc ++ []) :: Mn.splL c r
      rw [List.append_nil, spl_eq c r []]
      have ne := splL_ne c r
      cases e : Mn.splL c r with
      | nil => exact absurd e ne
      | cons p ps => rfl
    · rw [if_neg h, TL.spl_miss (by rw [hp]; exact decide_eq_false h), spl_eq c r]
      cases Mn.splL c r with
      | nil => rfl
      | cons p ps =>
        show (acc ++ [d] ++ p) :: ps = (acc ++ (d :: p)) :: ps
        rw [List.append_assoc]
        rfl
theorem spl_eq0 (c : Nat) (l : List Nat) : TL.spl [c] 0 [] l = Mn.splL c l := by
  rw [spl_eq c l []]
  have ne := splL_ne c l
  cases e : Mn.splL c l with
  | nil => exact absurd e ne
  | cons p ps => rfl
theorem m_split : MtR X "str.split" (rdM1 T Mn.mSplit) := by
  intro pins s σ H x vs v us Q I rx rv ⟨y, e, R, M, u, z, S, ra, rb, p⟩
  subst e
  unfold Mn.mSplit at p
  split at p
  · rename_i t c
    split at p
    · rename_i hz
      cases ra
      cases rb
      refine mt_split pins s σ H _ _ v us Q I rx rv ⟨_, _, rfl, rfl, rfl, by rw [show (sOf t).length = t.length from SX.S_len t]; exact hz.1, fun w hw => ?_⟩
      have e : Txt.split (sOf t) (sOf [c]) = (Mn.splL c t).map sOf := by
        rw [← spl_eq0]
        exact SX.split_S (List.cons_ne_nil _ _) (by
          show (decide (c < 256) && true) = true
          rw [decide_eq_true hz.2]
          rfl)
      rw [e]
      exact post_new S p hw (new_lst (rels_strs _) hw)
    · exact p.elim
  · exact p.elim
theorem strs_rels : ∀ {xs : List Val} {vs : List V} {ys : List (List Nat)}, Rels T R H xs vs → Mn.strsOf xs = some ys → vs = (ys.map sOf).map V.str
  | _, _, _, .nil, h => by
    cases h
    rfl
  | _, _, _, .cons r rs, h => by
    cases r with
    | str x =>
      obtain ⟨q, e, rfl⟩ := Option.map_eq_some_iff.mp (show (Mn.strsOf _).map (x :: ·) = some _ from h)
      rw [strs_rels rs e]
      rfl
    | _ => cases h
theorem joinL_eq (s : List Nat) : ∀ l : List (List Nat), TL.joinL s l = Mn.joinL s l
  | [] => rfl
  | [_] => rfl
  | p :: q :: r => by
    show p ++ (s ++ TL.joinL s (q :: r)) = p ++ (s ++ Mn.joinL s (q :: r))
    rw [joinL_eq s (q :: r)]
theorem m_join (hK : X.K = T.K) : MtR X "str.join" (rdM1 T Mn.mJoin) := by
  intro pins s σ H x vs v us Q I rx rv ⟨y, e, R, M, u, z, S, ra, rb, p⟩
  subst e
  unfold Mn.mJoin at p
  split at p
  · rename_i t n
    split at p
    · rename_i xs el
      split at p
      · rename_i ys ey
        split at p
        · rename_i hj
          cases ra
          cases rb with
          | ref hn =>
            obtain ⟨a', ws, ha, sq, rx'⟩ := S.lst el
            rw [hn] at ha
            cases ha
            have ew := strs_rels rx' ey
            subst ew
            refine mt_join pins s σ H _ _ v us Q I rx rv ⟨_, _, ys.map sOf, rfl, rfl, .inl (by rw [hK]; exact sq), ?_, ?_⟩
            · have l := SX.lens ys
              have l : ((ys.map sOf).map (·.length)) = ys.map (·.length) := l
              rw [l, List.length_map, show (sOf t).length = t.length from SX.S_len t]
              exact of_decide_eq_true hj
            · have e : Txt.join (sOf t) (ys.map sOf) = sOf (Mn.joinL t ys) := (SX.join_S t ys).trans (congrArg sOf (joinL_eq t ys))
              rw [e]
              exact post_ok S p (.str _)
        · exact p.elim
      · exact p.elim
    · exact p.elim
  · exact p.elim
theorem it_str (t : List Nat) : ItOk T R H (Mn.itStr t) (Its (sOf t)) := by
  refine ⟨fun R' H M p _ S h => ?_, fun i R' H M v p _ S hi h => ?_⟩
  · show (sOf t).cps.size ≤ t.length
    exact Nat.le_refl _
  · obtain ⟨c, hc, rfl⟩ := Option.map_eq_some_iff.mp (show t[i]?.map (fun c => Val.str [c]) = some v from h)
    refine ⟨?_, fun x H' ⟨e1, c', e2, e3⟩ => ?_⟩
    · show i < (sOf t).cps.size
      exact hi
    · subst e1
      have e4 : (sOf t).cps[i]? = t[i]? := by
        show t.toArray[i]? = _
        simp
      rw [e4, hc] at e2
      cases e2
      subst e3
      exact ⟨R', List.prefix_refl R', Keep.refl _, S, .str [c]⟩
theorem i_str (ha : PE X a (rdE T W fa)) : PI X tg a (rdI T W (Mn.iStr fa)) := PI.imp (pi_str ha) fun σ H Q ⟨R, ρ, M, e, s, p⟩ => by
  refine rdE_mono (src_rd e s p) fun x H1 ⟨R1, M1, v, e1, s1, r1, p1, k1, q⟩ => ?_
  cases r1 with
  | str t => exact ⟨sOf t, rfl, q R1 H1 _ (List.prefix_refl R1) (Keep.refl _) s1 (it_str t)⟩
  | _ => exact q.elim
end
end MnS
end
section
set_option Elab.async false
set_option autoImplicit false
set_option linter.all false
set_option maxRecDepth 100000
set_option maxHeartbeats 2000000
namespace MnS
open PySem PySem.Spec PyProof.Rows L2
open Mn (Val Cell Store E Fn Op U Itr Src Tg)
theorem wipe_get : ∀ (vs : List Nat) (σ : L2.St) (j : Nat), (L2.wipe σ vs)[j]? = if j ∈ vs ∧ j < σ.length then some none else σ[j]?
  | [], σ, j => by simp [L2.wipe]
  | v :: vs, σ, j => by
    unfold L2.wipe
    have ih := wipe_get vs σ j
    by_cases hj : v = j
    · subst hj
      by_cases hl : v < σ.length
      · rw [List.getElem?_set_self (by rw [wipe_length]; exact hl), if_pos ⟨List.mem_cons_self, hl⟩]
      · rw [List.getElem?_eq_none (by rw [List.length_set, wipe_length]; omega), if_neg fun z => hl z.2, List.getElem?_eq_none (by omega)]
    · rw [List.getElem?_set_ne hj, ih]
      have e : (j ∈ vs ∧ j < σ.length) ↔ (j ∈ v :: vs ∧ j < σ.length) := by
        rw [List.mem_cons]
        constructor
        · exact fun z => ⟨.inr z.1, z.2⟩
        · exact fun z => ⟨z.1.resolve_left fun q => hj q.symm, z.2⟩
      simp only [e]
theorem wipe_eq {vs ts : List Nat} {σ σ' : L2.St} (h : ∀ j ∈ ts, j ∈ vs) (hl : σ'.length = (L2.wipe σ vs).length) (hd : ∀ j, j ∉ ts → σ'[j]? = (L2.wipe σ vs)[j]?) : L2.wipe σ' vs = L2.wipe σ vs := by
  rw [wipe_length] at hl
  refine List.ext_getElem? fun j => ?_
  rw [wipe_get, wipe_get, hl]
  by_cases hj : j ∈ vs ∧ j < σ.length
  · rw [if_pos hj, if_pos hj]
  · rw [if_neg hj, if_neg hj]
    by_cases hm : j ∈ vs
    · have : ¬ j < σ.length := fun z => hj ⟨hm, z⟩
      rw [List.getElem?_eq_none (by omega), List.getElem?_eq_none (by omega)]
    · rw [hd j fun z => hm (h j z), wipe_get, if_neg hj]
theorem env_wipe {T : Tb} {R : List Addr} {H : Hp} {ρ : Mn.Env} {σ : L2.St} (e : EnvR T R H ρ σ) : ∀ vs : List Nat, EnvR T R H (Mn.wipe ρ vs) (L2.wipe σ vs)
  | [] => e
  | v :: vs => by
    have ih := env_wipe e vs
    unfold Mn.wipe L2.wipe
    refine ⟨by rw [List.length_set, List.length_set]; exact ih.1, fun j u h => ?_⟩
    by_cases hj : v = j
    · subst hj
      by_cases hl : v < (Mn.wipe ρ vs).length
      · rw [List.getElem?_set_self hl] at h
        cases h
      · rw [List.getElem?_eq_none (by rw [List.length_set]; omega)] at h
        cases h
    · rw [List.getElem?_set_ne hj] at h ⊢
      exact ih.2 j u h
abbrev W0 : WX := fun _ _ _ _ => False
section
variable {T : Tb} {W : WX} {R R1 R2 : List Addr} {H H1 H2 : Hp} {D : Addr} {o : HO}
theorem Keep.late (k : Keep R1 R2 H1 H2) (hD : H1 D = none) : Keep R1 R2 H1 (L2.upd H2 D o) := by
  have g : ∀ a u, H1 a = some u → ∀ w, H2 a = w → L2.upd H2 D o a = w := fun a u e w q => by
    rw [upd_ne (ne_of_none e hD)]
    exact q
  exact ⟨fun a xs e => g a _ e _ (k.tup a xs e), fun a φ e => g a _ e _ (k.ext a φ e), fun a u e n => ⟨g a _ e _ (k.fr a u e n).1, (k.fr a u e n).2⟩, fun a d u e => g a _ e _ (k.fz a d u e)⟩
theorem Keep.adopt (k : Keep R1 R2 H1 H2) (hD : H1 D = none) : Keep R1 (R2 ++ [D]) H1 H2 := by
  refine ⟨k.tup, k.ext, fun a u e n => ⟨(k.fr a u e n).1, fun z => ?_⟩, k.fz⟩
  rcases List.mem_append.mp z with z | z
  · exact (k.fr a u e n).2 z
  · exact ne_of_none e hD (by simpa using z)
theorem stay_lst {xs : List V} {u : HO} (h : H D = some (.lst xs)) : Stay H (upd H D u) := by
  refine ⟨fun a ys e => ?_, fun a φ e => ?_⟩
  · rw [upd_ne (fun z => by rw [z, h] at e; cases e)]
    exact e
  · rw [upd_ne (fun z => by rw [z, h] at e; cases e)]
    exact e
theorem lc_rd {fi : Src} {t : Tg} {ts vs : List Nat} {fc fe : E} (hts : ∀ j ∈ ts, j ∈ vs) : ∀ σ H Q, rdE T W (Mn.eLc fi t vs fc fe) σ H Q → tLc (rdI T W fi) (rdG T ts t) (rdT T W0 fc) (rdE T W0 fe) vs σ H Q := fun σ H Q ⟨R, ρ, M, e, s, p⟩ => by
  refine ⟨R, ρ, M, e, s, ?_⟩
  unfold Mn.eLc at p
  cases q : fi ρ M with
  | bad =>
    rw [q] at p
    exact p
  | exc c M1 =>
    rw [q] at p
    exact p
  | ok it M1 =>
    rw [q, Mn.R.bind_ok] at p
    by_cases hz : it.n ≤ Mn.szLine
    · rw [if_pos hz] at p
      intro R1 H1 J p1 k1 s1 o1 D hD
      have e1 := env_wipe (e.mono p1 k1) vs
      refine ⟨fun i m Hc => ∃ R2 acc accV M2, R1 <+: R2 ∧ Keep R1 R2 H1 Hc ∧ Sim T R2 Hc M2 ∧ D ∉ R2 ∧ Hc D = some (.lst accV) ∧ Rels T R2 Hc acc accV ∧ acc.length ≤ i ∧ i + m = it.n ∧
        Mn.lcN it t fc fe (Mn.wipe ρ vs) it.n 0 [] M1 = Mn.lcN it t fc fe (Mn.wipe ρ vs) m i acc M2,
        ⟨it.n, R1, [], [], M1, List.prefix_refl _, Keep.new hD, s1.other hD, s1.mem hD, upd_same, .nil, Nat.le_refl _, Nat.zero_add _, rfl⟩, ?_⟩
      rintro i m Hc ⟨R2, acc, accV, M2, p2, k2, s2, nD, hcD, ra, la, lm, run⟩
      cases m with
      | zero =>
        rw [run] at p
        unfold Mn.lcN at p
        by_cases hf : it.fin M2 = true
        · rw [if_pos hf, Mn.R.bind_ok] at p
          have hi : i = it.n := by omega
          subst hi
          refine .inl ⟨o1.stop R2 Hc M2 p2 k2 s2 hf, ?_⟩
          refine p (R2 ++ [D]) Hc (.ref D) ((p1.trans p2).trans (List.prefix_append _ _)) (k1.trans (k2.adopt hD)) (s2.adopt nD ⟨accV, hcD, ra⟩) (.ref ?_)
          rw [← s2.len, List.getElem?_append_right (Nat.le_refl _), Nat.sub_self]
          rfl
        · rw [if_neg hf] at p
          exact p.elim
      | succ m =>
        have p0 := p
        rw [run] at p
        unfold Mn.lcN at p
        cases en : it.nxt i M2 with
        | none =>
          simp only [en] at p
          exact p.elim
        | some v =>
          simp only [en] at p
          obtain ⟨g1, g2⟩ := o1.go i R2 Hc M2 v p2 k2 s2 (by omega) en
          refine .inr ⟨g1, fun H' => ∃ R2 acc accV M2, R1 <+: R2 ∧ Keep R1 R2 H1 H' ∧ Sim T R2 H' M2 ∧ D ∉ R2 ∧ H' D = some (.lst accV) ∧ Rels T R2 H' acc accV ∧ acc.length ≤ i + 1 ∧ (i + 1) + m = it.n ∧
            Mn.lcN it t fc fe (Mn.wipe ρ vs) it.n 0 [] M1 = Mn.lcN it t fc fe (Mn.wipe ρ vs) m (i + 1) acc M2, fun H' h => ⟨m, Nat.lt_succ_self m, h⟩, fun x H' hy => ?_⟩
          obtain ⟨R3, p3, k3, s3, r3⟩ := g2 x H' hy
          refine ⟨R3, Mn.wipe ρ vs, M2, v, e1.mono (p2.trans p3) (k2.trans k3), s3, r3, ?_⟩
          cases et : t v (Mn.wipe ρ vs) M2 with
          | nx ρ1 M4 =>
            simp only [et] at p
            intro R4 H4 σ4 p4 k4 s4 e4 l4 d4
            refine ⟨wipe_eq hts l4 d4, R4, ρ1, M4, e4, s4, ?_⟩
            cases ec : fc ρ1 M4 with
            | ok b M5 =>
              simp only [ec] at p
              cases b with
              | bl b =>
                intro R5 H5 p5 k5 s5
                have p25 := p3.trans (p4.trans p5)
                have k25 := k3.trans (k4.trans k5)
                cases b with
                | false =>
                  rw [if_neg Bool.false_ne_true]
                  obtain ⟨hd5, nd5⟩ := k25.fr D _ hcD nD
                  refine ⟨R5, acc, accV, M5, p2.trans p25, k2.trans k25, s5, nd5, hd5, ra.mono p25 k25, by omega, by omega, ?_⟩
                  rw [run]
                  conv => lhs; unfold Mn.lcN
                  simp only [en, et, ec]
                | true =>
                  rw [if_pos rfl]
                  refine ⟨R5, ρ1, M5, e4.mono p5 k5, s5, ?_⟩
                  cases ee : fe ρ1 M5 with
                  | ok y M6 =>
                    intro R6 H6 w p6 k6 s6 r6
                    have p26 := p25.trans p6
                    have k26 := k25.trans k6
                    obtain ⟨hd6, nd6⟩ := k26.fr D _ hcD nD
                    have st : Stay H6 (upd H6 D (.lst (accV ++ [w]))) := stay_lst hd6
                    refine ⟨accV, hd6, ?_, R6, acc ++ [y], accV ++ [w], M6, p2.trans p26, (k2.trans k26).late hD, s6.stay st fun n a ha => upd_ne fun z => nd6 (z ▸ List.mem_of_getElem? ha), nd6, upd_same, ((ra.mono p26 k26).append (.cons r6 .nil)).stay (List.prefix_refl _) st, by rw [List.length_append, List.length_singleton]; omega, by omega, ?_⟩
                    · rw [← ra.length, ← szLine_eq]
                      omega
                    · rw [run]
                      conv => lhs; unfold Mn.lcN
                      simp only [en, et, ec, ee]
                  | exc c M6 =>
                    simp only [ee] at p
                    exact p.elim
                  | bad =>
                    simp only [ee] at p
                    exact p.elim
              | _ => exact p.elim
            | exc c M5 =>
              simp only [ec] at p
              exact p.elim
            | bad =>
              simp only [ec] at p
              exact p.elim
          | _ =>
            simp only [et] at p
            exact p.elim
    · rw [if_neg hz] at p
      exact p.elim
end
end MnS
end
section
set_option Elab.async false
set_option autoImplicit false
set_option linter.all false
set_option maxRecDepth 100000
set_option maxHeartbeats 2000000
namespace MnS
open PySem PySem.Spec PyProof.Rows L2
open Mn (Val Cell Store E Fn Op U Itr Src Tg)
theorem forIn_stay {β : Type} {M : Model} {A : Around} {Er : Value → Shared → Prop} {s : Shared} {b : β} {f : Value → β → Sem (ForInStep β)} : ∀ {l : List Value}, (∀ c ∈ l, ∀ Q : ForInStep β → Shared → Prop, Q (.yield b) s → wpAny M A (f c b) Q Er s) →
    ∀ {Q : β → Shared → Prop}, Q b s → wpAny M A (forIn l b f) Q Er s
  | [], _, Q, q => by
    rw [List.forIn_nil]
    exact wpAny_pure q
  | c :: r, h, Q, q => by
    rw [List.forIn_cons]
    refine wpAny_bind (h c List.mem_cons_self _ ?_)
    exact forIn_stay (fun d hd => h d (List.mem_cons_of_mem _ hd)) q
theorem exm_none {M : Model} {K : PySem.W.Frag} {cs : List Value} {cls : Value} {tp e : Addr} {h : Heap} (X : K.In h) (LT : PySem.W.Looks M h (typeOf (.ref e)) cls) (hp : h.get? tp = some { cls := .type "tuple", data := .seq cs.toArray })
    (hx : ∀ c ∈ cs, PySem.W.exmOne K cls c = some false) : PySem.W.Looks M h (excMatches (.ref e) (.ref tp)) false := by
  intro A Q Er s k0 q
  have kk : ∀ b o, h.get? b = some o → s.heap.get? b = some o := k0
  have TT : PySem.W.Looks M h (isInstance (.ref tp) (.type "tuple")) true := ((PySem.W.Looks.ld hp).andThen .now).andThen (PySem.W.Looks.of_pure isSubtype_tuple_tuple)
  have hp2 := kk _ _ hp
  unfold excMatches
  refine wpAny_bind ((TT.keeps kk).here ?_)
  dsimp only
  rw [if_pos rfl]
  first
    | refine wpAny_bind (wpAny_seqItems hp2 rfl ?_)
    | refine wpAny_bind (wpAny_bind (wpAny_seqItems hp2 rfl (wpAny_pure ?_)))
  dsimp only [Option.getD_some, Option.getD]
  refine wpAny_bind (wpAny_pure ?_)
  refine wpAny_bind (forIn_stay (fun c hc Q2 q2 => ?_) ?_)
  · obtain ⟨i1, i2⟩ := PySem.W.exm_cls (M := M) X (hx c hc)
    refine wpAny_bind ((i1.keeps kk).here ?_)
    simp only [Bool.not_true, Bool.false_eq_true, if_false]
    exact wpAny_pure q2
  · refine wpAny_bind ((LT.keeps kk).here ?_)
    refine wpAny_bind (forIn_stay (fun c hc Q2 q2 => ?_) ?_)
    · obtain ⟨i1, i2⟩ := PySem.W.exm_cls (M := M) X (hx c hc)
      refine wpAny_bind ((i2.keeps kk).here ?_)
      simp only [Bool.false_eq_true, if_false]
      exact wpAny_pure q2
    · exact wpAny_pure q
section
variable {X : Cx} {pins : List (Addr × Obj)} {σ : L2.St} {H : Hp} {s : Shared}
theorem held_ok {a : Addr} {oe : Obj} {vs : Array Value} {φ : Heap → Prop} (I : Inv X pins σ H s) (ha : s.heap.get? a = some oe) (hd : oe.data = .fields vs) (na : H a = none) (nL : a ≠ X.env.locals) (n0 : X.s_0.heap.get? a = none)
    (np : ∀ p ∈ X.pn ++ pins, p.1 ≠ a) (ob : ObjOk X.prog X.w (upd H a (.ext φ)) s.heap a (.ext φ)) : Inv X pins σ (upd H a (.ext φ)) s := by
  have old : ∀ b u, H b = some u → upd H a (.ext φ) b = some u := fun b u e => by
    rw [upd_ne (ne_of_none e na)]
    exact e
  refine ⟨I.ok, I.os, I.bare, ⟨I.base.keep, I.base.slot, fun b o e n hx => ?_, I.base.there, fun b xs e => old b _ (I.base.tups b xs e), fun b o u e => old b _ (I.base.frzs b o u e), fun b ps e => ?_⟩, I.loc, I.cell, ?_, fun x c e => ?_, fun p hp => ?_, fun b u e => ?_, I.len⟩
  · rw [upd_ne fun z => by rw [z, n0] at e; cases e]
    exact I.base.free b o e n hx
  · obtain ⟨m, q⟩ := I.base.tbls b ps e
    exact ⟨m, old b _ q⟩
  · rw [upd_ne (Ne.symm nL)]
    exact I.free
  · have nc : c ≠ a := fun z => by
      obtain ⟨v, hv⟩ := I.cell x c e
      obtain ⟨oc, h1, h2⟩ := hv
      rw [z, ha] at h1
      cases h1
      rw [hd] at h2
      cases h2
    rw [upd_ne nc]
    exact I.freeC x c e
  · obtain ⟨h1, h2, h3⟩ := I.pin p hp
    refine ⟨h1, ?_, h3⟩
    rw [upd_ne (np p hp)]
    exact h2
  · by_cases hb : b = a
    · subst hb
      rw [upd_same] at e
      cases e
      exact ob
    · rw [upd_ne hb] at e
      exact (I.hok b u e).stay (fun c v _ q => q) (fun c q => old c _ q) fun c xs q => old c _ q
theorem toSuite (I : Inv X pins σ H s) (a : Addr) : Inv (X.suite a (X.pn ++ pins)) [] σ H s :=
  ⟨I.ok.suite _ _, I.os, I.bare, I.base, I.loc, I.cell, I.free, I.freeC, fun p hp => I.pin p (by rw [List.append_nil] at hp; exact hp), I.hok, I.len⟩
theorem ofSuite {a : Addr} (I : Inv (X.suite a (X.pn ++ pins)) [] σ H s) (ok : X.Ok) : Inv X pins σ H s :=
  ⟨ok, I.os, I.bare, I.base, I.loc, I.cell, I.free, I.freeC, fun p hp => I.pin p (List.mem_append_left _ hp), I.hok, I.len⟩
end
theorem EnvR.unset {T : Tb} {R : List Addr} {H : Hp} {ρ : Mn.Env} {σ : L2.St} (h : EnvR T R H ρ σ) (i : Nat) : EnvR T R H (ρ.set i none) (σ.set i none) := by
  refine ⟨by rw [List.length_set, List.length_set]; exact h.1, fun j u e => ?_⟩
  by_cases hj : i = j
  · subst hj
    by_cases hi : i < ρ.length
    · rw [List.getElem?_set_self hi] at e
      cases e
    · rw [List.getElem?_eq_none (by rw [List.length_set]; omega)] at e
      cases e
  · rw [List.getElem?_set_ne hj] at e ⊢
    exact h.2 j u e
def unS (o : Option Nat) (σ : L2.St) : L2.St := match o with
  | some i => σ.set i none
  | none => σ
theorem EnvR.un {T : Tb} {R : List Addr} {H : Hp} {ρ : Mn.Env} {σ : L2.St} (h : EnvR T R H ρ σ) : ∀ o, EnvR T R H (Mn.unO o ρ) (unS o σ)
  | none => h
  | some i => h.unset i
def DP (D : Ends) (o : Option Nat) : Ends := ⟨fun σ H => D.nx (unS o σ) H, D.rt, fun σ H => D.bk (unS o σ) H, fun σ H => D.ct (unS o σ) H⟩
theorem drop_post {T : Tb} {W : WX} {D : Ends} {o : Option Nat} {R : List Addr} {H H1 : Hp} {r : Mn.RS} (k : Keep R R H H1) (h : PostS T W D R H (r.calm.drop o)) : PostS T W0 (DP D o) R H1 r := by
  have h := PostS.mono h (List.prefix_refl R) k
  cases r with
  | nx ρ M => exact fun R2 H2 σ p2 k2 s2 e2 => h R2 H2 _ p2 k2 s2 (e2.un o)
  | ret v M => exact h
  | bk ρ M => exact fun R2 H2 σ p2 k2 s2 e2 => h R2 H2 _ p2 k2 s2 (e2.un o)
  | ct ρ M => exact fun R2 H2 σ p2 k2 s2 e2 => h R2 H2 _ p2 k2 s2 (e2.un o)
  | exc c ρ M => exact h.elim
  | bad => exact h.elim
section
variable (X : Cx) (T : Tb)
def CTest (t : Expr) (cs : List String) (tup : Bool) : Prop := ∀ {a : Addr} {c : String} {oe : Obj} {pn : List (Addr × Obj)} {σ : L2.St} {H : Hp} {s : Shared}, Inv (X.suite a ((a, oe) :: pn)) [] σ H s → c ∈ T.xs →
  PySem.W.Looks (model X.prog X.w) s.heap (typeOf (.ref a)) (.ref (T.ca c)) → (tup = true → cs.any (Mn.isX c) = false) → ∀ {Q : Bool → Shared → Prop} {E E2 : Value → Shared → Prop},
  (∀ h', (∀ b o, s.heap.get? b = some o → h'.get? b = some o) → Q (cs.any (Mn.isX c)) { s with heap := h' }) →
  wpAny (model X.prog X.w) (X.A.mark (some (.ref a))) (eval t X.env) (fun v s1 => wpAny (model X.prog X.w) (X.A.mark (some (.ref a))) (excMatches (.ref a) v) Q E2 s1) E s
inductive HdsT : List ExceptHandler → List Mn.Hd → Prop
  | nil : HdsT [] []
  | cons {t : Expr} {cs : List String} {tup : Bool} {o : Option Nat} {n : Option Str} {st : Mn.St} {b₀ : Stmt} {suite : List Stmt} {pos : Pos} {hds : List ExceptHandler} {l : List Mn.Hd} (ht : CTest X T t cs tup)
      (hn : (n = none ∧ o = none) ∨ ∃ x i, n = some x ∧ o = some i ∧ X.N[i]? = some x ∧ X.env.kindOf x = some .local)
      (hs : ∀ (a : Addr) (pn : List (Addr × Obj)), PSs (X.suite a pn) (b₀ :: suite) (rdS T W0 st)) (r : HdsT hds l) :
      HdsT (.ExceptHandler (some t) n (b₀ :: suite) pos :: hds) (⟨tup, cs, o, st⟩ :: l)
end
end MnS
end
section
set_option Elab.async false
set_option autoImplicit false
set_option linter.all false
set_option maxRecDepth 100000
set_option maxHeartbeats 2000000
namespace MnS
open PySem PySem.Spec PyProof.Rows L2
open Mn (Val Cell Store E Fn Op U Itr Src Tg)
section
variable {X : Cx} {T : Tb} {W : WX}
def wTry (T : Tb) (W : WX) (D : Ends) (l : List Mn.Hd) : WX := fun cls d σ H => d = none ∧ ∃ c, c ∈ T.xs ∧ cls = .ref (T.ca c) ∧ ∃ R ρ M, EnvR T R H ρ σ ∧ Sim T R H M ∧ PostS T W D R H (Mn.handle l c ρ M)
theorem try_rd {fb fe : Mn.St} {l : List Mn.Hd} : ∀ σ H D, rdS T W (Mn.sTry fb l fe) D σ H → rdS T (wTry T W D l) fb { D with nx := rdS T W fe D } σ H := fun σ H D ⟨R, ρ, M, e, s, p⟩ => by
  refine ⟨R, ρ, M, e, s, ?_⟩
  unfold Mn.sTry at p
  cases z : fb ρ M with
  | nx ρ2 M2 =>
    rw [z] at p
    exact fun R2 H2 σ2 p2 k2 s2 e2 => ⟨R2, ρ2, M2, e2, s2, PostS.mono (r := fe ρ2 M2) p p2 k2⟩
  | exc c ρ2 M2 =>
    rw [z] at p
    exact fun hc R2 H2 σ2 p2 k2 s2 e2 => ⟨rfl, c, hc, rfl, R2, ρ2, M2, e2, s2, PostS.mono (r := Mn.handle l c ρ2 M2) p p2 k2⟩
  | ret v M2 =>
    rw [z] at p
    exact p
  | bk ρ2 M2 =>
    rw [z] at p
    exact p
  | ct ρ2 M2 =>
    rw [z] at p
    exact p
  | bad =>
    rw [z] at p
    exact p
theorem flying_more {B h h' : Heap} {l : List Env} {e : Addr} {Z : Obj → Prop} (f : HandSPX.FlyingZ B l e Z h) (k : ∀ b o, h.get? b = some o → h'.get? b = some o) : HandSPX.FlyingZ B l e Z h' := by
  obtain ⟨f1, f2, f3, oe, ws, tr, otr, ts, g1, g2, g3, g4, g5, g6, g7, g8, g9⟩ := f
  exact ⟨fun b o q => k b o (f1 b o q), f2, f3.of_keeps fun b o q _ => ⟨o, k b o q, rfl⟩, oe, ws, tr, otr, ts, k _ _ g1, g2, g3, g4, g5, g6, k _ _ g7, g8, g9⟩
theorem s_try {body orelse : List Stmt} {h₀ : ExceptHandler} {hds : List ExceptHandler} {fb fe : Mn.St} {l : List Mn.Hd} {pos : Pos} (hs : X.stack = X.env :: X.outer) (hf : X.env.frame = some X.env.locals) (hex : X.ex = []) (hN : X.N.Nodup) (tk : Takes X W)
    (hb : ∀ (W' : WX) (pn : List (Addr × Obj)) (xe : Value → Shared → Prop), Takes (X.tr pn xe) W' → PassesOwn (model X.prog X.w) X.A X.env xe → PSs (X.tr pn xe) body (rdS T W' fb)) (ho : PSs X orelse (rdS T W fe)) (hh : HdsT X T (h₀ :: hds) l) :
    PS X (.Try body (h₀ :: hds) orelse [] pos) (rdS T W (Mn.sTry fb l fe)) := by
  refine PS.imp (t := fun D σ H => rdS T (wTry T W D l) fb { D with nx := rdS T W fe D } σ H) ⟨fun pins s σ H D I rd => ?_⟩ try_rd
  have ok := I.ok
  have frm : X.A.frames = some (X.env :: X.outer) := by rw [ok.frames, hs]
  refine wpAny_Try_except (wpAny_mono ((hb (wTry T W D l) (X.pn ++ pins) (fun e s1 => wpAny (model X.prog X.w) X.A (noteFrame e X.env) (fun _ s2 => wpAny (model X.prog X.w) X.A (setFlight e none)
    (fun _ s3 => wpAny (model X.prog X.w) X.A (handleBy e X.env (h₀ :: hds)) (SP X pins D) X.xe s3) X.xe s2) X.xe s1) (fun u s' air => ?_) PassesOwn.looking).run [] s σ H _ (I.toTry _) rd) (fun f s1 sp => ?_) fun _ _ z => z)
  · obtain ⟨a, B, sI, pins', σ', H', cls, d, rfl, J0, nb, up, sky, na, os, ag, rfl, c, hc, rfl, R, ρ, M, env, sim, post⟩ := air
    have J : Inv X pins σ' H' sI := J0.ofTry ok
    have sky' : Sky B (X.env :: X.outer) a (Zc (.ref (T.ca c)) none) X.env.locals s'.heap := hs ▸ sky
    show wpAny (model X.prog X.w) X.A (noteFrame (.ref a) X.env) _ _ _
    refine Sky.land Zc.steady frm hf sky' fun h3 fl3 up3 => ?_
    have noFr : ∀ {h : Heap}, HandSPX.FlyingZ B (X.env :: X.outer) a (Zc (.ref (T.ca c)) none) h → a ∉ frs (X.env :: X.outer) := fun {h} fl m => by
      obtain ⟨oe, vs, e1, _, e2⟩ := fl.there
      obtain ⟨_, o', e', hnf⟩ := fl.2.2.1.mem m
      rw [e1] at e'
      cases e'
      exact hnf _ e2
    have nfr := noFr fl3
    have nL : a ≠ X.env.locals := fun z => nfr (List.mem_filterMap.mpr ⟨X.env, List.mem_cons_self, by rw [hf, z]⟩)
    have nF : a ∉ X.fs := fun m => by
      obtain ⟨e, he, q⟩ := List.mem_filterMap.mp m
      exact nfr (List.mem_filterMap.mpr ⟨e, List.mem_cons_of_mem _ he, q⟩)
    have none0 : ∀ o, sI.heap.get? a ≠ some o := fun o e => by
      have q := nb a o e (by rw [hs]; exact nfr)
      rw [fl3.2.1] at q
      cases q
    have n0 : X.s_0.heap.get? a = none := by
      cases q : X.s_0.heap.get? a with
      | none => rfl
      | some o =>
        obtain ⟨o', e⟩ := J.base.there a o q (by rw [hex]; simp)
        exact absurd e (none0 o')
    have np : ∀ p ∈ X.pn ++ pins, p.1 ≠ a := fun p hp z => none0 p.2 (z ▸ (J.pin p hp).1)
    have go : ∀ {hs2 : List ExceptHandler} {l2 : List Mn.Hd}, HdsT X T hs2 l2 → PostS T W D R H' (Mn.handle l2 c ρ M) → ∀ sC : Shared, HandSPX.FlyingZ B (X.env :: X.outer) a (Zc (.ref (T.ca c)) none) sC.heap → sI.heap.UpToSlots sC.heap → sC.os = sI.os → AllBare sC.gens →
        wpAny (model X.prog X.w) X.A (handleBy (.ref a) X.env hs2) (SP X pins D) X.xe sC := by
      intro hs2 l2 hk
      induction hk with
      | nil =>
        intro post sC fl upC osC agC
        refine wpAny_handleBy_nil ?_
        obtain ⟨k1, k2, k3, oe, vs, tr, otr, ts, e1, e2, e3, e4, e5⟩ := id fl
        unfold PySem.passOn
        refine wpAny_bind (wpAny_field e1 e3 e4 ?_)
        rw [if_neg (by simp : ¬ ((Value.ref tr == Value.none) = true))]
        have out : wpAny (model X.prog X.w) X.A (setFlight (.ref a) X.env.frame) (fun _ s4 => wpAny (model X.prog X.w) X.A (throw (.ref a) : Sem Flow) (SP X pins D) X.xe s4) X.xe sC := by
          rw [hf]
          refine HandSPX.setFlight_upZ fl fun h4 hh4 up4 => wpAny_throw (tk _ _ ?_)
          exact ⟨a, B, sI, pins, σ', H', _, _, rfl, J, nb, upC.trans up4, .inr (.inr (hs ▸ hh4)), na, osC, agC, post hc R H' σ' (List.prefix_refl R) (Keep.refl H') sim env⟩
        first
          | exact wpAny_bind (wpAny_pure (wpAny_bind out))
          | exact wpAny_bind out
      | @cons t cs tup o n st b₀ suite pos2 hds2 l3 ht hn hsu r ih =>
        intro post sC fl upC osC agC
        unfold Mn.handle at post
        dsimp only at post
        have JC : Inv X pins σ' H' sC := J.landed nb fl.1 upC osC agC
        obtain ⟨oe, vs, e1, e2, e3⟩ := fl.there
        have SC := JC.suite e1 e3 na nL nF
        refine wpAny_handleBy_cons (codeAny_handlers_test ?_) (by intro q; cases q)
        have LT : PySem.W.Looks (model X.prog X.w) sC.heap (typeOf (.ref a)) (.ref (T.ca c)) := fun A Q E s k q => wpAny_typeOf_ref (k _ _ e1) (by rw [e2.1]; exact q)
        by_cases hit : cs.any (Mn.isX c) = true
        · rw [if_pos hit] at post
          by_cases ht2 : tup = true
          · rw [if_pos ht2] at post
            exact post.elim
          · rw [if_neg ht2] at post
            refine ht SC hc LT (fun z => absurd z ht2) fun h5 k5 => ?_
            rw [hit]
            have fl5 := flying_more fl k5
            have up5 : sI.heap.UpToSlots h5 := upC.trans (Heap.UpToSlots.of_keeps k5)
            -- the suite, from a heap on in which the exception stands
            have run : ∀ {h6 : Heap} {n' : Option Str}, HandSPX.FlyingZ B (X.env :: X.outer) a (Zc (.ref (T.ca c)) none) h6 → sI.heap.UpToSlots h6 →
                (∀ i, o = some i → ∃ x, n' = some x ∧ X.N[i]? = some x ∧ X.env.kindOf x = some .local) → ∀ {Q : Flow → Shared → Prop} {E : Value → Shared → Prop},
                (∀ f s7 (K : ∀ {Q2 : Shared → Prop} {E2 : Value → Shared → Prop}, (∀ s8, SP X pins D f s8 → Q2 s8) → match o with
                  | none => Q2 s7
                  | some i => ∀ x, X.N[i]? = some x → X.env.kindOf x = some .local → wpAny (model X.prog X.w) X.A (do bindName X.env x .none; unbindBehindTheSuite X.env x pos2) (fun _ s8 => Q2 s8) E2 s7), Q f s7) →
                match o with
                | none => wpAny (model X.prog X.w) (X.A.mark (some (.ref a))) (execs (b₀ :: suite) X.env) Q E { sC with heap := h6 }
                | some i => ∀ x, X.N[i]? = some x → X.env.kindOf x = some .local → wpAny (model X.prog X.w) (X.A.mark (some (.ref a))) (storeName X.env x (.ref a)) (fun _ s6 => wpAny (model X.prog X.w) (X.A.mark (some (.ref a))) (execs (b₀ :: suite) X.env) Q E s6) E { sC with heap := h6 } := by
              intro h6 n' fl6 up6 hi Q E hQ
              have J6 : Inv X pins σ' H' { sC with heap := h6 } := J.landed nb fl6.1 up6 osC agC
              obtain ⟨oe6, vs6, f1, f2, f3⟩ := fl6.there
              have I6 : Inv X pins σ' (upd H' a (.ext (excPhi (T.ca c) a))) { sC with heap := h6 } := held_ok J6 f1 f3 na nL n0 np ⟨⟨oe6, vs6, f1, f2.1, f2.2, f3⟩, ⟨oe6, f1⟩, fun g1 g2 ⟨ob, ws, w1, w2⟩ kk => ⟨ob, ws, kk _ w1, w2⟩⟩
              have S6 := toSuite I6 a
              have kn : Keep R R H' (upd H' a (.ext (excPhi (T.ca c) a))) := Keep.new na
              have env6 := env.mono (List.prefix_refl R) kn
              have sim6 := sim.other (o := .ext (excPhi (T.ca c) a)) na
              have rel6 : Rel T R (upd H' a (.ext (excPhi (T.ca c) a))) (.exc c) (.ref a) := .exc hc upd_same
              have dp : PostS T W0 (DP D o) R (upd H' a (.ext (excPhi (T.ca c) a))) (st (Mn.setO o c ρ) M) := drop_post kn post
              -- what the suite's end gives
              have fin : ∀ (f : Flow) (s7 : Shared), SP (X.suite a (X.pn ++ pins)) [] (DP D o) f s7 → Q f s7 := fun f s7 sp => by
                refine hQ f s7 fun {Q2 E2} q2 => ?_
                cases o with
                | none =>
                  refine q2 s7 ?_
                  cases f with
                  | next =>
                    obtain ⟨σ7, H7, S7, q7⟩ := sp
                    exact ⟨σ7, H7, ofSuite S7 ok, q7⟩
                  | brk =>
                    obtain ⟨σ7, H7, S7, q7⟩ := sp
                    exact ⟨σ7, H7, ofSuite S7 ok, q7⟩
                  | cont =>
                    obtain ⟨σ7, H7, S7, q7⟩ := sp
                    exact ⟨σ7, H7, ofSuite S7 ok, q7⟩
                  | ret u =>
                    obtain ⟨v7, σ7, H7, S7, r7, q7⟩ := sp
                    exact ⟨v7, σ7, H7, ofSuite S7 ok, r7, q7⟩
                | some i =>
                  intro x hx kx
                  cases f with
                  | next =>
                    obtain ⟨σ7, H7, S7, q7⟩ := sp
                    exact gone_ok (ofSuite S7 ok) hN hx kx fun s8 J8 => q2 s8 ⟨_, H7, J8, q7⟩
                  | brk =>
                    obtain ⟨σ7, H7, S7, q7⟩ := sp
                    exact gone_ok (ofSuite S7 ok) hN hx kx fun s8 J8 => q2 s8 ⟨_, H7, J8, q7⟩
                  | cont =>
                    obtain ⟨σ7, H7, S7, q7⟩ := sp
                    exact gone_ok (ofSuite S7 ok) hN hx kx fun s8 J8 => q2 s8 ⟨_, H7, J8, q7⟩
                  | ret u =>
                    obtain ⟨v7, σ7, H7, S7, r7, q7⟩ := sp
                    exact gone_ok (ofSuite S7 ok) hN hx kx fun s8 J8 => q2 s8 ⟨v7, _, H7, J8, r7, q7⟩
              cases o with
              | none => exact wpAny_mono ((hsu a (X.pn ++ pins)).run [] _ σ' _ (DP D none) S6 ⟨R, ρ, M, env6, sim6, dp⟩) fin fun _ _ z => z.elim
              | some i =>
                intro x hx kx
                refine store_ok (X := X.suite a (X.pn ++ pins)) (v := .ref a) S6 hN hx (.inl kx) rfl (fun s6 T6 => ?_) (.inr kx)
                exact wpAny_mono ((hsu a (X.pn ++ pins)).run [] s6 _ _ (DP D (some i)) T6 ⟨R, _, M, env6.set rel6 i, sim6, dp⟩) fin fun _ _ z => z.elim
            rcases hn with ⟨rfl, rfl⟩ | ⟨x, i, rfl, rfl, hx, kx⟩
            · refine codeAny_handlers_suite (HandSPX.lands_againZ fl5 fun h6 fl6 up6 => ?_)
              exact run (n' := none) fl6 (up5.trans up6) (fun i z => nomatch z) fun f s7 K => K (E2 := X.xe) fun s8 q => q
            · refine codeAny_handlers_suite_as (HandSPX.lands_againZ fl5 fun h6 fl6 up6 => ?_)
              refine wpAny_mono (run (n' := some x) fl6 (up5.trans up6) (fun j z => by cases z; exact ⟨x, rfl, hx, kx⟩) (Q := fun f s7 => wpAny (model X.prog X.w) X.A (do bindName X.env x .none; unbindBehindTheSuite X.env x pos2) (fun _ s8 => SP X pins D f s8) X.xe s7) (E := fun _ _ => False) (fun f s7 K => K (fun s8 q => q) x hx kx) x hx kx) (fun _ s6 q6 => wpAny_mono q6 (fun f s7 q7 => q7) fun _ _ z => z.elim) fun _ _ z => z.elim
        · rw [if_neg hit] at post
          have hit : cs.any (Mn.isX c) = false := by simpa using hit
          refine ht SC hc LT (fun _ => hit) fun h5 k5 => ?_
          rw [hit]
          exact ih post { sC with heap := h5 } (flying_more fl k5) (upC.trans (Heap.UpToSlots.of_keeps k5)) osC agC
    exact go hh post _ fl3 (up.trans up3) os ag
  · cases f with
    | next =>
      obtain ⟨σ', H', J', q⟩ := sp
      exact ho.run pins s1 σ' H' D (J'.ofTry ok) q
    | brk =>
      obtain ⟨σ', H', J', q⟩ := sp
      exact ⟨σ', H', J'.ofTry ok, q⟩
    | cont =>
      obtain ⟨σ', H', J', q⟩ := sp
      exact ⟨σ', H', J'.ofTry ok, q⟩
    | ret u =>
      obtain ⟨v, σ', H', J', r, q⟩ := sp
      exact ⟨v, σ', H', J'.ofTry ok, r, q⟩
end
end MnS
end
section
set_option autoImplicit false
namespace Mn
def uLRev : U
  | .ref n, M => match lstAt M n with
    | some xs => alloc (.lst xs.reverse) M
    | none => none
  | _, _ => none
def uDic : U := fun _ M => alloc (.dic []) M
end Mn
end
section
set_option Elab.async false
set_option autoImplicit false
set_option linter.all false
set_option maxRecDepth 100000
set_option maxHeartbeats 2000000
namespace MnS
open PySem PySem.Spec PyProof.Rows L2
open Mn (Val Cell Store E Fn Op U Itr Src Tg)
section
variable {prog : Program} {w : World} {A : Around} {E : Value → Shared → Prop} {s : Shared}
theorem ext_rev {R : Result → Shared → Prop} {it l : Addr} {items : Array Value} (hh : A.handled = none) (hit : s.heap.IsRevIter it l ((items.size : Int) - 1)) (hl : s.heap.IsList l items) (hne : l ≠ it) (hn : items.size ≤ sizeLine)
    (S : Addr) (c₀ : Nat) (hSi : S ≠ it) (hSl : S ≠ l) (hS : s.heap.get? S = some { cls := .type "list", data := .seq #[] c₀ })
    (hR : ∀ (h' : Heap) (tk : Nat) (acc' : Array Value) (c' : Nat), (∀ b o, b ≠ S → b ≠ it → s.heap.get? b = some o → h'.get? b = some o) → h'.get? S = some { cls := .type "list", dict := none, data := .seq acc' c', slots := #[] } →
      ItemsOf (fun i v => items[items.size - 1 - i]? = some v) acc' items.size → R (.ok (.ret .none)) { s with heap := h', toks := tk }) :
    wpAny (model prog w) A.in1 (Builtin.List.listExtendWith (.ref S) (.ref it) .none)
      (fun fin s' => match fin with | .done f => R (.ok f) s' | .again c' => c'.quiet = true ∧ codeAny (model prog w) A c' R s') (fun e s' => R (.error e) s') s := by
  have W := (Walks.listRev (prog := prog) (w := w) (A := A.in1) hh it l hne items).toS
  have hSf : S ∉ [it, l] := by simp only [List.mem_cons, List.not_mem_nil, or_false, not_or]; exact ⟨hSi, hSl⟩
  have hT : s.TypeIs (.ref it) "list_reverseiterator" := hit.typeIs
  have h1 : Builtin.List.listSameRef (.ref S) (.ref it) = false := by simp [Builtin.List.listSameRef, hSi]
  unfold Builtin.List.listExtendWith
  refine wpAny_bind (wpAny_typeOf hT ?_)
  rw [if_neg (by rw [h1]; decide)]
  refine wpAny_bind (wpAny_pyIter_revIter hit ?_)
  refine wpAny_bind (wpAny_holding ?_)
  unfold Builtin.List.listLengthHint
  refine wpAny_bind (wpAny_specialOf hT RT.nolen_lri ?_)
  show wpAny _ A.in1 (specialOf (Value.ref it) (Str.ofString "__length_hint__") >>= _) _ _ _
  refine wpAny_bind (wpAny_specialOf hT RT.hint_lri ?_)
  generalize hid : ("list_reverseiterator.__length_hint__" : String) = id0
  wp_delta
  rw [show splitId id0 = some ("list_reverseiterator", "__length_hint__") from by subst hid; decide +kernel]
  subst hid
  refine wpAny_bind (wpAny_isInstance (b := true) hT (by rw [isSubtype_type]; kernel_rfl) ?_)
  refine wpAny_pure ?_
  rw [if_neg (by decide)]
  have e0 : ((items.size : Nat) : Int) - 1 - ((0 : Nat) : Int) = (items.size : Int) - 1 := by omega
  refine wpAny_pure ⟨plainId_quiet F.plain_extend_loop _, codeAny_extend_loopS W hn _ hSf _ items.size 0 _ _ _ rfl (Nat.zero_le _) ⟨Nat.zero_le _, by rw [e0]; exact hit, hl⟩ hS (ItemsOf.nil _) fun s' acc' c' hm hS' hacc => ?_⟩
  rw [Moved.eq_with hm]
  refine hR s'.heap s'.toks acc' c' (fun b o hb1 hb2 e => hm.heap b o (fun hmem => ?_) e) hS' hacc
  rcases List.mem_cons.mp hmem with e' | hmem
  · exact hb1 e'
  · exact hb2 (List.mem_singleton.mp hmem)
theorem init_rev {R : Result → Shared → Prop} {it l : Addr} {items : Array Value} (hh : A.handled = none) (hit : s.heap.IsRevIter it l ((items.size : Int) - 1)) (hl : s.heap.IsList l items) (hne : l ≠ it) (hn : items.size ≤ sizeLine)
    (S : Addr) (hSi : S ≠ it) (hSl : S ≠ l) (hS : s.heap.get? S = some { cls := .type "list", data := .seq #[] })
    (hR : ∀ (h' : Heap) (tk : Nat) (acc' : Array Value) (c' : Nat), (∀ b o, b ≠ S → b ≠ it → s.heap.get? b = some o → h'.get? b = some o) → h'.get? S = some { cls := .type "list", dict := none, data := .seq acc' c', slots := #[] } →
      ItemsOf (fun i v => items[items.size - 1 - i]? = some v) acc' items.size → R (.ok (.ret .none)) { s with heap := h', toks := tk }) :
    wpAny (model prog w) A.in1 (Builtin.«list.__init__» ⟨[.ref S, .ref it], []⟩)
      (fun fin s' => match fin with | .done f => R (.ok f) s' | .again c' => c'.quiet = true ∧ codeAny (model prog w) A c' R s') (fun e s' => R (.error e) s') s := by
  show wpAny _ A.in1 (do let old ← Builtin.List.listItems (.ref S); Builtin.List.listUpdate (.ref S) (fun _ => #[]); letGo old.toList.reverse; Builtin.List.listExtendWith (.ref S) (.ref it) .none) _ _ s
  refine wpAny_bind ?_
  unfold Builtin.List.listItems
  refine wpAny_bind (wpAny_seqItems hS rfl (wpAny_pure ?_))
  show wpAny _ A.in1 (updateSeq S (fun _ => #[]) >>= fun _ => letGo (#[] : Array Value).toList.reverse >>= fun _ => Builtin.List.listExtendWith (.ref S) (.ref it) .none) _ _ s
  refine wpAny_bind (wpAny_updateSeq hS rfl ?_)
  have hS₂ := Heap.get?_update_self (Obj.mapSeq (fun _ => (#[] : Array Value))) hS rfl
  have oth : ∀ b o, b ≠ S → s.heap.get? b = some o → (s.heap.update S (Obj.mapSeq (fun _ => (#[] : Array Value)))).get? b = some o :=
    fun b o hb e => (Heap.get?_update_other _ _ (Ne.symm hb)).trans e
  refine wpAny_bind (wpAny_letGo ?_)
  obtain ⟨oi, hoi, di⟩ := id hit
  obtain ⟨ol, hol, dl⟩ := id hl
  refine ext_rev (s := { s with heap := s.heap.update S (Obj.mapSeq (fun _ => (#[] : Array Value))) }) hh ⟨oi, oth _ _ (Ne.symm hSi) hoi, di⟩ ⟨ol, oth _ _ (Ne.symm hSl) hol, dl⟩ hne hn S _ hSi hSl hS₂ fun h' tk acc' c' hk hS' hacc => ?_
  exact hR h' tk acc' c' (fun b o hb1 hb2 e => hk b o hb1 hb2 (oth b o hb1 e)) hS' hacc
theorem call_list_rev {it l : Addr} {items : Array Value} {Q : Value → Shared → Prop} (hh : A.handled = none) (hit : s.heap.IsRevIter it l ((items.size : Int) - 1)) (hl : s.heap.IsList l items) (hne : l ≠ it) (hn : items.size ≤ sizeLine)
    (hQ : ∀ (h' : Heap) (tk : Nat) (acc' : Array Value) (c' : Nat), (∀ b o, b ≠ it → s.heap.get? b = some o → h'.get? b = some o) → h'.get? s.heap.objs.size = some { cls := .type "list", dict := none, data := .seq acc' c', slots := #[] } →
      ItemsOf (fun i v => items[items.size - 1 - i]? = some v) acc' items.size → Q (.ref s.heap.objs.size) { s with heap := h', toks := tk }) :
    wpAny (model prog w) A (call (.type "list") [.ref it]) Q E s := by
  refine callType_codes (Q₁ := fun obj s₁ => obj = .ref s.heap.objs.size ∧ s₁ = { s with heap := s.heap.push { cls := .type "list", data := .seq #[] } }) F.called_list (F.typeCall_list_1 _) F.entry_list_init
    (code_list_new _ ⟨rfl, rfl⟩) fun obj s₁ h₁ => ?_
  obtain ⟨rfl, rfl⟩ := h₁
  have hS : (s.heap.push { cls := .type "list", data := .seq #[] }).get? s.heap.objs.size = some { cls := .type "list", data := .seq #[] } := Heap.get?_push_size _ rfl
  obtain ⟨oi, hoi, _⟩ := id hit
  obtain ⟨ol, hol, _⟩ := id hl
  refine ⟨⟨_, hS, rfl⟩, F.args_list_init_2 _ _, init_rev (A := A.in1) (s := { s with heap := s.heap.push { cls := .type "list", data := .seq #[] } }) hh (hit.at fun o e => Heap.get?_push_of_some _ e) (hl.push _) hne hn _ (Nat.ne_of_gt (Heap.lt_size hoi)) (Nat.ne_of_gt (Heap.lt_size hol)) hS fun h' tk acc' c' hk hS' hacc => ?_⟩
  exact ⟨rfl, hQ h' tk acc' c' (fun b o hb e => hk b o (Nat.ne_of_lt (Heap.lt_size e)) hb (Heap.get?_push_of_some _ e)) hS' hacc⟩
end
theorem Rels.reverse {T : Tb} {R : List Addr} {H : Hp} : ∀ {xs : List Val} {vs : List V}, Rels T R H xs vs → Rels T R H xs.reverse vs.reverse
  | _, _, .nil => .nil
  | _, _, .cons r1 r2 => by
    rw [List.reverse_cons, List.reverse_cons]
    exact (Rels.reverse r2).append (.cons r1 .nil)
def tLstRev (K : PySem.W.Frag) (te : TE) : TE := fun σ H Q => te σ H fun v H1 => ∃ (a : Addr) (xs : List V), v = .ref a ∧ SqL K H1 a xs ∧ ∀ q, H1 q = none → Q (.ref q) (upd H1 q (.lst xs.reverse))
section
variable {X : Cx} {T : Tb} {W : WX}
theorem pe_lstRev {e : Expr} {te : TE} {p p2 pos pos2 : Pos} (hc : X.calm = true) (hg : Gl X "list") (hm : X.mg "list" = none) (hg2 : Gl X "reversed") (hm2 : X.mg "reversed" = none) (he : PE X e te)
    (hs : starEach [e] X.env = (false, eval e X.env) :: starEach [] X.env)
    (hs2 : starEach [.Call (.Name "reversed" p2) [e] [] pos2] X.env = (false, eval (.Call (.Name "reversed" p2) [e] [] pos2) X.env) :: starEach [] X.env := by rfl) :
    PE X (.Call (.Name "list" p) [.Call (.Name "reversed" p2) [e] [] pos2] [] pos) (tLstRev X.K te) := by
  refine ⟨fun pins s σ H Q I h => ?_⟩
  refine Call_ (ld_blt I hg hm boot_list (PyProof.Rows.callWith_type1 (args_cons (Call_ (ld_blt I hg2 hm2 PyProof.Rows.boot_reversed (PyProof.Rows.callWith_type1 (args_cons (thn (he.run pins s σ H _ I h) fun u s1 ⟨v, H1, I1, r1, q1⟩ => args_nil ?_) hs) hs rfl))) hs2) hs2 rfl))
  obtain ⟨a, xs, ev, hq, q⟩ := q1
  subst ev
  obtain rfl : u = Value.ref a := r1
  obtain ⟨its, rv, p', hz⟩ := I1.list hq
  refine call_reversed_list p'.isList (args_nil ?_)
  have hl := p'.isList
  obtain ⟨ol, hol, _⟩ := id hl
  have hne : a ≠ s1.heap.objs.size := Nat.ne_of_lt (Heap.lt_size hol)
  have hn : its.toArray.size ≤ sizeLine := by rw [List.size_toArray, ← rv.length]; exact hz
  have hsz : s1.heap.objs.size ≤ (s1.heap.push (revObj a ((its.toArray.size : Int) - 1))).objs.size := by
    show _ ≤ (s1.heap.objs.push _).size
    rw [Array.size_push]
    exact Nat.le_succ _
  refine call_list_rev (s := { s1 with heap := s1.heap.push (revObj a ((its.toArray.size : Int) - 1)) }) (I1.ok.hd hc) ⟨_, Heap.get?_push_size _ rfl, rfl, rfl⟩ (hl.push _) hne hn fun h' tk acc c' hk e' hi => ?_
  refine ⟨.ref (s1.heap.push (revObj a ((its.toArray.size : Int) - 1))).objs.size, upd H1 (s1.heap.push (revObj a ((its.toArray.size : Int) - 1))).objs.size (.lst xs.reverse),
    I1.laid (t' := tk) (fun b o e => hk b o (Nat.ne_of_lt (Heap.lt_size e)) (Heap.get?_push_of_some _ e)) hsz (show ObjOk X.prog X.w _ _ _ (.lst xs.reverse) from ⟨by rw [List.length_reverse]; exact hz, acc.toList, c', RT.vals_rev rv hi, ?_⟩), rfl, q _ (I1.hok.fresh hsz)⟩
  rw [Array.toArray_toList]
  exact e'
theorem lrev_ok (hK : X.K = T.K) {e : Expr} {fa : E} {p p2 pos pos2 : Pos} (hc : X.calm = true) (hg : Gl X "list") (hm : X.mg "list" = none) (hg2 : Gl X "reversed") (hm2 : X.mg "reversed" = none) (he : PE X e (rdE T W fa))
    (hs : starEach [e] X.env = (false, eval e X.env) :: starEach [] X.env) : PE X (.Call (.Name "list" p) [.Call (.Name "reversed" p2) [e] [] pos2] [] pos) (rdE T W (Mn.eUn Mn.uLRev fa)) := by
  refine PE.imp (pe_lstRev hc hg hm hg2 hm2 he hs) fun σ H Q h => ?_
  refine rdE_mono (un_rd σ H Q h) fun x H1 ⟨R, M, u, S, ra, p⟩ => ?_
  unfold Mn.uLRev at p
  cases ra with
  | @ref n a hn =>
    simp only [] at p
    cases el : Mn.lstAt M n with
    | none =>
      simp only [el] at p
      exact p.elim
    | some ys =>
      simp only [el] at p
      obtain ⟨a', vs, ha, sq, rx⟩ := S.lst el
      rw [hn] at ha
      cases ha
      exact ⟨a, vs, rfl, by rw [hK]; exact sq, fun l hl => post_new S p hl (new_lst rx.reverse hl)⟩
  | _ => exact p.elim
theorem s_dic {pos : Pos} : PE X (.Dict [] [] pos) (rdE T W (Mn.eUn Mn.uDic (Mn.eC .non))) := PE.imp pe_dnewK fun σ H Q ⟨R, ρ, M, e, s, p⟩ => fun q hq => post_new (W' := at_ W σ) s p hq ⟨[], upd_same, .nil⟩
end
end MnS
end
section
set_option Elab.async false
set_option autoImplicit false
set_option linter.all false
set_option maxRecDepth 100000
set_option maxHeartbeats 2000000
namespace MnS
open PySem PySem.Spec PyProof.Rows L2
open Mn (Val Cell Store E Fn Op U Itr Src Tg)
theorem ofString_inj {f g : String} (h : Str.ofString f = Str.ofString g) : f = g := by
  rw [Str.ofString_eq_toList, Str.ofString_eq_toList] at h
  have h2 : (f.toList.map Char.toNat).toArray = (g.toList.map Char.toNat).toArray := congrArg Str.cps h
  have h3 : f.toList.map Char.toNat = g.toList.map Char.toNat := by simpa using congrArg Array.toList h2
  have inj : ∀ (a b : List Char), a.map Char.toNat = b.map Char.toNat → a = b := by
    intro a
    induction a with
    | nil =>
      intro b h
      cases b with
      | nil => rfl
      | cons => cases h
    | cons x a ih =>
      intro b h
      cases b with
      | nil => cases h
      | cons y b =>
        simp only [List.map_cons, List.cons.injEq] at h
        have e : x = y := Char.ext (UInt32.toNat_inj.mp h.1)
        rw [e, ih b h.2]
  exact String.toList_inj.mp (inj _ _ h3)
theorem ofString_beq (f g : String) : (Str.ofString f == Str.ofString g) = (f == g) := by
  by_cases h : f = g
  · rw [h, beq_self_eq_true, beq_self_eq_true]
  · rw [beq_eq_false_iff_ne.mpr h, beq_eq_false_iff_ne.mpr fun z => h (ofString_inj z)]
section
variable {T : Tb} {R : List Addr} {H : Hp}
theorem RelF.lookup {f : String} : ∀ {fs : List (String × Val)} {vs : List (Str × V)} {x : Val}, RelF T R H fs vs → fs.lookup f = some x → ∃ v, vs.lookup (Str.ofString f) = some v ∧ Rel T R H x v
  | _, _, _, .nil, h => by cases h
  | _, _, x, .cons (f := g) r rs, h => by
    rw [List.lookup_cons] at h ⊢
    rw [ofString_beq]
    cases q : f == g with
    | true =>
      rw [q] at h
      cases h
      exact ⟨_, rfl, r⟩
    | false =>
      rw [q] at h
      exact RelF.lookup rs h
theorem RelF.lookup_none {f : String} : ∀ {fs : List (String × Val)} {vs : List (Str × V)}, RelF T R H fs vs → fs.lookup f = none → vs.lookup (Str.ofString f) = none
  | _, _, .nil, _ => rfl
  | _, _, .cons (f := g) r rs, h => by
    rw [List.lookup_cons] at h ⊢
    rw [ofString_beq]
    cases q : f == g with
    | true =>
      rw [q] at h
      cases h
    | false =>
      rw [q] at h
      exact RelF.lookup_none rs h
theorem RelF.put {f : String} {x : Val} {v : V} (r : Rel T R H x v) : ∀ {fs : List (String × Val)} {vs : List (Str × V)}, RelF T R H fs vs → RelF T R H (Mn.putM f x fs) (putF (Str.ofString f) v vs)
  | _, _, .nil => .cons r .nil
  | _, _, .cons (f := g) q qs => by
    unfold Mn.putM putF
    by_cases h : g = f
    · rw [if_pos h, if_pos (by rw [h])]
      exact .cons r qs
    · rw [if_neg h, if_neg fun z => h (ofString_inj z)]
      exact .cons q (RelF.put r qs)
theorem RelF.length : ∀ {fs : List (String × Val)} {vs : List (Str × V)}, RelF T R H fs vs → fs.length = vs.length
  | _, _, .nil => rfl
  | _, _, .cons _ r => congrArg Nat.succ (RelF.length r)
end
theorem Sim.obj {T : Tb} {R : List Addr} {H : Hp} {M : Store} (S : Sim T R H M) {n : Nat} {a : Addr} {c : String} {fs : List (String × Val)} (hn : R[n]? = some a) (h : M[n]? = some (.obj c fs)) : ∃ dx vs, H a = some (.ins (T.ca c) dx vs) ∧ RelF T R H fs vs := S.cell n a _ hn h
section
variable {X : Cx} {T : Tb} {W : WX} {a e : Expr} {es : List Expr} {fa fe : E} {fs : List E} {pos ap p : Pos} {cs : List String} {f : String}
theorem s_fld (hc : ∀ c ∈ cs, Cls X.K (T.ca c) ∧ NoAttr X.K (T.ca c) (Str.ofString f)) (ha : PE X a (rdE T W fa)) (hb : attributeBase a (Str.ofString f) X.env (eval a X.env) = eval a X.env) :
    PE X (.Attribute a (Str.ofString f) pos) (rdE T W (Mn.eUn (Mn.uFld cs f) fa)) := PE.imp (pe_fld ha hb) fun σ H Q ⟨R, ρ, M, e, s, p⟩ => by
  refine rdE_mono (rdE_bind e s p) fun x H1 ⟨R1, M1, v, e1, s1, r1, p1, k1, q⟩ => ?_
  unfold Mn.uFld at q
  split at q
  · rename_i n
    cases r1 with
    | ref hn =>
      split at q
      · rename_i c fs hm
        split at q
        · rename_i hcs
          obtain ⟨dx, vs, h1, rf⟩ := s1.obj hn hm
          cases hl : fs.lookup f with
          | none =>
            rw [hl] at q
            exact q.elim
          | some x =>
            rw [hl] at q
            obtain ⟨v, e2, r2⟩ := rf.lookup hl
            obtain ⟨c1, c2⟩ := hc c (by simpa using hcs)
            exact ⟨_, _, dx, vs, v, rfl, h1, c1, c2, e2, post_ok s1 q r2⟩
        · exact q.elim
      · exact q.elim
  · exact q.elim
theorem s_setF (hc : ∀ c ∈ cs, Cls X.K (T.ca c) ∧ NoAttr X.K (T.ca c) (Str.ofString f)) (ha : PE X a (rdE T W fa)) (he : PE X e (rdE T W fe)) (hs : swapsWith e (some (.Attribute a (Str.ofString f) ap)) pos.line X.env = pure false) :
    PS X (.Assign [.Attribute a (Str.ofString f) ap] e pos) (rdS T W (Mn.sAsg (Mn.tFld cs f fa) fe)) := PS.imp (ps_fld ha he hs) fun σ H D ⟨R, ρ, M, e, s, p⟩ => by
  refine rdE_mono (st_rd e s p) fun y H1 ⟨R1, M1, v, e1, s1, r1, q⟩ => ?_
  refine ⟨R1, ρ, M1, e1, s1, ?_⟩
  unfold Mn.tFld at q
  cases z : fa ρ M1 with
  | bad =>
    rw [z] at q
    exact q.elim
  | exc c M' =>
    rw [z] at q
    exact q.elim
  | ok x M2 =>
    rw [z] at q
    intro R2 H2 w p2 k2 s2 r2
    simp only at q
    unfold Mn.setFld at q
    split at q
    · rename_i M3 h3
      split at h3
      · rename_i n
        cases r2 with
        | @ref n ad hn =>
        split at h3
        · rename_i c fs hm
          split at h3
          · rename_i hcs
            cases h3
            obtain ⟨dx, vs, g1, rf⟩ := s2.obj hn hm
            obtain ⟨c1, c2⟩ := hc c (by simpa using hcs.1)
            refine ⟨ad, _, dx, vs, rfl, g1, c1, c2, by rw [← rf.length]; exact hcs.2, ?_⟩
            have rv := r1.mono p2 k2
            have kk : Keep R2 R2 H2 (upd H2 ad (.ins (T.ca c) dx (putF (Str.ofString f) y vs))) := Keep.upd (List.mem_of_getElem? hn) ⟨fun xs e => (by rw [g1] at e; cases e), fun φ e => (by rw [g1] at e; cases e)⟩ fun d u e => (by rw [g1] at e; cases e)
            obtain ⟨s3, k3⟩ := s2.write (c := .obj c (Mn.putM f v fs)) hn hm rfl ⟨dx, _, upd_same, (rf.put rv).stay (List.prefix_refl _) kk.st⟩
            exact q R2 _ _ p2 (k2.trans k3) s3 (e1.mono p2 (k2.trans k3))
          · cases h3
        · cases h3
      · cases h3
    · exact q.elim
theorem meth_ev {te : TE} {m : Str} {σ : L2.St} {H : Hp} {s : Shared} {pins : List (Addr × Obj)} {Q : Value → Shared → Prop} (he : PE X a te) (hb : attributeBase a m X.env (eval a X.env) = eval a X.env) (hl : (ap.endLine == pos.line) = true)
    (hfew : ((backTo pos (starEach es X.env)).all (fun x => !x.1) && (backToKw pos (keywordEach [] X.env)).all (fun x => x.1.isSome) && decide (es.length + ([] : List Keyword).length + (if ([] : List Keyword).isEmpty then 0 else 1) < 30)) = true)
    (I : L2.Inv X pins σ H s) (h : te σ H fun x H1 => ∃ b C dx fs g, x = .ref b ∧ H1 b = some (.ins C dx fs) ∧ Cls X.K C ∧ Meth X.K C m g ∧ fs.lookup m = none ∧
      ∀ s1, L2.Inv X pins σ H1 s1 → wpAny (model X.prog X.w) X.A (callWith pos (.ref g) [.ref b] (backTo pos (starEach es X.env)) (backToKw pos (keywordEach [] X.env))) Q X.xe s1) :
    wpAny (model X.prog X.w) X.A (eval (.Call (.Attribute a m ap) es [] pos) X.env) Q X.xe s := by
  rw [arm_eval_Call, hb]
  refine wpAny_bind (wpAny_mono (he.run pins s σ H _ I h) (fun u s1 ⟨x, H1, I1, rx, b, C, dx, fs, g, ex, ea, c, k, l, q⟩ => ?_) fun _ _ e => e)
  subst ex
  obtain rfl : u = Value.ref b := rx
  refine wpAny_bind (wpAny_standAt ?_)
  have I2 := I1
  first
    | (
       have hform : methodCallForm (es.length + ([] : List Keyword).length) (backTo pos (starEach es X.env)) (backToKw pos (keywordEach [] X.env)) = true := hfew
       have hpos : methodCallPos true a X.env ap pos = pure pos := by unfold methodCallPos; simp [hl]
       unfold methodCall
       rw [hform]
       refine wpAny_bind (wpAny_holding (getmeth_ok I2 ea c k l ?_))
       exact wpAny_bind (wpAny_of_eq hpos (q _ I2)))
end
section
variable {X : Cx} {T : Tb} {W : WX} {a e : Expr} {es : List Expr} {fa fe : E} {fs : List E} {pos ap p : Pos}
theorem run_makeS {k : Nat} {C f : Addr} {fd : FuncData} {ps : List Str} {sp : Sp} {Ee : XK} {pins : List (Addr × Obj)} {σ : L2.St} {H : Hp} {s : Shared} {Q : VK} {us : List Value} {vs : List V} (M : Mk X.K C f) (F : FnOk X.prog X.w X.K X.mg X.base (L2.CX X.prog X.w) k f fd ps sp) (hr : Room (k + 1) X.A) (hb : Binds X.K fd ps [])
    (hx : PassesAt (L2.CX X.prog X.w) X σ Ee) (I : L2.Inv X pins σ H s) (r : Vals vs us)
    (h : ∀ x dx, H x = none → H dx = none → dx ≠ x → sp (.ref x :: vs) (upd (upd H dx (.own x)) x (.ins C dx [])) (fun v H2 => v = .non ∧ Q (.ref x) H2) Ee) :
    wpAny (model X.prog X.w) X.A (call (.ref C) us) (EP X pins σ Q) X.xe s := by
  have hq := h (s.heap.objs.size + 1) s.heap.objs.size (I.hok.fresh (Nat.le_succ _)) (I.hok.fresh (Nat.le_refl _)) (Nat.ne_of_lt (Nat.lt_succ_self _))
  have I2 := L2.Inv.made (C := C) I
  have r2 : Vals (V.ref (s.heap.objs.size + 1) :: vs) (Value.ref (s.heap.objs.size + 1) :: us) := .cons rfl r
  have hl : (Value.ref (s.heap.objs.size + 1) :: us).length = ps.length := by
    have e := r2.length
    rw [F.len _ _ _ _ hq] at e
    exact e.symm
  have b := hb _ (Value.ref (s.heap.objs.size + 1) :: us) I2.kIn (by rw [List.append_nil]; exact hl)
  rw [List.append_nil] at b
  refine wpAny_call (make_map (f := f) I.kIn M.makes M.init (beq_iff_eq.mp M.fn) (codeAny_mono (F.run _ X.stack _ _ ⟨Value.ref (s.heap.objs.size + 1) :: us, []⟩ (Value.ref (s.heap.objs.size + 1) :: us) _ _ Ee (hr.make C us [])
    (I2.env0.make C us []) b r2 hq) fun r s' hq' => ?_))
  cases r with
  | error e => exact hx pins _ _ e s' I2 hq'
  | ok fl =>
    cases fl with
    | ret u =>
      obtain ⟨v, H', I3, rv, ev, q3⟩ := I2.after hq'
      subst ev
      exact ⟨rv, ⟨V.ref (s.heap.objs.size + 1), H', I3, rfl, q3⟩⟩
    | next => exact False.elim hq'
    | brk => exact False.elim hq'
    | cont => exact False.elim hq'
theorem make_rd {c : String} {F : Fn} {np : Nat} (A : Arity F np) : ∀ σ H Q, rdE T W (Mn.eCall (Mn.mkObj c F) fs) σ H Q → rdA T W fs σ H fun vs H1 => ∀ x dx, H1 x = none → H1 dx = none → dx ≠ x →
    spF T np F (.ref x :: vs) (upd (upd H1 dx (.own x)) x (.ins (T.ca c) dx [])) (fun v H2 => v = .non ∧ Q (.ref x) H2) (WE W σ) := fun σ H Q ⟨R, ρ, M, e, s, p⟩ => by
  refine rdA_mono (rdA_bind e s p) fun xs H1 ⟨R1, M1, vs, e1, s1, r1, q⟩ => ?_
  intro x dx hx hdx ne
  have sA := s1.other (o := .own x) hdx
  have hx' : (upd H1 dx (.own x)) x = none := by
    rw [upd_ne (Ne.symm ne)]
    exact hx
  have sB := sA.new (c := .obj c []) (o := .ins (T.ca c) dx []) hx' ⟨dx, [], upd_same, .nil⟩
  have k0 : Keep R1 (R1 ++ [x]) H1 (upd (upd H1 dx (.own x)) x (.ins (T.ca c) dx [])) := (Keep.new hdx).trans (Keep.cell hx')
  have p0 := List.prefix_append R1 [x]
  have hR : (R1 ++ [x])[M1.length]? = some x := by
    rw [← s1.len]
    exact List.getElem?_concat_length
  have rr : Rels T (R1 ++ [x]) (upd (upd H1 dx (.own x)) x (.ins (T.ca c) dx [])) (.ref M1.length :: vs) (.ref x :: xs) := .cons (.ref hR) (r1.mono p0 k0)
  refine ⟨R1 ++ [x], M1 ++ [.obj c []], .ref M1.length :: vs, sB, rr, ?_, ?_⟩
  · by_cases h : (V.ref x :: xs).length = np
    · exact h
    · unfold Mn.mkObj at q
      rw [A _ _ (by rw [rr.length]; exact h)] at q
      exact q.elim
  · unfold Mn.mkObj at q
    cases z : F (.ref M1.length :: vs) (M1 ++ [.obj c []]) with
    | bad =>
      rw [z] at q
      exact q.elim
    | exc c' M2 =>
      rw [z] at q
      exact fun hc R2 H2 p2 k2 s2 => q hc R2 H2 (p0.trans p2) (k0.trans k2) s2
    | ok v M2 =>
      rw [z] at q
      simp only [Mn.R.bind_ok] at q
      intro R2 H2 w p2 k2 s2 r2
      split at q
      · cases r2
        exact ⟨rfl, q R2 H2 _ (p0.trans p2) (k0.trans k2) s2 (.ref (pre_get p2 hR))⟩
      · exact q.elim
theorem s_make {k np : Nat} {f : Addr} {fd : FuncData} {ps : List Str} {x : Str} {c : String} {F : Fn} (A : Arity F np) (M : Mk X.K (T.ca c) f) (ho : FnOk X.prog X.w X.K X.mg X.base (L2.CX X.prog X.w) k f fd ps (spF T np F)) (hr : Room (k + 1) X.A) (hg : Gl X x) (hm : X.mg x = some (.ref (T.ca c))) (hb : Binds X.K fd ps [])
    (tk : Takes X W) (ha : PA X (e :: es) (rdA T W fs)) (hdb : (x == ("__debug__" : Str)) = false) (h1 : starEach (e :: es) X.env = (false, eval e X.env) :: starEach es X.env) (h2 : (backTo pos (starEach es X.env)).any (·.1) = false) :
    PE X (.Call (.Name x p) (e :: es) [] pos) (rdE T W (Mn.eCall (Mn.mkObj c F) fs)) := by
  refine ⟨fun pins s σ H Q I h => wpAny_Call_Name_kw (ld_glob I hg hm ?_ hdb)⟩
  refine PySem.W.callWith_K (h₀ := X.base) I.ok.mod.kin M.kp (thn (ha.run pos pins s σ H _ I (make_rd A σ H Q h)) fun us s1 ⟨vs, H1, I1, r, q⟩ => ⟨I1.kIn, ?_⟩) h1 h2
  exact run_makeS M ho hr hb (passAt tk σ) I1 r q
theorem s_make0 {k np : Nat} {f : Addr} {fd : FuncData} {ps : List Str} {x : Str} {c : String} {F : Fn} (A : Arity F np) (M : Mk X.K (T.ca c) f) (ho : FnOk X.prog X.w X.K X.mg X.base (L2.CX X.prog X.w) k f fd ps (spF T np F)) (hr : Room (k + 1) X.A) (hg : Gl X x) (hm : X.mg x = some (.ref (T.ca c))) (hb : Binds X.K fd ps [])
    (tk : Takes X W) (hdb : (x == ("__debug__" : Str)) = false) : PE X (.Call (.Name x p) [] [] pos) (rdE T W (Mn.eCall (Mn.mkObj c F) [])) := by
  refine ⟨fun pins s σ H Q I h => wpAny_Call_Name_kw (ld_glob I hg hm ?_ hdb)⟩
  obtain ⟨R, ρ, M0, e1, s1, q⟩ := make_rd (fs := []) A σ H Q h
  have q2 := q R H [] (List.prefix_refl R) (Keep.refl H) s1 .nil
  exact PySem.W.callWith_K0 I.kIn M.kp (run_makeS (us := []) (vs := []) M ho hr hb (passAt tk σ) I .nil q2)
def MtOk (X : Cx) (T : Tb) (m : Str) (tb : List (String × (Fn × Nat))) : Prop := ∀ c F np, tb.lookup c = some (F, np) → Arity F np ∧ Cls X.K (T.ca c) ∧ ∃ (k : Nat) (f : Addr) (fd : FuncData) (ps : List Str), Room k X.A ∧ Meth X.K (T.ca c) m f ∧ Binds X.K fd ps [] ∧ FnOk X.prog X.w X.K X.mg X.base (L2.CX X.prog X.w) k f fd ps (spF T np F)
def fnTb (tb : List (String × (Fn × Nat))) : List (String × Fn) := tb.map fun p => (p.1, p.2.1)
theorem fnTb_at {c : String} {F : Fn} : ∀ {tb : List (String × (Fn × Nat))}, (fnTb tb).lookup c = some F → ∃ np, tb.lookup c = some (F, np)
  | [], h => by cases h
  | (d, G, np) :: r, h => by
    unfold fnTb at h
    rw [List.map_cons, List.lookup_cons] at h
    rw [List.lookup_cons]
    cases q : c == d with
    | true =>
      rw [q] at h
      cases h
      exact ⟨np, rfl⟩
    | false =>
      rw [q] at h
      exact fnTb_at (tb := r) h
theorem s_meth {m : String} {tb : List (String × (Fn × Nat))} (mt : MtOk X T (Str.ofString m) tb) (tk : Takes X W) (ha : PE X a (rdE T W fa)) (hs : PA X (e :: es) (rdA T W fs)) (hb : attributeBase a (Str.ofString m) X.env (eval a X.env) = eval a X.env) (hl : (ap.endLine == pos.line) = true)
    (hfew : ((backTo pos (starEach (e :: es) X.env)).all (fun x => !x.1) && (backToKw pos (keywordEach [] X.env)).all (fun x => x.1.isSome) && decide ((e :: es).length + ([] : List Keyword).length + (if ([] : List Keyword).isEmpty then 0 else 1) < 30)) = true)
    (h1 : starEach (e :: es) X.env = (false, eval e X.env) :: starEach es X.env) (h2 : (backTo pos (starEach es X.env)).any (·.1) = false) :
    PE X (.Call (.Attribute a (Str.ofString m) ap) (e :: es) [] pos) (rdE T W (Mn.eMeth (fnTb tb) m fa fs)) := by
  refine ⟨fun pins s σ H Q I ⟨R, ρ, M, e0, s0, p⟩ => meth_ev ha hb hl hfew I (rdE_mono (rdE_bind e0 s0 p) fun x H1 ⟨R1, M1, v, e1, s1, r1, p1, k1, q⟩ => ?_)⟩
  split at q
  · rename_i F hF
    unfold Mn.methOf at hF
    split at hF
    · rename_i n
      cases r1 with
      | @ref _ b hn =>
      split at hF
      · rename_i c fs' hm
        split at hF
        · rename_i hno
          obtain ⟨np, htb⟩ := fnTb_at hF
          obtain ⟨A, cl, k, f, fd, ps, hr, me, bd, ho⟩ := mt c F np htb
          obtain ⟨dx, vs, g1, rf⟩ := s1.obj hn hm
          refine ⟨b, _, dx, vs, f, rfl, g1, cl, me, rf.lookup_none (by simpa using hno), fun s2 I2 => ?_⟩
          refine PySem.W.callWith_K (first := [.ref b]) (h₀ := X.base) I2.ok.mod.kin me.kp (thn (hs.run pos pins s2 σ H1 _ I2 ⟨R1, ρ, M1, e1, s1, q.bindL⟩) fun us s3 ⟨ws, H3, I3, r, R3, M3, us', p3, k3, s3', r3, q3⟩ => ⟨I3.kIn, ?_⟩) h1 h2
          refine run_fnS (us := .ref b :: us) (vs := .ref b :: ws) (E := WE W) ho hr bd (passAt tk σ) I3 (.cons rfl r) ?_
          have rr : Rels T R3 H3 (.ref n :: us') (.ref b :: ws) := .cons (.ref (pre_get p3 hn)) r3
          refine ⟨R3, M3, .ref n :: us', s3', rr, ?_, q3⟩
          by_cases h : (V.ref b :: ws).length = np
          · exact h
          · rw [A _ _ (by rw [rr.length]; exact h)] at q3
            exact q3.elim
        · cases hF
      · cases hF
    · cases hF
  · exact q.elim
theorem s_meth0 {m : String} {tb : List (String × (Fn × Nat))} (mt : MtOk X T (Str.ofString m) tb) (tk : Takes X W) (ha : PE X a (rdE T W fa)) (hb : attributeBase a (Str.ofString m) X.env (eval a X.env) = eval a X.env) (hl : (ap.endLine == pos.line) = true)
    (hfew : ((backTo pos (starEach [] X.env)).all (fun x => !x.1) && (backToKw pos (keywordEach [] X.env)).all (fun x => x.1.isSome) && decide (([] : List Expr).length + ([] : List Keyword).length + (if ([] : List Keyword).isEmpty then 0 else 1) < 30)) = true)
    :
    PE X (.Call (.Attribute a (Str.ofString m) ap) [] [] pos) (rdE T W (Mn.eMeth (fnTb tb) m fa [])) := by
  refine ⟨fun pins s σ H Q I ⟨R, ρ, M, e0, s0, p⟩ => meth_ev ha hb hl hfew I (rdE_mono (rdE_bind e0 s0 p) fun x H1 ⟨R1, M1, v, e1, s1, r1, p1, k1, q⟩ => ?_)⟩
  split at q
  · rename_i F hF
    unfold Mn.methOf at hF
    split at hF
    · rename_i n
      cases r1 with
      | @ref _ b hn =>
      split at hF
      · rename_i c fs' hm
        split at hF
        · rename_i hno
          obtain ⟨np, htb⟩ := fnTb_at hF
          obtain ⟨A, cl, k, f, fd, ps, hr, me, bd, ho⟩ := mt c F np htb
          obtain ⟨dx, vs, g1, rf⟩ := s1.obj hn hm
          refine ⟨b, _, dx, vs, f, rfl, g1, cl, me, rf.lookup_none (by simpa using hno), fun s2 I2 => ?_⟩
          have q3 : Post T (at_ W σ) R1 H1 Q (F [.ref n] M1) := q
          refine PySem.W.callWith_K0 (first := [.ref b]) I2.kIn me.kp (run_fnS (us := [.ref b]) (vs := [.ref b]) (E := WE W) ho hr bd (passAt tk σ) I2 (.cons rfl .nil) ?_)
          have rr : Rels T R1 H1 [.ref n] [.ref b] := .cons (.ref hn) .nil
          refine ⟨R1, M1, [.ref n], s1, rr, ?_, q3⟩
          by_cases h : [V.ref b].length = np
          · exact h
          · rw [A _ _ (by rw [rr.length]; exact h)] at q3
            exact q3.elim
        · cases hF
      · cases hF
    · cases hF
  · exact q.elim
end
end MnS
end
section
set_option autoImplicit false
namespace Mn
def uLRng : U
  | .int n, M => if 0 ≤ n ∧ n ≤ 16777216 then alloc (.lst ((List.range n.toNat).map fun (i : Nat) => .int (i : Int))) M else none
  | _, _ => none
def mPopAt : Op
  | .ref n, .int i, M => match M[n]? with
    | some (.lst xs) => if 0 ≤ i ∧ i < 16777216 then (match xs[i.toNat]? with
      | some y => some (y, M.set n (.lst (xs.eraseIdx i.toNat)))
      | none => none) else none
    | _ => none
  | _, _, _ => none
def toI : Val → Option Int
  | .int i => some i
  | _ => none
def sortI (l : List Int) : List Int := l.mergeSort fun a b => decide (a ≤ b)
theorem sortI_perm (l : List Int) : (sortI l).Perm l := List.mergeSort_perm _ _
theorem sortI_pw (l : List Int) : (sortI l).Pairwise (· ≤ ·) := by
  have h := List.pairwise_mergeSort (le := fun a b : Int => decide (a ≤ b)) (fun a b c h1 h2 => by
    simp only [decide_eq_true_eq] at *
    omega) (fun a b => by
    simp only [Bool.or_eq_true, decide_eq_true_eq]
    omega) l
  exact h.imp fun h => by simpa using h
theorem sortI_eq {l m : List Int} (p : m.Perm l) (s : m.Pairwise (· ≤ ·)) : m = sortI l :=
  List.Perm.eq_of_pairwise (le := fun a b : Int => a ≤ b) (fun a b _ _ h1 h2 => by omega) s (sortI_pw l) (p.trans (sortI_perm l).symm)
def uSort : U
  | .ref n, M => match lstAt M n with
    | some xs => match mapO toI xs with
      | some is => alloc (.lst ((sortI is).map .int)) M
      | none => none
    | none => none
  | _, _ => none
end Mn
end
section
set_option Elab.async false
set_option autoImplicit false
set_option linter.all false
set_option maxRecDepth 100000
namespace MnS
open PySem PySem.Spec PyProof.Rows L2
open Mn (Val Store Env E)
theorem rels_ints {T : Tb} {R : List Addr} {H : Hp} : ∀ l : List Nat, Rels T R H (l.map fun (i : Nat) => Val.int (i : Int)) (l.map fun (i : Nat) => V.int (0 + (i : Int)))
  | [] => .nil
  | i :: l => by
    rw [List.map_cons, List.map_cons, Int.zero_add]
    exact .cons (.int _) (rels_ints l)
section
variable {X : Cx} {T : Tb} {W : WX}
theorem lrng_ok {e : Expr} {fa : E} {p p2 pos pos2 : Pos} (hc : X.calm = true) (hg : Gl X "list") (hm : X.mg "list" = none) (hg2 : Gl X "range") (hm2 : X.mg "range" = none) (he : PE X e (rdE T W fa))
    (hs : starEach [e] X.env = (false, eval e X.env) :: starEach [] X.env)
    (hs2 : starEach [.Call (.Name "range" p2) [e] [] pos2] X.env = (false, eval (.Call (.Name "range" p2) [e] [] pos2) X.env) :: starEach [] X.env := by rfl) : PE X (.Call (.Name "list" p) [.Call (.Name "range" p2) [e] [] pos2] [] pos) (rdE T W (Mn.eUn Mn.uLRng fa)) := by
  refine PE.imp (pe_listRg hc hg hm (prg_1 hg2 hm2 he hs) hs2) fun σ H Q h => ?_
  refine rdE_mono (un_rd σ H Q h) fun x H1 ⟨R, M, u, S, ra, p⟩ => ?_
  unfold Mn.uLRng at p
  cases ra with
  | int i =>
    simp only [] at p
    split at p
    · rename_i hi
      exact ⟨i, rfl, RgOk.of_le (Int.le_refl 0) hi.2 (by decide) hi.1, fun q hq => post_new S p hq (new_lst (by
        unfold rgV
        rw [Int.sub_zero]
        exact rels_ints _) hq)⟩
    · exact p.elim
  | _ => exact p.elim
theorem lrevs_ok (hK : X.K = T.K) {e : Expr} {fa : E} {k : Nat} {p1 p2 p3 pos : Pos} (he : PE X e (rdE T W fa)) : PE X (.Subscript e (.Slice none none (some (.UnaryOp .USub (.Constant (.int 1) k p1) p2)) p3) pos) (rdE T W (Mn.eUn Mn.uLRev fa)) := by
  refine PE.imp (pe_revL he) fun σ H Q h => ?_
  refine rdE_mono (un_rd σ H Q h) fun x H1 ⟨R, M, u, S, ra, p⟩ => ?_
  unfold Mn.uLRev at p
  cases ra with
  | @ref n a hn =>
    simp only [] at p
    cases el : Mn.lstAt M n with
    | none =>
      simp only [el] at p
      exact p.elim
    | some ys =>
      simp only [el] at p
      obtain ⟨a', vs, ha, sq, rx⟩ := S.lst el
      rw [hn] at ha
      cases ha
      exact ⟨a, vs, rfl, by rw [hK]; exact sq, fun l hl => post_new S p hl (new_lst rx.reverse hl)⟩
  | _ => exact p.elim
theorem Rels.eraseIdx {T : Tb} {R : List Addr} {H : Hp} : ∀ {xs : List Val} {vs : List V} (k : Nat), Rels T R H xs vs → Rels T R H (xs.eraseIdx k) (vs.eraseIdx k)
  | _, _, _, .nil => .nil
  | _, _, 0, .cons _ r => r
  | _, _, k + 1, .cons h r => .cons h (Rels.eraseIdx k r)
theorem m_popAt : MtR X "list.pop" (rdM1 T Mn.mPopAt) := by
  intro pins s σ H x vs v us Q I rx rv ⟨y, e, R, M, a, b, S, ra, rb, p⟩
  subst e
  unfold Mn.mPopAt at p
  split at p
  · split at p
    · rename_i xs e1
      split at p
      · rename_i hi
        split at p
        · rename_i y hy
          cases ra with
          | ref hn =>
            cases rb
            obtain ⟨a1, z1, ws, h1, k1⟩ := S.at e1
            rw [hn] at z1
            cases z1
            obtain ⟨w, hw, rw_⟩ := k1.get hy
            have hl := (List.getElem?_eq_some_iff.mp hw).1
            refine mt_popAt pins s σ H _ _ v us Q I rx rv ⟨_, ws, _, _, w, rfl, rfl, h1, by omega, by omega, ?_, hw, ?_⟩
            · unfold seqIndex?
              rw [if_neg (show ¬_ < (0 : Int) by omega)]
              refine if_pos ?_
              simp only [Bool.and_eq_true, decide_eq_true_eq]
              omega
            · exact post_wr S p hn e1 rfl (wr_lst S hn (k1.eraseIdx _)) fun k => rw_.mono (List.prefix_refl R) k
        · exact p.elim
      · exact p.elim
    · exact p.elim
  · exact p.elim
theorem rels_is {is : List Int} : ∀ {R : List Addr} {H : Hp} {xs : List Val} {vs : List V}, Rels T R H xs vs → Mn.mapO Mn.toI xs = some is → vs = is.map V.int := by
  induction is with
  | nil =>
    intro R H xs vs r h
    cases r with
    | nil => rfl
    | cons r1 r2 =>
      unfold Mn.mapO at h
      split at h
      · obtain ⟨_, _, e⟩ := Option.map_eq_some_iff.mp h
        cases e
      · cases h
  | cons b bs ih =>
    intro R H xs vs r h
    cases r with
    | nil => cases h
    | cons r1 r2 =>
      unfold Mn.mapO at h
      split at h
      · rename_i z hz
        obtain ⟨l, hl, e⟩ := Option.map_eq_some_iff.mp h
        cases e
        cases r1 <;> cases hz
        rw [ih r2 hl]
        rfl
      · cases h
theorem rels_iv {R : List Addr} {H : Hp} : ∀ l : List Int, Rels T R H (l.map Val.int) (l.map V.int)
  | [] => .nil
  | i :: l => .cons (.int _) (rels_iv l)
theorem b_sort (hK : X.K = T.K) : CallR X (.builtin "sorted") (rdB T Mn.uSort) := by
  intro pins s σ H xs us Q I r ⟨x, e, R, M, u, S, ra, p⟩
  subst e
  unfold Mn.uSort at p
  cases ra with
  | @ref n a hn =>
    simp only [] at p
    cases el : Mn.lstAt M n with
    | none =>
      simp only [el] at p
      exact p.elim
    | some ys =>
      simp only [el] at p
      cases eb : Mn.mapO Mn.toI ys with
      | none =>
        simp only [eb] at p
        exact p.elim
      | some is =>
        simp only [eb] at p
        obtain ⟨a', vs, ha, sq, rx⟩ := S.lst el
        rw [hn] at ha
        cases ha
        rw [rels_is rx eb, ← hK] at sq
        refine cr_sortedI pins s σ H _ us Q I r ⟨a, is, rfl, sq, fun ns' q pm pw hq => ?_⟩
        rw [Mn.sortI_eq pm pw]
        exact post_new S p hq (new_lst (rels_iv _) hq)
  | _ => exact p.elim
end
end MnS
end
section
set_option autoImplicit false
namespace Mn
def isKey : Val → Bool
  | .int _ => true
  | .str _ => true
  | _ => false
def keyEq : Val → Val → Bool
  | .int a, .int b => decide (a = b)
  | .str a, .str b => decide (a = b)
  | _, _ => false
def dicAt (M : Store) : Val → Option (List (Val × Val))
  | .ref n => match M[n]? with
    | some (.dic kvs) => some kvs
    | some (.rod kvs) => some kvs
    | _ => none
  | _ => none
def dGet (kvs : List (Val × Val)) (k : Val) : Option Val := (kvs.find? fun p => keyEq p.1 k).map (·.2)
def dPut (kvs : List (Val × Val)) (k v : Val) : List (Val × Val) := if (kvs.any fun p => keyEq p.1 k) = true then kvs.map (fun p => if keyEq p.1 k = true then (p.1, v) else p) else kvs ++ [(k, v)]
def dDrop (kvs : List (Val × Val)) (k : Val) : List (Val × Val) := kvs.filter fun p => !keyEq p.1 k
def oDGet : Op := fun d k M => match dicAt M d with
  | some kvs => if isKey k = true then (dGet kvs k).map fun v => (v, M) else none
  | none => none
def cInD (neg : Bool) : Op := fun k d M => match dicAt M d with
  | some kvs => if isKey k = true then some (.bl (if neg then !(dGet kvs k).isSome else (dGet kvs k).isSome), M) else none
  | none => none
def uDLen : U := fun d M => match d with
  | .ref n => match M[n]? with
    | some (.dic kvs) => some (.int kvs.length, M)
    | _ => none
  | _ => none
def uDKeys : U := fun d M => match dicAt M d with
  | some kvs => alloc (.lst (kvs.map (·.1))) M
  | none => none
def uDCopy : U := fun d M => match dicAt M d with
  | some kvs => alloc (.dic kvs) M
  | none => none
def mDPop : Op
  | .ref n, k, M => match M[n]? with
    | some (.dic kvs) => if isKey k = true then (dGet kvs k).map fun v => (v, M.set n (.dic (dDrop kvs k))) else none
    | _ => none
  | _, _, _ => none
def mDGet : Op := fun d k M => match dicAt M d with
  | some kvs => if isKey k = true then some ((dGet kvs k).getD .non, M) else none
  | none => none
def setDi : Val → Val → Val → Store → Option Store
  | .ref n, k, v, M => match M[n]? with
    | some (.dic kvs) => if isKey k = true ∧ kvs.length < szLine then some (M.set n (.dic (dPut kvs k v))) else none
    | _ => none
  | _, _, _, _ => none
def tSubK (o i : E) : Tg := fun v ρ M => match o ρ M with
  | .ok x M1 => match i ρ M1 with
    | .ok y M2 => match setDi x y v M2 with
      | some M3 => .nx ρ M3
      | none => .bad
    | _ => .bad
  | _ => .bad
def lockAt (n : Nat) (M : Store) : Option Store := match M[n]? with
  | some (.dic kvs) => some (M.set n (.rod kvs))
  | _ => none
def unlAt (n : Nat) (M : Store) : Option Store := match M[n]? with
  | some (.rod kvs) => some (M.set n (.dic kvs))
  | _ => none
def unlR {α : Type} (n : Nat) : R α → R α
  | .ok a M => match unlAt n M with
    | some M' => .ok a M'
    | none => .bad
  | _ => .bad
def unlS (n : Nat) : RS → RS
  | .nx ρ M => match unlAt n M with
    | some M' => .nx ρ M'
    | none => .bad
  | _ => .bad
def dicOf (f : String) (i : Nat) (ρ : Env) (M : Store) : Option Nat := match ρ[i]? with
  | some (some (.ref p)) => match M[p]? with
    | some (.obj _ fs) => match fs.lookup f with
      | some (.ref n) => some n
      | _ => none
    | _ => none
  | _ => none
def sLock (f : String) (i : Nat) (s : St) : St := fun ρ M => match dicOf f i ρ M with
  | some n => match lockAt n M with
    | some M1 => unlS n (s ρ M1)
    | none => .bad
  | none => .bad
def eLock (f : String) (i : Nat) (e : E) : E := fun ρ M => match dicOf f i ρ M with
  | some n => match lockAt n M with
    | some M1 => unlR n (e ρ M1)
    | none => .bad
  | none => .bad
def iItems (e : E) : Src := fun ρ M => (e ρ M).bind fun v M1 => match v with
  | .ref n => match M1[n]? with
    | some (.rod kvs) => .ok ⟨kvs.length, fun i _ => kvs[i]?.map fun p => .tup [p.1, p.2], fun _ => true⟩ M1
    | _ => .bad
  | _ => .bad
def iVals (e : E) : Src := fun ρ M => (e ρ M).bind fun v M1 => match v with
  | .ref n => match M1[n]? with
    | some (.rod kvs) => .ok ⟨kvs.length, fun i _ => kvs[i]?.map (·.2), fun _ => true⟩ M1
    | _ => .bad
  | _ => .bad
def oIAdd : Op
  | .int a, .int b, M => some (.int (a + b), M)
  | _, _, _ => none
def oISub : Op
  | .int a, .int b, M => some (.int (a - b), M)
  | _, _, _ => none
def sAugF (cs : List String) (f : String) (i : Nat) (o : Op) (e : E) : St := sAsg (tFld cs f (eVar i)) (eBin o (eUn (uFld cs f) (eVar i)) e)
end Mn
end
section
set_option Elab.async false
set_option autoImplicit false
set_option linter.all false
set_option maxRecDepth 100000
set_option maxHeartbeats 2000000
namespace MnS
open PySem PySem.Spec PyProof.Rows L2
open Mn (Val Cell Store E Fn Op U Itr Src Tg)
section
variable {T : Tb} {R R' : List Addr} {H H' : Hp}
theorem key_of {k : Val} (h : Mn.isKey k = true) {x : V} (r : Rel T R H k x) : ∃ q, keyOf k = some q ∧ x = kV q := by
  cases r with
  | int i => exact ⟨.inl i, rfl, rfl⟩
  | str s => exact ⟨.inr (sOf s), rfl, rfl⟩
  | _ => cases h
theorem keyEq_iff {a b : Val} {p q : Key} (ha : keyOf a = some p) (hb : keyOf b = some q) : Mn.keyEq a b = decide (p = q) := by
  cases a <;> cases ha <;> cases b <;> cases hb
  · rename_i i j
    show decide (i = j) = decide (Sum.inl i = Sum.inl j)
    by_cases h : i = j
    · rw [decide_eq_true h, decide_eq_true (by rw [h])]
    · rw [decide_eq_false h, decide_eq_false (fun z => h (Sum.inl.inj z))]
  · rfl
  · rfl
  · rename_i s t
    show decide (s = t) = decide (Sum.inr (sOf s) = Sum.inr (sOf t))
    by_cases h : s = t
    · rw [decide_eq_true h, decide_eq_true (by rw [h])]
    · rw [decide_eq_false h, decide_eq_false (fun z => by
        have e := Sum.inr.inj z
        have b := sOf_beq s t
        rw [e, beq_self_eq_true, decide_eq_false h] at b
        cases b)]
theorem RelK.get {k : Val} {q : Key} (hk : keyOf k = some q) : ∀ {xs : List (Val × Val)} {vs : List (Key × V)}, RelK T R H xs vs → (Mn.dGet xs k = none ∧ valV vs q = none) ∨ ∃ x v, Mn.dGet xs k = some x ∧ valV vs q = some v ∧ Rel T R H x v
  | _, _, .nil => .inl ⟨rfl, rfl⟩
  | _, _, .cons (k := k') (q := q') (xs := xs) (vs := vs) e r rs => by
    unfold Mn.dGet
    rw [List.find?_cons, keyEq_iff e hk]
    by_cases h : q' = q
    · rw [decide_eq_true h, valV_pos h]
      exact .inr ⟨_, _, rfl, rfl, r⟩
    · rw [decide_eq_false h, valV_neg h]
      exact RelK.get hk rs
theorem RelK.any {k : Val} {q : Key} (hk : keyOf k = some q) : ∀ {xs : List (Val × Val)} {vs : List (Key × V)}, RelK T R H xs vs → (xs.any fun p => Mn.keyEq p.1 k) = vs.any fun p => decide (p.1 = q)
  | _, _, .nil => rfl
  | _, _, .cons e r rs => by
    rw [List.any_cons, List.any_cons, keyEq_iff e hk, RelK.any hk rs]
theorem RelK.append {ys : List (Val × Val)} {ws : List (Key × V)} (s : RelK T R H ys ws) : ∀ {xs : List (Val × Val)} {vs : List (Key × V)}, RelK T R H xs vs → RelK T R H (xs ++ ys) (vs ++ ws)
  | _, _, .nil => s
  | _, _, .cons e r rs => .cons e r (RelK.append s rs)
theorem RelK.put {k x : Val} {q : Key} {v : V} (hk : keyOf k = some q) (r : Rel T R H x v) {xs : List (Val × Val)} {vs : List (Key × V)} (rk : RelK T R H xs vs) : RelK T R H (Mn.dPut xs k x) (putK vs q v) := by
  have map : ∀ {xs : List (Val × Val)} {vs : List (Key × V)}, RelK T R H xs vs → RelK T R H (xs.map fun p => if Mn.keyEq p.1 k = true then (p.1, x) else p) (vs.map fun kv => if kv.1 = q then (kv.1, v) else kv) := by
    intro xs vs rk
    induction rk with
    | nil => exact .nil
    | cons e r0 rs ih =>
      rw [List.map_cons, List.map_cons]
      simp only [keyEq_iff e hk, decide_eq_true_eq]
      split
      · exact .cons e r ih
      · exact .cons e r0 ih
  unfold Mn.dPut putK
  rw [rk.any hk]
  split
  · exact map rk
  · exact RelK.append (.cons hk r .nil) rk
theorem RelK.drop {k : Val} {q : Key} (hk : keyOf k = some q) : ∀ {xs : List (Val × Val)} {vs : List (Key × V)}, RelK T R H xs vs → RelK T R H (Mn.dDrop xs k) (dropK vs q)
  | _, _, .nil => .nil
  | _, _, .cons (k := k') (q := q') e r rs => by
    unfold Mn.dDrop dropK
    rw [List.filter_cons, List.filter_cons, keyEq_iff e hk]
    by_cases h : q' = q
    · simp only [h, decide_true, Bool.not_true, Bool.false_eq_true, if_false, ne_eq, not_true_eq_false, decide_false]
      exact RelK.drop hk rs
    · simp only [h, decide_false, Bool.not_false, if_true, ne_eq, not_false_eq_true, decide_true]
      exact .cons e r (RelK.drop hk rs)
theorem RelK.length : ∀ {xs : List (Val × Val)} {vs : List (Key × V)}, RelK T R H xs vs → xs.length = vs.length
  | _, _, .nil => rfl
  | _, _, .cons _ _ r => congrArg Nat.succ (RelK.length r)
theorem RelK.keys : ∀ {xs : List (Val × Val)} {vs : List (Key × V)}, RelK T R H xs vs → Rels T R H (xs.map (·.1)) (vs.map fun kv => kV kv.1)
  | _, _, .nil => .nil
  | _, _, .cons (k := k) e r rs => by
    rw [List.map_cons, List.map_cons]
    refine .cons ?_ (RelK.keys rs)
    cases k <;> cases e
    · exact .int _
    · exact .str _
theorem RelK.at : ∀ {xs : List (Val × Val)} {vs : List (Key × V)} {i : Nat} {p : Val × Val}, RelK T R H xs vs → xs[i]? = some p → ∃ q v, vs[i]? = some (q, v) ∧ Rel T R H p.1 (kV q) ∧ Rel T R H p.2 v
  | _, _, _, _, .nil, h => by cases h
  | _, _, 0, _, .cons (k := k) e r rs, h => by
    cases h
    refine ⟨_, _, rfl, ?_, r⟩
    cases k <;> cases e
    · exact .int _
    · exact .str _
  | _, _, i + 1, _, .cons _ _ rs, h => RelK.at (i := i) rs h
theorem Sim.dic {M : Store} (S : Sim T R H M) {d : Val} {x : V} (r : Rel T R H d x) {kvs : List (Val × Val)} (h : Mn.dicAt M d = some kvs) : ∃ a vs, x = .ref a ∧ Rd H a (.dK vs) ∧ RelK T R H kvs vs := by
  cases r with
  | @ref n a hn =>
    unfold Mn.dicAt at h
    simp only [] at h
    split at h
    · rename_i kvs' e
      cases h
      obtain ⟨a', ha, vs, h1, rk⟩ := S.at e
      rw [hn] at ha
      cases ha
      exact ⟨a, vs, rfl, .inl h1, rk⟩
    · rename_i kvs' e
      cases h
      obtain ⟨a', ha, o, vs, h1, rk⟩ := S.at e
      rw [hn] at ha
      cases ha
      exact ⟨a, vs, rfl, .inr ⟨o, h1⟩, rk⟩
    · cases h
  | _ => cases h
end
section
variable {X : Cx} {T : Tb} {W : WX} {a b c e tg : Expr} {fa fb fc : E} {pos : Pos}
theorem s_dget (hu : X.A.units + 1 < cLine) (ha : PE X a (rdE T W fa)) (hb : PE X b (rdE T W fb)) (hs : NoSl b) : PE X (.Subscript a b pos) (rdE T W (Mn.eBin Mn.oDGet fa fb)) :=
  PE.imp (pe_dget hu ha hb hs) fun σ H Q h => by
    refine rdE_mono (bin_rd σ H Q h) fun x H1 q => rdE_mono q fun y H2 q2 => ?_
    obtain ⟨R, M, u, v, S, ru, rv, p⟩ := q2
    unfold Mn.oDGet at p
    cases ed : Mn.dicAt M u with
    | none =>
      simp only [ed] at p
      exact p.elim
    | some kvs =>
      simp only [ed] at p
      by_cases hk : Mn.isKey v = true
      · rw [if_pos hk] at p
        obtain ⟨kq, hq, rfl⟩ := key_of hk rv
        obtain ⟨ad, vs, rfl, rd, rk⟩ := S.dic ru ed
        rcases rk.get hq with ⟨z, _⟩ | ⟨x, w, z1, z2, r⟩
        · rw [z] at p
          exact p.elim
        · rw [z1] at p
          refine ⟨ad, w, rfl, .inl ⟨vs, kq, rd, rfl, z2.symm⟩, post_ok S p r⟩
      · rw [if_neg hk] at p
        exact p.elim
theorem din_rd (neg : Bool) : ∀ σ H Q, rdE T W (Mn.eBin (Mn.cInD neg) fa fb) σ H Q → (if neg = true then tDNotIn (rdE T W fa) (rdE T W fb) else tDIn (rdE T W fa) (rdE T W fb)) σ H Q := fun σ H Q h => by
  have key : rdE T W fa σ H fun y H1 => rdE T W fb σ H1 fun x H2 => ∃ a o, x = .ref a ∧ DGet H2 a y o ∧ Q (.bl (if neg = true then !o.isSome else o.isSome)) H2 := by
    refine rdE_mono (bin_rd σ H Q h) fun x H1 q => rdE_mono q fun y H2 q2 => ?_
    obtain ⟨R, M, u, v, S, ru, rv, p⟩ := q2
    unfold Mn.cInD at p
    cases ed : Mn.dicAt M v with
    | none =>
      simp only [ed] at p
      exact p.elim
    | some kvs =>
      simp only [ed] at p
      by_cases hk : Mn.isKey u = true
      · rw [if_pos hk] at p
        obtain ⟨kq, hq, rfl⟩ := key_of hk ru
        obtain ⟨ad, vs, rfl, rd, rk⟩ := S.dic rv ed
        refine ⟨ad, _, rfl, .inl ⟨vs, kq, rd, rfl, rfl⟩, ?_⟩
        have e : (valV vs kq).isSome = (Mn.dGet kvs u).isSome := by
          rcases rk.get hq with ⟨z1, z2⟩ | ⟨x, w, z1, z2, r⟩
          · rw [z1, z2]
            rfl
          · rw [z1, z2]
            rfl
        rw [e]
        exact post_ok S p (.bl _)
      · rw [if_neg hk] at p
        exact p.elim
  cases neg
  · exact key
  · exact key
theorem pc_in (hu : X.A.units + 1 < cLine) (ha : PE X a (rdE T W fa)) (hb : PE X b (rdE T W fb)) : PC X .In a b (rdE T W (Mn.eBin (Mn.cInD false) fa fb)) := by
  have h := pc_din hu ha hb
  exact ⟨fun pins s σ H Q I q => h.run pins s σ H Q I (din_rd false σ H Q q)⟩
theorem pc_notin (hu : X.A.units + 1 < cLine) (ha : PE X a (rdE T W fa)) (hb : PE X b (rdE T W fb)) : PC X .NotIn a b (rdE T W (Mn.eBin (Mn.cInD true) fa fb)) := by
  have h := pc_dnotin hu ha hb
  exact ⟨fun pins s σ H Q I q => h.run pins s σ H Q I (din_rd true σ H Q q)⟩
theorem b_dlen : CallR X (.builtin "len") (rdB T Mn.uDLen) := by
  intro pins s σ H xs us Q I r ⟨x, e, R, M, u, S, ra, p⟩
  subst e
  unfold Mn.uDLen at p
  cases ra with
  | @ref n a hn =>
    simp only [] at p
    split at p
    · rename_i kvs e1
      obtain ⟨a', ha, vs, h1, rk⟩ := S.at e1
      rw [hn] at ha
      cases ha
      refine call_lenD pins s σ H _ us Q I r ⟨a, vs, rfl, h1, ?_⟩
      rw [← rk.length]
      exact post_ok S p (.int _)
    · exact p.elim
  | _ => exact p.elim
theorem b_dkeys (hc : X.calm = true) : CallR X (.type "list") (rdB T Mn.uDKeys) := by
  intro pins s σ H xs us Q I r ⟨x, e, R, M, u, S, ra, p⟩
  subst e
  unfold Mn.uDKeys at p
  cases ed : Mn.dicAt M u with
  | none =>
    simp only [ed] at p
    exact p.elim
  | some kvs =>
    simp only [ed] at p
    obtain ⟨ad, vs, rfl, rd, rk⟩ := S.dic ra ed
    exact call_listD hc pins s σ H _ us Q I r ⟨ad, vs, rfl, rd, fun q hq => post_new S p hq (new_lst rk.keys hq)⟩
theorem b_dcopy : CallR X (.type "dict") (rdB T Mn.uDCopy) := by
  intro pins s σ H xs us Q I r ⟨x, e, R, M, u, S, ra, p⟩
  subst e
  unfold Mn.uDCopy at p
  cases ed : Mn.dicAt M u with
  | none =>
    simp only [ed] at p
    exact p.elim
  | some kvs =>
    simp only [ed] at p
    obtain ⟨ad, vs, rfl, rd, rk⟩ := S.dic ra ed
    exact call_dictD pins s σ H _ us Q I r ⟨ad, vs, rfl, rd, fun q hq => post_new S p hq ⟨vs, upd_same, rk.stay (List.prefix_append _ _) (Keep.cell (R := R) hq).st⟩⟩
theorem wr_dic {M : Store} {R : List Addr} {H : Hp} {n : Nat} {p : Addr} {xs : List (Val × Val)} {vs : List (Key × V)} {c0 : Cell} (S : Sim T R H M) (hn : R[n]? = some p) (h0 : M[n]? = some c0) (r : RelK T R H xs vs) : CellAt T R (upd H p (.dK vs)) p (.dic xs) := by
  obtain ⟨u, hu, u1, u2⟩ := (S.cell n p c0 hn h0).some
  have k : Stay H (upd H p (.dK vs)) := ⟨fun a xs e => by
    rw [upd_ne (fun z => by
      rw [z] at e
      exact u1 xs (Option.some.inj (hu.symm.trans e)))]
    exact e, fun a φ e => by
    rw [upd_ne (fun z => by
      rw [z] at e
      exact u2 φ (Option.some.inj (hu.symm.trans e)))]
    exact e⟩
  exact ⟨vs, upd_same, r.stay (List.prefix_refl R) k⟩
theorem set_di (hu : X.A.units + 1 < cLine) : PSet X (rdSt T Mn.setDi) := by
  intro pins s σ H o i v ov iv u Q I ro ri rv ⟨R, M, x, y, z, S, rx, ry, rz, M', hM, q⟩
  unfold Mn.setDi at hM
  split at hM
  · split at hM
    · rename_i kvs e1
      split at hM
      · rename_i hk
        cases hM
        cases rx with
        | ref hn =>
          obtain ⟨q', hq, rfl⟩ := key_of hk.1 ry
          obtain ⟨a1, z1, vs, h1, rk⟩ := S.at e1
          rw [hn] at z1
          cases z1
          refine set_dict hu pins s σ H _ _ v ov iv u Q I ro ri rv ⟨_, _, rfl, DPut.k h1 (by rw [← rk.length]; exact hk.2), ?_⟩
          obtain ⟨S2, kk⟩ := S.write hn e1 rfl (wr_dic S hn e1 (rk.put hq rz))
          exact q _ kk S2
      · cases hM
    · cases hM
  · cases hM
end
end MnS
end
section
set_option Elab.async false
set_option autoImplicit false
set_option linter.all false
set_option maxRecDepth 100000
set_option maxHeartbeats 2000000
namespace MnS
open PySem PySem.Spec PyProof.Rows L2
open Mn (Val Cell Store E Fn Op U Itr Src Tg)
section
variable {X : Cx} {T : Tb} {W : WX} {a b c e tg : Expr} {fa fb fc f : E} {pos ap : Pos} {R R' : List Addr} {H H' : Hp} {M M' : Store}
theorem isDic_ty {v : Val} (h : Mn.isTy "dict" v M = true) (S : Sim T R H M) {x : V} (r : Rel T R H v x) : ∃ n kvs, v = .ref n ∧ Mn.dicAt M v = some kvs := by
  unfold Mn.isTy at h
  have h := of_decide_eq_true h
  cases r with
  | @ref n p hn =>
    obtain ⟨c, hc, hp⟩ := S.of hn
    unfold Mn.tyName at h
    simp only [hc] at h
    cases c with
    | dic kvs => exact ⟨n, kvs, rfl, by unfold Mn.dicAt; simp only [hc]⟩
    | rod kvs => exact ⟨n, kvs, rfl, by unfold Mn.dicAt; simp only [hc]⟩
    | lst => exact absurd (Option.some.inj h) (by decide)
    | ro => exact absurd (Option.some.inj h) (by decide)
    | obj => cases h
  | non => exact absurd (Option.some.inj h) (by decide)
  | bl => exact absurd (Option.some.inj h) (by decide)
  | int => exact absurd (Option.some.inj h) (by decide)
  | str => exact absurd (Option.some.inj h) (by decide)
  | tup => exact absurd (Option.some.inj h) (by decide)
  | exc => cases h
theorem s_dget1 (hu : X.A.units + 1 < cLine) (ha : PE X a (rdE T W fa)) (hb : PE X b (rdE T W fb)) (m : M1 X a "get" ap b pos) : PE X (.Call (.Attribute a "get" ap) [b] [] pos) (rdE T W (Mn.eM1 "dict" Mn.mDGet fa fb)) :=
  PE.imp (pe_dget1 hu ha hb m) fun σ H Q ⟨R, ρ, M, e, s, p⟩ => by
    refine rdE_mono (rdE_bind e s p) fun x H1 ⟨R1, M1, v, e1, s1, r1, p1, k1, q⟩ => ?_
    split at q
    · rename_i hz
      obtain ⟨n, kvs, rfl, ed⟩ := isDic_ty hz s1 r1
      obtain ⟨ad, vs, rfl, rd, rk⟩ := s1.dic r1 ed
      refine ⟨ad, rfl, .inl ⟨vs, rd⟩, ?_⟩
      refine rdE_mono (rdE_bind e1 s1 q) fun y H2 ⟨R2, M2, u, e2, s2, r2, p2, k2, q2⟩ => ?_
      unfold Mn.mDGet at q2
      cases ed2 : Mn.dicAt M2 (.ref n) with
      | none =>
        simp only [ed2] at q2
        exact q2.elim
      | some kvs2 =>
        simp only [ed2] at q2
        by_cases hk : Mn.isKey u = true
        · rw [if_pos hk] at q2
          obtain ⟨kq, hq, rfl⟩ := key_of hk r2
          obtain ⟨ad2, vs2, e3, rd2, rk2⟩ := s2.dic (r1.mono p2 k2) ed2
          cases e3
          rcases rk2.get hq with ⟨z1, z2⟩ | ⟨x, w, z1, z2, r⟩
          · rw [z1] at q2
            exact ⟨none, .inl ⟨vs2, kq, rd2, rfl, z2.symm⟩, post_ok s2 (of_noexc q2) .non⟩
          · rw [z1] at q2
            exact ⟨some w, .inl ⟨vs2, kq, rd2, rfl, z2.symm⟩, post_ok s2 (of_noexc q2) r⟩
        · rw [if_neg hk] at q2
          exact q2.elim
    · exact q.elim
theorem s_dpop (ha : PE X a (rdE T W fa)) (hb : PE X b (rdE T W fb)) (m : M1 X a "pop" ap b pos) : PE X (.Call (.Attribute a "pop" ap) [b] [] pos) (rdE T W (Mn.eM1 "dict" Mn.mDPop fa fb)) :=
  PE.imp (pe_dpop1 ha hb m) fun σ H Q ⟨R, ρ, M, e, s, p⟩ => by
    refine rdE_mono (rdE_bind e s p) fun x H1 ⟨R1, M1, v, e1, s1, r1, p1, k1, q⟩ => ?_
    split at q
    · rename_i hz
      obtain ⟨n, kvs, rfl, ed⟩ := isDic_ty hz s1 r1
      obtain ⟨ad, vs, rfl, rd, rk⟩ := s1.dic r1 ed
      refine ⟨ad, rfl, .inl ⟨vs, rd⟩, ?_⟩
      refine rdE_mono (rdE_bind e1 s1 q) fun y H2 ⟨R2, M2, u, e2, s2, r2, p2, k2, q2⟩ => ?_
      unfold Mn.mDPop at q2
      cases hm : M2[n]? with
      | none =>
        simp only [hm] at q2
        exact q2.elim
      | some cl =>
        cases cl with
        | dic kvs2 =>
          simp only [hm] at q2
          by_cases hk : Mn.isKey u = true
          · rw [if_pos hk] at q2
            obtain ⟨kq, hq, rfl⟩ := key_of hk r2
            cases (r1.mono p2 k2) with
            | ref hn =>
            obtain ⟨a1, z1, vs2, h1, rk2⟩ := s2.at hm
            rw [hn] at z1
            cases z1
            rcases rk2.get hq with ⟨z1, z2⟩ | ⟨x, w, z1, z2, r⟩
            · rw [z1] at q2
              exact q2.elim
            · rw [z1] at q2
              obtain ⟨s3, k3⟩ := s2.write hn hm rfl (wr_dic s2 hn hm (rk2.drop hq))
              exact ⟨vs2, kq, w, h1, rfl, z2, (of_noexc q2 : Post T _ _ _ _ (.ok x _)) R2 _ w (List.prefix_refl R2) k3 s3 (r.mono (List.prefix_refl R2) k3)⟩
          · rw [if_neg hk] at q2
            exact q2.elim
        | _ =>
          simp only [hm] at q2
          exact q2.elim
    · exact q.elim
theorem g_subK {o i : Expr} {fo fi : E} (hs : PSet X (rdSt T Mn.setDi)) (ho : PE X o (rdE T W fo)) (hi : PE X i (rdE T W fi))
    (ha : ∀ v, assign (.Subscript o i pos) X.env v = (do
      let ov ← holding [v] (eval o X.env)
      let iv ← holding [v, ov] (eval i X.env)
      standAt pos
      holding [v, ov, iv] (setItem ov iv v)
      release [v, ov, iv] [])) : PG X (.Subscript o i pos) (rdG T [] (Mn.tSubK fo fi)) :=
  PG.imp (pg_sub ho hi hs ha) fun v σ H Q ⟨R, ρ, M, x, e, s, r, p⟩ => by
    refine ⟨R, ρ, M, e, s, ?_⟩
    unfold Mn.tSubK at p
    cases q : fo ρ M with
    | ok ov M1 =>
      simp only [q] at p
      intro R1 H1 w1 p1 k1 s1 r1
      refine ⟨R1, ρ, M1, e.mono p1 k1, s1, ?_⟩
      cases q2 : fi ρ M1 with
      | ok iv M2 =>
        simp only [q2] at p
        intro R2 H2 w2 p2 k2 s2 r2
        cases q3 : Mn.setDi ov iv x M2 with
        | some M3 =>
          simp only [q3] at p
          refine ⟨R2, M2, ov, iv, x, s2, r1.mono p2 k2, r2, r.mono (p1.trans p2) (k1.trans k2), M3, q3, fun H3 k3 s3 => ?_⟩
          exact p R2 H3 σ (p1.trans p2) ((k1.trans k2).trans k3) s3 ((e.mono (p1.trans p2) (k1.trans k2)).mono (List.prefix_refl R2) k3) rfl fun _ _ => rfl
        | none =>
          simp only [q3] at p
          exact p.elim
      | _ =>
        simp only [q2] at p
        exact p.elim
    | _ =>
      simp only [q] at p
      exact p.elim
def gFld (K : PySem.W.Frag) (ta : TE) (f : Str) : TG := fun v σ H Q => ta σ H fun x H1 => ∃ a C dx fs, x = .ref a ∧ H1 a = some (.ins C dx fs) ∧ Cls K C ∧ NoAttr K C f ∧ fs.length < 1000 ∧ Q σ (upd H1 a (.ins C dx (putF f v fs)))
theorem pg_fld {o : Expr} {f : Str} {ta : TE} (ho : PE X o ta) : PG X (.Attribute o f pos) (gFld X.K ta f) := by
  refine ⟨fun pins s σ H v u Q I r h => ?_⟩
  rw [assign_Attribute]
  refine wpAny_bind (wpAny_holding (thn (ho.run pins s σ H _ I h) fun ov s1 ⟨x, H1, I1, rx, a, C, dx, fs, ex, ea, c, n, l, q⟩ => ?_))
  subst ex
  obtain rfl : ov = Value.ref a := rx
  refine wpAny_bind (wpAny_standAt (wpAny_bind (wpAny_holding (setattr_ok I1 ea c n l r fun s3 I3 => ?_))))
  exact wpAny_release ⟨σ, _, I3, q⟩
theorem g_fld {o : Expr} {fo : E} {cs : List String} {f : String} (hc : ∀ c ∈ cs, Cls X.K (T.ca c) ∧ NoAttr X.K (T.ca c) (Str.ofString f)) (ho : PE X o (rdE T W fo)) : PG X (.Attribute o (Str.ofString f) pos) (rdG T [] (Mn.tFld cs f fo)) :=
  PG.imp (pg_fld ho) fun v σ H Q ⟨R, ρ, M, y, e, s, r, p⟩ => by
    refine ⟨R, ρ, M, e, s, ?_⟩
    unfold Mn.tFld at p
    cases z : fo ρ M with
    | bad =>
      rw [z] at p
      exact p.elim
    | exc c M' =>
      rw [z] at p
      exact p.elim
    | ok x M2 =>
      rw [z] at p
      intro R2 H2 w p2 k2 s2 r2
      simp only at p
      unfold Mn.setFld at p
      split at p
      · rename_i M3 h3
        split at h3
        · rename_i n
          cases r2 with
          | @ref n ad hn =>
          split at h3
          · rename_i c fs hm
            split at h3
            · rename_i hcs
              cases h3
              obtain ⟨dx, vs, g1, rf⟩ := s2.obj hn hm
              obtain ⟨c1, c2⟩ := hc c (by simpa using hcs.1)
              refine ⟨ad, _, dx, vs, rfl, g1, c1, c2, by rw [← rf.length]; exact hcs.2, ?_⟩
              have rv := r.mono p2 k2
              have kk : Keep R2 R2 H2 (upd H2 ad (.ins (T.ca c) dx (putF (Str.ofString f) v vs))) := Keep.upd (List.mem_of_getElem? hn) ⟨fun xs e => (by rw [g1] at e; cases e), fun φ e => (by rw [g1] at e; cases e)⟩ fun d u e => (by rw [g1] at e; cases e)
              obtain ⟨s3, k3⟩ := s2.write (c := .obj c (Mn.putM f y fs)) hn hm rfl ⟨dx, _, upd_same, (rf.put rv).stay (List.prefix_refl _) kk.st⟩
              exact p R2 _ σ p2 (k2.trans k3) s3 (e.mono p2 (k2.trans k3)) rfl fun _ _ => rfl
            · cases h3
          · cases h3
        · cases h3
      · exact p.elim
theorem Keep.unlock {d : Addr} {od : Obj} {u u' : HO} (hd : H d = some u) (mu : ∀ o x, u ≠ .frz o x) (m : d ∈ R) (k : Keep R R' (L2.upd H d (.frz od u)) H') (nt : ∀ xs, u ≠ .tup xs) (ne : ∀ φ, u ≠ .ext φ) (ez : H' d = some (.frz od u)) : Keep R R' H (L2.upd H' d u') := by
  refine ⟨fun a xs e => ?_, fun a φ e => ?_, fun a o e n => ?_, fun a o x e => ?_⟩
  · have n : a ≠ d := fun z => by
      rw [z, hd] at e
      cases e
      exact nt _ rfl
    rw [upd_ne n]
    exact k.tup a xs (by rw [upd_ne n]; exact e)
  · have n : a ≠ d := fun z => by
      rw [z, hd] at e
      cases e
      exact ne _ rfl
    rw [upd_ne n]
    exact k.ext a φ (by rw [upd_ne n]; exact e)
  · have n2 : a ≠ d := fun z => n (z ▸ m)
    rw [upd_ne n2]
    exact k.fr a o (by rw [upd_ne n2]; exact e) n
  · have n : a ≠ d := fun z => by
      rw [z, hd] at e
      cases e
      exact mu _ _ rfl
    rw [upd_ne n]
    exact k.fz a o x (by rw [upd_ne n]; exact e)
theorem Stay.unfrz {d : Addr} {od : Obj} {u u' : HO} (h : H d = some (.frz od u)) : Stay H (upd H d u') := by
  refine ⟨fun a xs e => ?_, fun a φ e => ?_⟩
  · rw [upd_ne (fun z => by rw [z, h] at e; cases e)]
    exact e
  · rw [upd_ne (fun z => by rw [z, h] at e; cases e)]
    exact e
theorem Sim.unlock (S : Sim T R H M) {n : Nat} {d : Addr} {od : Obj} {vs : List (Key × V)} (hn : R[n]? = some d) (hd : H d = some (.frz od (.dK vs))) (h : Mn.unlAt n M = some M') : Sim T R (upd H d (.dK vs)) M' := by
  unfold Mn.unlAt at h
  split at h
  · rename_i kvs hm
    cases h
    have st : Stay H (upd H d (.dK vs)) := Stay.unfrz hd
    refine ⟨by rw [List.length_set]; exact S.len, S.nd, fun m a c h1 h2 => ?_⟩
    by_cases e : m = n
    · subst e
      have hl : m < M.length := (List.getElem?_eq_some_iff.mp hm).1
      rw [List.getElem?_set_self hl] at h2
      cases h2
      rw [hn] at h1
      cases h1
      obtain ⟨o, vs', e1, rk⟩ := S.cell m d _ hn hm
      rw [hd] at e1
      cases e1
      exact ⟨vs, upd_same, rk.stay (List.prefix_refl R) st⟩
    · rw [List.getElem?_set_ne (Ne.symm e)] at h2
      exact (S.cell m a c h1 h2).stay (List.prefix_refl R) st (upd_ne fun z => e (S.inj h1 (show R[n]? = some a by rw [z]; exact hn)))
  · cases h
theorem Sim.lock (S : Sim T R H M) {n : Nat} (h : Mn.lockAt n M = some M') : ∃ d vs, R[n]? = some d ∧ H d = some (.dK vs) ∧ ∀ od, Sim T R (upd H d (.frz od (.dK vs))) M' ∧ Keep R R H (upd H d (.frz od (.dK vs))) := by
  unfold Mn.lockAt at h
  split at h
  · rename_i kvs hm
    cases h
    obtain ⟨d, hd, vs, h1, rk⟩ := S.at hm
    refine ⟨d, vs, hd, h1, fun od => ?_⟩
    have st : Stay H (upd H d (.frz od (.dK vs))) := ⟨fun a xs e => by
      rw [upd_ne (fun z => by rw [z, h1] at e; cases e)]
      exact e, fun a φ e => by
      rw [upd_ne (fun z => by rw [z, h1] at e; cases e)]
      exact e⟩
    exact S.write hd hm rfl ⟨od, vs, upd_same, rk.stay (List.prefix_refl R) st⟩
  · cases h
theorem e_lock {g : String} {i : Nat} {ex : Expr} (h : PE X ex (rdE T W f)) : PE X ex (rdE T W (Mn.eLock g i f)) := PE.imp (pe_lock h) fun σ H Q ⟨R, ρ, M, e, s, p⟩ => by
  unfold Mn.eLock at p
  split at p
  · rename_i n hn
    split at p
    · rename_i M1 hl
      obtain ⟨d, vs, hR, hd, lk⟩ := s.lock hl
      refine ⟨d, _, hd, trivial, fun od => ?_⟩
      obtain ⟨s1, k1⟩ := lk od
      refine ⟨R, ρ, M1, e.mono (List.prefix_refl R) k1, s1, ?_⟩
      cases z : f ρ M1 with
      | bad =>
        rw [z] at p
        exact p.elim
      | exc c M2 =>
        rw [z] at p
        exact p.elim
      | ok v M2 =>
        rw [z] at p
        unfold Mn.unlR at p
        simp only at p
        intro R2 H2 w p2 k2 s2 r2
        have ez : H2 d = some (.frz od (.dK vs)) := k2.fz d _ _ upd_same
        refine ⟨ez, ?_⟩
        cases hu : Mn.unlAt n M2 with
        | none =>
          rw [hu] at p
          exact p.elim
        | some M3 =>
          rw [hu] at p
          exact p R2 _ w p2 (Keep.unlock hd (fun _ _ z => nomatch z) (List.mem_of_getElem? hR) k2 (fun _ z => nomatch z) (fun _ z => nomatch z) ez) (s2.unlock (pre_get p2 hR) ez hu) (r2.stay (List.prefix_refl _) (Stay.unfrz ez))
    · exact p.elim
  · exact p.elim
theorem EnvR.stay {ρ : Mn.Env} {σ : L2.St} (h : EnvR T R H ρ σ) (k : Stay H H') : EnvR T R H' ρ σ :=
  ⟨h.1, fun i v e => let ⟨w, e1, r⟩ := h.2 i v e; ⟨w, e1, r.stay (List.prefix_refl R) k⟩⟩
theorem s_lock {g : String} {i : Nat} {st : Stmt} {b : Mn.St} (h : PS X st (rdS T W b)) : PS X st (rdS T W (Mn.sLock g i b)) := PS.imp (ps_lock h) fun σ H D ⟨R, ρ, M, e, s, p⟩ => by
  unfold Mn.sLock at p
  split at p
  · rename_i n hn
    split at p
    · rename_i M1 hl
      obtain ⟨d, vs, hR, hd, lk⟩ := s.lock hl
      refine ⟨d, _, hd, trivial, fun od => ?_⟩
      obtain ⟨s1, k1⟩ := lk od
      refine ⟨R, ρ, M1, e.mono (List.prefix_refl R) k1, s1, ?_⟩
      cases z : b ρ M1 with
      | nx ρ2 M2 =>
        rw [z] at p
        unfold Mn.unlS at p
        simp only at p
        intro R2 H2 σ2 p2 k2 s2 e2
        have ez : H2 d = some (.frz od (.dK vs)) := k2.fz d _ _ upd_same
        refine ⟨ez, ?_⟩
        cases hu : Mn.unlAt n M2 with
        | none =>
          rw [hu] at p
          exact p.elim
        | some M3 =>
          rw [hu] at p
          exact p R2 _ σ2 p2 (Keep.unlock hd (fun _ _ z => nomatch z) (List.mem_of_getElem? hR) k2 (fun _ z => nomatch z) (fun _ z => nomatch z) ez) (s2.unlock (pre_get p2 hR) ez hu) (e2.stay (Stay.unfrz ez))
      | _ =>
        rw [z] at p
        exact p.elim
    · exact p.elim
  · exact p.elim
theorem RelK.at_ {kvs : List (Val × Val)} {vs : List (Key × V)} : RelK T R H kvs vs → ∀ {i : Nat} {p : Val × Val}, kvs[i]? = some p → ∃ q v, vs[i]? = some (q, v) ∧ keyOf p.1 = some q ∧ Rel T R H p.2 v
  | .nil, _, _, e => by cases e
  | .cons k r rs, 0, _, e => by
    cases e
    exact ⟨_, _, rfl, k, r⟩
  | .cons k r rs, i + 1, _, e => RelK.at_ rs (i := i) e
theorem key_rel {k : Val} {q : Key} (h : keyOf k = some q) : Rel T R H k (kV q) := by
  cases k with
  | int i =>
    cases h
    exact .int i
  | str s =>
    cases h
    exact .str s
  | _ => cases h
theorem RelK.len {kvs : List (Val × Val)} {vs : List (Key × V)} : RelK T R H kvs vs → kvs.length = vs.length
  | .nil => rfl
  | .cons _ _ r => congrArg Nat.succ (RelK.len r)
theorem it_items {kvs : List (Val × Val)} {vs : List (Key × V)} {d : Addr} {o : Obj} (hd : H d = some (.frz o (.dK vs))) (r : RelK T R H kvs vs) : ItOk T R H ⟨kvs.length, fun i _ => kvs[i]?.map fun p => .tup [p.1, p.2], fun _ => true⟩ (Iti d o vs) := by
  refine ⟨fun R' H' M p k S _ => ⟨k.fz _ _ _ hd, Nat.le_of_eq r.len.symm⟩, fun i R' H' M v p k S hi h => ⟨⟨k.fz _ _ _ hd, by rw [← r.len]; exact hi⟩, fun x H2 ⟨t, q, w, e1, e2, e3, e4⟩ => ?_⟩⟩
  subst e2 e4
  have h : (kvs[i]?.map fun p => Val.tup [p.1, p.2]) = some v := h
  obtain ⟨kv, h1, rfl⟩ := Option.map_eq_some_iff.mp h
  obtain ⟨q', w', e5, e6, e7⟩ := r.at_ h1
  rw [e1] at e5
  cases e5
  have kk : Keep R' R' H' (upd H' t (.tup [kV q, w])) := Keep.new e3
  exact ⟨R', List.prefix_refl R', kk, S.other e3, .tup (.inl upd_same) (.cons (key_rel e6) (.cons (e7.mono p (k.trans kk)) .nil))⟩
theorem it_vals {kvs : List (Val × Val)} {vs : List (Key × V)} {d : Addr} {o : Obj} (hd : H d = some (.frz o (.dK vs))) (r : RelK T R H kvs vs) : ItOk T R H ⟨kvs.length, fun i _ => kvs[i]?.map (·.2), fun _ => true⟩ (Itd d o vs) := by
  refine ⟨fun R' H' M p k S _ => ⟨k.fz _ _ _ hd, Nat.le_of_eq r.len.symm⟩, fun i R' H' M v p k S hi h => ⟨⟨k.fz _ _ _ hd, by rw [← r.len]; exact hi⟩, fun x H2 ⟨e1, q, e2⟩ => ?_⟩⟩
  subst e1
  have h : (kvs[i]?.map (·.2)) = some v := h
  obtain ⟨kv, h1, rfl⟩ := Option.map_eq_some_iff.mp h
  obtain ⟨q', w', e5, e6, e7⟩ := r.at_ h1
  rw [e2] at e5
  cases e5
  exact ⟨R', List.prefix_refl R', Keep.refl _, S, e7.mono p k⟩
theorem i_items {elts : List Expr} {kk : Nat} {tpos : Pos} (ha : PE X a (rdE T W fa)) (hb : attributeBase a "items" X.env (eval a X.env) = eval a X.env) (hl : (ap.endLine == pos.line) = true) : PI X (.Tuple elts kk tpos) (.Call (.Attribute a "items" ap) [] [] pos) (rdI T W (Mn.iItems fa)) :=
  PI.imp (pi_items ha hb hl) fun σ H Q ⟨R, ρ, M, e, s, p⟩ => by
    refine rdE_mono (src_rd e s p) fun x H1 ⟨R1, M1, v, e1, s1, r1, p1, k1, q⟩ => ?_
    split at q
    · rename_i it M2 hz
      split at hz
      · rename_i n
        split at hz
        · rename_i kvs hm
          cases hz
          cases r1 with
          | ref hn =>
          obtain ⟨d, hd, o, vs, h1, rk⟩ := s1.at hm
          rw [hn] at hd
          cases hd
          exact ⟨_, o, vs, rfl, h1, q R1 H1 _ (List.prefix_refl R1) (Keep.refl _) s1 (it_items h1 rk)⟩
        · cases hz
      · cases hz
    · rename_i c M2 hz
      split at hz
      · split at hz <;> cases hz
      · cases hz
    · exact q.elim
theorem i_vals (ha : PE X a (rdE T W fa)) (hb : attributeBase a "values" X.env (eval a X.env) = eval a X.env) (hl : (ap.endLine == pos.line) = true) : PI X tg (.Call (.Attribute a "values" ap) [] [] pos) (rdI T W (Mn.iVals fa)) :=
  PI.imp (pi_values ha hb hl) fun σ H Q ⟨R, ρ, M, e, s, p⟩ => by
    refine rdE_mono (src_rd e s p) fun x H1 ⟨R1, M1, v, e1, s1, r1, p1, k1, q⟩ => ?_
    split at q
    · rename_i it M2 hz
      split at hz
      · rename_i n
        split at hz
        · rename_i kvs hm
          cases hz
          cases r1 with
          | ref hn =>
          obtain ⟨d, hd, o, vs, h1, rk⟩ := s1.at hm
          rw [hn] at hd
          cases hd
          exact ⟨_, o, vs, rfl, h1, q R1 H1 _ (List.prefix_refl R1) (Keep.refl _) s1 (it_vals h1 rk)⟩
        · cases hz
      · cases hz
    · rename_i c M2 hz
      split at hz
      · split at hz <;> cases hz
      · cases hz
    · exact q.elim
end
end MnS
end
section
set_option Elab.async false
set_option autoImplicit false
set_option linter.all false
set_option maxRecDepth 100000
set_option maxHeartbeats 2000000
namespace MnS
open PySem PySem.Spec PyProof.Rows L2
open Mn (Val Cell Store E Fn Op U Itr Src Tg)
section
variable {X : Cx} {T : Tb} {W : WX} {a e : Expr} {es : List Expr} {fa fe : E} {fs : List E} {pos ap p : Pos} {cs : List String} {f : String}
theorem s_aug {o value : Expr} {op : Operator} {rd : V → V → Hp → VK → Prop} {oI : Op} {i : Nat} {c0 : String} (hc : ∀ c ∈ [c0], Cls X.K (T.ca c) ∧ NoAttr X.K (T.ca c) (Str.ofString f)) (ho : PE X o (tVar i)) (hv : PE X value (rdE T W fe)) (hop : InOp X op rd) (hrd : ∀ x y H Q, rdO T oI x y H Q → rd x y H Q) :
    PS X (.AugAssign (.Attribute o (Str.ofString f) ap) op value pos) (rdS T W (Mn.sAugF [c0] f i oI fe)) := PS.imp (ps_fldaug ho hv hop) fun σ H D ⟨R, ρ, M, e, s, p⟩ => by
  have key : ∀ xv, ρ[i]? = some (some xv) → ∀ M : Store, Mn.eVar i ρ M = .ok xv M := fun xv h M => by
    unfold Mn.eVar
    rw [h]
  cases h1 : ρ[i]? with
  | none =>
    have z : Mn.eVar i ρ M = .bad := by
      unfold Mn.eVar
      rw [h1]
    simp only [Mn.sAugF, Mn.sAsg, Mn.eBin, Mn.eUn, z] at p
    exact p.elim
  | some ov =>
    cases ov with
    | none =>
      have z : Mn.eVar i ρ M = .bad := by
        unfold Mn.eVar
        rw [h1]
      simp only [Mn.sAugF, Mn.sAsg, Mn.eBin, Mn.eUn, z] at p
      exact p.elim
    | some xv =>
      obtain ⟨w, hw, rw1⟩ := e.2 i xv h1
      have ev := key xv h1
      simp only [Mn.sAugF, Mn.sAsg, Mn.eBin, Mn.eUn, ev, Mn.R.bind_ok] at p
      cases hu : Mn.uFld [c0] f xv M with
      | none =>
        rw [hu] at p
        exact p.elim
      | some q =>
        obtain ⟨vv, M0⟩ := q
        rw [hu] at p
        have hu2 := hu
        unfold Mn.uFld at hu2
        split at hu2
        · rename_i n
          split at hu2
          · rename_i c fs hm
            split at hu2
            · rename_i hcs
              obtain ⟨v0, hl, e0⟩ := Option.map_eq_some_iff.mp hu2
              cases e0
              cases rw1 with
              | @ref _ ad hn =>
              obtain ⟨dx, vs, g1, rf⟩ := s.obj hn hm
              obtain ⟨vx, e2, r2⟩ := rf.lookup hl
              obtain ⟨c1, c2⟩ := hc c (by simpa using hcs)
              refine ⟨_, hw, ad, _, dx, vs, vx, rfl, g1, c1, c2, e2, R, ρ, M, e, s, ?_⟩
              have p : PostS T W D R H (((fe ρ M).bind fun y M2 => Mn.R.of (oI vv y M2)).st ρ fun v M1 => (Mn.tFld [c0] f (Mn.eVar i) v ρ M1).tg) := p
              cases z : fe ρ M with
              | bad =>
                rw [z] at p
                exact p.elim
              | exc cx M' =>
                rw [z] at p
                exact fun hcx R2 H2 p2 k2 s2 => p hcx R2 H2 σ p2 k2 s2 (e.mono p2 k2)
              | ok y M2 =>
                rw [z] at p
                intro R2 H2 yx p2 k2 s2 ry
                refine hrd _ _ _ _ ⟨R2, M2, vv, y, s2, r2.mono p2 k2, ry, ?_⟩
                simp only [Mn.R.bind_ok] at p
                cases zo : oI vv y M2 with
                | none =>
                  rw [zo] at p
                  exact p.elim
                | some q =>
                  obtain ⟨zv, M3⟩ := q
                  rw [zo] at p
                  have p5 : PostS T W D R H (Mn.tFld [c0] f (Mn.eVar i) zv ρ M3).tg := p
                  intro R3 H3 zx p3 k3 s3 rz
                  simp only [Mn.tFld, ev] at p5
                  cases hs : Mn.setFld [c0] f (.ref n) zv M3 with
                  | none =>
                    rw [hs] at p5
                    exact p5.elim
                  | some M4 =>
                    rw [hs] at p5
                    unfold Mn.setFld at hs
                    simp only at hs
                    split at hs
                    · rename_i c' fs' hm'
                      split at hs
                      · rename_i hcs'
                        cases hs
                        have hn3 := pre_get (p2.trans p3) hn
                        obtain ⟨dx', vs', g3, rf'⟩ := s3.obj hn3 hm'
                        have ec : c = c0 := by simpa using hcs
                        have ec' : c' = c0 := by simpa using hcs'.1
                        subst ec
                        subst ec'
                        refine ⟨dx', vs', g3, by rw [← rf'.length]; exact hcs'.2, ?_⟩
                        have kk : Keep R3 R3 H3 (upd H3 ad (.ins (T.ca c') dx' (putF (Str.ofString f) zx vs'))) := Keep.upd (List.mem_of_getElem? hn3) ⟨fun xs e => (by rw [g3] at e; cases e), fun φ e => (by rw [g3] at e; cases e)⟩ fun d u e => (by rw [g3] at e; cases e)
                        obtain ⟨s4, k4⟩ := s3.write (c := .obj c' (Mn.putM f zv fs')) hn3 hm' rfl ⟨dx', _, upd_same, (rf'.put rz).stay (List.prefix_refl _) kk.st⟩
                        exact p5 R3 _ σ (p2.trans p3) ((k2.trans k3).trans k4) s4 (e.mono (p2.trans p3) ((k2.trans k3).trans k4))
                      · cases hs
                    · cases hs
            · cases hu2
          · cases hu2
        · cases hu2
theorem r_iadd : ∀ x y H Q, rdO T Mn.oIAdd x y H Q → rAdd x y H Q := fun x y H Q ⟨R, M, u, v, S, ru, rv, p⟩ => by
  unfold Mn.oIAdd at p
  split at p
  · cases ru
    cases rv
    exact ⟨_, _, rfl, rfl, post_ok S p (.int _)⟩
  · exact p.elim
theorem r_isub : ∀ x y H Q, rdO T Mn.oISub x y H Q → rSub x y H Q := fun x y H Q ⟨R, M, u, v, S, ru, rv, p⟩ => by
  unfold Mn.oISub at p
  split at p
  · cases ru
    cases rv
    exact ⟨_, _, rfl, rfl, post_ok S p (.int _)⟩
  · exact p.elim
def MtOkD (X : Cx) (T : Tb) (m : Str) (tb : List (String × (Fn × Nat))) : Prop := ∀ c F np, tb.lookup c = some (F, np) → Arity F np ∧ Cls X.K (T.ca c) ∧ ∃ (k : Nat) (f : Addr) (fd : FuncData) (ps : List Str), Room k X.A ∧ Meth X.K (T.ca c) m f ∧ Binds X.K fd ps [.none] ∧ FnOk X.prog X.w X.K X.mg X.base (L2.CX X.prog X.w) k f fd ps (spF T np F)
theorem evL_app1 {ρ : Mn.Env} {M : Store} {v : Val} : ∀ fs : List E, Mn.evL (fs ++ [Mn.eC v]) ρ M = (Mn.evL fs ρ M).bind fun vs M1 => .ok (vs ++ [v]) M1
  | [] => rfl
  | f :: fs => by
    show (f ρ M).bind (fun x M1 => (Mn.evL (fs ++ [Mn.eC v]) ρ M1).bind fun vs M2 => .ok (x :: vs) M2) = ((f ρ M).bind fun x M1 => (Mn.evL fs ρ M1).bind fun vs M2 => .ok (x :: vs) M2).bind _
    cases f ρ M with
    | ok x M1 =>
      simp only [Mn.R.bind_ok]
      rw [evL_app1 fs]
      cases Mn.evL fs ρ M1 <;> rfl
    | _ => rfl
theorem bind_app {r : Mn.R (List Val)} {v : Val} {g : List Val → Store → Mn.R Val} : (r.bind fun vs M1 => .ok (vs ++ [v]) M1).bind g = r.bind fun vs M1 => g (vs ++ [v]) M1 := by
  cases r <;> rfl
theorem s_methD {m : String} {tb : List (String × (Fn × Nat))} (mt : MtOkD X T (Str.ofString m) tb) (tk : Takes X W) (ha : PE X a (rdE T W fa)) (hs : PA X (e :: es) (rdA T W fs)) (hb : attributeBase a (Str.ofString m) X.env (eval a X.env) = eval a X.env) (hl : (ap.endLine == pos.line) = true)
    (hfew : ((backTo pos (starEach (e :: es) X.env)).all (fun x => !x.1) && (backToKw pos (keywordEach [] X.env)).all (fun x => x.1.isSome) && decide ((e :: es).length + ([] : List Keyword).length + (if ([] : List Keyword).isEmpty then 0 else 1) < 30)) = true)
    (h1 : starEach (e :: es) X.env = (false, eval e X.env) :: starEach es X.env) (h2 : (backTo pos (starEach es X.env)).any (·.1) = false) :
    PE X (.Call (.Attribute a (Str.ofString m) ap) (e :: es) [] pos) (rdE T W (Mn.eMeth (fnTb tb) m fa (fs ++ [Mn.eC .non]))) := by
  refine ⟨fun pins s σ H Q I ⟨R, ρ, M, e0, s0, p⟩ => meth_ev ha hb hl hfew I (rdE_mono (rdE_bind e0 s0 p) fun x H1 ⟨R1, M1, v, e1, s1, r1, p1, k1, q⟩ => ?_)⟩
  split at q
  · rename_i F hF
    unfold Mn.methOf at hF
    split at hF
    · rename_i n
      cases r1 with
      | @ref _ b hn =>
      split at hF
      · rename_i c fs' hm
        split at hF
        · rename_i hno
          obtain ⟨np, htb⟩ := fnTb_at hF
          obtain ⟨A, cl, k, f, fd, ps, hr, me, bd, ho⟩ := mt c F np htb
          obtain ⟨dx, vs, g1, rf⟩ := s1.obj hn hm
          refine ⟨b, _, dx, vs, f, rfl, g1, cl, me, rf.lookup_none (by simpa using hno), fun s2 I2 => ?_⟩
          rw [evL_app1, bind_app] at q
          refine PySem.W.callWith_K (first := [.ref b]) (h₀ := X.base) I2.ok.mod.kin me.kp (thn (hs.run pos pins s2 σ H1 _ I2 ⟨R1, ρ, M1, e1, s1, q.bindL⟩) fun us s3 ⟨ws, H3, I3, r, R3, M3, us', p3, k3, s3', r3, q3⟩ => ⟨I3.kIn, ?_⟩) h1 h2
          refine run_fnSD (us := .ref b :: us) (vs := .ref b :: ws) (dvs := [.non]) (ds := [.none]) (E := WE W) ho hr bd (.cons rfl .nil) (passAt tk σ) I3 (.cons rfl r) ?_
          have rr : Rels T R3 H3 (.ref n :: (us' ++ [.non])) (.ref b :: (ws ++ [.non])) := .cons (.ref (pre_get p3 hn)) (r3.append (.cons .non .nil))
          refine ⟨R3, M3, .ref n :: (us' ++ [.non]), s3', rr, ?_, q3⟩
          by_cases h : (V.ref b :: (ws ++ [V.non])).length = np
          · exact h
          · rw [A _ _ (by rw [rr.length]; exact h)] at q3
            exact q3.elim
        · cases hF
      · cases hF
    · cases hF
  · exact q.elim
end
end MnS
end
section
set_option Elab.async false
set_option autoImplicit false
set_option maxRecDepth 100000
set_option linter.all false
namespace Mn
def uIsO (c : String) : U := fun v M => match v with
  | .ref n => match M[n]? with
    | some (.obj c' _) => if c' = c then some (.bl true, M) else none
    | _ => none
  | _ => none
end Mn
end
section
set_option Elab.async false
set_option autoImplicit false
set_option linter.all false
set_option maxRecDepth 100000
set_option maxHeartbeats 2000000
namespace MnS
open PySem PySem.Spec PyProof.Rows L2
open Mn (Val Cell Store E Fn Op U Itr Src Tg)
structure Dc where
  N : List Str
  nm : List (Str × NameKind)
  fn : List (Str × (Fn × Nat))
  dn : List Str
  kn : List Str
  con : List (Str × Val)
  blt : List Str
  exc : List String
  st : List Str
  calm : Bool
  stm : Bool
  cl : List (Str × (String × Fn × Nat)) := []
  mt : List (String × List (String × (Fn × Nat))) := []
  fl : List (String × List String) := []
  dv : List Str := []
  dw : List Str := []
  dl : List Str := []
  md : List String := []
  io : List String := []
  tx : List Str := []
structure IsoC (K : PySem.W.Frag) (D : Addr) : Prop where
  pg : PySem.W.plainGet K D "__class__" = true
  hd : PySem.W.hasDictIn K D = true
  ca : PySem.W.findIn K (.ref D) "__class__" = some (some (.builtin "object.__class__"))
  sp : PySem.W.specialIn K (.builtin "object.__class__") "__get__" = some (some (.builtin "getset_descriptor.__get__"))
  tk : PySem.W.takesIn K (.builtin "object.__class__") = some true
  mr : PySem.W.mroIn K D (.type "object") = some true
  ki : PySem.W.kitOne K (.ref D) (.ref D) = some true
def tyOk : List String := ["int", "bool", "str", "tuple", "list", "dict", "ValueError"]
def tyNames : List String := ["NoneType", "bool", "int", "str", "tuple", "list", "dict"]
structure ExF (K : PySem.W.Frag) (ca : String → Addr) (xs : List String) : Prop where
  cc : ∀ c ∈ xs, ExcC K (ca c)
  kt : ∀ c ∈ xs, ∀ t ∈ tyOk, PySem.W.kitOne K (.ref (ca c)) (.type t) = some (Mn.isX c t)
  kx : ∀ c ∈ xs, ∀ d ∈ xs, PySem.W.kitOne K (.ref (ca c)) (.ref (ca d)) = some (Mn.isX c d)
  kv : ∀ a ∈ tyNames, ∀ d ∈ xs, PySem.W.kitOne K (.type a) (.ref (ca d)) = some (Mn.isT a d)
  ei : ∀ c ∈ xs, PySem.W.excIn K (ca c) He.veBase "ValueError.__new__" = true
  ke : ∀ c ∈ xs, ∀ d ∈ xs, PySem.W.exmOne K (.ref (ca c)) (.ref (ca d)) = some (Mn.isX c d)
  kp : ∀ c ∈ xs, PySem.W.keepIn K (.ref (ca c)) = true
  ra : ∀ c ∈ xs, PySem.W.subIn K (.ref (ca c)) (.type "BaseException") = some true ∧ PySem.W.typeIn K (.ref (ca c)) = some (.type "type")
structure Cok (X : Cx) (T : Tb) (W : WX) (C : Dc) : Prop where
  K : X.K = T.K
  N : X.N = C.N
  nd : C.N.Nodup
  nm : X.env.scope.names = C.nm
  kind : X.env.scope.kind = .function
  calm : C.calm = true → X.calm = true
  stm : C.stm = true → X.stack = X.env :: X.outer ∧ X.env.frame = some X.env.locals ∧ X.ex = []
  tk : Takes X W
  po : PassesOwn (model X.prog X.w) X.A X.env X.xe
  un : X.A.units + 64 < cLine
  fn : ∀ x F np, C.fn.lookup x = some (F, np) → Arity F np ∧ ∃ (k : Nat) (f : Addr) (fd : FuncData) (ps : List Str), Room k X.A ∧ X.mg x = some (.ref f) ∧ PySem.W.keepIn X.K (.ref f) = true ∧ Binds X.K fd ps [] ∧ (x ∈ C.dn → Binds X.K fd ps [.none] ∧ (x ∈ C.kn → KBn X.K fd ps 2 ["weights"] (fun us ws => us ++ ws) (fun vs zs => vs ++ zs))) ∧
    FnOk X.prog X.w X.K X.mg X.base (L2.CX X.prog X.w) k f fd ps (spF T np F)
  con : ∀ x v, C.con.lookup x = some v → ∃ (u : Value) (w : V), X.mg x = some u ∧ RelV w u ∧ ∀ R H, Rel T R H v w
  blt : ∀ x, x ∈ C.blt → X.mg x = none
  ex : ExF X.K T.ca T.xs
  exc : ∀ c, c ∈ T.xs → X.mg (Str.ofString c) = some (.ref (T.ca c))
  xs : C.exc = T.xs
  sto : ∀ x, x ∈ C.st → X.fn x = true ∨ X.env.scope.names.lookup x = some .local
  cl : ∀ x c F np, C.cl.lookup x = some (c, F, np) → Arity F np ∧ ∃ (k : Nat) (f : Addr) (fd : FuncData) (ps : List Str), Room (k + 1) X.A ∧ X.mg x = some (.ref (T.ca c)) ∧ Mk X.K (T.ca c) f ∧ Binds X.K fd ps [] ∧ FnOk X.prog X.w X.K X.mg X.base (L2.CX X.prog X.w) k f fd ps (spF T np F)
  mt : ∀ m tb, (m, tb) ∈ C.mt → MtOk X T (Str.ofString m) tb
  md : ∀ m tb, (m, tb) ∈ C.mt → m ∈ C.md → MtOkD X T (Str.ofString m) tb
  fl : ∀ f cs, (f, cs) ∈ C.fl → ∀ c ∈ cs, Cls X.K (T.ca c) ∧ NoAttr X.K (T.ca c) (Str.ofString f)
  io : ∀ c ∈ C.io, IsoC X.K (T.ca c) ∧ X.mg (Str.ofString c) = some (.ref (T.ca c))
section
variable (C : Dc)
def slotOf (x : Str) : Option Nat := C.N.findIdx? fun y => decide (y = x)
def badName (x : Str) : Bool := (x == ("__debug__" : Str)) || (x == ("__classdict__" : Str)) || (x == ("__name__" : Str))
def denN (x : Str) : Option E := if badName x = true then none else match C.nm.lookup x with
  | some .local => (slotOf C x).map Mn.eVar
  | some .cell => (slotOf C x).map Mn.eVar
  | some .free => (slotOf C x).map Mn.eVar
  | some .globalImplicit => (C.con.lookup x).map Mn.eC
  | _ => none
def opB : Operator → Option Op
  | .Add => some Mn.oAdd
  | .Sub => some Mn.oSub
  | .Mult => some Mn.oMul
  | .FloorDiv => some Mn.oDiv
  | .Mod => some Mn.oMod
  | .Pow => some Mn.oPow
  | _ => none
def opC : CmpOp → Option Op
  | .Eq => some Mn.cEq
  | .NotEq => some Mn.cNe
  | .Lt => some Mn.cLt
  | .LtE => some Mn.cLe
  | .Gt => some Mn.cGt
  | .GtE => some Mn.cGe
  | .Is => some Mn.cIsN
  | .IsNot => some Mn.cNotN
  | .In => some Mn.cIn
  | .NotIn => some Mn.cNotIn
def isB (x : Str) : Bool := decide (C.nm.lookup x = some .globalImplicit) && C.blt.contains x
def denBlt1 (x : Str) : Option U := if isB C x = true then
    (if x = "abs" then some Mn.uAbs else if x = "len" then some Mn.uLen else if x = "list" then some Mn.uList else if x = "tuple" then some Mn.uTup else if x = "int" then some Mn.uInt
      else if C.calm = true then (if x = "all" then some Mn.uAll else if x = "any" then some Mn.uAny else if x = "sorted" then some Mn.uSort else none) else none) else none
def denBlt2 (x : Str) : Option Op := if isB C x = true then
    (if x = "divmod" then some Mn.oDm else if C.calm = true then (if x = "max" then some Mn.oMax else if x = "min" then some Mn.oMin else none) else none) else none
def denM0 (x : Str) : Option (String × U) := if x = "clear" then some ("list", Mn.mClr) else if x = "pop" then some ("list", Mn.mPop) else none
def denM1 (x : Str) : Option (String × Op) := if x = "append" then some ("list", Mn.mApp) else if x = "extend" then some ("list", Mn.mExt) else if x = "pop" then some ("list", Mn.mPopAt) else none
def denM2 (x : Str) : Option (String × Mn.Tri) := if x = "insert" then some ("list", Mn.mIns) else none
def denTy (e : Expr) : Option String := match e with
  | .Name x _ => if isB C x = true then tyOk.find? (fun t => decide (Str.ofString t = x)) else
      if decide (C.nm.lookup x = some .globalImplicit) = true ∧ ¬ badName x = true then C.exc.find? (fun t => decide (Str.ofString t = x)) else none
  | _ => none
def denTys (e : Expr) : Option (List String) := match e with
  | .Tuple es _ _ => if es.length ≤ 20 then Mn.mapO (denTy C) es else none
  | e => (denTy C e).map fun t => [t]
def locOf (x : Str) : Option Nat := if C.st.contains x = true then (match C.nm.lookup x with
  | some .local => slotOf C x
  | some .cell => slotOf C x
  | _ => none) else none
def isTup : Expr → Bool
  | .Tuple .. => true
  | _ => false
def denG : Nat → Expr → Option (Tg × List Nat)
  | 0, _ => none
  | n + 1, e => match e with
    | .Name x _ => (locOf C x).map fun i => (Mn.tName i, [i])
    | .Tuple es _ _ => if C.calm = true then (Mn.mapO (denG n) es).map fun l => (Mn.tTup (l.map (·.1)), l.flatMap (·.2)) else none
    | .Attribute (.Name x _) f _ => match C.fl.find? (fun p => decide (Str.ofString p.1 = f)), denN C x with
      | some (f', cs), some fo => some (Mn.tFld cs f' fo, [])
      | _, _ => none
    | _ => none
def isDic : Expr → Bool
  | .Attribute _ f _ => C.dv.contains f
  | .Name x _ => C.dw.contains x
  | .Subscript (.Name x _) _ _ => C.dl.contains x
  | _ => false
def base0 : Expr → Bool
  | .Call (.Name _ _) [] _ _ => false
  | _ => true
def isTx : Expr → Bool
  | .Name x _ => C.tx.contains x
  | .Constant (.str _) _ _ => true
  | _ => false
def denI (den : Expr → Option E) (tg e : Expr) : Option Src := match e with
  | .Call (.Name x _) [a] [] _ => if x = "range" ∧ isB C x = true then (den a).map Mn.iRange1
      else if x = "enumerate" ∧ isB C x = true ∧ isTup tg = true then (den a).map Mn.iEnum
      else if x = "reversed" ∧ isB C x = true then (den a).map Mn.iRev else (den e).map Mn.iList
  | .Call (.Name x _) [a, b] [] _ => if x = "range" ∧ isB C x = true then (match den a, den b with
      | some fa, some fb => some (Mn.iRange2 fa fb)
      | _, _ => none) else if x = "zip" ∧ isB C x = true ∧ isTup tg = true then (match den a, den b with
      | some fa, some fb => some (Mn.iZip fa fb)
      | _, _ => none) else (den e).map Mn.iList
  | .Call (.Attribute a m ap) [] [] pos => if (isDic C a && base0 a && ap.endLine == pos.line) = true ∧ m = "items" ∧ isTup tg = true then (den a).map Mn.iItems
      else if (isDic C a && base0 a && ap.endLine == pos.line) = true ∧ m = "values" then (den a).map Mn.iVals else (den e).map Mn.iList
  | e => if isTx C e = true then (den e).map Mn.iStr else (den e).map Mn.iList
def relN (nm names : List (Str × NameKind)) : List (Str × NameKind) := names.map fun (n, k) => if (k == .free && nm.lookup n == some .cell) then (n, .cell) else (n, k)
def ownOf (scope : Scope) : List (Str × Nat) := scope.names.filterMap fun (n, k) => if k == .local || k == .cell then (slotOf C n).map fun i => (n, i) else none
def blkB (scope : Scope) : Bool := blkC C.N { scope with names := C.nm } scope (ownOf C scope)
def blkDc (scope : Scope) : Dc := { C with nm := relN C.nm scope.names, st := (scope.names.filter fun (n, k) => (k == .local || k == .cell) && decide ((relN C.nm scope.names).lookup n = some .local ∨ scope.names.lookup n = some .cell)).map (·.1), stm := false }
def revArg (x : Str) (a : Expr) (es : List Expr) : Option Expr := match es, a with
  | [], .Call (.Name y _) [b] [] _ => if x = "list" ∧ y = "reversed" ∧ isB C x = true ∧ isB C y = true ∧ C.calm = true then some b else none
  | _, _ => none
def rngArg (x : Str) (a : Expr) (es : List Expr) : Option Expr := match es, a with
  | [], .Call (.Name y _) [b] [] _ => if x = "list" ∧ y = "range" ∧ isB C x = true ∧ isB C y = true ∧ C.calm = true then some b else none
  | _, _ => none
theorem rngArg_some {x : Str} {a : Expr} {es : List Expr} {b : Expr} (h : rngArg C x a es = some b) : x = "list" ∧ isB C "list" = true ∧ isB C "range" = true ∧ C.calm = true ∧ es = [] ∧ ∃ p pos, a = .Call (.Name "range" p) [b] [] pos := by
  unfold rngArg at h
  split at h
  · split at h
    · rename_i q
      cases h
      obtain ⟨rfl, rfl, h1, h2, h3⟩ := q
      exact ⟨rfl, h1, h2, h3, rfl, _, _, rfl⟩
    · cases h
  · cases h
theorem revArg_some {x : Str} {a : Expr} {es : List Expr} {b : Expr} (h : revArg C x a es = some b) : x = "list" ∧ isB C "list" = true ∧ isB C "reversed" = true ∧ C.calm = true ∧ es = [] ∧ ∃ p pos, a = .Call (.Name "reversed" p) [b] [] pos := by
  unfold revArg at h
  split at h
  · split at h
    · rename_i q
      cases h
      obtain ⟨rfl, rfl, h1, h2, h3⟩ := q
      exact ⟨rfl, h1, h2, h3, rfl, _, _, rfl⟩
    · cases h
  · cases h
end
def mtOf (C : Dc) (m : Str) : Option (String × List (String × (Fn × Nat))) := C.mt.find? fun p => decide (Str.ofString p.1 = m)
def flOf (C : Dc) (f : Str) : Option (String × List String) := C.fl.find? fun p => decide (Str.ofString p.1 = f)
def lockOf (C : Dc) (e : Expr) : Option (String × Nat) := match e with
  | .Call (.Attribute (.Attribute (.Name x _) f _) m _) [] [] _ => if C.dv.contains f = true ∧ (m = "items" ∨ m = "values") then (match flOf C f, slotOf C x with
      | some (f', _), some i => some (f', i)
      | _, _ => none) else none
  | _ => none
def wrapE (C : Dc) (it : Expr) (f : E) : E := match lockOf C it with
  | some (g, i) => Mn.eLock g i f
  | none => f
def wrapS (C : Dc) (it : Expr) (f : Mn.St) : Mn.St := match lockOf C it with
  | some (g, i) => Mn.sLock g i f
  | none => f
def plainIx : Expr → Bool
  | .Slice .. => false
  | _ => true
def txE (C : Dc) (den : Expr → Option E) (e : Expr) : Option E := match e with
  | .Subscript a b _ => if isTx C a = true ∧ plainIx b = true then (match den a, den b with
    | some fa, some fb => some (Mn.eBin Mn.oIxS fa fb)
    | _, _ => none) else none
  | .Compare a [.In] [b] _ => if isTx C b = true then (match den a, den b with
    | some fa, some fb => some (Mn.eBin (Mn.cInS false) fa fb)
    | _, _ => none) else none
  | .Compare a [.NotIn] [b] _ => if isTx C b = true then (match den a, den b with
    | some fa, some fb => some (Mn.eBin (Mn.cInS true) fa fb)
    | _, _ => none) else none
  | .Call (.Name x _) [a] [] _ => if isB C x = true then (match den a with
    | some fa => if x = "str" then some (Mn.eUn Mn.uStr fa) else if x = "int" ∧ isTx C a = true then some (Mn.eUn Mn.uIntS fa) else none
    | none => none) else none
  | .Call (.Attribute o m ap) [k] [] pos => if (ap.endLine == pos.line && base0 o) = true then (match den o, den k with
    | some fo, some fk => if m = "startswith" then some (Mn.eM1 "str" Mn.mStarts fo fk) else if m = "partition" then some (Mn.eM1 "str" Mn.mPart fo fk)
      else if m = "split" then some (Mn.eM1 "str" Mn.mSplit fo fk) else if m = "join" then some (Mn.eM1 "str" Mn.mJoin fo fk) else none
    | _, _ => none) else none
  | _ => none
def dicE0 (C : Dc) (den : Expr → Option E) (e : Expr) : Option E := match e with
  | .Subscript a b _ => if isDic C a = true ∧ plainIx b = true then (match den a, den b with
    | some fa, some fb => some (Mn.eBin Mn.oDGet fa fb)
    | _, _ => none) else none
  | .Compare a [.In] [b] _ => if isDic C b = true then (match den a, den b with
    | some fa, some fb => some (Mn.eBin (Mn.cInD false) fa fb)
    | _, _ => none) else none
  | .Compare a [.NotIn] [b] _ => if isDic C b = true then (match den a, den b with
    | some fa, some fb => some (Mn.eBin (Mn.cInD true) fa fb)
    | _, _ => none) else none
  | .Call (.Name x _) [a] [] _ => if isDic C a = true ∧ isB C x = true then (match den a with
    | some fa => if x = "len" then some (Mn.eUn Mn.uDLen fa) else if x = "dict" then some (Mn.eUn Mn.uDCopy fa) else if x = "list" ∧ C.calm = true then some (Mn.eUn Mn.uDKeys fa) else none
    | none => none) else none
  | .Call (.Attribute o m ap) [k] [] pos => if isDic C o = true ∧ (ap.endLine == pos.line && base0 o) = true then (match den o, den k with
    | some fo, some fk => if m = "pop" then some (Mn.eM1 "dict" Mn.mDPop fo fk) else if m = "get" then some (Mn.eM1 "dict" Mn.mDGet fo fk) else none
    | _, _ => none) else none
  | _ => none
def dicE (C : Dc) (den : Expr → Option E) (e : Expr) : Option E := match txE C den e with
  | some f => some f
  | none => dicE0 C den e
def mdE (C : Dc) (den : Expr → Option E) (e : Expr) : Option E := match e with
  | .Call (.Attribute o m ap) (a :: es) [] pos => match ap.endLine == pos.line && decide ((a :: es).length < 20) && base0 o, mtOf C m with
    | true, some (m', tb) => if C.md.contains m' = true ∧ tb.all (fun p => decide (p.2.2 = (a :: es).length + 2)) = true then (match den o, Mn.mapO den (a :: es) with
      | some fo, some fs => some (Mn.eMeth (fnTb tb) m' fo (fs ++ [Mn.eC .non]))
      | _, _ => none) else none
    | _, _ => none
  | _ => none
def isoE (C : Dc) (den : Expr → Option E) (x : Str) (es : List Expr) : Option E := match es with
  | [a, .Name y _] => if (x = "isinstance" ∧ isB C x = true) ∧ ¬ badName y = true ∧ C.nm.lookup y = some .globalImplicit then (match C.io.find? (fun c => decide (Str.ofString c = y)), den a with
    | some c, some fa => some (Mn.eUn (Mn.uIsO c) fa)
    | _, _ => none) else none
  | _ => none
def newE (C : Dc) (den : Expr → Option E) (e : Expr) : Option E := match e with
  | .Attribute a f _ => match base0 a, flOf C f, den a with
    | true, some (f', cs), some fa => some (Mn.eUn (Mn.uFld cs f') fa)
    | _, _, _ => none
  | .Call (.Name x _) es [] _ => if badName x = true ∨ C.nm.lookup x ≠ some .globalImplicit then none else match C.cl.lookup x with
    | some (c, F, _) => (Mn.mapO den es).map (Mn.eCall (Mn.mkObj c F))
    | none => isoE C den x es
  | .Call (.Attribute o m ap) es [] pos => match ap.endLine == pos.line && decide (es.length < 20) && base0 o, mtOf C m with
    | true, some (m', tb) => match den o, Mn.mapO den es with
      | some fo, some fs => some (Mn.eMeth (fnTb tb) m' fo fs)
      | _, _ => none
    | _, _ => none
  | _ => none
def denE : Dc → Nat → Expr → Option E
  | _, 0, _ => none
  | C, n + 1, e => match dicE C (denE C n) e with
   | some f => some f
   | none => match mdE C (denE C n) e with
   | some f => some f
   | none => match newE C (denE C n) e with
   | some f => some f
   | none => match e with
    | .Constant (.int i) _ _ => some (Mn.eC (.int i))
    | .Constant (.bool b) _ _ => some (Mn.eC (.bl b))
    | .Constant (.str s) _ _ => some (Mn.eC (.str s.cps.toList))
    | .Constant .none _ _ => some (Mn.eC .non)
    | .Name x _ => denN C x
    | .BinOp a op b _ => match opB op, denE C n a, denE C n b with
      | some f, some fa, some fb => some (Mn.eBin f fa fb)
      | _, _, _ => none
    | .UnaryOp .USub a _ => (denE C n a).map (Mn.eUn Mn.oNeg)
    | .UnaryOp .Not a _ => (denE C n a).map Mn.eNot
    | .BoolOp .And [a] _ => denE C n a
    | .BoolOp .And (a :: b :: r) p => match denE C n a, denE C n (.BoolOp .And (b :: r) p) with
      | some fa, some fb => some (Mn.eAnd fa fb)
      | _, _ => none
    | .BoolOp .Or [a, .Constant (.str s) _ _] _ => (denE C n a).map fun f => Mn.eOrS f s.cps.toList
    | .BoolOp .Or [a] _ => denE C n a
    | .BoolOp .Or (a :: b :: r) p => match denE C n a, denE C n (.BoolOp .Or (b :: r) p) with
      | some fa, some fb => some (Mn.eOr fa fb)
      | _, _ => none
    | .Compare a [op] [b] _ => match opC op, denE C n a, denE C n b with
      | some f, some fa, some fb => some (Mn.eBin f fa fb)
      | _, _, _ => none
    | .Compare a [op, op'] [b, c] _ => match opC op, opC op', denE C n a, denE C n b, denE C n c with
      | some f, some g, some fa, some fb, some fc => some (Mn.eChain f g fa fb fc)
      | _, _, _, _, _ => none
    | .Dict [] [] _ => some (Mn.eUn Mn.uDic (Mn.eC .non))
    | .Tuple es _ _ => (Mn.mapO (denE C n) es).map Mn.eTup
    | .List es _ => (Mn.mapO (denE C n) es).map Mn.eLst
    | .Subscript a (.Slice none none (some (.UnaryOp .USub (.Constant (.int 1) _ _) _)) _) _ => (denE C n a).map (Mn.eUn Mn.uLRev)
    | .Subscript a (.Slice none none none _) _ => (denE C n a).map fun fa => Mn.eSl fa none none
    | .Subscript a (.Slice (some l) none none _) _ => match denE C n a, denE C n l with
      | some fa, some fl => some (Mn.eSl fa (some fl) none)
      | _, _ => none
    | .Subscript a (.Slice none (some h) none _) _ => match denE C n a, denE C n h with
      | some fa, some fh => some (Mn.eSl fa none (some fh))
      | _, _ => none
    | .Subscript a (.Slice (some l) (some h) none _) _ => match denE C n a, denE C n l, denE C n h with
      | some fa, some fl, some fh => some (Mn.eSl fa (some fl) (some fh))
      | _, _, _ => none
    | .Subscript a b _ => match denE C n a, denE C n b with
      | some fa, some fb => some (Mn.eBin Mn.oIx fa fb)
      | _, _ => none
    | .Call (.Name x _) [a, c] [] _ => if x = "isinstance" ∧ isB C x = true then
        (match denE C n a, denTys C c with
          | some fa, some ts => some (Mn.eUn (Mn.uIs ts) fa)
          | _, _ => none)
      else if badName x = true ∨ C.nm.lookup x ≠ some .globalImplicit then none else match C.fn.lookup x, denE C n a, denE C n c with
        | some (F, np), some fa, some fc => if np = 3 ∧ C.dn.contains x = true then some (Mn.eCall F [fa, fc, Mn.eC .non]) else some (Mn.eCall F [fa, fc])
        | none, some fa, some fc => (denBlt2 C x).map fun o => Mn.eBin o fa fc
        | _, _, _ => none
    | .Call (.Name x _) [a, c] [⟨some kx, b, _⟩] _ => if badName x = true ∨ C.nm.lookup x ≠ some .globalImplicit then none else match C.fn.lookup x, denE C n a, denE C n c, denE C n b with
        | some (F, _), some fa, some fc, some fb => if kx = "weights" ∧ C.dn.contains x = true ∧ C.kn.contains x = true then some (Mn.eCall F [fa, fc, fb]) else none
        | _, _, _, _ => none
    | .Call (.Name x _) (a :: es) [] _ => match revArg C x a es with
      | some b => (denE C n b).map (Mn.eUn Mn.uLRev)
      | none => match rngArg C x a es with
      | some b => (denE C n b).map (Mn.eUn Mn.uLRng)
      | none => if badName x = true ∨ C.nm.lookup x ≠ some .globalImplicit then none else match C.fn.lookup x with
        | some (F, _) => (Mn.mapO (denE C n) (a :: es)).map (Mn.eCall F)
        | none => match es, denBlt1 C x, denE C n a with
          | [], some u, some fa => some (Mn.eUn u fa)
          | _, _, _ => none
    | .Call (.Attribute o x ap) [] [] pos => match ap.endLine == pos.line && base0 o, denM0 x, denE C n o with
      | true, some (t, f), some fo => some (Mn.eM0 t f fo)
      | _, _, _ => none
    | .Call (.Attribute o x ap) [a] [] pos => match ap.endLine == pos.line && base0 o, denM1 x, denE C n o, denE C n a with
      | true, some (t, f), some fo, some fa => some (Mn.eM1 t f fo fa)
      | _, _, _, _ => none
    | .Call (.Attribute o x ap) [a, b] [] pos => match ap.endLine == pos.line && base0 o, denM2 x, denE C n o, denE C n a, denE C n b with
      | true, some (t, f), some fo, some fa, some fb => some (Mn.eM2 t f fo fa fb)
      | _, _, _, _, _ => none
    | .ListComp elt [⟨tg, iter, [], 0⟩] scope _ => if C.calm = true ∧ blkB C scope = true then (match denI C (denE C n) tg iter, denG (blkDc C scope) 20 tg, denE (blkDc C scope) n elt with
        | some s, some (t, ts), some fe => if ts.all (fun j => ((ownOf C scope).map (·.2)).contains j) = true then some (wrapE C iter (Mn.eLc s t ((ownOf C scope).map (·.2)) (Mn.eC (.bl true)) fe)) else none
        | _, _, _ => none) else none
    | .ListComp elt [⟨tg, iter, [c], 0⟩] scope _ => if C.calm = true ∧ blkB C scope = true then (match denI C (denE C n) tg iter, denG (blkDc C scope) 20 tg, denE (blkDc C scope) n c, denE (blkDc C scope) n elt with
        | some s, some (t, ts), some fc, some fe => if ts.all (fun j => ((ownOf C scope).map (·.2)).contains j) = true then some (wrapE C iter (Mn.eLc s t ((ownOf C scope).map (·.2)) fc fe)) else none
        | _, _, _, _ => none) else none
    | _ => none
section
variable {X : Cx} {T : Tb} {W : WX} {C : Dc}
theorem slot_get {x : Str} {i : Nat} (h : slotOf C x = some i) : C.N[i]? = some x := by
  unfold slotOf at h
  rw [List.findIdx?_eq_some_iff_getElem] at h
  obtain ⟨hi, h1, _⟩ := h
  rw [List.getElem?_eq_getElem hi]
  exact congrArg some (of_decide_eq_true h1)
theorem badName_no {x : Str} (h : ¬ badName x = true) : (x == ("__debug__" : Str)) = false ∧ (x == ("__classdict__" : Str)) = false ∧ x ≠ "__name__" := by
  unfold badName at h
  simp only [Bool.or_eq_true, not_or] at h
  refine ⟨by simpa using h.1.1, by simpa using h.1.2, fun z => h.2 (by simp [z])⟩
theorem name_ok (ok : Cok X T W C) {x : Str} {pos : Pos} {f : E} (h : denN C x = some f) : PE X (.Name x pos) (rdE T W f) := by
  unfold denN at h
  split at h
  · cases h
  · rename_i hb
    obtain ⟨b1, b2, b3⟩ := badName_no hb
    have go : ∀ i, slotOf C x = some i → Vis X.env.scope x → PE X (.Name x pos) (rdE T W (Mn.eVar i)) := fun i hi hv =>
      s_var (pe_var (by rw [ok.N]; exact slot_get hi) hv b1 b2)
    split at h
    · rename_i hk
      obtain ⟨i, hi, rfl⟩ := Option.map_eq_some_iff.mp h
      exact go i hi (.inl (by rw [ok.nm]; exact hk))
    · rename_i hk
      obtain ⟨i, hi, rfl⟩ := Option.map_eq_some_iff.mp h
      exact go i hi (.inr (.inl (by rw [ok.nm]; exact hk)))
    · rename_i hk
      obtain ⟨i, hi, rfl⟩ := Option.map_eq_some_iff.mp h
      exact go i hi (.inr (.inr (by rw [ok.nm]; exact hk)))
    · rename_i hk
      obtain ⟨v, hv, rfl⟩ := Option.map_eq_some_iff.mp h
      obtain ⟨u, w, e1, e2, e3⟩ := ok.con x v hv
      exact s_con (pe_glob (show X.env.scope.names.lookup x = some .globalImplicit by rw [ok.nm]; exact hk) e1 e2 b1) e3
    · cases h
theorem opB_ok (ok : Cok X T W C) {op : Operator} {f : Op} (h : opB op = some f) : OpR X (binaryOp op) (rdO T f) := by
  cases op <;> simp only [opB, Option.some.injEq, reduceCtorEq] at h <;> subst h
  · exact o_add ok.K
  · exact o_sub
  · exact o_mul
  · exact o_mod
  · exact o_pow
  · exact o_div
theorem opC_ok (ok : Cok X T W C) {op : CmpOp} {f : Op} (h : opC op = some f) : OpR X (compareOp op) (rdO T f) := by
  cases op <;> simp only [opC, Option.some.injEq, reduceCtorEq] at h <;> subst h
  · exact o_eq ok.K ok.un
  · exact o_ne ok.K ok.un
  · exact o_lt
  · exact o_le
  · exact o_gt
  · exact o_ge
  · exact o_isN
  · exact o_notN
  · exact o_in ok.K
  · exact o_notin ok.K
theorem noMark {n : Nat} {e : Expr} {f : E} (h : denE C n e = some f) (op : CmpOp) : behindInMarks op e = false := by
  cases e <;> first | rfl | (cases n <;> cases h)
theorem noMarks {n : Nat} {e : Expr} {f : E} (h : denE C n e = some f) (op op' : CmpOp) (b : Expr) : lastMarks [op, op'] [b, e] = false := noMark h op'
theorem noAttr {e : Expr} (h : base0 e = true) (x : Str) (env : PySem.Env) (m : Sem Value) : attributeBase e x env m = m := by
  cases e with
  | Call fn args kws pos =>
    cases args with
    | nil =>
      cases fn with
      | Name y p => cases h
      | _ => rfl
    | cons a as =>
      cases fn <;> rfl
  | _ => rfl
theorem noStar {n : Nat} {e : Expr} {f : E} (h : denE C n e = some f) (es : List Expr) (env : PySem.Env) : starEach (e :: es) env = (false, eval e env) :: starEach es env := by
  cases e <;> first | rfl | (cases n <;> cases h)
theorem noStars {n : Nat} {env : PySem.Env} {pos : Pos} : ∀ {es : List Expr} {fs : List E}, Mn.mapO (denE C n) es = some fs → (backTo pos (starEach es env)).any (·.1) = false
  | [], _, _ => rfl
  | e :: es, fs, h => by
    unfold Mn.mapO at h
    split at h
    · rename_i f hf
      obtain ⟨gs, hg, _⟩ := Option.map_eq_some_iff.mp h
      rw [noStar hf]
      exact noStars (es := es) hg
    · cases h
theorem noSlice {n : Nat} {e : Expr} {f : E} (h : denE C n e = some f) : PlainIx e := by
  intro o i
  cases e <;> first | rfl | (cases n <;> cases h)
theorem glo (ok : Cok X T W C) {x : Str} (h : C.nm.lookup x = some .globalImplicit) : Gl X x := by
  show X.env.scope.names.lookup x = some .globalImplicit
  rw [ok.nm]
  exact h
theorem isB_ok (ok : Cok X T W C) {x : Str} (h : isB C x = true) : Gl X x ∧ X.mg x = none := by
  unfold isB at h
  rw [Bool.and_eq_true, decide_eq_true_eq] at h
  exact ⟨glo ok h.1, ok.blt x (by simpa using h.2)⟩
theorem kitB_ok : ∀ a ∈ tyNames, ∀ t ∈ tyOk, kitB a t = some (Mn.isT a t) := by decide +kernel
theorem ty_of {R : List Addr} {H : Hp} {M : Store} (S : Sim T R H M) {v : Val} {x : V} (r : Rel T R H v x) {a : String} (h : Mn.tyName M v = some a) : TyX T.K H x (.type a) ∧ a ∈ tyNames := by
  cases r with
  | non =>
    cases h
    exact ⟨.base .non, by decide⟩
  | bl b =>
    cases h
    exact ⟨.base (.bl b), by decide⟩
  | int i =>
    cases h
    exact ⟨.base (.int i), by decide⟩
  | str s =>
    cases h
    exact ⟨.base (.str _), by decide⟩
  | tup ht rx =>
    cases h
    refine ⟨?_, by decide⟩
    rcases ht with ht | ⟨o, its, n, e1, e2, _⟩
    · exact .base (.tup ht)
    · exact .kTuple e1 e2
  | exc hm he => cases h
  | @ref n p hn =>
    obtain ⟨c, hc, hp⟩ := S.of hn
    unfold Mn.tyName at h
    simp only [hc] at h
    cases c with
    | lst xs =>
      cases h
      obtain ⟨vs, h1, _⟩ := hp
      exact ⟨.base (.lst h1), by decide⟩
    | ro xs =>
      cases h
      obtain ⟨o, vs, h1, _⟩ := hp
      exact ⟨.base (.frz h1), by decide⟩
    | dic xs =>
      cases h
      obtain ⟨vs, h1, _⟩ := hp
      exact ⟨.base (.dK h1), by decide⟩
    | rod xs =>
      cases h
      obtain ⟨o, vs, h1, _⟩ := hp
      exact ⟨.fDict h1, by decide⟩
    | obj c fs => cases h
structure IsC (K : PySem.W.Frag) (T : Tb) (t : String) (w : V) (u : Value) : Prop where
  cl : ClsV w u
  ty : ∀ a ∈ tyNames, PySem.W.kitOne K (.type a) u = some (Mn.isT a t)
  ex : ∀ c ∈ T.xs, PySem.W.kitOne K (.ref (T.ca c)) u = some (Mn.isX c t)
theorem denTy_ok (ok : Cok X T W C) {c : Expr} {t : String} (h : denTy C c = some t) : ∃ w u, IsC X.K T t w u ∧ PE X c (tC w) := by
  unfold denTy at h
  split at h
  · rename_i x pos
    split at h
    · rename_i hb
      obtain ⟨hg, hm⟩ := isB_ok ok hb
      have e : Str.ofString t = x := by simpa using List.find?_some h
      have ht := List.mem_of_find?_eq_some h
      subst e
      have all : ∀ t ∈ tyOk, bootBuiltins (Str.ofString t) = some (.type t) ∧ (Str.ofString t) ≠ "__name__" ∧ ((Str.ofString t) == ("__debug__" : Str)) = false := by decide +kernel
      obtain ⟨h1, h2, h3⟩ := all t ht
      exact ⟨.ty t, .type t, ⟨.ty t, fun a ha => kit_ty (kitB_ok a ha t ht), fun c hc => ok.ex.kt c hc t ht⟩, pe_bltn hg hm h1 rfl h2 h3⟩
    · split at h
      · rename_i hb
        obtain ⟨b1, b2, b3⟩ := badName_no hb.2
        have e : Str.ofString t = x := by simpa using List.find?_some h
        have ht := List.mem_of_find?_eq_some h
        rw [ok.xs] at ht
        subst e
        exact ⟨.ref (T.ca t), .ref (T.ca t), ⟨.own _, fun a ha => ok.ex.kv a ha t ht, fun c hc => ok.ex.kx c hc t ht⟩, pe_glob (glo ok (of_decide_eq_true hb.1)) (ok.exc t ht) rfl b1⟩
      · cases h
  · cases h
theorem kitAny_all {K : PySem.W.Frag} {t : Value} {g : String → Bool} : ∀ {ts : List String} {us : List Value}, Paired (fun t' u => PySem.W.kitOne K t u = some (g t')) ts us → PySem.W.kitAny K t us = some (ts.any g)
  | _, _, .nil => rfl
  | _, _, .cons (a := a) h r => kitAny_cons h (fun hb => by
      rw [kitAny_all r, List.any_cons, hb, Bool.false_or]) fun hb => by rw [List.any_cons, hb, Bool.true_or]
theorem call_isV (ex : ExF X.K T.ca T.xs) (hK : X.K = T.K) {ts : List String} : CallR X (.builtin "isinstance") (fun xs H Q => ∃ (x c : V) (ws : List V) (us : List Value), xs = [x, c] ∧ Paired ClsV ws us ∧ Paired (fun t u => ∃ w, IsC X.K T t w u) ts us ∧ ((ws = [c]) ∨ ∃ p, c = .ref p ∧ H p = some (.tup ws)) ∧ rdU T (Mn.uIs ts) x H Q) := by
  intro pins s σ H xs us' Q I r ⟨x, c, ws, us, e, pc, pt, hc, R, M, u, S, ra, p⟩
  subst e
  have hany : ∀ {t : Value} {g : String → Bool}, (∀ t' u', (∃ w, IsC X.K T t' w u') → PySem.W.kitOne X.K t u' = some (g t')) → PySem.W.kitAny X.K t us = some (ts.any g) := fun {t g} hg => kitAny_all (L2.Paired.mapP pt fun a b q => hg a b q)
  have hone : ∀ {t : Value} {b : Bool} {u1 : Value}, us = [u1] → PySem.W.kitAny X.K t us = some b → PySem.W.kitOne X.K t u1 = some b := fun {t b u1} e h => by
    subst e
    unfold PySem.W.kitAny at h
    cases q : PySem.W.kitOne X.K t u1 with
    | none =>
      rw [q] at h
      cases h
    | some k =>
      rw [q] at h
      cases k <;> exact h
  unfold Mn.uIs at p
  cases ra with
  | @exc cn a hm he =>
    have p : Post T (fun _ _ _ => False) R H Q (.ok (.bl (ts.any (Mn.isX cn))) M) := p
    have fin : ∀ tk, EP X pins σ Q (.bool (ts.any (Mn.isX cn))) { s with toks := tk } := fun tk => ⟨.bl _, H, I.tok tk, rfl, post_ok S p (.bl _)⟩
    have hk := hany (t := .ref (T.ca cn)) (g := Mn.isX cn) fun t' u' ⟨w, z⟩ => z.ex cn hm
    obtain ⟨ph, _, _⟩ := I.hok a _ he
    obtain ⟨oe, vs, h1, h2, h3, h4⟩ := ph
    have J : PySem.W.InstAt s.heap a oe (T.ca cn) none := by
      obtain ⟨oc, od, oda, osl⟩ := oe
      dsimp only at h2 h3 h4
      subst h2 h3 h4
      exact ⟨h1, rfl, rfl, trivial⟩
    have E := ex.cc cn hm
    obtain ⟨u1, u2, rfl, r1, r2⟩ := vals2 r
    cases (show u1 = Value.ref a from r1)
    have Z := PySem.W.handS_kitx_exc (x := a) (ox := oe) E.hg E.hk E.hs E.hd E.ha E.hn E.ht E.hm
    rcases hc with hc | ⟨pp, rfl, hp⟩
    · subst hc
      cases pc with
      | cons k1 k2 =>
        cases k2
        have e2 := k1.eq r2
        subst e2
        exact PySem.W.kia_one Z I.kIn J (hone rfl hk) (fun z => nomatch z) fin
    · cases (show u2 = Value.ref pp from r2)
      obtain ⟨_, its, rv, o, h1, h2, n, h3⟩ := (show ObjOk X.prog X.w H s.heap pp (.tup ws) from I.hok pp _ hp)
      have e3 := ClsV.all pc rv
      subst e3
      obtain ⟨oc, od, dt, sl⟩ := o
      simp only at h2 h3
      subst h2 h3
      exact PySem.W.kia_tup Z I.kIn J h1 hk (fun z => nomatch z) fin
  | _ =>
    all_goals
      simp only at p
      split at p
      · rename_i a ea
        obtain ⟨ty, ha⟩ := ty_of S (by first | exact .non | exact .bl _ | exact .int _ | exact .str _ | (exact .tup (by assumption) (by assumption)) | exact .ref (by assumption)) ea
        rw [← hK] at ty
        have hk := hany (t := .type a) (g := Mn.isT a) fun t' u' ⟨w, z⟩ => z.ty a ha
        rcases hc with hc | ⟨pp, rfl, hp⟩
        · subst hc
          cases pc with
          | cons k1 k2 =>
            cases k2
            exact call_isi pins s σ H _ us' Q I r ⟨_, c, _, _, _, rfl, k1, ty, hone rfl hk, post_ok S p (.bl _)⟩
        · exact call_isiT pins s σ H _ us' Q I r ⟨_, pp, ws, _, us, _, rfl, hp, pc, ty, hk, post_ok S p (.bl _)⟩
      · exact p.elim
theorem call_isO {c : String} (f : IsoC X.K (T.ca c)) : CallR X (.builtin "isinstance") (fun xs H Q => ∃ (x w : V), xs = [x, w] ∧ ClsV w (.ref (T.ca c)) ∧ rdU T (Mn.uIsO c) x H Q) := by
  intro pins s σ H xs us' Q I r ⟨x, w, e, cl, R, M, u, S, ra, p⟩
  subst e
  unfold Mn.uIsO at p
  cases ra with
  | ref hn =>
    simp only at p
    split at p
    · rename_i c' fs hm
      split at p
      · rename_i hc
        subst hc
        obtain ⟨dx, vs, h1, rf⟩ := S.obj hn hm
        obtain ⟨mA, ob, _⟩ := ins_get I.hok h1
        obtain ⟨od, inst, _⟩ := ob.look
        obtain ⟨u1, u2, rfl, r1, r2⟩ := vals2 r
        obtain rfl : u1 = Value.ref _ := r1
        have e2 := cl.eq r2
        subst e2
        exact PySem.W.kia_one (PySem.W.kitx_own f.pg f.hd f.ca f.sp f.tk f.mr) I.kIn inst f.ki (fun z => nomatch z) fun tk => ⟨.bl true, H, I.tok tk, rfl, post_ok S p (.bl _)⟩
      · exact p.elim
    · exact p.elim
  | _ => exact p.elim
end
end MnS
end
section
set_option Elab.async false
set_option autoImplicit false
set_option linter.all false
set_option maxRecDepth 100000
set_option maxHeartbeats 4000000
namespace MnS
open PySem PySem.Spec PyProof.Rows L2
open Mn (Val Cell Store E Fn Op U Itr Src Tg)
theorem sOf_codes (s : Str) : sOf s.cps.toList = s := by
  show Str.mk s.cps.toList.toArray = s
  rw [Array.toArray_toList]
section
variable {X : Cx} {T : Tb} {W : WX} {C : Dc}
theorem denTys_ok (ok : Cok X T W C) {c : Expr} {ts : List String} (h : denTys C c = some ts) : ∃ (ws : List V) (us : List Value), Paired ClsV ws us ∧ Paired (fun t u => ∃ w, IsC X.K T t w u) ts us ∧
    ((∃ w, ws = [w] ∧ PE X c (tC w)) ∨ (∃ es k p, c = .Tuple es k p) ∧ PE X c (fun _ H Q => ∀ p, H p = none → Q (.ref p) (upd H p (.tup ws)))) ∧ (∀ es env, starEach (c :: es) env = (false, eval c env) :: starEach es env) := by
  unfold denTys at h
  split at h
  · rename_i es k pos
    have go : ∀ (es : List Expr) (ts : List String), Mn.mapO (denTy C) es = some ts → ∃ (ws : List V) (us : List Value), Paired ClsV ws us ∧ Paired (fun t u => ∃ w, IsC X.K T t w u) ts us ∧ PA X es (fun _ H Q => Q ws H) := by
      intro es
      induction es with
      | nil =>
        intro ts h
        cases h
        exact ⟨[], [], .nil, .nil, PA.imp pa_nil fun _ _ _ q => q⟩
      | cons e es ih =>
        intro ts h
        unfold Mn.mapO at h
        split at h
        · rename_i t ht
          obtain ⟨ts', h2, rfl⟩ := Option.map_eq_some_iff.mp h
          obtain ⟨w, u, z, pe⟩ := denTy_ok ok ht
          obtain ⟨ws, us, p1, p2, pa⟩ := ih ts' h2
          refine ⟨w :: ws, u :: us, .cons z.cl p1, .cons ⟨w, z⟩ p2, PA.imp (pa_cons pe pa ?_) fun _ _ _ q => q⟩
          cases e <;> first | rfl | cases ht
        · cases h
    split at h
    · rename_i hz
      obtain ⟨ws, us, p1, p2, pa⟩ := go es ts h
      refine ⟨ws, us, p1, p2, .inr ⟨⟨es, k, pos, rfl⟩, PE.imp (pe_tup pa) fun σ H Q q => ⟨?_, q⟩⟩, fun _ _ => rfl⟩
      have l1 := p1.length
      have l2 := p2.length
      have l3 : ∀ (es : List Expr) (ts : List String), Mn.mapO (denTy C) es = some ts → ts.length = es.length := by
        intro es
        induction es with
        | nil =>
          intro ts h
          cases h
          rfl
        | cons e es ih =>
          intro ts h
          unfold Mn.mapO at h
          split at h
          · obtain ⟨ts', h2, rfl⟩ := Option.map_eq_some_iff.mp h
            rw [List.length_cons, List.length_cons, ih ts' h2]
          · cases h
      have l4 := l3 es ts h
      rw [sizeLine_eq]
      omega
    · cases h
  · obtain ⟨t, ht, rfl⟩ := Option.map_eq_some_iff.mp h
    obtain ⟨w, u, z, pe⟩ := denTy_ok ok ht
    refine ⟨[w], [u], .cons z.cl .nil, .cons ⟨w, z⟩ .nil, .inl ⟨w, rfl, pe⟩, fun es env => ?_⟩
    cases c <;> first | rfl | cases ht
theorem isi_ok (ok : Cok X T W C) {a c : Expr} {p pos : Pos} {fa : E} {ts : List String} (hb : isB C "isinstance" = true) (ha : PE X a (rdE T W fa)) (hs : ∀ es env, starEach (a :: es) env = (false, eval a env) :: starEach es env) (hc : denTys C c = some ts) :
    PE X (.Call (.Name "isinstance" p) [a, c] [] pos) (rdE T W (Mn.eUn (Mn.uIs ts) fa)) := by
  obtain ⟨hg, hm⟩ := isB_ok ok hb
  obtain ⟨ws, us, p1, p2, h3, hs2⟩ := denTys_ok ok hc
  have hv : bootBuiltins ("isinstance" : Str) = some (.builtin "isinstance") := by decide +kernel
  rcases h3 with ⟨w, rfl, pe⟩ | ⟨⟨es, k, pp, rfl⟩, pe⟩
  · refine PE.imp (pe_callB (call_isV ok.ex ok.K (ts := ts)) hg hm hv (pa_cons ha (pa_cons pe pa_nil (hs2 _ _)) (hs _ _)) (by decide +kernel) (by decide +kernel) (hs _ _) (by rw [hs2]; rfl)) fun σ H Q h => ?_
    exact rdE_mono (un_rd σ H Q h) fun x H1 q => ⟨x, w, [w], us, rfl, p1, p2, .inl rfl, q⟩
  · refine PE.imp (pe_callB (call_isV ok.ex ok.K (ts := ts)) hg hm hv (pa_cons ha (pa_cons pe pa_nil (hs2 _ _)) (hs _ _)) (by decide +kernel) (by decide +kernel) (hs _ _) (by rw [hs2]; rfl)) fun σ H Q h => ?_
    refine rdE_mono (un_rd σ H Q h) fun x H1 ⟨R, M, u, S, ra, q⟩ => fun tp hp => ?_
    refine ⟨x, .ref tp, ws, us, rfl, p1, p2, .inr ⟨tp, rfl, upd_same⟩, R, M, u, S.other hp, ra.mono (List.prefix_refl R) (Keep.new hp), ?_⟩
    exact q.imp (List.prefix_refl R) (Keep.new hp) fun _ _ z => z
theorem args_ok {n : Nat} (ih : ∀ e f, denE C n e = some f → PE X e (rdE T W f)) : ∀ (es : List Expr) (fs : List E), Mn.mapO (denE C n) es = some fs → PA X es (rdA T W fs)
  | [], fs, h => by
    cases h
    exact a_nil
  | e :: es, fs, h => by
    unfold Mn.mapO at h
    split at h
    · rename_i f hf
      obtain ⟨gs, hg, rfl⟩ := Option.map_eq_some_iff.mp h
      exact a_cons (ih e f hf) (args_ok ih es gs hg) (noStar hf es X.env)
    · cases h
theorem pe_callD {k : Nat} {f : Addr} {fd : FuncData} {ps : List Str} {sp : Sp} {Ee : L2.St → XK} {x : Str} {p pos : Pos} {e : Expr} {es : List Expr} {t : TA} {ds : List Value} {dvs : List V} (F : FnOk X.prog X.w X.K X.mg X.base (L2.CX X.prog X.w) k f fd ps sp) (hr : Room k X.A) (hg : Gl X x) (hm : X.mg x = some (.ref f))
    (hk : PySem.W.keepIn X.K (.ref f) = true) (hb : Binds X.K fd ps ds) (hd : Vals dvs ds) (hx : ∀ σ, PassesAt (L2.CX X.prog X.w) X σ (Ee σ)) (ha : PA X (e :: es) t) (hdb : (x == ("__debug__" : Str)) = false)
    (he : starEach (e :: es) X.env = (false, eval e X.env) :: starEach es X.env) (hpl : (backTo pos (starEach es X.env)).any (·.1) = false) :
    PE X (.Call (.Name x p) (e :: es) [] pos) (fun σ H Q => t σ H fun vs H1 => sp (vs ++ dvs) H1 Q (Ee σ)) := by
  refine ⟨fun pins s σ H Q I h => wpAny_Call_Name_kw (ld_glob I hg hm ?_ hdb)⟩
  refine PySem.W.callWith_K (h₀ := X.base) I.ok.mod.kin hk (thn (ha.run pos pins s σ H _ I h) fun us s1 ⟨vs, H1, I1, r, q⟩ => ⟨I1.kIn, ?_⟩) he hpl
  have r2 := r.append hd
  have hl : (us ++ ds).length = ps.length := r2.length.symm.trans (F.len _ _ _ _ q)
  refine wpAny_call (codeAny_mono (F.run X.A X.stack s1 H1 ⟨us, []⟩ _ _ Q (Ee σ) hr I1.env0 (hb s1 us I1.kIn hl) r2 q) fun r3 s2 hq => ?_)
  cases r3 with
  | error ex => exact hx σ pins H1 s1 ex s2 I1 hq
  | ok fl =>
    cases fl with
    | ret u => exact I1.after hq
    | _ => exact hq.elim
theorem callee_ok (ok : Cok X T W C) {x : Str} {F : Fn} {np : Nat} {p pos : Pos} {a : Expr} {es : List Expr} {fs : List E} (hb : ¬ (badName x = true ∨ C.nm.lookup x ≠ some .globalImplicit)) (hf : C.fn.lookup x = some (F, np)) (ha : PA X (a :: es) (rdA T W fs))
    (h1 : starEach (a :: es) X.env = (false, eval a X.env) :: starEach es X.env) (h2 : (backTo pos (starEach es X.env)).any (·.1) = false) : PE X (.Call (.Name x p) (a :: es) [] pos) (rdE T W (Mn.eCall F fs)) := by
  have hb1 : ¬ badName x = true := fun z => hb (.inl z)
  have hb2 : C.nm.lookup x = some .globalImplicit := Decidable.not_not.mp fun z => hb (.inr z)
  obtain ⟨ar, k, f, fd, ps, hr, hm, hk, hbd, _, ho⟩ := ok.fn x F np hf
  exact PE.imp (pe_callS ho hr (glo ok hb2) hm hk hbd (fun σ => passAt ok.tk σ) ha (badName_no hb1).1 h1 h2) (call_rd ar)
theorem evL_app {ρ : Mn.Env} {M : Store} {v : Val} : ∀ fs : List E, Mn.evL (fs ++ [Mn.eC v]) ρ M = (Mn.evL fs ρ M).bind fun vs M1 => .ok (vs ++ [v]) M1
  | [] => rfl
  | f :: fs => by
    show (f ρ M).bind (fun x M1 => (Mn.evL (fs ++ [Mn.eC v]) ρ M1).bind fun vs M2 => .ok (x :: vs) M2) = ((f ρ M).bind fun x M1 => (Mn.evL fs ρ M1).bind fun vs M2 => .ok (x :: vs) M2).bind _
    cases f ρ M with
    | ok x M1 =>
      simp only [Mn.R.bind_ok]
      rw [evL_app fs]
      cases Mn.evL fs ρ M1 <;> rfl
    | _ => rfl
theorem calleeD_ok (ok : Cok X T W C) {x : Str} {F : Fn} {np : Nat} {p pos : Pos} {a : Expr} {es : List Expr} {fs : List E} (hb : ¬ (badName x = true ∨ C.nm.lookup x ≠ some .globalImplicit)) (hf : C.fn.lookup x = some (F, np)) (hd : C.dn.contains x = true) (ha : PA X (a :: es) (rdA T W fs))
    (h1 : starEach (a :: es) X.env = (false, eval a X.env) :: starEach es X.env) (h2 : (backTo pos (starEach es X.env)).any (·.1) = false) : PE X (.Call (.Name x p) (a :: es) [] pos) (rdE T W (Mn.eCall F (fs ++ [Mn.eC .non]))) := by
  have hb1 : ¬ badName x = true := fun z => hb (.inl z)
  have hb2 : C.nm.lookup x = some .globalImplicit := Decidable.not_not.mp fun z => hb (.inr z)
  obtain ⟨ar, k, f, fd, ps, hr, hm, hk, _, hbd, ho⟩ := ok.fn x F np hf
  refine PE.imp (pe_callD ho hr (glo ok hb2) hm hk (hbd (by simpa using hd)).1 (show Vals [V.non] [Value.none] from .cons rfl .nil) (fun σ => passAt ok.tk σ) ha (badName_no hb1).1 h1 h2) fun σ H Q ⟨R, ρ, M, e, s, q⟩ => ?_
  unfold Mn.eCall at q
  rw [evL_app] at q
  have q2 : Post T (at_ W σ) R H Q ((Mn.evL fs ρ M).bind fun vs M1 => F (vs ++ [.non]) M1) := by
    cases z : Mn.evL fs ρ M with
    | ok vs M1 =>
      rw [z] at q
      exact q
    | exc c M1 =>
      rw [z] at q
      exact q
    | bad =>
      rw [z] at q
      exact q
  refine rdA_mono (rdA_bind e s q2) fun xs H1 ⟨R1, M1, vs, e1, s1, r1, q3⟩ => ?_
  have r2 : Rels T R1 H1 (vs ++ [.non]) (xs ++ [.non]) := r1.append (.cons .non .nil)
  refine ⟨R1, M1, vs ++ [.non], s1, r2, ?_, q3⟩
  by_cases h : (xs ++ [V.non]).length = np
  · exact h
  · rw [ar _ M1 (by rw [r2.length]; exact h)] at q3
    exact q3.elim
theorem pe_callW {k n : Nat} {f : Addr} {fd : FuncData} {ps ks : List Str} {sp : Sp} {Ee : L2.St → XK} {x : Str} {p pos : Pos} {e : Expr} {es : List Expr} {kws : List Keyword} {t tk : TA} {g : List Value → List Value → List Value} {gV : List V → List V → List V} (F : FnOk X.prog X.w X.K X.mg X.base (L2.CX X.prog X.w) k f fd ps sp) (hr : Room k X.A) (hg : Gl X x) (hm : X.mg x = some (.ref f))
    (hk : PySem.W.keepIn X.K (.ref f) = true) (hb : KBn X.K fd ps n ks g gV) (hx : ∀ σ, PassesAt (L2.CX X.prog X.w) X σ (Ee σ)) (ha : PA X (e :: es) t) (hkw : PK X kws tk) (hall : (backToKw pos (keywordEach kws X.env)).all (·.1.isSome) = true) (hks : (backToKw pos (keywordEach kws X.env)).filterMap (·.1) = ks) (hdb : (x == ("__debug__" : Str)) = false)
    (he : starEach (e :: es) X.env = (false, eval e X.env) :: starEach es X.env) (hpl : ((backTo pos (starEach (e :: es) X.env)).any (·.1) || (backToKw pos (keywordEach kws X.env)).any (·.1.isNone)) = false) :
    PE X (.Call (.Name x p) (e :: es) kws pos) (fun σ H Q => t σ H fun vs H1 => tk σ H1 fun zs H2 => vs.length = n ∧ zs.length = ks.length ∧ sp (gV vs zs) H2 Q (Ee σ)) := by
  refine ⟨fun pins s σ H Q I h => ?_⟩
  refine wpAny_Call_Name_kw (ld_glob I hg hm ?_ hdb)
  refine PySem.W.callWith_KW (h₀ := X.base) I.ok.mod.kin hk hall (thn (ha.run pos pins s σ H _ I h) fun us s1 ⟨vs, H1, I1, r, q⟩ => ?_) hpl he
  refine thn (hkw.run pos pins s1 σ H1 _ I1 q) fun ws s2 ⟨zs, H2, I2, rz, l1, l2, q2⟩ => ⟨I2.kIn, ?_⟩
  rw [hks]
  have r2 := hb.rel r rz
  refine wpAny_call (codeAny_mono (F.run X.A X.stack s2 H2 ⟨us, ks.zip ws⟩ (g us ws) (gV vs zs) Q (Ee σ) hr I2.env0 (hb.to s2 us ws I2.kIn (r.length.symm.trans l1) (rz.length.symm.trans l2)) r2 q2) fun r3 s3 hq => ?_)
  cases r3 with
  | error ex => exact hx σ pins H2 s2 ex s3 I2 hq
  | ok fl =>
    cases fl with
    | ret u => exact I2.after hq
    | _ => exact hq.elim
theorem evL_two {ρ : Mn.Env} {M : Store} {fa fc fb : E} {F : Fn} : Mn.eCall F [fa, fc, fb] ρ M = (Mn.evL [fa, fc] ρ M).bind fun vs M1 => if vs.length = 2 then (fb ρ M1).bind fun w M2 => F (vs ++ [w]) M2 else .bad := by
  unfold Mn.eCall Mn.evL Mn.evL Mn.evL Mn.evL
  cases fa ρ M with
  | ok x M1 =>
    simp only [Mn.R.bind_ok]
    cases fc ρ M1 with
    | ok y M2 =>
      simp only [Mn.R.bind_ok]
      show _ = if 2 = 2 then _ else _
      rw [if_pos rfl]
      cases fb ρ M2 <;> rfl
    | _ => rfl
  | _ => rfl
theorem calleeW_ok (ok : Cok X T W C) {x : Str} {F : Fn} {np : Nat} {p pos kp : Pos} {a c b : Expr} {fa fc fb : E} (hb : ¬ (badName x = true ∨ C.nm.lookup x ≠ some .globalImplicit)) (hf : C.fn.lookup x = some (F, np)) (hd : C.dn.contains x = true) (hkn : C.kn.contains x = true) (ha : PA X [a, c] (rdA T W [fa, fc])) (hb2 : PE X b (rdE T W fb))
    (h1 : starEach [a, c] X.env = (false, eval a X.env) :: starEach [c] X.env) (h2 : (backTo pos (starEach [a, c] X.env)).any (·.1) = false) : PE X (.Call (.Name x p) [a, c] [⟨some "weights", b, kp⟩] pos) (rdE T W (Mn.eCall F [fa, fc, fb])) := by
  have hb1 : ¬ badName x = true := fun z => hb (.inl z)
  have hb3 : C.nm.lookup x = some .globalImplicit := Decidable.not_not.mp fun z => hb (.inr z)
  obtain ⟨ar, k, f, fd, ps, hr, hm, hk, _, hbd, ho⟩ := ok.fn x F np hf
  have kb := (hbd (by simpa using hd)).2 (by simpa using hkn)
  refine PE.imp (pe_callW ho hr (glo ok hb3) hm hk kb (fun σ => passAt ok.tk σ) ha (pk_cons hb2 pk_nil) rfl rfl (badName_no hb1).1 h1 (by rw [h2]; rfl)) fun σ H Q ⟨R, ρ, M, e, s, q⟩ => ?_
  rw [evL_two] at q
  refine rdA_mono (rdA_bind e s q) fun xs H1 ⟨R1, M1, vs, e1, s1, r1, q3⟩ => ?_
  split at q3
  · rename_i hl
    refine rdE_mono (rdE_bind e1 s1 q3) fun z H2 ⟨R2, M2, v, e2, s2, r2, p2, k2, q4⟩ => ?_
    have r3 : Rels T R2 H2 (vs ++ [v]) (xs ++ [z]) := (r1.mono p2 k2).append (.cons r2 .nil)
    refine ⟨r1.length.symm.trans hl, rfl, R2, M2, vs ++ [v], s2, r3, ?_, q4⟩
    by_cases h : (xs ++ [z]).length = np
    · exact h
    · rw [ar _ M2 (by rw [r3.length]; exact h)] at q4
      exact q4.elim
  · exact q3.elim
theorem blt1_ok (ok : Cok X T W C) {x : Str} {u : U} {p pos : Pos} {a : Expr} {fa : E} (h : denBlt1 C x = some u) (ha : PE X a (rdE T W fa)) (hs : ∀ es env, starEach (a :: es) env = (false, eval a env) :: starEach es env) :
    PE X (.Call (.Name x p) [a] [] pos) (rdE T W (Mn.eUn u fa)) := by
  unfold denBlt1 at h
  split at h
  case isFalse => cases h
  rename_i hb
  obtain ⟨hg, hm⟩ := isB_ok ok hb
  have pa := pa_cons ha pa_nil (hs [] X.env)
  split at h
  · rename_i e
    subst e
    cases h
    exact PE.imp (pe_callB b_abs hg hm (by decide +kernel) pa (by decide +kernel) (by decide +kernel) (hs [] X.env) rfl) b_rd
  split at h
  · rename_i e
    subst e
    cases h
    exact PE.imp (pe_callB (b_len ok.K) hg hm (by decide +kernel) pa (by decide +kernel) (by decide +kernel) (hs [] X.env) rfl) b_rd
  split at h
  · rename_i e
    subst e
    cases h
    exact PE.imp (pe_callTy (b_list ok.K) hg hm (by decide +kernel) pa (by decide +kernel) (by decide +kernel) (hs [] X.env) rfl) b_rd
  split at h
  · rename_i e
    subst e
    cases h
    exact PE.imp (pe_callTy (b_tup ok.K) hg hm (by decide +kernel) pa (by decide +kernel) (by decide +kernel) (hs [] X.env) rfl) b_rd
  split at h
  · rename_i e
    subst e
    cases h
    exact PE.imp (pe_callTy b_int hg hm (by decide +kernel) pa (by decide +kernel) (by decide +kernel) (hs [] X.env) rfl) b_rd
  split at h
  case isFalse => cases h
  rename_i hc
  split at h
  · rename_i e
    subst e
    cases h
    exact PE.imp (pe_callB (b_allG (cr_all (ok.calm hc)) ok.K) hg hm (by decide +kernel) pa (by decide +kernel) (by decide +kernel) (hs [] X.env) rfl) b_rd
  split at h
  · rename_i e
    subst e
    cases h
    exact PE.imp (pe_callB (b_allG (cr_any (ok.calm hc)) ok.K) hg hm (by decide +kernel) pa (by decide +kernel) (by decide +kernel) (hs [] X.env) rfl) b_rd
  split at h
  · rename_i e
    subst e
    cases h
    exact PE.imp (pe_callB (b_sort ok.K) hg hm (by decide +kernel) pa (by decide +kernel) (by decide +kernel) (hs [] X.env) rfl) b_rd
  · cases h
theorem blt2_ok (ok : Cok X T W C) {x : Str} {o : Op} {p pos : Pos} {a c : Expr} {fa fc : E} (h : denBlt2 C x = some o) (ha : PE X a (rdE T W fa)) (hc : PE X c (rdE T W fc)) (hs : ∀ es env, starEach (a :: es) env = (false, eval a env) :: starEach es env)
    (hs2 : ∀ es env, starEach (c :: es) env = (false, eval c env) :: starEach es env) : PE X (.Call (.Name x p) [a, c] [] pos) (rdE T W (Mn.eBin o fa fc)) := by
  unfold denBlt2 at h
  split at h
  case isFalse => cases h
  rename_i hb
  obtain ⟨hg, hm⟩ := isB_ok ok hb
  have pa := pa_cons ha (pa_cons hc pa_nil (hs2 [] X.env)) (hs [c] X.env)
  have pl : (backTo pos (starEach [c] X.env)).any (·.1) = false := by
    rw [hs2]
    rfl
  split at h
  · rename_i e
    subst e
    cases h
    exact PE.imp (pe_callB b_dm hg hm (by decide +kernel) pa (by decide +kernel) (by decide +kernel) (hs [c] X.env) pl) b2_rd
  split at h
  case isFalse => cases h
  rename_i hcalm
  split at h
  · rename_i e
    subst e
    cases h
    exact PE.imp (pe_callB (b_max (ok.calm hcalm)) hg hm (by decide +kernel) pa (by decide +kernel) (by decide +kernel) (hs [c] X.env) pl) b2_rd
  split at h
  · rename_i e
    subst e
    cases h
    exact PE.imp (pe_callB (b_min (ok.calm hcalm)) hg hm (by decide +kernel) pa (by decide +kernel) (by decide +kernel) (hs [c] X.env) pl) b2_rd
  · cases h
theorem m0_ok (hK : X.K = T.K) {x : Str} {t : String} {f : U} {ap pos : Pos} {a : Expr} {fa : E} (h : denM0 x = some (t, f)) (ha : PE X a (rdE T W fa)) (hb : attributeBase a x X.env (eval a X.env) = eval a X.env) (hl : (ap.endLine == pos.line) = true) :
    PE X (.Call (.Attribute a x ap) [] [] pos) (rdE T W (Mn.eM0 t f fa)) := by
  unfold denM0 at h
  split at h
  · rename_i e
    subst e
    cases h
    exact s_m0 PySem.F.plainAttrs_list PySem.F.slot_list_clear PySem.F.type_list_clear (.inl rfl) hK m_clr ha hb hl
  split at h
  · rename_i e
    subst e
    cases h
    exact s_m0 PySem.F.plainAttrs_list PySem.F.slot_list_pop PySem.F.type_list_pop (.inl rfl) hK m_pop ha hb hl
  · cases h
theorem m1_ok (hK : X.K = T.K) {x : Str} {t : String} {f : Op} {ap pos : Pos} {a b : Expr} {fa fb : E} (h : denM1 x = some (t, f)) (ha : PE X a (rdE T W fa)) (hb2 : PE X b (rdE T W fb)) (hb : attributeBase a x X.env (eval a X.env) = eval a X.env) (hl : (ap.endLine == pos.line) = true)
    (hs : ∀ es env, starEach (b :: es) env = (false, eval b env) :: starEach es env) : PE X (.Call (.Attribute a x ap) [b] [] pos) (rdE T W (Mn.eM1 t f fa fb)) := by
  unfold denM1 at h
  split at h
  · rename_i e
    subst e
    cases h
    exact s_m1 PySem.F.plainAttrs_list PySem.F.slot_list_append PySem.F.type_list_append (.inl rfl) hK m_app ha hb2 hb hl hs
  split at h
  · rename_i e
    subst e
    cases h
    exact s_m1 PySem.F.plainAttrs_list PySem.F.slot_list_extend PySem.F.type_list_extend (.inl rfl) hK m_ext ha hb2 hb hl hs
  split at h
  · rename_i e
    subst e
    cases h
    exact s_m1 PySem.F.plainAttrs_list PySem.F.slot_list_pop PySem.F.type_list_pop (.inl rfl) hK m_popAt ha hb2 hb hl hs
  · cases h
theorem m2_ok (hK : X.K = T.K) {x : Str} {t : String} {f : Mn.Tri} {ap pos : Pos} {a b c : Expr} {fa fb fc : E} (h : denM2 x = some (t, f)) (ha : PE X a (rdE T W fa)) (hb2 : PE X b (rdE T W fb)) (hc2 : PE X c (rdE T W fc)) (hb : attributeBase a x X.env (eval a X.env) = eval a X.env) (hl : (ap.endLine == pos.line) = true)
    (hs : ∀ es env, starEach (b :: es) env = (false, eval b env) :: starEach es env) (hs2 : ∀ es env, starEach (c :: es) env = (false, eval c env) :: starEach es env) : PE X (.Call (.Attribute a x ap) [b, c] [] pos) (rdE T W (Mn.eM2 t f fa fb fc)) := by
  unfold denM2 at h
  split at h
  · rename_i e
    subst e
    cases h
    exact s_m2 PySem.F.plainAttrs_list PySem.F.slot_list_insert PySem.F.type_list_insert (.inl rfl) hK m_ins ha hb2 hc2 hb hl hs hs2
  · cases h
theorem locOf_ok (ok : Cok X T W C) {x : Str} {i : Nat} (h : locOf C x = some i) : X.N[i]? = some x ∧ Loc X.env.scope x ∧ (X.fn x = true ∨ X.env.scope.names.lookup x = some .local) := by
  unfold locOf at h
  split at h
  · rename_i hc
    have q := ok.sto x (by simpa using hc)
    rw [ok.N]
    split at h
    · rename_i hk
      exact ⟨slot_get h, .inl (by rw [ok.nm]; exact hk), q⟩
    · rename_i hk
      exact ⟨slot_get h, .inr (by rw [ok.nm]; exact hk), q⟩
    · cases h
  · cases h
theorem denG_ok (ok : Cok X T W C) : ∀ (n : Nat) (e : Expr) (g : Tg) (ts : List Nat), denG C n e = some (g, ts) → PG X e (rdG T ts g) ∧ (∀ es env, (assignEach (e :: es) env) = (false, assign e env) :: assignEach es env)
  | 0, e, g, ts, h => by cases h
  | n + 1, e, g, ts, h => by
    unfold denG at h
    split at h
    · obtain ⟨i, hi, q⟩ := Option.map_eq_some_iff.mp h
      cases q
      obtain ⟨h1, h2, h3⟩ := locOf_ok ok hi
      exact ⟨g_name (pg_name (by rw [ok.N]; exact ok.nd) h1 h2 h3), fun _ _ => rfl⟩
    · rename_i es k p
      split at h
      case isFalse => cases h
      rename_i hcalm
      obtain ⟨l, hl, q⟩ := Option.map_eq_some_iff.mp h
      cases q
      have go : ∀ (es : List Expr) (l : List (Tg × List Nat)), Mn.mapO (denG C n) es = some l → PGs X es (rdGs T (l.flatMap (·.2)) (l.map (·.1))) ∧ es.length = l.length ∧ (assignEach es X.env).length = es.length ∧ (assignEach es X.env).findIdx? (·.1) = none := by
        intro es
        induction es with
        | nil =>
          intro l h
          cases h
          exact ⟨gs_nil, rfl, rfl, rfl⟩
        | cons e es ih =>
          intro l h
          unfold Mn.mapO at h
          split at h
          · rename_i t ht
            obtain ⟨l', h2, rfl⟩ := Option.map_eq_some_iff.mp h
            obtain ⟨g1, s1⟩ := denG_ok ok n e t.1 t.2 ht
            obtain ⟨g2, l2, a2, f2⟩ := ih l' h2
            refine ⟨?_, congrArg Nat.succ l2, ?_, ?_⟩
            · rw [List.flatMap_cons, List.map_cons]
              exact gs_cons g1 g2 (by rw [s1]; rfl)
            · rw [s1, List.length_cons, List.length_cons, a2]
            · rw [s1, List.findIdx?_cons]
              simp only [Bool.false_eq_true, if_false]
              rw [f2] <;> rfl
          · cases h
      obtain ⟨g1, l1, a1, f1⟩ := go es l hl
      exact ⟨g_tup ok.K (ok.calm hcalm) g1 (by rw [List.length_map]; exact l1) a1 f1, fun _ _ => rfl⟩
    · rename_i x p1 fnm p2
      split at h
      · rename_i f' cs fo hf ho
        cases h
        have e1 : Str.ofString f' = fnm := by simpa using List.find?_some hf
        subst e1
        exact ⟨g_fld (ok.fl _ _ (List.mem_of_find?_eq_some hf)) (name_ok ok ho), fun _ _ => rfl⟩
      · cases h
    · cases h
theorem noSet {n : Nat} {e : Expr} {f : E} (h : denE C n e = some f) (env : PySem.Env) (x : Value) : foldedSetIterable e env x = pure x := by
  cases e <;> first | rfl | (cases n <;> cases h)
theorem isTup_ok {e : Expr} (h : isTup e = true) : ∃ es k p, e = .Tuple es k p := by
  cases e <;> first | exact ⟨_, _, _, rfl⟩ | cases h
theorem denI_ok (ok : Cok X T W C) {n : Nat} (ih : ∀ e f, denE C n e = some f → PE X e (rdE T W f)) {e tg : Expr} {f : Src} (h : denI C (denE C n) tg e = some f) : PI X tg e (rdI T W f) ∧ (∀ x, foldedSetIterable e X.env x = pure x) := by
  have lst : ∀ e, (denE C n e).map Mn.iList = some f → PI X tg e (rdI T W f) ∧ (∀ x, foldedSetIterable e X.env x = pure x) := fun e h => by
    obtain ⟨g, hg, rfl⟩ := Option.map_eq_some_iff.mp h
    exact ⟨i_list ok.K (ih e g hg), noSet hg X.env⟩
  unfold denI at h
  split at h
  · split at h
    · rename_i hx
      obtain ⟨rfl, hb⟩ := hx
      obtain ⟨g, hg, rfl⟩ := Option.map_eq_some_iff.mp h
      obtain ⟨h1, h2⟩ := isB_ok ok hb
      exact ⟨i_range1 (pi_range1 h1 h2 (pa_cons (ih _ g hg) pa_nil (noStar hg _ _)) (by rw [noStar hg] <;> rfl)), fun _ => rfl⟩
    · split at h
      · rename_i hx
        obtain ⟨rfl, hb, htp⟩ := hx
        obtain ⟨es, k, p, rfl⟩ := isTup_ok htp
        obtain ⟨g, hg, rfl⟩ := Option.map_eq_some_iff.mp h
        obtain ⟨h1, h2⟩ := isB_ok ok hb
        exact ⟨i_enum ok.K h1 h2 (ih _ g hg) (noStar hg), fun _ => rfl⟩
      · split at h
        · rename_i hx
          obtain ⟨rfl, hb⟩ := hx
          obtain ⟨g, hg, rfl⟩ := Option.map_eq_some_iff.mp h
          obtain ⟨h1, h2⟩ := isB_ok ok hb
          exact ⟨i_rev ok.K h1 h2 (ih _ g hg) (noStar hg), fun _ => rfl⟩
        · exact lst _ h
  · split at h
    · rename_i hx
      obtain ⟨rfl, hb⟩ := hx
      split at h
      · rename_i ha hc
        cases h
        obtain ⟨h1, h2⟩ := isB_ok ok hb
        exact ⟨i_range2 (pi_range2 h1 h2 (pa_cons (ih _ _ ha) (pa_cons (ih _ _ hc) pa_nil (noStar hc _ _)) (noStar ha _ _)) (by rw [noStar ha, noStar hc] <;> rfl) (by rw [noStar hc] <;> rfl)), fun _ => rfl⟩
      · cases h
    · split at h
      · rename_i hx
        obtain ⟨rfl, hb, htp⟩ := hx
        obtain ⟨es, k, p, rfl⟩ := isTup_ok htp
        split at h
        · rename_i ha hc
          cases h
          obtain ⟨h1, h2⟩ := isB_ok ok hb
          exact ⟨i_zip ok.K h1 h2 (ih _ _ ha) (ih _ _ hc) (noStar ha) (noStar hc), fun _ => rfl⟩
        · cases h
      · exact lst _ h
  · split at h
    · rename_i hx
      obtain ⟨hx, rfl, htp⟩ := hx
      simp only [Bool.and_eq_true] at hx
      obtain ⟨es, k, p, rfl⟩ := isTup_ok htp
      obtain ⟨g, hg, rfl⟩ := Option.map_eq_some_iff.mp h
      exact ⟨i_items (ih _ g hg) (noAttr hx.1.2 _ _ _) hx.2, fun _ => rfl⟩
    · split at h
      · rename_i hx
        obtain ⟨hx, rfl⟩ := hx
        simp only [Bool.and_eq_true] at hx
        obtain ⟨g, hg, rfl⟩ := Option.map_eq_some_iff.mp h
        exact ⟨i_vals (ih _ g hg) (noAttr hx.1.2 _ _ _) hx.2, fun _ => rfl⟩
      · exact lst _ h
  · split at h
    · obtain ⟨g, hg, rfl⟩ := Option.map_eq_some_iff.mp h
      exact ⟨i_str (ih _ g hg), noSet hg X.env⟩
    · exact lst _ h
theorem blk_names (ok : Cok X T W C) {scope : Scope} : (relS scope X.env.scope).names = relN C.nm scope.names := by
  unfold relS relN
  rw [ok.kind, ok.nm]
  simp only [show ((ScopeKind.function == ScopeKind.function) = true) from rfl, Bool.and_true]
theorem blk_isOk (ok : Cok X T W C) {scope : Scope} (h : blkB C scope = true) : BlkOk X.N X.env.scope scope (ownOf C scope) := by
  have q := blkOk_by h
  rw [ok.N]
  exact ⟨q.kind, q.uniq, q.ix, fun y hy e => by rw [ok.nm]; exact q.free y hy e, q.own⟩
theorem blk_ok (ok : Cok X T W C) {scope : Scope} (h : blkB C scope = true) (s : Shared) (H : Hp) (A : Addr) (cl : List (Str × Addr)) (fp : List Addr) : Cok (X.blk s H scope (compEnvC scope cl A X.env) fp) T W0 (blkDc C scope) := by
  have q := blk_isOk ok h
  refine { K := ok.K, N := ok.N, nd := ok.nd, nm := blk_names ok, kind := q.kind, calm := ok.calm, stm := fun z => absurd z Bool.false_ne_true, tk := takes_none5, po := PassesOwn.never, un := ok.un, fn := ok.fn, con := ok.con, blt := ok.blt, ex := ok.ex, exc := ok.exc, xs := ok.xs, cl := ok.cl, mt := ok.mt, md := ok.md, fl := ok.fl, io := ok.io, sto := fun x hx => ?_ }
  obtain ⟨⟨y, k⟩, hy, rfl⟩ := List.mem_map.mp hx
  obtain ⟨_, h2⟩ := List.mem_filter.mp hy
  simp only [Bool.and_eq_true, decide_eq_true_eq] at h2
  rcases h2.2 with z | z
  · refine .inr ?_
    show (relS scope X.env.scope).names.lookup y = some .local
    rw [blk_names ok]
    exact z
  · refine .inl ?_
    show (scope.names.lookup y == some NameKind.cell) = true
    rw [z]
    rfl
theorem pts_yes {X : Cx} : PTs X [] (rdT T W0 (Mn.eC (.bl true))) := ⟨fun pins s σ H Q I ⟨R, ρ, M, e, S, p⟩ => pts_nil.run pins s σ H Q I (p R H (List.prefix_refl R) (Keep.refl H) S)⟩
structure Both (X : Cx) (T : Tb) (W : WX) (e : Expr) (f : E) : Prop where
  pe : PE X e (rdE T W f)
  pt : PT X e (rdT T W f)
  pw : ∀ op vs pos, e = .BoolOp op vs pos → PW X e (rdT T W f)
theorem Both.val {e : Expr} {f : E} (h : PE X e (rdE T W f)) (he : ∀ whole, isTrue e X.env whole = (do let v ← whole; standAt e.pos; holding [v] (truthy v))) (hn : ∀ op vs pos, e ≠ .BoolOp op vs pos := by intro _ _ _ z; cases z) : Both X T W e f :=
  ⟨h, t_val h he, fun op vs pos z => absurd z (hn op vs pos)⟩
theorem few_ok {n : Nat} {env : PySem.Env} {pos : Pos} {es : List Expr} {fs : List E} (h : Mn.mapO (denE C n) es = some fs) (hl : es.length < 20) :
    ((backTo pos (starEach es env)).all (fun x => !x.1) && (backToKw pos (keywordEach [] env)).all (fun x => x.1.isSome) && decide (es.length + ([] : List Keyword).length + (if ([] : List Keyword).isEmpty then 0 else 1) < 30)) = true := by
  have h1 : (backTo pos (starEach es env)).all (fun x => !x.1) = true := by
    have q := noStars (env := env) (pos := pos) h
    rw [List.all_eq_not_any_not]
    simpa using q
  rw [h1]
  have h2 : (backToKw pos (keywordEach [] env)).all (fun x => x.1.isSome) = true := rfl
  rw [h2]
  have h3 : es.length + ([] : List Keyword).length + (if ([] : List Keyword).isEmpty then 0 else 1) < 30 := by
    show es.length + 0 + 0 < 30
    omega
  rw [decide_eq_true h3]
  rfl
theorem isoE_ok (ok : Cok X T W C) {n : Nat} (ih : ∀ e f, denE C n e = some f → PE X e (rdE T W f)) {x : Str} {p : Pos} {es : List Expr} {pos : Pos} {f : E} (h : isoE C (denE C n) x es = some f) : Both X T W (.Call (.Name x p) es [] pos) f := by
  unfold isoE at h
  split at h
  · rename_i a y py
    split at h
    · rename_i hb
      obtain ⟨⟨rfl, hb1⟩, hb2, hb3⟩ := hb
      split at h
      · rename_i c fa hc ha
        cases h
        have e1 : Str.ofString c = y := by simpa using List.find?_some hc
        subst e1
        obtain ⟨fc, mg⟩ := ok.io c (List.mem_of_find?_eq_some hc)
        obtain ⟨hg, hm⟩ := isB_ok ok hb1
        have hv : bootBuiltins ("isinstance" : Str) = some (.builtin "isinstance") := by decide +kernel
        have pe : PE X (.Name (Str.ofString c) py) (tC (.ref (T.ca c))) := pe_glob (glo ok hb3) mg rfl (badName_no hb2).1
        have hs := noStar ha
        refine .val (PE.imp (pe_callB (call_isO fc) hg hm hv (pa_cons (ih _ _ ha) (pa_cons pe pa_nil rfl) (hs _ _)) (by decide +kernel) (by decide +kernel) (hs _ _) rfl) fun σ H Q h => ?_) fun _ => rfl
        exact rdE_mono (un_rd σ H Q h) fun x H1 q => ⟨x, _, rfl, .own _, q⟩
      · cases h
    · cases h
  · cases h
theorem newE_ok (ok : Cok X T W C) {n : Nat} (ih : ∀ e f, denE C n e = some f → PE X e (rdE T W f)) {e : Expr} {f : E} (h : newE C (denE C n) e = some f) : Both X T W e f := by
  unfold newE at h
  split at h
  · rename_i a fn p
    split at h
    · rename_i f' cs fa hb hf ha
      cases h
      have e1 : Str.ofString f' = fn := by simpa using List.find?_some hf
      subst e1
      exact .val (s_fld (ok.fl _ _ (List.mem_of_find?_eq_some hf)) (ih _ _ ha) (noAttr hb _ _ _)) fun _ => rfl
    · cases h
  · rename_i x p es pos
    split at h
    · cases h
    · rename_i hb
      have hb1 : ¬ badName x = true := fun z => hb (.inl z)
      have hb2 : C.nm.lookup x = some .globalImplicit := Decidable.not_not.mp fun z => hb (.inr z)
      split at h
      · rename_i c F np hc
        obtain ⟨fs, hs, rfl⟩ := Option.map_eq_some_iff.mp h
        obtain ⟨A, k, fa, fd, ps, hr, hm, M, hbd, ho⟩ := ok.cl _ _ _ _ hc
        have pa := args_ok ih _ _ hs
        cases es with
        | nil =>
          cases hs
          exact .val (s_make0 A M ho hr (glo ok hb2) hm hbd ok.tk (badName_no hb1).1) fun _ => rfl
        | cons e es =>
          have hs' := hs
          unfold Mn.mapO at hs
          split at hs
          · rename_i f1 hf1
            obtain ⟨gs, hg, _⟩ := Option.map_eq_some_iff.mp hs
            exact .val (s_make A M ho hr (glo ok hb2) hm hbd ok.tk pa (badName_no hb1).1 (noStar hf1 _ _) (noStars hg)) fun _ => rfl
          · cases hs
      · exact isoE_ok ok ih h
  · rename_i o m ap es pos
    split at h
    · rename_i m' tb hq hm
      simp only [Bool.and_eq_true, decide_eq_true_eq] at hq
      split at h
      · rename_i fo fs ho hs
        cases h
        have e1 : Str.ofString m' = m := by simpa using List.find?_some hm
        subst e1
        have mt := ok.mt _ _ (List.mem_of_find?_eq_some hm)
        have pa := args_ok ih _ _ hs
        have fw := few_ok (env := X.env) (pos := pos) hs hq.1.2
        cases es with
        | nil =>
          cases hs
          exact .val (s_meth0 mt ok.tk (ih _ _ ho) (noAttr hq.2 _ _ _) hq.1.1 fw) fun _ => rfl
        | cons e es =>
          have hs' := hs
          unfold Mn.mapO at hs
          split at hs
          · rename_i f1 hf1
            obtain ⟨gs, hg, _⟩ := Option.map_eq_some_iff.mp hs
            exact .val (s_meth mt ok.tk (ih _ _ ho) pa (noAttr hq.2 _ _ _) hq.1.1 fw (noStar hf1 _ _) (noStars hg)) fun _ => rfl
          · cases hs
      · cases h
    · cases h
  · cases h
theorem wrap_ok {e it : Expr} {f : E} (h : PE X e (rdE T W f)) : PE X e (rdE T W (wrapE C it f)) := by
  unfold wrapE
  split
  · exact e_lock h
  · exact h
theorem wrapS_ok {st : Stmt} {it : Expr} {f : Mn.St} (h : PS X st (rdS T W f)) : PS X st (rdS T W (wrapS C it f)) := by
  unfold wrapS
  split
  · exact s_lock h
  · exact h
theorem m1_of {n : Nat} {o k : Expr} {m : Str} {ap pos : Pos} {fk : E} (hk : denE C n k = some fk) (hb : base0 o = true) (hl : (ap.endLine == pos.line) = true) : M1 X o m ap k pos :=
  ⟨noAttr hb _ _ _, few_ok (C := C) (n := n) (fs := [fk]) (by simp only [Mn.mapO, hk]; rfl) (show 1 < 20 by decide), hl, by rw [noStar hk]; rfl⟩
theorem dicE0_ok (ok : Cok X T W C) {n : Nat} (ih : ∀ e f, denE C n e = some f → PE X e (rdE T W f)) {e : Expr} {f : E} (h : dicE0 C (denE C n) e = some f) : Both X T W e f := by
  have hu : X.A.units + 1 < cLine := Nat.lt_of_le_of_lt (by omega) ok.un
  unfold dicE0 at h
  split at h
  · split at h
    · split at h
      · rename_i h1 h2
        cases h
        exact .val (s_dget hu (ih _ _ h1) (ih _ _ h2) (noSlice h2)) fun _ => rfl
      · cases h
    · cases h
  · split at h
    · split at h
      · rename_i h1 h2
        cases h
        have c := pc_in (T := T) (W := W) hu (ih _ _ h1) (ih _ _ h2)
        exact ⟨pe_cmp c (noMark h2 _), PT.imp (pt_cmp c (noMark h2 _)) fun σ H Q h => test_rd σ H Q h, fun _ _ _ z => by cases z⟩
      · cases h
    · cases h
  · split at h
    · split at h
      · rename_i h1 h2
        cases h
        have c := pc_notin (T := T) (W := W) hu (ih _ _ h1) (ih _ _ h2)
        exact ⟨pe_cmp c (noMark h2 _), PT.imp (pt_cmp c (noMark h2 _)) fun σ H Q h => test_rd σ H Q h, fun _ _ _ z => by cases z⟩
      · cases h
    · cases h
  · split at h
    · rename_i hx
      obtain ⟨hg, hm⟩ := isB_ok ok hx.2
      split at h
      · rename_i fa h1
        have pa := pa_cons (ih _ _ h1) pa_nil (noStar h1 [] X.env)
        split at h
        · rename_i e
          subst e
          cases h
          exact .val (PE.imp (pe_callB b_dlen hg hm (by decide +kernel) pa (by decide +kernel) (by decide +kernel) (noStar h1 [] X.env) rfl) b_rd) fun _ => rfl
        · split at h
          · rename_i e
            subst e
            cases h
            exact .val (PE.imp (pe_callTy b_dcopy hg hm (by decide +kernel) pa (by decide +kernel) (by decide +kernel) (noStar h1 [] X.env) rfl) b_rd) fun _ => rfl
          · split at h
            · rename_i e
              obtain ⟨rfl, hc⟩ := e
              cases h
              exact .val (PE.imp (pe_callTy (b_dkeys (ok.calm hc)) hg hm (by decide +kernel) pa (by decide +kernel) (by decide +kernel) (noStar h1 [] X.env) rfl) b_rd) fun _ => rfl
            · cases h
      · cases h
    · cases h
  · split at h
    · rename_i hx
      obtain ⟨_, hx⟩ := hx
      rw [Bool.and_eq_true] at hx
      split at h
      · rename_i h1 h2
        split at h
        · rename_i e
          subst e
          cases h
          exact .val (s_dpop (ih _ _ h1) (ih _ _ h2) (m1_of h2 hx.2 hx.1)) fun _ => rfl
        · split at h
          · rename_i e
            subst e
            cases h
            exact .val (s_dget1 hu (ih _ _ h1) (ih _ _ h2) (m1_of h2 hx.2 hx.1)) fun _ => rfl
          · cases h
      · cases h
    · cases h
  · cases h
theorem txE_ok (ok : Cok X T W C) {n : Nat} (ih : ∀ e f, denE C n e = some f → PE X e (rdE T W f)) {e : Expr} {f : E} (h : txE C (denE C n) e = some f) : Both X T W e f := by
  unfold txE at h
  split at h
  · split at h
    · split at h
      · rename_i h1 h2
        cases h
        exact .val (s_ixS (ih _ _ h1) (ih _ _ h2) (noSlice h2)) fun _ => rfl
      · cases h
    · cases h
  · split at h
    · split at h
      · rename_i h1 h2
        cases h
        exact ⟨s_cmp o_inS (ih _ _ h1) (ih _ _ h2) (noMark h2 _), t_cmp o_inS (ih _ _ h1) (ih _ _ h2) (noMark h2 _), fun _ _ _ z => by cases z⟩
      · cases h
    · cases h
  · split at h
    · split at h
      · rename_i h1 h2
        cases h
        exact ⟨s_cmp o_notInS (ih _ _ h1) (ih _ _ h2) (noMark h2 _), t_cmp o_notInS (ih _ _ h1) (ih _ _ h2) (noMark h2 _), fun _ _ _ z => by cases z⟩
      · cases h
    · cases h
  · split at h
    · rename_i hx
      obtain ⟨hg, hm⟩ := isB_ok ok hx
      split at h
      · rename_i fa h1
        have pa := pa_cons (ih _ _ h1) pa_nil (noStar h1 [] X.env)
        split at h
        · rename_i e
          subst e
          cases h
          exact .val (PE.imp (pe_callTy b_str hg hm (by decide +kernel) pa (by decide +kernel) (by decide +kernel) (noStar h1 [] X.env) rfl) b_rd) fun _ => rfl
        · split at h
          · rename_i e
            obtain ⟨e, _⟩ := e
            subst e
            cases h
            exact .val (PE.imp (pe_callTy b_intS hg hm (by decide +kernel) pa (by decide +kernel) (by decide +kernel) (noStar h1 [] X.env) rfl) b_rd) fun _ => rfl
          · cases h
      · cases h
    · cases h
  · split at h
    · rename_i hx
      rw [Bool.and_eq_true] at hx
      split at h
      · rename_i h1 h2
        have hb := fun (m : Str) => noAttr hx.2 m X.env
        have hl := hx.1
        split at h
        · rename_i e
          subst e
          cases h
          exact .val (s_m1 PySem.F.plainAttrs_str PySem.F.slot_str_startswith PySem.F.type_str_startswith (.inr rfl) ok.K m_starts (ih _ _ h1) (ih _ _ h2) (hb _ _) hl (noStar h2)) fun _ => rfl
        · split at h
          · rename_i e
            subst e
            cases h
            exact .val (s_m1 PySem.F.plainAttrs_str PySem.F.slot_str_partition PySem.F.type_str_partition (.inr rfl) ok.K m_part (ih _ _ h1) (ih _ _ h2) (hb _ _) hl (noStar h2)) fun _ => rfl
          · split at h
            · rename_i e
              subst e
              cases h
              exact .val (s_m1 PySem.F.plainAttrs_str PySem.F.slot_str_split PySem.F.type_str_split (.inr rfl) ok.K m_split (ih _ _ h1) (ih _ _ h2) (hb _ _) hl (noStar h2)) fun _ => rfl
            · split at h
              · rename_i e
                subst e
                cases h
                exact .val (s_m1 PySem.F.plainAttrs_str PySem.F.slot_str_join PySem.F.type_str_join (.inr rfl) ok.K (m_join ok.K) (ih _ _ h1) (ih _ _ h2) (hb _ _) hl (noStar h2)) fun _ => rfl
              · cases h
      · cases h
    · cases h
  · cases h
theorem dicE_ok (ok : Cok X T W C) {n : Nat} (ih : ∀ e f, denE C n e = some f → PE X e (rdE T W f)) {e : Expr} {f : E} (h : dicE C (denE C n) e = some f) : Both X T W e f := by
  unfold dicE at h
  split at h
  · rename_i f' ht
    cases h
    exact txE_ok ok ih ht
  · exact dicE0_ok ok ih h
theorem mdE_ok (ok : Cok X T W C) {n : Nat} (ih : ∀ e f, denE C n e = some f → PE X e (rdE T W f)) {e : Expr} {f : E} (h : mdE C (denE C n) e = some f) : Both X T W e f := by
  unfold mdE at h
  split at h
  · rename_i o m ap a es pos
    split at h
    · rename_i m' tb hq hm
      simp only [Bool.and_eq_true, decide_eq_true_eq] at hq
      split at h
      · rename_i hd
        split at h
        · rename_i fo fs ho hs
          cases h
          have e1 : Str.ofString m' = m := by simpa using List.find?_some hm
          subst e1
          have mt := ok.md _ _ (List.mem_of_find?_eq_some hm) (by simpa using hd.1)
          have pa := args_ok ih _ _ hs
          have fw := few_ok (env := X.env) (pos := pos) hs hq.1.2
          have hs' := hs
          unfold Mn.mapO at hs
          split at hs
          · rename_i f1 hf1
            obtain ⟨gs, hg, _⟩ := Option.map_eq_some_iff.mp hs
            exact .val (s_methD mt ok.tk (ih _ _ ho) pa (noAttr hq.2 _ _ _) hq.1.1 fw (noStar hf1 _ _) (noStars hg)) fun _ => rfl
          · cases hs
        · cases h
      · cases h
    · cases h
  · cases h
theorem dicE_lc (C : Dc) (den : Expr → Option E) (elt : Expr) (gs : List Comprehension) (scope : Scope) (pos : Pos) : dicE C den (.ListComp elt gs scope pos) = none := rfl
theorem mdE_lc (C : Dc) (den : Expr → Option E) (elt : Expr) (gs : List Comprehension) (scope : Scope) (pos : Pos) : mdE C den (.ListComp elt gs scope pos) = none := rfl
theorem newE_lc (C : Dc) (den : Expr → Option E) (elt : Expr) (gs : List Comprehension) (scope : Scope) (pos : Pos) : newE C den (.ListComp elt gs scope pos) = none := rfl
theorem denE_ok : ∀ (n : Nat) (X : Cx) (W : WX) (C : Dc), Cok X T W C → ∀ e f, denE C n e = some f → Both X T W e f
  | 0, _, _, _, _, e, f, h => by cases h
  | n + 1, X, W, C, ok, e, f, h => by
    have ih : ∀ e f, denE C n e = some f → Both X T W e f := denE_ok n X W C ok
    unfold denE at h
    split at h
    · rename_i f' hn
      cases h
      exact dicE_ok ok (fun e f h => (ih e f h).pe) hn
    rename_i hnone
    clear hnone
    split at h
    · rename_i f' hn
      cases h
      exact mdE_ok ok (fun e f h => (ih e f h).pe) hn
    rename_i hnone
    clear hnone
    split at h
    · rename_i f' hn
      cases h
      exact newE_ok ok (fun e f h => (ih e f h).pe) hn
    rename_i hnone
    clear hnone
    split at h
    · cases h
      exact .val (s_con pe_int fun _ _ => .int _) fun _ => rfl
    · cases h
      exact .val (s_con pe_bl fun _ _ => .bl _) fun _ => rfl
    · rename_i s k p
      cases h
      refine .val (s_con pe_str fun R H => ?_) fun _ => rfl
      have q := Rel.str (T := T) (R := R) (H := H) s.cps.toList
      rw [sOf_codes] at q
      exact q
    · cases h
      exact .val (s_con pe_non fun _ _ => .non) fun _ => rfl
    · exact .val (name_ok ok h) fun _ => rfl
    · split at h
      · rename_i h1 h2 h3
        cases h
        exact .val (s_bin (opB_ok ok h1) (ih _ _ h2).pe (ih _ _ h3).pe) fun _ => rfl
      · cases h
    · obtain ⟨fa, ha, rfl⟩ := Option.map_eq_some_iff.mp h
      exact .val (s_un o_neg (ih _ _ ha).pe) fun _ => rfl
    · obtain ⟨fa, ha, rfl⟩ := Option.map_eq_some_iff.mp h
      exact ⟨s_not (ih _ _ ha).pe, t_not (ih _ _ ha).pt, fun _ _ _ z => by cases z⟩
    · exact ⟨pe_one (ih _ _ h).pe, (pw_and1 (ih _ _ h).pt).pt, fun _ _ _ _ => pw_and1 (ih _ _ h).pt⟩
    · split at h
      · rename_i h1 h2
        cases h
        have w := w_and (ih _ _ h1).pt ((ih _ _ h2).pw _ _ _ rfl)
        exact ⟨s_and (ih _ _ h1).pe (ih _ _ h2).pe, w.pt, fun _ _ _ _ => w⟩
      · cases h
    · rename_i s _ _ _
      obtain ⟨fa, ha, rfl⟩ := Option.map_eq_some_iff.mp h
      have hb : ∀ (k : Nat) (p : Pos), Both X T W (.Constant (.str s) k p) (Mn.eC (.str s.cps.toList)) := fun k p => by
        refine .val (s_con pe_str fun R H => ?_) fun _ => rfl
        have q := Rel.str (T := T) (R := R) (H := H) s.cps.toList
        rw [sOf_codes] at q
        exact q
      exact ⟨s_orS ok.K (ih _ _ ha).pe (pe_one (hb _ _).pe), (w_orS (ih _ _ ha).pt (pw_or1 (hb _ _).pt)).pt, fun _ _ _ _ => w_orS (ih _ _ ha).pt (pw_or1 (hb _ _).pt)⟩
    · exact ⟨pe_one (ih _ _ h).pe, (pw_or1 (ih _ _ h).pt).pt, fun _ _ _ _ => pw_or1 (ih _ _ h).pt⟩
    · split at h
      · rename_i h1 h2
        cases h
        have w := w_or (ih _ _ h1).pt ((ih _ _ h2).pw _ _ _ rfl)
        exact ⟨s_or (ih _ _ h1).pe (ih _ _ h2).pe, w.pt, fun _ _ _ _ => w⟩
      · cases h
    · split at h
      · rename_i h1 h2 h3
        cases h
        have o1 := opC_ok ok h1
        exact ⟨s_cmp o1 (ih _ _ h2).pe (ih _ _ h3).pe (noMark h3 _), t_cmp o1 (ih _ _ h2).pe (ih _ _ h3).pe (noMark h3 _), fun _ _ _ z => by cases z⟩
      · cases h
    · split at h
      · rename_i h1 h2 h3 h4 h5
        cases h
        have o1 := opC_ok ok h1
        have o4 := opC_ok ok h2
        exact ⟨PE.imp (pe_chain o1 o4 (ih _ _ h3).pe (ih _ _ h4).pe (ih _ _ h5).pe (noMarks h5 _ _ _)) chain_rd,
          PT.imp (pt_chain o1 o4 (ih _ _ h3).pe (ih _ _ h4).pe (ih _ _ h5).pe (noMarks h5 _ _ _)) fun σ H Q h => chain_rd σ H _ (test_rd σ H Q h), fun _ _ _ z => by cases z⟩
      · cases h
    · cases h
      exact .val s_dic fun _ => rfl
    · obtain ⟨fs, hs, rfl⟩ := Option.map_eq_some_iff.mp h
      exact .val (s_tup (args_ok (fun e f h => (ih e f h).pe) _ _ hs)) fun _ => rfl
    · obtain ⟨fs, hs, rfl⟩ := Option.map_eq_some_iff.mp h
      exact .val (s_lst (args_ok (fun e f h => (ih e f h).pe) _ _ hs)) fun _ => rfl
    · obtain ⟨fa, ha, rfl⟩ := Option.map_eq_some_iff.mp h
      exact .val (lrevs_ok ok.K (ih _ _ ha).pe) fun _ => rfl
    · obtain ⟨fa, ha, rfl⟩ := Option.map_eq_some_iff.mp h
      exact .val (s_sl ok.K (ih _ _ ha).pe p_none p_none) fun _ => rfl
    · split at h
      · rename_i h1 h2
        cases h
        exact .val (s_sl ok.K (ih _ _ h1).pe (p_some (ih _ _ h2).pe) p_none) fun _ => rfl
      · cases h
    · split at h
      · rename_i h1 h2
        cases h
        exact .val (s_sl ok.K (ih _ _ h1).pe p_none (p_some (ih _ _ h2).pe)) fun _ => rfl
      · cases h
    · split at h
      · rename_i h1 h2 h3
        cases h
        exact .val (s_sl ok.K (ih _ _ h1).pe (p_some (ih _ _ h2).pe) (p_some (ih _ _ h3).pe)) fun _ => rfl
      · cases h
    · split at h
      · rename_i h1 h2
        cases h
        exact .val (s_ix ok.K (ih _ _ h1).pe (ih _ _ h2).pe (noSlice h2)) fun _ => rfl
      · cases h
    · split at h
      · rename_i hx
        split at h
        · rename_i h1 h2
          cases h
          obtain ⟨rfl, hb⟩ := hx
          exact .val (isi_ok ok hb (ih _ _ h1).pe (noStar h1) h2) fun _ => rfl
        · cases h
      · split at h
        · cases h
        · rename_i hb
          split at h
          · rename_i h1 h2 h3
            split at h
            · rename_i hd
              cases h
              exact .val (calleeD_ok (fs := [_, _]) ok hb h1 hd.2 (args_ok (fun e f h => (ih e f h).pe) _ _ (by simp only [Mn.mapO, h2, h3]; rfl)) (noStar h2 _ _) (noStars (fs := [_]) (n := n) (C := C) (by simp only [Mn.mapO, h3]; rfl))) fun _ => rfl
            · cases h
              exact .val (callee_ok ok hb h1 (args_ok (fun e f h => (ih e f h).pe) _ _ (by simp only [Mn.mapO, h2, h3]; rfl)) (noStar h2 _ _) (noStars (fs := [_]) (n := n) (C := C) (by simp only [Mn.mapO, h3]; rfl))) fun _ => rfl
          · rename_i h1 h2 h3
            obtain ⟨o, ho, rfl⟩ := Option.map_eq_some_iff.mp h
            exact .val (blt2_ok ok ho (ih _ _ h2).pe (ih _ _ h3).pe (noStar h2) (noStar h3)) fun _ => rfl
          · cases h
    · split at h
      · cases h
      · rename_i hb
        split at h
        · rename_i h1 h2 h3 h4
          split at h
          · rename_i hd
            cases h
            obtain ⟨rfl, hd2, hd3⟩ := hd
            exact .val (calleeW_ok ok hb h1 hd2 hd3 (args_ok (fun e f h => (ih e f h).pe) _ _ (by simp only [Mn.mapO, h2, h3]; rfl)) (ih _ _ h4).pe (noStar h2 _ _) (by rw [noStar h2, noStar h3]; rfl)) fun _ => rfl
          · cases h
        · cases h
    · split at h
      · rename_i hr
        obtain ⟨rfl, b1, b2, hcm, rfl, p2, pos2, rfl⟩ := revArg_some C hr
        obtain ⟨fa, ha, rfl⟩ := Option.map_eq_some_iff.mp h
        obtain ⟨g1, g2⟩ := isB_ok ok b1
        obtain ⟨g3, g4⟩ := isB_ok ok b2
        exact .val (lrev_ok ok.K (ok.calm hcm) g1 g2 g3 g4 (ih _ _ ha).pe (noStar ha _ _)) fun _ => rfl
      · split at h
        · rename_i hr
          obtain ⟨rfl, b1, b2, hcm, rfl, p2, pos2, rfl⟩ := rngArg_some C hr
          obtain ⟨fa, ha, rfl⟩ := Option.map_eq_some_iff.mp h
          obtain ⟨g1, g2⟩ := isB_ok ok b1
          obtain ⟨g3, g4⟩ := isB_ok ok b2
          exact .val (lrng_ok (ok.calm hcm) g1 g2 g3 g4 (ih _ _ ha).pe (noStar ha _ _)) fun _ => rfl
        · split at h
          · cases h
          · rename_i hb
            split at h
            · rename_i h1
              obtain ⟨fs, hs, rfl⟩ := Option.map_eq_some_iff.mp h
              have hs' := hs
              unfold Mn.mapO at hs
              split at hs
              · rename_i f1 hf1
                obtain ⟨gs, hg, _⟩ := Option.map_eq_some_iff.mp hs
                exact .val (callee_ok ok hb h1 (args_ok (fun e f h => (ih e f h).pe) _ _ hs') (noStar hf1 _ _) (noStars hg)) fun _ => rfl
              · cases hs
            · split at h
              · rename_i h0 h1 h2 h3 h4
                cases h
                first
                  | exact .val (blt1_ok ok h0 (ih _ _ h1).pe (noStar h1)) fun _ => rfl
                  | exact .val (blt1_ok ok h1 (ih _ _ h2).pe (noStar h2)) fun _ => rfl
                  | exact .val (blt1_ok ok h2 (ih _ _ h3).pe (noStar h3)) fun _ => rfl
                  | exact .val (blt1_ok ok h3 (ih _ _ h4).pe (noStar h4)) fun _ => rfl
                  | exact .val (blt1_ok ok h0 (ih _ _ h2).pe (noStar h2)) fun _ => rfl
                  | exact .val (blt1_ok ok h1 (ih _ _ h3).pe (noStar h3)) fun _ => rfl
                  | exact .val (blt1_ok ok h2 (ih _ _ h4).pe (noStar h4)) fun _ => rfl
                  | exact .val (blt1_ok ok h0 (ih _ _ h3).pe (noStar h3)) fun _ => rfl
                  | exact .val (blt1_ok ok h1 (ih _ _ h4).pe (noStar h4)) fun _ => rfl
              · cases h
    · split at h
      · rename_i hl hm ho
        cases h
        rw [Bool.and_eq_true] at hl
        exact .val (m0_ok ok.K hm (ih _ _ ho).pe (noAttr hl.2 _ _ _) hl.1) fun _ => rfl
      · cases h
    · split at h
      · rename_i hl hm ho ha
        cases h
        rw [Bool.and_eq_true] at hl
        exact .val (m1_ok ok.K hm (ih _ _ ho).pe (ih _ _ ha).pe (noAttr hl.2 _ _ _) hl.1 (noStar ha)) fun _ => rfl
      · cases h
    · split at h
      · rename_i hl hm ho ha hb
        cases h
        rw [Bool.and_eq_true] at hl
        exact .val (m2_ok ok.K hm (ih _ _ ho).pe (ih _ _ ha).pe (ih _ _ hb).pe (noAttr hl.2 _ _ _) hl.1 (noStar ha) (noStar hb)) fun _ => rfl
      · cases h
    · split at h
      · rename_i hc
        split at h
        · rename_i hi hg he
          split at h
          · rename_i hts
            cases h
            obtain ⟨i1, i2⟩ := denI_ok ok (fun e f h => (ih e f h).pe) hi
            refine .val (wrap_ok (PE.imp (pe_lc (ok.calm hc.1) (by rw [ok.N]; exact ok.nd) i1 (blk_isOk ok hc.2) (fun s H A cl fp => (denG_ok (blk_ok ok hc.2 s H A cl fp) 20 _ _ _ hg).1) (fun _ _ _ _ _ => pts_yes (T := T)) (fun s H A cl fp => (denE_ok n _ _ _ (blk_ok ok hc.2 s H A cl fp) _ _ he).pe) i2) fun σ H Q q => ?_)) fun _ => rfl
            exact lc_rd (fun j hj => by have := List.all_eq_true.mp hts j hj; simpa using this) σ H Q q
          · cases h
        · cases h
      · cases h
    · split at h
      · rename_i hc
        split at h
        · rename_i hi hg hcc he
          split at h
          · rename_i hts
            cases h
            obtain ⟨i1, i2⟩ := denI_ok ok (fun e f h => (ih e f h).pe) hi
            refine .val (wrap_ok (PE.imp (pe_lc (ok.calm hc.1) (by rw [ok.N]; exact ok.nd) i1 (blk_isOk ok hc.2) (fun s H A cl fp => (denG_ok (blk_ok ok hc.2 s H A cl fp) 20 _ _ _ hg).1) (fun s H A cl fp => pts_one (denE_ok n _ _ _ (blk_ok ok hc.2 s H A cl fp) _ _ hcc).pt) (fun s H A cl fp => (denE_ok n _ _ _ (blk_ok ok hc.2 s H A cl fp) _ _ he).pe) i2) fun σ H Q q => ?_)) fun _ => rfl
            exact lc_rd (fun j hj => by have := List.all_eq_true.mp hts j hj; simpa using this) σ H Q q
          · cases h
        · cases h
      · cases h
    · cases h
end
end MnS
end
section
set_option Elab.async false
set_option autoImplicit false
set_option linter.all false
set_option maxRecDepth 100000
set_option maxHeartbeats 4000000
namespace MnS
open PySem PySem.Spec PyProof.Rows L2
open Mn (Val Cell Store E Fn Op U Itr Src Tg)
section
variable (C : Dc)
def parOf (x : Str) (px : Pos) (y : Str) (py : Pos) (a b : Expr) : Option (Nat × Nat) := if x ≠ y ∧ C.nm.lookup x = some .local ∧ C.nm.lookup y = some .local ∧ px.line = py.line ∧ [a, b].all (foldedForSure 8) = false ∧ [a, b].all (constantsAlone 8) = false then
      (match slotOf C x, slotOf C y with
        | some i, some j => if i = j then none else some (i, j)
        | _, _ => none) else none
def isComp : Expr → Bool
  | .ListComp .. => true
  | .SetComp .. => true
  | .DictComp .. => true
  | _ => false
def isAllSl : Expr → Bool
  | .Slice none none none _ => true
  | _ => false
theorem allSl_eq {i : Expr} (h : isAllSl i = true) : ∃ p, i = .Slice none none none p := by
  unfold isAllSl at h
  split at h
  · exact ⟨_, rfl⟩
  · cases h
def isSl : Expr → Bool
  | .Slice .. => true
  | _ => false
def denX (e : Expr) : Option String := match e with
  | .Name x _ => if badName x = true ∨ C.nm.lookup x ≠ some .globalImplicit then none else C.exc.find? fun t => decide (Str.ofString t = x)
  | _ => none
def denXs (e : Expr) : Option (Bool × List String) := match e with
  | .Tuple es _ _ => if es.length ≤ 20 then (Mn.mapO (denX C) es).map fun l => (true, l) else none
  | e => (denX C e).map fun t => (false, [t])
def denHn (n : Option Str) : Option (Option Nat) := match n with
  | none => some none
  | some x => if C.nm.lookup x = some .local then (slotOf C x).map some else none
def sufDc : Dc := { C with calm := false, stm := false, fn := [], dn := [], cl := [], mt := [], md := [] }
def tryDc : Dc := C
end
def augO : Operator → Option Op
  | .Add => some Mn.oIAdd
  | .Sub => some Mn.oISub
  | _ => none
def visOf (C : Dc) (x : Str) : Option Nat := if badName x = true then none else match C.nm.lookup x with
  | some .local => slotOf C x
  | some .cell => slotOf C x
  | _ => none
def denHs (den : List Stmt → Option Mn.St) (C : Dc) : List ExceptHandler → Option (List Mn.Hd)
  | [] => some []
  | .ExceptHandler (some t) n (b :: bs) _ :: r => match denXs C t, denHn C n, den (b :: bs), denHs den C r with
    | some (tp, cs), some o, some st, some l => some (⟨tp, cs, o, st⟩ :: l)
    | _, _, _, _ => none
  | _ => none
mutual
def denS : Dc → Nat → Stmt → Option Mn.St
  | _, 0, _ => none
  | C, n + 1, st => match st with
    | .Pass _ => some Mn.sPass
    | .Continue _ => some Mn.sCt
    | .Break _ => some Mn.sBk
    | .Expr e _ => if isComp e = true then none else (denE C n e).map Mn.sDrop
    | .Return (some e) _ => (denE C n e).map Mn.sRet
    | .If c a b _ => match denE C n c, denSs C n a, denSs C n b with
      | some fc, some fa, some fb => some (Mn.sIf fc fa fb)
      | _, _, _ => none
    | .While c b [] _ => match denE C n c, denSs C n b with
      | some fc, some fb => some (Mn.sWhile fc fb)
      | _, _ => none
    | .For t i b [] _ => match C.calm, denG C n t, denI C (denE C n) t i, denSs C n b with
      | true, some (g, _), some fi, some fb => some (wrapS C i (Mn.sFor fi g fb))
      | _, _, _, _ => none
    | .Assign [.Tuple [.Name x px, .Name y py] k p] (.Tuple [a, b] k2 p2) _ => match C.calm, parOf C x px y py a b, denE C n a, denE C n b with
      | true, some (i, j), some fa, some fb => some (Mn.sPar i j fa fb)
      | _, _, _, _ => none
    | .Assign [.Tuple ts k p] e _ => match isTup e, denG C n (.Tuple ts k p), denE C n e with
      | false, some (g, _), some f => some (Mn.sAsg g f)
      | _, _, _ => none
    | .Assign [.Subscript o i p] e _ => match isAllSl i with
      | true => match denE C n o, denE C n e with
        | some fo, some f => some (Mn.sAsg (Mn.tSlAll fo) f)
        | _, _ => none
      | false => match isSl i, denE C n o, denE C n i, denE C n e with
        | false, some fo, some fi, some f => some (Mn.sAsg (if isDic C o = true then Mn.tSubK fo fi else Mn.tSub fo fi) f)
        | _, _, _, _ => none
    | .AugAssign (.Attribute (.Name x px) f p) op e _ => match augO op, flOf C f, visOf C x, denE C n e with
      | some o, some (f', [c]), some i, some fe => some (Mn.sAugF [c] f' i o fe)
      | _, _, _, _ => none
    | .Assign [.Attribute o f p] e _ => match flOf C f, denE C n o, denE C n e with
      | some (f', cs), some fo, some fe => some (Mn.sAsg (Mn.tFld cs f' fo) fe)
      | _, _, _ => none
    | .Raise (some (.Call (.Name x _) [.Constant (.str _) _ _] [] _)) none _ => if C.calm = false ∨ badName x = true ∨ C.nm.lookup x ≠ some .globalImplicit then none else (C.exc.find? fun t => decide (Str.ofString t = x)).map Mn.sRaise
    | .Assign [.Name x p] e _ => match locOf C x, denE C n e with
      | some i, some f => some (Mn.sAsg (Mn.tName i) f)
      | _, _ => none
    | .Try b (h :: hs) els [] _ => match C.stm, denSs (tryDc C) n b, denHs (denSs (sufDc C) n) C (h :: hs), denSs C n els with
      | true, some fb, some l, some fe => some (Mn.sTry fb l fe)
      | _, _, _, _ => none
    | _ => none
def denSs : Dc → Nat → List Stmt → Option Mn.St
  | _, 0, _ => none
  | C, n + 1, l => match l with
    | [] => some Mn.sPass
    | [s] => denS C n s
    | s :: r => match denS C n s, denSs C n r with
      | some a, some b => some (Mn.sSeq a b)
      | _, _ => none
end
section
variable {X : Cx} {T : Tb} {W : WX} {C : Dc}
theorem swaps_no {e : Expr} (h : ¬ isComp e = true) (t : Option Expr) (l : Nat) (env : PySem.Env) : swapsWith e t l env = pure false := by
  cases e <;> first | rfl | (exact absurd rfl h)
def isStar : Expr → Bool
  | .Starred .. => true
  | _ => false
theorem par_ok (ok : Cok X T W C) (hcalm : C.calm = true) {x y : Str} {px py : Pos} {a b : Expr} {i j : Nat} {k k2 : Nat} {p p2 pos : Pos} {fa fb : E} (h : parOf C x px y py a b = some (i, j)) (ha : PA X [a, b] (rdA T W [fa, fb]))
    (na : isStar a = false) (nb : isStar b = false) :
    PS X (.Assign [.Tuple [.Name x px, .Name y py] k p] (.Tuple [a, b] k2 p2) pos) (rdS T W (Mn.sPar i j fa fb)) := by
  unfold parOf at h
  split at h
  · rename_i hc
    obtain ⟨hxy, hx, hy, hl, hf, hk⟩ := hc
    split at h
    · rename_i i' j' hi hj
      split at h
      · cases h
      · rename_i hij
        cases h
        have kx : X.env.kindOf x = some .local := by
          show X.env.scope.names.lookup x = _
          rw [ok.nm]
          exact hx
        have ky : X.env.kindOf y = some .local := by
          show X.env.scope.names.lookup y = _
          rw [ok.nm]
          exact hy
        refine s_par (ps_par (ok.calm hcalm) (by rw [ok.N]; exact ok.nd) (by rw [ok.N]; exact slot_get hi) (by rw [ok.N]; exact slot_get hj) hij kx ky ha ?_ rfl)
        have hb : X.env.blockKind = .function := by
          unfold Env.blockKind
          rw [ok.kind]
          rfl
        have yx : (y == x) = false := beq_eq_false_iff_ne.mpr (Ne.symm hxy)
        have ed : [x, y].eraseDups = [x, y] := by
          simp [List.eraseDups, List.eraseDupsBy, List.eraseDupsBy.loop, yx]
        have ha2 : ([a, b].any fun | .Starred .. => true | _ => false) = false := by
          have e1 : ∀ e : Expr, isStar e = false → (match e with | .Starred .. => true | _ => false) = false := fun e h => by
            cases e <;> first | rfl | cases h
          simp only [List.any_cons, List.any_nil, Bool.or_false]
          exact Bool.or_eq_false_iff.mpr ⟨e1 a na, e1 b nb⟩
        have fm : ([Expr.Name x px, Expr.Name y py].filterMap fun
            | .Name id pos => if X.env.kindOf id == some .local && pos.line == px.line then some id else none
            | _ => none) = [x, y] := by
          simp [List.filterMap, kx, ky, hl]
        show (if ((!(true || false)) || (2 != 2) || X.env.blockKind != .function) = true then _ else _) = _
        rw [hb, if_neg (by decide)]
        show (if ([a, b].any fun | .Starred .. => true | _ => false) = true then _ else _) = _
        rw [ha2, if_neg Bool.false_ne_true]
        show (if ((([Expr.Name x px, Expr.Name y py].filterMap fun
            | .Name id pos => if X.env.kindOf id == some .local && pos.line == px.line then some id else none
            | _ => none).length != 2) || (([Expr.Name x px, Expr.Name y py].filterMap fun
            | .Name id pos => if X.env.kindOf id == some .local && pos.line == px.line then some id else none
            | _ => none).eraseDups.length != ([Expr.Name x px, Expr.Name y py].filterMap fun
            | .Name id pos => if X.env.kindOf id == some .local && pos.line == px.line then some id else none
            | _ => none).length)) = true then _ else _) = _
        rw [fm, ed, if_neg (by simp)]
        show (if ([a, b].all (foldedForSure 8)) = true then _ else _) = _
        rw [hf, if_neg Bool.false_ne_true]
        show (if ([a, b].all (constantsAlone 8)) = true then _ else _) = _
        rw [hk, if_neg Bool.false_ne_true]
        exact congrArg (fun l => (pure (some l) : Sem (Option (List Str)))) fm
    · cases h
  · cases h
theorem isStar_no {n : Nat} {e : Expr} {f : E} (h : denE C n e = some f) : isStar e = false := by
  cases e <;> first | rfl | (cases n <;> cases h)
theorem swapped_no {ts : List Expr} {e : Expr} (h : isTup e = false) {k : Nat} {p : Pos} (env : PySem.Env) : swappedStores [.Tuple ts k p] e env = pure none := by
  cases e <;> first | rfl | cases h
theorem denX_ok (ok : Cok X T W C) {e : Expr} {t : String} (h : denX C e = some t) : t ∈ T.xs ∧ (∀ es env, starEach (e :: es) env = (false, eval e env) :: starEach es env) ∧
    ∀ {a : Addr} {oe : Obj} {pn : List (Addr × Obj)} {σ : L2.St} {H : Hp} {s : Shared} {Q : Value → Shared → Prop} {E : Value → Shared → Prop}, L2.Inv (X.suite a ((a, oe) :: pn)) [] σ H s → Q (.ref (T.ca t)) s → wpAny (model X.prog X.w) (X.A.mark (some (.ref a))) (eval e X.env) Q E s := by
  unfold denX at h
  split at h
  · rename_i x p
    split at h
    · cases h
    · rename_i hb
      have hb1 := badName_no fun z => hb (.inl z)
      have hb2 := Decidable.not_not.mp fun z => hb (.inr z)
      have e : Str.ofString t = x := by simpa using List.find?_some h
      have hm := List.mem_of_find?_eq_some h
      rw [ok.xs] at hm
      subst e
      exact ⟨hm, fun _ _ => rfl, fun {a oe pn σ H s Q E} I q => ld_glob (X := X.suite a ((a, oe) :: pn)) I (glo ok hb2) (ok.exc t hm) q hb1.1⟩
  · cases h
theorem items_ok (ok : Cok X T W C) {a : Addr} {oe : Obj} {pn : List (Addr × Obj)} {σ : L2.St} {H : Hp} {s : Shared} {E : Value → Shared → Prop} {pos : Pos} (I : L2.Inv (X.suite a ((a, oe) :: pn)) [] σ H s) : ∀ (es : List Expr) (ts : List String), Mn.mapO (denX C) es = some ts → ts.length = es.length ∧ (∀ t ∈ ts, t ∈ T.xs) ∧
    ∀ {Q : List Value → Shared → Prop}, Q (ts.map fun t => .ref (T.ca t)) s → wpAny (model X.prog X.w) (X.A.mark (some (.ref a))) (spliced (backTo pos (starEach es X.env))) Q E s
  | [], ts, h => by
    cases h
    exact ⟨rfl, fun _ z => (by cases z), fun {Q} q => wpAny_items_nil q⟩
  | e :: es, ts, h => by
    unfold Mn.mapO at h
    split at h
    · rename_i t ht
      obtain ⟨ts', h2, rfl⟩ := Option.map_eq_some_iff.mp h
      obtain ⟨m1, s1, ev⟩ := denX_ok ok ht
      obtain ⟨l2, m2, ev2⟩ := items_ok ok I es ts' h2
      refine ⟨congrArg Nat.succ l2, fun u hu => ?_, fun {Q} q => ?_⟩
      · rcases List.mem_cons.mp hu with z | z
        · rw [z]
          exact m1
        · exact m2 u z
      · exact wpAny_items_cons (ev I (ev2 q)) (s1 _ _)
    · cases h
theorem denXs_ok (ok : Cok X T W C) {e : Expr} {tp : Bool} {cs : List String} (h : denXs C e = some (tp, cs)) : CTest X T e cs tp := by
  unfold denXs at h
  split at h
  · rename_i es k p
    split at h
    · rename_i hz
      obtain ⟨l, hl, e⟩ := Option.map_eq_some_iff.mp h
      cases e
      intro a c oe pn σ H s I hc LT hb Q E E2 q
      obtain ⟨l1, m1, ev⟩ := items_ok ok (pos := p) (E := E) I es cs hl
      have hb := hb rfl
      rw [hb] at q
      refine wpAny_Tuple (ev ⟨?_, ?_⟩)
      · rw [List.length_map, l1, sizeLine_eq]
        omega
      · have kp : ∀ b o, s.heap.get? b = some o → (s.heap.push { cls := .type "tuple", data := .seq (cs.map fun t => Value.ref (T.ca t)).toArray }).get? b = some o := fun b o z => Heap.get?_push_of_some _ z
        refine (exm_none (K := X.K) (cs := cs.map fun t => .ref (T.ca t)) (I.kIn.keeps kp) (LT.keeps kp) (Heap.get?_push_size s.heap rfl) fun v hv => ?_).here (q _ kp)
        obtain ⟨t, ht, rfl⟩ := List.mem_map.mp hv
        rw [ok.ex.ke c hc t (m1 t ht)]
        have z := List.any_eq_false.mp hb t ht
        simpa using z
    · cases h
  · obtain ⟨t, ht, e⟩ := Option.map_eq_some_iff.mp h
    cases e
    obtain ⟨m1, _, ev⟩ := denX_ok ok ht
    intro a c oe pn σ H s I hc LT _ Q E E2 q
    refine ev I ((PySem.W.exm_one (M := model X.prog X.w) (K := X.K) I.kIn LT (ok.ex.ke c hc t m1)).here ?_)
    have z := q s.heap fun _ _ z => z
    rw [List.any_cons, List.any_nil, Bool.or_false] at z
    exact z
theorem suf_ok (ok : Cok X T W C) (a : Addr) (pn : List (Addr × Obj)) : Cok (X.suite a pn) T W0 (sufDc C) :=
  { K := ok.K, N := ok.N, nd := ok.nd, nm := ok.nm, kind := ok.kind, calm := fun z => absurd z Bool.false_ne_true, stm := fun z => absurd z Bool.false_ne_true, tk := takes_none5, po := PassesOwn.never, un := ok.un, fn := fun _ _ _ z => (by cases z), con := ok.con, blt := ok.blt, ex := ok.ex, exc := ok.exc, xs := ok.xs, sto := ok.sto, cl := fun _ _ _ _ z => (by cases z), mt := fun _ _ z => (by cases z), md := fun _ _ z => (by cases z), fl := ok.fl, io := ok.io }
theorem try_ok (ok : Cok X T W C) {W' : WX} {pn : List (Addr × Obj)} {xe : Value → Shared → Prop} (tk : Takes (X.tr pn xe) W') (po : PassesOwn (model X.prog X.w) X.A X.env xe) : Cok (X.tr pn xe) T W' C :=
  { K := ok.K, N := ok.N, nd := ok.nd, nm := ok.nm, kind := ok.kind, calm := ok.calm, stm := ok.stm, tk := tk, po := po, un := ok.un, fn := ok.fn, con := ok.con, blt := ok.blt, ex := ok.ex, exc := ok.exc, xs := ok.xs, sto := ok.sto, cl := ok.cl, mt := ok.mt, md := ok.md, fl := ok.fl, io := ok.io }
theorem hds_ok (ok : Cok X T W C) {den : List Stmt → Option Mn.St} (hd : ∀ (a : Addr) (pn : List (Addr × Obj)) b st, den b = some st → PSs (X.suite a pn) b (rdS T W0 st)) : ∀ (hs : List ExceptHandler) (l : List Mn.Hd), denHs den C hs = some l → HdsT X T hs l
  | [], l, h => by
    unfold denHs at h
    cases h
    exact .nil
  | hh :: r, l, h => by
    unfold denHs at h
    split at h
    · rename_i e
      cases e
    · rename_i t n b bs pos r' e
      cases e
      split at h
      · rename_i h1 h2 h3 h4
        cases h
        refine .cons (denXs_ok ok h1) ?_ (fun a pn => hd a pn _ _ h3) (hds_ok ok hd r _ h4)
        unfold denHn at h2
        split at h2
        · cases h2
          exact .inl ⟨rfl, rfl⟩
        · split at h2
          · rename_i x hk
            obtain ⟨i, hi, e⟩ := Option.map_eq_some_iff.mp h2
            cases e
            exact .inr ⟨_, i, rfl, rfl, by rw [ok.N]; exact slot_get hi, by show X.env.scope.names.lookup _ = _; rw [ok.nm]; exact hk⟩
          · cases h2
      · cases h
    · cases h
theorem asg_lock {g : String} {i j : Nat} {f : E} : Mn.sAsg (Mn.tName j) (Mn.eLock g i f) = Mn.sLock g i (Mn.sAsg (Mn.tName j) f) := by
  funext ρ M
  unfold Mn.sAsg Mn.eLock Mn.sLock
  cases Mn.dicOf g i ρ M with
  | none => rfl
  | some n =>
    simp only []
    cases Mn.lockAt n M with
    | none => rfl
    | some M1 =>
      simp only []
      cases f ρ M1 with
      | bad => rfl
      | exc c M2 => rfl
      | ok v M2 =>
        show (Mn.unlR n (.ok v M2)).st ρ _ = Mn.unlS n (.nx (ρ.set j (some v)) M2)
        unfold Mn.unlR Mn.unlS
        simp only []
        cases Mn.unlAt n M2 <;> rfl
theorem asg_wrap {st : Stmt} {it : Expr} {i : Nat} {f : E} (h : PS X st (rdS T W (Mn.sAsg (Mn.tName i) f))) : PS X st (rdS T W (Mn.sAsg (Mn.tName i) (wrapE C it f))) := by
  unfold wrapE
  split
  · rw [asg_lock]
    exact s_lock h
  · exact h
theorem set_lc (ok : Cok X T W C) {n i : Nat} {y : Str} {py pos spos : Pos} {elt : Expr} {gs : List Comprehension} {scope : Scope} {f : E} (h : denE C n (.ListComp elt gs scope pos) = some f) (hi : X.N[i]? = some y) (hy : X.env.scope.names.lookup y = some .local)
    (hsw : swapsWith (.ListComp elt gs scope pos) (some (.Name y py)) spos.line X.env = pure true) : PS X (.Assign [.Name y py] (.ListComp elt gs scope pos) spos) (rdS T W (Mn.sAsg (Mn.tName i) f)) := by
  have fin : ∀ {t : TE} {f : E}, PS X (.Assign [.Name y py] (.ListComp elt gs scope pos) spos) (tAsg t (gName i)) → (∀ σ H Q, rdE T W f σ H Q → t σ H Q) → PS X (.Assign [.Name y py] (.ListComp elt gs scope pos) spos) (rdS T W (Mn.sAsg (Mn.tName i) f)) := fun {t f} hp hr => PS.imp hp fun σ H D ⟨R, ρ, M, e, s, p⟩ => by
    refine hr σ H _ (rdE_mono (st_rd e s p) fun x H1 ⟨R1, M1, v, e1, s1, r1, q⟩ => ?_)
    exact q R1 H1 _ (List.prefix_refl R1) (Keep.refl H1) s1 (e1.set r1 _)
  cases n with
  | zero => cases h
  | succ n =>
    have nd : X.N.Nodup := by rw [ok.N]; exact ok.nd
    unfold denE at h
    rw [dicE_lc, mdE_lc, newE_lc] at h
    simp only [] at h
    split at h <;> first | (rename_i z; cases z; done) | skip
    · rename_i z
      cases z
      split at h
      · rename_i hc
        split at h
        · rename_i hi2 hg he
          split at h
          · rename_i hts
            cases h
            obtain ⟨i1, i2⟩ := denI_ok ok (fun e f h => (denE_ok n X W C ok e f h).pe) hi2
            refine asg_wrap ?_
            exact fin (ps_setLc (ok.calm hc.1) nd hi hy hsw i1 (blk_isOk ok hc.2) (fun s H A cl fp => (denG_ok (blk_ok ok hc.2 s H A cl fp) 20 _ _ _ hg).1) (fun _ _ _ _ _ => pts_yes (T := T)) (fun s H A cl fp => (denE_ok n _ _ _ (blk_ok ok hc.2 s H A cl fp) _ _ he).pe) i2)
              (lc_rd (fun j hj => by have := List.all_eq_true.mp hts j hj; simpa using this))
          · cases h
        · cases h
      · cases h
    · rename_i z
      cases z
      split at h
      · rename_i hc
        split at h
        · rename_i hi2 hg hcc he
          split at h
          · rename_i hts
            cases h
            obtain ⟨i1, i2⟩ := denI_ok ok (fun e f h => (denE_ok n X W C ok e f h).pe) hi2
            refine asg_wrap ?_
            exact fin (ps_setLc (ok.calm hc.1) nd hi hy hsw i1 (blk_isOk ok hc.2) (fun s H A cl fp => (denG_ok (blk_ok ok hc.2 s H A cl fp) 20 _ _ _ hg).1) (fun s H A cl fp => pts_one (denE_ok n _ _ _ (blk_ok ok hc.2 s H A cl fp) _ _ hcc).pt) (fun s H A cl fp => (denE_ok n _ _ _ (blk_ok ok hc.2 s H A cl fp) _ _ he).pe) i2)
              (lc_rd (fun j hj => by have := List.all_eq_true.mp hts j hj; simpa using this))
          · cases h
        · cases h
      · cases h
    · cases h
theorem swaps_name {n : Nat} {e : Expr} {f : E} (h : denE C n e = some f) (y : Str) (py : Pos) (l : Nat) (env : PySem.Env) : swapsWith e (some (.Name y py)) l env = pure false ∨ (swapsWith e (some (.Name y py)) l env = pure true ∧ env.kindOf y = some .local ∧ ∃ elt gs scope pos, e = .ListComp elt gs scope pos) := by
  cases e with
  | ListComp elt gs scope pos =>
    have key : ∀ b : Bool, (env.blockKind == .function && env.kindOf y == some .local && py.line == (Expr.ListComp elt gs scope pos).pos.line && !(scope.names.any fun (n, k) => n == y && (k == .local || k == .cell))) = b → swapsWith (.ListComp elt gs scope pos) (some (.Name y py)) l env = pure b := fun b hb => by
      rw [← hb]
      rfl
    cases q : (env.blockKind == .function && env.kindOf y == some .local && py.line == (Expr.ListComp elt gs scope pos).pos.line && !(scope.names.any fun (n, k) => n == y && (k == .local || k == .cell))) with
    | false => exact .inl (key _ q)
    | true =>
      simp only [Bool.and_eq_true] at q
      exact .inr ⟨key _ (by simp only [Bool.and_eq_true]; exact q), by simpa using q.1.1.2, _, _, _, _, rfl⟩
  | SetComp => cases n <;> cases h
  | DictComp => cases n <;> cases h
  | _ => exact .inl rfl
theorem swaps_tg {e t : Expr} (h : ∀ x p, t ≠ .Name x p) (l : Nat) (env : PySem.Env) : swapsWithSole [t] e l env = pure false := by
  unfold swapsWithSole
  cases e <;> first | rfl | (cases t <;> first | rfl | exact absurd rfl (h _ _))
theorem asg_sub {o i e : Expr} {p : Pos} (env : PySem.Env) : swappedStores [.Subscript o i p] e env = pure none := by
  cases e <;> rfl
theorem asg_form {o i : Expr} {p : Pos} (h : isSl i = false) (env : PySem.Env) (v : Value) : assign (.Subscript o i p) env v = (do
      let ov ← holding [v] (eval o env)
      let iv ← holding [v, ov] (eval i env)
      standAt p
      holding [v, ov, iv] (setItem ov iv v)
      release [v, ov, iv] []) := by
  cases i <;> first | rfl | cases h
theorem aug_ok {op : Operator} {o : Op} {G : Prop} (h : augO op = some o) (k : ∀ (rd : V → V → Hp → VK → Prop) (oI : Op), InOp X op rd → (∀ x y H Q, rdO T oI x y H Q → rd x y H Q) → oI = o → G) : G := by
  cases op <;> simp only [augO, Option.some.injEq, reduceCtorEq] at h
  · exact k _ _ in_add r_iadd h
  · exact k _ _ in_sub r_isub h
theorem flOf_eq {f : Str} {f' : String} {cs : List String} (h : flOf C f = some (f', cs)) : Str.ofString f' = f := by
  unfold flOf at h
  simpa using List.find?_some h
theorem visOf_ok (ok : Cok X T W C) {x : Str} {i : Nat} (h : visOf C x = some i) : ((x == ("__debug__" : Str)) = false ∧ (x == ("__classdict__" : Str)) = false) ∧ X.N[i]? = some x ∧ Vis X.env.scope x := by
  unfold visOf at h
  split at h
  · cases h
  · rename_i hb
    obtain ⟨b1, b2, b3⟩ := badName_no hb
    rw [ok.N]
    split at h
    · rename_i hk
      exact ⟨⟨b1, b2⟩, slot_get h, .inl (by rw [ok.nm]; exact hk)⟩
    · rename_i hk
      exact ⟨⟨b1, b2⟩, slot_get h, .inr (.inl (by rw [ok.nm]; exact hk))⟩
    · cases h
mutual
theorem denS_ok : ∀ (n : Nat) (X : Cx) (W : WX) (C : Dc), Cok X T W C → ∀ st f, denS C n st = some f → PS X st (rdS T W f)
  | 0, _, _, _, _, st, f, h => by cases h
  | n + 1, X, W, C, ok, st, f, h => by
    have ihS := denS_ok n X W C ok
    have ihB := denSs_ok n X W C ok
    have ihE : ∀ e f, denE C n e = some f → Both X T W e f := denE_ok n X W C ok
    unfold denS at h
    split at h
    · cases h
      exact s_pass
    · cases h
      exact PS.imp ps_continue fun σ H D ⟨R, ρ, M, e, s, p⟩ => p R H σ (List.prefix_refl R) (Keep.refl H) s e
    · cases h
      exact PS.imp ps_break fun σ H D ⟨R, ρ, M, e, s, p⟩ => p R H σ (List.prefix_refl R) (Keep.refl H) s e
    · split at h
      · cases h
      · rename_i hc
        obtain ⟨g, hg, rfl⟩ := Option.map_eq_some_iff.mp h
        exact s_drop (ihE _ _ hg).pe (swaps_no hc _ _ _)
    · obtain ⟨g, hg, rfl⟩ := Option.map_eq_some_iff.mp h
      exact s_ret (ihE _ _ hg).pe
    · split at h
      · rename_i h1 h2 h3
        cases h
        exact s_if (ihE _ _ h1).pt (ihB _ _ h2) (ihB _ _ h3)
      · cases h
    · split at h
      · rename_i h1 h2
        cases h
        exact s_while ok.po (ihE _ _ h1).pt (ihB _ _ h2)
      · cases h
    · split at h
      · rename_i hc h1 h2 h3
        cases h
        obtain ⟨g1, g2⟩ := denI_ok ok (fun e f h => (ihE e f h).pe) h2
        refine wrapS_ok ?_
        exact s_for ok.po (ok.calm hc) g1 (denG_ok ok n _ _ _ h1).1 (ihB _ _ h3) g2
      · cases h
    · split at h
      · rename_i hc h1 h2 h3
        cases h
        exact par_ok ok hc h1 (a_cons (ihE _ _ h2).pe (a_cons (ihE _ _ h3).pe a_nil (noStar h3 _ _)) (noStar h2 _ _)) (isStar_no h2) (isStar_no h3)
      · cases h
    · split at h
      · rename_i h1 h2 h3
        cases h
        obtain ⟨g1, g2⟩ := denG_ok ok n _ _ _ h2
        exact PS.imp (ps_asg (ihE _ _ h3).pe g1 (swaps_tg (by intro _ _ z; cases z) _ _) (swapped_no h1 _) rfl) asg_rd
      · cases h
    · split at h
      · rename_i ha
        split at h
        · rename_i h2 h4
          cases h
          obtain ⟨p2, rfl⟩ := allSl_eq ha
          exact PS.imp (ps_asg (ihE _ _ h4).pe (g_all (ihE _ _ h2).pe) (swaps_tg (by intro _ _ z; cases z) _ _) (asg_sub _) rfl) asg_rd
        · cases h
      split at h
      · rename_i h1 h2 h3 h4
        cases h
        split
        · exact PS.imp (ps_asg (ihE _ _ h4).pe (g_subK (set_di (Nat.lt_of_le_of_lt (by omega) ok.un)) (ihE _ _ h2).pe (ihE _ _ h3).pe (asg_form h1 _)) (swaps_tg (by intro _ _ z; cases z) _ _) (asg_sub _) rfl) asg_rd
        · exact PS.imp (ps_asg (ihE _ _ h4).pe (g_sub set_lst (ihE _ _ h2).pe (ihE _ _ h3).pe (asg_form h1 _)) (swaps_tg (by intro _ _ z; cases z) _ _) (asg_sub _) rfl) asg_rd
      · cases h
    · split at h
      · rename_i h1 hf h2 h3
        cases h
        obtain ⟨b, q1, q2⟩ := visOf_ok ok h2
        have hcs := ok.fl _ _ (List.mem_of_find?_eq_some hf)
        have e1 := flOf_eq hf
        rw [← e1]
        have pv := fun pos => pe_var (X := X) (pos := pos) q1 q2 b.1 b.2
        refine aug_ok (X := X) (T := T) h1 fun rd oI hop hr ho => ?_
        subst ho
        exact s_aug hcs (pv _) (ihE _ _ h3).pe hop hr
      · cases h
    · rename_i o fnm p e pos
      split at h
      · rename_i f' cs fo fe hf h2 h3
        cases h
        have e1 : Str.ofString f' = fnm := by simpa using List.find?_some hf
        subst e1
        exact s_setF (ok.fl _ _ (List.mem_of_find?_eq_some hf)) (ihE _ _ h2).pe (ihE _ _ h3).pe (show swapsWithSole [.Attribute o (Str.ofString f') p] e pos.line X.env = pure false from swaps_tg (by intro _ _ z; cases z) _ _)
      · cases h
    · split at h
      · cases h
      · rename_i hb
        obtain ⟨c, hc, rfl⟩ := Option.map_eq_some_iff.mp h
        have hb0 : C.calm = true := by
          cases z : C.calm with
          | true => rfl
          | false => exact absurd (.inl z) hb
        have hb1 := badName_no fun z => hb (.inr (.inl z))
        have hb2 := Decidable.not_not.mp fun z => hb (.inr (.inr z))
        rename_i xn _ _ _ _ _ _
        have e : Str.ofString c = xn := by simpa using List.find?_some hc
        have hm := List.mem_of_find?_eq_some hc
        rw [ok.xs] at hm
        subst e
        refine PS.imp (ps_raise (ok.calm hb0) ok.tk (pmk_own PySem.F.excBase_ValueError (ok.ex.ei c hm) (ok.exc c hm) (ok.ex.kp c hm) (raises_own (ok.ex.ra c hm).1 (ok.ex.ra c hm).2) (glo ok hb2) hb1.1)) fun σ H D ⟨R, ρ, M, e, s, p⟩ => ?_
        exact p hm R H σ (List.prefix_refl R) (Keep.refl H) s e
    · split at h
      · rename_i h2 h3
        cases h
        obtain ⟨q1, q2, q3⟩ := locOf_ok ok h2
        rcases swaps_name h3 _ _ _ X.env with hs | ⟨hs, hk, elt, gs, scope, pos, rfl⟩
        · refine PS.imp (ps_set (by rw [ok.N]; exact ok.nd) q1 q2 (ihE _ _ h3).pe hs q3) fun σ H D ⟨R, ρ, M, e, s, p⟩ => ?_
          exact rdE_mono (st_rd e s p) fun x H1 ⟨R1, M1, v, e1, s1, r1, q⟩ => q R1 H1 _ (List.prefix_refl R1) (Keep.refl H1) s1 (e1.set r1 _)
        · exact set_lc ok h3 q1 hk hs
      · cases h
    · split at h
      · rename_i hc h1 h2 h3
        cases h
        obtain ⟨z1, z2, z3⟩ := ok.stm hc
        exact s_try z1 z2 z3 (by rw [ok.N]; exact ok.nd) ok.tk (fun W' pn xe tk po => denSs_ok n _ _ _ (try_ok ok tk po) _ _ h1) (ihB _ _ h3) (hds_ok ok (fun a pn b st hb => denSs_ok n _ _ _ (suf_ok ok a pn) b st hb) _ _ h2)
      · cases h
    · cases h
theorem denSs_ok : ∀ (n : Nat) (X : Cx) (W : WX) (C : Dc), Cok X T W C → ∀ st f, denSs C n st = some f → PSs X st (rdS T W f)
  | 0, _, _, _, _, st, f, h => by cases h
  | n + 1, X, W, C, ok, st, f, h => by
    have ihS := denS_ok n X W C ok
    have ihB := denSs_ok n X W C ok
    unfold denSs at h
    split at h
    · cases h
      exact ss_nil
    · exact ss_one (ihS _ _ h)
    · split at h
      · rename_i h1 h2
        cases h
        exact ss_cons (ihS _ _ h1) (ihB _ _ h2)
      · cases h
end
end
end MnS
end
section
set_option Elab.async false
set_option autoImplicit false
set_option linter.all false
set_option maxRecDepth 100000
set_option maxHeartbeats 4000000
namespace MnS
open PySem PySem.Spec PyProof.Rows L2
open Mn (Val Cell Store E Fn Op U Itr Src Tg)
structure Md where
  fn : List (Str × (Fn × Nat))
  dn : List Str
  kn : List Str
  con : List (Str × Val)
  blt : List Str
  exc : List String
  cl : List (Str × (String × Fn × Nat)) := []
  mt : List (String × List (String × (Fn × Nat))) := []
  fl : List (String × List String) := []
  dv : List Str := []
  dw : List Str := []
  dl : List Str := []
  md : List String := []
  io : List String := []
  tx : List Str := []
def dcOf (D : Md) (N : List Str) (sc : Scope) : Dc := ⟨N, sc.names, D.fn, D.dn, D.kn, D.con, D.blt, D.exc, N, true, true, D.cl, D.mt, D.fl, D.dv, D.dw, D.dl, D.md, D.io, D.tx⟩
structure Mok (P : Program) (w : World) (K : PySem.W.Frag) (mg : Str → Option Value) (base : Heap) (T : Tb) (D : Md) (k : Nat) : Prop where
  hK : T.K = K
  fn : ∀ x F np, D.fn.lookup x = some (F, np) → Arity F np ∧ ∃ (f : Addr) (fd : FuncData) (ps : List Str), mg x = some (.ref f) ∧ PySem.W.keepIn K (.ref f) = true ∧ Binds K fd ps [] ∧ (x ∈ D.dn → Binds K fd ps [.none] ∧ (x ∈ D.kn → KBn K fd ps 2 ["weights"] (fun us ws => us ++ ws) (fun vs zs => vs ++ zs))) ∧
    FnOk P w K mg base (L2.CX P w) k f fd ps (spF T np F)
  con : ∀ x v, D.con.lookup x = some v → ∃ (u : Value) (w : V), mg x = some u ∧ RelV w u ∧ ∀ R H, Rel T R H v w
  blt : ∀ x, x ∈ D.blt → mg x = none
  ex : ExF K T.ca T.xs
  exc : ∀ c, c ∈ T.xs → mg (Str.ofString c) = some (.ref (T.ca c))
  xs : D.exc = T.xs
  cl : ∀ x c F np, D.cl.lookup x = some (c, F, np) → Arity F np ∧ ∃ (j : Nat) (f : Addr) (fd : FuncData) (ps : List Str), j + 1 ≤ k ∧ mg x = some (.ref (T.ca c)) ∧ Mk K (T.ca c) f ∧ Binds K fd ps [] ∧ FnOk P w K mg base (L2.CX P w) j f fd ps (spF T np F)
  mt : ∀ m tb, (m, tb) ∈ D.mt → ∀ c F np, tb.lookup c = some (F, np) → Arity F np ∧ Cls K (T.ca c) ∧ ∃ (f : Addr) (fd : FuncData) (ps : List Str), Meth K (T.ca c) (Str.ofString m) f ∧ Binds K fd ps [] ∧ FnOk P w K mg base (L2.CX P w) k f fd ps (spF T np F)
  md : ∀ m tb, (m, tb) ∈ D.mt → m ∈ D.md → ∀ c F np, tb.lookup c = some (F, np) → Arity F np ∧ Cls K (T.ca c) ∧ ∃ (f : Addr) (fd : FuncData) (ps : List Str), Meth K (T.ca c) (Str.ofString m) f ∧ Binds K fd ps [.none] ∧ FnOk P w K mg base (L2.CX P w) k f fd ps (spF T np F)
  fl : ∀ f cs, (f, cs) ∈ D.fl → ∀ c ∈ cs, Cls K (T.ca c) ∧ NoAttr K (T.ca c) (Str.ofString f)
  io : ∀ c ∈ D.io, IsoC K (T.ca c) ∧ mg (Str.ofString c) = some (.ref (T.ca c))
section
variable {P : Program} {w : World} {K : PySem.W.Frag} {mg : Str → Option Value} {base : Heap} {T : Tb} {D : Md} {k : Nat}
theorem env_start {R : List Addr} {H : Hp} {xs : List Val} {vs : List V} {N : List Str} {np : Nat} (r : Rels T R H xs vs) (hn : xs.length = np) (hN : np ≤ N.length) : EnvR T R H (xs.map some ++ List.replicate (N.length - np) none) (L2.start N vs) := by
  have l := r.length
  unfold L2.start
  refine ⟨by simp only [List.length_append, List.length_map, List.length_replicate]; omega, fun i v h => ?_⟩
  by_cases hi : i < xs.length
  · rw [List.getElem?_append_left (by rw [List.length_map]; exact hi), List.getElem?_map] at h
    cases e : xs[i]? with
    | none =>
      rw [e] at h
      cases h
    | some z =>
      rw [e] at h
      cases h
      obtain ⟨u, hu, q⟩ := r.get e
      refine ⟨u, ?_, q⟩
      rw [List.getElem?_append_left (by rw [List.length_map]; omega), List.getElem?_map, hu]
      rfl
  · rw [List.getElem?_append_right (by rw [List.length_map]; omega), List.getElem?_replicate] at h
    split at h <;> cases h
theorem Mok.fnOk (M : Mok P w K mg base T D k) {x qual : Str} {params : Arguments} {body : List Stmt} {scope : Scope} {dvs : List V} {kws : List (Str × V)} {f : Addr} {fd : FuncData} (F : FunD K x qual params body scope dvs kws f fd) {N ps : List Str} (S : FnScope N ps scope) {b : Mn.St}
    (hd : denSs (dcOf D N scope) 100 body = some b) : FnOk P w K mg base (L2.CX P w) (k + 1) f fd ps (spF T ps.length (Mn.mkFn ps.length N.length b)) := by
  have hps : ps.length ≤ N.length := by
    have := congrArg List.length S.pre
    rw [List.length_take] at this
    omega
  refine F.ok S (fun vs H Q E ⟨R, M, xs, _, _, h, _⟩ => h) fun cdv A outer s H vs Q E hr h => ?_
  obtain ⟨R, St, xs, Si, r, hl, p⟩ := h
  refine ⟨rdS T (fun cls d _ H => E cls d H) b, denSs_ok 100 _ _ (dcOf D N scope) ?_ body b hd, R, _, St, env_start r (r.length.trans hl) hps, Si, ?_⟩
  · exact { K := M.hK.symm, N := rfl, nd := S.nd, nm := rfl, kind := S.kind, calm := fun _ => rfl, stm := fun _ => ⟨rfl, rfl, rfl⟩, tk := takes_of rfl rfl rfl rfl, po := passes_of rfl, un := hr.units,
            fn := fun y G np e => by
              obtain ⟨ar, f', fd', ps', h1, h2, h3, h4, h5⟩ := M.fn y G np e
              exact ⟨ar, k, f', fd', ps', hr, h1, h2, h3, h4, h5⟩
            con := M.con, blt := M.blt, ex := M.ex, exc := M.exc, xs := M.xs, sto := fun _ _ => .inl rfl
            cl := fun y c G np e => by
              obtain ⟨ar, j, f', fd', ps', hj, h1, h2, h3, h4⟩ := M.cl y c G np e
              exact ⟨ar, j, f', fd', ps', hr.mono hj, h1, h2, h3, h4⟩
            mt := fun m tb hm c G np e => by
              obtain ⟨ar, c1, f', fd', ps', h1, h2, h3⟩ := M.mt m tb hm c G np e
              exact ⟨ar, c1, k, f', fd', ps', hr, h1, h2, h3⟩
            md := fun m tb hm hd c G np e => by
              obtain ⟨ar, c1, f', fd', ps', h1, h2, h3⟩ := M.md m tb hm hd c G np e
              exact ⟨ar, c1, k, f', fd', ps', hr, h1, h2, h3⟩
            fl := M.fl, io := M.io }
  · unfold Mn.mkFn at p
    rw [if_pos (r.length.trans hl)] at p
    cases z : b (xs.map some ++ List.replicate (N.length - ps.length) none) St with
    | nx ρ M1 =>
      rw [z] at p
      exact fun R' H' σ p1 k1 s1 e1 => p R' H' .non p1 k1 s1 .non
    | ret v M1 =>
      rw [z] at p
      exact fun R' H' v p1 k1 s1 e1 => p R' H' v p1 k1 s1 e1
    | exc c ρ M1 =>
      rw [z] at p
      exact fun hc R' H' σ p1 k1 s1 e1 => p hc R' H' p1 k1 s1
    | bk ρ M1 =>
      rw [z] at p
      exact p.elim
    | ct ρ M1 =>
      rw [z] at p
      exact p.elim
    | bad =>
      rw [z] at p
      exact p.elim
theorem Mok.up (M : Mok P w K mg base T D k) {j : Nat} (h : k ≤ j) : Mok P w K mg base T D j := by
  refine { M with fn := fun y G np e => ?_, cl := fun y c G np e => ?_, mt := fun m tb hm c G np e => ?_, md := fun m tb hm hd c G np e => ?_ }
  · obtain ⟨ar, f', fd', ps', h1, h2, h3, h4, h5⟩ := M.fn y G np e
    exact ⟨ar, f', fd', ps', h1, h2, h3, h4, h5.mono h⟩
  · obtain ⟨ar, i, f', fd', ps', hj, h1, h2, h3, h4⟩ := M.cl y c G np e
    exact ⟨ar, i, f', fd', ps', Nat.le_trans hj h, h1, h2, h3, h4⟩
  · obtain ⟨ar, c1, f', fd', ps', h1, h2, h3⟩ := M.mt m tb hm c G np e
    exact ⟨ar, c1, f', fd', ps', h1, h2, h3.mono h⟩
  · obtain ⟨ar, c1, f', fd', ps', h1, h2, h3⟩ := M.md m tb hm hd c G np e
    exact ⟨ar, c1, f', fd', ps', h1, h2, h3.mono h⟩
theorem Mok.addD (M : Mok P w K mg base T D k) {x qual : Str} {params : Arguments} {body : List Stmt} {scope : Scope} {dvs : List V} {f : Addr} {fd : FuncData} (F : FunD K x qual params body scope dvs [] f fd) {N ps : List Str} (S : FnScope N ps scope) {b : Mn.St}
    (hd : denSs (dcOf D N scope) 100 body = some b) (hm : mg x = some (.ref f)) (hb : Binds K fd ps []) (hbd : x ∈ D.dn → Binds K fd ps [.none] ∧ (x ∈ D.kn → KBn K fd ps 2 ["weights"] (fun us ws => us ++ ws) (fun vs zs => vs ++ zs))) : Mok P w K mg base T { D with fn := (x, (Mn.mkFn ps.length N.length b, ps.length)) :: D.fn } (k + 1) := by
  refine { M.up (Nat.le_succ k) with fn := fun y G np e => ?_ }
  rw [List.lookup_cons] at e
  cases q : y == x with
  | true =>
    rw [q] at e
    cases e
    have e1 : y = x := eq_of_beq q
    subst e1
    exact ⟨mk_arity, f, fd, ps, hm, F.kp, hb, hbd, M.fnOk F S hd⟩
  | false =>
    rw [q] at e
    obtain ⟨ar, f', fd', ps', h1, h2, h3, h4, h5⟩ := M.fn y G np e
    exact ⟨ar, f', fd', ps', h1, h2, h3, h4, h5.mono (Nat.le_succ k)⟩
theorem Mok.add (M : Mok P w K mg base T D k) {x qual : Str} {params : Arguments} {body : List Stmt} {scope : Scope} {f : Addr} {fd : FuncData} (F : FunD K x qual params body scope [] [] f fd) {N ps : List Str} (S : FnScope N ps scope) {b : Mn.St}
    (hd : denSs (dcOf D N scope) 100 body = some b) (hm : mg x = some (.ref f)) (hb : Binds K fd ps []) (hn : decide (x ∈ D.dn) = false) : Mok P w K mg base T { D with fn := (x, (Mn.mkFn ps.length N.length b, ps.length)) :: D.fn } (k + 1) :=
  M.addD F S hd hm hb fun z => absurd z (of_decide_eq_false hn)
end
def isLst (o : Obj) : Bool := o.cls == .type "list"
def frN (g : Addr → Option Obj) (as : List Addr) : PySem.W.Frag := (He.frG g as).filter fun q => !isLst q.2
theorem frag_mem {a : Addr} {o : Obj} : ∀ {l : PySem.W.Frag}, l.lookup a = some o → (a, o) ∈ l
  | [], h => by cases h
  | (b, u) :: r, h => by
    rw [List.lookup_cons] at h
    cases q : a == b with
    | true =>
      rw [q] at h
      cases h
      rw [eq_of_beq q]
      exact List.mem_cons_self
    | false =>
      rw [q] at h
      exact List.mem_cons_of_mem _ (frag_mem h)
theorem frN_mem {g : Addr → Option Obj} {as : List Addr} {a : Addr} {o : Obj} (h : (frN g as).lookup a = some o) : g a = some o ∧ isLst o = false := by
  obtain ⟨h1, h2⟩ := List.mem_filter.mp (frag_mem h)
  obtain ⟨b, _, e⟩ := List.mem_filterMap.mp h1
  obtain ⟨u, hu, e2⟩ := Option.map_eq_some_iff.mp e
  cases e2
  exact ⟨hu, by simpa using h2⟩
theorem frN_in {as : List Addr} {h : Heap} : (frN h.get? as).In h := fun _ _ e => (frN_mem e).1
def NoLst (K : PySem.W.Frag) : Prop := ∀ a o, K.lookup a = some o → o.cls ≠ .type "list"
theorem frN_nolst {g : Addr → Option Obj} {as : List Addr} : NoLst (frN g as) := fun a o e z => by
  have q := (frN_mem e).2
  unfold isLst at q
  rw [z] at q
  cases q
mutual
def valB (K : PySem.W.Frag) : Val → Value → Bool
  | .int i, .int j _ => decide (i = j)
  | .str s, .str y _ => decide (sOf s = y)
  | .tup xs, .ref a => match K.lookup a with
    | some ⟨.type c, _, .seq its _, _⟩ => decide (c = "tuple") && (decide (its.size ≤ sizeLine) && valsB K xs its.toList)
    | _ => false
  | _, _ => false
def valsB (K : PySem.W.Frag) : List Val → List Value → Bool
  | [], [] => true
  | x :: xs, u :: us => valB K x u && valsB K xs us
  | _, _ => false
end
mutual
theorem valB_ok {K : PySem.W.Frag} {T : Tb} (hT : T.K = K) : ∀ (v : Val) (u : Value), valB K v u = true → ∃ w, RelV w u ∧ ∀ R H, Rel T R H v w
  | .int i, u, h => by
    cases u <;> simp only [valB, decide_eq_true_eq, Bool.false_eq_true] at h
    subst h
    exact ⟨.int i, ⟨_, rfl⟩, fun _ _ => .int i⟩
  | .str s, u, h => by
    cases u <;> simp only [valB, decide_eq_true_eq, Bool.false_eq_true] at h
    subst h
    exact ⟨.str (sOf s), ⟨_, rfl⟩, fun _ _ => .str s⟩
  | .tup xs, u, h => by
    cases u <;> simp only [valB, Bool.false_eq_true] at h
    rename_i a
    split at h
    · rename_i c d its n sl e
      simp only [Bool.and_eq_true, decide_eq_true_eq] at h
      obtain ⟨h1, h2, h3⟩ := h
      obtain ⟨ws, r1, r2⟩ := valsB_ok hT xs _ h3
      subst h1
      exact ⟨.ref a, rfl, fun R H => .tup (.inr ⟨_, its, n, by rw [hT]; exact e, rfl, rfl, h2, r1⟩) (r2 R H)⟩
    · cases h
  | .non, u, h => by simp [valB] at h
  | .bl b, u, h => by simp [valB] at h
  | .ref n, u, h => by simp [valB] at h
  | .exc c, u, h => by simp [valB] at h
theorem valsB_ok {K : PySem.W.Frag} {T : Tb} (hT : T.K = K) : ∀ (vs : List Val) (us : List Value), valsB K vs us = true → ∃ ws, Vals ws us ∧ ∀ R H, Rels T R H vs ws
  | [], [], _ => ⟨[], .nil, fun _ _ => .nil⟩
  | [], _ :: _, h => by simp [valsB] at h
  | _ :: _, [], h => by simp [valsB] at h
  | x :: xs, u :: us, h => by
    simp only [valsB, Bool.and_eq_true] at h
    obtain ⟨w, r1, r2⟩ := valB_ok hT x u h.1
    obtain ⟨ws, q1, q2⟩ := valsB_ok hT xs us h.2
    exact ⟨w :: ws, .cons r1 q1, fun R H => .cons (r2 R H) (q2 R H)⟩
end
def conB (K : PySem.W.Frag) (x : Str) (v : Val) : Bool := match PySem.W.nsIn K mainGlobals x with
  | some (some u) => valB K v u
  | _ => false
theorem conB_ok {K : PySem.W.Frag} {T : Tb} {h : Heap} {mg : Str → Option Value} (X : K.In h) (G : h.Ns mainGlobals mg) (hT : T.K = K) {x : Str} {v : Val} (c : conB K x v = true) : ∃ (u : Value) (w : V), mg x = some u ∧ RelV w u ∧ ∀ R H, Rel T R H v w := by
  unfold conB at c
  split at c
  · rename_i u e
    obtain ⟨w, r1, r2⟩ := valB_ok hT v u c
    exact ⟨u, w, PySem.W.mg_of X G e, r1, r2⟩
  · cases c
def caOf (K : PySem.W.Frag) (c : String) : Addr := He.ga K (Str.ofString c)
def exC1 (K : PySem.W.Frag) (D : Addr) : Bool := decide (PySem.W.findIn K (.ref D) "__getattribute__" = some (some (.builtin "BaseException.__getattribute__"))) && (decide (PySem.W.findIn K (.ref D) "__getattr__" = some none) &&
  (decide (PySem.W.subIn K (.ref D) (.type "BaseException") = some true) && (PySem.W.hasDictIn K D && (decide (PySem.W.findIn K (.ref D) "__class__" = some (some (.builtin "object.__class__"))) &&
  (decide (PySem.W.specialIn K (.builtin "object.__class__") "__get__" = some (some (.builtin "getset_descriptor.__get__"))) && (decide (PySem.W.takesIn K (.builtin "object.__class__") = some true) && decide (PySem.W.mroIn K D (.type "object") = some true)))))))
def exB1 (K : PySem.W.Frag) (xs : List String) (c : String) : Bool := exC1 K (caOf K c) && ((tyOk.all fun t => decide (PySem.W.kitOne K (.ref (caOf K c)) (.type t) = some (Mn.isX c t))) && ((xs.all fun d => decide (PySem.W.kitOne K (.ref (caOf K c)) (.ref (caOf K d)) = some (Mn.isX c d)) && decide (PySem.W.exmOne K (.ref (caOf K c)) (.ref (caOf K d)) = some (Mn.isX c d))) &&
  ((tyNames.all fun a => decide (PySem.W.kitOne K (.type a) (.ref (caOf K c)) = some (Mn.isT a c))) && (PySem.W.excIn K (caOf K c) He.veBase "ValueError.__new__" && (PySem.W.keepIn K (.ref (caOf K c)) &&
  (decide (PySem.W.subIn K (.ref (caOf K c)) (.type "BaseException") = some true) && (decide (PySem.W.typeIn K (.ref (caOf K c)) = some (.type "type")) && decide (PySem.W.nsIn K mainGlobals (Str.ofString c) = some (some (.ref (caOf K c)))))))))))
theorem exF_of {K : PySem.W.Frag} {xs : List String} (h : (xs.all fun c => exB1 K xs c) = true) : ExF K (caOf K) xs ∧ ∀ c ∈ xs, PySem.W.nsIn K mainGlobals (Str.ofString c) = some (some (.ref (caOf K c))) := by
  have q : ∀ c ∈ xs, exB1 K xs c = true := List.all_eq_true.mp h
  unfold exB1 exC1 at q
  simp only [Bool.and_eq_true, decide_eq_true_eq, List.all_eq_true] at q
  refine ⟨⟨fun c hc => ?_, fun c hc => (q c hc).2.1, fun c hc d hd => ((q c hc).2.2.1 d hd).1, fun a ha d hd => (q d hd).2.2.2.1 a ha, fun c hc => (q c hc).2.2.2.2.1, fun c hc d hd => ((q c hc).2.2.1 d hd).2, fun c hc => (q c hc).2.2.2.2.2.1, fun c hc => ⟨(q c hc).2.2.2.2.2.2.1, (q c hc).2.2.2.2.2.2.2.1⟩⟩, fun c hc => (q c hc).2.2.2.2.2.2.2.2⟩
  obtain ⟨a1, a2, a3, a4, a5, a6, a7, a8⟩ := (q c hc).1
  exact ⟨a1, a2, a3, a4, a5, a6, a7, a8⟩
def isoB (K : PySem.W.Frag) (x : Str) : Bool := PySem.W.plainGet K (He.ga K x) "__class__" && (PySem.W.hasDictIn K (He.ga K x) && (decide (PySem.W.findIn K (.ref (He.ga K x)) "__class__" = some (some (.builtin "object.__class__"))) &&
  (decide (PySem.W.specialIn K (.builtin "object.__class__") "__get__" = some (some (.builtin "getset_descriptor.__get__"))) && (decide (PySem.W.takesIn K (.builtin "object.__class__") = some true) && (decide (PySem.W.mroIn K (He.ga K x) (.type "object") = some true) &&
  (decide (PySem.W.kitOne K (.ref (He.ga K x)) (.ref (He.ga K x)) = some true) && decide (PySem.W.nsIn K mainGlobals x = some (some (.ref (He.ga K x))))))))))
theorem isoB_ok {K : PySem.W.Frag} {h : Heap} {mg : Str → Option Value} (X : K.In h) (G : h.Ns mainGlobals mg) {c : String} (e : isoB K (Str.ofString c) = true) : IsoC K (caOf K c) ∧ mg (Str.ofString c) = some (.ref (caOf K c)) := by
  unfold isoB at e
  simp only [Bool.and_eq_true, decide_eq_true_eq] at e
  obtain ⟨a1, a2, a3, a4, a5, a6, a7, a8⟩ := e
  exact ⟨⟨a1, a2, a3, a4, a5, a6, a7⟩, PySem.W.mg_of X G a8⟩
def clsOf (fa : List He.Fa) : List Str := fa.filterMap fun
  | .cls x => some x
  | _ => none
theorem clsOf_mem {fa : List He.Fa} {x : Str} (h : He.Fa.cls x ∈ fa) : x ∈ clsOf fa := List.mem_filterMap.mpr ⟨_, h, rfl⟩
abbrev AlN : Type := He.AlD × Bool
def obsN (fa : List He.Fa) (fn : List He.DefD) (xs : List String) (cs : List (Str × Val)) (K : PySem.W.Frag) : AlN := (He.obsD fa fn K, (xs.all fun c => exB1 K xs c) && ((cs.all fun p => conB K p.1 p.2) && (clsOf fa).all (isoB K)))
def SaysN (fa : List He.Fa) (fn : List He.DefD) (xs : List String) (cs : List (Str × Val)) (K : PySem.W.Frag) : Prop := obsN fa fn xs cs K = (He.valD fn, true)
def obsNG (n : Nat) (fa : List He.Fa) (fn : List He.DefD) (xs : List String) (cs : List (Str × Val)) (g : Addr → Option Obj) : AlN := obsN fa fn xs cs (frN g (He.asD g n))
def hookN (n : Nat) (fa : List He.Fa) (fn : List He.DefD) (xs : List String) (cs : List (Str × Val)) : PySem.W.Hook where
  α := AlN
  obs := fun s => obsNG n fa fn xs cs s.heap.get?
  val := fun _ => (He.valD fn, true)
  says := fun _ h => ∃ K : PySem.W.Frag, K.In h ∧ NoLst K ∧ SaysN fa fn xs cs K
  of := fun _ _ e => ⟨_, frN_in, frN_nolst, e⟩
  keeps := fun _ _ _ ⟨K, hK, hl, c⟩ k => ⟨K, PySem.W.Frag.In.keeps hK k, hl, c⟩
theorem obsNG_eq {n : Nat} {fa : List He.Fa} {fn : List He.DefD} {xs : List String} {cs : List (Str × Val)} {g : Addr → Option Obj} {s : Shared} (h : ∀ a, g a = s.heap.get? a) : obsNG n fa fn xs cs g = (hookN n fa fn xs cs).obs s := by
  have e : g = s.heap.get? := funext h
  rw [e] <;> rfl
section
variable {fa : List He.Fa} {fn : List He.DefD} {xs : List String} {cs : List (Str × Val)} {K : PySem.W.Frag}
theorem SaysN.d (c : SaysN fa fn xs cs K) : He.SaysD fa fn K := congrArg (fun z : AlN => z.1) c
theorem SaysN.b (c : SaysN fa fn xs cs K) : (xs.all fun c => exB1 K xs c) = true ∧ (cs.all fun p => conB K p.1 p.2) = true ∧ ((clsOf fa).all (isoB K)) = true := by
  have e : ((xs.all fun c => exB1 K xs c) && ((cs.all fun p => conB K p.1 p.2) && (clsOf fa).all (isoB K))) = true := congrArg (fun z : AlN => z.2) c
  obtain ⟨e1, e2⟩ := Bool.and_eq_true_iff.mp e
  exact ⟨e1, Bool.and_eq_true_iff.mp e2⟩
theorem SaysN.mok {dn kn dv dw dl tx : List Str} {md io : List String} {P : Program} {w : World} {mg : Str → Option Value} {h base : Heap} (c : SaysN fa fn xs cs K) (X : K.In h) (G : h.Ns mainGlobals mg) {blt : List Str} (hb : ∀ x ∈ blt, He.Fa.free x ∈ fa) {fl : List (String × List String)} (hfl : ∀ f cs, (f, cs) ∈ fl → ∀ c ∈ cs, Cls K (caOf K c) ∧ NoAttr K (caOf K c) (Str.ofString f)) (hio : ∀ c ∈ io, He.Fa.cls (Str.ofString c) ∈ fa) :
    Mok P w K mg base ⟨K, caOf K, xs⟩ ⟨[], dn, kn, cs, blt, xs, [], [], fl, dv, dw, dl, md, io, tx⟩ 0 := by
  obtain ⟨c1, c2, c3⟩ := c.b
  obtain ⟨e1, e2⟩ := exF_of c1
  refine { hK := rfl, fn := fun _ _ _ e => (by cases e), con := fun x v e => ?_, blt := fun x hx => ?_, ex := e1, exc := fun c hc => PySem.W.mg_of X G (e2 c hc), xs := rfl, cl := fun _ _ _ _ e => (by cases e), mt := fun _ _ e => (by cases e), md := fun _ _ e => (by cases e), fl := hfl, io := fun d hd => isoB_ok X G (List.all_eq_true.mp c3 _ (clsOf_mem (hio d hd))) }
  · have q := List.all_eq_true.mp c2 (x, v) ?_
    · exact conB_ok X G rfl q
    · have go : ∀ l : List (Str × Val), l.lookup x = some v → (x, v) ∈ l := by
        intro l
        induction l with
        | nil =>
          intro h
          cases h
        | cons p r ih =>
          intro h
          rw [List.lookup_cons] at h
          cases z : x == p.1 with
          | true =>
            rw [z] at h
            cases h
            have e : x = p.1 := eq_of_beq z
            rw [e]
            exact List.mem_cons_self
          | false =>
            rw [z] at h
            exact List.mem_cons_of_mem _ (ih h)
      exact go cs e
  · obtain ⟨i, hi, e⟩ := List.mem_iff_getElem.mp (hb x hx)
    exact He.free_ok X G (c.d.fact i (by rw [List.getElem?_eq_getElem hi, e]))
end
theorem script_sp {K : PySem.W.Frag} {T : Tb} (hT : T.K = K) (nl : NoLst K) {H : Hp} {a : Addr} {ns : List Int} {F : Fn} (hO : Only H) (hS : SqL K H a (ns.map V.int)) (hF : ∃ M, F [.ref 0] [.ro (ns.map .int)] = .ok (.bl true) M) :
    spF T 1 F [.ref a] H (fun v _ => v = .bl true) fun _ _ _ => False := by
  have ro : ∃ o, H a = some (.frz o (.lst (ns.map V.int))) := by
    rcases hS with (h | h) | ⟨o, its, n, h1, h2, _⟩
    · rcases hO a with z | ⟨o, xs, z⟩
      · rw [h] at z
        cases z
      · rw [h] at z
        cases z
    · exact h
    · exact absurd h2 (nl a o h1)
  obtain ⟨o, ho⟩ := ro
  have rl : ∀ ns : List Int, Rels T [a] H (ns.map .int) (ns.map V.int) := by
    intro ns
    induction ns with
    | nil => exact .nil
    | cons n ns ih => exact .cons (.int n) ih
  refine ⟨[a], [.ro (ns.map .int)], [.ref 0], ⟨rfl, by simp, fun n b c h1 h2 => ?_⟩, .cons (.ref rfl) .nil, rfl, ?_⟩
  · cases n with
    | zero =>
      cases h1
      cases h2
      exact ⟨o, _, ho, rl ns⟩
    | succ n => cases h1
  · obtain ⟨M, e⟩ := hF
    rw [e]
    intro R' H' w p k s r
    cases r
    rfl
theorem walk_mn {l : PySem.W.OpenLaw} {n k : Nat} {q : Program} {loose : List Str} {XP : (Str → Option Value) → Heap → Prop} {YP : World → Heap → Prop} {d : DefRec} {x : Str}
    (hn : l.most = some n) (hn2 : n ≤ sizeLine) (hdf : d.params.defaults = []) (hr : Room k callerA)
    (F : ∀ (w : World) (mg : Str → Option Value) (fa : Addr) (h : Heap), YP w h → h.Ns mainGlobals mg → mg d.name = some (.ref fa) →
      ∃ (K : PySem.W.Frag) (fd : FuncData) (T : Tb) (F : Fn), K.In h ∧ NoLst K ∧ T.K = K ∧ (∀ (s : Shared) (u : Value), BindsTo s fd ⟨[u], []⟩ [(x, u)]) ∧
        (∀ ns : List Int, ns.length ≤ n → (∀ z ∈ ns, Mn.bits z ≤ 1048576) → ∃ M, F [.ref 0] [.ro (ns.map .int)] = .ok (.bl true) M) ∧
        ∀ base : Heap, K.In base → base.Ns mainGlobals mg → FnOk l.prog w K mg base (L2.CX l.prog w) k fa fd [x] (spF T 1 F)) :
    PySem.W.WalkO q loose XP YP l.row.toRowW d [] (fun f vs => PySem.call f vs) := by
  refine Att.attach_callB hn hdf fun w s₀ s₁ mg mb fa o pm cd doc a vs ns G Y ho hd hcd hmg hobj hints hlen hbits hg => ?_
  obtain ⟨K, fd, T, F, KX, nl, hT, hb, hsp, hF⟩ := F w mg fa _ Y G.T.g hmg
  refine law_call KX G.T.g G.T.b G.T.builtins G.T.nolimit hg hobj hints (Nat.le_trans hlen hn2) hr hF hb (fun H hO hS => script_sp hT nl hO hS (hsp ns hlen fun z hz => ?_)) fun H e s' h => ?_
  · have e : Mn.bits z = Builtin.Int.intBits z := by
      unfold Mn.bits Builtin.Int.intBits
      split <;> split <;> simp_all
    rw [e]
    exact hbits z hz
  · obtain ⟨_, _, _, _, _, _, _, _, _, _, _, _, z⟩ := h
    exact z
end MnS
end
section
set_option autoImplicit false
namespace Z
open Mn
def c_NOUGHT : Val := .tup [.int 0, .int 1]
def c_ONE : Val := .tup [.int 1, .int 1]
def p_shared.b : St := sSeq (sAsg (tName 0) (eUn uAbs (eVar 0))) (sSeq (sAsg (tName 1) (eUn uAbs (eVar 1))) (sSeq (sWhile (eBin cNe (eVar 1) (eC (.int 0))) (sSeq (sAsg (tName 2) (eBin oMod (eVar 0) (eVar 1))) (sSeq (sAsg (tName 0) (eVar 1)) (sAsg (tName 1) (eVar 2))))) (sRet (eVar 0))))
def p_shared : Fn := mkFn 2 3 p_shared.b
def l_whole.b : St := sRet (eAnd (eUn (uIs ["int"]) (eVar 0)) (eNot (eUn (uIs ["bool"]) (eVar 0))))
def l_whole : Fn := mkFn 1 1 l_whole.b
def l_shared.b : St := sSeq (sAsg (tName 0) (eUn uAbs (eVar 0))) (sSeq (sWhile (eBin cNe (eVar 1) (eC (.int 0))) (sPar 0 1 (eVar 1) (eBin oMod (eVar 0) (eVar 1)))) (sRet (eVar 0)))
def l_shared : Fn := mkFn 2 2 l_shared.b
def l_made.b : St := sSeq (sAsg (tName 2) (eCall l_shared [eVar 0, eVar 1])) (sRet (eTup [eBin oDiv (eVar 0) (eVar 2), eBin oDiv (eVar 1) (eVar 2)]))
def l_made : Fn := mkFn 2 3 l_made.b
def l_ratio.b : St := sSeq (sAsg (tName 1) (eBin oMod (eVar 0) (eC (.int 8)))) (sSeq (sAsg (tName 0) (eBin oDiv (eVar 0) (eC (.int 8)))) (sSeq (sIf (eBin cEq (eVar 1) (eC (.int 0))) (sRet (eCall l_made [eBin oSub (eBin oMod (eVar 0) (eBin oAdd (eBin oMul (eC (.int 2)) (eBin oPow (eC (.int 10)) (eC (.int 20)))) (eC (.int 1)))) (eBin oPow (eC (.int 10)) (eC (.int 20))), eC (.int 1)])) (sPass)) (sSeq (sIf (eBin cEq (eVar 1) (eC (.int 1))) (sRet (eCall l_made [eBin oSub (eBin oMod (eVar 0) (eBin oAdd (eBin oMul (eC (.int 2)) (eBin oPow (eC (.int 10)) (eC (.int 30)))) (eC (.int 1)))) (eBin oPow (eC (.int 10)) (eC (.int 30))), eBin oAdd (eC (.int 1)) (eBin oMod (eBin oDiv (eVar 0) (eBin oPow (eC (.int 10)) (eC (.int 31)))) (eBin oPow (eC (.int 10)) (eC (.int 30))))])) (sPass)) (sRet (eCall l_made [eBin oSub (eBin oMod (eVar 0) (eC (.int 19))) (eC (.int 9)), eBin oIx (eLst [eC (.int 1), eC (.int 1), eC (.int 1), eC (.int 2), eC (.int 3), eC (.int 4), eC (.int 6), eC (.int 12)]) (eBin oMod (eBin oDiv (eVar 0) (eC (.int 19))) (eC (.int 8)))])))))
def l_ratio : Fn := mkFn 1 2 l_ratio.b
def p_is_ratio.b : St := sSeq (sIf (eOr (eNot (eUn (uIs ["tuple"]) (eVar 0))) (eOr (eBin cNe (eUn uLen (eVar 0)) (eC (.int 2))) (eOr (eNot (eCall l_whole [eBin oIx (eVar 0) (eC (.int 0))])) (eNot (eCall l_whole [eBin oIx (eVar 0) (eC (.int 1))]))))) (sRet (eC (.bl false))) (sPass)) (sRet (eAnd (eBin cGt (eBin oIx (eVar 0) (eC (.int 1))) (eC (.int 0))) (eBin cEq (eCall p_shared [eBin oIx (eVar 0) (eC (.int 0)), eBin oIx (eVar 0) (eC (.int 1))]) (eC (.int 1)))))
def p_is_ratio : Fn := mkFn 1 1 p_is_ratio.b
end Z
end
section
set_option autoImplicit false
namespace Z
open Mn
def c_FIGURES : Val := .str (S "0123456789")
def c_MOST_FIGURES : Val := .int 60
def p_shown.b : St := sSeq (sIf (eBin cEq (eBin oIx (eVar 0) (eC (.int 1))) (eC (.int 1))) (sRet (eUn uStr (eBin oIx (eVar 0) (eC (.int 0))))) (sPass)) (sRet (eBin oAdd (eBin oAdd (eUn uStr (eBin oIx (eVar 0) (eC (.int 0)))) (eC (.str (S "/")))) (eUn uStr (eBin oIx (eVar 0) (eC (.int 1))))))
def p_shown : Fn := mkFn 1 1 p_shown.b
def p_read_whole.b : St := sSeq (sAsg (tName 1) (eVar 0)) (sSeq (sIf (eM1 "str" mStarts (eVar 0) (eC (.str (S "-")))) (sAsg (tName 1) (eSl (eVar 0) (some (eC (.int 1))) none)) (sPass)) (sSeq (sIf (eOr (eBin cEq (eVar 1) (eC (.str (S "")))) (eBin cGt (eUn uLen (eVar 1)) (eC c_MOST_FIGURES))) (sRaise "NoText") (sPass)) (sSeq (sFor (iStr (eVar 1)) (tName 2) (sIf (eBin (cInS true) (eVar 2) (eC c_FIGURES)) (sRaise "NoText") (sPass))) (sSeq (sIf (eAnd (eBin cEq (eBin oIxS (eVar 1) (eC (.int 0))) (eC (.str (S "0")))) (eBin cNe (eVar 0) (eC (.str (S "0"))))) (sRaise "NoText") (sPass)) (sSeq (sIf (eBin cEq (eVar 1) (eVar 0)) (sRet (eUn uIntS (eVar 1))) (sPass)) (sRet (eUn oNeg (eUn uIntS (eVar 1)))))))))
def p_read_whole : Fn := mkFn 1 3 p_read_whole.b
def p_read.b : St := sSeq (sIf (eNot (eUn (uIs ["str"]) (eVar 0))) (sRaise "NoText") (sPass)) (sSeq (sAsg (tTup [tName 1, tName 2, tName 3]) (eM1 "str" mPart (eVar 0) (eC (.str (S "/"))))) (sSeq (sIf (eBin cEq (eVar 2) (eC (.str (S "")))) (sRet (eTup [eCall p_read_whole [eVar 1], eC (.int 1)])) (sPass)) (sSeq (sAsg (tName 4) (eTup [eCall p_read_whole [eVar 1], eCall p_read_whole [eVar 3]])) (sSeq (sIf (eOr (eBin cLt (eBin oIx (eVar 4) (eC (.int 1))) (eC (.int 2))) (eNot (eCall p_is_ratio [eVar 4]))) (sRaise "NoText") (sPass)) (sRet (eVar 4))))))
def p_read : Fn := mkFn 1 5 p_read.b
def p_shown_row.b : St := sRet (eM1 "str" mJoin (eC (.str (S ","))) (eLc (iList (eVar 0)) (tName 1) [1] (eC (.bl true)) (eCall p_shown [eVar 1])))
def p_shown_row : Fn := mkFn 1 2 p_shown_row.b
def p_read_row.b : St := sSeq (sIf (eNot (eUn (uIs ["str"]) (eVar 0))) (sRaise "NoText") (sPass)) (sSeq (sIf (eBin cEq (eVar 0) (eC (.str (S "")))) (sRet (eLst [])) (sPass)) (sRet (eLc (iList (eM1 "str" mSplit (eVar 0) (eC (.str (S ","))))) (tName 1) [1] (eC (.bl true)) (eCall p_read [eVar 1]))))
def p_read_row : Fn := mkFn 1 2 p_read_row.b
def l_great_11.b : St := sRet (eBin oMod (eBin oMul (eBin oMul (eBin oMul (eBin oAdd (eVar 0) (eC (.int 11))) (eBin oPow (eC (.int 7)) (eC (.int 61)))) (eBin oPow (eC (.int 11)) (eC (.int 63)))) (eBin oPow (eC (.int 13)) (eC (.int 9)))) (eBin oMul (eBin oPow (eC (.int 10)) (eC (.int 60))) (eBin oPow (eC (.int 10)) (eC (.int 60)))))
def l_great_11 : Fn := mkFn 1 1 l_great_11.b
def l_text.b : St := sSeq (sAsg (tName 1) (eC (.str (S "")))) (sSeq (sIf (eBin cLt (eBin oIx (eVar 0) (eC (.int 0))) (eC (.int 0))) (sAsg (tName 1) (eC (.str (S "-")))) (sPass)) (sSeq (sAsg (tName 1) (eBin oAdd (eVar 1) (eUn uStr (eUn uAbs (eBin oIx (eVar 0) (eC (.int 0))))))) (sSeq (sIf (eBin cGt (eBin oIx (eVar 0) (eC (.int 1))) (eC (.int 1))) (sAsg (tName 1) (eBin oAdd (eBin oAdd (eVar 1) (eC (.str (S "/")))) (eUn uStr (eBin oIx (eVar 0) (eC (.int 1)))))) (sPass)) (sRet (eVar 1)))))
def l_text : Fn := mkFn 1 2 l_text.b
def l_is_3.b : St := sSeq (sIf (eOr (eNot (eUn (uIs ["tuple"]) (eVar 0))) (eBin cNe (eUn uLen (eVar 0)) (eC (.int 2)))) (sRet (eC (.bl false))) (sPass)) (sRet (eAnd (eCall l_whole [eBin oIx (eVar 0) (eC (.int 0))]) (eAnd (eCall l_whole [eBin oIx (eVar 0) (eC (.int 1))]) (eBin cEq (eVar 0) (eVar 1)))))
def l_is_3 : Fn := mkFn 2 2 l_is_3.b
def l_row_told.b : St := sSeq (sAsg (tName 1) (eUn uList (eVar 0))) (sSeq (sAsg (tName 2) (eCall p_shown_row [eVar 1])) (sSeq (sIf (eOr (eNot (eUn (uIs ["str"]) (eVar 2))) (eOr (eBin cNe (eVar 2) (eM1 "str" mJoin (eC (.str (S ","))) (eLc (iList (eVar 0)) (tName 3) [3] (eC (.bl true)) (eCall l_text [eVar 3])))) (eBin cNe (eVar 1) (eVar 0)))) (sRet (eC (.bl false))) (sPass)) (sSeq (sAsg (tName 4) (eCall p_read_row [eVar 2])) (sSeq (sIf (eOr (eNot (eUn (uIs ["list"]) (eVar 4))) (eBin cNe (eUn uLen (eVar 4)) (eUn uLen (eVar 0)))) (sRet (eC (.bl false))) (sPass)) (sRet (eUn uAll (eLc (iRange1 (eUn uLen (eVar 0))) (tName 5) [5] (eC (.bl true)) (eCall l_is_3 [eBin oIx (eVar 4) (eVar 5), eBin oIx (eVar 0) (eVar 5)]))))))))
def l_row_told : Fn := mkFn 1 6 l_row_told.b
def law_k04.b : St := sSeq (sAsg (tName 1) (eLst [])) (sSeq (sFor (iList (eVar 0)) (tName 2) (sSeq (sAsg (tName 3) (eCall l_great_11 [eVar 2])) (sSeq (sAsg (tName 4) (eCall l_ratio [eBin oDiv (eVar 3) (eC (.int 8))])) (sSeq (sIf (eBin cEq (eBin oMod (eVar 3) (eC (.int 8))) (eC (.int 5))) (sAsg (tName 4) (eCall l_made [eBin oAdd (eBin oSub (eBin oMod (eBin oDiv (eVar 3) (eC (.int 8))) (eBin oSub (eBin oMul (eC (.int 2)) (eBin oPow (eC (.int 10)) (eC (.int 60)))) (eC (.int 1)))) (eBin oPow (eC (.int 10)) (eC (.int 60)))) (eC (.int 1)), eBin oAdd (eC (.int 1)) (eBin oMod (eCall l_great_11 [eBin oAdd (eVar 2) (eC (.int 1))]) (eBin oSub (eBin oPow (eC (.int 10)) (eC (.int 60))) (eC (.int 1))))])) (sPass)) (sSeq (sAsg (tName 5) (eCall p_shown [eVar 4])) (sSeq (sIf (eOr (eNot (eUn (uIs ["str"]) (eVar 5))) (eOr (eBin cNe (eVar 5) (eCall l_text [eVar 4])) (eNot (eCall l_is_3 [eCall p_read [eVar 5], eVar 4])))) (sRet (eC (.bl false))) (sPass)) (sSeq (sAsg (tName 1) (eSl (eBin oAdd (eVar 1) (eLst [eVar 4])) (some (eUn oNeg (eBin oAdd (eC (.int 1)) (eBin oMod (eVar 3) (eC (.int 9)))))) none)) (sIf (eNot (eCall l_row_told [eVar 1])) (sRet (eC (.bl false))) (sPass))))))))) (sRet (eAnd (eCall l_row_told [eLst []]) (eBin cEq (eCall p_shown [eTup [eC (.int 0), eC (.int 1)]]) (eC (.str (S "0")))))))
def law_k04 : Fn := mkFn 1 6 law_k04.b
end Z
end
section
set_option autoImplicit false
namespace Lk04
open Mn Z
abbrev f_is_whole : Fn := l_whole
abbrev f_shared : Fn := p_shared
abbrev f_is_ratio : Fn := p_is_ratio
abbrev f_shown : Fn := p_shown
abbrev f_read_whole : Fn := p_read_whole
abbrev f_read : Fn := p_read
abbrev f_shown_row : Fn := p_shown_row
abbrev f_read_row : Fn := p_read_row
abbrev f__law_whole : Fn := l_whole
abbrev f__law_great : Fn := l_great_11
abbrev f__law_shared : Fn := l_shared
abbrev f__law_made : Fn := l_made
abbrev f__law_ratio : Fn := l_ratio
abbrev f__law_text : Fn := l_text
abbrev f__law_is : Fn := l_is_3
abbrev f__law_row_told : Fn := l_row_told
abbrev f_law : Fn := law_k04
end Lk04
end
section
set_option Elab.async false
set_option autoImplicit false
set_option linter.all false
set_option maxRecDepth 100000
set_option maxHeartbeats 4000000
namespace Lk04
open PySem PySem.Spec PyProof.Rows L2 MnS
open Mn (Val Fn)
open Z
def top (i : Nat) : Stmt := PySem.Challenge.pw_nearplane_k04_written_and_read.main.body.getD i (.Pass ⟨0, 0, 0, 0⟩)
abbrev st_is_whole : Stmt := top 4
theorem sc_is_whole : FnScope ["thing"] ["thing"] (defScope st_is_whole) := ⟨rfl, rfl, rfl, by decide +kernel, rfl, by decide +kernel, by decide +kernel⟩
def dd_is_whole : He.DefD := ⟨("is_whole", none), "is_whole", "is_whole", defArgs st_is_whole, defBody st_is_whole, defScope st_is_whole, [], []⟩
abbrev st_shared : Stmt := top 5
theorem sc_shared : FnScope ["one", "other", "rest"] ["one", "other"] (defScope st_shared) := ⟨rfl, rfl, rfl, by decide +kernel, rfl, by decide +kernel, by decide +kernel⟩
def dd_shared : He.DefD := ⟨("shared", none), "shared", "shared", defArgs st_shared, defBody st_shared, defScope st_shared, [], []⟩
abbrev st_is_ratio : Stmt := top 6
theorem sc_is_ratio : FnScope ["thing"] ["thing"] (defScope st_is_ratio) := ⟨rfl, rfl, rfl, by decide +kernel, rfl, by decide +kernel, by decide +kernel⟩
def dd_is_ratio : He.DefD := ⟨("is_ratio", none), "is_ratio", "is_ratio", defArgs st_is_ratio, defBody st_is_ratio, defScope st_is_ratio, [], []⟩
abbrev st_shown : Stmt := top 10
theorem sc_shown : FnScope ["one"] ["one"] (defScope st_shown) := ⟨rfl, rfl, rfl, by decide +kernel, rfl, by decide +kernel, by decide +kernel⟩
def dd_shown : He.DefD := ⟨("shown", none), "shown", "shown", defArgs st_shown, defBody st_shown, defScope st_shown, [], []⟩
abbrev st_read_whole : Stmt := top 11
theorem sc_read_whole : FnScope ["text", "figures", "sign"] ["text"] (defScope st_read_whole) := ⟨rfl, rfl, rfl, by decide +kernel, rfl, by decide +kernel, by decide +kernel⟩
def dd_read_whole : He.DefD := ⟨("read_whole", none), "read_whole", "read_whole", defArgs st_read_whole, defBody st_read_whole, defScope st_read_whole, [], []⟩
abbrev st_read : Stmt := top 12
theorem sc_read : FnScope ["text", "top", "stroke", "bottom", "found"] ["text"] (defScope st_read) := ⟨rfl, rfl, rfl, by decide +kernel, rfl, by decide +kernel, by decide +kernel⟩
def dd_read : He.DefD := ⟨("read", none), "read", "read", defArgs st_read, defBody st_read, defScope st_read, [], []⟩
abbrev st_shown_row : Stmt := top 13
theorem sc_shown_row : FnScope ["row", "one"] ["row"] (defScope st_shown_row) := ⟨rfl, rfl, rfl, by decide +kernel, rfl, by decide +kernel, by decide +kernel⟩
def dd_shown_row : He.DefD := ⟨("shown_row", none), "shown_row", "shown_row", defArgs st_shown_row, defBody st_shown_row, defScope st_shown_row, [], []⟩
abbrev st_read_row : Stmt := top 14
theorem sc_read_row : FnScope ["text", "part"] ["text"] (defScope st_read_row) := ⟨rfl, rfl, rfl, by decide +kernel, rfl, by decide +kernel, by decide +kernel⟩
def dd_read_row : He.DefD := ⟨("read_row", none), "read_row", "read_row", defArgs st_read_row, defBody st_read_row, defScope st_read_row, [], []⟩
abbrev st__law_whole : Stmt := top 16
theorem sc__law_whole : FnScope ["_law_thing"] ["_law_thing"] (defScope st__law_whole) := ⟨rfl, rfl, rfl, by decide +kernel, rfl, by decide +kernel, by decide +kernel⟩
def dd__law_whole : He.DefD := ⟨("_law_whole", none), "_law_whole", "_law_whole", defArgs st__law_whole, defBody st__law_whole, defScope st__law_whole, [], []⟩
abbrev st__law_great : Stmt := top 17
theorem sc__law_great : FnScope ["_law_cell"] ["_law_cell"] (defScope st__law_great) := ⟨rfl, rfl, rfl, by decide +kernel, rfl, by decide +kernel, by decide +kernel⟩
def dd__law_great : He.DefD := ⟨("_law_great", none), "_law_great", "_law_great", defArgs st__law_great, defBody st__law_great, defScope st__law_great, [], []⟩
abbrev st__law_shared : Stmt := top 18
theorem sc__law_shared : FnScope ["_law_one", "_law_other"] ["_law_one", "_law_other"] (defScope st__law_shared) := ⟨rfl, rfl, rfl, by decide +kernel, rfl, by decide +kernel, by decide +kernel⟩
def dd__law_shared : He.DefD := ⟨("_law_shared", none), "_law_shared", "_law_shared", defArgs st__law_shared, defBody st__law_shared, defScope st__law_shared, [], []⟩
abbrev st__law_made : Stmt := top 19
theorem sc__law_made : FnScope ["_law_top", "_law_bottom", "_law_by"] ["_law_top", "_law_bottom"] (defScope st__law_made) := ⟨rfl, rfl, rfl, by decide +kernel, rfl, by decide +kernel, by decide +kernel⟩
def dd__law_made : He.DefD := ⟨("_law_made", none), "_law_made", "_law_made", defArgs st__law_made, defBody st__law_made, defScope st__law_made, [], []⟩
abbrev st__law_ratio : Stmt := top 20
theorem sc__law_ratio : FnScope ["_law_number", "_law_way"] ["_law_number"] (defScope st__law_ratio) := ⟨rfl, rfl, rfl, by decide +kernel, rfl, by decide +kernel, by decide +kernel⟩
def dd__law_ratio : He.DefD := ⟨("_law_ratio", none), "_law_ratio", "_law_ratio", defArgs st__law_ratio, defBody st__law_ratio, defScope st__law_ratio, [], []⟩
abbrev st__law_text : Stmt := top 21
theorem sc__law_text : FnScope ["_law_one", "_law_text_here"] ["_law_one"] (defScope st__law_text) := ⟨rfl, rfl, rfl, by decide +kernel, rfl, by decide +kernel, by decide +kernel⟩
def dd__law_text : He.DefD := ⟨("_law_text", none), "_law_text", "_law_text", defArgs st__law_text, defBody st__law_text, defScope st__law_text, [], []⟩
abbrev st__law_is : Stmt := top 22
theorem sc__law_is : FnScope ["_law_found", "_law_due"] ["_law_found", "_law_due"] (defScope st__law_is) := ⟨rfl, rfl, rfl, by decide +kernel, rfl, by decide +kernel, by decide +kernel⟩
def dd__law_is : He.DefD := ⟨("_law_is", none), "_law_is", "_law_is", defArgs st__law_is, defBody st__law_is, defScope st__law_is, [], []⟩
abbrev st__law_row_told : Stmt := top 23
theorem sc__law_row_told : FnScope ["_law_row", "_law_handed", "_law_text_here", "_law_one", "_law_found", "_law_k"] ["_law_row"] (defScope st__law_row_told) := ⟨rfl, rfl, rfl, by decide +kernel, rfl, by decide +kernel, by decide +kernel⟩
def dd__law_row_told : He.DefD := ⟨("_law_row_told", none), "_law_row_told", "_law_row_told", defArgs st__law_row_told, defBody st__law_row_told, defScope st__law_row_told, [], []⟩
abbrev st_law : Stmt := top 24
theorem sc_law : FnScope ["_law_script", "_law_row", "_law_cell", "_law_number", "_law_one", "_law_text_here"] ["_law_script"] (defScope st_law) := ⟨rfl, rfl, rfl, by decide +kernel, rfl, by decide +kernel, by decide +kernel⟩
def dd_law : He.DefD := ⟨("law", none), "law", "law", defArgs st_law, defBody st_law, defScope st_law, [], []⟩
def fn : List He.DefD := [dd_is_whole, dd_shared, dd_is_ratio, dd_shown, dd_read_whole, dd_read, dd_shown_row, dd_read_row, dd__law_whole, dd__law_great, dd__law_shared, dd__law_made, dd__law_ratio, dd__law_text, dd__law_is, dd__law_row_told, dd_law]
def blt : List Str := ["abs", "all", "bool", "int", "isinstance", "len", "list", "range", "str", "tuple"]
def fa : List He.Fa := [.glo "is_whole", .glo "shared", .glo "is_ratio", .glo "shown", .glo "read_whole", .glo "read", .glo "shown_row", .glo "read_row", .glo "_law_whole", .glo "_law_great", .glo "_law_shared", .glo "_law_made", .glo "_law_ratio", .glo "_law_text", .glo "_law_is", .glo "_law_row_told", .glo "law", .free "abs", .free "all", .free "bool", .free "int", .free "isinstance", .free "len", .free "list", .free "range", .free "str", .free "tuple"]
def fl : List (String × List String) := []
def xs : List String := ["PlaneError", "NoText"]
def cs : List (Str × Val) := [("FIGURES", c_FIGURES), ("MOST_FIGURES", c_MOST_FIGURES)]
abbrev R : PySem.W.OpenRow := PySem.W.OpenLaw.row PySem.Challenge.rw_nearplane_k04_written_and_read
abbrev hk : PySem.W.Hook := hookN 4 fa fn xs cs
def ob (s : PySem.W.SharedT) : AlN := obsNG 4 fa fn xs cs (HandSHeadRun.getT s)
theorem ob_eq (s : PySem.W.SharedT) : ob s = hk.obs s.abs := obsNG_eq (HandSHeadRun.getT_eq s)
def loose : List Str := (["PlaneError", "NoText", "is_whole", "shared", "is_ratio", "FIGURES", "MOST_FIGURES", "shown", "read_whole", "read", "shown_row", "read_row", "_law_whole", "_law_great", "_law_shared", "_law_made", "_law_ratio", "_law_text", "_law_is", "_law_row_told"] : List Str)
theorem run (w : World) : HandSHeadRun.RunEq R (PySem.W.view R.prog [24]) hk ob 20000 loose w := by
  intro os
  kernel_rfl
section
variable {P : Program} {w : World} {K : PySem.W.Frag} {mg : Str → Option Value} {h : Heap}
theorem blt_ok : ∀ x ∈ blt, He.Fa.free x ∈ fa := by
  intro x hx
  unfold blt at hx
  unfold fa
  simp only [List.mem_cons, List.not_mem_nil, or_false] at hx
  rcases hx with rfl | rfl | rfl | rfl | rfl | rfl | rfl | rfl | rfl | rfl <;> simp
def md_is_whole : Md := ⟨[], [], [], cs, blt, xs, [], [], fl, [], [], [], [], [], ["figures", "FIGURES", "LETTERS", "word"]⟩
theorem den_is_whole : denSs (dcOf md_is_whole ["thing"] (defScope st_is_whole)) 100 (defBody st_is_whole) = some l_whole.b := by
  kernel_rfl
def md_shared : Md := { md_is_whole with fn := ("is_whole", (f_is_whole, 1)) :: md_is_whole.fn }
theorem den_shared : denSs (dcOf md_shared ["one", "other", "rest"] (defScope st_shared)) 100 (defBody st_shared) = some p_shared.b := by
  kernel_rfl
def md_is_ratio : Md := { md_shared with fn := ("shared", (f_shared, 2)) :: md_shared.fn }
theorem den_is_ratio : denSs (dcOf md_is_ratio ["thing"] (defScope st_is_ratio)) 100 (defBody st_is_ratio) = some p_is_ratio.b := by
  kernel_rfl
def md_shown : Md := { md_is_ratio with fn := ("is_ratio", (f_is_ratio, 1)) :: md_is_ratio.fn }
theorem den_shown : denSs (dcOf md_shown ["one"] (defScope st_shown)) 100 (defBody st_shown) = some p_shown.b := by
  kernel_rfl
def md_read_whole : Md := { md_shown with fn := ("shown", (f_shown, 1)) :: md_shown.fn }
theorem den_read_whole : denSs (dcOf md_read_whole ["text", "figures", "sign"] (defScope st_read_whole)) 100 (defBody st_read_whole) = some p_read_whole.b := by
  kernel_rfl
def md_read : Md := { md_read_whole with fn := ("read_whole", (f_read_whole, 1)) :: md_read_whole.fn }
theorem den_read : denSs (dcOf md_read ["text", "top", "stroke", "bottom", "found"] (defScope st_read)) 100 (defBody st_read) = some p_read.b := by
  kernel_rfl
def md_shown_row : Md := { md_read with fn := ("read", (f_read, 1)) :: md_read.fn }
theorem den_shown_row : denSs (dcOf md_shown_row ["row", "one"] (defScope st_shown_row)) 100 (defBody st_shown_row) = some p_shown_row.b := by
  kernel_rfl
def md_read_row : Md := { md_shown_row with fn := ("shown_row", (f_shown_row, 1)) :: md_shown_row.fn }
theorem den_read_row : denSs (dcOf md_read_row ["text", "part"] (defScope st_read_row)) 100 (defBody st_read_row) = some p_read_row.b := by
  kernel_rfl
def md__law_whole : Md := { md_read_row with fn := ("read_row", (f_read_row, 1)) :: md_read_row.fn }
theorem den__law_whole : denSs (dcOf md__law_whole ["_law_thing"] (defScope st__law_whole)) 100 (defBody st__law_whole) = some l_whole.b := by
  kernel_rfl
def md__law_great : Md := { md__law_whole with fn := ("_law_whole", (f__law_whole, 1)) :: md__law_whole.fn }
theorem den__law_great : denSs (dcOf md__law_great ["_law_cell"] (defScope st__law_great)) 100 (defBody st__law_great) = some l_great_11.b := by
  kernel_rfl
def md__law_shared : Md := { md__law_great with fn := ("_law_great", (f__law_great, 1)) :: md__law_great.fn }
theorem den__law_shared : denSs (dcOf md__law_shared ["_law_one", "_law_other"] (defScope st__law_shared)) 100 (defBody st__law_shared) = some l_shared.b := by
  kernel_rfl
def md__law_made : Md := { md__law_shared with fn := ("_law_shared", (f__law_shared, 2)) :: md__law_shared.fn }
theorem den__law_made : denSs (dcOf md__law_made ["_law_top", "_law_bottom", "_law_by"] (defScope st__law_made)) 100 (defBody st__law_made) = some l_made.b := by
  kernel_rfl
def md__law_ratio : Md := { md__law_made with fn := ("_law_made", (f__law_made, 2)) :: md__law_made.fn }
theorem den__law_ratio : denSs (dcOf md__law_ratio ["_law_number", "_law_way"] (defScope st__law_ratio)) 100 (defBody st__law_ratio) = some l_ratio.b := by
  kernel_rfl
def md__law_text : Md := { md__law_ratio with fn := ("_law_ratio", (f__law_ratio, 1)) :: md__law_ratio.fn }
theorem den__law_text : denSs (dcOf md__law_text ["_law_one", "_law_text_here"] (defScope st__law_text)) 100 (defBody st__law_text) = some l_text.b := by
  kernel_rfl
def md__law_is : Md := { md__law_text with fn := ("_law_text", (f__law_text, 1)) :: md__law_text.fn }
theorem den__law_is : denSs (dcOf md__law_is ["_law_found", "_law_due"] (defScope st__law_is)) 100 (defBody st__law_is) = some l_is_3.b := by
  kernel_rfl
def md__law_row_told : Md := { md__law_is with fn := ("_law_is", (f__law_is, 2)) :: md__law_is.fn }
theorem den__law_row_told : denSs (dcOf md__law_row_told ["_law_row", "_law_handed", "_law_text_here", "_law_one", "_law_found", "_law_k"] (defScope st__law_row_told)) 100 (defBody st__law_row_told) = some l_row_told.b := by
  kernel_rfl
def md_law : Md := { md__law_row_told with fn := ("_law_row_told", (f__law_row_told, 1)) :: md__law_row_told.fn }
theorem den_law : denSs (dcOf md_law ["_law_script", "_law_row", "_law_cell", "_law_number", "_law_one", "_law_text_here"] (defScope st_law)) 100 (defBody st_law) = some law_k04.b := by
  kernel_rfl
theorem fl_ok (c : SaysN fa fn xs cs K) : ∀ f cs, (f, cs) ∈ fl → ∀ c ∈ cs, Cls K (caOf K c) ∧ NoAttr K (caOf K c) (Str.ofString f) := by
  intro f cs h d hd
  unfold fl at h
  simp only [List.mem_cons, List.not_mem_nil, or_false, Prod.mk.injEq] at h
  all_goals cases h
theorem io_ok : ∀ c ∈ ([] : List String), He.Fa.cls (Str.ofString c) ∈ fa := by
  intro c hc
  simp only [List.mem_cons, List.not_mem_nil, or_false] at hc
  try exact hc.elim
theorem facts {f : Addr} (X : K.In h) (G : h.Ns mainGlobals mg) (hfa : mg ("law" : Str) = some (.ref f)) (c : SaysN fa fn xs cs K) :
    ∃ fd : FuncData, (∀ (s : Shared) (v : Value), BindsTo s fd ⟨[v], []⟩ [("_law_script", v)]) ∧ ∀ base : Heap, K.In base → base.Ns mainGlobals mg → FnOk P w K mg base (L2.CX P w) 17 f fd ["_law_script"] (spF ⟨K, caOf K, xs⟩ 1 f_law) := by
  obtain ⟨fd0, F0⟩ := c.d.def_ 0 (d := dd_is_whole) rfl
  have g0 := He.glo_ok X G (c.d.fact 0 (f := .glo "is_whole") rfl)
  have n0 : Binds K fd0 ["thing"] [] := FunD.bindsN F0 fun _ _ _ _ _ _ us hl => match us, hl with | [_], _ => rfl
  obtain ⟨fd1, F1⟩ := c.d.def_ 1 (d := dd_shared) rfl
  have g1 := He.glo_ok X G (c.d.fact 1 (f := .glo "shared") rfl)
  have n1 : Binds K fd1 ["one", "other"] [] := FunD.bindsN F1 fun _ _ _ _ _ _ us hl => match us, hl with | [_, _], _ => rfl
  obtain ⟨fd2, F2⟩ := c.d.def_ 2 (d := dd_is_ratio) rfl
  have g2 := He.glo_ok X G (c.d.fact 2 (f := .glo "is_ratio") rfl)
  have n2 : Binds K fd2 ["thing"] [] := FunD.bindsN F2 fun _ _ _ _ _ _ us hl => match us, hl with | [_], _ => rfl
  obtain ⟨fd3, F3⟩ := c.d.def_ 3 (d := dd_shown) rfl
  have g3 := He.glo_ok X G (c.d.fact 3 (f := .glo "shown") rfl)
  have n3 : Binds K fd3 ["one"] [] := FunD.bindsN F3 fun _ _ _ _ _ _ us hl => match us, hl with | [_], _ => rfl
  obtain ⟨fd4, F4⟩ := c.d.def_ 4 (d := dd_read_whole) rfl
  have g4 := He.glo_ok X G (c.d.fact 4 (f := .glo "read_whole") rfl)
  have n4 : Binds K fd4 ["text"] [] := FunD.bindsN F4 fun _ _ _ _ _ _ us hl => match us, hl with | [_], _ => rfl
  obtain ⟨fd5, F5⟩ := c.d.def_ 5 (d := dd_read) rfl
  have g5 := He.glo_ok X G (c.d.fact 5 (f := .glo "read") rfl)
  have n5 : Binds K fd5 ["text"] [] := FunD.bindsN F5 fun _ _ _ _ _ _ us hl => match us, hl with | [_], _ => rfl
  obtain ⟨fd6, F6⟩ := c.d.def_ 6 (d := dd_shown_row) rfl
  have g6 := He.glo_ok X G (c.d.fact 6 (f := .glo "shown_row") rfl)
  have n6 : Binds K fd6 ["row"] [] := FunD.bindsN F6 fun _ _ _ _ _ _ us hl => match us, hl with | [_], _ => rfl
  obtain ⟨fd7, F7⟩ := c.d.def_ 7 (d := dd_read_row) rfl
  have g7 := He.glo_ok X G (c.d.fact 7 (f := .glo "read_row") rfl)
  have n7 : Binds K fd7 ["text"] [] := FunD.bindsN F7 fun _ _ _ _ _ _ us hl => match us, hl with | [_], _ => rfl
  obtain ⟨fd8, F8⟩ := c.d.def_ 8 (d := dd__law_whole) rfl
  have g8 := He.glo_ok X G (c.d.fact 8 (f := .glo "_law_whole") rfl)
  have n8 : Binds K fd8 ["_law_thing"] [] := FunD.bindsN F8 fun _ _ _ _ _ _ us hl => match us, hl with | [_], _ => rfl
  obtain ⟨fd9, F9⟩ := c.d.def_ 9 (d := dd__law_great) rfl
  have g9 := He.glo_ok X G (c.d.fact 9 (f := .glo "_law_great") rfl)
  have n9 : Binds K fd9 ["_law_cell"] [] := FunD.bindsN F9 fun _ _ _ _ _ _ us hl => match us, hl with | [_], _ => rfl
  obtain ⟨fd10, F10⟩ := c.d.def_ 10 (d := dd__law_shared) rfl
  have g10 := He.glo_ok X G (c.d.fact 10 (f := .glo "_law_shared") rfl)
  have n10 : Binds K fd10 ["_law_one", "_law_other"] [] := FunD.bindsN F10 fun _ _ _ _ _ _ us hl => match us, hl with | [_, _], _ => rfl
  obtain ⟨fd11, F11⟩ := c.d.def_ 11 (d := dd__law_made) rfl
  have g11 := He.glo_ok X G (c.d.fact 11 (f := .glo "_law_made") rfl)
  have n11 : Binds K fd11 ["_law_top", "_law_bottom"] [] := FunD.bindsN F11 fun _ _ _ _ _ _ us hl => match us, hl with | [_, _], _ => rfl
  obtain ⟨fd12, F12⟩ := c.d.def_ 12 (d := dd__law_ratio) rfl
  have g12 := He.glo_ok X G (c.d.fact 12 (f := .glo "_law_ratio") rfl)
  have n12 : Binds K fd12 ["_law_number"] [] := FunD.bindsN F12 fun _ _ _ _ _ _ us hl => match us, hl with | [_], _ => rfl
  obtain ⟨fd13, F13⟩ := c.d.def_ 13 (d := dd__law_text) rfl
  have g13 := He.glo_ok X G (c.d.fact 13 (f := .glo "_law_text") rfl)
  have n13 : Binds K fd13 ["_law_one"] [] := FunD.bindsN F13 fun _ _ _ _ _ _ us hl => match us, hl with | [_], _ => rfl
  obtain ⟨fd14, F14⟩ := c.d.def_ 14 (d := dd__law_is) rfl
  have g14 := He.glo_ok X G (c.d.fact 14 (f := .glo "_law_is") rfl)
  have n14 : Binds K fd14 ["_law_found", "_law_due"] [] := FunD.bindsN F14 fun _ _ _ _ _ _ us hl => match us, hl with | [_, _], _ => rfl
  obtain ⟨fd15, F15⟩ := c.d.def_ 15 (d := dd__law_row_told) rfl
  have g15 := He.glo_ok X G (c.d.fact 15 (f := .glo "_law_row_told") rfl)
  have n15 : Binds K fd15 ["_law_row"] [] := FunD.bindsN F15 fun _ _ _ _ _ _ us hl => match us, hl with | [_], _ => rfl
  obtain ⟨fd16, F16⟩ := c.d.def_ 16 (d := dd_law) rfl
  have e := hfa.symm.trans (He.glo_ok X G (c.d.fact 16 (f := .glo "law") rfl))
  cases e
  have b := FunD.bindsA (ps := ["_law_script"]) F16 fun _ _ _ _ _ _ us hl => match us, hl with | [_], _ => rfl
  refine ⟨fd16, fun s v => b s [v] rfl, fun base _ _ => ?_⟩
  have M0 : Mok P w K mg base ⟨K, caOf K, xs⟩ md_is_whole 0 := c.mok X G blt_ok (fl_ok c) io_ok
  have M1 : Mok P w K mg base ⟨K, caOf K, xs⟩ md_shared 1 := M0.add F0 sc_is_whole den_is_whole g0 n0 (by decide +kernel)
  have M2 : Mok P w K mg base ⟨K, caOf K, xs⟩ md_is_ratio 2 := M1.add F1 sc_shared den_shared g1 n1 (by decide +kernel)
  have M3 : Mok P w K mg base ⟨K, caOf K, xs⟩ md_shown 3 := M2.add F2 sc_is_ratio den_is_ratio g2 n2 (by decide +kernel)
  have M4 : Mok P w K mg base ⟨K, caOf K, xs⟩ md_read_whole 4 := M3.add F3 sc_shown den_shown g3 n3 (by decide +kernel)
  have M5 : Mok P w K mg base ⟨K, caOf K, xs⟩ md_read 5 := M4.add F4 sc_read_whole den_read_whole g4 n4 (by decide +kernel)
  have M6 : Mok P w K mg base ⟨K, caOf K, xs⟩ md_shown_row 6 := M5.add F5 sc_read den_read g5 n5 (by decide +kernel)
  have M7 : Mok P w K mg base ⟨K, caOf K, xs⟩ md_read_row 7 := M6.add F6 sc_shown_row den_shown_row g6 n6 (by decide +kernel)
  have M8 : Mok P w K mg base ⟨K, caOf K, xs⟩ md__law_whole 8 := M7.add F7 sc_read_row den_read_row g7 n7 (by decide +kernel)
  have M9 : Mok P w K mg base ⟨K, caOf K, xs⟩ md__law_great 9 := M8.add F8 sc__law_whole den__law_whole g8 n8 (by decide +kernel)
  have M10 : Mok P w K mg base ⟨K, caOf K, xs⟩ md__law_shared 10 := M9.add F9 sc__law_great den__law_great g9 n9 (by decide +kernel)
  have M11 : Mok P w K mg base ⟨K, caOf K, xs⟩ md__law_made 11 := M10.add F10 sc__law_shared den__law_shared g10 n10 (by decide +kernel)
  have M12 : Mok P w K mg base ⟨K, caOf K, xs⟩ md__law_ratio 12 := M11.add F11 sc__law_made den__law_made g11 n11 (by decide +kernel)
  have M13 : Mok P w K mg base ⟨K, caOf K, xs⟩ md__law_text 13 := M12.add F12 sc__law_ratio den__law_ratio g12 n12 (by decide +kernel)
  have M14 : Mok P w K mg base ⟨K, caOf K, xs⟩ md__law_is 14 := M13.add F13 sc__law_text den__law_text g13 n13 (by decide +kernel)
  have M15 : Mok P w K mg base ⟨K, caOf K, xs⟩ md__law_row_told 15 := M14.add F14 sc__law_is den__law_is g14 n14 (by decide +kernel)
  have M16 : Mok P w K mg base ⟨K, caOf K, xs⟩ md_law 16 := M15.add F15 sc__law_row_told den__law_row_told g15 n15 (by decide +kernel)
  exact M16.fnOk F16 sc_law den_law
end
end Lk04
end
section
set_option Elab.async false
set_option autoImplicit false
namespace Mn
section
variable (ρ : Env) (M : Store) (a b c : E) (f g : Op) (x y v w : Val) (es : List E) (k : String)
def kBin2 (f : Op) (x : Val) : R Val → R Val
  | .ok y M => R.of (f x y M)
  | .exc c M => .exc c M
  | .bad => .bad
def kBin1 (f : Op) (b : E) (ρ : Env) : R Val → R Val
  | .ok x M => kBin2 f x (b ρ M)
  | .exc c M => .exc c M
  | .bad => .bad
theorem eBin_k : eBin f a b ρ M = kBin1 f b ρ (a ρ M) := by
  unfold eBin
  cases a ρ M with
  | ok x M1 =>
    show (b ρ M1).bind _ = kBin2 f x (b ρ M1)
    cases b ρ M1 <;> rfl
  | _ => rfl
theorem kBin1_ok : kBin1 f b ρ (.ok x M) = kBin2 f x (b ρ M) := id rfl
theorem kBin2_ok : kBin2 f x (.ok y M) = R.of (f x y M) := id rfl
def kUn (f : U) : R Val → R Val
  | .ok x M => R.of (f x M)
  | .exc c M => .exc c M
  | .bad => .bad
theorem eUn_k (f : U) : eUn f a ρ M = kUn f (a ρ M) := by
  unfold eUn
  cases a ρ M <;> rfl
theorem kUn_ok (f : U) : kUn f (.ok x M) = R.of (f x M) := id rfl
theorem of_some : R.of (some (v, M)) = .ok v M := id rfl
theorem eC_k : eC v ρ M = .ok v M := id rfl
theorem eVar_k {i : Nat} : eVar i ρ M = match ρ[i]? with
  | some (some v) => .ok v M
  | _ => .bad := rfl
def kL2 (v : Val) : R (List Val) → R (List Val)
  | .ok vs M => .ok (v :: vs) M
  | .exc c M => .exc c M
  | .bad => .bad
def kL1 (es : List E) (ρ : Env) : R Val → R (List Val)
  | .ok v M => kL2 v (evL es ρ M)
  | .exc c M => .exc c M
  | .bad => .bad
theorem evL_nil : evL [] ρ M = .ok [] M := id rfl
theorem evL_k : evL (a :: es) ρ M = kL1 es ρ (a ρ M) := by
  show (a ρ M).bind _ = _
  cases a ρ M with
  | ok x M1 =>
    show (evL es ρ M1).bind _ = kL2 x (evL es ρ M1)
    cases evL es ρ M1 <;> rfl
  | _ => rfl
theorem kL1_ok : kL1 es ρ (.ok v M) = kL2 v (evL es ρ M) := id rfl
theorem kL2_ok (vs : List Val) : kL2 v (.ok vs M) = .ok (v :: vs) M := id rfl
def kAnd (b : E) (ρ : Env) : R Val → R Val
  | .ok (.bl true) M => b ρ M
  | .ok (.bl false) M => .ok (.bl false) M
  | .ok _ _ => .bad
  | .exc c M => .exc c M
  | .bad => .bad
theorem eAnd_k : eAnd a b ρ M = kAnd b ρ (a ρ M) := by
  unfold eAnd
  cases a ρ M with
  | ok x M1 =>
    cases x with
    | bl q => cases q <;> rfl
    | _ => rfl
  | _ => rfl
theorem kAnd_t : kAnd b ρ (.ok (.bl true) M) = b ρ M := id rfl
theorem kAnd_f : kAnd b ρ (.ok (.bl false) M) = .ok (.bl false) M := id rfl
def kOr (b : E) (ρ : Env) : R Val → R Val
  | .ok (.bl true) M => .ok (.bl true) M
  | .ok (.bl false) M => b ρ M
  | .ok _ _ => .bad
  | .exc c M => .exc c M
  | .bad => .bad
theorem eOr_k : eOr a b ρ M = kOr b ρ (a ρ M) := by
  unfold eOr
  cases a ρ M with
  | ok x M1 =>
    cases x with
    | bl q => cases q <;> rfl
    | _ => rfl
  | _ => rfl
theorem kOr_t : kOr b ρ (.ok (.bl true) M) = .ok (.bl true) M := id rfl
theorem kOr_f : kOr b ρ (.ok (.bl false) M) = b ρ M := id rfl
def kNot : R Val → R Val
  | .ok (.bl q) M => .ok (.bl (!q)) M
  | .ok _ _ => .bad
  | .exc c M => .exc c M
  | .bad => .bad
theorem eNot_k : eNot a ρ M = kNot (a ρ M) := by
  unfold eNot
  cases a ρ M with
  | ok x M1 => cases x <;> rfl
  | _ => rfl
theorem kNot_ok (q : Bool) : kNot (.ok (.bl q) M) = .ok (.bl (!q)) M := id rfl
def kCh3 (g : Op) (y : Val) : R Val → R Val
  | .ok z M => R.of (g y z M)
  | .exc c M => .exc c M
  | .bad => .bad
def kCh2 (g : Op) (c : E) (y : Val) (ρ : Env) : R Val → R Val
  | .ok (.bl true) M => kCh3 g y (c ρ M)
  | .ok (.bl false) M => .ok (.bl false) M
  | .ok _ _ => .bad
  | .exc c M => .exc c M
  | .bad => .bad
def kCh1 (f g : Op) (x : Val) (c : E) (ρ : Env) : R Val → R Val
  | .ok y M => kCh2 g c y ρ (R.of (f x y M))
  | .exc c M => .exc c M
  | .bad => .bad
def kCh0 (f g : Op) (b c : E) (ρ : Env) : R Val → R Val
  | .ok x M => kCh1 f g x c ρ (b ρ M)
  | .exc c M => .exc c M
  | .bad => .bad
theorem eChain_k : eChain f g a b c ρ M = kCh0 f g b c ρ (a ρ M) := by
  unfold eChain
  cases a ρ M with
  | ok x M1 =>
    show (b ρ M1).bind _ = kCh1 f g x c ρ (b ρ M1)
    cases b ρ M1 with
    | ok y M2 =>
      show (R.of (f x y M2)).bind _ = kCh2 g c y ρ (R.of (f x y M2))
      cases R.of (f x y M2) with
      | ok r M3 =>
        cases r with
        | bl q =>
          cases q with
          | true =>
            show (c ρ M3).bind _ = kCh3 g y (c ρ M3)
            cases c ρ M3 <;> rfl
          | false => rfl
        | _ => rfl
      | _ => rfl
    | _ => rfl
  | _ => rfl
theorem kCh0_ok : kCh0 f g b c ρ (.ok x M) = kCh1 f g x c ρ (b ρ M) := id rfl
theorem kCh1_ok : kCh1 f g x c ρ (.ok y M) = kCh2 g c y ρ (R.of (f x y M)) := id rfl
theorem kCh2_t : kCh2 g c y ρ (.ok (.bl true) M) = kCh3 g y (c ρ M) := id rfl
theorem kCh2_f : kCh2 g c y ρ (.ok (.bl false) M) = .ok (.bl false) M := id rfl
theorem kCh3_ok : kCh3 g y (.ok x M) = R.of (g y x M) := id rfl
def kTup : R (List Val) → R Val
  | .ok vs M => if vs.length ≤ szLine then .ok (.tup vs) M else .bad
  | .exc c M => .exc c M
  | .bad => .bad
theorem eTup_k : eTup es ρ M = kTup (evL es ρ M) := by
  unfold eTup
  cases evL es ρ M <;> rfl
theorem kTup_ok {vs : List Val} (h : vs.length ≤ szLine) : kTup (.ok vs M) = .ok (.tup vs) M := if_pos h
theorem kTup_2 : kTup (.ok [x, y] M) = .ok (.tup [x, y]) M := id rfl
theorem kTup_3 : kTup (.ok [x, y, v] M) = .ok (.tup [x, y, v]) M := id rfl
theorem kTup_1 : kTup (.ok [x] M) = .ok (.tup [x]) M := id rfl
theorem kTup_4 : kTup (.ok [x, y, v, w] M) = .ok (.tup [x, y, v, w]) M := id rfl
def kLst : R (List Val) → R Val
  | .ok vs M => if vs.length ≤ szLine then .ok (.ref M.length) (M ++ [.lst vs]) else .bad
  | .exc c M => .exc c M
  | .bad => .bad
theorem eLst_k : eLst es ρ M = kLst (evL es ρ M) := by
  unfold eLst
  cases evL es ρ M <;> rfl
theorem kLst_ok {vs : List Val} (h : vs.length ≤ szLine) : kLst (.ok vs M) = .ok (.ref M.length) (M ++ [.lst vs]) := if_pos h
theorem kLst_0 : kLst (.ok [] M) = .ok (.ref M.length) (M ++ [.lst []]) := id rfl
theorem kLst_1 : kLst (.ok [x] M) = .ok (.ref M.length) (M ++ [.lst [x]]) := id rfl
theorem kLst_2 : kLst (.ok [x, y] M) = .ok (.ref M.length) (M ++ [.lst [x, y]]) := id rfl
theorem kLst_3 : kLst (.ok [x, y, v] M) = .ok (.ref M.length) (M ++ [.lst [x, y, v]]) := id rfl
theorem kLst_4 : kLst (.ok [x, y, v, w] M) = .ok (.ref M.length) (M ++ [.lst [x, y, v, w]]) := id rfl
theorem kLst_5 (u : Val) : kLst (.ok [x, y, v, w, u] M) = .ok (.ref M.length) (M ++ [.lst [x, y, v, w, u]]) := id rfl
theorem kLst_6 (u z : Val) : kLst (.ok [x, y, v, w, u, z] M) = .ok (.ref M.length) (M ++ [.lst [x, y, v, w, u, z]]) := id rfl
def kCall (F : Fn) : R (List Val) → R Val
  | .ok vs M => F vs M
  | .exc c M => .exc c M
  | .bad => .bad
theorem eCall_k (F : Fn) : eCall F es ρ M = kCall F (evL es ρ M) := by
  unfold eCall
  cases evL es ρ M <;> rfl
theorem kCall_ok (F : Fn) (vs : List Val) : kCall F (.ok vs M) = F vs M := id rfl
end
section
variable (ρ ρ' : Env) (M : Store) (a b c e : E) (s t : St) (x y v w : Val) (k : String)
def kSeq (t : St) : RS → RS
  | .nx ρ M => t ρ M
  | r => r
theorem sSeq_k : sSeq s t ρ M = kSeq t (s ρ M) := by
  unfold sSeq
  cases s ρ M <;> rfl
theorem kSeq_nx : kSeq t (.nx ρ M) = t ρ M := id rfl
theorem kSeq_ret : kSeq t (.ret v M) = .ret v M := id rfl
theorem kSeq_ct : kSeq t (.ct ρ M) = .ct ρ M := id rfl
theorem kSeq_bk : kSeq t (.bk ρ M) = .bk ρ M := id rfl
theorem kSeq_exc : kSeq t (.exc k ρ M) = .exc k ρ M := id rfl
theorem sPass_k : sPass ρ M = .nx ρ M := id rfl
def kTg : RS → RS
  | .nx ρ M => .nx ρ M
  | _ => .bad
theorem kTg_nx : kTg (.nx ρ M) = .nx ρ M := id rfl
def kAsg (t : Tg) (ρ : Env) : R Val → RS
  | .ok v M => kTg (t v ρ M)
  | .exc c M => .exc c ρ M
  | .bad => .bad
theorem sAsg_k (t : Tg) : sAsg t e ρ M = kAsg t ρ (e ρ M) := by
  unfold sAsg
  cases e ρ M with
  | ok v M1 =>
    show (t v ρ M1).tg = kTg (t v ρ M1)
    cases t v ρ M1 <;> rfl
  | _ => rfl
theorem kAsg_ok (t : Tg) : kAsg t ρ (.ok v M) = kTg (t v ρ M) := id rfl
theorem kAsg_exc (t : Tg) : kAsg t ρ (.exc k M) = .exc k ρ M := id rfl
theorem tName_k {i : Nat} : tName i v ρ M = .nx (ρ.set i (some v)) M := id rfl
theorem tTup_2 {s t : Tg} : tTup [s, t] (.tup [x, y]) ρ M = tAll [s, t] [x, y] ρ M := id rfl
theorem tTup_3 {s t u : Tg} : tTup [s, t, u] (.tup [x, y, v]) ρ M = tAll [s, t, u] [x, y, v] ρ M := id rfl
theorem tTup_4 {s t u r : Tg} : tTup [s, t, u, r] (.tup [x, y, v, w]) ρ M = tAll [s, t, u, r] [x, y, v, w] ρ M := id rfl
theorem tAll_nil : tAll [] [] ρ M = .nx ρ M := id rfl
theorem tAll_cons {t : Tg} {ts : List Tg} {vs : List Val} : tAll (t :: ts) (v :: vs) ρ M = kSeq (tAll ts vs) (t v ρ M) := id rfl
def kPut (ρ : Env) : Option Store → RS
  | some M => .nx ρ M
  | none => .bad
theorem kPut_some : kPut ρ (some M) = .nx ρ M := id rfl
def kSub2 (x v : Val) (ρ : Env) : R Val → RS
  | .ok y M => kPut ρ (setIt x y v M)
  | _ => .bad
def kSub1 (i : E) (v : Val) (ρ : Env) : R Val → RS
  | .ok x M => kSub2 x v ρ (i ρ M)
  | _ => .bad
theorem tSub_k {o i : E} : tSub o i v ρ M = kSub1 i v ρ (o ρ M) := by
  unfold tSub
  cases o ρ M with
  | ok x M1 =>
    simp only [kSub1]
    cases i ρ M1 with
    | ok y M2 =>
      simp only [kSub2]
      cases setIt x y v M2 <;> rfl
    | _ => rfl
  | _ => rfl
theorem kSub1_ok {i : E} : kSub1 i v ρ (.ok x M) = kSub2 x v ρ (i ρ M) := id rfl
theorem kSub2_ok : kSub2 x v ρ (.ok y M) = kPut ρ (setIt x y v M) := id rfl
theorem sCt_k : sCt ρ M = .ct ρ M := id rfl
theorem sBk_k : sBk ρ M = .bk ρ M := id rfl
def kRet (ρ : Env) : R Val → RS
  | .ok v M => .ret v M
  | .exc c M => .exc c ρ M
  | .bad => .bad
theorem sRet_k : sRet e ρ M = kRet ρ (e ρ M) := by
  unfold sRet
  cases e ρ M <;> rfl
theorem kRet_ok : kRet ρ (.ok v M) = .ret v M := id rfl
theorem kRet_exc : kRet ρ (.exc k M) = .exc k ρ M := id rfl
def kDrop (ρ : Env) : R Val → RS
  | .ok _ M => .nx ρ M
  | .exc c M => .exc c ρ M
  | .bad => .bad
theorem sDrop_k : sDrop e ρ M = kDrop ρ (e ρ M) := by
  unfold sDrop
  cases e ρ M <;> rfl
theorem kDrop_ok : kDrop ρ (.ok v M) = .nx ρ M := id rfl
theorem sRaise_k : sRaise k ρ M = .exc k ρ M := id rfl
def kIf (s t : St) (ρ : Env) : R Val → RS
  | .ok (.bl true) M => s ρ M
  | .ok (.bl false) M => t ρ M
  | .ok _ _ => .bad
  | .exc c M => .exc c ρ M
  | .bad => .bad
theorem sIf_k : sIf c s t ρ M = kIf s t ρ (c ρ M) := by
  unfold sIf
  cases c ρ M with
  | ok v M1 =>
    cases v with
    | bl q => cases q <;> rfl
    | _ => rfl
  | _ => rfl
theorem kIf_t : kIf s t ρ (.ok (.bl true) M) = s ρ M := id rfl
theorem kIf_f : kIf s t ρ (.ok (.bl false) M) = t ρ M := id rfl
def kPar (i j : Nat) (ρ : Env) : R (List Val) → RS
  | .ok [v, w] M => .nx ((ρ.set i (some v)).set j (some w)) M
  | .ok _ _ => .bad
  | .exc c M => .exc c ρ M
  | .bad => .bad
theorem sPar_k {i j : Nat} : sPar i j a b ρ M = kPar i j ρ (evL [a, b] ρ M) := by
  unfold sPar
  cases evL [a, b] ρ M with
  | ok vs M1 =>
    match vs with
    | [] => rfl
    | [_] => rfl
    | [_, _] => rfl
    | _ :: _ :: _ :: _ => rfl
  | _ => rfl
theorem kPar_ok {i j : Nat} : kPar i j ρ (.ok [v, w] M) = .nx ((ρ.set i (some v)).set j (some w)) M := id rfl
def kFor (t : Tg) (b : St) (ρ : Env) : R Itr → RS
  | .ok it M => sForN it t b it.n 0 ρ M
  | .exc c M => .exc c ρ M
  | .bad => .bad
theorem sFor_k (i : Src) (t : Tg) : sFor i t s ρ M = kFor t s ρ (i ρ M) := by
  unfold sFor
  cases i ρ M <;> rfl
theorem kFor_ok (t : Tg) (it : Itr) : kFor t s ρ (.ok it M) = sForN it t s it.n 0 ρ M := id rfl
def kFn : RS → R Val
  | .nx _ M => .ok .non M
  | .ret v M => .ok v M
  | .exc c _ M => .exc c M
  | _ => .bad
theorem mkFn_k {np nn : Nat} {vs : List Val} (h : vs.length = np) : mkFn np nn s vs M = kFn (s (vs.map some ++ List.replicate (nn - np) none) M) := by
  unfold mkFn
  rw [if_pos h]
  cases s (vs.map some ++ List.replicate (nn - np) none) M <;> rfl
theorem mkFn_0 {nn : Nat} : mkFn 0 nn s [] M = kFn (s ([] ++ List.replicate (nn - 0) none) M) := mkFn_k M s rfl
theorem mkFn_1 {nn : Nat} {x : Val} : mkFn 1 nn s [x] M = kFn (s ([some x] ++ List.replicate (nn - 1) none) M) := mkFn_k M s rfl
theorem mkFn_2 {nn : Nat} {x y : Val} : mkFn 2 nn s [x, y] M = kFn (s ([some x, some y] ++ List.replicate (nn - 2) none) M) := mkFn_k M s rfl
theorem mkFn_3 {nn : Nat} {x y z : Val} : mkFn 3 nn s [x, y, z] M = kFn (s ([some x, some y, some z] ++ List.replicate (nn - 3) none) M) := mkFn_k M s rfl
theorem mkFn_4 {nn : Nat} {x y z v : Val} : mkFn 4 nn s [x, y, z, v] M = kFn (s ([some x, some y, some z, some v] ++ List.replicate (nn - 4) none) M) := mkFn_k M s rfl
theorem mkFn_5 {nn : Nat} {x y z v w : Val} : mkFn 5 nn s [x, y, z, v, w] M = kFn (s ([some x, some y, some z, some v, some w] ++ List.replicate (nn - 5) none) M) := mkFn_k M s rfl
theorem mkFn_6 {nn : Nat} {x y z v w u : Val} : mkFn 6 nn s [x, y, z, v, w, u] M = kFn (s ([some x, some y, some z, some v, some w, some u] ++ List.replicate (nn - 6) none) M) := mkFn_k M s rfl
theorem kFn_ret : kFn (.ret v M) = .ok v M := id rfl
theorem kFn_nx : kFn (.nx ρ M) = .ok .non M := id rfl
theorem kFn_exc : kFn (.exc k ρ M) = .exc k M := id rfl
end
section
variable (ρ ρ' : Env) (M : Store) (a b c e : E) (s t : St) (x y v w : Val) (k : String)
def kTry (hs : List Hd) (els : St) : RS → RS
  | .exc c ρ' M' => handle hs c ρ' M'
  | .nx ρ' M' => els ρ' M'
  | r => r
theorem sTry_k (hs : List Hd) : sTry s hs t ρ M = kTry hs t (s ρ M) := by
  unfold sTry
  cases s ρ M <;> rfl
theorem kTry_nx (hs : List Hd) : kTry hs t (.nx ρ M) = t ρ M := id rfl
theorem kTry_ret (hs : List Hd) : kTry hs t (.ret v M) = .ret v M := id rfl
theorem kTry_exc (hs : List Hd) : kTry hs t (.exc k ρ M) = handle hs k ρ M := id rfl
theorem handle_nil : handle [] k ρ M = .exc k ρ M := id rfl
def kCl (o : Option Nat) : RS → RS
  | .nx ρ M => .nx (unO o ρ) M
  | .bk ρ M => .bk (unO o ρ) M
  | .ct ρ M => .ct (unO o ρ) M
  | .ret v M => .ret v M
  | _ => .bad
theorem kCl_nx (o : Option Nat) : kCl o (.nx ρ M) = .nx (unO o ρ) M := id rfl
theorem kCl_ret (o : Option Nat) : kCl o (.ret v M) = .ret v M := id rfl
def kM0 (q : String) (f : U) : R Val → R Val
  | .ok x M => if isTy q x M = true then R.of (f x M) else .bad
  | .exc c M => .exc c M
  | .bad => .bad
theorem eM0_k (q : String) (f : U) : eM0 q f a ρ M = kM0 q f (a ρ M) := by
  unfold eM0
  cases a ρ M <;> rfl
def kM1 (q : String) (f : Op) (b : E) (ρ : Env) : R Val → R Val
  | .ok x M => if isTy q x M = true then kBin2 f x (b ρ M) else .bad
  | .exc c M => .exc c M
  | .bad => .bad
theorem eM1_k (q : String) (f : Op) : eM1 q f a b ρ M = kM1 q f b ρ (a ρ M) := by
  unfold eM1
  cases a ρ M with
  | ok x M1 =>
    show (if isTy q x M1 = true then (b ρ M1).bind _ else .bad) = if isTy q x M1 = true then kBin2 f x (b ρ M1) else .bad
    cases b ρ M1 <;> rfl
  | _ => rfl
def kM2b (f : Tri) (x y : Val) : R Val → R Val
  | .ok z M => R.of (f x y z M)
  | .exc c M => .exc c M
  | .bad => .bad
def kM2a (f : Tri) (x : Val) (c : E) (ρ : Env) : R Val → R Val
  | .ok y M => kM2b f x y (c ρ M)
  | .exc c M => .exc c M
  | .bad => .bad
def kM2 (q : String) (f : Tri) (b c : E) (ρ : Env) : R Val → R Val
  | .ok x M => if isTy q x M = true then kM2a f x c ρ (b ρ M) else .bad
  | .exc c M => .exc c M
  | .bad => .bad
theorem eM2_k (q : String) (f : Tri) : eM2 q f a b c ρ M = kM2 q f b c ρ (a ρ M) := by
  unfold eM2
  cases a ρ M with
  | ok x M1 =>
    show (if isTy q x M1 = true then (b ρ M1).bind _ else .bad) = if isTy q x M1 = true then kM2a f x c ρ (b ρ M1) else .bad
    cases b ρ M1 with
    | ok y M2 =>
      show (if isTy q x M1 = true then (c ρ M2).bind _ else .bad) = if isTy q x M1 = true then kM2b f x y (c ρ M2) else .bad
      cases c ρ M2 <;> rfl
    | _ => rfl
  | _ => rfl
theorem kM2a_ok (f : Tri) : kM2a f x c ρ (.ok y M) = kM2b f x y (c ρ M) := id rfl
theorem kM2b_ok (f : Tri) : kM2b f x y (.ok v M) = R.of (f x y v M) := id rfl
def kLcE : R (List Val) → R Val
  | .ok ys M => .ok (.ref M.length) (M ++ [.lst ys])
  | .exc c M => .exc c M
  | .bad => .bad
def kLc (t : Tg) (vs : List Nat) (c e : E) (ρ : Env) : R Itr → R Val
  | .ok it M => if it.n ≤ szLine then kLcE (lcN it t c e (wipe ρ vs) it.n 0 [] M) else .bad
  | .exc c M => .exc c M
  | .bad => .bad
theorem eLc_k (i : Src) (t : Tg) (vs : List Nat) : eLc i t vs c e ρ M = kLc t vs c e ρ (i ρ M) := by
  unfold eLc
  cases i ρ M with
  | ok it M1 =>
    show (if it.n ≤ szLine then _ else _) = if it.n ≤ szLine then _ else _
    cases lcN it t c e (wipe ρ vs) it.n 0 [] M1 <;> rfl
  | _ => rfl
theorem kLcE_ok (ys : List Val) : kLcE (.ok ys M) = .ok (.ref M.length) (M ++ [.lst ys]) := id rfl
def kSlC (v : Val) (l : Option Int) : R (Option Int) → R Val
  | .ok h M => R.of (cutOf v l h M)
  | .exc c M => .exc c M
  | .bad => .bad
def kSlB (v : Val) (hi : Option E) (ρ : Env) : R (Option Int) → R Val
  | .ok l M => kSlC v l (ePart hi ρ M)
  | .exc c M => .exc c M
  | .bad => .bad
def kSlA (lo hi : Option E) (ρ : Env) : R Val → R Val
  | .ok v M => kSlB v hi ρ (ePart lo ρ M)
  | .exc c M => .exc c M
  | .bad => .bad
theorem eSl_k (lo hi : Option E) : eSl a lo hi ρ M = kSlA lo hi ρ (a ρ M) := by
  unfold eSl
  cases a ρ M with
  | ok v M1 =>
    show (ePart lo ρ M1).bind _ = kSlB v hi ρ (ePart lo ρ M1)
    cases ePart lo ρ M1 with
    | ok l M2 =>
      show (ePart hi ρ M2).bind _ = kSlC v l (ePart hi ρ M2)
      cases ePart hi ρ M2 <;> rfl
    | _ => rfl
  | _ => rfl
theorem kSlA_ok (lo hi : Option E) : kSlA lo hi ρ (.ok v M) = kSlB v hi ρ (ePart lo ρ M) := id rfl
theorem kSlB_ok (hi : Option E) (l : Option Int) : kSlB v hi ρ (.ok l M) = kSlC v l (ePart hi ρ M) := id rfl
theorem kSlC_ok (l h : Option Int) : kSlC v l (.ok h M) = R.of (cutOf v l h M) := id rfl
def kPt : R Val → R (Option Int)
  | .ok (.int i) M => .ok (some i) M
  | .ok _ _ => .bad
  | .exc c M => .exc c M
  | .bad => .bad
theorem ePart_none : ePart none ρ M = .ok none M := id rfl
theorem ePart_k : ePart (some a) ρ M = kPt (a ρ M) := by
  unfold ePart
  simp only []
  cases a ρ M with
  | ok v M1 => cases v <;> rfl
  | _ => rfl
theorem kPt_ok (i : Int) : kPt (.ok (.int i) M) = .ok (some i) M := id rfl
def kSq : R Val → R Itr
  | .ok v M => (match seqOf M v with
    | some xs => .ok (itSeq v xs.length) M
    | none => .bad)
  | .exc c M => .exc c M
  | .bad => .bad
theorem iList_k : iList a ρ M = kSq (a ρ M) := by
  unfold iList
  cases a ρ M <;> rfl
def kEn : R Val → R Itr
  | .ok (.ref n) M => (match lstAt M n with
    | some xs => .ok (itEnum n xs.length) M
    | none => .bad)
  | .ok _ _ => .bad
  | .exc c M => .exc c M
  | .bad => .bad
theorem iEnum_k : iEnum a ρ M = kEn (a ρ M) := by
  unfold iEnum
  cases a ρ M with
  | ok v M1 => cases v <;> rfl
  | _ => rfl
def kZp2 (v : Val) : R Val → R Itr
  | .ok w M => if sameKind v w = true then (match seqOf M v, seqOf M w with
    | some xs, some ys => .ok (itZip v w (min xs.length ys.length)) M
    | _, _ => .bad) else .bad
  | .exc c M => .exc c M
  | .bad => .bad
def kZp (b : E) (ρ : Env) : R Val → R Itr
  | .ok v M => kZp2 v (b ρ M)
  | .exc c M => .exc c M
  | .bad => .bad
theorem iZip_k : iZip a b ρ M = kZp b ρ (a ρ M) := by
  unfold iZip
  cases a ρ M with
  | ok v M1 =>
    show (b ρ M1).bind _ = kZp2 v (b ρ M1)
    cases b ρ M1 <;> rfl
  | _ => rfl
theorem kZp_ok : kZp b ρ (.ok v M) = kZp2 v (b ρ M) := id rfl
def kRv : R Val → R Itr
  | .ok v M => (match seqOf M v with
    | some xs => .ok (itRev v xs.length) M
    | none => .bad)
  | .exc c M => .exc c M
  | .bad => .bad
theorem iRev_k : iRev a ρ M = kRv (a ρ M) := by
  unfold iRev
  cases a ρ M <;> rfl
def itRg (lo : Int) (n : Nat) : Itr := ⟨n, fun i _ => some (.int (lo + (i : Int))), fun _ => true⟩
def kR1 : R Val → R Itr
  | .ok (.int j) M => if -(2 ^ 62) ≤ j ∧ j < 2 ^ 62 then .ok (itRg 0 j.toNat) M else .bad
  | .ok _ _ => .bad
  | .exc c M => .exc c M
  | .bad => .bad
theorem iRange1_k : iRange1 a ρ M = kR1 (a ρ M) := by
  unfold iRange1
  cases a ρ M with
  | ok v M1 => cases v <;> rfl
  | _ => rfl
def kR2b (x : Val) : R Val → R Itr
  | .ok y M => (match x, y with
    | .int i, .int j => if -(2 ^ 62) ≤ i ∧ i < 2 ^ 62 ∧ -(2 ^ 62) ≤ j ∧ j < 2 ^ 62 then .ok (itRg i (j - i).toNat) M else .bad
    | _, _ => .bad)
  | .exc c M => .exc c M
  | .bad => .bad
def kR2 (b : E) (ρ : Env) : R Val → R Itr
  | .ok x M => kR2b x (b ρ M)
  | .exc c M => .exc c M
  | .bad => .bad
theorem iRange2_k : iRange2 a b ρ M = kR2 b ρ (a ρ M) := by
  unfold iRange2
  cases a ρ M with
  | ok v M1 =>
    show (b ρ M1).bind _ = kR2b v (b ρ M1)
    cases b ρ M1 <;> rfl
  | _ => rfl
theorem kR2_ok : kR2 b ρ (.ok x M) = kR2b x (b ρ M) := id rfl
end
section
variable (M : Store) (i j : Int) (x y : List Nat) (xs ys : List Val)
theorem oAdd_int : oAdd (.int i) (.int j) M = some (.int (i + j), M) := id rfl
theorem oSub_int : oSub (.int i) (.int j) M = some (.int (i - j), M) := id rfl
theorem oNeg_int : oNeg (.int i) M = some (.int (-i), M) := id rfl
theorem oMul_int {i j : Int} (h : mulOk i j = true) : oMul (.int i) (.int j) M = some (.int (i * j), M) := if_pos h
theorem oDiv_int {i j : Int} (h0 : j ≠ 0) (h : divOk i j = true) : oDiv (.int i) (.int j) M = some (.int (i.fdiv j), M) := if_pos ⟨h0, h⟩
def SmD (j : Int) : Prop := j.natAbs.log2 < 9000
instance (j : Int) : Decidable (SmD j) := inferInstanceAs (Decidable (j.natAbs.log2 < 9000))
theorem SmD.ok {j : Int} (h : SmD j) (i : Int) : divOk i j = true := by
  unfold divOk
  rw [Bool.or_eq_true, decide_eq_true_eq]
  exact .inl h
theorem oDiv_sm {i j : Int} (h0 : j ≠ 0) (h : SmD j) : oDiv (.int i) (.int j) M = some (.int (i.fdiv j), M) := oDiv_int M h0 (h.ok i)
theorem oDm_int {i j : Int} (h0 : 0 < j) (h : divOk i j = true) : oDm (.int i) (.int j) M = some (.tup [.int (i / j), .int (i % j)], M) := if_pos ⟨h0, h⟩
theorem oDm_sm {i j : Int} (h0 : 0 < j) (h : SmD j) : oDm (.int i) (.int j) M = some (.tup [.int (i / j), .int (i % j)], M) := oDm_int M h0 (h.ok i)
theorem oMax_int : oMax (.int i) (.int j) M = some (.int (if j > i then j else i), M) := id rfl
theorem oMin_int : oMin (.int i) (.int j) M = some (.int (if j < i then j else i), M) := id rfl
theorem uInt_int : uInt (.int i) M = some (.int i, M) := id rfl
theorem uInt_bl (q : Bool) : uInt (.bl q) M = some (.int (if q then 1 else 0), M) := id rfl
theorem oMod_int {i j : Int} (h0 : j ≠ 0) : oMod (.int i) (.int j) M = some (.int (i.fmod j), M) := if_pos h0
theorem oPow_int {i j : Int} (h : 0 ≤ j ∧ j ≤ 1000000 ∧ i.natAbs < 2 ^ 64) : oPow (.int i) (.int j) M = some (.int (i ^ j.toNat), M) := if_pos h
theorem cLt_int : cLt (.int i) (.int j) M = some (.bl (decide (i < j)), M) := id rfl
theorem cLe_int : cLe (.int i) (.int j) M = some (.bl (decide (i ≤ j)), M) := id rfl
theorem cGt_int : cGt (.int i) (.int j) M = some (.bl (decide (j < i)), M) := id rfl
theorem cGe_int : cGe (.int i) (.int j) M = some (.bl (decide (j ≤ i)), M) := id rfl
theorem cEq_int : cEq (.int i) (.int j) M = some (.bl (decide (i = j)), M) := id rfl
theorem cNe_int : cNe (.int i) (.int j) M = some (.bl (!decide (i = j)), M) := id rfl
theorem cEq_bl (p q : Bool) : cEq (.bl p) (.bl q) M = some (.bl (p == q), M) := id rfl
theorem cNe_bl (p q : Bool) : cNe (.bl p) (.bl q) M = some (.bl (!(p == q)), M) := id rfl
theorem cIsN_k (v : Val) : cIsN v .non M = some (.bl (isNon v), M) := id rfl
theorem cNotN_k (v : Val) : cNotN v .non M = some (.bl (!isNon v), M) := id rfl
theorem cEq_tt (a b c d : Int) : cEq (.tup [.int a, .int b]) (.tup [.int c, .int d]) M = some (.bl (decide (a = c) && (decide (b = d) && true)), M) := id rfl
theorem cNe_tt (a b c d : Int) : cNe (.tup [.int a, .int b]) (.tup [.int c, .int d]) M = some (.bl (!(decide (a = c) && (decide (b = d) && true))), M) := id rfl
theorem uAbs_int : uAbs (.int i) M = some (.int (if i < 0 then -i else i), M) := id rfl
theorem uLen_tup : uLen (.tup xs) M = some (.int xs.length, M) := id rfl
theorem oIx_0 (v : Val) : oIx (.tup (v :: xs)) (.int 0) M = some (v, M) := by
  show (atI (v :: xs) 0).map _ = _
  unfold atI atIx
  simp
theorem oIx_1 (v w : Val) : oIx (.tup (v :: w :: xs)) (.int 1) M = some (w, M) := by
  show (atI (v :: w :: xs) 1).map _ = _
  unfold atI atIx
  rw [if_pos (by decide), if_pos (by simp; omega)]
  rfl
theorem uIs_int (ts : List String) : uIs ts (.int i) M = some (.bl (ts.any (isT "int")), M) := id rfl
theorem uIs_tup (ts : List String) : uIs ts (.tup xs) M = some (.bl (ts.any (isT "tuple")), M) := id rfl
theorem uIs_bl (ts : List String) (q : Bool) : uIs ts (.bl q) M = some (.bl (ts.any (isT "bool")), M) := id rfl
theorem uIs_non (ts : List String) : uIs ts .non M = some (.bl (ts.any (isT "NoneType")), M) := id rfl
theorem uIs_exc (ts : List String) (c : String) : uIs ts (.exc c) M = some (.bl (ts.any (isX c)), M) := id rfl
end
theorem ty_tuple_tuple : (["tuple"].any (isT "tuple")) = true := by decide +kernel
theorem ty_tuple_list : (["tuple"].any (isT "list")) = false := by decide +kernel
theorem ty_tuple_int : (["tuple"].any (isT "int")) = false := by decide +kernel
theorem ty_tuple_bool : (["tuple"].any (isT "bool")) = false := by decide +kernel
theorem ty_tuple_str : (["tuple"].any (isT "str")) = false := by decide +kernel
theorem ty_tuple_NoneType : (["tuple"].any (isT "NoneType")) = false := by decide +kernel
theorem ty_list_tuple : (["list"].any (isT "tuple")) = false := by decide +kernel
theorem ty_list_list : (["list"].any (isT "list")) = true := by decide +kernel
theorem ty_list_int : (["list"].any (isT "int")) = false := by decide +kernel
theorem ty_list_bool : (["list"].any (isT "bool")) = false := by decide +kernel
theorem ty_list_str : (["list"].any (isT "str")) = false := by decide +kernel
theorem ty_list_NoneType : (["list"].any (isT "NoneType")) = false := by decide +kernel
theorem ty_int_tuple : (["int"].any (isT "tuple")) = false := by decide +kernel
theorem ty_int_list : (["int"].any (isT "list")) = false := by decide +kernel
theorem ty_int_int : (["int"].any (isT "int")) = true := by decide +kernel
theorem ty_int_bool : (["int"].any (isT "bool")) = true := by decide +kernel
theorem ty_int_str : (["int"].any (isT "str")) = false := by decide +kernel
theorem ty_int_NoneType : (["int"].any (isT "NoneType")) = false := by decide +kernel
theorem ty_bool_tuple : (["bool"].any (isT "tuple")) = false := by decide +kernel
theorem ty_bool_list : (["bool"].any (isT "list")) = false := by decide +kernel
theorem ty_bool_int : (["bool"].any (isT "int")) = false := by decide +kernel
theorem ty_bool_bool : (["bool"].any (isT "bool")) = true := by decide +kernel
theorem ty_bool_str : (["bool"].any (isT "str")) = false := by decide +kernel
theorem ty_bool_NoneType : (["bool"].any (isT "NoneType")) = false := by decide +kernel
theorem ty_str_tuple : (["str"].any (isT "tuple")) = false := by decide +kernel
theorem ty_str_list : (["str"].any (isT "list")) = false := by decide +kernel
theorem ty_str_int : (["str"].any (isT "int")) = false := by decide +kernel
theorem ty_str_bool : (["str"].any (isT "bool")) = false := by decide +kernel
theorem ty_str_str : (["str"].any (isT "str")) = true := by decide +kernel
theorem ty_str_NoneType : (["str"].any (isT "NoneType")) = false := by decide +kernel
end Mn
end
section
set_option Elab.async false
set_option autoImplicit false
namespace Mn
def Lt2 (n : Nat) (i : Int) : Prop := i.natAbs < 2 ^ n
instance (n : Nat) (i : Int) : Decidable (Lt2 n i) := inferInstanceAs (Decidable (i.natAbs < 2 ^ n))
theorem Lt2.mono {m n : Nat} {i : Int} (h : Lt2 m i) (k : m ≤ n) : Lt2 n i := Nat.lt_of_lt_of_le h (Nat.pow_le_pow_right (by decide) k)
theorem Lt2.neg {n : Nat} {i : Int} (h : Lt2 n i) : Lt2 n (-i) := by
  unfold Lt2 at *
  rw [Int.natAbs_neg]
  exact h
theorem Lt2.add {m n : Nat} {i j : Int} (hi : Lt2 m i) (hj : Lt2 n j) : Lt2 (max m n + 1) (i + j) := by
  have h1 := hi.mono (Nat.le_max_left m n)
  have h2 := hj.mono (Nat.le_max_right m n)
  unfold Lt2 at *
  rw [Nat.pow_succ]
  have := Int.natAbs_add_le i j
  omega
theorem Lt2.mul {m n : Nat} {i j : Int} (hi : Lt2 m i) (hj : Lt2 n j) : Lt2 (m + n) (i * j) := by
  unfold Lt2 at *
  rw [Int.natAbs_mul, Nat.pow_add]
  exact Nat.mul_lt_mul'' hi hj
theorem Lt2.le {n : Nat} {i j : Int} (hj : Lt2 n j) (h : i.natAbs ≤ j.natAbs) : Lt2 n i := Nat.lt_of_le_of_lt h hj
theorem bits_le {n : Nat} {i : Int} (h : Lt2 n i) : bits i ≤ n := by
  unfold bits
  split
  · exact Nat.zero_le _
  · rename_i h0
    have : i.natAbs ≠ 0 := by omega
    exact (Nat.log2_lt this).mpr h
theorem lt2_bits (i : Int) : Lt2 (bits i) i := by
  unfold bits Lt2
  split
  · rename_i h
    subst h
    decide
  · exact Nat.lt_log2_self
theorem mulOk_lt {m n : Nat} {i j : Int} (hi : Lt2 m i) (hj : Lt2 n j) (h : m + n ≤ 134217728) : mulOk i j = true := by
  have h1 := bits_le hi
  have h2 := bits_le hj
  unfold mulOk
  simp only [Bool.or_eq_true, decide_eq_true_eq]
  omega
theorem divOk_lt {n : Nat} {j : Int} (hj : Lt2 n j) (h : n ≤ 9000) (i : Int) : divOk i j = true := by
  unfold divOk
  rw [Bool.or_eq_true, decide_eq_true_eq]
  refine .inl ?_
  by_cases h0 : j.natAbs = 0
  · rw [h0]
    decide
  · exact Nat.lt_of_lt_of_le ((Nat.log2_lt h0).mpr hj) h
theorem divOk_quo {n : Nat} {j q : Int} (hj : j ≠ 0) (hq : Lt2 n q) (h : n ≤ 4500) : divOk (j * q) j = true := by
  unfold divOk
  rw [Bool.or_eq_true, decide_eq_true_eq, decide_eq_true_eq]
  refine .inr ?_
  have j0 : j.natAbs ≠ 0 := by omega
  have e : (j * q).natAbs < 2 ^ (j.natAbs.log2 + 1 + n) := by
    rw [Int.natAbs_mul, Nat.pow_add]
    exact Nat.mul_lt_mul'' Nat.lt_log2_self hq
  have l : (j * q).natAbs.log2 ≤ j.natAbs.log2 + n := by
    by_cases h0 : (j * q).natAbs = 0
    · rw [h0]
      exact Nat.zero_le _
    · have := (Nat.log2_lt h0).mpr e
      omega
  omega
def est (x y : Nat) : Nat := if h : y = 0 then 0 else est y (x % y) + 1
termination_by y
decreasing_by exact Nat.mod_lt _ (Nat.pos_of_ne_zero h)
theorem est_zero (x : Nat) : est x 0 = 0 := by
  unfold est
  rw [dif_pos rfl]
theorem est_pos (x : Nat) {y : Nat} (h : y ≠ 0) : est x y = est y (x % y) + 1 := by
  conv => lhs; unfold est
  rw [dif_neg h]
theorem est_le : ∀ (n x y : Nat), y < 2 ^ n → est x y ≤ 2 * n
  | 0, x, y, h => by
    have : y = 0 := by simpa using h
    rw [this, est_zero]
    exact Nat.zero_le _
  | n + 1, x, y, h => by
    by_cases hy : y = 0
    · rw [hy, est_zero]
      exact Nat.zero_le _
    · rw [est_pos x hy]
      by_cases hr : x % y = 0
      · rw [hr, est_zero]
        omega
      · rw [est_pos y hr]
        have h1 : x % y < y := Nat.mod_lt _ (Nat.pos_of_ne_zero hy)
        have h2 : y % (x % y) < x % y := Nat.mod_lt _ (Nat.pos_of_ne_zero hr)
        have h3 : y % (x % y) + x % y ≤ y := by
          have e := Nat.div_add_mod y (x % y)
          have d : 1 ≤ y / (x % y) := Nat.div_pos (Nat.le_of_lt h1) (Nat.pos_of_ne_zero hr)
          have : x % y * 1 ≤ x % y * (y / (x % y)) := Nat.mul_le_mul_left _ d
          omega
        have h4 : y % (x % y) < 2 ^ n := by
          rw [Nat.pow_succ] at h
          omega
        have := est_le n (x % y) (y % (x % y)) h4
        omega
theorem whileLine_eq : whileLine = 1099511627776 := rfl
theorem est_line {n : Nat} {i : Int} (h : Lt2 n i) (hn : n ≤ 1000000000) (x : Nat) : est x i.natAbs < whileLine := by
  have := est_le n x i.natAbs h
  rw [whileLine_eq]
  omega
theorem fmod_nat (x y : Nat) : Int.fmod (x : Int) (y : Int) = ((x % y : Nat) : Int) := by
  rw [Int.fmod_eq_emod_of_nonneg _ (Int.natCast_nonneg y)]
  rfl
theorem gcd_step (x y : Nat) : Nat.gcd y (x % y) = Nat.gcd x y := by
  rw [Nat.gcd_comm, ← Nat.gcd_rec, Nat.gcd_comm]
theorem red_unique {a b n : Int} {d : Nat} (hb : b ≠ 0) (hd : d ≠ 0) (hc : n.natAbs.Coprime d) (h : n * b = a * d) : (Rat.divInt a b).num = n ∧ (Rat.divInt a b).den = d := by
  have e : Rat.divInt a b = Rat.mk' n d hd hc := by
    have e2 : Rat.mk' n d hd hc = Rat.divInt n d := (Rat.num_divInt_den (Rat.mk' n d hd hc)).symm
    rw [e2, Rat.divInt_eq_divInt_iff hb (by omega)]
    rw [← h]
  rw [e]
  exact ⟨rfl, rfl⟩
theorem red_num {a b : Int} (hb : b ≠ 0) : (Rat.divInt a b).num = (if b < 0 then -(a / (Int.gcd a b : Int)) else a / (Int.gcd a b : Int)) ∧ ((Rat.divInt a b).den : Int) = (if b < 0 then -(b / (Int.gcd a b : Int)) else b / (Int.gcd a b : Int)) := by
  have g0 : Int.gcd a b ≠ 0 := fun z => hb (Int.gcd_eq_zero_iff.mp z).2
  obtain ⟨a', ha⟩ := Int.gcd_dvd_left a b
  obtain ⟨b', hb'⟩ := Int.gcd_dvd_right a b
  generalize hg : Int.gcd a b = g at *
  have gi : (g : Int) ≠ 0 := by omega
  have ea : a / (g : Int) = a' := by
    rw [ha]
    exact Int.mul_ediv_cancel_left _ gi
  have eb : b / (g : Int) = b' := by
    rw [hb']
    exact Int.mul_ediv_cancel_left _ gi
  have cop : a'.natAbs.Coprime b'.natAbs := by
    have e1 : g * (Nat.gcd a'.natAbs b'.natAbs) = g := by
      have : Nat.gcd (g * a'.natAbs) (g * b'.natAbs) = g := by
        have e2 : a.natAbs = g * a'.natAbs := by rw [ha, Int.natAbs_mul, Int.natAbs_natCast]
        have e3 : b.natAbs = g * b'.natAbs := by rw [hb', Int.natAbs_mul, Int.natAbs_natCast]
        rw [← e2, ← e3]
        exact hg
      rw [← Nat.gcd_mul_left]
      exact this
    exact Nat.eq_of_mul_eq_mul_left (Nat.pos_of_ne_zero g0) (by rw [e1, Nat.mul_one])
  have b0 : b' ≠ 0 := fun z => hb (by rw [hb', z, Int.mul_zero])
  rw [ea, eb]
  have gp : (0 : Int) < g := by omega
  by_cases hs : b < 0
  · have bs : b' < 0 := by
      rcases Int.lt_trichotomy b' 0 with h | h | h
      · exact h
      · exact absurd h b0
      · have := Int.mul_pos gp h
        omega
    rw [if_pos hs, if_pos hs]
    have q := red_unique (a := a) (b := b) (n := -a') (d := b'.natAbs) hb (by omega) (by rw [Int.natAbs_neg]; exact cop) (by
      have e : (b'.natAbs : Int) = -b' := by omega
      rw [e, ha, hb']
      grind)
    exact ⟨q.1, by rw [q.2]; omega⟩
  · have bs : 0 < b' := by
      rcases Int.lt_trichotomy b' 0 with h | h | h
      · have := Int.mul_neg_of_pos_of_neg gp h
        omega
      · exact absurd h b0
      · exact h
    rw [if_neg hs, if_neg hs]
    have q := red_unique (a := a) (b := b) (n := a') (d := b'.natAbs) hb (by omega) cop (by
      have e : (b'.natAbs : Int) = b' := by omega
      rw [e, ha, hb']
      grind)
    exact ⟨q.1, by rw [q.2]; omega⟩
def rv (q : Rat) : Val := .tup [.int q.num, .int q.den]
theorem rv0 : Val.tup [.int 0, .int 1] = rv 0 := id rfl
theorem rv1 : Val.tup [.int 1, .int 1] = rv 1 := id rfl
def Sz (n : Nat) (q : Rat) : Prop := Lt2 n q.num ∧ q.den < 2 ^ n
instance (n : Nat) (q : Rat) : Decidable (Sz n q) := inferInstanceAs (Decidable (_ ∧ _))
theorem oIx_rv0 (q : Rat) (M : Store) : oIx (rv q) (.int 0) M = some (.int q.num, M) := oIx_0 M _ _
theorem oIx_rv1 (q : Rat) (M : Store) : oIx (rv q) (.int 1) M = some (.int q.den, M) := oIx_1 M _ _ _
theorem tTup_rv (s t : Tg) (q : Rat) (ρ : Env) (M : Store) : tTup [s, t] (rv q) ρ M = tAll [s, t] [.int q.num, .int q.den] ρ M := id rfl
theorem cEq_rv (p q : Rat) (M : Store) : cEq (rv p) (rv q) M = some (.bl (decide (p = q)), M) := by
  unfold rv
  rw [cEq_tt]
  have e : (decide (p.num = q.num) && (decide ((p.den : Int) = q.den) && true)) = decide (p = q) := by
    rw [Bool.and_true, ← Bool.decide_and]
    refine decide_eq_decide.mpr ⟨fun h => Rat.ext h.1 (by omega), fun h => by rw [h]; exact ⟨rfl, rfl⟩⟩
  rw [e]
theorem cNe_rv (p q : Rat) (M : Store) : cNe (rv p) (rv q) M = some (.bl (!decide (p = q)), M) := by
  unfold rv
  rw [cNe_tt]
  have e : (decide (p.num = q.num) && (decide ((p.den : Int) = q.den) && true)) = decide (p = q) := by
    rw [Bool.and_true, ← Bool.decide_and]
    refine decide_eq_decide.mpr ⟨fun h => Rat.ext h.1 (by omega), fun h => by rw [h]; exact ⟨rfl, rfl⟩⟩
  rw [e]
theorem uIs_rv (ts : List String) (q : Rat) (M : Store) : uIs ts (rv q) M = some (.bl (ts.any (isT "tuple")), M) := id rfl
theorem uLen_rv (q : Rat) (M : Store) : uLen (rv q) M = some (.int 2, M) := id rfl
theorem Sz.den {n : Nat} {q : Rat} (h : Sz n q) : Lt2 n (q.den : Int) := by
  unfold Lt2
  rw [Int.natAbs_natCast]
  exact h.2
theorem Sz.mono {m n : Nat} {q : Rat} (h : Sz m q) (k : m ≤ n) : Sz n q := ⟨h.1.mono k, Nat.lt_of_lt_of_le h.2 (Nat.pow_le_pow_right (by decide) k)⟩
theorem sz_divInt {n : Nat} {a b : Int} (h0 : b ≠ 0) (ha : Lt2 n a) (hb : Lt2 n b) : Sz n (Rat.divInt a b) := by
  obtain ⟨h1, h2⟩ := red_num (a := a) h0
  have d1 : ∀ x : Int, (x / (Int.gcd a b : Int)).natAbs ≤ x.natAbs := fun x => Int.natAbs_ediv_le_natAbs x _
  refine ⟨Lt2.le ha ?_, ?_⟩
  · rw [h1]
    split
    · rw [Int.natAbs_neg]
      exact d1 a
    · exact d1 a
  · have e : (Rat.divInt a b).den = ((Rat.divInt a b).den : Int).natAbs := by rw [Int.natAbs_natCast]
    rw [e, h2]
    refine Nat.lt_of_le_of_lt ?_ hb
    split
    · rw [Int.natAbs_neg]
      exact d1 b
    · exact d1 b
end Mn
end
section
set_option Elab.async false
set_option autoImplicit false
namespace Mn
def Gr (M M' : Store) : Prop := ∃ g, M' = M ++ g
theorem Gr.refl (M : Store) : Gr M M := ⟨[], (List.append_nil M).symm⟩
theorem Gr.trans {a b c : Store} (h : Gr a b) (k : Gr b c) : Gr a c := by
  obtain ⟨g, rfl⟩ := h
  obtain ⟨g', rfl⟩ := k
  exact ⟨g ++ g', by rw [List.append_assoc]⟩
theorem Gr.one (M : Store) (c : Cell) : Gr M (M ++ [c]) := ⟨[c], rfl⟩
theorem Gr.at {M M' : Store} (h : Gr M M') {n : Nat} {c : Cell} (e : M[n]? = some c) : M'[n]? = some c := by
  obtain ⟨g, rfl⟩ := h
  rw [List.getElem?_append_left (by
    have := List.getElem?_eq_some_iff.mp e
    exact this.1)]
  exact e
theorem lstAt_lst {M : Store} {n : Nat} {xs : List Val} (h : M[n]? = some (.lst xs)) : lstAt M n = some xs := by
  unfold lstAt
  rw [h]
theorem lstAt_ro {M : Store} {n : Nat} {xs : List Val} (h : M[n]? = some (.ro xs)) : lstAt M n = some xs := by
  unfold lstAt
  rw [h]
theorem Gr.lstAt {M M' : Store} (h : Gr M M') {n : Nat} {xs : List Val} (e : Mn.lstAt M n = some xs) : Mn.lstAt M' n = some xs := by
  unfold Mn.lstAt at *
  cases hc : M[n]? with
  | none =>
    rw [hc] at e
    exact nomatch e
  | some c =>
    rw [h.at hc]
    rw [hc] at e
    exact e
theorem lst_new' (M : Store) (c : Cell) : (M ++ [c])[M.length]? = some c := by simp
theorem oIx_ref {M : Store} {n : Nat} {xs : List Val} (h : lstAt M n = some xs) (i : Int) : oIx (.ref n) (.int i) M = (atI xs i).map fun v => (v, M) := by
  show (match lstAt M n with | some xs => (atI xs i).map fun v => (v, M) | none => none) = _
  rw [h]
theorem atI_nat {α : Type} {xs : List α} {i : Nat} {x : α} (h : xs[i]? = some x) : atI xs (i : Int) = some x := by
  have hl := (List.getElem?_eq_some_iff.mp h).1
  unfold atI atIx
  rw [if_pos (Int.natCast_nonneg i), if_pos (by omega)]
  exact h
theorem oIx_nat {M : Store} {n : Nat} {xs : List Val} (h : lstAt M n = some xs) {i : Nat} {v : Val} (hv : xs[i]? = some v) : oIx (.ref n) (.int i) M = some (v, M) := by
  rw [oIx_ref h, atI_nat hv]
  rfl
theorem uLen_ref {M : Store} {n : Nat} {xs : List Val} (h : lstAt M n = some xs) : uLen (.ref n) M = some (.int xs.length, M) := by
  show (match lstAt M n with | some xs => some (Val.int xs.length, M) | none => none) = _
  rw [h]
structure Walks (it : Itr) (n : Nat) (f : Nat → Option Val) (M : Store) : Prop where
  cnt : it.n = n
  nxt : ∀ M', Gr M M' → ∀ i, i < n → it.nxt i M' = f i
  fin : ∀ M', Gr M M' → it.fin M' = true
theorem Gr.seq {M M' : Store} (h : Gr M M') {w : Val} {xs : List Val} (e : seqOf M w = some xs) : seqOf M' w = some xs := by
  cases w with
  | ref n => exact h.lstAt e
  | tup ys => exact e
  | _ => cases e
end Mn
end
section
set_option Elab.async false
set_option autoImplicit false
namespace Mn
def Row (M : Store) (n : Nat) (qs : List Rat) : Prop := M[n]? = some (.lst (qs.map rv))
section
variable {M M' : Store} {m n : Nat} {ps qs : List Rat}
theorem Row.lst (h : Row M n qs) : lstAt M n = some (qs.map rv) := lstAt_lst h
theorem Row.seq (h : Row M n qs) : seqOf M (.ref n) = some (qs.map rv) := lstAt_lst h
theorem Row.gr (h : Row M n qs) (g : Gr M M') : Row M' n qs := g.at h
theorem Row.lt (h : Row M n qs) : n < M.length := (List.getElem?_eq_some_iff.mp h).1
theorem Row.set (h : Row M n qs) {c : Cell} (d : n ≠ m) : Row (M.set m c) n qs := by
  unfold Row
  rw [List.getElem?_set_ne (Ne.symm d)]
  exact h
theorem Row.new (M : Store) (qs : List Rat) : Row (M ++ [.lst (qs.map rv)]) M.length qs := lst_new' M _
theorem Row.ix (h : Row M n qs) {i : Nat} {q : Rat} (hq : qs[i]? = some q) : oIx (.ref n) (.int i) M = some (rv q, M) := oIx_nat h.lst (by rw [List.getElem?_map, hq]; rfl)
theorem Row.len (h : Row M n qs) : uLen (.ref n) M = some (.int qs.length, M) := by
  rw [uLen_ref h.lst, List.length_map]
theorem Gr.set (g : Gr M M') {c : Cell} (h : M.length ≤ m) : Gr M (M'.set m c) := by
  obtain ⟨k, rfl⟩ := g
  exact ⟨k.set (m - M.length) c, by rw [List.set_append_right _ _ h]⟩
theorem Gr.len (g : Gr M M') : M.length ≤ M'.length := by
  obtain ⟨k, rfl⟩ := g
  rw [List.length_append]
  omega
end
def SzA (n : Nat) (qs : List Rat) : Prop := ∀ q ∈ qs, Sz n q
theorem SzA.at {n i : Nat} {qs : List Rat} {q : Rat} (h : SzA n qs) (hq : qs[i]? = some q) : Sz n q := h q (List.mem_of_getElem? hq)
theorem SzA.mono {m n : Nat} {qs : List Rat} (h : SzA m qs) (k : m ≤ n) : SzA n qs := fun q hq => (h q hq).mono k
def Rows (M : Store) : List (Nat × List Rat) → Prop
  | [] => True
  | p :: l => Row M p.1 p.2 ∧ Rows M l
theorem Rows.gr {M M' : Store} (g : Gr M M') : ∀ {l : List (Nat × List Rat)}, Rows M l → Rows M' l
  | [], _ => trivial
  | _ :: _, h => ⟨h.1.gr g, Rows.gr g h.2⟩
theorem Rows.lt {M : Store} : ∀ {l : List (Nat × List Rat)}, Rows M l → ∀ p ∈ l, p.1 < M.length
  | [], _, p, hp => by cases hp
  | _ :: _, h, p, hp => by
    rcases List.mem_cons.mp hp with e | hp
    · rw [e]
      exact h.1.lt
    · exact Rows.lt h.2 p hp
theorem Rows.set {M : Store} {m : Nat} {c : Cell} : ∀ {l : List (Nat × List Rat)}, Rows M l → (∀ p ∈ l, p.1 ≠ m) → Rows (M.set m c) l
  | [], _, _ => trivial
  | _ :: _, h, d => ⟨h.1.set (d _ List.mem_cons_self), Rows.set h.2 fun p hp => d p (List.mem_cons_of_mem _ hp)⟩
theorem cut_map {α β : Type} (f : α → β) (xs : List α) (lo hi : Option Int) : cut (xs.map f) lo hi = (cut xs lo hi).map f := by
  unfold cut
  rw [List.length_map, List.map_take, List.map_drop]
theorem cutOf_ref {M : Store} {n : Nat} {xs : List Val} (h : lstAt M n = some xs) (lo hi : Option Int) : cutOf (.ref n) lo hi M = some (.ref M.length, M ++ [.lst (cut xs lo hi)]) := by
  unfold cutOf
  simp only []
  rw [h]
  rfl
theorem uList_seq {M : Store} {v : Val} {xs : List Val} (h : seqOf M v = some xs) : uList v M = some (.ref M.length, M ++ [.lst xs]) := by
  unfold uList
  rw [h]
  rfl
theorem oMul_lst {M : Store} {n : Nat} {xs : List Val} {k : Int} (h : M[n]? = some (.lst xs)) (hk : xs.length * k.toNat ≤ szLine ∧ -(2 ^ 63) ≤ k ∧ k < 2 ^ 63) : oMul (.ref n) (.int k) M = some (.ref M.length, M ++ [.lst (List.replicate k.toNat xs).flatten]) := by
  unfold oMul
  simp only []
  rw [h]
  exact if_pos hk
theorem uIs_lst {M : Store} {n : Nat} {xs : List Val} (h : M[n]? = some (.lst xs)) (ts : List String) : uIs ts (.ref n) M = some (.bl (ts.any (isT "list")), M) := by
  unfold uIs tyName
  simp only []
  rw [h]
theorem sForN_end {it : Itr} {t : Tg} {b : St} {i : Nat} {ρ : Env} {M : Store} (h : it.fin M = true) : sForN it t b 0 i ρ M = .nx ρ M := by
  unfold sForN
  rw [if_pos h]
mutual
theorem eqv_refl : ∀ t : T, t.eqv t = true
  | .non => by simp [T.eqv]
  | .bl b => by simp [T.eqv]
  | .int i => by simp [T.eqv]
  | .str s => by simp [T.eqv]
  | .tup xs => by
    unfold T.eqv
    exact eqvs_refl xs
  | .lst xs => by
    unfold T.eqv
    exact eqvs_refl xs
theorem eqvs_refl : ∀ ts : List T, T.eqvs ts ts = true
  | [] => by simp [T.eqvs]
  | t :: ts => by
    unfold T.eqvs
    rw [eqv_refl t, eqvs_refl ts]
    rfl
end
def tq (q : Rat) : T := .tup [.int q.num, .int q.den]
theorem eqv_tq (p q : Rat) : (tq p).eqv (tq q) = decide (p = q) := by
  have e : (tq p).eqv (tq q) = (decide (p.num = q.num) && (decide ((p.den : Int) = q.den) && true)) := by simp [tq, T.eqv, T.eqvs]
  rw [e, Bool.and_true, ← Bool.decide_and]
  exact decide_eq_decide.mpr ⟨fun h => Rat.ext h.1 (by omega), fun h => by rw [h]; exact ⟨rfl, rfl⟩⟩
theorem eqvs_tq : ∀ ps qs : List Rat, T.eqvs (ps.map tq) (qs.map tq) = decide (ps = qs)
  | [], [] => by simp [T.eqvs]
  | [], _ :: _ => by simp [T.eqvs]
  | _ :: _, [] => by simp [T.eqvs]
  | p :: ps, q :: qs => by
    rw [List.map_cons, List.map_cons]
    unfold T.eqvs
    rw [eqv_tq, eqvs_tq ps qs, ← Bool.decide_and]
    exact decide_eq_decide.mpr (by rw [List.cons.injEq])
end Mn
end
section
set_option Elab.async false
set_option autoImplicit false
set_option maxRecDepth 100000
namespace Mn
mutual
inductive Rp (M : Store) : Val → T → Prop
  | non : Rp M .non .non
  | bl (b : Bool) : Rp M (.bl b) (.bl b)
  | int (i : Int) : Rp M (.int i) (.int i)
  | str {s : List Nat} : s.all (fun c => decide (c < 1114112)) = true → Rp M (.str s) (.str s)
  | tup {xs : List Val} {ts : List T} : Rpl M xs ts → Rp M (.tup xs) (.tup ts)
  | lst {n : Nat} {xs : List Val} {ts : List T} : M[n]? = some (.lst xs) → Rpl M xs ts → Rp M (.ref n) (.lst ts)
inductive Rpl (M : Store) : List Val → List T → Prop
  | nil : Rpl M [] []
  | cons {x : Val} {t : T} {xs : List Val} {ts : List T} : Rp M x t → Rpl M xs ts → Rpl M (x :: xs) (t :: ts)
end
mutual
def T.dp : T → Nat
  | .tup ts => T.dps ts + 1
  | .lst ts => T.dps ts + 1
  | _ => 1
def T.dps : List T → Nat
  | [] => 0
  | t :: ts => max t.dp (T.dps ts)
end
mutual
theorem Rp.gr {M M' : Store} (g : Gr M M') : ∀ {v : Val} {t : T}, Rp M v t → Rp M' v t
  | _, _, .non => .non
  | _, _, .bl b => .bl b
  | _, _, .int i => .int i
  | _, _, .str h => .str h
  | _, _, .tup h => .tup (Rpl.gr g h)
  | _, _, .lst h r => .lst (g.at h) (Rpl.gr g r)
theorem Rpl.gr {M M' : Store} (g : Gr M M') : ∀ {vs : List Val} {ts : List T}, Rpl M vs ts → Rpl M' vs ts
  | _, _, .nil => .nil
  | _, _, .cons h r => .cons (Rp.gr g h) (Rpl.gr g r)
end
mutual
theorem Rp.toT {M : Store} : ∀ {v : Val} {t : T} (k : Nat), Rp M v t → t.dp ≤ k → toT M k v = some t
  | _, _, 0, r, h => by
    cases r <;> simp [T.dp] at h
  | _, _, k + 1, .non, _ => rfl
  | _, _, k + 1, .bl b, _ => rfl
  | _, _, k + 1, .int i, _ => rfl
  | _, _, k + 1, .str hs, _ => by
    unfold Mn.toT
    rw [if_pos hs]
  | _, _, k + 1, .tup r, h => by
    unfold T.dp at h
    unfold Mn.toT
    rw [Rpl.toT k r (by omega)]
    rfl
  | _, _, k + 1, .lst hn r, h => by
    unfold T.dp at h
    unfold Mn.toT
    simp only [lstAt_lst hn]
    rw [Rpl.toT k r (by omega)]
    rfl
theorem Rpl.toT {M : Store} : ∀ {vs : List Val} {ts : List T} (k : Nat), Rpl M vs ts → T.dps ts ≤ k → mapO (toT M k) vs = some ts
  | _, _, k, .nil, _ => rfl
  | _, _, k, .cons r rs, h => by
    unfold T.dps at h
    unfold mapO
    rw [Rp.toT k r (by omega)]
    simp only []
    rw [Rpl.toT k rs (by omega)]
    rfl
end
theorem Rpl.length {M : Store} : ∀ {xs : List Val} {ts : List T}, Rpl M xs ts → xs.length = ts.length
  | _, _, .nil => rfl
  | _, _, .cons _ r => congrArg Nat.succ (Rpl.length r)
theorem Rpl.get {M : Store} : ∀ {xs : List Val} {ts : List T} {i : Nat} {t : T}, Rpl M xs ts → ts[i]? = some t → ∃ v, xs[i]? = some v ∧ Rp M v t
  | _, _, _, _, .nil, e => by cases e
  | _, _, 0, _, .cons h _, e => by
    cases e
    exact ⟨_, rfl, h⟩
  | _, _, i + 1, _, .cons _ r, e => Rpl.get (i := i) r e
theorem Rpl.of {M : Store} : ∀ {xs : List Val} {ts : List T}, xs.length = ts.length → (∀ (i : Nat) (v : Val) (t : T), xs[i]? = some v → ts[i]? = some t → Rp M v t) → Rpl M xs ts
  | [], [], _, _ => .nil
  | [], _ :: _, h, _ => by cases h
  | _ :: _, [], h, _ => by cases h
  | x :: xs, t :: ts, h, p => .cons (p 0 x t rfl rfl) (Rpl.of (Nat.succ.inj h) fun i v u e e' => p (i + 1) v u e e')
theorem Rpl.append {M : Store} : ∀ {xs ys : List Val} {ts us : List T}, Rpl M xs ts → Rpl M ys us → Rpl M (xs ++ ys) (ts ++ us)
  | _, _, _, _, .nil, s => s
  | _, _, _, _, .cons h r, s => .cons h (Rpl.append r s)
theorem Rpl.take {M : Store} : ∀ {xs : List Val} {ts : List T} (k : Nat), Rpl M xs ts → Rpl M (xs.take k) (ts.take k)
  | _, _, 0, _ => .nil
  | _, _, _ + 1, .nil => .nil
  | _, _, k + 1, .cons h r => .cons h (Rpl.take k r)
theorem Rpl.drop {M : Store} : ∀ {xs : List Val} {ts : List T} (k : Nat), Rpl M xs ts → Rpl M (xs.drop k) (ts.drop k)
  | _, _, 0, r => r
  | _, _, _ + 1, .nil => .nil
  | _, _, k + 1, .cons _ r => Rpl.drop k r
theorem Rpl.cut {M : Store} {xs : List Val} {ts : List T} (r : Rpl M xs ts) (lo hi : Option Int) : Rpl M (Mn.cut xs lo hi) (Mn.cut ts lo hi) := by
  unfold Mn.cut
  rw [r.length]
  exact (r.drop _).take _
theorem Rpl.set {M : Store} {x : Val} {t : T} (h : Rp M x t) : ∀ {xs : List Val} {ts : List T} (i : Nat), Rpl M xs ts → Rpl M (xs.set i x) (ts.set i t)
  | _, _, _, .nil => .nil
  | _, _, 0, .cons _ r => .cons h r
  | _, _, i + 1, .cons g r => .cons g (Rpl.set h i r)
theorem Rp.q {M : Store} {v : Val} {q : Rat} (h : Rp M v (tq q)) : v = rv q := by
  unfold tq at h
  cases h with
  | tup r =>
    cases r with
    | cons r1 r2 =>
      cases r2 with
      | cons r2 r3 =>
        cases r1
        cases r2
        cases r3
        rfl
theorem Rpl.q {M : Store} : ∀ {qs : List Rat} {xs : List Val}, Rpl M xs (qs.map tq) → xs = qs.map rv
  | [], _, .nil => rfl
  | q :: qs, _, .cons h r => by rw [h.q, Rpl.q r]; rfl
def tr (qs : List Rat) : T := .lst (qs.map tq)
def tt (rs : List (List Rat)) : T := .lst (rs.map tr)
theorem Rp.row {M : Store} {v : Val} {qs : List Rat} (h : Rp M v (tr qs)) : ∃ n, v = .ref n ∧ Row M n qs := by
  unfold tr at h
  cases h with
  | lst hn r => exact ⟨_, rfl, by rw [Row, hn, r.q]⟩
theorem Rp.list {M : Store} {v : Val} {ts : List T} (h : Rp M v (.lst ts)) : ∃ n xs, v = .ref n ∧ M[n]? = some (.lst xs) ∧ Rpl M xs ts := by
  cases h with
  | lst hn r => exact ⟨_, _, rfl, hn, r⟩
def Tab (M : Store) (n : Nat) (rs : List (List Rat)) : Prop := ∃ xs, M[n]? = some (.lst xs) ∧ Rpl M xs (rs.map tr)
theorem Tab.gr {M M' : Store} {n : Nat} {rs : List (List Rat)} (h : Tab M n rs) (g : Gr M M') : Tab M' n rs := let ⟨xs, h1, h2⟩ := h; ⟨xs, g.at h1, h2.gr g⟩
theorem Tab.row {M : Store} {n i : Nat} {rs : List (List Rat)} {qs : List Rat} (h : Tab M n rs) (hi : rs[i]? = some qs) : ∃ m, oIx (.ref n) (.int i) M = some (.ref m, M) ∧ Row M m qs := by
  obtain ⟨xs, h1, h2⟩ := h
  obtain ⟨v, hv, hr⟩ := h2.get (i := i) (t := tr qs) (by rw [List.getElem?_map, hi]; rfl)
  obtain ⟨m, rfl, hm⟩ := hr.row
  exact ⟨m, oIx_nat (lstAt_lst h1) hv, hm⟩
theorem Tab.len {M : Store} {n : Nat} {rs : List (List Rat)} (h : Tab M n rs) : uLen (.ref n) M = some (.int rs.length, M) := by
  obtain ⟨xs, h1, h2⟩ := h
  rw [uLen_ref (lstAt_lst h1), h2.length, List.length_map]
theorem Tab.lt {M : Store} {n : Nat} {rs : List (List Rat)} (h : Tab M n rs) : n < M.length := let ⟨_, h1, _⟩ := h; (List.getElem?_eq_some_iff.mp h1).1
theorem eqv_tr (ps qs : List Rat) : (tr ps).eqv (tr qs) = decide (ps = qs) := by
  unfold tr T.eqv
  exact eqvs_tq ps qs
theorem eqvs_tr : ∀ rs ss : List (List Rat), T.eqvs (rs.map tr) (ss.map tr) = decide (rs = ss)
  | [], [] => by simp [T.eqvs]
  | [], _ :: _ => by simp [T.eqvs]
  | _ :: _, [] => by simp [T.eqvs]
  | p :: ps, q :: qs => by
    rw [List.map_cons, List.map_cons]
    unfold T.eqvs
    rw [eqv_tr, eqvs_tr ps qs, ← Bool.decide_and]
    exact decide_eq_decide.mpr (by rw [List.cons.injEq])
theorem eqv_tt (rs ss : List (List Rat)) : (tt rs).eqv (tt ss) = decide (rs = ss) := by
  unfold tt T.eqv
  exact eqvs_tr rs ss
def Rps (M : Store) : List (Val × T) → Prop
  | [] => True
  | p :: l => Rp M p.1 p.2 ∧ Rps M l
theorem Rps.gr {M M' : Store} (g : Gr M M') : ∀ {l : List (Val × T)}, Rps M l → Rps M' l
  | [], _ => trivial
  | _ :: _, h => ⟨h.1.gr g, Rps.gr g h.2⟩
end Mn
end
section
set_option Elab.async false
set_option autoImplicit false
set_option maxRecDepth 100000
set_option linter.all false
namespace Mn
inductive V where
  | non
  | bl (b : Bool)
  | int (i : Int)
  | str (s : List Nat)
  | exc (c : String)
  | tup (xs : List V)
  | lst (xs : List V)
  | ro (xs : List V)
  | obj (c : String) (ks : List String) (vs : List V)
  | dic (ks vs : List V)
  deriving Inhabited
mutual
def V.hasL : V → Bool
  | .tup xs => V.hasLs xs
  | .lst _ => true
  | .ro _ => true
  | .obj _ _ _ => true
  | .dic _ _ => true
  | _ => false
def V.hasLs : List V → Bool
  | [] => false
  | x :: xs => x.hasL || V.hasLs xs
end
mutual
def V.dp : V → Nat
  | .tup xs => V.dps xs + 1
  | .lst xs => V.dps xs + 1
  | .ro xs => V.dps xs + 1
  | _ => 1
def V.dps : List V → Nat
  | [] => 0
  | x :: xs => max x.dp (V.dps xs)
end
mutual
def V.tt : V → Option T
  | .non => some .non
  | .bl b => some (.bl b)
  | .int i => some (.int i)
  | .str s => if s.all (fun c => decide (c < 1114112)) = true then some (.str s) else none
  | .exc _ => none
  | .tup xs => (V.tts xs).map T.tup
  | .lst xs => (V.tts xs).map T.lst
  | .ro xs => (V.tts xs).map T.lst
  | .obj _ _ _ => none
  | .dic _ _ => none
def V.tts : List V → Option (List T)
  | [] => some []
  | x :: xs => match x.tt with
    | some t => (V.tts xs).map (t :: ·)
    | none => none
end
mutual
inductive Rq (P : Nat → Prop) (M : Store) : Val → V → Prop
  | non : Rq P M .non .non
  | bl (b : Bool) : Rq P M (.bl b) (.bl b)
  | int (i : Int) : Rq P M (.int i) (.int i)
  | str (s : List Nat) : Rq P M (.str s) (.str s)
  | exc (c : String) : Rq P M (.exc c) (.exc c)
  | tup {xs : List Val} {ts : List V} : Rql P M xs ts → Rq P M (.tup xs) (.tup ts)
  | lst {n : Nat} {xs : List Val} {ts : List V} : M[n]? = some (.lst xs) → P n → Rql P M xs ts → Rq P M (.ref n) (.lst ts)
  | ro {n : Nat} {xs : List Val} {ts : List V} : M[n]? = some (.ro xs) → P n → Rql P M xs ts → Rq P M (.ref n) (.ro ts)
  | obj {n : Nat} {c : String} {fs : List (String × Val)} {ts : List V} : M[n]? = some (.obj c fs) → P n → Rql P M (fs.map (·.2)) ts → Rq P M (.ref n) (.obj c (fs.map (·.1)) ts)
  | dic {n : Nat} {kvs : List (Val × Val)} {ks ts : List V} : M[n]? = some (.dic kvs) → P n → Rql P M (kvs.map (·.1)) ks → Rql P M (kvs.map (·.2)) ts → Rq P M (.ref n) (.dic ks ts)
inductive Rql (P : Nat → Prop) (M : Store) : List Val → List V → Prop
  | nil : Rql P M [] []
  | cons {x : Val} {t : V} {xs : List Val} {ts : List V} : Rq P M x t → Rql P M xs ts → Rql P M (x :: xs) (t :: ts)
end
mutual
theorem Rq.map {P Q : Nat → Prop} {M M' : Store} (g : ∀ m c, P m → M[m]? = some c → M'[m]? = some c ∧ Q m) : ∀ {v : Val} {t : V}, Rq P M v t → Rq Q M' v t
  | _, _, .non => .non
  | _, _, .bl b => .bl b
  | _, _, .int i => .int i
  | _, _, .str s => .str s
  | _, _, .exc c => .exc c
  | _, _, .tup h => .tup (Rql.map g h)
  | _, _, .lst h p r => .lst (g _ _ p h).1 (g _ _ p h).2 (Rql.map g r)
  | _, _, .ro h p r => .ro (g _ _ p h).1 (g _ _ p h).2 (Rql.map g r)
  | _, _, .obj h p r => .obj (g _ _ p h).1 (g _ _ p h).2 (Rql.map g r)
  | _, _, .dic h p r r' => .dic (g _ _ p h).1 (g _ _ p h).2 (Rql.map g r) (Rql.map g r')
theorem Rql.map {P Q : Nat → Prop} {M M' : Store} (g : ∀ m c, P m → M[m]? = some c → M'[m]? = some c ∧ Q m) : ∀ {vs : List Val} {ts : List V}, Rql P M vs ts → Rql Q M' vs ts
  | _, _, .nil => .nil
  | _, _, .cons h r => .cons (Rq.map g h) (Rql.map g r)
end
mutual
theorem Rq.noL {P Q : Nat → Prop} {M : Store} : ∀ {v : Val} {t : V}, t.hasL = false → Rq P M v t → Rq Q M v t
  | _, _, _, .non => .non
  | _, _, _, .bl b => .bl b
  | _, _, _, .int i => .int i
  | _, _, _, .str s => .str s
  | _, _, _, .exc c => .exc c
  | _, _, h, .tup r => .tup (Rql.noL (by simpa [V.hasL] using h) r)
  | _, _, h, .lst _ _ _ => by simp [V.hasL] at h
  | _, _, h, .ro _ _ _ => by simp [V.hasL] at h
  | _, _, h, .obj _ _ _ => by simp [V.hasL] at h
  | _, _, h, .dic _ _ _ _ => by simp [V.hasL] at h
theorem Rql.noL {P Q : Nat → Prop} {M : Store} : ∀ {vs : List Val} {ts : List V}, V.hasLs ts = false → Rql P M vs ts → Rql Q M vs ts
  | _, _, _, .nil => .nil
  | _, _, h, .cons x r => by
    unfold V.hasLs at h
    rw [Bool.or_eq_false_iff] at h
    exact .cons (Rq.noL h.1 x) (Rql.noL h.2 r)
end
mutual
theorem Rq.toT {P : Nat → Prop} {M : Store} : ∀ {v : Val} {t : V} {u : T} (k : Nat), Rq P M v t → t.tt = some u → t.dp ≤ k → toT M k v = some u
  | _, _, _, 0, r, _, h => by
    cases r <;> simp [V.dp] at h
  | _, _, _, k + 1, .non, e, _ => e
  | _, _, _, k + 1, .bl b, e, _ => e
  | _, _, _, k + 1, .int i, e, _ => e
  | _, _, _, k + 1, .str s, e, _ => e
  | _, _, _, k + 1, .exc c, e, _ => e
  | _, _, _, k + 1, .tup (ts := ts) r, e, h => by
    unfold V.dp at h
    unfold V.tt at e
    unfold Mn.toT
    cases e2 : V.tts ts with
    | none => rw [e2] at e; cases e
    | some us =>
      rw [e2] at e
      rw [Rql.toT k r e2 (by omega)]
      exact e
  | _, _, _, k + 1, .lst (ts := ts) hn _ r, e, h => by
    unfold V.dp at h
    unfold V.tt at e
    unfold Mn.toT
    simp only [lstAt_lst hn]
    cases e2 : V.tts ts with
    | none => rw [e2] at e; cases e
    | some us =>
      rw [e2] at e
      rw [Rql.toT k r e2 (by omega)]
      exact e
  | _, _, _, k + 1, .ro (ts := ts) hn _ r, e, h => by
    unfold V.dp at h
    unfold V.tt at e
    unfold Mn.toT
    simp only [lstAt_ro hn]
    cases e2 : V.tts ts with
    | none => rw [e2] at e; cases e
    | some us =>
      rw [e2] at e
      rw [Rql.toT k r e2 (by omega)]
      exact e
  | _, _, _, k + 1, .obj _ _ _, e, _ => by
    unfold V.tt at e
    cases e
  | _, _, _, k + 1, .dic _ _ _ _, e, _ => by
    unfold V.tt at e
    cases e
theorem Rql.toT {P : Nat → Prop} {M : Store} : ∀ {vs : List Val} {ts : List V} {us : List T} (k : Nat), Rql P M vs ts → V.tts ts = some us → V.dps ts ≤ k → mapO (toT M k) vs = some us
  | _, _, _, k, .nil, e, _ => e
  | _, _, _, k, .cons (t := t) (ts := ts) r rs, e, h => by
    unfold V.dps at h
    unfold V.tts at e
    unfold mapO
    cases e1 : t.tt with
    | none => rw [e1] at e; cases e
    | some u =>
      rw [e1] at e
      rw [Rq.toT k r e1 (by omega)]
      simp only [] at e ⊢
      cases e2 : V.tts ts with
      | none => rw [e2] at e; cases e
      | some us =>
        rw [e2] at e
        rw [Rql.toT k rs e2 (by omega)]
        exact e
end
theorem Rql.length {P : Nat → Prop} {M : Store} : ∀ {xs : List Val} {ts : List V}, Rql P M xs ts → xs.length = ts.length
  | _, _, .nil => rfl
  | _, _, .cons _ r => congrArg Nat.succ (Rql.length r)
theorem Rql.get {P : Nat → Prop} {M : Store} : ∀ {xs : List Val} {ts : List V} {i : Nat} {t : V}, Rql P M xs ts → ts[i]? = some t → ∃ v, xs[i]? = some v ∧ Rq P M v t
  | _, _, _, _, .nil, e => by cases e
  | _, _, 0, _, .cons h _, e => by
    cases e
    exact ⟨_, rfl, h⟩
  | _, _, i + 1, _, .cons _ r, e => Rql.get (i := i) r e
theorem Rql.append {P : Nat → Prop} {M : Store} : ∀ {xs ys : List Val} {ts us : List V}, Rql P M xs ts → Rql P M ys us → Rql P M (xs ++ ys) (ts ++ us)
  | _, _, _, _, .nil, s => s
  | _, _, _, _, .cons h r, s => .cons h (Rql.append r s)
theorem Rql.take {P : Nat → Prop} {M : Store} : ∀ {xs : List Val} {ts : List V} (k : Nat), Rql P M xs ts → Rql P M (xs.take k) (ts.take k)
  | _, _, 0, _ => .nil
  | _, _, _ + 1, .nil => .nil
  | _, _, k + 1, .cons h r => .cons h (Rql.take k r)
theorem Rql.drop {P : Nat → Prop} {M : Store} : ∀ {xs : List Val} {ts : List V} (k : Nat), Rql P M xs ts → Rql P M (xs.drop k) (ts.drop k)
  | _, _, 0, r => r
  | _, _, _ + 1, .nil => .nil
  | _, _, k + 1, .cons _ r => Rql.drop k r
theorem Rql.cut {P : Nat → Prop} {M : Store} {xs : List Val} {ts : List V} (r : Rql P M xs ts) (lo hi : Option Int) : Rql P M (Mn.cut xs lo hi) (Mn.cut ts lo hi) := by
  unfold Mn.cut
  rw [r.length]
  exact (r.drop _).take _
theorem Rql.set {P : Nat → Prop} {M : Store} {x : Val} {t : V} (h : Rq P M x t) : ∀ {xs : List Val} {ts : List V} (i : Nat), Rql P M xs ts → Rql P M (xs.set i x) (ts.set i t)
  | _, _, _, .nil => .nil
  | _, _, 0, .cons _ r => .cons h r
  | _, _, i + 1, .cons g r => .cons g (Rql.set h i r)
theorem Rql.rep {P : Nat → Prop} {M : Store} {xs : List Val} {ts : List V} (h : Rql P M xs ts) : ∀ k : Nat, Rql P M (List.replicate k xs).flatten (List.replicate k ts).flatten
  | 0 => .nil
  | k + 1 => by
    rw [List.replicate_succ, List.replicate_succ, List.flatten_cons, List.flatten_cons]
    exact h.append (h.rep k)
mutual
inductive Ow (M : Store) : Val → V → List Nat → Prop
  | non : Ow M .non .non []
  | bl (b : Bool) : Ow M (.bl b) (.bl b) []
  | int (i : Int) : Ow M (.int i) (.int i) []
  | str (s : List Nat) : Ow M (.str s) (.str s) []
  | exc (c : String) : Ow M (.exc c) (.exc c) []
  | tup {xs : List Val} {ts : List V} {cs : List Nat} : Owl M xs ts cs → Ow M (.tup xs) (.tup ts) cs
  | lst {n : Nat} {xs : List Val} {ts : List V} {cs : List Nat} : M[n]? = some (.lst xs) → Owl M xs ts cs → Ow M (.ref n) (.lst ts) (n :: cs)
  | obj {n : Nat} {c : String} {fs : List (String × Val)} {ts : List V} {cs : List Nat} : M[n]? = some (.obj c fs) → Owl M (fs.map (·.2)) ts cs → Ow M (.ref n) (.obj c (fs.map (·.1)) ts) (n :: cs)
  | dic {n : Nat} {kvs : List (Val × Val)} {ks ts : List V} {cs : List Nat} : M[n]? = some (.dic kvs) → Owl M (kvs.map (·.1)) ks [] → Owl M (kvs.map (·.2)) ts cs → Ow M (.ref n) (.dic ks ts) (n :: cs)
inductive Owl (M : Store) : List Val → List V → List Nat → Prop
  | nil : Owl M [] [] []
  | cons {x : Val} {t : V} {xs : List Val} {ts : List V} {a b : List Nat} : Ow M x t a → Owl M xs ts b → Owl M (x :: xs) (t :: ts) (a ++ b)
end
mutual
theorem Ow.map {M M' : Store} : ∀ {v : Val} {t : V} {cs : List Nat}, Ow M v t cs → (∀ m c, m ∈ cs → M[m]? = some c → M'[m]? = some c) → Ow M' v t cs
  | _, _, _, .non, _ => .non
  | _, _, _, .bl b, _ => .bl b
  | _, _, _, .int i, _ => .int i
  | _, _, _, .str s, _ => .str s
  | _, _, _, .exc c, _ => .exc c
  | _, _, _, .tup h, g => .tup (Owl.map h g)
  | _, _, _, .lst h r, g => .lst (g _ _ List.mem_cons_self h) (Owl.map r fun m c hm => g m c (List.mem_cons_of_mem _ hm))
  | _, _, _, .obj h r, g => .obj (g _ _ List.mem_cons_self h) (Owl.map r fun m c hm => g m c (List.mem_cons_of_mem _ hm))
  | _, _, _, .dic h k r, g => .dic (g _ _ List.mem_cons_self h) (Owl.map k fun m c hm => by cases hm) (Owl.map r fun m c hm => g m c (List.mem_cons_of_mem _ hm))
theorem Owl.map {M M' : Store} : ∀ {vs : List Val} {ts : List V} {cs : List Nat}, Owl M vs ts cs → (∀ m c, m ∈ cs → M[m]? = some c → M'[m]? = some c) → Owl M' vs ts cs
  | _, _, _, .nil, _ => .nil
  | _, _, _, .cons h r, g => .cons (Ow.map h fun m c hm => g m c (List.mem_append_left _ hm)) (Owl.map r fun m c hm => g m c (List.mem_append_right _ hm))
end
mutual
theorem Ow.fn {M : Store} : ∀ {v : Val} {t : V} {cs cs' : List Nat}, Ow M v t cs → Ow M v t cs' → cs = cs'
  | _, _, _, _, .non, .non => rfl
  | _, _, _, _, .bl b, .bl _ => rfl
  | _, _, _, _, .int i, .int _ => rfl
  | _, _, _, _, .str s, .str _ => rfl
  | _, _, _, _, .exc c, .exc _ => rfl
  | _, _, _, _, .tup h, .tup h' => Owl.fn h h'
  | _, _, _, _, .lst h r, .lst h' r' => by
    rw [h] at h'
    cases h'
    rw [Owl.fn r r']
  | _, _, _, _, .obj h r, b => by
    generalize hv : Val.ref _ = v at b
    generalize ht : V.obj _ _ _ = t at b
    cases b with
    | obj h' r' =>
      cases hv
      rw [h] at h'
      cases h'
      cases ht
      rw [Owl.fn r r']
    | _ => cases ht
  | _, _, _, _, .dic h k r, .dic h' k' r' => by
    rw [h] at h'
    cases h'
    rw [Owl.fn r r']
theorem Owl.fn {M : Store} : ∀ {vs : List Val} {ts : List V} {cs cs' : List Nat}, Owl M vs ts cs → Owl M vs ts cs' → cs = cs'
  | _, _, _, _, .nil, .nil => rfl
  | _, _, _, _, .cons h r, .cons h' r' => by rw [Ow.fn h h', Owl.fn r r']
end
mutual
theorem Ow.rq {M : Store} {P : Nat → Prop} : ∀ {v : Val} {t : V} {cs : List Nat}, Ow M v t cs → (∀ n ∈ cs, P n) → Rq P M v t
  | _, _, _, .non, _ => .non
  | _, _, _, .bl b, _ => .bl b
  | _, _, _, .int i, _ => .int i
  | _, _, _, .str s, _ => .str s
  | _, _, _, .exc c, _ => .exc c
  | _, _, _, .tup h, g => .tup (Owl.rq h g)
  | _, _, _, .lst h r, g => .lst h (g _ List.mem_cons_self) (Owl.rq r fun m hm => g m (List.mem_cons_of_mem _ hm))
  | _, _, _, .obj h r, g => .obj h (g _ List.mem_cons_self) (Owl.rq r fun m hm => g m (List.mem_cons_of_mem _ hm))
  | _, _, _, .dic h k r, g => .dic h (g _ List.mem_cons_self) (Owl.rq k fun m hm => by cases hm) (Owl.rq r fun m hm => g m (List.mem_cons_of_mem _ hm))
theorem Owl.rq {M : Store} {P : Nat → Prop} : ∀ {vs : List Val} {ts : List V} {cs : List Nat}, Owl M vs ts cs → (∀ n ∈ cs, P n) → Rql P M vs ts
  | _, _, _, .nil, _ => .nil
  | _, _, _, .cons h r, g => .cons (Ow.rq h fun m hm => g m (List.mem_append_left _ hm)) (Owl.rq r fun m hm => g m (List.mem_append_right _ hm))
end
theorem get_lt {M : Store} {m : Nat} {c : Cell} (h : M[m]? = some c) : m < M.length := (List.getElem?_eq_some_iff.mp h).1
mutual
theorem Ow.lt {M : Store} : ∀ {v : Val} {t : V} {cs : List Nat}, Ow M v t cs → ∀ n ∈ cs, n < M.length
  | _, _, _, .tup h => Owl.lt h
  | _, _, _, .lst h r => fun n hn => by
    rcases List.mem_cons.mp hn with e | hn
    · rw [e]
      exact get_lt h
    · exact Owl.lt r n hn
  | _, _, _, .obj h r => fun n hn => by
    rcases List.mem_cons.mp hn with e | hn
    · rw [e]
      exact get_lt h
    · exact Owl.lt r n hn
  | _, _, _, .dic h k r => fun n hn => by
    rcases List.mem_cons.mp hn with e | hn
    · rw [e]
      exact get_lt h
    · exact Owl.lt r n hn
  | _, _, _, .non => fun n h => by cases h
  | _, _, _, .bl _ => fun n h => by cases h
  | _, _, _, .int _ => fun n h => by cases h
  | _, _, _, .str _ => fun n h => by cases h
  | _, _, _, .exc _ => fun n h => by cases h
theorem Owl.lt {M : Store} : ∀ {vs : List Val} {ts : List V} {cs : List Nat}, Owl M vs ts cs → ∀ n ∈ cs, n < M.length
  | _, _, _, .nil => fun n h => by cases h
  | _, _, _, .cons h r => fun n hn => by
    rcases List.mem_append.mp hn with hn | hn
    · exact Ow.lt h n hn
    · exact Owl.lt r n hn
end
theorem Ow.gr {M M' : Store} (g : Gr M M') {v : Val} {t : V} {cs : List Nat} (h : Ow M v t cs) : Ow M' v t cs := h.map fun _ _ _ e => g.at e
inductive Fl where
  | fr
  | dr
  | fz
  | bo
  | bd
structure W where
  fl : Fl
  tn : Bool
  t : V
def W.at (t : V) : W := ⟨.fz, false, t⟩
def isB : Fl → Bool
  | .bo => true
  | .bd => true
  | _ => false
def nW (fl : Fl) (tn : Bool) (t : V) : W := if t.hasL = true then ⟨fl, tn, t⟩ else .at t
abbrev PEnv := List (Option W)
inductive PR (α : Type) where
  | ok (a : α)
  | exc (c : String)
  | bad
abbrev PE := PEnv → PR W
abbrev PF := List V → PR W
inductive PRS where
  | nx (π : PEnv)
  | ret (w : W)
  | bk (π : PEnv)
  | ct (π : PEnv)
  | exc (c : String) (π : PEnv)
  | bad
abbrev PS := PEnv → PRS
def Lv (B : Nat) (Pa : Nat → Prop) (tn : Bool) (m : Nat) : Prop := B ≤ m ∨ (tn = true ∧ Pa m)
def Av (O : Nat → Prop) (B : Nat) (Pa : Nat → Prop) (tn : Bool) (m : Nat) : Prop := ¬O m ∧ Lv B Pa tn m
def RW (B : Nat) (Pa O : Nat → Prop) (L : Nat) (M : Store) (v : Val) (w : W) : Prop := match w.fl with
  | .fr => ∃ n xs ts, v = .ref n ∧ L ≤ n ∧ M[n]? = some (.lst xs) ∧ w.t = .lst ts ∧ Rql (fun m => m ≠ n ∧ Av O B Pa w.tn m) M xs ts
  | .dr => ∃ cs, Ow M v w.t cs ∧ cs.Nodup ∧ ∀ n ∈ cs, L ≤ n ∧ Av O B Pa false n
  | .fz => Rq (Av O B Pa w.tn) M v w.t
  | .bo => ∃ n xs ts, v = .ref n ∧ O n ∧ M[n]? = some (.lst xs) ∧ w.t = .lst ts ∧ Rql (Av O B Pa w.tn) M xs ts
  | .bd => Rq (Lv B Pa w.tn) M v w.t
def RV (B : Nat) (Pa O : Nat → Prop) (M : Store) (v : Val) (w : W) : Prop := match w.fl with
  | .dr => ∃ cs, Ow M v w.t cs ∧ cs.Nodup ∧ ∀ n ∈ cs, B ≤ n
  | _ => RW B Pa O B M v w
def isO : Fl → Bool
  | .fr => true
  | .dr => true
  | _ => false
def Oc (fl : Fl) (M : Store) (v : Val) (t : V) (cs : List Nat) : Prop := match fl with
  | .fr => ∃ n, v = .ref n ∧ cs = [n]
  | .dr => Ow M v t cs
  | _ => False
structure PSt (B : Nat) (Pa O : Nat → Prop) (ρ : Env) (M : Store) (π : PEnv) : Prop where
  len : ρ.length = π.length
  low : B ≤ M.length
  bnd : ∀ n, O n → B ≤ n ∧ n < M.length
  own : ∀ (i : Nat) (w : W), π[i]? = some (some w) → isO w.fl = true → ∃ v cs, ρ[i]? = some (some v) ∧ Oc w.fl M v w.t cs ∧ ∀ n ∈ cs, O n
  inj : ∀ (i j : Nat) (w w' : W) (v v' : Val) (cs cs' : List Nat) (n : Nat), π[i]? = some (some w) → π[j]? = some (some w') → ρ[i]? = some (some v) → ρ[j]? = some (some v') → Oc w.fl M v w.t cs → Oc w'.fl M v' w'.t cs' → n ∈ cs → n ∈ cs' → i = j
  val : ∀ (i : Nat) (w : W), π[i]? = some (some w) → ∃ v, ρ[i]? = some (some v) ∧ RV B Pa O M v w
  nb : ∀ (i : Nat) (w : W), π[i]? = some (some w) → isB w.fl = false
theorem Oc.gr {fl : Fl} {M M' : Store} {v : Val} {t : V} {cs : List Nat} (g : Gr M M') (h : Oc fl M v t cs) : Oc fl M' v t cs := by
  cases fl with
  | fr => exact h
  | dr => exact Ow.gr g h
  | _ => exact h.elim
theorem Oc.fn {fl : Fl} {M : Store} {v : Val} {t : V} {cs cs' : List Nat} (h : Oc fl M v t cs) (h' : Oc fl M v t cs') : cs = cs' := by
  cases fl with
  | fr =>
    obtain ⟨n, rfl, rfl⟩ := h
    obtain ⟨m, e, rfl⟩ := h'
    cases e
    rfl
  | dr => exact Ow.fn h h'
  | _ => exact h.elim
theorem Oc.isO {fl : Fl} {M : Store} {v : Val} {t : V} {cs : List Nat} (h : Oc fl M v t cs) : Mn.isO fl = true := by
  cases fl <;> first | rfl | exact h.elim
def Ext (O : Nat → Prop) (M : Store) (O' : Nat → Prop) (M' : Store) : Prop := M.length ≤ M'.length ∧ ∀ m, m < M.length → ¬O m → M'[m]? = M[m]? ∧ ¬O' m
theorem Ext.refl (O : Nat → Prop) (M : Store) : Ext O M O M := ⟨Nat.le_refl _, fun _ _ h => ⟨rfl, h⟩⟩
theorem Ext.trans {O O1 O2 : Nat → Prop} {M M1 M2 : Store} (a : Ext O M O1 M1) (b : Ext O1 M1 O2 M2) : Ext O M O2 M2 :=
  ⟨Nat.le_trans a.1 b.1, fun m h n => let ⟨e1, n1⟩ := a.2 m h n; let ⟨e2, n2⟩ := b.2 m (Nat.lt_of_lt_of_le h a.1) n1; ⟨e2.trans e1, n2⟩⟩
theorem Ext.gr {O : Nat → Prop} {M M' : Store} (g : Gr M M') : Ext O M O M' := by
  obtain ⟨k, rfl⟩ := g
  exact ⟨by rw [List.length_append]; omega, fun m h n => ⟨List.getElem?_append_left h, n⟩⟩
theorem Gr.of_prefix {M M' : Store} (hl : M.length ≤ M'.length) (h : ∀ m, m < M.length → M'[m]? = M[m]?) : Gr M M' := by
  refine ⟨M'.drop M.length, List.ext_getElem? fun i => ?_⟩
  by_cases hi : i < M.length
  · rw [List.getElem?_append_left hi]
    exact h i hi
  · rw [List.getElem?_append_right (by omega), List.getElem?_drop]
    congr 1
    omega
theorem RW.gr {B L : Nat} {Pa O : Nat → Prop} {M M' : Store} {v : Val} {w : W} (g : Gr M M') (h : RW B Pa O L M v w) : RW B Pa O L M' v w := by
  have k : ∀ (P : Nat → Prop) m c, P m → M[m]? = some c → M'[m]? = some c ∧ P m := fun P m c p e => ⟨g.at e, p⟩
  unfold RW at *
  split at h
  · obtain ⟨n, xs, ts, a, b, c, d, e⟩ := h
    exact ⟨n, xs, ts, a, b, g.at c, d, e.map (k _)⟩
  · obtain ⟨cs, a, b, c⟩ := h
    exact ⟨cs, a.gr g, b, c⟩
  · exact h.map (k _)
  · obtain ⟨n, xs, ts, a, b, c, d, e⟩ := h
    exact ⟨n, xs, ts, a, b, g.at c, d, e.map (k _)⟩
  · exact h.map (k _)
theorem RV.gr {B : Nat} {Pa O : Nat → Prop} {M M' : Store} {v : Val} {w : W} (g : Gr M M') (h : RV B Pa O M v w) : RV B Pa O M' v w := by
  obtain ⟨fl, tn, t⟩ := w
  cases fl with
  | dr =>
    obtain ⟨cs, a, b, c⟩ := h
    exact ⟨cs, Ow.gr g a, b, c⟩
  | fr => exact RW.gr (O := O) (L := B) (w := ⟨.fr, tn, t⟩) g h
  | fz => exact RW.gr (O := O) (L := B) (w := ⟨.fz, tn, t⟩) g h
  | bo => exact RW.gr (O := O) (L := B) (w := ⟨.bo, tn, t⟩) g h
  | bd => exact RW.gr (O := O) (L := B) (w := ⟨.bd, tn, t⟩) g h
theorem RW.low {B L L' : Nat} {Pa O : Nat → Prop} {M : Store} {v : Val} {w : W} (l : L' ≤ L) (h : RW B Pa O L M v w) : RW B Pa O L' M v w := by
  unfold RW at *
  split at h
  · obtain ⟨n, xs, ts, a, b, c, d, e⟩ := h
    exact ⟨n, xs, ts, a, Nat.le_trans l b, c, d, e⟩
  · obtain ⟨cs, a, b, c⟩ := h
    exact ⟨cs, a, b, fun n hn => ⟨Nat.le_trans l (c n hn).1, (c n hn).2⟩⟩
  · exact h
  · exact h
  · exact h
theorem PSt.gr {B : Nat} {Pa O : Nat → Prop} {ρ : Env} {M M' : Store} {π : PEnv} (g : Gr M M') (h : PSt B Pa O ρ M π) : PSt B Pa O ρ M' π := by
  have back : ∀ (i : Nat) (w : W) (v : Val) (cs : List Nat), π[i]? = some (some w) → ρ[i]? = some (some v) → Oc w.fl M' v w.t cs → Oc w.fl M v w.t cs := fun i w v cs e r o => by
    obtain ⟨v', cs', a, b, _⟩ := h.own i w e o.isO
    rw [r] at a
    cases a
    rw [o.fn (b.gr g)]
    exact b
  exact ⟨h.len, Nat.le_trans h.low g.len, fun n o => ⟨(h.bnd n o).1, Nat.lt_of_lt_of_le (h.bnd n o).2 g.len⟩, fun i w e f => let ⟨v, cs, a, b, c⟩ := h.own i w e f; ⟨v, cs, a, b.gr g, c⟩, fun i j w w' v v' cs cs' n e1 e2 r1 r2 o1 o2 m1 m2 => h.inj i j w w' v v' cs cs' n e1 e2 r1 r2 (back i w v cs e1 r1 o1) (back j w' v' cs' e2 r2 o2) m1 m2, fun i w e => let ⟨v, a, b⟩ := h.val i w e; ⟨v, a, b.gr g⟩, h.nb⟩
theorem RW.any {B L : Nat} {Pa O : Nat → Prop} {M : Store} {v : Val} {w : W} (h : RW B Pa O L M v w) : Rq (fun _ => True) M v w.t := by
  have k : ∀ (P : Nat → Prop) m c, P m → M[m]? = some c → M[m]? = some c ∧ True := fun P m c p e => ⟨e, trivial⟩
  unfold RW at h
  split at h
  · obtain ⟨n, xs, ts, rfl, b, c, d, e⟩ := h
    rw [d]
    exact .lst c trivial (e.map (k _))
  · obtain ⟨cs, a, b, c⟩ := h
    exact a.rq fun _ _ => trivial
  · exact h.map (k _)
  · obtain ⟨n, xs, ts, rfl, b, c, d, e⟩ := h
    rw [d]
    exact .lst c trivial (e.map (k _))
  · exact h.map (k _)
theorem RW.free {B L : Nat} {Pa O : Nat → Prop} {M : Store} {v : Val} {w : W} (hb : ∀ n, O n → n < L) (hl : B ≤ L) (n : isB w.fl = false) (h : RW B Pa O L M v w) : Rq (Av O B Pa w.tn) M v w.t := by
  unfold RW at h
  split at h
  · obtain ⟨n, xs, ts, rfl, b, c, d, e⟩ := h
    rw [d]
    exact .lst c ⟨fun o => by have := hb n o; omega, .inl (by omega)⟩ (e.map fun m c p e => ⟨e, p.2⟩)
  · obtain ⟨cs, a, b, c⟩ := h
    exact a.rq fun n hn => ⟨(c n hn).2.1, (c n hn).2.2.imp id fun z => by cases z.1⟩
  · exact h
  · rename_i e
    rw [e] at n
    cases n
  · rename_i e
    rw [e] at n
    cases n
theorem RW.live {B L : Nat} {Pa O : Nat → Prop} {M : Store} {v : Val} {w : W} (hb : ∀ n, O n → B ≤ n) (hl : B ≤ L) (h : RW B Pa O L M v w) : Rq (Lv B Pa w.tn) M v w.t := by
  unfold RW at h
  split at h
  · obtain ⟨n, xs, ts, rfl, b, c, d, e⟩ := h
    rw [d]
    exact .lst c (.inl (by omega)) (e.map fun m c p e => ⟨e, p.2.2⟩)
  · obtain ⟨cs, a, b, c⟩ := h
    exact a.rq fun n hn => (c n hn).2.2.imp id fun z => by cases z.1
  · exact h.map fun m c p e => ⟨e, p.2⟩
  · obtain ⟨n, xs, ts, rfl, b, c, d, e⟩ := h
    rw [d]
    exact .lst c (.inl (hb n b)) (e.map fun m c p e => ⟨e, p.2⟩)
  · exact h
theorem RW.at {B L : Nat} {Pa O : Nat → Prop} {M : Store} {v : Val} {t : V} {P : Nat → Prop} (h : t.hasL = false) (r : Rq P M v t) : RW B Pa O L M v (.at t) := r.noL h
theorem RW.nW {B L : Nat} {Pa O : Nat → Prop} {M : Store} {v : Val} {fl : Fl} {tn : Bool} {t : V} (h : RW B Pa O L M v ⟨fl, tn, t⟩) : RW B Pa O L M v (Mn.nW fl tn t) := by
  unfold Mn.nW
  by_cases e : t.hasL = true
  · rw [if_pos e]
    exact h
  · rw [if_neg e]
    exact RW.at (by simpa using e) h.any
theorem Lv.mono {B : Nat} {Pa : Nat → Prop} {a b : Bool} {m : Nat} (h : Lv B Pa a m) (k : a = true → b = true) : Lv B Pa b m := h.imp id fun ⟨x, y⟩ => ⟨k x, y⟩
theorem Av.mono {O : Nat → Prop} {B : Nat} {Pa : Nat → Prop} {a b : Bool} {m : Nat} (h : Av O B Pa a m) (k : a = true → b = true) : Av O B Pa b m := ⟨h.1, h.2.mono k⟩
end Mn
end
section
set_option Elab.async false
set_option autoImplicit false
set_option maxRecDepth 100000
set_option linter.all false
namespace Mn
def isD : Fl → Bool
  | .bd => true
  | _ => false
def elW (ds tn : Bool) (x : V) : W := nW (if ds = true then .bd else .fz) tn x
def mkL (ds tn : Bool) (xs : List V) : W := ⟨if (ds && V.hasLs xs) = true then .bd else .fr, tn && V.hasLs xs, .lst xs⟩
def mkT (ds tn : Bool) (xs : List V) : W := nW (if ds = true then .bd else .fz) tn (.tup xs)
def qSeq (w : W) : Option (List V) := match w.t with
  | .lst xs => some xs
  | .ro xs => some xs
  | .tup xs => some xs
  | _ => none
def qLs (w : W) : Option (List V) := match w.t with
  | .lst xs => some xs
  | .ro xs => some xs
  | _ => none
abbrev PO := W → W → PR W
abbrev PU := W → PR W
def qInt (g : Int → Int → V) (ok : Int → Int → Bool) : PO := fun a b => match a.t, b.t with
  | .int i, .int j => if ok i j = true then .ok (.at (g i j)) else .bad
  | _, _ => .bad
def qAdd : PO := fun a b => match a.t, b.t with
  | .int i, .int j => .ok (.at (.int (i + j)))
  | .str x, .str y => if x.length + y.length ≤ szLine then .ok (.at (.str (x ++ y))) else .bad
  | .lst xs, .lst ys => if xs.length + ys.length ≤ szLine then .ok (mkL (isD a.fl || isD b.fl) (a.tn || b.tn) (xs ++ ys)) else .bad
  | .tup xs, .tup ys => if xs.length + ys.length ≤ szLine then .ok (mkT (isD a.fl || isD b.fl) (a.tn || b.tn) (xs ++ ys)) else .bad
  | _, _ => .bad
def qSub : PO := qInt (fun i j => .int (i - j)) fun _ _ => true
def qMul : PO := fun a b => match a.t, b.t with
  | .int i, .int j => if mulOk i j = true then .ok (.at (.int (i * j))) else .bad
  | .lst xs, .int k => if xs.length * k.toNat ≤ szLine ∧ -(2 ^ 63) ≤ k ∧ k < 2 ^ 63 then .ok (mkL (isD a.fl) a.tn (List.replicate k.toNat xs).flatten) else .bad
  | _, _ => .bad
def qDiv : PO := qInt (fun i j => .int (i.fdiv j)) fun i j => decide (j ≠ 0) && divOk i j
def qMod : PO := qInt (fun i j => .int (i.fmod j)) fun _ j => decide (j ≠ 0)
def qPow : PO := qInt (fun i j => .int (i ^ j.toNat)) fun i j => decide (0 ≤ j ∧ j ≤ 1000000 ∧ i.natAbs < 2 ^ 64)
def qDm : PO := qInt (fun i j => .tup [.int (i / j), .int (i % j)]) fun i j => decide (0 < j) && divOk i j
def qMax : PO := qInt (fun i j => .int (if j > i then j else i)) fun _ _ => true
def qMin : PO := qInt (fun i j => .int (if j < i then j else i)) fun _ _ => true
def qLt : PO := qInt (fun i j => .bl (decide (i < j))) fun _ _ => true
def qLe : PO := qInt (fun i j => .bl (decide (i ≤ j))) fun _ _ => true
def qGt : PO := qInt (fun i j => .bl (decide (j < i))) fun _ _ => true
def qGe : PO := qInt (fun i j => .bl (decide (j ≤ i))) fun _ _ => true
def vEq (a b : V) : Option Bool := if a.dp ≤ 60 ∧ b.dp ≤ 60 then match a.tt, b.tt with
  | some x, some y => some (x.eqv y)
  | _, _ => none
  else none
def isD0 : V → Bool
  | .dic [] [] => true
  | _ => false
def vLk (a b : V) : Bool := decide (vEq a b = some true) || (isD0 a && isD0 b)
def vLks : List V → List V → Bool
  | [], [] => true
  | x :: xs, y :: ys => vLk x y && vLks xs ys
  | _, _ => false
def vLsts : V → V → Bool
  | .lst xs, .lst ys => vLks xs ys && xs.any isD0
  | _, _ => false
def qEqG (neg : Bool) : PO := fun a b => match vEq a.t b.t with
  | some r => .ok (.at (.bl (if neg = true then !r else r)))
  | none => if neg = true ∧ vLsts a.t b.t = true then .ok (.at (.bl false)) else .bad
def qEq : PO := qEqG false
def qNe : PO := qEqG true
def isNonV : V → Bool
  | .non => true
  | _ => false
def qIsN : PO := fun a b => match b.t with
  | .non => .ok (.at (.bl (isNonV a.t)))
  | .bl q => match a.t with
    | .bl p => .ok (.at (.bl (p == q)))
    | _ => .bad
  | _ => .bad
def qNotN : PO := fun a b => match b.t with
  | .non => .ok (.at (.bl (!isNonV a.t)))
  | .bl q => match a.t with
    | .bl p => .ok (.at (.bl (!(p == q))))
    | _ => .bad
  | _ => .bad
def flatV : V → Bool
  | .non => true
  | .bl _ => true
  | .int _ => true
  | .str _ => true
  | _ => false
def eqV : V → V → Bool
  | .non, .non => true
  | .bl a, .bl b => a == b
  | .int a, .int b => a == b
  | .str a, .str b => a == b
  | .bl a, .int b => b2i a == b
  | .int a, .bl b => a == b2i b
  | _, _ => false
def qIx : PO := fun a b => match qSeq a, b.t with
  | some xs, .int i => match atI xs i with
    | some x => .ok (elW (isD a.fl) a.tn x)
    | none => .bad
  | _, _ => .bad
def qNeg : PU := fun a => match a.t with
  | .int i => .ok (.at (.int (-i)))
  | _ => .bad
def qAbs : PU := fun a => match a.t with
  | .int i => .ok (.at (.int (if i < 0 then -i else i)))
  | _ => .bad
def qLen : PU := fun a => match a.t with
  | .tup xs => .ok (.at (.int xs.length))
  | .lst xs => .ok (.at (.int xs.length))
  | .ro xs => .ok (.at (.int xs.length))
  | .str s => if s.length ≤ szLine then .ok (.at (.int s.length)) else .bad
  | _ => .bad
def qList : PU := fun a => match qSeq a with
  | some xs => .ok (mkL (isD a.fl) a.tn xs)
  | none => .bad
def toBlV : V → Option Bool
  | .bl b => some b
  | _ => none
def qAllG (g : List Bool → Bool) : PU := fun a => match qLs a with
  | some xs => match mapO toBlV xs with
    | some bs => .ok (.at (.bl (g bs)))
    | none => .bad
  | none => .bad
def qAll : PU := qAllG fun bs => bs.all id
def qAny : PU := qAllG fun bs => bs.any id
def qToInt : PU := fun a => match a.t with
  | .int i => .ok (.at (.int i))
  | .bl b => .ok (.at (.int (if b then 1 else 0)))
  | _ => .bad
def tyV : V → Option String
  | .non => some "NoneType"
  | .bl _ => some "bool"
  | .int _ => some "int"
  | .str _ => some "str"
  | .tup _ => some "tuple"
  | .lst _ => some "list"
  | .ro _ => some "list"
  | .dic _ _ => some "dict"
  | _ => none
def qIs (ts : List String) : PU := fun a => match a.t with
  | .exc c => .ok (.at (.bl (ts.any (isX c))))
  | v => match tyV v with
    | some a => .ok (.at (.bl (ts.any (isT a))))
    | none => .bad
def qCut (a : W) (lo hi : Option Int) : PR W := match a.t with
  | .lst xs => .ok (mkL (isD a.fl) a.tn (cut xs lo hi))
  | .ro xs => .ok (mkL (isD a.fl) a.tn (cut xs lo hi))
  | .tup xs => .ok (mkT (isD a.fl) a.tn (cut xs lo hi))
  | .str s => if s.length ≤ szLine then .ok (.at (.str (cut s lo hi))) else .bad
  | _ => .bad
structure Cx (B : Nat) (Pa O : Nat → Prop) (L : Nat) (M : Store) : Prop where
  bnd : ∀ n, O n → B ≤ n ∧ n < L
  low : B ≤ L
  up : L ≤ M.length
theorem Cx.gr {B L : Nat} {Pa O : Nat → Prop} {M M' : Store} (c : Cx B Pa O L M) (g : Gr M M') : Cx B Pa O L M' := ⟨c.bnd, c.low, Nat.le_trans c.up g.len⟩
section
variable {B L : Nat} {Pa O : Nat → Prop} {M M' : Store} {x y v : Val} {w w' : W}
def RE (B : Nat) (Pa O : Nat → Prop) (ds tn : Bool) (M : Store) (xs : List Val) (ts : List V) : Prop := Rql (if ds = true then Lv B Pa tn else Av O B Pa tn) M xs ts
theorem RW.seq (h : RW B Pa O L M v w) {ts : List V} (e : qSeq w = some ts) : ∃ xs, seqOf M v = some xs ∧ RE B Pa O (isD w.fl) w.tn M xs ts := by
  obtain ⟨fl, tn, t⟩ := w
  unfold RW at h
  unfold qSeq at e
  unfold RE
  cases fl with
  | fr =>
    obtain ⟨n, xs, us, rfl, b, c, d, f⟩ := h
    simp only at d
    subst d
    cases e
    exact ⟨xs, lstAt_lst c, f.map fun m c p e => ⟨e, p.2⟩⟩
  | dr =>
    obtain ⟨cs, a, b, c⟩ := h
    have av : ∀ n ∈ cs, Av O B Pa tn n := fun n hn => ⟨(c n hn).2.1, (c n hn).2.2.imp id fun z => by cases z.1⟩
    cases a with
    | lst a r =>
      cases e
      exact ⟨_, lstAt_lst a, Owl.rq r fun m hm => av m (List.mem_cons_of_mem _ hm)⟩
    | tup r =>
      cases e
      exact ⟨_, rfl, Owl.rq r av⟩
    | _ => cases e
  | bo =>
    obtain ⟨n, xs, us, rfl, b, c, d, f⟩ := h
    simp only at d
    subst d
    cases e
    exact ⟨xs, lstAt_lst c, f⟩
  | fz =>
    cases h with
    | lst a b c =>
      cases e
      exact ⟨_, lstAt_lst a, c⟩
    | ro a b c =>
      cases e
      exact ⟨_, lstAt_ro a, c⟩
    | tup c =>
      cases e
      exact ⟨_, rfl, c⟩
    | _ => cases e
  | bd =>
    cases h with
    | lst a b c =>
      cases e
      exact ⟨_, lstAt_lst a, c⟩
    | ro a b c =>
      cases e
      exact ⟨_, lstAt_ro a, c⟩
    | tup c =>
      cases e
      exact ⟨_, rfl, c⟩
    | _ => cases e
theorem RW.lst (h : RW B Pa O L M v w) {ts : List V} (e : w.t = .lst ts) : ∃ n xs, v = .ref n ∧ M[n]? = some (.lst xs) ∧ RE B Pa O (isD w.fl) w.tn M xs ts := by
  have a := h.any
  rw [e] at a
  cases a with
  | lst h1 _ h2 =>
    obtain ⟨xs, q, r⟩ := h.seq (ts := ts) (by unfold qSeq; rw [e])
    have : some _ = some xs := (lstAt_lst h1).symm.trans q
    cases this
    exact ⟨_, _, rfl, h1, r⟩
theorem RW.tup (h : RW B Pa O L M v w) {ts : List V} (e : w.t = .tup ts) : ∃ xs, v = .tup xs ∧ RE B Pa O (isD w.fl) w.tn M xs ts := by
  have a := h.any
  rw [e] at a
  cases a with
  | tup h2 =>
    obtain ⟨xs, q, r⟩ := h.seq (ts := ts) (by unfold qSeq; rw [e])
    cases q
    exact ⟨_, rfl, r⟩
theorem RW.int (h : RW B Pa O L M v w) {i : Int} (e : w.t = .int i) : v = .int i := by
  have a := h.any
  rw [e] at a
  cases a
  rfl
theorem RW.bl (h : RW B Pa O L M v w) {i : Bool} (e : w.t = .bl i) : v = .bl i := by
  have a := h.any
  rw [e] at a
  cases a
  rfl
theorem RW.str (h : RW B Pa O L M v w) {i : List Nat} (e : w.t = .str i) : v = .str i := by
  have a := h.any
  rw [e] at a
  cases a
  rfl
theorem RW.non (h : RW B Pa O L M v w) (e : w.t = .non) : v = .non := by
  have a := h.any
  rw [e] at a
  cases a
  rfl
theorem RE.elW {ds tn : Bool} {v : Val} {t : V} (h : Rq (if ds = true then Lv B Pa tn else Av O B Pa tn) M v t) : RW B Pa O L M v (Mn.elW ds tn t) := by
  unfold Mn.elW
  refine RW.nW ?_
  cases ds
  · exact h
  · exact h
theorem RE.get {ds tn : Bool} {xs : List Val} {ts : List V} (h : RE B Pa O ds tn M xs ts) {i : Nat} {t : V} (e : ts[i]? = some t) : ∃ v, xs[i]? = some v ∧ RW B Pa O L M v (Mn.elW ds tn t) := by
  obtain ⟨v, a, b⟩ := Rql.get h e
  exact ⟨v, a, RE.elW b⟩
theorem RE.mono {ds ds' tn tn' : Bool} {xs : List Val} {ts : List V} (h : RE B Pa O ds tn M xs ts) (a : ds = true → ds' = true) (b : tn = true → tn' = true) : RE B Pa O ds' tn' M xs ts := by
  unfold RE at *
  refine h.map fun m c p e => ⟨e, ?_⟩
  cases ds <;> cases ds'
  · exact p.mono b
  · exact p.2.mono b
  · exact absurd (a rfl) (by decide)
  · exact Lv.mono p b
theorem RE.gr {ds tn : Bool} {xs : List Val} {ts : List V} (g : Gr M M') (h : RE B Pa O ds tn M xs ts) : RE B Pa O ds tn M' xs ts := Rql.map (fun m c p e => ⟨g.at e, p⟩) h
theorem RE.noL {ds tn tn' : Bool} {xs : List Val} {ts : List V} (h : RE B Pa O ds tn M xs ts) (e : V.hasLs ts = false) : RE B Pa O ds tn' M xs ts := Rql.noL e h
theorem RE.tn {ds tn : Bool} {xs : List Val} {ts : List V} (h : RE B Pa O ds tn M xs ts) : RE B Pa O ds (tn && V.hasLs ts) M xs ts := by
  cases e : V.hasLs ts with
  | false => exact h.noL e
  | true =>
    rw [Bool.and_true]
    exact h
theorem mkL_ok (c : Cx B Pa O L M) {ds tn : Bool} {xs : List Val} {ts : List V} (h : RE B Pa O ds tn M xs ts) : RW B Pa O L (M ++ [.lst xs]) (.ref M.length) (mkL ds tn ts) := by
  have key : ∀ ds, RE B Pa O ds (tn && V.hasLs ts) M xs ts → RW B Pa O L (M ++ [.lst xs]) (.ref M.length) ⟨if ds = true then .bd else .fr, tn && V.hasLs ts, .lst ts⟩ := fun ds h1 => by
    have h2 := RE.gr (Gr.one M (.lst xs)) h1
    cases ds with
    | false =>
      refine ⟨M.length, xs, ts, rfl, c.up, lst_new' _ _, rfl, ?_⟩
      exact Rql.map (fun m c p e => ⟨(Gr.one M _).at e, Nat.ne_of_lt (get_lt e), p⟩) h1
    | true => exact Rq.lst (lst_new' _ _) (.inl (Nat.le_trans c.low c.up)) h2
  unfold mkL
  refine key _ ?_
  cases e : V.hasLs ts with
  | true =>
    rw [Bool.and_true, Bool.and_true]
    exact h
  | false =>
    rw [Bool.and_false, Bool.and_false]
    exact Rql.noL e h
theorem mkT_ok {ds tn : Bool} {xs : List Val} {ts : List V} (h : RE B Pa O ds tn M xs ts) : RW B Pa O L M (.tup xs) (mkT ds tn ts) := by
  unfold mkT
  refine RW.nW ?_
  cases ds
  · exact Rq.tup h
  · exact Rq.tup h
theorem RW.ai (i : Int) : RW B Pa O L M (.int i) (.at (.int i)) := Rq.int i
theorem RW.ab (i : Bool) : RW B Pa O L M (.bl i) (.at (.bl i)) := Rq.bl i
theorem RW.as (i : List Nat) : RW B Pa O L M (.str i) (.at (.str i)) := Rq.str i
end
def SimO (f : Op) (g : PO) : Prop := ∀ (B L : Nat) (Pa O : Nat → Prop) (M : Store) (x y : Val) (w w' u : W), Cx B Pa O L M → RW B Pa O L M x w → RW B Pa O L M y w' → g w w' = .ok u → ∃ v M', f x y M = some (v, M') ∧ Gr M M' ∧ RW B Pa O L M' v u
def SimU (f : U) (g : PU) : Prop := ∀ (B L : Nat) (Pa O : Nat → Prop) (M : Store) (x : Val) (w u : W), Cx B Pa O L M → RW B Pa O L M x w → g w = .ok u → ∃ v M', f x M = some (v, M') ∧ Gr M M' ∧ RW B Pa O L M' v u
theorem qInt_ok {g : Int → Int → V} {ok : Int → Int → Bool} {w w' u : W} (h : qInt g ok w w' = .ok u) : ∃ i j, w.t = .int i ∧ w'.t = .int j ∧ ok i j = true ∧ u = .at (g i j) := by
  unfold qInt at h
  split at h
  · split at h
    · cases h
      exact ⟨_, _, ‹_›, ‹_›, ‹_›, rfl⟩
    · cases h
  · cases h
theorem so_int {f : Op} {g : Int → Int → V} {ok : Int → Int → Bool} {gv : Int → Int → Val} (hf : ∀ i j M, ok i j = true → f (.int i) (.int j) M = some (gv i j, M)) (hr : ∀ P i j M, Rq P M (gv i j) (g i j)) (hl : ∀ i j, (g i j).hasL = false) : SimO f (qInt g ok) := by
  intro B L Pa O M x y w w' u c hx hy h
  obtain ⟨i, j, e1, e2, h1, rfl⟩ := qInt_ok h
  rw [hx.int e1, hy.int e2]
  exact ⟨_, M, hf i j M h1, Gr.refl M, RW.at (hl i j) (hr (fun _ => True) i j M)⟩
theorem so_sub : SimO oSub qSub := so_int (gv := fun i j => .int (i - j)) (fun _ _ _ _ => rfl) (fun _ _ _ _ => .int _) fun _ _ => rfl
theorem so_div : SimO oDiv qDiv := so_int (gv := fun i j => .int (i.fdiv j)) (fun i j M h => if_pos (by simpa using h)) (fun _ _ _ _ => .int _) fun _ _ => rfl
theorem so_mod : SimO oMod qMod := so_int (gv := fun i j => .int (i.fmod j)) (fun i j M h => if_pos (by simpa using h)) (fun _ _ _ _ => .int _) fun _ _ => rfl
theorem so_pow : SimO oPow qPow := so_int (gv := fun i j => .int (i ^ j.toNat)) (fun i j M h => if_pos (of_decide_eq_true h)) (fun _ _ _ _ => .int _) fun _ _ => rfl
theorem so_lt : SimO cLt qLt := so_int (gv := fun i j => .bl (decide (i < j))) (fun _ _ _ _ => rfl) (fun _ _ _ _ => .bl _) fun _ _ => rfl
theorem so_gt : SimO cGt qGt := so_int (gv := fun i j => .bl (decide (j < i))) (fun _ _ _ _ => rfl) (fun _ _ _ _ => .bl _) fun _ _ => rfl
theorem or_t {a b : Bool} : (a = true → (a || b) = true) := fun h => by rw [h]; rfl
theorem or_t' {a b : Bool} : (b = true → (a || b) = true) := fun h => by rw [h, Bool.or_true]
theorem so_add : SimO oAdd qAdd := by
  intro B L Pa O M x y w w' u c hx hy h
  unfold qAdd at h
  split at h
  · rename_i e1 e2
    cases h
    rw [hx.int e1, hy.int e2]
    exact ⟨_, M, rfl, Gr.refl M, RW.ai _⟩
  · rename_i e1 e2
    split at h
    · cases h
      rename_i hz
      rw [hx.str e1, hy.str e2]
      exact ⟨_, M, if_pos hz, Gr.refl M, RW.as _⟩
    · cases h
  · rename_i e1 e2
    split at h
    · cases h
      rename_i hz
      obtain ⟨n, xs, rfl, h1, r1⟩ := hx.lst e1
      obtain ⟨n', ys, rfl, h2, r2⟩ := hy.lst e2
      refine ⟨.ref M.length, M ++ [.lst (xs ++ ys)], ?_, Gr.one _ _, mkL_ok c (Rql.append (RE.mono r1 or_t or_t) (RE.mono r2 or_t' or_t'))⟩
      unfold oAdd
      simp only []
      rw [h1, h2]
      exact if_pos (by rw [Rql.length r1, Rql.length r2]; exact hz)
    · cases h
  · rename_i e1 e2
    split at h
    · cases h
      rename_i hz
      obtain ⟨xs, rfl, r1⟩ := hx.tup e1
      obtain ⟨ys, rfl, r2⟩ := hy.tup e2
      exact ⟨_, M, if_pos (by rw [Rql.length r1, Rql.length r2]; exact hz), Gr.refl M, mkT_ok (Rql.append (RE.mono r1 or_t or_t) (RE.mono r2 or_t' or_t'))⟩
    · cases h
  · cases h
theorem so_mul : SimO oMul qMul := by
  intro B L Pa O M x y w w' u c hx hy h
  unfold qMul at h
  split at h
  · rename_i e1 e2
    split at h
    · cases h
      rename_i hz
      rw [hx.int e1, hy.int e2]
      exact ⟨_, M, if_pos hz, Gr.refl M, RW.ai _⟩
    · cases h
  · rename_i e1 e2
    split at h
    · cases h
      rename_i hz
      obtain ⟨n, xs, rfl, h1, r1⟩ := hx.lst e1
      rw [hy.int e2]
      refine ⟨_, _, oMul_lst h1 (by rw [Rql.length r1]; exact hz), Gr.one _ _, mkL_ok c (Rql.rep r1 _)⟩
    · cases h
  · cases h
theorem vEq_ok {P Q : Nat → Prop} {M : Store} {x y : Val} {a b : V} {r : Bool} (hx : Rq P M x a) (hy : Rq Q M y b) (h : vEq a b = some r) : valEq x y M = some r := by
  unfold vEq at h
  split at h
  · rename_i hd
    split at h
    · rename_i e1 e2
      cases h
      unfold valEq
      rw [hx.toT eqFuel e1 hd.1, hy.toT eqFuel e2 hd.2]
    · cases h
  · cases h
theorem so_eq : SimO cEq qEq := by
  intro B L Pa O M x y w w' u c hx hy h
  unfold qEq qEqG at h
  split at h
  · cases h
    rename_i r e
    refine ⟨.bl r, M, ?_, Gr.refl M, RW.ab _⟩
    unfold cEq
    rw [vEq_ok hx.any hy.any e]
    rfl
  · rw [if_neg (fun z => Bool.false_ne_true z.1)] at h
    cases h
theorem isD0_ok {P : Nat → Prop} {M : Store} {x : Val} {a : V} (h : Rq P M x a) (e : isD0 a = true) : emD M x = true ∧ ∀ k, toT M k x = none := by
  unfold isD0 at e
  split at e
  · cases h with
    | @dic n kvs _ _ h1 h2 h3 h4 =>
      cases kvs with
      | nil =>
        refine ⟨?_, fun k => ?_⟩
        · unfold emD
          simp only [h1]
        · cases k with
          | zero => rfl
          | succ k =>
            unfold toT lstAt
            simp only [h1]
      | cons q r => cases h3
  · cases e
theorem vLk_ok {P Q : Nat → Prop} {M : Store} {x y : Val} {a b : V} (hx : Rq P M x a) (hy : Rq Q M y b) (h : vLk a b = true) : eqLk M x y = true := by
  unfold vLk at h
  unfold eqLk
  rw [Bool.or_eq_true] at h ⊢
  rcases h with h | h
  · have e := vEq_ok hx hy (of_decide_eq_true h)
    unfold valEq at e
    left
    split at e
    · rename_i e1 e2
      rw [e1, e2]
      exact Option.some.inj e
    · cases e
  · rw [Bool.and_eq_true] at h ⊢
    exact .inr ⟨(isD0_ok hx h.1).1, (isD0_ok hy h.2).1⟩
theorem vLks_ok {P Q : Nat → Prop} {M : Store} : ∀ {xs ys : List Val} {as bs : List V}, Rql P M xs as → Rql Q M ys bs → vLks as bs = true → eqLks M xs ys = true
  | _, _, _, _, .nil, .nil, _ => rfl
  | _, _, _, _, .nil, .cons _ _, h => by cases h
  | _, _, _, _, .cons _ _, .nil, h => by cases h
  | _, _, _, _, .cons r1 r2, .cons q1 q2, h => by
    unfold vLks at h
    unfold eqLks
    rw [Bool.and_eq_true] at h ⊢
    exact ⟨vLk_ok r1 q1 h.1, vLks_ok r2 q2 h.2⟩
theorem mapO_no {α β : Type} {f : α → Option β} : ∀ {xs : List α} {x : α}, x ∈ xs → f x = none → mapO f xs = none
  | y :: xs, x, h, e => by
    unfold mapO
    rcases List.mem_cons.mp h with rfl | h
    · rw [e]
    · rw [mapO_no h e]
      cases f y <;> rfl
theorem anyD0_ok {P : Nat → Prop} {M : Store} {k : Nat} : ∀ {xs : List Val} {as : List V}, Rql P M xs as → as.any isD0 = true → mapO (toT M k) xs = none
  | _, _, .nil, h => by cases h
  | _, _, .cons r1 r2, h => by
    rw [List.any_cons, Bool.or_eq_true] at h
    rcases h with h | h
    · exact mapO_no List.mem_cons_self ((isD0_ok r1 h).2 k)
    · unfold mapO
      rw [anyD0_ok r2 h]
      split <;> rfl
theorem so_ne : SimO cNe qNe := by
  intro B L Pa O M x y w w' u c hx hy h
  unfold qNe qEqG at h
  split at h
  · cases h
    rename_i r e
    refine ⟨.bl (!r), M, ?_, Gr.refl M, RW.ab _⟩
    unfold cNe
    rw [valNe_of (vEq_ok hx.any hy.any e)]
    rfl
  · split at h
    · rename_i hl
      have hl := hl.2
      cases h
      refine ⟨.bl false, M, ?_, Gr.refl M, RW.ab _⟩
      unfold vLsts at hl
      split at hl
      · rename_i e1 e2
        rw [Bool.and_eq_true] at hl
        have ax := hx.any
        have ay := hy.any
        rw [e1] at ax
        rw [e2] at ay
        cases ax with
        | @lst n xs _ h1 _ r1 =>
        cases ay with
        | @lst m ys _ h2 _ r2 =>
        have l1 : lstAt M n = some xs := by unfold lstAt; simp only [h1]
        have l2 : lstAt M m = some ys := by unfold lstAt; simp only [h2]
        have q : eqLks M xs ys = true := vLks_ok r1 r2 hl.1
        have z : toT M eqFuel (.ref n) = none := by
          show (match lstAt M n with
            | some xs => (mapO (toT M 59) xs).map T.lst
            | none => none) = none
          rw [l1]
          simp only []
          rw [anyD0_ok r1 hl.2]
          rfl
        have ev : valEq (.ref n) (.ref m) M = none := by
          unfold valEq
          rw [z]
        unfold cNe valNe
        rw [ev]
        simp only []
        rw [if_pos (show lstsEq M (.ref n) (.ref m) = true by
          unfold lstsEq
          simp only [l1, l2]
          exact q)]
        rfl
      · cases hl
    · cases h
theorem so_ix : SimO oIx qIx := by
  intro B L Pa O M x y w w' u c hx hy h
  unfold qIx at h
  split at h
  · rename_i ts i e1 e2
    cases e3 : atI ts i with
    | none =>
      rw [e3] at h
      cases h
    | some t =>
      rw [e3] at h
      cases h
      obtain ⟨xs, hs, r⟩ := hx.seq e1
      rw [hy.int e2]
      unfold atI at e3
      cases e4 : atIx ts.length i with
      | none =>
        rw [e4] at e3
        cases e3
      | some k =>
        rw [e4] at e3
        obtain ⟨v, hv, rv⟩ := r.get (L := L) (i := k) e3
        have e5 : atI xs i = some v := by
          unfold atI
          rw [Rql.length r, e4]
          exact hv
        refine ⟨v, M, ?_, Gr.refl M, rv⟩
        cases x with
        | tup ys =>
          cases hs
          show (atI xs i).map _ = _
          rw [e5]
          rfl
        | ref n =>
          show (match lstAt M n with | some xs => (atI xs i).map fun v => (v, M) | none => none) = _
          rw [show lstAt M n = some xs from hs]
          show (atI xs i).map _ = _
          rw [e5]
          rfl
        | _ => cases hs
  · cases h
theorem su_neg : SimU oNeg qNeg := by
  intro B L Pa O M x w u c hx h
  unfold qNeg at h
  split at h
  · cases h
    rw [hx.int ‹_›]
    exact ⟨_, M, rfl, Gr.refl M, RW.ai _⟩
  · cases h
theorem su_abs : SimU uAbs qAbs := by
  intro B L Pa O M x w u c hx h
  unfold qAbs at h
  split at h
  · cases h
    rw [hx.int ‹_›]
    exact ⟨_, M, rfl, Gr.refl M, RW.ai _⟩
  · cases h
theorem su_len : SimU uLen qLen := by
  intro B L Pa O M x w u c hx h
  unfold qLen at h
  have a := hx.any
  split at h
  · rename_i e
    cases h
    rw [e] at a
    cases a with
    | tup r => exact ⟨_, M, by rw [← r.length]; rfl, Gr.refl M, RW.ai _⟩
  · rename_i e
    cases h
    rw [e] at a
    cases a with
    | lst q _ r => exact ⟨_, M, by rw [← r.length]; exact uLen_ref (lstAt_lst q), Gr.refl M, RW.ai _⟩
  · rename_i e
    cases h
    rw [e] at a
    cases a with
    | ro q _ r => exact ⟨_, M, by rw [← r.length]; exact uLen_ref (lstAt_ro q), Gr.refl M, RW.ai _⟩
  · rename_i e
    split at h
    · cases h
      rw [hx.str e]
      exact ⟨_, M, if_pos ‹_›, Gr.refl M, RW.ai _⟩
    · cases h
  · cases h
theorem su_list : SimU uList qList := by
  intro B L Pa O M x w u c hx h
  unfold qList at h
  split at h
  · rename_i e
    cases h
    obtain ⟨xs, hs, r⟩ := hx.seq e
    exact ⟨_, _, uList_seq hs, Gr.one _ _, mkL_ok c r⟩
  · cases h
theorem toBl_ok {P : Nat → Prop} {M : Store} : ∀ {xs : List Val} {ts : List V} {bs : List Bool}, Rql P M xs ts → mapO toBlV ts = some bs → mapO toBl xs = some bs
  | _, _, _, .nil, e => e
  | _, _, _, .cons (t := t) (ts := ts) r rs, e => by
    unfold mapO at e ⊢
    cases t with
    | bl b =>
      cases r
      simp only [toBlV] at e
      simp only [toBl]
      cases e2 : mapO toBlV ts with
      | none => rw [e2] at e; cases e
      | some us =>
        rw [e2] at e
        rw [toBl_ok rs e2]
        exact e
    | _ => cases e
theorem su_allG (g : List Bool → Bool) : SimU (uAllG g) (qAllG g) := by
  intro B L Pa O M x w u c hx h
  unfold qAllG at h
  split at h
  · rename_i ts e
    split at h
    · rename_i bs e2
      cases h
      have a := hx.any
      unfold qLs at e
      split at e
      · rename_i e3
        cases e
        rw [e3] at a
        cases a with
        | lst q _ r =>
          refine ⟨.bl (g bs), M, ?_, Gr.refl M, RW.ab _⟩
          unfold uAllG
          simp only [lstAt_lst q, toBl_ok r e2]
      · rename_i e3
        cases e
        rw [e3] at a
        cases a with
        | ro q _ r =>
          refine ⟨.bl (g bs), M, ?_, Gr.refl M, RW.ab _⟩
          unfold uAllG
          simp only [lstAt_ro q, toBl_ok r e2]
      · cases e
    · cases h
  · cases h
theorem su_is (ts : List String) : SimU (uIs ts) (qIs ts) := by
  intro B L Pa O M x w u c hx h
  unfold qIs at h
  have a := hx.any
  split at h
  · rename_i c e
    cases h
    rw [e] at a
    cases a
    exact ⟨_, M, rfl, Gr.refl M, RW.ab _⟩
  · rename_i v hv
    generalize w.t = t at *
    cases a with
    | lst q _ _ =>
      cases h
      exact ⟨_, M, uIs_lst q ts, Gr.refl M, RW.ab _⟩
    | ro q _ _ =>
      cases h
      refine ⟨_, M, ?_, Gr.refl M, RW.ab _⟩
      unfold uIs tyName
      simp only []
      rw [q]
    | exc c => exact absurd rfl (hv c)
    | obj _ _ _ => cases h
    | dic q _ _ _ =>
      cases h
      refine ⟨_, M, ?_, Gr.refl M, RW.ab _⟩
      unfold uIs tyName
      simp only []
      rw [q]
    | _ =>
      cases h
      exact ⟨_, M, rfl, Gr.refl M, RW.ab _⟩
theorem cut_ok {B L : Nat} {Pa O : Nat → Prop} {M : Store} {x : Val} {w u : W} {lo hi : Option Int} (c : Cx B Pa O L M) (hx : RW B Pa O L M x w) (h : qCut w lo hi = .ok u) : ∃ v M', cutOf x lo hi M = some (v, M') ∧ Gr M M' ∧ RW B Pa O L M' v u := by
  unfold qCut at h
  split at h
  · rename_i e
    cases h
    obtain ⟨n, xs, rfl, q, r⟩ := hx.lst e
    exact ⟨_, _, cutOf_ref (lstAt_lst q) lo hi, Gr.one _ _, mkL_ok c (Rql.cut r lo hi)⟩
  · rename_i e
    cases h
    obtain ⟨xs, hs, r⟩ := hx.seq (by unfold qSeq; rw [e])
    have a := hx.any
    rw [e] at a
    cases a with
    | ro q _ _ => exact ⟨_, _, cutOf_ref hs lo hi, Gr.one _ _, mkL_ok c (Rql.cut r lo hi)⟩
  · rename_i e
    cases h
    obtain ⟨xs, rfl, r⟩ := hx.tup e
    exact ⟨_, M, rfl, Gr.refl M, mkT_ok (Rql.cut r lo hi)⟩
  · rename_i e
    split at h
    · cases h
      rw [hx.str e]
      exact ⟨_, M, if_pos ‹_›, Gr.refl M, RW.as _⟩
    · cases h
  · cases h
end Mn
end
section
set_option Elab.async false
set_option autoImplicit false
set_option maxRecDepth 100000
set_option linter.all false
namespace Mn
def RelE (B : Nat) (Pa O : Nat → Prop) (L : Nat) (M : Store) (r : R Val) (p : PR W) : Prop := match p with
  | .ok w => ∃ v M', r = .ok v M' ∧ Gr M M' ∧ RW B Pa O L M' v w
  | .exc c => ∃ M', r = .exc c M' ∧ Gr M M'
  | .bad => True
structure SimE (e : E) (p : PE) : Prop where
  go : ∀ (B : Nat) (Pa O : Nat → Prop) (ρ : Env) (M : Store) (π : PEnv), PSt B Pa O ρ M π → RelE B Pa O M.length M (e ρ M) (p π)
instance {e : E} {p : PE} : CoeFun (SimE e p) fun _ => ∀ (B : Nat) (Pa O : Nat → Prop) (ρ : Env) (M : Store) (π : PEnv), PSt B Pa O ρ M π → RelE B Pa O M.length M (e ρ M) (p π) := ⟨SimE.go⟩
theorem PSt.cx {B : Nat} {Pa O : Nat → Prop} {ρ : Env} {M M' : Store} {π : PEnv} (h : PSt B Pa O ρ M π) (g : Gr M M') : Cx B Pa O M.length M' := ⟨h.bnd, h.low, g.len⟩
def vW (w : W) : W := match w with
  | ⟨.fr, tn, t⟩ => ⟨.bo, tn, t⟩
  | ⟨.dr, tn, t⟩ => ⟨.bd, tn, t⟩
  | w => w
def pVar (i : Nat) : PE := fun π => match π[i]? with
  | some (some w) => .ok (vW w)
  | _ => .bad
theorem RW.var {B : Nat} {Pa O : Nat → Prop} {ρ : Env} {M : Store} {π : PEnv} (h : PSt B Pa O ρ M π) {i : Nat} {w : W} (e : π[i]? = some (some w)) : ∃ v, ρ[i]? = some (some v) ∧ RW B Pa O M.length M v (vW w) := by
  obtain ⟨v, a, b⟩ := h.val i w e
  refine ⟨v, a, ?_⟩
  obtain ⟨fl, tn, t⟩ := w
  cases fl with
  | fr =>
    obtain ⟨n, xs, ts, rfl, q1, q2, q3, q4⟩ := b
    obtain ⟨v', cs, e2, ⟨n', e3, e4⟩, o⟩ := h.own i _ e rfl
    rw [a] at e2
    cases e2
    cases e3
    subst e4
    exact ⟨n, xs, ts, rfl, o n List.mem_cons_self, q2, q3, q4.map fun m c p e => ⟨e, p.2⟩⟩
  | dr =>
    obtain ⟨cs, q1, q2, q3⟩ := b
    exact q1.rq fun n hn => .inl (q3 n hn)
  | _ => exact b
theorem sx_var (i : Nat) : SimE (eVar i) (pVar i) := by
  refine ⟨?_⟩
  intro B Pa O ρ M π h
  unfold pVar
  split
  · rename_i w e
    obtain ⟨v, a, b⟩ := RW.var h e
    refine ⟨v, M, ?_, Gr.refl M, b⟩
    unfold eVar
    rw [a]
  · exact trivial
mutual
def cV : Val → V
  | .non => .non
  | .bl b => .bl b
  | .int i => .int i
  | .str s => .str s
  | .tup xs => .tup (cVs xs)
  | .ref _ => .non
  | .exc c => .exc c
def cVs : List Val → List V
  | [] => []
  | x :: xs => cV x :: cVs xs
end
mutual
def cOk : Val → Bool
  | .tup xs => cOks xs
  | .ref _ => false
  | _ => true
def cOks : List Val → Bool
  | [] => true
  | x :: xs => cOk x && cOks xs
end
mutual
theorem cV_ok (P : Nat → Prop) (M : Store) : ∀ v : Val, cOk v = true → Rq P M v (cV v) ∧ (cV v).hasL = false
  | .non, _ => ⟨.non, rfl⟩
  | .bl b, _ => ⟨.bl b, rfl⟩
  | .int i, _ => ⟨.int i, rfl⟩
  | .str s, _ => ⟨.str s, rfl⟩
  | .exc c, _ => ⟨.exc c, rfl⟩
  | .tup xs, h => by
    unfold cOk at h
    obtain ⟨a, b⟩ := cVs_ok P M xs h
    unfold cV V.hasL
    exact ⟨.tup a, b⟩
  | .ref _, h => by cases h
theorem cVs_ok (P : Nat → Prop) (M : Store) : ∀ vs : List Val, cOks vs = true → Rql P M vs (cVs vs) ∧ V.hasLs (cVs vs) = false
  | [], _ => ⟨.nil, rfl⟩
  | x :: xs, h => by
    unfold cOks at h
    rw [Bool.and_eq_true] at h
    obtain ⟨a, b⟩ := cV_ok P M x h.1
    obtain ⟨c, d⟩ := cVs_ok P M xs h.2
    unfold cVs V.hasLs
    rw [b, d]
    exact ⟨.cons a c, rfl⟩
end
def pC (v : Val) : PE := fun _ => if cOk v = true then .ok (.at (cV v)) else .bad
theorem sx_c (v : Val) : SimE (eC v) (pC v) := by
  refine ⟨?_⟩
  intro B Pa O ρ M π h
  unfold pC
  split
  · rename_i e
    obtain ⟨a, b⟩ := cV_ok (fun _ => True) M v e
    exact ⟨v, M, rfl, Gr.refl M, RW.at b a⟩
  · exact trivial
def kq2 (g : PO) (x : W) : PR W → PR W
  | .ok y => g x y
  | .exc c => .exc c
  | .bad => .bad
def kq1 (g : PO) (b : PE) (π : PEnv) : PR W → PR W
  | .ok x => kq2 g x (b π)
  | .exc c => .exc c
  | .bad => .bad
def pBin (g : PO) (a b : PE) : PE := fun π => kq1 g b π (a π)
def NoX2 (g : PO) : Prop := ∀ w w' c, g w w' ≠ .exc c
def NoX1 (g : PU) : Prop := ∀ w c, g w ≠ .exc c
theorem RelE.op {B L : Nat} {Pa O : Nat → Prop} {M M2 : Store} {o : P} {p : PR W} (g : Gr M M2) (hn : ∀ c, p ≠ .exc c) (h : ∀ u, p = .ok u → ∃ v M', o = some (v, M') ∧ Gr M2 M' ∧ RW B Pa O L M' v u) : RelE B Pa O L M (R.of o) p := by
  cases p with
  | ok u =>
    obtain ⟨v, M', e, g2, r⟩ := h u rfl
    rw [e]
    exact ⟨v, M', rfl, g.trans g2, r⟩
  | exc c => exact absurd rfl (hn c)
  | bad => exact trivial
theorem sx_bin {f : Op} {g : PO} {a b : E} {p q : PE} (hf : SimO f g) (hn : NoX2 g) (ha : SimE a p) (hb : SimE b q) : SimE (eBin f a b) (pBin g p q) := by
  refine ⟨?_⟩
  intro B Pa O ρ M π h
  have h1 := ha B Pa O ρ M π h
  unfold pBin eBin
  cases e1 : p π with
  | bad => exact trivial
  | exc c =>
    rw [e1] at h1
    obtain ⟨M', e2, g1⟩ := h1
    rw [e2]
    exact ⟨M', rfl, g1⟩
  | ok w =>
    rw [e1] at h1
    obtain ⟨x, M1, e2, g1, r1⟩ := h1
    rw [e2]
    have h2 := hb B Pa O ρ M1 π (h.gr g1)
    unfold kq1
    simp only [R.bind_ok]
    cases e3 : q π with
    | bad => exact trivial
    | exc c =>
      rw [e3] at h2
      obtain ⟨M', e4, g2⟩ := h2
      rw [e4]
      exact ⟨M', rfl, g1.trans g2⟩
    | ok w' =>
      rw [e3] at h2
      obtain ⟨y, M2, e4, g2, r2⟩ := h2
      rw [e4]
      exact RelE.op (g1.trans g2) (hn w w') fun u hu => hf B M.length Pa O M2 x y w w' u (h.cx (g1.trans g2)) (r1.gr g2) (r2.low g1.len) hu
def kqU (g : PU) : PR W → PR W
  | .ok x => g x
  | .exc c => .exc c
  | .bad => .bad
def pUn (g : PU) (a : PE) : PE := fun π => kqU g (a π)
theorem sx_un {f : U} {g : PU} {a : E} {p : PE} (hf : SimU f g) (hn : NoX1 g) (ha : SimE a p) : SimE (eUn f a) (pUn g p) := by
  refine ⟨?_⟩
  intro B Pa O ρ M π h
  have h1 := ha B Pa O ρ M π h
  unfold pUn eUn
  cases e1 : p π with
  | bad => exact trivial
  | exc c =>
    rw [e1] at h1
    obtain ⟨M', e2, g1⟩ := h1
    rw [e2]
    exact ⟨M', rfl, g1⟩
  | ok w =>
    rw [e1] at h1
    obtain ⟨x, M1, e2, g1, r1⟩ := h1
    rw [e2]
    exact RelE.op g1 (hn w) fun u hu => hf B M.length Pa O M1 x w u (h.cx g1) r1 hu
def kqAnd (b : PE) (π : PEnv) : PR W → PR W
  | .ok w => match w.t with
    | .bl true => b π
    | .bl false => .ok (.at (.bl false))
    | _ => .bad
  | .exc c => .exc c
  | .bad => .bad
def pAnd (a b : PE) : PE := fun π => kqAnd b π (a π)
def kqOr (b : PE) (π : PEnv) : PR W → PR W
  | .ok w => match w.t with
    | .bl true => .ok (.at (.bl true))
    | .bl false => b π
    | _ => .bad
  | .exc c => .exc c
  | .bad => .bad
def pOr (a b : PE) : PE := fun π => kqOr b π (a π)
def kqNot : PR W → PR W
  | .ok w => match w.t with
    | .bl c => .ok (.at (.bl (!c)))
    | _ => .bad
  | .exc c => .exc c
  | .bad => .bad
def pNot (a : PE) : PE := fun π => kqNot (a π)
theorem RelE.pre {B L : Nat} {Pa O : Nat → Prop} {M M1 : Store} {r : R Val} {p : PR W} (g : Gr M M1) (l : L ≤ M1.length) (h : RelE B Pa O M1.length M1 r p) : RelE B Pa O L M r p := by
  cases p with
  | bad => exact trivial
  | exc c =>
    obtain ⟨M', e, g2⟩ := h
    exact ⟨M', e, g.trans g2⟩
  | ok w =>
    obtain ⟨v, M', e, g2, r⟩ := h
    exact ⟨v, M', e, g.trans g2, r.low l⟩
theorem sx_and {a b : E} {p q : PE} (ha : SimE a p) (hb : SimE b q) : SimE (eAnd a b) (pAnd p q) := by
  refine ⟨?_⟩
  intro B Pa O ρ M π h
  have h1 := ha B Pa O ρ M π h
  unfold pAnd eAnd
  cases e1 : p π with
  | bad => exact trivial
  | exc c =>
    rw [e1] at h1
    obtain ⟨M', e2, g1⟩ := h1
    rw [e2]
    exact ⟨M', rfl, g1⟩
  | ok w =>
    rw [e1] at h1
    obtain ⟨x, M1, e2, g1, r1⟩ := h1
    rw [e2]
    unfold kqAnd
    simp only [R.bind_ok]
    cases e3 : w.t with
    | bl t =>
      rw [r1.bl e3]
      cases t with
      | true => exact RelE.pre g1 g1.len (hb B Pa O ρ M1 π (h.gr g1))
      | false => exact ⟨_, M1, rfl, g1, RW.ab _⟩
    | _ => exact trivial
theorem sx_or {a b : E} {p q : PE} (ha : SimE a p) (hb : SimE b q) : SimE (eOr a b) (pOr p q) := by
  refine ⟨?_⟩
  intro B Pa O ρ M π h
  have h1 := ha B Pa O ρ M π h
  unfold pOr eOr
  cases e1 : p π with
  | bad => exact trivial
  | exc c =>
    rw [e1] at h1
    obtain ⟨M', e2, g1⟩ := h1
    rw [e2]
    exact ⟨M', rfl, g1⟩
  | ok w =>
    rw [e1] at h1
    obtain ⟨x, M1, e2, g1, r1⟩ := h1
    rw [e2]
    unfold kqOr
    simp only [R.bind_ok]
    cases e3 : w.t with
    | bl t =>
      rw [r1.bl e3]
      cases t with
      | false => exact RelE.pre g1 g1.len (hb B Pa O ρ M1 π (h.gr g1))
      | true => exact ⟨_, M1, rfl, g1, RW.ab _⟩
    | _ => exact trivial
theorem sx_not {a : E} {p : PE} (ha : SimE a p) : SimE (eNot a) (pNot p) := by
  refine ⟨?_⟩
  intro B Pa O ρ M π h
  have h1 := ha B Pa O ρ M π h
  unfold pNot eNot
  cases e1 : p π with
  | bad => exact trivial
  | exc c =>
    rw [e1] at h1
    obtain ⟨M', e2, g1⟩ := h1
    rw [e2]
    exact ⟨M', rfl, g1⟩
  | ok w =>
    rw [e1] at h1
    obtain ⟨x, M1, e2, g1, r1⟩ := h1
    rw [e2]
    unfold kqNot
    simp only [R.bind_ok]
    cases e3 : w.t with
    | bl t =>
      rw [r1.bl e3]
      exact ⟨_, M1, rfl, g1, RW.ab _⟩
    | _ => exact trivial
def kqC3 (g : PO) (y : W) : PR W → PR W
  | .ok z => g y z
  | .exc c => .exc c
  | .bad => .bad
def kqC2 (g : PO) (c : PE) (y : W) (π : PEnv) : PR W → PR W
  | .ok w => match w.t with
    | .bl true => kqC3 g y (c π)
    | .bl false => .ok (.at (.bl false))
    | _ => .bad
  | .exc c => .exc c
  | .bad => .bad
def kqC1 (f g : PO) (x : W) (c : PE) (π : PEnv) : PR W → PR W
  | .ok y => kqC2 g c y π (f x y)
  | .exc c => .exc c
  | .bad => .bad
def kqC0 (f g : PO) (b c : PE) (π : PEnv) : PR W → PR W
  | .ok x => kqC1 f g x c π (b π)
  | .exc c => .exc c
  | .bad => .bad
def pChain (f g : PO) (a b c : PE) : PE := fun π => kqC0 f g b c π (a π)
def kqL2 (w : W) : PR (List W) → PR (List W)
  | .ok ws => .ok (w :: ws)
  | .exc c => .exc c
  | .bad => .bad
def pvL : List PE → PEnv → PR (List W)
  | [], _ => .ok []
  | e :: es, π => match e π with
    | .ok w => kqL2 w (pvL es π)
    | .exc c => .exc c
    | .bad => .bad
def kqL1 (es : List PE) (π : PEnv) : PR W → PR (List W)
  | .ok w => kqL2 w (pvL es π)
  | .exc c => .exc c
  | .bad => .bad
theorem pvL_k (e : PE) (es : List PE) (π : PEnv) : pvL (e :: es) π = kqL1 es π (e π) := by
  conv => lhs; unfold pvL
  cases e π <;> rfl
inductive SimL : List E → List PE → Prop
  | nil : SimL [] []
  | cons {e : E} {p : PE} {es : List E} {ps : List PE} : SimE e p → SimL es ps → SimL (e :: es) (p :: ps)
inductive RWl (B : Nat) (Pa O : Nat → Prop) (L : Nat) (M : Store) : List Val → List W → Prop
  | nil : RWl B Pa O L M [] []
  | cons {v : Val} {w : W} {vs : List Val} {ws : List W} : RW B Pa O L M v w → RWl B Pa O L M vs ws → RWl B Pa O L M (v :: vs) (w :: ws)
theorem RWl.gr {B L : Nat} {Pa O : Nat → Prop} {M M' : Store} (g : Gr M M') : ∀ {vs : List Val} {ws : List W}, RWl B Pa O L M vs ws → RWl B Pa O L M' vs ws
  | _, _, .nil => .nil
  | _, _, .cons h r => .cons (h.gr g) (RWl.gr g r)
theorem RWl.low {B L L' : Nat} {Pa O : Nat → Prop} {M : Store} (l : L' ≤ L) : ∀ {vs : List Val} {ws : List W}, RWl B Pa O L M vs ws → RWl B Pa O L' M vs ws
  | _, _, .nil => .nil
  | _, _, .cons h r => .cons (h.low l) (RWl.low l r)
theorem RWl.length {B L : Nat} {Pa O : Nat → Prop} {M : Store} : ∀ {vs : List Val} {ws : List W}, RWl B Pa O L M vs ws → vs.length = ws.length
  | _, _, .nil => rfl
  | _, _, .cons h r => congrArg Nat.succ (RWl.length r)
def RelL (B : Nat) (Pa O : Nat → Prop) (L : Nat) (M : Store) (r : R (List Val)) (p : PR (List W)) : Prop := match p with
  | .ok ws => ∃ vs M', r = .ok vs M' ∧ Gr M M' ∧ RWl B Pa O L M' vs ws
  | .exc c => ∃ M', r = .exc c M' ∧ Gr M M'
  | .bad => True
theorem sx_list : ∀ {es : List E} {ps : List PE}, SimL es ps → ∀ (B : Nat) (Pa O : Nat → Prop) (ρ : Env) (M : Store) (π : PEnv), PSt B Pa O ρ M π → RelL B Pa O M.length M (evL es ρ M) (pvL ps π)
  | _, _, .nil, B, Pa, O, ρ, M, π, h => by
    unfold pvL
    exact ⟨[], M, rfl, Gr.refl M, .nil⟩
  | _, _, .cons (e := e) (p := p) (es := es) (ps := ps) he hr, B, Pa, O, ρ, M, π, h => by
    have h1 := he B Pa O ρ M π h
    rw [pvL_k]
    unfold evL
    cases e1 : p π with
    | bad =>
      unfold kqL1
      exact trivial
    | exc c =>
      rw [e1] at h1
      obtain ⟨M', e2, g1⟩ := h1
      rw [e2]
      unfold kqL1
      exact ⟨M', rfl, g1⟩
    | ok w =>
      rw [e1] at h1
      obtain ⟨x, M1, e2, g1, r1⟩ := h1
      rw [e2]
      have h2 := sx_list hr B Pa O ρ M1 π (h.gr g1)
      unfold kqL1
      simp only [R.bind_ok]
      cases e3 : pvL ps π with
      | bad => exact trivial
      | exc c =>
        rw [e3] at h2
        obtain ⟨M', e4, g2⟩ := h2
        rw [e4]
        exact ⟨M', rfl, g1.trans g2⟩
      | ok ws =>
        rw [e3] at h2
        obtain ⟨vs, M2, e4, g2, r2⟩ := h2
        rw [e4]
        exact ⟨_, M2, rfl, g1.trans g2, .cons (r1.gr g2) (r2.low g1.len)⟩
def anyB (ws : List W) : Bool := ws.any fun w => isB w.fl
def anyT (ws : List W) : Bool := ws.any fun w => w.tn
theorem RWl.re {B L : Nat} {Pa O : Nat → Prop} {M : Store} (c : Cx B Pa O L M) {vs : List Val} {ws : List W} (h : RWl B Pa O L M vs ws) : RE B Pa O (anyB ws) (anyT ws) M vs (ws.map W.t) := by
  have go : ∀ {vs : List Val} {ws : List W}, RWl B Pa O L M vs ws → ∀ (d tn : Bool), (anyB ws = true → d = true) → (anyT ws = true → tn = true) → RE B Pa O d tn M vs (ws.map W.t) := by
    intro vs ws h
    induction h with
    | nil => exact fun _ _ _ _ => .nil
    | @cons v w vs ws h r ih =>
      intro d tn hd ht
      have i := ih d tn (fun k => hd (by unfold anyB at *; rw [List.any_cons, k, Bool.or_true])) (fun k => ht (by unfold anyT at *; rw [List.any_cons, k, Bool.or_true]))
      refine Rql.cons ?_ i
      have tm : w.tn = true → tn = true := fun k => ht (by unfold anyT; rw [List.any_cons, k]; rfl)
      cases hb : isB w.fl with
      | false =>
        have f := h.free (fun n o => (c.bnd n o).2) c.low hb
        cases d with
        | false => exact f.map fun m c p e => ⟨e, p.mono tm⟩
        | true => exact f.map fun m c p e => ⟨e, p.2.mono tm⟩
      | true =>
        have : d = true := hd (by unfold anyB; rw [List.any_cons, hb]; rfl)
        subst this
        exact (h.live (fun n o => (c.bnd n o).1) c.low).map fun m c p e => ⟨e, p.mono tm⟩
  exact go h _ _ id id
def kqTup : PR (List W) → PR W
  | .ok ws => if ws.length ≤ szLine then .ok (mkT (anyB ws) (anyT ws) (ws.map W.t)) else .bad
  | .exc c => .exc c
  | .bad => .bad
def pTup (es : List PE) : PE := fun π => kqTup (pvL es π)
def kqLst : PR (List W) → PR W
  | .ok ws => if ws.length ≤ szLine then .ok (mkL (anyB ws) (anyT ws) (ws.map W.t)) else .bad
  | .exc c => .exc c
  | .bad => .bad
def pLst (es : List PE) : PE := fun π => kqLst (pvL es π)
theorem sx_tup {es : List E} {ps : List PE} (hs : SimL es ps) : SimE (eTup es) (pTup ps) := by
  refine ⟨?_⟩
  intro B Pa O ρ M π h
  have h1 := sx_list hs B Pa O ρ M π h
  unfold pTup eTup
  cases e1 : pvL ps π with
  | bad => exact trivial
  | exc c =>
    rw [e1] at h1
    obtain ⟨M', e2, g1⟩ := h1
    rw [e2]
    exact ⟨M', rfl, g1⟩
  | ok ws =>
    rw [e1] at h1
    obtain ⟨vs, M1, e2, g1, r1⟩ := h1
    rw [e2]
    unfold kqTup
    simp only [R.bind_ok]
    rw [r1.length]
    by_cases hz : ws.length ≤ szLine
    · rw [if_pos hz, if_pos hz]
      exact ⟨_, M1, rfl, g1, mkT_ok (r1.re (h.cx g1))⟩
    · rw [if_neg hz, if_neg hz]
      exact trivial
theorem sx_lst {es : List E} {ps : List PE} (hs : SimL es ps) : SimE (eLst es) (pLst ps) := by
  refine ⟨?_⟩
  intro B Pa O ρ M π h
  have h1 := sx_list hs B Pa O ρ M π h
  unfold pLst eLst
  cases e1 : pvL ps π with
  | bad => exact trivial
  | exc c =>
    rw [e1] at h1
    obtain ⟨M', e2, g1⟩ := h1
    rw [e2]
    exact ⟨M', rfl, g1⟩
  | ok ws =>
    rw [e1] at h1
    obtain ⟨vs, M1, e2, g1, r1⟩ := h1
    rw [e2]
    unfold kqLst
    simp only [R.bind_ok]
    rw [r1.length]
    by_cases hz : ws.length ≤ szLine
    · rw [if_pos hz, if_pos hz]
      exact ⟨_, _, rfl, g1.trans (Gr.one _ _), mkL_ok (h.cx g1) (r1.re (h.cx g1))⟩
    · rw [if_neg hz, if_neg hz]
      exact trivial
def RF (B : Nat) (Pa : Nat → Prop) (M : Store) (v : Val) (w : W) : Prop := match w.fl with
  | .fr => ∃ n xs ts, v = .ref n ∧ B ≤ n ∧ M[n]? = some (.lst xs) ∧ w.t = .lst ts ∧ Rql (fun m => m ≠ n ∧ Lv B Pa w.tn m) M xs ts
  | .dr => ∃ cs, Ow M v w.t cs ∧ cs.Nodup ∧ ∀ n ∈ cs, B ≤ n
  | .fz => Rq (Lv B Pa w.tn) M v w.t
  | _ => False
def RelF (F : Fn) (G : PF) : Prop := ∀ (Pa : Nat → Prop) (M : Store) (vs : List Val) (ts : List V), Rql Pa M vs ts → match G ts with
  | .ok w => ∃ v M', F vs M = .ok v M' ∧ Gr M M' ∧ RF M.length Pa M' v w
  | .exc c => ∃ M', F vs M = .exc c M' ∧ Gr M M'
  | .bad => True
structure SimF (F : Fn) (G : PF) : Prop where
  go : RelF F G
def callW (ws : List W) (w : W) : W := match w.tn with
  | false => w
  | true => if anyB ws = true then ⟨.bd, true, w.t⟩ else nW w.fl (anyT ws) w.t
def kqRes (ws : List W) : PR W → PR W
  | .ok w => .ok (callW ws w)
  | .exc c => .exc c
  | .bad => .bad
def kqCall (G : PF) : PR (List W) → PR W
  | .ok ws => kqRes ws (G (ws.map W.t))
  | .exc c => .exc c
  | .bad => .bad
def pCall (G : PF) (es : List PE) : PE := fun π => kqCall G (pvL es π)
theorem RF.call {B L : Nat} {Pa O : Nat → Prop} {M M' : Store} {v : Val} {w : W} {ws : List W} (c : Cx B Pa O L M) (g : Gr M M') (h : RF M.length (fun m => if anyB ws = true then Lv B Pa (anyT ws) m else Av O B Pa (anyT ws) m) M' v w) : RW B Pa O L M' v (callW ws w) := by
  obtain ⟨fl, tn, t⟩ := w
  have lo : ∀ m, M.length ≤ m → Av O B Pa false m := fun m hm => ⟨fun o => by have := (c.bnd m o).2; have := c.up; omega, .inl (by have := c.low; have := c.up; omega)⟩
  unfold callW
  cases tn with
  | false =>
    have k : ∀ m, Lv M.length (fun m => if anyB ws = true then Lv B Pa (anyT ws) m else Av O B Pa (anyT ws) m) false m → Av O B Pa false m := fun m p => by
      rcases p with p | ⟨p, _⟩
      · exact lo m p
      · cases p
    cases fl with
    | fr =>
      obtain ⟨n, xs, ts, rfl, a, b, d, r⟩ := h
      exact ⟨n, xs, ts, rfl, Nat.le_trans c.up a, b, d, r.map fun m c p e => ⟨e, p.1, k m p.2⟩⟩
    | dr =>
      obtain ⟨cs, a, b, d⟩ := h
      exact ⟨cs, a, b, fun n hn => ⟨Nat.le_trans c.up (d n hn), lo n (d n hn)⟩⟩
    | fz => exact Rq.map (fun m c p e => ⟨e, k m p⟩) h
    | _ => exact h.elim
  | true =>
    simp only []
    by_cases hb : anyB ws = true
    · rw [if_pos hb]
      have k : ∀ m, Lv M.length (fun m => if anyB ws = true then Lv B Pa (anyT ws) m else Av O B Pa (anyT ws) m) true m → Lv B Pa true m := fun m p => by
        rcases p with p | ⟨_, p⟩
        · exact .inl (by have := c.low; have := c.up; omega)
        · rw [if_pos hb] at p
          exact p.mono fun _ => rfl
      cases fl with
      | fr =>
        obtain ⟨n, xs, ts, rfl, a, b, d, r⟩ := h
        simp only at d
        subst d
        exact Rq.lst b (.inl (by have := c.low; have := c.up; omega)) (r.map fun m c p e => ⟨e, k m p.2⟩)
      | dr =>
        obtain ⟨cs, a, b, d⟩ := h
        exact Ow.rq a fun n hn => .inl (by have := d n hn; have := c.low; have := c.up; omega)
      | fz => exact Rq.map (fun m c p e => ⟨e, k m p⟩) h
      | _ => exact h.elim
    · rw [if_neg hb]
      have k : ∀ m, Lv M.length (fun m => if anyB ws = true then Lv B Pa (anyT ws) m else Av O B Pa (anyT ws) m) true m → Av O B Pa (anyT ws) m := fun m p => by
        rcases p with p | ⟨_, p⟩
        · exact (lo m p).mono fun h => by cases h
        · rw [if_neg hb] at p
          exact p
      refine RW.nW ?_
      cases fl with
      | fr =>
        obtain ⟨n, xs, ts, rfl, a, b, d, r⟩ := h
        exact ⟨n, xs, ts, rfl, Nat.le_trans c.up a, b, d, r.map fun m c p e => ⟨e, p.1, k m p.2⟩⟩
      | dr =>
        obtain ⟨cs, a, b, d⟩ := h
        exact ⟨cs, a, b, fun n hn => ⟨Nat.le_trans c.up (d n hn), lo n (d n hn)⟩⟩
      | fz => exact Rq.map (fun m c p e => ⟨e, k m p⟩) h
      | _ => exact h.elim
theorem sx_call {F : Fn} {G : PF} {es : List E} {ps : List PE} (hf : SimF F G) (hs : SimL es ps) : SimE (eCall F es) (pCall G ps) := by
  refine ⟨?_⟩
  intro B Pa O ρ M π h
  have h1 := sx_list hs B Pa O ρ M π h
  unfold pCall eCall
  cases e1 : pvL ps π with
  | bad => exact trivial
  | exc c =>
    rw [e1] at h1
    obtain ⟨M', e2, g1⟩ := h1
    rw [e2]
    exact ⟨M', rfl, g1⟩
  | ok ws =>
    rw [e1] at h1
    obtain ⟨vs, M1, e2, g1, r1⟩ := h1
    rw [e2]
    unfold kqCall
    simp only [R.bind_ok]
    have re := r1.re (h.cx g1)
    have q := hf.go (fun m => if anyB ws = true then Lv B Pa (anyT ws) m else Av O B Pa (anyT ws) m) M1 vs (ws.map W.t) (by
      unfold RE at re
      by_cases hb : anyB ws = true
      · rw [if_pos hb] at re
        exact re.map fun m c p e => ⟨e, by rw [if_pos hb]; exact p⟩
      · rw [if_neg hb] at re
        exact re.map fun m c p e => ⟨e, by rw [if_neg hb]; exact p⟩)
    cases e3 : G (ws.map W.t) with
    | bad => exact trivial
    | exc c =>
      rw [e3] at q
      obtain ⟨M', e4, g2⟩ := q
      rw [e4]
      exact ⟨M', rfl, g1.trans g2⟩
    | ok w =>
      rw [e3] at q
      obtain ⟨v, M2, e4, g2, r2⟩ := q
      rw [e4]
      exact ⟨v, M2, rfl, g1.trans g2, RF.call (h.cx g1) g2 r2⟩
def kqPt : PR W → PR (Option Int)
  | .ok w => match w.t with
    | .int i => .ok (some i)
    | _ => .bad
  | .exc c => .exc c
  | .bad => .bad
def pPart : Option PE → PEnv → PR (Option Int)
  | none, _ => .ok none
  | some e, π => kqPt (e π)
def SimOE : Option E → Option PE → Prop
  | none, none => True
  | some e, some p => SimE e p
  | _, _ => False
theorem soe_no : SimOE none none := trivial
theorem soe_so {e : E} {p : PE} (h : SimE e p) : SimOE (some e) (some p) := h
theorem sx_part {e : Option E} {p : Option PE} (h : SimOE e p) {B : Nat} {Pa O : Nat → Prop} {ρ : Env} {M : Store} {π : PEnv} (hs : PSt B Pa O ρ M π) : match pPart p π with
    | .ok i => ∃ M', ePart e ρ M = .ok i M' ∧ Gr M M'
    | .exc c => ∃ M', ePart e ρ M = .exc c M' ∧ Gr M M'
    | .bad => True := by
  cases e with
  | none =>
    cases p with
    | none => exact ⟨M, rfl, Gr.refl M⟩
    | some p => exact h.elim
  | some e =>
    cases p with
    | none => exact h.elim
    | some p =>
      have h0 : SimE e p := h
      have h1 := h0 B Pa O ρ M π hs
      show match kqPt (p π) with
        | .ok i => ∃ M', ((e ρ M).bind fun v M1 => match v with
          | .int i => R.ok (some i) M1
          | _ => .bad) = .ok i M' ∧ Gr M M'
        | .exc c => ∃ M', ((e ρ M).bind fun v M1 => match v with
          | .int i => R.ok (some i) M1
          | _ => .bad) = .exc c M' ∧ Gr M M'
        | .bad => True
      cases e1 : p π with
      | bad => exact trivial
      | exc c =>
        rw [e1] at h1
        obtain ⟨M', e2, g1⟩ := h1
        rw [e2]
        exact ⟨M', rfl, g1⟩
      | ok w =>
        rw [e1] at h1
        obtain ⟨v, M1, e2, g1, r1⟩ := h1
        rw [e2]
        have k : kqPt (.ok w) = match w.t with
          | .int i => .ok (some i)
          | _ => .bad := rfl
        rw [k]
        cases e3 : w.t with
        | int i =>
          rw [r1.int e3]
          exact ⟨M1, rfl, g1⟩
        | _ => exact trivial
def kqSl3 (w : W) (l : Option Int) : PR (Option Int) → PR W
  | .ok h => qCut w l h
  | .exc c => .exc c
  | .bad => .bad
def kqSl2 (w : W) (hi : Option PE) (π : PEnv) : PR (Option Int) → PR W
  | .ok l => kqSl3 w l (pPart hi π)
  | .exc c => .exc c
  | .bad => .bad
def kqSl1 (lo hi : Option PE) (π : PEnv) : PR W → PR W
  | .ok w => kqSl2 w hi π (pPart lo π)
  | .exc c => .exc c
  | .bad => .bad
def pSl (e : PE) (lo hi : Option PE) : PE := fun π => kqSl1 lo hi π (e π)
theorem qCut_no (w : W) (l h : Option Int) (c : String) : qCut w l h ≠ .exc c := by
  unfold qCut
  repeat' split
  all_goals exact fun h => by cases h
theorem sx_sl {e : E} {lo hi : Option E} {p : PE} {lo' hi' : Option PE} (he : SimE e p) (hl : SimOE lo lo') (hh : SimOE hi hi') : SimE (eSl e lo hi) (pSl p lo' hi') := by
  refine ⟨?_⟩
  intro B Pa O ρ M π h
  have h1 := he B Pa O ρ M π h
  unfold pSl eSl
  cases e1 : p π with
  | bad => exact trivial
  | exc c =>
    rw [e1] at h1
    obtain ⟨M', e2, g1⟩ := h1
    rw [e2]
    exact ⟨M', rfl, g1⟩
  | ok w =>
    rw [e1] at h1
    obtain ⟨x, M1, e2, g1, r1⟩ := h1
    rw [e2]
    have h2 := sx_part hl (h.gr g1)
    unfold kqSl1
    simp only [R.bind_ok]
    cases e3 : pPart lo' π with
    | bad => exact trivial
    | exc c =>
      rw [e3] at h2
      obtain ⟨M', e4, g2⟩ := h2
      rw [e4]
      exact ⟨M', rfl, g1.trans g2⟩
    | ok l =>
      rw [e3] at h2
      obtain ⟨M2, e4, g2⟩ := h2
      rw [e4]
      have h3 := sx_part hh (h.gr (g1.trans g2))
      unfold kqSl2
      simp only [R.bind_ok]
      cases e5 : pPart hi' π with
      | bad => exact trivial
      | exc c =>
        rw [e5] at h3
        obtain ⟨M', e6, g3⟩ := h3
        rw [e6]
        exact ⟨M', rfl, (g1.trans g2).trans g3⟩
      | ok u =>
        rw [e5] at h3
        obtain ⟨M3, e6, g3⟩ := h3
        rw [e6]
        have G := (g1.trans g2).trans g3
        exact RelE.op G (qCut_no w l u) fun u hu => cut_ok (h.cx G) (r1.gr (g2.trans g3)) hu
end Mn
end
section
set_option Elab.async false
set_option autoImplicit false
set_option maxRecDepth 100000
set_option linter.all false
namespace Mn
theorem PSt.kill {B : Nat} {Pa O : Nat → Prop} {ρ : Env} {M : Store} {π : PEnv} (h : PSt B Pa O ρ M π) (i : Nat) : PSt B Pa O ρ M (π.set i none) := by
  have k : ∀ {j : Nat} {w : W}, (π.set i none)[j]? = some (some w) → π[j]? = some (some w) := fun {j w} e => by
    rw [List.getElem?_set] at e
    split at e
    · split at e <;> cases e
    · exact e
  exact ⟨by rw [List.length_set]; exact h.len, h.low, h.bnd, fun j w e f => h.own j w (k e) f, fun a b w w' v v' cs cs' n e1 e2 r1 r2 o1 o2 m1 m2 => h.inj a b w w' v v' cs cs' n (k e1) (k e2) r1 r2 o1 o2 m1 m2, fun j w e => h.val j w (k e), fun j w e => h.nb j w (k e)⟩
theorem PSt.wipe1 {B : Nat} {Pa O : Nat → Prop} {ρ : Env} {M : Store} {π : PEnv} (h : PSt B Pa O ρ M π) (i : Nat) : PSt B Pa O (ρ.set i none) M (π.set i none) := by
  have k : ∀ {j : Nat} {w : W}, (π.set i none)[j]? = some (some w) → π[j]? = some (some w) ∧ (ρ.set i none)[j]? = ρ[j]? := fun {j w} e => by
    rw [List.getElem?_set] at e
    split at e
    · split at e <;> cases e
    · rename_i n
      exact ⟨e, List.getElem?_set_ne n⟩
  refine ⟨by rw [List.length_set, List.length_set]; exact h.len, h.low, h.bnd, fun j w e f => ?_, fun a b w w' v v' cs cs' n e1 e2 r1 r2 o1 o2 m1 m2 => ?_, fun j w e => ?_, fun j w e => h.nb j w (k e).1⟩
  · rw [(k e).2]
    exact h.own j w (k e).1 f
  · rw [(k e1).2] at r1
    rw [(k e2).2] at r2
    exact h.inj a b w w' v v' cs cs' n (k e1).1 (k e2).1 r1 r2 o1 o2 m1 m2
  · rw [(k e).2]
    exact h.val j w (k e).1
theorem PSt.put {B : Nat} {Pa O : Nat → Prop} {ρ : Env} {M : Store} {π : PEnv} (h : PSt B Pa O ρ M π) (i : Nat) {v : Val} {w : W} (hf : w.fl = .fz) (hv : RW B Pa O B M v w) : PSt B Pa O (ρ.set i (some v)) M (π.set i (some w)) := by
  have k : ∀ {j : Nat} {u : W}, (π.set i (some w))[j]? = some (some u) → (j = i ∧ u = w ∧ (ρ.set i (some v))[j]? = some (some v)) ∨ (π[j]? = some (some u) ∧ (ρ.set i (some v))[j]? = ρ[j]?) := fun {j u} e => by
    rw [List.getElem?_set] at e
    split at e
    · rename_i n
      subst n
      split at e
      · cases e
        exact .inl ⟨rfl, rfl, List.getElem?_set_self (by rw [h.len]; assumption)⟩
      · cases e
    · rename_i n
      exact .inr ⟨e, List.getElem?_set_ne n⟩
  refine ⟨by rw [List.length_set, List.length_set]; exact h.len, h.low, h.bnd, fun j u e f => ?_, fun a b u u' x x' cs cs' n e1 e2 r1 r2 o1 o2 m1 m2 => ?_, fun j u e => ?_, fun j u e => ?_⟩
  · rcases k e with ⟨_, rfl, _⟩ | ⟨a, b⟩
    · rw [hf] at f
      cases f
    · rw [b]
      exact h.own j u a f
  · rcases k e1 with ⟨_, rfl, _⟩ | ⟨a1, b1⟩
    · rw [hf] at o1
      exact o1.elim
    · rcases k e2 with ⟨_, rfl, _⟩ | ⟨a2, b2⟩
      · rw [hf] at o2
        exact o2.elim
      · rw [b1] at r1
        rw [b2] at r2
        exact h.inj a b u u' x x' cs cs' n a1 a2 r1 r2 o1 o2 m1 m2
  · rcases k e with ⟨_, rfl, c⟩ | ⟨a, b⟩
    · refine ⟨v, c, ?_⟩
      unfold RV
      rw [hf]
      exact hv
    · rw [b]
      exact h.val j u a
  · rcases k e with ⟨_, rfl, _⟩ | ⟨a, _⟩
    · rw [hf]
      rfl
    · exact h.nb j u a
abbrev PT := W → PEnv → PRS
def ptName (i : Nat) : PT := fun w π => match w.fl with
  | .fz => .nx (π.set i (some w))
  | _ => .bad
def ptAll : List PT → List W → PEnv → PRS
  | [], [], π => .nx π
  | t :: ts, w :: ws, π => match t w π with
    | .nx π1 => ptAll ts ws π1
    | _ => .bad
  | _, _, _ => .bad
def ptTup (ts : List PT) : PT := fun w π => match qSeq w with
  | some xs => if xs.length = ts.length then ptAll ts (xs.map (elW (isD w.fl) w.tn)) π else .bad
  | none => .bad
def RelT (B : Nat) (Pa O : Nat → Prop) (M : Store) (r : RS) (p : PRS) : Prop := match p with
  | .nx π' => ∃ ρ', r = .nx ρ' M ∧ PSt B Pa O ρ' M π'
  | .bad => True
  | _ => False
def SimT (t : Tg) (p : PT) : Prop := ∀ (B L : Nat) (Pa O : Nat → Prop) (ρ : Env) (M : Store) (π : PEnv) (v : Val) (w : W), PSt B Pa O ρ M π → RW B Pa O L M v w → RelT B Pa O M (t v ρ M) (p w π)
inductive SimTL : List Tg → List PT → Prop
  | nil : SimTL [] []
  | cons {t : Tg} {p : PT} {ts : List Tg} {ps : List PT} : SimT t p → SimTL ts ps → SimTL (t :: ts) (p :: ps)
theorem SimTL.length : ∀ {ts : List Tg} {ps : List PT}, SimTL ts ps → ts.length = ps.length
  | _, _, .nil => rfl
  | _, _, .cons _ r => congrArg Nat.succ (SimTL.length r)
theorem RW.fz {B L L' : Nat} {Pa O : Nat → Prop} {M : Store} {v : Val} {w : W} (h : RW B Pa O L M v w) (e : w.fl = .fz) : RW B Pa O L' M v w := by
  unfold RW at *
  rw [e] at h ⊢
  exact h
theorem st_name (i : Nat) : SimT (tName i) (ptName i) := by
  intro B L Pa O ρ M π v w h r
  unfold ptName
  cases e : w.fl with
  | fz => exact ⟨_, rfl, h.put i e (r.fz e)⟩
  | _ => exact trivial
theorem st_all : ∀ {ts : List Tg} {ps : List PT}, SimTL ts ps → ∀ (B L : Nat) (Pa O : Nat → Prop) (ρ : Env) (M : Store) (π : PEnv) (vs : List Val) (ws : List W), PSt B Pa O ρ M π → RWl B Pa O L M vs ws → RelT B Pa O M (tAll ts vs ρ M) (ptAll ps ws π)
  | _, _, .nil, B, L, Pa, O, ρ, M, π, vs, ws, h, r => by
    cases r with
    | nil => exact ⟨ρ, rfl, h⟩
    | cons _ _ => exact trivial
  | _, _, .cons (t := t) (p := p) (ts := ts) (ps := ps) a b, B, L, Pa, O, ρ, M, π, vs, ws, h, r => by
    cases r with
    | nil => exact trivial
    | @cons v w vs ws r1 r2 =>
      have h1 := a B L Pa O ρ M π v w h r1
      unfold ptAll
      cases e : p w π with
      | nx π1 =>
        rw [e] at h1
        obtain ⟨ρ1, e1, s1⟩ := h1
        have h2 := st_all b B L Pa O ρ1 M π1 vs ws s1 r2
        simp only [tAll, e1, RS.andThen]
        exact h2
      | bad => exact trivial
      | _ =>
        rw [e] at h1
        exact h1.elim
theorem RE.rwl {B L : Nat} {Pa O : Nat → Prop} {M : Store} {ds tn : Bool} {xs : List Val} {ts : List V} (h : RE B Pa O ds tn M xs ts) : RWl B Pa O L M xs (ts.map (Mn.elW ds tn)) := by
  unfold RE at h
  induction ts generalizing xs with
  | nil =>
    cases h
    exact .nil
  | cons t ts ih =>
    cases h with
    | cons a b => exact .cons (RE.elW a) (ih b)
theorem st_tup {ts : List Tg} {ps : List PT} (h : SimTL ts ps) : SimT (tTup ts) (ptTup ps) := by
  intro B L Pa O ρ M π v w s r
  unfold ptTup tTup
  cases e : qSeq w with
  | none => exact trivial
  | some us =>
    obtain ⟨xs, e1, r1⟩ := r.seq e
    rw [e1]
    simp only []
    rw [Rql.length r1, h.length]
    by_cases hl : us.length = ps.length
    · rw [if_pos hl, if_pos hl]
      exact st_all h B L Pa O ρ M π xs _ s r1.rwl
    · rw [if_neg hl, if_neg hl]
      exact trivial
structure Ws where
  ws : List W
  st : Bool
abbrev PSrc := PEnv → PR Ws
structure Wk (B : Nat) (Pa O : Nat → Prop) (M : Store) (it : Itr) (s : Ws) : Prop where
  cnt : it.n = s.ws.length
  go : ∀ (O' : Nat → Prop) (M' : Store), (if s.st = true then Ext O M O' M' else O' = O ∧ Gr M M') → (∀ (i : Nat) (w : W), s.ws[i]? = some w → ∃ v, it.nxt i M' = some v ∧ RW B Pa O' B M' v w) ∧ it.fin M' = true
def RelI (B : Nat) (Pa O : Nat → Prop) (M : Store) (r : R Itr) (p : PR Ws) : Prop := match p with
  | .ok s => ∃ it M', r = .ok it M' ∧ Gr M M' ∧ Wk B Pa O M' it s
  | .exc c => ∃ M', r = .exc c M' ∧ Gr M M'
  | .bad => True
structure SimI (i : Src) (p : PSrc) : Prop where
  go : ∀ (B : Nat) (Pa O : Nat → Prop) (ρ : Env) (M : Store) (π : PEnv), PSt B Pa O ρ M π → RelI B Pa O M (i ρ M) (p π)
instance {i : Src} {p : PSrc} : CoeFun (SimI i p) fun _ => ∀ (B : Nat) (Pa O : Nat → Prop) (ρ : Env) (M : Store) (π : PEnv), PSt B Pa O ρ M π → RelI B Pa O M (i ρ M) (p π) := ⟨SimI.go⟩
theorem Rq.ext {B : Nat} {Pa O O' : Nat → Prop} {M M' : Store} {tn : Bool} {v : Val} {t : V} (x : Ext O M O' M') (h : Rq (Av O B Pa tn) M v t) : Rq (Av O' B Pa tn) M' v t :=
  h.map fun m c p e => let ⟨a, b⟩ := x.2 m (get_lt e) p.1; ⟨a.trans e, b, p.2⟩
theorem Rql.ext {B : Nat} {Pa O O' : Nat → Prop} {M M' : Store} {tn : Bool} {v : List Val} {t : List V} (x : Ext O M O' M') (h : Rql (Av O B Pa tn) M v t) : Rql (Av O' B Pa tn) M' v t :=
  h.map fun m c p e => let ⟨a, b⟩ := x.2 m (get_lt e) p.1; ⟨a.trans e, b, p.2⟩
theorem RW.later {B L : Nat} {Pa O : Nat → Prop} {M : Store} {v : Val} {w : W} (hb : ∀ n, O n → n < L) (h : RW B Pa O L M v w) {ts : List V} (e : qSeq w = some ts) (O' : Nat → Prop) (M' : Store) (x : if (!isB w.fl) = true then Ext O M O' M' else O' = O ∧ Gr M M') :
    ∃ xs, seqOf M v = some xs ∧ seqOf M' v = some xs ∧ xs.length = ts.length ∧ RE B Pa O' (isD w.fl) w.tn M' xs ts := by
  obtain ⟨fl, tn, t⟩ := w
  obtain ⟨xs, h1, h2⟩ := h.seq e
  refine ⟨xs, h1, ?_, Rql.length h2, ?_⟩
  · cases fl with
    | fr =>
      obtain ⟨n, ys, us, rfl, b, c, d, f⟩ := h
      have := (x.2 n (get_lt c) fun o => by have := hb n o; omega).1
      have q : lstAt M n = some xs := h1
      show lstAt M' n = some xs
      unfold lstAt at *
      rw [this]
      exact q
    | dr =>
      obtain ⟨cs, a, b, c⟩ := h
      cases v with
      | ref n =>
        have hn : n ∈ cs ∧ n < M.length := by
          cases a with
          | lst q _ => exact ⟨List.mem_cons_self, get_lt q⟩
          | obj q _ => exact ⟨List.mem_cons_self, get_lt q⟩
          | dic q _ _ => exact ⟨List.mem_cons_self, get_lt q⟩
        have := (x.2 n hn.2 (c n hn.1).2.1).1
        have q : lstAt M n = some xs := h1
        show lstAt M' n = some xs
        unfold lstAt at *
        rw [this]
        exact q
      | tup ys => exact h1
      | _ => cases h1
    | fz =>
      cases v with
      | ref n =>
        have q : lstAt M n = some xs := h1
        show lstAt M' n = some xs
        have k : ∀ c, M[n]? = some c → Av O B Pa tn n → M'[n]? = M[n]? := fun c e p => (x.2 n (get_lt e) p.1).1
        unfold RW at h
        simp only at h
        cases h with
        | lst a p _ =>
          unfold lstAt at *
          rw [k _ a p]
          exact q
        | ro a p _ =>
          unfold lstAt at *
          rw [k _ a p]
          exact q
        | obj a p _ => cases e
        | dic a p _ _ => cases e
      | tup ys => exact h1
      | _ => cases h1
    | bo => exact x.2.seq h1
    | bd => exact x.2.seq h1
  · cases fl with
    | fr => exact Rql.ext (O := O) (M := M) x h2
    | dr => exact Rql.ext (O := O) (M := M) x h2
    | fz => exact Rql.ext (O := O) (M := M) x h2
    | bo =>
      obtain ⟨rfl, g⟩ := x
      exact RE.gr g h2
    | bd =>
      obtain ⟨rfl, g⟩ := x
      exact RE.gr g h2
def kqSeq : PR W → PR Ws
  | .ok w => match qSeq w with
    | some xs => .ok ⟨xs.map (elW (isD w.fl) w.tn), !isB w.fl⟩
    | none => .bad
  | .exc c => .exc c
  | .bad => .bad
def pList (e : PE) : PSrc := fun π => kqSeq (e π)
theorem RE.at {B L : Nat} {Pa O : Nat → Prop} {M : Store} {ds tn : Bool} {xs : List Val} {ts : List V} (h : RE B Pa O ds tn M xs ts) {i : Nat} {w : W} (e : (ts.map (Mn.elW ds tn))[i]? = some w) : ∃ v, xs[i]? = some v ∧ RW B Pa O L M v w := by
  rw [List.getElem?_map] at e
  obtain ⟨t, e1, rfl⟩ := Option.map_eq_some_iff.mp e
  exact h.get e1
theorem wk_seq {B L : Nat} {Pa O : Nat → Prop} {M : Store} {v : Val} {w : W} (hb : ∀ n, O n → n < L) (h : RW B Pa O L M v w) {ts : List V} (e : qSeq w = some ts) {xs : List Val} (hx : seqOf M v = some xs) : Wk B Pa O M (itSeq v xs.length) ⟨ts.map (elW (isD w.fl) w.tn), !isB w.fl⟩ := by
  have hl : xs.length = ts.length := by
    obtain ⟨ys, h1, h2⟩ := h.seq e
    rw [hx] at h1
    cases h1
    exact Rql.length h2
  refine ⟨by rw [List.length_map]; exact hl, fun O' M' x => ?_⟩
  obtain ⟨ys, a, b, c, d⟩ := h.later hb e O' M' x
  rw [hx] at a
  cases a
  refine ⟨fun i w hw => ?_, ?_⟩
  · obtain ⟨u, e1, r⟩ := d.at (L := B) hw
    refine ⟨u, ?_, r⟩
    show (seqOf M' v).bind _ = _
    rw [b]
    exact e1
  · show (match seqOf M' v with | some ys => decide (ys.length ≤ xs.length) | none => false) = true
    rw [b]
    exact decide_eq_true (Nat.le_refl _)
theorem si_list {e : E} {p : PE} (he : SimE e p) : SimI (iList e) (pList p) := by
  refine ⟨?_⟩
  intro B Pa O ρ M π h
  have h1 := he B Pa O ρ M π h
  unfold pList iList
  cases e1 : p π with
  | bad => exact trivial
  | exc c =>
    rw [e1] at h1
    obtain ⟨M', e2, g1⟩ := h1
    rw [e2]
    exact ⟨M', rfl, g1⟩
  | ok w =>
    rw [e1] at h1
    obtain ⟨x, M1, e2, g1, r1⟩ := h1
    rw [e2]
    unfold kqSeq
    simp only [R.bind_ok]
    cases e3 : qSeq w with
    | none => exact trivial
    | some ts =>
      obtain ⟨xs, hx, rx⟩ := r1.seq e3
      rw [hx]
      exact ⟨_, M1, rfl, g1, wk_seq (fun n o => (h.bnd n o).2) r1 e3 hx⟩
def kqRev : PR W → PR Ws
  | .ok w => match qSeq w with
    | some xs => .ok ⟨(xs.map (elW (isD w.fl) w.tn)).reverse, !isB w.fl⟩
    | none => .bad
  | .exc c => .exc c
  | .bad => .bad
def pRev (e : PE) : PSrc := fun π => kqRev (e π)
def enumW (ds tn : Bool) : Nat → List V → List W
  | _, [] => []
  | i, x :: xs => mkT ds tn [.int i, x] :: enumW ds tn (i + 1) xs
def kqEnum : PR W → PR Ws
  | .ok w => match qLs w with
    | some xs => .ok ⟨enumW (isD w.fl) w.tn 0 xs, !isB w.fl⟩
    | none => .bad
  | .exc c => .exc c
  | .bad => .bad
def pEnum (e : PE) : PSrc := fun π => kqEnum (e π)
def zipW (ds tn : Bool) : List V → List V → List W
  | x :: xs, y :: ys => mkT ds tn [x, y] :: zipW ds tn xs ys
  | _, _ => []
def sameV : V → V → Bool
  | .lst _, .lst _ => true
  | .lst _, .ro _ => true
  | .ro _, .lst _ => true
  | .ro _, .ro _ => true
  | .tup _, .tup _ => true
  | _, _ => false
def zipOf (w w' : W) : PR Ws := match qSeq w, qSeq w' with
  | some xs, some ys => if sameV w.t w'.t = true then .ok ⟨zipW (isD w.fl || isD w'.fl) (w.tn || w'.tn) xs ys, !isB w.fl && !isB w'.fl⟩ else .bad
  | _, _ => .bad
def kqZip2 (w : W) : PR W → PR Ws
  | .ok w' => zipOf w w'
  | .exc c => .exc c
  | .bad => .bad
def kqZip1 (b : PE) (π : PEnv) : PR W → PR Ws
  | .ok w => kqZip2 w (b π)
  | .exc c => .exc c
  | .bad => .bad
def pZip (a b : PE) : PSrc := fun π => kqZip1 b π (a π)
def rangeW (lo : Int) (n : Nat) : List W := (List.range n).map fun (i : Nat) => W.at (.int (lo + (i : Int)))
theorem wk_range {B : Nat} {Pa O : Nat → Prop} {M : Store} (lo : Int) (n : Nat) (f : Nat → Store → Option Val) (hf : ∀ i M, f i M = some (.int (lo + (i : Int)))) : Wk B Pa O M ⟨n, f, fun _ => true⟩ ⟨rangeW lo n, true⟩ := by
  refine ⟨by simp [rangeW], fun O' M' x => ⟨fun i w hw => ?_, rfl⟩⟩
  unfold rangeW at hw
  rw [List.getElem?_map] at hw
  obtain ⟨j, hj, rfl⟩ := Option.map_eq_some_iff.mp hw
  have hi := (List.getElem?_eq_some_iff.mp hj)
  obtain ⟨h1, h2⟩ := hi
  rw [List.getElem_range] at h2
  subst h2
  exact ⟨_, hf i M', RW.ai _⟩
def kqR1 : PR W → PR Ws
  | .ok w => match w.t with
    | .int j => if -(2 ^ 62) ≤ j ∧ j < 2 ^ 62 then .ok ⟨rangeW 0 j.toNat, true⟩ else .bad
    | _ => .bad
  | .exc c => .exc c
  | .bad => .bad
def pRange1 (a : PE) : PSrc := fun π => kqR1 (a π)
theorem si_range1 {a : E} {p : PE} (ha : SimE a p) : SimI (iRange1 a) (pRange1 p) := by
  refine ⟨?_⟩
  intro B Pa O ρ M π h
  have h1 := ha B Pa O ρ M π h
  unfold pRange1 iRange1
  cases e1 : p π with
  | bad => exact trivial
  | exc c =>
    rw [e1] at h1
    obtain ⟨M', e2, g1⟩ := h1
    rw [e2]
    exact ⟨M', rfl, g1⟩
  | ok w =>
    rw [e1] at h1
    obtain ⟨x, M1, e2, g1, r1⟩ := h1
    rw [e2]
    unfold kqR1
    simp only [R.bind_ok]
    cases e3 : w.t with
    | int j =>
      rw [r1.int e3]
      simp only []
      by_cases hj : -(2 ^ 62) ≤ j ∧ j < 2 ^ 62
      · rw [if_pos hj, if_pos hj]
        exact ⟨_, M1, rfl, g1, wk_range 0 _ _ fun _ _ => rfl⟩
      · rw [if_neg hj, if_neg hj]
        exact trivial
    | _ => exact trivial
def r2Of (w w' : W) : PR Ws := match w.t, w'.t with
  | .int i, .int j => if -(2 ^ 62) ≤ i ∧ i < 2 ^ 62 ∧ -(2 ^ 62) ≤ j ∧ j < 2 ^ 62 then .ok ⟨rangeW i (j - i).toNat, true⟩ else .bad
  | _, _ => .bad
def kqR22 (w : W) : PR W → PR Ws
  | .ok w' => r2Of w w'
  | .exc c => .exc c
  | .bad => .bad
def kqR21 (b : PE) (π : PEnv) : PR W → PR Ws
  | .ok w => kqR22 w (b π)
  | .exc c => .exc c
  | .bad => .bad
def pRange2 (a b : PE) : PSrc := fun π => kqR21 b π (a π)
def killP (π : PEnv) : List Nat → PEnv
  | [] => π
  | v :: vs => (killP π vs).set v none
theorem PSt.wipe {B : Nat} {Pa O : Nat → Prop} {ρ : Env} {M : Store} {π : PEnv} (h : PSt B Pa O ρ M π) : ∀ vs : List Nat, PSt B Pa O (Mn.wipe ρ vs) M (killP π vs)
  | [] => h
  | v :: vs => (PSt.wipe h vs).wipe1 v
theorem PSt.kills {B : Nat} {Pa O : Nat → Prop} {ρ : Env} {M : Store} {π : PEnv} (h : PSt B Pa O ρ M π) : ∀ vs : List Nat, PSt B Pa O ρ M (killP π vs)
  | [] => h
  | v :: vs => (PSt.kills h vs).kill v
def pLcN (t : PT) (c e : PE) (π : PEnv) : List W → PR (List W)
  | [] => .ok []
  | w :: ws => match t w π with
    | .nx π1 => match c π1 with
      | .ok b => match b.t with
        | .bl true => match e π1 with
          | .ok u => kqL2 u (pLcN t c e π ws)
          | _ => .bad
        | .bl false => pLcN t c e π ws
        | _ => .bad
      | _ => .bad
    | _ => .bad
def kqLc2 : PR (List W) → PR W
  | .ok us => .ok (mkL (anyB us) (anyT us) (us.map W.t))
  | .exc c => .exc c
  | .bad => .bad
def kqLc (t : PT) (c e : PE) (π : PEnv) : PR Ws → PR W
  | .ok s => if s.ws.length ≤ szLine then kqLc2 (pLcN t c e π s.ws) else .bad
  | .exc c => .exc c
  | .bad => .bad
def pLc (s : PSrc) (t : PT) (vs : List Nat) (c e : PE) : PE := fun π => kqLc t c e (killP π vs) (s π)
theorem RWl.append {B L : Nat} {Pa O : Nat → Prop} {M : Store} : ∀ {vs us : List Val} {ws xs : List W}, RWl B Pa O L M vs ws → RWl B Pa O L M us xs → RWl B Pa O L M (vs ++ us) (ws ++ xs)
  | _, _, _, _, .nil, s => s
  | _, _, _, _, .cons h r, s => .cons h (RWl.append r s)
def LcR (B : Nat) (Pa O : Nat → Prop) (L : Nat) (M : Store) (r : R (List Val)) (aw : List W) (p : PR (List W)) : Prop := match p with
  | .ok us => ∃ vs M', r = .ok vs M' ∧ Gr M M' ∧ RWl B Pa O L M' vs (aw ++ us)
  | .exc _ => False
  | .bad => True
theorem lc_ok {B L : Nat} {Pa O : Nat → Prop} {ρ : Env} {M0 : Store} {π : PEnv} {it : Itr} {s : Ws} {t : Tg} {t' : PT} {c e : E} {c' e' : PE} (ht : SimT t t') (hc : SimE c c') (he : SimE e e') (wk : Wk B Pa O M0 it s) (hL : L ≤ M0.length) :
    ∀ (ws : List W) (k i : Nat) (acc : List Val) (aw : List W) (M : Store), ws = s.ws.drop i → k = ws.length → Gr M0 M → PSt B Pa O ρ M π → RWl B Pa O L M acc aw → LcR B Pa O L M (lcN it t c e ρ k i acc M) aw (pLcN t' c' e' π ws)
  | [], k, i, acc, aw, M, ew, ek, g, st, r => by
    subst ek
    have f := (wk.go O M (by split; exact Ext.gr g; exact ⟨rfl, g⟩)).2
    refine ⟨acc, M, ?_, Gr.refl M, by rw [List.append_nil]; exact r⟩
    show lcN it t c e ρ 0 i acc M = _
    unfold lcN
    rw [if_pos f]
  | w :: ws, k, i, acc, aw, M, ew, ek, g, st, r => by
    subst ek
    have hw : s.ws[i]? = some w := by
      have : (s.ws.drop i)[0]? = some w := by rw [← ew]; rfl
      rw [List.getElem?_drop] at this
      exact this
    have hd : ws = s.ws.drop (i + 1) := by
      have : (w :: ws).drop 1 = (s.ws.drop i).drop 1 := by rw [ew]
      rw [List.drop_drop] at this
      exact this
    obtain ⟨v, e1, rv⟩ := (wk.go O M (by split; exact Ext.gr g; exact ⟨rfl, g⟩)).1 i w hw
    have h1 := ht B B Pa O ρ M π v w st rv
    unfold pLcN
    show LcR B Pa O L M (lcN it t c e ρ (ws.length + 1) i acc M) aw _
    unfold lcN
    rw [e1]
    simp only []
    cases e2 : t' w π with
    | nx π1 =>
      rw [e2] at h1
      obtain ⟨ρ1, e3, s1⟩ := h1
      rw [e3]
      simp only []
      have h2 := hc B Pa O ρ1 M π1 s1
      cases e4 : c' π1 with
      | ok b =>
        rw [e4] at h2
        obtain ⟨bv, M1, e5, g1, rb⟩ := h2
        rw [e5]
        simp only []
        cases e6 : b.t with
        | bl q =>
          rw [rb.bl e6]
          cases q with
          | false =>
            simp only []
            have h3 := lc_ok ht hc he wk hL ws ws.length (i + 1) acc aw M1 hd rfl (g.trans g1) (st.gr g1) (r.gr g1)
            cases e7 : pLcN t' c' e' π ws with
            | ok us =>
              rw [e7] at h3
              obtain ⟨vs, M', a, b, c⟩ := h3
              exact ⟨vs, M', a, g1.trans b, c⟩
            | exc x =>
              rw [e7] at h3
              exact h3.elim
            | bad => exact trivial
          | true =>
            simp only []
            have h3 := he B Pa O ρ1 M1 π1 (s1.gr g1)
            cases e7 : e' π1 with
            | ok u =>
              rw [e7] at h3
              obtain ⟨y, M2, e8, g2, ru⟩ := h3
              rw [e8]
              simp only []
              have g12 := g1.trans g2
              have h4 := lc_ok ht hc he wk hL ws ws.length (i + 1) (acc ++ [y]) (aw ++ [u]) M2 hd rfl (g.trans g12) (st.gr g12) ((r.gr g12).append (.cons (ru.low (Nat.le_trans hL (g.trans g1).len)) .nil))
              cases e9 : pLcN t' c' e' π ws with
              | ok us =>
                rw [e9] at h4
                obtain ⟨vs, M', a, b, c⟩ := h4
                rw [List.append_assoc] at c
                exact ⟨vs, M', a, g12.trans b, c⟩
              | exc x =>
                rw [e9] at h4
                exact h4.elim
              | bad => exact trivial
            | _ => exact trivial
        | _ => exact trivial
      | _ => exact trivial
    | _ => exact trivial
theorem sx_lc {s : Src} {s' : PSrc} {t : Tg} {t' : PT} {c e : E} {c' e' : PE} (vs : List Nat) (hs : SimI s s') (ht : SimT t t') (hc : SimE c c') (he : SimE e e') : SimE (eLc s t vs c e) (pLc s' t' vs c' e') := by
  refine ⟨?_⟩
  intro B Pa O ρ M π h
  have h1 := hs B Pa O ρ M π h
  unfold pLc eLc
  cases e1 : s' π with
  | bad => exact trivial
  | exc c =>
    rw [e1] at h1
    obtain ⟨M', e2, g1⟩ := h1
    rw [e2]
    exact ⟨M', rfl, g1⟩
  | ok z =>
    rw [e1] at h1
    obtain ⟨it, M1, e2, g1, wk⟩ := h1
    rw [e2]
    unfold kqLc
    simp only [R.bind_ok]
    rw [wk.cnt]
    by_cases hz : z.ws.length ≤ szLine
    · rw [if_pos hz, if_pos hz]
      have h2 := lc_ok (L := M.length) ht hc he wk g1.len z.ws z.ws.length 0 [] [] M1 rfl rfl (Gr.refl M1) ((h.gr g1).wipe vs) .nil
      cases e3 : pLcN t' c' e' (killP π vs) z.ws with
      | ok us =>
        rw [e3] at h2
        obtain ⟨ys, M2, a, b, c⟩ := h2
        rw [a]
        exact ⟨_, _, rfl, (g1.trans b).trans (Gr.one _ _), mkL_ok (h.cx (g1.trans b)) (c.re (h.cx (g1.trans b)))⟩
      | exc c =>
        rw [e3] at h2
        exact h2.elim
      | bad => exact trivial
    · rw [if_neg hz, if_neg hz]
      exact trivial
end Mn
end
section
set_option Elab.async false
set_option autoImplicit false
set_option maxRecDepth 100000
set_option linter.all false
namespace Mn
theorem set_cases {α : Type} {xs : List (Option α)} {i j : Nat} {o : Option α} {u : α} (e : (xs.set i o)[j]? = some (some u)) : (j = i ∧ o = some u ∧ i < xs.length) ∨ (j ≠ i ∧ xs[j]? = some (some u)) := by
  rw [List.getElem?_set] at e
  split at e
  · rename_i n
    subst n
    split at e
    · cases e
      exact .inl ⟨rfl, rfl, by assumption⟩
    · cases e
  · rename_i n
    exact .inr ⟨fun z => n z.symm, e⟩
theorem RV.keep {B : Nat} {Pa O O' : Nat → Prop} {M M' : Store} {v : Val} {w : W} (nb : isB w.fl = false) (ho : ∀ cs, Oc w.fl M v w.t cs → ∀ n ∈ cs, ∀ c, M[n]? = some c → M'[n]? = some c) (hf : ∀ n c, ¬O n → M[n]? = some c → M'[n]? = some c ∧ ¬O' n) (h : RV B Pa O M v w) : RV B Pa O' M' v w := by
  obtain ⟨fl, tn, t⟩ := w
  cases fl with
  | fr =>
    obtain ⟨n, xs, ts, rfl, a, b, c, d⟩ := h
    simp only at c
    subst c
    exact ⟨n, xs, ts, rfl, a, ho [n] ⟨n, rfl, rfl⟩ n List.mem_cons_self _ b, rfl, d.map fun m c p e => ⟨(hf m c p.2.1 e).1, p.1, (hf m c p.2.1 e).2, p.2.2⟩⟩
  | dr =>
    obtain ⟨cs, a, b, c⟩ := h
    exact ⟨cs, Ow.map a fun m c hm e => ho cs a m hm c e, b, c⟩
  | fz => exact Rq.map (fun m c p e => ⟨(hf m c p.1 e).1, (hf m c p.1 e).2, p.2⟩) h
  | bo => cases nb
  | bd => cases nb
theorem Oc.keep {fl : Fl} {M M' : Store} {v : Val} {t : V} {cs : List Nat} (h : Oc fl M v t cs) (k : ∀ n ∈ cs, ∀ c, M[n]? = some c → M'[n]? = some c) : Oc fl M' v t cs := by
  cases fl with
  | fr => exact h
  | dr => exact Ow.map h fun m c hm e => k m hm c e
  | _ => exact h.elim
theorem RW.oc {B L : Nat} {Pa O : Nat → Prop} {M : Store} {v : Val} {w : W} (h : RW B Pa O L M v w) (hf : isO w.fl = true) : ∃ cs, Oc w.fl M v w.t cs ∧ cs.Nodup ∧ ∀ n ∈ cs, L ≤ n ∧ n < M.length := by
  obtain ⟨fl, tn, t⟩ := w
  cases fl with
  | fr =>
    obtain ⟨n, xs, ts, rfl, a, b, c, d⟩ := h
    refine ⟨[n], ⟨n, rfl, rfl⟩, by simp, fun m hm => ?_⟩
    rw [List.mem_singleton.mp hm]
    exact ⟨a, get_lt b⟩
  | dr =>
    obtain ⟨cs, a, b, c⟩ := h
    exact ⟨cs, a, b, fun n hn => ⟨(c n hn).1, Ow.lt a n hn⟩⟩
  | _ => cases hf
theorem RW.rv {B L : Nat} {Pa O O' : Nat → Prop} {M : Store} {v : Val} {w : W} {cs : List Nat} (hl : B ≤ L) (hf : isO w.fl = true) (h : RW B Pa O L M v w) (oc : Oc w.fl M v w.t cs) (ho : ∀ n, O' n → O n ∨ n ∈ cs) : RV B Pa O' M v w := by
  obtain ⟨fl, tn, t⟩ := w
  cases fl with
  | fr =>
    obtain ⟨n, xs, ts, rfl, a, b, c, d⟩ := h
    obtain ⟨m, e1, e2⟩ := oc
    cases e1
    subst e2
    exact ⟨n, xs, ts, rfl, Nat.le_trans hl a, b, c, d.map fun m c p e => ⟨e, p.1, fun z => (ho m z).elim p.2.1 fun y => p.1 (List.mem_singleton.mp y), p.2.2⟩⟩
  | dr =>
    obtain ⟨cs, a, b, c⟩ := h
    exact ⟨cs, a, b, fun n hn => Nat.le_trans hl (c n hn).1⟩
  | _ => cases hf
theorem PSt.putO {B : Nat} {Pa O : Nat → Prop} {ρ : Env} {M0 M : Store} {π : PEnv} (h : PSt B Pa O ρ M0 π) (g : Gr M0 M) (i : Nat) {v : Val} {w : W} (hf : isO w.fl = true) (hv : RW B Pa O M0.length M v w) :
    ∃ O', Ext O M0 O' M ∧ PSt B Pa O' (ρ.set i (some v)) M (π.set i (some w)) := by
  obtain ⟨cs, oc, nd, low⟩ := hv.oc hf
  have h' := h.gr g
  have lt : ∀ m, O m → m < M0.length := fun m o => (h.bnd m o).2
  have ri : i < π.length → (ρ.set i (some v))[i]? = some (some v) := fun hi => List.getElem?_set_self (by rw [h.len]; exact hi)
  have rn : ∀ {j}, j ≠ i → (ρ.set i (some v))[j]? = ρ[j]? := fun d => List.getElem?_set_ne (Ne.symm d)
  refine ⟨fun m => O m ∨ m ∈ cs, ⟨g.len, fun m hm o => ⟨?_, fun z => ?_⟩⟩, ⟨by rw [List.length_set, List.length_set]; exact h.len, Nat.le_trans h.low g.len, fun m o => ?_, fun j u e f => ?_, fun p q u u' x x' ds ds' m e1 e2 r1 r2 o1 o2 m1 m2 => ?_, fun j u e => ?_, fun j u e => ?_⟩⟩
  · obtain ⟨y, rfl⟩ := g
    exact List.getElem?_append_left hm
  · rcases z with z | z
    · exact o z
    · have := low m z
      omega
  · rcases o with o | o
    · exact ⟨(h.bnd m o).1, Nat.lt_of_lt_of_le (h.bnd m o).2 g.len⟩
    · exact ⟨Nat.le_trans h.low (low m o).1, (low m o).2⟩
  · rcases set_cases e with ⟨rfl, e, hi⟩ | ⟨d, e⟩
    · cases e
      exact ⟨v, cs, ri hi, oc, fun n hn => .inr hn⟩
    · obtain ⟨x, ds, a, b, c⟩ := h'.own j u e f
      exact ⟨x, ds, by rw [rn d]; exact a, b, fun n hn => .inl (c n hn)⟩
  · have nn : ∀ (j : Nat) (u : W) (x : Val) (ds : List Nat), π[j]? = some (some u) → ρ[j]? = some (some x) → Oc u.fl M x u.t ds → m ∈ ds → m ∈ cs → False := fun j u x ds e r o hm hc => by
      obtain ⟨x', ds', a, b, c⟩ := h'.own j u e o.isO
      rw [r] at a
      cases a
      rw [o.fn b] at hm
      have := lt m (c m hm)
      have := (low m hc).1
      omega
    rcases set_cases e1 with ⟨c1, g1, hi⟩ | ⟨d1, f1⟩
    · subst c1
      cases g1
      rw [ri hi] at r1
      cases r1
      rw [o1.fn oc] at m1
      rcases set_cases e2 with ⟨c2, e2, _⟩ | ⟨d2, e2⟩
      · exact c2.symm
      · rw [rn d2] at r2
        exact (nn q u' x' ds' e2 r2 o2 m2 m1).elim
    · rw [rn d1] at r1
      rcases set_cases e2 with ⟨c2, g2, hi⟩ | ⟨d2, e2⟩
      · subst c2
        cases g2
        rw [ri hi] at r2
        cases r2
        rw [o2.fn oc] at m2
        exact (nn p u x ds f1 r1 o1 m1 m2).elim
      · rw [rn d2] at r2
        exact h'.inj p q u u' x x' ds ds' m f1 e2 r1 r2 o1 o2 m1 m2
  · rcases set_cases e with ⟨rfl, e, hi⟩ | ⟨d, e⟩
    · cases e
      exact ⟨v, ri hi, hv.rv h.low hf oc fun n hn => hn⟩
    · obtain ⟨x, a, b⟩ := h.val j u e
      refine ⟨x, by rw [rn d]; exact a, b.keep (h.nb j u e) (fun ds _ n hn c e => g.at e) fun n c o e => ⟨g.at e, fun z => z.elim o fun y => ?_⟩⟩
      have := (low n y).1
      have := get_lt e
      omega
  · rcases set_cases e with ⟨rfl, e, hi⟩ | ⟨d, e⟩
    · cases e
      obtain ⟨fl, tn, t⟩ := w
      cases fl <;> first | rfl | cases hf
    · exact h.nb j u e
def fzW (w : W) : W := ⟨.fz, w.tn, w.t⟩
def fzO : Option W → Option W
  | some w => some (fzW w)
  | none => none
def frz (j : Nat) (π : PEnv) : PEnv := match π[j]? with
  | some o => π.set j (fzO o)
  | none => π
end Mn
end
section
set_option Elab.async false
set_option autoImplicit false
set_option maxRecDepth 100000
set_option linter.all false
namespace Mn
def RelS (B : Nat) (Pa O : Nat → Prop) (M : Store) (r : RS) (p : PRS) : Prop := match p with
  | .nx π' => ∃ ρ' M' O', r = .nx ρ' M' ∧ Ext O M O' M' ∧ PSt B Pa O' ρ' M' π'
  | .ct π' => ∃ ρ' M' O', r = .ct ρ' M' ∧ Ext O M O' M' ∧ PSt B Pa O' ρ' M' π'
  | .bk π' => ∃ ρ' M' O', r = .bk ρ' M' ∧ Ext O M O' M' ∧ PSt B Pa O' ρ' M' π'
  | .exc c π' => ∃ ρ' M' O', r = .exc c ρ' M' ∧ Ext O M O' M' ∧ PSt B Pa O' ρ' M' π'
  | .ret w => ∃ v M' O', r = .ret v M' ∧ Ext O M O' M' ∧ RF B Pa M' v w
  | .bad => True
structure SimS (s : St) (p : PS) : Prop where
  go : ∀ (B : Nat) (Pa O : Nat → Prop) (ρ : Env) (M : Store) (π : PEnv), PSt B Pa O ρ M π → RelS B Pa O M (s ρ M) (p π)
instance {s : St} {p : PS} : CoeFun (SimS s p) fun _ => ∀ (B : Nat) (Pa O : Nat → Prop) (ρ : Env) (M : Store) (π : PEnv), PSt B Pa O ρ M π → RelS B Pa O M (s ρ M) (p π) := ⟨SimS.go⟩
theorem RelS.pre {B : Nat} {Pa O O1 : Nat → Prop} {M M1 : Store} {r : RS} {p : PRS} (x : Ext O M O1 M1) (h : RelS B Pa O1 M1 r p) : RelS B Pa O M r p := by
  cases p with
  | bad => exact trivial
  | ret w =>
    obtain ⟨v, M', O', a, b, c⟩ := h
    exact ⟨v, M', O', a, x.trans b, c⟩
  | _ =>
    obtain ⟨v, M', O', a, b, c⟩ := h
    exact ⟨v, M', O', a, x.trans b, c⟩
def kqSeq2 (t : PS) : PRS → PRS
  | .nx π => t π
  | r => r
def pSeq (a b : PS) : PS := fun π => kqSeq2 b (a π)
theorem ss_seq {a b : St} {p q : PS} (ha : SimS a p) (hb : SimS b q) : SimS (sSeq a b) (pSeq p q) := by
  refine ⟨?_⟩
  intro B Pa O ρ M π h
  have h1 := ha B Pa O ρ M π h
  unfold pSeq sSeq
  cases e : p π with
  | nx π1 =>
    rw [e] at h1
    obtain ⟨ρ1, M1, O1, e1, x1, s1⟩ := h1
    rw [e1]
    exact RelS.pre x1 (hb B Pa O1 ρ1 M1 π1 s1)
  | bad => exact trivial
  | _ =>
    rw [e] at h1
    obtain ⟨ρ1, M1, O1, e1, x1, s1⟩ := h1
    rw [e1]
    exact ⟨ρ1, M1, O1, rfl, x1, s1⟩
def pPass : PS := fun π => .nx π
def pCt : PS := fun π => .ct π
def pBk : PS := fun π => .bk π
def pRaise (c : String) : PS := fun π => .exc c π
theorem ss_pass : SimS sPass pPass := ⟨fun B Pa O ρ M π h => ⟨ρ, M, O, rfl, Ext.refl O M, h⟩⟩
theorem ss_raise (c : String) : SimS (sRaise c) (pRaise c) := ⟨fun B Pa O ρ M π h => ⟨ρ, M, O, rfl, Ext.refl O M, h⟩⟩
def pKl (ks : List Nat) (s : PS) : PS := fun π => s (killP π ks)
theorem ss_kl (ks : List Nat) {s : St} {p : PS} (h : SimS s p) : SimS s (pKl ks p) := ⟨fun B Pa O ρ M π st => h B Pa O ρ M _ (st.kills ks)⟩
def pFz (j : Nat) (s : PS) : PS := fun π => s (frz j π)
def kqAsg (i : Nat) (π : PEnv) : PR W → PRS
  | .ok w => if isB w.fl = true then .bad else .nx (π.set i (some w))
  | .exc c => .exc c π
  | .bad => .bad
def pAsg (i : Nat) (e : PE) : PS := fun π => kqAsg i π (e π)
theorem ss_asg (i : Nat) {e : E} {p : PE} (he : SimE e p) : SimS (sAsg (tName i) e) (pAsg i p) := by
  refine ⟨?_⟩
  intro B Pa O ρ M π h
  have h1 := he B Pa O ρ M π h
  unfold pAsg sAsg
  cases e1 : p π with
  | bad => exact trivial
  | exc c =>
    rw [e1] at h1
    obtain ⟨M', e2, g1⟩ := h1
    rw [e2]
    exact ⟨ρ, M', O, rfl, Ext.gr g1, h.gr g1⟩
  | ok w =>
    rw [e1] at h1
    obtain ⟨v, M1, e2, g1, r1⟩ := h1
    rw [e2]
    unfold kqAsg
    simp only []
    cases hf : w.fl with
    | fr =>
      obtain ⟨O', x, s'⟩ := h.putO g1 i (by rw [hf]; rfl) r1
      exact ⟨_, M1, O', rfl, x, s'⟩
    | dr =>
      obtain ⟨O', x, s'⟩ := h.putO g1 i (by rw [hf]; rfl) r1
      exact ⟨_, M1, O', rfl, x, s'⟩
    | fz => exact ⟨_, M1, O, rfl, Ext.gr g1, (h.gr g1).put i hf (r1.fz hf)⟩
    | bo => exact trivial
    | bd => exact trivial
def kqAsgF (i : Nat) (π : PEnv) : PR W → PRS
  | .ok w => if isB w.fl = true then .bad else .nx (π.set i (some (fzW w)))
  | .exc c => .exc c π
  | .bad => .bad
def pAsgF (i : Nat) (e : PE) : PS := fun π => kqAsgF i π (e π)
theorem ss_asgF (i : Nat) {e : E} {p : PE} (he : SimE e p) : SimS (sAsg (tName i) e) (pAsgF i p) := by
  refine ⟨?_⟩
  intro B Pa O ρ M π h
  have h1 := he B Pa O ρ M π h
  unfold pAsgF sAsg
  cases e1 : p π with
  | bad => exact trivial
  | exc c =>
    rw [e1] at h1
    obtain ⟨M', e2, g1⟩ := h1
    rw [e2]
    exact ⟨ρ, M', O, rfl, Ext.gr g1, h.gr g1⟩
  | ok w =>
    rw [e1] at h1
    obtain ⟨v, M1, e2, g1, r1⟩ := h1
    rw [e2]
    unfold kqAsgF
    simp only []
    by_cases hb : isB w.fl = true
    · rw [if_pos hb]
      exact trivial
    · rw [if_neg hb]
      have f := r1.free (fun n o => (h.bnd n o).2) h.low (by simpa using hb)
      exact ⟨_, M1, O, rfl, Ext.gr g1, (h.gr g1).put i rfl f⟩
def kqAsgT (t : PT) (π : PEnv) : PR W → PRS
  | .ok w => match t w π with
    | .nx π' => .nx π'
    | _ => .bad
  | .exc c => .exc c π
  | .bad => .bad
def pAsgT (t : PT) (e : PE) : PS := fun π => kqAsgT t π (e π)
theorem ss_asgT {t : Tg} {t' : PT} {e : E} {p : PE} (ht : SimT t t') (he : SimE e p) : SimS (sAsg t e) (pAsgT t' p) := by
  refine ⟨?_⟩
  intro B Pa O ρ M π h
  have h1 := he B Pa O ρ M π h
  unfold pAsgT sAsg
  cases e1 : p π with
  | bad => exact trivial
  | exc c =>
    rw [e1] at h1
    obtain ⟨M', e2, g1⟩ := h1
    rw [e2]
    exact ⟨ρ, M', O, rfl, Ext.gr g1, h.gr g1⟩
  | ok w =>
    rw [e1] at h1
    obtain ⟨v, M1, e2, g1, r1⟩ := h1
    rw [e2]
    unfold kqAsgT
    simp only []
    have h2 := ht B M.length Pa O ρ M1 π v w (h.gr g1) r1
    cases e3 : t' w π with
    | nx π' =>
      rw [e3] at h2
      obtain ⟨ρ', e4, s'⟩ := h2
      simp only [R.st_ok, e4, RS.tg]
      exact ⟨ρ', M1, O, rfl, Ext.gr g1, s'⟩
    | _ => exact trivial
def ownOf (j : Nat) (π : PEnv) : Option (List V × Bool) := match π[j]? with
  | some (some ⟨.fr, tn, .lst ts⟩) => some (ts, tn)
  | _ => none
def newOwn (j : Nat) (π : PEnv) (tn : Bool) (ts : List V) : PRS := .nx (π.set j (some ⟨.fr, tn, .lst ts⟩))
def kqApp (j : Nat) (π : PEnv) : PR W → PRS
  | .ok w => match ownOf j π with
    | some (ts, tn) => if isB w.fl = false ∧ ts.length < szLine then newOwn j π (tn || w.tn) (ts ++ [w.t]) else .bad
    | none => .bad
  | _ => .bad
def pApp (j : Nat) (e : PE) : PS := fun π => kqApp j π (e π)
def kqExt (j : Nat) (π : PEnv) : PR W → PRS
  | .ok w => match ownOf j π, w.t with
    | some (ts, tn), .lst us => if isD w.fl = false ∧ ts.length + us.length ≤ szLine then newOwn j π (tn || (w.tn && V.hasLs us)) (ts ++ us) else .bad
    | _, _ => .bad
  | _ => .bad
def pExt (j : Nat) (e : PE) : PS := fun π => kqExt j π (e π)
def insOf (j : Nat) (π : PEnv) (i w : W) : PRS := match ownOf j π, i.t with
  | some (ts, tn), .int k => if isB w.fl = false ∧ ts.length < szLine ∧ 0 ≤ k ∧ k < 2 ^ 63 then newOwn j π (tn || w.tn) (ts.take k.toNat ++ [w.t] ++ ts.drop k.toNat) else .bad
  | _, _ => .bad
def kqIns2 (j : Nat) (i : W) (π : PEnv) : PR W → PRS
  | .ok w => insOf j π i w
  | _ => .bad
def kqIns1 (j : Nat) (e : PE) (π : PEnv) : PR W → PRS
  | .ok i => kqIns2 j i π (e π)
  | _ => .bad
def pIns (j : Nat) (i e : PE) : PS := fun π => kqIns1 j e π (i π)
def subOf (j : Nat) (π : PEnv) (w i : W) : PRS := match ownOf j π, i.t with
  | some (ts, tn), .int k => match atIx ts.length k with
    | some m => if isB w.fl = false then newOwn j π (tn || w.tn) (ts.set m w.t) else .bad
    | none => .bad
  | _, _ => .bad
def kqSub2 (j : Nat) (w : W) (π : PEnv) : PR W → PRS
  | .ok i => subOf j π w i
  | _ => .bad
def kqSub1 (j : Nat) (i : PE) (π : PEnv) : PR W → PRS
  | .ok w => kqSub2 j w π (i π)
  | .exc c => .exc c π
  | .bad => .bad
def pSubA (j : Nat) (i e : PE) : PS := fun π => kqSub1 j i π (e π)
def parOf (i j : Nat) (π : PEnv) : List W → PRS
  | [v, w] => match v.fl, w.fl with
    | .fz, .fz => .nx ((π.set i (some v)).set j (some w))
    | _, _ => .bad
  | _ => .bad
def kqPar (i j : Nat) (π : PEnv) : PR (List W) → PRS
  | .ok ws => parOf i j π ws
  | .exc c => .exc c π
  | .bad => .bad
def pPar (i j : Nat) (a b : PE) : PS := fun π => kqPar i j π (pvL [a, b] π)
theorem ss_par (i j : Nat) {a b : E} {p q : PE} (ha : SimE a p) (hb : SimE b q) : SimS (sPar i j a b) (pPar i j p q) := by
  refine ⟨?_⟩
  intro B Pa O ρ M π h
  have h1 := sx_list (.cons ha (.cons hb .nil)) B Pa O ρ M π h
  unfold pPar sPar
  cases e1 : pvL [p, q] π with
  | bad => exact trivial
  | exc c =>
    rw [e1] at h1
    obtain ⟨M', e2, g1⟩ := h1
    rw [e2]
    exact ⟨ρ, M', O, rfl, Ext.gr g1, h.gr g1⟩
  | ok ws =>
    rw [e1] at h1
    obtain ⟨vs, M1, e2, g1, r1⟩ := h1
    rw [e2]
    unfold kqPar
    simp only [R.st_ok]
    cases r1 with
    | nil => exact trivial
    | cons x1 r1 =>
      cases r1 with
      | nil => exact trivial
      | cons x2 r1 =>
        cases r1 with
        | cons _ _ => exact trivial
        | nil =>
          rename_i v w v' w'
          show RelS B Pa O M (.nx ((ρ.set i (some v)).set j (some v')) M1) (match w.fl, w'.fl with
            | .fz, .fz => .nx ((π.set i (some w)).set j (some w'))
            | _, _ => .bad)
          cases f1 : w.fl with
          | fz =>
            cases f2 : w'.fl with
            | fz => exact ⟨_, M1, O, rfl, Ext.gr g1, ((h.gr g1).put i f1 (x1.fz f1)).put j f2 (x2.fz f2)⟩
            | _ => exact trivial
          | _ => exact trivial
def kqDrop (π : PEnv) : PR W → PRS
  | .ok _ => .nx π
  | .exc c => .exc c π
  | .bad => .bad
def pDrop (e : PE) : PS := fun π => kqDrop π (e π)
def retW (w : W) : W := match w with
  | ⟨.bo, tn, t⟩ => ⟨.fr, tn, t⟩
  | ⟨.bd, tn, t⟩ => ⟨.fz, tn, t⟩
  | w => w
def kqRet (π : PEnv) : PR W → PRS
  | .ok w => .ret (retW w)
  | .exc c => .exc c π
  | .bad => .bad
def pRet (e : PE) : PS := fun π => kqRet π (e π)
theorem ss_ret {e : E} {p : PE} (he : SimE e p) : SimS (sRet e) (pRet p) := by
  refine ⟨?_⟩
  intro B Pa O ρ M π h
  have h1 := he B Pa O ρ M π h
  unfold pRet sRet
  cases e1 : p π with
  | bad => exact trivial
  | exc c =>
    rw [e1] at h1
    obtain ⟨M', e2, g1⟩ := h1
    rw [e2]
    exact ⟨ρ, M', O, rfl, Ext.gr g1, h.gr g1⟩
  | ok w =>
    rw [e1] at h1
    obtain ⟨v, M1, e2, g1, r1⟩ := h1
    rw [e2]
    refine ⟨v, M1, O, rfl, Ext.gr g1, ?_⟩
    obtain ⟨fl, tn, t⟩ := w
    cases fl with
    | fr =>
      obtain ⟨n, xs, ts, rfl, a, b, c, d⟩ := r1
      exact ⟨n, xs, ts, rfl, Nat.le_trans h.low a, b, c, d.map fun m c p e => ⟨e, p.1, p.2.2⟩⟩
    | dr =>
      obtain ⟨cs, a, b, c⟩ := r1
      exact ⟨cs, a, b, fun n hn => Nat.le_trans h.low (c n hn).1⟩
    | fz => exact Rq.map (fun m c p e => ⟨e, p.2⟩) r1
    | bo =>
      obtain ⟨n, xs, ts, rfl, a, b, c, d⟩ := r1
      exact ⟨n, xs, ts, rfl, (h.bnd n a).1, b, c, d.map fun m c p e => ⟨e, fun z => p.1 (by rw [z]; exact a), p.2⟩⟩
    | bd => exact r1
def kqIf (a b : PS) (π : PEnv) : PR W → PRS
  | .ok w => match w.t with
    | .bl true => a π
    | .bl false => b π
    | _ => .bad
  | .exc c => .exc c π
  | .bad => .bad
def pIf (c : PE) (a b : PS) : PS := fun π => kqIf a b π (c π)
theorem ss_if {c : E} {a b : St} {p : PE} {q r : PS} (hc : SimE c p) (ha : SimS a q) (hb : SimS b r) : SimS (sIf c a b) (pIf p q r) := by
  refine ⟨?_⟩
  intro B Pa O ρ M π h
  have h1 := hc B Pa O ρ M π h
  unfold pIf sIf
  cases e1 : p π with
  | bad => exact trivial
  | exc c =>
    rw [e1] at h1
    obtain ⟨M', e2, g1⟩ := h1
    rw [e2]
    exact ⟨ρ, M', O, rfl, Ext.gr g1, h.gr g1⟩
  | ok w =>
    rw [e1] at h1
    obtain ⟨v, M1, e2, g1, r1⟩ := h1
    rw [e2]
    unfold kqIf
    simp only [R.st_ok]
    cases e3 : w.t with
    | bl t =>
      rw [r1.bl e3]
      cases t with
      | true => exact RelS.pre (Ext.gr g1) (ha B Pa O ρ M1 π (h.gr g1))
      | false => exact RelS.pre (Ext.gr g1) (hb B Pa O ρ M1 π (h.gr g1))
    | _ => exact trivial
def kqWb (ks : List Nat) (k : PS) : PRS → PRS
  | .nx π => k (killP π ks)
  | .ct π => k (killP π ks)
  | .bk π => .nx (killP π ks)
  | r => r
def kqWh (b k : PS) (ks : List Nat) (π : PEnv) : PR W → PRS
  | .ok w => match w.t with
    | .bl false => .nx π
    | .bl true => kqWb ks k (b π)
    | _ => .bad
  | .exc c => .exc c π
  | .bad => .bad
def pWhileN (ks : List Nat) (c : PE) (b : PS) : Nat → PS
  | 0, _ => .bad
  | n + 1, π => kqWh b (pWhileN ks c b n) ks π (c π)
def pWhile (ks : List Nat) (c : PE) (b : PS) : PS := fun π => pWhileN ks c b whileLine (killP π ks)
theorem sWhileN_succ (c : E) (b : St) (n : Nat) (ρ : Env) (M : Store) : sWhileN c b (n + 1) ρ M = (c ρ M).st ρ fun v M1 => match v with
    | .bl false => .nx ρ M1
    | .bl true => match b ρ M1 with
      | .nx ρ' M' => sWhileN c b n ρ' M'
      | .ct ρ' M' => sWhileN c b n ρ' M'
      | .bk ρ' M' => .nx ρ' M'
      | r => r
    | _ => .bad := rfl
theorem ss_whileN (ks : List Nat) {c : E} {b : St} {p : PE} {q : PS} (hc : SimE c p) (hb : SimS b q) : ∀ n, SimS (sWhileN c b n) (pWhileN ks p q n)
  | 0 => ⟨fun B Pa O ρ M π h => trivial⟩
  | n + 1 => by
    refine ⟨?_⟩
    intro B Pa O ρ M π h
    have h1 := hc B Pa O ρ M π h
    unfold pWhileN
    rw [sWhileN_succ]
    cases e1 : p π with
    | bad => exact trivial
    | exc c =>
      rw [e1] at h1
      obtain ⟨M', e2, g1⟩ := h1
      rw [e2]
      exact ⟨ρ, M', O, rfl, Ext.gr g1, h.gr g1⟩
    | ok w =>
      rw [e1] at h1
      obtain ⟨v, M1, e2, g1, r1⟩ := h1
      rw [e2]
      unfold kqWh
      simp only [R.st_ok]
      cases e3 : w.t with
      | bl t =>
        rw [r1.bl e3]
        cases t with
        | false => exact ⟨ρ, M1, O, rfl, Ext.gr g1, h.gr g1⟩
        | true =>
          simp only []
          have h2 := hb B Pa O ρ M1 π (h.gr g1)
          cases e4 : q π with
          | bad => exact trivial
          | nx π1 =>
            rw [e4] at h2
            obtain ⟨ρ1, M2, O1, e5, x1, s1⟩ := h2
            rw [e5]
            exact RelS.pre ((Ext.gr g1).trans x1) (ss_whileN ks hc hb n B Pa O1 ρ1 M2 _ (s1.kills ks))
          | ct π1 =>
            rw [e4] at h2
            obtain ⟨ρ1, M2, O1, e5, x1, s1⟩ := h2
            rw [e5]
            exact RelS.pre ((Ext.gr g1).trans x1) (ss_whileN ks hc hb n B Pa O1 ρ1 M2 _ (s1.kills ks))
          | bk π1 =>
            rw [e4] at h2
            obtain ⟨ρ1, M2, O1, e5, x1, s1⟩ := h2
            rw [e5]
            exact ⟨ρ1, M2, O1, rfl, (Ext.gr g1).trans x1, s1.kills ks⟩
          | ret w =>
            rw [e4] at h2
            obtain ⟨v, M2, O1, e5, x1, s1⟩ := h2
            rw [e5]
            exact ⟨v, M2, O1, rfl, (Ext.gr g1).trans x1, s1⟩
          | exc c π1 =>
            rw [e4] at h2
            obtain ⟨ρ1, M2, O1, e5, x1, s1⟩ := h2
            rw [e5]
            exact ⟨ρ1, M2, O1, rfl, (Ext.gr g1).trans x1, s1⟩
      | _ => exact trivial
theorem ss_while (ks : List Nat) {c : E} {b : St} {p : PE} {q : PS} (hc : SimE c p) (hb : SimS b q) : SimS (sWhile c b) (pWhile ks p q) := ss_kl ks (ss_whileN ks hc hb whileLine)
def kqFb (ks : List Nat) (k : PS) : PRS → PRS
  | .nx π => k (killP π ks)
  | .ct π => k (killP π ks)
  | .bk π => .nx (killP π ks)
  | r => r
def kqFt (ks : List Nat) (b k : PS) : PRS → PRS
  | .nx π => kqFb ks k (b π)
  | _ => .bad
def pForN (ks : List Nat) (t : PT) (b : PS) : List W → PS
  | [], π => .nx π
  | w :: ws, π => kqFt ks b (pForN ks t b ws) (t w π)
def kqFor (ks : List Nat) (t : PT) (b : PS) (π : PEnv) : PR Ws → PRS
  | .ok s => match s.st with
    | true => pForN ks t b s.ws (killP π ks)
    | false => .bad
  | .exc c => .exc c π
  | .bad => .bad
def pFor (ks : List Nat) (s : PSrc) (t : PT) (b : PS) : PS := fun π => kqFor ks t b π (s π)
theorem sForN_succ (it : Itr) (t : Tg) (b : St) (k i : Nat) (ρ : Env) (M : Store) : sForN it t b (k + 1) i ρ M = match it.nxt i M with
    | none => .bad
    | some v => match t v ρ M with
      | .nx ρ1 M1 => match b ρ1 M1 with
        | .nx ρ' M' => sForN it t b k (i + 1) ρ' M'
        | .ct ρ' M' => sForN it t b k (i + 1) ρ' M'
        | .bk ρ' M' => .nx ρ' M'
        | r => r
      | _ => .bad := rfl
theorem ss_forN {ks : List Nat} {t : Tg} {t' : PT} {b : St} {q : PS} (ht : SimT t t') (hb : SimS b q) {B : Nat} {Pa O0 : Nat → Prop} {M0 : Store} {it : Itr} {s : Ws} (hst : s.st = true) (wk : Wk B Pa O0 M0 it s) :
    ∀ (ws : List W) (i : Nat) (O : Nat → Prop) (ρ : Env) (M : Store) (π : PEnv), ws = s.ws.drop i → Ext O0 M0 O M → PSt B Pa O ρ M π → RelS B Pa O M (sForN it t b ws.length i ρ M) (pForN ks t' q ws π)
  | [], i, O, ρ, M, π, ew, x, st => by
    have f := (wk.go O M (by rw [if_pos hst]; exact x)).2
    show RelS B Pa O M (sForN it t b 0 i ρ M) (.nx π)
    rw [sForN_end f]
    exact ⟨ρ, M, O, rfl, Ext.refl O M, st⟩
  | w :: ws, i, O, ρ, M, π, ew, x, st => by
    have hw : s.ws[i]? = some w := by
      have : (s.ws.drop i)[0]? = some w := by rw [← ew]; rfl
      rw [List.getElem?_drop] at this
      exact this
    have hd : ws = s.ws.drop (i + 1) := by
      have : (w :: ws).drop 1 = (s.ws.drop i).drop 1 := by rw [ew]
      rw [List.drop_drop] at this
      exact this
    obtain ⟨v, e1, rv⟩ := (wk.go O M (by rw [if_pos hst]; exact x)).1 i w hw
    have h1 := ht B B Pa O ρ M π v w st rv
    show RelS B Pa O M (sForN it t b (ws.length + 1) i ρ M) (kqFt ks q (pForN ks t' q ws) (t' w π))
    rw [sForN_succ, e1]
    simp only []
    cases e2 : t' w π with
    | nx π1 =>
      rw [e2] at h1
      obtain ⟨ρ1, e3, s1⟩ := h1
      rw [e3]
      unfold kqFt
      simp only []
      have h2 := hb B Pa O ρ1 M π1 s1
      cases e4 : q π1 with
      | bad => exact trivial
      | nx π2 =>
        rw [e4] at h2
        obtain ⟨ρ2, M2, O2, e5, x2, s2⟩ := h2
        rw [e5]
        exact RelS.pre x2 (ss_forN ht hb hst wk ws (i + 1) O2 ρ2 M2 _ hd (x.trans x2) (s2.kills ks))
      | ct π2 =>
        rw [e4] at h2
        obtain ⟨ρ2, M2, O2, e5, x2, s2⟩ := h2
        rw [e5]
        exact RelS.pre x2 (ss_forN ht hb hst wk ws (i + 1) O2 ρ2 M2 _ hd (x.trans x2) (s2.kills ks))
      | bk π2 =>
        rw [e4] at h2
        obtain ⟨ρ2, M2, O2, e5, x2, s2⟩ := h2
        rw [e5]
        exact ⟨ρ2, M2, O2, rfl, x2, s2.kills ks⟩
      | ret w =>
        rw [e4] at h2
        obtain ⟨v, M2, O2, e5, x2, s2⟩ := h2
        rw [e5]
        exact ⟨v, M2, O2, rfl, x2, s2⟩
      | exc c π2 =>
        rw [e4] at h2
        obtain ⟨ρ2, M2, O2, e5, x2, s2⟩ := h2
        rw [e5]
        exact ⟨ρ2, M2, O2, rfl, x2, s2⟩
    | _ => exact trivial
theorem ss_for (ks : List Nat) {s : Src} {s' : PSrc} {t : Tg} {t' : PT} {b : St} {q : PS} (hs : SimI s s') (ht : SimT t t') (hb : SimS b q) : SimS (sFor s t b) (pFor ks s' t' q) := by
  refine ⟨?_⟩
  intro B Pa O ρ M π h
  have h1 := hs B Pa O ρ M π h
  unfold pFor sFor
  cases e1 : s' π with
  | bad => exact trivial
  | exc c =>
    rw [e1] at h1
    obtain ⟨M', e2, g1⟩ := h1
    rw [e2]
    exact ⟨ρ, M', O, rfl, Ext.gr g1, h.gr g1⟩
  | ok z =>
    rw [e1] at h1
    obtain ⟨it, M1, e2, g1, wk⟩ := h1
    rw [e2]
    unfold kqFor
    simp only [R.st_ok]
    cases hst : z.st with
    | false => exact trivial
    | true =>
      rw [wk.cnt]
      exact RelS.pre (Ext.gr g1) (ss_forN ht hb hst wk z.ws 0 O ρ M1 _ rfl (Ext.refl O M1) ((h.gr g1).kills ks))
structure PHd where
  tup : Bool
  cs : List String
  slot : Option Nat
  st : PS
def pSetO (o : Option Nat) (c : String) (π : PEnv) : PEnv := match o with
  | some i => π.set i (some (.at (.exc c)))
  | none => π
def pUnO (o : Option Nat) (π : PEnv) : PEnv := match o with
  | some i => π.set i none
  | none => π
def kqHd (o : Option Nat) : PRS → PRS
  | .nx π => .nx (pUnO o π)
  | .bk π => .bk (pUnO o π)
  | .ct π => .ct (pUnO o π)
  | .ret w => .ret w
  | .exc _ _ => .bad
  | .bad => .bad
def pHandle : List PHd → String → PS
  | [], c, π => .exc c π
  | h :: r, c, π => if h.cs.any (isX c) = true then (if h.tup = true then .bad else kqHd h.slot (h.st (pSetO h.slot c π))) else pHandle r c π
inductive SimHs : List Hd → List PHd → Prop
  | nil : SimHs [] []
  | cons {t : Bool} {cs : List String} {o : Option Nat} {s : St} {p : PS} {hs : List Hd} {ps : List PHd} : SimS s p → SimHs hs ps → SimHs (⟨t, cs, o, s⟩ :: hs) (⟨t, cs, o, p⟩ :: ps)
def kqTry (hs : List PHd) (els : PS) : PRS → PRS
  | .exc c π => pHandle hs c π
  | .nx π => els π
  | r => r
def pTry (b : PS) (hs : List PHd) (els : PS) : PS := fun π => kqTry hs els (b π)
def kqFn : PRS → PR W
  | .nx _ => .ok (.at .non)
  | .ret w => .ok w
  | .exc c _ => .exc c
  | _ => .bad
def pFn (np nn : Nat) (b : PS) : PF := fun ts => if ts.length = np then kqFn (b (ts.map (fun t => some (nW .fz true t)) ++ List.replicate (nn - np) none)) else .bad
theorem sf_fn (np nn : Nat) {b : St} {p : PS} (hb : SimS b p) : SimF (mkFn np nn b) (pFn np nn p) := by
  refine ⟨?_⟩
  intro Pa M vs ts r
  unfold pFn mkFn
  rw [Rql.length r]
  by_cases hl : ts.length = np
  · rw [if_pos hl, if_pos hl]
    have lv := Rql.length r
    have k : ∀ (i : Nat) (w : W), (ts.map (fun t => some (nW .fz true t)) ++ List.replicate (nn - np) none)[i]? = some (some w) → ∃ t v, ts[i]? = some t ∧ w = nW .fz true t ∧ vs[i]? = some v ∧ Rq Pa M v t := fun i w e => by
      by_cases hi : i < ts.length
      · rw [List.getElem?_append_left (by rw [List.length_map]; exact hi), List.getElem?_map] at e
        obtain ⟨t, ht, e⟩ := Option.map_eq_some_iff.mp e
        cases e
        obtain ⟨v, hv, rv⟩ := Rql.get r ht
        exact ⟨t, v, ht, rfl, hv, rv⟩
      · rw [List.getElem?_append_right (by rw [List.length_map]; omega), List.getElem?_replicate] at e
        split at e <;> cases e
    have nf : ∀ t, (nW .fz true t).fl = .fz := fun t => by
      unfold nW
      split <;> rfl
    have st : PSt M.length Pa (fun _ => False) (vs.map some ++ List.replicate (nn - np) none) M (ts.map (fun t => some (nW .fz true t)) ++ List.replicate (nn - np) none) := by
      refine ⟨by simp [lv], Nat.le_refl _, fun n o => o.elim, fun i w e f => ?_, fun a b w w' v v' cs cs' n e1 e2 r1 r2 o1 o2 m1 m2 => ?_, fun i w e => ?_, fun i w e => ?_⟩
      · obtain ⟨t, v, _, rfl, _⟩ := k i w e
        rw [nf] at f
        cases f
      · obtain ⟨t, v, _, rfl, _⟩ := k a w e1
        rw [nf] at o1
        exact o1.elim
      · obtain ⟨t, v, h1, rfl, h2, h3⟩ := k i w e
        have rw1 : RW M.length Pa (fun _ => False) M.length M v (nW .fz true t) := RW.nW (Rq.map (fun m c p e => ⟨e, fun z => z, .inr ⟨rfl, p⟩⟩) h3)
        refine ⟨v, ?_, by unfold RV; rw [nf]; exact rw1⟩
        rw [List.getElem?_append_left (by rw [List.length_map]; exact (List.getElem?_eq_some_iff.mp h2).1), List.getElem?_map, h2]
        rfl
      · obtain ⟨t, v, _, rfl, _⟩ := k i w e
        rw [nf]
        rfl
    have h1 := hb M.length Pa (fun _ => False) _ M _ st
    have gr : ∀ {O' : Nat → Prop} {M' : Store}, Ext (fun _ => False) M O' M' → Gr M M' := fun x => Gr.of_prefix x.1 fun m hm => (x.2 m hm fun z => z).1
    cases e : p (ts.map (fun t => some (nW .fz true t)) ++ List.replicate (nn - np) none) with
    | nx π1 =>
      rw [e] at h1
      obtain ⟨ρ1, M1, O1, e1, x1, s1⟩ := h1
      rw [e1]
      exact ⟨.non, M1, rfl, gr x1, Rq.non⟩
    | ret w =>
      rw [e] at h1
      obtain ⟨v, M1, O1, e1, x1, s1⟩ := h1
      rw [e1]
      exact ⟨v, M1, rfl, gr x1, s1⟩
    | exc c π1 =>
      rw [e] at h1
      obtain ⟨ρ1, M1, O1, e1, x1, s1⟩ := h1
      rw [e1]
      exact ⟨M1, rfl, gr x1⟩
    | _ => exact trivial
  · rw [if_neg hl]
    exact trivial
theorem nx_int (g : Int → Int → V) (ok : Int → Int → Bool) : NoX2 (qInt g ok) := fun w w' c h => by
  unfold qInt at h
  repeat' split at h
  all_goals cases h
theorem nx_add : NoX2 qAdd := fun w w' c h => by
  unfold qAdd at h
  repeat' split at h
  all_goals cases h
theorem nx_mul : NoX2 qMul := fun w w' c h => by
  unfold qMul at h
  repeat' split at h
  all_goals cases h
theorem nx_eqG (n : Bool) : NoX2 (qEqG n) := fun w w' c h => by
  unfold qEqG at h
  split at h
  · cases h
  · split at h <;> cases h
theorem nx_ix : NoX2 qIx := fun w w' c h => by
  unfold qIx at h
  repeat' split at h
  all_goals cases h
theorem nu_neg : NoX1 qNeg := fun w c h => by
  unfold qNeg at h
  split at h <;> cases h
theorem nu_abs : NoX1 qAbs := fun w c h => by
  unfold qAbs at h
  split at h <;> cases h
theorem nu_len : NoX1 qLen := fun w c h => by
  unfold qLen at h
  repeat' split at h
  all_goals cases h
theorem nu_list : NoX1 qList := fun w c h => by
  unfold qList at h
  split at h <;> cases h
theorem nu_allG (g : List Bool → Bool) : NoX1 (qAllG g) := fun w c h => by
  unfold qAllG at h
  repeat' split at h
  all_goals cases h
theorem nu_is (ts : List String) : NoX1 (qIs ts) := fun w c h => by
  unfold qIs at h
  repeat' split at h
  all_goals cases h
theorem SimF.law {F : Fn} {G : PF} (h : SimF F G) {ns : List Int} (e : G [.ro (ns.map .int)] = .ok (.at (.bl true))) : ∃ M, F [.ref 0] [.ro (ns.map .int)] = .ok (.bl true) M := by
  have r : ∀ ns : List Int, Rql (fun _ => True) [.ro (ns.map .int)] (ns.map .int) (ns.map .int) := fun ns => by
    generalize [Cell.ro (ns.map .int)] = M
    induction ns with
    | nil => exact .nil
    | cons n ns ih => exact .cons (.int n) ih
  have q := h.go (fun _ => True) [.ro (ns.map .int)] [.ref 0] [.ro (ns.map .int)] (.cons (.ro rfl trivial (r ns)) .nil)
  rw [e] at q
  obtain ⟨v, M', e1, _, f⟩ := q
  have f2 : Rq (Lv 1 (fun _ => True) false) M' v (.bl true) := f
  cases f2
  exact ⟨M', e1⟩
theorem SimF.run {F : Fn} {G : PF} (h : SimF F G) (Pa : Nat → Prop) (M : Store) (vs : List Val) (ts : List V) (r : Rql Pa M vs ts) {w : W} (e : G ts = .ok w) : ∃ v M', F vs M = .ok v M' ∧ Gr M M' ∧ RF M.length Pa M' v w := by
  have q := h.go Pa M vs ts r
  rw [e] at q
  exact q
end Mn
end
section
set_option Elab.async false
set_option autoImplicit false
set_option maxRecDepth 100000
set_option linter.all false
namespace Mn
section
variable (π : PEnv) (a b c e : PE) (f g : PO) (u : PU) (x y z w : W) (es : List PE) (k : String) (s t : PS)
theorem vW_at (t : V) : vW (.at t) = .at t := id rfl
theorem vW_fz (tn : Bool) (t : V) : vW ⟨.fz, tn, t⟩ = ⟨.fz, tn, t⟩ := id rfl
theorem vW_dr (tn : Bool) (t : V) : vW ⟨.dr, tn, t⟩ = ⟨.bd, tn, t⟩ := id rfl
theorem isB_dr : isB .dr = false := id rfl
theorem isD_dr : isD .dr = false := id rfl
theorem vW_fr (tn : Bool) (t : V) : vW ⟨.fr, tn, t⟩ = ⟨.bo, tn, t⟩ := id rfl
theorem pVar_k {i : Nat} : pVar i π = match π[i]? with
  | some (some w) => .ok (vW w)
  | _ => .bad := rfl
theorem pC_int (i : Int) : pC (.int i) π = .ok (.at (.int i)) := id rfl
theorem pC_bl (i : Bool) : pC (.bl i) π = .ok (.at (.bl i)) := id rfl
theorem pC_str (i : List Nat) : pC (.str i) π = .ok (.at (.str i)) := id rfl
theorem pC_non : pC .non π = .ok (.at .non) := id rfl
theorem pC_t2 (i j : Int) : pC (.tup [.int i, .int j]) π = .ok (.at (.tup [.int i, .int j])) := id rfl
theorem pBin_k : pBin g a b π = kq1 g b π (a π) := id rfl
theorem kq1_ok : kq1 g b π (.ok x) = kq2 g x (b π) := id rfl
theorem kq1_exc : kq1 g b π (.exc k) = .exc k := id rfl
theorem kq2_ok : kq2 g x (.ok y) = g x y := id rfl
theorem kq2_exc : kq2 g x (.exc k) = .exc k := id rfl
theorem pUn_k : pUn u a π = kqU u (a π) := id rfl
theorem kqU_ok : kqU u (.ok x) = u x := id rfl
theorem kqU_exc : kqU u (.exc k) = .exc k := id rfl
theorem pAnd_k : pAnd a b π = kqAnd b π (a π) := id rfl
theorem kqAnd_t : kqAnd b π (.ok (.at (.bl true))) = b π := id rfl
theorem kqAnd_f : kqAnd b π (.ok (.at (.bl false))) = .ok (.at (.bl false)) := id rfl
theorem pOr_k : pOr a b π = kqOr b π (a π) := id rfl
theorem kqOr_t : kqOr b π (.ok (.at (.bl true))) = .ok (.at (.bl true)) := id rfl
theorem kqOr_f : kqOr b π (.ok (.at (.bl false))) = b π := id rfl
theorem pNot_k : pNot a π = kqNot (a π) := id rfl
theorem kqNot_ok (q : Bool) : kqNot (.ok (.at (.bl q))) = .ok (.at (.bl (!q))) := id rfl
theorem pChain_k : pChain f g a b c π = kqC0 f g b c π (a π) := id rfl
theorem kqC0_ok : kqC0 f g b c π (.ok x) = kqC1 f g x c π (b π) := id rfl
theorem kqC1_ok : kqC1 f g x c π (.ok y) = kqC2 g c y π (f x y) := id rfl
theorem kqC2_t : kqC2 g c y π (.ok (.at (.bl true))) = kqC3 g y (c π) := id rfl
theorem kqC2_f : kqC2 g c y π (.ok (.at (.bl false))) = .ok (.at (.bl false)) := id rfl
theorem kqC3_ok : kqC3 g y (.ok z) = g y z := id rfl
theorem pvL_nil : pvL [] π = .ok [] := id rfl
theorem kqL1_ok : kqL1 es π (.ok w) = kqL2 w (pvL es π) := id rfl
theorem kqL1_exc : kqL1 es π (.exc k) = .exc k := id rfl
theorem kqL2_ok (ws : List W) : kqL2 w (.ok ws) = .ok (w :: ws) := id rfl
theorem kqL2_exc : kqL2 w (.exc k) = .exc k := id rfl
theorem pTup_k : pTup es π = kqTup (pvL es π) := id rfl
theorem pLst_k : pLst es π = kqLst (pvL es π) := id rfl
theorem kqLst_ok {ws : List W} (h : ws.length ≤ szLine) : kqLst (.ok ws) = .ok (mkL (anyB ws) (anyT ws) (ws.map W.t)) := if_pos h
theorem kqTup_exc : kqTup (.exc k) = .exc k := id rfl
theorem kqLst_exc : kqLst (.exc k) = .exc k := id rfl
theorem kqTup_1 : kqTup (.ok [x]) = .ok (mkT (anyB [x]) (anyT [x]) [x.t]) := id rfl
theorem kqTup_2 : kqTup (.ok [x, y]) = .ok (mkT (anyB [x, y]) (anyT [x, y]) [x.t, y.t]) := id rfl
theorem kqTup_3 : kqTup (.ok [x, y, z]) = .ok (mkT (anyB [x, y, z]) (anyT [x, y, z]) [x.t, y.t, z.t]) := id rfl
theorem kqTup_4 : kqTup (.ok [x, y, z, w]) = .ok (mkT (anyB [x, y, z, w]) (anyT [x, y, z, w]) [x.t, y.t, z.t, w.t]) := id rfl
theorem kqLst_0 : kqLst (.ok []) = .ok (mkL false false []) := id rfl
theorem kqLst_1 : kqLst (.ok [x]) = .ok (mkL (anyB [x]) (anyT [x]) [x.t]) := id rfl
theorem kqLst_2 : kqLst (.ok [x, y]) = .ok (mkL (anyB [x, y]) (anyT [x, y]) [x.t, y.t]) := id rfl
theorem kqLst_3 : kqLst (.ok [x, y, z]) = .ok (mkL (anyB [x, y, z]) (anyT [x, y, z]) [x.t, y.t, z.t]) := id rfl
theorem kqLst_4 : kqLst (.ok [x, y, z, w]) = .ok (mkL (anyB [x, y, z, w]) (anyT [x, y, z, w]) [x.t, y.t, z.t, w.t]) := id rfl
theorem anyB_nil : anyB [] = false := id rfl
theorem anyB_cons (w : W) (ws : List W) : anyB (w :: ws) = (isB w.fl || anyB ws) := id rfl
theorem anyT_nil : anyT [] = false := id rfl
theorem anyT_cons (w : W) (ws : List W) : anyT (w :: ws) = (w.tn || anyT ws) := id rfl
theorem at_fl (t : V) : (W.at t).fl = .fz := id rfl
theorem at_tn (t : V) : (W.at t).tn = false := id rfl
theorem at_t (t : V) : (W.at t).t = t := id rfl
theorem mk_fl (fl : Fl) (tn : Bool) (t : V) : (W.mk fl tn t).fl = fl := id rfl
theorem mk_tn (fl : Fl) (tn : Bool) (t : V) : (W.mk fl tn t).tn = tn := id rfl
theorem mk_t (fl : Fl) (tn : Bool) (t : V) : (W.mk fl tn t).t = t := id rfl
theorem isB_fr : isB .fr = false := id rfl
theorem isB_fz : isB .fz = false := id rfl
theorem isB_bo : isB .bo = true := id rfl
theorem isB_bd : isB .bd = true := id rfl
theorem isD_fr : isD .fr = false := id rfl
theorem isD_fz : isD .fz = false := id rfl
theorem isD_bo : isD .bo = false := id rfl
theorem isD_bd : isD .bd = true := id rfl
theorem nW_at {fl : Fl} {tn : Bool} {t : V} (h : t.hasL = false) : nW fl tn t = .at t := by
  unfold nW
  rw [h]
  rfl
theorem nW_l {fl : Fl} {tn : Bool} {t : V} (h : t.hasL = true) : nW fl tn t = ⟨fl, tn, t⟩ := if_pos h
theorem elW_at {ds tn : Bool} {t : V} (h : t.hasL = false) : elW ds tn t = .at t := nW_at h
theorem elW_f {tn : Bool} {t : V} (h : t.hasL = true) : elW false tn t = ⟨.fz, tn, t⟩ := nW_l h
theorem elW_t {tn : Bool} {t : V} (h : t.hasL = true) : elW true tn t = ⟨.bd, tn, t⟩ := nW_l h
theorem mkL_at {ds tn : Bool} {xs : List V} (h : V.hasLs xs = false) : mkL ds tn xs = ⟨.fr, false, .lst xs⟩ := by
  unfold mkL
  rw [h, Bool.and_false, Bool.and_false]
  rfl
theorem nW_k (fl : Fl) (tn : Bool) (t : V) : nW fl tn t = bif t.hasL then ⟨fl, tn, t⟩ else .at t := by
  cases h : t.hasL
  · exact nW_at h
  · exact nW_l h
theorem elW_k (ds tn : Bool) (t : V) : elW ds tn t = bif t.hasL then ⟨bif ds then .bd else .fz, tn, t⟩ else .at t := by
  cases h : t.hasL
  · exact elW_at h
  · cases ds
    · exact elW_f h
    · exact elW_t h
theorem mkT_k (ds tn : Bool) (xs : List V) : mkT ds tn xs = bif V.hasLs xs then ⟨bif ds then .bd else .fz, tn, .tup xs⟩ else .at (.tup xs) := elW_k ds tn (.tup xs)
theorem mkL_k (ds tn : Bool) (xs : List V) : mkL ds tn xs = ⟨bif (ds && V.hasLs xs) then .bd else .fr, tn && V.hasLs xs, .lst xs⟩ := by
  unfold mkL
  cases ds <;> cases V.hasLs xs <;> rfl
theorem pCall_k (G : PF) : pCall G es π = kqCall G (pvL es π) := id rfl
theorem kqCall_ok (G : PF) (ws : List W) : kqCall G (.ok ws) = kqRes ws (G (ws.map W.t)) := id rfl
theorem kqCall_exc (G : PF) : kqCall G (.exc k) = .exc k := id rfl
theorem kqRes_ok (ws : List W) : kqRes ws (.ok w) = .ok (callW ws w) := id rfl
theorem kqRes_exc (ws : List W) : kqRes ws (.exc k) = .exc k := id rfl
theorem callW_at (ws : List W) (t : V) : callW ws (.at t) = .at t := id rfl
theorem callW_f (ws : List W) (fl : Fl) (t : V) : callW ws ⟨fl, false, t⟩ = ⟨fl, false, t⟩ := id rfl
theorem fn_1 {nn : Nat} {p : PS} {a : V} : pFn 1 nn p [a] = kqFn (p ([some (nW .fz true a)] ++ List.replicate (nn - 1) none)) := id rfl
theorem fn_2 {nn : Nat} {p : PS} {a b : V} : pFn 2 nn p [a, b] = kqFn (p ([some (nW .fz true a), some (nW .fz true b)] ++ List.replicate (nn - 2) none)) := id rfl
theorem fn_3 {nn : Nat} {p : PS} {a b c : V} : pFn 3 nn p [a, b, c] = kqFn (p ([some (nW .fz true a), some (nW .fz true b), some (nW .fz true c)] ++ List.replicate (nn - 3) none)) := id rfl
theorem fn_4 {nn : Nat} {p : PS} {a b c d : V} : pFn 4 nn p [a, b, c, d] = kqFn (p ([some (nW .fz true a), some (nW .fz true b), some (nW .fz true c), some (nW .fz true d)] ++ List.replicate (nn - 4) none)) := id rfl
theorem fn_5 {nn : Nat} {p : PS} {a b c d e : V} : pFn 5 nn p [a, b, c, d, e] = kqFn (p ([some (nW .fz true a), some (nW .fz true b), some (nW .fz true c), some (nW .fz true d), some (nW .fz true e)] ++ List.replicate (nn - 5) none)) := id rfl
theorem fn_6 {nn : Nat} {p : PS} {a b c d e f : V} : pFn 6 nn p [a, b, c, d, e, f] = kqFn (p ([some (nW .fz true a), some (nW .fz true b), some (nW .fz true c), some (nW .fz true d), some (nW .fz true e), some (nW .fz true f)] ++ List.replicate (nn - 6) none)) := id rfl
theorem kqFn_nx : kqFn (.nx π) = .ok (.at .non) := id rfl
theorem kqFn_ret : kqFn (.ret w) = .ok w := id rfl
theorem kqFn_exc : kqFn (.exc k π) = .exc k := id rfl
theorem pSl_k (lo hi : Option PE) : pSl e lo hi π = kqSl1 lo hi π (e π) := id rfl
theorem kqSl1_ok (lo hi : Option PE) : kqSl1 lo hi π (.ok w) = kqSl2 w hi π (pPart lo π) := id rfl
theorem kqSl2_ok (hi : Option PE) (l : Option Int) : kqSl2 w hi π (.ok l) = kqSl3 w l (pPart hi π) := id rfl
theorem kqSl3_ok (l h : Option Int) : kqSl3 w l (.ok h) = qCut w l h := id rfl
theorem pPart_n : pPart none π = .ok none := id rfl
theorem pPart_s : pPart (some e) π = kqPt (e π) := id rfl
theorem kqPt_ok (i : Int) : kqPt (.ok (.at (.int i))) = .ok (some i) := id rfl
theorem pList_k : pList e π = kqSeq (e π) := id rfl
theorem pRev_k : pRev e π = kqRev (e π) := id rfl
theorem pEnum_k : pEnum e π = kqEnum (e π) := id rfl
theorem pZip_k : pZip a b π = kqZip1 b π (a π) := id rfl
theorem kqZip1_ok : kqZip1 b π (.ok w) = kqZip2 w (b π) := id rfl
theorem kqZip2_ok : kqZip2 w (.ok x) = zipOf w x := id rfl
theorem pRange1_k : pRange1 e π = kqR1 (e π) := id rfl
theorem pRange2_k : pRange2 a b π = kqR21 b π (a π) := id rfl
theorem kqR21_ok : kqR21 b π (.ok w) = kqR22 w (b π) := id rfl
theorem kqR22_ok : kqR22 w (.ok x) = r2Of w x := id rfl
theorem kqR1_nat {n : Nat} (h : (n : Int) < 2 ^ 62) : kqR1 (.ok (.at (.int n))) = .ok ⟨(List.range n).map fun (i : Nat) => W.at (.int (i : Int)), true⟩ := by
  unfold kqR1
  simp only [W.at]
  rw [if_pos (by omega), Int.toNat_natCast]
  unfold rangeW
  refine congrArg (fun ws => PR.ok (Ws.mk ws true)) (List.map_congr_left fun i _ => ?_)
  rw [Int.zero_add]
  rfl
theorem pLc_k (i : PSrc) (t : PT) (vs : List Nat) : pLc i t vs c e π = kqLc t c e (killP π vs) (i π) := id rfl
theorem killP_nil : killP π [] = π := id rfl
theorem killP_cons (v : Nat) (vs : List Nat) : killP π (v :: vs) = (killP π vs).set v none := id rfl
theorem ptName_at (i : Nat) (t : V) : ptName i (.at t) π = .nx (π.set i (some (.at t))) := id rfl
theorem ptName_fz (i : Nat) (tn : Bool) (t : V) : ptName i ⟨.fz, tn, t⟩ π = .nx (π.set i (some ⟨.fz, tn, t⟩)) := id rfl
theorem ptTup_a2 (s t : PT) (x y : V) : ptTup [s, t] (.at (.tup [x, y])) π = ptAll [s, t] [elW false false x, elW false false y] π := id rfl
theorem ptTup_a3 (s t r : PT) (x y z : V) : ptTup [s, t, r] (.at (.tup [x, y, z])) π = ptAll [s, t, r] [elW false false x, elW false false y, elW false false z] π := id rfl
theorem ptTup_f2 (s t : PT) (tn : Bool) (x y : V) : ptTup [s, t] ⟨.fz, tn, .tup [x, y]⟩ π = ptAll [s, t] [elW false tn x, elW false tn y] π := id rfl
theorem ptTup_f3 (s t r : PT) (tn : Bool) (x y z : V) : ptTup [s, t, r] ⟨.fz, tn, .tup [x, y, z]⟩ π = ptAll [s, t, r] [elW false tn x, elW false tn y, elW false tn z] π := id rfl
def kqAll (ts : List PT) (ws : List W) : PRS → PRS
  | .nx π => ptAll ts ws π
  | _ => .bad
theorem ptAll_nil : ptAll [] [] π = .nx π := id rfl
theorem ptAll_cons (t : PT) (ts : List PT) (ws : List W) : ptAll (t :: ts) (w :: ws) π = kqAll ts ws (t w π) := by
  conv => lhs; unfold ptAll
  cases t w π <;> rfl
theorem kqAll_nx (ts : List PT) (ws : List W) : kqAll ts ws (.nx π) = ptAll ts ws π := id rfl
theorem pSeq_k : pSeq s t π = kqSeq2 t (s π) := id rfl
theorem kqSeq2_nx : kqSeq2 t (.nx π) = t π := id rfl
theorem kqSeq2_ret : kqSeq2 t (.ret w) = .ret w := id rfl
theorem kqSeq2_ct : kqSeq2 t (.ct π) = .ct π := id rfl
theorem kqSeq2_bk : kqSeq2 t (.bk π) = .bk π := id rfl
theorem kqSeq2_exc : kqSeq2 t (.exc k π) = .exc k π := id rfl
theorem pPass_k : pPass π = .nx π := id rfl
theorem pCt_k : pCt π = .ct π := id rfl
theorem pBk_k : pBk π = .bk π := id rfl
theorem pRaise_k : pRaise k π = .exc k π := id rfl
theorem pKl_k (ks : List Nat) : pKl ks s π = s (killP π ks) := id rfl
theorem pFz_k (j : Nat) : pFz j s π = s (frz j π) := id rfl
theorem frz_k (j : Nat) : frz j π = match π[j]? with
  | some o => π.set j (fzO o)
  | none => π := rfl
theorem fzO_at (t : V) : fzO (some (.at t)) = some (.at t) := id rfl
theorem fzO_mk (fl : Fl) (tn : Bool) (t : V) : fzO (some ⟨fl, tn, t⟩) = some ⟨.fz, tn, t⟩ := id rfl
theorem fzO_none : fzO none = none := id rfl
theorem fzW_at (t : V) : fzW (.at t) = .at t := id rfl
theorem fzW_mk (fl : Fl) (tn : Bool) (t : V) : fzW ⟨fl, tn, t⟩ = ⟨.fz, tn, t⟩ := id rfl
theorem pAsg_k (i : Nat) : pAsg i e π = kqAsg i π (e π) := id rfl
theorem kqAsg_at (i : Nat) (t : V) : kqAsg i π (.ok (.at t)) = .nx (π.set i (some (.at t))) := id rfl
theorem kqAsg_fr (i : Nat) (tn : Bool) (t : V) : kqAsg i π (.ok ⟨.fr, tn, t⟩) = .nx (π.set i (some ⟨.fr, tn, t⟩)) := id rfl
theorem kqAsg_dr (i : Nat) (tn : Bool) (t : V) : kqAsg i π (.ok ⟨.dr, tn, t⟩) = .nx (π.set i (some ⟨.dr, tn, t⟩)) := id rfl
theorem kqAsgF_dr (i : Nat) (tn : Bool) (t : V) : kqAsgF i π (.ok ⟨.dr, tn, t⟩) = .nx (π.set i (some ⟨.fz, tn, t⟩)) := id rfl
theorem kqRet_dr (tn : Bool) (t : V) : kqRet π (.ok ⟨.dr, tn, t⟩) = .ret ⟨.dr, tn, t⟩ := id rfl
theorem kqAsg_fz (i : Nat) (tn : Bool) (t : V) : kqAsg i π (.ok ⟨.fz, tn, t⟩) = .nx (π.set i (some ⟨.fz, tn, t⟩)) := id rfl
theorem kqAsg_exc (i : Nat) : kqAsg i π (.exc k) = .exc k π := id rfl
theorem pAsgF_k (i : Nat) : pAsgF i e π = kqAsgF i π (e π) := id rfl
theorem kqAsgF_at (i : Nat) (t : V) : kqAsgF i π (.ok (.at t)) = .nx (π.set i (some (.at t))) := id rfl
theorem kqAsgF_fr (i : Nat) (tn : Bool) (t : V) : kqAsgF i π (.ok ⟨.fr, tn, t⟩) = .nx (π.set i (some ⟨.fz, tn, t⟩)) := id rfl
theorem kqAsgF_fz (i : Nat) (tn : Bool) (t : V) : kqAsgF i π (.ok ⟨.fz, tn, t⟩) = .nx (π.set i (some ⟨.fz, tn, t⟩)) := id rfl
theorem kqAsgF_exc (i : Nat) : kqAsgF i π (.exc k) = .exc k π := id rfl
theorem pAsgT_k (t : PT) : pAsgT t e π = kqAsgT t π (e π) := id rfl
def kqTg : PRS → PRS
  | .nx π => .nx π
  | _ => .bad
theorem kqAsgT_ok (t : PT) : kqAsgT t π (.ok w) = kqTg (t w π) := by
  unfold kqAsgT kqTg
  rfl
theorem kqTg_nx : kqTg (.nx π) = .nx π := id rfl
theorem kqAsgT_exc (t : PT) : kqAsgT t π (.exc k) = .exc k π := id rfl
theorem pApp_k (j : Nat) : pApp j e π = kqApp j π (e π) := id rfl
theorem pExt_k (j : Nat) : pExt j e π = kqExt j π (e π) := id rfl
theorem pIns_k (j : Nat) (i : PE) : pIns j i e π = kqIns1 j e π (i π) := id rfl
theorem kqIns1_ok (j : Nat) : kqIns1 j e π (.ok w) = kqIns2 j w π (e π) := id rfl
theorem pSubA_k (j : Nat) (i : PE) : pSubA j i e π = kqSub1 j i π (e π) := id rfl
theorem kqSub1_ok (j : Nat) (i : PE) : kqSub1 j i π (.ok w) = kqSub2 j w π (i π) := id rfl
theorem kqSub1_exc (j : Nat) (i : PE) : kqSub1 j i π (.exc k) = .exc k π := id rfl
theorem pPar_k (i j : Nat) : pPar i j a b π = kqPar i j π (pvL [a, b] π) := id rfl
theorem kqPar_at (i j : Nat) (t u : V) : kqPar i j π (.ok [.at t, .at u]) = .nx ((π.set i (some (.at t))).set j (some (.at u))) := id rfl
theorem kqPar_1 (i j : Nat) (tn : Bool) (t u : V) : kqPar i j π (.ok [⟨.fz, tn, t⟩, .at u]) = .nx ((π.set i (some ⟨.fz, tn, t⟩)).set j (some (.at u))) := id rfl
theorem kqPar_2 (i j : Nat) (tn : Bool) (t u : V) : kqPar i j π (.ok [.at t, ⟨.fz, tn, u⟩]) = .nx ((π.set i (some (.at t))).set j (some ⟨.fz, tn, u⟩)) := id rfl
theorem kqPar_3 (i j : Nat) (tn tn' : Bool) (t u : V) : kqPar i j π (.ok [⟨.fz, tn, t⟩, ⟨.fz, tn', u⟩]) = .nx ((π.set i (some ⟨.fz, tn, t⟩)).set j (some ⟨.fz, tn', u⟩)) := id rfl
theorem pDrop_k : pDrop e π = kqDrop π (e π) := id rfl
theorem kqDrop_ok : kqDrop π (.ok w) = .nx π := id rfl
theorem kqDrop_exc : kqDrop π (.exc k) = .exc k π := id rfl
theorem pRet_k : pRet e π = kqRet π (e π) := id rfl
theorem kqRet_at (t : V) : kqRet π (.ok (.at t)) = .ret (.at t) := id rfl
theorem kqRet_fr (tn : Bool) (t : V) : kqRet π (.ok ⟨.fr, tn, t⟩) = .ret ⟨.fr, tn, t⟩ := id rfl
theorem kqRet_fz (tn : Bool) (t : V) : kqRet π (.ok ⟨.fz, tn, t⟩) = .ret ⟨.fz, tn, t⟩ := id rfl
theorem kqRet_bo (tn : Bool) (t : V) : kqRet π (.ok ⟨.bo, tn, t⟩) = .ret ⟨.fr, tn, t⟩ := id rfl
theorem kqRet_bd (tn : Bool) (t : V) : kqRet π (.ok ⟨.bd, tn, t⟩) = .ret ⟨.fz, tn, t⟩ := id rfl
theorem kqRet_exc : kqRet π (.exc k) = .exc k π := id rfl
theorem pIf_k : pIf c s t π = kqIf s t π (c π) := id rfl
theorem kqIf_t : kqIf s t π (.ok (.at (.bl true))) = s π := id rfl
theorem kqIf_f : kqIf s t π (.ok (.at (.bl false))) = t π := id rfl
theorem kqIf_exc : kqIf s t π (.exc k) = .exc k π := id rfl
theorem pFor_k (ks : List Nat) (i : PSrc) (t : PT) : pFor ks i t s π = kqFor ks t s π (i π) := id rfl
theorem kqFor_ok (ks : List Nat) (t : PT) (ws : List W) : kqFor ks t s π (.ok ⟨ws, true⟩) = pForN ks t s ws (killP π ks) := id rfl
theorem pWhile_k (ks : List Nat) : pWhile ks c s π = pWhileN ks c s whileLine (killP π ks) := id rfl
theorem pTry_k (hs : List PHd) : pTry s hs t π = kqTry hs t (s π) := id rfl
theorem kqTry_nx (hs : List PHd) : kqTry hs t (.nx π) = t π := id rfl
theorem kqTry_ret (hs : List PHd) : kqTry hs t (.ret w) = .ret w := id rfl
theorem kqTry_exc (hs : List PHd) : kqTry hs t (.exc k π) = pHandle hs k π := id rfl
end
def stepK (ks : List Nat) : PRS → PRS
  | .nx π => .nx (killP π ks)
  | .ct π => .nx (killP π ks)
  | .bk π => .bk (killP π ks)
  | r => r
theorem stepK_nx (ks : List Nat) (π : PEnv) : stepK ks (.nx π) = .nx (killP π ks) := id rfl
theorem stepK_ct (ks : List Nat) (π : PEnv) : stepK ks (.ct π) = .nx (killP π ks) := id rfl
theorem stepK_bk (ks : List Nat) (π : PEnv) : stepK ks (.bk π) = .bk (killP π ks) := id rfl
theorem stepK_ret (ks : List Nat) (w : W) : stepK ks (.ret w) = .ret w := id rfl
theorem stepK_exc (ks : List Nat) (c : String) (π : PEnv) : stepK ks (.exc c π) = .exc c π := id rfl
def stepF (ks : List Nat) (b : PS) : PRS → PRS
  | .nx π => stepK ks (b π)
  | _ => .bad
theorem stepF_nx (ks : List Nat) (b : PS) (π : PEnv) : stepF ks b (.nx π) = stepK ks (b π) := id rfl
def goF (k : PS) : PRS → PRS
  | .nx π => k π
  | .bk π => .nx π
  | r => r
theorem forN_cons (ks : List Nat) (t : PT) (b : PS) (w : W) (ws : List W) (π : PEnv) : pForN ks t b (w :: ws) π = goF (pForN ks t b ws) (stepF ks b (t w π)) := by
  show kqFt ks b (pForN ks t b ws) (t w π) = _
  cases t w π with
  | nx π1 =>
    show kqFb ks _ (b π1) = goF _ (stepK ks (b π1))
    cases b π1 with
    | ct => rfl
    | nx => rfl
    | bk => rfl
    | ret => rfl
    | exc => rfl
    | bad => rfl
  | _ => rfl
theorem goF_nx (k : PS) (π : PEnv) : goF k (.nx π) = k π := id rfl
theorem goF_bk (k : PS) (π : PEnv) : goF k (.bk π) = .nx π := id rfl
theorem goF_ret (k : PS) (w : W) : goF k (.ret w) = .ret w := id rfl
theorem goF_exc (k : PS) (c : String) (π : PEnv) : goF k (.exc c π) = .exc c π := id rfl
theorem whileN_run {σ : Type} {ks : List Nat} {c : PE} {b : PS} (f : σ → PEnv) (I : σ → Prop) (m : σ → Nat) (p : σ → Bool) (nxt : σ → σ)
    (hc : ∀ s, I s → c (f s) = .ok (.at (.bl (p s)))) (hb : ∀ s, I s → p s = true → stepK ks (b (f s)) = .nx (f (nxt s)) ∧ I (nxt s) ∧ m (nxt s) < m s) :
    ∀ (n : Nat) (s : σ), I s → m s < n → ∃ s', I s' ∧ p s' = false ∧ pWhileN ks c b n (f s) = .nx (f s')
  | 0, s, _, h => by omega
  | n + 1, s, hI, h => by
    cases hp : p s with
    | false =>
      refine ⟨s, hI, hp, ?_⟩
      unfold pWhileN
      rw [hc s hI, hp]
      rfl
    | true =>
      obtain ⟨h1, h2, h3⟩ := hb s hI hp
      obtain ⟨s', a, d, e⟩ := whileN_run f I m p nxt hc hb n (nxt s) h2 (by omega)
      refine ⟨s', a, d, ?_⟩
      unfold pWhileN
      rw [hc s hI, hp]
      show kqWb ks (pWhileN ks c b n) (b (f s)) = _
      cases hbb : b (f s) with
      | nx π1 =>
        rw [hbb] at h1
        have h1 : PRS.nx (killP π1 ks) = .nx (f (nxt s)) := h1
        have h1 := PRS.nx.inj h1
        show pWhileN ks c b n (killP π1 ks) = _
        rw [h1]
        exact e
      | ct π1 =>
        rw [hbb] at h1
        have h1 : PRS.nx (killP π1 ks) = .nx (f (nxt s)) := h1
        have h1 := PRS.nx.inj h1
        show pWhileN ks c b n (killP π1 ks) = _
        rw [h1]
        exact e
      | _ =>
        rw [hbb] at h1
        cases h1
def lcStep (e : PE) : PRS → PR W
  | .nx π => e π
  | _ => .bad
theorem lcStep_nx (e : PE) (π : PEnv) : lcStep e (.nx π) = e π := id rfl
theorem lcN_map {α : Type} {t : PT} {e : PE} {π : PEnv} {g h : α → W} {xs : List α} (hs : ∀ (i : Nat) (x : α), xs[i]? = some x → lcStep e (t (g x) π) = .ok (h x)) : pLcN t (pC (.bl true)) e π (xs.map g) = .ok (xs.map h) := by
  induction xs with
  | nil => rfl
  | cons x xs ih =>
    have h1 := hs 0 x rfl
    have h2 := ih fun i x hx => hs (i + 1) x hx
    rw [List.map_cons, List.map_cons]
    unfold pLcN
    cases ht : t (g x) π with
    | nx π1 =>
      rw [ht, lcStep_nx] at h1
      show (match e π1 with
        | .ok u => kqL2 u (pLcN t (pC (.bl true)) e π (xs.map g))
        | _ => .bad) = _
      rw [h1, h2]
      rfl
    | _ =>
      rw [ht] at h1
      cases h1
theorem kqLc_ok {t : PT} {c e : PE} {π : PEnv} {ws us : List W} {st : Bool} (hz : ws.length ≤ szLine) (h : pLcN t c e π ws = .ok us) : kqLc t c e π (.ok ⟨ws, st⟩) = .ok (mkL (anyB us) (anyT us) (us.map W.t)) := by
  show (if ws.length ≤ szLine then kqLc2 (pLcN t c e π ws) else .bad) = _
  rw [if_pos hz, h]
  rfl
theorem anyB_map {α : Type} (xs : List α) (h : α → W) (k : ∀ x, isB (h x).fl = false) : anyB (xs.map h) = false := by
  unfold anyB
  rw [List.any_map, List.any_eq_false]
  intro x _
  simp [k]
theorem anyT_map {α : Type} (xs : List α) (h : α → W) (k : ∀ x, (h x).tn = false) : anyT (xs.map h) = false := by
  unfold anyT
  rw [List.any_map, List.any_eq_false]
  intro x _
  simp [k]
theorem kqLc_new {α : Type} {t : PT} {e : PE} {π : PEnv} {g : α → W} {xs : List α} {st : Bool} (fl : α → Fl) (u : α → V) (hz : xs.length ≤ szLine) (hf : ∀ x, isB (fl x) = false)
    (hs : ∀ (i : Nat) (x : α), xs[i]? = some x → lcStep e (t (g x) π) = .ok ⟨fl x, false, u x⟩) : kqLc t (pC (.bl true)) e π (.ok ⟨xs.map g, st⟩) = .ok ⟨.fr, false, .lst (xs.map u)⟩ := by
  rw [kqLc_ok (by rw [List.length_map]; exact hz) (lcN_map hs), anyB_map xs _ hf, anyT_map xs _ fun _ => rfl, List.map_map]
  rfl
end Mn
end
section
set_option Elab.async false
set_option autoImplicit false
set_option maxRecDepth 100000
set_option linter.all false
namespace Mn
def vq (q : Rat) : V := .tup [.int q.num, .int q.den]
def vr (qs : List Rat) : V := .lst (qs.map vq)
def vt (rs : List (List Rat)) : V := .lst (rs.map vr)
def vi (xs : List Int) : V := .lst (xs.map .int)
theorem vq0 : V.tup [.int 0, .int 1] = vq 0 := id rfl
theorem vq1 : V.tup [.int 1, .int 1] = vq 1 := id rfl
theorem hL_q (q : Rat) : (vq q).hasL = false := id rfl
theorem hL_r (qs : List Rat) : (vr qs).hasL = true := id rfl
theorem hL_t (rs : List (List Rat)) : (vt rs).hasL = true := id rfl
theorem hL_i (xs : List Int) : (vi xs).hasL = true := id rfl
theorem hL_int (i : Int) : (V.int i).hasL = false := id rfl
theorem hL_bl (i : Bool) : (V.bl i).hasL = false := id rfl
theorem hL_str (i : List Nat) : (V.str i).hasL = false := id rfl
theorem hL_non : V.non.hasL = false := id rfl
theorem hL_exc (c : String) : (V.exc c).hasL = false := id rfl
theorem hL_lst (xs : List V) : (V.lst xs).hasL = true := id rfl
theorem hL_ro (xs : List V) : (V.ro xs).hasL = true := id rfl
theorem hL_tup (xs : List V) : (V.tup xs).hasL = V.hasLs xs := id rfl
theorem hL_nil : V.hasLs [] = false := id rfl
theorem hL_cons (x : V) (xs : List V) : V.hasLs (x :: xs) = (x.hasL || V.hasLs xs) := id rfl
theorem hLs_map {α : Type} (f : α → V) (h : ∀ x, (f x).hasL = false) : ∀ xs : List α, V.hasLs (xs.map f) = false
  | [] => rfl
  | x :: xs => by
    rw [List.map_cons, hL_cons, h, hLs_map f h xs]
    rfl
theorem hLs_q (qs : List Rat) : V.hasLs (qs.map vq) = false := hLs_map vq hL_q qs
theorem hLs_i (xs : List Int) : V.hasLs (xs.map .int) = false := hLs_map .int hL_int xs
theorem hLs_bl (xs : List Bool) : V.hasLs (xs.map .bl) = false := hLs_map .bl hL_bl xs
theorem tt_q (q : Rat) : (vq q).tt = some (tq q) := id rfl
theorem tts_map {α : Type} (f : α → V) (g : α → T) (h : ∀ x, (f x).tt = some (g x)) : ∀ xs : List α, V.tts (xs.map f) = some (xs.map g)
  | [] => rfl
  | x :: xs => by
    rw [List.map_cons]
    unfold V.tts
    rw [h, tts_map f g h xs]
    rfl
theorem tt_r (qs : List Rat) : (vr qs).tt = some (tr qs) := by
  show (V.tts (qs.map vq)).map T.lst = _
  rw [tts_map vq tq tt_q]
  rfl
theorem tt_t (rs : List (List Rat)) : (vt rs).tt = some (tt rs) := by
  show (V.tts (rs.map vr)).map T.lst = _
  rw [tts_map vr tr tt_r]
  rfl
theorem tt_i (xs : List Int) : (vi xs).tt = some (.lst (xs.map .int)) := by
  show (V.tts (xs.map .int)).map T.lst = _
  rw [tts_map V.int T.int fun _ => rfl]
  rfl
theorem dps_map {α : Type} (f : α → V) (k : Nat) (h : ∀ x, (f x).dp ≤ k) : ∀ xs : List α, V.dps (xs.map f) ≤ k
  | [] => Nat.zero_le _
  | x :: xs => by
    rw [List.map_cons]
    unfold V.dps
    have := h x
    have := dps_map f k h xs
    omega
theorem dp_vq (q : Rat) : (vq q).dp = 2 := id rfl
theorem dp_vr (qs : List Rat) : (vr qs).dp ≤ 3 := Nat.succ_le_succ (dps_map vq 2 (fun q => Nat.le_of_eq (dp_vq q)) qs)
theorem dp_vt (rs : List (List Rat)) : (vt rs).dp ≤ 4 := Nat.succ_le_succ (dps_map vr 3 dp_vr rs)
theorem dp_vi (xs : List Int) : (vi xs).dp ≤ 2 := Nat.succ_le_succ (dps_map V.int 1 (fun _ => Nat.le_refl _) xs)
theorem vEq_of {x y : V} {a b : T} (hx : x.tt = some a) (hy : y.tt = some b) (dx : x.dp ≤ 60) (dy : y.dp ≤ 60) : vEq x y = some (a.eqv b) := by
  unfold vEq
  rw [if_pos ⟨dx, dy⟩, hx, hy]
theorem qEq_of {x y : V} {r : Bool} (h : vEq x y = some r) (f f' : Fl) (t t' : Bool) : qEq ⟨f, t, x⟩ ⟨f', t', y⟩ = .ok (.at (.bl r)) := by
  unfold qEq qEqG
  rw [h]
  rfl
theorem qNe_of {x y : V} {r : Bool} (h : vEq x y = some r) (f f' : Fl) (t t' : Bool) : qNe ⟨f, t, x⟩ ⟨f', t', y⟩ = .ok (.at (.bl (!r))) := by
  unfold qNe qEqG
  simp only []
  rw [h]
  rfl
theorem vEq_q (p q : Rat) : vEq (vq p) (vq q) = some (decide (p = q)) := by rw [vEq_of (tt_q p) (tt_q q) (Nat.le_of_ble_eq_true rfl) (Nat.le_of_ble_eq_true rfl), eqv_tq]
theorem vEq_r (p q : List Rat) : vEq (vr p) (vr q) = some (decide (p = q)) := by
  have := dp_vr p
  have := dp_vr q
  rw [vEq_of (tt_r p) (tt_r q) (by omega) (by omega), eqv_tr]
theorem vEq_t (p q : List (List Rat)) : vEq (vt p) (vt q) = some (decide (p = q)) := by
  have := dp_vt p
  have := dp_vt q
  rw [vEq_of (tt_t p) (tt_t q) (by omega) (by omega), eqv_tt]
theorem eqvs_int : ∀ xs ys : List Int, T.eqvs (xs.map .int) (ys.map .int) = decide (xs = ys)
  | [], [] => by simp [T.eqvs]
  | [], _ :: _ => by simp [T.eqvs]
  | _ :: _, [] => by simp [T.eqvs]
  | p :: ps, q :: qs => by
    rw [List.map_cons, List.map_cons]
    unfold T.eqvs
    have e : (T.int p).eqv (.int q) = decide (p = q) := by simp [T.eqv]
    rw [e, eqvs_int ps qs, ← Bool.decide_and]
    exact decide_eq_decide.mpr (by rw [List.cons.injEq])
theorem vEq_vi (p q : List Int) : vEq (vi p) (vi q) = some (decide (p = q)) := by
  have := dp_vi p
  have := dp_vi q
  rw [vEq_of (tt_i p) (tt_i q) (by omega) (by omega)]
  congr 1
  unfold T.eqv
  exact eqvs_int p q
theorem vEq_int (i j : Int) : vEq (.int i) (.int j) = some (decide (i = j)) := by
  rw [vEq_of (a := .int i) (b := .int j) rfl rfl (Nat.le_of_ble_eq_true rfl) (Nat.le_of_ble_eq_true rfl)]
  simp [T.eqv]
theorem vEq_bl (i j : Bool) : vEq (.bl i) (.bl j) = some (i == j) := by
  rw [vEq_of (a := .bl i) (b := .bl j) rfl rfl (Nat.le_of_ble_eq_true rfl) (Nat.le_of_ble_eq_true rfl)]
  simp [T.eqv]
theorem qEq_q (p q : Rat) : qEq (.at (vq p)) (.at (vq q)) = .ok (.at (.bl (decide (p = q)))) := qEq_of (vEq_q p q) _ _ _ _
theorem qNe_q (p q : Rat) : qNe (.at (vq p)) (.at (vq q)) = .ok (.at (.bl (!decide (p = q)))) := qNe_of (vEq_q p q) _ _ _ _
theorem qEq_int (p q : Int) : qEq (.at (.int p)) (.at (.int q)) = .ok (.at (.bl (decide (p = q)))) := qEq_of (vEq_int p q) _ _ _ _
theorem qNe_int (p q : Int) : qNe (.at (.int p)) (.at (.int q)) = .ok (.at (.bl (!decide (p = q)))) := qNe_of (vEq_int p q) _ _ _ _
theorem qEq_bl (p q : Bool) : qEq (.at (.bl p)) (.at (.bl q)) = .ok (.at (.bl (p == q))) := qEq_of (vEq_bl p q) _ _ _ _
theorem qNe_bl (p q : Bool) : qNe (.at (.bl p)) (.at (.bl q)) = .ok (.at (.bl (!(p == q)))) := qNe_of (vEq_bl p q) _ _ _ _
theorem qEq_r (f f' : Fl) (t t' : Bool) (p q : List Rat) : qEq ⟨f, t, vr p⟩ ⟨f', t', vr q⟩ = .ok (.at (.bl (decide (p = q)))) := qEq_of (vEq_r p q) _ _ _ _
theorem qNe_r (f f' : Fl) (t t' : Bool) (p q : List Rat) : qNe ⟨f, t, vr p⟩ ⟨f', t', vr q⟩ = .ok (.at (.bl (!decide (p = q)))) := qNe_of (vEq_r p q) _ _ _ _
theorem qEq_t (f f' : Fl) (t t' : Bool) (p q : List (List Rat)) : qEq ⟨f, t, vt p⟩ ⟨f', t', vt q⟩ = .ok (.at (.bl (decide (p = q)))) := qEq_of (vEq_t p q) _ _ _ _
theorem qNe_t (f f' : Fl) (t t' : Bool) (p q : List (List Rat)) : qNe ⟨f, t, vt p⟩ ⟨f', t', vt q⟩ = .ok (.at (.bl (!decide (p = q)))) := qNe_of (vEq_t p q) _ _ _ _
theorem qEq_vi (f f' : Fl) (t t' : Bool) (p q : List Int) : qEq ⟨f, t, vi p⟩ ⟨f', t', vi q⟩ = .ok (.at (.bl (decide (p = q)))) := qEq_of (vEq_vi p q) _ _ _ _
theorem qNe_vi (f f' : Fl) (t t' : Bool) (p q : List Int) : qNe ⟨f, t, vi p⟩ ⟨f', t', vi q⟩ = .ok (.at (.bl (!decide (p = q)))) := qNe_of (vEq_vi p q) _ _ _ _
section
variable (i j : Int) (f g : Fl) (s t : Bool)
theorem qAdd_int : qAdd (.at (.int i)) (.at (.int j)) = .ok (.at (.int (i + j))) := id rfl
theorem qSub_int : qSub (.at (.int i)) (.at (.int j)) = .ok (.at (.int (i - j))) := id rfl
theorem qMul_int {i j : Int} (h : mulOk i j = true) : qMul (.at (.int i)) (.at (.int j)) = .ok (.at (.int (i * j))) := if_pos h
theorem qInt_at {gg : Int → Int → V} {ok : Int → Int → Bool} {i j : Int} (h : ok i j = true) : qInt gg ok (.at (.int i)) (.at (.int j)) = .ok (.at (gg i j)) := if_pos h
theorem qDiv_int {i j : Int} (h0 : j ≠ 0) (h : divOk i j = true) : qDiv (.at (.int i)) (.at (.int j)) = .ok (.at (.int (i.fdiv j))) := qInt_at (by rw [decide_eq_true h0, h]; rfl)
theorem qDiv_sm {i j : Int} (h0 : j ≠ 0) (h : SmD j) : qDiv (.at (.int i)) (.at (.int j)) = .ok (.at (.int (i.fdiv j))) := qDiv_int h0 (by
  unfold divOk
  rw [Bool.or_eq_true, decide_eq_true_eq]
  exact .inl h)
theorem qMod_int {i j : Int} (h0 : j ≠ 0) : qMod (.at (.int i)) (.at (.int j)) = .ok (.at (.int (i.fmod j))) := qInt_at (decide_eq_true h0)
theorem qPow_int {i j : Int} (h : 0 ≤ j ∧ j ≤ 1000000 ∧ i.natAbs < 2 ^ 64) : qPow (.at (.int i)) (.at (.int j)) = .ok (.at (.int (i ^ j.toNat))) := qInt_at (decide_eq_true h)
theorem qDm_sm {i j : Int} (h0 : 0 < j) (h : SmD j) : qDm (.at (.int i)) (.at (.int j)) = .ok (.at (.tup [.int (i / j), .int (i % j)])) := qInt_at (by
  rw [decide_eq_true h0]
  unfold divOk
  rw [Bool.true_and, Bool.or_eq_true, decide_eq_true_eq]
  exact .inl h)
theorem qMax_int : qMax (.at (.int i)) (.at (.int j)) = .ok (.at (.int (if j > i then j else i))) := id rfl
theorem qMin_int : qMin (.at (.int i)) (.at (.int j)) = .ok (.at (.int (if j < i then j else i))) := id rfl
theorem qLt_int : qLt (.at (.int i)) (.at (.int j)) = .ok (.at (.bl (decide (i < j)))) := id rfl
theorem qLe_int : qLe (.at (.int i)) (.at (.int j)) = .ok (.at (.bl (decide (i ≤ j)))) := id rfl
theorem qGt_int : qGt (.at (.int i)) (.at (.int j)) = .ok (.at (.bl (decide (j < i)))) := id rfl
theorem qGe_int : qGe (.at (.int i)) (.at (.int j)) = .ok (.at (.bl (decide (j ≤ i)))) := id rfl
theorem qNeg_int : qNeg (.at (.int i)) = .ok (.at (.int (-i))) := id rfl
theorem qAbs_int : qAbs (.at (.int i)) = .ok (.at (.int (if i < 0 then -i else i))) := id rfl
theorem qToInt_int : qToInt (.at (.int i)) = .ok (.at (.int i)) := id rfl
theorem qToInt_bl (b : Bool) : qToInt (.at (.bl b)) = .ok (.at (.int (if b then 1 else 0))) := id rfl
theorem qIsN_at (x : V) : qIsN ⟨f, s, x⟩ (.at .non) = .ok (.at (.bl (isNonV x))) := id rfl
theorem qIsN_a (x : V) : qIsN (.at x) (.at .non) = .ok (.at (.bl (isNonV x))) := id rfl
theorem qNotN_at (x : V) : qNotN ⟨f, s, x⟩ (.at .non) = .ok (.at (.bl (!isNonV x))) := id rfl
theorem qNotN_a (x : V) : qNotN (.at x) (.at .non) = .ok (.at (.bl (!isNonV x))) := id rfl
theorem isNon_non : isNonV .non = true := id rfl
theorem isNon_int : isNonV (.int i) = false := id rfl
theorem isNon_q (q : Rat) : isNonV (vq q) = false := id rfl
theorem isNon_r (q : List Rat) : isNonV (vr q) = false := id rfl
theorem qIx_q0 (q : Rat) : qIx (.at (vq q)) (.at (.int 0)) = .ok (.at (.int q.num)) := id rfl
theorem qIx_q1 (q : Rat) : qIx (.at (vq q)) (.at (.int 1)) = .ok (.at (.int q.den)) := id rfl
theorem ptTup_q (s t : PT) (q : Rat) (π : PEnv) : ptTup [s, t] (.at (vq q)) π = ptAll [s, t] [.at (.int q.num), .at (.int q.den)] π := id rfl
theorem qLen_q (q : Rat) : qLen (.at (vq q)) = .ok (.at (.int 2)) := id rfl
theorem qLen_r (q : List Rat) : qLen ⟨f, s, vr q⟩ = .ok (.at (.int q.length)) := by
  show PR.ok (W.at (.int ((q.map vq).length : Nat))) = _
  rw [List.length_map]
theorem qLen_t (q : List (List Rat)) : qLen ⟨f, s, vt q⟩ = .ok (.at (.int q.length)) := by
  show PR.ok (W.at (.int ((q.map vr).length : Nat))) = _
  rw [List.length_map]
theorem qLen_vi (q : List Int) : qLen ⟨f, s, vi q⟩ = .ok (.at (.int q.length)) := by
  show PR.ok (W.at (.int ((q.map V.int).length : Nat))) = _
  rw [List.length_map]
theorem qLen_l (q : List V) : qLen ⟨f, s, .lst q⟩ = .ok (.at (.int q.length)) := id rfl
theorem qLen_ro (q : List V) : qLen ⟨f, s, .ro q⟩ = .ok (.at (.int q.length)) := id rfl
theorem qLen_tp (q : List V) : qLen ⟨f, s, .tup q⟩ = .ok (.at (.int q.length)) := id rfl
theorem qLen_ta (q : List V) : qLen (.at (.tup q)) = .ok (.at (.int q.length)) := id rfl
theorem qIs_q (ts : List String) (q : Rat) : qIs ts (.at (vq q)) = .ok (.at (.bl (ts.any (isT "tuple")))) := id rfl
theorem qIs_r (ts : List String) (q : List Rat) : qIs ts ⟨f, s, vr q⟩ = .ok (.at (.bl (ts.any (isT "list")))) := id rfl
theorem qIs_t (ts : List String) (q : List (List Rat)) : qIs ts ⟨f, s, vt q⟩ = .ok (.at (.bl (ts.any (isT "list")))) := id rfl
theorem qIs_vi (ts : List String) (q : List Int) : qIs ts ⟨f, s, vi q⟩ = .ok (.at (.bl (ts.any (isT "list")))) := id rfl
theorem qIs_l (ts : List String) (q : List V) : qIs ts ⟨f, s, .lst q⟩ = .ok (.at (.bl (ts.any (isT "list")))) := id rfl
theorem qIs_ro (ts : List String) (q : List V) : qIs ts ⟨f, s, .ro q⟩ = .ok (.at (.bl (ts.any (isT "list")))) := id rfl
theorem qIs_tp (ts : List String) (q : List V) : qIs ts ⟨f, s, .tup q⟩ = .ok (.at (.bl (ts.any (isT "tuple")))) := id rfl
theorem qIs_ta (ts : List String) (q : List V) : qIs ts (.at (.tup q)) = .ok (.at (.bl (ts.any (isT "tuple")))) := id rfl
theorem qIs_int (ts : List String) : qIs ts (.at (.int i)) = .ok (.at (.bl (ts.any (isT "int")))) := id rfl
theorem qIs_bl (ts : List String) (b : Bool) : qIs ts (.at (.bl b)) = .ok (.at (.bl (ts.any (isT "bool")))) := id rfl
theorem qIs_str (ts : List String) (b : List Nat) : qIs ts (.at (.str b)) = .ok (.at (.bl (ts.any (isT "str")))) := id rfl
theorem qIs_non (ts : List String) : qIs ts (.at .non) = .ok (.at (.bl (ts.any (isT "NoneType")))) := id rfl
theorem qIs_exc (ts : List String) (c : String) : qIs ts (.at (.exc c)) = .ok (.at (.bl (ts.any (isX c)))) := id rfl
end
theorem any_nil {α : Type} (p : α → Bool) : [].any p = false := id rfl
theorem any_cons {α : Type} (p : α → Bool) (x : α) (xs : List α) : (x :: xs).any p = (p x || xs.any p) := id rfl
section
variable {f g : Fl} {s t : Bool}
theorem qIx_l {xs : List V} {i : Nat} {x : V} (h : xs[i]? = some x) : qIx ⟨f, s, .lst xs⟩ (.at (.int i)) = .ok (elW (isD f) s x) := by
  show (match atI xs (i : Int) with
    | some x => PR.ok (elW (isD f) s x)
    | none => .bad) = _
  rw [atI_nat h]
theorem qIx_tp {xs : List V} {i : Nat} {x : V} (h : xs[i]? = some x) : qIx ⟨f, s, .tup xs⟩ (.at (.int i)) = .ok (elW (isD f) s x) := by
  show (match atI xs (i : Int) with
    | some x => PR.ok (elW (isD f) s x)
    | none => .bad) = _
  rw [atI_nat h]
theorem qIx_ta {xs : List V} {i : Nat} {x : V} (h : xs[i]? = some x) : qIx (.at (.tup xs)) (.at (.int i)) = .ok (elW false false x) := qIx_tp h
theorem qIx_r {qs : List Rat} {i : Nat} {q : Rat} (h : qs[i]? = some q) : qIx ⟨f, s, vr qs⟩ (.at (.int i)) = .ok (.at (vq q)) := by
  rw [vr, qIx_l (x := vq q) (by rw [List.getElem?_map, h]; rfl), elW_at (hL_q q)]
theorem qList_r (h : isD f = false) {qs : List Rat} : qList ⟨f, s, vr qs⟩ = .ok ⟨.fr, false, vr qs⟩ := by
  show PR.ok (mkL (isD f) s (qs.map vq)) = _
  rw [h, mkL_at (hLs_q qs)]
  rfl
theorem qAdd_r (h : isD f = false) (h' : isD g = false) {ps qs : List Rat} (hz : ps.length + qs.length ≤ szLine) : qAdd ⟨f, s, vr ps⟩ ⟨g, t, vr qs⟩ = .ok ⟨.fr, false, vr (ps ++ qs)⟩ := by
  show (if (ps.map vq).length + (qs.map vq).length ≤ szLine then PR.ok (mkL (isD f || isD g) (s || t) (ps.map vq ++ qs.map vq)) else .bad) = _
  rw [if_pos (by rw [List.length_map, List.length_map]; exact hz), h, h', ← List.map_append]
  show PR.ok (mkL false (s || t) _) = _
  rw [mkL_at (hLs_q _)]
  rfl
theorem mapO_bls (bs : List Bool) : mapO toBlV (bs.map .bl) = some bs := by
  induction bs with
  | nil => rfl
  | cons b bs ih =>
    show ((mapO toBlV (bs.map .bl)).map fun l => b :: l) = _
    rw [ih]
    rfl
theorem qAll_bl (bs : List Bool) : qAll ⟨f, s, .lst (bs.map .bl)⟩ = .ok (.at (.bl (bs.all id))) := by
  show (match mapO toBlV (bs.map .bl) with
    | some bs => PR.ok (W.at (.bl (bs.all id)))
    | none => .bad) = _
  rw [mapO_bls]
theorem qAny_bl (bs : List Bool) : qAny ⟨f, s, .lst (bs.map .bl)⟩ = .ok (.at (.bl (bs.any id))) := by
  show (match mapO toBlV (bs.map .bl) with
    | some bs => PR.ok (W.at (.bl (bs.any id)))
    | none => .bad) = _
  rw [mapO_bls]
theorem kqSeq_r {qs : List Rat} : kqSeq (.ok ⟨f, s, vr qs⟩) = .ok ⟨qs.map fun q => .at (vq q), !isB f⟩ := by
  show PR.ok (Ws.mk ((qs.map vq).map (elW (isD f) s)) (!isB f)) = _
  rw [List.map_map]
  rfl
theorem kqSeq_vi {qs : List Int} : kqSeq (.ok ⟨f, s, vi qs⟩) = .ok ⟨qs.map fun q => .at (.int q), !isB f⟩ := by
  show PR.ok (Ws.mk ((qs.map V.int).map (elW (isD f) s)) (!isB f)) = _
  rw [List.map_map]
  rfl
theorem kqSeq_t (h : isD f = false) {rs : List (List Rat)} : kqSeq (.ok ⟨f, s, vt rs⟩) = .ok ⟨rs.map fun r => ⟨.fz, s, vr r⟩, !isB f⟩ := by
  show PR.ok (Ws.mk ((rs.map vr).map (elW (isD f) s)) (!isB f)) = _
  rw [List.map_map, h]
  rfl
theorem kqSeq_l {xs : List V} : kqSeq (.ok ⟨f, s, .lst xs⟩) = .ok ⟨xs.map (elW (isD f) s), !isB f⟩ := id rfl
theorem kqEnum_l {xs : List V} : kqEnum (.ok ⟨f, s, .lst xs⟩) = .ok ⟨enumW (isD f) s 0 xs, !isB f⟩ := id rfl
theorem enumW_map {α : Type} (v : α → V) (ds tn : Bool) : ∀ (k : Nat) (xs : List α), enumW ds tn k (xs.map v) = (xs.zipIdx k).map fun p => mkT ds tn [.int (p.2 : Nat), v p.1]
  | _, [] => rfl
  | k, x :: xs => by
    rw [List.map_cons, List.zipIdx_cons, List.map_cons]
    show _ :: enumW ds tn (k + 1) (xs.map v) = _
    rw [enumW_map v ds tn (k + 1) xs]
theorem kqEnum_r {qs : List Rat} : kqEnum (.ok ⟨f, s, vr qs⟩) = .ok ⟨qs.zipIdx.map fun p => .at (.tup [.int (p.2 : Nat), vq p.1]), !isB f⟩ := by
  rw [vr, kqEnum_l, enumW_map]
  rfl
theorem kqEnum_vi {qs : List Int} : kqEnum (.ok ⟨f, s, vi qs⟩) = .ok ⟨qs.zipIdx.map fun p => .at (.tup [.int (p.2 : Nat), .int p.1]), !isB f⟩ := by
  rw [vi, kqEnum_l, enumW_map]
  rfl
theorem kqEnum_t (h : isD f = false) {rs : List (List Rat)} : kqEnum (.ok ⟨f, s, vt rs⟩) = .ok ⟨rs.zipIdx.map fun p => ⟨.fz, s, .tup [.int (p.2 : Nat), vr p.1]⟩, !isB f⟩ := by
  rw [vt, kqEnum_l, enumW_map, h]
  rfl
theorem zipW_map {α β : Type} (v : α → V) (u : β → V) (ds tn : Bool) : ∀ (xs : List α) (ys : List β), zipW ds tn (xs.map v) (ys.map u) = (xs.zip ys).map fun p => mkT ds tn [v p.1, u p.2]
  | [], ys => by
    unfold zipW
    simp
  | _ :: _, [] => by
    unfold zipW
    simp
  | x :: xs, y :: ys => by
    rw [List.map_cons, List.map_cons, List.zip_cons_cons, List.map_cons]
    show _ :: zipW ds tn (xs.map v) (ys.map u) = _
    rw [zipW_map v u ds tn xs ys]
theorem zipOf_l {xs ys : List V} : zipOf ⟨f, s, .lst xs⟩ ⟨g, t, .lst ys⟩ = .ok ⟨zipW (isD f || isD g) (s || t) xs ys, !isB f && !isB g⟩ := id rfl
theorem zipOf_rr {ps qs : List Rat} : zipOf ⟨f, s, vr ps⟩ ⟨g, t, vr qs⟩ = .ok ⟨(ps.zip qs).map fun p => .at (.tup [vq p.1, vq p.2]), !isB f && !isB g⟩ := by
  rw [vr, vr, zipOf_l, zipW_map]
  rfl
theorem zipOf_tr (h : isD f = false) (h' : isD g = false) {ps : List (List Rat)} {qs : List Rat} : zipOf ⟨f, s, vt ps⟩ ⟨g, t, vr qs⟩ = .ok ⟨(ps.zip qs).map fun p => ⟨.fz, s || t, .tup [vr p.1, vq p.2]⟩, !isB f && !isB g⟩ := by
  rw [vt, vr, zipOf_l, zipW_map, h, h']
  rfl
theorem zipOf_tt (h : isD f = false) (h' : isD g = false) {ps qs : List (List Rat)} : zipOf ⟨f, s, vt ps⟩ ⟨g, t, vt qs⟩ = .ok ⟨(ps.zip qs).map fun p => ⟨.fz, s || t, .tup [vr p.1, vr p.2]⟩, !isB f && !isB g⟩ := by
  rw [vt, vt, zipOf_l, zipW_map, h, h']
  rfl
end
section
variable {α : Type} {t : PT} {c e : PE} {π : PEnv} {g : α → W} {xs : List α} {st : Bool}
end
end Mn
end
section
set_option Elab.async false
set_option autoImplicit false
set_option maxRecDepth 100000
set_option linter.all false
namespace Mn
def dOk (w : W) : Bool := match w.fl with
  | .dr => true
  | .fr => match w.t with
    | .lst ts => !V.hasLs ts
    | _ => false
  | _ => !w.t.hasL
mutual
theorem Rq.ow0 {P : Nat → Prop} {M : Store} : ∀ {v : Val} {t : V}, Rq P M v t → t.hasL = false → Ow M v t []
  | _, _, .non, _ => .non
  | _, _, .bl b, _ => .bl b
  | _, _, .int i, _ => .int i
  | _, _, .str s, _ => .str s
  | _, _, .exc c, _ => .exc c
  | _, _, .tup r, h => .tup (Rql.ow0 r (by simpa [V.hasL] using h))
  | _, _, .lst _ _ _, h => by simp [V.hasL] at h
  | _, _, .ro _ _ _, h => by simp [V.hasL] at h
  | _, _, .obj _ _ _, h => by simp [V.hasL] at h
  | _, _, .dic _ _ _ _, h => by simp [V.hasL] at h
theorem Rql.ow0 {P : Nat → Prop} {M : Store} : ∀ {vs : List Val} {ts : List V}, Rql P M vs ts → V.hasLs ts = false → Owl M vs ts []
  | _, _, .nil, _ => .nil
  | _, _, .cons r rs, h => by
    unfold V.hasLs at h
    rw [Bool.or_eq_false_iff] at h
    have := Owl.cons (Rq.ow0 r h.1) (Rql.ow0 rs h.2)
    rw [List.append_nil] at this
    exact this
end
theorem Owl.append {M : Store} : ∀ {xs ys : List Val} {ts us : List V} {a b : List Nat}, Owl M xs ts a → Owl M ys us b → Owl M (xs ++ ys) (ts ++ us) (a ++ b)
  | _, _, _, _, _, _, .nil, s => s
  | _, _, _, _, _, _, .cons h r, s => by
    rw [List.append_assoc]
    exact .cons h (Owl.append r s)
theorem Owl.one {M : Store} {x : Val} {t : V} {a : List Nat} (h : Ow M x t a) : Owl M [x] [t] a := by
  have := Owl.cons h (Owl.nil (M := M))
  rw [List.append_nil] at this
  exact this
theorem Owl.gr {M M' : Store} (g : Gr M M') {vs : List Val} {ts : List V} {cs : List Nat} (h : Owl M vs ts cs) : Owl M' vs ts cs := h.map fun _ _ _ e => g.at e
theorem Owl.length {M : Store} : ∀ {xs : List Val} {ts : List V} {cs : List Nat}, Owl M xs ts cs → xs.length = ts.length
  | _, _, _, .nil => rfl
  | _, _, _, .cons _ r => congrArg Nat.succ (Owl.length r)
theorem nodup_app {a b : List Nat} (ha : a.Nodup) (hb : b.Nodup) (h : ∀ n, n ∈ a → n ∈ b → False) : (a ++ b).Nodup := List.nodup_append.mpr ⟨ha, hb, fun x hx y hy e => h x hx (by rw [e]; exact hy)⟩
def AccD (B : Nat) (Pa O : Nat → Prop) (L : Nat) (M : Store) (vs : List Val) (ws : List W) : Prop := ws.all dOk = true → ∃ cs, Owl M vs (ws.map W.t) cs ∧ cs.Nodup ∧ ∀ n ∈ cs, L ≤ n ∧ Av O B Pa false n
theorem AccD.nil {B L : Nat} {Pa O : Nat → Prop} {M : Store} : AccD B Pa O L M [] [] := fun _ => ⟨[], .nil, List.nodup_nil, fun n h => by cases h⟩
theorem AccD.gr {B L : Nat} {Pa O : Nat → Prop} {M M' : Store} {vs : List Val} {ws : List W} (g : Gr M M') (h : AccD B Pa O L M vs ws) : AccD B Pa O L M' vs ws := fun k => let ⟨cs, a, b, c⟩ := h k; ⟨cs, a.gr g, b, c⟩
def kqTupD : PR (List W) → PR W
  | .ok ws => if ws.length ≤ szLine ∧ ws.all dOk = true then .ok ⟨.dr, false, .tup (ws.map W.t)⟩ else .bad
  | .exc c => .exc c
  | .bad => .bad
def pTupD (es : List PE) : PE := fun π => kqTupD (pvL es π)
def kqLstD : PR (List W) → PR W
  | .ok ws => if ws.length ≤ szLine ∧ ws.all dOk = true then .ok ⟨.dr, false, .lst (ws.map W.t)⟩ else .bad
  | .exc c => .exc c
  | .bad => .bad
def pLstD (es : List PE) : PE := fun π => kqLstD (pvL es π)
def kqLcD2 : PR (List W) → PR W
  | .ok us => if us.all dOk = true then .ok ⟨.dr, false, .lst (us.map W.t)⟩ else .bad
  | .exc c => .exc c
  | .bad => .bad
def kqLcD (t : PT) (c e : PE) (π : PEnv) : PR Ws → PR W
  | .ok s => if s.ws.length ≤ szLine then kqLcD2 (pLcN t c e π s.ws) else .bad
  | .exc c => .exc c
  | .bad => .bad
def pLcD (s : PSrc) (t : PT) (vs : List Nat) (c e : PE) : PE := fun π => kqLcD t c e (killP π vs) (s π)
def ownD (j : Nat) (π : PEnv) : Option V := match π[j]? with
  | some (some ⟨.dr, _, t⟩) => some t
  | _ => none
end Mn
end
section
set_option Elab.async false
set_option autoImplicit false
set_option maxRecDepth 100000
set_option linter.all false
namespace Mn
def subV : List Nat → V → Option V
  | [], t => some t
  | i :: p, .lst ts => match ts[i]? with
    | some t => subV p t
    | none => none
  | i :: p, .tup ts => match ts[i]? with
    | some t => subV p t
    | none => none
  | _, _ => none
def putV : List Nat → V → V → V
  | [], _, u => u
  | i :: p, .lst ts, u => match ts[i]? with
    | some t => .lst (ts.set i (putV p t u))
    | none => .lst ts
  | i :: p, .tup ts, u => match ts[i]? with
    | some t => .tup (ts.set i (putV p t u))
    | none => .tup ts
  | _, t, _ => t
def subX (M : Store) : List Nat → Val → Option Val
  | [], v => some v
  | i :: p, .ref n => match M[n]? with
    | some (.lst xs) => match xs[i]? with
      | some x => subX M p x
      | none => none
    | _ => none
  | i :: p, .tup xs => match xs[i]? with
    | some x => subX M p x
    | none => none
  | _, _ => none
theorem Owl.split {M : Store} : ∀ {xs : List Val} {ts : List V} {cs : List Nat} {i : Nat} {t : V}, Owl M xs ts cs → ts[i]? = some t →
    ∃ x a c b, xs[i]? = some x ∧ Ow M x t c ∧ cs = a ++ c ++ b ∧ ∀ (M' : Store) (x' : Val) (t' : V) (c' : List Nat), (∀ n k, n ∈ a ∨ n ∈ b → M[n]? = some k → M'[n]? = some k) → Ow M' x' t' c' → Owl M' (xs.set i x') (ts.set i t') (a ++ c' ++ b)
  | _, _, _, _, _, .nil, e => by cases e
  | _, _, _, 0, _, .cons (x := x) (a := c) (b := b) h r, e => by
    cases e
    refine ⟨x, [], c, b, rfl, h, by rw [List.nil_append], fun M' x' t' c' k o => ?_⟩
    rw [List.nil_append]
    exact .cons o (Owl.map r fun m k2 hm e => k m k2 (.inr hm) e)
  | _, _, _, i + 1, _, .cons (x := y) (a := d) h r, e => by
    obtain ⟨x, a, c, b, e1, o, rfl, f⟩ := Owl.split (i := i) r e
    refine ⟨x, d ++ a, c, b, e1, o, by simp only [List.append_assoc], fun M' x' t' c' k o' => ?_⟩
    have := Owl.cons (Ow.map h fun m k2 hm e => k m k2 (.inl (List.mem_append_left _ hm)) e) (f M' x' t' c' (fun n k2 hn => k n k2 (hn.imp (List.mem_append_right _) id)) o')
    simp only [List.append_assoc] at this ⊢
    exact this
theorem nodup_mid {a c b c' : List Nat} (h : (a ++ c ++ b).Nodup) (hc : c'.Nodup) (d : ∀ n ∈ c', n ∈ c ∨ (n ∉ a ∧ n ∉ b)) : (a ++ c' ++ b).Nodup := by
  rw [List.append_assoc] at h ⊢
  rw [List.nodup_append] at h ⊢
  obtain ⟨h1, h2, h3⟩ := h
  rw [List.nodup_append] at h2
  obtain ⟨h4, h5, h6⟩ := h2
  refine ⟨h1, List.nodup_append.mpr ⟨hc, h5, fun x hx y hy e => ?_⟩, fun x hx y hy e => ?_⟩
  · subst e
    rcases d x hx with z | z
    · exact h6 x z x hy rfl
    · exact z.2 hy
  · subst e
    rcases List.mem_append.mp hy with hy | hy
    · rcases d x hy with z | z
      · exact h3 x hx x (List.mem_append_left _ z) rfl
      · exact z.1 hx
    · exact h3 x hx x (List.mem_append_right _ hy) rfl
theorem Ow.lens {M : Store} : ∀ (p : List Nat) {v : Val} {t : V} {cs : List Nat} {us : List V}, Ow M v t cs → cs.Nodup → subV p t = some (.lst us) →
    ∃ n xs cu, subX M p v = some (.ref n) ∧ M[n]? = some (.lst xs) ∧ Owl M xs us cu ∧ n ∈ cs ∧ (∀ m ∈ cu, m ∈ cs) ∧ cu.Nodup ∧ n ∉ cu ∧
      ∀ (M' : Store) (ys : List Val) (us' : List V) (cu' : List Nat), (∀ m k, m ∈ cs → m ≠ n → m ∉ cu → M[m]? = some k → M'[m]? = some k) → M'[n]? = some (.lst ys) → Owl M' ys us' cu' → cu'.Nodup → n ∉ cu' → (∀ m ∈ cu', m ∈ cu ∨ m ∉ cs) →
        ∃ cs', Ow M' v (putV p t (.lst us')) cs' ∧ cs'.Nodup ∧ ∀ m ∈ cs', m ∈ cs ∨ m ∈ cu'
  | [], v, t, cs, us, h, nd, e => by
    cases e
    cases h with
    | @lst n xs _ cu hn r =>
      obtain ⟨n1, n2⟩ := List.nodup_cons.mp nd
      refine ⟨n, xs, cu, rfl, hn, r, List.mem_cons_self, fun m hm => List.mem_cons_of_mem _ hm, n2, n1, fun M' ys us' cu' k hn' r' nd' nn dd => ?_⟩
      refine ⟨n :: cu', .lst hn' r', List.nodup_cons.mpr ⟨nn, nd'⟩, fun m hm => ?_⟩
      rcases List.mem_cons.mp hm with e | hm
      · exact .inl (by rw [e]; exact List.mem_cons_self)
      · exact .inr hm
  | i :: p, v, t, cs, us, h, nd, e => by
    -- a list, a tuple
    have step : ∀ (xs : List Val) (ts : List V) (ds : List Nat) (t1 : V), Owl M xs ts ds → ds.Nodup → ts[i]? = some t1 → subV p t1 = some (.lst us) → ∃ x, xs[i]? = some x ∧ ∃ n ys cu, subX M p x = some (.ref n) ∧ M[n]? = some (.lst ys) ∧ Owl M ys us cu ∧ n ∈ ds ∧ (∀ m ∈ cu, m ∈ ds) ∧ cu.Nodup ∧ n ∉ cu ∧
        ∀ (M' : Store) (zs : List Val) (us' : List V) (cu' : List Nat), (∀ m k, m ∈ ds → m ≠ n → m ∉ cu → M[m]? = some k → M'[m]? = some k) → M'[n]? = some (.lst zs) → Owl M' zs us' cu' → cu'.Nodup → n ∉ cu' → (∀ m ∈ cu', m ∈ cu ∨ m ∉ ds) →
          ∃ ds', Owl M' xs (ts.set i (putV p t1 (.lst us'))) ds' ∧ ds'.Nodup ∧ ∀ m ∈ ds', m ∈ ds ∨ m ∈ cu' := fun xs ts ds t1 r nd e1 e2 => by
      obtain ⟨x, a, c, b, ex, o, rfl, f⟩ := Owl.split r e1
      have ndc : c.Nodup := by
        rw [List.append_assoc] at nd
        exact (List.nodup_append.mp (List.nodup_append.mp nd).2.1).1
      obtain ⟨n, ys, cu, g1, g2, g3, g4, g5, g6, g7, g8⟩ := Ow.lens p o ndc e2
      have inc : ∀ m, m ∈ c → m ∈ a ++ c ++ b := fun m hm => List.mem_append_left _ (List.mem_append_right _ hm)
      refine ⟨x, ex, n, ys, cu, g1, g2, g3, inc n g4, fun m hm => inc m (g5 m hm), g6, g7, fun M' zs us' cu' k hn' r' nd' nn dd => ?_⟩
      have dis : ∀ m, m ∈ c → m ∉ a ∧ m ∉ b := fun m hm => by
        rw [List.append_assoc, List.nodup_append] at nd
        obtain ⟨_, q2, q3⟩ := nd
        exact ⟨fun z => q3 m z m (List.mem_append_left _ hm) rfl, fun z => (List.nodup_append.mp q2).2.2 m hm m z rfl⟩
      obtain ⟨c', o', nc', kc'⟩ := g8 M' zs us' cu' (fun m k2 hm h1 h2 e => k m k2 (inc m hm) h1 h2 e) hn' r' nd' nn (fun m hm => (dd m hm).imp id fun z y => z (inc m y))
      have keep := f M' x (putV p t1 (.lst us')) c' (fun m k2 hm e => by
        refine k m k2 ?_ (fun z => ?_) (fun z => ?_) e
        · rcases hm with hm | hm
          · exact List.mem_append_left _ (List.mem_append_left _ hm)
          · exact List.mem_append_right _ hm
        · subst z
          rcases hm with hm | hm
          · exact (dis m g4).1 hm
          · exact (dis m g4).2 hm
        · rcases hm with hm | hm
          · exact (dis m (g5 m z)).1 hm
          · exact (dis m (g5 m z)).2 hm) o'
      have same : xs.set i x = xs := List.ext_getElem? fun l => by
        rw [List.getElem?_set]
        split
        · rename_i z
          subst z
          rw [ex]
          split
          · rfl
          · rename_i q
            exact absurd (List.getElem?_eq_some_iff.mp ex).1 q
        · rfl
      rw [same] at keep
      refine ⟨a ++ c' ++ b, keep, nodup_mid nd nc' fun m hm => ?_, fun m hm => ?_⟩
      · rcases kc' m hm with z | z
        · exact .inl z
        · rcases dd m z with y | y
          · exact .inl (g5 m y)
          · exact .inr ⟨fun w => y (List.mem_append_left _ (List.mem_append_left _ w)), fun w => y (List.mem_append_right _ w)⟩
      · rcases List.mem_append.mp hm with hm | hm
        · rcases List.mem_append.mp hm with hm | hm
          · exact .inl (List.mem_append_left _ (List.mem_append_left _ hm))
          · exact (kc' m hm).imp (inc m) id
        · exact .inl (List.mem_append_right _ hm)
    cases h with
    | @lst n0 xs ts ds hn0 r =>
      unfold subV at e
      cases e1 : ts[i]? with
      | none =>
        rw [e1] at e
        cases e
      | some t1 =>
        rw [e1] at e
        obtain ⟨n1, n2⟩ := List.nodup_cons.mp nd
        obtain ⟨x, ex, n, ys, cu, g1, g2, g3, g4, g5, g6, g7, g8⟩ := step xs ts ds t1 r n2 e1 e
        refine ⟨n, ys, cu, ?_, g2, g3, List.mem_cons_of_mem _ g4, fun m hm => List.mem_cons_of_mem _ (g5 m hm), g6, g7, fun M' zs us' cu' k hn' r' nd' nn dd => ?_⟩
        · unfold subX
          simp only [hn0, ex]
          exact g1
        · obtain ⟨ds', o', nc', kc'⟩ := g8 M' zs us' cu' (fun m k2 hm => k m k2 (List.mem_cons_of_mem _ hm)) hn' r' nd' nn (fun m hm => (dd m hm).imp id fun z y => z (List.mem_cons_of_mem _ y))
          have h0 : M'[n0]? = some (.lst xs) := k n0 _ List.mem_cons_self (fun z => n1 (by rw [z]; exact g4)) (fun z => n1 (g5 n0 z)) hn0
          refine ⟨n0 :: ds', ?_, List.nodup_cons.mpr ⟨fun z => ?_, nc'⟩, fun m hm => ?_⟩
          · unfold putV
            simp only [e1]
            exact .lst h0 o'
          · rcases kc' n0 z with y | y
            · exact n1 y
            · rcases dd n0 y with y | y
              · exact n1 (g5 n0 y)
              · exact y List.mem_cons_self
          · rcases List.mem_cons.mp hm with e | hm
            · exact .inl (by rw [e]; exact List.mem_cons_self)
            · exact (kc' m hm).imp (List.mem_cons_of_mem _) id
    | @tup xs ts _ r =>
      unfold subV at e
      cases e1 : ts[i]? with
      | none =>
        rw [e1] at e
        cases e
      | some t1 =>
        rw [e1] at e
        obtain ⟨x, ex, n, ys, cu, g1, g2, g3, g4, g5, g6, g7, g8⟩ := step xs ts cs t1 r nd e1 e
        refine ⟨n, ys, cu, ?_, g2, g3, g4, g5, g6, g7, fun M' zs us' cu' k hn' r' nd' nn dd => ?_⟩
        · unfold subX
          simp only [ex]
          exact g1
        · obtain ⟨ds', o', nc', kc'⟩ := g8 M' zs us' cu' k hn' r' nd' nn dd
          refine ⟨ds', ?_, nc', kc'⟩
          unfold putV
          simp only [e1]
          exact .tup o'
    | _ => cases e
end Mn
end
section
set_option Elab.async false
set_option autoImplicit false
set_option maxRecDepth 100000
set_option linter.all false
namespace Mn
def kqPi (t : V) (k : Nat → V → PR (List Nat)) : PR W → PR (List Nat)
  | .ok w => match w.t with
    | .int i => match qLsT t with
      | some ts => match atIx ts.length i with
        | some m => match ts[m]? with
          | some u => k m u
          | none => .bad
        | none => .bad
      | none => .bad
    | _ => .bad
  | _ => .bad
where qLsT : V → Option (List V)
  | .lst xs => some xs
  | .tup xs => some xs
  | _ => none
def kqPm (m : Nat) : PR (List Nat) → PR (List Nat)
  | .ok p => .ok (m :: p)
  | .exc c => .exc c
  | .bad => .bad
def pPath : List PE → PEnv → V → PR (List Nat)
  | [], _, _ => .ok []
  | i :: is, π, t => kqPi t (fun m u => kqPm m (pPath is π u)) (i π)
end Mn
end
section
set_option Elab.async false
set_option autoImplicit false
set_option maxRecDepth 100000
set_option linter.all false
namespace Mn
def subDOf (j : Nat) (π : PEnv) (t : V) (p : List Nat) (w : W) : PR W → PRS
  | .ok i => match subV p t, i.t with
    | some (.lst us), .int k => match atIx us.length k with
      | some m => if dOk w = true then .nx (π.set j (some ⟨.dr, false, putV p t (.lst (us.set m w.t))⟩)) else .bad
      | none => .bad
    | _, _ => .bad
  | _ => .bad
def kqSubDp (j : Nat) (π : PEnv) (t : V) (i : PE) (w : W) : PR (List Nat) → PRS
  | .ok p => subDOf j π t p w (i π)
  | _ => .bad
def kqSubD (j : Nat) (is : List PE) (i : PE) (π : PEnv) : PR W → PRS
  | .ok w => match ownD j π with
    | some t => kqSubDp j π t i w (pPath is π t)
    | none => .bad
  | .exc c => .exc c π
  | .bad => .bad
def pSubD (j : Nat) (is : List PE) (i e : PE) : PS := fun π => kqSubD j is i π (e π)
theorem Owl.setD {M M' : Store} {xs : List Val} {us : List V} {cu ca : List Nat} {m : Nat} {a : Val} {w : V} (h : Owl M xs us cu) (hm : m < us.length) (nd : cu.Nodup) (oa : Ow M' a w ca) (na : ca.Nodup) (dis : ∀ n ∈ ca, n ∉ cu) (st : ∀ n k, n ∈ cu → M[n]? = some k → M'[n]? = some k) :
    ∃ cu', Owl M' (xs.set m a) (us.set m w) cu' ∧ cu'.Nodup ∧ ∀ n ∈ cu', n ∈ cu ∨ n ∈ ca := by
  obtain ⟨x, p, c, q, e1, o, rfl, f⟩ := Owl.split h (List.getElem?_eq_getElem hm)
  have inc : ∀ n, n ∈ p ∨ n ∈ q → n ∈ p ++ c ++ q := fun n hn => by
    rcases hn with hn | hn
    · exact List.mem_append_left _ (List.mem_append_left _ hn)
    · exact List.mem_append_right _ hn
  refine ⟨p ++ ca ++ q, f M' a w ca (fun n k hn e => st n k (inc n hn) e) oa, nodup_mid nd na fun n hn => .inr ⟨fun z => dis n hn (inc n (.inl z)), fun z => dis n hn (inc n (.inr z))⟩, fun n hn => ?_⟩
  rcases List.mem_append.mp hn with hn | hn
  · rcases List.mem_append.mp hn with hn | hn
    · exact .inl (inc n (.inl hn))
    · exact .inr hn
  · exact .inl (inc n (.inr hn))
theorem RV.any {B : Nat} {Pa O : Nat → Prop} {M : Store} {v : Val} {w : W} (h : RV B Pa O M v w) : Rq (fun _ => True) M v w.t := by
  obtain ⟨fl, tn, t⟩ := w
  cases fl with
  | dr =>
    obtain ⟨cs, a, _⟩ := h
    exact a.rq fun _ _ => trivial
  | fr => exact RW.any (O := O) (L := B) (w := ⟨.fr, tn, t⟩) h
  | fz => exact RW.any (O := O) (L := B) (w := ⟨.fz, tn, t⟩) h
  | bo => exact RW.any (O := O) (L := B) (w := ⟨.bo, tn, t⟩) h
  | bd => exact RW.any (O := O) (L := B) (w := ⟨.bd, tn, t⟩) h
theorem Owl.swap {M M' : Store} {xs : List Val} {us : List V} {cs : List Nat} {m n : Nat} {x y : Val} {t u : V} (h : Owl M xs us cs) (nd : cs.Nodup) (hm : us[m]? = some t) (hn : us[n]? = some u) (hx : xs[m]? = some x) (hy : xs[n]? = some y) (st : ∀ l k, l ∈ cs → M[l]? = some k → M'[l]? = some k) :
    ∃ cs', Owl M' ((xs.set m y).set n x) ((us.set m u).set n t) cs' ∧ cs'.Nodup ∧ ∀ l ∈ cs', l ∈ cs := by
  by_cases e : m = n
  · subst e
    rw [hm] at hn
    cases hn
    rw [hx] at hy
    cases hy
    have s1 : ∀ {α : Type} {zs : List α} {z : α}, zs[m]? = some z → (zs.set m z).set m z = zs := fun {α zs z} hz => by
      rw [List.set_set]
      refine List.ext_getElem? fun i => ?_
      rw [List.getElem?_set]
      split
      · rename_i q
        subst q
        rw [hz]
        split
        · rfl
        · rename_i q
          exact absurd (List.getElem?_eq_some_iff.mp hz).1 q
      · rfl
    rw [s1 hx, s1 hm]
    exact ⟨cs, h.map st, nd, fun l hl => hl⟩
  · -- take both out, put both in
    obtain ⟨x', a, c, b, e1, o, rfl, f⟩ := Owl.split h hm
    rw [hx] at e1
    cases e1
    have ndc : c.Nodup ∧ ∀ l ∈ c, l ∉ a ∧ l ∉ b := by
      rw [List.append_assoc, List.nodup_append] at nd
      obtain ⟨_, q2, q3⟩ := nd
      exact ⟨(List.nodup_append.mp q2).1, fun l hl => ⟨fun z => q3 l z l (List.mem_append_left _ hl) rfl, fun z => (List.nodup_append.mp q2).2.2 l hl l z rfl⟩⟩
    have inc : ∀ l, l ∈ c → l ∈ a ++ c ++ b := fun l hl => List.mem_append_left _ (List.mem_append_right _ hl)
    have inab : ∀ l, l ∈ a ∨ l ∈ b → l ∈ a ++ c ++ b := fun l hl => by
      rcases hl with hl | hl
      · exact List.mem_append_left _ (List.mem_append_left _ hl)
      · exact List.mem_append_right _ hl
    -- a hole: the number 0
    have h1 := f M (.int 0) (.int 0) [] (fun l k _ e => e) (.int 0)
    rw [List.append_nil] at h1
    have nd1 : (a ++ b).Nodup := by
      rw [List.append_assoc, List.nodup_append] at nd
      obtain ⟨q1, q2, q3⟩ := nd
      exact List.nodup_append.mpr ⟨q1, (List.nodup_append.mp q2).2.1, fun x hx y hy => q3 x hx y (List.mem_append_right _ hy)⟩
    have hn1 : (us.set m (.int 0))[n]? = some u := by rw [List.getElem?_set_ne e]; exact hn
    obtain ⟨y', p, d, q, e2, o2, e3, f2⟩ := Owl.split h1 hn1
    rw [List.getElem?_set_ne e, hy] at e2
    cases e2
    have h2 := f2 M x t c (fun l k _ e => e) o
    have dab : ∀ l, l ∈ p ++ d ++ q → l ∈ a ++ c ++ b := fun l hl => by
      rw [← e3] at hl
      exact inab l (List.mem_append.mp hl)
    rw [e3] at nd1
    have nd2 : (p ++ c ++ q).Nodup := nodup_mid nd1 ndc.1 fun l hl => .inr ⟨fun z => by
        have : l ∈ a ++ b := by rw [e3]; exact List.mem_append_left _ (List.mem_append_left _ z)
        rcases List.mem_append.mp this with w | w
        · exact (ndc.2 l hl).1 w
        · exact (ndc.2 l hl).2 w, fun z => by
        have : l ∈ a ++ b := by rw [e3]; exact List.mem_append_right _ z
        rcases List.mem_append.mp this with w | w
        · exact (ndc.2 l hl).1 w
        · exact (ndc.2 l hl).2 w⟩
    have hl : m < ((us.set m (.int 0)).set n t).length := by
      rw [List.length_set, List.length_set]
      exact (List.getElem?_eq_some_iff.mp hm).1
    have ndd : d.Nodup := by
      rw [List.append_assoc, List.nodup_append] at nd1
      exact (List.nodup_append.mp nd1.2.1).1
    have dd : ∀ l ∈ d, l ∉ p ++ c ++ q := fun l hl z => by
      have nd1' := nd1
      rw [List.append_assoc, List.nodup_append] at nd1'
      obtain ⟨_, q2, q3⟩ := nd1'
      rcases List.mem_append.mp z with z | z
      · rcases List.mem_append.mp z with z | z
        · exact q3 l z l (List.mem_append_left _ hl) rfl
        · have : l ∈ a ++ b := by rw [e3]; exact List.mem_append_left _ (List.mem_append_right _ hl)
          rcases List.mem_append.mp this with w | w
          · exact (ndc.2 l z).1 w
          · exact (ndc.2 l z).2 w
      · exact (List.nodup_append.mp q2).2.2 l hl l z rfl
    have alld : ∀ l, l ∈ d → l ∈ a ++ c ++ b := fun l hl => dab l (List.mem_append_left _ (List.mem_append_right _ hl))
    have allp : ∀ l, l ∈ p ++ c ++ q → l ∈ a ++ c ++ b := fun l hl => by
      rcases List.mem_append.mp hl with hl | hl
      · rcases List.mem_append.mp hl with hl | hl
        · exact dab l (List.mem_append_left _ (List.mem_append_left _ hl))
        · exact inc l hl
      · exact dab l (List.mem_append_right _ hl)
    obtain ⟨cu', o3, nd3, kc⟩ := Owl.setD (M := M) (M' := M') (m := m) (a := y) (w := u) h2 hl nd2 (o2.map fun l k hl e => st l k (alld l hl) e) ndd dd (fun l k hl e => st l k (allp l hl) e)
    refine ⟨cu', ?_, nd3, fun l hl => (kc l hl).elim (allp l) (alld l)⟩
    have s2 : ∀ {α : Type} (zs : List α) (p q r : α), ((zs.set m p).set n q).set m r = (zs.set m r).set n q := fun {α} zs p q r => by
      rw [List.set_comm _ _ e, List.set_set, List.set_comm _ _ (Ne.symm e)]
    rw [s2, s2] at o3
    exact o3
end Mn
end
section
set_option Elab.async false
set_option autoImplicit false
set_option maxRecDepth 100000
set_option linter.all false
namespace Mn
end Mn
namespace Mn
end Mn
namespace Mn
def frzAll (π : PEnv) : PEnv := π.map fzO
def kqTmp : PR W → PR W
  | .ok w => if dOk w = true then .ok w else .bad
  | .exc c => .exc c
  | .bad => .bad
def pTmp (p : PE) : PE := fun π => kqTmp (p (frzAll π))
end Mn
end
section
set_option Elab.async false
set_option autoImplicit false
set_option linter.all false
namespace Mn
end Mn
end
section
set_option Elab.async false
set_option autoImplicit false
set_option maxRecDepth 100000
set_option linter.all false
namespace Mn
end Mn
end
section
set_option Elab.async false
set_option autoImplicit false
set_option maxRecDepth 100000
set_option linter.all false
namespace Mn
theorem Rql.reverse {P : Nat → Prop} {M : Store} : ∀ {xs : List Val} {ts : List V}, Rql P M xs ts → Rql P M xs.reverse ts.reverse
  | _, _, .nil => .nil
  | _, _, .cons r1 r2 => by
    rw [List.reverse_cons, List.reverse_cons]
    exact (Rql.reverse r2).append (.cons r1 .nil)
end Mn
end
section
set_option Elab.async false
set_option autoImplicit false
set_option maxRecDepth 100000
set_option linter.all false
namespace Mn
structure OpK (f : List Val → List Val) (g : List V → List V) (ok : List V → Bool) : Prop where
  ow : ∀ {M M' : Store} {xs : List Val} {us : List V} {cu : List Nat}, ok us = true → cu.Nodup → Owl M xs us cu → (∀ m k, m ∈ cu → M[m]? = some k → M'[m]? = some k) → ∃ cu', Owl M' (f xs) (g us) cu' ∧ cu'.Nodup ∧ ∀ m ∈ cu', m ∈ cu
def addD : V → V → PR W
  | .lst us, .lst vs => if us.length + vs.length ≤ szLine then .ok ⟨.dr, false, .lst (us ++ vs)⟩ else .bad
  | _, _ => .bad
end Mn
end
section
set_option Elab.async false
set_option autoImplicit false
set_option maxRecDepth 100000
set_option linter.all false
namespace Mn
theorem RW.obj {B L : Nat} {Pa O : Nat → Prop} {M : Store} {v : Val} {w : W} (h : RW B Pa O L M v w) {c : String} {ks : List String} {ts : List V} (e : w.t = .obj c ks ts) : ∃ n fs, v = .ref n ∧ M[n]? = some (.obj c fs) ∧ ks = fs.map (·.1) ∧ RE B Pa O (isD w.fl) w.tn M (fs.map (·.2)) ts := by
  obtain ⟨fl, tn, t⟩ := w
  simp only at e
  subst e
  unfold RW at h
  unfold RE
  cases fl with
  | fr =>
    obtain ⟨n, xs, us, rfl, b, c, d, f⟩ := h
    cases d
  | dr =>
    obtain ⟨cs, a, b, d⟩ := h
    have av : ∀ n ∈ cs, Av O B Pa tn n := fun n hn => ⟨(d n hn).2.1, (d n hn).2.2.imp id fun z => by cases z.1⟩
    generalize hT : V.obj c ks ts = T at a
    cases a with
    | obj h1 r =>
      cases hT
      exact ⟨_, _, rfl, h1, rfl, Owl.rq r fun m hm => av m (List.mem_cons_of_mem _ hm)⟩
    | _ => cases hT
  | bo =>
    obtain ⟨n, xs, us, rfl, b, c, d, f⟩ := h
    cases d
  | fz =>
    have h : Rq (Av O B Pa tn) M v (.obj c ks ts) := h
    generalize hT : V.obj c ks ts = T at h
    cases h with
    | obj a b r =>
      cases hT
      exact ⟨_, _, rfl, a, rfl, r⟩
    | _ => cases hT
  | bd =>
    have h : Rq (Lv B Pa tn) M v (.obj c ks ts) := h
    generalize hT : V.obj c ks ts = T at h
    cases h with
    | obj a b r =>
      cases hT
      exact ⟨_, _, rfl, a, rfl, r⟩
    | _ => cases hT
theorem Rql.lookup {P : Nat → Prop} {M : Store} {f : String} {t : V} : ∀ {fs : List (String × Val)} {ts : List V}, Rql P M (fs.map (·.2)) ts → ((fs.map (·.1)).zip ts).lookup f = some t → ∃ v, fs.lookup f = some v ∧ Rq P M v t
  | [], _, .nil, h => by cases h
  | (g, y) :: r, _, .cons (t := u) (ts := ts) h rs, e => by
    rw [List.map_cons, List.zip_cons_cons, List.lookup_cons] at e
    rw [List.lookup_cons]
    cases q : f == g with
    | true =>
      rw [q] at e
      cases e
      exact ⟨_, rfl, h⟩
    | false =>
      rw [q] at e
      exact Rql.lookup rs e
def putK (f : String) : List String → List String
  | [] => [f]
  | g :: r => if g = f then g :: r else g :: putK f r
def putT (f : String) (t : V) : List String → List V → List V
  | [], _ => [t]
  | g :: r, y :: ys => if g = f then t :: ys else y :: putT f t r ys
  | _ :: _, [] => [t]
theorem Owl.put {M M' : Store} {f : String} {x : Val} {t : V} {ca : List Nat} (oa : Ow M' x t ca) (na : ca.Nodup) : ∀ {fs : List (String × Val)} {ts : List V} {cs : List Nat}, Owl M (fs.map (·.2)) ts cs → cs.Nodup → (∀ n ∈ ca, n ∉ cs) → (∀ n k, n ∈ cs → M[n]? = some k → M'[n]? = some k) →
    ∃ cs', Owl M' ((putM f x fs).map (·.2)) (putT f t (fs.map (·.1)) ts) cs' ∧ cs'.Nodup ∧ ∀ n ∈ cs', n ∈ cs ∨ n ∈ ca
  | [], _, _, .nil, nd, d, st => ⟨ca ++ [], .cons oa .nil, by rw [List.append_nil]; exact na, fun n hn => .inr (by simpa using hn)⟩
  | (g, y) :: r, _, _, .cons (t := u) (ts := us) (a := a) (b := b) o rs, nd, d, st => by
    obtain ⟨n1, n2, n3⟩ := List.nodup_append.mp nd
    unfold putM
    rw [List.map_cons]
    unfold putT
    by_cases h : g = f
    · rw [if_pos h, if_pos h]
      exact ⟨ca ++ b, .cons oa (rs.map fun m k hm e => st m k (List.mem_append_right _ hm) e), nodup_app na n2 fun n h1 h2 => d n h1 (List.mem_append_right _ h2), fun n hn => (List.mem_append.mp hn).elim .inr fun z => .inl (List.mem_append_right _ z)⟩
    · rw [if_neg h, if_neg h]
      obtain ⟨cs', o', nd', k'⟩ := Owl.put oa na (f := f) rs n2 (fun n hn z => d n hn (List.mem_append_right _ z)) fun n k hn e => st n k (List.mem_append_right _ hn) e
      refine ⟨a ++ cs', .cons (o.map fun m k hm e => st m k (List.mem_append_left _ hm) e) o', nodup_app n1 nd' fun n h1 h2 => ?_, fun n hn => ?_⟩
      · rcases k' n h2 with z | z
        · exact n3 n h1 n z rfl
        · exact d n z (List.mem_append_left _ h1)
      · rcases List.mem_append.mp hn with hn | hn
        · exact .inl (List.mem_append_left _ hn)
        · exact (k' n hn).imp (List.mem_append_right _) id
structure Kp (i : Nat) (s : St) : Prop where
  go : ∀ (ρ : Env) (M : Store) (ρ' : Env) (M' : Store), s ρ M = .nx ρ' M' → ρ'[i]? = ρ[i]?
inductive SimTb : List (String × Fn) → List (String × PF) → Prop
  | nil : SimTb [] []
  | cons {c : String} {F : Fn} {G : PF} {fs : List (String × Fn)} {gs : List (String × PF)} : SimF F G → SimTb fs gs → SimTb ((c, F) :: fs) ((c, G) :: gs)
theorem SimTb.at {c : String} : ∀ {fs : List (String × Fn)} {gs : List (String × PF)} {G : PF}, SimTb fs gs → gs.lookup c = some G → ∃ F, fs.lookup c = some F ∧ SimF F G
  | _, _, _, .nil, h => by cases h
  | _, _, G, .cons (c := d) hf hr, h => by
    rw [List.lookup_cons] at h ⊢
    cases q : c == d with
    | true =>
      rw [q] at h
      cases h
      exact ⟨_, rfl, hf⟩
    | false =>
      rw [q] at h
      exact SimTb.at hr h
end Mn
end
section
set_option Elab.async false
set_option autoImplicit false
set_option maxRecDepth 100000
set_option linter.all false
set_option maxHeartbeats 400000
namespace Z
open Mn
def v_p_shared.b : PS := pSeq (pAsg 0 (pUn qAbs (pVar 0))) (pSeq (pAsgF 1 (pUn qAbs (pVar 1))) (pSeq (pWhile [2] (pBin qNe (pVar 1) (pC (.int 0))) (pSeq (pAsgF 2 (pBin qMod (pVar 0) (pVar 1))) (pSeq (pAsg 0 (pVar 1)) (pAsgF 1 (pVar 2))))) (pRet (pVar 0))))
def v_p_shared : PF := pFn 2 3 v_p_shared.b
theorem s_p_shared : SimF p_shared v_p_shared := sf_fn 2 3 (show SimS p_shared.b v_p_shared.b from ss_seq (ss_asg _ (sx_un (su_abs) (nu_abs) (sx_var 0))) (ss_seq (ss_asgF _ (sx_un (su_abs) (nu_abs) (sx_var 1))) (ss_seq (ss_while _ (sx_bin (so_ne) (nx_eqG _) (sx_var 1) (sx_c _)) (ss_seq (ss_asgF _ (sx_bin (so_mod) (nx_int _ _) (sx_var 0) (sx_var 1))) (ss_seq (ss_asg _ (sx_var 1)) (ss_asgF _ (sx_var 2))))) (ss_ret (sx_var 0)))))
def v_l_whole.b : PS := pRet (pAnd (pUn (qIs ["int"]) (pVar 0)) (pNot (pUn (qIs ["bool"]) (pVar 0))))
def v_l_whole : PF := pFn 1 1 v_l_whole.b
theorem s_l_whole : SimF l_whole v_l_whole := sf_fn 1 1 (show SimS l_whole.b v_l_whole.b from ss_ret (sx_and (sx_un (su_is _) (nu_is _) (sx_var 0)) (sx_not (sx_un (su_is _) (nu_is _) (sx_var 0)))))
def v_l_shared.b : PS := pSeq (pAsg 0 (pUn qAbs (pVar 0))) (pSeq (pWhile [] (pBin qNe (pVar 1) (pC (.int 0))) (pPar 0 1 (pVar 1) (pBin qMod (pVar 0) (pVar 1)))) (pRet (pVar 0)))
def v_l_shared : PF := pFn 2 2 v_l_shared.b
theorem s_l_shared : SimF l_shared v_l_shared := sf_fn 2 2 (show SimS l_shared.b v_l_shared.b from ss_seq (ss_asg _ (sx_un (su_abs) (nu_abs) (sx_var 0))) (ss_seq (ss_while _ (sx_bin (so_ne) (nx_eqG _) (sx_var 1) (sx_c _)) (ss_par _ _ (sx_var 1) (sx_bin (so_mod) (nx_int _ _) (sx_var 0) (sx_var 1)))) (ss_ret (sx_var 0))))
def v_l_made.b : PS := pSeq (pAsgF 2 (pCall v_l_shared [pVar 0, pVar 1])) (pRet (pTup [pBin qDiv (pVar 0) (pVar 2), pBin qDiv (pVar 1) (pVar 2)]))
def v_l_made : PF := pFn 2 3 v_l_made.b
theorem s_l_made : SimF l_made v_l_made := sf_fn 2 3 (show SimS l_made.b v_l_made.b from ss_seq (ss_asgF _ (sx_call s_l_shared (.cons (sx_var 0) (.cons (sx_var 1) (.nil))))) (ss_ret (sx_tup (.cons (sx_bin (so_div) (nx_int _ _) (sx_var 0) (sx_var 2)) (.cons (sx_bin (so_div) (nx_int _ _) (sx_var 1) (sx_var 2)) (.nil))))))
def v_l_ratio.b : PS := pSeq (pAsgF 1 (pBin qMod (pVar 0) (pC (.int 8)))) (pSeq (pAsgF 0 (pBin qDiv (pVar 0) (pC (.int 8)))) (pSeq (pIf (pBin qEq (pVar 1) (pC (.int 0))) (pRet (pCall v_l_made [pBin qSub (pBin qMod (pVar 0) (pBin qAdd (pBin qMul (pC (.int 2)) (pBin qPow (pC (.int 10)) (pC (.int 20)))) (pC (.int 1)))) (pBin qPow (pC (.int 10)) (pC (.int 20))), pC (.int 1)])) (pPass)) (pSeq (pIf (pBin qEq (pVar 1) (pC (.int 1))) (pRet (pCall v_l_made [pBin qSub (pBin qMod (pVar 0) (pBin qAdd (pBin qMul (pC (.int 2)) (pBin qPow (pC (.int 10)) (pC (.int 30)))) (pC (.int 1)))) (pBin qPow (pC (.int 10)) (pC (.int 30))), pBin qAdd (pC (.int 1)) (pBin qMod (pBin qDiv (pVar 0) (pBin qPow (pC (.int 10)) (pC (.int 31)))) (pBin qPow (pC (.int 10)) (pC (.int 30))))])) (pPass)) (pRet (pCall v_l_made [pBin qSub (pBin qMod (pVar 0) (pC (.int 19))) (pC (.int 9)), pBin qIx (pLst [pC (.int 1), pC (.int 1), pC (.int 1), pC (.int 2), pC (.int 3), pC (.int 4), pC (.int 6), pC (.int 12)]) (pBin qMod (pBin qDiv (pVar 0) (pC (.int 19))) (pC (.int 8)))])))))
def v_l_ratio : PF := pFn 1 2 v_l_ratio.b
theorem s_l_ratio : SimF l_ratio v_l_ratio := sf_fn 1 2 (show SimS l_ratio.b v_l_ratio.b from ss_seq (ss_asgF _ (sx_bin (so_mod) (nx_int _ _) (sx_var 0) (sx_c _))) (ss_seq (ss_asgF _ (sx_bin (so_div) (nx_int _ _) (sx_var 0) (sx_c _))) (ss_seq (ss_if (sx_bin (so_eq) (nx_eqG _) (sx_var 1) (sx_c _)) (ss_ret (sx_call s_l_made (.cons (sx_bin (so_sub) (nx_int _ _) (sx_bin (so_mod) (nx_int _ _) (sx_var 0) (sx_bin (so_add) (nx_add) (sx_bin (so_mul) (nx_mul) (sx_c _) (sx_bin (so_pow) (nx_int _ _) (sx_c _) (sx_c _))) (sx_c _))) (sx_bin (so_pow) (nx_int _ _) (sx_c _) (sx_c _))) (.cons (sx_c _) (.nil))))) (ss_pass)) (ss_seq (ss_if (sx_bin (so_eq) (nx_eqG _) (sx_var 1) (sx_c _)) (ss_ret (sx_call s_l_made (.cons (sx_bin (so_sub) (nx_int _ _) (sx_bin (so_mod) (nx_int _ _) (sx_var 0) (sx_bin (so_add) (nx_add) (sx_bin (so_mul) (nx_mul) (sx_c _) (sx_bin (so_pow) (nx_int _ _) (sx_c _) (sx_c _))) (sx_c _))) (sx_bin (so_pow) (nx_int _ _) (sx_c _) (sx_c _))) (.cons (sx_bin (so_add) (nx_add) (sx_c _) (sx_bin (so_mod) (nx_int _ _) (sx_bin (so_div) (nx_int _ _) (sx_var 0) (sx_bin (so_pow) (nx_int _ _) (sx_c _) (sx_c _))) (sx_bin (so_pow) (nx_int _ _) (sx_c _) (sx_c _)))) (.nil))))) (ss_pass)) (ss_ret (sx_call s_l_made (.cons (sx_bin (so_sub) (nx_int _ _) (sx_bin (so_mod) (nx_int _ _) (sx_var 0) (sx_c _)) (sx_c _)) (.cons (sx_bin (so_ix) (nx_ix) (sx_lst (.cons (sx_c _) (.cons (sx_c _) (.cons (sx_c _) (.cons (sx_c _) (.cons (sx_c _) (.cons (sx_c _) (.cons (sx_c _) (.cons (sx_c _) (.nil)))))))))) (sx_bin (so_mod) (nx_int _ _) (sx_bin (so_div) (nx_int _ _) (sx_var 0) (sx_c _)) (sx_c _))) (.nil)))))))))
def v_p_is_ratio.b : PS := pSeq (pIf (pOr (pNot (pUn (qIs ["tuple"]) (pVar 0))) (pOr (pBin qNe (pUn qLen (pVar 0)) (pC (.int 2))) (pOr (pNot (pCall v_l_whole [pBin qIx (pVar 0) (pC (.int 0))])) (pNot (pCall v_l_whole [pBin qIx (pVar 0) (pC (.int 1))]))))) (pRet (pC (.bl false))) (pPass)) (pRet (pAnd (pBin qGt (pBin qIx (pVar 0) (pC (.int 1))) (pC (.int 0))) (pBin qEq (pCall v_p_shared [pBin qIx (pVar 0) (pC (.int 0)), pBin qIx (pVar 0) (pC (.int 1))]) (pC (.int 1)))))
def v_p_is_ratio : PF := pFn 1 1 v_p_is_ratio.b
theorem s_p_is_ratio : SimF p_is_ratio v_p_is_ratio := sf_fn 1 1 (show SimS p_is_ratio.b v_p_is_ratio.b from ss_seq (ss_if (sx_or (sx_not (sx_un (su_is _) (nu_is _) (sx_var 0))) (sx_or (sx_bin (so_ne) (nx_eqG _) (sx_un (su_len) (nu_len) (sx_var 0)) (sx_c _)) (sx_or (sx_not (sx_call s_l_whole (.cons (sx_bin (so_ix) (nx_ix) (sx_var 0) (sx_c _)) (.nil)))) (sx_not (sx_call s_l_whole (.cons (sx_bin (so_ix) (nx_ix) (sx_var 0) (sx_c _)) (.nil))))))) (ss_ret (sx_c _)) (ss_pass)) (ss_ret (sx_and (sx_bin (so_gt) (nx_int _ _) (sx_bin (so_ix) (nx_ix) (sx_var 0) (sx_c _)) (sx_c _)) (sx_bin (so_eq) (nx_eqG _) (sx_call s_p_shared (.cons (sx_bin (so_ix) (nx_ix) (sx_var 0) (sx_c _)) (.cons (sx_bin (so_ix) (nx_ix) (sx_var 0) (sx_c _)) (.nil)))) (sx_c _)))))
def v_l_due_4.b : PS := pSeq (pIf (pOr (pNot (pUn (qIs ["tuple"]) (pVar 0))) (pOr (pBin qNe (pUn qLen (pVar 0)) (pC (.int 2))) (pOr (pNot (pCall v_l_whole [pBin qIx (pVar 0) (pC (.int 0))])) (pNot (pCall v_l_whole [pBin qIx (pVar 0) (pC (.int 1))]))))) (pRet (pC (.bl false))) (pPass)) (pRet (pAnd (pBin qGt (pBin qIx (pVar 0) (pC (.int 1))) (pC (.int 0))) (pBin qEq (pCall v_l_shared [pBin qIx (pVar 0) (pC (.int 0)), pBin qIx (pVar 0) (pC (.int 1))]) (pC (.int 1)))))
def v_l_due_4 : PF := pFn 1 1 v_l_due_4.b
end Z
end
section
set_option Elab.async false
set_option autoImplicit false
set_option linter.all false
set_option maxRecDepth 100000
set_option maxHeartbeats 2000000
namespace Y
open Mn
abbrev Ok (q : Rat) : Prop := Sz 4500 q
def OkA (qs : List Rat) : Prop := ∀ q ∈ qs, Ok q
theorem OkA.at {qs : List Rat} (h : OkA qs) {i : Nat} {q : Rat} (e : qs[i]? = some q) : Ok q := h q (List.mem_of_getElem? e)
def Qd (D N : Nat) (q : Rat) : Prop := ∃ z : Int, z.natAbs ≤ N ∧ q * (D : Rat) = (z : Rat)
theorem natc_ne {D : Nat} (h : 0 < D) : (D : Rat) ≠ 0 := by
  intro e
  have : ((D : Int) : Rat) = ((0 : Int) : Rat) := by simpa using e
  have := Rat.intCast_inj.mp this
  omega
theorem Qd.eq {D N : Nat} {q : Rat} (hD : 0 < D) (h : Qd D N q) : ∃ z : Int, z.natAbs ≤ N ∧ q = Rat.divInt z D := by
  obtain ⟨z, h1, h2⟩ := h
  refine ⟨z, h1, ?_⟩
  rw [Rat.divInt_eq_div]
  have := natc_ne hD
  have e : ((D : Int) : Rat) = (D : Rat) := Rat.intCast_natCast D
  rw [e]
  grind
theorem Qd.sz {D N n : Nat} {q : Rat} (hD : 0 < D) (h1 : D < 2 ^ n) (h2 : N < 2 ^ n) (h : Qd D N q) : Sz n q := by
  obtain ⟨z, hz, rfl⟩ := h.eq hD
  refine sz_divInt (by omega) (Nat.lt_of_le_of_lt hz h2) ?_
  unfold Lt2
  rw [Int.natAbs_natCast]
  exact h1
theorem Qd.mono {D N M : Nat} {q : Rat} (h : Qd D N q) (k : N ≤ M) : Qd D M q := by
  obtain ⟨z, h1, h2⟩ := h
  exact ⟨z, Nat.le_trans h1 k, h2⟩
theorem Qd.zero (D N : Nat) : Qd D N 0 := ⟨0, Nat.zero_le _, by rw [Rat.zero_mul]; rfl⟩
theorem Qd.one (D : Nat) : Qd D D 1 := ⟨D, by rw [Int.natAbs_natCast]; exact Nat.le_refl _, by rw [Rat.one_mul, Rat.intCast_natCast]⟩
theorem Qd.neg {D N : Nat} {q : Rat} (h : Qd D N q) : Qd D N (-q) := by
  obtain ⟨z, h1, h2⟩ := h
  exact ⟨-z, by rw [Int.natAbs_neg]; exact h1, by rw [Rat.neg_mul, h2, Rat.intCast_neg]⟩
theorem Qd.add {D N M : Nat} {p q : Rat} (h : Qd D N p) (k : Qd D M q) : Qd D (N + M) (p + q) := by
  obtain ⟨z, h1, h2⟩ := h
  obtain ⟨w, k1, k2⟩ := k
  exact ⟨z + w, by omega, by rw [Rat.add_mul, h2, k2, Rat.intCast_add]⟩
theorem natc_mul (D E : Nat) : ((D * E : Nat) : Rat) = (D : Rat) * (E : Rat) := Rat.natCast_mul D E
theorem Qd.mul {D E N M : Nat} {p q : Rat} (h : Qd D N p) (k : Qd E M q) : Qd (D * E) (N * M) (p * q) := by
  obtain ⟨z, h1, h2⟩ := h
  obtain ⟨w, k1, k2⟩ := k
  refine ⟨z * w, by rw [Int.natAbs_mul]; exact Nat.mul_le_mul h1 k1, ?_⟩
  rw [natc_mul, Rat.intCast_mul, ← h2, ← k2]
  grind
theorem Qd.int (z : Int) : Qd 1 z.natAbs (z : Rat) := ⟨z, Nat.le_refl _, by rw [show ((1 : Nat) : Rat) = 1 from rfl, Rat.mul_one]⟩
theorem Qd.divInt {z : Int} {D : Nat} (hD : 0 < D) : Qd D z.natAbs (Rat.divInt z D) := by
  refine ⟨z, Nat.le_refl _, ?_⟩
  rw [Rat.divInt_eq_div, Rat.intCast_natCast]
  have := natc_ne hD
  grind
def QdA (D N : Nat) (qs : List Rat) : Prop := ∀ q ∈ qs, Qd D N q
theorem QdA.at {D N : Nat} {qs : List Rat} (h : QdA D N qs) {i : Nat} {q : Rat} (e : qs[i]? = some q) : Qd D N q := h q (List.mem_of_getElem? e)
theorem QdA.ok {D N : Nat} {qs : List Rat} (hD : 0 < D) (h1 : D < 2 ^ 4500) (h2 : N < 2 ^ 4500) (h : QdA D N qs) : OkA qs := fun q hq => (h q hq).sz hD h1 h2
end Y
end
section
set_option Elab.async false
set_option autoImplicit false
set_option maxRecDepth 100000
set_option linter.all false
namespace Mn
section
variable (π : PEnv) (e i : PE) (w x y : W) (es : List PE)
theorem pTupD_k : pTupD es π = kqTupD (pvL es π) := id rfl
theorem pLstD_k : pLstD es π = kqLstD (pvL es π) := id rfl
theorem kqLstD_0 : kqLstD (.ok []) = .ok ⟨.dr, false, .lst []⟩ := id rfl
theorem pLcD_k (s : PSrc) (t : PT) (vs : List Nat) (c e : PE) : pLcD s t vs c e π = kqLcD t c e (killP π vs) (s π) := id rfl
theorem dOk_r (tn : Bool) (qs : List Rat) : dOk ⟨.fr, tn, vr qs⟩ = true := by
  show (!V.hasLs (qs.map vq)) = true
  rw [hLs_q]
  rfl
theorem pSubD_k (j : Nat) (is : List PE) : pSubD j is i e π = kqSubD j is i π (e π) := id rfl
end
theorem pTmp_k (p : PE) (π : PEnv) : pTmp p π = kqTmp (p (frzAll π)) := id rfl
theorem frzAll_nil : frzAll [] = [] := id rfl
theorem frzAll_cons (o : Option W) (π : PEnv) : frzAll (o :: π) = fzO o :: frzAll π := id rfl
theorem kqTmp_ok {w : W} (h : dOk w = true) : kqTmp (.ok w) = .ok w := if_pos h
theorem kqTmp_bl (b : Bool) : kqTmp (.ok (.at (.bl b))) = .ok (.at (.bl b)) := id rfl
theorem kqTmp_int (b : Int) : kqTmp (.ok (.at (.int b))) = .ok (.at (.int b)) := id rfl
theorem kqTmp_q (b : Rat) : kqTmp (.ok (.at (vq b))) = .ok (.at (vq b)) := id rfl
theorem kqTmp_non : kqTmp (.ok (.at .non)) = .ok (.at .non) := id rfl
theorem kqTmp_dr (tn : Bool) (t : V) : kqTmp (.ok ⟨.dr, tn, t⟩) = .ok ⟨.dr, tn, t⟩ := id rfl
theorem kqTmp_r (tn : Bool) (qs : List Rat) : kqTmp (.ok ⟨.fr, tn, vr qs⟩) = .ok ⟨.fr, tn, vr qs⟩ := kqTmp_ok (dOk_r tn qs)
end Mn
end
section
set_option Elab.async false
set_option autoImplicit false
set_option maxRecDepth 100000
set_option linter.all false
namespace Mn
theorem Gr.pre {M M' : Store} (g : Gr M M') {m : Nat} (hm : m < M.length) : M'[m]? = M[m]? := by
  obtain ⟨k, rfl⟩ := g
  exact List.getElem?_append_left hm
structure SimFO (F : Fn) (G : List V → List V → PR W) : Prop where
  go : ∀ (L n : Nat) (M : Store) (xs vs : List Val) (ts us : List V), L ≤ n → M[n]? = some (.lst xs) → Rql (fun _ => False) M xs ts → Rql (fun _ => False) M vs us → match G ts us with
    | .ok w => ∃ v M', F (.ref n :: vs) M = .ok v M' ∧ M.length ≤ M'.length ∧ (∀ m, m < L → M'[m]? = M[m]?) ∧ RF L (fun _ => False) M' v w
    | .exc c => ∃ M', F (.ref n :: vs) M = .exc c M' ∧ M.length ≤ M'.length ∧ (∀ m, m < L → M'[m]? = M[m]?)
    | .bad => True
theorem RF.own {B L : Nat} {Pa O : Nat → Prop} {M M' : Store} {v : Val} {w : W} (c : Cx B Pa O L M) (h : RF L (fun _ => False) M' v w) : RW B Pa O L M' v ⟨w.fl, false, w.t⟩ := by
  obtain ⟨fl, tn, t⟩ := w
  have k : ∀ m, Lv L (fun _ => False) tn m → Av O B Pa false m := fun m p => by
    rcases p with p | ⟨_, p⟩
    · exact ⟨fun o => by have := (c.bnd m o).2; omega, .inl (by have := c.low; omega)⟩
    · exact p.elim
  cases fl with
  | fr =>
    obtain ⟨n, xs, ts, rfl, a, b, d, r⟩ := h
    exact ⟨n, xs, ts, rfl, a, b, d, r.map fun m c p e => ⟨e, p.1, k m p.2⟩⟩
  | dr =>
    obtain ⟨cs, a, b, d⟩ := h
    exact ⟨cs, a, b, fun n hn => ⟨d n hn, k n (.inl (d n hn))⟩⟩
  | fz => exact Rq.map (fun m c p e => ⟨e, k m p⟩) h
  | _ => exact h.elim
end Mn
end
section
set_option Elab.async false
set_option autoImplicit false
set_option maxRecDepth 100000
set_option linter.all false
namespace Mn
def stays (i : Nat) (ρ : Env) : RS → Prop
  | .nx ρ' _ => ρ'[i]? = ρ[i]?
  | .ct ρ' _ => ρ'[i]? = ρ[i]?
  | .bk ρ' _ => ρ'[i]? = ρ[i]?
  | .exc _ ρ' _ => ρ'[i]? = ρ[i]?
  | _ => True
theorem stays.trans {i : Nat} {ρ ρ1 : Env} (e : ρ1[i]? = ρ[i]?) : ∀ {r : RS}, stays i ρ1 r → stays i ρ r
  | .nx _ _, h => Eq.trans h e
  | .ct _ _, h => Eq.trans h e
  | .bk _ _, h => Eq.trans h e
  | .exc _ _ _, h => Eq.trans h e
  | .ret _ _, _ => trivial
  | .bad, _ => trivial
structure Kq (i : Nat) (s : St) : Prop where
  go : ∀ (ρ : Env) (M : Store), stays i ρ (s ρ M)
structure KqT (i : Nat) (t : Tg) : Prop where
  go : ∀ (v : Val) (ρ : Env) (M : Store), stays i ρ (t v ρ M)
theorem stays.st {i : Nat} {ρ : Env} {α : Type} {r : R α} {k : α → Store → RS} (h : ∀ v M, stays i ρ (k v M)) : stays i ρ (r.st ρ k) := by
  cases r with
  | ok v M => exact h v M
  | exc c M => exact rfl
  | bad => exact trivial
inductive KqTs (i : Nat) : List Tg → Prop
  | nil : KqTs i []
  | cons {t : Tg} {ts : List Tg} : KqT i t → KqTs i ts → KqTs i (t :: ts)
theorem KqTs.all {i : Nat} : ∀ {ts : List Tg}, KqTs i ts → ∀ (vs : List Val) (ρ : Env) (M : Store), stays i ρ (tAll ts vs ρ M)
  | [], _, [], ρ, M => rfl
  | [], _, _ :: _, ρ, M => trivial
  | _ :: _, _, [], ρ, M => trivial
  | t :: ts, .cons h r, v :: vs, ρ, M => by
    unfold tAll
    have q := h.go v ρ M
    cases z : t v ρ M with
    | nx ρ1 M1 =>
      rw [z] at q
      exact (KqTs.all r vs ρ1 M1).trans q
    | _ =>
      rw [z] at q
      exact q
def tgk (ks : List Nat) (ρ : Env) : RS → Prop
  | .nx ρ' _ => ρ'.length = ρ.length ∧ ∀ i, i ∉ ks → ρ'[i]? = ρ[i]?
  | _ => True
theorem tgk.trans {ks : List Nat} {ρ ρ1 : Env} (e : ρ1.length = ρ.length ∧ ∀ i, i ∉ ks → ρ1[i]? = ρ[i]?) : ∀ {r : RS}, tgk ks ρ1 r → tgk ks ρ r
  | .nx _ _, h => ⟨h.1.trans e.1, fun i hi => (h.2 i hi).trans (e.2 i hi)⟩
  | .ct _ _, _ => trivial
  | .bk _ _, _ => trivial
  | .exc _ _ _, _ => trivial
  | .ret _ _, _ => trivial
  | .bad, _ => trivial
structure TgK (ks : List Nat) (t : Tg) : Prop where
  go : ∀ (v : Val) (ρ : Env) (M : Store), tgk ks ρ (t v ρ M)
inductive TgKs (ks : List Nat) : List Tg → Prop
  | nil : TgKs ks []
  | cons {t : Tg} {ts : List Tg} : TgK ks t → TgKs ks ts → TgKs ks (t :: ts)
theorem TgKs.all {ks : List Nat} : ∀ {ts : List Tg}, TgKs ks ts → ∀ (vs : List Val) (ρ : Env) (M : Store), tgk ks ρ (tAll ts vs ρ M)
  | [], _, [], ρ, M => ⟨rfl, fun _ _ => rfl⟩
  | [], _, _ :: _, ρ, M => trivial
  | _ :: _, _, [], ρ, M => trivial
  | t :: ts, .cons h r, v :: vs, ρ, M => by
    unfold tAll
    have q := h.go v ρ M
    cases z : t v ρ M with
    | nx ρ1 M1 =>
      rw [z] at q
      exact (TgKs.all r vs ρ1 M1).trans q
    | _ => exact trivial
end Mn
end
section
set_option Elab.async false
set_option autoImplicit false
set_option maxRecDepth 100000
set_option linter.all false
namespace Mn
def toIV : V → Option Int
  | .int i => some i
  | _ => none
theorem Rql.toI {P : Nat → Prop} {M : Store} : ∀ {xs : List Val} {ts : List V} {is : List Int}, Rql P M xs ts → mapO toIV ts = some is → mapO toI xs = some is
  | _, _, _, .nil, e => e
  | _, _, _, .cons (t := t) (ts := ts) r rs, e => by
    unfold mapO at e ⊢
    cases e1 : toIV t with
    | none => rw [e1] at e; cases e
    | some i =>
      rw [e1] at e
      simp only [] at e
      obtain ⟨l, hl, rfl⟩ := Option.map_eq_some_iff.mp e
      cases r <;> cases e1
      show (mapO Mn.toI _).map _ = _
      rw [Rql.toI rs hl]
      rfl
theorem Rql.iv {P : Nat → Prop} {M : Store} : ∀ l : List Int, Rql P M (l.map Val.int) (l.map V.int)
  | [] => .nil
  | i :: l => .cons (.int _) (Rql.iv l)
end Mn
end
section
set_option Elab.async false
set_option autoImplicit false
set_option maxRecDepth 100000
set_option linter.all false
namespace Mn
theorem Rql.eraseIdx {P : Nat → Prop} {M : Store} : ∀ {xs : List Val} {ts : List V} (k : Nat), Rql P M xs ts → Rql P M (xs.eraseIdx k) (ts.eraseIdx k)
  | _, _, _, .nil => .nil
  | _, _, 0, .cons _ r => r
  | _, _, k + 1, .cons h r => .cons h (Rql.eraseIdx k r)
end Mn
end
section
set_option Elab.async false
set_option autoImplicit false
set_option maxRecDepth 100000
set_option linter.all false
namespace Mn
def qStr : PU := fun a => match a.t with
  | .int i => if i.natAbs.log2 < 1920 then .ok (.at (.str (intL i))) else .bad
  | _ => .bad
theorem su_str : SimU uStr qStr := by
  intro B L Pa O M x w u c hx h
  unfold qStr at h
  split at h
  · rename_i e
    split at h
    · rename_i hz
      cases h
      rw [hx.int e]
      exact ⟨_, M, if_pos hz, Gr.refl M, RW.as _⟩
    · cases h
  · cases h
theorem nu_str : NoX1 qStr := fun w c h => by
  unfold qStr at h
  repeat' split at h
  all_goals cases h
def qIntS : PU := fun a => match a.t with
  | .str s => match rdInt s with
    | some i => .ok (.at (.int i))
    | none => .bad
  | _ => .bad
theorem su_intS : SimU uIntS qIntS := by
  intro B L Pa O M x w u c hx h
  unfold qIntS at h
  split at h
  · rename_i e
    split at h
    · rename_i i ei
      cases h
      rw [hx.str e]
      exact ⟨_, M, by unfold uIntS; simp only []; rw [ei]; rfl, Gr.refl M, RW.ai _⟩
    · cases h
  · cases h
theorem nu_intS : NoX1 qIntS := fun w c h => by
  unfold qIntS at h
  repeat' split at h
  all_goals cases h
def qIxS : PO := fun a b => match a.t, b.t with
  | .str s, .int i => if s.length ≤ szLine then (match atI s i with
    | some c => .ok (.at (.str [c]))
    | none => .bad) else .bad
  | _, _ => .bad
theorem so_ixS : SimO oIxS qIxS := by
  intro B L Pa O M x y w w' u c hx hy h
  unfold qIxS at h
  split at h
  · rename_i e1 e2
    split at h
    · rename_i hz
      split at h
      · rename_i d ed
        cases h
        rw [hx.str e1, hy.int e2]
        exact ⟨.str [d], M, by unfold oIxS; simp only []; rw [if_pos hz, ed]; rfl, Gr.refl M, RW.as _⟩
      · cases h
    · cases h
  · cases h
theorem nx_ixS : NoX2 qIxS := fun w w' c h => by
  unfold qIxS at h
  repeat' split at h
  all_goals cases h
def qInS (neg : Bool) : PO := fun a b => match a.t, b.t with
  | .str [c], .str s => .ok (.at (.bl (if neg then !decide (c ∈ s) else decide (c ∈ s))))
  | _, _ => .bad
theorem so_inS (neg : Bool) : SimO (cInS neg) (qInS neg) := by
  intro B L Pa O M x y w w' u c hx hy h
  unfold qInS at h
  split at h
  · rename_i e1 e2
    cases h
    rw [hx.str e1, hy.str e2]
    exact ⟨_, M, rfl, Gr.refl M, RW.ab _⟩
  · cases h
theorem nx_inS (neg : Bool) : NoX2 (qInS neg) := fun w w' c h => by
  unfold qInS at h
  split at h <;> cases h
def kqM1 (g : PO) (b : PE) (π : PEnv) : PR W → PR W
  | .ok ⟨f, t, .str s⟩ => kq1 g b π (.ok ⟨f, t, .str s⟩)
  | .exc c => .exc c
  | _ => .bad
def pM1S (g : PO) (a b : PE) : PE := fun π => kqM1 g b π (a π)
theorem sx_m1S {f : Op} {g : PO} {a b : E} {p q : PE} (hf : SimO f g) (hn : NoX2 g) (ha : SimE a p) (hb : SimE b q) : SimE (eM1 "str" f a b) (pM1S g p q) := by
  refine ⟨?_⟩
  intro B Pa O ρ M π h
  have h1 := ha B Pa O ρ M π h
  unfold pM1S eM1
  cases e1 : p π with
  | bad => exact trivial
  | exc c =>
    rw [e1] at h1
    obtain ⟨M', e2, g1⟩ := h1
    rw [e2]
    exact ⟨M', rfl, g1⟩
  | ok w =>
    rw [e1] at h1
    obtain ⟨x, M1, e2, g1, r1⟩ := h1
    rw [e2]
    obtain ⟨fl, tn, t⟩ := w
    cases t with
    | str s =>
      have hs := r1.str rfl
      subst hs
      have h2 := hb B Pa O ρ M1 π (h.gr g1)
      unfold kqM1 kq1
      simp only [R.bind_ok]
      rw [if_pos (show isTy "str" (.str s) M1 = true from rfl)]
      cases e3 : q π with
      | bad => exact trivial
      | exc c =>
        rw [e3] at h2
        obtain ⟨M', e4, g2⟩ := h2
        rw [e4]
        exact ⟨M', rfl, g1.trans g2⟩
      | ok w' =>
        rw [e3] at h2
        obtain ⟨y, M2, e4, g2, r2⟩ := h2
        rw [e4]
        exact RelE.op (g1.trans g2) (hn _ w') fun u hu => hf B M.length Pa O M2 _ y _ w' u (h.cx (g1.trans g2)) (r1.gr g2) (r2.low g1.len) hu
    | _ => exact trivial
def qStarts : PO := fun a b => match a.t, b.t with
  | .str s, .str [c] => .ok (.at (.bl (decide (s[0]? = some c))))
  | _, _ => .bad
theorem so_starts : SimO mStarts qStarts := by
  intro B L Pa O M x y w w' u c hx hy h
  unfold qStarts at h
  split at h
  · rename_i e1 e2
    cases h
    rw [hx.str e1, hy.str e2]
    exact ⟨_, M, rfl, Gr.refl M, RW.ab _⟩
  · cases h
theorem nx_starts : NoX2 qStarts := fun w w' c h => by
  unfold qStarts at h
  split at h <;> cases h
theorem rql_strs {P : Nat → Prop} {M : Store} : ∀ l : List (List Nat), Rql P M (l.map Val.str) (l.map V.str)
  | [] => .nil
  | x :: l => .cons (.str x) (rql_strs l)
theorem hasLs_strs : ∀ l : List (List Nat), V.hasLs (l.map V.str) = false
  | [] => rfl
  | x :: l => hasLs_strs l
def qPart : PO := fun a b => match a.t, b.t with
  | .str s, .str [c] => if s.length ≤ szLine then .ok (.at (.tup ((parV c s).map .str))) else .bad
  | _, _ => .bad
theorem so_part : SimO mPart qPart := by
  intro B L Pa O M x y w w' u c hx hy h
  unfold qPart at h
  split at h
  · rename_i s d e1 e2
    split at h
    · rename_i hz
      cases h
      rw [hx.str e1, hy.str e2]
      refine ⟨_, M, if_pos hz, Gr.refl M, ?_⟩
      have r : RE B Pa O false false M ((parV d s).map Val.str) ((parV d s).map V.str) := rql_strs _
      have q := mkT_ok (L := L) r
      unfold mkT nW at q
      rw [show (V.tup ((parV d s).map V.str)).hasL = false from hasLs_strs _] at q
      exact q
    · cases h
  · cases h
theorem nx_part : NoX2 qPart := fun w w' c h => by
  unfold qPart at h
  repeat' split at h
  all_goals cases h
def qSplit : PO := fun a b => match a.t, b.t with
  | .str s, .str [c] => if s.length + 2 ≤ szLine ∧ c < 256 then .ok (mkL false false ((splL c s).map .str)) else .bad
  | _, _ => .bad
theorem so_split : SimO mSplit qSplit := by
  intro B L Pa O M x y w w' u c hx hy h
  unfold qSplit at h
  split at h
  · rename_i s d e1 e2
    split at h
    · rename_i hz
      cases h
      rw [hx.str e1, hy.str e2]
      have r : RE B Pa O false false M ((splL d s).map Val.str) ((splL d s).map V.str) := rql_strs _
      exact ⟨_, _, if_pos hz, Gr.one _ _, mkL_ok c r⟩
    · cases h
  · cases h
theorem nx_split : NoX2 qSplit := fun w w' c h => by
  unfold qSplit at h
  repeat' split at h
  all_goals cases h
def strsV : List V → Option (List (List Nat))
  | [] => some []
  | .str s :: r => (strsV r).map (s :: ·)
  | _ => none
theorem strsV_ok {P : Nat → Prop} {M : Store} : ∀ {xs : List Val} {ts : List V} {ys : List (List Nat)}, Rql P M xs ts → strsV ts = some ys → strsOf xs = some ys
  | _, _, _, .nil, h => h
  | _, _, _, .cons r rs, h => by
    cases r with
    | str s =>
      obtain ⟨q, e, rfl⟩ := Option.map_eq_some_iff.mp (show (strsV _).map (s :: ·) = some _ from h)
      show (strsOf _).map (s :: ·) = _
      rw [strsV_ok rs e]
      rfl
    | _ => cases h
def qJoin : PO := fun a b => match a.t, b.t with
  | .str s, .lst ts => match strsV ts with
    | some ys => if joinOk s ys = true then .ok (.at (.str (joinL s ys))) else .bad
    | none => .bad
  | _, _ => .bad
theorem so_join : SimO mJoin qJoin := by
  intro B L Pa O M x y w w' u c hx hy h
  unfold qJoin at h
  split at h
  · rename_i s ts e1 e2
    split at h
    · rename_i ys ey
      split at h
      · rename_i hj
        cases h
        obtain ⟨n, xs, rfl, h1, r1⟩ := hy.lst e2
        rw [hx.str e1]
        refine ⟨_, M, ?_, Gr.refl M, RW.as (joinL s ys)⟩
        have l1 : lstAt M n = some xs := by unfold lstAt; simp only [h1]
        have l2 : strsOf xs = some ys := strsV_ok (Rql.map (fun m c p e => ⟨e, p⟩) r1) ey
        unfold mJoin
        simp only [l1, l2]
        exact if_pos hj
      · cases h
    · cases h
  · cases h
theorem nx_join : NoX2 qJoin := fun w w' c h => by
  unfold qJoin at h
  repeat' split at h
  all_goals cases h
def kqCh : PR W → PR Ws
  | .ok w => match w.t with
    | .str s => .ok ⟨s.map fun c => .at (.str [c]), true⟩
    | _ => .bad
  | .exc c => .exc c
  | .bad => .bad
def pCh (e : PE) : PSrc := fun π => kqCh (e π)
theorem si_str {e : E} {p : PE} (he : SimE e p) : SimI (iStr e) (pCh p) := by
  refine ⟨?_⟩
  intro B Pa O ρ M π h
  have h1 := he B Pa O ρ M π h
  unfold pCh iStr
  cases e1 : p π with
  | bad => exact trivial
  | exc c =>
    rw [e1] at h1
    obtain ⟨M', e2, g1⟩ := h1
    rw [e2]
    exact ⟨M', rfl, g1⟩
  | ok w =>
    rw [e1] at h1
    obtain ⟨x, M1, e2, g1, r1⟩ := h1
    rw [e2]
    unfold kqCh
    simp only [R.bind_ok]
    cases e3 : w.t with
    | str s =>
      rw [r1.str e3]
      refine ⟨itStr s, M1, rfl, g1, by rw [List.length_map]; rfl, fun O' M' x => ⟨fun i w hw => ?_, rfl⟩⟩
      rw [List.getElem?_map] at hw
      obtain ⟨c, hc, rfl⟩ := Option.map_eq_some_iff.mp hw
      exact ⟨.str [c], by show s[i]?.map (fun c => Val.str [c]) = _; rw [hc]; rfl, RW.as _⟩
    | _ => exact trivial
theorem pM1S_k (g : PO) (a b : PE) (π : PEnv) : pM1S g a b π = kqM1 g b π (a π) := rfl
theorem kqM1_ok (g : PO) (b : PE) (π : PEnv) (s : List Nat) : kqM1 g b π (.ok (.at (.str s))) = kq1 g b π (.ok (.at (.str s))) := rfl
theorem pCh_k (e : PE) (π : PEnv) : pCh e π = kqCh (e π) := rfl
theorem kqCh_ok (s : List Nat) : kqCh (.ok (.at (.str s))) = .ok ⟨s.map fun c => .at (.str [c]), true⟩ := rfl
end Mn
end
section
set_option Elab.async false
set_option autoImplicit false
set_option maxRecDepth 100000
set_option linter.all false
set_option maxHeartbeats 400000
namespace Z
open Mn
def v_p_shown.b : PS := pSeq (pIf (pBin qEq (pBin qIx (pVar 0) (pC (.int 1))) (pC (.int 1))) (pRet (pUn qStr (pBin qIx (pVar 0) (pC (.int 0))))) (pPass)) (pRet (pBin qAdd (pBin qAdd (pUn qStr (pBin qIx (pVar 0) (pC (.int 0)))) (pC (.str (S "/")))) (pUn qStr (pBin qIx (pVar 0) (pC (.int 1))))))
def v_p_shown : PF := pFn 1 1 v_p_shown.b
theorem s_p_shown : SimF p_shown v_p_shown := sf_fn 1 1 (show SimS p_shown.b v_p_shown.b from ss_seq (ss_if (sx_bin (so_eq) (nx_eqG _) (sx_bin (so_ix) (nx_ix) (sx_var 0) (sx_c _)) (sx_c _)) (ss_ret (sx_un (su_str) (nu_str) (sx_bin (so_ix) (nx_ix) (sx_var 0) (sx_c _)))) (ss_pass)) (ss_ret (sx_bin (so_add) (nx_add) (sx_bin (so_add) (nx_add) (sx_un (su_str) (nu_str) (sx_bin (so_ix) (nx_ix) (sx_var 0) (sx_c _))) (sx_c _)) (sx_un (su_str) (nu_str) (sx_bin (so_ix) (nx_ix) (sx_var 0) (sx_c _))))))
def v_p_read_whole.b : PS := pSeq (pAsgF 1 (pVar 0)) (pSeq (pIf (pM1S qStarts (pVar 0) (pC (.str (S "-")))) (pAsgF 1 (pSl (pVar 0) (some (pC (.int 1))) none)) (pPass)) (pSeq (pIf (pOr (pBin qEq (pVar 1) (pC (.str (S "")))) (pBin qGt (pUn qLen (pVar 1)) (pC c_MOST_FIGURES))) (pRaise "NoText") (pPass)) (pSeq (pFor [2] (pCh (pVar 1)) (ptName 2) (pIf (pBin (qInS true) (pVar 2) (pC c_FIGURES)) (pRaise "NoText") (pPass))) (pSeq (pIf (pAnd (pBin qEq (pBin qIxS (pVar 1) (pC (.int 0))) (pC (.str (S "0")))) (pBin qNe (pVar 0) (pC (.str (S "0"))))) (pRaise "NoText") (pPass)) (pSeq (pIf (pBin qEq (pVar 1) (pVar 0)) (pRet (pUn qIntS (pVar 1))) (pPass)) (pRet (pUn qNeg (pUn qIntS (pVar 1)))))))))
def v_p_read_whole : PF := pFn 1 3 v_p_read_whole.b
theorem s_p_read_whole : SimF p_read_whole v_p_read_whole := sf_fn 1 3 (show SimS p_read_whole.b v_p_read_whole.b from ss_seq (ss_asgF _ (sx_var 0)) (ss_seq (ss_if (sx_m1S so_starts nx_starts (sx_var 0) (sx_c _)) (ss_asgF _ (sx_sl (sx_var 0) (soe_so (sx_c _)) soe_no)) (ss_pass)) (ss_seq (ss_if (sx_or (sx_bin (so_eq) (nx_eqG _) (sx_var 1) (sx_c _)) (sx_bin (so_gt) (nx_int _ _) (sx_un (su_len) (nu_len) (sx_var 1)) (sx_c _))) (ss_raise _) (ss_pass)) (ss_seq (ss_for _ (si_str (sx_var 1)) (st_name _) (ss_if (sx_bin (so_inS true) (nx_inS true) (sx_var 2) (sx_c _)) (ss_raise _) (ss_pass))) (ss_seq (ss_if (sx_and (sx_bin (so_eq) (nx_eqG _) (sx_bin (so_ixS) (nx_ixS) (sx_var 1) (sx_c _)) (sx_c _)) (sx_bin (so_ne) (nx_eqG _) (sx_var 0) (sx_c _))) (ss_raise _) (ss_pass)) (ss_seq (ss_if (sx_bin (so_eq) (nx_eqG _) (sx_var 1) (sx_var 0)) (ss_ret (sx_un (su_intS) (nu_intS) (sx_var 1))) (ss_pass)) (ss_ret (sx_un (su_neg) (nu_neg) (sx_un (su_intS) (nu_intS) (sx_var 1))))))))))
def v_p_read.b : PS := pSeq (pIf (pNot (pUn (qIs ["str"]) (pVar 0))) (pRaise "NoText") (pPass)) (pSeq (pAsgT (ptTup [ptName 1, ptName 2, ptName 3]) (pM1S qPart (pVar 0) (pC (.str (S "/"))))) (pSeq (pIf (pBin qEq (pVar 2) (pC (.str (S "")))) (pRet (pTup [pCall v_p_read_whole [pVar 1], pC (.int 1)])) (pPass)) (pSeq (pAsg 4 (pTup [pCall v_p_read_whole [pVar 1], pCall v_p_read_whole [pVar 3]])) (pSeq (pIf (pOr (pBin qLt (pBin qIx (pVar 4) (pC (.int 1))) (pC (.int 2))) (pNot (pCall v_p_is_ratio [pVar 4]))) (pRaise "NoText") (pPass)) (pRet (pVar 4))))))
def v_p_read : PF := pFn 1 5 v_p_read.b
theorem s_p_read : SimF p_read v_p_read := sf_fn 1 5 (show SimS p_read.b v_p_read.b from ss_seq (ss_if (sx_not (sx_un (su_is _) (nu_is _) (sx_var 0))) (ss_raise _) (ss_pass)) (ss_seq (ss_asgT (st_tup (.cons (st_name _) (.cons (st_name _) (.cons (st_name _) (.nil))))) (sx_m1S so_part nx_part (sx_var 0) (sx_c _))) (ss_seq (ss_if (sx_bin (so_eq) (nx_eqG _) (sx_var 2) (sx_c _)) (ss_ret (sx_tup (.cons (sx_call s_p_read_whole (.cons (sx_var 1) (.nil))) (.cons (sx_c _) (.nil))))) (ss_pass)) (ss_seq (ss_asg _ (sx_tup (.cons (sx_call s_p_read_whole (.cons (sx_var 1) (.nil))) (.cons (sx_call s_p_read_whole (.cons (sx_var 3) (.nil))) (.nil))))) (ss_seq (ss_if (sx_or (sx_bin (so_lt) (nx_int _ _) (sx_bin (so_ix) (nx_ix) (sx_var 4) (sx_c _)) (sx_c _)) (sx_not (sx_call s_p_is_ratio (.cons (sx_var 4) (.nil))))) (ss_raise _) (ss_pass)) (ss_ret (sx_var 4)))))))
def v_p_shown_row.b : PS := pRet (pM1S qJoin (pC (.str (S ","))) (pLc (pList (pVar 0)) (ptName 1) [1] (pC (.bl true)) (pCall v_p_shown [pVar 1])))
def v_p_shown_row : PF := pFn 1 2 v_p_shown_row.b
theorem s_p_shown_row : SimF p_shown_row v_p_shown_row := sf_fn 1 2 (show SimS p_shown_row.b v_p_shown_row.b from ss_ret (sx_m1S so_join nx_join (sx_c _) (sx_lc _ (si_list (sx_var 0)) (st_name _) (sx_c _) (sx_call s_p_shown (.cons (sx_var 1) (.nil))))))
def v_p_read_row.b : PS := pSeq (pIf (pNot (pUn (qIs ["str"]) (pVar 0))) (pRaise "NoText") (pPass)) (pSeq (pIf (pBin qEq (pVar 0) (pC (.str (S "")))) (pRet (pLst [])) (pPass)) (pRet (pLc (pList (pM1S qSplit (pVar 0) (pC (.str (S ","))))) (ptName 1) [1] (pC (.bl true)) (pCall v_p_read [pVar 1]))))
def v_p_read_row : PF := pFn 1 2 v_p_read_row.b
theorem s_p_read_row : SimF p_read_row v_p_read_row := sf_fn 1 2 (show SimS p_read_row.b v_p_read_row.b from ss_seq (ss_if (sx_not (sx_un (su_is _) (nu_is _) (sx_var 0))) (ss_raise _) (ss_pass)) (ss_seq (ss_if (sx_bin (so_eq) (nx_eqG _) (sx_var 0) (sx_c _)) (ss_ret (sx_lst (.nil))) (ss_pass)) (ss_ret (sx_lc _ (si_list (sx_m1S so_split nx_split (sx_var 0) (sx_c _))) (st_name _) (sx_c _) (sx_call s_p_read (.cons (sx_var 1) (.nil)))))))
def v_l_great_11.b : PS := pRet (pBin qMod (pBin qMul (pBin qMul (pBin qMul (pBin qAdd (pVar 0) (pC (.int 11))) (pBin qPow (pC (.int 7)) (pC (.int 61)))) (pBin qPow (pC (.int 11)) (pC (.int 63)))) (pBin qPow (pC (.int 13)) (pC (.int 9)))) (pBin qMul (pBin qPow (pC (.int 10)) (pC (.int 60))) (pBin qPow (pC (.int 10)) (pC (.int 60)))))
def v_l_great_11 : PF := pFn 1 1 v_l_great_11.b
theorem s_l_great_11 : SimF l_great_11 v_l_great_11 := sf_fn 1 1 (show SimS l_great_11.b v_l_great_11.b from ss_ret (sx_bin (so_mod) (nx_int _ _) (sx_bin (so_mul) (nx_mul) (sx_bin (so_mul) (nx_mul) (sx_bin (so_mul) (nx_mul) (sx_bin (so_add) (nx_add) (sx_var 0) (sx_c _)) (sx_bin (so_pow) (nx_int _ _) (sx_c _) (sx_c _))) (sx_bin (so_pow) (nx_int _ _) (sx_c _) (sx_c _))) (sx_bin (so_pow) (nx_int _ _) (sx_c _) (sx_c _))) (sx_bin (so_mul) (nx_mul) (sx_bin (so_pow) (nx_int _ _) (sx_c _) (sx_c _)) (sx_bin (so_pow) (nx_int _ _) (sx_c _) (sx_c _)))))
def v_l_text.b : PS := pSeq (pAsg 1 (pC (.str (S "")))) (pSeq (pIf (pBin qLt (pBin qIx (pVar 0) (pC (.int 0))) (pC (.int 0))) (pAsg 1 (pC (.str (S "-")))) (pPass)) (pSeq (pAsg 1 (pBin qAdd (pVar 1) (pUn qStr (pUn qAbs (pBin qIx (pVar 0) (pC (.int 0))))))) (pSeq (pIf (pBin qGt (pBin qIx (pVar 0) (pC (.int 1))) (pC (.int 1))) (pAsg 1 (pBin qAdd (pBin qAdd (pVar 1) (pC (.str (S "/")))) (pUn qStr (pBin qIx (pVar 0) (pC (.int 1)))))) (pPass)) (pRet (pVar 1)))))
def v_l_text : PF := pFn 1 2 v_l_text.b
theorem s_l_text : SimF l_text v_l_text := sf_fn 1 2 (show SimS l_text.b v_l_text.b from ss_seq (ss_asg _ (sx_c _)) (ss_seq (ss_if (sx_bin (so_lt) (nx_int _ _) (sx_bin (so_ix) (nx_ix) (sx_var 0) (sx_c _)) (sx_c _)) (ss_asg _ (sx_c _)) (ss_pass)) (ss_seq (ss_asg _ (sx_bin (so_add) (nx_add) (sx_var 1) (sx_un (su_str) (nu_str) (sx_un (su_abs) (nu_abs) (sx_bin (so_ix) (nx_ix) (sx_var 0) (sx_c _)))))) (ss_seq (ss_if (sx_bin (so_gt) (nx_int _ _) (sx_bin (so_ix) (nx_ix) (sx_var 0) (sx_c _)) (sx_c _)) (ss_asg _ (sx_bin (so_add) (nx_add) (sx_bin (so_add) (nx_add) (sx_var 1) (sx_c _)) (sx_un (su_str) (nu_str) (sx_bin (so_ix) (nx_ix) (sx_var 0) (sx_c _))))) (ss_pass)) (ss_ret (sx_var 1))))))
def v_l_is_3.b : PS := pSeq (pIf (pOr (pNot (pUn (qIs ["tuple"]) (pVar 0))) (pBin qNe (pUn qLen (pVar 0)) (pC (.int 2)))) (pRet (pC (.bl false))) (pPass)) (pRet (pAnd (pCall v_l_whole [pBin qIx (pVar 0) (pC (.int 0))]) (pAnd (pCall v_l_whole [pBin qIx (pVar 0) (pC (.int 1))]) (pBin qEq (pVar 0) (pVar 1)))))
def v_l_is_3 : PF := pFn 2 2 v_l_is_3.b
theorem s_l_is_3 : SimF l_is_3 v_l_is_3 := sf_fn 2 2 (show SimS l_is_3.b v_l_is_3.b from ss_seq (ss_if (sx_or (sx_not (sx_un (su_is _) (nu_is _) (sx_var 0))) (sx_bin (so_ne) (nx_eqG _) (sx_un (su_len) (nu_len) (sx_var 0)) (sx_c _))) (ss_ret (sx_c _)) (ss_pass)) (ss_ret (sx_and (sx_call s_l_whole (.cons (sx_bin (so_ix) (nx_ix) (sx_var 0) (sx_c _)) (.nil))) (sx_and (sx_call s_l_whole (.cons (sx_bin (so_ix) (nx_ix) (sx_var 0) (sx_c _)) (.nil))) (sx_bin (so_eq) (nx_eqG _) (sx_var 0) (sx_var 1))))))
def v_l_row_told.b : PS := pSeq (pAsgF 1 (pUn qList (pVar 0))) (pSeq (pAsgF 2 (pCall v_p_shown_row [pVar 1])) (pSeq (pIf (pOr (pNot (pUn (qIs ["str"]) (pVar 2))) (pOr (pBin qNe (pVar 2) (pM1S qJoin (pC (.str (S ","))) (pLc (pList (pVar 0)) (ptName 3) [3] (pC (.bl true)) (pCall v_l_text [pVar 3])))) (pBin qNe (pVar 1) (pVar 0)))) (pRet (pC (.bl false))) (pPass)) (pSeq (pAsgF 4 (pCall v_p_read_row [pVar 2])) (pSeq (pIf (pOr (pNot (pUn (qIs ["list"]) (pVar 4))) (pBin qNe (pUn qLen (pVar 4)) (pUn qLen (pVar 0)))) (pRet (pC (.bl false))) (pPass)) (pRet (pUn qAll (pLc (pRange1 (pUn qLen (pVar 0))) (ptName 5) [5] (pC (.bl true)) (pCall v_l_is_3 [pBin qIx (pVar 4) (pVar 5), pBin qIx (pVar 0) (pVar 5)]))))))))
def v_l_row_told : PF := pFn 1 6 v_l_row_told.b
theorem s_l_row_told : SimF l_row_told v_l_row_told := sf_fn 1 6 (show SimS l_row_told.b v_l_row_told.b from ss_seq (ss_asgF _ (sx_un (su_list) (nu_list) (sx_var 0))) (ss_seq (ss_asgF _ (sx_call s_p_shown_row (.cons (sx_var 1) (.nil)))) (ss_seq (ss_if (sx_or (sx_not (sx_un (su_is _) (nu_is _) (sx_var 2))) (sx_or (sx_bin (so_ne) (nx_eqG _) (sx_var 2) (sx_m1S so_join nx_join (sx_c _) (sx_lc _ (si_list (sx_var 0)) (st_name _) (sx_c _) (sx_call s_l_text (.cons (sx_var 3) (.nil)))))) (sx_bin (so_ne) (nx_eqG _) (sx_var 1) (sx_var 0)))) (ss_ret (sx_c _)) (ss_pass)) (ss_seq (ss_asgF _ (sx_call s_p_read_row (.cons (sx_var 2) (.nil)))) (ss_seq (ss_if (sx_or (sx_not (sx_un (su_is _) (nu_is _) (sx_var 4))) (sx_bin (so_ne) (nx_eqG _) (sx_un (su_len) (nu_len) (sx_var 4)) (sx_un (su_len) (nu_len) (sx_var 0)))) (ss_ret (sx_c _)) (ss_pass)) (ss_ret (sx_un (su_allG _) (nu_allG _) (sx_lc _ (si_range1 (sx_un (su_len) (nu_len) (sx_var 0))) (st_name _) (sx_c _) (sx_call s_l_is_3 (.cons (sx_bin (so_ix) (nx_ix) (sx_var 4) (sx_var 5)) (.cons (sx_bin (so_ix) (nx_ix) (sx_var 0) (sx_var 5)) (.nil))))))))))))
def v_law_k04.b : PS := pSeq (pAsgF 1 (pLst [])) (pSeq (pFor [0, 2, 3, 4, 5] (pList (pVar 0)) (ptName 2) (pSeq (pAsgF 3 (pCall v_l_great_11 [pVar 2])) (pSeq (pAsgF 4 (pCall v_l_ratio [pBin qDiv (pVar 3) (pC (.int 8))])) (pSeq (pIf (pBin qEq (pBin qMod (pVar 3) (pC (.int 8))) (pC (.int 5))) (pAsgF 4 (pCall v_l_made [pBin qAdd (pBin qSub (pBin qMod (pBin qDiv (pVar 3) (pC (.int 8))) (pBin qSub (pBin qMul (pC (.int 2)) (pBin qPow (pC (.int 10)) (pC (.int 60)))) (pC (.int 1)))) (pBin qPow (pC (.int 10)) (pC (.int 60)))) (pC (.int 1)), pBin qAdd (pC (.int 1)) (pBin qMod (pCall v_l_great_11 [pBin qAdd (pVar 2) (pC (.int 1))]) (pBin qSub (pBin qPow (pC (.int 10)) (pC (.int 60))) (pC (.int 1))))])) (pPass)) (pSeq (pAsgF 5 (pCall v_p_shown [pVar 4])) (pSeq (pIf (pOr (pNot (pUn (qIs ["str"]) (pVar 5))) (pOr (pBin qNe (pVar 5) (pCall v_l_text [pVar 4])) (pNot (pCall v_l_is_3 [pCall v_p_read [pVar 5], pVar 4])))) (pRet (pC (.bl false))) (pPass)) (pSeq (pAsgF 1 (pSl (pBin qAdd (pVar 1) (pLst [pVar 4])) (some (pUn qNeg (pBin qAdd (pC (.int 1)) (pBin qMod (pVar 3) (pC (.int 9)))))) none)) (pIf (pNot (pCall v_l_row_told [pVar 1])) (pRet (pC (.bl false))) (pPass))))))))) (pRet (pAnd (pCall v_l_row_told [pLst []]) (pBin qEq (pCall v_p_shown [pTup [pC (.int 0), pC (.int 1)]]) (pC (.str (S "0")))))))
def v_law_k04 : PF := pFn 1 6 v_law_k04.b
theorem s_law_k04 : SimF law_k04 v_law_k04 := sf_fn 1 6 (show SimS law_k04.b v_law_k04.b from ss_seq (ss_asgF _ (sx_lst (.nil))) (ss_seq (ss_for _ (si_list (sx_var 0)) (st_name _) (ss_seq (ss_asgF _ (sx_call s_l_great_11 (.cons (sx_var 2) (.nil)))) (ss_seq (ss_asgF _ (sx_call s_l_ratio (.cons (sx_bin (so_div) (nx_int _ _) (sx_var 3) (sx_c _)) (.nil)))) (ss_seq (ss_if (sx_bin (so_eq) (nx_eqG _) (sx_bin (so_mod) (nx_int _ _) (sx_var 3) (sx_c _)) (sx_c _)) (ss_asgF _ (sx_call s_l_made (.cons (sx_bin (so_add) (nx_add) (sx_bin (so_sub) (nx_int _ _) (sx_bin (so_mod) (nx_int _ _) (sx_bin (so_div) (nx_int _ _) (sx_var 3) (sx_c _)) (sx_bin (so_sub) (nx_int _ _) (sx_bin (so_mul) (nx_mul) (sx_c _) (sx_bin (so_pow) (nx_int _ _) (sx_c _) (sx_c _))) (sx_c _))) (sx_bin (so_pow) (nx_int _ _) (sx_c _) (sx_c _))) (sx_c _)) (.cons (sx_bin (so_add) (nx_add) (sx_c _) (sx_bin (so_mod) (nx_int _ _) (sx_call s_l_great_11 (.cons (sx_bin (so_add) (nx_add) (sx_var 2) (sx_c _)) (.nil))) (sx_bin (so_sub) (nx_int _ _) (sx_bin (so_pow) (nx_int _ _) (sx_c _) (sx_c _)) (sx_c _)))) (.nil))))) (ss_pass)) (ss_seq (ss_asgF _ (sx_call s_p_shown (.cons (sx_var 4) (.nil)))) (ss_seq (ss_if (sx_or (sx_not (sx_un (su_is _) (nu_is _) (sx_var 5))) (sx_or (sx_bin (so_ne) (nx_eqG _) (sx_var 5) (sx_call s_l_text (.cons (sx_var 4) (.nil)))) (sx_not (sx_call s_l_is_3 (.cons (sx_call s_p_read (.cons (sx_var 5) (.nil))) (.cons (sx_var 4) (.nil))))))) (ss_ret (sx_c _)) (ss_pass)) (ss_seq (ss_asgF _ (sx_sl (sx_bin (so_add) (nx_add) (sx_var 1) (sx_lst (.cons (sx_var 4) (.nil)))) (soe_so (sx_un (su_neg) (nu_neg) (sx_bin (so_add) (nx_add) (sx_c _) (sx_bin (so_mod) (nx_int _ _) (sx_var 3) (sx_c _))))) soe_no)) (ss_if (sx_not (sx_call s_l_row_told (.cons (sx_var 1) (.nil)))) (ss_ret (sx_c _)) (ss_pass))))))))) (ss_ret (sx_and (sx_call s_l_row_told (.cons (sx_lst (.nil)) (.nil))) (sx_bin (so_eq) (nx_eqG _) (sx_call s_p_shown (.cons (sx_tup (.cons (sx_c _) (.cons (sx_c _) (.nil)))) (.nil))) (sx_c _))))))
end Z
end
section
set_option Elab.async false
set_option autoImplicit false
set_option maxRecDepth 100000
set_option maxHeartbeats 2000000
open Mn
local macro_rules | `(tactic| array_get_dec) => `(tactic| simp (disch := first | assumption | rfl | decide | decide +kernel) only [oMul_int, oDiv_int, oDiv_sm, oDm_int, oDm_sm, oMax_int, oMin_int, uInt_int, uInt_bl, oMod_int, oPow_int, eBin_k, kBin1_ok, kBin2_ok, eUn_k, kUn_ok, of_some, eC_k, eVar_k, evL_nil, evL_k, kL1_ok, kL2_ok, eAnd_k, kAnd_t, kAnd_f, eOr_k, kOr_t, kOr_f, eNot_k, kNot_ok, eChain_k, kCh0_ok, kCh1_ok, kCh2_t, kCh2_f, kCh3_ok,
  eTup_k, kTup_1, kTup_2, kTup_3, kTup_4, kLst_0, kLst_1, kLst_2, kLst_3, kLst_4, kLst_5, kLst_6, kTup_ok, kLst_ok, eLst_k, eCall_k, kCall_ok, sSeq_k, kSeq_nx, kSeq_ret, kSeq_ct, kSeq_bk, kSeq_exc, sPass_k, sAsg_k, kAsg_ok, kAsg_exc, kTg_nx, tName_k, tAll_nil, tTup_2, tTup_3, tTup_4, tTup_rv, tAll_cons, tSub_k, kSub1_ok, kSub2_ok, kPut_some, sCt_k, sBk_k, sRet_k, kRet_ok, kRet_exc, sDrop_k, kDrop_ok, sRaise_k, sIf_k, kIf_t, kIf_f, sPar_k, kPar_ok, sFor_k, kFor_ok, mkFn_0, mkFn_1, mkFn_2, mkFn_3, mkFn_4, mkFn_5, mkFn_6, kFn_ret, kFn_nx, kFn_exc,
  sTry_k, kTry_nx, kTry_ret, kTry_exc, handle_nil, kCl_nx, kCl_ret, eM0_k, eM1_k, eM2_k, kM2a_ok, kM2b_ok, eLc_k, kLcE_ok, eSl_k, kSlA_ok, kSlB_ok, kSlC_ok, ePart_none, ePart_k, kPt_ok, iList_k, iEnum_k, iZip_k, kZp_ok, iRev_k, iRange1_k, iRange2_k, kR2_ok,
  oAdd_int, oSub_int, oNeg_int, cLt_int, cLe_int, cGt_int, cGe_int, cEq_int, cNe_int, cEq_bl, cNe_bl, cIsN_k, cNotN_k, cEq_tt, cNe_tt, oIx_rv0, oIx_rv1, rv0, rv1, cEq_rv, cNe_rv, uIs_rv, uLen_rv, uAbs_int, uLen_tup, oIx_0, oIx_1, uIs_int, uIs_tup, uIs_bl, uIs_non, uIs_exc, ty_tuple_tuple, ty_tuple_list, ty_tuple_int, ty_tuple_bool, ty_tuple_str, ty_tuple_NoneType, ty_list_tuple, ty_list_list, ty_list_int, ty_list_bool, ty_list_str, ty_list_NoneType, ty_int_tuple, ty_int_list, ty_int_int, ty_int_bool, ty_int_str, ty_int_NoneType, ty_bool_tuple, ty_bool_list, ty_bool_int, ty_bool_bool, ty_bool_str, ty_bool_NoneType, ty_str_tuple, ty_str_list, ty_str_int, ty_str_bool, ty_str_str, ty_str_NoneType,
  List.map_cons, List.map_nil, List.cons_append, List.nil_append, List.append_nil, List.reduceReplicate, Nat.reduceSub, List.getElem?_cons_zero, List.getElem?_cons_succ, List.set_cons_zero, List.set_cons_succ, List.length_cons, List.length_nil, Nat.zero_add, Nat.reduceAdd, decide_true, decide_false, beq_self_eq_true, Bool.not_true, Bool.not_false])
namespace Z
open Mn
theorem fdiv_dvd {a g : Int} (h : g ∣ a) (h0 : g ≠ 0) : a.fdiv g = a / g := by
  obtain ⟨k, rfl⟩ := h
  rw [Int.mul_fdiv_cancel_left _ h0, Int.mul_ediv_cancel_left _ h0]
theorem gcd_lt {n : Nat} {a b : Int} (hb : b ≠ 0) (h : Lt2 n b) : Lt2 n (Int.gcd a b : Int) := by
  refine h.le ?_
  rw [Int.natAbs_natCast]
  exact Nat.le_of_dvd (by omega) (Int.gcd_dvd_natAbs_right a b)
theorem gcd_mul_num {a b : Int} (hb : b ≠ 0) : (if b < 0 then -(Int.gcd a b : Int) else (Int.gcd a b : Int)) * (Rat.divInt a b).num = a ∧ (if b < 0 then -(Int.gcd a b : Int) else (Int.gcd a b : Int)) * ((Rat.divInt a b).den : Int) = b := by
  obtain ⟨e1, e2⟩ := red_num (a := a) hb
  rw [e1, e2]
  have h1 := Int.mul_ediv_cancel' (Int.gcd_dvd_left a b)
  have h2 := Int.mul_ediv_cancel' (Int.gcd_dvd_right a b)
  split
  · exact ⟨by rw [Int.neg_mul_neg]; exact h1, by rw [Int.neg_mul_neg]; exact h2⟩
  · exact ⟨h1, h2⟩
theorem red_div {m : Nat} {a b : Int} (hb : b ≠ 0) (hm : Lt2 m b) (h : m ≤ 9000 ∨ Sz 4500 (Rat.divInt a b)) : divOk a (if b < 0 then -(Int.gcd a b : Int) else (Int.gcd a b : Int)) = true ∧ divOk b (if b < 0 then -(Int.gcd a b : Int) else (Int.gcd a b : Int)) = true := by
  have g0 : (Int.gcd a b : Int) ≠ 0 := by
    have : Int.gcd a b ≠ 0 := fun z => hb (Int.gcd_eq_zero_iff.mp z).2
    omega
  rcases h with h | h
  · have hg := gcd_lt (a := a) hb hm
    have d : Lt2 m (if b < 0 then -(Int.gcd a b : Int) else (Int.gcd a b : Int)) := by
      split
      · exact hg.neg
      · exact hg
    exact ⟨divOk_lt d h a, divOk_lt d h b⟩
  · obtain ⟨e1, e2⟩ := gcd_mul_num (a := a) hb
    have n0 : (if b < 0 then -(Int.gcd a b : Int) else (Int.gcd a b : Int)) ≠ 0 := by split <;> omega
    have q1 := divOk_quo n0 h.1 (Nat.le_refl _)
    have q2 := divOk_quo n0 h.den (Nat.le_refl _)
    rw [e1] at q1
    rw [e2] at q2
    exact ⟨q1, q2⟩
end Z
end
section
set_option Elab.async false
set_option autoImplicit false
set_option linter.all false
set_option maxRecDepth 100000
set_option maxHeartbeats 2000000
open Mn
local macro_rules | `(tactic| array_get_dec) => `(tactic| try simp (disch := first | assumption | rfl | decide | decide +kernel) only [pVar_k, vW_at, vW_fz, vW_fr, vW_dr, isB_dr, isD_dr, kqAsg_dr, kqAsgF_dr, kqRet_dr, pC_int, pC_bl, pC_str, pC_non, pC_t2, pBin_k, kq1_ok, kq1_exc, kq2_ok, kq2_exc, pUn_k, kqU_ok, kqU_exc, pAnd_k, kqAnd_t, kqAnd_f, pOr_k, kqOr_t, kqOr_f, pNot_k, kqNot_ok, pChain_k, kqC0_ok, kqC1_ok, kqC2_t, kqC2_f, kqC3_ok, pvL_nil, pvL_k, kqL1_ok, kqL1_exc, kqL2_ok, kqL2_exc, pTup_k, pLst_k, kqTup_exc, kqLst_exc, kqTup_1, kqTup_2, kqTup_3, kqTup_4, kqLst_0, kqLst_1, kqLst_2, kqLst_3, kqLst_4, anyB_nil, anyB_cons, anyT_nil, anyT_cons, at_fl, at_tn, at_t, mk_fl, mk_tn, mk_t, isB_fr, isB_fz, isB_bo, isB_bd, isD_fr, isD_fz, isD_bo, isD_bd, nW_k, elW_k, mkT_k, mkL_k, cond_true, cond_false, pCall_k, kqCall_ok, kqCall_exc, kqRes_ok, kqRes_exc, callW_at, callW_f, fn_1, fn_2, fn_3, fn_4, fn_5, fn_6, kqFn_nx, kqFn_ret, kqFn_exc, pSl_k, kqSl1_ok, kqSl2_ok, kqSl3_ok, pPart_n, pPart_s, kqPt_ok, pList_k, pRev_k, pEnum_k, pZip_k, kqZip1_ok, kqZip2_ok, pRange1_k, pRange2_k, kqR21_ok, kqR22_ok, pLc_k, killP_nil, killP_cons, ptName_at, ptName_fz, ptTup_a2, ptTup_a3, ptTup_f2, ptTup_f3, ptTup_q, ptAll_nil, ptAll_cons, kqAll_nx, pSeq_k, kqSeq2_nx, kqSeq2_ret, kqSeq2_ct, kqSeq2_bk, kqSeq2_exc, pPass_k, pCt_k, pBk_k, pRaise_k, pKl_k, pFz_k, frz_k, fzO_at, fzO_mk, fzO_none, fzW_at, fzW_mk, pAsg_k, kqAsg_at, kqAsg_fr, kqAsg_fz, kqAsg_exc, pAsgF_k, kqAsgF_at, kqAsgF_fr, kqAsgF_fz, kqAsgF_exc, pAsgT_k, kqAsgT_ok, kqTg_nx, kqAsgT_exc, pApp_k, pExt_k, pIns_k, kqIns1_ok, pSubA_k, kqSub1_ok, kqSub1_exc, pPar_k, kqPar_at, kqPar_1, kqPar_2, kqPar_3, pDrop_k, kqDrop_ok, kqDrop_exc, pRet_k, kqRet_at, kqRet_fr, kqRet_fz, kqRet_bo, kqRet_bd, kqRet_exc, pIf_k, kqIf_t, kqIf_f, kqIf_exc, pFor_k, kqFor_ok, pWhile_k, pTry_k, kqTry_nx, kqTry_ret, kqTry_exc, stepK_nx, stepK_ct, stepK_bk, stepK_ret, stepK_exc, stepF_nx, goF_nx, goF_bk, goF_ret, goF_exc, lcStep_nx, vq0, vq1, hL_q, hL_r, hL_t, hL_i, hL_int, hL_bl, hL_str, hL_non, hL_exc, hL_lst, hL_ro, hL_tup, hL_nil, hL_cons, hLs_q, hLs_i, hLs_bl, qEq_q, qNe_q, qEq_int, qNe_int, qEq_bl, qNe_bl, qEq_r, qNe_r, qEq_t, qNe_t, qEq_vi, qNe_vi, qAdd_int, qSub_int, qMul_int, qDiv_int, qDiv_sm, qMod_int, qPow_int, qDm_sm, qMax_int, qMin_int, qLt_int, qLe_int, qGt_int, qGe_int, qNeg_int, qAbs_int, qToInt_int, qToInt_bl, qIsN_at, qIsN_a, qNotN_at, qNotN_a, isNon_non, isNon_int, isNon_q, isNon_r, qIx_q0, qIx_q1, qLen_q, qLen_r, qLen_t, qLen_vi, qLen_l, qLen_ro, qLen_tp, qLen_ta, qIs_q, qIs_r, qIs_t, qIs_vi, qIs_l, qIs_ro, qIs_tp, qIs_ta, qIs_int, qIs_bl, qIs_str, qIs_non, qIs_exc, kqSeq_r, kqSeq_vi, kqSeq_t, kqEnum_r, kqEnum_vi, kqEnum_t, zipOf_rr, zipOf_tr, zipOf_tt, qList_r, qAll_bl, qAny_bl, ty_tuple_tuple, ty_tuple_list, ty_tuple_int, ty_tuple_bool, ty_tuple_str, ty_tuple_NoneType, ty_list_tuple, ty_list_list, ty_list_int, ty_list_bool, ty_list_str, ty_list_NoneType, ty_int_tuple, ty_int_list, ty_int_int, ty_int_bool, ty_int_str, ty_int_NoneType, ty_bool_tuple, ty_bool_list, ty_bool_int, ty_bool_bool, ty_bool_str, ty_bool_NoneType, ty_str_tuple, ty_str_list, ty_str_int, ty_str_bool, ty_str_str, ty_str_NoneType, List.map_cons, List.map_nil, List.cons_append, List.nil_append, List.append_nil, List.reduceReplicate, Nat.reduceSub, List.getElem?_cons_zero, List.getElem?_cons_succ, List.set_cons_zero, List.set_cons_succ, List.length_cons, List.length_nil, Nat.zero_add, Nat.reduceAdd, decide_true, decide_false, beq_self_eq_true, Bool.not_true, Bool.not_false, Bool.or_false, Bool.or_true, Bool.false_or, Bool.true_or, Bool.and_false, Bool.and_true, Bool.false_and, Bool.true_and, Bool.and_self, Bool.or_self])
namespace Z
open Mn
theorem v_shared_ok {n : Nat} {a b : Int} (hb : Lt2 n b) (hn : n ≤ 1000000000) : v_p_shared [.int a, .int b] = .ok (.at (.int (Int.gcd a b : Nat))) := by
  unfold v_p_shared
  array_get_dec
  unfold v_p_shared.b
  array_get_dec
  have e1 : ∀ x : Int, (if x < 0 then -x else x) = (x.natAbs : Int) := fun x => by split <;> omega
  rw [e1, e1]
  obtain ⟨⟨x, y⟩, hI, hp, hw⟩ := whileN_run (σ := Nat × Nat) (ks := [2]) (c := pBin qNe (pVar 1) (pC (.int 0))) (b := pSeq (pAsgF 2 (pBin qMod (pVar 0) (pVar 1))) (pSeq (pAsg 0 (pVar 1)) (pAsgF 1 (pVar 2))))
    (fun s => [some (.at (.int s.1)), some (.at (.int s.2)), none]) (fun s => Nat.gcd s.1 s.2 = Int.gcd a b) (fun s => est s.1 s.2) (fun s => !decide ((s.2 : Int) = 0)) (fun s => (s.2, s.1 % s.2))
    (fun s _ => by array_get_dec) (fun s hs hp => by
      have h0 : s.2 ≠ 0 := by simpa using hp
      have h1 : (s.2 : Int) ≠ 0 := by omega
      refine ⟨?_, (gcd_step _ _).trans hs, ?_⟩
      · array_get_dec
        simp only [fmod_nat]
      · show est s.2 (s.1 % s.2) < est s.1 s.2
        rw [est_pos s.1 h0]
        omega) whileLine (a.natAbs, b.natAbs) rfl (est_line hb hn _)
  rw [hw]
  have hy : y = 0 := by simpa using hp
  subst hy
  have hx : x = Int.gcd a b := by simpa using hI
  rw [← hx]
  array_get_dec
end Z
set_option Elab.async false
set_option autoImplicit false
set_option linter.all false
set_option maxRecDepth 100000
set_option maxHeartbeats 2000000
open Mn
namespace Mn
theorem forN_ex {α σ : Type} {ks : List Nat} {t : PT} {b : PS} {g : α → W} (f : σ → PEnv) (I : Nat → σ → Prop) {xs : List α}
    (hs : ∀ (i : Nat) (x : α) (s : σ), xs[i]? = some x → I i s → ∃ s', I (i + 1) s' ∧ stepF ks b (t (g x) (f s)) = .nx (f s')) (s0 : σ) (h0 : I 0 s0) :
    ∃ s', I xs.length s' ∧ pForN ks t b (xs.map g) (f s0) = .nx (f s') := by
  have go : ∀ (ys : List α) (i : Nat) (s : σ), ys = xs.drop i → i ≤ xs.length → I i s → ∃ s', I xs.length s' ∧ pForN ks t b (ys.map g) (f s) = .nx (f s') := by
    intro ys
    induction ys with
    | nil =>
      intro i s e hi h
      have hl : xs.length ≤ i := List.drop_eq_nil_iff.mp e.symm
      have : i = xs.length := by omega
      subst this
      exact ⟨s, h, rfl⟩
    | cons y ys ih =>
      intro i s e hi h
      have hy : xs[i]? = some y := by
        have : (xs.drop i)[0]? = some y := by rw [← e]; rfl
        rw [List.getElem?_drop] at this
        exact this
      have hd : ys = xs.drop (i + 1) := by
        have : (y :: ys).drop 1 = (xs.drop i).drop 1 := by rw [e]
        rw [List.drop_drop] at this
        exact this
      obtain ⟨s1, h1, e1⟩ := hs i y s hy h
      rw [List.map_cons, forN_cons, e1, goF_nx]
      exact ih (i + 1) s1 hd (List.getElem?_eq_some_iff.mp hy).1 h1
  exact go xs 0 s0 rfl (Nat.zero_le _) h0
section
variable {α : Type} {f : Fl} {s : Bool}
end
theorem qIx_a0 (x : V) (xs : List V) : qIx (.at (.tup (x :: xs))) (.at (.int 0)) = .ok (elW false false x) := qIx_ta (i := 0) rfl
theorem qIx_a1 (x y : V) (xs : List V) : qIx (.at (.tup (x :: y :: xs))) (.at (.int 1)) = .ok (elW false false y) := qIx_ta (i := 1) rfl
theorem qIx_a2 (x y z : V) (xs : List V) : qIx (.at (.tup (x :: y :: z :: xs))) (.at (.int 2)) = .ok (elW false false z) := qIx_ta (i := 2) rfl
theorem qIx_a3 (x y z w : V) (xs : List V) : qIx (.at (.tup (x :: y :: z :: w :: xs))) (.at (.int 3)) = .ok (elW false false w) := qIx_ta (i := 3) rfl
theorem qIx_f0 (s : Bool) (x : V) (xs : List V) : qIx ⟨.fz, s, .tup (x :: xs)⟩ (.at (.int 0)) = .ok (elW false s x) := qIx_tp (i := 0) rfl
theorem qIx_f1 (s : Bool) (x y : V) (xs : List V) : qIx ⟨.fz, s, .tup (x :: y :: xs)⟩ (.at (.int 1)) = .ok (elW false s y) := qIx_tp (i := 1) rfl
theorem qIx_f2 (s : Bool) (x y z : V) (xs : List V) : qIx ⟨.fz, s, .tup (x :: y :: z :: xs)⟩ (.at (.int 2)) = .ok (elW false s z) := qIx_tp (i := 2) rfl
theorem vEq_str {x y : List Nat} (hx : x.all (fun c => decide (c < 1114112)) = true) (hy : y.all (fun c => decide (c < 1114112)) = true) : vEq (.str x) (.str y) = some (decide (x = y)) := by
  have tx : (V.str x).tt = some (.str x) := if_pos hx
  have ty : (V.str y).tt = some (.str y) := if_pos hy
  rw [vEq_of tx ty (Nat.le_of_ble_eq_true rfl) (Nat.le_of_ble_eq_true rfl)]
  simp [T.eqv]
theorem qEq_str {x y : List Nat} (hx : x.all (fun c => decide (c < 1114112)) = true) (hy : y.all (fun c => decide (c < 1114112)) = true) : qEq (.at (.str x)) (.at (.str y)) = .ok (.at (.bl (decide (x = y)))) := qEq_of (vEq_str hx hy) _ _ _ _
theorem qNe_str {x y : List Nat} (hx : x.all (fun c => decide (c < 1114112)) = true) (hy : y.all (fun c => decide (c < 1114112)) = true) : qNe (.at (.str x)) (.at (.str y)) = .ok (.at (.bl (!decide (x = y)))) := qNe_of (vEq_str hx hy) _ _ _ _
end Mn
namespace Z
open Mn
theorem pC_N (π : PEnv) : pC c_NOUGHT π = .ok (.at (vq 0)) := id rfl
theorem pC_O (π : PEnv) : pC c_ONE π = .ok (.at (vq 1)) := id rfl
end Z
end
section
set_option Elab.async false
set_option autoImplicit false
set_option linter.all false
set_option maxRecDepth 100000
set_option maxHeartbeats 2000000
open Mn
local macro_rules | `(tactic| array_get_dec) => `(tactic| try simp (disch := first | assumption | rfl | decide | decide +kernel) only [pVar_k, vW_at, vW_fz, vW_fr, vW_dr, isB_dr, isD_dr, kqAsg_dr, kqAsgF_dr, kqRet_dr, pC_int, pC_bl, pC_str, pC_non, pC_t2, pBin_k, kq1_ok, kq1_exc, kq2_ok, kq2_exc, pUn_k, kqU_ok, kqU_exc, pAnd_k, kqAnd_t, kqAnd_f, pOr_k, kqOr_t, kqOr_f, pNot_k, kqNot_ok, pChain_k, kqC0_ok, kqC1_ok, kqC2_t, kqC2_f, kqC3_ok, pvL_nil, pvL_k, kqL1_ok, kqL1_exc, kqL2_ok, kqL2_exc, pTup_k, pLst_k, kqTup_exc, kqLst_exc, kqTup_1, kqTup_2, kqTup_3, kqTup_4, kqLst_0, kqLst_1, kqLst_2, kqLst_3, kqLst_4, anyB_nil, anyB_cons, anyT_nil, anyT_cons, at_fl, at_tn, at_t, mk_fl, mk_tn, mk_t, isB_fr, isB_fz, isB_bo, isB_bd, isD_fr, isD_fz, isD_bo, isD_bd, nW_k, elW_k, mkT_k, mkL_k, cond_true, cond_false, pCall_k, kqCall_ok, kqCall_exc, kqRes_ok, kqRes_exc, callW_at, callW_f, fn_1, fn_2, fn_3, fn_4, fn_5, fn_6, kqFn_nx, kqFn_ret, kqFn_exc, pSl_k, kqSl1_ok, kqSl2_ok, kqSl3_ok, pPart_n, pPart_s, kqPt_ok, pList_k, pRev_k, pEnum_k, pZip_k, kqZip1_ok, kqZip2_ok, pRange1_k, pRange2_k, kqR21_ok, kqR22_ok, pLc_k, killP_nil, killP_cons, ptName_at, ptName_fz, ptTup_a2, ptTup_a3, ptTup_f2, ptTup_f3, ptTup_q, ptAll_nil, ptAll_cons, kqAll_nx, pSeq_k, kqSeq2_nx, kqSeq2_ret, kqSeq2_ct, kqSeq2_bk, kqSeq2_exc, pPass_k, pCt_k, pBk_k, pRaise_k, pKl_k, pFz_k, frz_k, fzO_at, fzO_mk, fzO_none, fzW_at, fzW_mk, pAsg_k, kqAsg_at, kqAsg_fr, kqAsg_fz, kqAsg_exc, pAsgF_k, kqAsgF_at, kqAsgF_fr, kqAsgF_fz, kqAsgF_exc, pAsgT_k, kqAsgT_ok, kqTg_nx, kqAsgT_exc, pApp_k, pExt_k, pIns_k, kqIns1_ok, pSubA_k, kqSub1_ok, kqSub1_exc, pPar_k, kqPar_at, kqPar_1, kqPar_2, kqPar_3, pDrop_k, kqDrop_ok, kqDrop_exc, pRet_k, kqRet_at, kqRet_fr, kqRet_fz, kqRet_bo, kqRet_bd, kqRet_exc, pIf_k, kqIf_t, kqIf_f, kqIf_exc, pFor_k, kqFor_ok, pWhile_k, pTry_k, kqTry_nx, kqTry_ret, kqTry_exc, stepK_nx, stepK_ct, stepK_bk, stepK_ret, stepK_exc, stepF_nx, goF_nx, goF_bk, goF_ret, goF_exc, lcStep_nx, vq0, vq1, hL_q, hL_r, hL_t, hL_i, hL_int, hL_bl, hL_str, hL_non, hL_exc, hL_lst, hL_ro, hL_tup, hL_nil, hL_cons, hLs_q, hLs_i, hLs_bl, qEq_q, qNe_q, qEq_int, qNe_int, qEq_bl, qNe_bl, qEq_r, qNe_r, qEq_t, qNe_t, qEq_vi, qNe_vi, qAdd_int, qSub_int, qMul_int, qDiv_int, qDiv_sm, qMod_int, qPow_int, qDm_sm, qMax_int, qMin_int, qLt_int, qLe_int, qGt_int, qGe_int, qNeg_int, qAbs_int, qToInt_int, qToInt_bl, qIsN_at, qIsN_a, qNotN_at, qNotN_a, isNon_non, isNon_int, isNon_q, isNon_r, qIx_q0, qIx_q1, qLen_q, qLen_r, qLen_t, qLen_vi, qLen_l, qLen_ro, qLen_tp, qLen_ta, qIs_q, qIs_r, qIs_t, qIs_vi, qIs_l, qIs_ro, qIs_tp, qIs_ta, qIs_int, qIs_bl, qIs_str, qIs_non, qIs_exc, Z.pC_N, Z.pC_O, qIx_a0, qIx_a1, qIx_a2, qIx_a3, qIx_f0, qIx_f1, qIx_f2, kqSeq_r, kqSeq_vi, kqSeq_t, kqEnum_r, kqEnum_vi, kqEnum_t, zipOf_rr, zipOf_tr, zipOf_tt, qList_r, qAll_bl, qAny_bl, ty_tuple_tuple, ty_tuple_list, ty_tuple_int, ty_tuple_bool, ty_tuple_str, ty_tuple_NoneType, ty_list_tuple, ty_list_list, ty_list_int, ty_list_bool, ty_list_str, ty_list_NoneType, ty_int_tuple, ty_int_list, ty_int_int, ty_int_bool, ty_int_str, ty_int_NoneType, ty_bool_tuple, ty_bool_list, ty_bool_int, ty_bool_bool, ty_bool_str, ty_bool_NoneType, ty_str_tuple, ty_str_list, ty_str_int, ty_str_bool, ty_str_str, ty_str_NoneType, List.map_cons, List.map_nil, List.cons_append, List.nil_append, List.append_nil, List.reduceReplicate, Nat.reduceSub, List.getElem?_cons_zero, List.getElem?_cons_succ, List.set_cons_zero, List.set_cons_succ, List.length_cons, List.length_nil, Nat.zero_add, Nat.reduceAdd, decide_true, decide_false, beq_self_eq_true, Bool.not_true, Bool.not_false, Bool.or_false, Bool.or_true, Bool.false_or, Bool.true_or, Bool.and_false, Bool.and_true, Bool.false_and, Bool.true_and, Bool.and_self, Bool.or_self])
namespace Z
open Mn Y
theorem range_at {n i k : Nat} (h : (List.range n)[i]? = some k) : i = k ∧ k < n := by
  have hi := (List.getElem?_eq_some_iff.mp h).1
  rw [List.length_range] at hi
  rw [List.getElem?_range hi] at h
  cases h
  exact ⟨rfl, hi⟩
def addR (ps qs : List Rat) : List Rat := List.zipWith (· + ·) ps qs
def scR (ps : List Rat) (q : Rat) : List Rat := ps.map (· * q)
end Z
set_option Elab.async false
set_option autoImplicit false
set_option linter.all false
set_option maxRecDepth 100000
set_option maxHeartbeats 2000000
open Mn
namespace Z
open Mn Y
theorem den_pos (q : Rat) : (0 : Int) < q.den := by
  have := q.den_nz
  omega
theorem whole_ok (i : Int) : v_l_whole [.int i] = .ok (.at (.bl true)) := by
  unfold v_l_whole
  array_get_dec
  unfold v_l_whole.b
  array_get_dec
end Z
set_option Elab.async false
set_option autoImplicit false
set_option linter.all false
set_option maxRecDepth 100000
set_option maxHeartbeats 2000000
open Mn
namespace Z
open Mn Y
def Gt (n : Nat) : Prop := n < 10 ^ 90
theorem fdiv_nat (a b : Nat) : Int.fdiv (a : Int) (b : Int) = ((a / b : Nat) : Int) := by
  rw [Int.fdiv_eq_ediv_of_nonneg _ (by omega)]
  rfl
def Dr (N : Nat) (q : Rat) : Prop := Qd 12 N q
theorem Dr.ok {N : Nat} {q : Rat} (h : Dr N q) (hN : N < 2 ^ 4500) : Ok q := h.sz (by decide) (Nat.lt_of_lt_of_le (show (12 : Nat) < 2 ^ 4 by decide) (Nat.pow_le_pow_right (by decide) (by decide))) hN
end Z
set_option Elab.async false
set_option autoImplicit false
set_option linter.all false
set_option maxRecDepth 100000
set_option maxHeartbeats 2000000
open Mn
namespace Z
open Mn Y
def el (rs : List (List Rat)) (i j : Nat) : Rat := (rs.getD i []).getD j 0
theorem QdA.getD {D N : Nat} {qs : List Rat} (h : QdA D N qs) (c : Nat) : Qd D N (qs.getD c 0) := by
  rw [List.getD_eq_getElem?_getD]
  cases e : qs[c]? with
  | none => exact Qd.zero D N
  | some q => exact h.at e
theorem QdA.el {D N : Nat} {rs : List (List Rat)} (h : ∀ r ∈ rs, QdA D N r) (i j : Nat) : Qd D N (el rs i j) := by
  unfold Z.el
  rw [List.getD_eq_getElem?_getD (l := rs)]
  cases e : rs[i]? with
  | none => exact Qd.zero D N
  | some r => exact QdA.getD (h r (List.mem_of_getElem? e)) j
theorem scR_qd {D N E M : Nat} {ps : List Rat} {q : Rat} (h : QdA D N ps) (k : Qd E M q) : QdA (D * E) (N * M) (scR ps q) := fun r hr => by
  obtain ⟨p, hp, rfl⟩ := List.mem_map.mp hr
  exact (h p hp).mul k
end Z
set_option Elab.async false
set_option autoImplicit false
set_option linter.all false
set_option maxRecDepth 100000
set_option maxHeartbeats 2000000
open Mn
namespace Z
open Mn Y
inductive Deed where
  | swap (i j : Nat)
  | scale (i : Nat) (q : Rat)
  | add (i j : Nat) (q : Rat)
def vd : Deed → V
  | .swap i j => .tup [.str (S "swap"), .int i, .int j]
  | .scale i q => .tup [.str (S "scale"), .int i, vq q]
  | .add i j q => .tup [.str (S "add"), .int i, .int j, vq q]
def vds (ds : List Deed) : V := .lst (ds.map vd)
theorem hL_d (d : Deed) : (vd d).hasL = false := by cases d <;> rfl
theorem hL_ds (ds : List Deed) : (vds ds).hasL = true := id rfl
theorem hLs_d (ds : List Deed) : V.hasLs (ds.map vd) = false := hLs_map vd hL_d ds
def Deed.Is (n : Nat) : Deed → Prop
  | .swap i j => i < n ∧ j < n ∧ i ≠ j
  | .scale i q => i < n ∧ q ≠ 0 ∧ Ok q
  | .add i j q => i < n ∧ j < n ∧ i ≠ j ∧ Ok q
def Deed.Sm (T : List (List Rat)) : Deed → Prop
  | .add i j q => OkA (scR (T.getD j []) q) ∨ OkA (addR (T.getD i []) (scR (T.getD j []) q))
  | _ => True
def OkT (T : List (List Rat)) : Prop := ∀ r ∈ T, OkA r
theorem se_ww : qEq (.at (.str (S "swap"))) (.at (.str (S "swap"))) = .ok (.at (.bl true)) := by
  rw [qEq_str (by decide) (by decide)]
  rfl
theorem se_ss : qEq (.at (.str (S "scale"))) (.at (.str (S "scale"))) = .ok (.at (.bl true)) := by
  rw [qEq_str (by decide) (by decide)]
  rfl
theorem se_aa : qEq (.at (.str (S "add"))) (.at (.str (S "add"))) = .ok (.at (.bl true)) := by
  rw [qEq_str (by decide) (by decide)]
  rfl
theorem se_ws : qEq (.at (.str (S "swap"))) (.at (.str (S "scale"))) = .ok (.at (.bl false)) := by
  rw [qEq_str (by decide) (by decide)]
  rfl
theorem se_wa : qEq (.at (.str (S "swap"))) (.at (.str (S "add"))) = .ok (.at (.bl false)) := by
  rw [qEq_str (by decide) (by decide)]
  rfl
theorem se_sw : qEq (.at (.str (S "scale"))) (.at (.str (S "swap"))) = .ok (.at (.bl false)) := by
  rw [qEq_str (by decide) (by decide)]
  rfl
theorem se_sa : qEq (.at (.str (S "scale"))) (.at (.str (S "add"))) = .ok (.at (.bl false)) := by
  rw [qEq_str (by decide) (by decide)]
  rfl
theorem se_aw : qEq (.at (.str (S "add"))) (.at (.str (S "swap"))) = .ok (.at (.bl false)) := by
  rw [qEq_str (by decide) (by decide)]
  rfl
theorem se_as : qEq (.at (.str (S "add"))) (.at (.str (S "scale"))) = .ok (.at (.bl false)) := by
  rw [qEq_str (by decide) (by decide)]
  rfl
theorem sn_ss : qNe (.at (.str (S "scale"))) (.at (.str (S "scale"))) = .ok (.at (.bl false)) := by
  rw [qNe_str (by decide) (by decide)]
  rfl
end Z
end
section
set_option Elab.async false
set_option autoImplicit false
set_option linter.all false
set_option maxRecDepth 100000
set_option maxHeartbeats 2000000
open Mn
local macro_rules | `(tactic| array_get_dec) => `(tactic| try simp (disch := first | assumption | rfl | decide | decide +kernel) only [pVar_k, vW_at, vW_fz, vW_fr, vW_dr, isB_dr, isD_dr, kqAsg_dr, kqAsgF_dr, kqRet_dr, pC_int, pC_bl, pC_str, pC_non, pC_t2, pBin_k, kq1_ok, kq1_exc, kq2_ok, kq2_exc, pUn_k, kqU_ok, kqU_exc, pAnd_k, kqAnd_t, kqAnd_f, pOr_k, kqOr_t, kqOr_f, pNot_k, kqNot_ok, pChain_k, kqC0_ok, kqC1_ok, kqC2_t, kqC2_f, kqC3_ok, pvL_nil, pvL_k, kqL1_ok, kqL1_exc, kqL2_ok, kqL2_exc, pTup_k, pLst_k, kqTup_exc, kqLst_exc, kqTup_1, kqTup_2, kqTup_3, kqTup_4, kqLst_0, kqLst_1, kqLst_2, kqLst_3, kqLst_4, anyB_nil, anyB_cons, anyT_nil, anyT_cons, at_fl, at_tn, at_t, mk_fl, mk_tn, mk_t, isB_fr, isB_fz, isB_bo, isB_bd, isD_fr, isD_fz, isD_bo, isD_bd, nW_k, elW_k, mkT_k, mkL_k, cond_true, cond_false, pCall_k, kqCall_ok, kqCall_exc, kqRes_ok, kqRes_exc, callW_at, callW_f, fn_1, fn_2, fn_3, fn_4, fn_5, fn_6, kqFn_nx, kqFn_ret, kqFn_exc, pSl_k, kqSl1_ok, kqSl2_ok, kqSl3_ok, pPart_n, pPart_s, kqPt_ok, pList_k, pRev_k, pEnum_k, pZip_k, kqZip1_ok, kqZip2_ok, pRange1_k, pRange2_k, kqR21_ok, kqR22_ok, pLc_k, killP_nil, killP_cons, ptName_at, ptName_fz, ptTup_a2, ptTup_a3, ptTup_f2, ptTup_f3, ptTup_q, ptAll_nil, ptAll_cons, kqAll_nx, pSeq_k, kqSeq2_nx, kqSeq2_ret, kqSeq2_ct, kqSeq2_bk, kqSeq2_exc, pPass_k, pCt_k, pBk_k, pRaise_k, pKl_k, pFz_k, frz_k, fzO_at, fzO_mk, fzO_none, fzW_at, fzW_mk, pAsg_k, kqAsg_at, kqAsg_fr, kqAsg_fz, kqAsg_exc, pAsgF_k, kqAsgF_at, kqAsgF_fr, kqAsgF_fz, kqAsgF_exc, pAsgT_k, kqAsgT_ok, kqTg_nx, kqAsgT_exc, pApp_k, pExt_k, pIns_k, kqIns1_ok, pSubA_k, kqSub1_ok, kqSub1_exc, pPar_k, kqPar_at, kqPar_1, kqPar_2, kqPar_3, pDrop_k, kqDrop_ok, kqDrop_exc, pRet_k, kqRet_at, kqRet_fr, kqRet_fz, kqRet_bo, kqRet_bd, kqRet_exc, pIf_k, kqIf_t, kqIf_f, kqIf_exc, pFor_k, kqFor_ok, pWhile_k, pTry_k, kqTry_nx, kqTry_ret, kqTry_exc, stepK_nx, stepK_ct, stepK_bk, stepK_ret, stepK_exc, stepF_nx, goF_nx, goF_bk, goF_ret, goF_exc, lcStep_nx, vq0, vq1, Int.cast_ofNat_Int, Int.reduceLT, Int.reduceEq, Int.reduceLE, Int.reduceGT, Z.hL_d, Z.hL_ds, Z.hLs_d, Z.se_ww, Z.se_ss, Z.se_aa, Z.se_ws, Z.se_wa, Z.se_sw, Z.se_sa, Z.se_aw, Z.se_as, Z.sn_ss, hL_q, hL_r, hL_t, hL_i, hL_int, hL_bl, hL_str, hL_non, hL_exc, hL_lst, hL_ro, hL_tup, hL_nil, hL_cons, hLs_q, hLs_i, hLs_bl, qEq_q, qNe_q, qEq_int, qNe_int, qEq_bl, qNe_bl, qEq_r, qNe_r, qEq_t, qNe_t, qEq_vi, qNe_vi, qAdd_int, qSub_int, qMul_int, qDiv_int, qDiv_sm, qMod_int, qPow_int, qDm_sm, qMax_int, qMin_int, qLt_int, qLe_int, qGt_int, qGe_int, qNeg_int, qAbs_int, qToInt_int, qToInt_bl, qIsN_at, qIsN_a, qNotN_at, qNotN_a, isNon_non, isNon_int, isNon_q, isNon_r, qIx_q0, qIx_q1, qLen_q, qLen_r, qLen_t, qLen_vi, qLen_l, qLen_ro, qLen_tp, qLen_ta, qIs_q, qIs_r, qIs_t, qIs_vi, qIs_l, qIs_ro, qIs_tp, qIs_ta, qIs_int, qIs_bl, qIs_str, qIs_non, qIs_exc, Z.pC_N, Z.pC_O, qIx_a0, qIx_a1, qIx_a2, qIx_a3, qIx_f0, qIx_f1, qIx_f2, kqSeq_r, kqSeq_vi, kqSeq_t, kqEnum_r, kqEnum_vi, kqEnum_t, zipOf_rr, zipOf_tr, zipOf_tt, qList_r, qAll_bl, qAny_bl, ty_tuple_tuple, ty_tuple_list, ty_tuple_int, ty_tuple_bool, ty_tuple_str, ty_tuple_NoneType, ty_list_tuple, ty_list_list, ty_list_int, ty_list_bool, ty_list_str, ty_list_NoneType, ty_int_tuple, ty_int_list, ty_int_int, ty_int_bool, ty_int_str, ty_int_NoneType, ty_bool_tuple, ty_bool_list, ty_bool_int, ty_bool_bool, ty_bool_str, ty_bool_NoneType, ty_str_tuple, ty_str_list, ty_str_int, ty_str_bool, ty_str_str, ty_str_NoneType, List.map_cons, List.map_nil, List.cons_append, List.nil_append, List.append_nil, List.reduceReplicate, Nat.reduceSub, List.getElem?_cons_zero, List.getElem?_cons_succ, List.set_cons_zero, List.set_cons_succ, List.length_cons, List.length_nil, Nat.zero_add, Nat.reduceAdd, decide_true, decide_false, beq_self_eq_true, Bool.not_true, Bool.not_false, Bool.or_false, Bool.or_true, Bool.false_or, Bool.true_or, Bool.and_false, Bool.and_true, Bool.false_and, Bool.true_and, Bool.and_self, Bool.or_self])
namespace Z
open Mn Y
end Z
set_option Elab.async false
set_option autoImplicit false
set_option linter.all false
set_option maxRecDepth 100000
set_option maxHeartbeats 2000000
open Mn
namespace Z
open Mn Y
end Z
set_option Elab.async false
set_option autoImplicit false
set_option linter.all false
set_option maxRecDepth 100000
set_option maxHeartbeats 2000000
open Mn
namespace Z
open Mn Y
def BdT (n : Nat) (T : List (List Rat)) : Prop := ∃ D N, 0 < D ∧ D < 2 ^ n ∧ N < 2 ^ n ∧ ∀ r ∈ T, QdA D N r
theorem sz_qd {m : Nat} {q : Rat} (h : Sz m q) : ∃ E M, 0 < E ∧ E < 2 ^ m ∧ M < 2 ^ m ∧ Qd E M q := by
  refine ⟨q.den, q.num.natAbs, Nat.pos_of_ne_zero q.den_nz, h.2, h.1, q.num, Nat.le_refl _, ?_⟩
  have e : Rat.divInt q.num q.den = q := Rat.num_divInt_den q
  have h2 := natc_ne (Nat.pos_of_ne_zero q.den_nz)
  rw [Rat.divInt_eq_div, Rat.intCast_natCast] at e
  have : q * (q.den : Rat) = (q.num : Rat) / (q.den : Rat) * (q.den : Rat) := by rw [e]
  rw [this]
  grind
theorem BdT.ok {n : Nat} {T : List (List Rat)} (h : BdT n T) (hn : n ≤ 4500) : OkT T := by
  obtain ⟨D, N, h1, h2, h3, h4⟩ := h
  exact fun r hr => (h4 r hr).ok h1 (Nat.lt_of_lt_of_le h2 (Nat.pow_le_pow_right (by decide) hn)) (Nat.lt_of_lt_of_le h3 (Nat.pow_le_pow_right (by decide) hn))
theorem BdT.mono {m n : Nat} {T : List (List Rat)} (h : BdT m T) (k : m ≤ n) : BdT n T := by
  obtain ⟨D, N, h1, h2, h3, h4⟩ := h
  exact ⟨D, N, h1, Nat.lt_of_lt_of_le h2 (Nat.pow_le_pow_right (by decide) k), Nat.lt_of_lt_of_le h3 (Nat.pow_le_pow_right (by decide) k), h4⟩
theorem pow_lt2 {a b m n : Nat} (ha : a < 2 ^ m) (hb : b < 2 ^ n) : a * b < 2 ^ (m + n) := by
  rw [Nat.pow_add]
  exact Nat.mul_lt_mul'' ha hb
theorem BdT.scale {m n : Nat} {T : List (List Rat)} {r : List Rat} {q : Rat} (h : BdT n T) (hr : r ∈ T) (hq : Sz m q) (k : n + m ≤ 4500) : OkA (scR r q) := by
  obtain ⟨D, N, h1, h2, h3, h4⟩ := h
  obtain ⟨E, M, k1, k2, k3, k4⟩ := sz_qd hq
  have l : ∀ {x}, x < 2 ^ (n + m) → x < 2 ^ 4500 := fun h => Nat.lt_of_lt_of_le h (Nat.pow_le_pow_right (by decide) k)
  exact (scR_qd (h4 r hr) k4).ok (Nat.mul_pos h1 k1) (l (pow_lt2 h2 k2)) (l (pow_lt2 h3 k3))
def Deed.Sz (m : Nat) : Deed → Prop
  | .swap _ _ => True
  | .scale _ q => Mn.Sz m q
  | .add _ _ q => Mn.Sz m q
end Z
set_option Elab.async false
set_option autoImplicit false
set_option linter.all false
set_option maxRecDepth 100000
set_option maxHeartbeats 2000000
open Mn
namespace Z
open Mn Y
end Z
set_option Elab.async false
set_option autoImplicit false
set_option linter.all false
set_option maxRecDepth 100000
set_option maxHeartbeats 2000000
open Mn
namespace Z
open Mn Y
def QdT (D N : Nat) (T : List (List Rat)) : Prop := ∀ r ∈ T, QdA D N r
theorem QdT.bd {k : Nat} {T : List (List Rat)} (h : QdT (12 ^ k) (2 ^ (75 * k)) T) : BdT (75 * k + 1) T := by
  refine ⟨12 ^ k, 2 ^ (75 * k), Nat.pow_pos (by decide), ?_, Nat.pow_lt_pow_right (by decide) (by omega), h⟩
  calc 12 ^ k ≤ 16 ^ k := Nat.pow_le_pow_left (by decide) k
    _ = 2 ^ (4 * k) := by rw [show (16 : Nat) = 2 ^ 4 from rfl, ← Nat.pow_mul]
    _ < 2 ^ (75 * k + 1) := Nat.pow_lt_pow_right (by decide) (by omega)
end Z
end
section
set_option Elab.async false
set_option autoImplicit false
set_option linter.all false
set_option maxRecDepth 100000
set_option maxHeartbeats 2000000
open Mn
local macro_rules | `(tactic| array_get_dec) => `(tactic| try simp (disch := first | assumption | rfl | decide | decide +kernel) only [pVar_k, vW_at, vW_fz, vW_fr, vW_dr, isB_dr, isD_dr, kqAsg_dr, kqAsgF_dr, kqRet_dr, pC_int, pC_bl, pC_str, pC_non, pC_t2, pBin_k, kq1_ok, kq1_exc, kq2_ok, kq2_exc, pUn_k, kqU_ok, kqU_exc, pAnd_k, kqAnd_t, kqAnd_f, pOr_k, kqOr_t, kqOr_f, pNot_k, kqNot_ok, pChain_k, kqC0_ok, kqC1_ok, kqC2_t, kqC2_f, kqC3_ok, pvL_nil, pvL_k, kqL1_ok, kqL1_exc, kqL2_ok, kqL2_exc, pTup_k, pLst_k, kqTup_exc, kqLst_exc, kqTup_1, kqTup_2, kqTup_3, kqTup_4, kqLst_0, kqLst_1, kqLst_2, kqLst_3, kqLst_4, anyB_nil, anyB_cons, anyT_nil, anyT_cons, at_fl, at_tn, at_t, mk_fl, mk_tn, mk_t, isB_fr, isB_fz, isB_bo, isB_bd, isD_fr, isD_fz, isD_bo, isD_bd, nW_k, elW_k, mkT_k, mkL_k, cond_true, cond_false, pCall_k, kqCall_ok, kqCall_exc, kqRes_ok, kqRes_exc, callW_at, callW_f, fn_1, fn_2, fn_3, fn_4, fn_5, fn_6, kqFn_nx, kqFn_ret, kqFn_exc, pSl_k, kqSl1_ok, kqSl2_ok, kqSl3_ok, pPart_n, pPart_s, kqPt_ok, pList_k, pRev_k, pEnum_k, pZip_k, kqZip1_ok, kqZip2_ok, pRange1_k, pRange2_k, kqR21_ok, kqR22_ok, pLc_k, killP_nil, killP_cons, ptName_at, ptName_fz, ptTup_a2, ptTup_a3, ptTup_f2, ptTup_f3, ptTup_q, ptAll_nil, ptAll_cons, kqAll_nx, pSeq_k, kqSeq2_nx, kqSeq2_ret, kqSeq2_ct, kqSeq2_bk, kqSeq2_exc, pPass_k, pCt_k, pBk_k, pRaise_k, pKl_k, pFz_k, frz_k, fzO_at, fzO_mk, fzO_none, fzW_at, fzW_mk, pAsg_k, kqAsg_at, kqAsg_fr, kqAsg_fz, kqAsg_exc, pAsgF_k, kqAsgF_at, kqAsgF_fr, kqAsgF_fz, kqAsgF_exc, pAsgT_k, kqAsgT_ok, kqTg_nx, kqAsgT_exc, pApp_k, pExt_k, pIns_k, kqIns1_ok, pSubA_k, kqSub1_ok, kqSub1_exc, pPar_k, kqPar_at, kqPar_1, kqPar_2, kqPar_3, pDrop_k, kqDrop_ok, kqDrop_exc, pRet_k, kqRet_at, kqRet_fr, kqRet_fz, kqRet_bo, kqRet_bd, kqRet_exc, pIf_k, kqIf_t, kqIf_f, kqIf_exc, pFor_k, kqFor_ok, pWhile_k, pTry_k, kqTry_nx, kqTry_ret, kqTry_exc, stepK_nx, stepK_ct, stepK_bk, stepK_ret, stepK_exc, stepF_nx, goF_nx, goF_bk, goF_ret, goF_exc, lcStep_nx, pTmp_k, frzAll_nil, frzAll_cons, kqTmp_bl, kqTmp_int, kqTmp_q, kqTmp_non, kqTmp_dr, kqTmp_r, pTupD_k, pLstD_k, kqLstD_0, pLcD_k, pSubD_k, vq0, vq1, Int.cast_ofNat_Int, Int.reduceLT, Int.reduceEq, Int.reduceLE, Int.reduceGT, Z.hL_d, Z.hL_ds, Z.hLs_d, Z.se_ww, Z.se_ss, Z.se_aa, Z.se_ws, Z.se_wa, Z.se_sw, Z.se_sa, Z.se_aw, Z.se_as, Z.sn_ss, hL_q, hL_r, hL_t, hL_i, hL_int, hL_bl, hL_str, hL_non, hL_exc, hL_lst, hL_ro, hL_tup, hL_nil, hL_cons, hLs_q, hLs_i, hLs_bl, qEq_q, qNe_q, qEq_int, qNe_int, qEq_bl, qNe_bl, qEq_r, qNe_r, qEq_t, qNe_t, qEq_vi, qNe_vi, qAdd_int, qSub_int, qMul_int, qDiv_int, qDiv_sm, qMod_int, qPow_int, qDm_sm, qMax_int, qMin_int, qLt_int, qLe_int, qGt_int, qGe_int, qNeg_int, qAbs_int, qToInt_int, qToInt_bl, qIsN_at, qIsN_a, qNotN_at, qNotN_a, isNon_non, isNon_int, isNon_q, isNon_r, qIx_q0, qIx_q1, qLen_q, qLen_r, qLen_t, qLen_vi, qLen_l, qLen_ro, qLen_tp, qLen_ta, qIs_q, qIs_r, qIs_t, qIs_vi, qIs_l, qIs_ro, qIs_tp, qIs_ta, qIs_int, qIs_bl, qIs_str, qIs_non, qIs_exc, Z.pC_N, Z.pC_O, qIx_a0, qIx_a1, qIx_a2, qIx_a3, qIx_f0, qIx_f1, qIx_f2, kqSeq_r, kqSeq_vi, kqSeq_t, kqEnum_r, kqEnum_vi, kqEnum_t, zipOf_rr, zipOf_tr, zipOf_tt, qList_r, qAll_bl, qAny_bl, ty_tuple_tuple, ty_tuple_list, ty_tuple_int, ty_tuple_bool, ty_tuple_str, ty_tuple_NoneType, ty_list_tuple, ty_list_list, ty_list_int, ty_list_bool, ty_list_str, ty_list_NoneType, ty_int_tuple, ty_int_list, ty_int_int, ty_int_bool, ty_int_str, ty_int_NoneType, ty_bool_tuple, ty_bool_list, ty_bool_int, ty_bool_bool, ty_bool_str, ty_bool_NoneType, ty_str_tuple, ty_str_list, ty_str_int, ty_str_bool, ty_str_str, ty_str_NoneType, List.map_cons, List.map_nil, List.cons_append, List.nil_append, List.append_nil, List.reduceReplicate, Nat.reduceSub, List.getElem?_cons_zero, List.getElem?_cons_succ, List.set_cons_zero, List.set_cons_succ, List.length_cons, List.length_nil, Nat.zero_add, Nat.reduceAdd, decide_true, decide_false, beq_self_eq_true, Bool.not_true, Bool.not_false, Bool.or_false, Bool.or_true, Bool.false_or, Bool.true_or, Bool.and_false, Bool.and_true, Bool.false_and, Bool.true_and, Bool.and_self, Bool.or_self])
namespace Z
open Mn Y
def Bd (n : Nat) (qs : List Rat) : Prop := BdT n [qs]
theorem BdT.row {n : Nat} {T : List (List Rat)} (h : BdT n T) {r : List Rat} (hr : r ∈ T) : Bd n r := by
  obtain ⟨D, N, h1, h2, h3, h4⟩ := h
  exact ⟨D, N, h1, h2, h3, fun x hx => by rw [List.mem_singleton.mp hx]; exact h4 r hr⟩
theorem Bd.ok {n : Nat} {qs : List Rat} (h : Bd n qs) (hn : n ≤ 4500) : OkA qs := BdT.ok h hn _ List.mem_cons_self
theorem Bd.mono {m n : Nat} {qs : List Rat} (h : Bd m qs) (k : m ≤ n) : Bd n qs := BdT.mono h k
theorem Bd.of {D N n : Nat} {qs : List Rat} (h1 : 0 < D) (h2 : D < 2 ^ n) (h3 : N < 2 ^ n) (h : QdA D N qs) : Bd n qs := ⟨D, N, h1, h2, h3, fun x hx => by rw [List.mem_singleton.mp hx]; exact h⟩
end Z
set_option Elab.async false
set_option autoImplicit false
set_option linter.all false
set_option maxRecDepth 100000
set_option maxHeartbeats 2000000
open Mn
namespace Z
open Mn Y
theorem fmod_lt (z : Int) {m : Nat} (h : 0 < m) : ∃ k : Nat, k < m ∧ Int.fmod z (m : Int) = (k : Int) := by
  rw [Int.fmod_eq_emod_of_nonneg _ (by omega)]
  have g1 := Int.emod_nonneg z (show (m : Int) ≠ 0 by omega)
  have g2 := Int.emod_lt_of_pos z (show (0 : Int) < m by omega)
  obtain ⟨k, hk⟩ := Int.eq_ofNat_of_zero_le g1
  exact ⟨k, by omega, hk⟩
end Z
set_option Elab.async false
set_option autoImplicit false
set_option linter.all false
set_option maxRecDepth 100000
set_option maxHeartbeats 2000000
open Mn
namespace Mn
theorem qIx_l0 (f : Fl) (s : Bool) (x : V) (xs : List V) : qIx ⟨f, s, .lst (x :: xs)⟩ (.at (.int 0)) = .ok (elW (isD f) s x) := qIx_l (i := 0) rfl
theorem qIx_l1 (f : Fl) (s : Bool) (x y : V) (xs : List V) : qIx ⟨f, s, .lst (x :: y :: xs)⟩ (.at (.int 1)) = .ok (elW (isD f) s y) := qIx_l (i := 1) rfl
theorem qIx_l2 (f : Fl) (s : Bool) (x y z : V) (xs : List V) : qIx ⟨f, s, .lst (x :: y :: z :: xs)⟩ (.at (.int 2)) = .ok (elW (isD f) s z) := qIx_l (i := 2) rfl
end Mn
end
section
set_option Elab.async false
set_option autoImplicit false
set_option linter.all false
set_option maxRecDepth 100000
set_option maxHeartbeats 2000000
open Mn
local macro_rules | `(tactic| array_get_dec) => `(tactic| try simp (disch := first | assumption | rfl | decide | decide +kernel) only [pVar_k, vW_at, vW_fz, vW_fr, vW_dr, isB_dr, isD_dr, kqAsg_dr, kqAsgF_dr, kqRet_dr, pC_int, pC_bl, pC_str, pC_non, pC_t2, pBin_k, kq1_ok, kq1_exc, kq2_ok, kq2_exc, pUn_k, kqU_ok, kqU_exc, pAnd_k, kqAnd_t, kqAnd_f, pOr_k, kqOr_t, kqOr_f, pNot_k, kqNot_ok, pChain_k, kqC0_ok, kqC1_ok, kqC2_t, kqC2_f, kqC3_ok, pvL_nil, pvL_k, kqL1_ok, kqL1_exc, kqL2_ok, kqL2_exc, pTup_k, pLst_k, kqTup_exc, kqLst_exc, kqTup_1, kqTup_2, kqTup_3, kqTup_4, kqLst_0, kqLst_1, kqLst_2, kqLst_3, kqLst_4, anyB_nil, anyB_cons, anyT_nil, anyT_cons, at_fl, at_tn, at_t, mk_fl, mk_tn, mk_t, isB_fr, isB_fz, isB_bo, isB_bd, isD_fr, isD_fz, isD_bo, isD_bd, nW_k, elW_k, mkT_k, mkL_k, cond_true, cond_false, pCall_k, kqCall_ok, kqCall_exc, kqRes_ok, kqRes_exc, callW_at, callW_f, fn_1, fn_2, fn_3, fn_4, fn_5, fn_6, kqFn_nx, kqFn_ret, kqFn_exc, pSl_k, kqSl1_ok, kqSl2_ok, kqSl3_ok, pPart_n, pPart_s, kqPt_ok, pList_k, pRev_k, pEnum_k, pZip_k, kqZip1_ok, kqZip2_ok, pRange1_k, pRange2_k, kqR21_ok, kqR22_ok, pLc_k, killP_nil, killP_cons, ptName_at, ptName_fz, ptTup_a2, ptTup_a3, ptTup_f2, ptTup_f3, ptTup_q, ptAll_nil, ptAll_cons, kqAll_nx, pSeq_k, kqSeq2_nx, kqSeq2_ret, kqSeq2_ct, kqSeq2_bk, kqSeq2_exc, pPass_k, pCt_k, pBk_k, pRaise_k, pKl_k, pFz_k, frz_k, fzO_at, fzO_mk, fzO_none, fzW_at, fzW_mk, pAsg_k, kqAsg_at, kqAsg_fr, kqAsg_fz, kqAsg_exc, pAsgF_k, kqAsgF_at, kqAsgF_fr, kqAsgF_fz, kqAsgF_exc, pAsgT_k, kqAsgT_ok, kqTg_nx, kqAsgT_exc, pApp_k, pExt_k, pIns_k, kqIns1_ok, pSubA_k, kqSub1_ok, kqSub1_exc, pPar_k, kqPar_at, kqPar_1, kqPar_2, kqPar_3, pDrop_k, kqDrop_ok, kqDrop_exc, pRet_k, kqRet_at, kqRet_fr, kqRet_fz, kqRet_bo, kqRet_bd, kqRet_exc, pIf_k, kqIf_t, kqIf_f, kqIf_exc, pFor_k, kqFor_ok, pWhile_k, pTry_k, kqTry_nx, kqTry_ret, kqTry_exc, stepK_nx, stepK_ct, stepK_bk, stepK_ret, stepK_exc, stepF_nx, goF_nx, goF_bk, goF_ret, goF_exc, lcStep_nx, pTmp_k, frzAll_nil, frzAll_cons, kqTmp_bl, kqTmp_int, kqTmp_q, kqTmp_non, kqTmp_dr, kqTmp_r, pTupD_k, pLstD_k, kqLstD_0, pLcD_k, pSubD_k, vq0, vq1, Int.cast_ofNat_Int, Int.reduceLT, Int.reduceEq, Int.reduceLE, Int.reduceGT, Z.hL_d, Z.hL_ds, Z.hLs_d, Z.se_ww, Z.se_ss, Z.se_aa, Z.se_ws, Z.se_wa, Z.se_sw, Z.se_sa, Z.se_aw, Z.se_as, Z.sn_ss, hL_q, hL_r, hL_t, hL_i, hL_int, hL_bl, hL_str, hL_non, hL_exc, hL_lst, hL_ro, hL_tup, hL_nil, hL_cons, hLs_q, hLs_i, hLs_bl, qEq_q, qNe_q, qEq_int, qNe_int, qEq_bl, qNe_bl, qEq_r, qNe_r, qEq_t, qNe_t, qEq_vi, qNe_vi, qAdd_int, qSub_int, qMul_int, qDiv_int, qDiv_sm, qMod_int, qPow_int, qDm_sm, qMax_int, qMin_int, qLt_int, qLe_int, qGt_int, qGe_int, qNeg_int, qAbs_int, qToInt_int, qToInt_bl, qIsN_at, qIsN_a, qNotN_at, qNotN_a, isNon_non, isNon_int, isNon_q, isNon_r, qIx_q0, qIx_q1, qLen_q, qLen_r, qLen_t, qLen_vi, qLen_l, qLen_ro, qLen_tp, qLen_ta, qIs_q, qIs_r, qIs_t, qIs_vi, qIs_l, qIs_ro, qIs_tp, qIs_ta, qIs_int, qIs_bl, qIs_str, qIs_non, qIs_exc, Z.pC_N, Z.pC_O, qIx_a0, qIx_a1, qIx_a2, qIx_a3, qIx_f0, qIx_f1, qIx_f2, qIx_l0, qIx_l1, qIx_l2, kqSeq_r, kqSeq_vi, kqSeq_t, kqEnum_r, kqEnum_vi, kqEnum_t, zipOf_rr, zipOf_tr, zipOf_tt, qList_r, qAll_bl, qAny_bl, ty_tuple_tuple, ty_tuple_list, ty_tuple_int, ty_tuple_bool, ty_tuple_str, ty_tuple_NoneType, ty_list_tuple, ty_list_list, ty_list_int, ty_list_bool, ty_list_str, ty_list_NoneType, ty_int_tuple, ty_int_list, ty_int_int, ty_int_bool, ty_int_str, ty_int_NoneType, ty_bool_tuple, ty_bool_list, ty_bool_int, ty_bool_bool, ty_bool_str, ty_bool_NoneType, ty_str_tuple, ty_str_list, ty_str_int, ty_str_bool, ty_str_str, ty_str_NoneType, List.map_cons, List.map_nil, List.cons_append, List.nil_append, List.append_nil, List.reduceReplicate, Nat.reduceSub, List.getElem?_cons_zero, List.getElem?_cons_succ, List.set_cons_zero, List.set_cons_succ, List.length_cons, List.length_nil, Nat.zero_add, Nat.reduceAdd, decide_true, decide_false, beq_self_eq_true, Bool.not_true, Bool.not_false, Bool.or_false, Bool.or_true, Bool.false_or, Bool.true_or, Bool.and_false, Bool.and_true, Bool.false_and, Bool.true_and, Bool.and_self, Bool.or_self])
namespace Z
open Mn Y
theorem greatF {F : PF} {z c : Int} (hF : ∀ z, F [.int z] = pFn 1 1 (pRet (pBin qMod (pBin qMul (pBin qMul (pBin qMul (pBin qAdd (pVar 0) (pC (.int c))) (pBin qPow (pC (.int 7)) (pC (.int 61)))) (pBin qPow (pC (.int 11)) (pC (.int 63)))) (pBin qPow (pC (.int 13)) (pC (.int 9)))) (pBin qMul (pBin qPow (pC (.int 10)) (pC (.int 60))) (pBin qPow (pC (.int 10)) (pC (.int 60)))))) [.int z]) (hc : Lt2 20 c) (hz : Lt2 1048580 z) :
    ∃ n : Nat, n < 10 ^ 120 ∧ F [.int z] = .ok (.at (.int n)) := by
  have h5 : Lt2 1048581 (z + c) := (hz.add hc).mono (by decide)
  have a1 : Lt2 200 ((7 : Int) ^ (61 : Int).toNat) := by decide +kernel
  have a2 : Lt2 300 ((11 : Int) ^ (63 : Int).toNat) := by decide +kernel
  have a3 : Lt2 100 ((13 : Int) ^ (9 : Int).toNat) := by decide +kernel
  have a4 : Lt2 300 ((10 : Int) ^ (60 : Int).toNat) := by decide +kernel
  have m1 := mulOk_lt h5 a1 (by decide)
  have m2 := mulOk_lt (h5.mul a1) a2 (by decide)
  have m3 := mulOk_lt ((h5.mul a1).mul a2) a3 (by decide)
  have m4 := mulOk_lt a4 a4 (by decide)
  have d4 : (10 : Int) ^ (60 : Int).toNat * 10 ^ (60 : Int).toNat ≠ 0 := by decide +kernel
  rw [hF]
  array_get_dec
  generalize (z + c) * 7 ^ (61 : Int).toNat * 11 ^ (63 : Int).toNat * 13 ^ (9 : Int).toNat = y
  have e : (10 : Int) ^ (60 : Int).toNat * 10 ^ (60 : Int).toNat = 10 ^ 120 := by decide +kernel
  rw [e]
  rw [Int.fmod_eq_emod_of_nonneg _ (by decide +kernel)]
  have g1 := Int.emod_nonneg y (show (10 : Int) ^ 120 ≠ 0 by decide +kernel)
  have g2 := Int.emod_lt_of_pos y (show (0 : Int) < 10 ^ 120 by decide +kernel)
  generalize y % 10 ^ 120 = w at *
  obtain ⟨k, rfl⟩ := Int.eq_ofNat_of_zero_le g1
  exact ⟨k, by omega, rfl⟩
theorem cell_lt {z : Int} (hz : bits z ≤ 1048576) : Lt2 1048580 z := (lt2_bits z).mono (by omega)
theorem cell_add {z c : Int} (hz : bits z ≤ 1048576) (hc : Lt2 20 c) : Lt2 1048580 (z + c) := (((lt2_bits z).mono hz).add hc).mono (by decide)
theorem lshared_ok {n : Nat} {a b : Int} (hb0 : 0 ≤ b) (hb : Lt2 n b) (hn : n ≤ 1000000000) : v_l_shared [.int a, .int b] = .ok (.at (.int (Int.gcd a b : Nat))) := by
  unfold v_l_shared
  array_get_dec
  unfold v_l_shared.b
  array_get_dec
  have e1 : ∀ x : Int, (if x < 0 then -x else x) = (x.natAbs : Int) := fun x => by split <;> omega
  rw [e1]
  have e2 : b = (b.natAbs : Int) := by omega
  obtain ⟨⟨x, y⟩, hI, hp, hw⟩ := whileN_run (σ := Nat × Nat) (ks := []) (c := pBin qNe (pVar 1) (pC (.int 0))) (b := pPar 0 1 (pVar 1) (pBin qMod (pVar 0) (pVar 1)))
    (fun s => [some (.at (.int s.1)), some (.at (.int s.2))]) (fun s => Nat.gcd s.1 s.2 = Int.gcd a b) (fun s => est s.1 s.2) (fun s => !decide ((s.2 : Int) = 0)) (fun s => (s.2, s.1 % s.2))
    (fun s _ => by array_get_dec) (fun s hs hp => by
      have h0 : s.2 ≠ 0 := by simpa using hp
      have h1 : (s.2 : Int) ≠ 0 := by omega
      refine ⟨?_, (gcd_step _ _).trans hs, ?_⟩
      · array_get_dec
        simp only [fmod_nat]
      · show est s.2 (s.1 % s.2) < est s.1 s.2
        rw [est_pos s.1 h0]
        omega) whileLine (a.natAbs, b.natAbs) rfl (est_line hb hn _)
  have ee : ([some (W.at (.int (a.natAbs : Int))), some (W.at (.int b))] : PEnv) = [some (.at (.int (a.natAbs : Int))), some (.at (.int (b.natAbs : Int)))] := by rw [← e2]
  rw [ee, hw]
  have hy : y = 0 := by simpa using hp
  subst hy
  have hx : x = Int.gcd a b := by simpa using hI
  rw [← hx]
  array_get_dec
theorem made_ok {m : Nat} {a b : Int} (hb0 : 0 < b) (hb : Lt2 m b) (hm : m ≤ 1000000000) (hd : m ≤ 9000 ∨ Sz 4500 (Rat.divInt a b)) : v_l_made [.int a, .int b] = .ok (.at (vq (Rat.divInt a b))) := by
  unfold v_l_made
  array_get_dec
  unfold v_l_made.b
  array_get_dec
  rw [lshared_ok (by omega) hb hm]
  have hbn : b ≠ 0 := by omega
  have g0 : (Int.gcd a b : Int) ≠ 0 := by
    have : Int.gcd a b ≠ 0 := fun z => hbn (Int.gcd_eq_zero_iff.mp z).2
    omega
  obtain ⟨f1, f2⟩ := red_num (a := a) hbn
  obtain ⟨d1, d2⟩ := red_div hbn hb hd
  rw [if_neg (by omega)] at f1 f2 d1 d2
  array_get_dec
  rw [fdiv_dvd (Int.gcd_dvd_left a b) g0, fdiv_dvd (Int.gcd_dvd_right a b) g0]
  rw [← f1, ← f2]
  rfl
end Z
set_option Elab.async false
set_option autoImplicit false
set_option linter.all false
set_option maxRecDepth 100000
set_option maxHeartbeats 2000000
open Mn
namespace Z
open Mn Y
def Rd (X : V) (d : Bool) : Prop := v_p_is_ratio [X] = .ok (.at (.bl d)) ∧ v_l_due_4 [X] = .ok (.at (.bl d))
theorem rd_int {n : Nat} {a b : Int} (hb : Lt2 n b) (hn : n ≤ 1000000000) : Rd (.tup [.int a, .int b]) (decide (0 < b) && decide (((Int.gcd a b : Nat) : Int) = 1)) := by
  refine ⟨?_, ?_⟩
  · unfold v_p_is_ratio
    array_get_dec
    unfold v_p_is_ratio.b
    array_get_dec
    rw [whole_ok]
    array_get_dec
    rw [whole_ok]
    array_get_dec
    by_cases h : 0 < b
    · rw [decide_eq_true h]
      array_get_dec
      rw [v_shared_ok hb hn]
      array_get_dec
    · rw [decide_eq_false h]
      array_get_dec
  · unfold v_l_due_4
    array_get_dec
    unfold v_l_due_4.b
    array_get_dec
    rw [whole_ok]
    array_get_dec
    rw [whole_ok]
    array_get_dec
    by_cases h : 0 < b
    · rw [decide_eq_true h]
      array_get_dec
      rw [lshared_ok (by omega) hb hn]
      array_get_dec
    · rw [decide_eq_false h]
      array_get_dec
end Z
set_option Elab.async false
set_option autoImplicit false
set_option linter.all false
set_option maxRecDepth 100000
set_option maxHeartbeats 2000000
open Mn
namespace Z
open Mn Y
theorem digitN : ∀ d : Nat, d < 10 → (Nat.digitChar d).toNat = 48 + d := by decide
theorem numL_lt {n : Nat} (h : n < 10) : numL n = [48 + n] := by
  unfold numL
  rw [Nat.toDigits_of_lt_base h]
  show [(Nat.digitChar n).toNat] = _
  rw [digitN n h]
theorem numL_step {n : Nat} (h : 10 ≤ n) : numL n = numL (n / 10) ++ [48 + n % 10] := by
  have hm : n % 10 < 10 := Nat.mod_lt n (by decide)
  have t : Nat.toDigits 10 (n / 10) ++ Nat.toDigits 10 (n % 10) = Nat.toDigits 10 (10 * (n / 10) + n % 10) := Nat.toDigits_append_toDigits (by decide) (by omega) hm
  rw [Nat.div_add_mod] at t
  unfold numL
  rw [← t, List.map_append, Nat.toDigits_of_lt_base hm]
  show _ ++ [(Nat.digitChar (n % 10)).toNat] = _
  rw [digitN _ hm]
theorem fig_iff {c : Nat} : isFig c = true ↔ 48 ≤ c ∧ c ≤ 57 := by
  unfold isFig
  rw [Bool.and_eq_true, decide_eq_true_eq, decide_eq_true_eq]
theorem numL_fig (n : Nat) : ∀ c ∈ numL n, isFig c = true := by
  induction n using Nat.strongRecOn with
  | _ n ih =>
    by_cases h : n < 10
    · rw [numL_lt h]
      intro c hc
      rw [List.mem_singleton.mp hc]
      exact fig_iff.mpr (by omega)
    · rw [numL_step (by omega)]
      intro c hc
      rcases List.mem_append.mp hc with hc | hc
      · exact ih (n / 10) (by omega) c hc
      · have hm : n % 10 < 10 := Nat.mod_lt n (by decide)
        rw [List.mem_singleton.mp hc]
        exact fig_iff.mpr (by omega)
theorem numL_ne (n : Nat) : numL n ≠ [] := by
  by_cases h : n < 10
  · rw [numL_lt h]
    exact List.cons_ne_nil _ _
  · rw [numL_step (by omega)]
    simp
theorem figV_last (l : List Nat) (d : Nat) : figV (l ++ [48 + d]) = figV l * 10 + d := by
  unfold figV
  rw [List.foldl_append]
  show _ * 10 + (48 + d - 48) = _
  omega
theorem numL_val (n : Nat) : figV (numL n) = n := by
  induction n using Nat.strongRecOn with
  | _ n ih =>
    by_cases h : n < 10
    · rw [numL_lt h]
      show 0 * 10 + (48 + n - 48) = n
      omega
    · rw [numL_step (by omega), figV_last, ih (n / 10) (by omega)]
      omega
theorem numL_len : ∀ (k n : Nat), n < 10 ^ (k + 1) → (numL n).length ≤ k + 1
  | 0, n, h => by
    rw [numL_lt (by simpa using h)]
    exact Nat.le_refl 1
  | k + 1, n, h => by
    by_cases h9 : n < 10
    · rw [numL_lt h9]
      show 1 ≤ k + 1 + 1
      omega
    · rw [numL_step (by omega), List.length_append]
      have := numL_len k (n / 10) (by
        rw [Nat.pow_succ] at h
        omega)
      show _ + 1 ≤ k + 1 + 1
      omega
theorem numL_head (n : Nat) : (numL n)[0]? = some 48 → n = 0 := by
  induction n using Nat.strongRecOn with
  | _ n ih =>
    by_cases h : n < 10
    · rw [numL_lt h]
      intro e
      have : 48 + n = 48 := Option.some.inj e
      omega
    · rw [numL_step (by omega)]
      intro e
      have hp : 0 < (numL (n / 10)).length := List.length_pos_iff.mpr (numL_ne _)
      rw [List.getElem?_append_left hp] at e
      have := ih (n / 10) (by omega) e
      omega
def bodyL (s : List Nat) : List Nat := if s[0]? = some 45 then s.drop 1 else s
def rwL (s : List Nat) : Option Int :=
  if bodyL s = [] ∨ 60 < (bodyL s).length then none else if (bodyL s).all isFig = false then none else if (bodyL s)[0]? = some 48 ∧ s ≠ [48] then none
    else if bodyL s = s then some (figV (bodyL s) : Int) else some (-(figV (bodyL s) : Int))
def rdL (s : List Nat) : Option (Int × Int) := match parL 47 s with
  | none => (rwL s).map fun x => (x, 1)
  | some (a, b) => match rwL a, rwL b with
    | some x, some y => if 2 ≤ y ∧ Int.gcd x y = 1 then some (x, y) else none
    | _, _ => none
theorem all_fig (n : Nat) : (numL n).all isFig = true := List.all_eq_true.mpr (numL_fig n)
theorem num_not {n c : Nat} (h : isFig c = false) : c ∉ numL n := fun m => by
  have := numL_fig n c m
  rw [h] at this
  cases this
theorem intL_not {i : Int} {c : Nat} (h : isFig c = false) (h2 : c ≠ 45) : c ∉ intL i := by
  unfold intL
  split
  · intro m
    rcases List.mem_cons.mp m with e | m
    · exact h2 e
    · exact num_not h m
  · exact num_not h
theorem rw_int {i : Int} (h : i.natAbs < 10 ^ 60) : rwL (intL i) = some i := by
  have len := numL_len 59 i.natAbs h
  have ne := numL_ne i.natAbs
  have af := all_fig i.natAbs
  have val := numL_val i.natAbs
  have hd := numL_head i.natAbs
  have n45 : (numL i.natAbs)[0]? ≠ some 45 := fun e => num_not (n := i.natAbs) (c := 45) (by decide) (List.mem_of_getElem? e)
  unfold intL
  by_cases neg : i < 0
  · rw [if_pos neg]
    have hb : bodyL (45 :: numL i.natAbs) = numL i.natAbs := if_pos rfl
    unfold rwL
    rw [hb, if_neg (fun z => z.elim ne fun q => by omega), if_neg (by rw [af]; exact fun z => by cases z), if_neg (fun z => by have := hd z.1; omega),
      if_neg (fun z => by have := congrArg List.length z; simp at this), val]
    exact congrArg some (by omega)
  · rw [if_neg neg]
    have hb : bodyL (numL i.natAbs) = numL i.natAbs := if_neg n45
    unfold rwL
    rw [hb, if_neg (fun z => z.elim ne fun q => by omega), if_neg (by rw [af]; exact fun z => by cases z), if_neg (fun z => by
      have h0 := hd z.1
      exact z.2 (by rw [h0]; exact numL_lt (by decide))), if_pos rfl, val]
    exact congrArg some (by omega)
theorem par_no {c : Nat} : ∀ {l : List Nat}, c ∉ l → parL c l = none
  | [], _ => rfl
  | d :: r, h => by
    unfold parL
    rw [if_neg fun e => h (by rw [e]; exact List.mem_cons_self), par_no fun m => h (List.mem_cons_of_mem _ m)]
    rfl
theorem par_at {c : Nat} : ∀ {l r : List Nat}, c ∉ l → parL c (l ++ c :: r) = some (l, r)
  | [], r, _ => if_pos rfl
  | d :: l, r, h => by
    show parL c (d :: (l ++ c :: r)) = _
    unfold parL
    rw [if_neg fun e => h (by rw [e]; exact List.mem_cons_self), par_at fun m => h (List.mem_cons_of_mem _ m)]
    rfl
def showL (q : Rat) : List Nat := if q.den = 1 then intL q.num else intL q.num ++ (47 :: intL (q.den : Int))
def Tq (q : Rat) : Prop := q.num.natAbs < 10 ^ 60 ∧ q.den < 10 ^ 60
theorem rd_show {q : Rat} (h : Tq q) : rdL (showL q) = some (q.num, (q.den : Int)) := by
  have e1 := rw_int h.1
  unfold showL rdL
  by_cases d1 : q.den = 1
  · rw [if_pos d1, par_no (intL_not (by decide) (by decide)), d1]
    simp only []
    rw [e1]
    rfl
  · rw [if_neg d1, par_at (intL_not (by decide) (by decide))]
    simp only []
    rw [e1, rw_int (i := (q.den : Int)) h.2]
    simp only []
    refine if_pos ⟨?_, ?_⟩
    · have := q.den_pos
      omega
    · have := q.reduced
      show Nat.gcd q.num.natAbs q.den = 1
      exact this
theorem spl_no {c : Nat} : ∀ {l : List Nat}, c ∉ l → splL c l = [l]
  | [], _ => rfl
  | d :: r, h => by
    unfold splL
    rw [if_neg fun e => h (by rw [e]; exact List.mem_cons_self), spl_no fun m => h (List.mem_cons_of_mem _ m)]
theorem spl_at {c : Nat} : ∀ {l r : List Nat}, c ∉ l → splL c (l ++ c :: r) = l :: splL c r
  | [], r, _ => if_pos rfl
  | d :: l, r, h => by
    show (if d = c then [] :: splL c (l ++ c :: r) else match splL c (l ++ c :: r) with
      | [] => [[d]]
      | p :: ps => (d :: p) :: ps) = _
    rw [if_neg fun e => h (by rw [e]; exact List.mem_cons_self), spl_at fun m => h (List.mem_cons_of_mem _ m)]
theorem spl_join {c : Nat} : ∀ {ps : List (List Nat)}, ps ≠ [] → (∀ p ∈ ps, c ∉ p) → splL c (joinL [c] ps) = ps
  | [], h, _ => absurd rfl h
  | [p], _, h => spl_no (h p List.mem_cons_self)
  | p :: q :: r, _, h => by
    show splL c (p ++ ([c] ++ joinL [c] (q :: r))) = _
    rw [List.singleton_append, spl_at (h p List.mem_cons_self), spl_join (List.cons_ne_nil _ _) fun x hx => h x (List.mem_cons_of_mem _ hx)]
theorem show_not {q : Rat} : 44 ∉ showL q := by
  unfold showL
  split
  · exact intL_not (by decide) (by decide)
  · intro m
    rcases List.mem_append.mp m with m | m
    · exact intL_not (by decide) (by decide) m
    · rcases List.mem_cons.mp m with e | m
      · cases e
      · exact intL_not (by decide) (by decide) m
theorem intL_ne (i : Int) : intL i ≠ [] := by
  unfold intL
  split
  · exact List.cons_ne_nil _ _
  · exact numL_ne _
theorem show_ne (q : Rat) : showL q ≠ [] := by
  unfold showL
  split
  · exact intL_ne _
  · exact fun z => intL_ne _ (List.append_eq_nil_iff.mp z).1
theorem intL_len {i : Int} (h : i.natAbs < 10 ^ 60) : (intL i).length ≤ 61 := by
  have := numL_len 59 i.natAbs h
  unfold intL
  split
  · show (numL i.natAbs).length + 1 ≤ 61
    omega
  · omega
theorem show_len {q : Rat} (h : Tq q) : (showL q).length ≤ 130 := by
  have h1 := intL_len h.1
  have h2 := intL_len (i := (q.den : Int)) h.2
  unfold showL
  split
  · omega
  · rw [List.length_append]
    show _ + ((intL (q.den : Int)).length + 1) ≤ 130
    omega
def Cd (s : List Nat) : Prop := s.all (fun c => decide (c < 1114112)) = true
theorem cd_of {s : List Nat} (h : ∀ c ∈ s, c < 200) : Cd s := List.all_eq_true.mpr fun c hc => decide_eq_true (Nat.lt_trans (h c hc) (by decide))
theorem intL_lt (i : Int) : ∀ c ∈ intL i, c < 200 := by
  intro c hc
  unfold intL at hc
  split at hc
  · rcases List.mem_cons.mp hc with rfl | hc
    · decide
    · have := fig_iff.mp (numL_fig _ c hc)
      omega
  · have := fig_iff.mp (numL_fig _ c hc)
    omega
theorem show_lt (q : Rat) : ∀ c ∈ showL q, c < 200 := by
  intro c hc
  unfold showL at hc
  split at hc
  · exact intL_lt _ c hc
  · rcases List.mem_append.mp hc with hc | hc
    · exact intL_lt _ c hc
    · rcases List.mem_cons.mp hc with rfl | hc
      · decide
      · exact intL_lt _ c hc
theorem join_lt {s : List Nat} (hs : ∀ c ∈ s, c < 200) : ∀ {ps : List (List Nat)}, (∀ p ∈ ps, ∀ c ∈ p, c < 200) → ∀ c ∈ joinL s ps, c < 200
  | [], _, c, hc => by cases hc
  | [p], h, c, hc => h p List.mem_cons_self c hc
  | p :: q :: r, h, c, hc => by
    rcases List.mem_append.mp (show c ∈ p ++ (s ++ joinL s (q :: r)) from hc) with hc | hc
    · exact h p List.mem_cons_self c hc
    · rcases List.mem_append.mp hc with hc | hc
      · exact hs c hc
      · exact join_lt hs (fun x hx => h x (List.mem_cons_of_mem _ hx)) c hc
theorem join_len {s : List Nat} {m : Nat} (hs : s.length ≤ 1) : ∀ {ps : List (List Nat)}, (∀ p ∈ ps, p.length ≤ m) → (joinL s ps).length ≤ ps.length * (m + 1)
  | [], _ => Nat.zero_le _
  | [p], h => by
    have := h p List.mem_cons_self
    show p.length ≤ 1 * (m + 1)
    omega
  | p :: q :: r, h => by
    have h1 := h p List.mem_cons_self
    have h2 := join_len hs (ps := q :: r) fun x hx => h x (List.mem_cons_of_mem _ hx)
    show (p ++ (s ++ joinL s (q :: r))).length ≤ _
    rw [List.length_append, List.length_append, List.length_cons (a := p), Nat.add_mul, Nat.one_mul]
    omega
end Z
set_option Elab.async false
set_option autoImplicit false
set_option linter.all false
set_option maxRecDepth 100000
set_option maxHeartbeats 2000000
open Mn
namespace Z
open Mn Y
theorem fig_mem (c : Nat) : decide (c ∈ S "0123456789") = isFig c := by
  have e : S "0123456789" = [48, 49, 50, 51, 52, 53, 54, 55, 56, 57] := by decide
  rw [e, Bool.eq_iff_iff, decide_eq_true_eq, fig_iff]
  simp only [List.mem_cons, List.not_mem_nil, or_false]
  omega
theorem pC_FIG (π : PEnv) : pC c_FIGURES π = .ok (.at (.str (S "0123456789"))) := rfl
theorem pC_60 (π : PEnv) : pC c_MOST_FIGURES π = .ok (.at (.int 60)) := rfl
def figB : PS := pIf (pBin (qInS true) (pVar 2) (pC c_FIGURES)) (pRaise "NoText") (pPass)
theorem figS {a b : Option W} (c : Nat) : stepF [2] figB (ptName 2 (W.at (.str [c])) [a, b, none]) = (if isFig c = true then .nx [a, b, none] else .exc "NoText" [a, b, some (.at (.str [c]))]) := by
  have e : qInS true (.at (.str [c])) (.at (.str (S "0123456789"))) = .ok (.at (.bl (!isFig c))) := by
    rw [← fig_mem]
    rfl
  unfold figB
  cases h : isFig c with
  | true =>
    rw [h] at e
    cases a <;> cases b <;> array_get_dec <;> rw [pC_FIG] <;> array_get_dec <;> rw [e] <;> array_get_dec <;> rfl
  | false =>
    rw [h] at e
    cases a <;> cases b <;> array_get_dec <;> rw [pC_FIG] <;> array_get_dec <;> rw [e] <;> array_get_dec <;> rfl
theorem figN {a b : Option W} : ∀ (l : List Nat), (l.all isFig = true → pForN [2] (ptName 2) figB (l.map fun c => W.at (.str [c])) [a, b, none] = .nx [a, b, none]) ∧ (l.all isFig = false → ∃ π', pForN [2] (ptName 2) figB (l.map fun c => W.at (.str [c])) [a, b, none] = .exc "NoText" π')
  | [] => ⟨fun _ => rfl, fun h => by cases h⟩
  | c :: l => by
    have ih := figN (a := a) (b := b) l
    have hs := figS (a := a) (b := b) c
    have e : (c :: l).all isFig = (isFig c && l.all isFig) := rfl
    rw [e, List.map_cons, forN_cons, hs]
    cases h : isFig c with
    | true =>
      rw [if_pos rfl, Bool.true_and]
      exact ih
    | false =>
      rw [if_neg (fun z => by cases z)]
      exact ⟨fun z => (by cases z), fun _ => ⟨_, rfl⟩⟩
theorem cut_1 (s : List Nat) : cut s (some 1) none = s.drop 1 := by
  unfold cut cutIx
  simp only []
  rw [if_neg (by decide)]
  cases s with
  | nil => rfl
  | cons c s =>
    show ((c :: s).drop (min 1 (s.length + 1))).take _ = _
    rw [show min 1 (s.length + 1) = 1 by omega]
    exact List.take_of_length_le (by rw [List.length_drop]; exact Nat.le_refl _)
theorem cd_drop {s : List Nat} (h : Cd s) (k : Nat) : Cd (s.drop k) := List.all_eq_true.mpr fun c hc => List.all_eq_true.mp h c (List.mem_of_mem_drop hc)
theorem cd_body {s : List Nat} (h : Cd s) : Cd (bodyL s) := by
  unfold bodyL
  split
  · exact cd_drop h 1
  · exact h
theorem body_len {s : List Nat} : (bodyL s).length ≤ s.length := by
  unfold bodyL
  split
  · rw [List.length_drop]
    omega
  · exact Nat.le_refl _
def rwR (s : List Nat) : PR W := match rwL s with
  | some i => .ok (.at (.int i))
  | none => .exc "NoText"
def rwP : PS := pSeq (pIf (pOr (pBin qEq (pVar 1) (pC (.str (S "")))) (pBin qGt (pUn qLen (pVar 1)) (pC c_MOST_FIGURES))) (pRaise "NoText") (pPass)) (pSeq (pFor [2] (pCh (pVar 1)) (ptName 2) figB) (pSeq (pIf (pAnd (pBin qEq (pBin qIxS (pVar 1) (pC (.int 0))) (pC (.str (S "0")))) (pBin qNe (pVar 0) (pC (.str (S "0"))))) (pRaise "NoText") (pPass)) (pSeq (pIf (pBin qEq (pVar 1) (pVar 0)) (pRet (pUn qIntS (pVar 1))) (pPass)) (pRet (pUn qNeg (pUn qIntS (pVar 1)))))))
theorem rdInt_fig {F : List Nat} (h : F.all isFig = true) (hne : F ≠ []) (hl : F.length ≤ 60) : rdInt F = some (figV F : Int) := by
  have ok : figsOk F = true := by
    unfold figsOk
    rw [h, decide_eq_true (show F.length ≤ 630 by omega)]
    cases F with
    | nil => exact absurd rfl hne
    | cons c F => rfl
  cases F with
  | nil => exact absurd rfl hne
  | cons c F =>
    have hc : isFig c = true := (Bool.and_eq_true _ _ ▸ (show (isFig c && F.all isFig) = true from h) : isFig c = true ∧ _).1
    have h45 : c ≠ 45 := fun z => by
      rw [z] at hc
      cases hc
    unfold rdInt
    split
    · rename_i s0 e
      exact absurd (List.cons.inj e).1 h45
    · exact if_pos ok
theorem rwP_ok {s F : List Nat} (hs : Cd s) (hl : F.length ≤ 1000000) (hc : Cd F) : kqFn (rwP [some (.at (.str s)), some (.at (.str F)), none]) = (if F = [] ∨ 60 < F.length then .exc "NoText" else if F.all isFig = false then .exc "NoText" else if F[0]? = some 48 ∧ s ≠ [48] then .exc "NoText" else if F = s then .ok (.at (.int (figV F : Int))) else .ok (.at (.int (-(figV F : Int))))) := by
  have szl : szLine = 16777216 := rfl
  have S0 : S "0" = [48] := by decide
  have Se : S "" = [] := by decide
  have e1 : qEq (.at (.str F)) (.at (.str [])) = .ok (.at (.bl (decide (F = [])))) := qEq_str hc rfl
  have e2 : qLen (.at (.str F)) = .ok (.at (.int F.length)) := if_pos (by show F.length ≤ szLine; omega)
  have e3 : qEq (.at (.str F)) (.at (.str s)) = .ok (.at (.bl (decide (F = s)))) := qEq_str hc hs
  have e4 : qNe (.at (.str s)) (.at (.str [48])) = .ok (.at (.bl (!decide (s = [48])))) := qNe_str hs rfl
  unfold rwP
  rw [S0, Se]
  by_cases a1 : F = []
  · rw [if_pos (.inl a1)]
    rw [decide_eq_true a1] at e1
    array_get_dec
    rw [e1]
    array_get_dec
  · by_cases a2 : 60 < F.length
    · rw [if_pos (.inr a2)]
      rw [decide_eq_false a1] at e1
      array_get_dec
      rw [e1]
      array_get_dec
      rw [e2]
      array_get_dec
      rw [pC_60]
      array_get_dec
      rw [decide_eq_true (show (60 : Int) < (F.length : Int) by omega)]
      array_get_dec
    · rw [if_neg (fun z => z.elim a1 a2)]
      rw [decide_eq_false a1] at e1
      array_get_dec
      rw [e1]
      array_get_dec
      rw [e2]
      array_get_dec
      rw [pC_60]
      array_get_dec
      rw [decide_eq_false (show ¬ (60 : Int) < (F.length : Int) by omega)]
      array_get_dec
      rw [pCh_k]
      array_get_dec
      rw [kqCh_ok, kqFor_ok]
      obtain ⟨n1, n2⟩ := figN (a := some (.at (.str s))) (b := some (.at (.str F))) F
      cases hf : F.all isFig with
      | false =>
        obtain ⟨π', e⟩ := n2 hf
        rw [if_pos rfl]
        show kqFn (kqSeq2 _ (pForN [2] (ptName 2) figB _ [some (.at (.str s)), some (.at (.str F)), none])) = _
        rw [e]
        array_get_dec
      | true =>
        rw [if_neg (fun z => by cases z)]
        show kqFn (kqSeq2 _ (pForN [2] (ptName 2) figB _ [some (.at (.str s)), some (.at (.str F)), none])) = _
        rw [n1 hf]
        obtain ⟨c, F', rfl⟩ := List.exists_cons_of_ne_nil a1
        have e5 : qIxS (.at (.str (c :: F'))) (.at (.int 0)) = .ok (.at (.str [c])) := by
          unfold qIxS
          simp only [at_t]
          rw [if_pos (by show (c :: F').length ≤ szLine; omega), show atI (c :: F') 0 = some c by
            unfold atI atIx
            rw [if_pos (by decide), if_pos (by rw [List.length_cons]; omega)]
            rfl]
        have e6 : qEq (.at (.str [c])) (.at (.str [48])) = .ok (.at (.bl (decide ([c] = [48])))) := qEq_str (List.all_eq_true.mpr fun d hd => List.all_eq_true.mp hc d (by rw [List.mem_singleton.mp hd]; exact List.mem_cons_self)) rfl
        have e7 : qIntS (.at (.str (c :: F'))) = .ok (.at (.int (figV (c :: F') : Int))) := by
          unfold qIntS
          simp only [at_t]
          rw [rdInt_fig hf a1 (by omega)]
        have fin : kqFn ((pSeq (pIf (pBin qEq (pVar 1) (pVar 0)) (pRet (pUn qIntS (pVar 1))) (pPass)) (pRet (pUn qNeg (pUn qIntS (pVar 1))))) [some (.at (.str s)), some (.at (.str (c :: F'))), none]) = (if c :: F' = s then .ok (.at (.int (figV (c :: F') : Int))) else .ok (.at (.int (-(figV (c :: F') : Int))))) := by
          by_cases a5 : c :: F' = s
          · rw [if_pos a5]
            rw [decide_eq_true a5] at e3
            array_get_dec
            rw [e3]
            array_get_dec
            rw [e7]
            array_get_dec
          · rw [if_neg a5]
            rw [decide_eq_false a5] at e3
            array_get_dec
            rw [e3]
            array_get_dec
            rw [e7]
            array_get_dec
        rw [← fin]
        by_cases a3 : c = 48
        · have g3 : (c :: F')[0]? = some 48 := congrArg some a3
          rw [decide_eq_true (show [c] = [48] by rw [a3])] at e6
          by_cases a4 : s = [48]
          · rw [if_neg (fun z => z.2 a4)]
            rw [decide_eq_true a4] at e4
            array_get_dec
            rw [e5]
            array_get_dec
            rw [e6]
            array_get_dec
            rw [e4]
            array_get_dec
          · rw [if_pos ⟨g3, a4⟩]
            rw [decide_eq_false a4] at e4
            array_get_dec
            rw [e5]
            array_get_dec
            rw [e6]
            array_get_dec
            rw [e4]
            array_get_dec
        · rw [if_neg (fun z => a3 (Option.some.inj z.1))]
          rw [decide_eq_false (show ¬ [c] = [48] from fun z => a3 (List.cons.inj z).1)] at e6
          array_get_dec
          rw [e5]
          array_get_dec
          rw [e6]
          array_get_dec
theorem read_whole_ok {s : List Nat} (hl : s.length ≤ 1000000) (hc : Cd s) : v_p_read_whole [.str s] = rwR s := by
  have szl : szLine = 16777216 := rfl
  have Sd : S "-" = [45] := by decide
  have bl := body_len (s := s)
  have q := rwP_ok (F := bodyL s) hc (by omega) (cd_body hc)
  have e1 : pM1S qStarts (pVar 0) (pC (.str (S "-"))) [some (.at (.str s)), some (.at (.str s)), none] = .ok (.at (.bl (decide (s[0]? = some 45)))) := by
    rw [Sd]
    rfl
  have e2 : v_p_read_whole [.str s] = kqFn (rwP [some (.at (.str s)), some (.at (.str (bodyL s))), none]) := by
    unfold v_p_read_whole
    array_get_dec
    unfold v_p_read_whole.b
    array_get_dec
    rw [e1]
    unfold bodyL
    by_cases h : s[0]? = some 45
    · rw [decide_eq_true h, if_pos h]
      array_get_dec
      rw [show qCut (W.at (V.str s)) (some 1) none = .ok (.at (.str (cut s (some 1) none))) from if_pos (by show s.length ≤ szLine; omega), cut_1]
      array_get_dec
      rfl
    · rw [decide_eq_false h, if_neg h]
      array_get_dec
      rfl
  rw [e2, q]
  unfold rwR rwL
  split
  · rfl
  · split
    · rfl
    · split
      · rfl
      · split
        · rfl
        · rfl
end Z
set_option Elab.async false
set_option autoImplicit false
set_option linter.all false
set_option maxRecDepth 100000
set_option maxHeartbeats 2000000
open Mn
namespace Z
open Mn Y
theorem par_some {c : Nat} : ∀ {s a b : List Nat}, parL c s = some (a, b) → s = a ++ c :: b
  | [], _, _, h => by cases h
  | d :: r, a, b, h => by
    unfold parL at h
    split at h
    · rename_i e
      cases h
      rw [e]
      rfl
    · obtain ⟨⟨a', b'⟩, h1, h2⟩ := Option.map_eq_some_iff.mp h
      cases h2
      rw [par_some h1]
      rfl
theorem figV_lt : ∀ (l : List Nat) (a k : Nat), (∀ c ∈ l, isFig c = true) → a < 10 ^ k → l.foldl (fun a c => a * 10 + (c - 48)) a < 10 ^ (k + l.length)
  | [], a, k, _, h => h
  | c :: l, a, k, hl, h => by
    have hc := fig_iff.mp (hl c List.mem_cons_self)
    have := figV_lt l (a * 10 + (c - 48)) (k + 1) (fun d hd => hl d (List.mem_cons_of_mem _ hd)) (by
      rw [Nat.pow_succ]
      omega)
    rw [show k + (c :: l).length = k + 1 + l.length by rw [List.length_cons]; omega]
    exact this
theorem rwL_lt {s : List Nat} {x : Int} (h : rwL s = some x) : x.natAbs < 10 ^ 60 := by
  unfold rwL at h
  split at h
  · cases h
  · rename_i h1
    split at h
    · cases h
    · rename_i h2
      have af : (bodyL s).all isFig = true := by
        cases z : (bodyL s).all isFig with
        | true => rfl
        | false => exact absurd z h2
      have l60 : (bodyL s).length ≤ 60 := Nat.le_of_not_lt fun z => h1 (.inr z)
      have b := figV_lt (bodyL s) 0 0 (List.all_eq_true.mp af) (by decide)
      have b2 : figV (bodyL s) < 10 ^ 60 := Nat.lt_of_lt_of_le b (Nat.pow_le_pow_right (by decide) (by omega))
      split at h
      · cases h
      · split at h
        · cases h
          rw [Int.natAbs_natCast]
          exact b2
        · cases h
          rw [Int.natAbs_neg, Int.natAbs_natCast]
          exact b2
def rdR (s : List Nat) : PR W := match rdL s with
  | some (x, y) => .ok (.at (.tup [.int x, .int y]))
  | none => .exc "NoText"
theorem read_ok {s : List Nat} (hl : s.length ≤ 1000000) (hc : Cd s) : v_p_read [.str s] = rdR s := by
  have szl : szLine = 16777216 := rfl
  have Sd : S "/" = [47] := by decide
  have Se : S "" = [] := by decide
  have ep : pM1S qPart (pVar 0) (pC (.str (S "/"))) [some (.at (.str s)), none, none, none, none] = .ok (.at (.tup ((parV 47 s).map .str))) := by
    rw [Sd]
    show qPart (.at (.str s)) (.at (.str [47])) = _
    exact if_pos (by show s.length ≤ szLine; omega)
  unfold v_p_read
  array_get_dec
  unfold v_p_read.b
  array_get_dec
  rw [ep, Se]
  unfold rdR rdL parV
  cases e : parL 47 s with
  | none =>
    simp only [List.map_cons, List.map_nil]
    have er := read_whole_ok hl hc
    unfold rwR at er
    cases ew : rwL s with
    | none =>
      rw [ew] at er
      array_get_dec
      rw [show qEq (W.at (V.str [])) (W.at (V.str [])) = .ok (.at (.bl true)) from (qEq_str rfl rfl).trans rfl]
      array_get_dec
      rw [er]
      array_get_dec
      rfl
    | some x =>
      rw [ew] at er
      array_get_dec
      rw [show qEq (W.at (V.str [])) (W.at (V.str [])) = .ok (.at (.bl true)) from (qEq_str rfl rfl).trans rfl]
      array_get_dec
      rw [er]
      array_get_dec
      rfl
  | some ab =>
    obtain ⟨a, b⟩ := ab
    have es := par_some e
    have la : a.length ≤ 1000000 ∧ b.length ≤ 1000000 := by
      rw [es, List.length_append, List.length_cons] at hl
      omega
    have ca : Cd a := List.all_eq_true.mpr fun c h => List.all_eq_true.mp hc c (by rw [es]; exact List.mem_append_left _ h)
    have cb : Cd b := List.all_eq_true.mpr fun c h => List.all_eq_true.mp hc c (by rw [es]; exact List.mem_append_right _ (List.mem_cons_of_mem _ h))
    have ea := read_whole_ok la.1 ca
    have eb := read_whole_ok la.2 cb
    unfold rwR at ea eb
    have q47 : qEq (W.at (V.str [47])) (W.at (V.str [])) = .ok (.at (.bl false)) := (qEq_str rfl rfl).trans rfl
    simp only [List.map_cons, List.map_nil]
    cases ew : rwL a with
    | none =>
      rw [ew] at ea
      array_get_dec
      rw [q47]
      array_get_dec
      rw [ea]
      array_get_dec
    | some x =>
      cases ew2 : rwL b with
      | none =>
        rw [ew] at ea
        rw [ew2] at eb
        array_get_dec
        rw [q47]
        array_get_dec
        rw [ea]
        array_get_dec
        rw [eb]
        array_get_dec
      | some y =>
        rw [ew] at ea
        rw [ew2] at eb
        have ly : Lt2 200 y := Nat.lt_of_lt_of_le (rwL_lt ew2) (by decide +kernel)
        have er := (rd_int (a := x) ly (by decide)).1
        array_get_dec
        rw [q47]
        array_get_dec
        rw [ea]
        array_get_dec
        rw [eb]
        array_get_dec
        by_cases h2 : y < 2
        · rw [decide_eq_true h2, if_neg (fun z => by omega)]
          array_get_dec
        · rw [decide_eq_false h2]
          array_get_dec
          rw [er, decide_eq_true (show (0 : Int) < y by omega)]
          by_cases hg : Int.gcd x y = 1
          · rw [if_pos ⟨by omega, hg⟩, decide_eq_true (show ((Int.gcd x y : Nat) : Int) = 1 by omega)]
            array_get_dec
          · rw [if_neg (fun z => hg z.2), decide_eq_false (show ¬ ((Int.gcd x y : Nat) : Int) = 1 by omega)]
            array_get_dec
theorem qStr_ok {i : Int} (h : i.natAbs < 10 ^ 60) : qStr (.at (.int i)) = .ok (.at (.str (intL i))) := by
  have e : i.natAbs.log2 < 1920 := by
    by_cases z : i.natAbs = 0
    · rw [z]
      decide
    · exact (Nat.log2_lt z).mpr (Nat.lt_trans h (by decide +kernel))
  exact if_pos e
theorem qAdd_s {x y : List Nat} (h : x.length + y.length ≤ 1000000) : qAdd (.at (.str x)) (.at (.str y)) = .ok (.at (.str (x ++ y))) := if_pos (by show x.length + y.length ≤ 16777216; omega)
theorem shown_ok {q : Rat} (h : Tq q) : v_p_shown [vq q] = .ok (.at (.str (showL q))) := by
  have Sd : S "/" = [47] := by decide
  have l1 := intL_len h.1
  have l2 := intL_len (i := (q.den : Int)) h.2
  unfold v_p_shown
  array_get_dec
  unfold v_p_shown.b
  rw [Sd]
  unfold showL
  by_cases d : q.den = 1
  · rw [if_pos d]
    array_get_dec
    rw [decide_eq_true (show (q.den : Int) = 1 by omega)]
    array_get_dec
    rw [qStr_ok h.1]
    array_get_dec
  · rw [if_neg d]
    array_get_dec
    rw [decide_eq_false (show ¬ (q.den : Int) = 1 by omega)]
    array_get_dec
    rw [qStr_ok h.1]
    array_get_dec
    rw [qAdd_s (by show _ + 1 ≤ _; omega)]
    array_get_dec
    rw [qStr_ok (i := (q.den : Int)) h.2]
    array_get_dec
    rw [qAdd_s (by rw [List.length_append]; show _ + 1 + _ ≤ _; omega), List.append_assoc]
    array_get_dec
theorem intL_abs (i : Int) : intL (i.natAbs : Int) = numL i.natAbs := by
  unfold intL
  rw [if_neg (by omega), Int.natAbs_natCast]
theorem ltext_ok {q : Rat} (h : Tq q) : v_l_text [vq q] = .ok (.at (.str (showL q))) := by
  have Sd : S "/" = [47] := by decide
  have Sm : S "-" = [45] := by decide
  have Se : S "" = [] := by decide
  have l1 := intL_len (i := (q.num.natAbs : Int)) (by rw [Int.natAbs_natCast]; exact h.1)
  have l2 := intL_len (i := (q.den : Int)) h.2
  have e1 : (if q.num < 0 then -q.num else q.num) = (q.num.natAbs : Int) := by split <;> omega
  have e2 : ∀ z : Bool, z = decide (q.num < 0) → (if z = true then [45] else []) ++ intL (q.num.natAbs : Int) = intL q.num := fun z hz => by
    rw [intL_abs]
    unfold intL
    by_cases n : q.num < 0
    · rw [hz, decide_eq_true n, if_pos rfl, if_pos n]
      rfl
    · rw [hz, decide_eq_false n, if_neg (fun z => by cases z), if_neg n]
      rfl
  have dp := q.den_pos
  unfold v_l_text
  array_get_dec
  unfold v_l_text.b
  rw [Sd, Sm, Se]
  array_get_dec
  have key : ∀ z : List Nat, z.length ≤ 1 → z ++ intL (q.num.natAbs : Int) = intL q.num → kqFn ((pSeq (pAsg 1 (pBin qAdd (pVar 1) (pUn qStr (pUn qAbs (pBin qIx (pVar 0) (pC (.int 0))))))) (pSeq (pIf (pBin qGt (pBin qIx (pVar 0) (pC (.int 1))) (pC (.int 1))) (pAsg 1 (pBin qAdd (pBin qAdd (pVar 1) (pC (.str [47]))) (pUn qStr (pBin qIx (pVar 0) (pC (.int 1)))))) (pPass)) (pRet (pVar 1)))) [some (.at (vq q)), some (.at (.str z))]) = .ok (.at (.str (showL q))) := fun z hz ez => by
    array_get_dec
    rw [e1, qStr_ok (by rw [Int.natAbs_natCast]; exact h.1)]
    array_get_dec
    rw [qAdd_s (by omega), ez]
    have l3 := intL_len h.1
    unfold showL
    by_cases d : q.den = 1
    · rw [if_pos d]
      array_get_dec
      rw [decide_eq_false (show ¬ (1 : Int) < (q.den : Int) by omega)]
      array_get_dec
    · rw [if_neg d]
      array_get_dec
      rw [decide_eq_true (show (1 : Int) < (q.den : Int) by omega)]
      array_get_dec
      rw [qAdd_s (by show _ + 1 ≤ _; omega)]
      array_get_dec
      rw [qStr_ok (i := (q.den : Int)) h.2]
      array_get_dec
      rw [qAdd_s (by rw [List.length_append]; show _ + 1 + _ ≤ _; omega), List.append_assoc]
      array_get_dec
  by_cases n : q.num < 0
  · rw [decide_eq_true n]
    have := key [45] (Nat.le_refl 1) (e2 true (decide_eq_true n).symm)
    rw [← this]
    array_get_dec
  · rw [decide_eq_false n]
    have := key [] (Nat.zero_le 1) (e2 false (decide_eq_false n).symm)
    rw [← this]
    array_get_dec
end Z
set_option Elab.async false
set_option autoImplicit false
set_option linter.all false
set_option maxRecDepth 100000
set_option maxHeartbeats 2000000
open Mn
namespace Z
open Mn Y
theorem fmodN (z : Int) {m : Nat} (hm : 0 < m) : ∃ k : Nat, k < m ∧ Int.fmod z (m : Int) = (k : Int) := fmod_lt z hm
end Z
set_option Elab.async false
set_option autoImplicit false
set_option linter.all false
set_option maxRecDepth 100000
set_option maxHeartbeats 2000000
open Mn
namespace Lk04
open Mn Z Y
theorem is_ok (q : Rat) : v_l_is_3 [vq q, vq q] = .ok (.at (.bl true)) := by
  unfold v_l_is_3
  array_get_dec
  unfold v_l_is_3.b
  array_get_dec
  rw [whole_ok]
  array_get_dec
  rw [whole_ok]
  array_get_dec
def rowL (row : List Rat) : List Nat := joinL [44] (row.map showL)
theorem strs_ok (row : List Rat) : strsV (row.map fun q => V.str (showL q)) = some (row.map showL) := by
  induction row with
  | nil => rfl
  | cons q row ih =>
    show (strsV (row.map fun q => V.str (showL q))).map (showL q :: ·) = _
    rw [ih]
    rfl
theorem sum_le {m : Nat} : ∀ {l : List (List Nat)}, (∀ p ∈ l, p.length ≤ m) → (l.map List.length).sum ≤ l.length * m
  | [], _ => Nat.zero_le _
  | p :: l, h => by
    have h1 := h p List.mem_cons_self
    have h2 := sum_le fun x hx => h x (List.mem_cons_of_mem _ hx)
    rw [List.map_cons, List.sum_cons, List.length_cons, Nat.add_mul, Nat.one_mul]
    omega
section
variable {row : List Rat} (hl : row.length ≤ 9) (ht : ∀ q ∈ row, Tq q)
theorem join_run (hl : row.length ≤ 9) (ht : ∀ q ∈ row, Tq q) {f : Fl} {s : Bool} : qJoin (.at (.str [44])) ⟨f, s, .lst (row.map fun q => V.str (showL q))⟩ = .ok (.at (.str (rowL row))) := by
  have sl := sum_le (m := 130) (l := row.map showL) fun p hp => by
    obtain ⟨q, hq, rfl⟩ := List.mem_map.mp hp
    exact show_len (ht q hq)
  rw [List.length_map] at sl
  show (match strsV (row.map fun q => V.str (showL q)) with
    | some ys => if joinOk [44] ys = true then PR.ok (W.at (.str (joinL [44] ys))) else .bad
    | none => .bad) = _
  rw [strs_ok]
  refine if_pos (decide_eq_true ?_)
  rw [List.length_map]
  show _ + row.length * 1 ≤ 16777216
  omega
theorem srow_ok (hl : row.length ≤ 9) (ht : ∀ q ∈ row, Tq q) : v_p_shown_row [vr row] = .ok (.at (.str (rowL row))) := by
  have szl : szLine = 16777216 := rfl
  have Sc : S "," = [44] := by decide
  unfold v_p_shown_row
  array_get_dec
  unfold v_p_shown_row.b
  rw [Sc]
  array_get_dec
  rw [pM1S_k]
  array_get_dec
  rw [kqM1_ok]
  array_get_dec
  rw [kqLc_new (fun _ => .fz) (fun q => V.str (showL q)) (by omega) (fun _ => rfl) fun i q hq => ?k1]
  case k1 =>
    array_get_dec
    rw [shown_ok (ht q (List.mem_of_getElem? hq))]
    array_get_dec
    rfl
  array_get_dec
  rw [join_run hl ht]
  array_get_dec
theorem rowL_lt : ∀ c ∈ rowL row, c < 200 := join_lt (fun c hc => by rw [List.mem_singleton.mp hc]; decide) fun p hp => by
  obtain ⟨q, hq, rfl⟩ := List.mem_map.mp hp
  exact show_lt q
theorem rowL_len (hl : row.length ≤ 9) (ht : ∀ q ∈ row, Tq q) : (rowL row).length ≤ 2000 := by
  have := join_len (s := [44]) (m := 130) (Nat.le_refl 1) (ps := row.map showL) fun p hp => by
    obtain ⟨q, hq, rfl⟩ := List.mem_map.mp hp
    exact show_len (ht q hq)
  rw [List.length_map] at this
  show (joinL [44] (row.map showL)).length ≤ 2000
  omega
theorem rowL_nil : rowL row = [] → row = [] := by
  cases row with
  | nil => exact fun _ => rfl
  | cons q r =>
    intro h
    cases r with
    | nil => exact absurd h (show_ne q)
    | cons p r => exact absurd (List.append_eq_nil_iff.mp (show showL q ++ ([44] ++ joinL [44] (showL p :: r.map showL)) = [] from h)).1 (show_ne q)
theorem rrow_ok (hl : row.length ≤ 9) (ht : ∀ q ∈ row, Tq q) : v_p_read_row [.str (rowL row)] = .ok ⟨.fr, false, vr row⟩ := by
  have szl : szLine = 16777216 := rfl
  have Sc : S "," = [44] := by decide
  have Se : S "" = [] := by decide
  have rl := rowL_len hl ht
  have qe : qEq (W.at (V.str (rowL row))) (W.at (V.str [])) = .ok (.at (.bl (decide (rowL row = [])))) := qEq_str (cd_of rowL_lt) rfl
  unfold v_p_read_row
  array_get_dec
  unfold v_p_read_row.b
  array_get_dec
  rw [Sc, Se]
  by_cases h0 : row = []
  · subst h0
    rw [show rowL [] = [] from rfl] at qe ⊢
    array_get_dec
    rw [qe]
    array_get_dec
    rfl
  · rw [decide_eq_false fun z => h0 (rowL_nil z)] at qe
    array_get_dec
    rw [qe]
    array_get_dec
    have es : qSplit (W.at (V.str (rowL row))) (W.at (V.str [44])) = .ok ⟨.fr, false, .lst (row.map fun q => V.str (showL q))⟩ := by
      have e : splL 44 (rowL row) = row.map showL := spl_join (by simpa using h0) fun p hp => by
        obtain ⟨q, hq, rfl⟩ := List.mem_map.mp hp
        exact show_not
      show (if (rowL row).length + 2 ≤ szLine ∧ 44 < 256 then PR.ok (mkL false false ((splL 44 (rowL row)).map V.str)) else .bad) = _
      rw [if_pos ⟨by omega, by decide⟩, e, List.map_map]
      rfl
    rw [pM1S_k]
    array_get_dec
    rw [kqM1_ok]
    array_get_dec
    rw [es, kqSeq_l, List.map_map]
    rw [kqLc_new (g := elW (isD .fr) false ∘ fun q => V.str (showL q)) (fun _ => .fz) vq (by omega) (fun _ => rfl) fun i q hq => ?k1]
    case k1 =>
      have hq := ht q (List.mem_of_getElem? hq)
      have er := read_ok (s := showL q) (by have := show_len hq; omega) (cd_of (show_lt q))
      unfold rdR at er
      rw [rd_show hq] at er
      rw [show (elW (isD .fr) false ∘ fun q => V.str (showL q)) q = .at (.str (showL q)) from rfl]
      array_get_dec
      rw [er]
      array_get_dec
      rfl
    array_get_dec
    rfl
theorem told_ok (hl : row.length ≤ 9) (ht : ∀ q ∈ row, Tq q) : v_l_row_told [vr row] = .ok (.at (.bl true)) := by
  have szl : szLine = 16777216 := rfl
  have Sc : S "," = [44] := by decide
  unfold v_l_row_told
  array_get_dec
  unfold v_l_row_told.b
  rw [Sc]
  array_get_dec
  rw [srow_ok hl ht]
  array_get_dec
  rw [pM1S_k]
  array_get_dec
  rw [kqM1_ok]
  array_get_dec
  rw [kqLc_new (fun _ => .fz) (fun q => V.str (showL q)) (by omega) (fun _ => rfl) fun i q hq => ?k1]
  case k1 =>
    array_get_dec
    rw [ltext_ok (ht q (List.mem_of_getElem? hq))]
    array_get_dec
    rfl
  array_get_dec
  rw [join_run hl ht]
  array_get_dec
  have cd : Cd (rowL row) := cd_of rowL_lt
  rw [qNe_str cd cd, decide_eq_true rfl]
  array_get_dec
  rw [rrow_ok hl ht]
  array_get_dec
  rw [kqR1_nat (by omega)]
  rw [kqLc_new (fun _ => .fz) (fun (_ : Nat) => V.bl true) (by rw [List.length_range]; omega) (fun _ => rfl) fun i k hk => ?k2]
  case k2 =>
    obtain ⟨rfl, hi⟩ := range_at hk
    have hx : row[i]? = some row[i] := List.getElem?_eq_getElem hi
    array_get_dec
    rw [qIx_r hx]
    array_get_dec
    rw [qIx_r hx]
    array_get_dec
    rw [is_ok]
    array_get_dec
    rfl
  rw [show ((List.range row.length).map fun _ => V.bl true) = ((List.range row.length).map fun _ => true).map V.bl by rw [List.map_map]; rfl]
  array_get_dec
  rw [List.all_map, show ((List.range row.length).all (id ∘ fun _ => true)) = true from List.all_eq_true.mpr fun _ _ => rfl]
theorem tq_div {a : Int} {b : Nat} (hb : 0 < b) (ha : a.natAbs < 10 ^ 60) (hb2 : b < 10 ^ 60) : Tq (Rat.divInt a b) := by
  have hb0 : (b : Int) ≠ 0 := by omega
  obtain ⟨f1, f2⟩ := red_num (a := a) hb0
  rw [if_neg (by omega)] at f1 f2
  obtain ⟨c, hc⟩ := Int.gcd_dvd_left a (b : Int)
  obtain ⟨d, hd⟩ := Int.gcd_dvd_right a (b : Int)
  have gp : 0 < Int.gcd a (b : Int) := Nat.pos_of_ne_zero fun z => hb0 (Int.gcd_eq_zero_iff.mp z).2
  generalize Int.gcd a (b : Int) = g at *
  have g0 : (g : Int) ≠ 0 := by omega
  have e1 : a / (g : Int) = c := by rw [hc]; exact Int.mul_ediv_cancel_left c g0
  have e2 : (b : Int) / (g : Int) = d := by rw [hd]; exact Int.mul_ediv_cancel_left d g0
  rw [e1] at f1
  rw [e2] at f2
  have n1 : a.natAbs = g * c.natAbs := by rw [hc, Int.natAbs_mul, Int.natAbs_natCast]
  have n2 : b = g * d.natAbs := by
    have := congrArg Int.natAbs hd
    rw [Int.natAbs_mul, Int.natAbs_natCast, Int.natAbs_natCast] at this
    exact this
  refine ⟨?_, ?_⟩
  · rw [f1]
    exact Nat.lt_of_le_of_lt (by rw [n1]; exact Nat.le_mul_of_pos_left _ gp) ha
  · have : (Rat.divInt a (b : Int)).den = d.natAbs := by
      have := congrArg Int.natAbs f2
      rw [Int.natAbs_natCast] at this
      exact this
    rw [this]
    exact Nat.lt_of_le_of_lt (by conv => rhs; rw [n2]
                                 exact Nat.le_mul_of_pos_left _ gp) hb2
theorem made4 {a : Int} {b : Nat} (hb : 0 < b) (ha : a.natAbs < 10 ^ 60) (hb2 : b < 10 ^ 60) : ∃ q, Tq q ∧ v_l_made [.int a, .int (b : Int)] = .ok (.at (vq q)) :=
  ⟨_, tq_div hb ha hb2, made_ok (m := 200) (by omega) (Nat.lt_of_lt_of_le (show ((b : Int)).natAbs < 10 ^ 60 by rw [Int.natAbs_natCast]; exact hb2) (by decide +kernel)) (by decide) (.inl (by decide))⟩
theorem ratio_ok (n : Nat) : ∃ q, Tq q ∧ v_l_ratio [.int (n : Int)] = .ok (.at (vq q)) := by
  have z8 : (8 : Int) ≠ 0 := by decide
  have s8 : SmD 8 := by decide
  have z19 : (19 : Int) ≠ 0 := by decide
  have s19 : SmD 19 := by decide
  have m1 := mulOk_lt (show Lt2 2 (2 : Int) by decide) (show Lt2 300 ((10 : Int) ^ (20 : Int).toNat) by decide +kernel) (by decide)
  have m2 := mulOk_lt (show Lt2 2 (2 : Int) by decide) (show Lt2 300 ((10 : Int) ^ (30 : Int).toNat) by decide +kernel) (by decide)
  have n1 : (2 : Int) * 10 ^ (20 : Int).toNat + 1 ≠ 0 := by decide +kernel
  have n2 : (2 : Int) * 10 ^ (30 : Int).toNat + 1 ≠ 0 := by decide +kernel
  have n3 : (10 : Int) ^ (31 : Int).toNat ≠ 0 := by decide +kernel
  have s3 : SmD ((10 : Int) ^ (31 : Int).toNat) := by decide +kernel
  have n4 : (10 : Int) ^ (30 : Int).toNat ≠ 0 := by decide +kernel
  obtain ⟨a1, h1, e1⟩ := fmodN ((n / 8 : Nat) : Int) (m := 2 * 10 ^ 20 + 1) (by decide +kernel)
  obtain ⟨a2, h2, e2⟩ := fmodN ((n / 8 : Nat) : Int) (m := 2 * 10 ^ 30 + 1) (by decide +kernel)
  obtain ⟨a3, h3, e3⟩ := fmodN (Int.fdiv ((n / 8 : Nat) : Int) ((10 : Int) ^ (31 : Int).toNat)) (m := 10 ^ 30) (by decide +kernel)
  obtain ⟨a4, h4, e4⟩ := fmodN ((n / 8 : Nat) : Int) (m := 19) (by decide)
  obtain ⟨a5, h5, e5⟩ := fmodN (Int.fdiv ((n / 8 : Nat) : Int) 19) (m := 8) (by decide)
  rw [show (((2 * 10 ^ 20 + 1 : Nat)) : Int) = (2 : Int) * 10 ^ (20 : Int).toNat + 1 by decide +kernel] at e1
  rw [show (((2 * 10 ^ 30 + 1 : Nat)) : Int) = (2 : Int) * 10 ^ (30 : Int).toNat + 1 by decide +kernel] at e2
  rw [show (((10 ^ 30 : Nat)) : Int) = (10 : Int) ^ (30 : Int).toNat by decide +kernel] at e3
  have e4 : Int.fmod ((n / 8 : Nat) : Int) 19 = (a4 : Int) := e4
  have e5 : Int.fmod (Int.fdiv ((n / 8 : Nat) : Int) 19) 8 = (a5 : Int) := e5
  have ed : Int.fdiv (n : Int) 8 = ((n / 8 : Nat) : Int) := fdiv_nat n 8
  unfold v_l_ratio
  array_get_dec
  unfold v_l_ratio.b
  array_get_dec
  rw [ed]
  have p20 : (10 : Int) ^ (20 : Int).toNat = 100000000000000000000 := by decide +kernel
  have p30 : (10 : Int) ^ (30 : Int).toNat = 1000000000000000000000000000000 := by decide +kernel
  have q60 : 10 ^ 60 = 1000000000000000000000000000000000000000000000000000000000000 := by decide +kernel
  by_cases k0 : Int.fmod (n : Int) 8 = 0
  · rw [decide_eq_true k0]
    obtain ⟨q, hq, eq⟩ := made4 (a := (a1 : Int) - 10 ^ (20 : Int).toNat) (b := 1) (by decide) (by
      rw [p20]
      omega) (by decide +kernel)
    refine ⟨q, hq, ?_⟩
    array_get_dec
    rw [e1, show (1 : Int) = ((1 : Nat) : Int) from rfl, eq]
    array_get_dec
  · rw [decide_eq_false k0]
    by_cases k1 : Int.fmod (n : Int) 8 = 1
    · obtain ⟨q, hq, eq⟩ := made4 (a := (a2 : Int) - 10 ^ (30 : Int).toNat) (b := 1 + a3) (by omega) (by
        rw [p30]
        omega) (by omega)
      refine ⟨q, hq, ?_⟩
      array_get_dec
      rw [decide_eq_true k1]
      array_get_dec
      rw [e2, e3, show (1 : Int) + (a3 : Int) = ((1 + a3 : Nat) : Int) by omega, eq]
      array_get_dec
    · have pick : ∃ b : Nat, 0 < b ∧ b < 100 ∧ qIx ⟨.fr, false, .lst [.int 1, .int 1, .int 1, .int 2, .int 3, .int 4, .int 6, .int 12]⟩ (.at (.int (a5 : Int))) = .ok (.at (.int (b : Int))) := by
        match a5, h5 with
        | 0, _ => exact ⟨1, by decide, by decide, rfl⟩
        | 1, _ => exact ⟨1, by decide, by decide, rfl⟩
        | 2, _ => exact ⟨1, by decide, by decide, rfl⟩
        | 3, _ => exact ⟨2, by decide, by decide, rfl⟩
        | 4, _ => exact ⟨3, by decide, by decide, rfl⟩
        | 5, _ => exact ⟨4, by decide, by decide, rfl⟩
        | 6, _ => exact ⟨6, by decide, by decide, rfl⟩
        | 7, _ => exact ⟨12, by decide, by decide, rfl⟩
        | k + 8, h => exact absurd h (by omega)
      obtain ⟨b, b1, b2, eb⟩ := pick
      obtain ⟨q, hq, eq⟩ := made4 (a := (a4 : Int) - 9) (b := b) b1 (by omega) (by omega)
      refine ⟨q, hq, ?_⟩
      array_get_dec
      rw [decide_eq_false k1]
      array_get_dec
      rw [kqLst_ok (Nat.le_of_ble_eq_true rfl)]
      array_get_dec
      rw [e4, e5]
      rw [eb]
      array_get_dec
      rw [eq]
      array_get_dec
end
theorem cut_last {α : Type} {xs : List α} {j : Nat} : (∀ x ∈ cut xs (some (-(j : Int))) none, x ∈ xs) ∧ (1 ≤ j → (cut xs (some (-(j : Int))) none).length ≤ j) := by
  refine ⟨fun x hx => List.mem_of_mem_drop (List.mem_of_mem_take hx), fun h => ?_⟩
  unfold cut cutIx
  rw [List.length_take, List.length_drop]
  simp only []
  rw [if_pos (by omega)]
  omega
theorem cut_map {α β : Type} (f : α → β) (l : List α) (lo hi : Option Int) : cut (l.map f) lo hi = (cut l lo hi).map f := by
  unfold cut
  rw [List.length_map, List.map_take, List.map_drop]
abbrev E (U : List Rat) : PEnv := [none, some ⟨.fz, false, vr U⟩, none, none, none, none]
def bodyB : PS := pSeq (pAsgF 3 (pCall v_l_great_11 [pVar 2])) (pSeq (pAsgF 4 (pCall v_l_ratio [pBin qDiv (pVar 3) (pC (.int 8))])) (pSeq (pIf (pBin qEq (pBin qMod (pVar 3) (pC (.int 8))) (pC (.int 5))) (pAsgF 4 (pCall v_l_made [pBin qAdd (pBin qSub (pBin qMod (pBin qDiv (pVar 3) (pC (.int 8))) (pBin qSub (pBin qMul (pC (.int 2)) (pBin qPow (pC (.int 10)) (pC (.int 60)))) (pC (.int 1)))) (pBin qPow (pC (.int 10)) (pC (.int 60)))) (pC (.int 1)), pBin qAdd (pC (.int 1)) (pBin qMod (pCall v_l_great_11 [pBin qAdd (pVar 2) (pC (.int 1))]) (pBin qSub (pBin qPow (pC (.int 10)) (pC (.int 60))) (pC (.int 1))))])) (pPass)) (pSeq (pAsgF 5 (pCall v_p_shown [pVar 4])) (pSeq (pIf (pOr (pNot (pUn (qIs ["str"]) (pVar 5))) (pOr (pBin qNe (pVar 5) (pCall v_l_text [pVar 4])) (pNot (pCall v_l_is_3 [pCall v_p_read [pVar 5], pVar 4])))) (pRet (pC (.bl false))) (pPass)) (pSeq (pAsgF 1 (pSl (pBin qAdd (pVar 1) (pLst [pVar 4])) (some (pUn qNeg (pBin qAdd (pC (.int 1)) (pBin qMod (pVar 3) (pC (.int 9)))))) none)) (pIf (pNot (pCall v_l_row_told [pVar 1])) (pRet (pC (.bl false))) (pPass)))))))
theorem pick_ok {U : List Rat} {z : Int} {v : Nat} {q0 : Rat} (hz : bits z ≤ 1048576) (h0 : Tq q0) : ∃ q, Tq q ∧ pIf (pBin qEq (pBin qMod (pVar 3) (pC (.int 8))) (pC (.int 5))) (pAsgF 4 (pCall v_l_made [pBin qAdd (pBin qSub (pBin qMod (pBin qDiv (pVar 3) (pC (.int 8))) (pBin qSub (pBin qMul (pC (.int 2)) (pBin qPow (pC (.int 10)) (pC (.int 60)))) (pC (.int 1)))) (pBin qPow (pC (.int 10)) (pC (.int 60)))) (pC (.int 1)), pBin qAdd (pC (.int 1)) (pBin qMod (pCall v_l_great_11 [pBin qAdd (pVar 2) (pC (.int 1))]) (pBin qSub (pBin qPow (pC (.int 10)) (pC (.int 60))) (pC (.int 1))))])) (pPass) [none, some ⟨.fz, false, vr U⟩, some (.at (.int z)), some (.at (.int (v : Int))), some (.at (vq q0)), none] = .nx [none, some ⟨.fz, false, vr U⟩, some (.at (.int z)), some (.at (.int (v : Int))), some (.at (vq q)), none] := by
  have z8 : (8 : Int) ≠ 0 := by decide
  have s8 : SmD 8 := by decide
  have m1 := mulOk_lt (show Lt2 2 (2 : Int) by decide) (show Lt2 300 ((10 : Int) ^ (60 : Int).toNat) by decide +kernel) (by decide)
  have n1 : (2 : Int) * 10 ^ (60 : Int).toNat - 1 ≠ 0 := by decide +kernel
  have n2 : (10 : Int) ^ (60 : Int).toNat - 1 ≠ 0 := by decide +kernel
  have p60 : (10 : Int) ^ (60 : Int).toNat = 1000000000000000000000000000000000000000000000000000000000000 := by decide +kernel
  have q60 : 10 ^ 60 = 1000000000000000000000000000000000000000000000000000000000000 := by decide +kernel
  obtain ⟨v2, _, ev2⟩ := greatF (F := v_l_great_11) (c := 11) (fun _ => rfl) (by decide) (cell_add hz (c := 1) (by decide))
  obtain ⟨a1, h1, e1⟩ := fmodN (Int.fdiv (v : Int) 8) (m := 2 * 10 ^ 60 - 1) (by decide +kernel)
  obtain ⟨a2, h2, e2⟩ := fmodN (v2 : Int) (m := 10 ^ 60 - 1) (by decide +kernel)
  rw [show (((2 * 10 ^ 60 - 1 : Nat)) : Int) = (2 : Int) * 10 ^ (60 : Int).toNat - 1 by decide +kernel] at e1
  rw [show (((10 ^ 60 - 1 : Nat)) : Int) = (10 : Int) ^ (60 : Int).toNat - 1 by decide +kernel] at e2
  by_cases k : Int.fmod (v : Int) 8 = 5
  · obtain ⟨q, hq, eq⟩ := made4 (a := (a1 : Int) - 10 ^ (60 : Int).toNat + 1) (b := 1 + a2) (by omega) (by
      rw [p60]
      omega) (by omega)
    refine ⟨q, hq, ?_⟩
    array_get_dec
    rw [decide_eq_true k]
    array_get_dec
    rw [e1, ev2]
    array_get_dec
    rw [e2, show (1 : Int) + (a2 : Int) = ((1 + a2 : Nat) : Int) by omega, eq]
    array_get_dec
  · refine ⟨q0, h0, ?_⟩
    array_get_dec
    rw [decide_eq_false k]
    array_get_dec
theorem body_ok {U : List Rat} {z : Int} (hz : bits z ≤ 1048576) (hU : U.length ≤ 9) (h : ∀ q ∈ U, Tq q) : ∃ U', U'.length ≤ 9 ∧ (∀ q ∈ U', Tq q) ∧ ∀ o, o = bodyB [none, some ⟨.fz, false, vr U⟩, some (.at (.int z)), none, none, none] → ∃ o3 o4 o5, o = .nx [none, some ⟨.fz, false, vr U'⟩, some (.at (.int z)), o3, o4, o5] := by
  have szl : szLine = 16777216 := rfl
  have z8 : (8 : Int) ≠ 0 := by decide
  have s8 : SmD 8 := by decide
  have z9 : (9 : Int) ≠ 0 := by decide
  obtain ⟨v, _, ev⟩ := greatF (F := v_l_great_11) (c := 11) (fun _ => rfl) (by decide) (cell_lt hz)
  obtain ⟨q0, h0, e0⟩ := ratio_ok (v / 8)
  obtain ⟨q, hq, eq⟩ := pick_ok (U := U) (v := v) hz h0
  obtain ⟨m, hm, em⟩ := fmodN (v : Int) (m := 9) (by decide)
  have em : Int.fmod (v : Int) 9 = (m : Int) := em
  have c := cut_last (xs := U ++ [q]) (j := 1 + m)
  have l9 := Nat.le_trans (c.2 (by omega)) (show 1 + m ≤ 9 by omega)
  have t9 : ∀ x ∈ cut (U ++ [q]) (some (-((1 + m : Nat) : Int))) none, Tq x := fun x hx => by
    rcases List.mem_append.mp (c.1 x hx) with q' | q'
    · exact h x q'
    · exact List.mem_singleton.mp q' ▸ hq
  refine ⟨cut (U ++ [q]) (some (-((1 + m : Nat) : Int))) none, l9, t9, fun o ho => ?_⟩
  have er := read_ok (s := showL q) (by have := show_len hq; omega) (cd_of (show_lt q))
  unfold rdR at er
  rw [rd_show hq] at er
  have er : v_p_read [.str (showL q)] = .ok (.at (vq q)) := er
  have cd := cd_of (show_lt q)
  have qn := qNe_str cd cd
  rw [decide_eq_true rfl] at qn
  have qa : qAdd ⟨.fz, false, vr U⟩ ⟨.fr, false, .lst [vq q]⟩ = .ok ⟨.fr, false, vr (U ++ [q])⟩ := qAdd_r (qs := [q]) rfl rfl (by show U.length + 1 ≤ 16777216; omega)
  have qc : qCut ⟨.fr, false, vr (U ++ [q])⟩ (some (-((1 + m : Nat) : Int))) none = .ok ⟨.fr, false, vr (cut (U ++ [q]) (some (-((1 + m : Nat) : Int))) none)⟩ := by
    show PR.ok (mkL false false (cut ((U ++ [q]).map vq) _ _)) = _
    rw [cut_map]
    rfl
  rw [ho]
  have e1 : pAsgF 3 (pCall v_l_great_11 [pVar 2]) [none, some ⟨.fz, false, vr U⟩, some (.at (.int z)), none, none, none] = .nx [none, some ⟨.fz, false, vr U⟩, some (.at (.int z)), some (.at (.int (v : Int))), none, none] := by
    array_get_dec
    rw [ev]
    array_get_dec
  have e2 : pAsgF 4 (pCall v_l_ratio [pBin qDiv (pVar 3) (pC (.int 8))]) [none, some ⟨.fz, false, vr U⟩, some (.at (.int z)), some (.at (.int (v : Int))), none, none] = .nx [none, some ⟨.fz, false, vr U⟩, some (.at (.int z)), some (.at (.int (v : Int))), some (.at (vq q0)), none] := by
    array_get_dec
    rw [show Int.fdiv (v : Int) 8 = ((v / 8 : Nat) : Int) from fdiv_nat v 8, e0]
    array_get_dec
  unfold bodyB
  rw [pSeq_k, e1, kqSeq2_nx, pSeq_k, e2, kqSeq2_nx, pSeq_k, eq, kqSeq2_nx]
  refine ⟨some (.at (.int (v : Int))), some (.at (vq q)), some (.at (.str (showL q))), ?_⟩
  array_get_dec
  rw [shown_ok hq]
  array_get_dec
  rw [ltext_ok hq]
  array_get_dec
  rw [qn]
  array_get_dec
  rw [er]
  array_get_dec
  rw [is_ok]
  array_get_dec
  rw [qa]
  array_get_dec
  rw [em, show (1 : Int) + (m : Int) = ((1 + m : Nat) : Int) by omega]
  rw [qc]
  array_get_dec
  rw [told_ok l9 t9]
  array_get_dec
theorem v_ok (ns : List Int) (hn : ns.length ≤ 63) (hb : ∀ z ∈ ns, bits z ≤ 1048576) : v_law_k04 [.ro (ns.map .int)] = .ok (.at (.bl true)) := by
  have szl : szLine = 16777216 := rfl
  unfold v_law_k04
  array_get_dec
  unfold v_law_k04.b
  rw [pSeq_k]
  array_get_dec
  have es : kqSeq (PR.ok ⟨.fz, true, .ro (ns.map .int)⟩) = .ok ⟨ns.map fun z => W.at (.int z), true⟩ := by
    show PR.ok (⟨(ns.map V.int).map (elW false true), true⟩ : Ws) = _
    rw [List.map_map]
    rfl
  rw [es, kqFor_ok]
  obtain ⟨U, _, e3⟩ := forN_ex (ks := [0, 2, 3, 4, 5]) (t := ptName 2) (b := bodyB) (g := fun z : Int => W.at (.int z)) E (fun _ U => U.length ≤ 9 ∧ ∀ q ∈ U, Tq q) (xs := ns) (fun i z U hx g => by
      obtain ⟨U', a1, a2, a3⟩ := body_ok (hb z (List.mem_of_getElem? hx)) g.1 g.2
      obtain ⟨o3, o4, o5, a4⟩ := a3 _ rfl
      refine ⟨U', ⟨a1, a2⟩, ?_⟩
      show stepF _ _ (.nx [none, some ⟨.fz, false, vr U⟩, some (.at (.int z)), none, none, none]) = _
      rw [stepF_nx, a4]
      rfl) [] ⟨by decide, fun x hx => (by cases hx)⟩
  show kqFn (kqSeq2 _ (pForN [0, 2, 3, 4, 5] (ptName 2) bodyB _ (E []))) = _
  rw [e3, kqSeq2_nx]
  have t0 : Tq 0 := ⟨by decide, by decide⟩
  have a := told_ok (row := []) (by decide) (fun q hq => by cases hq)
  have a : v_l_row_told [.lst []] = .ok (.at (.bl true)) := a
  have b := shown_ok t0
  have s0 : showL 0 = S "0" := by decide +kernel
  rw [s0] at b
  have c0 : Cd (S "0") := show (S "0").all (fun c => decide (c < 1114112)) = true by decide +kernel
  have q0 := qEq_str c0 c0
  rw [decide_eq_true rfl] at q0
  array_get_dec
  rw [a]
  array_get_dec
  rw [b]
  array_get_dec
  rw [q0]
  array_get_dec
theorem holds (ns : List Int) (hn : ns.length ≤ 63) (hb : ∀ z ∈ ns, bits z ≤ 1048576) : ∃ M, f_law [.ref 0] [.ro (ns.map .int)] = .ok (.bl true) M := s_law_k04.law (v_ok ns hn hb)
end Lk04
end
section
set_option Elab.async false
set_option autoImplicit false
set_option linter.all false
set_option maxRecDepth 100000
open PySem PySem.W PySem.Calls PyProof.Rows
set_option maxRecDepth 100000 in
set_option maxHeartbeats 0 in
theorem PySem.Challenge.cw_nearplane_k04_written_and_read_holds : PySem.Challenge.rw_nearplane_k04_written_and_read.Holds := by
  w_on; o_law
  refine HandSHeadRun.head_any (r := OpenLaw.row PySem.Challenge.rw_nearplane_k04_written_and_read) (q := view (OpenLaw.row PySem.Challenge.rw_nearplane_k04_written_and_read).prog [24]) (H := Lk04.hk) (ob := Lk04.ob) (M := 20000) (loose := Lk04.loose) (d := HandSHeadRun.topDef (OpenLaw.row PySem.Challenge.rw_nearplane_k04_written_and_read).prog 24) (kwd := []) Lk04.ob_eq
    (by kernel_rfl) (fun s => by kernel_rfl) Lk04.run (by kernel_rfl) (by kernel_rfl) (by kernel_rfl) (by rfl) (by first | assumption | decide +kernel) (by decide +kernel) ⟨rfl, rfl, rfl, rfl, rfl, by decide +kernel⟩ ?hw ?hc
  case hw => w_witness2
  case hc =>
    refine MnS.walk_mn (l := PySem.Challenge.rw_nearplane_k04_written_and_read) (n := 63) (k := 17) (x := "_law_script") rfl (by decide) (by kernel_rfl) ⟨rfl, by decide, by decide⟩ ?F
    intro w mg fa h Y G hmg0
    obtain ⟨K, KX, nl, c⟩ := Y
    have hmg : mg ("law" : PySem.Str) = some (.ref fa) := by
      have e : (HandSHeadRun.topDef (OpenLaw.row PySem.Challenge.rw_nearplane_k04_written_and_read).prog 24).name = ("law" : PySem.Str) := by kernel_rfl
      rw [← e]
      exact hmg0
    obtain ⟨fd, hb, hF⟩ := Lk04.facts (P := (PySem.Challenge.rw_nearplane_k04_written_and_read).prog) (w := w) KX G hmg c
    exact ⟨K, fd, ⟨K, MnS.caOf K, Lk04.xs⟩, Lk04.f_law, KX, nl, rfl, hb, fun ns h1 h2 => Lk04.holds ns h1 h2, hF⟩
end
