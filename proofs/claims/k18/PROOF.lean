import PyProof.Rows.All
import HandS.ForMost
import HandS.Conv
import KE.IntText
import HandS.ForExc
import HandS.CallSlots
import HandS.TupAny
import HandS.TupMul
import HandS.Flow
import HandS.Style
import HandS.IsInst
import HandS.RaiseMore
import HandS.SortInts
import PyProof.ReprRoads
import HandS.Lambda
import KE.KNestM
import HandS.Text
import PyProof.ListStr
import PyProof.StrBlock2
import KE.DataMinMax
import HandS.WordsList
import KE.SortData
import HandS.Iter
import HandS.Zip
import KE.GoesEnum
import HandS.Strs
import HandS.SetKeys
import HandS.FStr
import HandS.SortKw
import KE.KMinKey
import HandS.Defaults
import HandS.Ends
import HandS.EndBits
import HandS.Head0
import HandS.Head1
import HandS.Head2
import HandS.HeadEnd
import HandS.HeadHook1
import HandS.HeadHook2
import HandS.HeadHook3
import HandS.HeadHook4
import PyProof.ReprBulk
import HandS.Codes
import PySem.Challenge.RW_answergate_k18_whole_turns_within_their
set_option Elab.async false
set_option linter.all false
set_option maxRecDepth 100000
/-! Ev1: pure values, an own store, an own code, and what the code does. -/
namespace Ev
open PySem L2

inductive PV where
  | non | bl (b : Bool) | int (i : Int) | str (s : Str)
  | tup (xs : List PV)
  | rol (xs : List PV)      -- a list that is never written: the script, a list of the module's
  | ref (i : Nat)
  | glo (x : Str)
  | ty (n : String)
  deriving Inhabited

mutual
def PV.beq : PV → PV → Bool
  | .non, .non => true
  | .bl a, .bl b => a == b
  | .int a, .int b => a == b
  | .str a, .str b => decide (a = b)
  | .tup a, .tup b => PV.beqs a b
  | .rol a, .rol b => PV.beqs a b
  | .ref a, .ref b => a == b
  | .glo a, .glo b => decide (a = b)
  | .ty a, .ty b => a == b
  | _, _ => false
def PV.beqs : List PV → List PV → Bool
  | [], [] => true
  | x :: xs, y :: ys => PV.beq x y && PV.beqs xs ys
  | _, _ => false
end
mutual
theorem PV.beq_iff : ∀ a b : PV, PV.beq a b = true ↔ a = b
  | .non, b => by cases b <;> simp [PV.beq]
  | .bl a, b => by cases b <;> simp [PV.beq]
  | .int a, b => by cases b <;> simp [PV.beq]
  | .str a, b => by cases b <;> simp [PV.beq]
  | .tup a, b => by
    cases b with
    | tup b => simp only [PV.beq, PV.tup.injEq]; exact PV.beqs_iff a b
    | _ => simp [PV.beq]
  | .rol a, b => by
    cases b with
    | rol b => simp only [PV.beq, PV.rol.injEq]; exact PV.beqs_iff a b
    | _ => simp [PV.beq]
  | .ref a, b => by cases b <;> simp [PV.beq]
  | .glo a, b => by cases b <;> simp [PV.beq]
  | .ty a, b => by cases b <;> simp [PV.beq]
theorem PV.beqs_iff : ∀ a b : List PV, PV.beqs a b = true ↔ a = b
  | [], b => by cases b <;> simp [PV.beqs]
  | x :: xs, b => by
    cases b with
    | nil => simp [PV.beqs]
    | cons y ys => simp only [PV.beqs, Bool.and_eq_true, List.cons.injEq, PV.beq_iff x y, PV.beqs_iff xs ys]
end
instance : DecidableEq PV := fun a b => decidable_of_iff _ (PV.beq_iff a b)

/-- what stands in the own store -/
inductive MO where
  | lst (xs : List PV)
  | dct (kvs : List (Key × PV))
  | tab (f : Str)         -- the table of the code objects that the def f makes
  deriving DecidableEq
abbrev Sto := List MO
abbrev Env := List (Option PV)

/-- an error of an own class: its class, its fields -/
structure Exc where
  cls : Str
  fs : List (Str × PV)
  deriving DecidableEq

inductive Res (α : Type) where
  | ok (a : α) (M : Sto)
  | exc (x : Exc) (M : Sto)
  | bad
def Res.bind {α β : Type} (r : Res α) (f : α → Sto → Res β) : Res β := match r with
  | .ok a M => f a M
  | .exc x M => .exc x M
  | .bad => .bad
@[simp] theorem Res.bind_ok {α β : Type} (a : α) (M : Sto) (f : α → Sto → Res β) : (Res.ok a M).bind f = f a M := rfl
@[simp] theorem Res.bind_exc {α β : Type} (x : Exc) (M : Sto) (f : α → Sto → Res β) : (Res.exc x M : Res α).bind f = .exc x M := rfl
@[simp] theorem Res.bind_bad {α β : Type} (f : α → Sto → Res β) : (Res.bad : Res α).bind f = .bad := rfl
def Res.of {α : Type} (o : Option α) (M : Sto) : Res α := match o with
  | some a => .ok a M
  | none => .bad
@[simp] theorem Res.of_some {α : Type} (a : α) (M : Sto) : Res.of (some a) M = .ok a M := rfl
@[simp] theorem Res.of_none {α : Type} (M : Sto) : Res.of (none : Option α) M = .bad := rfl

inductive SRes where
  | nx (env : Env) (M : Sto)
  | rt (v : PV) (M : Sto)
  | bk (env : Env) (M : Sto)
  | ct (env : Env) (M : Sto)
  | ex (x : Exc) (env : Env) (M : Sto)
  | bad
def SRes.bind (r : SRes) (f : Env → Sto → SRes) : SRes := match r with
  | .nx env M => f env M
  | r => r
@[simp] theorem SRes.bind_nx (e : Env) (M : Sto) (f : Env → Sto → SRes) : (SRes.nx e M).bind f = f e M := rfl
@[simp] theorem SRes.bind_rt (v : PV) (M : Sto) (f : Env → Sto → SRes) : (SRes.rt v M).bind f = .rt v M := rfl
@[simp] theorem SRes.bind_bk (e : Env) (M : Sto) (f : Env → Sto → SRes) : (SRes.bk e M).bind f = .bk e M := rfl
@[simp] theorem SRes.bind_ct (e : Env) (M : Sto) (f : Env → Sto → SRes) : (SRes.ct e M).bind f = .ct e M := rfl
@[simp] theorem SRes.bind_ex (x : Exc) (e : Env) (M : Sto) (f : Env → Sto → SRes) : (SRes.ex x e M).bind f = .ex x e M := rfl
@[simp] theorem SRes.bind_bad (f : Env → Sto → SRes) : SRes.bad.bind f = .bad := rfl
/-- an expression's value is used -/
def Res.then {α : Type} (r : Res α) (env : Env) (f : α → Sto → SRes) : SRes := match r with
  | .ok a M => f a M
  | .exc x M => .ex x env M
  | .bad => .bad
@[simp] theorem Res.then_ok {α : Type} (a : α) (M : Sto) (env : Env) (f : α → Sto → SRes) : (Res.ok a M).then env f = f a M := rfl
@[simp] theorem Res.then_exc {α : Type} (x : Exc) (M : Sto) (env : Env) (f : α → Sto → SRes) : (Res.exc x M : Res α).then env f = .ex x env M := rfl
@[simp] theorem Res.then_bad {α : Type} (env : Env) (f : α → Sto → SRes) : (Res.bad : Res α).then env f = .bad := rfl

/-! ### data -/
mutual
def datR (lk : Nat → Option PyData) : PV → Option PyData
  | .non => some .none
  | .bl b => some (.bool b)
  | .int i => some (.int i)
  | .str s => some (.str s)
  | .tup xs => (datRs lk xs).map .tuple
  | .rol xs => (datRs lk xs).map .list
  | .ref i => lk i
  | .glo _ => none
  | .ty _ => none
def datRs (lk : Nat → Option PyData) : List PV → Option (List PyData)
  | [] => some []
  | x :: xs => match datR lk x, datRs lk xs with
    | some d, some ds => some (d :: ds)
    | _, _ => none
end
def lkN (M : Sto) : Nat → Nat → Option PyData
  | 0, _ => none
  | n + 1, i => match M[i]? with
    | some (.lst xs) => (datRs (lkN M n) xs).map .list
    | _ => none
def dat (M : Sto) (x : PV) : Option PyData := datR (lkN M 8) x

/-- the value as the layer has it, where it hangs on no heap -/
def PV.atom : PV → Option V
  | .non => some .non
  | .bl b => some (.bl b)
  | .int i => some (.int i)
  | .str s => some (.str s)
  | .ty n => some (.ty n)
  | _ => none
def atoms : List PV → Option (List V)
  | [] => some []
  | x :: xs => match x.atom, atoms xs with
    | some v, some vs => some (v :: vs)
    | _, _ => none

def eqV (M : Sto) (x y : PV) : Option Bool := match x, y with
  | .int i, .int j => some (decide (i = j))
  | .str s, .str t => some (decide (s = t))
  | .bl a, .bl b => some (decide (a = b))
  | .non, .non => some true
  | .non, .int _ => some false
  | .int _, .non => some false
  | .non, .str _ => some false
  | .str _, .non => some false
  | .non, .bl _ => some false
  | .bl _, .non => some false
  | .int _, .str _ => some false
  | .str _, .int _ => some false
  | .bl _, .str _ => some false
  | .str _, .bl _ => some false
  | x, y => match dat M x, dat M y with
    | some d, some e => if SeqAt.shaped d = true ∧ SeqAt.shaped e = true then some (PyData.eqv d e) else none
    | _, _ => none

/-- a list's items -/
def lstOf (M : Sto) (i : Nat) : Option (List PV) := match M[i]? with
  | some (.lst xs) => some xs
  | _ => none
/-- the items of a list or a tuple -/
def seqOf (M : Sto) : PV → Option (List PV)
  | .tup xs => some xs
  | .rol xs => some xs
  | .ref i => lstOf M i
  | _ => none

def truV (M : Sto) : PV → Option Bool
  | .non => some false
  | .bl b => some b
  | .int i => some (i != 0)
  | .str s => if s.length ≤ sizeLine then some ((s.length : Int) != 0) else none
  | .tup xs => some (!xs.isEmpty)
  | .rol xs => some (!xs.isEmpty)
  | .ref i => match M[i]? with
    | some (.lst xs) => some (!xs.isEmpty)
    | some (.dct kvs) => some (!kvs.isEmpty)
    | _ => none
  | _ => none

def alloc (o : MO) (M : Sto) : Res PV := .ok (.ref M.length) (M ++ [o])

def mulOk (i j : Int) : Bool := (decide (-(2 ^ 64) < i) && decide (i < 2 ^ 64)) || (decide (-(2 ^ 64) < j) && decide (j < 2 ^ 64))
def powOk (i j : Int) : Bool := decide (0 ≤ j) && decide (j ≤ 1000000) && decide (i.natAbs < 2 ^ 64)
def divOk (j : Int) : Bool := decide (j ≠ 0) && decide (j.natAbs < 1073741824)

def repOk (n : Nat) (k : Int) : Bool := decide (-(2 ^ 63) ≤ k) && (decide (k < 2 ^ 31) && decide (n * k.toNat ≤ sizeLine))
def repS (s : Str) (k : Int) : Str := ⟨(List.replicate k.toNat s.cps.toList).flatten.toArray⟩
def binV (op : Operator) (x y : PV) (M : Sto) : Res PV := match x, y with
  | .int i, .int j => match op with
    | .Add => .ok (.int (i + j)) M
    | .Sub => .ok (.int (i - j)) M
    | .Mult => if mulOk i j then .ok (.int (i * j)) M else .bad
    | .FloorDiv => if divOk j then .ok (.int (i.fdiv j)) M else .bad
    | .Mod => if decide (j ≠ 0) then .ok (.int (i.fmod j)) M else .bad
    | .Pow => if powOk i j then .ok (.int (i ^ j.toNat)) M else .bad
    | _ => .bad
  | .str s, .str t => match op with
    | .Add => if s.length + t.length ≤ sizeLine then .ok (.str (s ++ t)) M else .bad
    | _ => .bad
  | .tup xs, .tup ys => match op with
    | .Add => if xs.length + ys.length ≤ sizeLine then .ok (.tup (xs ++ ys)) M else .bad
    | _ => .bad
  | .tup xs, .int k => match op with
    | .Mult => if xs ≠ [] ∧ repOk xs.length k = true then .ok (.tup (List.replicate k.toNat xs).flatten) M else .bad
    | _ => .bad
  | .str s, .int k => match op with
    | .Mult => if repOk s.length k = true then .ok (.str (repS s k)) M else .bad
    | _ => .bad
  | .ref a, .int k => match op with
    | .Mult => match M[a]? with
      | some (.lst xs) => if repOk xs.length k = true then alloc (.lst (List.replicate k.toNat xs).flatten) M else .bad
      | _ => .bad
    | _ => .bad
  | .ref a, .ref b => match op with
    | .Add => match M[a]?, M[b]? with
      | some (.lst xs), some (.lst ys) => if xs.length + ys.length ≤ sizeLine then alloc (.lst (xs ++ ys)) M else .bad
      | _, _ => .bad
    | _ => .bad
  | _, _ => .bad

def inV (M : Sto) (x y : PV) : Option Bool := match y with
  | .str t => match x with
    | .str s => some (!(Builtin.Str.occurrences t s 0 t.length 1).isEmpty)
    | _ => none
  | y => match seqOf M y with
    | some ys => match x.atom, atoms ys with
      | some v, some vs => if flatV v = true ∧ vs.all flatV = true then some (L2.inV v vs) else none
      | _, _ => none
    | none => none

def ltS (i j : Str) : Bool := decide (i.cps.toList < j.cps.toList)
def cmpV (op : CmpOp) (x y : PV) (M : Sto) : Option Bool := match op with
  | .Eq => eqV M x y
  | .NotEq => (eqV M x y).map (!·)
  | .Lt => match x, y with | .int i, .int j => some (decide (i < j)) | .str i, .str j => some (ltS i j) | _, _ => none
  | .LtE => match x, y with | .int i, .int j => some (decide (i ≤ j)) | .str i, .str j => some (!ltS j i) | _, _ => none
  | .Gt => match x, y with | .int i, .int j => some (decide (j < i)) | .str i, .str j => some (ltS j i) | _, _ => none
  | .GtE => match x, y with | .int i, .int j => some (decide (j ≤ i)) | .str i, .str j => some (!ltS i j) | _, _ => none
  | .Is => match x, y with | x, .non => (match x with | .glo _ => none | x => some (decide (x = .non))) | .bl a, .bl b => some (decide (a = b)) | _, _ => none
  | .IsNot => match x, y with | x, .non => (match x with | .glo _ => none | x => some (!decide (x = .non))) | .bl a, .bl b => some (!decide (a = b)) | _, _ => none
  | .In => inV M x y
  | .NotIn => (inV M x y).map (!·)

def keyOf : PV → Option Key
  | .int i => some (.inl i)
  | .str s => some (.inr s)
  | _ => none
def valP (kvs : List (Key × PV)) (k : Key) : Option PV := (kvs.find? fun kv => decide (kv.1 = k)).map (·.2)
def putP (kvs : List (Key × PV)) (k : Key) (v : PV) : List (Key × PV) :=
  if (kvs.any fun kv => decide (kv.1 = k)) = true then kvs.map (fun kv => if kv.1 = k then (kv.1, v) else kv) else kvs ++ [(k, v)]

/-- x[i] -/
def subV (x i : PV) (M : Sto) : Option PV := match x, i with
  | .tup xs, .int k => atI xs k
  | .rol xs, .int k => atI xs k
  | .str s, .int k => if s.length ≤ sizeLine then (atI s.cps.toList k).map fun c => .str ⟨#[c]⟩ else none
  | .ref a, i => match M[a]? with
    | some (.lst xs) => match i with | .int k => atI xs k | _ => none
    | some (.dct kvs) => match keyOf i with | some k => valP kvs k | none => none
    | _ => none
  | _, _ => none

def cutP (xs : List PV) (lo hi : Option Int) : List PV := (xs.drop (HT.sIx xs.length 0 lo)).take (HT.sIx xs.length xs.length hi - HT.sIx xs.length 0 lo)
/-- x[lo:hi] -/
def slcV (x : PV) (lo hi : Option Int) (M : Sto) : Res PV := match x with
  | .tup xs => .ok (.tup (cutP xs lo hi)) M
  | .rol xs => alloc (.lst (cutP xs lo hi)) M
  | .str s => if s.length ≤ sizeLine then .ok (.str (cutS s lo hi)) M else .bad
  | .ref a => match lstOf M a with
    | some xs => alloc (.lst (cutP xs lo hi)) M
    | none => .bad
  | _ => .bad
/-- x[::-1] of a list -/
def revV (x : PV) (M : Sto) : Res PV := match x with
  | .rol xs => alloc (.lst xs.reverse) M
  | .ref a => match lstOf M a with
    | some xs => alloc (.lst xs.reverse) M
    | none => .bad
  | _ => .bad

/-- o[i] = v -/
def setV (o i v : PV) (M : Sto) : Option Sto := match o with
  | .ref a => match M[a]? with
    | some (.lst xs) => match i with
      | .int k => (ixN xs.length k).map fun j => M.set a (.lst (xs.set j v))
      | _ => none
    | some (.dct kvs) => match keyOf i with
      | some k => if kvs.length < sizeLine then some (M.set a (.dct (putP kvs k v))) else none
      | none => none
    | _ => none
  | _ => none

/-- the name of a value's built-in class -/
def tyN (M : Sto) : PV → Option String
  | .non => some "NoneType"
  | .bl _ => some "bool"
  | .int _ => some "int"
  | .str _ => some "str"
  | .tup _ => some "tuple"
  | .rol _ => some "list"
  | .ref i => match M[i]? with
    | some (.lst _) => some "list"
    | some (.dct _) => some "dict"
    | _ => none
  | _ => none
/-- is a built-in class below another? -/
def tyLe (t c : String) : Bool := t == c || (t == "bool" && c == "int")

/-- built-in functions and classes that are called -/
inductive BI where
  | len | int | tuple | list | repr | str | sorted | max | min | all | any | sum | abs | ord | divmod
  deriving DecidableEq

def intsP : List PV → Option (List Int)
  | [] => some []
  | .int i :: xs => (intsP xs).map (i :: ·)
  | _ => none
def boolsP : List PV → Option (List Bool)
  | [] => some []
  | .bl b :: xs => (boolsP xs).map (b :: ·)
  | _ => none
def insI (x : Int) : List Int → List Int
  | [] => [x]
  | y :: ys => if x ≤ y then x :: y :: ys else y :: insI x ys
def sortI : List Int → List Int
  | [] => []
  | x :: xs => insI x (sortI xs)
def maxI : List Int → Option Int
  | [] => none
  | [x] => some x
  | x :: xs => (maxI xs).map fun m => if m > x then m else x
def minI : List Int → Option Int
  | [] => none
  | [x] => some x
  | x :: xs => (minI xs).map fun m => if m < x then m else x

def pairsP : List PV → Option (List (Int × Int))
  | [] => some []
  | .tup [.int a, .int b] :: xs => (pairsP xs).map ((a, b) :: ·)
  | _ => none
def ltP (p q : Int × Int) : Bool := decide (p.1 < q.1 ∨ (p.1 = q.1 ∧ p.2 < q.2))
/-- the first of the least -/
def minP : List (Int × Int) → Option (Int × Int)
  | [] => none
  | p :: ps => some (ps.foldl (fun a y => if ltP y a = true then y else a) p)

def reprV (M : Sto) (x : PV) : Option Str := match dat M x with
  | some d => if d.showable = true ∧ d.shown.length ≤ sizeLine ∧ d.depth ≤ 64 ∧ d.hasDict = false then some d.shown else none
  | none => none

def bltV (f : BI) (xs : List PV) (M : Sto) : Res PV := match f, xs with
  | .len, [.str s] => if s.length ≤ sizeLine then .ok (.int s.length) M else .bad
  | .len, [.ref a] => match M[a]? with
    | some (.lst ys) => .ok (.int ys.length) M
    | _ => .bad
  | .len, [.tup ys] => .ok (.int ys.length) M
  | .len, [.rol ys] => .ok (.int ys.length) M
  | .int, [.int i] => .ok (.int i) M
  | .int, [.bl b] => .ok (.int (if b then 1 else 0)) M
  | .int, [.str s] => match PySem.intText? s with
    | some n => if s.length ≤ 640 then .ok (.int n) M else .bad
    | none => .bad
  | .tuple, [.tup ys] => .ok (.tup ys) M
  | .tuple, [.rol ys] => .ok (.tup ys) M
  | .tuple, [.ref a] => match lstOf M a with
    | some ys => .ok (.tup ys) M
    | none => .bad
  | .list, [.str s] => if s.length ≤ sizeLine then alloc (.lst (s.cps.toList.map fun c => .str ⟨#[c]⟩)) M else .bad
  | .list, [x] => match seqOf M x with
    | some ys => alloc (.lst ys) M
    | none => .bad
  | .repr, [x] => match reprV M x with
    | some s => .ok (.str s) M
    | none => .bad
  | .str, [.str s] => .ok (.str s) M
  | .str, [.int i] => if i.natAbs.log2 < 1920 then .ok (.str (toString i)) M else .bad
  | .sorted, [.tup ys] => match intsP ys with
    | some ns => alloc (.lst ((sortI ns).map .int)) M
    | none => .bad
  | .sorted, [.ref a] => match lstOf M a with
    | some ys => match intsP ys with
      | some ns => alloc (.lst ((sortI ns).map .int)) M
      | none => .bad
    | none => .bad
  | .max, [.int i, .int j] => .ok (.int (if j > i then j else i)) M
  | .min, [.int i, .int j] => .ok (.int (if j < i then j else i)) M
  | .max, [.ref a] => match lstOf M a with
    | some ys => match intsP ys with
      | some ns => match maxI ns with
        | some m => .ok (.int m) M
        | none => .bad
      | none => .bad
    | none => .bad
  | .min, [.ref a] => match lstOf M a with
    | some ys => match intsP ys with
      | some ns => match minI ns with
        | some i => .ok (.int i) M
        | none => .bad
      | none => match pairsP ys with
        | some ps => match minP ps with
          | some p => .ok (.tup [.int p.1, .int p.2]) M
          | none => .bad
        | none => .bad
    | none => .bad
  | .all, [.ref a] => match lstOf M a with
    | some ys => match boolsP ys with
      | some bs => .ok (.bl (bs.all id)) M
      | none => .bad
    | none => .bad
  | .any, [.ref a] => match lstOf M a with
    | some ys => match boolsP ys with
      | some bs => .ok (.bl (bs.any id)) M
      | none => .bad
    | none => .bad
  | .sum, [.tup ys] => match intsP ys with
    | some ns => .ok (.int ns.sum) M
    | none => .bad
  | .sum, [.ref a] => match lstOf M a with
    | some ys => match intsP ys with
      | some ns => .ok (.int ns.sum) M
      | none => .bad
    | none => .bad
  | .abs, [.int i] => .ok (.int (if i < 0 then -i else i)) M
  | .ord, [.str s] => if s.length = 1 then .ok (.int (s.cps.getD 0 0 : Nat)) M else .bad
  | .divmod, [.int i, .int j] => if 0 < j ∧ j < 1073741824 then .ok (.tup [.int (i / j), .int (i % j)]) M else .bad
  | _, _ => .bad

/-- where a number or a text or None stands first -/
def ixV (x : PV) (ys : List PV) : Option Nat := match x.atom, atoms ys with
  | some v, some vs => if flatV v = true ∧ vs.all flatV = true then vs.findIdx? (fun y => L2.eqV y v) else none
  | _, _ => none
/-- methods of built-in classes -/
inductive MI where
  | append | pop | popAt | extend | index
  deriving DecidableEq
def methV (m : MI) (o : PV) (xs : List PV) (M : Sto) : Res PV := match o with
  | .ref a => match M[a]? with
    | some (.lst ys) => match m, xs with
      | .append, [y] => if ys.length < sizeLine then .ok .non (M.set a (.lst (ys ++ [y]))) else .bad
      | .pop, [] => match ys[ys.length - 1]? with
        | some y => .ok y (M.set a (.lst ys.dropLast))
        | none => .bad
      | .popAt, [.int i] => if -(2 ^ 63) ≤ i ∧ i < 2 ^ 63 then (match seqIndex? i ys.length with
          | some k => match ys[k]? with
            | some y => .ok y (M.set a (.lst (ys.eraseIdx k)))
            | none => .bad
          | none => .bad) else .bad
      | .index, [x] => match ixV x ys with
        | some j => .ok (.int (j : Nat)) M
        | none => .bad
      | .extend, [.ref b] => match M[b]? with
        | some (.lst zs) => if ys.length + zs.length ≤ sizeLine then .ok .non (M.set a (.lst (ys ++ zs))) else .bad
        | _ => .bad
      | _, _ => .bad
    | _ => .bad
  | _ => .bad

/-- methods of texts -/
inductive TM where
  | join | partition | split | upper | endswith | startswith
  deriving DecidableEq
def strsP : List PV → Option (List Str)
  | [] => some []
  | .str s :: xs => (strsP xs).map (s :: ·)
  | _ => none
def joinOk (a : Str) (ys : List Str) : Bool := decide ((ys.map (·.length)).sum + ys.length * a.length ≤ 16777216)
def smV (m : TM) (o : PV) (xs : List PV) (M : Sto) : Res PV := match o with
  | .str a => match m, xs with
    | .join, [y] => match (match y with | .ref i => lstOf M i | .tup ys => some ys | _ => none) with
      | some ys => match strsP ys with
        | some ss => if joinOk a ss = true then .ok (.str (Txt.join a ss)) M else .bad
        | none => .bad
      | none => .bad
    | .partition, [.str b] => if b.length ≠ 0 ∧ a.length ≤ sizeLine then .ok (.tup [.str (Txt.partition a b).1, .str (Txt.partition a b).2.1, .str (Txt.partition a b).2.2]) M else .bad
    | .split, [.str b] => if b.length ≠ 0 ∧ a.length + 2 ≤ sizeLine then alloc (.lst ((Txt.split a b).map .str)) M else .bad
    | .upper, [] => if a.length ≤ 5592405 then .ok (.str (Txt.upper a)) M else .bad
    | .endswith, [.str b] => .ok (.bl (Txt.endswith a b)) M
    | .startswith, [.str b] => .ok (.bl (Txt.startswith a b)) M
    | _, _ => .bad
  | _ => .bad
/-- a part of an f-string -/
def fmtV (x : PV) (M : Sto) : Res PV := match x with
  | .str s => if s.length ≤ sizeLine then .ok (.str s) M else .bad
  | .int i => if i.natAbs.log2 < 1920 then .ok (.str (toString i)) M else .bad
  | _ => .bad
/-- numbers and texts as keys -/
def keysP : List PV → Option (List Key)
  | [] => some []
  | .int i :: xs => (keysP xs).map (.inl i :: ·)
  | .str s :: xs => (keysP xs).map (.inr s :: ·)
  | _ => none
def memB (k : Key) (l : List Key) : Bool := l.any fun j => decide (j = k)
/-- the unlike ones, each at its first place -/
def uniq (ks : List Key) : List Key := ks.foldl (fun acc k => if memB k acc = true then acc else acc ++ [k]) []
def lenSetV (x : PV) (M : Sto) : Res PV := match (match x with | .ref i => lstOf M i | .tup ys => some ys | _ => none) with
  | some ys => match keysP ys with
    | some ks => if ks.length ≤ 4000 then .ok (.int ((uniq ks).length : Nat)) M else .bad
    | none => .bad
  | none => .bad
/-- what a walk yields: a list's, a tuple's items, a text's signs -/
def itemsV (M : Sto) : PV → Option (List PV)
  | .str s => some (s.cps.toList.map fun c => .str ⟨#[c]⟩)
  | x => seqOf M x

/-- is it a list of the store? a dict? -/
def isL (M : Sto) : PV → Bool
  | .ref a => match M[a]? with
    | some (.lst _) => true
    | _ => false
  | _ => false
def isD (M : Sto) : PV → Bool
  | .ref a => match M[a]? with
    | some (.dct _) => true
    | _ => false
  | _ => false
/-! ### the code -/
/-- what is assigned to -/
inductive CT where
  | nm (i : Nat)
  | tp (ts : CT)      -- a tuple of targets, by nil and cons
  | nil
  | cons (a r : CT)
  deriving DecidableEq, Inhabited

inductive CE where
  | var (i : Nat)
  | non | bl (b : Bool) | int (i : Int) | str (s : Str)
  | glo (x : Str)
  | bin (op : Operator) (a b : CE)
  | neg (a : CE)
  | not (a : CE)
  | cmp (op : CmpOp) (a b : CE)
  | chain (op op' : CmpOp) (a b c : CE)
  | and (a b : CE) | or (a b : CE)
  | ife (t a b : CE)
  | tup (as : CE) | lst (as : CE)
  | dct (ks vs : CE)
  | nil | cons (a r : CE)
  | sub (a i : CE)
  | no
  | slc (a lo hi : CE)
  | rev (a : CE)
  | isi (a : CE) (ts : List String) (many : Bool)
  | call (f : Str) (as : CE)
  | callk (f : Str) (n : Nat) (as : CE) (ks : List Str) (kws : CE) (perm : List Nat)
  | blt (f : BI) (as : CE)
  | meth (m : MI) (o as : CE)
  | comp (t : CT) (it : CE) (ifs : CE) (elt : CE) (own : List Nat)
  | iv (e : CE)
  | irg1 (a : CE)
  | irg2 (a b : CE)
  | ienum (a : CE)
  | izip (a b : CE)
  | lenset (a : CE)
  | smeth (m : TM) (o as : CE)
  | fstr (as : CE)
  | fmt (a : CE)
  | minkey (f : Str) (i : Nat) (it : CE) (x : Nat) (b : CE)   -- min(it, key=lambda x: b) in the def f, whose table stands at i
  deriving DecidableEq, Inhabited

inductive CS where
  | nil
  | seq (a r : CS)
  | asg (t : CT) (e : CE)
  | par (is : List Nat) (as : CE)
  | never
  | asgS (o i e : CE)
  | aug (i : Nat) (op : Operator) (e : CE)
  | expr (e : CE)
  | ite (c : CE) (a b : CS)
  | for_ (t : CT) (it : CE) (b : CS)
  | while_ (c : CE) (b : CS)
  | ret (e : CE)
  | retN
  | pass | brk | cnt
  | raise (c : Str) (as : CE)
  deriving DecidableEq, Inhabited

/-! ### what it does -/
structure Glob where
  call : Str → List PV → Sto → Res PV
  glo : Str → Option PV
  exc : Str → Option (List Str)
  fuel : Nat

mutual
def asgT : CT → PV → Env → Option Env
  | .nm i, v, env => some (env.set i (some v))
  | .tp ts, v, env => match v with
    | .tup vs => asgTs ts vs env
    | _ => none
  | .nil, _, _ => none
  | .cons _ _, _, _ => none
def asgTs : CT → List PV → Env → Option Env
  | .nil, [], env => some env
  | .cons a r, v :: vs, env => match asgT a v env with
    | some env' => asgTs r vs env'
    | none => none
  | _, _, _ => none
end

def wipeP (env : Env) : List Nat → Env
  | [] => env
  | v :: vs => (wipeP env vs).set v none

/-- the turns of a comprehension: g makes the item's value, or none where it is left out; nothing is raised in it -/
def compL (g : PV → Sto → Res (Option PV)) (keep : Sto → Bool) : List PV → Sto → List PV → Res (List PV)
  | [], M, acc => if keep M = true then .ok acc M else .bad
  | x :: xs, M, acc => if keep M = true then (match g x M with
    | .ok (some y) M1 => if acc.length < sizeLine then compL g keep xs M1 (acc ++ [y]) else .bad
    | .ok none M1 => compL g keep xs M1 acc
    | _ => .bad) else .bad

/-- what an iteration walks: its items; the lists that must stand still -/
structure Src where
  items : List PV
  src : List (Nat × MO)
def keepB (src : List (Nat × MO)) (M : Sto) : Bool := src.all fun p => decide (M[p.1]? = some p.2)
def srcOf (M : Sto) (x : PV) : List (Nat × MO) := match x with
  | .ref i => match M[i]? with
    | some o => [(i, o)]
    | none => []
  | _ => []
/-- one turn's value -/
def compG (t : CT) (env : Env) (test : Env → Sto → Res Bool) (elt : Env → Sto → Res PV) (x : PV) (M : Sto) : Res (Option PV) := match asgT t x env with
  | some env1 => (test env1 M).bind fun b M1 => match b with
    | true => (elt env1 M1).bind fun y M2 => .ok (some y) M2
    | false => .ok none M1
  | none => .bad

def rgOk (a b : Int) : Bool := decide (-(2 ^ 62) ≤ a) && decide (a < 2 ^ 62) && decide (-(2 ^ 62) ≤ b) && decide (b < 2 ^ 62)
def rgP (a b : Int) : List PV := (List.range (b - a).toNat).map fun i => .int (a + (i : Nat))

def numP (xs : List PV) : List PV := (List.range xs.length).zipWith (fun i x => .tup [.int (i : Nat), x]) xs
def zipP (xs ys : List PV) : List PV := xs.zipWith (fun x y => .tup [x, y]) ys
/-- the arguments in the parameters' order -/
def permL {α : Type} (perm : List Nat) (l : List α) : List α := perm.filterMap (l[·]?)
def optI (r : Res PV) : Res (Option Int) := r.bind fun v M => match v with
  | .int i => .ok (some i) M
  | _ => .bad

/-- the turns of min(.., key=..) over numbers: the best one, its key -/
def mkL (g : Int → Sto → Res PV) (keep : Sto → Bool) : List Int → Int → Int × Int → Sto → Res PV
  | [], b, _, M => if keep M = true then .ok (.int b) M else .bad
  | n :: ns, b, kb, M => if keep M = true then (match g n M with
    | .ok (.tup [.int d, .int i]) M1 => if ltP (d, i) kb = true then mkL g keep ns n (d, i) M1 else mkL g keep ns b kb M1
    | _ => .bad) else .bad
def minKV (g : Int → Sto → Res PV) (keep : Sto → Bool) : List Int → Sto → Res PV
  | [], _ => .bad
  | n :: ns, M => if keep M = true then (match g n M with
    | .ok (.tup [.int d, .int i]) M1 => mkL g keep ns n (d, i) M1
    | _ => .bad) else .bad
/-- written keys -/
def dctKeys : CE → Option (List Key)
  | .nil => some []
  | .cons (.str s) r => (dctKeys r).map (.inr s :: ·)
  | .cons (.int i) r => (dctKeys r).map (.inl i :: ·)
  | _ => none
mutual
def evE (G : Glob) : CE → Env → Sto → Res PV
  | .var i, env, M => match env[i]? with
    | some (some v) => .ok v M
    | _ => .bad
  | .non, _, M => .ok .non M
  | .bl b, _, M => .ok (.bl b) M
  | .int i, _, M => .ok (.int i) M
  | .str s, _, M => .ok (.str s) M
  | .glo x, _, M => Res.of (G.glo x) M
  | .bin op a b, env, M => (evE G a env M).bind fun x M1 => (evE G b env M1).bind fun y M2 => binV op x y M2
  | .neg a, env, M => (evE G a env M).bind fun x M1 => match x with
    | .int i => .ok (.int (-i)) M1
    | _ => .bad
  | .not a, env, M => (evE G a env M).bind fun x M1 => Res.of ((truV M1 x).map fun b => .bl (!b)) M1
  | .cmp op a b, env, M => (evE G a env M).bind fun x M1 => (evE G b env M1).bind fun y M2 => Res.of ((cmpV op x y M2).map .bl) M2
  | .chain op op' a b c, env, M => (evE G a env M).bind fun x M1 => (evE G b env M1).bind fun y M2 => match cmpV op x y M2 with
    | some true => (evE G c env M2).bind fun z M3 => Res.of ((cmpV op' y z M3).map .bl) M3
    | some false => .ok (.bl false) M2
    | none => .bad
  | .and a b, env, M => (evE G a env M).bind fun x M1 => match truV M1 x with
    | some true => evE G b env M1
    | some false => .ok x M1
    | none => .bad
  | .or a b, env, M => (evE G a env M).bind fun x M1 => match truV M1 x with
    | some true => .ok x M1
    | some false => evE G b env M1
    | none => .bad
  | .ife t a b, env, M => (evE G t env M).bind fun x M1 => match truV M1 x with
    | some true => evE G a env M1
    | some false => evE G b env M1
    | none => .bad
  | .tup as, env, M => (evA G as env M).bind fun xs M1 => if xs.length ≤ sizeLine then .ok (.tup xs) M1 else .bad
  | .lst as, env, M => (evA G as env M).bind fun xs M1 => if xs.length ≤ sizeLine then alloc (.lst xs) M1 else .bad
  | .dct ks vs, env, M => (evA G vs env M).bind fun xs M1 => match dctKeys ks with
    | some js => if js.length = xs.length then alloc (.dct ((js.zip xs).foldl (fun acc kv => putP acc kv.1 kv.2) [])) M1 else .bad
    | none => .bad
  | .nil, _, _ => .bad
  | .cons _ _, _, _ => .bad
  | .sub a i, env, M => (evE G a env M).bind fun x M1 => (evE G i env M1).bind fun y M2 => Res.of (subV x y M2) M2
  | .no, _, _ => .bad
  | .slc a lo hi, env, M => (evE G a env M).bind fun x M1 => (evO G lo env M1).bind fun l M2 => (evO G hi env M2).bind fun h M3 => slcV x l h M3
  | .rev a, env, M => (evE G a env M).bind fun x M1 => revV x M1
  | .isi a ts _, env, M => (evE G a env M).bind fun x M1 => match tyN M1 x with
    | some t => .ok (.bl (ts.any fun c => tyLe t c)) M1
    | none => .bad
  | .call f as, env, M => (evA G as env M).bind fun xs M1 => G.call f xs M1
  | .callk f n as ks kws perm, env, M => (evA G as env M).bind fun xs M1 => (evA G kws env M1).bind fun ys M2 =>
    if xs.length = n ∧ ys.length = ks.length then G.call f (permL perm (xs ++ ys)) M2 else .bad
  | .blt f as, env, M => (evA G as env M).bind fun xs M1 => bltV f xs M1
  | .meth m o as, env, M => (evE G o env M).bind fun x M1 => if isL M1 x = true then (evA G as env M1).bind fun xs M2 => methV m x xs M2 else .bad
  | .comp t it ifs elt own, env, M => (evI G it env M).bind fun s M1 =>
    (compL (compG t (wipeP env own) (evT G ifs) (evE G elt)) (keepB s.src) s.items M1 []).bind fun ys M2 => alloc (.lst ys) M2
  | .iv _, _, _ => .bad
  | .irg1 _, _, _ => .bad
  | .irg2 _ _, _, _ => .bad
  | .ienum _, _, _ => .bad
  | .izip _ _, _, _ => .bad
  | .lenset a, env, M => (evE G a env M).bind fun x M1 => lenSetV x M1
  | .smeth m o as, env, M => (evE G o env M).bind fun x M1 => match x with
    | .str s => (evA G as env M1).bind fun xs M2 => smV m (.str s) xs M2
    | _ => .bad
  | .fstr as, env, M => (evF G as env M Str.empty).bind fun s M1 => .ok (.str s) M1
  | .fmt a, env, M => (evE G a env M).bind fun x M1 => fmtV x M1
  | .minkey f i it x b, env, M => (evE G it env M).bind fun v M1 => match v with
    | .ref a => match M1[a]?, M1[i]? with
      | some (.lst ys), some (.tab f') => match intsP ys with
        | some ns => if f = f' then minKV (fun n M => evE G b (env.set x (some (.int n))) M) (keepB [(a, .lst ys)]) ns M1 else .bad
        | none => .bad
      | _, _ => .bad
    | _ => .bad
/-- the parts of an f-string, one behind another -/
def evF (G : Glob) : CE → Env → Sto → Str → Res Str
  | .nil, _, M, acc => .ok acc M
  | .cons a r, env, M, acc => (evE G a env M).bind fun x M1 => match x with
    | .str s => if (acc ++ s).length ≤ sizeLine then evF G r env M1 (acc ++ s) else .bad
    | _ => .bad
  | _, _, _, _ => .bad
/-- arguments, from the left -/
def evA (G : Glob) : CE → Env → Sto → Res (List PV)
  | .nil, _, M => .ok [] M
  | .cons a r, env, M => (evE G a env M).bind fun x M1 => (evA G r env M1).bind fun xs M2 => .ok (x :: xs) M2
  | _, _, _ => .bad
/-- tests, all of them -/
def evT (G : Glob) : CE → Env → Sto → Res Bool
  | .nil, _, M => .ok true M
  | .cons a r, env, M => (evE G a env M).bind fun x M1 => match truV M1 x with
    | some true => evT G r env M1
    | some false => .ok false M1
    | none => .bad
  | _, _, _ => .bad
/-- a slice's part -/
def evO (G : Glob) : CE → Env → Sto → Res (Option Int)
  | .no, _, M => .ok none M
  | .cons a .nil, env, M => optI (evE G a env M)
  | _, _, _ => .bad
/-- what is walked -/
def evI (G : Glob) : CE → Env → Sto → Res Src
  | .iv e, env, M => (evE G e env M).bind fun x M1 => match itemsV M1 x with
    | some xs => .ok ⟨xs, srcOf M1 x⟩ M1
    | none => .bad
  | .ienum e, env, M => (evE G e env M).bind fun x M1 => match itemsV M1 x with
    | some xs => .ok ⟨numP xs, srcOf M1 x⟩ M1
    | none => .bad
  | .izip a b, env, M => (evE G a env M).bind fun x M1 => (evE G b env M1).bind fun y M2 => match itemsV M2 x, itemsV M2 y with
    | some xs, some ys => .ok ⟨zipP xs ys, srcOf M2 x ++ srcOf M2 y⟩ M2
    | _, _ => .bad
  | .irg1 a, env, M => (evE G a env M).bind fun x M1 => match x with
    | .int n => if rgOk 0 n = true then .ok ⟨rgP 0 n, []⟩ M1 else .bad
    | _ => .bad
  | .irg2 a b, env, M => (evE G a env M).bind fun x M1 => (evE G b env M1).bind fun y M2 => match x, y with
    | .int i, .int j => if rgOk i j = true then .ok ⟨rgP i j, []⟩ M2 else .bad
    | _, _ => .bad
  | _, _, _ => .bad
end

/-- the turns of a for -/
def forL (body : PV → Env → Sto → SRes) (keep : Sto → Bool) : List PV → Env → Sto → SRes
  | [], env, M => if keep M = true then .nx env M else .bad
  | x :: xs, env, M => if keep M = true then (match body x env M with
    | .nx env1 M1 => forL body keep xs env1 M1
    | .ct env1 M1 => forL body keep xs env1 M1
    | .bk env1 M1 => .nx env1 M1
    | .rt v M1 => .rt v M1
    | .ex x env1 M1 => .ex x env1 M1
    | .bad => .bad) else .bad
/-- the turns of a while, at most so many -/
def whL (c : Env → Sto → Res PV) (b : Env → Sto → SRes) : Nat → Env → Sto → SRes
  | 0, _, _ => .bad
  | n + 1, env, M => (c env M).then env fun x M1 => match truV M1 x with
    | some true => match b env M1 with
      | .nx env1 M2 => whL c b n env1 M2
      | .ct env1 M2 => whL c b n env1 M2
      | .bk env1 M2 => .nx env1 M2
      | .rt v M2 => .rt v M2
      | .ex x env1 M2 => .ex x env1 M2
      | .bad => .bad
    | some false => .nx env M1
    | none => .bad

def evS (G : Glob) : CS → Env → Sto → SRes
  | .nil, env, M => .nx env M
  | .seq a r, env, M => (evS G a env M).bind fun env1 M1 => evS G r env1 M1
  | .asg t e, env, M => (evE G e env M).then env fun x M1 => match asgT t x env with
    | some env1 => .nx env1 M1
    | none => .bad
  | .par is as, env, M => (evA G as env M).then env fun xs M1 => if is.length = xs.length then .nx ((is.zip xs).foldl (fun env p => env.set p.1 (some p.2)) env) M1 else .bad
  | .never, _, _ => .bad
  | .asgS o i e, env, M => (evE G e env M).then env fun x M1 => (evE G o env M1).then env fun y M2 => (evE G i env M2).then env fun z M3 => match setV y z x M3 with
    | some M4 => .nx env M4
    | none => .bad
  | .aug i op e, env, M => match env[i]? with
    | some (some x) => (evE G e env M).then env fun y M1 => match x, y, op with
      | .int a, .int b, .Add => .nx (env.set i (some (.int (a + b)))) M1
      | .int a, .int b, .Sub => .nx (env.set i (some (.int (a - b)))) M1
      | .str a, .str b, .Add => if a.length + b.length ≤ sizeLine then .nx (env.set i (some (.str (a ++ b)))) M1 else .bad
      | _, _, _ => .bad
    | _ => .bad
  | .expr e, env, M => (evE G e env M).then env fun _ M1 => .nx env M1
  | .ite c a b, env, M => (evE G c env M).then env fun x M1 => match truV M1 x with
    | some true => evS G a env M1
    | some false => evS G b env M1
    | none => .bad
  | .for_ t it b, env, M => (evI G it env M).then env fun s M1 => forL (fun x env M => match asgT t x env with
      | some env1 => evS G b env1 M
      | none => .bad) (keepB s.src) s.items env M1
  | .while_ c b, env, M => whL (evE G c) (evS G b) G.fuel env M
  | .ret e, env, M => (evE G e env M).then env fun x M1 => .rt x M1
  | .retN, _, M => .rt .non M
  | .pass, env, M => .nx env M
  | .brk, env, M => .bk env M
  | .cnt, env, M => .ct env M
  | .raise c as, env, M => (evA G as env M).then env fun xs M1 => match G.exc c with
    | some fs => if fs.length = xs.length then .ex ⟨c, fs.zip xs⟩ env M1 else .bad
    | none => .bad

/-- a def: its parameters, its slots, its body -/
structure FD where
  ps : List Str
  N : List Str
  body : CS
def SRes.back : SRes → Res PV
  | .nx _ M => .ok .non M
  | .rt v M => .ok v M
  | .ex x _ M => .exc x M
  | _ => .bad
def runF (G : Glob) (d : FD) (xs : List PV) (M : Sto) : Res PV :=
  if xs.length = d.ps.length then (evS G d.body (xs.map some ++ List.replicate (d.N.length - xs.length) none) M).back else .bad
/-- the text: its defs, its values, its own classes of errors -/
structure Txt where
  fn : Str → Option FD
  glo : Str → Option PV
  exc : Str → Option (List Str)
  fuel : Nat
def callN (T : Txt) : Nat → Str → List PV → Sto → Res PV
  | 0, _, _, _ => .bad
  | n + 1, f, xs, M => match T.fn f with
    | some d => runF ⟨callN T n, T.glo, T.exc, T.fuel⟩ d xs M
    | none => .bad
abbrev Txt.at (T : Txt) (n : Nat) : Glob := ⟨callN T n, T.glo, T.exc, T.fuel⟩
theorem callN_def {T : Txt} {n : Nat} {f : Str} {d : FD} (h : T.fn f = some d) (xs : List PV) (M : Sto) : callN T (n + 1) f xs M = runF (T.at n) d xs M := by
  show (match T.fn f with | some d => _ | none => _) = _
  rw [h]
end Ev

set_option Elab.async false
set_option linter.all false
set_option maxRecDepth 100000
set_option maxHeartbeats 4000000
/-! Ev2: how the pure values stand in the layer's heap. -/
namespace Ev
open PySem L2

section
variable (K : PySem.W.Frag) (mg : Str → Option Value) (ρ : List Addr) (H : Hp)
/-- a list that nobody writes -/
def Fzl (a : Addr) (vs : List V) : Prop := (∃ o, H a = some (.frz o (.lst vs))) ∨
  ∃ (o : Obj) (its : Array Value) (n : Nat), K.lookup a = some o ∧ o.cls = .type "list" ∧ o.dict = none ∧ o.data = .seq its n ∧ its.size ≤ sizeLine ∧ Vals vs its.toList
mutual
inductive RV : PV → V → Prop
  | non : RV .non .non
  | bl (b : Bool) : RV (.bl b) (.bl b)
  | int (i : Int) : RV (.int i) (.int i)
  | str (s : Str) : RV (.str s) (.str s)
  | ty (n : String) : RV (.ty n) (.ty n)
  | tup {a : Addr} {xs : List PV} {vs : List V} : SqT K H a vs → RVs xs vs → RV (.tup xs) (.ref a)
  | rol {a : Addr} {xs : List PV} {vs : List V} : Fzl K H a vs → RVs xs vs → RV (.rol xs) (.ref a)
  | ref {i : Nat} {a : Addr} : ρ[i]? = some a → RV (.ref i) (.ref a)
  | glo {x : Str} {u : Value} {v : V} : mg x = some u → RelV v u → RV (.glo x) v
inductive RVs : List PV → List V → Prop
  | nil : RVs [] []
  | cons {x : PV} {v : V} {xs : List PV} {vs : List V} : RV x v → RVs xs vs → RVs (x :: xs) (v :: vs)
end
def RKs (kvs : List (Key × PV)) (ws : List (Key × V)) : Prop := Paired (fun (p : Key × PV) (q : Key × V) => p.1 = q.1 ∧ RV K mg ρ H p.2 q.2) kvs ws
/-- the table at P belongs to the code object of the def f -/
def TabK (f : Str) (P : Addr) : Prop := ∃ (fa c : Addr) (oc : Value) (od : Option Addr) (fd : FuncData) (osl : Array (Option Value)), mg f = some (.ref fa) ∧ K.lookup fa = some ⟨oc, od, .func fd, osl⟩ ∧ fd.code = .ref c ∧
  PySem.W.codeHdIn K c P = true ∧ mainGlobals ≠ P ∧ ∀ bm, mg "__builtins__" = some (.ref bm) → bm ≠ P
/-- the name of a def's lambdas -/
def lamQ (f : Str) : Str := f ++ ".<locals>." ++ "<lambda>"
/-- a table, as far as it has grown -/
def TabO (f : Str) (a : Addr) (ps : Array Value) : Prop := TriplesOk ps.toList ∧ (∀ (pos : Pos) (cv : Value), codeAmong pos ps.toList = some cv → ∃ c, cv = .ref c ∧ H c = some (LamX.CodeO c (lamQ f))) ∧ TabK K mg f a
/-- an object of the own store, as it is tracked -/
def RO (a : Addr) : MO → HO → Prop
  | .lst xs, .lst vs => RVs K mg ρ H xs vs
  | .dct kvs, .dK ws => RKs K mg ρ H kvs ws
  | .tab f, .tbl ps => TabO K mg H f a ps
  | _, _ => False
structure SM (M : Sto) : Prop where
  len : M.length = ρ.length
  nd : ρ.Nodup
  at' : ∀ (i : Nat) (a : Addr) (o : MO), ρ[i]? = some a → M[i]? = some o → ∃ ho, H a = some ho ∧ RO K mg ρ H a o ho
def RVo : Option PV → Option V → Prop
  | none, _ => True
  | some x, some v => RV K mg ρ H x v
  | some _, none => False
def RE (env : Env) (σ : St) : Prop := Paired (RVo K mg ρ H) env σ
end
/-- what stands behind a step -/
structure Ext (ρ : List Addr) (H : Hp) (ρ' : List Addr) (H' : Hp) : Prop where
  pre : ∃ more, ρ' = ρ ++ more
  keep : ∀ b o, H b = some o → b ∉ ρ → H' b = some o
  new : ∀ b, b ∈ ρ' → b ∉ ρ → H b = none
theorem Ext.refl (ρ : List Addr) (H : Hp) : Ext ρ H ρ H := ⟨⟨[], by simp⟩, fun _ _ h _ => h, fun _ h n => absurd h n⟩
theorem Ext.trans {ρ ρ1 ρ2 : List Addr} {H H1 H2 : Hp} (a : Ext ρ H ρ1 H1) (b : Ext ρ1 H1 ρ2 H2) : Ext ρ H ρ2 H2 := by
  obtain ⟨m1, e1⟩ := a.pre
  obtain ⟨m2, e2⟩ := b.pre
  refine ⟨⟨m1 ++ m2, by rw [e2, e1, List.append_assoc]⟩, fun c o h n => ?_, fun c h n => ?_⟩
  · refine b.keep c o (a.keep c o h n) fun z => ?_
    have q := a.new c z n
    rw [q] at h
    cases h
  · by_cases z : c ∈ ρ1
    · exact a.new c z n
    · have q := b.new c h z
      cases e : H c with
      | none => rfl
      | some o =>
        rw [a.keep c o e n] at q
        cases q

section
variable {K : PySem.W.Frag} {mg : Str → Option Value} {ρ ρ' : List Addr} {H H' : Hp} {M : Sto}
theorem SM.mut (S : SM K mg ρ H M) {a : Addr} (h : a ∈ ρ) : ∃ ho, H a = some ho ∧ ((∃ vs, ho = .lst vs) ∨ (∃ ws, ho = .dK ws) ∨ ∃ ps, ho = .tbl ps) := by
  obtain ⟨i, hi, e⟩ := List.getElem_of_mem h
  have hM : i < M.length := by rw [S.len]; exact hi
  obtain ⟨ho, e1, e2⟩ := S.at' i a M[i] (by rw [List.getElem?_eq_getElem hi, e]) (List.getElem?_eq_getElem hM)
  refine ⟨ho, e1, ?_⟩
  generalize M[i] = o at e2
  cases o <;> cases ho <;> first | exact e2.elim | exact .inl ⟨_, rfl⟩ | exact .inr (.inl ⟨_, rfl⟩) | exact .inr (.inr ⟨_, rfl⟩)
theorem SM.tup_out (S : SM K mg ρ H M) {a : Addr} {vs : List V} (h : Rd H a (.tup vs)) : a ∉ ρ := fun z => by
  obtain ⟨ho, e, q⟩ := S.mut z
  rcases h with h | ⟨o, h⟩ <;> (rw [h] at e; cases e; rcases q with ⟨_, q⟩ | ⟨_, q⟩ | ⟨_, q⟩ <;> cases q)
theorem SM.frz_out (S : SM K mg ρ H M) {a : Addr} {o : Obj} {u : HO} (h : H a = some (.frz o u)) : a ∉ ρ := fun z => by
  obtain ⟨ho, e, q⟩ := S.mut z
  rw [h] at e; cases e; rcases q with ⟨_, q⟩ | ⟨_, q⟩ | ⟨_, q⟩ <;> cases q
theorem SM.ext_out (S : SM K mg ρ H M) {a : Addr} {f : Heap → Prop} (h : H a = some (.ext f)) : a ∉ ρ := fun z => by
  obtain ⟨ho, e, q⟩ := S.mut z
  rw [h] at e; cases e; rcases q with ⟨_, q⟩ | ⟨_, q⟩ | ⟨_, q⟩ <;> cases q
/-- tuples and locked things stay, the store's addresses grow -/
structure Kp (ρ : List Addr) (H : Hp) (ρ' : List Addr) (H' : Hp) : Prop where
  pre : ∃ more, ρ' = ρ ++ more
  tup : ∀ a vs, H a = some (.tup vs) → H' a = some (.tup vs)
  frz : ∀ a o u, H a = some (.frz o u) → H' a = some (.frz o u)
  ext : ∀ a f, H a = some (.ext f) → H' a = some (.ext f)
theorem Kp.of (S : SM K mg ρ H M) (E : Ext ρ H ρ' H') : Kp ρ H ρ' H' :=
  ⟨E.pre, fun a vs h => E.keep _ _ h (S.tup_out (.inl h)), fun a o u h => E.keep _ _ h (S.frz_out h), fun a f h => E.keep _ _ h (S.ext_out h)⟩
/-- another object is written at an address that the store doesn't hold -/
theorem Kp.side {p : Addr} {ho u : HO} (hu : H p = some u) (h1 : ∀ vs, u ≠ .tup vs) (h2 : ∀ o v, u ≠ .frz o v) (h3 : ∀ f, u ≠ .ext f) : Kp ρ H ρ (upd H p ho) := by
  refine ⟨⟨[], by simp⟩, fun a vs h => ?_, fun a o v h => ?_, fun a f h => ?_⟩
  · have n : a ≠ p := fun z => by rw [z, hu] at h; cases h; exact h1 vs rfl
    rw [upd_ne n]; exact h
  · have n : a ≠ p := fun z => by rw [z, hu] at h; cases h; exact h2 o v rfl
    rw [upd_ne n]; exact h
  · have n : a ≠ p := fun z => by rw [z, hu] at h; cases h; exact h3 f rfl
    rw [upd_ne n]; exact h
theorem Kp.grow {p : Addr} (k : Kp ρ H ρ' H') : Kp ρ H (ρ' ++ [p]) H' := ⟨by obtain ⟨m, e⟩ := k.pre; exact ⟨m ++ [p], by rw [e, List.append_assoc]⟩, k.tup, k.frz, k.ext⟩
theorem SqT.kp (k : Kp ρ H ρ' H') {a : Addr} {vs : List V} (h : SqT K H a vs) : SqT K H' a vs := by
  rcases h with h | h
  · rcases h with h | ⟨o, h⟩
    · exact .inl (.inl (k.tup _ _ h))
    · exact .inl (.inr ⟨o, k.frz _ _ _ h⟩)
  · exact .inr h
theorem Fzl.kp (k : Kp ρ H ρ' H') {a : Addr} {vs : List V} (h : Fzl K H a vs) : Fzl K H' a vs := by
  rcases h with ⟨o, h⟩ | h
  · exact .inl ⟨o, k.frz _ _ _ h⟩
  · exact .inr h
mutual
theorem RV.kp (k : Kp ρ H ρ' H') : ∀ {x : PV} {v : V}, RV K mg ρ H x v → RV K mg ρ' H' x v
  | _, _, .non => .non
  | _, _, .bl b => .bl b
  | _, _, .int i => .int i
  | _, _, .str s => .str s
  | _, _, .ty n => .ty n
  | _, _, .tup h r => .tup (SqT.kp k h) (RVs.kp k r)
  | _, _, .rol h r => .rol (Fzl.kp k h) (RVs.kp k r)
  | _, _, .ref (i := i) (a := a) h => .ref (by
    obtain ⟨m, e⟩ := k.pre
    have hi : i < ρ.length := (List.getElem?_eq_some_iff.mp h).1
    rw [e, List.getElem?_append_left hi]
    exact h)
  | _, _, .glo h r => .glo h r
theorem RVs.kp (k : Kp ρ H ρ' H') : ∀ {xs : List PV} {vs : List V}, RVs K mg ρ H xs vs → RVs K mg ρ' H' xs vs
  | _, _, .nil => .nil
  | _, _, .cons a b => .cons (RV.kp k a) (RVs.kp k b)
end
theorem RKs.kp (k : Kp ρ H ρ' H') {kvs : List (Key × PV)} {ws : List (Key × V)} (h : RKs K mg ρ H kvs ws) : RKs K mg ρ' H' kvs ws :=
  Paired.mapP h fun _ _ z => ⟨z.1, RV.kp k z.2⟩
theorem TabO.kp (k : Kp ρ H ρ' H') {f : Str} {a : Addr} {ps : Array Value} (h : TabO K mg H f a ps) : TabO K mg H' f a ps :=
  ⟨h.1, fun pos cv e => by
    obtain ⟨c, e1, e2⟩ := h.2.1 pos cv e
    exact ⟨c, e1, k.ext _ _ e2⟩, h.2.2⟩
theorem RO.kp (k : Kp ρ H ρ' H') {a : Addr} {o : MO} {ho : HO} (h : RO K mg ρ H a o ho) : RO K mg ρ' H' a o ho := by
  cases o <;> cases ho <;> first | exact False.elim h | exact RVs.kp k h | exact RKs.kp k h | exact TabO.kp k h
theorem RVo.kp (k : Kp ρ H ρ' H') : ∀ {x : Option PV} {v : Option V}, RVo K mg ρ H x v → RVo K mg ρ' H' x v
  | none, _, _ => trivial
  | some _, some _, h => RV.kp k h
  | some _, none, h => h
theorem RE.kp (k : Kp ρ H ρ' H') {env : Env} {σ : St} (h : RE K mg ρ H env σ) : RE K mg ρ' H' env σ := Paired.mapP h fun _ _ z => RVo.kp k z
theorem RV.mono (S : SM K mg ρ H M) (E : Ext ρ H ρ' H') {x : PV} {v : V} (h : RV K mg ρ H x v) : RV K mg ρ' H' x v := h.kp (.of S E)
theorem RVs.mono (S : SM K mg ρ H M) (E : Ext ρ H ρ' H') {xs : List PV} {vs : List V} (h : RVs K mg ρ H xs vs) : RVs K mg ρ' H' xs vs := h.kp (.of S E)
theorem RKs.mono (S : SM K mg ρ H M) (E : Ext ρ H ρ' H') {kvs : List (Key × PV)} {ws : List (Key × V)} (h : RKs K mg ρ H kvs ws) : RKs K mg ρ' H' kvs ws := h.kp (.of S E)
theorem RO.mono (S : SM K mg ρ H M) (E : Ext ρ H ρ' H') {a : Addr} {o : MO} {ho : HO} (h : RO K mg ρ H a o ho) : RO K mg ρ' H' a o ho := h.kp (.of S E)
theorem RE.mono (S : SM K mg ρ H M) (E : Ext ρ H ρ' H') {env : Env} {σ : St} (h : RE K mg ρ H env σ) : RE K mg ρ' H' env σ := h.kp (.of S E)

/-! ### lists of values -/
theorem RVs.length : ∀ {xs : List PV} {vs : List V}, RVs K mg ρ H xs vs → xs.length = vs.length
  | _, _, .nil => rfl
  | _, _, .cons _ b => by rw [List.length_cons, List.length_cons, RVs.length b]
theorem RVs.get : ∀ {xs : List PV} {vs : List V} {i : Nat} {x : PV}, RVs K mg ρ H xs vs → xs[i]? = some x → ∃ v, vs[i]? = some v ∧ RV K mg ρ H x v
  | _, _, _, _, .nil, e => by simp at e
  | _, _, 0, _, .cons a _, e => by simp at e; subst e; exact ⟨_, rfl, a⟩
  | _, _, i + 1, x, .cons _ b, e => by
    obtain ⟨v, h1, h2⟩ := RVs.get (i := i) (x := x) b (by simpa using e)
    exact ⟨v, by simpa using h1, h2⟩
theorem RVs.append : ∀ {xs ys : List PV} {vs ws : List V}, RVs K mg ρ H xs vs → RVs K mg ρ H ys ws → RVs K mg ρ H (xs ++ ys) (vs ++ ws)
  | _, _, _, _, .nil, s => s
  | _, _, _, _, .cons a b, s => .cons a (RVs.append b s)
theorem RVs.take : ∀ {xs : List PV} {vs : List V} (n : Nat), RVs K mg ρ H xs vs → RVs K mg ρ H (xs.take n) (vs.take n)
  | _, _, 0, _ => .nil
  | _, _, _ + 1, .nil => .nil
  | _, _, n + 1, .cons a b => .cons a (RVs.take n b)
theorem RVs.drop : ∀ {xs : List PV} {vs : List V} (n : Nat), RVs K mg ρ H xs vs → RVs K mg ρ H (xs.drop n) (vs.drop n)
  | _, _, 0, r => r
  | _, _, _ + 1, .nil => .nil
  | _, _, n + 1, .cons _ b => RVs.drop n b
theorem RVs.set {x : PV} {v : V} (r : RV K mg ρ H x v) : ∀ {xs : List PV} {vs : List V} (i : Nat), RVs K mg ρ H xs vs → RVs K mg ρ H (xs.set i x) (vs.set i v)
  | _, _, _, .nil => .nil
  | _, _, 0, .cons _ b => .cons r b
  | _, _, i + 1, .cons a b => .cons a (RVs.set r i b)
theorem RVs.reverse {xs : List PV} {vs : List V} (h : RVs K mg ρ H xs vs) : RVs K mg ρ H xs.reverse vs.reverse := by
  have go : ∀ {xs : List PV} {vs : List V}, RVs K mg ρ H xs vs → RVs K mg ρ H xs.reverse vs.reverse := by
    intro xs vs h
    induction h using RVs.rec (motive_1 := fun _ _ _ => True) with
    | nil => exact .nil
    | cons a b _ ih => rw [List.reverse_cons, List.reverse_cons]; exact RVs.append ih (.cons a .nil)
    | _ => trivial
  exact go h
theorem RVs.dropLast {xs : List PV} {vs : List V} (h : RVs K mg ρ H xs vs) : RVs K mg ρ H xs.dropLast vs.dropLast := by
  rw [List.dropLast_eq_take, List.dropLast_eq_take, h.length]
  exact h.take _
theorem RVs.eraseIdx : ∀ {xs : List PV} {vs : List V} (i : Nat), RVs K mg ρ H xs vs → RVs K mg ρ H (xs.eraseIdx i) (vs.eraseIdx i)
  | _, _, _, .nil => .nil
  | _, _, 0, .cons _ b => b
  | _, _, i + 1, .cons a b => .cons a (RVs.eraseIdx i b)
theorem RVs.cut {xs : List PV} {vs : List V} (lo hi : Option Int) (h : RVs K mg ρ H xs vs) : RVs K mg ρ H (cutP xs lo hi) (cutV vs lo hi) := by
  unfold cutP cutV
  rw [h.length]
  exact (h.drop _).take _
theorem RVs.rep {xs : List PV} {vs : List V} (h : RVs K mg ρ H xs vs) : ∀ k : Nat, RVs K mg ρ H (List.replicate k xs).flatten (List.replicate k vs).flatten
  | 0 => .nil
  | k + 1 => by rw [List.replicate_succ, List.replicate_succ, List.flatten_cons, List.flatten_cons]; exact h.append (RVs.rep h k)
theorem RVs.atI {xs : List PV} {vs : List V} {i : Int} {x : PV} (h : RVs K mg ρ H xs vs) (e : L2.atI xs i = some x) : ∃ v, L2.atI vs i = some v ∧ RV K mg ρ H x v := by
  unfold L2.atI at e ⊢
  rw [← h.length]
  cases q : ixN xs.length i with
  | none => rw [q] at e; cases e
  | some j =>
    rw [q] at e
    exact h.get e
theorem RVs.nil_iff {xs : List PV} {vs : List V} (h : RVs K mg ρ H xs vs) : xs.isEmpty = vs.isEmpty := by
  cases h <;> rfl

/-! ### the store -/
theorem SM.get (S : SM K mg ρ H M) {i : Nat} {a : Addr} {xs : List PV} (h : ρ[i]? = some a) (e : M[i]? = some (.lst xs)) : ∃ vs, H a = some (.lst vs) ∧ RVs K mg ρ H xs vs := by
  obtain ⟨ho, e1, e2⟩ := S.at' i a _ h e
  cases ho <;> first | exact e2.elim | exact ⟨_, e1, e2⟩
theorem SM.getD (S : SM K mg ρ H M) {i : Nat} {a : Addr} {kvs : List (Key × PV)} (h : ρ[i]? = some a) (e : M[i]? = some (.dct kvs)) : ∃ ws, H a = some (.dK ws) ∧ RKs K mg ρ H kvs ws := by
  obtain ⟨ho, e1, e2⟩ := S.at' i a _ h e
  cases ho <;> first | exact e2.elim | exact ⟨_, e1, e2⟩
/-- a new tuple, or any other thing that the store does not hold -/
theorem Ext.upd {p : Addr} {o : HO} (h : H p = none) : Ext ρ H ρ (upd H p o) :=
  ⟨⟨[], by simp⟩, fun b u e _ => by rw [upd_ne (ne_of_none e h)]; exact e, fun _ a b => absurd a b⟩
theorem SM.ext (S : SM K mg ρ H M) (E : Ext ρ H ρ H') (k : ∀ b ∈ ρ, H' b = H b) : SM K mg ρ H' M :=
  ⟨S.len, S.nd, fun i a o h e => by
    obtain ⟨ho, e1, e2⟩ := S.at' i a o h e
    exact ⟨ho, by rw [k a (List.mem_of_getElem? h)]; exact e1, RO.mono S E e2⟩⟩
theorem SM.upd (S : SM K mg ρ H M) {p : Addr} {o : HO} (h : H p = none) : SM K mg ρ (upd H p o) M :=
  S.ext (Ext.upd h) fun b hb => by
    obtain ⟨ho, e, _⟩ := S.mut hb
    exact upd_ne (ne_of_none e h)
/-- a new object of the store -/
theorem Ext.alloc {p : Addr} {o : HO} (h : H p = none) : Ext ρ H (ρ ++ [p]) (L2.upd H p o) :=
  ⟨⟨[p], rfl⟩, fun b u e _ => by rw [upd_ne (ne_of_none e h)]; exact e, fun b a n => by
    rcases List.mem_append.mp a with a | a
    · exact absurd a n
    · rw [List.mem_singleton.mp a]; exact h⟩
theorem SM.alloc (S : SM K mg ρ H M) {p : Addr} {o : MO} {ho : HO} (h : H p = none) (r : RO K mg ρ H p o ho) : SM K mg (ρ ++ [p]) (L2.upd H p ho) (M ++ [o]) := by
  have E : Ext ρ H (ρ ++ [p]) (L2.upd H p ho) := Ext.alloc h
  have hp : p ∉ ρ := fun z => by
    obtain ⟨u, e, _⟩ := S.mut z
    rw [h] at e; cases e
  refine ⟨by rw [List.length_append, List.length_append, S.len]; rfl, ?_, fun i a o' h1 h2 => ?_⟩
  · rw [List.nodup_append]
    refine ⟨S.nd, by simp, fun a ha b hb e => ?_⟩
    rw [List.mem_singleton.mp hb] at e
    exact hp (e ▸ ha)
  · by_cases hi : i < ρ.length
    · rw [List.getElem?_append_left hi] at h1
      rw [List.getElem?_append_left (by rw [S.len]; exact hi)] at h2
      obtain ⟨u, e1, e2⟩ := S.at' i a o' h1 h2
      exact ⟨u, by rw [upd_ne (ne_of_none e1 h)]; exact e1, RO.mono S E e2⟩
    · have hl : i = ρ.length := by
        have := (List.getElem?_eq_some_iff.mp h1).1
        rw [List.length_append, List.length_singleton] at this
        omega
      subst hl
      rw [List.getElem?_append_right (Nat.le_refl _), Nat.sub_self] at h1
      rw [List.getElem?_append_right (by rw [S.len]; exact Nat.le_refl _), S.len, Nat.sub_self] at h2
      cases h1; cases h2
      exact ⟨ho, upd_same, RO.mono S E r⟩
theorem RV.new (S : SM K mg ρ H M) {p : Addr} {H' : Hp} : RV K mg (ρ ++ [p]) H' (.ref M.length) (.ref p) := .ref (by
  rw [S.len, List.getElem?_append_right (Nat.le_refl _), Nat.sub_self]; rfl)
/-- an object is written -/
theorem Ext.set {a : Addr} {o : HO} (h : a ∈ ρ) : Ext ρ H ρ (L2.upd H a o) :=
  ⟨⟨[], by simp⟩, fun b u e n => by
    have nb : b ≠ a := fun z => n (by rw [z]; exact h)
    rw [upd_ne nb]; exact e, fun _ a b => absurd a b⟩
theorem SM.set (S : SM K mg ρ H M) {i : Nat} {a : Addr} {o : MO} {ho : HO} (h : ρ[i]? = some a) (r : RO K mg ρ H a o ho) : SM K mg ρ (L2.upd H a ho) (M.set i o) := by
  have E : Ext ρ H ρ (L2.upd H a ho) := Ext.set (List.mem_of_getElem? h)
  refine ⟨by rw [List.length_set]; exact S.len, S.nd, fun j b o' h1 h2 => ?_⟩
  by_cases e : j = i
  · subst e
    rw [h] at h1; cases h1
    have hj : j < M.length := by rw [S.len]; exact (List.getElem?_eq_some_iff.mp h).1
    rw [List.getElem?_set_self hj] at h2
    cases h2
    exact ⟨ho, upd_same, RO.mono S E r⟩
  · rw [List.getElem?_set_ne (Ne.symm e)] at h2
    obtain ⟨u, e1, e2⟩ := S.at' j b o' h1 h2
    have nb : b ≠ a := fun z => by
      subst z
      obtain ⟨h1', e1'⟩ := List.getElem?_eq_some_iff.mp h1
      obtain ⟨h2', e2'⟩ := List.getElem?_eq_some_iff.mp h
      exact e ((List.getElem_inj S.nd).mp (e1'.trans e2'.symm))
    exact ⟨u, by rw [upd_ne nb]; exact e1, RO.mono S E e2⟩
/-! ### the slots -/
theorem RE.length {env : Env} {σ : St} (h : RE K mg ρ H env σ) : env.length = σ.length := Paired.length h
theorem RE.get : ∀ {env : Env} {σ : St} {i : Nat} {x : PV}, RE K mg ρ H env σ → env[i]? = some (some x) → ∃ v, σ[i]? = some (some v) ∧ RV K mg ρ H x v
  | _, _, _, _, .nil, e => by simp at e
  | _, v :: _, 0, x, .cons a _, e => by
    simp at e; subst e
    cases v with
    | none => exact a.elim
    | some v => exact ⟨v, rfl, a⟩
  | _, _, i + 1, x, .cons _ b, e => by
    obtain ⟨v, h1, h2⟩ := RE.get (i := i) (x := x) b (by simpa using e)
    exact ⟨v, by simpa using h1, h2⟩
theorem RE.set {x : PV} {v : V} (r : RV K mg ρ H x v) : ∀ {env : Env} {σ : St} (i : Nat), RE K mg ρ H env σ → RE K mg ρ H (env.set i (some x)) (σ.set i (some v))
  | _, _, _, .nil => .nil
  | _, _, 0, .cons _ b => .cons r b
  | _, _, i + 1, .cons a b => .cons a (RE.set r i b)
theorem RE.unset : ∀ {env : Env} {σ : St} (i : Nat), RE K mg ρ H env σ → RE K mg ρ H (env.set i none) (σ.set i none)
  | _, _, _, .nil => .nil
  | _, _, 0, .cons _ b => .cons trivial b
  | _, _, i + 1, .cons a b => .cons a (RE.unset i b)
theorem RE.wipe {env : Env} {σ : St} (h : RE K mg ρ H env σ) : ∀ own : List Nat, RE K mg ρ H (wipeP env own) (L2.wipe σ own)
  | [] => h
  | i :: r => RE.unset i (RE.wipe h r)
/-- an object beside the store is written -/
theorem SM.side (S : SM K mg ρ H M) {p : Addr} {ho u : HO} (hp : p ∉ ρ) (hu : H p = some u) (h1 : ∀ vs, u ≠ .tup vs) (h2 : ∀ o v, u ≠ .frz o v) (h3 : ∀ f, u ≠ .ext f) : SM K mg ρ (L2.upd H p ho) M :=
  ⟨S.len, S.nd, fun i a o h e => by
    obtain ⟨x, e1, e2⟩ := S.at' i a o h e
    have n : a ≠ p := fun z => hp (z ▸ List.mem_of_getElem? h)
    exact ⟨x, by rw [upd_ne n]; exact e1, RO.kp (Kp.side hu h1 h2 h3) e2⟩⟩
/-- .. and becomes the store's -/
theorem SM.adopt (S : SM K mg ρ H M) {p : Addr} {o : MO} {ho : HO} (hp : p ∉ ρ) (hu : H p = some ho) (r : RO K mg ρ H p o ho) : SM K mg (ρ ++ [p]) H (M ++ [o]) := by
  have k : Kp ρ H (ρ ++ [p]) H := ⟨⟨[p], rfl⟩, fun _ _ h => h, fun _ _ _ h => h, fun _ _ h => h⟩
  refine ⟨by rw [List.length_append, List.length_append, S.len]; rfl, ?_, fun i a o' h1 h2 => ?_⟩
  · rw [List.nodup_append]
    refine ⟨S.nd, by simp, fun a ha b hb e => ?_⟩
    rw [List.mem_singleton.mp hb] at e
    exact hp (e ▸ ha)
  · by_cases hi : i < ρ.length
    · rw [List.getElem?_append_left hi] at h1
      rw [List.getElem?_append_left (by rw [S.len]; exact hi)] at h2
      obtain ⟨u, e1, e2⟩ := S.at' i a o' h1 h2
      exact ⟨u, e1, e2.kp k⟩
    · have hl : i = ρ.length := by
        have := (List.getElem?_eq_some_iff.mp h1).1
        rw [List.length_append, List.length_singleton] at this
        omega
      subst hl
      rw [List.getElem?_append_right (Nat.le_refl _), Nat.sub_self] at h1
      rw [List.getElem?_append_right (by rw [S.len]; exact Nat.le_refl _), S.len, Nat.sub_self] at h2
      cases h1; cases h2
      exact ⟨ho, hu, r.kp k⟩
/-- beside a fresh address -/
theorem Ext.beside {ρ1 : List Addr} {H1 : Hp} {p : Addr} {u : HO} (hp : H p = none) (E : Ext ρ (L2.upd H p u) ρ1 H1) : Ext ρ H ρ1 H1 ∧ (p ∉ ρ → p ∉ ρ1 ∧ H1 p = some u) := by
  have out : p ∉ ρ → p ∉ ρ1 := fun n z => by
    have q := E.new p z n
    rw [upd_same] at q; cases q
  refine ⟨⟨E.pre, fun b o e n => E.keep b o (by rw [upd_ne (ne_of_none e hp)]; exact e) n, fun b h n => ?_⟩, fun n => ⟨out n, E.keep p u upd_same n⟩⟩
  have q := E.new b h n
  by_cases z : b = p
  · rw [z]; exact hp
  · rw [upd_ne z] at q; exact q
theorem Ext.also {ρ1 : List Addr} {H1 : Hp} {p : Addr} {u : HO} (hp : H p = none) (E : Ext ρ H ρ1 H1) : Ext ρ H ρ1 (L2.upd H1 p u) :=
  ⟨E.pre, fun b o e n => by rw [upd_ne (ne_of_none e hp)]; exact E.keep b o e n, E.new⟩
theorem Ext.join {ρ1 : List Addr} {H1 : Hp} {p : Addr} (hp : H p = none) (E : Ext ρ H ρ1 H1) : Ext ρ H (ρ1 ++ [p]) H1 :=
  ⟨by obtain ⟨m, e⟩ := E.pre; exact ⟨m ++ [p], by rw [e, List.append_assoc]⟩, E.keep, fun b h n => by
    rcases List.mem_append.mp h with h | h
    · exact E.new b h n
    · rw [List.mem_singleton.mp h]; exact hp⟩
theorem SM.out (S : SM K mg ρ H M) {p : Addr} (hp : H p = none) : p ∉ ρ := fun z => by
  obtain ⟨u, e, _⟩ := S.mut z
  rw [hp] at e; cases e
end
end Ev

set_option Elab.async false
set_option linter.all false
set_option maxRecDepth 100000
set_option maxHeartbeats 4000000
/-! EvX: more rules: text * int, tuple * int whatever the int, list(text), [::-1] of texts and tuples. -/
namespace Ev
open PySem L2 PySem.Spec PyProof.Rows
section
variable {X : Cx}
abbrev rMulS : R2 := fun x y H Q => ∃ (a : Str) (k : Int), x = .str a ∧ y = .int k ∧ MulOk a k ∧ Q (.str (Txt.mul a k)) H
theorem op_mulS : OpR X (binaryOp .Mult) rMulS := by
  intro pins s σ H x y v u Q I rx ry h
  obtain ⟨a, k, rfl, rfl, hk, q⟩ := h
  obtain ⟨t, rfl⟩ := rx
  obtain ⟨t', rfl⟩ := ry
  exact PySem.SB.mul hk fun t' k => ⟨.str _, H, I.tok _, ⟨_, rfl⟩, q⟩
theorem mulOk_of {a : Str} {k : Int} (h1 : -(2 ^ 63) ≤ k) (h2 : k < 2 ^ 31) (h3 : a.length * k.toNat ≤ sizeLine) : MulOk a k := by
  refine ⟨?_, fun c1 c2 => ?_, fun _ _ => ?_⟩
  · rw [decide_eq_false (by omega), decide_eq_false (by omega)]; rfl
  · intro z
    have hz : (sizeLine : Nat) ≤ 2 ^ 26 := by rw [sizeLine_eq]; decide
    have k0 : (0 : Int) < k := by omega
    have e : ((a.length * k.toNat : Nat) : Int) = (a.length : Int) * k := by rw [Int.natCast_mul, Int.toNat_of_nonneg (by omega)]
    have l1 : (a.length : Int) * k ≤ 2 ^ 26 := by rw [← e]; omega
    have l2 : (a.length : Int) ≤ (2 ^ 63 - 1) / k := (Int.le_ediv_iff_mul_le k0).mpr (by omega)
    omega
  · unfold Builtin.Str.tooLong
    first
      | exact decide_eq_false (by omega)
      | (rw [sizeLine_eq] at h3; exact decide_eq_false (by omega))
theorem mul_eq {a : Str} {k : Int} : Txt.mul a k = ⟨(List.replicate k.toNat a.cps.toList).flatten.toArray⟩ := by
  unfold Txt.mul
  split
  · rename_i c
    have : k.toNat = 0 := by omega
    rw [this]; rfl
  · rename_i c
    split
    · rename_i d
      simp only [Bool.or_eq_true, beq_iff_eq] at d
      rcases d with d | d
      · subst d
        simp
      · obtain ⟨⟨l⟩⟩ := a
        have : l = [] := by
          have : l.length = 0 := d
          exact List.eq_nil_of_length_eq_zero this
        subst this
        have : ∀ n : Nat, (List.replicate n ([] : List Nat)).flatten = [] := fun n => by induction n <;> simp [List.replicate_succ, *]
        simp [this]
    · obtain ⟨⟨l⟩⟩ := a
      have : ∀ (n : Nat) (acc : List Nat), (List.replicate n (⟨l⟩ : Array Nat)).foldl (· ++ ·) ⟨acc⟩ = ⟨acc ++ (List.replicate n l).flatten⟩ := fun n => by
        induction n with
        | zero => intro acc; simp
        | succ n ih =>
          intro acc
          rw [List.replicate_succ, List.foldl_cons]
          have e : (⟨acc⟩ : Array Nat) ++ ⟨l⟩ = ⟨acc ++ l⟩ := by simp
          rw [e, ih, List.replicate_succ, List.flatten_cons, List.append_assoc]
      have z := this k.toNat []
      rw [List.nil_append] at z
      exact congrArg Str.mk z

/-! tuple * int -/
theorem tuple_mulZ (l : Addr) (items : Array Value) (n : Nat) (dd : Option Addr) (sl : Array (Option Value)) (x : Int) (u : Tok) (c0 : (decide (x < -(2 ^ 63)) || decide (x ≥ 2 ^ 63)) = false) (c1 : (items.isEmpty || x == 1) = false) (c2 : (decide (x ≤ 0) || items.isEmpty) = true) :
    Meets (Builtin.«tuple.__mul__» ⟨[.ref l, .int x u], []⟩) (fun _ R s => s.heap.get? l = some { cls := .type "tuple", dict := dd, data := .seq items n, slots := sl } ∧
      R (.ok (.ret (Value.ref s.heap.objs.size))) { s with heap := s.heap.push { cls := Value.type "tuple", data := Data.seq #[] }, toks := s.toks }) :=
  .of_wp fun prog w A R s h => by
    obtain ⟨hp, g, d, tk, os⟩ := s
    obtain ⟨hl, h⟩ := h
    have f1 := AutoSeq1.idx_int
    wp_walk using wpAny_loadPart' hl
    repeat (first
      | (refine wpAny_ite_false (decide_eq_false (by rw [c0]; exact Bool.false_ne_true)) ?_; wp_walk using wpAny_loadPart' hl)
      | (refine wpAny_ite_false (decide_eq_false (by rw [c1]; exact Bool.false_ne_true)) ?_; wp_walk using wpAny_loadPart' hl)
      | (refine wpAny_ite_true (decide_eq_true c2) ?_; wp_walk using wpAny_loadPart' hl))
    exact ⟨_, rfl, h⟩
theorem tuple_mulI (l : Addr) (items : Array Value) (n : Nat) (dd : Option Addr) (sl : Array (Option Value)) (u : Tok) :
    Meets (Builtin.«tuple.__mul__» ⟨[.ref l, .int 1 u], []⟩) (fun _ R s => s.heap.get? l = some { cls := .type "tuple", dict := dd, data := .seq items n, slots := sl } ∧
      R (.ok (.ret (Value.ref l))) s) :=
  .of_wp fun prog w A R s h => by
    obtain ⟨hp, g, d, tk, os⟩ := s
    obtain ⟨hl, h⟩ := h
    have f1 := AutoSeq1.idx_int
    wp_walk using wpAny_loadPart' hl
    repeat (first
      | (refine wpAny_ite_false (decide_eq_false (by decide)) ?_; wp_walk using wpAny_loadPart' hl)
      | (refine wpAny_ite_true (decide_eq_true (by simp)) ?_; wp_walk using wpAny_loadPart' hl))
    exact ⟨_, rfl, h⟩
def rRepU (K : PySem.W.Frag) : R2 := fun x y H Q => ∃ l k xs, x = .ref l ∧ y = .int k ∧ SqT K H l xs ∧ xs ≠ [] ∧ -(2 ^ 63) ≤ k ∧ k < 2 ^ 31 ∧ xs.length * k.toNat ≤ sizeLine ∧ (k = 1 → Q (.ref l) H) ∧
  (k ≠ 1 → ∀ p, H p = none → Q (.ref p) (upd H p (.tup (List.replicate k.toNat xs).flatten)))
theorem op_repU : OpR X (binaryOp .Mult) (rRepU X.K) := by
  intro pins s σ H x y v u Q I rx ry h
  obtain ⟨l, k, xs, rfl, rfl, hT, hne, h1, h2, hz, q1, q⟩ := h
  cases rx
  obtain ⟨t, rfl⟩ := ry
  obtain ⟨its, r, ⟨⟨cls, dd, data, sl⟩, ho, hc, n, hd⟩, hs⟩ := I.tuple hT
  simp only at hc hd
  subst hc hd
  have hle : its.length = xs.length := r.length.symm
  have hn : its ≠ [] := fun e => hne (by
    rw [e] at hle
    exact List.eq_nil_of_length_eq_zero hle.symm)
  have hi : its.toArray.isEmpty = false := by
    cases its with
    | nil => exact absurd rfl hn
    | cons a b => rfl
  have hsz0 : its.toArray.size = xs.length := by rw [List.size_toArray, hle]
  have c0 : (decide (k < -(2 ^ 63)) || decide (k ≥ 2 ^ 63)) = false := by
    rw [decide_eq_false (by omega), decide_eq_false (by omega)] <;> rfl
  have flen : (List.replicate k.toNat xs).flatten.length ≤ sizeLine := by
    rw [PyProof.Rows.lm_len_rep_flat, Nat.mul_comm]; exact hz
  by_cases k1 : k = 1
  · subst k1
    refine wpAny_binaryOp_repeat_ref (T := "tuple") (U := "int") (by decide) ⟨_, ho, rfl⟩ (fun s' => typeIs_int s' 1 t) noFill_tuple_mul F.fills_int_mul F.slot_int_rmul repeat_tuple F.slot_int_index.lookup
      (call_meets F.slot_int_rmul (typeIs_int s 1 t) F.entry_int_rmul (F.args_int_rmul_2 _ _) (int_rmul_tuple 1 t l its.toArray n dd sl)
        ⟨ho, rfl, ⟨_, ho, rfl⟩, call_meets F.slot_tuple_mul ⟨_, ho, rfl⟩ F.entry_tuple_mul (F.args_tuple_mul_2 _ _) (tuple_mulI l its.toArray n dd sl t) ⟨ho, ?_⟩⟩)
    exact ⟨.ref l, H, I, rfl, q1 rfl⟩
  · have c1 : (its.toArray.isEmpty || k == 1) = false := by
      rw [hi, Bool.false_or]
      exact beq_eq_false_iff_ne.mpr k1
    by_cases k0 : k ≤ 0
    · have c2 : (decide (k ≤ 0) || its.toArray.isEmpty) = true := by
        rw [decide_eq_true k0]; rfl
      refine wpAny_binaryOp_repeat_ref (T := "tuple") (U := "int") (by decide) ⟨_, ho, rfl⟩ (fun s' => typeIs_int s' k t) noFill_tuple_mul F.fills_int_mul F.slot_int_rmul repeat_tuple F.slot_int_index.lookup
        (call_meets F.slot_int_rmul (typeIs_int s k t) F.entry_int_rmul (F.args_int_rmul_2 _ _) (int_rmul_tuple k t l its.toArray n dd sl)
          ⟨ho, rfl, ⟨_, ho, rfl⟩, call_meets F.slot_tuple_mul ⟨_, ho, rfl⟩ F.entry_tuple_mul (F.args_tuple_mul_2 _ _) (tuple_mulZ l its.toArray n dd sl k t c0 c1 c2) ⟨ho, ?_⟩⟩)
      refine ⟨.ref s.heap.objs.size, _, I.laid (t' := s.toks) (o := .tup (List.replicate k.toNat xs).flatten) (fun b ob q => Heap.get?_push_of_some _ q) (Nat.le_refl _) ?_, rfl, q k1 _ (I.hok.fresh (Nat.le_refl _))⟩
      refine ⟨flen, _, r.rep k.toNat, ?_⟩
      have : k.toNat = 0 := by omega
      rw [this]
      exact IsTup.new _ _
    · have c2 : (decide (k ≤ 0) || its.toArray.isEmpty) = false := by
        rw [hi, Bool.or_false]
        exact decide_eq_false k0
      have e : ((its.toArray.size : Nat) : Int) * k = ((xs.length * k.toNat : Nat) : Int) := by rw [hsz0, Int.natCast_mul, Int.toNat_of_nonneg (by omega)]
      have hm : ((its.toArray.size : Nat) : Int) * k ≤ 100000000 := by
        rw [e]
        rw [sizeLine_eq] at hz
        omega
      have c4 : Builtin.Tuple.tupleTooMany (((its.toArray.size : Nat) : Int) * k) = false := by
        unfold Builtin.Tuple.tupleTooMany
        exact decide_eq_false (by omega)
      refine wpAny_binaryOp_repeat_ref (T := "tuple") (U := "int") (by decide) ⟨_, ho, rfl⟩ (fun s' => typeIs_int s' k t) noFill_tuple_mul F.fills_int_mul F.slot_int_rmul repeat_tuple F.slot_int_index.lookup
        (call_meets F.slot_int_rmul (typeIs_int s k t) F.entry_int_rmul (F.args_int_rmul_2 _ _) (int_rmul_tuple k t l its.toArray n dd sl)
          ⟨ho, rfl, ⟨_, ho, rfl⟩, call_meets F.slot_tuple_mul ⟨_, ho, rfl⟩ F.entry_tuple_mul (F.args_tuple_mul_2 _ _) (tuple_mulW l its.toArray n dd sl k t c0 c1 c2 (by omega) c4 (by rw [size_rep, List.size_toArray, PyProof.Rows.lm_len_rep_flat, hle, Nat.mul_comm]; exact hz)) ⟨ho, ?_⟩⟩)
      rw [size_rep]
      refine ⟨.ref s.heap.objs.size, _, I.laid (t' := s.toks) (o := .tup (List.replicate k.toNat xs).flatten) (fun b ob q => Heap.get?_push_of_some _ q) (Nat.le_refl _) ?_, rfl, q k1 _ (I.hok.fresh (Nat.le_refl _))⟩
      exact ⟨flen, _, r.rep k.toNat, IsTup.new _ _⟩

/-! list(text) -/
def signsP (x : Str) : List V := x.cps.toList.map fun c => .str ⟨#[c]⟩
theorem call_list_strR (hc : X.calm = true) : CallR X (.type "list") (fun xs H Q => ∃ x, xs = [.str x] ∧ x.length ≤ sizeLine ∧ ∀ p, H p = none → Q (.ref p) (upd H p (.lst (signsP x)))) := by
  intro pins s σ H xs us Q I r h
  obtain ⟨x, rfl, hl, q⟩ := h
  cases r with
  | cons r1 rs =>
    cases rs
    obtain ⟨t, rfl⟩ := r1
    refine PySem.call_list_str (I.ok.hd hc) x t (fun h' tk acc' c' hk hS hi => ?_) hl
    refine ⟨.ref _, _, I.laid (t' := tk) (o := .lst (signsP x)) hk (Nat.le_refl _) ?_, rfl, q _ (I.hok.fresh (Nat.le_refl _))⟩
    have hn : (signsP x).length = acc'.toList.length := by
      rw [signsP, List.length_map, Array.length_toList, Array.length_toList]; exact hi.1.symm
    refine ⟨by rw [signsP, List.length_map, Array.length_toList]; exact hl, acc'.toList, c', vals_of_at hn fun j v u e1 e2 => ?_, by simpa using hS⟩
    rw [Array.getElem?_toList] at e2
    obtain ⟨c, u', hc', rfl⟩ := hi.2 j u e2
    rw [signsP, List.getElem?_map, Array.getElem?_toList, hc'] at e1
    cases e1
    exact ⟨_, rfl⟩
end
end Ev

set_option Elab.async false
set_option linter.all false
set_option maxRecDepth 100000
set_option maxHeartbeats 4000000
/-! EvY: sorted(tuple of ints), min(list of pairs of ints). -/
namespace PyProof.Rows
open PySem
section
variable {prog : Program} {w : World} {A : Around} {E : Value → Shared → Prop} {s : Shared}
theorem collect_tupE {t : Addr} {us : List Value} {Q : List Value → Shared → Prop} (ht : IsTup s.heap t us.toArray) (hz : us.length ≤ sizeLine)
    (fin : Q us { s with heap := (s.heap.push (seqObj "list" #[] 0)).update s.heap.objs.size (Obj.mapSeq (· ++ us.toArray)) }) : wpAny (model prog w) A (collect (.ref t)) Q E s := by
  obtain ⟨ob, g0, gc, m, gd⟩ := id ht
  unfold collect; refine wpAny_bind (wpAny_runValue (codeAny_builtin entry_proto_collect' ?_))
  show wpAny _ _ (do again (.builtin "list.__iadd__" ⟨[← newList [], .ref t], []⟩)) _ _ s
  refine wpAny_bind (wpAny_newList (wpAny_pure ⟨Code.quiet_builtin _ (by decide +kernel), codeAny_builtin entry_list_iadd' ?_⟩)); show wpAny _ _ (Builtin.List.listExtendWith (.ref s.heap.objs.size) (.ref t) (.ref s.heap.objs.size)) _ _ { s with heap := s.heap.push (seqObj "list" #[] 0) }
  unfold Builtin.List.listExtendWith; have g1 : (s.heap.push (seqObj "list" #[] 0)).get? t = some ob := Heap.get?_push_of_some _ g0
  refine wpAny_bind (wpAny_typeOf (T := "tuple") ⟨ob, g1, gc⟩ ?_); have t1 : (Value.type "tuple" == Value.type "tuple") = true := by rfl
  rw [if_pos (by rw [t1]; simp)]; refine wpAny_bind (listItems_at g1 gd ?_)
  refine wpAny_bind (listItems_at (n := 0) (xs := #[]) (Heap.get?_push_size _ rfl) rfl ?_)
  rw [if_neg (by simp)]; refine wpAny_bind (listUpdate_at (n := 0) (xs := #[]) (Heap.get?_push_size _ rfl) rfl ?_ (Nat.zero_le _) (by show (#[] ++ us.toArray).size ≤ sizeLine + 1; simp only [Array.size_append, List.size_toArray, List.length_nil]; omega))
  refine wpAny_pure ?_; show wpAny (model prog w) A (do
    let o ← load s.heap.objs.size
    match o.data with | .seq xs _ => pure xs.toList | _ => unsupported "internal:collect") Q E { s with heap := (s.heap.push (seqObj "list" #[] 0)).update s.heap.objs.size (Obj.mapSeq (· ++ us.toArray)) }
  refine wpAny_bind (wpAny_load (get?_update_seq (Heap.get?_push_size _ rfl) _) ?_); show wpAny _ _ (pure ((#[] : Array Value) ++ us.toArray).toList) Q E _
  rw [show ((#[] : Array Value) ++ us.toArray).toList = us by simp]; exact wpAny_pure fin
end
end PyProof.Rows
namespace SrtO
open PySem PySem.Spec PyProof.Rows
section
variable {prog : Program} {w : World} {A : Around} {E : Value → Shared → Prop} {s : Shared}
theorem sorted_tupE {t : Addr} {us : List Value} {ltv : Value → Value → Bool} {Q : Value → Shared → Prop} (O : Swo ltv) (ht : IsTup s.heap t us.toArray) (hz : us.length ≤ sizeLine)
    (hS : 2 ≤ us.length → ∀ (h₁ : Heap) (a : Addr), h₁.get? a = some (seqObj "list" us.toArray 0) → (∀ b o, s.heap.get? b = some o → b ≠ a ∧ h₁.get? b = some o) → SortableO prog w A.in1.in1 { s with heap := h₁ } a us ltv)
    (fin : ∀ out : List Value, Srtd ltv out → Stb ltv out us → Q (.ref (s.heap.objs.size + 1)) { s with heap := sortedAll s.heap us out.toArray }) : wpAny (model prog w) A (call (.builtin "sorted") [.ref t]) Q E s := by
  refine Calls.call_function_entry kind_sorted plain_sorted entry_sorted (args_sorted1 _) ?_; unfold Builtin.«sorted»
  refine wpAny_bind (m := checkCount "sorted" 1 1 _) (wpAny_pure ?_); refine wpAny_bind (collect_tupE ht hz ?_); refine wpAny_bind (wpAny_newList ?_ hz)
  have hn : ((s.heap.push (seqObj "list" #[] 0)).update s.heap.objs.size (Obj.mapSeq (· ++ us.toArray))).objs.size = s.heap.objs.size + 1 := by rw [Heap.size_update, size_push']
  have ho : (((s.heap.push (seqObj "list" #[] 0)).update s.heap.objs.size (Obj.mapSeq (· ++ us.toArray))).push (seqObj "list" us.toArray 0)).get? (s.heap.objs.size + 1) = some (seqObj "list" us.toArray 0) := by rw [← hn]; exact Heap.get?_push_size _ rfl
  have keep : ∀ b o, s.heap.get? b = some o → b ≠ s.heap.objs.size + 1 ∧ (((s.heap.push (seqObj "list" #[] 0)).update s.heap.objs.size (Obj.mapSeq (· ++ us.toArray))).push (seqObj "list" us.toArray 0)).get? b = some o := fun b o q => by
    have lt : b < s.heap.objs.size := Heap.lt_size q
    refine ⟨Nat.ne_of_lt (Nat.lt_succ_of_lt lt), Heap.get?_push_of_some _ ?_⟩; rw [Heap.get?_update_ne _ _ _ _ (Nat.ne_of_lt lt)]; exact Heap.get?_push_of_some _ q
  show wpAny _ _ _ _ _ { s with heap := ((s.heap.push (seqObj "list" #[] 0)).update s.heap.objs.size (Obj.mapSeq (· ++ us.toArray))).push (seqObj "list" us.toArray 0) }; rw [hn]
  refine wpAny_bind (wpAny_holding (wpAny_call_entry slot_list_sort ⟨_, ho, rfl⟩ entry_list_sort (list_sort_ord O ho hz (fun h2 => hS h2 _ _ ho keep) fun out a b => ⟨_, rfl, ?_⟩) (args_list_sort _))); exact wpAny_pure ⟨_, rfl, fin out a b⟩
end
end SrtO
namespace Ev
open PySem L2 PySem.Spec PyProof.Rows
section
variable {X : Cx}
def rSortedT (K : PySem.W.Frag) : List V → Hp → VK → Prop := fun vs H Q => ∃ (a : Addr) (ns : List Int), vs = [V.ref a] ∧ SqT K H a (ns.map V.int) ∧
  ∀ (ns' : List Int) (p : Addr), ns'.Perm ns → ns'.Pairwise (· ≤ ·) → H p = none → Q (.ref p) (upd H p (.lst (ns'.map V.int)))
theorem cr_sortedT : CallR X (.builtin "sorted") (rSortedT X.K) := by
  intro pins s σ H vs us Q I r h
  obtain ⟨a, ns, rfl, hs, q⟩ := h
  obtain ⟨its, rv, ht, hz⟩ := I.tuple hs
  rw [Vals.ref1 r]
  have hi := rv.ints
  refine SrtO.sorted_tupE SrtO.swo_int ht (by rw [← rv.length]; exact hz) (fun h2 h₁ a' _ _ => SrtO.ints_sortable hi h2) fun out h1 h2 => ?_
  obtain ⟨k1, k2, k3⟩ := SrtO.ints_out hi h1 h2
  obtain ⟨ep, he'⟩ := PyProof.Rows.sortedAll_at s.heap its out.toArray
  have hlen : ((out.map SrtO.iv).map V.int).length ≤ sizeLine := by rw [List.length_map, k2.length_eq]; rw [List.length_map] at hz; exact hz
  refine ⟨.ref _, upd H (s.heap.objs.size + 1) (.lst ((out.map SrtO.iv).map V.int)), I.laid (t' := s.toks) (fun _ _ => PyProof.Rows.sortedAll_old) (Nat.le_succ _) ⟨hlen, out, ep, vals_of_ints k1, he'⟩, rfl, ?_⟩
  exact q _ _ k2 k3 (I.hok.fresh (Nat.le_succ _))
theorem paired_get {α β : Type} {R : α → β → Prop} : ∀ {xs : List α} {ys : List β} {i : Nat} {y : β}, Paired R xs ys → ys[i]? = some y → ∃ x, xs[i]? = some x ∧ R x y
  | _, _, _, _, .nil, e => by simp at e
  | _, _, 0, _, .cons a _, e => by simp at e; subst e; exact ⟨_, rfl, a⟩
  | _, _, i + 1, y, .cons _ b, e => by
    obtain ⟨x, h1, h2⟩ := paired_get b (by simpa using e)
    exact ⟨x, by simpa using h1, h2⟩
/-! sum of a tuple -/
def rSumT (K : PySem.W.Frag) : List V → Hp → VK → Prop := fun vs H Q => ∃ (a : Addr) (ns : List Int), vs = [V.ref a] ∧ SqT K H a (ns.map V.int) ∧ Q (.int ns.sum) H
theorem preSum_getD : ∀ (ns : List Int) (j : Nat), preSum (fun i => ns.getD i 0) j = (ns.take j).sum
  | [], j => by
    induction j with
    | zero => rfl
    | succ j ih => rw [preSum, ih]; simp
  | n :: ns, 0 => rfl
  | n :: ns, j + 1 => by
    have key : ∀ k, preSum (fun i => (n :: ns).getD i 0) (k + 1) = n + preSum (fun i => ns.getD i 0) k := by
      intro k
      induction k with
      | zero => simp [preSum]
      | succ k ih =>
        rw [preSum, ih, preSum]
        simp only [List.getD_cons_succ]
        omega
    rw [key, preSum_getD ns j]; simp
theorem cr_sumT (hc : X.calm = true) : CallR X (.builtin "sum") (rSumT X.K) := by
  intro pins s σ H vs us Q I r h
  obtain ⟨a, ns, rfl, hs, q⟩ := h
  obtain ⟨its, rv, ht, hz⟩ := I.tuple hs
  rw [Vals.ref1 r]
  have hlen : its.toArray.size = ns.length := by rw [List.size_toArray, ← rv.length, List.length_map]
  refine PySem.call_sum_walkAnyS (PySem.W.iter_tupleW (A := X.A.in1) (I.ok.hd hc) (show s.heap.IsTuple a its.toArray from ht) fun s₂ e W st hfp hw hk => ?_)
  refine ⟨_, _, _, _, _, _, _, fun i => ns.getD i 0, rfl, W, st, hfp, fun i v hv => ?_, fun s' t' m => ?_⟩
  · have hv' : its[i]? = some v := by simpa using hv
    obtain ⟨x, hx, rx⟩ : ∃ x, (ns.map V.int)[i]? = some x ∧ RelV x v := paired_get rv hv'
    rw [List.getElem?_map] at hx
    cases q : ns[i]? with
    | none => rw [q] at hx; cases hx
    | some n =>
      rw [q] at hx; cases hx
      obtain ⟨t, rfl⟩ := rx
      exact ⟨t, by show Value.int n t = Value.int (ns.getD i 0) t; rw [List.getD_eq_getElem?_getD, q]; rfl⟩
  · obtain ⟨h', tk, rfl, hk'⟩ := PySem.W.moved_old e rfl m
    rw [hlen, preSum_getD, List.take_of_length_le (Nat.le_refl _)]
    exact ⟨.int _, H, I.kept hk', ⟨_, rfl⟩, q⟩
/-! min of pairs -/
def dP (p : Int × Int) : PyData := .tuple [.int p.1, .int p.2]
/-- where the first least one stands -/
def minIx (ps : List (Int × Int)) : Nat := argBest (fun i j => PySem.W.dataLt ((ps.map dP).getD i .none) ((ps.map dP).getD j .none)) (ps.length - 1)
def rMinP (K : PySem.W.Frag) : List V → Hp → VK → Prop := fun vs H Q => ∃ (a : Addr) (xs : List V) (ps : List (Int × Int)), vs = [V.ref a] ∧ SqL K H a xs ∧ DpAll K H xs (ps.map dP) ∧ 0 < ps.length ∧ ∀ v, xs[minIx ps]? = some v → Q v H
theorem alike_dP (p q : Int × Int) : PySem.W.alike (dP p) (dP q) = true := by simp [dP, PySem.W.alike, PySem.W.alikeAll]
theorem depth_dP : ∀ ps : List (Int × Int), PyData.depthAll (ps.map dP) ≤ 1
  | [] => by simp [PyData.depthAll]
  | p :: ps => by
    have := depth_dP ps
    simp only [List.map_cons, PyData.depthAll, dP, PyData.depth]
    omega
theorem cr_minP (hc : X.calm = true) (hu : X.A.units + 66 < cLine) : CallR X (.builtin "min") (rMinP X.K) := by
  intro pins s σ H vs us Q I r h
  obtain ⟨a, xs, ps, rfl, hs, hd, hne, q⟩ := h
  obtain ⟨its, rv, hl, hz⟩ := I.list hs
  rw [Vals.ref1 r]
  obtain ⟨as, R⟩ := Dp.readsAll I _ xs its hd rv
  have al : PySem.W.AlikeAll (ps.map dP) := ⟨fun x hx y hy => by
    obtain ⟨p, _, rfl⟩ := List.mem_map.mp hx
    obtain ⟨p', _, rfl⟩ := List.mem_map.mp hy
    exact alike_dP _ _, fun x hx => by
    obtain ⟨p, _, rfl⟩ := List.mem_map.mp hx
    simp [dP]⟩
  have hn : its.toArray.size = ps.length := by
    have := PySem.W.readsAll_len (vs := its.toArray) R
    rw [this, List.length_map]
  refine call_min_walkH (PySem.W.iter_listW (A := X.A.in1) (I.ok.hd hc) hl.isList fun s₂ e W st hfp hw hk => ?_)
  refine ⟨_, _, _, _, _, _, _, s.heap, _, rfl, W, st, hfp, by omega, hw, hk, PySem.W.cmpIn_lt (A := X.A.in1) (vs := its.toArray) R al ?_, fun v s' hP m => ?_⟩
  · show X.A.units + 1 + _ < _
    have := depth_dP ps
    omega
  · obtain ⟨h', tk, rfl, hk'⟩ := PySem.W.moved_old e rfl m
    rw [hn] at hP
    have hP' : its[minIx ps]? = some v := by simpa [minIx] using hP
    obtain ⟨x, hx, rx⟩ : ∃ x, xs[minIx ps]? = some x ∧ RelV x v := paired_get rv hP'
    exact ⟨x, H, I.kept hk', rx, q x hx⟩
end
end Ev

set_option Elab.async false
set_option linter.all false
set_option maxRecDepth 100000
set_option maxHeartbeats 4000000
/-! Ev3: what the operations do to values, by the layer's rules. -/
namespace Ev
open PySem L2

/-- how an error lies in the heap -/
def EV (K : PySem.W.Frag) (mg : Str → Option Value) (ρ : List Addr) (H : Hp) (e : Exc) (cls : Value) (d : Option Addr) : Prop :=
  mg e.cls = some cls ∧ ∃ dd ws, d = some dd ∧ H dd = some (.xd ws) ∧ Paired (fun (p : Str × PV) (q : Str × V) => p.1 = q.1 ∧ RV K mg ρ H p.2 q.2) e.fs ws

/-- what is wanted behind a step, by its outcome -/
def Post {α β : Type} (K : PySem.W.Frag) (mg : Str → Option Value) (R : List Addr → Hp → α → β → Prop) (W : XK) (ρ : List Addr) (H : Hp) (r : Res α) (Q : β → Hp → Prop) : Prop := match r with
  | .ok x M => ∀ ρ' v H', Ext ρ H ρ' H' → SM K mg ρ' H' M → R ρ' H' x v → Q v H'
  | .exc e M => ∀ ρ' H' cls d, Ext ρ H ρ' H' → SM K mg ρ' H' M → EV K mg ρ' H' e cls d → W cls d H'
  | .bad => False
section
variable {K : PySem.W.Frag} {mg : Str → Option Value} {ρ ρ1 : List Addr} {H H1 : Hp} {α β γ δ : Type} {R : List Addr → Hp → α → β → Prop} {R1 : List Addr → Hp → γ → δ → Prop} {W : XK} {M : Sto} {Q : β → Hp → Prop}
theorem Post.chain {r : Res γ} {f : γ → Sto → Res α} {Q1 : δ → Hp → Prop} (h : Post K mg R W ρ H (r.bind f) Q)
    (k : ∀ x M1 ρ1 v H1, Ext ρ H ρ1 H1 → SM K mg ρ1 H1 M1 → R1 ρ1 H1 x v → Post K mg R W ρ1 H1 (f x M1) Q → Q1 v H1) : Post K mg R1 W ρ H r Q1 := by
  cases r with
  | ok x M =>
    intro ρ' v H' E S r1
    refine k x M ρ' v H' E S r1 ?_
    have h' : Post K mg R W ρ H (f x M) Q := h
    revert h'
    cases f x M with
    | ok y N => exact fun h ρ2 w H2 E2 => h ρ2 w H2 (E.trans E2)
    | exc e N => exact fun h ρ2 H2 c d E2 => h ρ2 H2 c d (E.trans E2)
    | bad => exact fun h => h
  | exc e M => exact h
  | bad => exact h
theorem Post.here {x : α} {v : β} (S : SM K mg ρ H M) (r : R ρ H x v) (h : Post K mg R W ρ H (.ok x M) Q) : Q v H := h ρ v H (Ext.refl _ _) S r
theorem Post.ext {x : α} {v : β} {M1 : Sto} (h : Post K mg R W ρ H (.ok x M1) Q) (E : Ext ρ H ρ1 H1) (S : SM K mg ρ1 H1 M1) (r : R ρ1 H1 x v) : Q v H1 := h ρ1 v H1 E S r
end

section
variable {K : PySem.W.Frag} {mg : Str → Option Value} {ρ : List Addr} {H : Hp} {W : XK} {M : Sto} {Q : VK}
abbrev PostV (K : PySem.W.Frag) (mg : Str → Option Value) (W : XK) (ρ : List Addr) (H : Hp) (r : Res PV) (Q : VK) : Prop := Post K mg (RV K mg) W ρ H r Q

/-! ### reading values -/
theorem RV.int_inv {i : Int} {v : V} (h : RV K mg ρ H (.int i) v) : v = .int i := by cases h; rfl
theorem RV.str_inv {s : Str} {v : V} (h : RV K mg ρ H (.str s) v) : v = .str s := by cases h; rfl
theorem RV.bl_inv {b : Bool} {v : V} (h : RV K mg ρ H (.bl b) v) : v = .bl b := by cases h; rfl
theorem RV.non_inv {v : V} (h : RV K mg ρ H .non v) : v = .non := by cases h; rfl
theorem RV.tup_inv {xs : List PV} {v : V} (h : RV K mg ρ H (.tup xs) v) : ∃ a vs, v = .ref a ∧ SqT K H a vs ∧ RVs K mg ρ H xs vs := by cases h with | tup a b => exact ⟨_, _, rfl, a, b⟩
theorem RV.rol_inv {xs : List PV} {v : V} (h : RV K mg ρ H (.rol xs) v) : ∃ a vs, v = .ref a ∧ Fzl K H a vs ∧ RVs K mg ρ H xs vs := by cases h with | rol a b => exact ⟨_, _, rfl, a, b⟩
theorem RV.ref_inv {i : Nat} {v : V} (h : RV K mg ρ H (.ref i) v) : ∃ a, v = .ref a ∧ ρ[i]? = some a := by cases h with | ref a => exact ⟨_, rfl, a⟩
theorem Fzl.sq {a : Addr} {vs : List V} (h : Fzl K H a vs) : SqL K H a vs := by
  rcases h with ⟨o, h⟩ | h
  · exact .inl (.inr ⟨o, h⟩)
  · exact .inr h
theorem RV.atom {x : PV} {v w : V} (h : RV K mg ρ H x v) (e : x.atom = some w) : v = w := by
  cases h <;> first | (cases e; rfl) | cases e
theorem RVs.atoms : ∀ {xs : List PV} {vs ws : List V}, RVs K mg ρ H xs vs → Ev.atoms xs = some ws → vs = ws
  | _, _, _, .nil, e => by cases e; rfl
  | x :: xs, _, _, .cons a b, e => by
    have e' : (match x.atom, Ev.atoms xs with | some v, some vs => some (v :: vs) | _, _ => none) = some _ := e
    cases h1 : x.atom with
    | none => rw [h1] at e'; cases e'
    | some v =>
      cases h2 : Ev.atoms xs with
      | none => rw [h1, h2] at e'; cases e'
      | some vs =>
        rw [h1, h2] at e'
        cases e'
        rw [RV.atom a h1, RVs.atoms b h2]
/-- a list or a tuple, as it is read -/
theorem seq_read (S : SM K mg ρ H M) {x : PV} {v : V} {xs : List PV} (h : RV K mg ρ H x v) (e : seqOf M x = some xs) : ∃ a vs, v = .ref a ∧ (SqL K H a vs ∨ SqT K H a vs) ∧ RVs K mg ρ H xs vs := by
  cases h with
  | tup a b => cases e; exact ⟨_, _, rfl, .inr a, b⟩
  | rol a b => cases e; exact ⟨_, _, rfl, .inl a.sq, b⟩
  | ref h =>
    rename_i i a
    have e' : lstOf M i = some xs := e
    unfold lstOf at e'
    cases q : M[i]? with
    | none => rw [q] at e'; cases e'
    | some o =>
      rw [q] at e'
      cases o with
      | dct _ => cases e'
      | tab _ => cases e'
      | lst ys =>
        cases e'
        obtain ⟨vs, h1, h2⟩ := S.get h q
        exact ⟨_, _, rfl, .inl (.inl (.inl h1)), h2⟩
  | _ => cases e
theorem lst_read (S : SM K mg ρ H M) {i : Nat} {v : V} {xs : List PV} (h : RV K mg ρ H (.ref i) v) (e : lstOf M i = some xs) : ∃ a vs, v = .ref a ∧ ρ[i]? = some a ∧ H a = some (.lst vs) ∧ RVs K mg ρ H xs vs := by
  obtain ⟨a, rfl, hi⟩ := h.ref_inv
  unfold lstOf at e
  cases q : M[i]? with
  | none => rw [q] at e; cases e
  | some o =>
    rw [q] at e
    cases o with
    | dct _ => cases e
    | tab _ => cases e
    | lst ys =>
      cases e
      obtain ⟨vs, h1, h2⟩ := S.get hi q
      exact ⟨_, _, rfl, hi, h1, h2⟩
theorem RO.at' {a b : Addr} {o : MO} {ho : HO} (r : RO K mg ρ H a o ho) (n : ∀ f, o ≠ .tab f) : RO K mg ρ H b o ho := by
  cases o <;> first | exact (n _ rfl).elim | (cases ho <;> first | exact r.elim | exact r)
theorem Post.alloc {o : MO} {ho : HO} (S : SM K mg ρ H M) (r : RO K mg ρ H 0 o ho) (h : PostV K mg W ρ H (Ev.alloc o M) Q) (n : ∀ f, o ≠ .tab f := by intro f z; cases z) : ∀ p, H p = none → Q (.ref p) (upd H p ho) := fun p hp =>
  h (ρ ++ [p]) (.ref p) _ (Ext.alloc hp) (S.alloc hp (r.at' n)) (RV.new S)
theorem Post.tup {xs : List PV} {vs : List V} (S : SM K mg ρ H M) (r : RVs K mg ρ H xs vs) (h : PostV K mg W ρ H (.ok (.tup xs) M) Q) : ∀ p, H p = none → Q (.ref p) (upd H p (.tup vs)) := fun p hp =>
  h ρ (.ref p) _ (Ext.upd hp) (S.upd hp) (.tup (.inl (.inl upd_same)) (RVs.mono S (Ext.upd hp) r))

/-! ### data -/
mutual
theorem dp_of (S : SM K mg ρ H M) {lk : Nat → Option PyData} (hl : ∀ i a d, ρ[i]? = some a → lk i = some d → Dp K H (.ref a) d) : ∀ (x : PV) (v : V) (d : PyData), RV K mg ρ H x v → datR lk x = some d → Dp K H v d
  | .non, _, _, .non, e => by cases e; exact .non
  | .bl b, _, _, .bl _, e => by cases e; exact .bl b
  | .int i, _, _, .int _, e => by cases e; exact .int i
  | .str s, _, _, .str _, e => by cases e; exact .str s
  | .tup xs, _, d, .tup (vs := vs) h r, e => by
    have e' : (datRs lk xs).map PyData.tuple = some d := e
    cases q : datRs lk xs with
    | none => rw [q] at e'; cases e'
    | some ds => rw [q] at e'; cases e'; exact .tup h (dps_of S hl xs vs ds r q)
  | .rol xs, _, d, .rol (vs := vs) h r, e => by
    have e' : (datRs lk xs).map PyData.list = some d := e
    cases q : datRs lk xs with
    | none => rw [q] at e'; cases e'
    | some ds => rw [q] at e'; cases e'; exact .lst h.sq (dps_of S hl xs vs ds r q)
  | .ref i, _, d, .ref h, e => hl i _ d h e
theorem dps_of (S : SM K mg ρ H M) {lk : Nat → Option PyData} (hl : ∀ i a d, ρ[i]? = some a → lk i = some d → Dp K H (.ref a) d) : ∀ (xs : List PV) (vs : List V) (ds : List PyData), RVs K mg ρ H xs vs → datRs lk xs = some ds → DpAll K H vs ds
  | [], _, _, .nil, e => by cases e; exact .nil
  | x :: xs, _, ds, .cons (v := v) (vs := vs) a b, e => by
    have e' : (match datR lk x, datRs lk xs with | some d, some ds => some (d :: ds) | _, _ => none) = some ds := e
    cases h1 : datR lk x with
    | none => rw [h1] at e'; cases e'
    | some d =>
      cases h2 : datRs lk xs with
      | none => rw [h1, h2] at e'; cases e'
      | some ds' => rw [h1, h2] at e'; cases e'; exact .cons (dp_of S hl x v d a h1) (dps_of S hl xs vs ds' b h2)
end
theorem lk_of (S : SM K mg ρ H M) : ∀ (n i : Nat) (a : Addr) (d : PyData), ρ[i]? = some a → lkN M n i = some d → Dp K H (.ref a) d
  | 0, _, _, _, _, e => by cases e
  | n + 1, i, a, d, h, e => by
    have e' : (match M[i]? with | some (.lst xs) => (datRs (lkN M n) xs).map PyData.list | _ => none) = some d := e
    cases q : M[i]? with
    | none => rw [q] at e'; cases e'
    | some o =>
      rw [q] at e'
      cases o with
      | dct _ => cases e'
      | tab _ => cases e'
      | lst xs =>
        have e2 : (datRs (lkN M n) xs).map PyData.list = some d := e'
        cases h2 : datRs (lkN M n) xs with
        | none => rw [h2] at e2; cases e2
        | some ds =>
          rw [h2] at e2; cases e2
          obtain ⟨vs, h3, h4⟩ := S.get h q
          exact .lst (.inl (.inl h3)) (dps_of S (lk_of S n) xs vs ds h4 h2)
theorem dat_of (S : SM K mg ρ H M) {x : PV} {v : V} {d : PyData} (r : RV K mg ρ H x v) (e : dat M x = some d) : Dp K H v d := dp_of S (lk_of S 8) x v d r e
end

/-! ### operators -/
section
variable {X : Cx}
def rNo : R2 := fun _ _ _ _ => False
theorem op_no {f : Value → Value → Sem Value} : OpR X f rNo := fun _ _ _ _ _ _ _ _ _ _ _ _ h => h.elim
abbrev rStrAdd : R2 := fun x y H Q => ∃ i j, x = .str i ∧ y = .str j ∧ i.length + j.length ≤ sizeLine ∧ Q (.str (i ++ j)) H
def rBin (K : PySem.W.Frag) : Operator → R2
  | .Add => fun x y H Q => rI0 (fun i j => .int (i + j)) x y H Q ∨ (rStrAdd x y H Q ∨ (rCatA K x y H Q ∨ rCat x y H Q))
  | .Sub => rI0 fun i j => .int (i - j)
  | .Mult => fun x y H Q => rI CMul (fun i j => .int (i * j)) x y H Q ∨ (rRepU K x y H Q ∨ (rMulS x y H Q ∨ rRep x y H Q))
  | .FloorDiv => rI CDivN fun i j => .int (i.fdiv j)
  | .Mod => rI (fun _ j => j ≠ 0) fun i j => .int (i.fmod j)
  | .Pow => rI CPow fun i j => .int (i ^ j.toNat)
  | _ => rNo
theorem op_bin (op : Operator) : OpR X (binaryOp op) (rBin X.K op) := by
  cases op <;> first
    | exact op_add.or (op_add_str.or (op_catA.or op_cat))
    | exact op_sub
    | exact op_mul.or (op_repU.or (op_mulS.or op_rep))
    | exact op_fdivN
    | exact op_modN
    | exact op_pow
    | exact op_no
end
section
variable {K : PySem.W.Frag} {mg : Str → Option Value} {ρ : List Addr} {H : Hp} {W : XK} {M : Sto} {Q : VK}
theorem mulOk_iff {i j : Int} (h : mulOk i j = true) : CMul i j := by
  unfold mulOk at h
  simp only [Bool.or_eq_true, Bool.and_eq_true, decide_eq_true_eq] at h
  exact h
theorem divOk_iff {i j : Int} (h : divOk j = true) : CDivN i j := by
  unfold divOk at h
  simp only [Bool.and_eq_true, decide_eq_true_eq] at h
  exact h
theorem powOk_iff {i j : Int} (h : powOk i j = true) : CPow i j := by
  unfold powOk at h
  simp only [Bool.and_eq_true, decide_eq_true_eq] at h
  exact ⟨h.1.1, h.1.2, h.2⟩
theorem repOk_iff {n : Nat} {k : Int} (h : repOk n k = true) : -(2 ^ 63) ≤ k ∧ k < 2 ^ 31 ∧ n * k.toNat ≤ sizeLine := by
  unfold repOk at h
  simp only [Bool.and_eq_true, decide_eq_true_eq] at h
  exact h
theorem binV_ok (op : Operator) {x y : PV} {v w : V} (S : SM K mg ρ H M) (rx : RV K mg ρ H x v) (ry : RV K mg ρ H y w) (h : PostV K mg W ρ H (binV op x y M) Q) : rBin K op v w H Q := by
  unfold binV at h
  split at h
  · -- two ints
    cases rx.int_inv; cases ry.int_inv
    cases op <;> simp only at h <;> first
      | exact h.elim
      | exact .inl ⟨_, _, rfl, rfl, h.here S (.int _)⟩
      | exact ⟨_, _, rfl, rfl, h.here S (.int _)⟩
      | (split at h
         · rename_i c
           first
             | exact .inl ⟨_, _, rfl, rfl, mulOk_iff c, h.here S (.int _)⟩
             | exact ⟨_, _, rfl, rfl, divOk_iff c, h.here S (.int _)⟩
             | exact ⟨_, _, rfl, rfl, of_decide_eq_true c, h.here S (.int _)⟩
             | exact ⟨_, _, rfl, rfl, powOk_iff c, h.here S (.int _)⟩
         · exact h.elim)
  · cases rx.str_inv; cases ry.str_inv
    cases op <;> simp only at h <;> first
      | exact h.elim
      | (split at h
         · rename_i c
           exact .inr (.inl ⟨_, _, rfl, rfl, c, h.here S (.str _)⟩)
         · exact h.elim)
  · obtain ⟨a, vs, rfl, ha, ra⟩ := rx.tup_inv
    obtain ⟨b, ws, rfl, hb, rb⟩ := ry.tup_inv
    cases op <;> simp only at h <;> first
      | exact h.elim
      | (split at h
         · rename_i xs ys c
           refine .inr (.inr (.inl ⟨a, b, vs, ws, rfl, rfl, ha, hb, by rw [← ra.length, ← rb.length]; exact c, fun e => ?_, fun _ e => ?_, fun _ _ => ?_⟩))
           · refine h.here S (.tup hb ?_)
             have e1 : xs = [] := by
               have := ra.length
               rw [e] at this
               exact List.eq_nil_of_length_eq_zero this
             rw [e1]; exact rb
           · refine h.here S (.tup ha ?_)
             have e1 : ys = [] := by
               have := rb.length
               rw [e] at this
               exact List.eq_nil_of_length_eq_zero this
             rw [e1, List.append_nil]; exact ra
           · exact Post.tup S (ra.append rb) h
         · exact h.elim)
  · obtain ⟨a, vs, rfl, ha, ra⟩ := rx.tup_inv
    cases ry.int_inv
    cases op <;> simp only at h <;> first
      | exact h.elim
      | (split at h
         · rename_i xs k c
           obtain ⟨c1, c2⟩ := c
           obtain ⟨c3, c4, c5⟩ := repOk_iff c2
           refine .inr (.inl ⟨a, _, vs, rfl, rfl, ha, fun e => c1 ?_, c3, c4, by rw [← ra.length]; exact c5, fun e => ?_, fun _ => Post.tup S (ra.rep _) h⟩)
           · have := ra.length
             rw [e] at this
             exact List.eq_nil_of_length_eq_zero this
           · subst e
             refine h.here S (.tup ha ?_)
             have e1 : (List.replicate (1 : Int).toNat xs).flatten = xs := by simp
             rw [e1]; exact ra
         · exact h.elim)
  · cases rx.str_inv
    cases ry.int_inv
    cases op <;> simp only at h <;> first
      | exact h.elim
      | (split at h
         · rename_i c
           obtain ⟨c3, c4, c5⟩ := repOk_iff c
           exact .inr (.inr (.inl ⟨_, _, rfl, rfl, mulOk_of c3 c4 c5, by rw [mul_eq]; exact h.here S (.str _)⟩))
         · exact h.elim)
  · cases ry.int_inv
    cases op <;> simp only at h <;> first
      | exact h.elim
      | (split at h
         · rename_i i xs e1
           split at h
           · rename_i c
             obtain ⟨c3, c4, c5⟩ := repOk_iff c
             obtain ⟨a, rfl, hi⟩ := rx.ref_inv
             obtain ⟨vs, h1, h2⟩ := S.get hi e1
             exact .inr (.inr (.inr ⟨a, _, vs, rfl, rfl, h1, c3, by omega, by rw [← h2.length]; exact c5, Post.alloc (o := .lst _) (ho := .lst _) S (h2.rep _) h⟩))
           · exact h.elim
         · exact h.elim)
  · cases op <;> simp only at h <;> first
      | exact h.elim
      | (split at h
         · rename_i i j xs ys e1 e2
           split at h
           · rename_i c
             obtain ⟨a, rfl, hi⟩ := rx.ref_inv
             obtain ⟨b, rfl, hj⟩ := ry.ref_inv
             obtain ⟨vs, h1, h2⟩ := S.get hi e1
             obtain ⟨ws, h3, h4⟩ := S.get hj e2
             exact .inr (.inr (.inr ⟨a, b, vs, ws, rfl, rfl, h1, h3, by rw [← h2.length, ← h4.length]; exact c, Post.alloc (o := .lst (xs ++ ys)) (ho := .lst (vs ++ ws)) S (h2.append h4) h⟩))
           · exact h.elim
         · exact h.elim)
  · exact h.elim
end
end Ev

set_option Elab.async false
set_option linter.all false
set_option maxRecDepth 100000
set_option maxHeartbeats 4000000
/-! Ev4: comparisons, truth, items, slices, by the layer's rules. -/
namespace Ev
open PySem L2
section
variable {X : Cx}
abbrev rIsN : R2 := fun x y H Q => y = .non ∧ Q (.bl (decide (x = .non))) H
abbrev rIsNotN : R2 := fun x y H Q => y = .non ∧ Q (.bl (!decide (x = .non))) H
abbrev rInStr : R2 := fun x y H Q => ∃ i j, x = .str i ∧ y = .str j ∧ Q (.bl (!(Builtin.Str.occurrences j i 0 j.length 1).isEmpty)) H
abbrev rNotInStr : R2 := fun x y H Q => ∃ i j, x = .str i ∧ y = .str j ∧ Q (.bl (!(!(Builtin.Str.occurrences j i 0 j.length 1).isEmpty))) H
abbrev rStr2 (g : Str → Str → Bool) : R2 := fun x y H Q => ∃ i j, x = .str i ∧ y = .str j ∧ Q (.bl (g i j)) H
def rCmp (K : PySem.W.Frag) : CmpOp → R2
  | .Eq => fun x y H Q => rEq x y H Q ∨ rEqD K x y H Q
  | .NotEq => fun x y H Q => rNe x y H Q ∨ rNeD K x y H Q
  | .Lt => fun x y H Q => rI0 (fun i j => .bl (decide (i < j))) x y H Q ∨ rStr2 (fun i j => ltS i j) x y H Q
  | .LtE => fun x y H Q => rI0 (fun i j => .bl (decide (i ≤ j))) x y H Q ∨ rStr2 (fun i j => !ltS j i) x y H Q
  | .Gt => fun x y H Q => rI0 (fun i j => .bl (decide (j < i))) x y H Q ∨ rStr2 (fun i j => ltS j i) x y H Q
  | .GtE => fun x y H Q => rI0 (fun i j => .bl (decide (j ≤ i))) x y H Q ∨ rStr2 (fun i j => !ltS i j) x y H Q
  | .Is => fun x y H Q => rIsN x y H Q ∨ rIsB x y H Q
  | .IsNot => fun x y H Q => rIsNotN x y H Q ∨ rNotB x y H Q
  | .In => fun x y H Q => rInStr x y H Q ∨ rIn K false x y H Q
  | .NotIn => fun x y H Q => rNotInStr x y H Q ∨ rIn K true x y H Q
theorem op_cmp (hu : X.A.units + 64 < cLine) (op : CmpOp) : OpR X (compareOp op) (rCmp X.K op) := by
  cases op with
  | Eq => exact op_eq.or (op_eqD hu)
  | NotEq => exact op_ne.or (op_neD hu)
  | Lt => exact op_lt.or op_lt_str
  | LtE => exact op_le.or op_le_str
  | Gt => exact op_gt.or op_gt_str
  | GtE => exact op_ge.or op_ge_str
  | Is => exact op_isN.or op_isBl
  | IsNot => exact op_notN.or op_notBl
  | In => exact op_in_str.or op_in_seq
  | NotIn => exact op_notin_str.or op_notIn_seq
end
section
variable {K : PySem.W.Frag} {mg : Str → Option Value} {ρ : List Addr} {H : Hp} {W : XK} {M : Sto} {Q : VK}
theorem eqV_ok {x y : PV} {v w : V} {k : Bool} (S : SM K mg ρ H M) (rx : RV K mg ρ H x v) (ry : RV K mg ρ H y w) (e : eqV M x y = some k) :
    (scal v w = true ∧ decide (v = w) = k) ∨ ∃ d d', Dp K H v d ∧ Dp K H w d' ∧ SeqAt.shaped d = true ∧ SeqAt.shaped d' = true ∧ PyData.eqv d d' = k := by
  unfold eqV at e
  split at e
  all_goals first
    | (cases rx.int_inv; cases ry.int_inv; cases e; exact .inl ⟨rfl, by simp⟩)
    | (cases rx.str_inv; cases ry.str_inv; cases e; exact .inl ⟨rfl, by simp⟩)
    | (cases rx.bl_inv; cases ry.bl_inv; cases e; exact .inl ⟨rfl, by simp⟩)
    | (cases rx.non_inv; cases ry.non_inv; cases e; exact .inl ⟨rfl, by simp⟩)
    | (cases rx.non_inv; cases ry.int_inv; cases e; exact .inl ⟨rfl, by simp⟩)
    | (cases rx.int_inv; cases ry.non_inv; cases e; exact .inl ⟨rfl, by simp⟩)
    | (cases rx.non_inv; cases ry.str_inv; cases e; exact .inl ⟨rfl, by simp⟩)
    | (cases rx.str_inv; cases ry.non_inv; cases e; exact .inl ⟨rfl, by simp⟩)
    | (cases rx.non_inv; cases ry.bl_inv; cases e; exact .inl ⟨rfl, by simp⟩)
    | (cases rx.bl_inv; cases ry.non_inv; cases e; exact .inl ⟨rfl, by simp⟩)
    | (cases rx.int_inv; cases ry.str_inv; cases e; exact .inl ⟨rfl, by simp⟩)
    | (cases rx.str_inv; cases ry.int_inv; cases e; exact .inl ⟨rfl, by simp⟩)
    | (cases rx.bl_inv; cases ry.str_inv; cases e; exact .inl ⟨rfl, by simp⟩)
    | (cases rx.str_inv; cases ry.bl_inv; cases e; exact .inl ⟨rfl, by simp⟩)
    | skip
  split at e
  · rename_i d d' h1 h2
    split at e
    · rename_i c
      cases e
      exact .inr ⟨d, d', dat_of S rx h1, dat_of S ry h2, c.1, c.2, rfl⟩
    · cases e
  · cases e
theorem inV_ok {x y : PV} {v w : V} {k : Bool} (S : SM K mg ρ H M) (rx : RV K mg ρ H x v) (ry : RV K mg ρ H y w) (e : inV M x y = some k) :
    (∃ i j, v = .str i ∧ w = .str j ∧ (!(Builtin.Str.occurrences j i 0 j.length 1).isEmpty) = k) ∨
    ∃ p xs, w = .ref p ∧ (SqL K H p xs ∨ SqT K H p xs) ∧ flatV v = true ∧ xs.all flatV = true ∧ L2.inV v xs = k := by
  unfold inV at e
  split at e
  · split at e
    · cases rx.str_inv; cases ry.str_inv; cases e
      exact .inl ⟨_, _, rfl, rfl, rfl⟩
    · cases e
  · split at e
    · rename_i ys hs
      split at e
      · rename_i vx vs h1 h2
        split at e
        · rename_i c
          cases e
          obtain ⟨a, us, rfl, hq, ru⟩ := seq_read S ry hs
          have e1 := rx.atom h1
          have e2 := ru.atoms h2
          subst e1; subst e2
          exact .inr ⟨a, _, rfl, hq, c.1, c.2, rfl⟩
        · cases e
      · cases e
    · cases e
theorem none_iff {x : PV} {v : V} (r : RV K mg ρ H x v) (hx : ∀ y, x ≠ .glo y) : decide (v = V.non) = decide (x = PV.non) := by
  cases r with
  | glo _ _ => exact absurd rfl (hx _)
  | _ => simp
theorem cmpV_ok (op : CmpOp) {x y : PV} {v w : V} {k : Bool} (S : SM K mg ρ H M) (rx : RV K mg ρ H x v) (ry : RV K mg ρ H y w) (e : cmpV op x y M = some k) (h : Q (.bl k) H) : rCmp K op v w H Q := by
  cases op with
  | Eq =>
    rcases eqV_ok S rx ry e with ⟨s, e⟩ | ⟨d, d', h1, h2, h3, h4, e⟩
    · exact .inl ⟨s, by rw [e]; exact h⟩
    · exact .inr ⟨d, d', h1, h2, h3, h4, by rw [e]; exact h⟩
  | NotEq =>
    have e' : (eqV M x y).map (!·) = some k := e
    cases q : eqV M x y with
    | none => rw [q] at e'; cases e'
    | some b =>
      rw [q] at e'; cases e'
      rcases eqV_ok S rx ry q with ⟨s, e⟩ | ⟨d, d', h1, h2, h3, h4, e⟩
      · exact .inl ⟨s, by rw [e]; exact h⟩
      · exact .inr ⟨d, d', h1, h2, h3, h4, by rw [e]; exact h⟩
  | Lt | LtE | Gt | GtE =>
    simp only [cmpV] at e
    split at e
    · cases rx.int_inv; cases ry.int_inv; cases e
      exact .inl ⟨_, _, rfl, rfl, h⟩
    · cases rx.str_inv; cases ry.str_inv; cases e
      exact .inr ⟨_, _, rfl, rfl, h⟩
    · cases e
  | Is | IsNot =>
    simp only [cmpV] at e
    split at e
    · cases ry.non_inv
      split at e
      · cases e
      · rename_i hx
        cases e
        exact .inl ⟨rfl, by rw [none_iff rx hx]; exact h⟩
    · cases rx.bl_inv; cases ry.bl_inv; cases e
      exact .inr ⟨_, _, rfl, rfl, h⟩
    · cases e
  | In =>
    rcases inV_ok S rx ry e with ⟨i, j, rfl, rfl, e⟩ | ⟨p, xs, rfl, h1, h2, h3, e⟩
    · exact .inl ⟨_, _, rfl, rfl, by rw [e]; exact h⟩
    · exact .inr ⟨p, xs, rfl, h1, h2, h3, by rw [if_neg Bool.false_ne_true, e]; exact h⟩
  | NotIn =>
    have e' : (inV M x y).map (!·) = some k := e
    cases q : inV M x y with
    | none => rw [q] at e'; cases e'
    | some b =>
      rw [q] at e'; cases e'
      rcases inV_ok S rx ry q with ⟨i, j, rfl, rfl, e⟩ | ⟨p, xs, rfl, h1, h2, h3, e⟩
      · exact .inl ⟨_, _, rfl, rfl, by rw [e]; exact h⟩
      · exact .inr ⟨p, xs, rfl, h1, h2, h3, by rw [if_pos rfl, e]; exact h⟩
theorem truV_ok {x : PV} {v : V} {k : Bool} (S : SM K mg ρ H M) (rx : RV K mg ρ H x v) (e : truV M x = some k) : TruV K v H k := by
  unfold truV at e
  split at e
  · cases rx.non_inv; cases e; exact rfl
  · cases rx.bl_inv; cases e; exact rfl
  · cases rx.int_inv; cases e; exact rfl
  · cases rx.str_inv
    split at e
    · rename_i c
      cases e
      exact ⟨c, rfl⟩
    · cases e
  · obtain ⟨a, vs, rfl, h, r⟩ := rx.tup_inv
    cases e
    exact .inr (.inl ⟨vs, h, by rw [r.nil_iff]⟩)
  · obtain ⟨a, vs, rfl, h, r⟩ := rx.rol_inv
    cases e
    exact .inl ⟨vs, h.sq, by rw [r.nil_iff]⟩
  · obtain ⟨a, rfl, hi⟩ := rx.ref_inv
    split at e
    · rename_i q
      cases e
      obtain ⟨vs, h1, h2⟩ := S.get hi q
      exact .inl ⟨vs, .inl (.inl h1), by rw [h2.nil_iff]⟩
    · rename_i q
      cases e
      obtain ⟨ws, h1, h2⟩ := S.getD hi q
      exact .inr (.inr ⟨ws, h1, by cases h2 <;> rfl⟩)
    · cases e
  · cases e

/-! ### items -/
theorem keyOf_ok {i : PV} {w : V} {k : Key} (r : RV K mg ρ H i w) (e : keyOf i = some k) : w = kV k := by
  cases r <;> first | (cases e; rfl) | cases e
theorem RKs.val {kvs : List (Key × PV)} {ws : List (Key × V)} (r : RKs K mg ρ H kvs ws) {k : Key} : (∀ x, valP kvs k = some x → ∃ v, valV ws k = some v ∧ RV K mg ρ H x v) ∧ (valP kvs k = none → valV ws k = none) := by
  induction r with
  | nil => exact ⟨fun _ h => (nomatch h), fun _ => rfl⟩
  | @cons p q ps qs h t ih =>
    by_cases e : p.1 = k
    · have e2 : q.1 = k := h.1 ▸ e
      have v1 : valP (p :: ps) k = some p.2 := by simp [valP, List.find?_cons, e]
      rw [v1, valV_pos e2]
      exact ⟨fun x hx => ⟨_, rfl, by cases hx; exact h.2⟩, fun z => nomatch z⟩
    · have e2 : ¬ q.1 = k := fun z => e (h.1.trans z)
      have v1 : valP (p :: ps) k = valP ps k := by simp [valP, List.find?_cons, e]
      rw [v1, valV_neg e2]
      exact ih
theorem subV_ok {x i y : PV} {v w : V} (S : SM K mg ρ H M) (rx : RV K mg ρ H x v) (ri : RV K mg ρ H i w) (e : subV x i M = some y) (h : ∀ z, RV K mg ρ H y z → Q z H) :
    (isD M x = false ∧ rIx K v w H Q) ∨ (isD M x = true ∧ ∃ a z, v = .ref a ∧ DGet H a w (some z) ∧ Q z H) := by
  unfold subV at e
  split at e
  · obtain ⟨a, vs, rfl, ha, r⟩ := rx.tup_inv
    cases ri.int_inv
    obtain ⟨z, h1, h2⟩ := r.atI e
    exact .inl ⟨rfl, .inr (.inl ⟨a, vs, _, z, rfl, rfl, ha, h1, h z h2⟩)⟩
  · obtain ⟨a, vs, rfl, ha, r⟩ := rx.rol_inv
    cases ri.int_inv
    obtain ⟨z, h1, h2⟩ := r.atI e
    exact .inl ⟨rfl, .inl ⟨a, vs, _, z, rfl, rfl, ha.sq, h1, h z h2⟩⟩
  · cases rx.str_inv; cases ri.int_inv
    split at e
    · rename_i s k c
      cases q : L2.atI s.cps.toList k with
      | none => rw [q] at e; cases e
      | some d =>
        rw [q] at e; cases e
        exact .inl ⟨rfl, .inr (.inr ⟨_, _, d, rfl, rfl, c, q, h _ (.str _)⟩)⟩
    · cases e
  · obtain ⟨a, rfl, hi⟩ := rx.ref_inv
    split at e
    · rename_i q
      split at e
      · cases ri.int_inv
        obtain ⟨vs, h1, h2⟩ := S.get hi q
        obtain ⟨z, h3, h4⟩ := h2.atI e
        exact .inl ⟨by simp only [isD, q], .inl ⟨a, vs, _, z, rfl, rfl, .inl (.inl h1), h3, h z h4⟩⟩
      · cases e
    · rename_i q
      split at e
      · rename_i k hk
        obtain ⟨ws, h1, h2⟩ := S.getD hi q
        obtain ⟨z, h3, h4⟩ := h2.val.1 _ e
        rw [keyOf_ok ri hk]
        refine .inr ⟨by simp only [isD, q], a, z, rfl, ?_, h z h4⟩
        rw [← h3]
        exact .k h1
      · cases e
    · cases e
  · cases e
def rSlice (K : PySem.W.Frag) : V → Option Int → Option Int → Hp → VK → Prop := fun x lo hi H Q => rSlL K x lo hi H Q ∨ (rSlA K x lo hi H Q ∨ rSlS x lo hi H Q)
theorem sl_any {X : Cx} : SlR X (rSlice X.K) := sl_list.or (sl_tupA.or sl_str)
theorem cutP_whole {xs : List PV} {lo hi : Option Int} (h : HT.sIx xs.length 0 lo = 0 ∧ HT.sIx xs.length xs.length hi = xs.length) : cutP xs lo hi = xs := by
  unfold cutP
  rw [h.1, h.2, List.drop_zero, Nat.sub_zero, List.take_length]
theorem slcV_ok {x : PV} {v : V} {lo hi : Option Int} (S : SM K mg ρ H M) (rx : RV K mg ρ H x v) (h : PostV K mg W ρ H (slcV x lo hi M) Q) : rSlice K v lo hi H Q := by
  unfold slcV at h
  split at h
  · obtain ⟨a, vs, rfl, ha, r⟩ := rx.tup_inv
    refine .inr (.inl ⟨a, vs, rfl, ha, fun c => ?_, fun _ => Post.tup S (r.cut lo hi) h⟩)
    refine h.here S (.tup ha ?_)
    rw [cutP_whole (by rw [r.length]; exact c)]
    exact r
  · obtain ⟨a, vs, rfl, ha, r⟩ := rx.rol_inv
    exact .inl ⟨a, vs, rfl, ha.sq, Post.alloc (o := .lst _) (ho := .lst _) S (r.cut lo hi) h⟩
  · cases rx.str_inv
    split at h
    · rename_i c
      exact .inr (.inr ⟨_, rfl, c, h.here S (.str _)⟩)
    · exact h.elim
  · split at h
    · rename_i q
      obtain ⟨a, vs, rfl, hi, h1, h2⟩ := lst_read S rx q
      exact .inl ⟨a, vs, rfl, .inl (.inl h1), Post.alloc (o := .lst _) (ho := .lst _) S (h2.cut _ _) h⟩
    · exact h.elim
  · exact h.elim
theorem revV_ok {x : PV} {v : V} (S : SM K mg ρ H M) (rx : RV K mg ρ H x v) (h : PostV K mg W ρ H (revV x M) Q) : ∃ a xs, v = .ref a ∧ SqL K H a xs ∧ ∀ p, H p = none → Q (.ref p) (upd H p (.lst xs.reverse)) := by
  unfold revV at h
  split at h
  · obtain ⟨a, vs, rfl, ha, r⟩ := rx.rol_inv
    exact ⟨a, vs, rfl, ha.sq, Post.alloc (o := .lst _) (ho := .lst _) S r.reverse h⟩
  · split at h
    · rename_i q
      obtain ⟨a, vs, rfl, hi, h1, h2⟩ := lst_read S rx q
      exact ⟨a, vs, rfl, .inl (.inl h1), Post.alloc (o := .lst _) (ho := .lst _) S h2.reverse h⟩
    · exact h.elim
  · exact h.elim
end
end Ev

set_option Elab.async false
set_option linter.all false
set_option maxRecDepth 100000
set_option maxHeartbeats 4000000
/-! Ev5: built-in functions, methods, isinstance, stores, by the layer's rules. -/
namespace Ev
open PySem L2
section
variable {X : Cx}
def rRepr (K : PySem.W.Frag) : List V → Hp → VK → Prop := fun xs H Q => ∃ x d, xs = [x] ∧ Dp K H x d ∧ d.showable = true ∧ d.hasDict = false ∧ d.depth ≤ 64 ∧ d.shown.length ≤ sizeLine ∧ Q (.str d.shown) H
theorem cr_repr (hg : X.A.guards = some []) (hu : X.A.units + 66 < cLine) : CallR X (.builtin "repr") (rRepr X.K) := by
  intro pins s σ H xs us Q I r h
  obtain ⟨x, d, rfl, hd, hs, hn, hz, hl, q⟩ := h
  obtain ⟨u, rfl, ru⟩ := vals1 r
  obtain ⟨as, R⟩ := Dp.reads I d x u hd ru
  have fin : ∀ (h' : Heap) (tk : Tok) (t : Nat), (∀ b o, s.heap.get? b = some o → h'.get? b = some o) → EP X pins σ Q (.str d.shown tk) { s with heap := h', toks := t } := fun h' tk t k =>
    ⟨.str d.shown, H, I.kept (t' := t) k, ⟨tk, rfl⟩, q⟩
  have fin0 : ∀ (tk : Tok) (t : Nat), EP X pins σ Q (.str d.shown tk) { s with toks := t } := fun tk t => fin s.heap tk t fun _ _ e => e
  cases R with
  | none => exact PySem.P.repr_of_none (by simpa only [PyData.shown] using fin0 _ _)
  | bool b => exact PySem.P.repr_of_bool (by simpa only [PyData.shown] using fin0 _ _)
  | int i t => exact PySem.P.repr_of_int (by simpa [PyData.showable] using hs) (by simpa only [PyData.shown] using fin0 _ _)
  | str y t => exact PySem.P.repr_of_str (by simpa only [PyData.shown] using fin0 _ _) (by simpa only [PyData.shown] using hl)
  | list h1 h2 h3 h4 =>
    exact repr_of_reads' (.list h1 h2 h3 h4) hs (fun z => by rw [hn] at z; cases z) hg (by omega) (fun _ _ e => e) (fun h' u tk k => fin h' u tk k) hl
  | tuple h1 h2 h3 h4 =>
    exact repr_of_reads' (.tuple h1 h2 h3 h4) hs (fun z => by rw [hn] at z; cases z) hg (by omega) (fun _ _ e => e) (fun h' u tk k => fin h' u tk k) hl
  | dict h1 h2 h3 h4 h5 => exact repr_of_reads' (.dict h1 h2 h3 h4 h5) hs (fun z => by rw [hn] at z; cases z) hg (by omega) (fun _ _ e => e) (fun h' u tk k => fin h' u tk k) hl
/-- a built-in function's or class's value -/
def BI.val : BI → Value
  | .len => .builtin "len" | .int => .type "int" | .tuple => .type "tuple" | .list => .type "list" | .repr => .builtin "repr" | .str => .type "str"
  | .sorted => .builtin "sorted" | .max => .builtin "max" | .min => .builtin "min" | .all => .builtin "all" | .any => .builtin "any" | .sum => .builtin "sum" | .abs => .builtin "abs" | .ord => .builtin "ord" | .divmod => .builtin "divmod"
def BI.name : BI → Str
  | .len => "len" | .int => "int" | .tuple => "tuple" | .list => "list" | .repr => "repr" | .str => "str"
  | .sorted => "sorted" | .max => "max" | .min => "min" | .all => "all" | .any => "any" | .sum => "sum" | .abs => "abs" | .ord => "ord" | .divmod => "divmod"
abbrev RC := List V → Hp → VK → Prop
def rBlt (K : PySem.W.Frag) : BI → RC
  | .len => fun xs H Q => (∃ p ys, xs = [.ref p] ∧ (SqL K H p ys ∨ SqT K H p ys) ∧ Q (.int ys.length) H) ∨ ∃ z, xs = [.str z] ∧ z.length ≤ sizeLine ∧ Q (.int z.length) H
  | .int => fun xs H Q => ((∃ i, xs = [.int i] ∧ Q (.int i) H) ∨ ∃ k, xs = [.bl k] ∧ Q (.int (if k then 1 else 0)) H) ∨ ∃ a n, xs = [.str a] ∧ PySem.intText? a = some n ∧ a.length ≤ 640 ∧ Q (.int n) H
  | .tuple => fun xs H Q => ∃ p ys, xs = [.ref p] ∧ ((SqL K H p ys ∧ ∀ l, H l = none → Q (.ref l) (upd H l (.tup ys))) ∨ (SqT K H p ys ∧ Q (.ref p) H))
  | .list => fun xs H Q => (∃ p ys, xs = [.ref p] ∧ (SqL K H p ys ∨ SqT K H p ys) ∧ ∀ l, H l = none → Q (.ref l) (upd H l (.lst ys))) ∨ ∃ x, xs = [.str x] ∧ x.length ≤ sizeLine ∧ ∀ p, H p = none → Q (.ref p) (upd H p (.lst (signsP x)))
  | .repr => rRepr K
  | .str => fun xs H Q => (∃ a, xs = [.str a] ∧ Q (.str a) H) ∨ ∃ i, xs = [.int i] ∧ i.natAbs.log2 < 1920 ∧ Q (.str (toString i)) H
  | .sorted => fun xs H Q => rSortedI K xs H Q ∨ rSortedT K xs H Q
  | .max => fun xs H Q => (∃ i j, xs = [.int i, .int j] ∧ Q (.int (if j > i then j else i)) H) ∨ rMax K xs H Q
  | .min => fun xs H Q => (∃ i j, xs = [.int i, .int j] ∧ Q (.int (if j < i then j else i)) H) ∨ (rMin K xs H Q ∨ rMinP K xs H Q)
  | .all => rAll K
  | .any => rAny K
  | .sum => fun xs H Q => rSum K xs H Q ∨ rSumT K xs H Q
  | .abs => fun xs H Q => ∃ i, xs = [.int i] ∧ Q (.int (if i < 0 then -i else i)) H
  | .ord => fun xs H Q => ∃ x : Str, xs = [.str x] ∧ x.length = 1 ∧ Q (.int (x.cps.getD 0 0 : Nat)) H
  | .divmod => fun xs H Q => ∃ i j, xs = [.int i, .int j] ∧ CDiv i j ∧ ∀ p, H p = none → Q (.ref p) (upd H p (.tup [.int (i / j), .int (i % j)]))
theorem cr_blt (hc : X.calm = true) (hg : X.A.guards = some []) (hu : X.A.units + 66 < cLine) (f : BI) : CallR X f.val (rBlt X.K f) := by
  cases f with
  | len => exact call_len_seq.or call_len_str
  | int => exact L2.CallR.or call_int1 call_int_str
  | tuple => exact call_tuple_of
  | list => exact L2.CallR.or call_list_of (call_list_strR hc)
  | repr => exact cr_repr hg hu
  | str => exact (L2.CallR.or SkE.call_str_str call_str_int)
  | sorted => exact L2.CallR.or cr_sortedI cr_sortedT
  | max => exact (call_max2 hc).or (cr_max hc)
  | min => exact (call_min2 hc).or (L2.CallR.or (cr_min hc) (cr_minP hc hu))
  | all => exact cr_all hc
  | any => exact cr_any hc
  | sum => exact L2.CallR.or (cr_sum hc) (cr_sumT hc)
  | abs => exact call_abs
  | ord => exact call_ord
  | divmod => exact call_divmod
end
section
variable {K : PySem.W.Frag} {mg : Str → Option Value} {ρ : List Addr} {H : Hp} {W : XK} {M : Sto} {Q : VK}
theorem RVs.one_inv {x : PV} {vs : List V} (h : RVs K mg ρ H [x] vs) : ∃ v, vs = [v] ∧ RV K mg ρ H x v := by
  cases h with
  | cons a b => cases b; exact ⟨_, rfl, a⟩
theorem RVs.two_inv {x y : PV} {vs : List V} (h : RVs K mg ρ H [x, y] vs) : ∃ v w, vs = [v, w] ∧ RV K mg ρ H x v ∧ RV K mg ρ H y w := by
  cases h with
  | cons a b =>
    cases b with
    | cons b c => cases c; exact ⟨_, _, rfl, a, b⟩
theorem RVs.nil_inv {vs : List V} (h : RVs K mg ρ H [] vs) : vs = [] := by cases h; rfl
theorem RVs.ints_inv : ∀ {xs : List PV} {vs : List V} {ns : List Int}, RVs K mg ρ H xs vs → intsP xs = some ns → vs = ns.map V.int
  | _, _, _, .nil, e => by cases e; rfl
  | x :: xs, _, ns, .cons a b, e => by
    cases x <;> try (cases e)
    rename_i i
    have e' : (intsP xs).map (i :: ·) = some ns := e
    cases q : intsP xs with
    | none => rw [q] at e'; cases e'
    | some ms =>
      rw [q] at e'; cases e'
      rw [a.int_inv, RVs.ints_inv b q]; rfl
theorem RVs.bools_inv : ∀ {xs : List PV} {vs : List V} {bs : List Bool}, RVs K mg ρ H xs vs → boolsP xs = some bs → vs = bs.map V.bl
  | _, _, _, .nil, e => by cases e; rfl
  | x :: xs, _, ns, .cons a b, e => by
    cases x <;> try (cases e)
    rename_i i
    have e' : (boolsP xs).map (i :: ·) = some ns := e
    cases q : boolsP xs with
    | none => rw [q] at e'; cases e'
    | some ms =>
      rw [q] at e'; cases e'
      rw [a.bl_inv, RVs.bools_inv b q]; rfl
theorem RVs.of_ints : ∀ ns : List Int, RVs K mg ρ H (ns.map PV.int) (ns.map V.int)
  | [] => .nil
  | n :: ns => .cons (.int n) (RVs.of_ints ns)
theorem RVs.of_signs : ∀ cs : List Nat, RVs K mg ρ H (cs.map fun c => PV.str ⟨#[c]⟩) (cs.map fun c => V.str ⟨#[c]⟩)
  | [] => .nil
  | _ :: cs => .cons (.str _) (RVs.of_signs cs)
/-! sorting -/
theorem insI_perm (x : Int) : ∀ ys : List Int, (insI x ys).Perm (x :: ys)
  | [] => .refl _
  | y :: ys => by
    unfold insI
    split
    · exact .refl _
    · exact ((insI_perm x ys).cons y).trans (.swap x y ys)
theorem sortI_perm : ∀ xs : List Int, (sortI xs).Perm xs
  | [] => .refl _
  | x :: xs => (insI_perm x _).trans ((sortI_perm xs).cons x)
theorem insI_sorted (x : Int) : ∀ ys : List Int, ys.Pairwise (· ≤ ·) → (insI x ys).Pairwise (· ≤ ·)
  | [], _ => by simp [insI]
  | y :: ys, h => by
    unfold insI
    have hp := List.pairwise_cons.mp h
    split
    · rename_i c
      refine List.pairwise_cons.mpr ⟨fun z hz => ?_, h⟩
      rcases List.mem_cons.mp hz with rfl | hz
      · exact c
      · exact Int.le_trans c (hp.1 z hz)
    · rename_i c
      refine List.pairwise_cons.mpr ⟨fun z hz => ?_, insI_sorted x ys hp.2⟩
      rcases List.mem_cons.mp ((insI_perm x ys).mem_iff.mp hz) with rfl | hz
      · omega
      · exact hp.1 z hz
theorem sortI_sorted : ∀ xs : List Int, (sortI xs).Pairwise (· ≤ ·)
  | [] => .nil
  | x :: xs => insI_sorted x _ (sortI_sorted xs)
theorem sortI_unique {xs ys : List Int} (h : ys.Perm xs) (s : ys.Pairwise (· ≤ ·)) : ys = sortI xs :=
  (h.trans (sortI_perm xs).symm).eq_of_pairwise (fun a b _ _ h1 h2 => Int.le_antisymm h1 h2) s (sortI_sorted xs)
theorem maxI_spec : ∀ {xs : List Int} {m : Int}, maxI xs = some m → m ∈ xs ∧ ∀ y ∈ xs, y ≤ m
  | [x], m, e => by cases e; simp
  | x :: y :: r, m, e => by
    have e' : (maxI (y :: r)).map (fun m => if m > x then m else x) = some m := e
    cases q : maxI (y :: r) with
    | none => rw [q] at e'; cases e'
    | some k =>
      rw [q] at e'; cases e'
      obtain ⟨h1, h2⟩ := maxI_spec q
      refine ⟨?_, fun z hz => ?_⟩
      · show (if k > x then k else x) ∈ _
        split
        · exact List.mem_cons_of_mem _ h1
        · exact List.mem_cons_self
      · show z ≤ if k > x then k else x
        rcases List.mem_cons.mp hz with rfl | hz
        · split <;> omega
        · have := h2 z hz
          split <;> omega
theorem minI_spec : ∀ {xs : List Int} {m : Int}, minI xs = some m → m ∈ xs ∧ ∀ y ∈ xs, m ≤ y
  | [x], m, e => by cases e; simp
  | x :: y :: r, m, e => by
    have e' : (minI (y :: r)).map (fun m => if m < x then m else x) = some m := e
    cases q : minI (y :: r) with
    | none => rw [q] at e'; cases e'
    | some k =>
      rw [q] at e'; cases e'
      obtain ⟨h1, h2⟩ := minI_spec q
      refine ⟨?_, fun z hz => ?_⟩
      · show (if k < x then k else x) ∈ _
        split
        · exact List.mem_cons_of_mem _ h1
        · exact List.mem_cons_self
      · show (if k < x then k else x) ≤ z
        rcases List.mem_cons.mp hz with rfl | hz
        · split <;> omega
        · have := h2 z hz
          split <;> omega
theorem RVs.pairs_inv : ∀ {xs : List PV} {vs : List V} {ps : List (Int × Int)}, RVs K mg ρ H xs vs → pairsP xs = some ps → DpAll K H vs (ps.map dP) ∧ ∀ (i : Nat) (p : Int × Int) (w : V), ps[i]? = some p → vs[i]? = some w → RV K mg ρ H (.tup [.int p.1, .int p.2]) w
  | _, _, _, .nil, e => by cases e; exact ⟨.nil, fun i p w h => by simp at h⟩
  | x :: xs, _, ps, .cons (v := v) (vs := vs) a b, e => by
    unfold pairsP at e
    split at e
    · rename_i h; cases h
    · rename_i c d xs' h
      cases h
      cases q : pairsP xs with
      | none => rw [q] at e; cases e
      | some qs =>
        rw [q] at e; cases e
        obtain ⟨h1, h2⟩ := RVs.pairs_inv b q
        have a' := a
        obtain ⟨ad, us, rfl, ha, hr⟩ := a.tup_inv
        cases hr with
        | cons r1 r2 =>
          cases r2 with
          | cons r2 r3 =>
            cases r3
            cases r1.int_inv; cases r2.int_inv
            refine ⟨.cons (.tup ha (.cons (.int c) (.cons (.int d) .nil))) h1, fun i p w hp hw => ?_⟩
            cases i with
            | zero => simp at hp hw; subst hp hw; exact a'
            | succ i => exact h2 i p w (by simpa using hp) (by simpa using hw)
    · cases e
theorem dataLt_dP (p q : Int × Int) : PySem.W.dataLt (dP p) (dP q) = ltP p q := PySem.W.dataLt_ii _ _ _ _
theorem minP_ix {ps : List (Int × Int)} {m : Int × Int} (h : minP ps = some m) : 0 < ps.length ∧ ps[minIx ps]? = some m := by
  cases ps with
  | nil => cases h
  | cons p ps =>
    refine ⟨by simp, ?_⟩
    have h' : ps.foldl (fun a y => if ltP y a = true then y else a) p = m := Option.some.inj h
    obtain ⟨e1, e2⟩ := PySem.W.argBest_fold (fun a b => ltP a b) (0, 0) p ps ps.length (Nat.le_refl _)
    rw [List.take_length, h'] at e2
    have e3 : minIx (p :: ps) = argBest (fun i j => ltP ((p :: ps).getD i (0, 0)) ((p :: ps).getD j (0, 0))) ps.length := by
      unfold minIx
      have : (p :: ps).length - 1 = ps.length := by simp
      rw [this]
      have key : ∀ k, k ≤ ps.length → argBest (fun i j => PySem.W.dataLt (((p :: ps).map dP).getD i .none) (((p :: ps).map dP).getD j .none)) k = argBest (fun i j => ltP ((p :: ps).getD i (0, 0)) ((p :: ps).getD j (0, 0))) k ∧ argBest (fun i j => ltP ((p :: ps).getD i (0, 0)) ((p :: ps).getD j (0, 0))) k ≤ k := by
        intro k
        induction k with
        | zero => exact fun _ => ⟨rfl, Nat.le_refl _⟩
        | succ k ih =>
          intro hk
          obtain ⟨i1, i2⟩ := ih (by omega)
          have gd : ∀ i, i ≤ ps.length → ((p :: ps).map dP).getD i .none = dP ((p :: ps).getD i (0, 0)) := fun i hi => by
            have hi' : i < (p :: ps).length := by simp; omega
            rw [List.getD_eq_getElem?_getD, List.getD_eq_getElem?_getD, List.getElem?_map, List.getElem?_eq_getElem hi']
            rfl
          have g1 := gd (k + 1) hk
          have g2 := gd (argBest (fun i j => ltP ((p :: ps).getD i (0, 0)) ((p :: ps).getD j (0, 0))) k) (by omega)
          unfold argBest
          rw [i1, g1, g2, dataLt_dP]
          exact ⟨rfl, by split <;> omega⟩
      exact (key ps.length (Nat.le_refl _)).1
    rw [e3]
    have hi' : argBest (fun i j => ltP ((p :: ps).getD i (0, 0)) ((p :: ps).getD j (0, 0))) ps.length < (p :: ps).length := Nat.lt_succ_of_le e1
    rw [List.getD_eq_getElem?_getD, List.getElem?_eq_getElem hi'] at e2
    rw [List.getElem?_eq_getElem hi']
    exact congrArg some e2
theorem bltV_ok (f : BI) {xs : List PV} {vs : List V} (S : SM K mg ρ H M) (rx : RVs K mg ρ H xs vs) (h : PostV K mg W ρ H (bltV f xs M) Q) : rBlt K f vs H Q := by
  unfold bltV at h
  split at h
  · obtain ⟨v, rfl, r⟩ := rx.one_inv
    cases r.str_inv
    split at h
    · rename_i c
      exact .inr ⟨_, rfl, c, h.here S (.int _)⟩
    · exact h.elim
  · obtain ⟨v, rfl, r⟩ := rx.one_inv
    obtain ⟨a, rfl, hi⟩ := r.ref_inv
    split at h
    · rename_i q
      obtain ⟨us, h1, h2⟩ := S.get hi q
      exact .inl ⟨a, us, rfl, .inl (.inl (.inl h1)), by rw [← h2.length]; exact h.here S (.int _)⟩
    · exact h.elim
  · obtain ⟨v, rfl, r⟩ := rx.one_inv
    obtain ⟨a, us, rfl, ha, hr⟩ := r.tup_inv
    exact .inl ⟨a, us, rfl, .inr ha, by rw [← hr.length]; exact h.here S (.int _)⟩
  · obtain ⟨v, rfl, r⟩ := rx.one_inv
    obtain ⟨a, us, rfl, ha, hr⟩ := r.rol_inv
    exact .inl ⟨a, us, rfl, .inl ha.sq, by rw [← hr.length]; exact h.here S (.int _)⟩
  · obtain ⟨v, rfl, r⟩ := rx.one_inv
    cases r.int_inv
    exact .inl (.inl ⟨_, rfl, h.here S (.int _)⟩)
  · obtain ⟨v, rfl, r⟩ := rx.one_inv
    cases r.bl_inv
    exact .inl (.inr ⟨_, rfl, h.here S (.int _)⟩)
  · obtain ⟨v, rfl, r⟩ := rx.one_inv
    cases r.str_inv
    split at h
    · rename_i n hn
      split at h
      · rename_i c
        exact .inr ⟨_, _, rfl, hn, c, h.here S (.int _)⟩
      · exact h.elim
    · exact h.elim
  · obtain ⟨v, rfl, r⟩ := rx.one_inv
    obtain ⟨a, us, rfl, ha, hr⟩ := r.tup_inv
    exact ⟨a, us, rfl, .inr ⟨ha, h.here S (.tup ha hr)⟩⟩
  · obtain ⟨v, rfl, r⟩ := rx.one_inv
    obtain ⟨a, us, rfl, ha, hr⟩ := r.rol_inv
    exact ⟨a, us, rfl, .inl ⟨ha.sq, Post.tup S hr h⟩⟩
  · obtain ⟨v, rfl, r⟩ := rx.one_inv
    split at h
    · rename_i q
      obtain ⟨a, us, rfl, hi, h1, h2⟩ := lst_read S r q
      exact ⟨a, us, rfl, .inl ⟨.inl (.inl h1), Post.tup S h2 h⟩⟩
    · exact h.elim
  · obtain ⟨v, rfl, r⟩ := rx.one_inv
    cases r.str_inv
    split at h
    · rename_i c
      exact .inr ⟨_, rfl, c, Post.alloc (o := .lst _) (ho := .lst _) S (RVs.of_signs _) h⟩
    · exact h.elim
  · obtain ⟨v, rfl, r⟩ := rx.one_inv
    split at h
    · rename_i q
      obtain ⟨a, us, rfl, hq, hr⟩ := seq_read S r q
      exact .inl ⟨a, us, rfl, hq, Post.alloc (o := .lst _) (ho := .lst _) S hr h⟩
    · exact h.elim
  · obtain ⟨v, rfl, r⟩ := rx.one_inv
    split at h
    · rename_i z q
      unfold reprV at q
      split at q
      · rename_i d hd
        split at q
        · rename_i c
          cases q
          exact ⟨v, d, rfl, dat_of S r hd, c.1, c.2.2.2, c.2.2.1, c.2.1, h.here S (.str _)⟩
        · cases q
      · cases q
    · exact h.elim
  · obtain ⟨v, rfl, r⟩ := rx.one_inv
    cases r.str_inv
    exact .inl ⟨_, rfl, h.here S (.str _)⟩
  · obtain ⟨v, rfl, r⟩ := rx.one_inv
    cases r.int_inv
    split at h
    · rename_i c
      exact .inr ⟨_, rfl, c, h.here S (.str _)⟩
    · exact h.elim
  · obtain ⟨v, rfl, r⟩ := rx.one_inv
    obtain ⟨a, us, rfl, ha, hr⟩ := r.tup_inv
    split at h
    · rename_i q2
      have e := hr.ints_inv q2
      subst e
      refine .inr ⟨a, _, rfl, ha, fun ns' p hp hs hn => ?_⟩
      rw [sortI_unique hp hs]
      exact (Post.alloc (o := .lst _) (ho := .lst _) S (RVs.of_ints _) h) p hn
    · exact h.elim
  · obtain ⟨v, rfl, r⟩ := rx.one_inv
    split at h
    · rename_i q
      split at h
      · rename_i q2
        obtain ⟨a, us, rfl, hi, h1, h2⟩ := lst_read S r q
        have e := h2.ints_inv q2
        subst e
        refine .inl ⟨a, _, rfl, .inl (.inl h1), fun ns' p hp hs hn => ?_⟩
        rw [sortI_unique hp hs]
        exact (Post.alloc (o := .lst _) (ho := .lst _) S (RVs.of_ints _) h) p hn
      · exact h.elim
    · exact h.elim
  · obtain ⟨v, w, rfl, r1, r2⟩ := rx.two_inv
    cases r1.int_inv; cases r2.int_inv
    exact .inl ⟨_, _, rfl, h.here S (.int _)⟩
  · obtain ⟨v, w, rfl, r1, r2⟩ := rx.two_inv
    cases r1.int_inv; cases r2.int_inv
    exact .inl ⟨_, _, rfl, h.here S (.int _)⟩
  · obtain ⟨v, rfl, r⟩ := rx.one_inv
    split at h
    · rename_i q
      split at h
      · rename_i q2
        split at h
        · rename_i m q3
          obtain ⟨a, us, rfl, hi, h1, h2⟩ := lst_read S r q
          have e := h2.ints_inv q2
          subst e
          obtain ⟨m1, m2⟩ := maxI_spec q3
          refine .inr ⟨a, _, rfl, .inl (.inl h1), List.length_pos_of_mem m1, fun k k1 k2 => ?_⟩
          have : k = m := Int.le_antisymm (m2 k k1) (k2 m m1)
          rw [this]
          exact h.here S (.int _)
        · exact h.elim
      · exact h.elim
    · exact h.elim
  · obtain ⟨v, rfl, r⟩ := rx.one_inv
    split at h
    · rename_i q
      split at h
      · rename_i q2
        split at h
        · rename_i m q3
          obtain ⟨a, us, rfl, hi, h1, h2⟩ := lst_read S r q
          have e := h2.ints_inv q2
          subst e
          obtain ⟨m1, m2⟩ := minI_spec q3
          refine .inr (.inl ⟨a, _, rfl, .inl (.inl h1), List.length_pos_of_mem m1, fun k k1 k2 => ?_⟩)
          have : k = m := Int.le_antisymm (k2 m m1) (m2 k k1)
          rw [this]
          exact h.here S (.int _)
        · exact h.elim
      · split at h
        · rename_i ps q2
          split at h
          · rename_i m q3
            obtain ⟨a, us, rfl, hi, h1, h2⟩ := lst_read S r q
            obtain ⟨h3, h4⟩ := RVs.pairs_inv h2 q2
            obtain ⟨h5, h6⟩ := minP_ix q3
            refine .inr (.inr ⟨a, us, ps, rfl, .inl (.inl h1), h3, h5, fun w hw => ?_⟩)
            exact h.here S (h4 _ _ _ h6 hw)
          · exact h.elim
        · exact h.elim
    · exact h.elim
  · obtain ⟨v, rfl, r⟩ := rx.one_inv
    split at h
    · rename_i q
      split at h
      · rename_i q2
        obtain ⟨a, us, rfl, hi, h1, h2⟩ := lst_read S r q
        have e := h2.bools_inv q2
        subst e
        exact ⟨a, _, rfl, .inl (.inl h1), h.here S (.bl _)⟩
      · exact h.elim
    · exact h.elim
  · obtain ⟨v, rfl, r⟩ := rx.one_inv
    split at h
    · rename_i q
      split at h
      · rename_i q2
        obtain ⟨a, us, rfl, hi, h1, h2⟩ := lst_read S r q
        have e := h2.bools_inv q2
        subst e
        exact ⟨a, _, rfl, .inl (.inl h1), h.here S (.bl _)⟩
      · exact h.elim
    · exact h.elim
  · obtain ⟨v, rfl, r⟩ := rx.one_inv
    obtain ⟨a, us, rfl, ha, hr⟩ := r.tup_inv
    split at h
    · rename_i q2
      have e := hr.ints_inv q2
      subst e
      exact .inr ⟨a, _, rfl, ha, h.here S (.int _)⟩
    · exact h.elim
  · obtain ⟨v, rfl, r⟩ := rx.one_inv
    split at h
    · rename_i q
      split at h
      · rename_i q2
        obtain ⟨a, us, rfl, hi, h1, h2⟩ := lst_read S r q
        have e := h2.ints_inv q2
        subst e
        exact .inl ⟨a, _, rfl, .inl (.inl h1), h.here S (.int _)⟩
      · exact h.elim
    · exact h.elim
  · obtain ⟨v, rfl, r⟩ := rx.one_inv
    cases r.int_inv
    exact ⟨_, rfl, h.here S (.int _)⟩
  · obtain ⟨v, rfl, r⟩ := rx.one_inv
    cases r.str_inv
    split at h
    · rename_i c
      exact ⟨_, rfl, c, h.here S (.int _)⟩
    · exact h.elim
  · obtain ⟨v, w, rfl, r1, r2⟩ := rx.two_inv
    cases r1.int_inv
    cases r2.int_inv
    split at h
    · rename_i c
      exact ⟨_, _, rfl, c, Post.tup S (.cons (.int _) (.cons (.int _) .nil)) h⟩
    · exact h.elim
  · exact h.elim
end
end Ev

set_option Elab.async false
set_option linter.all false
set_option maxRecDepth 100000
set_option maxHeartbeats 4000000
/-! Ev6: a text and a code, place by place: are they alike? -/
namespace Ev
open PySem L2

structure CK where
  N : List Str
  sc : Scope
  all : Bool
  kw : Str → Option (List (Nat × List Str × List Nat))
  nm : Str      -- the def's name
def freeB : NameKind → Bool
  | .free => true
  | _ => false
def visB (sc : Scope) (x : Str) : Bool := match sc.names.lookup x with
  | some .local => true
  | some .cell => true
  | some .free => true
  | _ => false
def locB (k : CK) (x : Str) : Bool := match k.sc.names.lookup x with
  | some .local => true
  | some .cell => k.all
  | _ => false
def gloB (sc : Scope) (x : Str) : Bool := match sc.names.lookup x with
  | some .globalImplicit => !(x == ("__debug__" : Str))
  | _ => false
def okName (x : Str) : Bool := !(x == ("__debug__" : Str)) && !(x == ("__classdict__" : Str))
def isSet : Expr → Bool
  | .Set .. => true
  | _ => false
def isSlice : Expr → Bool
  | .Slice .. => true
  | _ => false
def isStar : Expr → Bool
  | .Starred .. => true
  | _ => false
def isComp : Expr → Bool
  | .ListComp .. => true
  | .SetComp .. => true
  | .DictComp .. => true
  | _ => false
def isCall : Expr → Bool
  | .Call .. => true
  | _ => false
/-- tests that are walked by their own form -/
def isTest : Expr → Bool
  | .UnaryOp .Not _ _ => true
  | .BoolOp .. => true
  | .IfExp .. => true
  | .Compare .. => true
  | _ => false
def MI.name : MI → Str
  | .append => "append" | .pop => "pop" | .popAt => "pop" | .extend => "extend" | .index => "index"
def TM.name : TM → Str
  | .join => "join" | .partition => "partition" | .split => "split" | .upper => "upper" | .endswith => "endswith" | .startswith => "startswith"
def isTupT : Expr → Bool
  | .Tuple .. => true
  | _ => false
def clsNames : List String := ["int", "str", "bool", "tuple", "list", "dict"]

/-- targets -/
def chkG (k : CK) : CT → Expr → Bool
  | .nm i, e => match e with
    | .Name x _ => decide (k.N[i]? = some x) && locB k x
    | _ => false
  | .tp ts, e => match e with
    | .Tuple es _ _ => chkGs k ts es
    | _ => false
  | .nil, _ => false
  | .cons _ _, _ => false
where chkGs (k : CK) : CT → List Expr → Bool
  | .nil, es => match es with
    | [] => true
    | _ => false
  | .cons a r, es => match es with
    | e :: es => chkG k a e && chkGs k r es
    | [] => false
  | .nm _, _ => false
  | .tp _, _ => false

/-- the slots of a target -/
def ctSlots : CT → List Nat
  | .nm i => [i]
  | .tp ts => ctSlots ts
  | .nil => []
  | .cons a r => ctSlots a ++ ctSlots r
def chkD : CE → List (Option Expr) → Bool
  | .nil, [] => true
  | .cons (.str s) r, some (.Constant (.str t) _ _) :: es => decide (s = t) && chkD r es
  | .cons (.int s) r, some (.Constant (.int t) _ _) :: es => decide (s = t) && chkD r es
  | _, _ => false
def typeNames : List String → List Expr → Scope → Bool
  | [], [], _ => true
  | c :: cs, .Name x _ :: es, sc => decide (x = Str.ofString c) && gloB sc x && clsNames.contains c && typeNames cs es sc
  | _, _, _ => false

/-- one parameter, and no more -/
def parL : Arguments → Option Str
  | ⟨[], [⟨p, none, _⟩], none, [], [], none, []⟩ => some p
  | _ => none
def isLoc : NameKind → Bool
  | .local => true
  | _ => false
def isCellK : NameKind → Bool
  | .cell => true
  | _ => false
def outB (sc : Scope) (x : Str) : Bool := match sc.names.lookup x with
  | some .cell => true
  | some .free => true
  | _ => false
/-- a lambda's names: its parameter, captured ones, globals -/
def lamB (sc scope : Scope) (p : Str) : Bool := (match scope.kind with
    | .function => true
    | _ => false) && !scope.isCoroutine && !scope.isGenerator && (match scope.names.lookup p with
    | some .local => true
    | _ => false) && scope.names.all fun y => !isCellK y.2 && (!isLoc y.2 || decide (y.1 = p)) && (!freeB y.2 || outB sc y.1)
mutual
/-- t: is it a test? -/
def chkE : CE → Bool → CK → Expr → Bool
  | .var i, _, k, e => match e with
    | .Name x _ => decide (k.N[i]? = some x) && visB k.sc x && okName x
    | _ => false
  | .non, _, _, e => match e with
    | .Constant .none _ _ => true
    | _ => false
  | .bl b, _, _, e => match e with
    | .Constant (.bool c) _ _ => decide (b = c)
    | _ => false
  | .int i, _, _, e => match e with
    | .Constant (.int j) _ _ => decide (i = j)
    | _ => false
  | .str s, _, _, e => match e with
    | .Constant (.str t) _ _ => decide (s = t)
    | _ => false
  | .glo x, _, k, e => match e with
    | .Name y _ => decide (x = y) && gloB k.sc x
    | _ => false
  | .bin op a b, _, k, e => match e with
    | .BinOp l o r _ => decide (op = o) && chkE a false k l && chkE b false k r
    | _ => false
  | .neg a, _, k, e => match e with
    | .UnaryOp .USub x _ => chkE a false k x
    | _ => false
  | .not a, t, k, e => match e with
    | .UnaryOp .Not x _ => chkE a t k x
    | _ => false
  | .cmp op a b, _, k, e => match e with
    | .Compare l [o] [r] _ => decide (op = o) && !isSet r && chkE a false k l && chkE b false k r
    | _ => false
  | .chain op op' a b c, _, k, e => match e with
    | .Compare l [o, o'] [r, r'] _ => decide (op = o) && decide (op' = o') && !isSet r && !isSet r' && chkE a false k l && chkE b false k r && chkE c false k r'
    | _ => false
  | .and a b, t, k, e => match e with
    | .BoolOp .And (l :: r :: es) pos => chkE a t k l && (match es with
      | [] => chkE b t k r
      | _ :: _ => chkE b t k (.BoolOp .And (r :: es) pos))
    | _ => false
  | .or a b, t, k, e => match e with
    | .BoolOp .Or (l :: r :: es) pos => chkE a t k l && (match es with
      | [] => chkE b t k r
      | _ :: _ => chkE b t k (.BoolOp .Or (r :: es) pos))
    | _ => false
  | .ife c a b, t, k, e => match e with
    | .IfExp x l r _ => !t && chkE c true k x && chkE a false k l && chkE b false k r
    | _ => false
  | .tup as, _, k, e => match e with
    | .Tuple es _ _ => chkA as k es
    | _ => false
  | .lst as, _, k, e => match e with
    | .List es _ => chkA as k es
    | _ => false
  | .dct ks vs, _, k, e => match e with
    | .Dict ke ve _ => chkD ks ke && chkA vs k ve && decide (ke.length = ve.length) && !ke.isEmpty && decide (ke.length ≤ 15)
    | _ => false
  | .nil, _, _, _ => false
  | .cons _ _, _, _, _ => false
  | .sub a i, _, k, e => match e with
    | .Subscript o j _ => !isSlice j && chkE a false k o && chkE i false k j
    | _ => false
  | .no, _, _, _ => false
  | .slc a lo hi, _, k, e => match e with
    | .Subscript o (.Slice l h none _) _ => chkE a false k o && chkO lo k l && chkO hi k h
    | _ => false
  | .rev a, _, k, e => match e with
    | .Subscript o (.Slice none none (some (.UnaryOp .USub (.Constant (.int 1) _ _) _)) _) _ => chkE a false k o
    | _ => false
  | .isi a ts many, _, k, e => match e with
    | .Call (.Name f _) [x, t] [] _ => decide (f = ("isinstance" : Str)) && gloB k.sc f && chkE a false k x && (match many, t with
      | true, .Tuple es _ _ => decide (ts.length ≤ sizeLine) && typeNames ts es k.sc
      | false, t => decide (ts.length = 1) && typeNames ts [t] k.sc
      | _, _ => false)
    | _ => false
  | .call f as, _, k, e => match e with
    | .Call (.Name g _) es [] _ => decide (f = g) && gloB k.sc f && chkA as k es && (k.kw f).isSome
    | _ => false
  | .callk f n as ks kws perm, _, k, e => match e with
    | .Call (.Name g _) es ws _ => decide (f = g) && gloB k.sc f && chkA as k es && chkK kws ks k ws && decide (n = es.length) && !ws.isEmpty && (match k.kw f with | some l => decide ((n, ks, perm) ∈ l) | none => false)
    | _ => false
  | .blt f as, _, k, e => match e with
    | .Call (.Name g _) (x :: es) [] _ => decide (f.name = g) && gloB k.sc g && chkA as k (x :: es)
    | _ => false
  | .meth m o as, _, k, e => match e with
    | .Call (.Attribute x n ap) es [] cp => decide (m.name = n) && (ap.endLine == cp.line) && !isCall x && chkE o false k x && chkA as k es && decide (es.length < 30) && (match m, es with
      | .pop, [] => true
      | .pop, _ => false
      | _, [] => false
      | _, _ => true)
    | _ => false
  | .comp t it ifs elt own, _, k, e => match e with
    | .ListComp x [⟨tg, iter, tests, a⟩] sc _ => decide (a = 0) && (match own.mapM fun i => (k.N[i]?).map fun x => (x, i) with
        | some ow => blkC k.N k.sc sc ow && decide (ow.map (·.2) = own)
        | none => false) && !isSet iter && chkI it k tg iter && chkG ⟨k.N, relS sc k.sc, false, k.kw, k.nm⟩ t tg && chkTs ifs ⟨k.N, relS sc k.sc, false, k.kw, k.nm⟩ tests && chkE elt false ⟨k.N, relS sc k.sc, false, k.kw, k.nm⟩ x && (ctSlots t).all own.contains
    | _ => false
  | .iv _, _, _, _ => false
  | .irg1 _, _, _, _ => false
  | .irg2 _ _, _, _, _ => false
  | .ienum _, _, _, _ => false
  | .izip _ _, _, _, _ => false
  | .lenset a, _, k, e => match e with
    | .Call (.Name f _) [.Call (.Name g _) [x] [] _] [] _ => decide (f = ("len" : Str)) && decide (g = ("set" : Str)) && gloB k.sc f && gloB k.sc g && chkE a false k x
    | _ => false
  | .smeth m o as, _, k, e => match e with
    | .Call (.Attribute x n ap) es [] cp => decide (m.name = n) && (ap.endLine == cp.line) && !isCall x && chkE o false k x && chkA as k es && (match m, es with
      | .upper, [] => true
      | .upper, _ => false
      | _, [_] => true
      | _, _ => false)
    | _ => false
  | .fstr as, _, k, e => match e with
    | .JoinedStr es _ => chkA as k es && decide (2 ≤ es.length)
    | _ => false
  | .fmt a, _, k, e => match e with
    | .FormattedValue x c none _ => decide (c = -1) && chkE a false k x
    | _ => false
  | .minkey f i it x b, _, k, e => match e with
    | .Call (.Name g _) [y] [⟨nm, .Lambda params body scope _, _⟩] _ => decide (g = ("min" : Str)) && gloB k.sc g && decide (nm = some "key") && k.all && decide (f = k.nm) && chkE it false k y && (match parL params, k.N[x]? with
        | some p, some p' => decide (p = p') && lamB k.sc scope p && chkE b false ⟨k.N, scope, false, k.kw, k.nm⟩ body
        | _, _ => false)
    | _ => false
def chkA : CE → CK → List Expr → Bool
  | .nil, _, es => match es with
    | [] => true
    | _ => false
  | .cons a r, k, es => match es with
    | x :: es => chkE a false k x && chkA r k es
    | [] => false
  | _, _, _ => false
/-- keywords -/
def chkK : CE → List Str → CK → List Keyword → Bool
  | .nil, ks, _, ws => match ks, ws with
    | [], [] => true
    | _, _ => false
  | .cons a r, ks, k, ws => match ks, ws with
    | n :: ks, ⟨nm, x, _⟩ :: ws => decide (nm = some n) && chkE a false k x && chkK r ks k ws
    | _, _ => false
  | _, _, _, _ => false
def chkTs : CE → CK → List Expr → Bool
  | .nil, _, es => match es with
    | [] => true
    | _ => false
  | .cons a .nil, k, es => match es with
    | [x] => chkE a true k x
    | _ => false
  | _, _, _ => false
def chkO : CE → CK → Option Expr → Bool
  | .no, _, e => match e with
    | none => true
    | _ => false
  | .cons a .nil, k, e => match e with
    | some x => chkE a false k x
    | none => false
  | _, _, _ => false
def chkI : CE → CK → Expr → Expr → Bool
  | .iv e, k, _, x => chkE e false k x
  | .ienum a, k, tg, e => match e with
    | .Call (.Name f _) [x] [] _ => isTupT tg && decide (f = ("enumerate" : Str)) && gloB k.sc f && chkE a false k x
    | _ => false
  | .izip a b, k, tg, e => match e with
    | .Call (.Name f _) [x, y] [] _ => isTupT tg && decide (f = ("zip" : Str)) && gloB k.sc f && chkE a false k x && chkE b false k y
    | _ => false
  | .irg1 a, k, _, e => match e with
    | .Call (.Name f _) [x] [] _ => decide (f = ("range" : Str)) && gloB k.sc f && chkE a false k x
    | _ => false
  | .irg2 a b, k, _, e => match e with
    | .Call (.Name f _) [x, y] [] _ => decide (f = ("range" : Str)) && gloB k.sc f && chkE a false k x && chkE b false k y
    | _ => false
  | _, _, _, _ => false
end
/-! ### what hangs on a text's form alone -/
theorem star_ne {e : Expr} (h : isStar e = false) (es : List Expr) (env : PySem.Env) : starEach (e :: es) env = (false, eval e env) :: starEach es env := by
  cases e <;> first | rfl | cases h
theorem chkE_star {c : CE} {t : Bool} {k : CK} {e : Expr} (h : chkE c t k e = true) : isStar e = false := by
  cases e <;> first | rfl | (exfalso; cases c <;> simp [chkE] at h)
theorem behind_ne {op : CmpOp} {e : Expr} (h : isSet e = false) : behindInMarks op e = false := by
  cases e <;> first | rfl | cases h
theorem folded_ne {e : Expr} (h : isSet e = false) (env : PySem.Env) (x : Value) : foldedSetIterable e env x = pure x := by
  cases e <;> first | rfl | cases h
theorem plain_ix {e : Expr} (h : isSlice e = false) (ov iv : Value) : subscripted e false ov iv = operate [ov, iv] (getItem ov iv) := by
  cases e <;> first | rfl | cases h
theorem attr_ne {e : Expr} (h : isCall e = false) (f : Str) (env : PySem.Env) : attributeBase e f env (eval e env) = eval e env := by
  cases e <;> first | rfl | cases h
theorem swaps_ne {e : Expr} (h : isComp e = false) (tg : Option Expr) (l : Nat) (env : PySem.Env) : swapsWith e tg l env = pure false := by
  cases e <;> first | rfl | cases h
theorem test_ne {e : Expr} (h : isTest e = false) (env : PySem.Env) (whole : Sem Value) : isTrue e env whole = (do let v ← whole; standAt e.pos; holding [v] (truthy v)) := by
  cases e with
  | UnaryOp op x p => cases op <;> first | rfl | cases h
  | _ => first | rfl | cases h
/-- no star in a list of arguments -/
def noStar (es : List Expr) : Bool := es.all fun e => !isStar e
theorem any_star (pos : Pos) (env : PySem.Env) : ∀ {es : List Expr}, noStar es = true → (backTo pos (starEach es env)).any (·.1) = false
  | [], _ => rfl
  | e :: es, h => by
    have h2 := List.all_eq_true.mp h
    have h1 : isStar e = false := by simpa using h2 e List.mem_cons_self
    have h3 : noStar es = true := List.all_eq_true.mpr fun x hx => h2 x (List.mem_cons_of_mem _ hx)
    rw [star_ne h1]
    show (false || (backTo pos (starEach es env)).any (·.1)) = false
    rw [any_star pos env h3]; rfl
theorem all_star (pos : Pos) (env : PySem.Env) : ∀ {es : List Expr}, noStar es = true → (backTo pos (starEach es env)).all (fun x => !x.1) = true
  | [], _ => rfl
  | e :: es, h => by
    have h2 := List.all_eq_true.mp h
    have h1 : isStar e = false := by simpa using h2 e List.mem_cons_self
    have h3 : noStar es = true := List.all_eq_true.mpr fun x hx => h2 x (List.mem_cons_of_mem _ hx)
    rw [star_ne h1]
    show (true && (backTo pos (starEach es env)).all (fun x => !x.1)) = true
    rw [all_star pos env h3]; rfl
theorem chkA_star : ∀ {c : CE} {k : CK} {es : List Expr}, chkA c k es = true → noStar es = true
  | .nil, _, es, h => by
    cases es with
    | nil => rfl
    | cons _ _ => simp [chkA] at h
  | .cons a r, k, es, h => by
    cases es with
    | nil => simp [chkA] at h
    | cons x es =>
      simp only [chkA, Bool.and_eq_true] at h
      have h1 := chkE_star h.1
      have h2 := chkA_star h.2
      unfold noStar at h2 ⊢
      rw [List.all_cons, h1, h2]; rfl
  | .var _, _, _, h | .non, _, _, h | .bl _, _, _, h | .int _, _, _, h | .str _, _, _, h | .glo _, _, _, h | .bin _ _ _, _, _, h | .neg _, _, _, h | .not _, _, _, h | .cmp _ _ _, _, _, h | .chain _ _ _ _ _, _, _, h
  | .and _ _, _, _, h | .or _ _, _, _, h | .ife _ _ _, _, _, h | .tup _, _, _, h | .lst _, _, _, h | .dct _ _, _, _, h | .sub _ _, _, _, h | .no, _, _, h | .slc _ _ _, _, _, h | .rev _, _, _, h | .isi _ _ _, _, _, h
  | .call _ _, _, _, h | .callk _ _ _ _ _ _, _, _, h | .blt _ _, _, _, h | .meth _ _ _, _, _, h | .comp _ _ _ _ _, _, _, h | .iv _, _, _, h | .irg1 _, _, _, h | .irg2 _ _, _, _, h
  | .ienum _, _, _, h | .izip _ _, _, _, h | .lenset _, _, _, h | .smeth _ _ _, _, _, h | .fstr _, _, _, h | .fmt _, _, _, h | .minkey _ _ _ _ _, _, _, h => by simp [chkA] at h
end Ev

set_option Elab.async false
set_option linter.all false
set_option maxRecDepth 100000
set_option maxHeartbeats 4000000
/-! Ev7: the text's expressions do what the code says, form by form. -/
namespace Ev
open PySem L2

theorem PE.weak {X : Cx} {e : Expr} {t t' : TE} (h : PE X e t) (k : ∀ σ H Q, t' σ H Q → t σ H Q) : PE X e t' := ⟨fun pins s σ H Q I q => h.run pins s σ H Q I (k σ H Q q)⟩
theorem PT.weak {X : Cx} {e : Expr} {t t' : TT} (h : PT X e t) (k : ∀ σ H Q, t' σ H Q → t σ H Q) : PT X e t' := ⟨fun pins s σ H Q I q => h.run pins s σ H Q I (k σ H Q q)⟩
theorem PE.or {X : Cx} {e : Expr} {t t' : TE} (h : PE X e t) (h' : PE X e t') : PE X e (fun σ H Q => t σ H Q ∨ t' σ H Q) := ⟨fun pins s σ H Q I q => q.elim (h.run pins s σ H Q I) (h'.run pins s σ H Q I)⟩

/-- a reading, lifted -/
def lR {α β : Type} (X : Cx) (R : List Addr → Hp → α → β → Prop) (W : WX) (r : Env → Sto → Res α) : St → Hp → (β → Hp → Prop) → Prop := fun σ H Q =>
  ∃ ρ env M, SM X.K X.mg ρ H M ∧ RE X.K X.mg ρ H env σ ∧ Post X.K X.mg R (fun c d H' => W c d σ H') ρ H (r env M) Q
abbrev lE (X : Cx) (W : WX) (r : Env → Sto → Res PV) : TE := lR X (RV X.K X.mg) W r
abbrev lA (X : Cx) (W : WX) (r : Env → Sto → Res (List PV)) : TA := lR X (RVs X.K X.mg) W r
abbrev eqR {α : Type} : List Addr → Hp → α → α → Prop := fun _ _ a b => a = b
abbrev lB (X : Cx) (W : WX) (r : Env → Sto → Res Bool) : TT := lR X eqR W r
abbrev lO (X : Cx) (W : WX) (r : Env → Sto → Res (Option Int)) : TO := lR X eqR W r
/-- the truth of a value -/
def truR (r : Env → Sto → Res PV) : Env → Sto → Res Bool := fun env M => (r env M).bind fun x M1 => Res.of (truV M1 x) M1
abbrev lT (X : Cx) (W : WX) (r : Env → Sto → Res PV) : TT := lB X W (truR r)

section
variable {α β γ δ ε : Type} {X : Cx} {R : List Addr → Hp → α → β → Prop} {R1 : List Addr → Hp → γ → δ → Prop} {W : WX} {σ : St} {H : Hp} {Q : β → Hp → Prop}
/-- one step, then the rest -/
theorem lR.chain {r : Env → Sto → Res γ} {f : Env → γ → Sto → Res α} {Q1 : δ → Hp → Prop} (h : lR X R W (fun env M => (r env M).bind (f env)) σ H Q)
    (k : ∀ ρ env M x M1 ρ1 v H1, SM X.K X.mg ρ H M → RE X.K X.mg ρ H env σ → Ext ρ H ρ1 H1 → SM X.K X.mg ρ1 H1 M1 → RE X.K X.mg ρ1 H1 env σ → R1 ρ1 H1 x v → Post X.K X.mg R (fun c d H' => W c d σ H') ρ1 H1 (f env x M1) Q → Q1 v H1) : lR X R1 W r σ H Q1 := by
  obtain ⟨ρ, env, M, S, E, h⟩ := h
  exact ⟨ρ, env, M, S, E, h.chain fun x M1 ρ1 v H1 e1 S1 r1 h1 => k ρ env M x M1 ρ1 v H1 S E e1 S1 (E.mono S e1) r1 h1⟩
end
section
variable {α β : Type} {K : PySem.W.Frag} {mg : Str → Option Value} {R : List Addr → Hp → α → β → Prop} {W : XK} {ρ ρ1 : List Addr} {H H1 : Hp} {Q : β → Hp → Prop}
theorem Post.at {r : Res α} (h : Post K mg R W ρ H r Q) (E : Ext ρ H ρ1 H1) : Post K mg R W ρ1 H1 r Q := by
  cases r with
  | ok x M => exact fun ρ2 v H2 e2 => h ρ2 v H2 (E.trans e2)
  | exc x M => exact fun ρ2 H2 c d e2 => h ρ2 H2 c d (E.trans e2)
  | bad => exact h
/-- a value's truth, then one of two ways -/
theorem Post.test {r : Res PV} {f g : PV → Sto → Res α} {Q1 : Bool → Hp → Prop} (h : Post K mg R W ρ H (r.bind fun x M1 => match truV M1 x with | some true => f x M1 | some false => g x M1 | none => .bad) Q)
    (k : ∀ b x M1 ρ1 H1, Ext ρ H ρ1 H1 → SM K mg ρ1 H1 M1 → truV M1 x = some b → Post K mg R W ρ1 H1 (if b = true then f x M1 else g x M1) Q → Q1 b H1) :
    Post K mg eqR W ρ H (r.bind fun x M1 => Res.of (truV M1 x) M1) Q1 := by
  cases r with
  | bad => exact h
  | exc x M1 => exact h
  | ok x M1 =>
    show Post K mg eqR W ρ H (Res.of (truV M1 x) M1) Q1
    have h' : Post K mg R W ρ H (match truV M1 x with | some true => f x M1 | some false => g x M1 | none => .bad) Q := h
    cases q : truV M1 x with
    | none => rw [q] at h'; exact h'.elim
    | some b =>
      rw [q] at h'
      intro ρ1 v H1 e1 S1 r1
      cases r1
      refine k b x M1 ρ1 H1 e1 S1 q ?_
      cases b with
      | true => exact h'.at e1
      | false => exact h'.at e1
end
theorem Res.bind_assoc {α β γ : Type} (r : Res α) (f : α → Sto → Res β) (g : β → Sto → Res γ) : (r.bind f).bind g = r.bind fun x M => (f x M).bind g := by cases r <;> rfl
theorem truR_bind {α : Type} (ra : Env → Sto → Res α) (f : Env → α → Sto → Res PV) : truR (fun env M => (ra env M).bind (f env)) = fun env M => (ra env M).bind fun x M1 => (f env x M1).bind fun y M2 => Res.of (truV M2 y) M2 := by
  funext env M
  exact Res.bind_assoc _ _ _
section
variable {X : Cx} {W : WX} {a b c e : Expr} {es : List Expr} {pos p : Pos} {ra rb rc : Env → Sto → Res PV} {rs : Env → Sto → Res (List PV)}
theorem s_var {i : Nat} {x : Str} (hN : X.N[i]? = some x) (hv : Vis X.env.scope x) (hd : (x == ("__debug__" : Str)) = false) (hc : (x == ("__classdict__" : Str)) = false) :
    PE X (.Name x pos) (lE X W fun env M => match env[i]? with | some (some v) => .ok v M | _ => .bad) := by
  refine PE.weak (pe_var hN hv hd hc) fun σ H Q h => ?_
  obtain ⟨ρ, env, M, S, E, h⟩ := h
  dsimp only at h
  cases q : env[i]? with
  | none => rw [q] at h; exact h.elim
  | some o =>
    cases o with
    | none => rw [q] at h; exact h.elim
    | some v =>
      rw [q] at h
      obtain ⟨w, h1, h2⟩ := E.get q
      exact ⟨w, h1, h.here S h2⟩
theorem s_const {x : PV} {v : V} (h : PE X e (tC v)) (r : ∀ ρ H, RV X.K X.mg ρ H x v) : PE X e (lE X W fun _ M => .ok x M) := by
  refine PE.weak h fun σ H Q h => ?_
  obtain ⟨ρ, env, M, S, E, h⟩ := h
  exact h.here S (r _ _)
theorem s_bin {op : Operator} (ha : PE X a (lE X W ra)) (hb : PE X b (lE X W rb)) : PE X (.BinOp a op b pos) (lE X W fun env M => (ra env M).bind fun x M1 => (rb env M1).bind fun y M2 => binV op x y M2) := by
  refine PE.weak (pe_op (op_bin op) ha hb) fun σ H Q h => ?_
  refine lR.chain h fun ρ env M x M1 ρ1 v H1 S E e1 S1 E1 r1 h1 => ?_
  exact ⟨ρ1, env, M1, S1, E1, h1.chain fun y M2 ρ2 w H2 e2 S2 r2 h2 => binV_ok op S2 (r1.mono S1 e2) r2 h2⟩
theorem s_neg (ha : PE X a (lE X W ra)) : PE X (.UnaryOp .USub a pos) (lE X W fun env M => (ra env M).bind fun x M1 => match x with | .int i => .ok (.int (-i)) M1 | _ => .bad) := by
  refine PE.weak (pe_un un_neg ha) fun σ H Q h => ?_
  refine lR.chain h fun ρ env M x M1 ρ1 v H1 S E e1 S1 E1 r1 h1 => ?_
  cases x <;> first | exact h1.elim | skip
  cases r1.int_inv
  exact ⟨_, rfl, h1.here S1 (.int _)⟩
theorem s_not (ha : PE X a (lE X W ra)) : PE X (.UnaryOp .Not a pos) (lE X W fun env M => (ra env M).bind fun x M1 => Res.of ((truV M1 x).map fun b => .bl (!b)) M1) := by
  refine PE.weak (pe_notT ha) fun σ H Q h => ?_
  refine lR.chain h fun ρ env M x M1 ρ1 v H1 S E e1 S1 E1 r1 h1 => ?_
  cases q : truV M1 x with
  | none => rw [q] at h1; exact h1.elim
  | some k =>
    rw [q] at h1
    exact ⟨k, truV_ok S1 r1 q, h1.here S1 (.bl _)⟩
/-- a comparison's answer -/
def cmpR (op : CmpOp) (ra rb : Env → Sto → Res PV) : Env → Sto → Res PV := fun env M => (ra env M).bind fun x M1 => (rb env M1).bind fun y M2 => Res.of ((cmpV op x y M2).map .bl) M2
theorem of_cmp {K : PySem.W.Frag} {mg : Str → Option Value} {ρ : List Addr} {H : Hp} {WW : XK} {M : Sto} {Q : VK} {o : Option Bool} (S : SM K mg ρ H M) (h : PostV K mg WW ρ H (Res.of (o.map .bl) M) Q) : ∃ k, o = some k ∧ Q (.bl k) H := by
  cases o with
  | none => exact h.elim
  | some k => exact ⟨k, rfl, Post.here (x := PV.bl k) S (.bl k) h⟩
theorem s_cmp {op : CmpOp} (hu : X.A.units + 64 < cLine) (ha : PE X a (lE X W ra)) (hb : PE X b (lE X W rb)) (hs : isSet b = false) : PE X (.Compare a [op] [b] pos) (lE X W (cmpR op ra rb)) := by
  refine PE.weak (pe_cmpR (op_cmp hu op) ha hb (behind_ne hs)) fun σ H Q h => ?_
  refine lR.chain h fun ρ env M x M1 ρ1 v H1 S E e1 S1 E1 r1 h1 => ?_
  refine ⟨ρ1, env, M1, S1, E1, h1.chain fun y M2 ρ2 w H2 e2 S2 r2 h2 => ?_⟩
  obtain ⟨k, q, hk⟩ := of_cmp S2 h2
  exact cmpV_ok op S2 (r1.mono S1 e2) r2 q hk
/-- the truth of an answer that is True or False -/
theorem truR_bl {K : PySem.W.Frag} {mg : Str → Option Value} {ρ : List Addr} {H : Hp} {WW : XK} {M : Sto} {Q : Bool → Hp → Prop} {o : Option Bool} (S : SM K mg ρ H M)
    (h : Post K mg eqR WW ρ H ((Res.of (o.map PV.bl) M).bind fun x M1 => Res.of (truV M1 x) M1) Q) : ∃ k, o = some k ∧ Q k H := by
  cases o with
  | none => exact h.elim
  | some k => exact ⟨k, rfl, Post.here (x := k) (v := k) S rfl h⟩
theorem t_cmp {op : CmpOp} (hu : X.A.units + 64 < cLine) (ha : PE X a (lE X W ra)) (hb : PE X b (lE X W rb)) (hs : isSet b = false) : PT X (.Compare a [op] [b] pos) (lT X W (cmpR op ra rb)) := by
  refine PT.weak (pt_cmpR (op_cmp hu op) ha hb (behind_ne hs)) fun σ H Q h => ?_
  unfold cmpR at h
  rw [lT, truR_bind] at h
  refine lR.chain h fun ρ env M x M1 ρ1 v H1 S E e1 S1 E1 r1 h1 => ?_
  rw [Res.bind_assoc] at h1
  refine ⟨ρ1, env, M1, S1, E1, h1.chain fun y M2 ρ2 w H2 e2 S2 r2 h2 => ?_⟩
  obtain ⟨k, q, hk⟩ := truR_bl S2 h2
  exact cmpV_ok op S2 (r1.mono S1 e2) r2 q ⟨k, rfl, hk⟩
def chainR (op op' : CmpOp) (ra rb rc : Env → Sto → Res PV) : Env → Sto → Res PV := fun env M => (ra env M).bind fun x M1 => (rb env M1).bind fun y M2 => match cmpV op x y M2 with
    | some true => (rc env M2).bind fun z M3 => Res.of ((cmpV op' y z M3).map .bl) M3
    | some false => .ok (.bl false) M2
    | none => .bad
theorem last_ne {op op' : CmpOp} {b c : Expr} (h : isSet c = false) : lastMarks [op, op'] [b, c] = false := by
  show lastMarks [op'] [c] = false
  exact behind_ne h
theorem s_chain {op op' : CmpOp} (hu : X.A.units + 64 < cLine) (ha : PE X a (lE X W ra)) (hb : PE X b (lE X W rb)) (hc : PE X c (lE X W rc)) (hs : isSet c = false) :
    PE X (.Compare a [op, op'] [b, c] pos) (lE X W (chainR op op' ra rb rc)) := by
  refine PE.weak (pe_chain (op_cmp hu op) (op_cmp hu op') ha hb hc (last_ne hs)) fun σ H Q h => ?_
  refine lR.chain h fun ρ env M x M1 ρ1 v H1 S E e1 S1 E1 r1 h1 => ?_
  refine ⟨ρ1, env, M1, S1, E1, h1.chain fun y M2 ρ2 w H2 e2 S2 r2 h2 => ?_⟩
  cases q : cmpV op x y M2 with
  | none => rw [q] at h2; exact h2.elim
  | some k =>
    rw [q] at h2
    refine cmpV_ok op S2 (r1.mono S1 e2) r2 q ⟨k, rfl, ?_⟩
    cases k with
    | true =>
      rw [if_pos rfl]
      refine ⟨ρ2, env, M2, S2, E1.mono S1 e2, Post.chain h2 fun z M3 ρ3 u H3 e3 S3 r3 h3 => ?_⟩
      obtain ⟨k, q3, hk⟩ := of_cmp S3 h3
      exact cmpV_ok op' S3 (r2.mono S2 e3) r3 q3 hk
    | false =>
      rw [if_neg Bool.false_ne_true]
      exact h2.here S2 (.bl _)
theorem t_chain {op op' : CmpOp} (hu : X.A.units + 64 < cLine) (ha : PE X a (lE X W ra)) (hb : PE X b (lE X W rb)) (hc : PE X c (lE X W rc)) (hs : isSet c = false) :
    PT X (.Compare a [op, op'] [b, c] pos) (lT X W (chainR op op' ra rb rc)) := by
  refine PT.weak (pt_chain (op_cmp hu op) (op_cmp hu op') ha hb hc (last_ne hs)) fun σ H Q h => ?_
  unfold chainR at h
  rw [lT, truR_bind] at h
  refine lR.chain h fun ρ env M x M1 ρ1 v H1 S E e1 S1 E1 r1 h1 => ?_
  rw [Res.bind_assoc] at h1
  refine ⟨ρ1, env, M1, S1, E1, h1.chain fun y M2 ρ2 w H2 e2 S2 r2 h2 => ?_⟩
  cases q : cmpV op x y M2 with
  | none => rw [q] at h2; exact h2.elim
  | some k =>
    rw [q] at h2
    refine cmpV_ok op S2 (r1.mono S1 e2) r2 q ⟨k, rfl, ?_⟩
    cases k with
    | true =>
      rw [if_pos rfl]
      have h2 : Post _ _ _ _ _ _ (((rc env M2).bind fun z M3 => Res.of ((cmpV op' y z M3).map .bl) M3).bind fun y M2 => Res.of (truV M2 y) M2) _ := h2
      rw [Res.bind_assoc] at h2
      refine ⟨ρ2, env, M2, S2, E1.mono S1 e2, Post.chain h2 fun z M3 ρ3 u H3 e3 S3 r3 h3 => ?_⟩
      obtain ⟨k, q3, hk⟩ := truR_bl S3 h3
      exact cmpV_ok op' S3 (r2.mono S2 e3) r3 q3 ⟨k, rfl, hk⟩
    | false =>
      rw [if_neg Bool.false_ne_true]
      exact ⟨false, rfl, Post.here (x := false) (v := false) S2 rfl h2⟩
theorem t_val (ha : PE X a (lE X W ra)) (h : isTest a = false) : PT X a (lT X W ra) := by
  refine PT.weak (pt_truth ha (test_ne h _)) fun σ H Q h => ?_
  refine lR.chain h fun ρ env M x M1 ρ1 v H1 S E e1 S1 E1 r1 h1 => ?_
  cases q : truV M1 x with
  | none => rw [q] at h1; exact h1.elim
  | some k =>
    rw [q] at h1
    exact ⟨k, truV_ok S1 r1 q, h1.here S1 rfl⟩
def andR (ra rb : Env → Sto → Res PV) : Env → Sto → Res PV := fun env M => (ra env M).bind fun x M1 => match truV M1 x with
    | some true => rb env M1
    | some false => .ok x M1
    | none => .bad
def orR (ra rb : Env → Sto → Res PV) : Env → Sto → Res PV := fun env M => (ra env M).bind fun x M1 => match truV M1 x with
    | some true => .ok x M1
    | some false => rb env M1
    | none => .bad
theorem s_and (ha : PE X a (lE X W ra)) (hb : PE X (.BoolOp .And (b :: es) pos) (lE X W rb)) : PE X (.BoolOp .And (a :: b :: es) pos) (lE X W (andR ra rb)) := by
  refine PE.weak (pe_andT ha hb) fun σ H Q h => ?_
  refine lR.chain h fun ρ env M x M1 ρ1 v H1 S E e1 S1 E1 r1 h1 => ?_
  cases q : truV M1 x with
  | none => rw [q] at h1; exact h1.elim
  | some k =>
    rw [q] at h1
    refine ⟨k, truV_ok S1 r1 q, ?_⟩
    cases k with
    | true => exact iteT ⟨ρ1, env, M1, S1, E1, h1⟩
    | false => exact iteF (h1.here S1 r1)
theorem s_or (ha : PE X a (lE X W ra)) (hb : PE X (.BoolOp .Or (b :: es) pos) (lE X W rb)) : PE X (.BoolOp .Or (a :: b :: es) pos) (lE X W (orR ra rb)) := by
  refine PE.weak (pe_orT ha hb) fun σ H Q h => ?_
  refine lR.chain h fun ρ env M x M1 ρ1 v H1 S E e1 S1 E1 r1 h1 => ?_
  cases q : truV M1 x with
  | none => rw [q] at h1; exact h1.elim
  | some k =>
    rw [q] at h1
    refine ⟨k, truV_ok S1 r1 q, ?_⟩
    cases k with
    | true => exact iteT (h1.here S1 r1)
    | false => exact iteF ⟨ρ1, env, M1, S1, E1, h1⟩
theorem s_one {op : BoolOp} (ha : PE X a (lE X W ra)) : PE X (.BoolOp op [a] pos) (lE X W ra) := pe_one ha
/-- tests by their own form, whatever the whole is -/
theorem truR_and : truR (andR ra rb) = fun env M => (ra env M).bind fun x M1 => match truV M1 x with
    | some true => truR rb env M1
    | some false => .ok false M1
    | none => .bad := by
  funext env M
  unfold truR andR
  rw [Res.bind_assoc]
  congr 1
  funext x M1
  cases q : truV M1 x with
  | none => rfl
  | some k =>
    cases k with
    | true => rfl
    | false => show Res.of (truV M1 x) M1 = _; rw [q]; rfl
theorem truR_or : truR (orR ra rb) = fun env M => (ra env M).bind fun x M1 => match truV M1 x with
    | some true => .ok true M1
    | some false => truR rb env M1
    | none => .bad := by
  funext env M
  unfold truR orR
  rw [Res.bind_assoc]
  congr 1
  funext x M1
  cases q : truV M1 x with
  | none => rfl
  | some k =>
    cases k with
    | false => rfl
    | true => show Res.of (truV M1 x) M1 = _; rw [q]; rfl
theorem w_and (ha : PT X a (lT X W ra)) (hb : PW X (.BoolOp .And (b :: es) pos) (lT X W rb)) : PW X (.BoolOp .And (a :: b :: es) pos) (lT X W (andR ra rb)) := by
  refine ⟨fun wh pins s σ H Q I h => (pw_and ha hb).run wh pins s σ H Q I ?_⟩
  rw [lT, truR_and] at h
  obtain ⟨ρ, env, M, S, E, h⟩ := h
  refine ⟨ρ, env, M, S, E, h.test fun k x M1 ρ1 H1 e1 S1 q h1 => ?_⟩
  cases k with
  | true => exact iteT ⟨ρ1, env, M1, S1, E.mono S e1, h1⟩
  | false => exact iteF (Post.here (x := false) (v := false) S1 rfl h1)
theorem w_or (ha : PT X a (lT X W ra)) (hb : PW X (.BoolOp .Or (b :: es) pos) (lT X W rb)) : PW X (.BoolOp .Or (a :: b :: es) pos) (lT X W (orR ra rb)) := by
  refine ⟨fun wh pins s σ H Q I h => (pw_or ha hb).run wh pins s σ H Q I ?_⟩
  rw [lT, truR_or] at h
  obtain ⟨ρ, env, M, S, E, h⟩ := h
  refine ⟨ρ, env, M, S, E, h.test fun k x M1 ρ1 H1 e1 S1 q h1 => ?_⟩
  cases k with
  | true => exact iteT (Post.here (x := true) (v := true) S1 rfl h1)
  | false => exact iteF ⟨ρ1, env, M1, S1, E.mono S e1, h1⟩
theorem w_and1 (ha : PT X a (lT X W ra)) : PW X (.BoolOp .And [a] pos) (lT X W ra) := pw_and1 ha
theorem w_or1 (ha : PT X a (lT X W ra)) : PW X (.BoolOp .Or [a] pos) (lT X W ra) := pw_or1 ha
def notR (ra : Env → Sto → Res PV) : Env → Sto → Res PV := fun env M => (ra env M).bind fun x M1 => Res.of ((truV M1 x).map fun b => .bl (!b)) M1
theorem truR_not : truR (notR ra) = fun env M => (ra env M).bind fun x M1 => match truV M1 x with
    | some true => .ok false M1
    | some false => .ok true M1
    | none => .bad := by
  funext env M
  unfold truR notR
  rw [Res.bind_assoc]
  congr 1
  funext x M1
  cases q : truV M1 x with
  | none => rfl
  | some k => cases k <;> rfl
theorem t_not (ha : PT X a (lT X W ra)) : PT X (.UnaryOp .Not a pos) (lT X W (notR ra)) := by
  refine PT.weak (pt_not ha) fun σ H Q h => ?_
  rw [lT, truR_not] at h
  obtain ⟨ρ, env, M, S, E, h⟩ := h
  refine ⟨ρ, env, M, S, E, h.test fun k x M1 ρ1 H1 e1 S1 q h1 => ?_⟩
  cases k with
  | true => exact Post.here (x := false) (v := false) S1 rfl h1
  | false => exact Post.here (x := true) (v := true) S1 rfl h1
theorem s_ife (hc : PT X c (lT X W rc)) (ha : PE X a (lE X W ra)) (hb : PE X b (lE X W rb)) : PE X (.IfExp c a b pos) (lE X W fun env M => (rc env M).bind fun x M1 => match truV M1 x with
    | some true => ra env M1
    | some false => rb env M1
    | none => .bad) := by
  refine PE.weak (pe_ifExp hc ha hb) fun σ H Q h => ?_
  obtain ⟨ρ, env, M, S, E, h⟩ := h
  refine ⟨ρ, env, M, S, E, Post.test h fun k x M1 ρ1 H1 e1 S1 q h1 => ?_⟩
  cases k with
  | true => exact iteT ⟨ρ1, env, M1, S1, E.mono S e1, h1⟩
  | false => exact iteF ⟨ρ1, env, M1, S1, E.mono S e1, h1⟩
/-! ### lists of arguments, displays -/
theorem s_nil : PA X [] (lA X W fun _ M => .ok [] M) := by
  refine ⟨fun pos pins s σ H Q I h => pa_nil.run pos pins s σ H Q I ?_⟩
  obtain ⟨ρ, env, M, S, E, h⟩ := h
  exact h.here S .nil
theorem s_cons (hs : isStar a = false) (ha : PE X a (lE X W ra)) (hr : PA X es (lA X W rs)) : PA X (a :: es) (lA X W fun env M => (ra env M).bind fun x M1 => (rs env M1).bind fun xs M2 => .ok (x :: xs) M2) := by
  refine ⟨fun pos pins s σ H Q I h => (pa_cons ha hr (star_ne hs _ _)).run pos pins s σ H Q I ?_⟩
  refine lR.chain h fun ρ env M x M1 ρ1 v H1 S E e1 S1 E1 r1 h1 => ?_
  exact ⟨ρ1, env, M1, S1, E1, h1.chain fun y M2 ρ2 w H2 e2 S2 r2 h2 => h2.here S2 (.cons (r1.mono S1 e2) r2)⟩
theorem s_tup {k : Nat} (h : PA X es (lA X W rs)) : PE X (.Tuple es k pos) (lE X W fun env M => (rs env M).bind fun xs M1 => if xs.length ≤ sizeLine then .ok (.tup xs) M1 else .bad) := by
  refine PE.weak (pe_tup h) fun σ H Q h => ?_
  refine lR.chain h fun ρ env M x M1 ρ1 v H1 S E e1 S1 E1 r1 h1 => ?_
  split at h1
  · rename_i c
    exact ⟨by rw [← r1.length]; exact c, Post.tup S1 r1 h1⟩
  · exact h1.elim
theorem s_lst (h : PA X es (lA X W rs)) : PE X (.List es pos) (lE X W fun env M => (rs env M).bind fun xs M1 => if xs.length ≤ sizeLine then alloc (.lst xs) M1 else .bad) := by
  refine PE.weak (pe_lst h) fun σ H Q h => ?_
  refine lR.chain h fun ρ env M x M1 ρ1 v H1 S E e1 S1 E1 r1 h1 => ?_
  split at h1
  · rename_i c
    exact ⟨by rw [← r1.length]; exact c, Post.alloc (o := .lst _) (ho := .lst _) S1 r1 h1⟩
  · exact h1.elim
/-- an item, of a list, a tuple, a text or a dict -/
theorem ix_dict (hu : X.A.units + 1 < cLine) (ha : PE X a ta) (hb : PE X b tb) (hi : isSlice b = false) :
    PE X (.Subscript a b pos) (fun σ H Q => ta σ H fun x H1 => tb σ H1 fun y H2 => ∃ p v, x = .ref p ∧ DGet H2 p y (some v) ∧ Q v H2) := pe_dget hu ha hb (fun o i => plain_ix hi o i)
theorem s_sub (hu : X.A.units + 64 < cLine) (hi : isSlice b = false) (ha : PE X a (lE X W ra)) (hb : PE X b (lE X W rb)) :
    PE X (.Subscript a b pos) (lE X W fun env M => (ra env M).bind fun x M1 => (rb env M1).bind fun y M2 => Res.of (subV x y M2) M2) := by
  have h1 := pe_ix (X := X) (pos := pos) ix_seq ha hb (fun o i => plain_ix hi o i)
  have h2 := ix_dict (X := X) (pos := pos) (by omega : X.A.units + 1 < cLine) ha hb hi
  refine ⟨fun pins s σ H Q I h => ?_⟩
  obtain ⟨ρ, env, M, S, E, h⟩ := h
  have go : (tOp (rIx X.K) (lE X W ra) (lE X W rb)) σ H Q ∨ (lE X W ra σ H fun x H1 => lE X W rb σ H1 fun y H2 => ∃ p v, x = .ref p ∧ DGet H2 p y (some v) ∧ Q v H2) := by
    cases qa : ra env M with
    | bad => dsimp only at h; rw [qa] at h; exact h.elim
    | exc x M1 => dsimp only at h; rw [qa] at h; exact .inl ⟨ρ, env, M, S, E, by rw [qa]; exact h⟩
    | ok x M1 =>
      dsimp only at h
      rw [qa, Res.bind_ok] at h
      cases qb : rb env M1 with
      | bad => rw [qb] at h; exact h.elim
      | exc y M2 =>
        rw [qb] at h
        refine .inl ⟨ρ, env, M, S, E, ?_⟩
        rw [qa]
        intro ρ1 v H1 e1 S1 r1
        exact ⟨ρ1, env, M1, S1, E.mono S e1, by rw [qb]; exact h.at e1⟩
      | ok y M2 =>
        rw [qb, Res.bind_ok] at h
        cases qs : subV x y M2 with
        | none => rw [qs] at h; exact h.elim
        | some z =>
          rw [qs] at h
          by_cases c : isD M2 x = true
          · refine .inr ⟨ρ, env, M, S, E, ?_⟩
            rw [qa]
            intro ρ1 v H1 e1 S1 r1
            refine ⟨ρ1, env, M1, S1, E.mono S e1, ?_⟩
            rw [qb]
            intro ρ2 w H2 e2 S2 r2
            rcases subV_ok (Q := Q) S2 (r1.mono S1 e2) r2 qs (fun z' rz => h ρ2 z' H2 (e1.trans e2) S2 rz) with ⟨n, _⟩ | ⟨_, q⟩
            · rw [n] at c; cases c
            · exact q
          · refine .inl ⟨ρ, env, M, S, E, ?_⟩
            rw [qa]
            intro ρ1 v H1 e1 S1 r1
            refine ⟨ρ1, env, M1, S1, E.mono S e1, ?_⟩
            rw [qb]
            intro ρ2 w H2 e2 S2 r2
            rcases subV_ok (Q := Q) S2 (r1.mono S1 e2) r2 qs (fun z' rz => h ρ2 z' H2 (e1.trans e2) S2 rz) with ⟨_, q⟩ | ⟨n, _⟩
            · exact q
            · exact absurd n c
  exact go.elim (h1.run pins s σ H Q I) (h2.run pins s σ H Q I)

/-! ### slices -/
theorem s_no : PO X none (lO X W fun _ M => .ok none M) := by
  refine ⟨fun pins s σ H Q I h => po_none.run pins s σ H Q I ?_⟩
  obtain ⟨ρ, env, M, S, E, h⟩ := h
  exact Post.here (x := none) (v := none) S rfl h
theorem s_part (ha : PE X a (lE X W ra)) : PO X (some a) (lO X W fun env M => optI (ra env M)) := by
  refine ⟨fun pins s σ H Q I h => (po_some ha).run pins s σ H Q I ?_⟩
  refine lR.chain h fun ρ env M x M1 ρ1 v H1 S E e1 S1 E1 r1 h1 => ?_
  cases x <;> first | exact h1.elim | skip
  cases r1.int_inv
  exact ⟨_, rfl, Post.here (α := Option Int) (R := eqR) S1 rfl h1⟩
theorem s_slc {lo hi : Option Expr} {rl rh : Env → Sto → Res (Option Int)} {p2 : Pos} (ha : PE X a (lE X W ra)) (hl : PO X lo (lO X W rl)) (hh : PO X hi (lO X W rh)) :
    PE X (.Subscript a (.Slice lo hi none p2) pos) (lE X W fun env M => (ra env M).bind fun x M1 => (rl env M1).bind fun l M2 => (rh env M2).bind fun h M3 => slcV x l h M3) := by
  refine PE.weak (pe_slice sl_any ha hl hh) fun σ H Q h => ?_
  refine lR.chain h fun ρ env M x M1 ρ1 v H1 S E e1 S1 E1 r1 h1 => ?_
  refine ⟨ρ1, env, M1, S1, E1, h1.chain fun l M2 ρ2 l' H2 e2 S2 r2 h2 => ?_⟩
  refine ⟨ρ2, env, M2, S2, E1.mono S1 e2, h2.chain fun u M3 ρ3 u' H3 e3 S3 r3 h3 => ?_⟩
  cases r2; cases r3
  exact slcV_ok S3 (r1.mono S1 (e2.trans e3)) h3
theorem s_rev {k : Nat} {p1 p2 p3 : Pos} (ha : PE X a (lE X W ra)) : PE X (.Subscript a (.Slice none none (some (.UnaryOp .USub (.Constant (.int 1) k p1) p2)) p3) pos) (lE X W fun env M => (ra env M).bind fun x M1 => revV x M1) := by
  refine PE.weak (pe_revL ha) fun σ H Q h => ?_
  exact lR.chain h fun ρ env M x M1 ρ1 v H1 S E e1 S1 E1 r1 h1 => revV_ok S1 r1 h1
/-! ### built-ins -/
theorem boot_bi (f : BI) : bootBuiltins f.name = some f.val := by cases f <;> decide +kernel
theorem bi_names (f : BI) : f.name ≠ "__name__" ∧ (f.name == ("__debug__" : Str)) = false := by cases f <;> exact ⟨by decide +kernel, by decide +kernel⟩
theorem pe_bi {f : BI} {r : RC} {t : TA} (hc : CallR X f.val r) (hg : Gl X f.name) (hm : X.mg f.name = none) (ha : PA X (a :: es) t) (hs : noStar (a :: es) = true) : PE X (.Call (.Name f.name p) (a :: es) [] pos) (tCB r t) := by
  have h1 : isStar a = false := by
    have := List.all_eq_true.mp hs a List.mem_cons_self
    simpa using this
  have h2 : noStar es = true := List.all_eq_true.mpr fun x hx => List.all_eq_true.mp hs x (List.mem_cons_of_mem _ hx)
  have hb := boot_bi f
  obtain ⟨n1, n2⟩ := bi_names f
  cases f <;> first
    | exact pe_callB hc hg hm hb ha n1 n2 (star_ne h1 _ _) (any_star _ _ h2)
    | exact pe_callTy hc hg hm hb ha n1 n2 (star_ne h1 _ _) (any_star _ _ h2)
theorem s_blt {f : BI} (hc : X.calm = true) (hgd : X.A.guards = some []) (hu : X.A.units + 66 < cLine) (hg : Gl X f.name) (hm : X.mg f.name = none) (ha : PA X (a :: es) (lA X W rs)) (hs : noStar (a :: es) = true) :
    PE X (.Call (.Name f.name p) (a :: es) [] pos) (lE X W fun env M => (rs env M).bind fun xs M1 => bltV f xs M1) := by
  refine PE.weak (pe_bi (cr_blt hc hgd hu f) hg hm ha hs) fun σ H Q h => ?_
  exact lR.chain h fun ρ env M x M1 ρ1 v H1 S E e1 S1 E1 r1 h1 => bltV_ok f S1 r1 h1
end
end Ev

set_option Elab.async false
set_option linter.all false
set_option maxRecDepth 100000
set_option maxHeartbeats 4000000
/-! Ev8: dicts that are written, isinstance, methods, calls, comprehensions. -/
namespace Ev
open PySem L2
section
variable {X : Cx} {W : WX} {a b c e : Expr} {es : List Expr} {pos p : Pos} {ra rb rc : Env → Sto → Res PV} {rs : Env → Sto → Res (List PV)}
/-! ### written dicts -/
theorem RKs.put {K : PySem.W.Frag} {mg : Str → Option Value} {ρ : List Addr} {H : Hp} {kvs : List (Key × PV)} {ws : List (Key × V)} (h : RKs K mg ρ H kvs ws) {k : Key} {x : PV} {v : V} (r : RV K mg ρ H x v) : RKs K mg ρ H (putP kvs k x) (putK ws k v) := by
  have any : ∀ {kvs : List (Key × PV)} {ws : List (Key × V)}, RKs K mg ρ H kvs ws → (kvs.any fun kv => decide (kv.1 = k)) = (ws.any fun kv => decide (kv.1 = k)) := by
    intro kvs ws h
    induction h with
    | nil => rfl
    | cons a _ ih => rw [List.any_cons, List.any_cons, ih, a.1]
  unfold putP putK
  rw [any h]
  split
  · induction h with
    | nil => exact .nil
    | @cons p q ps qs a t ih =>
      rename_i c
      refine .cons ?_ (Paired.mapP ?_ fun _ _ z => z)
      · by_cases e : p.1 = k
        · have e2 : q.1 = k := a.1 ▸ e
          simp only [if_pos e, if_pos e2]
          exact ⟨a.1, r⟩
        · have e2 : ¬ q.1 = k := fun z => e (a.1.trans z)
          simp only [if_neg e, if_neg e2]
          exact a
      · clear ih c
        induction t with
        | nil => exact .nil
        | @cons p q ps qs a t ih =>
          refine .cons ?_ ih
          by_cases e : p.1 = k
          · have e2 : q.1 = k := a.1 ▸ e
            simp only [if_pos e, if_pos e2]
            exact ⟨a.1, r⟩
          · have e2 : ¬ q.1 = k := fun z => e (a.1.trans z)
            simp only [if_neg e, if_neg e2]
            exact a
  · have app : ∀ {kvs : List (Key × PV)} {ws : List (Key × V)}, RKs K mg ρ H kvs ws → RKs K mg ρ H (kvs ++ [(k, x)]) (ws ++ [(k, v)]) := by
      intro kvs ws h
      induction h with
      | nil => exact .cons ⟨rfl, r⟩ .nil
      | cons a _ ih => exact .cons a ih
    exact app h
theorem RKs.fold {K : PySem.W.Frag} {mg : Str → Option Value} {ρ : List Addr} {H : Hp} : ∀ (js : List Key) {xs : List PV} {vs : List V} {kvs : List (Key × PV)} {ws : List (Key × V)}, RVs K mg ρ H xs vs → RKs K mg ρ H kvs ws →
    RKs K mg ρ H ((js.zip xs).foldl (fun acc kv => putP acc kv.1 kv.2) kvs) ((js.zip vs).foldl (fun acc kv => putK acc kv.1 kv.2) ws)
  | [], _, _, _, _, _, h => by simpa using h
  | j :: js, _, _, _, _, .nil, h => by simpa using h
  | j :: js, _, _, _, _, .cons a b, h => by
    simp only [List.zip_cons_cons, List.foldl_cons]
    exact RKs.fold js b (h.put a)
/-- the pairs of a written dict -/
structure PD (X : Cx) (W : WX) (pos : Pos) (js : List Key) (ke : List (Option Expr)) (ve : List Expr) (rs : Env → Sto → Res (List PV)) : Prop where
  ex : ∃ trs, PPs X pos ke ve trs ∧ ∀ σ H Q, lA X W rs σ H (fun vs H' => Q ((js.zip vs).map fun kv => (kV kv.1, kv.2)) H') → tPairs trs σ H Q
theorem d_nil : PD X W pos [] [] [] (fun _ M => .ok [] M) := ⟨[], pps_nil, fun σ H Q h => by
  obtain ⟨ρ, env, M, S, E, h⟩ := h
  exact Post.here (R := RVs X.K X.mg) (v := []) S RVs.nil h⟩
theorem d_cons {j : Key} {js : List Key} {k : Expr} {ke : List (Option Expr)} (hk : PE X k (tC (kV j))) (ha : PE X a (lE X W ra)) (hr : PD X W pos js ke es rs) :
    PD X W pos (j :: js) (some k :: ke) (a :: es) (fun env M => (ra env M).bind fun x M1 => (rs env M1).bind fun xs M2 => .ok (x :: xs) M2) := by
  obtain ⟨trs, h1, h2⟩ := hr.ex
  refine ⟨_, pps_cons hk ha h1, fun σ H Q h => ?_⟩
  show lE X W ra σ H fun y H2 => tPairs trs σ H2 fun ps H3 => Q ((kV j, y) :: ps) H3
  refine lR.chain h fun ρ env M x M1 ρ1 v H1 S E e1 S1 E1 r1 h1 => ?_
  exact h2 σ H1 _ ⟨ρ1, env, M1, S1, E1, Post.chain h1 fun y M2 ρ2 w H2 e2 S2 r2 h2 => Post.here (R := RVs X.K X.mg) (v := v :: w) S2 (RVs.cons (r1.mono S1 e2) r2) h2⟩
theorem mergeK_zip (kvs : List (Key × V)) : mergeK [] kvs = kvs.foldl (fun acc kv => putK acc kv.1 kv.2) [] := rfl
theorem s_dct {js : List Key} {ke : List (Option Expr)} (hd : PD X W pos js ke es rs) (hall : ke.all (·.isSome) = true) (hl : ke.length = es.length) (h0 : ke ≠ []) (h15 : ke.length ≤ 15) (hj : js.length = ke.length) :
    PE X (.Dict ke es pos) (lE X W fun env M => (rs env M).bind fun xs M1 => if js.length = xs.length then alloc (.dct ((js.zip xs).foldl (fun acc kv => putP acc kv.1 kv.2) [])) M1 else .bad) := by
  obtain ⟨trs, h1, h2⟩ := hd.ex
  refine PE.weak (pe_disp h1 hall hl h0 h15) fun σ H Q h => ?_
  obtain ⟨ρ, env, M, S, E, h⟩ := h
  intro q hq
  have e0 : Ext ρ H ρ (upd H q (.dK [])) := Ext.upd hq
  have hn : q ∉ ρ := S.out hq
  refine h2 σ _ _ ⟨ρ, env, M, S.upd hq, E.mono S e0, ?_⟩
  dsimp only at h
  revert h
  cases rs env M with
  | bad => exact fun h => h
  | exc x M1 => exact fun h => Post.at (r := (Res.exc x M1 : Res (List PV))) (R := RVs X.K X.mg) (Q := fun _ _ => True) h e0
  | ok xs M1 =>
    intro h ρ1 vs H1 e1 S1 r1
    have h : Post X.K X.mg (RV X.K X.mg) (fun c d H' => W c d σ H') ρ H (if js.length = xs.length then alloc (.dct ((js.zip xs).foldl (fun acc kv => putP acc kv.1 kv.2) [])) M1 else .bad) Q := h
    obtain ⟨eb, ob⟩ := Ext.beside hq e1
    obtain ⟨o1, o2⟩ := ob hn
    split at h
    · rename_i c
      refine ⟨o2, js.zip vs, rfl, by rw [List.length_zip]; omega, ?_⟩
      rw [mergeK_zip]
      have r : RKs X.K X.mg ρ1 H1 ((js.zip xs).foldl (fun acc kv => putP acc kv.1 kv.2) []) ((js.zip vs).foldl (fun acc kv => putK acc kv.1 kv.2) []) := RKs.fold js r1 .nil
      have S2 := S1.side (ho := .dK ((js.zip vs).foldl (fun acc kv => putK acc kv.1 kv.2) [])) o1 o2 (fun _ z => nomatch z) (fun _ _ z => nomatch z) (fun _ z => nomatch z)
      have k2 : Kp ρ1 H1 ρ1 (upd H1 q (.dK ((js.zip vs).foldl (fun acc kv => putK acc kv.1 kv.2) []))) := Kp.side o2 (fun _ z => nomatch z) (fun _ _ z => nomatch z) (fun _ z => nomatch z)
      have r2 : RO X.K X.mg ρ1 (upd H1 q (.dK ((js.zip vs).foldl (fun acc kv => putK acc kv.1 kv.2) []))) q (.dct ((js.zip xs).foldl (fun acc kv => putP acc kv.1 kv.2) [])) (.dK ((js.zip vs).foldl (fun acc kv => putK acc kv.1 kv.2) [])) := r.kp k2
      have S3 := S2.adopt o1 upd_same r2
      exact h (ρ1 ++ [q]) (.ref q) _ ((eb.also hq).join hq) S3 (RV.new S1)
    · exact h.elim
/-! ### isinstance -/
theorem tyX_ok {K : PySem.W.Frag} {mg : Str → Option Value} {ρ : List Addr} {H : Hp} {M : Sto} (S : SM K mg ρ H M) {x : PV} {v : V} {t : String} (r : RV K mg ρ H x v) (e : tyN M x = some t) : TyX K H v (.type t) := by
  unfold tyN at e
  split at e
  · cases r.non_inv; cases e; exact .base .non
  · cases r.bl_inv; cases e; exact .base (.bl _)
  · cases r.int_inv; cases e; exact .base (.int _)
  · cases r.str_inv; cases e; exact .base (.str _)
  · obtain ⟨a, vs, rfl, h, _⟩ := r.tup_inv
    cases e
    rcases h with h | ⟨o, its, n, h1, h2, _⟩
    · rcases h with h | ⟨o, h⟩
      · exact .base (.tup h)
      · exact .fTuple h
    · exact .kTuple h1 h2
  · obtain ⟨a, vs, rfl, h, _⟩ := r.rol_inv
    cases e
    rcases h with ⟨o, h⟩ | ⟨o, its, n, h1, h2, _⟩
    · exact .base (.frz h)
    · exact .kList h1 h2
  · obtain ⟨a, rfl, hi⟩ := r.ref_inv
    split at e
    · rename_i q
      cases e
      obtain ⟨vs, h1, _⟩ := S.get hi q
      exact .base (.lst h1)
    · rename_i q
      cases e
      obtain ⟨vs, h1, _⟩ := S.getD hi q
      exact .base (.dK h1)
    · cases e
  · cases e
def tyNames : List String := ["NoneType", "bool", "int", "str", "tuple", "list", "dict"]
theorem tyN_mem {M : Sto} {x : PV} {t : String} (e : tyN M x = some t) : t ∈ tyNames := by
  unfold tyN at e
  split at e <;> (try split at e) <;> first | (cases e; decide) | cases e
theorem kit_all : ∀ t ∈ tyNames, ∀ c ∈ clsNames, kitB t c = some (tyLe t c) := by decide +kernel
theorem boot_cls : ∀ c ∈ clsNames, bootBuiltins (Str.ofString c) = some (.type c) ∧ Str.ofString c ≠ "__name__" ∧ (Str.ofString c == ("__debug__" : Str)) = false := by decide +kernel
theorem kit_any {K : PySem.W.Frag} {t : String} (ht : t ∈ tyNames) : ∀ {cs : List String}, (∀ c ∈ cs, c ∈ clsNames) → PySem.W.kitAny K (.type t) (cs.map Value.type) = some (cs.any fun c => tyLe t c)
  | [], _ => rfl
  | c :: cs, h => by
    refine kitAny_cons (kit_ty (kit_all t ht c (h c List.mem_cons_self))) (fun e => ?_) (fun e => ?_)
    · rw [List.any_cons, e, Bool.false_or]
      exact kit_any ht fun d hd => h d (List.mem_cons_of_mem _ hd)
    · rw [List.any_cons, e, Bool.true_or]
/-- the names of built-in classes, as arguments -/
theorem gl_of {X : Cx} {x : Str} (h : gloB X.env.scope x = true) : Gl X x ∧ (x == ("__debug__" : Str)) = false := by
  unfold gloB at h
  split at h
  · rename_i q
    exact ⟨q, by simpa using h⟩
  · cases h
theorem pa_types (hf : ∀ c ∈ clsNames, X.mg (Str.ofString c) = none) : ∀ {ts : List String} {es : List Expr}, typeNames ts es X.env.scope = true → (∀ c ∈ ts, c ∈ clsNames) ∧ PA X es (fun _ H Q => Q (ts.map V.ty) H)
  | [], [], _ => ⟨fun _ z => (nomatch z), pa_nil⟩
  | c :: cs, .Name x _ :: es, h => by
    unfold typeNames at h
    simp only [Bool.and_eq_true, decide_eq_true_eq] at h
    obtain ⟨⟨⟨rfl, h2⟩, h3⟩, h4⟩ := h
    obtain ⟨i1, i2⟩ := pa_types hf h4
    have hc : c ∈ clsNames := by simpa using h3
    obtain ⟨b1, b2, b3⟩ := boot_cls c hc
    refine ⟨fun d hd => ?_, pa_cons (pe_bltn (v := .ty c) (gl_of h2).1 (hf c hc) b1 rfl b2 b3) i2⟩
    rcases List.mem_cons.mp hd with rfl | hd
    · exact hc
    · exact i1 d hd
  | [], _ :: _, h => by unfold typeNames at h; cases h
  | _ :: _, [], h => by unfold typeNames at h; cases h
theorem boot_isi : bootBuiltins "isinstance" = some (.builtin "isinstance") := by decide +kernel
theorem pa_one {x : Expr} {v : V} (h : PE X x (tC v)) (hs : isStar x = false) : PA X [x] (fun _ H Q => Q [v] H) := pa_cons h pa_nil (star_ne hs _ _)
theorem s_isi1 {c : String} {x : Str} {p1 p2 : Pos} (hg : Gl X "isinstance") (hm : X.mg "isinstance" = none) (hf : ∀ c ∈ clsNames, X.mg (Str.ofString c) = none) (ha : PE X a (lE X W ra)) (hs : isStar a = false) {t : Expr} (ht : typeNames [c] [t] X.env.scope = true) :
    PE X (.Call (.Name "isinstance" p) [a, t] [] pos) (lE X W fun env M => (ra env M).bind fun x M1 => match tyN M1 x with
    | some t => .ok (.bl ([c].any fun c => tyLe t c)) M1
    | none => .bad) := by
  obtain ⟨hc, hp⟩ := pa_types hf ht
  have hst : isStar t = false := by
    cases t <;> first | rfl | (unfold typeNames at ht; cases ht)
  refine PE.weak (pe_callB call_isi hg hm boot_isi (pa_cons ha hp (star_ne hs _ _)) (by decide +kernel) (by decide +kernel) (star_ne hs _ _) (any_star _ _ (by unfold noStar; rw [List.all_cons, hst]; rfl))) fun σ H Q h => ?_
  refine lR.chain h fun ρ env M x M1 ρ1 v H1 S E e1 S1 E1 r1 h1 => ?_
  cases q : tyN M1 x with
  | none => rw [q] at h1; exact h1.elim
  | some t =>
    rw [q] at h1
    have hc' : c ∈ clsNames := hc c (by simp)
    refine ⟨v, .ty c, .type t, .type c, tyLe t c, rfl, .ty c, tyX_ok S1 r1 q, kit_ty (kit_all t (tyN_mem q) c hc'), ?_⟩
    have h2 := Post.here (x := PV.bl ([c].any fun c => tyLe t c)) S1 (.bl _) h1
    simpa using h2
theorem cls_pairs : ∀ ts : List String, Paired ClsV (ts.map V.ty) (ts.map Value.type)
  | [] => .nil
  | c :: cs => .cons (.ty c) (cls_pairs cs)
theorem s_isiT {ts : List String} {k : Nat} {p2 : Pos} {es : List Expr} (hg : Gl X "isinstance") (hm : X.mg "isinstance" = none) (hf : ∀ c ∈ clsNames, X.mg (Str.ofString c) = none) (ha : PE X a (lE X W ra)) (hs : isStar a = false) (ht : typeNames ts es X.env.scope = true) (hl : ts.length ≤ sizeLine) :
    PE X (.Call (.Name "isinstance" p) [a, .Tuple es k p2] [] pos) (lE X W fun env M => (ra env M).bind fun x M1 => match tyN M1 x with
    | some t => .ok (.bl (ts.any fun c => tyLe t c)) M1
    | none => .bad) := by
  obtain ⟨hc, hp⟩ := pa_types hf ht
  have hT : PA X [.Tuple es k p2] (tCons (tTup fun _ H Q => Q (ts.map V.ty) H) tNil) := pa_cons (pe_tup hp) pa_nil (star_ne rfl _ _)
  refine PE.weak (pe_callB call_isiT hg hm boot_isi (pa_cons ha hT (star_ne hs _ _)) (by decide +kernel) (by decide +kernel) (star_ne hs _ _) (any_star _ _ rfl)) fun σ H Q h => ?_
  refine lR.chain h fun ρ env M x M1 ρ1 v H1 S E e1 S1 E1 r1 h1 => ?_
  cases q : tyN M1 x with
  | none => rw [q] at h1; exact h1.elim
  | some t =>
    rw [q] at h1
    refine ⟨by rw [List.length_map]; exact hl, fun tp htp => ?_⟩
    have e2 : Ext ρ1 H1 ρ1 (upd H1 tp (.tup (ts.map V.ty))) := Ext.upd htp
    have S2 := S1.upd (o := .tup (ts.map V.ty)) htp
    have r2 := r1.mono S1 e2
    have pr : Paired ClsV (ts.map V.ty) (ts.map Value.type) := cls_pairs ts
    exact ⟨v, tp, ts.map V.ty, .type t, ts.map Value.type, _, rfl, upd_same, pr, tyX_ok S2 r2 q, kit_any (tyN_mem q) hc, h1 ρ1 _ _ e2 S2 (.bl _)⟩
/-! ### methods of lists -/
def MI.id : MI → String
  | .append => "list.append" | .pop => "list.pop" | .popAt => "list.pop" | .extend => "list.extend" | .index => "list.index"
def rMt (X : Cx) : MI → V → List V → Hp → VK → Prop
  | .append => rAppend
  | .pop => rPop
  | .popAt => rPopAt
  | .extend => rExtend
  | .index => rIndex X.K
theorem mt_mi (m : MI) : MtM X m.id (rMt X m) := by
  cases m with
  | append => exact mt_append
  | pop => exact mt_pop
  | popAt => exact mt_popAt
  | extend => exact mt_extend
  | index => exact mt_index
theorem findIdx_some {α : Type} {p : α → Bool} : ∀ {l : List α} {j : Nat}, l.findIdx? p = some j → ∃ z, l[j]? = some z ∧ p z = true ∧ ∀ m z', m < j → l[m]? = some z' → p z' = false
  | [], _, h => by simp at h
  | x :: l, j, h => by
    rw [List.findIdx?_cons] at h
    by_cases c : p x = true
    · rw [if_pos c] at h; cases h
      exact ⟨x, rfl, c, fun m z' hm => absurd hm (Nat.not_lt_zero _)⟩
    · rw [if_neg c] at h
      obtain ⟨k, hk, rfl⟩ := Option.map_eq_some_iff.mp h
      obtain ⟨z, h1, h2, h3⟩ := findIdx_some hk
      refine ⟨z, by simpa using h1, h2, fun m z' hm e => ?_⟩
      cases m with
      | zero => simp at e; subst e; simpa using c
      | succ m => exact h3 m z' (by omega) (by simpa using e)
theorem methV_ok {WW : XK} {ρ : List Addr} {H : Hp} {M : Sto} {Q : VK} (m : MI) {x : PV} {v : V} {xs : List PV} {vs : List V} (S : SM X.K X.mg ρ H M) (rx : RV X.K X.mg ρ H x v) (rs : RVs X.K X.mg ρ H xs vs)
    (h : PostV X.K X.mg WW ρ H (methV m x xs M) Q) : rMt X m v vs H Q := by
  unfold methV at h
  split at h
  · obtain ⟨a, rfl, hi⟩ := rx.ref_inv
    split at h
    · rename_i q
      obtain ⟨us, h1, h2⟩ := S.get hi q
      split at h
      · obtain ⟨w, rfl, r⟩ := rs.one_inv
        split at h
        · rename_i c
          refine ⟨a, us, w, rfl, rfl, h1, by rw [← h2.length]; exact c, ?_⟩
          exact h ρ .non _ (Ext.set (List.mem_of_getElem? hi)) (S.set hi (o := .lst _) (ho := .lst _) (h2.append (.cons r .nil))) .non
        · exact h.elim
      · cases rs.nil_inv
        split at h
        · rename_i y hy
          obtain ⟨w, hw, rw'⟩ := h2.get hy
          refine ⟨a, us, w, rfl, rfl, h1, by rw [← h2.length]; exact hw, ?_⟩
          have e : Ext ρ H ρ (upd H a (.lst us.dropLast)) := Ext.set (List.mem_of_getElem? hi)
          exact h ρ w _ e (S.set hi (o := .lst _) (ho := .lst _) h2.dropLast) (rw'.mono S e)
        · exact h.elim
      · obtain ⟨w, rfl, r⟩ := rs.one_inv
        cases r.int_inv
        split at h
        · rename_i c
          split at h
          · rename_i k hk
            split at h
            · rename_i y hy
              obtain ⟨w, hw, rw'⟩ := h2.get hy
              refine ⟨a, us, _, k, w, rfl, rfl, h1, c.1, c.2, by rw [← h2.length]; exact hk, hw, ?_⟩
              have e : Ext ρ H ρ (upd H a (.lst (us.eraseIdx k))) := Ext.set (List.mem_of_getElem? hi)
              exact h ρ w _ e (S.set hi (o := .lst _) (ho := .lst _) (h2.eraseIdx k)) (rw'.mono S e)
            · exact h.elim
          · exact h.elim
        · exact h.elim
      · obtain ⟨w, rfl, r⟩ := rs.one_inv
        rename_i x
        split at h
        · rename_i j hj
          unfold ixV at hj
          split at hj
          · rename_i v0 vs0 e1 e2
            split at hj
            · rename_i c
              obtain rfl := r.atom e1
              obtain rfl := RVs.atoms h2 e2
              obtain ⟨z, z1, z2, z3⟩ := findIdx_some hj
              exact ⟨a, us, w, j, z, rfl, rfl, .inl (.inl h1), c.1, c.2, z1, z2, z3, h ρ _ _ (Ext.refl _ _) S (.int _)⟩
            · cases hj
          · cases hj
        · exact h.elim
      · obtain ⟨w, rfl, r⟩ := rs.one_inv
        obtain ⟨b, rfl, hj⟩ := r.ref_inv
        split at h
        · rename_i q2
          split at h
          · rename_i c
            obtain ⟨ws, h3, h4⟩ := S.get hj q2
            refine ⟨a, b, us, ws, rfl, rfl, h1, h3, by rw [← h2.length, ← h4.length]; exact c, ?_⟩
            exact h ρ .non _ (Ext.set (List.mem_of_getElem? hi)) (S.set hi (o := .lst _) (ho := .lst _) (h2.append h4)) .non
          · exact h.elim
        · exact h.elim
      · exact h.elim
    · exact h.elim
  · exact h.elim
theorem isL_ok {K : PySem.W.Frag} {mg : Str → Option Value} {ρ : List Addr} {H : Hp} {M : Sto} {x : PV} {v : V} (S : SM K mg ρ H M) (rx : RV K mg ρ H x v) (h : isL M x = true) : tyV K "list" v H := by
  unfold isL at h
  split at h
  · obtain ⟨a, rfl, hi⟩ := rx.ref_inv
    split at h
    · rename_i q
      obtain ⟨us, h1, h2⟩ := S.get hi q
      exact .inl ⟨rfl, us, .inl (.inl h1)⟩
    · cases h
  · cases h
def lMeth (m : MI) (ra : Env → Sto → Res PV) (rs : Env → Sto → Res (List PV)) : Env → Sto → Res PV := fun env M =>
  (ra env M).bind fun x M1 => if isL M1 x = true then (rs env M1).bind fun xs M2 => methV m x xs M2 else .bad
theorem s_meth0 {apos cpos : Pos} (ha : PE X a (lE X W ra)) (hb : isCall a = false) (hl : (apos.endLine == cpos.line) = true) : PE X (.Call (.Attribute a "pop" apos) [] [] cpos) (lE X W (lMeth .pop ra fun _ M => .ok [] M)) := by
  refine PE.weak (pe_bm0 PySem.F.plainAttrs_list PySem.F.slot_list_pop PySem.F.type_list_pop (mt_mi .pop) ha (attr_ne hb _ _) hl) fun σ H Q h => ?_
  refine lR.chain h fun ρ env M x M1 ρ1 v H1 S E e1 S1 E1 r1 h1 => ?_
  split at h1
  · rename_i c
    exact ⟨isL_ok S1 r1 c, methV_ok .pop S1 r1 .nil h1⟩
  · exact h1.elim
theorem pe_mi {m : MI} {t : TA} {apos cpos : Pos} (ha : PE X a (lE X W ra)) (hp : PA X (e :: es) t) (hb : isCall a = false) (hl : (apos.endLine == cpos.line) = true) (hs : noStar (e :: es) = true) (hn : (e :: es).length < 30) (hm : m ≠ .pop) :
    PE X (.Call (.Attribute a m.name apos) (e :: es) [] cpos) (tBM X.K "list" (rMt X m) (lE X W ra) t) := by
  have h1 : isStar e = false := by
    have := List.all_eq_true.mp hs e List.mem_cons_self
    simpa using this
  have h2 : noStar es = true := List.all_eq_true.mpr fun x hx => List.all_eq_true.mp hs x (List.mem_cons_of_mem _ hx)
  have hfew : ((backTo cpos (starEach (e :: es) X.env)).all (fun x => !x.1) && (backToKw cpos (keywordEach [] X.env)).all (fun x => x.1.isSome) && decide ((e :: es).length + ([] : List Keyword).length + (if ([] : List Keyword).isEmpty then 0 else 1) < 30)) = true := by
    rw [all_star _ _ hs]
    show (true && true && decide ((e :: es).length + 0 + 0 < 30)) = true
    simpa using hn
  cases m with
  | append => exact pe_bm PySem.F.plainAttrs_list PySem.F.slot_list_append PySem.F.type_list_append (mt_mi .append) ha hp (attr_ne hb _ _) hfew hl (star_ne h1 _ _) (any_star _ _ h2)
  | pop => exact absurd rfl hm
  | popAt => exact pe_bm PySem.F.plainAttrs_list PySem.F.slot_list_pop PySem.F.type_list_pop (mt_mi .popAt) ha hp (attr_ne hb _ _) hfew hl (star_ne h1 _ _) (any_star _ _ h2)
  | index => exact pe_bm PySem.F.plainAttrs_list PySem.F.slot_list_index PySem.F.type_list_index (mt_mi .index) ha hp (attr_ne hb _ _) hfew hl (star_ne h1 _ _) (any_star _ _ h2)
  | extend => exact pe_bm PySem.F.plainAttrs_list PySem.F.slot_list_extend PySem.F.type_list_extend (mt_mi .extend) ha hp (attr_ne hb _ _) hfew hl (star_ne h1 _ _) (any_star _ _ h2)
theorem s_meth {m : MI} {apos cpos : Pos} (ha : PE X a (lE X W ra)) (hp : PA X (e :: es) (lA X W rs)) (hb : isCall a = false) (hl : (apos.endLine == cpos.line) = true) (hs : noStar (e :: es) = true) (hn : (e :: es).length < 30) (hm : m ≠ .pop) :
    PE X (.Call (.Attribute a m.name apos) (e :: es) [] cpos) (lE X W (lMeth m ra rs)) := by
  refine PE.weak (pe_mi ha hp hb hl hs hn hm) fun σ H Q h => ?_
  refine lR.chain h fun ρ env M x M1 ρ1 v H1 S E e1 S1 E1 r1 h1 => ?_
  split at h1
  · rename_i c
    exact ⟨isL_ok S1 r1 c, ρ1, env, M1, S1, E1, h1.chain fun xs M2 ρ2 vs H2 e2 S2 r2 h2 => methV_ok m S2 (r1.mono S1 e2) r2 h2⟩
  · exact h1.elim
end
end Ev

set_option Elab.async false
set_option linter.all false
set_option maxRecDepth 100000
set_option maxHeartbeats 4000000
/-! Ev9: calls of the text's own defs, comprehensions, what is walked. -/
namespace Ev
open PySem L2
/-- what is true of a def of the text: it does as the code says -/
structure CallAt (P : Program) (w : World) (K : PySem.W.Frag) (mg : Str → Option Value) (base : Heap) (d : Nat) (f : Str) (kw : List (Nat × List Str × List Nat)) (g : List PV → Sto → Res PV) (fa : Addr) (fd : FuncData) (ps : List Str) : Prop where
  at' : mg f = some (.ref fa)
  kp : PySem.W.keepIn K (.ref fa) = true
  len : ∀ xs M, g xs M ≠ .bad → xs.length = ps.length
  bd : ∀ (s : Shared) (us : List Value), us.length = ps.length → BindsTo s fd ⟨us, []⟩ (ps.zip us)
  kb : ∀ z ∈ kw, ∀ (s : Shared) (us ws : List Value), us.length = z.1 → ws.length = z.2.1.length → BindsTo s fd ⟨us, z.2.1.zip ws⟩ (ps.zip (permL z.2.2 (us ++ ws)))
  run : ∀ (A : Around) (outer : List PySem.Env) (s : Shared) (H : Hp) (args : Args) (us : List Value) (vs : List V) (xs : List PV) (ρ : List Addr) (M : Sto) (Q : VK) (E : XK), Room (3 * d) A → A.guards = some [] → Env0 P w K mg base A outer s H → BindsTo s fd args (ps.zip us) → Vals vs us →
    SM K mg ρ H M → RVs K mg ρ H xs vs → PostV K mg E ρ H (g xs M) Q → codeAny (model P w) A (.call (.ref fa) args) (CR (L2.CX P w) outer P w H s Q E) s
section
variable {X : Cx} {W : WX} {a b c e : Expr} {es : List Expr} {pos p : Pos} {ra rb rc : Env → Sto → Res PV} {rs rk : Env → Sto → Res (List PV)}
/-- the callee runs -/
theorem run_g {pins : List (Addr × Obj)} {s : Shared} {σ : St} {H : Hp} {Q : VK} {d : Nat} {f : Str} {kw : List (Nat × List Str × List Nat)} {g : List PV → Sto → Res PV} {fa : Addr} {fd : FuncData} {ps : List Str} (C : CallAt X.prog X.w X.K X.mg X.base d f kw g fa fd ps)
    (hr : Room (3 * d) X.A) (hg : X.A.guards = some []) (tk : Takes X W) (I : Inv X pins σ H s) {us zs : List Value} {kws : List (Str × Value)} {vs : List V} {xs : List PV} {ρ : List Addr} {M : Sto} (hb : BindsTo s fd ⟨us, kws⟩ (ps.zip zs)) (r : Vals vs zs) (S : SM X.K X.mg ρ H M) (rx : RVs X.K X.mg ρ H xs vs)
    (h : PostV X.K X.mg (fun c d H' => W c d σ H') ρ H (g xs M) Q) : wpAny (model X.prog X.w) X.A (call (.ref fa) us kws) (EP X pins σ Q) X.xe s := by
  refine wpAny_call (codeAny_mono (C.run X.A X.stack s H ⟨us, kws⟩ zs vs xs ρ M Q _ hr hg I.env0 hb r S rx h) fun r s' hq => ?_)
  cases r with
  | error e => exact passAt tk σ pins H s e s' I hq
  | ok fl =>
    cases fl with
    | ret u => exact I.after hq
    | next => exact False.elim hq
    | brk => exact False.elim hq
    | cont => exact False.elim hq
theorem s_call0 {d : Nat} {f : Str} {kw : List (Nat × List Str × List Nat)} {g : List PV → Sto → Res PV} {fa : Addr} {fd : FuncData} {ps : List Str} (C : CallAt X.prog X.w X.K X.mg X.base d f kw g fa fd ps) (hr : Room (3 * d) X.A) (hg : X.A.guards = some []) (tk : Takes X W) (hG : Gl X f) (hdb : (f == ("__debug__" : Str)) = false) :
    PE X (.Call (.Name f p) [] [] pos) (lE X W fun _ M => g [] M) := by
  refine ⟨fun pins s σ H Q I h => ?_⟩
  obtain ⟨ρ, env, M, S, E, h⟩ := h
  refine wpAny_Call_Name_kw (ld_glob I hG C.at' ?_ hdb)
  refine PySem.W.callWith_K0 I.kIn C.kp ?_
  have hl : ([] : List PV).length = ps.length := C.len [] M fun z => by
    have h : PostV X.K X.mg (fun c d H' => W c d σ H') ρ H (g [] M) Q := h
    rw [z] at h; exact h.elim
  exact run_g C hr hg tk I (us := []) (zs := []) (C.bd s [] hl) .nil S .nil h
theorem s_call {d : Nat} {f : Str} {kw : List (Nat × List Str × List Nat)} {g : List PV → Sto → Res PV} {fa : Addr} {fd : FuncData} {ps : List Str} (C : CallAt X.prog X.w X.K X.mg X.base d f kw g fa fd ps) (hr : Room (3 * d) X.A) (hg : X.A.guards = some []) (tk : Takes X W) (hG : Gl X f) (hdb : (f == ("__debug__" : Str)) = false)
    (ha : PA X (e :: es) (lA X W rs)) (hs : noStar (e :: es) = true) : PE X (.Call (.Name f p) (e :: es) [] pos) (lE X W fun env M => (rs env M).bind fun xs M1 => g xs M1) := by
  refine ⟨fun pins s σ H Q I h => ?_⟩
  refine wpAny_Call_Name_kw (ld_glob I hG C.at' ?_ hdb)
  have h1 : isStar e = false := by
    have := List.all_eq_true.mp hs e List.mem_cons_self
    simpa using this
  have h2 : noStar es = true := List.all_eq_true.mpr fun x hx => List.all_eq_true.mp hs x (List.mem_cons_of_mem _ hx)
  refine PySem.W.callWith_K (h₀ := X.base) I.ok.mod.kin C.kp (thn (ha.run pos pins s σ H _ I (lR.chain h fun ρ env M x M1 ρ1 v H1 S E e1 S1 E1 r1 h1 => (⟨ρ1, x, M1, S1, r1, h1⟩ : ∃ ρ1 x M1, SM X.K X.mg ρ1 H1 M1 ∧ RVs X.K X.mg ρ1 H1 x v ∧ PostV X.K X.mg (fun c d H' => W c d σ H') ρ1 H1 (g x M1) Q))) fun us s1 ⟨vs, H1, I1, r, ρ1, x, M1, S1, r1, q⟩ => ⟨I1.kIn, ?_⟩) (star_ne h1 _ _) (any_star _ _ h2)
  have hl : x.length = ps.length := C.len x M1 fun z => by rw [z] at q; exact q.elim
  have hl2 : us.length = ps.length := by rw [← r.length, ← r1.length]; exact hl
  exact run_g C hr hg tk I1 (C.bd s1 us hl2) r S1 r1 q
/-! keywords -/
abbrev lK (X : Cx) (W : WX) (r : Env → Sto → Res (List PV)) : TA := lR X (RVs X.K X.mg) W r
theorem k_nil : PK X [] (lK X W fun _ M => .ok [] M) := by
  refine ⟨fun pos pins s σ H Q I h => pk_nil.run pos pins s σ H Q I ?_⟩
  obtain ⟨ρ, env, M, S, E, h⟩ := h
  exact h.here S .nil
theorem k_cons {nm : Option Str} {kws : List Keyword} {kp : Pos} (ha : PE X a (lE X W ra)) (hr : PK X kws (lK X W rs)) : PK X (⟨nm, a, kp⟩ :: kws) (lK X W fun env M => (ra env M).bind fun x M1 => (rs env M1).bind fun xs M2 => .ok (x :: xs) M2) := by
  refine ⟨fun pos pins s σ H Q I h => (pk_cons ha hr).run pos pins s σ H Q I ?_⟩
  refine lR.chain h fun ρ env M x M1 ρ1 v H1 S E e1 S1 E1 r1 h1 => ?_
  exact ⟨ρ1, env, M1, S1, E1, h1.chain fun y M2 ρ2 w H2 e2 S2 r2 h2 => h2.here S2 (.cons (r1.mono S1 e2) r2)⟩
theorem RVs.perm {K : PySem.W.Frag} {mg : Str → Option Value} {ρ : List Addr} {H : Hp} {xs : List PV} {vs : List V} (h : RVs K mg ρ H xs vs) : ∀ p : List Nat, RVs K mg ρ H (permL p xs) (permL p vs)
  | [] => .nil
  | i :: p => by
    unfold permL
    rw [List.filterMap_cons, List.filterMap_cons]
    cases q : xs[i]? with
    | none =>
      have : vs[i]? = none := by
        rw [List.getElem?_eq_none_iff] at q ⊢
        rw [← h.length]; exact q
      rw [this]
      exact RVs.perm h p
    | some x =>
      obtain ⟨v, h1, h2⟩ := h.get q
      rw [h1]
      exact .cons h2 (RVs.perm h p)
theorem Vals.perm {xs : List V} {us : List Value} (h : Vals xs us) : ∀ p : List Nat, Vals (permL p xs) (permL p us)
  | [] => .nil
  | i :: p => by
    unfold permL
    rw [List.filterMap_cons, List.filterMap_cons]
    cases q : xs[i]? with
    | none =>
      have : us[i]? = none := h.none_of q
      rw [this]
      exact Vals.perm h p
    | some x =>
      obtain ⟨v, h1, h2⟩ := h.get q
      rw [h1]
      exact .cons h2 (Vals.perm h p)
/-- the names of keywords -/
def kwNames (ks : List Str) : List Keyword → Bool
  | [] => ks.isEmpty
  | ⟨nm, _, _⟩ :: ws => match ks with
    | k :: ks => decide (nm = some k) && kwNames ks ws
    | [] => false
theorem kw_all (pos : Pos) (env : PySem.Env) : ∀ {ks : List Str} {ws : List Keyword}, kwNames ks ws = true →
    (backToKw pos (keywordEach ws env)).all (·.1.isSome) = true ∧ (backToKw pos (keywordEach ws env)).filterMap (·.1) = ks ∧ (backToKw pos (keywordEach ws env)).any (·.1.isNone) = false
  | ks, [], h => by
    cases ks with
    | nil => exact ⟨rfl, rfl, rfl⟩
    | cons _ _ => cases h
  | [], ⟨_, _, _⟩ :: _, h => by cases h
  | k :: ks, ⟨nm, x, kp⟩ :: ws, h => by
    unfold kwNames at h
    simp only [Bool.and_eq_true, decide_eq_true_eq] at h
    obtain ⟨rfl, h⟩ := h
    obtain ⟨h1, h2, h3⟩ := kw_all pos env h
    refine ⟨?_, ?_, ?_⟩
    · show (true && (backToKw pos (keywordEach ws env)).all (·.1.isSome)) = true
      rw [h1]; rfl
    · show k :: (backToKw pos (keywordEach ws env)).filterMap (·.1) = k :: ks
      rw [h2]
    · show (false || (backToKw pos (keywordEach ws env)).any (·.1.isNone)) = false
      rw [h3]; rfl
def lCallk (g : List PV → Sto → Res PV) (n : Nat) (ks : List Str) (perm : List Nat) (rs rk : Env → Sto → Res (List PV)) : Env → Sto → Res PV := fun env M =>
  (rs env M).bind fun xs M1 => (rk env M1).bind fun ys M2 => if xs.length = n ∧ ys.length = ks.length then g (permL perm (xs ++ ys)) M2 else .bad
theorem run_k {pins : List (Addr × Obj)} {s : Shared} {σ : St} {H : Hp} {Q : VK} {d : Nat} {f : Str} {kw : List (Nat × List Str × List Nat)} {g : List PV → Sto → Res PV} {fa : Addr} {fd : FuncData} {ps : List Str} (C : CallAt X.prog X.w X.K X.mg X.base d f kw g fa fd ps)
    {n : Nat} {ks : List Str} {perm : List Nat} (hz : (n, ks, perm) ∈ kw) (hr : Room (3 * d) X.A) (hg : X.A.guards = some []) (tk : Takes X W) (I : Inv X pins σ H s) {us ws : List Value} {vs zs : List V} {xs ys : List PV} {ρ : List Addr} {M : Sto} (r : Vals vs us) (r' : Vals zs ws) (S : SM X.K X.mg ρ H M) (rx : RVs X.K X.mg ρ H xs vs) (ry : RVs X.K X.mg ρ H ys zs)
    (h : PostV X.K X.mg (fun c d H' => W c d σ H') ρ H (if xs.length = n ∧ ys.length = ks.length then g (permL perm (xs ++ ys)) M else .bad) Q) : wpAny (model X.prog X.w) X.A (call (.ref fa) us (ks.zip ws)) (EP X pins σ Q) X.xe s := by
  split at h
  · rename_i c
    have l1 : us.length = n := by rw [← r.length, ← rx.length]; exact c.1
    have l2 : ws.length = ks.length := by rw [← r'.length, ← ry.length]; exact c.2
    exact run_g C hr hg tk I (C.kb _ hz s us ws l1 l2) (Ev.Vals.perm (r.append r') perm) S ((rx.append ry).perm perm) h
  · exact h.elim
theorem s_callk0 {d : Nat} {f : Str} {kw : List (Nat × List Str × List Nat)} {g : List PV → Sto → Res PV} {fa : Addr} {fd : FuncData} {ps : List Str} (C : CallAt X.prog X.w X.K X.mg X.base d f kw g fa fd ps) {ks : List Str} {perm : List Nat} (hz : (0, ks, perm) ∈ kw) {kws : List Keyword}
    (hr : Room (3 * d) X.A) (hg : X.A.guards = some []) (tk : Takes X W) (hG : Gl X f) (hdb : (f == ("__debug__" : Str)) = false) (hk : PK X kws (lK X W rk)) (hn : kwNames ks kws = true) : PE X (.Call (.Name f p) [] kws pos) (lE X W (lCallk g 0 ks perm (fun _ M => .ok [] M) rk)) := by
  refine ⟨fun pins s σ H Q I h => ?_⟩
  obtain ⟨k1, k2, k3⟩ := kw_all pos X.env hn
  refine wpAny_Call_Name_kw (ld_glob I hG C.at' ?_ hdb)
  have h : lR X (RV X.K X.mg) W (fun env M => (rk env M).bind fun ys M2 => if ([] : List PV).length = 0 ∧ ys.length = ks.length then g (permL perm ([] ++ ys)) M2 else .bad) σ H Q := h
  refine PySem.W.callWith_KW0 (h₀ := X.base) I.ok.mod.kin C.kp k1 (thn (hk.run pos pins s σ H _ I (lR.chain h fun ρ env M x M1 ρ1 v H1 S E e1 S1 E1 r1 h1 => (⟨ρ1, x, M1, S1, r1, h1⟩ : ∃ ρ1 ys M2, SM X.K X.mg ρ1 H1 M2 ∧ RVs X.K X.mg ρ1 H1 ys v ∧ PostV X.K X.mg (fun c d H' => W c d σ H') ρ1 H1 (if ([] : List PV).length = 0 ∧ ys.length = ks.length then g (permL perm ([] ++ ys)) M2 else .bad) Q))) fun ws s1 ⟨vs, H1, I1, r, ρ1, x, M1, S1, r1, q⟩ => ⟨I1.kIn, ?_⟩) (by rw [k3]; rfl)
  rw [k2]
  exact run_k C hz hr hg tk I1 (us := []) .nil r S1 .nil r1 q
theorem s_callk {d : Nat} {f : Str} {kw : List (Nat × List Str × List Nat)} {g : List PV → Sto → Res PV} {fa : Addr} {fd : FuncData} {ps : List Str} (C : CallAt X.prog X.w X.K X.mg X.base d f kw g fa fd ps) {n : Nat} {ks : List Str} {perm : List Nat} (hz : (n, ks, perm) ∈ kw) {kws : List Keyword}
    (hr : Room (3 * d) X.A) (hg : X.A.guards = some []) (tk : Takes X W) (hG : Gl X f) (hdb : (f == ("__debug__" : Str)) = false) (ha : PA X (e :: es) (lA X W rs)) (hs : noStar (e :: es) = true) (hk : PK X kws (lK X W rk)) (hn : kwNames ks kws = true) :
    PE X (.Call (.Name f p) (e :: es) kws pos) (lE X W (lCallk g n ks perm rs rk)) := by
  refine ⟨fun pins s σ H Q I h => ?_⟩
  obtain ⟨k1, k2, k3⟩ := kw_all pos X.env hn
  have h1 : isStar e = false := by
    have := List.all_eq_true.mp hs e List.mem_cons_self
    simpa using this
  refine wpAny_Call_Name_kw (ld_glob I hG C.at' ?_ hdb)
  refine PySem.W.callWith_KW (h₀ := X.base) I.ok.mod.kin C.kp k1 (thn (ha.run pos pins s σ H _ I (lR.chain h fun ρ env M x M1 ρ1 v H1 S E e1 S1 E1 r1 h1 => (⟨ρ1, env, x, M1, S1, E1, r1, h1⟩ :
    ∃ ρ1 env xs M1, SM X.K X.mg ρ1 H1 M1 ∧ RE X.K X.mg ρ1 H1 env σ ∧ RVs X.K X.mg ρ1 H1 xs v ∧ PostV X.K X.mg (fun c d H' => W c d σ H') ρ1 H1 ((rk env M1).bind fun ys M2 => if xs.length = n ∧ ys.length = ks.length then g (permL perm (xs ++ ys)) M2 else .bad) Q))) fun us s1 ⟨vs, H1, I1, r, ρ1, env, xs, M1, S1, E1, r1, q⟩ => ?_) (by rw [k3, any_star _ _ hs]; rfl) (star_ne h1 _ _)
  refine thn (hk.run pos pins s1 σ H1 _ I1 ⟨ρ1, env, M1, S1, E1, q.chain fun y M2 ρ2 w H2 e2 S2 r2 h2 => (⟨ρ2, y, M2, S2, r1.mono S1 e2, r2, h2⟩ :
    ∃ ρ2 ys M2, SM X.K X.mg ρ2 H2 M2 ∧ RVs X.K X.mg ρ2 H2 xs vs ∧ RVs X.K X.mg ρ2 H2 ys w ∧ PostV X.K X.mg (fun c d H' => W c d σ H') ρ2 H2 (if xs.length = n ∧ ys.length = ks.length then g (permL perm (xs ++ ys)) M2 else .bad) Q)⟩) fun ws s2 ⟨zs, H2, I2, rz, ρ2, ys, M2, S2, r1', r2, q2⟩ => ⟨I2.kIn, ?_⟩
  rw [k2]
  exact run_k C hz hr hg tk I2 r rz S2 r1' r2 q2
end
end Ev

set_option Elab.async false
set_option linter.all false
set_option maxRecDepth 100000
set_option maxHeartbeats 4000000
/-! EvW: enumerate and zip over lists, tuples, texts, mixed. -/
namespace Ev
open PySem L2 PyProof.Rows

/-- what is walked beneath -/
inductive Sk where
  | lst (a : Addr)
  | tup (a : Addr)
  | txt (z : Str)
def Sk.fp : Sk → List Addr
  | .lst a => [a]
  | .tup a => [a]
  | .txt _ => []
def Sk.at' (k : Sk) (it : Addr) (i : Nat) (h : Heap) : Prop := match k with
  | .lst a => h.IsListIter it a i
  | .tup a => h.IsTupleIter it a i
  | .txt z => ∃ t, h.IsStrIter it (strIterType z) z t i
def Sk.items (K : PySem.W.Frag) (H : Hp) (k : Sk) (xs : List V) : Prop := match k with
  | .lst a => SqL K H a xs
  | .tup a => SqT K H a xs
  | .txt z => xs = z.cps.toList.map fun c => V.str ⟨#[c]⟩
/-- the value that begins it -/
def Sk.of (k : Sk) (u : Value) : Prop := match k with
  | .lst a => u = .ref a
  | .tup a => u = .ref a
  | .txt z => ∃ t, u = .str z t
theorem Sk.live {k : Sk} {it : Addr} {i : Nat} {h : Heap} (x : k.at' it i h) : ∃ o, h.get? it = some o ∧ ∀ v, o.data ≠ .cell v := by
  cases k with
  | lst a => obtain ⟨o, e, _, d⟩ := x; exact ⟨o, e, fun v q => by rw [d] at q; cases q⟩
  | tup a => obtain ⟨o, e, _, d⟩ := x; exact ⟨o, e, fun v q => by rw [d] at q; cases q⟩
  | txt z => obtain ⟨t, o, e, _, d⟩ := x; exact ⟨o, e, fun v q => by rw [d] at q; cases q⟩
theorem Sk.keep {k : Sk} {it : Addr} {i : Nat} {h h' : Heap} (x : k.at' it i h) (q : ∀ o, h.get? it = some o → h'.get? it = some o) : k.at' it i h' := by
  cases k with
  | lst a => exact Heap.IsListIter.at x fun o e => q o e
  | tup a => exact Heap.IsTupleIter.at x fun o e => q o e
  | txt z => obtain ⟨t, o, e, c, d⟩ := x; exact ⟨t, o, q o e, c, d⟩
section
variable {X : Cx} {pins : List (Addr × Obj)} {σ : L2.St} {H : Hp} {s : Shared} {k : Sk} {xs ys : List V}
theorem Sk.inj (I : Inv X pins σ H s) (h : k.items X.K H xs) (h' : k.items X.K H ys) : xs = ys := by
  cases k with
  | lst a => exact I.list_inj h h'
  | tup a => exact I.tuple_inj h h'
  | txt z => exact h.trans h'.symm
theorem Sk.draws {A : Around} (hh : A.handled = none) (I : Inv X pins σ H s) (hk : k.items X.K H xs) {it : Addr} (hne : it ∉ k.fp) {i0 : Nat} (x0 : k.at' it i0 s.heap) :
    ∃ (P : Nat → Value → Prop) (St : Nat → Heap → Prop), Draws X.prog X.w A it (it :: k.fp) xs.length P St ∧ St i0 s.heap ∧ (∀ i h, St i h → k.at' it i h) ∧ ∀ i v, P i v → ∃ x, xs[i]? = some x ∧ RelV x v := by
  cases k with
  | lst a =>
    obtain ⟨its, rv, p, _⟩ := I.list hk
    have hl : its.toArray.size = xs.length := by rw [List.size_toArray]; exact rv.length.symm
    refine ⟨fun i v => its.toArray[i]? = some v, fun i h => h.IsListIter it a i ∧ h.IsList a its.toArray, by rw [← hl]; exact Draws.list hh it a (fun e => hne (by simp [Sk.fp, e])) its.toArray, ⟨x0, p.isList⟩, fun i h q => q.1, fun i v hv => ?_⟩
    have hv : its[i]? = some v := by simpa using hv
    have hi : i < xs.length := by
      have := (List.getElem?_eq_some_iff.mp hv).1
      rw [← rv.length] at this; exact this
    obtain ⟨u, e1, e2⟩ := rv.get (List.getElem?_eq_getElem hi)
    rw [hv] at e1; cases e1
    exact ⟨_, List.getElem?_eq_getElem hi, e2⟩
  | tup a =>
    obtain ⟨its, rv, p, _⟩ := I.tuple hk
    have hl : its.toArray.size = xs.length := by rw [List.size_toArray]; exact rv.length.symm
    refine ⟨fun i v => its.toArray[i]? = some v, fun i h => h.IsTupleIter it a i ∧ h.IsTuple a its.toArray, by rw [← hl]; exact Draws.tuple hh it a (fun e => hne (by simp [Sk.fp, e])) its.toArray, ⟨x0, p⟩, fun i h q => q.1, fun i v hv => ?_⟩
    have hv : its[i]? = some v := by simpa using hv
    have hi : i < xs.length := by
      have := (List.getElem?_eq_some_iff.mp hv).1
      rw [← rv.length] at this; exact this
    obtain ⟨u, e1, e2⟩ := rv.get (List.getElem?_eq_getElem hi)
    rw [hv] at e1; cases e1
    exact ⟨_, List.getElem?_eq_getElem hi, e2⟩
  | txt z =>
    obtain ⟨t, x0⟩ := x0
    have hk : xs = z.cps.toList.map fun c => V.str ⟨#[c]⟩ := hk
    subst hk
    have hl : z.cps.size = (z.cps.toList.map fun c => V.str ⟨#[c]⟩).length := by simp
    refine ⟨fun i v => ∃ c u, z.cps[i]? = some c ∧ v = .str ⟨#[c]⟩ u, fun i h => h.IsStrIter it (strIterType z) z t i, by rw [← hl]; exact Draws.text hh it z t, x0, fun i h q => ⟨t, q⟩, fun i v hv => ?_⟩
    obtain ⟨c, u, e, rfl⟩ := hv
    exact ⟨.str ⟨#[c]⟩, by simp [e], ⟨u, rfl⟩⟩
theorem Sk.begins (I : Inv X pins σ H s) (hk : k.items X.K H xs) {u : Value} (hu : k.of u) : ∃ (o : Obj) (Hs : Heap → Prop), Begins u o Hs ∧ Hs s.heap ∧ (∀ b ∈ k.fp, b < s.heap.objs.size) ∧ ∀ it h, h.get? it = some o → k.at' it 0 h := by
  cases k with
  | lst a =>
    obtain ⟨its, rv, p, _⟩ := I.list hk
    cases hu
    exact ⟨_, _, begins_list a its.toArray, p.isList, fun b hb => (show b = a by simpa [Sk.fp] using hb) ▸ p.lt, fun it h e => ⟨_, e, rfl, rfl⟩⟩
  | tup a =>
    obtain ⟨its, rv, p, _⟩ := I.tuple hk
    cases hu
    obtain ⟨o1, ho1, _⟩ := id p
    exact ⟨_, _, begins_tuple a its.toArray, p, fun b hb => (show b = a by simpa [Sk.fp] using hb) ▸ Heap.lt_size ho1, fun it h e => ⟨_, e, rfl, rfl⟩⟩
  | txt z =>
    obtain ⟨t, rfl⟩ := hu
    exact ⟨_, _, begins_text z t, trivial, fun b hb => by simp [Sk.fp] at hb, fun it h e => ⟨t, _, e, rfl, rfl⟩⟩
/-! ### enumerate -/
/-- what is walked as it stands at each turn, each item in a new pair with its number -/
def Iye (K : PySem.W.Frag) (k : Sk) : It :=
  ⟨fun i H => ∃ (xs : List V) (x : V), k.items K H xs ∧ xs[i]? = some x, fun i H v H' => ∃ T x, v = .ref T ∧ H T = none ∧ H' = upd H T (.tup [.int (i : Nat), x]) ∧ ∀ xs, k.items K H xs → xs[i]? = some x, fun i H => ∃ xs : List V, k.items K H xs ∧ i = xs.length⟩
theorem turn_enumW {P : Program} {w : World} {K : PySem.W.Frag} {elts : List Expr} {kk : Nat} {tpos : Pos} (k : Sk) (e it : Addr) (hei : e ≠ it) (hef : e ∉ k.fp) (hif : it ∉ k.fp) :
    Turn P w K (.Tuple elts kk tpos) (Iye K k) [e, it] e (fun i h => (∃ old, IsEnum h e it ((i : Nat) : Int) old) ∧ k.at' it i h) where
  mem := by simp
  obj := fun i h st b hb => by
    obtain ⟨⟨old, he⟩, hi⟩ := st
    have e' : b = e ∨ b = it := by simpa using hb
    rcases e' with z | z
    · rw [z]; exact ⟨_, he, fun v q => nomatch q⟩
    · rw [z]; exact Sk.live hi
  keep := fun i h h' st q => let ⟨⟨old, he⟩, hi⟩ := st; ⟨⟨old, q e (by simp) _ he⟩, Sk.keep hi fun o z => q it (by simp) o z⟩
  item := by
    intro X hP hw hK hc i pins s σ H E I hf st hg
    subst hP hw hK
    obtain ⟨⟨old, he⟩, hit⟩ := st
    obtain ⟨xs, x, hq, hx⟩ := hg
    obtain ⟨Pd, Sd, D, st0, back, rel⟩ := Sk.draws (A := X.A.in1) (I.ok.hd hc) I hq hif hit
    have hel : e < s.heap.objs.size := Heap.lt_size he
    have hil : it < s.heap.objs.size := by obtain ⟨_, q, _⟩ := Sk.live hit; exact Heap.lt_size q
    have hlt : i < xs.length := (List.getElem?_eq_some_iff.mp hx).1
    have W := WalksT.enumerateD D e hei (by simp [hei, hef]) (by simp)
    refine W.item i s _ _ hlt ⟨⟨old, he⟩, st0⟩ fun T vals h' tk hP hle hT hm hk => ⟨_, rfl, W.go elts kk tpos i T { s with heap := h', toks := tk } _ _ hm fun h'' st'' hk'' => ?_⟩
    obtain ⟨t, u, hPu, rfl⟩ := hP
    obtain ⟨y, hy, ry⟩ := rel i u hPu
    rw [hx] at hy
    cases hy
    have hT2 : h''.IsTuple T #[.int i t, u] := hT.at fun o q => hk'' T o (W.apart i T h' hm) q
    have new : ObjOk X.prog X.w (upd H T (.tup [.int (i : Nat), x])) h'' T (.tup [.int (i : Nat), x]) := ⟨by show 2 ≤ sizeLine; decide, [.int i t, u], .cons ⟨_, rfl⟩ (.cons ry .nil), hT2⟩
    have I1 : Inv X pins σ (upd H T (.tup [.int (i : Nat), x])) { s with heap := h'', toks := tk } :=
      I.turnedNew (ch := [e, it]) (fun b ob hb q => hk'' b ob hb (hk b ob hb q)) hf hle new
    refine ⟨.ref T, _, I1, rfl, ⟨T, x, rfl, I.hok.fresh hle, rfl, fun ys hy => by rw [Sk.inj I hy hq]; exact hx⟩, ⟨?_, back _ _ st''.2⟩, fun b hb => ?_⟩
    · have e1 : ((i + 1 : Nat) : Int) = (i : Int) + 1 := by omega
      obtain ⟨o2, q⟩ := st''.1
      exact ⟨o2, q⟩
    · have hb' : b < s.heap.objs.size := by
        have e' : b = e ∨ b = it := by simpa using hb
        rcases e' with z | z
        · rw [z]; exact hel
        · rw [z]; exact hil
      rw [upd_ne (Nat.ne_of_lt (Nat.lt_of_lt_of_le hb' hle))]
      exact (hf b hb).1
  done := by
    intro X hP hw hK hc i pins s σ H E I hf st hg
    subst hP hw hK
    obtain ⟨⟨old, he⟩, hit⟩ := st
    obtain ⟨xs, hq, rfl⟩ := hg
    obtain ⟨Pd, Sd, D, st0, back, rel⟩ := Sk.draws (A := X.A.in1) (I.ok.hd hc) I hq hif hit
    have W := WalksT.enumerateD D e hei (by simp [hei, hef]) (by simp)
    exact W.done s _ _ ⟨⟨old, he⟩, st0⟩ fun h' tk hk => ⟨rfl, I.turnedL (t' := tk) (ch := [e, it]) hk hf⟩
  self := fun A i s Q E st h => let ⟨⟨_, he⟩, _⟩ := st; wpAny_pyIter_enum he h
/-! ### zip -/
def Iyz (K : PySem.W.Frag) (k l : Sk) : It :=
  ⟨fun i H => ∃ (xs ys : List V) (x y : V), k.items K H xs ∧ l.items K H ys ∧ xs[i]? = some x ∧ ys[i]? = some y,
    fun i H v H' => ∃ T x y, v = .ref T ∧ H T = none ∧ H' = upd H T (.tup [x, y]) ∧ (∀ xs, k.items K H xs → xs[i]? = some x) ∧ ∀ ys, l.items K H ys → ys[i]? = some y,
    fun i H => ∃ xs ys : List V, k.items K H xs ∧ l.items K H ys ∧ i = min xs.length ys.length⟩
theorem turn_zipW {P : Program} {w : World} {K : PySem.W.Frag} {elts : List Expr} {kk : Nat} {tpos : Pos} (k l : Sk) (z TI TO i1 i2 : Addr) (S : ZipSep2 z TI TO i1 i2 (i1 :: k.fp) (i2 :: l.fp)) (n1 : i1 ∉ k.fp) (n2 : i2 ∉ l.fp) :
    Turn P w K (.Tuple elts kk tpos) (Iyz K k l) [z, TI, TO, i1, i2] z (fun i h => IsZip h z TI TO .none ∧ IsTupOf2 h TI (.ref i1) (.ref i2) ∧ (∃ x y, IsTupOf2 h TO x y) ∧ k.at' i1 i h ∧ l.at' i2 i h) where
  mem := by simp
  obj := fun i h st c hc => by
    obtain ⟨hz, hTI, ⟨x, y, hTO⟩, h1, h2⟩ := st
    have e' : c = z ∨ c = TI ∨ c = TO ∨ c = i1 ∨ c = i2 := by simpa using hc
    rcases e' with q | q | q | q | q
    · rw [q]; exact ⟨_, hz, fun v q => nomatch q⟩
    · rw [q]; exact ⟨_, hTI, fun v q => nomatch q⟩
    · rw [q]; exact ⟨_, hTO, fun v q => nomatch q⟩
    · rw [q]; exact Sk.live h1
    · rw [q]; exact Sk.live h2
  keep := fun i h h' st q => by
    obtain ⟨hz, hTI, ⟨x, y, hTO⟩, h1, h2⟩ := st
    exact ⟨q z (by simp) _ hz, q TI (by simp) _ hTI, ⟨x, y, q TO (by simp) _ hTO⟩, Sk.keep h1 fun o e => q i1 (by simp) o e, Sk.keep h2 fun o e => q i2 (by simp) o e⟩
  item := by
    intro X hP hw hK hc i pins s σ H E I hf st hg
    subst hP hw hK
    obtain ⟨hz, hTI, ⟨x0, y0, hTO⟩, h1, h2⟩ := st
    obtain ⟨xs, ys, x, y, hqx, hqy, hx, hy⟩ := hg
    obtain ⟨P1, S1, D1, s1, b1, r1⟩ := Sk.draws (A := X.A.in1) (I.ok.hd hc) I hqx n1 h1
    obtain ⟨P2, S2, D2, s2, b2, r2⟩ := Sk.draws (A := X.A.in1) (I.ok.hd hc) I hqy n2 h2
    have l1 : i < xs.length := (List.getElem?_eq_some_iff.mp hx).1
    have l2 : i < ys.length := (List.getElem?_eq_some_iff.mp hy).1
    have W := WalksT.zipD2 S D1 D2
    refine W.item i s _ _ (by omega) ⟨hz, hTI, ⟨x0, y0, hTO⟩, s1, s2⟩ fun T vals h' tk hP hle hT hm hk => ⟨_, rfl, W.go elts kk tpos i T { s with heap := h', toks := tk } _ _ hm fun h'' st'' hk'' => ?_⟩
    obtain ⟨u, v, hu, hv, rfl⟩ := hP
    obtain ⟨x', hx', ru⟩ := r1 i u hu
    obtain ⟨y', hy', rv⟩ := r2 i v hv
    rw [hx] at hx'; cases hx'
    rw [hy] at hy'; cases hy'
    have hT2 : h''.IsTuple T #[u, v] := hT.at fun o q => hk'' T o (W.apart i T h' hm) q
    have new : ObjOk X.prog X.w (upd H T (.tup [x, y])) h'' T (.tup [x, y]) := ⟨by show 2 ≤ sizeLine; decide, [u, v], .cons ru (.cons rv .nil), hT2⟩
    have wr : ∀ b, b ∉ [z, TI, TO, i1, i2] → b ∉ [z, TO, i1, i2] := fun b hb q => hb (by simp only [List.mem_cons, List.mem_nil_iff, or_false] at q ⊢; rcases q with q | q | q | q <;> simp [q])
    have I1 : Inv X pins σ (upd H T (.tup [x, y])) { s with heap := h'', toks := tk } :=
      I.turnedNew (ch := [z, TI, TO, i1, i2]) (fun b ob hb q => hk'' b ob (wr b hb) (hk b ob (wr b hb) q)) hf hle new
    obtain ⟨a1, a2, ⟨c1, c2, a3⟩, a4, a5⟩ := st''
    refine ⟨.ref T, _, I1, rfl, ⟨T, x, y, rfl, I.hok.fresh hle, rfl, fun q hq => by rw [Sk.inj I hq hqx]; exact hx, fun q hq => by rw [Sk.inj I hq hqy]; exact hy⟩, ⟨a1, a2, ⟨c1, c2, a3⟩, b1 _ _ a4, b2 _ _ a5⟩, fun b hb => ?_⟩
    have hlt : b < s.heap.objs.size := by
      have e' : b = z ∨ b = TI ∨ b = TO ∨ b = i1 ∨ b = i2 := by simpa using hb
      rcases e' with q | q | q | q | q
      · rw [q]; exact Heap.lt_size hz
      · rw [q]; exact Heap.lt_size hTI
      · rw [q]; exact Heap.lt_size hTO
      · rw [q]; obtain ⟨_, e1, _⟩ := Sk.live h1; exact Heap.lt_size e1
      · rw [q]; obtain ⟨_, e1, _⟩ := Sk.live h2; exact Heap.lt_size e1
    rw [upd_ne (Nat.ne_of_lt (Nat.lt_of_lt_of_le hlt hle))]
    exact (hf b hb).1
  done := by
    intro X hP hw hK hc i pins s σ H E I hf st hg
    subst hP hw hK
    obtain ⟨hz, hTI, ⟨x0, y0, hTO⟩, h1, h2⟩ := st
    obtain ⟨xs, ys, hqx, hqy, rfl⟩ := hg
    obtain ⟨P1, S1, D1, s1, b1, r1⟩ := Sk.draws (A := X.A.in1) (I.ok.hd hc) I hqx n1 h1
    obtain ⟨P2, S2, D2, s2, b2, r2⟩ := Sk.draws (A := X.A.in1) (I.ok.hd hc) I hqy n2 h2
    have W := WalksT.zipD2 S D1 D2
    have wr : ∀ b, b ∉ [z, TI, TO, i1, i2] → b ∉ [z, TO, i1, i2] := fun b hb q => hb (by simp only [List.mem_cons, List.mem_nil_iff, or_false] at q ⊢; rcases q with q | q | q | q <;> simp [q])
    exact W.done s _ _ ⟨hz, hTI, ⟨x0, y0, hTO⟩, s1, s2⟩ fun h' tk hk => ⟨rfl, I.turnedL (t' := tk) (ch := [z, TI, TO, i1, i2]) (fun b o hb q => hk b o (wr b hb) q) hf⟩
  self := fun A i s Q E st h => wpAny_pyIter_zip st.1 h
end
/-! ### how they begin -/
set_option maxHeartbeats 1000000 in
theorem meets_enum1 {v : Value} {o : Obj} {H : Heap → Prop} (B : Begins v o H) :
    Meets (Builtin.«enumerate.__new__» ⟨[.type "enumerate", v], []⟩) (fun _ R s => H s.heap ∧
      R (.ok (.ret (.ref (s.heap.push o).objs.size))) { s with heap := (s.heap.push o).push { cls := .type "enumerate", data := .fields #[.none, .bool false, .ref s.heap.objs.size, rawInt 0, .none, .none] } }) :=
  .of_wp fun prog w A R s h => by
    obtain ⟨hp, g, d, tk, os⟩ := s; obtain ⟨h1, h⟩ := h
    have hsub := sub_enumerate
    have q1 : ∀ {A' : Around} {E : Value → Shared → Prop} {Q : Value → Shared → Prop}, Q (.ref hp.objs.size) ⟨hp.push o, g, d, tk, os⟩ → wpAny (model prog w) A' (pyIter v) Q E ⟨hp, g, d, tk, os⟩ :=
      fun q => B.iter prog w _ _ ⟨hp, g, d, tk, os⟩ _ h1 q
    wp_walk using q1
    refine wpAny_stack_any fun st => wpAny_pure ?_
    split
    · rename_i c _ _ _ _ _
      cases (c == Value.type "enumerate")
      · wp_walk using q1
        exact ⟨_, rfl, h⟩
      · wp_walk using q1
        exact ⟨_, rfl, h⟩
    · wp_walk using q1
      exact ⟨_, rfl, h⟩
section
variable {prog : Program} {w : World} {A : Around} {E : Value → Shared → Prop} {s : Shared}
theorem enum_begin1 {v : Value} {o : Obj} {H : Heap → Prop} {Q : Value → Shared → Prop} (B : Begins v o H) (h1 : H s.heap)
    (h : ∀ h', IsEnum h' (s.heap.objs.size + 1) s.heap.objs.size 0 .none → h'.get? s.heap.objs.size = some o → h'.objs.size = s.heap.objs.size + 2 →
      (∀ b o, s.heap.get? b = some o → h'.get? b = some o) → Q (.ref (s.heap.objs.size + 1)) { s with heap := h' }) :
    wpAny (model prog w) A (call (.type "enumerate") [v]) Q E s := by
  refine callType_new F.called_enumerate (by decide) (F.typeCall_enumerate_1 _) (F.newCall_enumerate_1 _) (fun obj => F.args_object_init_2 obj _) F.entry_enumerate_new
    (meets_enum1 B) ⟨h1, ?_⟩
  have hz : (s.heap.push o).objs.size = s.heap.objs.size + 1 := Heap.size_push ..
  show _ ∧ _
  rw [hz]
  have he : IsEnum ((s.heap.push o).push { cls := .type "enumerate", data := .fields #[.none, .bool false, .ref s.heap.objs.size, rawInt 0, .none, .none] }) (s.heap.objs.size + 1) s.heap.objs.size 0 .none := by
    have := Heap.get?_push_size (s.heap.push o) (o := { cls := .type "enumerate", data := .fields #[.none, .bool false, .ref s.heap.objs.size, rawInt 0, .none, .none] }) rfl
    rw [hz] at this; exact this
  refine ⟨⟨_, he, rfl⟩, h _ he (Heap.get?_push_of_some _ (Heap.get?_push_size _ B.free)) (by rw [Heap.size_push, hz]) fun b o x => Heap.get?_push_of_some _ (Heap.get?_push_of_some _ x)⟩
end
/-- the key of a value that is walked -/
def SkV (k : Sk) (v : V) : Prop := match k with
  | .lst a => v = .ref a
  | .tup a => v = .ref a
  | .txt z => v = .str z
theorem SkV.of {k : Sk} {v : V} {u : Value} (h : SkV k v) (r : RelV v u) : k.of u := by
  cases k with
  | lst a => cases h; cases r; rfl
  | tup a => cases h; cases r; rfl
  | txt z => cases h; exact r
section
variable {X : Cx} {e e2 : Expr} {ta : TA} {p pos tpos : Pos} {elts : List Expr} {kk : Nat}
theorem pi_enumW (hg : Gl X "enumerate") (hm : X.mg "enumerate" = none) (ha : PA X [e] ta) (hs : starEach [e] X.env = [(false, eval e X.env)]) :
    PI X (.Tuple elts kk tpos) (.Call (.Name "enumerate" p) [e] [] pos) (fun σ H R => ta σ H fun vs H1 => ∃ v k xs, vs = [v] ∧ SkV k v ∧ k.items X.K H1 xs ∧ R (Iye X.K k) H1) := by
  refine ⟨fun pins s σ H R I h => ?_⟩
  refine Call_ (ld_blt I hg hm boot_enumerate (PyProof.Rows.callWith_type1 (thn (ha.run pos pins s σ H _ I h) fun us s1 ⟨vs, H1, I1, r1, q1⟩ => ?_) hs rfl))
  obtain ⟨v, k, xs, ex, hv, hq, q⟩ := q1
  subst ex
  cases r1 with
  | cons r rr =>
    cases rr
    obtain ⟨o, Hs, B, b1, b2, b3⟩ := Sk.begins I1 hq (hv.of r)
    refine enum_begin1 B b1 fun h' he hit hsz hk => wpAny_pyIter_enum he ?_
    have I2 : Inv X pins σ H1 { s1 with heap := h' } := I1.kept (t' := s1.toks) hk
    have f1 : s1.heap.objs.size ∉ k.fp := fun z => Nat.lt_irrefl _ (b2 _ z)
    have f2 : s1.heap.objs.size + 1 ∉ k.fp := fun z => absurd (b2 _ z) (Nat.not_lt.mpr (Nat.le_add_right _ _))
    refine ⟨s1.heap.objs.size + 1, [s1.heap.objs.size + 1, s1.heap.objs.size], _, _, H1, rfl, I2, turn_enumW k (s1.heap.objs.size + 1) s1.heap.objs.size (Nat.succ_ne_self _) f2 f1, ⟨⟨.none, he⟩, b3 _ _ hit⟩, fun b hb => ?_, q⟩
    have e' : b = s1.heap.objs.size + 1 ∨ b = s1.heap.objs.size := by simpa using hb
    have hle : s1.heap.objs.size ≤ b := by
      rcases e' with z | z
      · rw [z]; exact Nat.le_add_right _ _
      · rw [z]; exact Nat.le_refl _
    exact I1.fpOk hle (I1.hok.fresh hle)
theorem pi_zipW (hg : Gl X "zip") (hm : X.mg "zip" = none) (ha : PA X [e, e2] ta) (hs : starEach [e, e2] X.env = (false, eval e X.env) :: starEach [e2] X.env) (hpl : (backTo pos (starEach [e2] X.env)).any (·.1) = false) :
    PI X (.Tuple elts kk tpos) (.Call (.Name "zip" p) [e, e2] [] pos) (fun σ H R => ta σ H fun vs H1 => ∃ v w k l xs ys, vs = [v, w] ∧ SkV k v ∧ SkV l w ∧ k.items X.K H1 xs ∧ l.items X.K H1 ys ∧ R (Iyz X.K k l) H1) := by
  refine ⟨fun pins s σ H R I h => ?_⟩
  refine Call_ (ld_blt I hg hm PyProof.Rows.boot_zip (PyProof.Rows.callWith_type1 (thn (ha.run pos pins s σ H _ I h) fun us s1 ⟨vs, H1, I1, r1, q1⟩ => ?_) hs hpl))
  obtain ⟨v, w, k, l, xs, ys, ex, hv, hw, hqx, hqy, q⟩ := q1
  subst ex
  cases r1 with
  | cons r rr =>
    cases rr with
    | cons r' rr =>
      cases rr
      obtain ⟨o, Hs, B, b1, b2, b3⟩ := Sk.begins I1 hqx (hv.of r)
      obtain ⟨o', Hs', B', c1, c2, c3⟩ := Sk.begins I1 hqy (hw.of r')
      refine zip_begins2 B B' b1 c1 fun h' hz hTI hTO g1 g2 hsz hk => wpAny_pyIter_zip hz ?_
      have I2 : Inv X pins σ H1 { s1 with heap := h' } := I1.kept (t' := s1.toks) hk
      refine ⟨s1.heap.objs.size + 4, [s1.heap.objs.size + 4, s1.heap.objs.size + 2, s1.heap.objs.size + 3, s1.heap.objs.size, s1.heap.objs.size + 1], _, _, H1, rfl, I2,
        turn_zipW k l _ _ _ _ _ (zip_sep2 b2 c2) (fun z => Nat.lt_irrefl _ (b2 _ z)) (fun z => absurd (c2 _ z) (Nat.not_lt.mpr (Nat.le_add_right _ _))), ⟨hz, hTI, ⟨_, _, hTO⟩, b3 _ _ g1, c3 _ _ g2⟩, fun c hcm => ?_, q⟩
      have e' : c = s1.heap.objs.size + 4 ∨ c = s1.heap.objs.size + 2 ∨ c = s1.heap.objs.size + 3 ∨ c = s1.heap.objs.size ∨ c = s1.heap.objs.size + 1 := by simpa using hcm
      have hle : s1.heap.objs.size ≤ c := by
        rcases e' with z | z | z | z | z
        · rw [z]; exact Nat.le_add_right _ _
        · rw [z]; exact Nat.le_add_right _ _
        · rw [z]; exact Nat.le_add_right _ _
        · rw [z]; exact Nat.le_refl _
        · rw [z]; exact Nat.le_add_right _ _
      exact I1.fpOk hle (I1.hok.fresh hle)
end
end Ev

set_option Elab.async false
set_option linter.all false
set_option maxRecDepth 100000
set_option maxHeartbeats 4000000
/-! EvL: len(set(xs)), xs a list or tuple of numbers and texts (printed by genL.py). -/
namespace Ev
open PySem L2 PyProof.Rows

theorem memB_app (k j : Key) (l : List Key) : memB k (l ++ [j]) = (memB k l || decide (j = k)) := by simp [memB]
theorem uniq_app (ks : List Key) (k : Key) : uniq (ks ++ [k]) = if memB k (uniq ks) = true then uniq ks else uniq ks ++ [k] := by
  unfold uniq
  rw [List.foldl_append]
  rfl
theorem uniq_len : ∀ (ks acc : List Key), (ks.foldl (fun acc k => if memB k acc = true then acc else acc ++ [k]) acc).length ≤ acc.length + ks.length
  | [], acc => Nat.le_refl _
  | k :: ks, acc => by
    rw [List.foldl_cons]
    have := uniq_len ks (if memB k acc = true then acc else acc ++ [k])
    have h2 : (if memB k acc = true then acc else acc ++ [k]).length ≤ acc.length + 1 := by split <;> simp
    simp only [List.length_cons]
    omega
theorem setOf_congr {prog : Program} {w : World} {h : Heap} {a : Addr} {S S' : Key → Bool} {n n' : Nat} (hS : h.SetOf (mixKind prog w) a S n) (e : ∀ k, S k = S' k) (en : n = n') : h.SetOf (mixKind prog w) a S' n' := by
  have : S = S' := funext e
  subst this; subst en; exact hS
theorem key_scan' {k : Key} {v : Value} (h : keyIs k v = true) : v.scannable = true := by
  rcases keyIs_shape h with ⟨i, t, rfl, rfl⟩ | ⟨x, t, rfl, rfl⟩ <;> rfl
section
variable {prog : Program} {w : World} {A : Around} {R : Result → Shared → Prop} {I : Addr} {fp wr : List Addr} {G : Array GenState → Array GenState → Prop} {n : Nat} {P : Nat → Value → Prop} {Sd : Nat → Shared → Prop}
theorem loopK (W : WalksS prog w A.in1 I fp wr G n P Sd) (S : Addr) (hSf : S ∉ fp) (ks : List Key) (hsz : ks.length = n) (hn1 : n + 1 < scanBound)
    (hval : ∀ i v, P i v → ∃ k, ks[i]? = some k ∧ keyIs k v = true) :
    ∀ (m i : Nat) (s : Shared), n - i = m → i ≤ n → Sd i s →
      s.heap.SetOf (mixKind prog w) S (fun k' => memB k' (uniq (ks.take i))) (uniq (ks.take i)).length →
      (∀ s', Moved (S :: wr) G s s' → s'.heap.SetOf (mixKind prog w) S (fun k' => memB k' (uniq ks)) (uniq ks).length → R (.ok (.ret .none)) s') →
      codeAny (model prog w) A (.builtin "set.update.loop" ⟨[.ref S, .ref I], []⟩) R s := by
  have hSw : S ∉ wr := fun h => hSf (W.sub _ h)
  have hsub : ∀ b ∈ wr, b ∈ S :: wr := fun b hb => List.mem_cons_of_mem _ hb
  intro m
  induction m with
  | zero =>
    intro i s hk hi hst hS hR
    have hin : i = n := by omega
    subst hin
    refine codeAny_builtin PyProof.Rows.F.entry_set_update_loop ?_
    rw [Around.under_plainId PyProof.Rows.F.plain_set_update_loop _]
    show wpAny _ A.in1 (pyNext (.ref I) >>= _) _ _ s
    refine wpAny_bind (W.done s _ _ hst fun s' hm => ?_)
    show wpAny _ A.in1 (ret Value.none) _ _ s'
    rw [← hsz, List.take_length] at hS
    exact wpAny_pure (hR s' (hm.mono hsub) (by
      obtain ⟨o, es, ep, t, ho, rest⟩ := hS
      exact ⟨o, es, ep, t, hm.heap S _ hSw ho, rest⟩))
  | succ m ih =>
    intro i s hk hi hst hS hR
    have hlt : i < n := by omega
    refine codeAny_builtin PyProof.Rows.F.entry_set_update_loop ?_
    rw [Around.under_plainId PyProof.Rows.F.plain_set_update_loop _]
    show wpAny _ A.in1 (pyNext (.ref I) >>= _) _ _ s
    refine wpAny_bind (W.item i s _ _ hlt hst fun v s' hP hst' hm => ?_)
    obtain ⟨k, hk1, hk2⟩ := hval i v hP
    have hS' : s'.heap.SetOf (mixKind prog w) S (fun k' => memB k' (uniq (ks.take i))) (uniq (ks.take i)).length := by
      obtain ⟨o, es, ep, tb, ho, rest⟩ := hS
      exact ⟨o, es, ep, tb, hm.heap S _ hSw ho, rest⟩
    have hul : (uniq (ks.take i)).length ≤ i := by
      have := uniq_len (ks.take i) []
      simp at this
      unfold uniq
      omega
    have htk : ks.take (i + 1) = ks.take i ++ [k] := by
      rw [List.take_succ, hk1]; rfl
    show wpAny _ A.in1 (holding [v] (setAdd S v) >>= _) _ _ s'
    refine wpAny_bind (wpAny_holding ?_)
    unfold setAdd
    refine wpAny_holding ?_
    refine wpAny_bind ((mixKind prog w).pyHash (k := k) hk2 ?_)
    refine wpAny_setAddHashed_of (knd := mixKind prog w) (s := { s' with toks := s'.toks + 1 }) hk2 (key_scan' hk2) hS' (by omega) fun h' hsb hS2 => ?_
    have hSi : h'.SetOf (mixKind prog w) S (fun k' => memB k' (uniq (ks.take (i + 1)))) (uniq (ks.take (i + 1))).length := by
      refine setOf_congr hS2 (fun k' => ?_) ?_
      · rw [htk, uniq_app]
        by_cases e : memB k (uniq (ks.take i)) = true
        · rw [if_pos e]
          by_cases e2 : k' = k
          · subst e2; simp [e]
          · simp [e2]
        · rw [if_neg e, memB_app]
          congr 1
          exact decide_eq_decide.mpr ⟨fun q => q.symm, fun q => q.symm⟩
      · rw [htk, uniq_app]
        by_cases e : memB k (uniq (ks.take i)) = true
        · simp [e]
        · simp [e]
    refine wpAny_pure ⟨plainId_quiet PyProof.Rows.F.plain_set_update_loop _, ih (i + 1) _ (by omega) hlt (W.frame _ s' _ _ hst' (Nat.le_succ _) fun b hb o e => ?_) hSi fun s'' hm'' hS'' => ?_⟩
    · rw [hsb.2 b (fun h : b = S => hSf (by rw [← h]; exact hb))]; exact e
    · refine hR s'' (Moved.trans W.gtrans ((hm.mono hsub).then_heap (Nat.le_succ _) fun b o hb e => ?_) hm'') hS''
      rw [hsb.2 b (fun h : b = S => hb (by rw [h]; exact List.mem_cons_self))]; exact e
end
/-- items and keys -/
def KeysAre (its : List Value) (ks : List Key) : Prop := Paired (fun (v : Value) (k : Key) => keyIs k v = true) its ks
theorem KeysAre.at' {its : List Value} {ks : List Key} (h : KeysAre its ks) : ∀ {i : Nat} {v : Value}, its[i]? = some v → ∃ k, ks[i]? = some k ∧ keyIs k v = true := by
  induction h with
  | nil => intro i v e; simp at e
  | cons a r ih =>
    intro i v e
    cases i with
    | zero => simp at e; subst e; exact ⟨_, rfl, a⟩
    | succ i => simpa using ih (by simpa using e)
theorem KeysAre.len {its : List Value} {ks : List Key} (h : KeysAre its ks) : its.length = ks.length := Paired.length h
section
variable {prog : Program} {w : World} {A : Around} {E : Value → Shared → Prop} {s : Shared}
set_option maxHeartbeats 3200000 in
theorem call_set_listK {l : Addr} {items : Array Value} {ks : List Key} {Q : Value → Shared → Prop}
    (hh : A.handled = none) (hl : s.heap.IsList l items) (hi : KeysAre items.toList ks) (hn1 : ks.length + 1 < scanBound)
    (h : ∀ (h' : Heap) (tk : Nat), h'.SetOf (mixKind prog w) s.heap.objs.size (fun k' => memB k' (uniq ks)) (uniq ks).length →
      (∀ b o, b < s.heap.objs.size → s.heap.get? b = some o → h'.get? b = some o) → Q (.ref s.heap.objs.size) { s with heap := h', toks := tk }) :
    wpAny (model prog w) A (call (.type "set") [.ref l]) Q E s := by
  obtain ⟨c, tl, hmro⟩ := PySem.F.called_set.mro
  have hmade := PySem.F.called_set.made
  have hsub := PySem.F.called_set.sub
  refine wpAny_call (codeAny_of_tree ?_)
  show wpAny _ _ (callAny (.type "set") _) _ _ _
  refine wpAny_pure ⟨Code.quiet_builtin _ (by decide +kernel), codeAny_builtin PySem.F.entry_type_call ?_⟩
  rw [Around.under_plain (weight_type_call_type "set" [.ref l] []) rfl]
  have h1 := PySem.F.called_set.notType
  have h2 := PySem.F.called_set.canCreate
  have hct := PySem.F.typeCall_set_1 (.ref l)
  repeat (any_goals (first | assumption | wp_step))
  refine codeAny_mono (code_set_new_1 (.ref l) (E := E) (Q₁ := fun obj s₁ => ∃ led : Bool, obj = .ref s.heap.objs.size ∧ s₁ = { s with heap := s.heap.push { cls := .type "set", dict := none, data := .set #[] 0 (.fresh 0 0 led) } }) fun led => ⟨led, rfl, rfl⟩) fun r s₁ hr => ?_
  cases r with
  | error e => exact hr
  | ok fl =>
    cases fl with
    | ret obj =>
      obtain ⟨led, rfl, rfl⟩ := hr
      have hS : (s.heap.push { cls := .type "set", dict := none, data := .set #[] 0 (.fresh 0 0 led) }).get? s.heap.objs.size = some { cls := .type "set", dict := none, data := .set #[] 0 (.fresh 0 0 led) } := Heap.get?_push_size _ rfl
      have hT : Shared.TypeIs { s with heap := s.heap.push { cls := .type "set", dict := none, data := .set #[] 0 (.fresh 0 0 led) } } (.ref s.heap.objs.size) "set" := ⟨_, hS, rfl⟩
      have hli := PySem.F.called_set.init.lookup
      have hbi := PySem.F.called_set.init.bind (.ref s.heap.objs.size)
      repeat (any_goals (first | assumption | wp_step))
      refine codeAny_mono (codeAny_call_builtin (R := wants (fun r s₂ => r = .none ∧ ∃ h' tk, s₂ = { s with heap := h', toks := tk } ∧
          h'.SetOf (mixKind prog w) s.heap.objs.size (fun k' => memB k' (uniq ks)) (uniq ks).length ∧
          (∀ b o, b < s.heap.objs.size → s.heap.get? b = some o → h'.get? b = some o)) E) PySem.F.called_set.init.plain PySem.F.entry_set_init (check_set_init_1 hT ?_)) fun r₂ s₂ hr₂ => ?_
      · obtain ⟨ol, hol, hcl, nl, hdl⟩ := hl
        obtain ⟨ocls, odict, odata, oslots⟩ := ol
        simp only at hcl hdl
        subst hcl; subst hdl
        have hol' : (s.heap.push { cls := .type "set", dict := none, data := .set #[] 0 (.fresh 0 0 led) }).get? l = some { cls := .type "list", dict := odict, data := .seq items nl, slots := oslots } := Heap.get?_push_of_some _ hol
        have hsls := PySem.F.sub_list_set
        have hslf := PySem.F.sub_list_frozenset
        have hne : (Value.type "list" == Value.type "dict") = false := by decide
        have hl1 : (s.heap.push { cls := .type "set", dict := none, data := .set #[] 0 (.fresh 0 0 led) }).IsList l items := ⟨_, hol', rfl, nl, rfl⟩
        unfold Builtin.«set.__init__» noKeywords Builtin.Frozenset.updateFrom
        generalize hPI : pyIter = PI
        wp_walk
        subst hPI
        refine wpAny_pyIter_list hl1 ?_
        refine wpAny_bind (wpAny_runValue ?_)
        have hlS : l < s.heap.objs.size := Heap.lt_size hol
        have hh3 : A.in1.in1.in1.handled = none := by simp [hh]
        have hneI : l ≠ (s.heap.push { cls := .type "set", dict := none, data := .set #[] 0 (.fresh 0 0 led) }).objs.size := by
          rw [Heap.size_push]; exact Nat.ne_of_lt (Nat.lt_succ_of_lt hlS)
        have hSf : s.heap.objs.size ∉ [(s.heap.push { cls := .type "set", dict := none, data := .set #[] 0 (.fresh 0 0 led) }).objs.size, l] := by
          rw [Heap.size_push]; simp only [List.mem_cons, List.mem_singleton, List.not_mem_nil, or_false, not_or]
          exact ⟨Nat.ne_of_lt (Nat.lt_succ_self _), Nat.ne_of_gt hlS⟩
        have hsz : ks.length = items.size := by rw [← hi.len, Array.length_toList]
        refine loopK ((Walks.list hh3 _ l hneI items).toS) s.heap.objs.size
          hSf ks hsz (by rw [← hsz]; exact hn1) (fun i v hv => hi.at' (by rw [Array.getElem?_toList]; exact hv)) (items.size - 0) 0 _ (by omega) (Nat.zero_le _)
          ⟨⟨_, Heap.get?_push_size _ rfl, rfl, rfl⟩, (hl1.push _)⟩ ?hS0 ?hR
        case hS0 =>
          have hget : ((s.heap.push { cls := .type "set", dict := none, data := .set #[] 0 (.fresh 0 0 led) }).push { cls := .type "list_iterator", data := .fields #[.ref l, .int 0 0] }).get? s.heap.objs.size
              = some { cls := .type "set", dict := none, data := .set #[] 0 (.fresh 0 0 led) } := Heap.get?_push_of_some _ hS
          exact ⟨_, #[], 0, _, hget, ⟨rfl, rfl, rfl⟩, rfl, (fun e he => by simp at he), (fun k => by simp [uniq, memB]), (by unfold scanBound; decide), (by rfl), rfl⟩
        case hR =>
          intro s' hm hS'
          obtain ⟨h', g', d', tk', os'⟩ := s'
          have eg : g' = s.gens := hm.gens
          have ed : d' = s.drawn := hm.drawn
          have eo : os' = s.os := hm.os
          subst eg; subst ed; subst eo
          show wpAny _ _ _ _ _ _
          refine wpAny_pure ?_
          show wpAny _ _ (ret Value.none) _ _ _
          refine wpAny_pure ⟨rfl, h', tk', rfl, hS', fun b o hb e => ?_⟩
          have hb1 : b ≠ s.heap.objs.size := Nat.ne_of_lt hb
          have hb2 : b ≠ (s.heap.push { cls := .type "set", dict := none, data := .set #[] 0 (.fresh 0 0 led) }).objs.size := by
            rw [Heap.size_push]; exact Nat.ne_of_lt (Nat.lt_succ_of_lt hb)
          exact hm.heap b o (by simp only [List.mem_cons, List.mem_singleton, List.not_mem_nil, or_false, not_or]; exact ⟨hb1, hb2⟩) (Heap.get?_push_of_some _ (Heap.get?_push_of_some _ e))
      · cases r₂ with
        | error e => exact hr₂
        | ok fl₂ =>
          cases fl₂ with
          | ret r =>
            obtain ⟨rfl, h', tk, rfl, hS', hk'⟩ := hr₂
            repeat (any_goals (first | assumption | wp_step))
            exact h _ _ hS' hk'
          | _ => exact hr₂.elim
    | _ => exact hr.elim
set_option maxHeartbeats 3200000 in
theorem call_set_tupleK {l : Addr} {items : Array Value} {ks : List Key} {Q : Value → Shared → Prop}
    (hh : A.handled = none) (hl : s.heap.IsTuple l items) (hi : KeysAre items.toList ks) (hn1 : ks.length + 1 < scanBound)
    (h : ∀ (h' : Heap) (tk : Nat), h'.SetOf (mixKind prog w) s.heap.objs.size (fun k' => memB k' (uniq ks)) (uniq ks).length →
      (∀ b o, b < s.heap.objs.size → s.heap.get? b = some o → h'.get? b = some o) → Q (.ref s.heap.objs.size) { s with heap := h', toks := tk }) :
    wpAny (model prog w) A (call (.type "set") [.ref l]) Q E s := by
  obtain ⟨c, tl, hmro⟩ := PySem.F.called_set.mro
  have hmade := PySem.F.called_set.made
  have hsub := PySem.F.called_set.sub
  refine wpAny_call (codeAny_of_tree ?_)
  show wpAny _ _ (callAny (.type "set") _) _ _ _
  refine wpAny_pure ⟨Code.quiet_builtin _ (by decide +kernel), codeAny_builtin PySem.F.entry_type_call ?_⟩
  rw [Around.under_plain (weight_type_call_type "set" [.ref l] []) rfl]
  have h1 := PySem.F.called_set.notType
  have h2 := PySem.F.called_set.canCreate
  have hct := PySem.F.typeCall_set_1 (.ref l)
  repeat (any_goals (first | assumption | wp_step))
  refine codeAny_mono (code_set_new_1 (.ref l) (E := E) (Q₁ := fun obj s₁ => ∃ led : Bool, obj = .ref s.heap.objs.size ∧ s₁ = { s with heap := s.heap.push { cls := .type "set", dict := none, data := .set #[] 0 (.fresh 0 0 led) } }) fun led => ⟨led, rfl, rfl⟩) fun r s₁ hr => ?_
  cases r with
  | error e => exact hr
  | ok fl =>
    cases fl with
    | ret obj =>
      obtain ⟨led, rfl, rfl⟩ := hr
      have hS : (s.heap.push { cls := .type "set", dict := none, data := .set #[] 0 (.fresh 0 0 led) }).get? s.heap.objs.size = some { cls := .type "set", dict := none, data := .set #[] 0 (.fresh 0 0 led) } := Heap.get?_push_size _ rfl
      have hT : Shared.TypeIs { s with heap := s.heap.push { cls := .type "set", dict := none, data := .set #[] 0 (.fresh 0 0 led) } } (.ref s.heap.objs.size) "set" := ⟨_, hS, rfl⟩
      have hli := PySem.F.called_set.init.lookup
      have hbi := PySem.F.called_set.init.bind (.ref s.heap.objs.size)
      repeat (any_goals (first | assumption | wp_step))
      refine codeAny_mono (codeAny_call_builtin (R := wants (fun r s₂ => r = .none ∧ ∃ h' tk, s₂ = { s with heap := h', toks := tk } ∧
          h'.SetOf (mixKind prog w) s.heap.objs.size (fun k' => memB k' (uniq ks)) (uniq ks).length ∧
          (∀ b o, b < s.heap.objs.size → s.heap.get? b = some o → h'.get? b = some o)) E) PySem.F.called_set.init.plain PySem.F.entry_set_init (check_set_init_1 hT ?_)) fun r₂ s₂ hr₂ => ?_
      · obtain ⟨ol, hol, hcl, nl, hdl⟩ := hl
        obtain ⟨ocls, odict, odata, oslots⟩ := ol
        simp only at hcl hdl
        subst hcl; subst hdl
        have hol' : (s.heap.push { cls := .type "set", dict := none, data := .set #[] 0 (.fresh 0 0 led) }).get? l = some { cls := .type "tuple", dict := odict, data := .seq items nl, slots := oslots } := Heap.get?_push_of_some _ hol
        have hsls := PySem.F.sub_tuple_set
        have hslf := PySem.F.sub_tuple_frozenset
        have hne : (Value.type "tuple" == Value.type "dict") = false := by decide
        have hl1 : (s.heap.push { cls := .type "set", dict := none, data := .set #[] 0 (.fresh 0 0 led) }).IsTuple l items := ⟨_, hol', rfl, nl, rfl⟩
        unfold Builtin.«set.__init__» noKeywords Builtin.Frozenset.updateFrom
        generalize hPI : pyIter = PI
        wp_walk
        subst hPI
        refine wpAny_pyIter_tuple hl1 ?_
        refine wpAny_bind (wpAny_runValue ?_)
        have hlS : l < s.heap.objs.size := Heap.lt_size hol
        have hh3 : A.in1.in1.in1.handled = none := by simp [hh]
        have hneI : l ≠ (s.heap.push { cls := .type "set", dict := none, data := .set #[] 0 (.fresh 0 0 led) }).objs.size := by
          rw [Heap.size_push]; exact Nat.ne_of_lt (Nat.lt_succ_of_lt hlS)
        have hSf : s.heap.objs.size ∉ [(s.heap.push { cls := .type "set", dict := none, data := .set #[] 0 (.fresh 0 0 led) }).objs.size, l] := by
          rw [Heap.size_push]; simp only [List.mem_cons, List.mem_singleton, List.not_mem_nil, or_false, not_or]
          exact ⟨Nat.ne_of_lt (Nat.lt_succ_self _), Nat.ne_of_gt hlS⟩
        have hsz : ks.length = items.size := by rw [← hi.len, Array.length_toList]
        refine loopK ((Walks.tuple hh3 _ l hneI items).toS) s.heap.objs.size
          hSf ks hsz (by rw [← hsz]; exact hn1) (fun i v hv => hi.at' (by rw [Array.getElem?_toList]; exact hv)) (items.size - 0) 0 _ (by omega) (Nat.zero_le _)
          ⟨⟨_, Heap.get?_push_size _ rfl, rfl, rfl⟩, (hl1.push _)⟩ ?hS0 ?hR
        case hS0 =>
          have hget : ((s.heap.push { cls := .type "set", dict := none, data := .set #[] 0 (.fresh 0 0 led) }).push { cls := .type "tuple_iterator", data := .fields #[.ref l, .int 0 0] }).get? s.heap.objs.size
              = some { cls := .type "set", dict := none, data := .set #[] 0 (.fresh 0 0 led) } := Heap.get?_push_of_some _ hS
          exact ⟨_, #[], 0, _, hget, ⟨rfl, rfl, rfl⟩, rfl, (fun e he => by simp at he), (fun k => by simp [uniq, memB]), (by unfold scanBound; decide), (by rfl), rfl⟩
        case hR =>
          intro s' hm hS'
          obtain ⟨h', g', d', tk', os'⟩ := s'
          have eg : g' = s.gens := hm.gens
          have ed : d' = s.drawn := hm.drawn
          have eo : os' = s.os := hm.os
          subst eg; subst ed; subst eo
          show wpAny _ _ _ _ _ _
          refine wpAny_pure ?_
          show wpAny _ _ (ret Value.none) _ _ _
          refine wpAny_pure ⟨rfl, h', tk', rfl, hS', fun b o hb e => ?_⟩
          have hb1 : b ≠ s.heap.objs.size := Nat.ne_of_lt hb
          have hb2 : b ≠ (s.heap.push { cls := .type "set", dict := none, data := .set #[] 0 (.fresh 0 0 led) }).objs.size := by
            rw [Heap.size_push]; exact Nat.ne_of_lt (Nat.lt_succ_of_lt hb)
          exact hm.heap b o (by simp only [List.mem_cons, List.mem_singleton, List.not_mem_nil, or_false, not_or]; exact ⟨hb1, hb2⟩) (Heap.get?_push_of_some _ (Heap.get?_push_of_some _ e))
      · cases r₂ with
        | error e => exact hr₂
        | ok fl₂ =>
          cases fl₂ with
          | ret r =>
            obtain ⟨rfl, h', tk, rfl, hS', hk'⟩ := hr₂
            repeat (any_goals (first | assumption | wp_step))
            exact h _ _ hS' hk'
          | _ => exact hr₂.elim
    | _ => exact hr.elim
end
theorem keysAre_of {ks : List Key} {us : List Value} (h : Vals (ks.map kV) us) : KeysAre us ks := by
  induction ks generalizing us with
  | nil => cases h; exact .nil
  | cons k ks ih =>
    cases h with
    | cons r t =>
      refine .cons ?_ (ih t)
      cases k with
      | inl i => obtain ⟨t, rfl⟩ := r; exact keyIs_int i t
      | inr x => obtain ⟨t, rfl⟩ := r; exact keyIs_str x t
def tLenSetK (K : PySem.W.Frag) (ta : TE) : TE := fun σ H Q => ta σ H fun x H1 => ∃ (l : Addr) (ks : List Key), x = .ref l ∧ (SqL K H1 l (ks.map kV) ∨ SqT K H1 l (ks.map kV)) ∧ ks.length ≤ 4000 ∧ Q (.int ((uniq ks).length : Nat)) H1
theorem pe_lenSetK {X : Cx} {a : Expr} {ta : TE} {p p2 q pos : Pos} (hg : Gl X "len") (hm : X.mg "len" = none) (hg2 : Gl X "set") (hm2 : X.mg "set" = none) (ha : PE X a ta) (hc : X.calm = true)
    (na : starEach [a] X.env = (false, eval a X.env) :: starEach [] X.env) : PE X (.Call (.Name "len" p) [.Call (.Name "set" p2) [a] [] q] [] pos) (tLenSetK X.K ta) := by
  refine ⟨fun pins s σ H Q I h => ?_⟩
  refine Call_ (ld_blt I hg hm boot_len ?_)
  refine PyProof.Rows.callWith_builtin1 (PyProof.Rows.args_cons ?_ rfl) rfl rfl
  refine Call_ (ld_blt I hg2 hm2 boot_set ?_)
  refine PyProof.Rows.callWith_type1 (PyProof.Rows.args_cons (thn (ha.run pins s σ H _ I h) fun v s1 ⟨x, H1, I1, r1, q1⟩ => PyProof.Rows.args_nil ?_) na) na rfl
  obtain ⟨l, ks, rfl, hq, hl, q1⟩ := q1
  cases r1
  have hu : (uniq ks).length ≤ ks.length := by have := uniq_len ks []; simpa [uniq] using this
  have fin : ∀ (h' : Heap) (tk : Nat), h'.SetOf (mixKind X.prog X.w) s1.heap.objs.size (fun k' => memB k' (uniq ks)) (uniq ks).length →
      (∀ b o, b < s1.heap.objs.size → s1.heap.get? b = some o → h'.get? b = some o) →
      wpAny (model X.prog X.w) X.A (spliced (backTo pos (starEach [] X.env))) (fun vs s₂ => wpAny (model X.prog X.w) X.A (call (.builtin "len") (Value.ref s1.heap.objs.size :: vs)) (EP X pins σ Q) X.xe s₂) X.xe { s1 with heap := h', toks := tk } := fun h' tk hS hk => by
    refine PyProof.Rows.args_nil ?_
    obtain ⟨o, es, ep, t, ho, hex, hd, _, _, _, hf, hn⟩ := hS
    have I2 : Inv X pins σ H1 { s1 with heap := h', toks := tk } := I1.kept fun b o e => hk b o (Heap.lt_size e) e
    exact call_len_set ho hex hd hf (by rw [hn]; omega) ⟨.int (uniq ks).length, H1, I2.tok _, ⟨_, by rw [hn]⟩, q1⟩
  rcases hq with hq | hq
  · obtain ⟨its, r, pl, hz⟩ := I1.list hq
    exact call_set_listK (I1.ok.hd hc) pl.isList (by simpa using keysAre_of r) (by unfold scanBound; omega) fin
  · obtain ⟨its, r, pl, hz⟩ := I1.tuple hq
    exact call_set_tupleK (I1.ok.hd hc) pl (by simpa using keysAre_of r) (by unfold scanBound; omega) fin
end Ev


set_option Elab.async false
set_option linter.all false
set_option maxRecDepth 100000
set_option maxHeartbeats 4000000
/-! EvT: methods of texts, f-strings, len(set(..)). -/
namespace Ev
open PySem L2

def TM.id : TM → String
  | .join => "str.join" | .partition => "str.partition" | .split => "str.split" | .upper => "str.upper" | .endswith => "str.endswith" | .startswith => "str.startswith"
def rTm (K : PySem.W.Frag) : TM → V → List V → Hp → VK → Prop
  | .join => fun x xs H Q => ∃ a p, ∃ ys : List Str, x = .str a ∧ xs = [.ref p] ∧ (SqL K H p (ys.map V.str) ∨ SqT K H p (ys.map V.str)) ∧ (ys.map (·.length)).sum + ys.length * a.length ≤ 16777216 ∧ Q (.str (Txt.join a ys)) H
  | .partition => fun x xs H Q => ∃ a b, x = .str a ∧ xs = [.str b] ∧ (b.length == 0) = false ∧ a.length ≤ sizeLine ∧ ∀ p, H p = none → Q (.ref p) (upd H p (.tup [.str (Txt.partition a b).1, .str (Txt.partition a b).2.1, .str (Txt.partition a b).2.2]))
  | .split => fun x xs H Q => ∃ a b, x = .str a ∧ xs = [.str b] ∧ (b.length == 0) = false ∧ a.length + 2 ≤ sizeLine ∧ rNewStrs (Txt.split a b) H Q
  | .upper => fun x xs H Q => ∃ a, x = .str a ∧ xs = [] ∧ a.length ≤ 5592405 ∧ Q (.str (Txt.upper a)) H
  | .endswith => fun x xs H Q => ∃ a b, x = .str a ∧ xs = [.str b] ∧ Q (.bl (Txt.endswith a b)) H
  | .startswith => fun x xs H Q => ∃ a b, x = .str a ∧ xs = [.str b] ∧ Q (.bl (Txt.startswith a b)) H
theorem mt_tm {X : Cx} (m : TM) : MtR X m.id (rTm X.K m) := by
  cases m with
  | join => exact mt_join
  | partition => exact mt_partition
  | split => exact mt_split
  | upper => exact mt_upper
  | endswith => exact mt_endswith
  | startswith => exact mt_startswith
theorem slot_tm (m : TM) : Slot "str" m.name m.id ∧ typeOf (.builtin m.id) = pure (.type "method_descriptor") := by
  cases m with
  | join => exact ⟨PySem.F.slot_str_join, PySem.F.type_str_join⟩
  | partition => exact ⟨PySem.F.slot_str_partition, PySem.F.type_str_partition⟩
  | split => exact ⟨PySem.F.slot_str_split, PySem.F.type_str_split⟩
  | upper => exact ⟨PySem.F.slot_str_upper, PySem.F.type_str_upper⟩
  | endswith => exact ⟨PySem.F.slot_str_endswith, PySem.F.type_str_endswith⟩
  | startswith => exact ⟨PySem.F.slot_str_startswith, PySem.F.type_str_startswith⟩
section
variable {K : PySem.W.Frag} {mg : Str → Option Value} {ρ : List Addr} {H : Hp} {W : XK} {M : Sto} {Q : VK}
theorem strs_inv : ∀ {xs : List PV} {vs : List V} {ss : List Str}, RVs K mg ρ H xs vs → strsP xs = some ss → vs = ss.map V.str
  | _, _, _, .nil, e => by cases e; rfl
  | x :: xs, _, ss, .cons r rs, e => by
    cases x <;> simp only [strsP] at e <;> first | (cases e; done) | skip
    obtain ⟨ts, h1, rfl⟩ := Option.map_eq_some_iff.mp e
    cases r.str_inv
    rw [strs_inv rs h1]; rfl
theorem len_ne {b : Str} (h : b.length ≠ 0) : (b.length == 0) = false := by simpa using h
theorem rvs_strs : ∀ ss : List Str, RVs K mg ρ H (ss.map .str) (ss.map V.str)
  | [] => .nil
  | s :: ss => .cons (.str s) (rvs_strs ss)
theorem smV_ok (m : TM) {s : Str} {xs : List PV} {vs : List V} (S : SM K mg ρ H M) (rx : RVs K mg ρ H xs vs) (h : PostV K mg W ρ H (smV m (.str s) xs M) Q) : rTm K m (.str s) vs H Q := by
  unfold smV at h
  split at h
  case h_2 => rename_i hn; exact absurd rfl (hn s)
  rename_i a e
  cases e
  split at h
  · rename_i y
    obtain ⟨v, rfl, r⟩ := rx.one_inv
    split at h
    · rename_i ys q
      split at h
      · rename_i ss q2
        split at h
        · rename_i c
          have c := of_decide_eq_true c
          cases y <;> first | (cases q; done) | skip
          · obtain ⟨p, us, rfl, h1, h2⟩ := r.tup_inv
            cases q
            exact ⟨s, p, ss, rfl, rfl, .inr (by rw [← strs_inv h2 q2]; exact h1), c, h.here S (.str _)⟩
          · obtain ⟨p, us, rfl, hi, h1, h2⟩ := lst_read S r q
            exact ⟨s, p, ss, rfl, rfl, .inl (by rw [← strs_inv h2 q2]; exact .inl (.inl h1)), c, h.here S (.str _)⟩
        · exact h.elim
      · exact h.elim
    · exact h.elim
  · obtain ⟨v, rfl, r⟩ := rx.one_inv
    cases r.str_inv
    split at h
    · rename_i c
      exact ⟨_, _, rfl, rfl, len_ne c.1, c.2, Post.tup S (.cons (.str _) (.cons (.str _) (.cons (.str _) .nil))) h⟩
    · exact h.elim
  · obtain ⟨v, rfl, r⟩ := rx.one_inv
    cases r.str_inv
    split at h
    · rename_i c
      exact ⟨_, _, rfl, rfl, len_ne c.1, c.2, Post.alloc (o := .lst _) (ho := .lst _) S (rvs_strs _) h⟩
    · exact h.elim
  · cases rx.nil_inv
    split at h
    · rename_i c
      exact ⟨_, rfl, rfl, c, h.here S (.str _)⟩
    · exact h.elim
  · obtain ⟨v, rfl, r⟩ := rx.one_inv
    cases r.str_inv
    exact ⟨_, _, rfl, rfl, h.here S (.bl _)⟩
  · obtain ⟨v, rfl, r⟩ := rx.one_inv
    cases r.str_inv
    exact ⟨_, _, rfl, rfl, h.here S (.bl _)⟩
  · exact h.elim
end
section
variable {X : Cx} {W : WX} {a b c e : Expr} {es : List Expr} {pos p : Pos} {ra rb : Env → Sto → Res PV} {rs : Env → Sto → Res (List PV)}
/-- a method of a text -/
def lSm (m : TM) (ra : Env → Sto → Res PV) (rs : Env → Sto → Res (List PV)) : Env → Sto → Res PV := fun env M => (ra env M).bind fun x M1 => match x with
    | .str s => (rs env M1).bind fun xs M2 => smV m (.str s) xs M2
    | _ => .bad
theorem s_smeth0 {m : TM} {apos cpos : Pos} (ha : PE X a (lE X W ra)) (hb : isCall a = false) (hl : (apos.endLine == cpos.line) = true) : PE X (.Call (.Attribute a m.name apos) [] [] cpos) (lE X W (lSm m ra fun _ M => .ok [] M)) := by
  refine PE.weak (pe_m0 (slot_tm m).1 (slot_tm m).2 (mt_tm m) ha (attr_ne hb _ _) hl) fun σ H Q h => ?_
  refine lR.chain h fun ρ env M x M1 ρ1 v H1 S E e1 S1 E1 r1 h1 => ?_
  cases x <;> first | exact h1.elim | skip
  cases r1.str_inv
  exact ⟨⟨_, rfl⟩, smV_ok m S1 .nil h1⟩
theorem s_smeth1 {m : TM} {apos cpos : Pos} (ha : PE X a (lE X W ra)) (he : PE X e (lE X W rb)) (hb : isCall a = false) (hl : (apos.endLine == cpos.line) = true) (hs : isStar e = false) : PE X (.Call (.Attribute a m.name apos) [e] [] cpos) (lE X W (lSm m ra fun env M => (rb env M).bind fun y M1 => .ok [y] M1)) := by
  refine PE.weak (pe_m1 (slot_tm m).1 (slot_tm m).2 (mt_tm m) ha he (star_ne hs _ _) (attr_ne hb _ _) hl) fun σ H Q h => ?_
  refine lR.chain h fun ρ env M x M1 ρ1 v H1 S E e1 S1 E1 r1 h1 => ?_
  cases x <;> first | exact h1.elim | skip
  cases r1.str_inv
  refine ⟨⟨_, rfl⟩, ρ1, env, M1, S1, E1, ?_⟩
  have h1 : PostV X.K X.mg _ ρ1 H1 (((rb env M1).bind fun y M2 => .ok [y] M2).bind fun xs M2 => smV m (.str _) xs M2) Q := h1
  rw [Res.bind_assoc] at h1
  exact h1.chain fun y M2 ρ2 w H2 e2 S2 r2 h2 => smV_ok m S2 (.cons r2 .nil) h2
theorem keys_inv {K : PySem.W.Frag} {mg : Str → Option Value} {ρ : List Addr} {H : Hp} : ∀ {xs : List PV} {vs : List V} {ks : List Key}, RVs K mg ρ H xs vs → keysP xs = some ks → vs = ks.map kV
  | _, _, _, .nil, e => by cases e; rfl
  | x :: xs, _, ks, .cons r rs, e => by
    cases x <;> simp only [keysP] at e <;> first | (cases e; done) | skip
    · obtain ⟨ts, h1, rfl⟩ := Option.map_eq_some_iff.mp e
      cases r.int_inv
      rw [keys_inv rs h1]; rfl
    · obtain ⟨ts, h1, rfl⟩ := Option.map_eq_some_iff.mp e
      cases r.str_inv
      rw [keys_inv rs h1]; rfl
theorem s_lenset {p2 q : Pos} (hc : X.calm = true) (hg : Gl X "len") (hm : X.mg "len" = none) (hg2 : Gl X "set") (hm2 : X.mg "set" = none) (ha : PE X a (lE X W ra)) (hs : isStar a = false) :
    PE X (.Call (.Name "len" p) [.Call (.Name "set" p2) [a] [] q] [] pos) (lE X W fun env M => (ra env M).bind fun x M1 => lenSetV x M1) := by
  refine PE.weak (pe_lenSetK hg hm hg2 hm2 ha hc (star_ne hs _ _)) fun σ H Q h => ?_
  refine lR.chain h fun ρ env M x M1 ρ1 v H1 S E e1 S1 E1 r1 h1 => ?_
  unfold lenSetV at h1
  split at h1
  · rename_i ys q
    split at h1
    · rename_i ks q2
      split at h1
      · rename_i c
        cases x <;> first | (cases q; done) | skip
        · obtain ⟨l, us, rfl, a1, a2⟩ := r1.tup_inv
          cases q
          exact ⟨l, ks, rfl, .inr (by rw [← keys_inv a2 q2]; exact a1), c, h1.here S1 (.int _)⟩
        · obtain ⟨l, us, rfl, hi, a1, a2⟩ := lst_read S1 r1 q
          exact ⟨l, ks, rfl, .inl (by rw [← keys_inv a2 q2]; exact .inl (.inl a1)), c, h1.here S1 (.int _)⟩
      · exact h1.elim
    · exact h1.elim
  · exact h1.elim
theorem s_fmt (ha : PE X a (lE X W ra)) : PE X (.FormattedValue a (-1) none pos) (lE X W fun env M => (ra env M).bind fun x M1 => fmtV x M1) := by
  refine PE.weak (pe_fmt ha) fun σ H Q h => ?_
  refine lR.chain h fun ρ env M x M1 ρ1 v H1 S E e1 S1 E1 r1 h1 => ?_
  unfold fmtV at h1
  split at h1
  · cases r1.str_inv
    split at h1
    · rename_i c
      exact .inl ⟨_, rfl, c, h1.here S1 (.str _)⟩
    · exact h1.elim
  · cases r1.int_inv
    split at h1
    · rename_i c
      exact .inr ⟨_, rfl, c, h1.here S1 (.str _)⟩
    · exact h1.elim
  · exact h1.elim
/-- the parts of an f-string -/
theorem j_cons {G : Glob} {c r : CE} {ts : List TE} (h : ∀ acc σ H Q, lR X eqR W (fun env M => evF G r env M acc) σ H Q → tJs ts acc σ H Q) :
    ∀ acc σ H Q, lR X eqR W (fun env M => evF G (.cons c r) env M acc) σ H Q → tJs (lE X W (evE G c) :: ts) acc σ H Q := by
  intro acc σ H Q q
  have q : lR X eqR W (fun env M => (evE G c env M).bind fun x M1 => match x with
    | .str s => if (acc ++ s).length ≤ sizeLine then evF G r env M1 (acc ++ s) else .bad
    | _ => .bad) σ H Q := by
    simp only [evF] at q
    exact q
  show lE X W (evE G c) σ H fun x H1 => ∃ y : Str, x = .str y ∧ (acc ++ y).length ≤ sizeLine ∧ tJs ts (acc ++ y) σ H1 Q
  refine lR.chain q fun ρ env M x M1 ρ1 v H1 S E e1 S1 E1 r1 h1 => ?_
  cases x <;> first | exact h1.elim | skip
  cases r1.str_inv
  have h1 : Post X.K X.mg eqR _ ρ1 H1 (if (acc ++ _).length ≤ sizeLine then evF G r env M1 (acc ++ _) else .bad) Q := h1
  split at h1
  · rename_i c
    exact ⟨_, rfl, c, h _ σ H1 Q ⟨ρ1, env, M1, S1, E1, h1⟩⟩
  · exact h1.elim
theorem j_nil {G : Glob} : ∀ acc σ H Q, lR X eqR W (fun env M => evF G .nil env M acc) σ H Q → tJs [] acc σ H Q := by
  intro acc σ H Q q
  obtain ⟨ρ, env, M, S, E, h⟩ := q
  simp only [evF] at h
  exact Post.here (x := acc) (v := acc) S rfl h
theorem s_fstr {G : Glob} {c : CE} {v1 v2 : Expr} {ts : List TE} (hj : PJ X (v1 :: v2 :: es) ts) (h : ∀ acc σ H Q, lR X eqR W (fun env M => evF G c env M acc) σ H Q → tJs ts acc σ H Q) :
    PE X (.JoinedStr (v1 :: v2 :: es) pos) (lE X W fun env M => (evF G c env M Str.empty).bind fun s M1 => .ok (.str s) M1) := by
  refine PE.weak (pe_joined hj) fun σ H Q q => ?_
  refine h _ σ H _ (lR.chain q fun ρ env M x M1 ρ1 v H1 S E e1 S1 E1 r1 h1 => ?_)
  cases r1
  exact h1.here S1 (.str _)
end
end Ev

set_option Elab.async false
set_option linter.all false
set_option maxRecDepth 100000
set_option maxHeartbeats 4000000
/-! Ev10: targets, what is walked, comprehensions. -/
namespace Ev
open PySem L2
/-- a code's context and the layer's -/
structure KOk (k : CK) (X : Cx) : Prop where
  N : X.N = k.N
  sc : X.env.scope = k.sc
  fn : k.all = true → ∀ x, X.fn x = true
  nm : k.all = true → X.env.qual = k.nm ++ ".<locals>." ∧ ∀ P, TabK X.K X.mg k.nm P → ∃ c, X.env.code = .ref c ∧ LamX.TabB X.base X.mg c P
section
variable {X : Cx} {W : WX}
theorem vis_of {k : CK} (h : KOk k X) {x : Str} (v : visB k.sc x = true) : Vis X.env.scope x := by
  unfold Vis
  rw [h.sc]
  unfold visB at v
  split at v
  · rename_i q; exact .inl q
  · rename_i q; exact .inr (.inl q)
  · rename_i q; exact .inr (.inr q)
  · cases v
theorem loc_of {k : CK} (h : KOk k X) {x : Str} (v : locB k x = true) : L2.Loc X.env.scope x ∧ (X.fn x = true ∨ X.env.scope.names.lookup x = some .local) := by
  unfold L2.Loc
  rw [h.sc]
  unfold locB at v
  split at v
  · rename_i q; exact ⟨.inl q, .inr q⟩
  · rename_i q; exact ⟨.inr q, .inl (h.fn v x)⟩
  · cases v
/-- slots that a target leaves alone -/
def Off (t : CT) (σ σ' : St) : Prop := σ'.length = σ.length ∧ ∀ j, j ∉ ctSlots t → σ'[j]? = σ[j]?
def lG (X : Cx) (t : CT) : TG := fun v σ H Q => ∃ ρ env M x env', SM X.K X.mg ρ H M ∧ RE X.K X.mg ρ H env σ ∧ RV X.K X.mg ρ H x v ∧ asgT t x env = some env' ∧ ∀ σ', RE X.K X.mg ρ H env' σ' → Off t σ σ' → Q σ' H
def lGs (X : Cx) (ts : CT) : TGs := fun vs σ H Q => ∃ ρ env M xs env', SM X.K X.mg ρ H M ∧ RE X.K X.mg ρ H env σ ∧ RVs X.K X.mg ρ H xs vs ∧ asgTs ts xs env = some env' ∧ ∀ σ', RE X.K X.mg ρ H env' σ' → Off ts σ σ' → Q σ' H
theorem PG.weak {e : Expr} {t t' : TG} (h : PG X e t) (k : ∀ v σ H Q, t' v σ H Q → t v σ H Q) : PG X e t' := ⟨fun pins s σ H v u Q I r q => h.run pins s σ H v u Q I r (k v σ H Q q)⟩
theorem PGs.weak {es : List Expr} {t t' : TGs} (h : PGs X es t) (k : ∀ v σ H Q, t' v σ H Q → t v σ H Q) : PGs X es t' := ⟨fun pins s σ H v u Q I r q => h.run pins s σ H v u Q I r (k v σ H Q q)⟩
theorem chkGs_star {k : CK} : ∀ {ts : CT} {es : List Expr}, chkG.chkGs k ts es = true → ∀ e ∈ es, isStar e = false
  | .nil, [], _ => fun _ z => (nomatch z)
  | .nil, _ :: _, h => by simp [chkG.chkGs] at h
  | .cons a r, [], h => by simp [chkG.chkGs] at h
  | .cons a r, e :: es, h => by
    simp only [chkG.chkGs, Bool.and_eq_true] at h
    intro x hx
    rcases List.mem_cons.mp hx with rfl | hx
    · cases x <;> first | rfl | (exfalso; have h1 := h.1; cases a <;> simp [chkG] at h1)
    · exact chkGs_star h.2 x hx
  | .nm _, _, h => by simp [chkG.chkGs] at h
  | .tp _, _, h => by simp [chkG.chkGs] at h
theorem each_plain (env : PySem.Env) : ∀ {es : List Expr}, (∀ e ∈ es, isStar e = false) → (assignEach es env).length = es.length ∧ (assignEach es env).findIdx? (·.1) = none
  | [], _ => ⟨rfl, rfl⟩
  | e :: es, h => by
    have h1 : isStar e = false := h e List.mem_cons_self
    obtain ⟨i1, i2⟩ := each_plain env fun x hx => h x (List.mem_cons_of_mem _ hx)
    have q : assignEach (e :: es) env = (false, assign e env) :: assignEach es env := by cases e <;> first | rfl | cases h1
    rw [q]
    refine ⟨by rw [List.length_cons, List.length_cons, i1], ?_⟩
    rw [List.findIdx?_cons, i2]; rfl
theorem each_cons {e : Expr} (env : PySem.Env) (es : List Expr) (h : isStar e = false) : (assignEach (e :: es) env).map (·.2) = assign e env :: (assignEach es env).map (·.2) := by
  cases e <;> first | rfl | cases h
theorem asgTs_len : ∀ {ts : CT} {xs : List PV} {env env' : Env} {k : CK} {es : List Expr}, asgTs ts xs env = some env' → chkG.chkGs k ts es = true → xs.length = es.length
  | .nil, [], _, _, _, [], _, _ => rfl
  | .nil, [], _, _, _, _ :: _, _, h => by simp [chkG.chkGs] at h
  | .nil, _ :: _, _, _, _, _, e, _ => by simp [asgTs] at e
  | .cons a r, [], _, _, _, _, e, _ => by simp [asgTs] at e
  | .cons a r, x :: xs, env, env', k, [], _, h => by simp [chkG.chkGs] at h
  | .cons a r, x :: xs, env, env', k, e :: es, q, h => by
    simp only [chkG.chkGs, Bool.and_eq_true] at h
    simp only [asgTs] at q
    cases q1 : asgT a x env with
    | none => rw [q1] at q; cases q
    | some env1 =>
      rw [q1] at q
      rw [List.length_cons, List.length_cons, asgTs_len q h.2]
  | .nm _, _, _, _, _, _, _, h => by simp [chkG.chkGs] at h
  | .tp _, _, _, _, _, _, _, h => by simp [chkG.chkGs] at h
mutual
theorem s_tgt {k : CK} (hk : KOk k X) (hN : X.N.Nodup) (hc : X.calm = true) : ∀ (t : CT) (e : Expr), chkG k t e = true → PG X e (lG X t)
  | .nm i, e, h => by
    cases e <;> first | (simp [chkG] at h; done) | skip
    rename_i x p
    simp only [chkG, Bool.and_eq_true, decide_eq_true_eq] at h
    obtain ⟨h1, h2⟩ := loc_of hk h.2
    refine PG.weak (pg_name hN (by rw [hk.N]; exact h.1) h1 h2) fun v σ H Q h => ?_
    obtain ⟨ρ, env, M, x, env', S, E, r, q, f⟩ := h
    simp only [asgT] at q
    cases q
    exact f _ (E.set r i) ⟨List.length_set, fun j hj => List.getElem?_set_ne (fun z => hj (by simp [ctSlots, z]))⟩
  | .tp ts, e, h => by
    cases e <;> first | (simp [chkG] at h; done) | skip
    rename_i es k2 p
    simp only [chkG] at h
    have hs := chkGs_star h
    obtain ⟨l1, l2⟩ := each_plain X.env hs
    refine PG.weak (pg_tup hc (s_tgts hk hN hc ts es h) l1 l2) fun v σ H Q hh => ?_
    obtain ⟨ρ, env, M, x, env', S, E, r, q, f⟩ := hh
    cases x <;> first | (simp [asgT] at q; done) | skip
    rename_i xs
    obtain ⟨a, vs, rfl, ha, rr⟩ := r.tup_inv
    have q' : asgTs ts xs env = some env' := q
    exact ⟨a, vs, rfl, ha, by rw [← rr.length]; exact asgTs_len q' h, ρ, env, M, xs, env', S, E, rr, q', f⟩
  | .nil, e, h => by simp [chkG] at h
  | .cons _ _, e, h => by simp [chkG] at h
theorem s_tgts {k : CK} (hk : KOk k X) (hN : X.N.Nodup) (hc : X.calm = true) : ∀ (ts : CT) (es : List Expr), chkG.chkGs k ts es = true → PGs X es (lGs X ts)
  | .nil, es, h => by
    cases es with
    | cons _ _ => simp [chkG.chkGs] at h
    | nil =>
      refine PGs.weak pgs_nil fun vs σ H Q hh => ?_
      obtain ⟨ρ, env, M, xs, env', S, E, r, q, f⟩ := hh
      cases xs with
      | cons _ _ => simp [asgTs] at q
      | nil =>
        simp only [asgTs] at q
        cases q
        exact ⟨r.nil_inv, f σ E ⟨rfl, fun _ _ => rfl⟩⟩
  | .cons a rs, es, h => by
    cases es with
    | nil => simp [chkG.chkGs] at h
    | cons e es =>
      have hs : isStar e = false := chkGs_star h e List.mem_cons_self
      simp only [chkG.chkGs, Bool.and_eq_true] at h
      refine PGs.weak (pgs_cons (s_tgt hk hN hc a e h.1) (s_tgts hk hN hc rs es h.2) (each_cons _ _ hs)) fun vs σ H Q hh => ?_
      obtain ⟨ρ, env, M, xs, env', S, E, r, q, f⟩ := hh
      cases xs with
      | nil => simp [asgTs] at q
      | cons x xs =>
        simp only [asgTs] at q
        cases q1 : asgT a x env with
        | none => rw [q1] at q; cases q
        | some env1 =>
          rw [q1] at q
          cases r with
          | cons r1 r2 =>
            refine ⟨_, _, rfl, ρ, env, M, x, env1, S, E, r1, q1, fun σ1 E1 o1 => ⟨ρ, env1, M, xs, env', S, E1, r2, q, fun σ2 E2 o2 => f σ2 E2 ⟨o2.1.trans o1.1, fun j hj => ?_⟩⟩⟩
            have hj' : j ∉ ctSlots a ∧ j ∉ ctSlots rs := by simpa [ctSlots, List.mem_append, not_or] using hj
            exact (o2.2 j hj'.2).trans (o1.2 j hj'.1)
  | .nm _, _, h => by simp [chkG.chkGs] at h
  | .tp _, _, h => by simp [chkG.chkGs] at h
end
theorem wipe_get {σ : St} {j : Nat} : ∀ vs : List Nat, (wipe σ vs)[j]? = if j ∈ vs then (if j < σ.length then some none else none) else σ[j]?
  | [] => by simp [wipe]
  | v :: vs => by
    unfold wipe
    by_cases e : v = j
    · subst e
      rw [if_pos List.mem_cons_self]
      by_cases hl : v < σ.length
      · rw [List.getElem?_set_self (by rw [wipe_length]; exact hl), if_pos hl]
      · rw [List.getElem?_eq_none (by rw [List.length_set, wipe_length]; omega), if_neg hl]
    · rw [List.getElem?_set_ne e, wipe_get vs]
      have : (j ∈ v :: vs) ↔ j ∈ vs := by
        rw [List.mem_cons]
        exact ⟨fun z => z.resolve_left fun q => e q.symm, .inr⟩
      by_cases h : j ∈ vs
      · rw [if_pos h, if_pos (this.mpr h)]
      · rw [if_neg h, if_neg fun z => h (this.mp z)]
theorem wipe_off {t : CT} {σ σ' : St} {vs : List Nat} (h : Off t (wipe σ vs) σ') (hs : ∀ j ∈ ctSlots t, j ∈ vs) : wipe σ' vs = wipe σ vs := by
  have hl : σ'.length = σ.length := by rw [h.1, wipe_length]
  refine List.ext_getElem? fun j => ?_
  rw [wipe_get, wipe_get, hl]
  by_cases hj : j ∈ vs
  · rw [if_pos hj, if_pos hj]
  · rw [if_neg hj, if_neg hj, h.2 j fun z => hj (hs j z), wipe_get, if_neg hj]

/-! ### what is walked -/
/-- the iterator gives the items, as long as the lists stand still -/
structure Wk (X : Cx) (ρ1 : List Addr) (H1 : Hp) (s : Src) (J : It) : Prop where
  go : ∀ i ρ H M, Ext ρ1 H1 ρ H → SM X.K X.mg ρ H M → keepB s.src M = true → i < s.items.length → J.go i H
  yld : ∀ i x ρ H M v H', Ext ρ1 H1 ρ H → SM X.K X.mg ρ H M → keepB s.src M = true → s.items[i]? = some x → J.yld i H v H' → Ext ρ H ρ H' ∧ SM X.K X.mg ρ H' M ∧ RV X.K X.mg ρ H' x v
  stop : ∀ ρ H M, Ext ρ1 H1 ρ H → SM X.K X.mg ρ H M → keepB s.src M = true → J.stop s.items.length H
def WkR (X : Cx) : List Addr → Hp → Src → It → Prop := fun ρ H s J => Wk X ρ H s J ∧ ∀ M, SM X.K X.mg ρ H M → True
abbrev lI (X : Cx) (W : WX) (r : Env → Sto → Res Src) : TI := lR X (fun ρ H s J => Wk X ρ H s J) W r
theorem wk_list {ρ1 : List Addr} {H1 : Hp} {M1 : Sto} {i : Nat} {a : Addr} {xs : List PV} (h : ρ1[i]? = some a) : Wk X ρ1 H1 ⟨xs, [(i, .lst xs)]⟩ (Itl X.K a) := by
  have rd : ∀ ρ H M, Ext ρ1 H1 ρ H → SM X.K X.mg ρ H M → keepB [(i, MO.lst xs)] M = true → ∃ vs, H a = some (.lst vs) ∧ RVs X.K X.mg ρ H xs vs := fun ρ H M E S k => by
    have e : M[i]? = some (.lst xs) := by simpa [keepB] using k
    have hi : ρ[i]? = some a := by
      obtain ⟨m, q⟩ := E.pre
      have : i < ρ1.length := (List.getElem?_eq_some_iff.mp h).1
      rw [q, List.getElem?_append_left this]; exact h
    exact S.get hi e
  refine ⟨fun j ρ H M E S k hj => ?_, fun j x ρ H M v H' E S k hx y => ?_, fun ρ H M E S k => ?_⟩
  · obtain ⟨vs, h1, h2⟩ := rd ρ H M E S k
    obtain ⟨v, h3, _⟩ := h2.get (List.getElem?_eq_getElem hj)
    exact ⟨vs, v, .inl (.inl h1), h3⟩
  · obtain ⟨vs, h1, h2⟩ := rd ρ H M E S k
    obtain ⟨w, h3, h4⟩ := h2.get hx
    obtain ⟨rfl, f⟩ := y
    have := f vs (.inl (.inl h1))
    rw [h3] at this
    cases this
    exact ⟨Ext.refl _ _, S, h4⟩
  · obtain ⟨vs, h1, h2⟩ := rd ρ H M E S k
    exact ⟨vs, .inl (.inl h1), by rw [← h2.length]; exact Nat.le_refl _⟩
theorem wk_rol {ρ1 : List Addr} {H1 : Hp} {M1 : Sto} (S1 : SM X.K X.mg ρ1 H1 M1) {a : Addr} {xs : List PV} {vs : List V} (h : Fzl X.K H1 a vs) (r : RVs X.K X.mg ρ1 H1 xs vs) : Wk X ρ1 H1 ⟨xs, []⟩ (Itl X.K a) := by
  refine ⟨fun j ρ H M E S k hj => ?_, fun j x ρ H M v H' E S k hx y => ?_, fun ρ H M E S k => ?_⟩
  · have kk := Kp.of S1 E
    obtain ⟨v, h3, _⟩ := (r.kp kk).get (List.getElem?_eq_getElem hj)
    exact ⟨vs, v, (h.kp kk).sq, h3⟩
  · have kk := Kp.of S1 E
    obtain ⟨w, h3, h4⟩ := (r.kp kk).get hx
    obtain ⟨rfl, f⟩ := y
    have := f vs (h.kp kk).sq
    rw [h3] at this
    cases this
    exact ⟨Ext.refl _ _, S, h4⟩
  · have kk := Kp.of S1 E
    exact ⟨vs, (h.kp kk).sq, by rw [← r.length]; exact Nat.le_refl _⟩
theorem wk_tup {ρ1 : List Addr} {H1 : Hp} {M1 : Sto} (S1 : SM X.K X.mg ρ1 H1 M1) {a : Addr} {xs : List PV} {vs : List V} (h : SqT X.K H1 a vs) (r : RVs X.K X.mg ρ1 H1 xs vs) : Wk X ρ1 H1 ⟨xs, []⟩ (Itt X.K a) := by
  refine ⟨fun j ρ H M E S k hj => ?_, fun j x ρ H M v H' E S k hx y => ?_, fun ρ H M E S k => ?_⟩
  · have kk := Kp.of S1 E
    obtain ⟨v, h3, _⟩ := (r.kp kk).get (List.getElem?_eq_getElem hj)
    exact ⟨vs, v, SqT.kp kk h, h3⟩
  · have kk := Kp.of S1 E
    obtain ⟨w, h3, h4⟩ := (r.kp kk).get hx
    obtain ⟨rfl, f⟩ := y
    have := f vs (SqT.kp kk h)
    rw [h3] at this
    cases this
    exact ⟨Ext.refl _ _, S, h4⟩
  · have kk := Kp.of S1 E
    exact ⟨vs, SqT.kp kk h, by rw [← r.length]; exact Nat.le_refl _⟩
theorem wk_rng {ρ1 : List Addr} {H1 : Hp} (a b : Int) : Wk X ρ1 H1 ⟨rgP a b, []⟩ (Itr a (b - a).toNat) := by
  have hl : (rgP a b).length = (b - a).toNat := by unfold rgP; rw [List.length_map, List.length_range]
  refine ⟨fun j ρ H M E S k hj => ?_, fun j x ρ H M v H' E S k hx y => ?_, fun ρ H M E S k => ?_⟩
  · show j < _
    rw [← hl]; exact hj
  · obtain ⟨rfl, rfl⟩ := y
    have hj : j < (b - a).toNat := by
      have := (List.getElem?_eq_some_iff.mp hx).1
      rw [← hl]; exact this
    unfold rgP at hx
    simp only [List.getElem?_map, List.getElem?_range hj, Option.map_some] at hx
    cases hx
    exact ⟨Ext.refl _ _, S, .int _⟩
  · show _ ≤ _
    rw [← hl]; exact Nat.le_refl _
section
variable {a b c e tg : Expr} {es : List Expr} {pos p : Pos} {ra rb rc : Env → Sto → Res PV}
theorem PI.or {it : Expr} {w w' : TI} (h : PI X tg it w) (h' : PI X tg it w') : PI X tg it (fun σ H R => w σ H R ∨ w' σ H R) := ⟨fun pins s σ H R I q => q.elim (h.run pins s σ H R I) (h'.run pins s σ H R I)⟩
theorem PI.weak {it : Expr} {w w' : TI} (h : PI X tg it w) (k : ∀ σ H R, w' σ H R → w σ H R) : PI X tg it w' := ⟨fun pins s σ H R I q => h.run pins s σ H R I (k σ H R q)⟩
def evalIv (ra : Env → Sto → Res PV) : Env → Sto → Res Src := fun env M => (ra env M).bind fun x M1 => match itemsV M1 x with
    | some xs => .ok ⟨xs, srcOf M1 x⟩ M1
    | none => .bad
/-- what stands of a source at a later turn -/
def Stays (X : Cx) (ρ1 : List Addr) (H1 : Hp) (src : List (Nat × MO)) (k : Sk) (xs : List PV) : Prop := ∀ ρ H M, Ext ρ1 H1 ρ H → SM X.K X.mg ρ H M → keepB src M = true → ∃ us, k.items X.K H us ∧ RVs X.K X.mg ρ H xs us
theorem rvs_signs {ρ : List Addr} {H : Hp} : ∀ l : List Nat, RVs X.K X.mg ρ H (l.map fun c => .str ⟨#[c]⟩) (l.map fun c => V.str ⟨#[c]⟩)
  | [] => .nil
  | c :: l => .cons (.str _) (rvs_signs l)
theorem sk_of {ρ1 : List Addr} {H1 : Hp} {M1 : Sto} {x : PV} {v : V} {xs : List PV} (S1 : SM X.K X.mg ρ1 H1 M1) (r : RV X.K X.mg ρ1 H1 x v) (q : itemsV M1 x = some xs) : ∃ k, SkV k v ∧ Stays X ρ1 H1 (srcOf M1 x) k xs := by
  cases x with
  | str z =>
    cases r.str_inv
    have q : some (z.cps.toList.map fun c => PV.str ⟨#[c]⟩) = some xs := q
    cases q
    exact ⟨.txt z, rfl, fun ρ H M E S k => ⟨_, rfl, rvs_signs _⟩⟩
  | tup ys =>
    have q : some ys = some xs := q
    cases q
    obtain ⟨a, vs, rfl, h1, h2⟩ := r.tup_inv
    exact ⟨.tup a, rfl, fun ρ H M E S k => ⟨vs, SqT.kp (.of S1 E) h1, h2.kp (.of S1 E)⟩⟩
  | rol ys =>
    have q : some ys = some xs := q
    cases q
    obtain ⟨a, vs, rfl, h1, h2⟩ := r.rol_inv
    exact ⟨.lst a, rfl, fun ρ H M E S k => ⟨vs, (h1.kp (.of S1 E)).sq, h2.kp (.of S1 E)⟩⟩
  | ref i =>
    have q : lstOf M1 i = some xs := q
    obtain ⟨a, rfl, hi⟩ := r.ref_inv
    have qm : M1[i]? = some (.lst xs) := by
      unfold lstOf at q
      cases z : M1[i]? with
      | none => rw [z] at q; cases q
      | some o =>
        rw [z] at q
        cases o with
        | lst _ => cases q; rfl
        | dct _ => cases q
        | tab _ => cases q
    have es : srcOf M1 (.ref i) = [(i, .lst xs)] := by simp only [srcOf, qm]
    rw [es]
    refine ⟨.lst a, rfl, fun ρ H M E S k => ?_⟩
    have e : M[i]? = some (.lst xs) := by simpa [keepB] using k
    have hi2 : ρ[i]? = some a := by
      obtain ⟨m, q⟩ := E.pre
      have : i < ρ1.length := (List.getElem?_eq_some_iff.mp hi).1
      rw [q, List.getElem?_append_left this]; exact hi
    obtain ⟨vs, h1, h2⟩ := S.get hi2 e
    exact ⟨vs, .inl (.inl h1), h2⟩
  | non => cases (show (none : Option (List PV)) = some xs from q)
  | bl _ => cases (show (none : Option (List PV)) = some xs from q)
  | int _ => cases (show (none : Option (List PV)) = some xs from q)
  | glo _ => cases (show (none : Option (List PV)) = some xs from q)
  | ty _ => cases (show (none : Option (List PV)) = some xs from q)
/-- a plain walk of it -/
def Sk.plain (K : PySem.W.Frag) : Sk → It
  | .lst a => Itl K a
  | .tup a => Itt K a
  | .txt z => Its z
theorem wk_plain {ρ1 : List Addr} {H1 : Hp} {src : List (Nat × MO)} {k : Sk} {xs : List PV} (h : Stays X ρ1 H1 src k xs) : Wk X ρ1 H1 ⟨xs, src⟩ (k.plain X.K) := by
  refine ⟨fun j ρ H M E S q hj => ?_, fun j x ρ H M v H' E S q hx y => ?_, fun ρ H M E S q => ?_⟩
  · obtain ⟨us, h1, h2⟩ := h ρ H M E S q
    obtain ⟨v, h3, _⟩ := h2.get (List.getElem?_eq_getElem hj)
    cases k with
    | lst a => exact ⟨us, v, h1, h3⟩
    | tup a => exact ⟨us, v, h1, h3⟩
    | txt z =>
      have hl := h2.length
      have h1 : us = _ := h1
      rw [h1] at hl
      simp only [List.length_map, Array.length_toList] at hl
      show j < z.cps.size
      have hj : j < xs.length := hj
      omega
  · obtain ⟨us, h1, h2⟩ := h ρ H M E S q
    obtain ⟨w, h3, h4⟩ := h2.get hx
    cases k with
    | lst a =>
      obtain ⟨rfl, f⟩ := y
      have := f us h1
      rw [h3] at this; cases this
      exact ⟨Ext.refl _ _, S, h4⟩
    | tup a =>
      obtain ⟨rfl, f⟩ := y
      have := f us h1
      rw [h3] at this; cases this
      exact ⟨Ext.refl _ _, S, h4⟩
    | txt z =>
      obtain ⟨rfl, c, hc, rfl⟩ := y
      have h1 : us = _ := h1
      rw [h1] at h3
      simp [hc] at h3
      subst h3
      exact ⟨Ext.refl _ _, S, h4⟩
  · obtain ⟨us, h1, h2⟩ := h ρ H M E S q
    cases k with
    | lst a => exact ⟨us, h1, by rw [← h2.length]; exact Nat.le_refl _⟩
    | tup a => exact ⟨us, h1, by rw [← h2.length]; exact Nat.le_refl _⟩
    | txt z =>
      have hl := h2.length
      have h1 : us = _ := h1
      rw [h1] at hl
      simp only [List.length_map, Array.length_toList] at hl
      show z.cps.size ≤ xs.length
      omega
theorem i_iv (ha : PE X a (lE X W ra)) : PI X tg a (lI X W (evalIv ra)) := by
  refine PI.weak (PI.or (pi_list ha) (PI.or (pi_tup ha) (pi_str ha))) fun σ H R h => ?_
  obtain ⟨ρ, env, M, S, E, h⟩ := h
  unfold evalIv at h
  cases qa : ra env M with
  | bad => rw [qa] at h; exact h.elim
  | exc x M1 => rw [qa] at h; exact .inl ⟨ρ, env, M, S, E, by rw [qa]; exact h⟩
  | ok x M1 =>
    rw [qa, Res.bind_ok] at h
    cases qs : itemsV M1 x with
    | none => rw [qs] at h; exact h.elim
    | some xs =>
      rw [qs] at h
      have key : ∀ ρ1 v H1, Ext ρ H ρ1 H1 → SM X.K X.mg ρ1 H1 M1 → RV X.K X.mg ρ1 H1 x v → ∃ k : Sk, SkV k v ∧ (∃ us, k.items X.K H1 us) ∧ R (k.plain X.K) H1 := fun ρ1 v H1 e1 S1 r1 => by
        obtain ⟨k, h1, h2⟩ := sk_of S1 r1 qs
        have kp0 : keepB (srcOf M1 x) M1 = true := by
          unfold srcOf
          split
          · split
            · rename_i i o q; simp [keepB, q]
            · rfl
          · rfl
        obtain ⟨us, i1, _⟩ := h2 ρ1 H1 M1 (Ext.refl _ _) S1 kp0
        exact ⟨k, h1, ⟨us, i1⟩, h ρ1 _ H1 e1 S1 (wk_plain h2)⟩
      by_cases c : ∃ ys, x = .tup ys
      · obtain ⟨ys, rfl⟩ := c
        refine .inr (.inl ⟨ρ, env, M, S, E, ?_⟩)
        rw [qa]
        intro ρ1 v H1 e1 S1 r1
        obtain ⟨k, hv, ⟨us, hu⟩, hR⟩ := key ρ1 v H1 e1 S1 r1
        obtain ⟨a, vs, rfl, h1, h2⟩ := r1.tup_inv
        exact ⟨a, rfl, ⟨vs, h1⟩, h ρ1 _ H1 e1 S1 (by cases qs; exact wk_tup S1 h1 h2)⟩
      · by_cases c2 : ∃ z, x = .str z
        · obtain ⟨z, rfl⟩ := c2
          refine .inr (.inr ⟨ρ, env, M, S, E, ?_⟩)
          rw [qa]
          intro ρ1 v H1 e1 S1 r1
          cases r1.str_inv
          obtain ⟨k, h1, h2⟩ := sk_of S1 r1 qs
          refine ⟨z, rfl, h ρ1 _ H1 e1 S1 ?_⟩
          cases k with
          | lst a => cases h1
          | tup a => cases h1
          | txt y => cases h1; exact wk_plain h2
        · refine .inl ⟨ρ, env, M, S, E, ?_⟩
          rw [qa]
          intro ρ1 v H1 e1 S1 r1
          cases x <;> first | (cases (show (none : Option (List PV)) = some xs from qs); done) | (exact absurd ⟨_, rfl⟩ c) | (exact absurd ⟨_, rfl⟩ c2) | skip
          · obtain ⟨a, vs, rfl, h1, h2⟩ := r1.rol_inv
            have qs : some _ = some xs := qs
            cases qs
            exact ⟨a, rfl, ⟨vs, h1.sq⟩, h ρ1 _ H1 e1 S1 (wk_rol S1 h1 h2)⟩
          · obtain ⟨k, h1, h2⟩ := sk_of S1 r1 qs
            rename_i i
            obtain ⟨q, vs, rfl, hi, i1, i2⟩ := lst_read S1 r1 (show lstOf M1 i = some xs from qs)
            refine ⟨q, rfl, ⟨vs, .inl (.inl i1)⟩, h ρ1 _ H1 e1 S1 ?_⟩
            have qm : M1[i]? = some (.lst xs) := by
              have qs' : lstOf M1 i = some xs := qs
              unfold lstOf at qs'
              cases z : M1[i]? with
              | none => rw [z] at qs'; cases qs'
              | some o =>
                rw [z] at qs'
                cases o with
                | lst _ => cases qs'; rfl
                | dct _ => cases qs'
                | tab _ => cases qs'
            have es : srcOf M1 (.ref i) = [(i, .lst xs)] := by simp only [srcOf, qm]
            rw [es]
            exact wk_list (M1 := M1) hi
theorem i_rg1 (hg : Gl X "range") (hm : X.mg "range" = none) (ha : PE X a (lE X W ra)) (hs : isStar a = false) : PI X tg (.Call (.Name "range" p) [a] [] pos) (lI X W fun env M => (ra env M).bind fun x M1 => match x with
    | .int n => if rgOk 0 n = true then .ok ⟨rgP 0 n, []⟩ M1 else .bad
    | _ => .bad) := by
  refine PI.weak (pi_range1 hg hm (pa_cons ha pa_nil (star_ne hs _ _)) (star_ne hs _ _)) fun σ H R h => ?_
  refine lR.chain h fun ρ env M x M1 ρ1 v H1 S E e1 S1 E1 r1 h1 => ?_
  cases x <;> first | exact h1.elim | skip
  cases r1.int_inv
  rename_i n
  have h1 : Post X.K X.mg (fun ρ H s J => Wk X ρ H s J) (fun c d H' => W c d σ H') ρ1 H1 (if rgOk 0 n = true then .ok ⟨rgP 0 n, []⟩ M1 else .bad) R := h1
  split at h1
  · rename_i c
    simp only [rgOk, Bool.and_eq_true, decide_eq_true_eq] at c
    refine ⟨n, rfl, c.1.2, c.2, ?_⟩
    have q := wk_rng (X := X) (ρ1 := ρ1) (H1 := H1) 0 n
    rw [Int.sub_zero] at q
    exact h1 ρ1 _ H1 (Ext.refl _ _) S1 q
  · exact h1.elim
theorem i_rg2 (hg : Gl X "range") (hm : X.mg "range" = none) (ha : PE X a (lE X W ra)) (hb : PE X b (lE X W rb)) (hs : isStar a = false) (hs2 : isStar b = false) : PI X tg (.Call (.Name "range" p) [a, b] [] pos) (lI X W fun env M => (ra env M).bind fun x M1 => (rb env M1).bind fun y M2 => match x, y with
    | .int i, .int j => if rgOk i j = true then .ok ⟨rgP i j, []⟩ M2 else .bad
    | _, _ => .bad) := by
  refine PI.weak (pi_range2 hg hm (pa_cons ha (pa_cons hb pa_nil (star_ne hs2 _ _)) (star_ne hs _ _)) (by rw [star_ne hs, star_ne hs2]; rfl) (star_ne hs2 _ _)) fun σ H R h => ?_
  refine lR.chain h fun ρ env M x M1 ρ1 v H1 S E e1 S1 E1 r1 h1 => ?_
  refine ⟨ρ1, env, M1, S1, E1, h1.chain fun y M2 ρ2 w H2 e2 S2 r2 h2 => ?_⟩
  split at h2
  · cases r1.int_inv; cases r2.int_inv
    rename_i i j
    split at h2
    · rename_i c
      simp only [rgOk, Bool.and_eq_true, decide_eq_true_eq] at c
      exact ⟨_, _, rfl, ⟨c.1.1.1, c.1.1.2, c.1.2, c.2⟩, h2 ρ2 _ H2 (Ext.refl _ _) S2 (wk_rng _ _)⟩
    · exact h2.elim
  · exact h2.elim
/-! ### comprehensions -/
theorem drop_get {α : Type} {xs : List α} {i : Nat} {x : α} {r : List α} (h : xs.drop i = x :: r) : xs[i]? = some x ∧ xs.drop (i + 1) = r ∧ i < xs.length := by
  have hl : i < xs.length := by
    by_cases z : i < xs.length
    · exact z
    · rw [List.drop_eq_nil_of_le (by omega)] at h; cases h
  rw [List.drop_eq_getElem_cons hl] at h
  cases h
  exact ⟨List.getElem?_eq_getElem hl, rfl, hl⟩
def W0 : WX := fun _ _ _ _ => False
/-- the block of a comprehension, at any start -/
abbrev Blk (X : Cx) (scope : Scope) (s : Shared) (H : Hp) (C : Addr) (cl : List (Str × Addr)) (fp : List Addr) : Cx := X.blk s H scope (compEnvC scope cl C X.env) fp
def lComp (t : CT) (own : List Nat) (ri : Env → Sto → Res Src) (rt : Env → Sto → Res Bool) (re : Env → Sto → Res PV) : Env → Sto → Res PV := fun env M => (ri env M).bind fun s M1 =>
    (compL (compG t (wipeP env own) rt re) (keepB s.src) s.items M1 []).bind fun ys M2 => alloc (.lst ys) M2
theorem comp_in {t : CT} {own : List Nat} {ri : Env → Sto → Res Src} {rt : Env → Sto → Res Bool} {re : Env → Sto → Res PV} {σ : St} {H : Hp} {Q : VK} (hsl : ∀ j ∈ ctSlots t, j ∈ own) (h : lE X W (lComp t own ri rt re) σ H Q) : tLc (lI X W ri) (lG X t) (lB X W0 rt) (lE X W0 re) own σ H Q := by
  unfold lComp at h
  refine lR.chain h fun ρ env M s M1 ρ1 J H1 S E e1 S1 E1 wk h1 D hD => ?_
  have hDρ : D ∉ ρ1 := S1.out hD
  -- what holds between two turns
  have key : ∃ W' : Nat → Nat → Hp → Prop, (∃ m, W' 0 m (upd H1 D (.lst []))) ∧ ∀ i m H, W' i m H →
      (J.stop i H ∧ Q (.ref D) H) ∨ (J.go i H ∧ ∃ Nx : Hp → Prop, (∀ H', Nx H' → ∃ m', m' < m ∧ W' (i + 1) m' H') ∧ ∀ x H', J.yld i H x H' → lG X t x (wipe σ own) H' fun σ2 H2 => wipe σ2 own = wipe σ own ∧ lB X W0 rt σ2 H2 fun b H3 =>
        if b = true then lE X W0 re σ2 H3 fun y H4 => ∃ acc, H4 D = some (.lst acc) ∧ acc.length < sizeLine ∧ Nx (upd H4 D (.lst (acc ++ [y]))) else Nx H3) := by
    let Pv : Nat → Hp → Prop := fun i H => ∃ ρ M acc accV, Ext ρ1 H1 ρ H ∧ SM X.K X.mg ρ H M ∧ D ∉ ρ ∧ H D = some (.lst accV) ∧ RVs X.K X.mg ρ H acc accV ∧
      PostV X.K X.mg (fun c d H' => W c d σ H') ρ1 H1 ((compL (compG t (wipeP env own) rt re) (keepB s.src) (s.items.drop i) M acc).bind fun ys M2 => alloc (.lst ys) M2) Q
    refine ⟨fun i m H => m = s.items.length - i ∧ i ≤ s.items.length ∧ Pv i H, ⟨s.items.length, rfl, Nat.zero_le _, ρ1, M1, [], [], Ext.upd hD, S1.upd hD, hDρ, upd_same, .nil, by rw [List.drop_zero]; exact h1⟩, ?_⟩
    rintro i m H2 ⟨rfl, hi, ρ2, M2, acc, accV, e2, S2, hD2, hH2, r2, h2⟩
    have k2 : keepB s.src M2 = true := by
      cases q : s.items.drop i with
      | nil =>
        rw [q] at h2
        simp only [compL] at h2
        by_cases k : keepB s.src M2 = true
        · exact k
        · rw [if_neg k] at h2; exact h2.elim
      | cons x r =>
        rw [q] at h2
        simp only [compL] at h2
        by_cases k : keepB s.src M2 = true
        · exact k
        · rw [if_neg k] at h2; exact h2.elim
    cases q : s.items.drop i with
    | nil =>
      have hl : i = s.items.length := by
        have := congrArg List.length q
        rw [List.length_drop] at this
        simp at this
        omega
      rw [q] at h2
      simp only [compL, if_pos k2, Res.bind_ok] at h2
      refine .inl ⟨by rw [hl]; exact wk.stop ρ2 H2 M2 e2 S2 k2, ?_⟩
      exact h2 (ρ2 ++ [D]) (.ref D) H2 (e2.join hD) (S2.adopt (o := .lst acc) (ho := .lst accV) hD2 hH2 r2) (RV.new S2)
    | cons x r =>
      obtain ⟨gx, gr, gi⟩ := drop_get q
      rw [q] at h2
      simp only [compL, if_pos k2] at h2
      refine .inr ⟨wk.go i ρ2 H2 M2 e2 S2 k2 gi, Pv (i + 1), fun H' p' => ⟨s.items.length - (i + 1), by omega, rfl, gi, p'⟩, fun v H3 y => ?_⟩
      obtain ⟨e3, S3, r3⟩ := wk.yld i x ρ2 H2 M2 v H3 e2 S2 k2 gx y
      have E3 : RE X.K X.mg ρ2 H3 env σ := E1.mono S1 (e2.trans e3)
      have hH3 : H3 D = some (.lst accV) := e3.keep D _ hH2 hD2
      have r2' : RVs X.K X.mg ρ2 H3 acc accV := r2.mono S2 e3
      unfold compG at h2
      cases qa : asgT t x (wipeP env own) with
      | none => rw [qa] at h2; exact h2.elim
      | some env1 =>
        rw [qa] at h2
        refine ⟨ρ2, wipeP env own, M2, x, env1, S3, E3.wipe own, r3, qa, fun σ2 E4 o4 => ⟨wipe_off o4 hsl, ρ2, env1, M2, S3, E4, ?_⟩⟩
        simp only at h2
        cases qt : rt env1 M2 with
        | bad => rw [qt] at h2; exact h2.elim
        | exc z M3 => rw [qt] at h2; exact h2.elim
        | ok b M3 =>
          rw [qt] at h2
          simp only [Res.bind_ok] at h2
          intro ρ4 b' H4 e4 S4 rb
          cases rb
          have hD4 : D ∉ ρ4 := fun z => by
            have := e4.new D z hD2
            rw [hH3] at this; cases this
          have hH4 : H4 D = some (.lst accV) := e4.keep D _ hH3 hD2
          have e14 : Ext ρ1 H1 ρ4 H4 := (e2.trans e3).trans e4
          cases b with
          | false =>
            rw [if_neg Bool.false_ne_true]
            exact ⟨ρ4, M3, acc, accV, e14, S4, hD4, hH4, r2'.mono S3 e4, by rw [gr]; exact h2⟩
          | true =>
            rw [if_pos rfl]
            refine ⟨ρ4, env1, M3, S4, E4.mono S3 e4, ?_⟩
            simp only at h2
            cases qe : re env1 M3 with
            | bad => rw [qe] at h2; exact h2.elim
            | exc z M4 => rw [qe] at h2; exact h2.elim
            | ok y M4 =>
              rw [qe] at h2
              simp only [Res.bind_ok] at h2
              intro ρ5 w H5 e5 S5 ry
              have hD5 : D ∉ ρ5 := fun z => by
                have := e5.new D z hD4
                rw [hH4] at this; cases this
              have hH5 : H5 D = some (.lst accV) := e5.keep D _ hH4 hD4
              have r5 : RVs X.K X.mg ρ5 H5 acc accV := (r2'.mono S3 e4).mono S4 e5
              by_cases c : acc.length < sizeLine
              · rw [if_pos c] at h2
                have kp : Kp ρ5 H5 ρ5 (upd H5 D (.lst (accV ++ [w]))) := Kp.side hH5 (fun _ z => nomatch z) (fun _ _ z => nomatch z) (fun _ z => nomatch z)
                exact ⟨accV, hH5, by rw [← r5.length]; exact c, ρ5, M4, acc ++ [y], accV ++ [w], (e14.trans e5).also hD, S5.side hD5 hH5 (fun _ z => nomatch z) (fun _ _ z => nomatch z) (fun _ z => nomatch z), hD5, upd_same, (r5.append (.cons ry .nil)).kp kp, by rw [gr]; exact h2⟩
              · rw [if_neg c] at h2; exact h2.elim
  exact key
theorem s_comp {x iter : Expr} {tests : List Expr} {sc : Scope} {own : List Nat} {ow : List (Str × Nat)} {t : CT} {ri : Env → Sto → Res Src} {rt : Env → Sto → Res Bool} {re : Env → Sto → Res PV} (hc : X.calm = true) (hN : X.N.Nodup) (hi : PI X tg iter (lI X W ri)) (ok : BlkOk X.N X.env.scope sc ow) (how : ow.map (·.2) = own)
    (hg : ∀ s H C cl fp, PG (Blk X sc s H C cl fp) tg (lG X t)) (ht : ∀ s H C cl fp, PTs (Blk X sc s H C cl fp) tests (lB X W0 rt)) (he : ∀ s H C cl fp, PE (Blk X sc s H C cl fp) x (lE X W0 re)) (hs : isSet iter = false) (hsl : ∀ j ∈ ctSlots t, j ∈ own) :
    PE X (.ListComp x [⟨tg, iter, tests, 0⟩] sc pos) (lE X W (lComp t own ri rt re)) := by
  subst how
  exact PE.weak (pe_lc (own := ow) hc hN hi ok hg ht he (folded_ne hs _)) fun σ H Q h => comp_in hsl h
/-- name = [..], the name a local -/
theorem x_setc {x iter : Expr} {tests : List Expr} {sc : Scope} {own : List Nat} {ow : List (Str × Nat)} {t : CT} {ri : Env → Sto → Res Src} {rt : Env → Sto → Res Bool} {re : Env → Sto → Res PV} {i : Nat} {y : Str} {py spos : Pos} (hc : X.calm = true) (hN : X.N.Nodup) (hy : X.N[i]? = some y) (hyl : X.env.scope.names.lookup y = some .local)
    (hsw : swapsWith (.ListComp x [⟨tg, iter, tests, 0⟩] sc pos) (some (.Name y py)) spos.line X.env = pure true) (hi : PI X tg iter (lI X W ri)) (ok : BlkOk X.N X.env.scope sc ow) (how : ow.map (·.2) = own)
    (hg : ∀ s H C cl fp, PG (Blk X sc s H C cl fp) tg (lG X t)) (ht : ∀ s H C cl fp, PTs (Blk X sc s H C cl fp) tests (lB X W0 rt)) (he : ∀ s H C cl fp, PE (Blk X sc s H C cl fp) x (lE X W0 re)) (hs : isSet iter = false) (hsl : ∀ j ∈ ctSlots t, j ∈ own) :
    PS X (.Assign [.Name y py] (.ListComp x [⟨tg, iter, tests, 0⟩] sc pos) spos) (tAsg (lE X W (lComp t own ri rt re)) (gName i)) := by
  subst how
  refine ⟨fun pins s σ H D I h => (ps_setLc (own := ow) hc hN hy hyl hsw hi ok hg ht he (folded_ne hs _)).run pins s σ H D I ?_⟩
  exact comp_in hsl h
theorem keep_src {M : Sto} (x : PV) : keepB (srcOf M x) M = true := by
  unfold srcOf
  split
  · split
    · rename_i i o q; simp [keepB, q]
    · rfl
  · rfl
theorem num_len (xs : List PV) : (numP xs).length = xs.length := by simp [numP]
theorem num_at {xs : List PV} {i : Nat} {x : PV} (h : (numP xs)[i]? = some x) : ∃ y, xs[i]? = some y ∧ x = .tup [.int (i : Nat), y] := by
  have hi : i < xs.length := by have := (List.getElem?_eq_some_iff.mp h).1; rw [num_len] at this; exact this
  refine ⟨xs[i], List.getElem?_eq_getElem hi, ?_⟩
  simp [numP, List.getElem?_zipWith, List.getElem?_range hi, List.getElem?_eq_getElem hi] at h
  exact h.symm
theorem zip_len (xs ys : List PV) : (zipP xs ys).length = min xs.length ys.length := by simp [zipP]
theorem zip_at {xs ys : List PV} {i : Nat} {x : PV} (h : (zipP xs ys)[i]? = some x) : ∃ y z, xs[i]? = some y ∧ ys[i]? = some z ∧ x = .tup [y, z] := by
  have hi : i < min xs.length ys.length := by have := (List.getElem?_eq_some_iff.mp h).1; rw [zip_len] at this; exact this
  have h1 : i < xs.length := by omega
  have h2 : i < ys.length := by omega
  refine ⟨xs[i], ys[i], List.getElem?_eq_getElem h1, List.getElem?_eq_getElem h2, ?_⟩
  simp [zipP, List.getElem?_zipWith, List.getElem?_eq_getElem h1, List.getElem?_eq_getElem h2] at h
  exact h.symm
theorem wk_enum {ρ1 : List Addr} {H1 : Hp} {src : List (Nat × MO)} {k : Sk} {xs : List PV} (h : Stays X ρ1 H1 src k xs) : Wk X ρ1 H1 ⟨numP xs, src⟩ (Iye X.K k) := by
  refine ⟨fun j ρ H M E S q hj => ?_, fun j x ρ H M v H' E S q hx y => ?_, fun ρ H M E S q => ?_⟩
  · obtain ⟨us, h1, h2⟩ := h ρ H M E S q
    have hj : j < xs.length := by rw [← num_len]; exact hj
    obtain ⟨v, h3, _⟩ := h2.get (List.getElem?_eq_getElem hj)
    exact ⟨us, v, h1, h3⟩
  · obtain ⟨us, h1, h2⟩ := h ρ H M E S q
    obtain ⟨z, hz, rfl⟩ := num_at hx
    obtain ⟨w, h3, h4⟩ := h2.get hz
    obtain ⟨T, u, rfl, hT, rfl, f⟩ := y
    have := f us h1
    rw [h3] at this; cases this
    exact ⟨Ext.upd hT, S.upd hT, .tup (.inl (.inl upd_same)) (.cons (.int _) (.cons (RV.mono S (Ext.upd hT) h4) .nil))⟩
  · obtain ⟨us, h1, h2⟩ := h ρ H M E S q
    exact ⟨us, h1, by show (numP xs).length = _; rw [num_len, h2.length]⟩
theorem keep_app {s1 s2 : List (Nat × MO)} {M : Sto} (h : keepB (s1 ++ s2) M = true) : keepB s1 M = true ∧ keepB s2 M = true := by
  unfold keepB at h ⊢
  rw [List.all_append, Bool.and_eq_true] at h
  exact h
theorem wk_zip {ρ1 : List Addr} {H1 : Hp} {s1 s2 : List (Nat × MO)} {k l : Sk} {xs ys : List PV} (h : Stays X ρ1 H1 s1 k xs) (g : Stays X ρ1 H1 s2 l ys) : Wk X ρ1 H1 ⟨zipP xs ys, s1 ++ s2⟩ (Iyz X.K k l) := by
  refine ⟨fun j ρ H M E S q hj => ?_, fun j x ρ H M v H' E S q hx y => ?_, fun ρ H M E S q => ?_⟩
  · obtain ⟨us, h1, h2⟩ := h ρ H M E S (keep_app q).1
    obtain ⟨ws, g1, g2⟩ := g ρ H M E S (keep_app q).2
    have hj : j < min xs.length ys.length := by rw [← zip_len]; exact hj
    obtain ⟨v, h3, _⟩ := h2.get (List.getElem?_eq_getElem (show j < xs.length by omega))
    obtain ⟨w, g3, _⟩ := g2.get (List.getElem?_eq_getElem (show j < ys.length by omega))
    exact ⟨us, ws, v, w, h1, g1, h3, g3⟩
  · obtain ⟨us, h1, h2⟩ := h ρ H M E S (keep_app q).1
    obtain ⟨ws, g1, g2⟩ := g ρ H M E S (keep_app q).2
    obtain ⟨z, z2, hz, hz2, rfl⟩ := zip_at hx
    obtain ⟨w, h3, h4⟩ := h2.get hz
    obtain ⟨w2, g3, g4⟩ := g2.get hz2
    obtain ⟨T, u, u2, rfl, hT, rfl, f, f2⟩ := y
    have a := f us h1
    rw [h3] at a; cases a
    have b := f2 ws g1
    rw [g3] at b; cases b
    exact ⟨Ext.upd hT, S.upd hT, .tup (.inl (.inl upd_same)) (.cons (RV.mono S (Ext.upd hT) h4) (.cons (RV.mono S (Ext.upd hT) g4) .nil))⟩
  · obtain ⟨us, h1, h2⟩ := h ρ H M E S (keep_app q).1
    obtain ⟨ws, g1, g2⟩ := g ρ H M E S (keep_app q).2
    exact ⟨us, ws, h1, g1, by show (zipP xs ys).length = _; rw [zip_len, h2.length, g2.length]⟩
theorem i_ienum {elts : List Expr} {kk : Nat} {tpos : Pos} (hg : Gl X "enumerate") (hm : X.mg "enumerate" = none) (ha : PE X a (lE X W ra)) (hs : isStar a = false) : PI X (.Tuple elts kk tpos) (.Call (.Name "enumerate" p) [a] [] pos) (lI X W fun env M => (ra env M).bind fun x M1 => match itemsV M1 x with
    | some xs => .ok ⟨numP xs, srcOf M1 x⟩ M1
    | none => .bad) := by
  refine PI.weak (pi_enumW hg hm (pa_cons ha pa_nil (star_ne hs _ _)) (star_ne hs _ _)) fun σ H R h => ?_
  refine lR.chain h fun ρ env M x M1 ρ1 v H1 S E e1 S1 E1 r1 h1 => ?_
  cases qs : itemsV M1 x with
  | none => rw [qs] at h1; exact h1.elim
  | some xs =>
    rw [qs] at h1
    obtain ⟨k, a1, a2⟩ := sk_of S1 r1 qs
    obtain ⟨us, i1, _⟩ := a2 ρ1 H1 M1 (Ext.refl _ _) S1 (keep_src x)
    exact ⟨v, k, us, rfl, a1, i1, h1 ρ1 _ H1 (Ext.refl _ _) S1 (wk_enum a2)⟩
theorem i_izip {elts : List Expr} {kk : Nat} {tpos : Pos} (hg : Gl X "zip") (hm : X.mg "zip" = none) (ha : PE X a (lE X W ra)) (hb : PE X b (lE X W rb)) (hs : isStar a = false) (hs2 : isStar b = false) : PI X (.Tuple elts kk tpos) (.Call (.Name "zip" p) [a, b] [] pos) (lI X W fun env M => (ra env M).bind fun x M1 => (rb env M1).bind fun y M2 => match itemsV M2 x, itemsV M2 y with
    | some xs, some ys => .ok ⟨zipP xs ys, srcOf M2 x ++ srcOf M2 y⟩ M2
    | _, _ => .bad) := by
  refine PI.weak (pi_zipW hg hm (pa_cons ha (pa_cons hb pa_nil (star_ne hs2 _ _)) (star_ne hs _ _)) (star_ne hs _ _) (by rw [star_ne hs2]; rfl)) fun σ H R h => ?_
  refine lR.chain h fun ρ env M x M1 ρ1 v H1 S E e1 S1 E1 r1 h1 => ?_
  refine ⟨ρ1, env, M1, S1, E1, h1.chain fun y M2 ρ2 w H2 e2 S2 r2 h2 => ?_⟩
  have r1' := r1.mono S1 e2
  cases qs : itemsV M2 x with
  | none => rw [qs] at h2; exact h2.elim
  | some xs =>
    cases qt : itemsV M2 y with
    | none => rw [qs, qt] at h2; exact h2.elim
    | some ys =>
      rw [qs, qt] at h2
      obtain ⟨k, a1, a2⟩ := sk_of S2 r1' qs
      obtain ⟨l, b1, b2⟩ := sk_of S2 r2 qt
      obtain ⟨us, i1, _⟩ := a2 ρ2 H2 M2 (Ext.refl _ _) S2 (keep_src x)
      obtain ⟨ws, j1, _⟩ := b2 ρ2 H2 M2 (Ext.refl _ _) S2 (keep_src y)
      exact ⟨v, w, k, l, us, ws, rfl, a1, b1, i1, j1, h2 ρ2 _ H2 (Ext.refl _ _) S2 (wk_zip a2 b2)⟩
end
end
end Ev

set_option Elab.async false
set_option linter.all false
set_option maxRecDepth 100000
set_option maxHeartbeats 4000000
/-! EvM: min(.., key=lambda x: ..). -/
namespace Ev
open PySem L2 PySem.Spec LamX
open PyProof.Rows hiding St
/-! ### the lambda is made -/
/-- a lambda's function object -/
def LamO (X : Cx) (params : Arguments) (body : Expr) (scope : Scope) (f c' : Addr) : HO := .ext fun h => ∃ (pm ctv : Value), h.get? f = some (PySem.W.kla_obj "<lambda>" (X.env.qual ++ "<lambda>") params body scope (cloFrom X.env.cells scope.names []) pm c' ctv)
section
variable {X : Cx} {pins : List (Addr × Obj)} {σ : St} {H : Hp} {s : Shared}
/-- what the table tells -/
def TabN (H : Hp) (q : Str) (ps : Array Value) : Prop := TriplesOk ps.toList ∧ ∀ (pos : Pos) (cv : Value), codeAmong pos ps.toList = some cv → ∃ c, cv = .ref c ∧ H c = some (CodeO c q)
theorem lamO_new {h : Heap} {f c' : Addr} {pm ctv : Value} {params : Arguments} {body : Expr} {scope : Scope} {H : Hp} {P : Program} {w : World}
    (e : h.get? f = some (PySem.W.kla_obj "<lambda>" (X.env.qual ++ "<lambda>") params body scope (cloFrom X.env.cells scope.names []) pm c' ctv)) : ObjOk P w H h f (LamO X params body scope f c') :=
  ⟨⟨pm, ctv, e⟩, ⟨_, e⟩, fun h1 h2 ⟨pm, ctv, e⟩ st => ⟨pm, ctv, st _ e⟩⟩
theorem lam_make3 {c P : Addr} {ps : Array Value} {params : Arguments} {body : Expr} {scope : Scope} {pos : Pos} {E : Value → Shared → Prop} {Q : Value → Shared → Prop} (I : Inv X pins σ H s) (TB : TabB X.base X.mg c P) (hcode : X.env.code = .ref c)
    (hP : H P = some (.tbl ps)) (hT : TabN H (X.env.qual ++ "<lambda>") ps) (hdef : defaultsOf params X.env = ([], [])) (hfree : ∀ y ∈ scope.names, y.2 = .free → ∃ c, X.env.cells.lookup y.1 = some c)
    (h : ∀ (f c' : Addr) (H1 : Hp) (ps' : Array Value) (s' : Shared), Inv X pins σ H1 s' → H1 P = some (.tbl ps') → TabN H1 (X.env.qual ++ "<lambda>") ps' → (∀ b o, b ≠ P → H b = some o → H1 b = some o) →
      H1 f = some (LamO X params body scope f c') → H1 c' = some (CodeO c' (X.env.qual ++ "<lambda>")) → Q (.ref f) s') :
    wpAny (model X.prog X.w) X.A (eval (.Lambda params body scope pos) X.env) Q E s := by
  obtain ⟨ht, ha⟩ := hT
  refine PySem.W.kla_eval hdef ?_
  have bP : s.heap.BuiltinsAt X.mg P := TB.bm.keeps I.bk
  have hP' : s.heap.get? P = some { cls := .none, data := .fields ps } := I.hok P _ hP
  cases hc : codeAmong pos ps.toList with
  | none =>
    refine PySem.W.kla_makeFunction (mg := X.mg) (c := c) (P := P) (ps := ps) (closure_ok hfree) I.ok.glob (I.mod.glob.keeps I.bk) hcode (TB.code.keeps I.bk) hP' ht hc TB.gP bP fun c' ctv h' tk hx hge hlt hrec htb => ?_
    obtain ⟨c2, oc, vs, t, e2, hoc, hd, hv⟩ := hrec
    cases e2
    have hsz : s.heap.objs.size ≤ h'.objs.size := Nat.le_trans hge (Nat.le_of_lt hlt)
    have nC : H c' = none := I.hok.fresh hge
    have nPc : P ≠ c' := ne_of_none hP nC
    have I1 := inv_table (t' := tk) (more := #[rawInt pos.line, rawInt pos.col, .ref c']) (h' := h') I hP (fun b o hb e => hx b o hb e) htb hge ⟨oc, vs, t, hoc, hd, hv⟩
    have nP2 : h'.objs.size ≠ P := Nat.ne_of_gt (Nat.lt_of_lt_of_le (Heap.lt_size hP') hsz)
    have nC2 : h'.objs.size ≠ c' := Nat.ne_of_gt hlt
    have I2 := I1.laid (a := h'.objs.size) (o := LamO X params body scope h'.objs.size c') (h' := h'.push (PySem.W.kla_obj "<lambda>" (X.env.qual ++ "<lambda>") params body scope (cloFrom X.env.cells scope.names []) ((X.mg "__name__").getD .none) c' ctv)) (t' := tk)
      (fun b u e => Heap.get?_push_of_some _ e) (Nat.le_refl _) (lamO_new (Heap.get?_push_size _ rfl))
    have kp : ∀ b o, b ≠ P → H b = some o → upd (upd (upd H P (.tbl (ps ++ #[rawInt pos.line, rawInt pos.col, .ref c']))) c' (CodeO c' (X.env.qual ++ "<lambda>"))) h'.objs.size (LamO X params body scope h'.objs.size c') b = some o := fun b o hb e => by
      rw [upd_ne (ne_of_none e (I.hok.fresh hsz)), upd_ne (ne_of_none e nC), upd_ne hb]; exact e
    refine h h'.objs.size c' _ (ps ++ #[rawInt pos.line, rawInt pos.col, .ref c']) _ I2 (by rw [upd_ne nP2.symm, upd_ne nPc, upd_same]) ⟨?_, fun p' cv hcv => ?_⟩ kp upd_same (by rw [upd_ne nC2.symm, upd_same])
    · rw [show (ps ++ #[rawInt pos.line, rawInt pos.col, .ref c']).toList = ps.toList ++ [rawInt pos.line, rawInt pos.col, .ref c'] by simp]
      exact PySem.TriplesOk_snoc _ _ _ _ ht
    · rw [show (ps ++ #[rawInt pos.line, rawInt pos.col, .ref c']).toList = ps.toList ++ [rawInt pos.line, rawInt pos.col, .ref c'] by simp] at hcv
      rcases among_app _ ht hcv with z | z
      · obtain ⟨c0, e1, e2⟩ := ha p' cv z
        refine ⟨c0, e1, kp _ _ (fun z => ?_) e2⟩
        rw [z, hP] at e2
        exact codeO_ne _ (Option.some.inj e2).symm
      · exact ⟨c', z, by rw [upd_ne nC2.symm, upd_same]⟩
  | some cv =>
    obtain ⟨c', e, hco⟩ := ha pos cv hc
    subst e
    refine PySem.W.kla_makeFunctionHit (mg := X.mg) (c := c) (P := P) (ps := ps) (closure_ok hfree) I.ok.glob (I.mod.glob.keeps I.bk) hcode (TB.code.keeps I.bk) hP' ht hc bP fun ctv h' tk hx hsz => ?_
    have I1 : Inv X pins σ H { s with heap := h', toks := tk } := I.kept hx
    have I2 := I1.laid (a := h'.objs.size) (o := LamO X params body scope h'.objs.size c') (h' := h'.push (PySem.W.kla_obj "<lambda>" (X.env.qual ++ "<lambda>") params body scope (cloFrom X.env.cells scope.names []) ((X.mg "__name__").getD .none) c' ctv)) (t' := tk)
      (fun b u e => Heap.get?_push_of_some _ e) (Nat.le_refl _) (lamO_new (Heap.get?_push_size _ rfl))
    have nf : H h'.objs.size = none := I.hok.fresh hsz
    have kp : ∀ b o, H b = some o → upd H h'.objs.size (LamO X params body scope h'.objs.size c') b = some o := fun b o e => by rw [upd_ne (ne_of_none e nf)]; exact e
    refine h h'.objs.size c' _ ps _ I2 (kp _ _ hP) ⟨ht, fun p' cv hcv => ?_⟩ (fun b o _ e => kp b o e) upd_same (kp _ _ hco)
    obtain ⟨c0, e1, e2⟩ := ha p' cv hcv
    exact ⟨c0, e1, kp _ _ e2⟩
end
/-- the store behind a grown table -/
theorem SM.grown {K : PySem.W.Frag} {mg : Str → Option Value} {ρ : List Addr} {H H1 : Hp} {M : Sto} {i : Nat} {P : Addr} {f : Str} {ps : Array Value} (S : SM K mg ρ H M) (hi : ρ[i]? = some P) (hM : M[i]? = some (.tab f))
    (h1 : H1 P = some (.tbl ps)) (h2 : TabN H1 (lamQ f) ps) (h3 : ∀ b o, b ≠ P → H b = some o → H1 b = some o) : SM K mg ρ H1 M ∧ Ext ρ H ρ H1 := by
  have E : Ext ρ H ρ H1 := ⟨⟨[], by simp⟩, fun b o e n => h3 b o (fun z => n (by rw [z]; exact List.mem_of_getElem? hi)) e, fun b h n => absurd h n⟩
  refine ⟨⟨S.len, S.nd, fun j b o e1 e2 => ?_⟩, E⟩
  obtain ⟨u, u1, u2⟩ := S.at' j b o e1 e2
  by_cases hb : b = P
  · subst hb
    have hij : j = i := by
      obtain ⟨x1, x2⟩ := List.getElem?_eq_some_iff.mp e1
      obtain ⟨y1, y2⟩ := List.getElem?_eq_some_iff.mp hi
      exact (List.getElem_inj S.nd).mp (x2.trans y2.symm)
    subst hij
    rw [hM] at e2; cases e2
    cases u <;> first | exact u2.elim | skip
    exact ⟨_, h1, h2.1, h2.2, u2.2.2⟩
  · exact ⟨u, h3 b u hb u1, RO.mono S E u2⟩
theorem SM.tab {K : PySem.W.Frag} {mg : Str → Option Value} {ρ : List Addr} {H : Hp} {M : Sto} (S : SM K mg ρ H M) {i : Nat} {f : Str} (hM : M[i]? = some (.tab f)) : ∃ P ps, ρ[i]? = some P ∧ H P = some (.tbl ps) ∧ TabN H (lamQ f) ps ∧ TabK K mg f P := by
  have hi : i < ρ.length := by rw [← S.len]; exact (List.getElem?_eq_some_iff.mp hM).1
  obtain ⟨u, u1, u2⟩ := S.at' i ρ[i] _ (List.getElem?_eq_getElem hi) hM
  cases u <;> first | exact u2.elim | skip
  exact ⟨_, _, List.getElem?_eq_getElem hi, u1, ⟨u2.1, u2.2.1⟩, u2.2.2⟩
end Ev

set_option Elab.async false
set_option linter.all false
set_option maxRecDepth 100000
set_option maxHeartbeats 4000000
/-! EvM2: a lambda with one parameter is called. -/
namespace Ev
open PySem L2 PySem.Spec LamX
open PyProof.Rows hiding St
structure LamP (sc scope : Scope) (p : Str) : Prop where
  kind : scope.kind = .function
  co : scope.isCoroutine = false
  gen : scope.isGenerator = false
  par : scope.names.lookup p = some .local
  own : ∀ y ∈ scope.names, y.2 ≠ .cell ∧ (y.2 = .local → y.1 = p)
  free : ∀ y ∈ scope.names, y.2 = .free → sc.names.lookup y.1 = some .cell ∨ sc.names.lookup y.1 = some .free
theorem lamP_by {sc scope : Scope} {p : Str} (h : lamB sc scope p = true) : LamP sc scope p := by
  unfold lamB at h
  simp only [Bool.and_eq_true, Bool.not_eq_true'] at h
  obtain ⟨⟨⟨⟨h1, h2⟩, h3⟩, h4⟩, h5⟩ := h
  refine ⟨?_, h2, h3, ?_, fun y hy => ?_, fun y hy e => ?_⟩
  · split at h1
    · assumption
    · cases h1
  · split at h4
    · assumption
    · cases h4
  · have q := List.all_eq_true.mp h5 y hy
    simp only [Bool.and_eq_true, Bool.not_eq_true', Bool.or_eq_true, decide_eq_true_eq] at q
    refine ⟨fun z => ?_, fun z => ?_⟩
    · rw [z] at q; exact absurd q.1.1 (by decide)
    · rcases q.1.2 with w | w
      · rw [z] at w; exact absurd w (by decide)
      · exact w
  · have q := List.all_eq_true.mp h5 y hy
    simp only [Bool.and_eq_true, Bool.not_eq_true', Bool.or_eq_true, decide_eq_true_eq] at q
    rcases q.2 with w | w
    · rw [e] at w; exact absurd w (by decide)
    · unfold outB at w
      split at w
      · exact .inl (by assumption)
      · exact .inr (by assumption)
      · cases w
theorem LamP.has {X : Cx} {scope : Scope} {p : Str} (L : LamP X.env.scope scope p) (ok : X.Ok) : ∀ y ∈ scope.names, y.2 = .free → ∃ c, X.env.cells.lookup y.1 = some c := fun y hy e => by
  rcases L.free y hy e with k | k
  · exact ok.has _ (.inl k)
  · exact ok.has _ (.inr k)
section
variable {X : Cx} {pins : List (Addr × Obj)} {σ : L2.St} {H : Hp} {s : Shared}
theorem lam_start3 {A : Around} {outer : List PySem.Env} {E : XK} {scope : Scope} {f c' : Addr} {h₁ : Heap} {tk : Nat} {p : Str} {ix : Nat} {v : V} {u : Value} (I : L2.Inv X pins σ H s) (L : LamP X.env.scope scope p) (e0 : Env0 X.prog X.w X.K X.mg X.base A outer s H) (hd : A.handled = none)
    (hix : X.N[ix]? = some p) (nd : X.N.Nodup) (r : RelV v u) (hns : h₁.Ns s.heap.objs.size fun y => ([(p, u)] : List (Str × Value)).reverse.lookup y) (kp : ∀ b o, s.heap.get? b = some o → h₁.get? b = some o) :
    L2.Inv (lamCx X A outer s H E scope f c') [] (σ.set ix (some v)) H { s with heap := h₁, toks := tk } := by
  have hfree := L.has I.ok
  have cm : ∀ {y c}, (cloFrom X.env.cells scope.names []).lookup y = some c → X.env.cells.lookup y = some c := fun {y c} e => by
    rcases cloFrom_mem (PySem.mem_of_lookup e) with hm | ⟨h1, h2⟩
    · cases hm
    · obtain ⟨c1, hc⟩ := hfree _ h1 rfl
      have hc : X.env.cells.lookup y = some c1 := hc
      have e2 : c = c1 := by
        rw [h2, hc] <;> rfl
      rw [e2]
      exact hc
  have look : ∀ {y}, scope.names.lookup y = some .free → ∃ c, (cloFrom X.env.cells scope.names []).lookup y = some c := fun {y} hl => by
    have hy : (y, NameKind.free) ∈ scope.names := PySem.mem_of_lookup hl
    exact mem_lookup (cloFrom_has (cells := X.env.cells) (acc := []) hy)
  have cellK : ∀ {c : Addr} {v : Option Value}, s.heap.IsCell c v → h₁.IsCell c v := fun {c v} ⟨o, ho, hd⟩ => ⟨o, kp _ _ ho, hd⟩
  have noA : ∀ b : Addr, b ∉ (lamCx X A outer s H E scope f c').ex := fun b z => absurd (show b ∈ ([] : List Addr) from z) (by simp)
  refine ⟨⟨e0.mod, L.kind, rfl, rfl, Nat.le_refl _, fun y z c e1 e2 => I.ok.inj y z c (cm e1) (cm e2), fun y hy => ?_, fun y c z _ => ?_, fun _ => hd, Around.frames_deeper e0.frames, .inr ⟨rfl, rfl⟩, fun b z => absurd z (noA b), e0.bs, e0.bsz, fun b _ _ => noA b,
      fun b z => absurd z (noA b), e0.funs, e0.frf⟩,
    rfl, e0.bare, Un.kept kp, ⟨_, hns, fun i y v' e1 e2 e3 => ?_⟩, fun y c e => ?_, e0.hok.fresh (Nat.le_refl _), fun y c e => ?_, fun q hq => absurd (show q ∈ ([] : List (Addr × Obj)) ++ [] from hq) (by simp), e0.hok.kept kp, by rw [List.length_set]; exact I.len⟩
  · have hy : scope.names.lookup y = some .cell ∨ scope.names.lookup y = some .free := hy
    rcases hy with hy | hy
    · exact absurd rfl (L.own _ (PySem.mem_of_lookup hy)).1
    · exact look hy
  · have z : false = true := z
    cases z
  · have e3 : Vis scope y := e3
    rcases e3 with k | k | k
    · have ey : y = p := (L.own _ (PySem.mem_of_lookup k)).2 rfl
      subst ey
      have ei : i = ix := nodup_ix nd e1 hix
      subst ei
      have hl : i < σ.length := by
        have e2' := (List.getElem?_eq_some_iff.mp e2).1
        rwa [List.length_set] at e2'
      rw [List.getElem?_set_self hl] at e2
      cases e2
      refine ⟨u, r, .inl ⟨k, ?_⟩⟩
      show List.lookup y [(y, u)] = some u
      simp [List.lookup]
    · exact absurd rfl (L.own _ (PySem.mem_of_lookup k)).1
    · have ny : i ≠ ix := fun z => by
        subst z
        have e1' : X.N[i]? = some y := e1
        rw [hix] at e1'
        cases e1'
        rw [L.par] at k
        cases k
      rw [List.getElem?_set_ne (Ne.symm ny)] at e2
      obtain ⟨m, hn, hl⟩ := I.loc
      have hvis : Vis X.env.scope y := (L.free _ (PySem.mem_of_lookup k) rfl).elim (fun k => .inr (.inl k)) (fun k => .inr (.inr k))
      obtain ⟨w', r, q⟩ := hl i y v' e1 e2 hvis
      obtain ⟨c2, h2⟩ := look k
      refine ⟨w', r, .inr ⟨.inr k, c2, h2, ?_⟩⟩
      have c1 := cm h2
      rcases q with ⟨k', _⟩ | ⟨_, c3, e', z⟩
      · have k' : X.env.scope.names.lookup y = some .local := k'
        rcases L.free _ (PySem.mem_of_lookup k) rfl with k2 | k2 <;> rw [show X.env.scope.names.lookup y = _ from k2] at k' <;> cases k'
      · rw [c1] at e'
        cases e'
        exact cellK z
  · obtain ⟨w', z⟩ := I.cell y c (cm e)
    exact ⟨w', cellK z⟩
  · exact I.freeC y c (cm e)
theorem bind_one {params : Arguments} {p : Str} (h : parL params = some p) (name q : Str) (body : Expr) (scope : Scope) (cl : List (Str × Addr)) (pm cdv ctv u : Value) :
    PySem.bindArgs { name := name, qualname := q, params := params, body := .expr body, scope := scope, globals := mainGlobals, closure := cl, defaults := .none, kwdefaults := .none, doc := .none, pyModule := pm, annotations := none, code := cdv, closureTuple := ctv, builtins := builtinsNs } ⟨[u], []⟩ = pure [(p, u)] := by
  unfold parL at h
  split at h
  · cases h
    rename_i pos
    unfold PySem.bindArgs
    simp [PySem.seqItems?]
    rfl
  · cases h
theorem lam_call {params : Arguments} {body : Expr} {scope : Scope} {f c' : Addr} {p : Str} {ix k : Nat} {g : Env → Sto → Res PV} {A : Around} {ρ : List Addr} {env : Env} {M : Sto} {x : PV} {v : V} {u : Value} {Q : VK} {E' : Value → Shared → Prop}
    (I : L2.Inv X pins σ H s) (L : LamP X.env.scope scope p) (hp : parL params = some p) (hix : X.N[ix]? = some p) (nd : X.N.Nodup)
    (hf : H f = some (LamO X params body scope f c')) (hc : H c' = some (CodeO c' (X.env.qual ++ "<lambda>"))) (e0 : Env0 X.prog X.w X.K X.mg X.base A X.stack s H) (hr : Room (k + 1) A)
    (r : RelV v u) (rx : RV X.K X.mg ρ H x v) (S : SM X.K X.mg ρ H M) (R : RE X.K X.mg ρ H env σ)
    (hbody : ∀ (s : Shared) (H : Hp), PE (lamCx X A X.stack s H (fun _ _ _ => False) scope f c') body (lE (lamCx X A X.stack s H (fun _ _ _ => False) scope f c') (fun _ _ _ _ => False) g))
    (h : PostV X.K X.mg (fun _ _ _ => False) ρ H (g (env.set ix (some x)) M) Q) : wpAny (model X.prog X.w) A (call (.ref f) [u]) (EP X pins σ Q) E' s := by
  obtain ⟨⟨pm, ctv, ef⟩, _, _⟩ := I.hok f _ hf
  obtain ⟨⟨oc, vs, t, hoc, hdc, hvc⟩, _, _⟩ := I.hok c' _ hc
  have rc : codeAny (model X.prog X.w) A (.call (.ref f) ⟨[u], []⟩) (CR (L2.CX X.prog X.w) X.stack X.prog X.w H s Q (fun _ _ _ => False)) s := by
    refine PySem.W.kla_callFunE hr.depth ef rfl L.co L.gen rfl ⟨c', oc, vs, t, rfl, hoc, hdc, hvc⟩ ?_
    rw [bind_one hp]
    refine wpAny_pure (wpAny_newFunctionEnv (fun y hy => (L.own y hy).1) (fun y hy => by rw [List.mem_singleton.mp hy]; exact L.par) (fun h₁ hns hsb => ⟨I.nolimit.fresh _ hsb, ?_⟩) L.kind)
    show codeAny _ _ (.expr body (lamEnv X scope s.heap.objs.size f c')) _ _
    have kp : ∀ b o, s.heap.get? b = some o → h₁.get? b = some o := fun b o e => hsb.extBut b o (Nat.ne_of_lt (Heap.lt_size e)) (Heap.get?_push_of_some _ e)
    have J : L2.Inv (lamCx X A X.stack s H (fun _ _ _ => False) scope f c') [] (σ.set ix (some v)) H { s with heap := h₁, toks := s.toks + ([(p, u)] : List (Str × Value)).length } :=
      lam_start3 I L e0 hr.hd hix nd r hns kp
    refine PySem.W.kla_codeExpr (wpAny_mono ((hbody s H).run [] _ _ H Q J ⟨ρ, env.set ix (some x), M, S, R.set rx ix, h⟩) (fun v s' hq => ?_) fun e s' hq => hq)
    obtain ⟨w', H', J', rv, q⟩ := hq
    exact ⟨w', H', J'.os, J'.bare, J'.base, J'.hok, rv, q⟩
  refine wpAny_call (codeAny_mono rc fun r s' hq => ?_)
  cases r with
  | error e =>
    obtain ⟨_, _, _, _, _, _, _, _, _, _, _, _, z⟩ := hq
    exact z.elim
  | ok fl =>
    cases fl with
    | ret u => exact I.after hq
    | next => exact False.elim hq
    | brk => exact False.elim hq
    | cont => exact False.elim hq
end
end Ev

set_option Elab.async false
set_option linter.all false
set_option maxRecDepth 100000
set_option maxHeartbeats 4000000
/-! EvM3: the turns of min(.., key=..). -/
namespace Ev
open PySem L2 PySem.Spec LamX
open PyProof.Rows hiding St
theorem intsP_eq : ∀ {ys : List PV} {ns : List Int}, intsP ys = some ns → ys = ns.map .int
  | [], ns, h => by cases h; rfl
  | .int i :: xs, ns, h => by
    have h' : (intsP xs).map (i :: ·) = some ns := h
    obtain ⟨ms, h1, rfl⟩ := Option.map_eq_some_iff.mp h'
    rw [intsP_eq h1]; rfl
  | .non :: _, _, h => by cases h
  | .bl _ :: _, _, h => by cases h
  | .str _ :: _, _, h => by cases h
  | .tup _ :: _, _, h => by cases h
  | .rol _ :: _, _, h => by cases h
  | .ref _ :: _, _, h => by cases h
  | .glo _ :: _, _, h => by cases h
  | .ty _ :: _, _, h => by cases h
section
variable {X : Cx} {pins : List (Addr × Obj)} {σ : L2.St}
/-- between two turns -/
structure LSt (X : Cx) (pins : List (Addr × Obj)) (σ : L2.St) (env : Env) (I S f c' l : Addr) (a : Nat) (φ1 φ2 : Heap → Prop) (j : Nat) (s : Shared) (H : Hp) (ρ : List Addr) (M : Sto) : Prop where
  inv : L2.Inv X pins σ H s
  sm : SM X.K X.mg ρ H M
  re : RE X.K X.mg ρ H env σ
  fI : FpOk X pins H I
  fS : FpOk X pins H S
  ne : S ≠ I
  it : s.heap.IsListIter I l j
  lo : H f = some (.ext φ1)
  co : H c' = some (.ext φ2)
  la : ρ[a]? = some l
theorem keep_lst {a : Nat} {ys : List PV} {M : Sto} (h : keepB [(a, .lst ys)] M = true) : M[a]? = some (.lst ys) := by simpa [keepB] using h
/-- the list as it stands -/
theorem LSt.list {env : Env} {I S f c' l : Addr} {a : Nat} {φ1 φ2 : Heap → Prop} {j : Nat} {s : Shared} {H : Hp} {ρ : List Addr} {M : Sto} {ys : List PV} {ns : List Int} (L : LSt X pins σ env I S f c' l a φ1 φ2 j s H ρ M) (k : keepB [(a, .lst ys)] M = true) (hn : intsP ys = some ns) :
    ∃ its : List Value, Vals (ns.map V.int) its ∧ s.heap.IsList l its.toArray ∧ l ≠ I := by
  obtain ⟨vs, h1, h2⟩ := L.sm.get L.la (keep_lst k)
  have e := h2.ints_inv hn
  subst e
  obtain ⟨its, rv, hl, _⟩ := L.inv.list (.inl (.inl h1))
  refine ⟨its, rv, hl.isList, fun z => ?_⟩
  rw [z, L.fI.1] at h1; cases h1
theorem lt_pair {H : Hp} {s : Shared} {ρ : List Addr} {M : Sto} {d i d' i' : Int} {v v' : V} {u u' : Value} {A : Around} {Q E : Value → Shared → Prop} (I : L2.Inv X pins σ H s) (S : SM X.K X.mg ρ H M) (r : RV X.K X.mg ρ H (.tup [.int d, .int i]) v) (r' : RV X.K X.mg ρ H (.tup [.int d', .int i']) v')
    (ru : RelV v u) (ru' : RelV v' u') (hu : A.units + 2 < cLine) (q : Q (.bool (ltP (d, i) (d', i'))) s) : wpAny (model X.prog X.w) A (richCompare .Lt u u') Q E s := by
  obtain ⟨as, R⟩ := Dp.reads I (dP (d, i)) v u (dat_of S r (by rfl)) ru
  obtain ⟨as', R'⟩ := Dp.reads I (dP (d', i')) v' u' (dat_of S r' (by rfl)) ru'
  refine PySem.W.rcLt_alike _ _ A s u u' _ _ R R' (alike_dP _ _) (by simp [dP]) ?_ X.prog X.w E Q (by rw [dataLt_dP]; exact q)
  simp [dP, PyData.depth, PyData.depthAll]
  omega
/-- the list that min keeps its best in -/
theorem LSt.put {env : Env} {I S f c' l : Addr} {a : Nat} {φ1 φ2 : Heap → Prop} {j : Nat} {s : Shared} {H : Hp} {ρ : List Addr} {M : Sto} (L : LSt X pins σ env I S f c' l a φ1 φ2 j s H ρ M) (xs : Array Value) :
    LSt X pins σ env I S f c' l a φ1 φ2 j { s with heap := s.heap.update S (Obj.mapSeq fun _ => xs) } H ρ M := by
  obtain ⟨f0, f1, f2, f3, f4, f5⟩ := L.fS
  have k : ∀ b o, b ≠ S → s.heap.get? b = some o → (s.heap.update S (Obj.mapSeq fun _ => xs)).get? b = some o := fun b o hb e => (Heap.get?_update_other _ _ (Ne.symm hb)).trans e
  obtain ⟨oI, hoI, r⟩ := L.it
  exact ⟨L.inv.turned (t' := s.toks) k f0 f1 f3 f4 f5, L.sm, L.re, L.fI, L.fS, L.ne, ⟨oI, k _ _ L.ne.symm hoI, r⟩, L.lo, L.co, L.la⟩
variable {I S f c' l : Addr} {a : Nat} {φ1 φ2 : Heap → Prop} {env : Env} {ys : List PV} {ns : List Int} {g : Int → Sto → Res PV} {Q : VK} {WW : XK}
/-- one turn of the walk and the call: the key of the item at j -/
theorem mk_turn (hu : X.A.handled = none)
    (turn : ∀ (n : Int) (t : Tok) (pins : List (Addr × Obj)) (s : Shared) (H : Hp) (ρ : List Addr) (M : Sto) (Q : VK), L2.Inv X pins σ H s → H f = some (.ext φ1) → H c' = some (.ext φ2) → SM X.K X.mg ρ H M → RE X.K X.mg ρ H env σ →
      PostV X.K X.mg (fun _ _ _ => False) ρ H (g n M) Q → wpAny (model X.prog X.w) X.A.in1 (call (.ref f) [.int n t]) (EP X pins σ Q) (fun _ _ => False) s)
    {j : Nat} {s : Shared} {H : Hp} {ρ : List Addr} {M M1 : Sto} {n d i : Int} {oS : Obj} (L : LSt X pins σ env I S f c' l a φ1 φ2 j s H ρ M) (hS : s.heap.get? S = some oS) (dS : ∀ v, oS.data ≠ .cell v) (k : keepB [(a, .lst ys)] M = true) (hn : intsP ys = some ns) (hj : ns[j]? = some n) (hg : g n M = .ok (.tup [.int d, .int i]) M1)
    {QQ : Option Value → Shared → Prop} {EE : Value → Shared → Prop}
    (h : ∀ (t : Tok) (s1 : Shared), (∀ (Q2 : Value → Shared → Prop), (∀ (u : Value) (v : V) (s2 : Shared) (H2 : Hp) (ρ2 : List Addr), LSt X pins σ env I S f c' l a φ1 φ2 (j + 1) s2 H2 ρ2 M1 → s2.heap.get? S = some oS → RelV v u → RV X.K X.mg ρ2 H2 (.tup [.int d, .int i]) v → Ext ρ H ρ2 H2 → Q2 u s2) →
      wpAny (model X.prog X.w) X.A.in1 (call (.ref f) [.int n t]) Q2 (fun _ _ => False) s1) → s1.heap.get? S = some oS → QQ (some (.int n t)) s1) : wpAny (model X.prog X.w) X.A.in1 (pyNext (.ref I)) QQ EE s := by
  obtain ⟨its, rv, hl, nl⟩ := L.list k hn
  have hlen : its.toArray.size = ns.length := by rw [List.size_toArray, ← rv.length, List.length_map]
  have hjl : j < ns.length := (List.getElem?_eq_some_iff.mp hj).1
  have W := Walks.list (prog := X.prog) (w := X.w) (A := X.A.in1) hu I l nl its.toArray
  refine W.item j s _ _ (by rw [hlen]; exact hjl) ⟨L.it, hl⟩ fun v h' tk hv st' kk => ?_
  have hv' : its[j]? = some v := by simpa using hv
  obtain ⟨v0, hv0, rv0⟩ : ∃ x, (ns.map V.int)[j]? = some x ∧ RelV x v := paired_get rv hv'
  have ev : v0 = .int n := by
    rw [List.getElem?_map, hj] at hv0
    cases hv0; rfl
  subst ev
  obtain ⟨t, rfl⟩ := rv0
  obtain ⟨f0, f1, f2, f3, f4, f5⟩ := L.fI
  have I1 : L2.Inv X pins σ H { s with heap := h', toks := tk } := L.inv.turned (fun b o hb e => kk b o (by simpa using hb) e) f0 f1 f3 f4 f5
  have hS1 : h'.get? S = some oS := kk S _ (by simpa using L.ne) hS
  obtain ⟨oI, hoI, cI, dI⟩ := id st'.1
  refine h t _ (fun Q2 hq => ?_) hS1
  have I2 : L2.Inv X ((S, oS) :: (I, oI) :: pins) σ H { s with heap := h', toks := tk } := I1.pins_of fun p hp => by
    rcases List.mem_cons.mp hp with rfl | hp
    · exact ⟨hS1, L.fS.1, L.fS.2.1, L.fS.2.2.1, dS⟩
    · rcases List.mem_cons.mp hp with rfl | hp
      · exact ⟨hoI, f0, f1, f2, fun v z => by rw [dI] at z; cases z⟩
      · exact I1.pin p (List.mem_append_right _ hp)
  refine wpAny_mono (turn n t _ _ H ρ M (fun v H' => ∃ ρ', Ext ρ H ρ' H' ∧ SM X.K X.mg ρ' H' M1 ∧ RV X.K X.mg ρ' H' (.tup [.int d, .int i]) v) I2 L.lo L.co L.sm L.re (by rw [hg]; exact fun ρ' v H' e S r => ⟨ρ', e, S, r⟩)) (fun u s2 hh => ?_) fun _ _ z => z
  obtain ⟨v, H2, I3, ru, ρ2, e2, S2, r2⟩ := hh
  have pS := I3.pin (S, oS) (List.mem_append_right _ List.mem_cons_self)
  have pI := I3.pin (I, oI) (List.mem_append_right _ (List.mem_cons_of_mem _ List.mem_cons_self))
  have I4 : L2.Inv X pins σ H2 s2 := I3.pins_of fun p hp => I3.pin p (List.mem_append_right _ (List.mem_cons_of_mem _ (List.mem_cons_of_mem _ hp)))
  refine hq u v s2 H2 ρ2 ⟨I4, S2, L.re.mono L.sm e2, ⟨pI.2.1, L.fI.2⟩, ⟨pS.2.1, L.fS.2⟩, L.ne, ⟨oI, pI.1, cI, dI⟩, e2.keep _ _ L.lo (L.sm.ext_out L.lo), e2.keep _ _ L.co (L.sm.ext_out L.co), ?_⟩ pS.1 ru r2 e2
  obtain ⟨m, e⟩ := e2.pre
  have hi : a < ρ.length := (List.getElem?_eq_some_iff.mp L.la).1
  rw [e, List.getElem?_append_left hi]
  exact L.la
end
end Ev

set_option Elab.async false
set_option linter.all false
set_option maxRecDepth 100000
set_option maxHeartbeats 4000000
/-! EvM4: min(.., key=..), all of it. -/
namespace Ev
open PySem L2 PySem.Spec LamX
open PyProof.Rows hiding St
section
variable {X : Cx} {pins : List (Addr × Obj)} {σ : L2.St}
variable {I S f c' l : Addr} {a : Nat} {φ1 φ2 : Heap → Prop} {env : Env} {ys : List PV} {ns : List Int} {g : Int → Sto → Res PV} {Q : VK} {WW : XK}
abbrev MkTurn (X : Cx) (σ : L2.St) (env : Env) (f c' : Addr) (φ1 φ2 : Heap → Prop) (g : Int → Sto → Res PV) : Prop :=
  ∀ (n : Int) (t : Tok) (pins : List (Addr × Obj)) (s : Shared) (H : Hp) (ρ : List Addr) (M : Sto) (Q : VK), L2.Inv X pins σ H s → H f = some (.ext φ1) → H c' = some (.ext φ2) → SM X.K X.mg ρ H M → RE X.K X.mg ρ H env σ →
      PostV X.K X.mg (fun _ _ _ => False) ρ H (g n M) Q → wpAny (model X.prog X.w) X.A.in1 (call (.ref f) [.int n t]) (EP X pins σ Q) (fun _ _ => False) s
theorem mkL_nil {keep : Sto → Bool} {b : Int} {kb : Int × Int} {M : Sto} {ρ : List Addr} {H : Hp} (h : PostV X.K X.mg WW ρ H (mkL g keep [] b kb M) Q) : keep M = true ∧ PostV X.K X.mg WW ρ H (.ok (.int b) M) Q := by
  simp only [mkL] at h
  split at h
  · exact ⟨by assumption, h⟩
  · exact h.elim
theorem mkL_cons {keep : Sto → Bool} {n b : Int} {ms : List Int} {kb : Int × Int} {M : Sto} {ρ : List Addr} {H : Hp} (h : PostV X.K X.mg WW ρ H (mkL g keep (n :: ms) b kb M) Q) :
    keep M = true ∧ ∃ d i M1, g n M = .ok (.tup [.int d, .int i]) M1 ∧ PostV X.K X.mg WW ρ H (if ltP (d, i) kb = true then mkL g keep ms n (d, i) M1 else mkL g keep ms b kb M1) Q := by
  simp only [mkL] at h
  split at h
  · refine ⟨by assumption, ?_⟩
    split at h
    · exact ⟨_, _, _, by assumption, h⟩
    · exact h.elim
  · exact h.elim
theorem minKV_cons {keep : Sto → Bool} {ns : List Int} {M : Sto} {ρ : List Addr} {H : Hp} (h : PostV X.K X.mg WW ρ H (minKV g keep ns M) Q) :
    ∃ n ms, ns = n :: ms ∧ keep M = true ∧ ∃ d i M1, g n M = .ok (.tup [.int d, .int i]) M1 ∧ PostV X.K X.mg WW ρ H (mkL g keep ms n (d, i) M1) Q := by
  cases ns with
  | nil => exact h.elim
  | cons n ms =>
    simp only [minKV] at h
    split at h
    · refine ⟨n, ms, rfl, by assumption, ?_⟩
      split at h
      · exact ⟨_, _, _, by assumption, h⟩
      · exact h.elim
    · exact h.elim
theorem mk_loop (hh : X.A.handled = none) (hu : X.A.units + 4 < cLine) (turn : MkTurn X σ env f c' φ1 φ2 g) (hn : intsP ys = some ns) :
    ∀ (ms : List Int) (j : Nat) (b : Int) (kb : Int × Int) (M : Sto) (s : Shared) (H : Hp) (ρ : List Addr) (tb : Tok) (ub : Value) (vb : V) (c : Nat), ns.drop j = ms → j ≤ ns.length → LSt X pins σ env I S f c' l a φ1 φ2 j s H ρ M → s.heap.get? S = some (seqObj "list" #[.int b tb, ub] c) → RelV vb ub →
      RV X.K X.mg ρ H (.tup [.int kb.1, .int kb.2]) vb → PostV X.K X.mg WW ρ H (mkL g (keepB [(a, .lst ys)]) ms b kb M) Q →
      codeAny (model X.prog X.w) X.A (.builtin "min.loop" ⟨[.ref I, .ref f, .ref S], []⟩) (fun r s' => match r with | .ok (.ret u) => EP X pins σ Q u s' | _ => False) s := by
  have hname : (toString "min" ++ toString ".loop" : String) = "min.loop" := by decide
  intro ms
  induction ms with
  | nil =>
    intro j b kb M s H ρ tb ub vb c hd hj L hS rb rk h
    obtain ⟨k, h⟩ := mkL_nil h
    obtain ⟨its, rv, hl, nl⟩ := L.list k hn
    have hlen : its.toArray.size = ns.length := by rw [List.size_toArray, ← rv.length, List.length_map]
    have hjl : j = ns.length := by
      have q := congrArg List.length hd
      rw [List.length_drop] at q
      simp at q
      omega
    have W := Walks.list (prog := X.prog) (w := X.w) (A := X.A.in1) hh I l nl its.toArray
    refine codeAny_builtin PySem.F.entry_min_loop ?_
    rw [Around.under_plainId PySem.F.plain_min_loop _]
    show wpAny _ X.A.in1 (seqItems? (.ref S) >>= _) _ _ _
    refine wpAny_bind (wpAny_seqItems hS rfl ?_)
    show wpAny _ X.A.in1 (tryCatch (pyNext (.ref I)) _ >>= _) _ _ _
    refine wpAny_bind (wpAny_tryCatch (W.done _ _ _ ⟨by rw [hlen, ← hjl]; exact L.it, hl⟩ fun h' tk' kk => ?_))
    obtain ⟨f0, f1, f2, f3, f4, f5⟩ := L.fI
    have I1 : L2.Inv X pins σ H { s with heap := h', toks := tk' } := L.inv.turned (fun b o hb e => kk b o (by simpa using hb) e) f0 f1 f3 f4 f5
    have hS1 : h'.get? S = some (seqObj "list" #[.int b tb, ub] c) := kk S _ (by simpa using L.ne) hS
    obtain ⟨g0, g1, g2, g3, g4, g5⟩ := L.fS
    show wpAny _ X.A.in1 (updateSeq S (fun _ => #[]) >>= _) _ _ _
    refine wpAny_bind ?_
    refine wpAny_updateSeq hS1 rfl (wpAny_bind (wpAny_letGo (wpAny_pure ?_)))
    have I2 : L2.Inv X pins σ H { s with heap := h'.update S (Obj.mapSeq fun _ => #[]), toks := tk' } := I1.turned (t' := tk') (fun b o hb e => (Heap.get?_update_other _ _ (Ne.symm hb)).trans e) g0 g1 g3 g4 g5
    exact ⟨.int b, H, I2, ⟨tb, rfl⟩, Post.here L.sm (.int b) h⟩
  | cons n ms ih =>
    intro j b kb M s H ρ tb ub vb c hd hj L hS rb rk h
    obtain ⟨k, d, i, M1, hg, h⟩ := mkL_cons h
    obtain ⟨gx, gr, gi⟩ := drop_get hd
    refine codeAny_builtin PySem.F.entry_min_loop ?_
    rw [Around.under_plainId PySem.F.plain_min_loop _]
    show wpAny _ X.A.in1 (seqItems? (.ref S) >>= _) _ _ _
    refine wpAny_bind (wpAny_seqItems hS rfl ?_)
    show wpAny _ X.A.in1 (tryCatch (pyNext (.ref I)) _ >>= _) _ _ _
    refine wpAny_bind (wpAny_tryCatch (mk_turn hh turn L hS (fun v z => by cases z) k hn gx hg fun t s1 hcall hS1 => ?_))
    show wpAny _ X.A.in1 (tryCatch (holding [.int n t] (call (.ref f) [.int n t])) _ >>= _) _ _ _
    refine wpAny_bind (wpAny_tryCatch (wpAny_holding (wpAny_mono (hcall _ fun u v s2 H2 ρ2 L2 hS2 ru r2 e2 => ?_) (fun _ _ z => z) fun _ _ z => z.elim)))
    have rk2 := rk.mono L.sm e2
    have h2 := h.at e2
    show wpAny _ X.A.in1 (tryCatch (holding [.int n t, u] (richCompare .Lt u ub >>= _)) _ >>= _) _ _ _
    refine wpAny_bind (wpAny_tryCatch (wpAny_holding (wpAny_bind (lt_pair L2.inv L2.sm r2 rk2 ru rb (by show X.A.units + 1 + 2 < cLine; omega) ?_))))
    refine wpAny_bind (wpAny_holding (wpAny_truthy_bool ?_))
    refine wpAny_bind (wpAny_letGo (wpAny_pure ?_))
    by_cases hb : ltP (d, i) (kb.1, kb.2) = true
    · have hb' : ltP (d, i) kb = true := hb
      rw [if_pos hb'] at h2
      simp only [hb, if_true]
      refine wpAny_bind ?_
      refine wpAny_updateSeq hS2 rfl (wpAny_bind (wpAny_letGo ?_))
      rw [hname]
      obtain ⟨c2, hc2⟩ : ∃ c2, (s2.heap.update S (Obj.mapSeq fun _ => #[.int n t, u])).get? S = some (seqObj "list" #[.int n t, u] c2) := ⟨_, get?_update_seq hS2 fun _ => #[.int n t, u]⟩
      exact wpAny_pure ⟨plainId_quiet PySem.F.plain_min_loop _, ih (j + 1) n (d, i) M1 _ H2 ρ2 t u v c2 gr gi (L2.put _) hc2 ru r2 h2⟩
    · have hb' : ¬ ltP (d, i) kb = true := hb
      rw [if_neg hb'] at h2
      simp only [hb, if_false, Bool.false_eq_true]
      refine wpAny_bind (wpAny_letGo ?_)
      rw [hname]
      exact wpAny_pure ⟨plainId_quiet PySem.F.plain_min_loop _, ih (j + 1) b kb M1 _ H2 ρ2 tb ub vb c gr gi L2 hS2 rb rk2 h2⟩
end
end Ev

set_option Elab.async false
set_option linter.all false
set_option maxRecDepth 100000
set_option maxHeartbeats 4000000
/-! EvM5: min(.., key=lambda x: ..) does what the code says. -/
namespace Ev
open PySem L2 PySem.Spec LamX
open PyProof.Rows hiding St
section
variable {X : Cx} {pins : List (Addr × Obj)} {σ : L2.St}
theorem call_minkey {f c' l : Addr} {a : Nat} {φ1 φ2 : Heap → Prop} {env : Env} {ys : List PV} {ns : List Int} {g : Int → Sto → Res PV} {Q : VK} {WW : XK} {s : Shared} {H : Hp} {ρ : List Addr} {M : Sto} {E : Value → Shared → Prop}
    (hh : X.A.handled = none) (hu : X.A.units + 4 < cLine) (turn : MkTurn X σ env f c' φ1 φ2 g) (hn : intsP ys = some ns) (I : L2.Inv X pins σ H s) (S : SM X.K X.mg ρ H M) (R : RE X.K X.mg ρ H env σ) (lo : H f = some (.ext φ1)) (co : H c' = some (.ext φ2)) (la : ρ[a]? = some l)
    (h : PostV X.K X.mg WW ρ H (minKV g (keepB [(a, .lst ys)]) ns M) Q) : wpAny (model X.prog X.w) X.A (call (.builtin "min") [.ref l] [(Str.ofString "key", .ref f)]) (EP X pins σ Q) E s := by
  have hname : (toString "min" ++ toString ".loop" : String) = "min.loop" := by decide
  obtain ⟨n, ms, rfl, k, d, i, M1, hg, h⟩ := minKV_cons h
  obtain ⟨items, hl⟩ : ∃ items, s.heap.IsList l items := by
    obtain ⟨vs, h1, h2⟩ := S.get la (keep_lst k)
    obtain ⟨its, rv, hl, _⟩ := I.list (.inl (.inl h1))
    exact ⟨_, hl.isList⟩
  refine kmk_tree PySem.F.kind_min PySem.F.plain_min PySem.F.entry_min (kmk_min_key _ _) ?_
  show wpAny _ X.A.in1 (Builtin.Builtins.bindParams "min" ["key", "default"] 0 ⟨[], [(Str.ofString "key", .ref f)]⟩ >>= _) _ _ s
  refine wpAny_bind (wpAny_of_eq (show Builtin.Builtins.bindParams "min" ["key", "default"] 0 ⟨[], [(Str.ofString "key", .ref f)]⟩ = pure [some (.ref f), none] from rfl) ?_)
  refine wpAny_bind (wpAny_pure ?_)
  refine wpAny_bind (wpAny_pyIter_list hl ?_)
  refine wpAny_bind (wpAny_newList ?_ (Nat.zero_le _))
  rw [hname]
  have hS : (s.heap.push { cls := .type "list_iterator", data := .fields #[.ref l, .int 0 0] }).objs.size = s.heap.objs.size + 1 := size_push' ..
  refine wpAny_pure ⟨plainId_quiet PySem.F.plain_min_loop _, ?_⟩
  have k2 : ∀ b o, s.heap.get? b = some o → ((s.heap.push { cls := .type "list_iterator", data := .fields #[.ref l, .int 0 0] }).push (seqObj "list" #[] 0)).get? b = some o := fun b o e => Heap.get?_push_of_some _ (Heap.get?_push_of_some _ e)
  have I1 : L2.Inv X pins σ H { s with heap := (s.heap.push { cls := .type "list_iterator", data := .fields #[.ref l, .int 0 0] }).push (seqObj "list" #[] 0) } := I.kept (t' := s.toks) k2
  have gI : ((s.heap.push { cls := .type "list_iterator", data := .fields #[.ref l, .int 0 0] }).push (seqObj "list" #[] 0)).get? s.heap.objs.size = some { cls := .type "list_iterator", data := .fields #[.ref l, .int 0 0] } :=
    Heap.get?_push_of_some _ (Heap.get?_push_size _ rfl)
  have gS : ((s.heap.push { cls := .type "list_iterator", data := .fields #[.ref l, .int 0 0] }).push (seqObj "list" #[] 0)).get? (s.heap.push { cls := .type "list_iterator", data := .fields #[.ref l, .int 0 0] }).objs.size = some (seqObj "list" #[] 0) := Heap.get?_push_size _ rfl
  have L : LSt X pins σ env s.heap.objs.size (s.heap.push { cls := .type "list_iterator", data := .fields #[.ref l, .int 0 0] }).objs.size f c' l a φ1 φ2 0 { s with heap := (s.heap.push { cls := .type "list_iterator", data := .fields #[.ref l, .int 0 0] }).push (seqObj "list" #[] 0) } H ρ M :=
    ⟨I1, S, R, I.fpOk (Nat.le_refl _) (I.hok.fresh (Nat.le_refl _)), I.fpOk (by rw [hS]; exact Nat.le_succ _) (I.hok.fresh (by rw [hS]; exact Nat.le_succ _)), by rw [hS]; exact Nat.succ_ne_self _, ⟨_, gI, rfl, rfl⟩, lo, co, la⟩
  refine codeAny_mono (R := fun r s' => match r with | .ok (.ret u) => EP X pins σ Q u s' | _ => False) ?_ fun r s' hq => ?_
  · refine codeAny_builtin PySem.F.entry_min_loop ?_
    rw [Around.under_plainId PySem.F.plain_min_loop _]
    show wpAny _ X.A.in1 (seqItems? (.ref _) >>= _) _ _ _
    refine wpAny_bind (wpAny_seqItems gS rfl ?_)
    show wpAny _ X.A.in1 (tryCatch (pyNext (.ref s.heap.objs.size)) _ >>= _) _ _ _
    refine wpAny_bind (wpAny_tryCatch (mk_turn hh turn L gS (fun v z => by cases z) k hn rfl hg fun t s1 hcall hS1 => ?_))
    show wpAny _ X.A.in1 (tryCatch (holding [.int n t] (call (.ref f) [.int n t])) _ >>= _) _ _ _
    refine wpAny_bind (wpAny_tryCatch (wpAny_holding (wpAny_mono (hcall _ fun u v s2 H2 ρ2 L2 hS2 ru r2 e2 => ?_) (fun _ _ z => z) fun _ _ z => z.elim)))
    show wpAny _ X.A.in1 (updateSeq _ (fun _ => #[.int n t, u]) >>= _) _ _ _
    refine wpAny_bind ?_
    refine wpAny_updateSeq hS2 rfl ?_
    rw [hname]
    obtain ⟨c2, hc2⟩ : ∃ c2, (s2.heap.update (s.heap.push { cls := .type "list_iterator", data := .fields #[.ref l, .int 0 0] }).objs.size (Obj.mapSeq fun _ => #[.int n t, u])).get? (s.heap.push { cls := .type "list_iterator", data := .fields #[.ref l, .int 0 0] }).objs.size = some (seqObj "list" #[.int n t, u] c2) := ⟨_, get?_update_seq hS2 fun _ => #[.int n t, u]⟩
    exact wpAny_pure ⟨plainId_quiet PySem.F.plain_min_loop _, mk_loop hh hu turn hn ms 1 n (d, i) M1 _ H2 ρ2 t u v c2 rfl (by simp) (L2.put _) hc2 ru r2 (h.at e2)⟩
  · cases r with
    | error e => exact hq.elim
    | ok fl => cases fl <;> first | exact hq | exact hq.elim
/-! ### the reading -/
def tLamE (X : Cx) (fnm : Str) (params : Arguments) (body : Expr) (scope : Scope) : TE := fun σ H Q => ∃ (ρ : List Addr) (M : Sto) (i : Nat), SM X.K X.mg ρ H M ∧ M[i]? = some (MO.tab fnm) ∧
  ∀ f c' H1, Ext ρ H ρ H1 → SM X.K X.mg ρ H1 M → H1 f = some (LamO X params body scope f c') → H1 c' = some (CodeO c' (X.env.qual ++ "<lambda>")) → Q (.ref f) H1
theorem pe_lam {fnm : Str} {params : Arguments} {body : Expr} {scope : Scope} {p : Str} {pos : Pos} (hq : X.env.qual = fnm ++ ".<locals>.") (hl : ∀ P, TabK X.K X.mg fnm P → ∃ c, X.env.code = .ref c ∧ TabB X.base X.mg c P) (hp : parL params = some p) (L : LamP X.env.scope scope p) :
    PE X (.Lambda params body scope pos) (tLamE X fnm params body scope) := by
  refine ⟨fun pins s σ H Q I h => ?_⟩
  obtain ⟨ρ, M, i, S, hM, h⟩ := h
  obtain ⟨P, ps, hi, hP, hT, hK⟩ := S.tab hM
  obtain ⟨c, hc, TB⟩ := hl P hK
  have hq2 : X.env.qual ++ "<lambda>" = lamQ fnm := by rw [hq]; rfl
  refine lam_make3 I TB hc hP (by rw [hq2]; exact hT) ?_ (L.has I.ok) fun f c' H1 ps' s' I1 h1 h2 h3 h4 h5 => ?_
  · unfold parL at hp
    split at hp
    · rfl
    · cases hp
  · obtain ⟨S1, E1⟩ := S.grown hi hM h1 (by rw [← hq2]; exact h2) h3
    exact ⟨.ref f, H1, I1, rfl, h f c' H1 E1 S1 h4 h5⟩
end
section
variable {X : Cx} {W : WX} {y : Expr} {pos p kp lp : Pos} {ra : Env → Sto → Res PV}
def lMinKey (ra : Env → Sto → Res PV) (fnm : Str) (i x : Nat) (g : Env → Sto → Res PV) : Env → Sto → Res PV := fun env M => (ra env M).bind fun v M1 => match v with
    | .ref a => match M1[a]?, M1[i]? with
      | some (.lst ys), some (.tab f') => match intsP ys with
        | some ns => if fnm = f' then minKV (fun n M => g (env.set x (some (.int n))) M) (keepB [(a, .lst ys)]) ns M1 else .bad
        | none => .bad
      | _, _ => .bad
    | _ => .bad
theorem s_minkey {fnm : Str} {params : Arguments} {body : Expr} {scope : Scope} {pr : Str} {i ix k : Nat} {g : Env → Sto → Res PV} (hq : X.env.qual = fnm ++ ".<locals>.") (hl : ∀ P, TabK X.K X.mg fnm P → ∃ c, X.env.code = .ref c ∧ TabB X.base X.mg c P)
    (hp : parL params = some pr) (L : LamP X.env.scope scope pr) (hix : X.N[ix]? = some pr) (nd : X.N.Nodup) (hr : Room (k + 2) X.A) (hG : Gl X "min") (hm : X.mg "min" = none) (hc : X.calm = true) (ha : PE X y (lE X W ra)) (hs : isStar y = false)
    (hgd : X.A.handled = none)
    (hbody : ∀ (f c' : Addr) (s : Shared) (H : Hp), PE (lamCx X X.A.in1 X.stack s H (fun _ _ _ => False) scope f c') body (lE (lamCx X X.A.in1 X.stack s H (fun _ _ _ => False) scope f c') (fun _ _ _ _ => False) g)) :
    PE X (.Call (.Name "min" p) [y] [⟨some "key", .Lambda params body scope lp, kp⟩] pos) (lE X W (lMinKey ra fnm i ix g)) := by
  refine ⟨fun pins s σ H Q I h => ?_⟩
  have pk : PK X [⟨some "key", .Lambda params body scope lp, kp⟩] _ := pk_cons (pe_lam hq hl hp L) pk_nil
  have pa : PA X [y] _ := pa_cons ha pa_nil (star_ne hs _ _)
  refine wpAny_Call_Name_kw (ld_blt I hG hm boot_min ?_ (by decide) (by decide))
  have h1 : tCons (lE X W ra) tNil σ H fun vs H1 => ∃ v, vs = [v] ∧ tCons (tLamE X fnm params body scope) tNil σ H1 fun zs H2 => ∃ f c' ρ2 env a l ys ns M1, v = .ref l ∧ zs = [.ref f] ∧ H2 f = some (LamO X params body scope f c') ∧ H2 c' = some (CodeO c' (X.env.qual ++ "<lambda>")) ∧
      SM X.K X.mg ρ2 H2 M1 ∧ RE X.K X.mg ρ2 H2 env σ ∧ ρ2[a]? = some l ∧ intsP ys = some ns ∧ PostV X.K X.mg (fun c d H' => W c d σ H') ρ2 H2 (minKV (fun n M => g (env.set ix (some (.int n))) M) (keepB [(a, .lst ys)]) ns M1) Q := by
    show lE X W ra σ H _
    refine lR.chain h fun ρ env M x M1 ρ1 v H1 S E e1 S1 E1 r1 h1 => ⟨v, rfl, ?_⟩
    split at h1
    · rename_i a
      obtain ⟨l, rfl, hi⟩ := r1.ref_inv
      split at h1
      · rename_i q1 q2
        split at h1
        · rename_i ns hns
          split at h1
          · rename_i ef
            subst ef
            refine ⟨ρ1, M1, i, S1, q2, fun f c' H2 e2 S2 h4 h5 => ?_⟩
            exact ⟨f, c', ρ1, env, a, l, _, ns, M1, rfl, rfl, h4, h5, S2, E1.mono S1 e2, hi, hns, h1.at e2⟩
          · exact h1.elim
        · exact h1.elim
      · exact h1.elim
    · exact h1.elim
  refine callWith_kw (thn (pa.run pos pins s σ H _ I h1) fun us s1 ⟨vs, H1, I1, r1, v, ev, q1⟩ => thn (pk.run pos pins s1 σ H1 _ I1 q1) fun ws s2 ⟨zs, H2, I2, r2, f, c', ρ2, env, a, l, ys, ns, M1, ev2, ez, h4, h5, S2, E2, la, hns, hp2⟩ => ?_) (by rw [star_ne hs]; rfl) (by rw [star_ne hs]; rfl)
  subst ev ev2 ez
  obtain rfl := Vals.ref1 r1
  obtain rfl := Vals.ref1 r2
  have hA : Env0 X.prog X.w X.K X.mg X.base X.A.in1 X.stack s2 H2 := by
    have e0 := I2.env0
    exact ⟨e0.frames, e0.mod, e0.bs, e0.bsz, e0.funs, e0.frf, e0.hok, e0.bare⟩
  refine call_minkey (WW := fun c d H' => W c d σ H') hgd (by have := hr.un; omega) (fun n t pins s H ρ M Q I lo co S R hp' => ?_) hns I2 S2 E2 h4 h5 la hp2
  have e0 := I.env0
  exact lam_call I L hp hix nd lo co ⟨e0.frames, e0.mod, e0.bs, e0.bsz, e0.funs, e0.frf, e0.hok, e0.bare⟩ (k := k) (Room.in1 (k := k + 1) hr) (v := .int n) ⟨t, rfl⟩ (.int n) S R (fun s H => hbody f c' s H) hp'
end
end Ev

set_option Elab.async false
set_option linter.all false
set_option maxRecDepth 100000
set_option maxHeartbeats 8000000
/-! Ev11: the text's expressions do what the code says (printed by gen11.py). -/
namespace Ev
open PySem L2
abbrev KwT := Str → Option (List (Nat × List Str × List Nat))
def freeNames : List Str := ["len", "int", "tuple", "list", "repr", "str", "sorted", "max", "min", "all", "any", "sum", "abs", "isinstance", "range", "ord", "divmod", "enumerate", "zip", "set"]
/-- what is known where the code runs -/
structure XOk (G : Glob) (kw : KwT) (d : Nat) (X : Cx) : Prop where
  calm : X.calm = true
  nd : X.N.Nodup
  room : Room (3 * d) X.A
  lam : (∀ x, X.fn x = true) → Room (3 * d + 2) X.A
  gd : X.A.guards = some []
  free : ∀ x ∈ freeNames, X.mg x = none
  cls : ∀ c ∈ clsNames, X.mg (Str.ofString c) = none
  glo : ∀ x pv, G.glo x = some pv → ∃ u v, X.mg x = some u ∧ RelV v u ∧ ∀ ρ H, RV X.K X.mg ρ H pv v
  call : ∀ f l, kw f = some l → ∃ fa fd ps, CallAt X.prog X.w X.K X.mg X.base d f l (G.call f) fa fd ps
theorem mem_sum {l : List Nat} {n : Nat} (h : n ∈ l) : n ≤ l.sum := by
  induction l with
  | nil => cases h
  | cons a r ih =>
    rw [List.sum_cons]
    rcases List.mem_cons.mp h with rfl | h
    · omega
    · have := ih h; omega
theorem no_all (l : List (Str × NameKind)) : ¬ ∀ x : Str, (l.lookup x == some .cell) = true := fun h => by
  have q := h ⟨Array.replicate ((l.map fun y => y.1.cps.size).sum + 1) 97⟩
  have q2 : l.lookup (⟨Array.replicate ((l.map fun y => y.1.cps.size).sum + 1) 97⟩ : Str) = some .cell := by simpa using q
  have m := mem_sum (List.mem_map_of_mem (f := fun y : Str × NameKind => y.1.cps.size) (PySem.mem_of_lookup q2))
  simp at m
  omega
theorem XOk.blk {G : Glob} {kw : KwT} {d : Nat} {X : Cx} (x : XOk G kw d X) (sc : Scope) (s : Shared) (H : Hp) (C : Addr) (cl : List (Str × Addr)) (fp : List Addr) : XOk G kw d (Blk X sc s H C cl fp) :=
  ⟨x.calm, x.nd, x.room, fun z => (no_all sc.names z).elim, x.gd, x.free, x.cls, x.glo, x.call⟩
theorem KOk.blk {k : CK} {X : Cx} (h : KOk k X) (sc : Scope) (s : Shared) (H : Hp) (C : Addr) (cl : List (Str × Addr)) (fp : List Addr) : KOk ⟨k.N, relS sc k.sc, false, k.kw, k.nm⟩ (Blk X sc s H C cl fp) :=
  ⟨h.N, by show relS sc X.env.scope = _; rw [h.sc], (fun z => nomatch z), (fun z => nomatch z)⟩
theorem XOk.lamX {G : Glob} {kw : KwT} {d : Nat} {X : Cx} (x : XOk G kw d X) (h : ∀ y, X.fn y = true) (s : Shared) (H : Hp) (scope : Scope) (f c' : Addr) : XOk G kw d (LamX.lamCx X X.A.in1 X.stack s H (fun _ _ _ => False) scope f c') :=
  ⟨rfl, x.nd, (Room.in1 (k := 3 * d + 1) (x.lam h)).deeper _, fun z => absurd (z ("" : Str)) (by simp [LamX.lamCx]), x.gd, x.free, x.cls, x.glo, x.call⟩
theorem KOk.lamX {k : CK} {X : Cx} (h : KOk k X) (s : Shared) (H : Hp) (scope : Scope) (f c' : Addr) : KOk ⟨k.N, scope, false, k.kw, k.nm⟩ (LamX.lamCx X X.A.in1 X.stack s H (fun _ _ _ => False) scope f c') :=
  ⟨h.N, rfl, (fun z => nomatch z), (fun z => nomatch z)⟩
theorem bi_free (f : BI) : f.name ∈ freeNames := by cases f <;> decide
section
variable {G : Glob} {d : Nat}
theorem XOk.units {kw : KwT} {X : Cx} (x : XOk G kw d X) : X.A.units + 66 < cLine := by have := x.room.un; omega
theorem gl_k {k : CK} {X : Cx} (h : KOk k X) {x : Str} (q : gloB k.sc x = true) : Gl X x ∧ (x == ("__debug__" : Str)) = false := gl_of (by rw [h.sc]; exact q)
theorem kwNames_of : ∀ {c : CE} {ks : List Str} {k : CK} {ws : List Keyword}, chkK c ks k ws = true → kwNames ks ws = true
  | .nil, ks, _, ws, h => by
    cases ks <;> cases ws <;> first | rfl | (simp [chkK] at h; done)
  | .cons a r, ks, k, ws, h => by
    cases ks with
    | nil => simp [chkK] at h
    | cons n ks =>
      cases ws with
      | nil => simp [chkK] at h
      | cons w ws =>
        obtain ⟨nm, x, p⟩ := w
        simp only [chkK, Bool.and_eq_true, decide_eq_true_eq] at h
        unfold kwNames
        simp only [h.1.1, kwNames_of h.2, decide_true, Bool.and_self]
  | .var _, _, _, _, h | .non, _, _, _, h | .bl _, _, _, _, h | .int _, _, _, _, h | .str _, _, _, _, h | .glo _, _, _, _, h | .bin _ _ _, _, _, _, h | .neg _, _, _, _, h | .not _, _, _, _, h | .cmp _ _ _, _, _, _, h | .chain _ _ _ _ _, _, _, _, h | .and _ _, _, _, _, h | .or _ _, _, _, _, h | .ife _ _ _, _, _, _, h | .tup _, _, _, _, h | .lst _, _, _, _, h | .dct _ _, _, _, _, h | .sub _ _, _, _, _, h | .no, _, _, _, h | .slc _ _ _, _, _, _, h | .rev _, _, _, _, h | .isi _ _ _, _, _, _, h | .call _ _, _, _, _, h | .callk _ _ _ _ _ _, _, _, _, h | .blt _ _, _, _, _, h | .meth _ _ _, _, _, _, h | .comp _ _ _ _ _, _, _, _, h | .iv _, _, _, _, h | .irg1 _, _, _, _, h | .irg2 _ _, _, _, _, h | .ienum _, _, _, _, h | .izip _ _, _, _, _, h | .lenset _, _, _, _, h | .smeth _ _ _, _, _, _, h | .fstr _, _, _, _, h | .fmt _, _, _, _, h | .minkey _ _ _ _ _, _, _, _, h => by simp [chkK] at h
theorem pw_of_pt {X : Cx} {op : BoolOp} {vs : List Expr} {p : Pos} {t : TT} (h : PT X (.BoolOp op vs p) t) : PW X (.BoolOp op vs p) t := ⟨fun _ pins s σ H Q I q => h.run pins s σ H Q I q⟩
theorem typeNames_len : ∀ {ts : List String} {es : List Expr} {sc : Scope}, typeNames ts es sc = true → ts.length = es.length
  | [], [], _, _ => rfl
  | _ :: cs, .Name _ _ :: es, sc, h => by
    unfold typeNames at h
    simp only [Bool.and_eq_true] at h
    rw [List.length_cons, List.length_cons, typeNames_len h.2]
theorem s_glo {X : Cx} {W : WX} {y : Str} {p : Pos} (hg : ∀ x pv, G.glo x = some pv → ∃ u v, X.mg x = some u ∧ RelV v u ∧ ∀ ρ H, RV X.K X.mg ρ H pv v) (g1 : Gl X y) (g2 : (y == ("__debug__" : Str)) = false) : PE X (.Name y p) (lE X W (evE G (.glo y))) := by
  refine ⟨fun pins s σ H Q I h => ?_⟩
  obtain ⟨ρ, env, M, S, E, h⟩ := h
  simp only [evE] at h
  cases q : G.glo y with
  | none => rw [q] at h; exact h.elim
  | some pv =>
    rw [q] at h
    obtain ⟨u, v, hm, r, f⟩ := hg y pv q
    exact (pe_glob g1 hm r g2).run pins s σ H Q I (h.here S (f ρ H))
theorem both {X : Cx} {W : WX} {e : Expr} {r : Env → Sto → Res PV} {t : Bool} (q : PE X e (lE X W r)) (h : isTest e = false) : PE X e (lE X W r) ∧ (t = true → PT X e (lT X W r)) := ⟨q, fun _ => t_val q h⟩
theorem ts_nil {X : Cx} {W : WX} : PTs X [] (lB X W (evT G .nil)) := by
  refine ⟨fun pins s σ H Q I h => pts_nil.run pins s σ H Q I ?_⟩
  obtain ⟨ρ, env, M, S, E, h⟩ := h
  exact Post.here (x := true) (v := true) S rfl h
theorem evT_one (a : CE) : evT G (.cons a .nil) = truR (evE G a) := by
  funext env M
  simp only [evT, truR]
  congr 1
  funext x M1
  cases truV M1 x with
  | none => rfl
  | some b => cases b <;> rfl
theorem ts_one {X : Cx} {W : WX} {y : Expr} {a : CE} (h : PT X y (lT X W (evE G a))) : PTs X [y] (lB X W (evT G (.cons a .nil))) := by
  rw [evT_one]
  exact pts_one h
theorem own_of {N : List Str} : ∀ {own : List Nat} {ow : List (Str × Nat)}, (own.mapM fun i => (N[i]?).map fun x => (x, i)) = some ow → True := fun _ => trivial


mutual
theorem s_E : ∀ (c : CE) (t : Bool) (k : CK) (X : Cx) (W : WX) (e : Expr), XOk G k.kw d X → KOk k X → Takes X W → chkE c t k e = true → PE X e (lE X W (evE G c)) ∧ (t = true → PT X e (lT X W (evE G c)))
  | .var i, t, k, X, W, e, x, hk, tk, h => by
    cases e <;> first | (simp [chkE] at h; done) | skip
    simp only [chkE, Bool.and_eq_true, decide_eq_true_eq, okName, Bool.not_eq_true'] at h
    exact both (s_var (by rw [hk.N]; exact h.1.1) (vis_of hk h.1.2) h.2.1 h.2.2) rfl
  | .non, t, k, X, W, e, x, hk, tk, h => by
    cases e <;> first | (simp [chkE] at h; done) | skip
    rename_i v _ _
    cases v <;> first | (simp [chkE] at h; done) | skip
    exact both (s_const pe_non fun _ _ => .non) rfl
  | .bl b, t, k, X, W, e, x, hk, tk, h => by
    cases e <;> first | (simp [chkE] at h; done) | skip
    rename_i v _ _
    cases v <;> first | (simp [chkE] at h; done) | skip
    simp only [chkE, decide_eq_true_eq] at h
    subst h
    exact both (s_const pe_bl fun _ _ => .bl b) rfl
  | .int b, t, k, X, W, e, x, hk, tk, h => by
    cases e <;> first | (simp [chkE] at h; done) | skip
    rename_i v _ _
    cases v <;> first | (simp [chkE] at h; done) | skip
    simp only [chkE, decide_eq_true_eq] at h
    subst h
    exact both (s_const pe_int fun _ _ => .int b) rfl
  | .str b, t, k, X, W, e, x, hk, tk, h => by
    cases e <;> first | (simp [chkE] at h; done) | skip
    rename_i v _ _
    cases v <;> first | (simp [chkE] at h; done) | skip
    simp only [chkE, decide_eq_true_eq] at h
    subst h
    exact both (s_const pe_str fun _ _ => .str b) rfl
  | .glo y, t, k, X, W, e, x, hk, tk, h => by
    cases e <;> first | (simp [chkE] at h; done) | skip
    simp only [chkE, Bool.and_eq_true, decide_eq_true_eq] at h
    obtain ⟨rfl, h⟩ := h
    obtain ⟨g1, g2⟩ := gl_k hk h
    exact both (s_glo x.glo g1 g2) rfl
  | .bin op a b, t, k, X, W, e, x, hk, tk, h => by
    cases e <;> first | (simp [chkE] at h; done) | skip
    simp only [chkE, Bool.and_eq_true, decide_eq_true_eq] at h
    obtain ⟨⟨rfl, h1⟩, h2⟩ := h
    exact both (s_bin (s_E a false k X W _ x hk tk h1).1 (s_E b false k X W _ x hk tk h2).1) rfl
  | .neg a, t, k, X, W, e, x, hk, tk, h => by
    cases e <;> first | (simp [chkE] at h; done) | skip
    rename_i o _ _
    cases o <;> first | (simp [chkE] at h; done) | skip
    simp only [chkE] at h
    exact both (s_neg (s_E a false k X W _ x hk tk h).1) rfl
  | .not a, t, k, X, W, e, x, hk, tk, h => by
    cases e <;> first | (simp [chkE] at h; done) | skip
    rename_i o _ _
    cases o <;> first | (simp [chkE] at h; done) | skip
    simp only [chkE] at h
    have i := s_E a t k X W _ x hk tk h
    exact ⟨s_not i.1, fun z => t_not (i.2 z)⟩
  | .cmp op a b, t, k, X, W, e, x, hk, tk, h => by
    cases e <;> first | (simp [chkE] at h; done) | skip
    rename_i l ops rs p
    simp only [chkE] at h
    split at h
    · rename_i heq
      cases heq
      simp only [Bool.and_eq_true, decide_eq_true_eq, Bool.not_eq_true'] at h
      obtain ⟨⟨⟨rfl, h0⟩, h1⟩, h2⟩ := h
      have u : X.A.units + 64 < cLine := by have := x.units; omega
      have i1 := (s_E a false k X W _ x hk tk h1).1
      have i2 := (s_E b false k X W _ x hk tk h2).1
      exact ⟨s_cmp u i1 i2 h0, fun _ => t_cmp u i1 i2 h0⟩
    · cases h
  | .chain op op' a b c, t, k, X, W, e, x, hk, tk, h => by
    cases e <;> first | (simp [chkE] at h; done) | skip
    rename_i l ops rs p
    simp only [chkE] at h
    split at h
    · rename_i heq
      cases heq
      simp only [Bool.and_eq_true, decide_eq_true_eq, Bool.not_eq_true'] at h
      obtain ⟨⟨⟨⟨⟨⟨rfl, rfl⟩, h0⟩, h0'⟩, h1⟩, h2⟩, h3⟩ := h
      have u : X.A.units + 64 < cLine := by have := x.units; omega
      have i1 := (s_E a false k X W _ x hk tk h1).1
      have i2 := (s_E b false k X W _ x hk tk h2).1
      have i3 := (s_E c false k X W _ x hk tk h3).1
      exact ⟨s_chain u i1 i2 i3 h0', fun _ => t_chain u i1 i2 i3 h0'⟩
    · cases h
  | .and a b, t, k, X, W, e, x, hk, tk, h => by
    cases e <;> first | (simp [chkE] at h; done) | skip
    rename_i o vs p
    simp only [chkE] at h
    split at h
    · rename_i heq
      cases heq
      simp only [Bool.and_eq_true] at h
      obtain ⟨h1, h2⟩ := h
      have i1 := s_E a t k X W _ x hk tk h1
      split at h2
      · have i2 := s_E b t k X W _ x hk tk h2
        exact ⟨s_and i1.1 (s_one i2.1), fun z => (w_and (i1.2 z) (w_and1 (i2.2 z))).pt⟩
      · have i2 := s_E b t k X W _ x hk tk h2
        exact ⟨s_and i1.1 i2.1, fun z => (w_and (i1.2 z) (pw_of_pt (i2.2 z))).pt⟩
    · cases h
  | .or a b, t, k, X, W, e, x, hk, tk, h => by
    cases e <;> first | (simp [chkE] at h; done) | skip
    rename_i o vs p
    simp only [chkE] at h
    split at h
    · rename_i heq
      cases heq
      simp only [Bool.and_eq_true] at h
      obtain ⟨h1, h2⟩ := h
      have i1 := s_E a t k X W _ x hk tk h1
      split at h2
      · have i2 := s_E b t k X W _ x hk tk h2
        exact ⟨s_or i1.1 (s_one i2.1), fun z => (w_or (i1.2 z) (w_or1 (i2.2 z))).pt⟩
      · have i2 := s_E b t k X W _ x hk tk h2
        exact ⟨s_or i1.1 i2.1, fun z => (w_or (i1.2 z) (pw_of_pt (i2.2 z))).pt⟩
    · cases h
  | .ife c a b, t, k, X, W, e, x, hk, tk, h => by
    cases e <;> first | (simp [chkE] at h; done) | skip
    simp only [chkE, Bool.and_eq_true, Bool.not_eq_true'] at h
    obtain ⟨⟨⟨h0, h1⟩, h2⟩, h3⟩ := h
    refine ⟨s_ife ((s_E c true k X W _ x hk tk h1).2 rfl) (s_E a false k X W _ x hk tk h2).1 (s_E b false k X W _ x hk tk h3).1, fun z => ?_⟩
    rw [h0] at z; cases z
  | .tup as, t, k, X, W, e, x, hk, tk, h => by
    cases e <;> first | (simp [chkE] at h; done) | skip
    simp only [chkE] at h
    exact both (s_tup (s_A as k X W _ x hk tk h)) rfl
  | .lst as, t, k, X, W, e, x, hk, tk, h => by
    cases e <;> first | (simp [chkE] at h; done) | skip
    simp only [chkE] at h
    exact both (s_lst (s_A as k X W _ x hk tk h)) rfl
  | .dct ks vs, t, k, X, W, e, x, hk, tk, h => by
    cases e <;> first | (simp [chkE] at h; done) | skip
    rename_i ke ve p
    simp only [chkE, Bool.and_eq_true, decide_eq_true_eq, Bool.not_eq_true'] at h
    obtain ⟨⟨⟨⟨h1, h2⟩, h3⟩, h4⟩, h5⟩ := h
    obtain ⟨js, e1, e2, e3, pd⟩ := s_D vs ks k X W ke ve p x hk tk h1 h2 h3
    have q0 := s_dct pd e3 h3 (by intro z; rw [z] at h4; cases h4) h5 e2
    refine both (PE.weak q0 fun σ H Q hh => ?_) rfl
    obtain ⟨ρ, env, M, S, E, hh⟩ := hh
    refine ⟨ρ, env, M, S, E, ?_⟩
    simp only [evE, e1] at hh
    exact hh
  | .nil, t, k, X, W, e, x, hk, tk, h => by simp [chkE] at h
  | .cons _ _, t, k, X, W, e, x, hk, tk, h => by simp [chkE] at h
  | .sub a i, t, k, X, W, e, x, hk, tk, h => by
    cases e <;> first | (simp [chkE] at h; done) | skip
    simp only [chkE, Bool.and_eq_true, Bool.not_eq_true'] at h
    obtain ⟨⟨h0, h1⟩, h2⟩ := h
    have u : X.A.units + 64 < cLine := by have := x.units; omega
    exact both (s_sub u h0 (s_E a false k X W _ x hk tk h1).1 (s_E i false k X W _ x hk tk h2).1) rfl
  | .no, t, k, X, W, e, x, hk, tk, h => by simp [chkE] at h
  | .slc a lo hi, t, k, X, W, e, x, hk, tk, h => by
    cases e <;> first | (simp [chkE] at h; done) | skip
    rename_i o j p
    simp only [chkE] at h
    split at h
    · rename_i heq
      cases heq
      simp only [Bool.and_eq_true] at h
      obtain ⟨⟨h1, h2⟩, h3⟩ := h
      exact both (s_slc (s_E a false k X W _ x hk tk h1).1 (s_O lo k X W _ x hk tk h2) (s_O hi k X W _ x hk tk h3)) rfl
    · cases h
  | .rev a, t, k, X, W, e, x, hk, tk, h => by
    cases e <;> first | (simp [chkE] at h; done) | skip
    rename_i o j p
    simp only [chkE] at h
    split at h
    · rename_i heq
      cases heq
      exact both (s_rev (s_E a false k X W _ x hk tk h).1) rfl
    · cases h
  | .isi a ts many, t, k, X, W, e, x, hk, tk, h => by
    cases e <;> first | (simp [chkE] at h; done) | skip
    rename_i f as kws p
    simp only [chkE] at h
    split at h
    · rename_i heq
      cases heq
      simp only [Bool.and_eq_true, decide_eq_true_eq] at h
      obtain ⟨⟨⟨rfl, h1⟩, h2⟩, h3⟩ := h
      obtain ⟨g1, _⟩ := gl_k hk h1
      have hs := chkE_star h2
      have fr := x.free "isinstance" (by decide)
      have ia := (s_E a false k X W _ x hk tk h2).1
      split at h3
      · simp only [Bool.and_eq_true, decide_eq_true_eq] at h3
        exact both (s_isiT g1 fr x.cls ia hs (by rw [hk.sc]; exact h3.2) h3.1) rfl
      · simp only [Bool.and_eq_true, decide_eq_true_eq] at h3
        obtain ⟨l1, h3⟩ := h3
        match ts, l1, h3 with
        | [c], _, h3 =>
          exact both (s_isi1 (x := "x") (p1 := p) (p2 := p) g1 fr x.cls ia hs (by rw [hk.sc]; exact h3)) rfl
      · cases h3
    · cases h
  | .call f as, t, k, X, W, e, x, hk, tk, h => by
    cases e <;> first | (simp [chkE] at h; done) | skip
    rename_i g es kws p
    simp only [chkE] at h
    split at h
    · rename_i heq
      cases heq
      simp only [Bool.and_eq_true, decide_eq_true_eq] at h
      obtain ⟨⟨⟨rfl, h1⟩, h2⟩, h3⟩ := h
      obtain ⟨g1, g2⟩ := gl_k hk h1
      obtain ⟨l, hl⟩ := Option.isSome_iff_exists.mp h3
      obtain ⟨fa, fd, ps, C⟩ := x.call f l hl
      have hs := chkA_star h2
      cases es with
      | nil =>
        have en : as = .nil := by cases as <;> first | rfl | (simp [chkA] at h2)
        subst en
        exact both (s_call0 C x.room x.gd tk g1 g2) rfl
      | cons y ys =>
        exact both (s_call C x.room x.gd tk g1 g2 (s_A as k X W _ x hk tk h2) hs) rfl
    · cases h
  | .callk f n as ks kws perm, t, k, X, W, e, x, hk, tk, h => by
    cases e <;> first | (simp [chkE] at h; done) | skip
    rename_i g es ws p
    simp only [chkE] at h
    split at h
    · rename_i heq
      cases heq
      simp only [Bool.and_eq_true, decide_eq_true_eq, Bool.not_eq_true'] at h
      obtain ⟨⟨⟨⟨⟨⟨rfl, h1⟩, h2⟩, h3⟩, h4⟩, h5⟩, h6⟩ := h
      obtain ⟨g1, g2⟩ := gl_k hk h1
      split at h6
      · rename_i l hl
        obtain ⟨fa, fd, ps, C⟩ := x.call f l hl
        have hz : (n, ks, perm) ∈ l := by simpa using h6
        have hs := chkA_star h2
        have hn := kwNames_of h3
        have ik := s_K kws ks k X W ws x hk tk h3
        cases es with
        | nil =>
          have en : as = .nil := by cases as <;> first | rfl | (simp [chkA] at h2)
          subst en
          have e0 : n = 0 := h4
          subst e0
          exact both (s_callk0 C hz x.room x.gd tk g1 g2 ik hn) rfl
        | cons y ys =>
          exact both (s_callk C hz x.room x.gd tk g1 g2 (s_A as k X W _ x hk tk h2) hs ik hn) rfl
      · cases h6
    · cases h
  | .blt f as, t, k, X, W, e, x, hk, tk, h => by
    cases e <;> first | (simp [chkE] at h; done) | skip
    rename_i g es kws p
    simp only [chkE] at h
    split at h
    · rename_i heq
      cases heq
      simp only [Bool.and_eq_true, decide_eq_true_eq] at h
      obtain ⟨⟨rfl, h1⟩, h2⟩ := h
      obtain ⟨g1, g2⟩ := gl_k hk h1
      exact both (s_blt x.calm x.gd x.units g1 (x.free _ (bi_free f)) (s_A as k X W _ x hk tk h2) (chkA_star h2)) rfl
    · cases h
  | .meth m o as, t, k, X, W, e, x, hk, tk, h => by
    cases e <;> first | (simp [chkE] at h; done) | skip
    rename_i g es kws p
    simp only [chkE] at h
    split at h
    · rename_i heq
      cases heq
      simp only [Bool.and_eq_true, decide_eq_true_eq, Bool.not_eq_true'] at h
      obtain ⟨⟨⟨⟨⟨⟨rfl, h1⟩, h2⟩, h3⟩, h4⟩, h5⟩, h6⟩ := h
      have io := (s_E o false k X W _ x hk tk h3).1
      cases es with
      | nil =>
        have en : as = .nil := by cases as <;> first | rfl | (simp [chkA] at h4)
        subst en
        cases m <;> first | (simp at h6; done) | skip
        exact both (s_meth0 io h2 h1) rfl
      | cons y ys =>
        have hm : m ≠ .pop := by intro z; subst z; simp at h6
        exact both (s_meth io (s_A as k X W _ x hk tk h4) h2 h1 (chkA_star h4) h5 hm) rfl
    · cases h
  | .comp ct it ifs elt own, t, k, X, W, e, x, hk, tk, h => by
    cases e <;> first | (simp [chkE] at h; done) | skip
    rename_i y gens sc p
    simp only [chkE] at h
    split at h
    · rename_i heq
      cases heq
      simp only [Bool.and_eq_true, decide_eq_true_eq, Bool.not_eq_true'] at h
      obtain ⟨⟨⟨⟨⟨⟨⟨h0, h1⟩, h2⟩, h3⟩, h4⟩, h5⟩, h6⟩, h7⟩ := h
      subst h0
      split at h1
      · rename_i ow how
        simp only [Bool.and_eq_true, decide_eq_true_eq] at h1
        exact both (s_comp (ow := ow) x.calm x.nd (s_I it k X W _ _ x hk tk h3) (by rw [hk.N, hk.sc]; exact blkOk_by h1.1) h1.2
            (fun s H C cl fp => (s_tgt (hk.blk sc s H C cl fp) x.nd x.calm ct _ h4)) (fun s H C cl fp => (s_Ts ifs ⟨k.N, relS sc k.sc, false, k.kw, k.nm⟩ _ W0 _ (x.blk sc s H C cl fp) (hk.blk sc s H C cl fp) takes0 h5)) (fun s H C cl fp => (s_E elt false ⟨k.N, relS sc k.sc, false, k.kw, k.nm⟩ _ W0 _ (x.blk sc s H C cl fp) (hk.blk sc s H C cl fp) takes0 h6).1)
            h2 (fun j hj => by have := List.all_eq_true.mp h7 j hj; simpa using this)) rfl
      · cases h1
    · cases h
  | .iv _, t, k, X, W, e, x, hk, tk, h => by simp [chkE] at h
  | .irg1 _, t, k, X, W, e, x, hk, tk, h => by simp [chkE] at h
  | .irg2 _ _, t, k, X, W, e, x, hk, tk, h => by simp [chkE] at h
  | .ienum _, t, k, X, W, e, x, hk, tk, h => by simp [chkE] at h
  | .izip _ _, t, k, X, W, e, x, hk, tk, h => by simp [chkE] at h
  | .lenset a, t, k, X, W, e, x, hk, tk, h => by
    cases e <;> first | (simp [chkE] at h; done) | skip
    simp only [chkE] at h
    split at h
    · rename_i heq
      cases heq
      simp only [Bool.and_eq_true, decide_eq_true_eq] at h
      obtain ⟨⟨⟨⟨rfl, rfl⟩, h1⟩, h2⟩, h3⟩ := h
      exact both (s_lenset x.calm (gl_k hk h1).1 (x.free _ (by decide)) (gl_k hk h2).1 (x.free _ (by decide)) (s_E a false k X W _ x hk tk h3).1 (chkE_star h3)) rfl
    · cases h
  | .smeth m o as, t, k, X, W, e, x, hk, tk, h => by
    cases e <;> first | (simp [chkE] at h; done) | skip
    rename_i g es kws p
    simp only [chkE] at h
    split at h
    · rename_i heq
      cases heq
      simp only [Bool.and_eq_true, decide_eq_true_eq, Bool.not_eq_true'] at h
      obtain ⟨⟨⟨⟨⟨rfl, h1⟩, h2⟩, h3⟩, h4⟩, h5⟩ := h
      have io := (s_E o false k X W _ x hk tk h3).1
      cases es with
      | nil =>
        have en : as = .nil := by cases as <;> first | rfl | (simp [chkA] at h4)
        subst en
        exact both (s_smeth0 io h2 h1) rfl
      | cons z zs =>
        cases zs with
        | cons _ _ => cases m <;> simp at h5
        | nil =>
          cases as <;> first | (simp [chkA] at h4; done) | skip
          rename_i c r
          simp only [chkA, Bool.and_eq_true] at h4
          have en : r = .nil := by cases r <;> first | rfl | (simp [chkA] at h4)
          subst en
          exact both (s_smeth1 io (s_E c false k X W _ x hk tk h4.1).1 h2 h1 (chkE_star h4.1)) rfl
    · cases h
  | .fstr as, t, k, X, W, e, x, hk, tk, h => by
    cases e <;> first | (simp [chkE] at h; done) | skip
    rename_i es p
    simp only [chkE, Bool.and_eq_true, decide_eq_true_eq] at h
    match es, h with
    | v1 :: v2 :: rest, h =>
      obtain ⟨ts, hj, hr⟩ := s_F as k X W _ x hk tk h.1
      exact both (s_fstr hj hr) rfl
  | .fmt a, t, k, X, W, e, x, hk, tk, h => by
    cases e <;> first | (simp [chkE] at h; done) | skip
    simp only [chkE] at h
    split at h
    · rename_i heq
      cases heq
      simp only [Bool.and_eq_true, decide_eq_true_eq] at h
      obtain ⟨rfl, h1⟩ := h
      exact both (s_fmt (s_E a false k X W _ x hk tk h1).1) rfl
    · cases h
  | .minkey f i it ix b, t, k, X, W, e, x, hk, tk, h => by
    cases e <;> first | (simp [chkE] at h; done) | skip
    simp only [chkE] at h
    split at h
    · rename_i heq
      cases heq
      simp only [Bool.and_eq_true, decide_eq_true_eq] at h
      obtain ⟨⟨⟨⟨⟨⟨rfl, h1⟩, rfl⟩, h2⟩, rfl⟩, h3⟩, h4⟩ := h
      split at h4
      · rename_i p p' e1 e2
        simp only [Bool.and_eq_true, decide_eq_true_eq] at h4
        obtain ⟨⟨rfl, h5⟩, h6⟩ := h4
        obtain ⟨q1, q2⟩ := hk.nm h2
        have hfn := hk.fn h2
        have L := lamP_by h5
        rw [← hk.sc] at L
        exact both (s_minkey (k := 3 * d) q1 q2 e1 L (by rw [hk.N]; exact e2) x.nd (x.lam hfn) (gl_k hk h1).1 (x.free _ (by decide)) x.calm (s_E it false k X W _ x hk tk h3).1 (chkE_star h3) x.room.hd
          fun f c' s H => (s_E b false ⟨k.N, _, false, k.kw, k.nm⟩ _ W0 _ (x.lamX hfn s H _ f c') (hk.lamX s H _ f c') takes0 h6).1) rfl
      · cases h4
    · cases h
theorem s_F : ∀ (c : CE) (k : CK) (X : Cx) (W : WX) (es : List Expr), XOk G k.kw d X → KOk k X → Takes X W → chkA c k es = true → ∃ ts, PJ X es ts ∧ ∀ acc σ H Q, lR X eqR W (fun env M => evF G c env M acc) σ H Q → tJs ts acc σ H Q
  | .nil, k, X, W, es, x, hk, tk, h => by
    cases es with
    | nil => exact ⟨[], .nil, j_nil⟩
    | cons _ _ => simp [chkA] at h
  | .cons a r, k, X, W, es, x, hk, tk, h => by
    cases es with
    | nil => simp [chkA] at h
    | cons y ys =>
      simp only [chkA, Bool.and_eq_true] at h
      obtain ⟨ts, h1, h2⟩ := s_F r k X W ys x hk tk h.2
      exact ⟨_, .cons (s_E a false k X W _ x hk tk h.1).1 h1, j_cons h2⟩
  | .var _, k, X, W, es, x, hk, tk, h | .non, k, X, W, es, x, hk, tk, h | .bl _, k, X, W, es, x, hk, tk, h | .int _, k, X, W, es, x, hk, tk, h | .str _, k, X, W, es, x, hk, tk, h | .glo _, k, X, W, es, x, hk, tk, h | .bin _ _ _, k, X, W, es, x, hk, tk, h | .neg _, k, X, W, es, x, hk, tk, h | .not _, k, X, W, es, x, hk, tk, h | .cmp _ _ _, k, X, W, es, x, hk, tk, h | .chain _ _ _ _ _, k, X, W, es, x, hk, tk, h | .and _ _, k, X, W, es, x, hk, tk, h | .or _ _, k, X, W, es, x, hk, tk, h | .ife _ _ _, k, X, W, es, x, hk, tk, h | .tup _, k, X, W, es, x, hk, tk, h | .lst _, k, X, W, es, x, hk, tk, h | .dct _ _, k, X, W, es, x, hk, tk, h | .sub _ _, k, X, W, es, x, hk, tk, h | .no, k, X, W, es, x, hk, tk, h | .slc _ _ _, k, X, W, es, x, hk, tk, h | .rev _, k, X, W, es, x, hk, tk, h | .isi _ _ _, k, X, W, es, x, hk, tk, h | .call _ _, k, X, W, es, x, hk, tk, h | .callk _ _ _ _ _ _, k, X, W, es, x, hk, tk, h | .blt _ _, k, X, W, es, x, hk, tk, h | .meth _ _ _, k, X, W, es, x, hk, tk, h | .comp _ _ _ _ _, k, X, W, es, x, hk, tk, h | .iv _, k, X, W, es, x, hk, tk, h | .irg1 _, k, X, W, es, x, hk, tk, h | .irg2 _ _, k, X, W, es, x, hk, tk, h | .ienum _, k, X, W, es, x, hk, tk, h | .izip _ _, k, X, W, es, x, hk, tk, h | .lenset _, k, X, W, es, x, hk, tk, h | .smeth _ _ _, k, X, W, es, x, hk, tk, h | .fstr _, k, X, W, es, x, hk, tk, h | .fmt _, k, X, W, es, x, hk, tk, h | .minkey _ _ _ _ _, k, X, W, es, x, hk, tk, h => by simp [chkA] at h
theorem s_A : ∀ (c : CE) (k : CK) (X : Cx) (W : WX) (es : List Expr), XOk G k.kw d X → KOk k X → Takes X W → chkA c k es = true → PA X es (lA X W (evA G c))
  | .nil, k, X, W, es, x, hk, tk, h => by
    cases es with
    | nil => exact s_nil
    | cons _ _ => simp [chkA] at h
  | .cons a r, k, X, W, es, x, hk, tk, h => by
    cases es with
    | nil => simp [chkA] at h
    | cons y ys =>
      simp only [chkA, Bool.and_eq_true] at h
      exact s_cons (chkE_star h.1) (s_E a false k X W _ x hk tk h.1).1 (s_A r k X W _ x hk tk h.2)
  | .var _, k, X, W, es, x, hk, tk, h | .non, k, X, W, es, x, hk, tk, h | .bl _, k, X, W, es, x, hk, tk, h | .int _, k, X, W, es, x, hk, tk, h | .str _, k, X, W, es, x, hk, tk, h | .glo _, k, X, W, es, x, hk, tk, h | .bin _ _ _, k, X, W, es, x, hk, tk, h | .neg _, k, X, W, es, x, hk, tk, h | .not _, k, X, W, es, x, hk, tk, h | .cmp _ _ _, k, X, W, es, x, hk, tk, h | .chain _ _ _ _ _, k, X, W, es, x, hk, tk, h | .and _ _, k, X, W, es, x, hk, tk, h | .or _ _, k, X, W, es, x, hk, tk, h | .ife _ _ _, k, X, W, es, x, hk, tk, h | .tup _, k, X, W, es, x, hk, tk, h | .lst _, k, X, W, es, x, hk, tk, h | .dct _ _, k, X, W, es, x, hk, tk, h | .sub _ _, k, X, W, es, x, hk, tk, h | .no, k, X, W, es, x, hk, tk, h | .slc _ _ _, k, X, W, es, x, hk, tk, h | .rev _, k, X, W, es, x, hk, tk, h | .isi _ _ _, k, X, W, es, x, hk, tk, h | .call _ _, k, X, W, es, x, hk, tk, h | .callk _ _ _ _ _ _, k, X, W, es, x, hk, tk, h | .blt _ _, k, X, W, es, x, hk, tk, h | .meth _ _ _, k, X, W, es, x, hk, tk, h | .comp _ _ _ _ _, k, X, W, es, x, hk, tk, h | .iv _, k, X, W, es, x, hk, tk, h | .irg1 _, k, X, W, es, x, hk, tk, h | .irg2 _ _, k, X, W, es, x, hk, tk, h | .ienum _, k, X, W, es, x, hk, tk, h | .izip _ _, k, X, W, es, x, hk, tk, h | .lenset _, k, X, W, es, x, hk, tk, h | .smeth _ _ _, k, X, W, es, x, hk, tk, h | .fstr _, k, X, W, es, x, hk, tk, h | .fmt _, k, X, W, es, x, hk, tk, h | .minkey _ _ _ _ _, k, X, W, es, x, hk, tk, h => by simp [chkA] at h
theorem s_K : ∀ (c : CE) (ks : List Str) (k : CK) (X : Cx) (W : WX) (ws : List Keyword), XOk G k.kw d X → KOk k X → Takes X W → chkK c ks k ws = true → PK X ws (lK X W (evA G c))
  | .nil, ks, k, X, W, ws, x, hk, tk, h => by
    cases ws with
    | nil => exact k_nil
    | cons _ _ => cases ks <;> simp [chkK] at h
  | .cons a r, ks, k, X, W, ws, x, hk, tk, h => by
    cases ks with
    | nil => simp [chkK] at h
    | cons n ks =>
      cases ws with
      | nil => simp [chkK] at h
      | cons w ws =>
        obtain ⟨nm, y, p⟩ := w
        simp only [chkK, Bool.and_eq_true] at h
        exact k_cons (s_E a false k X W _ x hk tk h.1.2).1 (s_K r ks k X W ws x hk tk h.2)
  | .var _, ks, k, X, W, ws, x, hk, tk, h | .non, ks, k, X, W, ws, x, hk, tk, h | .bl _, ks, k, X, W, ws, x, hk, tk, h | .int _, ks, k, X, W, ws, x, hk, tk, h | .str _, ks, k, X, W, ws, x, hk, tk, h | .glo _, ks, k, X, W, ws, x, hk, tk, h | .bin _ _ _, ks, k, X, W, ws, x, hk, tk, h | .neg _, ks, k, X, W, ws, x, hk, tk, h | .not _, ks, k, X, W, ws, x, hk, tk, h | .cmp _ _ _, ks, k, X, W, ws, x, hk, tk, h | .chain _ _ _ _ _, ks, k, X, W, ws, x, hk, tk, h | .and _ _, ks, k, X, W, ws, x, hk, tk, h | .or _ _, ks, k, X, W, ws, x, hk, tk, h | .ife _ _ _, ks, k, X, W, ws, x, hk, tk, h | .tup _, ks, k, X, W, ws, x, hk, tk, h | .lst _, ks, k, X, W, ws, x, hk, tk, h | .dct _ _, ks, k, X, W, ws, x, hk, tk, h | .sub _ _, ks, k, X, W, ws, x, hk, tk, h | .no, ks, k, X, W, ws, x, hk, tk, h | .slc _ _ _, ks, k, X, W, ws, x, hk, tk, h | .rev _, ks, k, X, W, ws, x, hk, tk, h | .isi _ _ _, ks, k, X, W, ws, x, hk, tk, h | .call _ _, ks, k, X, W, ws, x, hk, tk, h | .callk _ _ _ _ _ _, ks, k, X, W, ws, x, hk, tk, h | .blt _ _, ks, k, X, W, ws, x, hk, tk, h | .meth _ _ _, ks, k, X, W, ws, x, hk, tk, h | .comp _ _ _ _ _, ks, k, X, W, ws, x, hk, tk, h | .iv _, ks, k, X, W, ws, x, hk, tk, h | .irg1 _, ks, k, X, W, ws, x, hk, tk, h | .irg2 _ _, ks, k, X, W, ws, x, hk, tk, h | .ienum _, ks, k, X, W, ws, x, hk, tk, h | .izip _ _, ks, k, X, W, ws, x, hk, tk, h | .lenset _, ks, k, X, W, ws, x, hk, tk, h | .smeth _ _ _, ks, k, X, W, ws, x, hk, tk, h | .fstr _, ks, k, X, W, ws, x, hk, tk, h | .fmt _, ks, k, X, W, ws, x, hk, tk, h | .minkey _ _ _ _ _, ks, k, X, W, ws, x, hk, tk, h => by simp [chkK] at h
theorem s_D : ∀ (c ks : CE) (k : CK) (X : Cx) (W : WX) (ke : List (Option Expr)) (ve : List Expr) (pos : Pos), XOk G k.kw d X → KOk k X → Takes X W → chkD ks ke = true → chkA c k ve = true → ke.length = ve.length →
    ∃ js, dctKeys ks = some js ∧ js.length = ke.length ∧ ke.all (·.isSome) = true ∧ PD X W pos js ke ve (evA G c)
  | .nil, ks, k, X, W, ke, ve, pos, x, hk, tk, h, h', hl => by
    cases ve with
    | cons _ _ => simp [chkA] at h'
    | nil =>
      cases ke with
      | cons _ _ => cases hl
      | nil =>
        have e : ks = .nil := by cases ks <;> first | rfl | (simp [chkD] at h)
        subst e
        exact ⟨[], rfl, rfl, rfl, d_nil⟩
  | .cons a r, ks, k, X, W, ke, ve, pos, x, hk, tk, h, h', hl => by
    cases ve with
    | nil => simp [chkA] at h'
    | cons y ys =>
      simp only [chkA, Bool.and_eq_true] at h'
      cases ke with
      | nil => cases hl
      | cons z zs =>
        have ia := (s_E a false k X W _ x hk tk h'.1).1
        cases ks <;> first | (simp [chkD] at h; done) | skip
        rename_i c cs
        cases c <;> first | (simp [chkD] at h; done) | skip
        · cases z with
          | none => simp [chkD] at h
          | some z =>
            cases z <;> first | (simp [chkD] at h; done) | skip
            rename_i v _ _
            cases v <;> first | (simp [chkD] at h; done) | skip
            simp only [chkD, Bool.and_eq_true, decide_eq_true_eq] at h
            obtain ⟨rfl, h2⟩ := h
            obtain ⟨js, e1, e2, e3, pd⟩ := s_D r cs k X W zs ys pos x hk tk h2 h'.2 (Nat.succ.inj hl)
            exact ⟨.inl _ :: js, by simp only [dctKeys, e1, Option.map_some], by rw [List.length_cons, List.length_cons, e2], by rw [List.all_cons, e3]; rfl, d_cons pe_int ia pd⟩
        · cases z with
          | none => simp [chkD] at h
          | some z =>
            cases z <;> first | (simp [chkD] at h; done) | skip
            rename_i v _ _
            cases v <;> first | (simp [chkD] at h; done) | skip
            simp only [chkD, Bool.and_eq_true, decide_eq_true_eq] at h
            obtain ⟨rfl, h2⟩ := h
            obtain ⟨js, e1, e2, e3, pd⟩ := s_D r cs k X W zs ys pos x hk tk h2 h'.2 (Nat.succ.inj hl)
            exact ⟨.inr _ :: js, by simp only [dctKeys, e1, Option.map_some], by rw [List.length_cons, List.length_cons, e2], by rw [List.all_cons, e3]; rfl, d_cons pe_str ia pd⟩
  | .var _, ks, k, X, W, ke, ve, pos, x, hk, tk, h, h', _ | .non, ks, k, X, W, ke, ve, pos, x, hk, tk, h, h', _ | .bl _, ks, k, X, W, ke, ve, pos, x, hk, tk, h, h', _ | .int _, ks, k, X, W, ke, ve, pos, x, hk, tk, h, h', _ | .str _, ks, k, X, W, ke, ve, pos, x, hk, tk, h, h', _ | .glo _, ks, k, X, W, ke, ve, pos, x, hk, tk, h, h', _ | .bin _ _ _, ks, k, X, W, ke, ve, pos, x, hk, tk, h, h', _ | .neg _, ks, k, X, W, ke, ve, pos, x, hk, tk, h, h', _ | .not _, ks, k, X, W, ke, ve, pos, x, hk, tk, h, h', _ | .cmp _ _ _, ks, k, X, W, ke, ve, pos, x, hk, tk, h, h', _ | .chain _ _ _ _ _, ks, k, X, W, ke, ve, pos, x, hk, tk, h, h', _ | .and _ _, ks, k, X, W, ke, ve, pos, x, hk, tk, h, h', _ | .or _ _, ks, k, X, W, ke, ve, pos, x, hk, tk, h, h', _ | .ife _ _ _, ks, k, X, W, ke, ve, pos, x, hk, tk, h, h', _ | .tup _, ks, k, X, W, ke, ve, pos, x, hk, tk, h, h', _ | .lst _, ks, k, X, W, ke, ve, pos, x, hk, tk, h, h', _ | .dct _ _, ks, k, X, W, ke, ve, pos, x, hk, tk, h, h', _ | .sub _ _, ks, k, X, W, ke, ve, pos, x, hk, tk, h, h', _ | .no, ks, k, X, W, ke, ve, pos, x, hk, tk, h, h', _ | .slc _ _ _, ks, k, X, W, ke, ve, pos, x, hk, tk, h, h', _ | .rev _, ks, k, X, W, ke, ve, pos, x, hk, tk, h, h', _ | .isi _ _ _, ks, k, X, W, ke, ve, pos, x, hk, tk, h, h', _ | .call _ _, ks, k, X, W, ke, ve, pos, x, hk, tk, h, h', _ | .callk _ _ _ _ _ _, ks, k, X, W, ke, ve, pos, x, hk, tk, h, h', _ | .blt _ _, ks, k, X, W, ke, ve, pos, x, hk, tk, h, h', _ | .meth _ _ _, ks, k, X, W, ke, ve, pos, x, hk, tk, h, h', _ | .comp _ _ _ _ _, ks, k, X, W, ke, ve, pos, x, hk, tk, h, h', _ | .iv _, ks, k, X, W, ke, ve, pos, x, hk, tk, h, h', _ | .irg1 _, ks, k, X, W, ke, ve, pos, x, hk, tk, h, h', _ | .irg2 _ _, ks, k, X, W, ke, ve, pos, x, hk, tk, h, h', _ | .ienum _, ks, k, X, W, ke, ve, pos, x, hk, tk, h, h', _ | .izip _ _, ks, k, X, W, ke, ve, pos, x, hk, tk, h, h', _ | .lenset _, ks, k, X, W, ke, ve, pos, x, hk, tk, h, h', _ | .smeth _ _ _, ks, k, X, W, ke, ve, pos, x, hk, tk, h, h', _ | .fstr _, ks, k, X, W, ke, ve, pos, x, hk, tk, h, h', _ | .fmt _, ks, k, X, W, ke, ve, pos, x, hk, tk, h, h', _ | .minkey _ _ _ _ _, ks, k, X, W, ke, ve, pos, x, hk, tk, h, h', _ => by simp [chkA] at h'
theorem s_Ts : ∀ (c : CE) (k : CK) (X : Cx) (W : WX) (es : List Expr), XOk G k.kw d X → KOk k X → Takes X W → chkTs c k es = true → PTs X es (lB X W (evT G c))
  | .nil, k, X, W, es, x, hk, tk, h => by
    cases es with
    | nil => exact ts_nil
    | cons _ _ => simp [chkTs] at h
  | .cons a r, k, X, W, es, x, hk, tk, h => by
    cases r <;> first | (simp [chkTs] at h; done) | skip
    cases es with
    | nil => simp [chkTs] at h
    | cons y ys =>
      cases ys with
      | cons _ _ => simp [chkTs] at h
      | nil =>
        simp only [chkTs] at h
        exact ts_one ((s_E a true k X W _ x hk tk h).2 rfl)
  | .var _, k, X, W, es, x, hk, tk, h | .non, k, X, W, es, x, hk, tk, h | .bl _, k, X, W, es, x, hk, tk, h | .int _, k, X, W, es, x, hk, tk, h | .str _, k, X, W, es, x, hk, tk, h | .glo _, k, X, W, es, x, hk, tk, h | .bin _ _ _, k, X, W, es, x, hk, tk, h | .neg _, k, X, W, es, x, hk, tk, h | .not _, k, X, W, es, x, hk, tk, h | .cmp _ _ _, k, X, W, es, x, hk, tk, h | .chain _ _ _ _ _, k, X, W, es, x, hk, tk, h | .and _ _, k, X, W, es, x, hk, tk, h | .or _ _, k, X, W, es, x, hk, tk, h | .ife _ _ _, k, X, W, es, x, hk, tk, h | .tup _, k, X, W, es, x, hk, tk, h | .lst _, k, X, W, es, x, hk, tk, h | .dct _ _, k, X, W, es, x, hk, tk, h | .sub _ _, k, X, W, es, x, hk, tk, h | .no, k, X, W, es, x, hk, tk, h | .slc _ _ _, k, X, W, es, x, hk, tk, h | .rev _, k, X, W, es, x, hk, tk, h | .isi _ _ _, k, X, W, es, x, hk, tk, h | .call _ _, k, X, W, es, x, hk, tk, h | .callk _ _ _ _ _ _, k, X, W, es, x, hk, tk, h | .blt _ _, k, X, W, es, x, hk, tk, h | .meth _ _ _, k, X, W, es, x, hk, tk, h | .comp _ _ _ _ _, k, X, W, es, x, hk, tk, h | .iv _, k, X, W, es, x, hk, tk, h | .irg1 _, k, X, W, es, x, hk, tk, h | .irg2 _ _, k, X, W, es, x, hk, tk, h | .ienum _, k, X, W, es, x, hk, tk, h | .izip _ _, k, X, W, es, x, hk, tk, h | .lenset _, k, X, W, es, x, hk, tk, h | .smeth _ _ _, k, X, W, es, x, hk, tk, h | .fstr _, k, X, W, es, x, hk, tk, h | .fmt _, k, X, W, es, x, hk, tk, h | .minkey _ _ _ _ _, k, X, W, es, x, hk, tk, h => by simp [chkTs] at h
theorem s_O : ∀ (c : CE) (k : CK) (X : Cx) (W : WX) (e : Option Expr), XOk G k.kw d X → KOk k X → Takes X W → chkO c k e = true → PO X e (lO X W (evO G c))
  | .no, k, X, W, e, x, hk, tk, h => by
    cases e with
    | none => exact s_no
    | some _ => simp [chkO] at h
  | .cons a r, k, X, W, e, x, hk, tk, h => by
    cases r <;> first | (simp [chkO] at h; done) | skip
    cases e with
    | none => simp [chkO] at h
    | some y =>
      simp only [chkO] at h
      exact s_part (s_E a false k X W _ x hk tk h).1
  | .var _, k, X, W, e, x, hk, tk, h | .non, k, X, W, e, x, hk, tk, h | .bl _, k, X, W, e, x, hk, tk, h | .int _, k, X, W, e, x, hk, tk, h | .str _, k, X, W, e, x, hk, tk, h | .glo _, k, X, W, e, x, hk, tk, h | .bin _ _ _, k, X, W, e, x, hk, tk, h | .neg _, k, X, W, e, x, hk, tk, h | .not _, k, X, W, e, x, hk, tk, h | .cmp _ _ _, k, X, W, e, x, hk, tk, h | .chain _ _ _ _ _, k, X, W, e, x, hk, tk, h | .and _ _, k, X, W, e, x, hk, tk, h | .or _ _, k, X, W, e, x, hk, tk, h | .ife _ _ _, k, X, W, e, x, hk, tk, h | .tup _, k, X, W, e, x, hk, tk, h | .lst _, k, X, W, e, x, hk, tk, h | .dct _ _, k, X, W, e, x, hk, tk, h | .nil, k, X, W, e, x, hk, tk, h | .sub _ _, k, X, W, e, x, hk, tk, h | .slc _ _ _, k, X, W, e, x, hk, tk, h | .rev _, k, X, W, e, x, hk, tk, h | .isi _ _ _, k, X, W, e, x, hk, tk, h | .call _ _, k, X, W, e, x, hk, tk, h | .callk _ _ _ _ _ _, k, X, W, e, x, hk, tk, h | .blt _ _, k, X, W, e, x, hk, tk, h | .meth _ _ _, k, X, W, e, x, hk, tk, h | .comp _ _ _ _ _, k, X, W, e, x, hk, tk, h | .iv _, k, X, W, e, x, hk, tk, h | .irg1 _, k, X, W, e, x, hk, tk, h | .irg2 _ _, k, X, W, e, x, hk, tk, h | .ienum _, k, X, W, e, x, hk, tk, h | .izip _ _, k, X, W, e, x, hk, tk, h | .lenset _, k, X, W, e, x, hk, tk, h | .smeth _ _ _, k, X, W, e, x, hk, tk, h | .fstr _, k, X, W, e, x, hk, tk, h | .fmt _, k, X, W, e, x, hk, tk, h | .minkey _ _ _ _ _, k, X, W, e, x, hk, tk, h => by simp [chkO] at h
theorem s_I : ∀ (c : CE) (k : CK) (X : Cx) (W : WX) (tg e : Expr), XOk G k.kw d X → KOk k X → Takes X W → chkI c k tg e = true → PI X tg e (lI X W (evI G c))
  | .iv a, k, X, W, tg, e, x, hk, tk, h => by
    simp only [chkI] at h
    exact i_iv (s_E a false k X W _ x hk tk h).1
  | .irg1 a, k, X, W, tg, e, x, hk, tk, h => by
    cases e <;> first | (simp [chkI] at h; done) | skip
    simp only [chkI] at h
    split at h
    · rename_i heq
      cases heq
      simp only [Bool.and_eq_true, decide_eq_true_eq] at h
      obtain ⟨⟨rfl, h1⟩, h2⟩ := h
      exact i_rg1 (gl_k hk h1).1 (x.free _ (by decide)) (s_E a false k X W _ x hk tk h2).1 (chkE_star h2)
    · cases h
  | .irg2 a b, k, X, W, tg, e, x, hk, tk, h => by
    cases e <;> first | (simp [chkI] at h; done) | skip
    simp only [chkI] at h
    split at h
    · rename_i heq
      cases heq
      simp only [Bool.and_eq_true, decide_eq_true_eq] at h
      obtain ⟨⟨⟨rfl, h1⟩, h2⟩, h3⟩ := h
      exact i_rg2 (gl_k hk h1).1 (x.free _ (by decide)) (s_E a false k X W _ x hk tk h2).1 (s_E b false k X W _ x hk tk h3).1 (chkE_star h2) (chkE_star h3)
    · cases h
  | .ienum a, k, X, W, tg, e, x, hk, tk, h => by
    cases e <;> first | (simp [chkI] at h; done) | skip
    simp only [chkI] at h
    split at h
    · rename_i heq
      cases heq
      simp only [Bool.and_eq_true, decide_eq_true_eq] at h
      obtain ⟨⟨⟨ht, rfl⟩, h1⟩, h2⟩ := h
      cases tg <;> first | (cases ht; done) | skip
      exact i_ienum (gl_k hk h1).1 (x.free _ (by decide)) (s_E a false k X W _ x hk tk h2).1 (chkE_star h2)
    · cases h
  | .izip a b, k, X, W, tg, e, x, hk, tk, h => by
    cases e <;> first | (simp [chkI] at h; done) | skip
    simp only [chkI] at h
    split at h
    · rename_i heq
      cases heq
      simp only [Bool.and_eq_true, decide_eq_true_eq] at h
      obtain ⟨⟨⟨⟨ht, rfl⟩, h1⟩, h2⟩, h3⟩ := h
      cases tg <;> first | (cases ht; done) | skip
      exact i_izip (gl_k hk h1).1 (x.free _ (by decide)) (s_E a false k X W _ x hk tk h2).1 (s_E b false k X W _ x hk tk h3).1 (chkE_star h2) (chkE_star h3)
    · cases h
  | .var _, k, X, W, tg, e, x, hk, tk, h | .non, k, X, W, tg, e, x, hk, tk, h | .bl _, k, X, W, tg, e, x, hk, tk, h | .int _, k, X, W, tg, e, x, hk, tk, h | .str _, k, X, W, tg, e, x, hk, tk, h | .glo _, k, X, W, tg, e, x, hk, tk, h | .bin _ _ _, k, X, W, tg, e, x, hk, tk, h | .neg _, k, X, W, tg, e, x, hk, tk, h | .not _, k, X, W, tg, e, x, hk, tk, h | .cmp _ _ _, k, X, W, tg, e, x, hk, tk, h | .chain _ _ _ _ _, k, X, W, tg, e, x, hk, tk, h | .and _ _, k, X, W, tg, e, x, hk, tk, h | .or _ _, k, X, W, tg, e, x, hk, tk, h | .ife _ _ _, k, X, W, tg, e, x, hk, tk, h | .tup _, k, X, W, tg, e, x, hk, tk, h | .lst _, k, X, W, tg, e, x, hk, tk, h | .dct _ _, k, X, W, tg, e, x, hk, tk, h | .nil, k, X, W, tg, e, x, hk, tk, h | .cons _ _, k, X, W, tg, e, x, hk, tk, h | .sub _ _, k, X, W, tg, e, x, hk, tk, h | .no, k, X, W, tg, e, x, hk, tk, h | .slc _ _ _, k, X, W, tg, e, x, hk, tk, h | .rev _, k, X, W, tg, e, x, hk, tk, h | .isi _ _ _, k, X, W, tg, e, x, hk, tk, h | .call _ _, k, X, W, tg, e, x, hk, tk, h | .callk _ _ _ _ _ _, k, X, W, tg, e, x, hk, tk, h | .blt _ _, k, X, W, tg, e, x, hk, tk, h | .meth _ _ _, k, X, W, tg, e, x, hk, tk, h | .comp _ _ _ _ _, k, X, W, tg, e, x, hk, tk, h | .lenset _, k, X, W, tg, e, x, hk, tk, h | .smeth _ _ _, k, X, W, tg, e, x, hk, tk, h | .fstr _, k, X, W, tg, e, x, hk, tk, h | .fmt _, k, X, W, tg, e, x, hk, tk, h | .minkey _ _ _ _ _, k, X, W, tg, e, x, hk, tk, h => by simp [chkI] at h
end
end
end Ev


set_option Elab.async false
set_option linter.all false
set_option maxRecDepth 100000
set_option maxHeartbeats 8000000
/-! Ev12: the text's statements do what the code says. -/
namespace Ev
open PySem L2

/-! ### is it alike? -/
def swapNames (sc : Scope) (ts : List Expr) : List Str := ts.filterMap fun
    | .Name id pos => if sc.names.lookup id == some .local && pos.line == (ts.head?.map (·.pos.line)).getD 0 then some id else none
    | _ => none
/-- are the stores of a, b = x, y swapped? none: this isn't told -/
def swapB (sc : Scope) (ts vs : List Expr) : Option (Option (List Str)) :=
  if !(ts.length == 2 || ts.length == 3) || vs.length != ts.length then some none else
  if vs.any isStar then some none else
  if (swapNames sc ts).length != ts.length || (swapNames sc ts).eraseDups.length != (swapNames sc ts).length then some none else
  if vs.all (foldedForSure 8) then some none else
  if vs.all (constantsAlone 8) then none else some (some (swapNames sc ts))
def isTupE : Expr → Bool
  | .Tuple .. => true
  | _ => false
def tgtName : Expr → Option (Str × Nat)
  | .Name x p => some (x, p.line)
  | _ => none
/-- a comprehension that is given to a name: does the store go first? -/
def compOk (k : CK) (x : Str) (px : Pos) : Expr → Bool
  | .ListComp _ _ sc p => match k.sc.names.lookup x with
    | some .local => (px.line == p.line) && !(sc.names.any fun (n, q) => n == x && (q == .local || q == .cell))
    | _ => true
  | .SetComp .. => false
  | .DictComp .. => false
  | _ => true
mutual
def chkS : CS → CK → Stmt → Bool
  | .asg t e, k, s => match s with
    | .Assign [tg] v _ => chkE e false k v && chkG k t tg && (match tg, v with
      | .Name x px, v => compOk k x px v
      | .Tuple ts _ _, .Tuple vs _ _ => (match swapB k.sc ts vs with
        | some none => true
        | _ => false)
      | .Tuple .., _ => true
      | _, _ => false)
    | _ => false
  | .par is as, k, s => match s with
    | .Assign [.Tuple ts _ _] (.Tuple vs _ _) _ => chkA as k vs && (match is, ts, vs with
      | [i, j], [.Name x _, .Name y _], [_, _] => decide (k.N[i]? = some x) && decide (k.N[j]? = some y) && decide (i ≠ j) && decide (k.sc.names.lookup x = some .local) && decide (k.sc.names.lookup y = some .local) && decide (swapB k.sc ts vs = some (some [x, y]))
      | [i, j, l], [.Name x _, .Name y _, .Name z _], [_, _, _] => decide (k.N[i]? = some x) && decide (k.N[j]? = some y) && decide (k.N[l]? = some z) && decide (i ≠ j) && decide (i ≠ l) && decide (j ≠ l) && decide (k.sc.names.lookup x = some .local) && decide (k.sc.names.lookup y = some .local) && decide (k.sc.names.lookup z = some .local) && decide (swapB k.sc ts vs = some (some [x, y, z]))
      | _, _, _ => false)
    | _ => false
  | .asgS o i e, k, s => match s with
    | .Assign [.Subscript x j _] v _ => chkE e false k v && chkE o false k x && chkE i false k j && !isSlice j
    | _ => false
  | .aug i op e, k, s => match s with
    | .AugAssign (.Name x _) o v _ => decide (op = o) && decide (op = .Add) && decide (k.N[i]? = some x) && locB k x && chkE e false k v
    | _ => false
  | .expr e, k, s => match s with
    | .Expr v _ => chkE e false k v && !isComp v
    | _ => false
  | .ite c a b, k, s => match s with
    | .If x as bs _ => chkE c true k x && chkB a k as && chkB b k bs
    | _ => false
  | .for_ t it b, k, s => match s with
    | .For tg iter body [] _ => chkG k t tg && chkI it k tg iter && !isSet iter && chkB b k body
    | _ => false
  | .while_ c b, k, s => match s with
    | .While x body [] _ => chkE c true k x && chkB b k body
    | _ => false
  | .ret e, k, s => match s with
    | .Return (some v) _ => chkE e false k v
    | _ => false
  | .retN, _, s => match s with
    | .Return none _ => true
    | _ => false
  | .pass, _, s => match s with
    | .Pass _ => true
    | _ => false
  | .brk, _, s => match s with
    | .Break _ => true
    | _ => false
  | .cnt, _, s => match s with
    | .Continue _ => true
    | _ => false
  | .never, _, _ => true
  | .nil, _, _ => false
  | .seq _ _, _, _ => false
  | .raise _ _, _, _ => false
def chkB : CS → CK → List Stmt → Bool
  | .nil, _, ss => match ss with
    | [] => true
    | _ => false
  | .seq a r, k, ss => match ss with
    | s :: ss => chkS a k s && chkB r k ss
    | [] => false
  | _, _, _ => false
end
theorem swap_eq {env : PySem.Env} {ts vs : List Expr} {k1 k2 : Nat} {p1 p2 : Pos} {o : Option (List Str)} (hb : env.blockKind = .function) (h : swapB env.scope ts vs = some o) : swappedStores [.Tuple ts k1 p1] (.Tuple vs k2 p2) env = pure o := by
  have hk : ∀ id, env.kindOf id = env.scope.names.lookup id := fun _ => rfl
  have hbb : (env.blockKind != .function) = false := by rw [hb]; rfl
  unfold swapB at h
  unfold swappedStores
  simp only [hbb, Bool.or_false, hk]
  show (if _ then _ else _) = _
  split at h
  · rename_i c
    cases h
    split
    · rfl
    · rename_i c'
      exact absurd c c'
  · rename_i c
    split
    · rename_i c'
      exact absurd c' c
    · show (if _ then _ else _) = _
      split at h
      · rename_i c2
        cases h
        split
        · rfl
        · rename_i c'
          exact absurd c2 c'
      · rename_i c2
        split
        · rename_i c'
          exact absurd c' c2
        · show (if ((swapNames env.scope ts).length != ts.length || (swapNames env.scope ts).eraseDups.length != (swapNames env.scope ts).length) = true then _ else _) = _
          split at h
          · rename_i c3
            cases h
            split
            · rfl
            · rename_i c'
              exact absurd c3 c'
          · rename_i c3
            split
            · rename_i c'
              exact absurd c' c3
            · show (if _ then _ else _) = _
              split at h
              · rename_i c4
                cases h
                split
                · rfl
                · rename_i c'
                  exact absurd c4 c'
              · rename_i c4
                split
                · rename_i c'
                  exact absurd c' c4
                · show (if _ then _ else _) = _
                  split at h
                  · cases h
                  · rename_i c5
                    split
                    · rename_i c'
                      exact absurd c' c5
                    · cases h
                      rfl
/-! ### readings -/
def PostS (X : Cx) (W : WX) (D : Ends) (ρ : List Addr) (H : Hp) : SRes → Prop
  | .nx env M => ∀ ρ' σ' H', Ext ρ H ρ' H' → SM X.K X.mg ρ' H' M → RE X.K X.mg ρ' H' env σ' → D.nx σ' H'
  | .rt v M => ∀ ρ' x H', Ext ρ H ρ' H' → SM X.K X.mg ρ' H' M → RV X.K X.mg ρ' H' v x → D.rt x H'
  | .bk env M => ∀ ρ' σ' H', Ext ρ H ρ' H' → SM X.K X.mg ρ' H' M → RE X.K X.mg ρ' H' env σ' → D.bk σ' H'
  | .ct env M => ∀ ρ' σ' H', Ext ρ H ρ' H' → SM X.K X.mg ρ' H' M → RE X.K X.mg ρ' H' env σ' → D.ct σ' H'
  | .ex x env M => ∀ ρ' σ' H' cls d, Ext ρ H ρ' H' → SM X.K X.mg ρ' H' M → RE X.K X.mg ρ' H' env σ' → EV X.K X.mg ρ' H' x cls d → W cls d σ' H'
  | .bad => False
def lS (X : Cx) (W : WX) (r : Env → Sto → SRes) : TS := fun D σ H => ∃ ρ env M, SM X.K X.mg ρ H M ∧ RE X.K X.mg ρ H env σ ∧ PostS X W D ρ H (r env M)
section
variable {X : Cx} {W : WX} {D D' : Ends} {ρ ρ1 : List Addr} {H H1 : Hp}
theorem PS.weak {s : Stmt} {t t' : TS} (h : PS X s t) (k : ∀ D σ H, t' D σ H → t D σ H) : PS X s t' := ⟨fun pins s σ H D I q => h.run pins s σ H D I (k D σ H q)⟩
theorem PSs.weak {s : List Stmt} {t t' : TS} (h : PSs X s t) (k : ∀ D σ H, t' D σ H → t D σ H) : PSs X s t' := ⟨fun pins s σ H D I q => h.run pins s σ H D I (k D σ H q)⟩
theorem PS.or {s : Stmt} {t t' : TS} (h : PS X s t) (h' : PS X s t') : PS X s (fun D σ H => t D σ H ∨ t' D σ H) := ⟨fun pins s σ H D I q => q.elim (h.run pins s σ H D I) (h'.run pins s σ H D I)⟩
theorem PostS.at {r : SRes} (h : PostS X W D ρ H r) (E : Ext ρ H ρ1 H1) : PostS X W D ρ1 H1 r := by
  cases r with
  | nx _ _ => exact fun a b c e => h a b c (E.trans e)
  | rt _ _ => exact fun a b c e => h a b c (E.trans e)
  | bk _ _ => exact fun a b c e => h a b c (E.trans e)
  | ct _ _ => exact fun a b c e => h a b c (E.trans e)
  | ex _ _ _ => exact fun a b c d f e => h a b c d f (E.trans e)
  | bad => exact h
/-- an expression, then the rest -/
theorem PostS.exp {α β : Type} {R : List Addr → Hp → α → β → Prop} {r : Res α} {env : Env} {σ : St} {M : Sto} {f : α → Sto → SRes} {Q : β → Hp → Prop} (S : SM X.K X.mg ρ H M) (E : RE X.K X.mg ρ H env σ) (h : PostS X W D ρ H (r.then env f))
    (k : ∀ x M1 ρ1 v H1, Ext ρ H ρ1 H1 → SM X.K X.mg ρ1 H1 M1 → RE X.K X.mg ρ1 H1 env σ → R ρ1 H1 x v → PostS X W D ρ1 H1 (f x M1) → Q v H1) : Post X.K X.mg R (fun c d H' => W c d σ H') ρ H r Q := by
  cases r with
  | bad => exact h
  | exc x M1 => exact fun ρ1 H1 c d e1 S1 ev => h ρ1 σ H1 c d e1 S1 (E.mono S e1) ev
  | ok x M1 => exact fun ρ1 v H1 e1 S1 r1 => k x M1 ρ1 v H1 e1 S1 (E.mono S e1) r1 (PostS.at h e1)
/-- a test, then one of two ways -/
theorem PostS.test {r : Res PV} {env : Env} {σ : St} {M : Sto} {f g : PV → Sto → SRes} {Q : Bool → Hp → Prop} (S : SM X.K X.mg ρ H M) (E : RE X.K X.mg ρ H env σ) (h : PostS X W D ρ H (r.then env fun x M1 => match truV M1 x with | some true => f x M1 | some false => g x M1 | none => .bad))
    (k : ∀ b x M1 ρ1 H1, Ext ρ H ρ1 H1 → SM X.K X.mg ρ1 H1 M1 → RE X.K X.mg ρ1 H1 env σ → PostS X W D ρ1 H1 (if b = true then f x M1 else g x M1) → Q b H1) : Post X.K X.mg eqR (fun c d H' => W c d σ H') ρ H (r.bind fun x M1 => Res.of (truV M1 x) M1) Q := by
  cases r with
  | bad => exact h
  | exc x M1 => exact fun ρ1 H1 c d e1 S1 ev => h ρ1 σ H1 c d e1 S1 (E.mono S e1) ev
  | ok x M1 =>
    show Post X.K X.mg eqR _ ρ H (Res.of (truV M1 x) M1) Q
    have h' : PostS X W D ρ H (match truV M1 x with | some true => f x M1 | some false => g x M1 | none => .bad) := h
    cases q : truV M1 x with
    | none => rw [q] at h'; exact h'.elim
    | some b =>
      rw [q] at h'
      intro ρ1 v H1 e1 S1 r1
      cases r1
      refine k b x M1 ρ1 H1 e1 S1 (E.mono S e1) ?_
      cases b with
      | true => exact PostS.at h' e1
      | false => exact PostS.at h' e1
theorem PostS.next {env : Env} {M : Sto} {σ : St} (h : PostS X W D ρ H (.nx env M)) (S : SM X.K X.mg ρ H M) (E : RE X.K X.mg ρ H env σ) : D.nx σ H := h ρ σ H (Ext.refl _ _) S E
end
section
variable {X : Cx} {W : WX} {a b c e tg : Expr} {es : List Expr} {pos p : Pos} {ra rb rc : Env → Sto → Res PV} {rs : Env → Sto → Res (List PV)} {r1 r2 : Env → Sto → SRes}
theorem b_nil : PSs X [] (lS X W fun env M => .nx env M) := by
  refine PSs.weak pss_nil fun D σ H h => ?_
  obtain ⟨ρ, env, M, S, E, h⟩ := h
  exact PostS.next h S E
theorem b_cons {s : Stmt} {ss : List Stmt} (h1 : PS X s (lS X W r1)) (h2 : PSs X ss (lS X W r2)) : PSs X (s :: ss) (lS X W fun env M => (r1 env M).bind fun env1 M1 => r2 env1 M1) := by
  refine PSs.weak (pss_cons h1 h2) fun D σ H h => ?_
  obtain ⟨ρ, env, M, S, E, h⟩ := h
  refine ⟨ρ, env, M, S, E, ?_⟩
  dsimp only at h
  revert h
  cases r1 env M with
  | nx env1 M1 => exact fun h ρ1 σ1 H1 e1 S1 E1 => ⟨ρ1, env1, M1, S1, E1, PostS.at h e1⟩
  | rt _ _ => exact fun h => h
  | bk _ _ => exact fun h => h
  | ct _ _ => exact fun h => h
  | ex _ _ _ => exact fun h => h
  | bad => exact fun h => h
theorem x_asg {t : CT} {s : Stmt} (hs : PS X s (tAsg (lE X W ra) (lG X t))) : PS X s (lS X W fun env M => (ra env M).then env fun x M1 => match asgT t x env with
    | some env1 => .nx env1 M1
    | none => .bad) := by
  refine PS.weak hs fun D σ H h => ?_
  obtain ⟨ρ, env, M, S, E, h⟩ := h
  refine ⟨ρ, env, M, S, E, PostS.exp S E h fun x M1 ρ1 v H1 e1 S1 E1 r1 h1 => ?_⟩
  cases q : asgT t x env with
  | none => rw [q] at h1; exact h1.elim
  | some env1 =>
    rw [q] at h1
    exact ⟨ρ1, env, M1, x, env1, S1, E1, r1, q, fun σ2 E2 _ => PostS.next h1 S1 E2⟩
theorem x_expr (ha : PE X a (lE X W ra)) (hc : isComp a = false) : PS X (.Expr a pos) (lS X W fun env M => (ra env M).then env fun _ M1 => .nx env M1) := by
  refine PS.weak (ps_expr ha (swaps_ne hc _ _ _)) fun D σ H h => ?_
  obtain ⟨ρ, env, M, S, E, h⟩ := h
  exact ⟨ρ, env, M, S, E, PostS.exp S E h fun x M1 ρ1 v H1 e1 S1 E1 r1 h1 => PostS.next h1 S1 E1⟩
theorem x_ret (ha : PE X a (lE X W ra)) : PS X (.Return (some a) pos) (lS X W fun env M => (ra env M).then env fun x M1 => .rt x M1) := by
  refine PS.weak (ps_ret ha) fun D σ H h => ?_
  obtain ⟨ρ, env, M, S, E, h⟩ := h
  exact ⟨ρ, env, M, S, E, PostS.exp S E h fun x M1 ρ1 v H1 e1 S1 E1 r1 h1 => h1 ρ1 v H1 (Ext.refl _ _) S1 r1⟩
theorem x_retN : PS X (.Return none pos) (lS X W fun _ M => .rt .non M) := by
  refine PS.weak ps_retN fun D σ H h => ?_
  obtain ⟨ρ, env, M, S, E, h⟩ := h
  exact h ρ .non H (Ext.refl _ _) S .non
theorem x_pass : PS X (.Pass pos) (lS X W fun env M => .nx env M) := by
  refine PS.weak ps_pass fun D σ H h => ?_
  obtain ⟨ρ, env, M, S, E, h⟩ := h
  exact PostS.next h S E
theorem x_brk : PS X (.Break pos) (lS X W fun env M => .bk env M) := by
  refine PS.weak ps_break fun D σ H h => ?_
  obtain ⟨ρ, env, M, S, E, h⟩ := h
  exact h ρ σ H (Ext.refl _ _) S E
theorem x_cnt : PS X (.Continue pos) (lS X W fun env M => .ct env M) := by
  refine PS.weak ps_continue fun D σ H h => ?_
  obtain ⟨ρ, env, M, S, E, h⟩ := h
  exact h ρ σ H (Ext.refl _ _) S E
theorem x_ite {as bs : List Stmt} (hc : PT X c (lT X W rc)) (ha : PSs X as (lS X W r1)) (hb : PSs X bs (lS X W r2)) : PS X (.If c as bs pos) (lS X W fun env M => (rc env M).then env fun x M1 => match truV M1 x with
    | some true => r1 env M1
    | some false => r2 env M1
    | none => .bad) := by
  refine PS.weak (ps_if hc ha hb) fun D σ H h => ?_
  obtain ⟨ρ, env, M, S, E, h⟩ := h
  refine ⟨ρ, env, M, S, E, PostS.test S E h fun k x M1 ρ1 H1 e1 S1 E1 h1 => ?_⟩
  cases k with
  | true => exact iteT ⟨ρ1, env, M1, S1, E1, h1⟩
  | false => exact iteF ⟨ρ1, env, M1, S1, E1, h1⟩
theorem x_aug {i : Nat} {x : Str} (hN : X.N.Nodup) (hi : X.N[i]? = some x) (hx : L2.Loc X.env.scope x) (hf : X.fn x = true ∨ X.env.scope.names.lookup x = some .local) (ha : PE X a (lE X W ra)) : PS X (.AugAssign (.Name x p) .Add a pos) (lS X W fun env M => match env[i]? with
    | some (some x) => (ra env M).then env fun y M1 => match x, y, Operator.Add with
      | .int a, .int b, .Add => .nx (env.set i (some (.int (a + b)))) M1
      | .int a, .int b, .Sub => .nx (env.set i (some (.int (a - b)))) M1
      | .str a, .str b, .Add => if a.length + b.length ≤ sizeLine then .nx (env.set i (some (.str (a ++ b)))) M1 else .bad
      | _, _, _ => .bad
    | _ => .bad) := by
  refine PS.weak (ps_aug hN hi hx ha (iop_add.or iop_add_str) hf) fun D σ H h => ?_
  obtain ⟨ρ, env, M, S, E, h⟩ := h
  dsimp only at h
  cases q : env[i]? with
  | none => rw [q] at h; exact h.elim
  | some o =>
    cases o with
    | none => rw [q] at h; exact h.elim
    | some z =>
      rw [q] at h
      obtain ⟨v, hv, rz⟩ := E.get q
      refine ⟨v, hv, ρ, env, M, S, E, PostS.exp S E h fun y M1 ρ1 w H1 e1 S1 E1 r1 h1 => ?_⟩
      have rz1 := rz.mono S e1
      cases z <;> cases y <;> first | exact h1.elim | skip
      · cases rz1.int_inv; cases r1.int_inv
        exact .inl ⟨_, _, rfl, rfl, PostS.next h1 S1 (E1.set (.int _) i)⟩
      · cases rz1.str_inv; cases r1.str_inv
        rename_i s1 s2
        have h1 : PostS X W D ρ1 H1 (if s1.length + s2.length ≤ sizeLine then .nx (env.set i (some (.str (s1 ++ s2)))) M1 else .bad) := h1
        split at h1
        · rename_i c
          exact .inr ⟨_, _, rfl, rfl, c, PostS.next h1 S1 (E1.set (.str _) i)⟩
        · exact h1.elim
theorem x_par2 {i j : Nat} {x y : Str} {px py pt : Pos} {kt k2 : Nat} {pt2 : Pos} (hc : X.calm = true) (hN : X.N.Nodup) (hi : X.N[i]? = some x) (hj : X.N[j]? = some y) (hij : i ≠ j) (hx : X.env.scope.names.lookup x = some .local) (hy : X.env.scope.names.lookup y = some .local) (ha : PA X [a, b] (lA X W rs))
    (hw : swappedStores [.Tuple [.Name x px, .Name y py] kt pt] (.Tuple [a, b] k2 pt2) X.env = pure (some [x, y])) :
    PS X (.Assign [.Tuple [.Name x px, .Name y py] kt pt] (.Tuple [a, b] k2 pt2) pos) (lS X W fun env M => (rs env M).then env fun xs M1 => if [i, j].length = xs.length then .nx (([i, j].zip xs).foldl (fun env p => env.set p.1 (some p.2)) env) M1 else .bad) := by
  refine PS.weak (ps_par hc hN hi hj hij hx hy ha hw) fun D σ H h => ?_
  obtain ⟨ρ, env, M, S, E, h⟩ := h
  refine ⟨ρ, env, M, S, E, PostS.exp S E h fun xs M1 ρ1 vs H1 e1 S1 E1 r1 h1 => ?_⟩
  split at h1
  · rename_i c
    match xs, c, r1, h1 with
    | [u, v], _, r1, h1 =>
      obtain ⟨u', v', rfl, q1, q2⟩ := r1.two_inv
      exact ⟨u', v', rfl, PostS.next h1 S1 ((E1.set q1 i).set q2 j)⟩
  · exact h1.elim
theorem RVs.three_inv {K : PySem.W.Frag} {mg : Str → Option Value} {ρ : List Addr} {H : Hp} {x y z : PV} {vs : List V} (h : RVs K mg ρ H [x, y, z] vs) : ∃ u v w, vs = [u, v, w] ∧ RV K mg ρ H x u ∧ RV K mg ρ H y v ∧ RV K mg ρ H z w := by
  cases h with
  | cons a b =>
    obtain ⟨v, w, rfl, h1, h2⟩ := b.two_inv
    exact ⟨_, v, w, rfl, a, h1, h2⟩
theorem x_par3 {i j l : Nat} {x y z : Str} {px py pz pt : Pos} {kt k2 : Nat} {pt2 : Pos} (hc : X.calm = true) (hN : X.N.Nodup) (hi : X.N[i]? = some x) (hj : X.N[j]? = some y) (hl : X.N[l]? = some z) (hij : i ≠ j) (hil : i ≠ l) (hjl : j ≠ l) (hx : X.env.scope.names.lookup x = some .local) (hy : X.env.scope.names.lookup y = some .local) (hz : X.env.scope.names.lookup z = some .local) (ha : PA X [a, b, c] (lA X W rs))
    (hw : swappedStores [.Tuple [.Name x px, .Name y py, .Name z pz] kt pt] (.Tuple [a, b, c] k2 pt2) X.env = pure (some [x, y, z])) :
    PS X (.Assign [.Tuple [.Name x px, .Name y py, .Name z pz] kt pt] (.Tuple [a, b, c] k2 pt2) pos) (lS X W fun env M => (rs env M).then env fun xs M1 => if [i, j, l].length = xs.length then .nx (([i, j, l].zip xs).foldl (fun env p => env.set p.1 (some p.2)) env) M1 else .bad) := by
  refine PS.weak (ps_par3 hc hN hi hj hl hij hil hjl hx hy hz ha hw) fun D σ H h => ?_
  obtain ⟨ρ, env, M, S, E, h⟩ := h
  refine ⟨ρ, env, M, S, E, PostS.exp S E h fun xs M1 ρ1 vs H1 e1 S1 E1 r1 h1 => ?_⟩
  split at h1
  · rename_i c
    match xs, c, r1, h1 with
    | [u, v, w], _, r1, h1 =>
      obtain ⟨t', u', v', rfl, q0, q1, q2⟩ := RVs.three_inv r1
      exact ⟨t', u', v', rfl, PostS.next h1 S1 (((E1.set q0 i).set q1 j).set q2 l)⟩
  · exact h1.elim
end
end Ev

set_option Elab.async false
set_option linter.all false
set_option maxRecDepth 100000
set_option maxHeartbeats 8000000
/-! Ev13: loops, stores, blocks. -/
namespace Ev
open PySem L2
section
variable {X : Cx} {W : WX} {a b c e tg : Expr} {es : List Expr} {pos p : Pos} {ra rb rc : Env → Sto → Res PV} {rs : Env → Sto → Res (List PV)} {r1 r2 : Env → Sto → SRes}
/-- the turn of a for: the target, then the body -/
def forB (t : CT) (r : Env → Sto → SRes) (x : PV) (env : Env) (M : Sto) : SRes := match asgT t x env with
      | some env1 => r env1 M
      | none => .bad
theorem x_for {iter : Expr} {body : List Stmt} {t : CT} {ri : Env → Sto → Res Src} (hp : PassesOwn (model X.prog X.w) X.A X.env X.xe) (hc : X.calm = true) (hi : PI X tg iter (lI X W ri)) (hg : PG X tg (lG X t)) (hb : PSs X body (lS X W r1)) (hs : isSet iter = false) :
    PS X (.For tg iter body [] pos) (lS X W fun env M => (ri env M).then env fun s M1 => forL (forB t r1) (keepB s.src) s.items env M1) := by
  refine PS.weak (ps_for hp hc hi hg hb (folded_ne hs _)) fun D σ H h => ?_
  obtain ⟨ρ, env, M, S, E, h⟩ := h
  refine ⟨ρ, env, M, S, E, PostS.exp S E h fun s M1 ρ1 J H1 e1 S1 E1 wk h1 => ?_⟩
  let Pv : Nat → St → Hp → Prop := fun i σ H => ∃ ρ env M, Ext ρ1 H1 ρ H ∧ SM X.K X.mg ρ H M ∧ RE X.K X.mg ρ H env σ ∧ PostS X W D ρ H (forL (forB t r1) (keepB s.src) (s.items.drop i) env M)
  refine ⟨fun i m σ H => m = s.items.length - i ∧ i ≤ s.items.length ∧ Pv i σ H, ⟨s.items.length, rfl, Nat.zero_le _, ρ1, env, M1, Ext.refl _ _, S1, E1, by rw [List.drop_zero]; exact h1⟩, ?_⟩
  rintro i m σ2 H2 ⟨rfl, hi, ρ2, env2, M2, e2, S2, E2, h2⟩
  have k2 : keepB s.src M2 = true := by
    cases q : s.items.drop i with
    | nil =>
      rw [q] at h2
      simp only [forL] at h2
      by_cases k : keepB s.src M2 = true
      · exact k
      · rw [if_neg k] at h2; exact h2.elim
    | cons x r =>
      rw [q] at h2
      simp only [forL] at h2
      by_cases k : keepB s.src M2 = true
      · exact k
      · rw [if_neg k] at h2; exact h2.elim
  cases q : s.items.drop i with
  | nil =>
    have hl : i = s.items.length := by
      have := congrArg List.length q
      rw [List.length_drop] at this
      simp at this
      omega
    rw [q] at h2
    simp only [forL, if_pos k2] at h2
    exact .inl ⟨by rw [hl]; exact wk.stop ρ2 H2 M2 e2 S2 k2, PostS.next h2 S2 E2⟩
  | cons x r =>
    obtain ⟨gx, gr, gi⟩ := drop_get q
    rw [q] at h2
    simp only [forL, if_pos k2] at h2
    refine .inr ⟨wk.go i ρ2 H2 M2 e2 S2 k2 gi, Pv (i + 1), fun σ' H' p' => ⟨s.items.length - (i + 1), by omega, rfl, gi, p'⟩, fun v H3 y => ?_⟩
    obtain ⟨e3, S3, r3⟩ := wk.yld i x ρ2 H2 M2 v H3 e2 S2 k2 gx y
    have E3 : RE X.K X.mg ρ2 H3 env2 σ2 := E2.mono S2 e3
    unfold forB at h2
    cases qa : asgT t x env2 with
    | none => rw [qa] at h2; exact h2.elim
    | some env1 =>
      rw [qa] at h2
      refine ⟨ρ2, env2, M2, x, env1, S3, E3, r3, qa, fun σ4 E4 _ => ⟨ρ2, env1, M2, S3, E4, ?_⟩⟩
      simp only at h2
      have e23 := e2.trans e3
      revert h2
      cases r1 env1 M2 with
      | nx env5 M5 => exact fun h ρ5 σ5 H5 e5 S5 E5 => ⟨ρ5, env5, M5, e23.trans e5, S5, E5, by rw [gr]; exact PostS.at h (e3.trans e5)⟩
      | ct env5 M5 => exact fun h ρ5 σ5 H5 e5 S5 E5 => ⟨ρ5, env5, M5, e23.trans e5, S5, E5, by rw [gr]; exact PostS.at h (e3.trans e5)⟩
      | bk env5 M5 => exact fun h ρ5 σ5 H5 e5 S5 E5 => h ρ5 σ5 H5 (e3.trans e5) S5 E5
      | rt _ _ => exact fun h ρ5 x H5 e5 => h ρ5 x H5 (e3.trans e5)
      | ex _ _ _ => exact fun h ρ5 σ5 H5 c d e5 => h ρ5 σ5 H5 c d (e3.trans e5)
      | bad => exact fun h => h
theorem x_while {body : List Stmt} {n : Nat} (hp : PassesOwn (model X.prog X.w) X.A X.env X.xe) (hc : PT X c (lT X W rc)) (hb : PSs X body (lS X W r1)) : PS X (.While c body [] pos) (lS X W fun env M => whL rc r1 n env M) := by
  refine PS.weak (ps_while hp hc hb) fun D σ H h => ?_
  obtain ⟨ρ, env, M, S, E, h⟩ := h
  let Pv : Nat → St → Hp → Prop := fun m σ H => ∃ ρ env M, SM X.K X.mg ρ H M ∧ RE X.K X.mg ρ H env σ ∧ PostS X W D ρ H (whL rc r1 m env M)
  refine ⟨Pv, ⟨n, ρ, env, M, S, E, h⟩, ?_⟩
  rintro m σ2 H2 ⟨ρ2, env2, M2, S2, E2, h2⟩
  cases m with
  | zero => exact h2.elim
  | succ m =>
    simp only [whL] at h2
    refine ⟨ρ2, env2, M2, S2, E2, PostS.test S2 E2 h2 fun k x M3 ρ3 H3 e3 S3 E3 h3 => ?_⟩
    cases k with
    | false => exact iteF (PostS.next h3 S3 E3)
    | true =>
      rw [if_pos rfl] at h3
      refine iteT ⟨Pv m, fun σ' H' q => ⟨m, Nat.lt_succ_self m, q⟩, ρ3, env2, M3, S3, E3, ?_⟩
      revert h3
      cases r1 env2 M3 with
      | nx env5 M5 => exact fun h ρ5 σ5 H5 e5 S5 E5 => ⟨ρ5, env5, M5, S5, E5, PostS.at h e5⟩
      | ct env5 M5 => exact fun h ρ5 σ5 H5 e5 S5 E5 => ⟨ρ5, env5, M5, S5, E5, PostS.at h e5⟩
      | bk env5 M5 => exact fun h => h
      | rt _ _ => exact fun h => h
      | ex _ _ _ => exact fun h => h
      | bad => exact fun h => h
/-! ### o[i] = v -/
theorem assign_sub {o i : Expr} {pos : Pos} {env : PySem.Env} (h : isSlice i = false) (v : Value) : assign (.Subscript o i pos) env v = (do
      let ov ← holding [v] (eval o env)
      let iv ← holding [v, ov] (eval i env)
      standAt pos
      holding [v, ov, iv] (setItem ov iv v)
      release [v, ov, iv] []) := by
  cases i <;> first | rfl | cases h
theorem swaps_sub {v o i : Expr} {p : Pos} {l : Nat} {env : PySem.Env} : swapsWith v (some (.Subscript o i p)) l env = pure false := by
  cases v <;> rfl
theorem swaps_tup {v : Expr} {ts : List Expr} {k : Nat} {p : Pos} {l : Nat} {env : PySem.Env} : swapsWith v (some (.Tuple ts k p)) l env = pure false := by
  cases v <;> rfl
theorem sole_of {v t : Expr} {l : Nat} {env : PySem.Env} (h : swapsWith v (some t) l env = pure false) : swapsWithSole [t] v l env = pure false := h
theorem swapped_sub {v o i : Expr} {p : Pos} {env : PySem.Env} : swappedStores [.Subscript o i p] v env = pure none := by
  cases v <;> rfl
theorem swapped_tup {v : Expr} {ts : List Expr} {k : Nat} {p : Pos} {env : PySem.Env} (h : isTupE v = false) : swappedStores [.Tuple ts k p] v env = pure none := by
  cases v <;> first | rfl | cases h
theorem swapped_name {v : Expr} {x : Str} {p : Pos} {env : PySem.Env} : swappedStores [.Name x p] v env = pure none := by
  cases v <;> rfl
theorem setV_ok {K : PySem.W.Frag} {mg : Str → Option Value} {ρ : List Addr} {H : Hp} {M M' : Sto} {o i y : PV} {v w u : V} (S : SM K mg ρ H M) (ro : RV K mg ρ H o v) (ri : RV K mg ρ H i w) (ry : RV K mg ρ H y u) (e : setV o i y M = some M') :
    (isD M o = false ∧ ∃ p xs k j, v = .ref p ∧ w = .int k ∧ H p = some (.lst xs) ∧ ixN xs.length k = some j ∧ Ext ρ H ρ (upd H p (.lst (xs.set j u))) ∧ SM K mg ρ (upd H p (.lst (xs.set j u))) M') ∨
    (isD M o = true ∧ ∃ p H', v = .ref p ∧ DPut H p w u H' ∧ Ext ρ H ρ H' ∧ SM K mg ρ H' M') := by
  unfold setV at e
  split at e
  · obtain ⟨a, rfl, hi⟩ := ro.ref_inv
    split at e
    · rename_i q
      obtain ⟨vs, h1, h2⟩ := S.get hi q
      split at e
      · cases ri.int_inv
        rename_i xs _ k
        cases qi : ixN xs.length k with
        | none => rw [qi] at e; cases e
        | some j =>
          rw [qi] at e; cases e
          exact .inl ⟨by simp only [isD, q], a, vs, k, j, rfl, rfl, h1, by rw [← h2.length]; exact qi, Ext.set (List.mem_of_getElem? hi), S.set hi (o := .lst _) (ho := .lst _) (h2.set ry j)⟩
      · cases e
    · rename_i q
      obtain ⟨ws, h1, h2⟩ := S.getD hi q
      split at e
      · rename_i k hk
        split at e
        · rename_i c
          cases e
          rw [keyOf_ok ri hk]
          have hl : ws.length < sizeLine := by rw [← Paired.length h2]; exact c
          exact .inr ⟨by simp only [isD, q], a, _, rfl, DPut.k h1 hl, Ext.set (List.mem_of_getElem? hi), S.set hi (o := .dct _) (ho := .dK _) (h2.put ry)⟩
        · cases e
      · cases e
    · cases e
  · cases e
theorem x_set {o i v : Expr} {ro ri : Env → Sto → Res PV} {p2 : Pos} (hu : X.A.units + 1 < cLine) (hi : isSlice i = false) (hv : PE X v (lE X W ra)) (ho : PE X o (lE X W ro)) (hix : PE X i (lE X W ri)) :
    PS X (.Assign [.Subscript o i p2] v pos) (lS X W fun env M => (ra env M).then env fun x M1 => (ro env M1).then env fun y M2 => (ri env M2).then env fun z M3 => match setV y z x M3 with
    | some M4 => .nx env M4
    | none => .bad) := by
  have q1 : PS X (.Assign [.Subscript o i p2] v pos) (tAsg (lE X W ra) (gSub (lE X W ro) (lE X W ri) rSetL)) := ps_asg hv (pg_sub ho hix set_list fun v => assign_sub hi v) (sole_of swaps_sub) swapped_sub (each_cons _ _ rfl)
  have q2 := ps_dput (pos' := p2) (pos := pos) hu ho hix hv swaps_sub
  refine ⟨fun pins s σ H D I h => ?_⟩
  obtain ⟨ρ, env, M, S, E, h⟩ := h
  dsimp only at h
  have go : (tAsg (lE X W ra) (gSub (lE X W ro) (lE X W ri) rSetL)) D σ H ∨ sDPut (lE X W ro) (lE X W ri) (lE X W ra) D σ H := by
    cases qa : ra env M with
    | bad => rw [qa] at h; exact h.elim
    | exc x M1 =>
      rw [qa] at h
      exact .inl ⟨ρ, env, M, S, E, by rw [qa]; exact fun ρ1 H1 c d e1 S1 ev => h ρ1 σ H1 c d e1 S1 (E.mono S e1) ev⟩
    | ok x M1 =>
      rw [qa, Res.then_ok] at h
      cases qo : ro env M1 with
      | bad => rw [qo] at h; exact h.elim
      | exc y M2 =>
        rw [qo] at h
        refine .inl ⟨ρ, env, M, S, E, ?_⟩
        rw [qa]
        intro ρ1 v1 H1 e1 S1 r1
        exact ⟨ρ1, env, M1, S1, E.mono S e1, by rw [qo]; exact fun ρ2 H2 c d e2 S2 ev => h ρ2 σ H2 c d (e1.trans e2) S2 (E.mono S (e1.trans e2)) ev⟩
      | ok y M2 =>
        rw [qo, Res.then_ok] at h
        cases qi : ri env M2 with
        | bad => rw [qi] at h; exact h.elim
        | exc z M3 =>
          rw [qi] at h
          refine .inl ⟨ρ, env, M, S, E, ?_⟩
          rw [qa]
          intro ρ1 v1 H1 e1 S1 r1
          refine ⟨ρ1, env, M1, S1, E.mono S e1, ?_⟩
          rw [qo]
          intro ρ2 v2 H2 e2 S2 r2
          exact ⟨ρ2, env, M2, S2, E.mono S (e1.trans e2), by rw [qi]; exact fun ρ3 H3 c d e3 S3 ev => h ρ3 σ H3 c d ((e1.trans e2).trans e3) S3 (E.mono S ((e1.trans e2).trans e3)) ev⟩
        | ok z M3 =>
          rw [qi, Res.then_ok] at h
          cases qs : setV y z x M3 with
          | none => rw [qs] at h; exact h.elim
          | some M4 =>
            rw [qs] at h
            by_cases c : isD M3 y = true
            · refine .inr ⟨ρ, env, M, S, E, ?_⟩
              rw [qa]
              intro ρ1 v1 H1 e1 S1 r1
              refine ⟨ρ1, env, M1, S1, E.mono S e1, ?_⟩
              rw [qo]
              intro ρ2 v2 H2 e2 S2 r2
              refine ⟨ρ2, env, M2, S2, E.mono S (e1.trans e2), ?_⟩
              rw [qi]
              intro ρ3 v3 H3 e3 S3 r3
              rcases setV_ok S3 (r2.mono S2 e3) r3 (r1.mono S1 (e2.trans e3)) qs with ⟨n, _⟩ | ⟨_, p, H', rfl, dp, e4, S4⟩
              · rw [n] at c; cases c
              · have ee := ((e1.trans e2).trans e3).trans e4
                exact ⟨p, H', rfl, dp, h ρ3 σ H' ee S4 (E.mono S ee)⟩
            · refine .inl ⟨ρ, env, M, S, E, ?_⟩
              rw [qa]
              intro ρ1 v1 H1 e1 S1 r1
              refine ⟨ρ1, env, M1, S1, E.mono S e1, ?_⟩
              rw [qo]
              intro ρ2 v2 H2 e2 S2 r2
              refine ⟨ρ2, env, M2, S2, E.mono S (e1.trans e2), ?_⟩
              rw [qi]
              intro ρ3 v3 H3 e3 S3 r3
              rcases setV_ok S3 (r2.mono S2 e3) r3 (r1.mono S1 (e2.trans e3)) qs with ⟨_, p, xs, k, j, rfl, rfl, h1, h2, e4, S4⟩ | ⟨n, _⟩
              · have ee := ((e1.trans e2).trans e3).trans e4
                exact ⟨p, xs, k, j, rfl, rfl, h1, h2, h ρ3 σ _ ee S4 (E.mono S ee)⟩
              · exact absurd n c
  exact go.elim (q1.run pins s σ H D I) (q2.run pins s σ H D I)
end
/-- what is known in a def's body -/
structure XS (G : Glob) (kw : KwT) (d : Nat) (X : Cx) : Prop where
  x : XOk G kw d X
  po : PassesOwn (model X.prog X.w) X.A X.env X.xe
  bk : X.env.scope.kind = .function
section
variable {G : Glob} {d : Nat}
theorem block_kind {X : Cx} (h : X.env.scope.kind = .function) : X.env.blockKind = .function := by unfold PySem.Env.blockKind; rw [h]; rfl
theorem lookS {sc : Scope} {x : Str} (h : (sc.names.lookup x == some NameKind.local) = true) : sc.names.lookup x = some .local := by simpa using h
/-- name = value -/
theorem x_name {X : Cx} {W : WX} {k : CK} {i : Nat} {x : Str} {px pos : Pos} {v : Expr} {ra : Env → Sto → Res PV} (hk : KOk k X) (hN : X.N.Nodup) (hc : X.calm = true) (hf : X.env.scope.kind = .function) (hg : chkG k (.nm i) (.Name x px) = true) (hv : PE X v (lE X W ra)) (hcv : isComp v = false) :
    PS X (.Assign [.Name x px] v pos) (tAsg (lE X W ra) (lG X (.nm i))) := ps_asg hv (s_tgt hk hN hc (.nm i) _ hg) (sole_of (swaps_ne hcv _ _ _)) swapped_name (each_cons _ _ rfl)
theorem swaps_cell {e : Expr} {gs : List Comprehension} {sc : Scope} {p px : Pos} {x : Str} {l : Nat} {env : PySem.Env} (h : env.scope.names.lookup x ≠ some .local) : swapsWith (.ListComp e gs sc p) (some (.Name x px)) l env = pure false := by
  have hk : (env.kindOf x == some NameKind.local) = false := by
    show (env.scope.names.lookup x == some NameKind.local) = false
    cases q : env.scope.names.lookup x with
    | none => rfl
    | some v =>
      rw [q] at h
      cases v <;> first | rfl | exact absurd rfl h
  unfold swapsWith
  simp only [hk, Bool.and_false, Bool.false_and]
theorem gName_of {X : Cx} {W : WX} {s : Stmt} {i : Nat} {r : Env → Sto → Res PV} (h : PS X s (tAsg (lE X W r) (gName i))) : PS X s (lS X W fun env M => (r env M).then env fun x M1 => match asgT (.nm i) x env with
    | some env1 => .nx env1 M1
    | none => .bad) := by
  refine PS.weak h fun D σ H h => ?_
  obtain ⟨ρ, env, M, S, E, h⟩ := h
  refine ⟨ρ, env, M, S, E, PostS.exp S E h fun x M1 ρ1 v H1 e1 S1 E1 r1 h1 => ?_⟩
  exact PostS.next (env := env.set i (some x)) h1 S1 (E1.set r1 i)
/-- name = [..] -/
theorem x_comp {X : Cx} {W : WX} {k : CK} {i : Nat} {y : Str} {py pos spos : Pos} {c : CE} {v : Expr} {gs : List Comprehension} {sc : Scope} (xs : XS G k.kw d X) (hk : KOk k X) (tk : Takes X W) (hy : k.N[i]? = some y) (hl : k.sc.names.lookup y = some .local) (h : chkE c false k (.ListComp v gs sc pos) = true)
    (ho : ((py.line == pos.line) && !(sc.names.any fun (n, q) => n == y && (q == .local || q == .cell))) = true) : PS X (.Assign [.Name y py] (.ListComp v gs sc pos) spos) (tAsg (lE X W (evE G c)) (gName i)) := by
  have x := xs.x
  cases c <;> first | (simp [chkE] at h; done) | skip
  rename_i ct it ifs elt own
  simp only [chkE] at h
  split at h
  · rename_i heq
    cases heq
    simp only [Bool.and_eq_true, decide_eq_true_eq, Bool.not_eq_true'] at h
    obtain ⟨⟨⟨⟨⟨⟨⟨h0, h1⟩, h2⟩, h3⟩, h4⟩, h5⟩, h6⟩, h7⟩ := h
    subst h0
    split at h1
    · rename_i ow how
      simp only [Bool.and_eq_true, decide_eq_true_eq] at h1
      simp only [Bool.and_eq_true, Bool.not_eq_true'] at ho
      exact x_setc (ow := ow) x.calm x.nd (by rw [hk.N]; exact hy) (by rw [hk.sc]; exact hl) (sw_true xs.bk (by rw [hk.sc]; exact hl) ho.1 ho.2) (s_I it k X W _ _ x hk tk h3) (by rw [hk.N, hk.sc]; exact blkOk_by h1.1) h1.2
            (fun s H C cl fp => (s_tgt (hk.blk sc s H C cl fp) x.nd x.calm ct _ h4)) (fun s H C cl fp => (s_Ts ifs ⟨k.N, relS sc k.sc, false, k.kw, k.nm⟩ _ W0 _ (x.blk sc s H C cl fp) (hk.blk sc s H C cl fp) takes0 h5)) (fun s H C cl fp => (s_E elt false ⟨k.N, relS sc k.sc, false, k.kw, k.nm⟩ _ W0 _ (x.blk sc s H C cl fp) (hk.blk sc s H C cl fp) takes0 h6).1)
            h2 (fun j hj => by have := List.all_eq_true.mp h7 j hj; simpa using this)
    · cases h1
  · cases h
mutual
theorem s_S : ∀ (c : CS) (k : CK) (X : Cx) (W : WX) (s : Stmt), XS G k.kw d X → KOk k X → Takes X W → chkS c k s = true → PS X s (lS X W (evS G c))
  | .asg t e, k, X, W, s, xs, hk, tk, h => by
    have x := xs.x
    cases s <;> first | (simp [chkS] at h; done) | skip
    rename_i ts v p
    simp only [chkS] at h
    split at h
    · rename_i heq
      cases heq
      rename_i tg
      simp only [Bool.and_eq_true] at h
      obtain ⟨⟨h1, h2⟩, h3⟩ := h
      have iv := (s_E e false k X W _ x hk tk h1).1
      split at h3
      · rename_i y py
        cases t <;> first | (simp [chkG] at h2; done) | skip
        rename_i i
        by_cases hcv : isComp v = true
        · cases v <;> first | (cases hcv; done) | (simp [compOk] at h3; done) | skip
          rename_i e2 gs sc p2
          simp only [compOk] at h3
          have hn : k.N[i]? = some y := by
            simp only [chkG, Bool.and_eq_true, decide_eq_true_eq] at h2
            exact h2.1
          split at h3
          · rename_i hl
            exact gName_of (x_comp xs hk tk hn hl h1 h3)
          · rename_i hl
            have hl' : X.env.scope.names.lookup y ≠ some .local := by rw [hk.sc]; exact fun z => hl z
            exact x_asg (ps_asg iv (s_tgt hk x.nd x.calm (.nm i) _ h2) (sole_of (swaps_cell hl')) swapped_name (each_cons _ _ rfl))
        · exact x_asg (x_name hk x.nd x.calm xs.bk h2 iv (by simpa using hcv))
      · rename_i ts k1 p1 vs k2 p2
        split at h3
        · rename_i hw
          have hw' := swap_eq (k1 := k1) (k2 := k2) (p1 := p1) (p2 := p2) (block_kind xs.bk) (by rw [hk.sc]; exact hw)
          exact x_asg (ps_asg iv (s_tgt hk x.nd x.calm t _ h2) (sole_of swaps_tup) hw' (each_cons _ _ rfl))
        · cases h3
      · rename_i hv
        exact x_asg (ps_asg iv (s_tgt hk x.nd x.calm t _ h2) (sole_of swaps_tup) (swapped_tup (by cases v <;> first | rfl | exact absurd rfl (hv _ _ _))) (each_cons _ _ rfl))
      · cases h3
    · cases h
  | .par is as, k, X, W, s, xs, hk, tk, h => by
    have x := xs.x
    cases s <;> first | (simp [chkS] at h; done) | skip
    rename_i ts v p
    simp only [chkS] at h
    split at h
    · rename_i heq
      cases heq
      simp only [Bool.and_eq_true] at h
      obtain ⟨h1, h2⟩ := h
      have ia := s_A as k X W _ x hk tk h1
      split at h2
      · simp only [Bool.and_eq_true, decide_eq_true_eq] at h2
        obtain ⟨⟨⟨⟨⟨q1, q2⟩, q3⟩, q4⟩, q5⟩, q6⟩ := h2
        exact x_par2 x.calm x.nd (by rw [hk.N]; exact q1) (by rw [hk.N]; exact q2) q3 (by rw [hk.sc]; exact q4) (by rw [hk.sc]; exact q5) ia (swap_eq (block_kind xs.bk) (by rw [hk.sc]; exact q6))
      · simp only [Bool.and_eq_true, decide_eq_true_eq] at h2
        obtain ⟨⟨⟨⟨⟨⟨⟨⟨⟨q1, q2⟩, q3⟩, q4⟩, q5⟩, q6⟩, q7⟩, q8⟩, q9⟩, q10⟩ := h2
        exact x_par3 x.calm x.nd (by rw [hk.N]; exact q1) (by rw [hk.N]; exact q2) (by rw [hk.N]; exact q3) q4 q5 q6 (by rw [hk.sc]; exact q7) (by rw [hk.sc]; exact q8) (by rw [hk.sc]; exact q9) ia (swap_eq (block_kind xs.bk) (by rw [hk.sc]; exact q10))
      · cases h2
    · cases h
  | .never, k, X, W, s, xs, hk, tk, h => PS.weak ps_never fun D σ H h => by
    obtain ⟨ρ, env, M, S, E, h⟩ := h
    exact h
  | .asgS o i e, k, X, W, s, xs, hk, tk, h => by
    have x := xs.x
    cases s <;> first | (simp [chkS] at h; done) | skip
    rename_i ts v p
    simp only [chkS] at h
    split at h
    · rename_i heq
      cases heq
      simp only [Bool.and_eq_true, Bool.not_eq_true'] at h
      obtain ⟨⟨⟨h1, h2⟩, h3⟩, h4⟩ := h
      have u : X.A.units + 1 < cLine := by have := x.units; omega
      exact x_set u h4 (s_E e false k X W _ x hk tk h1).1 (s_E o false k X W _ x hk tk h2).1 (s_E i false k X W _ x hk tk h3).1
    · cases h
  | .aug i op e, k, X, W, s, xs, hk, tk, h => by
    have x := xs.x
    cases s <;> first | (simp [chkS] at h; done) | skip
    rename_i t o v p
    cases t <;> first | (simp [chkS] at h; done) | skip
    simp only [chkS, Bool.and_eq_true, decide_eq_true_eq] at h
    obtain ⟨⟨⟨⟨rfl, rfl⟩, h2⟩, h3⟩, h4⟩ := h
    obtain ⟨l1, l2⟩ := loc_of hk h3
    exact x_aug x.nd (by rw [hk.N]; exact h2) l1 l2 (s_E e false k X W _ x hk tk h4).1
  | .expr e, k, X, W, s, xs, hk, tk, h => by
    have x := xs.x
    cases s <;> first | (simp [chkS] at h; done) | skip
    simp only [chkS, Bool.and_eq_true, Bool.not_eq_true'] at h
    exact x_expr (s_E e false k X W _ x hk tk h.1).1 h.2
  | .ite c a b, k, X, W, s, xs, hk, tk, h => by
    have x := xs.x
    cases s <;> first | (simp [chkS] at h; done) | skip
    simp only [chkS, Bool.and_eq_true] at h
    exact x_ite ((s_E c true k X W _ x hk tk h.1.1).2 rfl) (s_B a k X W _ xs hk tk h.1.2) (s_B b k X W _ xs hk tk h.2)
  | .for_ t it b, k, X, W, s, xs, hk, tk, h => by
    have x := xs.x
    cases s <;> first | (simp [chkS] at h; done) | skip
    rename_i tg iter body orelse p
    cases orelse with
    | cons _ _ => simp [chkS] at h
    | nil =>
      simp only [chkS, Bool.and_eq_true, Bool.not_eq_true'] at h
      obtain ⟨⟨⟨h1, h2⟩, h3⟩, h4⟩ := h
      exact x_for xs.po x.calm (s_I it k X W _ _ x hk tk h2) (s_tgt hk x.nd x.calm t _ h1) (s_B b k X W _ xs hk tk h4) h3
  | .while_ c b, k, X, W, s, xs, hk, tk, h => by
    have x := xs.x
    cases s <;> first | (simp [chkS] at h; done) | skip
    rename_i t body orelse p
    cases orelse with
    | cons _ _ => simp [chkS] at h
    | nil =>
      simp only [chkS, Bool.and_eq_true] at h
      exact x_while xs.po ((s_E c true k X W _ x hk tk h.1).2 rfl) (s_B b k X W _ xs hk tk h.2)
  | .ret e, k, X, W, s, xs, hk, tk, h => by
    have x := xs.x
    cases s <;> first | (simp [chkS] at h; done) | skip
    rename_i v p
    cases v with
    | none => simp [chkS] at h
    | some v =>
      simp only [chkS] at h
      exact x_ret (s_E e false k X W _ x hk tk h).1
  | .retN, k, X, W, s, xs, hk, tk, h => by
    cases s <;> first | (simp [chkS] at h; done) | skip
    rename_i v p
    cases v with
    | none => exact x_retN
    | some v => simp [chkS] at h
  | .pass, k, X, W, s, xs, hk, tk, h => by
    cases s <;> first | (simp [chkS] at h; done) | skip
    exact x_pass
  | .brk, k, X, W, s, xs, hk, tk, h => by
    cases s <;> first | (simp [chkS] at h; done) | skip
    exact x_brk
  | .cnt, k, X, W, s, xs, hk, tk, h => by
    cases s <;> first | (simp [chkS] at h; done) | skip
    exact x_cnt
  | .nil, k, X, W, s, xs, hk, tk, h => by simp [chkS] at h
  | .seq _ _, k, X, W, s, xs, hk, tk, h => by simp [chkS] at h
  | .raise _ _, k, X, W, s, xs, hk, tk, h => by simp [chkS] at h
theorem s_B : ∀ (c : CS) (k : CK) (X : Cx) (W : WX) (ss : List Stmt), XS G k.kw d X → KOk k X → Takes X W → chkB c k ss = true → PSs X ss (lS X W (evS G c))
  | .nil, k, X, W, ss, xs, hk, tk, h => by
    cases ss with
    | nil => exact b_nil
    | cons _ _ => simp [chkB] at h
  | .seq a r, k, X, W, ss, xs, hk, tk, h => by
    cases ss with
    | nil => simp [chkB] at h
    | cons s ss =>
      simp only [chkB, Bool.and_eq_true] at h
      exact b_cons (s_S a k X W s xs hk tk h.1) (s_B r k X W ss xs hk tk h.2)
  | .asg _ _, k, X, W, ss, xs, hk, tk, h | .par _ _, k, X, W, ss, xs, hk, tk, h | .never, k, X, W, ss, xs, hk, tk, h | .asgS _ _ _, k, X, W, ss, xs, hk, tk, h | .aug _ _ _, k, X, W, ss, xs, hk, tk, h | .expr _, k, X, W, ss, xs, hk, tk, h
  | .ite _ _ _, k, X, W, ss, xs, hk, tk, h | .for_ _ _ _, k, X, W, ss, xs, hk, tk, h | .while_ _ _, k, X, W, ss, xs, hk, tk, h | .ret _, k, X, W, ss, xs, hk, tk, h | .retN, k, X, W, ss, xs, hk, tk, h | .pass, k, X, W, ss, xs, hk, tk, h
  | .brk, k, X, W, ss, xs, hk, tk, h | .cnt, k, X, W, ss, xs, hk, tk, h | .raise _ _, k, X, W, ss, xs, hk, tk, h => by simp [chkB] at h
end
end
end Ev

set_option Elab.async false
set_option linter.all false
set_option maxRecDepth 100000
set_option maxHeartbeats 8000000
/-! Ev14: the defs of a text do what the code says. -/
namespace Ev
open PySem L2

/-- a def of the text, its code, the forms of its calls by name -/
structure Def where
  x : Str
  params : Arguments
  body : List Stmt
  scope : Scope
  d : FD
  kws : List (Nat × List Str × List Nat)
def parB (sc : Scope) (x : Str) : Bool := match sc.names.lookup x with
  | some .local => true
  | some .cell => true
  | _ => false
def fnKind (sc : Scope) : Bool := match sc.kind with
  | .function => true
  | _ => false
def scOk (N ps : List Str) (sc : Scope) : Bool := fnKind sc && !sc.isCoroutine && !sc.isGenerator && decide N.Nodup && decide (N.take ps.length = ps) && ps.all (parB sc) && sc.names.all (fun y => !freeB y.2)
theorem scOk.ok {N ps : List Str} {sc : Scope} (h : scOk N ps sc = true) : FnScope N ps sc := by
  unfold scOk at h
  simp only [Bool.and_eq_true, Bool.not_eq_true', decide_eq_true_eq] at h
  obtain ⟨⟨⟨⟨⟨⟨h1, h2⟩, h3⟩, h4⟩, h5⟩, h6⟩, h7⟩ := h
  refine ⟨?_, h2, h3, h4, h5, fun x hx => ?_, fun y hy e => ?_⟩
  · unfold fnKind at h1
    split at h1
    · assumption
    · cases h1
  · have q := List.all_eq_true.mp h6 x hx
    unfold parB at q
    split at q
    · exact .inl (by assumption)
    · exact .inr (by assumption)
    · cases q
  · have q := List.all_eq_true.mp h7 y hy
    rw [e] at q
    cases q
abbrev Tab := List Def
def Tab.get (tab : Tab) (x : Str) : Option Def := tab.find? fun D => decide (D.x = x)
def Tab.kw (tab : Tab) : KwT := fun x => (tab.get x).map (·.kws)
theorem Tab.get_mem {tab : Tab} {x : Str} {D : Def} (h : tab.get x = some D) : D ∈ tab ∧ D.x = x := by
  unfold Tab.get at h
  exact ⟨List.mem_of_find?_eq_some h, by simpa using List.find?_some h⟩
structure Def.Ok (kw : KwT) (D : Def) : Prop where
  sc : scOk D.d.N D.d.ps D.scope = true
  code : chkB D.d.body ⟨D.d.N, D.scope, true, kw, D.x⟩ D.body = true
  bd : ∀ (kV doc pm : Value) (an : Option Addr) (cdv ct : Value) (us : List Value), us.length = D.d.ps.length → bindArgs (PySem.W.fnOf D.x D.x D.params D.body D.scope .none kV doc pm an cdv ct) ⟨us, []⟩ = pure (D.d.ps.zip us)
  kb : ∀ z ∈ D.kws, ∀ (kV doc pm : Value) (an : Option Addr) (cdv ct : Value) (us ws : List Value), us.length = z.1 → ws.length = z.2.1.length →
    bindArgs (PySem.W.fnOf D.x D.x D.params D.body D.scope .none kV doc pm an cdv ct) ⟨us, z.2.1.zip ws⟩ = pure (D.d.ps.zip (permL z.2.2 (us ++ ws)))
/-- the text's code -/
def Tab.txt (tab : Tab) (glo : Str → Option PV) (exc : Str → Option (List Str)) (fuel : Nat) : Txt := ⟨fun x => (tab.get x).map (·.d), glo, exc, fuel⟩
/-- what stands behind the top -/
structure Wor (K : PySem.W.Frag) (mg : Str → Option Value) (tab : Tab) (glo : Str → Option PV) : Prop where
  fns : ∀ D ∈ tab, ∃ f fd, FunD K D.x D.x D.params D.body D.scope [] [] f fd ∧ mg D.x = some (.ref f)
  ok : ∀ D ∈ tab, D.Ok tab.kw
  free : ∀ x ∈ freeNames, mg x = none
  cls : ∀ c ∈ clsNames, mg (Str.ofString c) = none
  glo : ∀ x pv, glo x = some pv → ∃ u v, mg x = some u ∧ RelV v u ∧ ∀ ρ H, RV K mg ρ H pv v

theorem RE.start {K : PySem.W.Frag} {mg : Str → Option Value} {ρ : List Addr} {H : Hp} : ∀ (n : Nat) {xs : List PV} {vs : List V}, RVs K mg ρ H xs vs → RE K mg ρ H (xs.map some ++ List.replicate n none) (vs.map some ++ List.replicate n none)
  | 0, _, _, .nil => by exact .nil
  | n + 1, _, _, .nil => by
    show Paired _ (none :: _) (none :: _)
    exact .cons trivial (RE.start n .nil)
  | n, _, _, .cons r rs => .cons r (RE.start n rs)
section
variable {P : Program} {w : World} {K : PySem.W.Frag} {mg : Str → Option Value} {tab : Tab} {gl : Str → Option PV} {exc : Str → Option (List Str)} {fuel : Nat}
theorem guards_deeper (A : Around) (env : PySem.Env) : (A.deeper env).guards = A.guards := rfl
theorem RVs.len {ρ : List Addr} {H : Hp} {xs : List PV} {vs : List V} (h : RVs K mg ρ H xs vs) : xs.length = vs.length := h.length
theorem len_run {n : Nat} {D : Def} (hD : tab.get D.x = some D) {xs : List PV} {M : Sto} (h : callN (tab.txt gl exc fuel) n D.x xs M ≠ .bad) : xs.length = D.d.ps.length := by
  cases n with
  | zero => exact absurd rfl h
  | succ n =>
    rw [callN_def (d := D.d) (by show (tab.get D.x).map _ = _; rw [hD]; rfl)] at h
    unfold runF at h
    split at h
    · assumption
    · exact absurd rfl h
theorem back_post {X : Cx} {E : XK} {ρ : List Addr} {H : Hp} {Q : VK} {r : SRes} (h : PostV X.K X.mg E ρ H r.back Q) : PostS X (fun cls d _ H => E cls d H) { nx := fun _ H' => Q .non H', rt := Q } ρ H r := by
  cases r with
  | nx env M => exact fun ρ' σ' H' e S _ => h ρ' .non H' e S .non
  | rt v M => exact fun ρ' x H' e S r => h ρ' x H' e S r
  | bk env M => exact h.elim
  | ct env M => exact h.elim
  | ex x env M => exact fun ρ' σ' H' cls d e S _ ev => h ρ' H' cls d e S ev
  | bad => exact h.elim
/-- the module of the built-ins lies in the base -/
def BmB (base : Heap) (mg : Str → Option Value) : Prop := ∀ Pt : Addr, mainGlobals ≠ Pt → (∀ bm, mg "__builtins__" = some (.ref bm) → bm ≠ Pt) → base.BuiltinsAt mg Pt
theorem callAt_run {n : Nat} {D : Def} {f : Addr} {fd : FuncData} {base : Heap} (W : Wor K mg tab gl) (hD : tab.get D.x = some D) (F : FunD K D.x D.x D.params D.body D.scope [] [] f fd) (hmD : mg D.x = some (.ref f)) (hB : BmB base mg)
    (ih : ∀ (x : Str) (l : List (Nat × List Str × List Nat)), tab.kw x = some l → ∃ fa fd ps, CallAt P w K mg base n x l (callN (tab.txt gl exc fuel) n x) fa fd ps) :
    ∀ (A : Around) (outer : List PySem.Env) (s : Shared) (H : Hp) (args : Args) (us : List Value) (vs : List V) (xs : List PV) (ρ : List Addr) (M : Sto) (Q : VK) (E : XK), Room (3 * (n + 1)) A → A.guards = some [] → Env0 P w K mg base A outer s H → BindsTo s fd args (D.d.ps.zip us) → Vals vs us →
    SM K mg ρ H M → RVs K mg ρ H xs vs → PostV K mg E ρ H (callN (tab.txt gl exc fuel) (n + 1) D.x xs M) Q → codeAny (model P w) A (.call (.ref f) args) (CR (L2.CX P w) outer P w H s Q E) s := by
  intro A outer s H args us vs xs ρ M Q E hr hg e0 hb r SM0 rx hsp
  have O : D.Ok tab.kw := W.ok D (Tab.get_mem hD).1
  have S : FnScope D.d.N D.d.ps D.scope := scOk.ok O.sc
  have hlx : xs.length = D.d.ps.length := len_run hD fun z => by rw [z] at hsp; exact hsp.elim
  have hl : vs.length = D.d.ps.length := by rw [← rx.len]; exact hlx
  obtain ⟨oc, od, dV, kV, doc, pm, an, cdv, ct, osl, rfl, lk, hcd, _, _⟩ := F.ex
  have KX : K.In s.heap := e0.mod.kin.keeps fun b o e => (e0.bs b o e).1
  have lim : s.heap.NoLimit := e0.mod.nolimit.keeps fun b o e => (e0.bs b o e).1
  have hkind : ∀ y ∈ D.d.ps.zip us, D.scope.names.lookup y.1 = some .local ∨ (D.scope.names.lookup y.1 = some .cell ∧ ((cellsFrom (s.heap.objs.size + 1) D.scope.names []).lookup y.1).isSome = true) := fun ⟨n, v⟩ hy => by
    rcases S.par n (List.of_mem_zip hy).1 with q | q
    · exact .inl q
    · exact .inr ⟨q, PySem.W.cellsFrom_some _ _ _ (.inl q)⟩
  refine codeAny_call_function hr.depth (KX _ _ lk) rfl S.co S.gen rfl (PySem.W.codeRec_of KX hcd) (hb _ _ _ _ ?_)
  refine wpAny_newFunctionEnv_cells S.kind hkind fun env he s1 x => ?_
  subst he
  refine ⟨lim.keeps x.toInCall.keep, codeAny_func ?_⟩
  let X : Cx := cxOf (L2.CX P w) P w K mg base D.d.N D.x D.scope f cdv A outer s H E
  have I : Inv X [] (L2.start D.d.N vs) H s1 := inv_start S hr.hd e0 hl r x
  have xo : XOk ((tab.txt gl exc fuel).at n) tab.kw n X := ⟨rfl, S.nd, (Room.deeper (k := 3 * n + 2) hr _).mono (by omega), fun _ => Room.deeper (k := 3 * n + 2) hr _, hg, W.free, W.cls, W.glo, fun x l h => ih x l h⟩
  have xs0 : XS ((tab.txt gl exc fuel).at n) tab.kw n X := ⟨xo, passes_of rfl, S.kind⟩
  have hk : KOk ⟨D.d.N, D.scope, true, tab.kw, D.x⟩ X := ⟨rfl, rfl, fun _ _ => rfl, fun _ => ⟨rfl, fun Pt ⟨fa, c, oc', od', fd', osl', m1, l1, cd, hc, n1, n2⟩ => by
    have m1' : mg D.x = some (.ref fa) := m1
    rw [hmD] at m1'; cases m1'
    have l1' : K.lookup f = _ := l1
    rw [lk] at l1'; cases l1'
    have cd' : cdv = .ref c := cd
    exact ⟨c, cd', PySem.W.codeHd_of_K e0.mod.kin hc, hB Pt n1 n2, n1⟩⟩⟩
  have tk : Takes X (fun cls d _ H => E cls d H) := takes_of rfl rfl rfl rfl
  have ht := s_B D.d.body ⟨D.d.N, D.scope, true, tab.kw, D.x⟩ X _ D.body xs0 hk tk O.code
  have hq : lS X (fun cls d _ H => E cls d H) (evS ((tab.txt gl exc fuel).at n) D.d.body) { nx := fun _ H' => Q .non H', rt := Q } (L2.start D.d.N vs) H := by
    rw [callN_def (d := D.d) (by show (tab.get D.x).map _ = _; rw [hD]; rfl)] at hsp
    unfold runF at hsp
    rw [if_pos hlx] at hsp
    refine ⟨ρ, _, M, SM0, ?_, back_post hsp⟩
    unfold L2.start
    rw [← rx.len]
    exact RE.start _ rx
  refine wpAny_mono (ht.run [] s1 (L2.start D.d.N vs) H _ I hq) (fun fl s' hs => ?_) fun e s' hs => hs
  have fin : ∀ {σ' : St} {H' : Hp} {v : V} {u : Value}, Inv X [] σ' H' s' → RelV v u → Q v H' → L2.CE outer P w H s Q u s' :=
    fun {σ' H' v u} J rv q => ⟨v, H', J.os, J.bare, J.base, J.hok, rv, q⟩
  cases fl with
  | ret u =>
    obtain ⟨v, σ', H', J, rv, q⟩ := hs
    exact fin J rv q
  | next =>
    obtain ⟨σ', H', J, q⟩ := hs
    exact fin (v := V.non) (u := Value.none) J rfl q
  | brk =>
    obtain ⟨_, _, _, q⟩ := hs
    exact False.elim q
  | cont =>
    obtain ⟨_, _, _, q⟩ := hs
    exact False.elim q
theorem binds_any {D : Def} {f : Addr} {fd : FuncData} (F : FunD K D.x D.x D.params D.body D.scope [] [] f fd) {args : Args} {bs : List (Str × Value)}
    (h : ∀ (kV doc pm : Value) (an : Option Addr) (cdv ct : Value), bindArgs (PySem.W.fnOf D.x D.x D.params D.body D.scope .none kV doc pm an cdv ct) args = pure bs) (s : Shared) : BindsTo s fd args bs := by
  obtain ⟨oc, od, dV, kV, doc, pm, an, cdv, ct, osl, rfl, lk, hcd, hD, hK⟩ := F.ex
  rcases hD with ⟨_, rfl⟩ | ⟨e, _⟩
  · exact .of_eq (h kV doc pm an cdv ct)
  · exact absurd rfl e
theorem callAt_of {n : Nat} {D : Def} {f : Addr} {fd : FuncData} {base : Heap} (W : Wor K mg tab gl) (hD : tab.get D.x = some D) (F : FunD K D.x D.x D.params D.body D.scope [] [] f fd) (m : mg D.x = some (.ref f))
    (run : ∀ (A : Around) (outer : List PySem.Env) (s : Shared) (H : Hp) (args : Args) (us : List Value) (vs : List V) (xs : List PV) (ρ : List Addr) (M : Sto) (Q : VK) (E : XK), Room (3 * n) A → A.guards = some [] → Env0 P w K mg base A outer s H → BindsTo s fd args (D.d.ps.zip us) → Vals vs us →
    SM K mg ρ H M → RVs K mg ρ H xs vs → PostV K mg E ρ H (callN (tab.txt gl exc fuel) n D.x xs M) Q → codeAny (model P w) A (.call (.ref f) args) (CR (L2.CX P w) outer P w H s Q E) s) :
    CallAt P w K mg base n D.x D.kws (callN (tab.txt gl exc fuel) n D.x) f fd D.d.ps :=
  ⟨m, F.kp, fun _ _ z => len_run hD z, fun s us hl => binds_any F (fun kV doc pm an cdv ct => (W.ok D (Tab.get_mem hD).1).bd kV doc pm an cdv ct us hl) s,
    fun z hz s us ws h1 h2 => binds_any F (fun kV doc pm an cdv ct => (W.ok D (Tab.get_mem hD).1).kb z hz kV doc pm an cdv ct us ws h1 h2) s, run⟩
theorem callAt_all {base : Heap} (W : Wor K mg tab gl) (hB : BmB base mg) : ∀ (n : Nat) (x : Str) (l : List (Nat × List Str × List Nat)), tab.kw x = some l → ∃ fa fd ps, CallAt P w K mg base n x l (callN (tab.txt gl exc fuel) n x) fa fd ps := by
  intro n
  induction n with
  | zero =>
    intro x l h
    unfold Tab.kw at h
    obtain ⟨D, hD, rfl⟩ := Option.map_eq_some_iff.mp h
    obtain ⟨hm, rfl⟩ := Tab.get_mem hD
    obtain ⟨f, fd, F, m⟩ := W.fns D hm
    exact ⟨f, fd, D.d.ps, callAt_of W hD F m fun A outer s H args us vs xs ρ M Q E _ _ _ _ _ _ _ q => q.elim⟩
  | succ n ih =>
    intro x l h
    unfold Tab.kw at h
    obtain ⟨D, hD, rfl⟩ := Option.map_eq_some_iff.mp h
    obtain ⟨hm, rfl⟩ := Tab.get_mem hD
    obtain ⟨f, fd, F, m⟩ := W.fns D hm
    exact ⟨f, fd, D.d.ps, callAt_of W hD F m (callAt_run W hD F m hB ih)⟩
end
end Ev

set_option Elab.async false
set_option linter.all false
set_option maxRecDepth 100000
set_option maxHeartbeats 8000000
/-! Ev15: the end of a law. -/
namespace Ev
open PySem L2 PyProof.Rows

theorem RVs.ints {K : PySem.W.Frag} {mg : Str → Option Value} {ρ : List Addr} {H : Hp} : ∀ ns : List Int, RVs K mg ρ H (ns.map .int) (ns.map V.int)
  | [] => .nil
  | n :: ns => .cons (.int n) (RVs.ints ns)
/-- the module of the built-ins, as the head leaves it -/
def Bmain (h : Heap) (mg : Str → Option Value) : Prop := ∃ (bm : Addr) (ob : Obj), mg "__builtins__" = some (.ref bm) ∧ bm ≠ builtinsNs ∧ h.get? bm = some ob ∧ ob.cls = .type "module" ∧ ob.dict = some builtinsNs ∧ ob.data = .plain
/-- the tables of the defs that make lambdas: empty, not in K -/
structure TabsOk (K : PySem.W.Frag) (mg : Str → Option Value) (h : Heap) (cs : List (Str × Addr)) : Prop where
  emp : ∀ p ∈ cs, h.get? p.2 = some { cls := .none, data := .fields #[] }
  out : ∀ p ∈ cs, K.lookup p.2 = none
  tab : ∀ p ∈ cs, TabK K mg p.1 p.2
  nd : (cs.map (·.2)).Nodup
theorem TabsOk.nil {K : PySem.W.Frag} {mg : Str → Option Value} {h : Heap} : TabsOk K mg h [] := ⟨(fun _ z => nomatch z), (fun _ z => nomatch z), (fun _ z => nomatch z), List.nodup_nil⟩
/-- only the script and the tables are tracked -/
def OnlyT (H : Hp) (Ps : List Addr) : Prop := ∀ b, H b = none ∨ b ∈ Ps ∨ ∃ o xs, H b = some (.frz o (.lst xs))
theorem law_end {P : Program} {w : World} {K : PySem.W.Frag} {mg mb : Str → Option Value} {tab : Tab} {gl : Str → Option PV} {exc : Str → Option (List Str)} {fuel k : Nat} {D : Def} {fa a : Addr} {s₁ : Shared} {vs : List Value} {ns : List Int} {cs : List (Str × Addr)}
    (KX : K.In s₁.heap) (hns : s₁.heap.Ns mainGlobals mg) (hb : s₁.heap.Ns builtinsNs mb) (hbb : ∀ x : Str, x ≠ "__name__" → mb x = bootBuiltins x) (hlim : s₁.heap.NoLimit) (hg : s₁.gens = #[]) (hbm : Bmain s₁.heap mg)
    (ha : s₁.heap.get? a = some { cls := .type "list", data := .seq vs.toArray }) (hi : IntsAre vs ns) (hl : ns.length ≤ sizeLine) (hr : Room (3 * k) callerA) (T : TabsOk K mg s₁.heap cs)
    (W : Wor K mg tab gl) (hD : tab.get D.x = some D) (mD : mg D.x = some (.ref fa)) (hp : D.d.ps.length = 1) (law : ∃ M, callN (tab.txt gl exc fuel) k D.x [.rol (ns.map .int)] (cs.map fun p => .tab p.1) = .ok (.bl true) M) :
    codeAny (model P w) callerA (.call (.ref fa) ⟨[.ref a], []⟩) (fun r s' => r = .ok (.ret (.bool true)) ∧ OldK s₁.heap s'.heap ∧ s'.os = s₁.os ∧ AllBare s'.gens) s₁ := by
  have rv := vals_ints hi
  have lenV := hi.length
  have isT : ∀ b : Addr, b ∈ cs.map (·.2) → s₁.heap.get? b = some { cls := .none, data := .fields #[] } := fun b hb => by
    obtain ⟨p, hp, e⟩ := List.mem_map.mp hb
    rw [← e]
    exact T.emp p hp
  have aT : a ∉ cs.map (·.2) := fun z => by
    have q := isT a z
    rw [ha] at q
    have z' : Data.seq vs.toArray _ = Data.fields #[] := congrArg Obj.data (Option.some.inj q)
    cases z'
  have memT : ∀ p ∈ cs, p.2 ∈ cs.map (·.2) := fun p hp => List.mem_map.mpr ⟨p, hp, rfl⟩
  have core : ∀ H : Hp, (∀ p ∈ cs, H p.2 = some (.tbl #[])) → OnlyT H (cs.map (·.2)) → Fzl K H a (ns.map V.int) → HOk P w H s₁.heap → (∀ b, H b ≠ none → b = a ∨ b ∈ cs.map (·.2)) → (H a ≠ none → K.lookup a = none) →
      codeAny (model P w) callerA (.call (.ref fa) ⟨[.ref a], []⟩) (fun r s' => r = .ok (.ret (.bool true)) ∧ OldK s₁.heap s'.heap ∧ s'.os = s₁.os ∧ AllBare s'.gens) s₁ := by
    intro H hH hO hS hok hA hK
    have base_of : ∀ {b : Addr} {o : Obj}, s₁.heap.get? b = some o → H b = none → (hidT s₁.heap H).get? b = some o := fun e n => hidT_get e n
    have noD : ∀ {b : Addr} {o : Obj}, s₁.heap.get? b = some o → (∀ vs n, o.data ≠ .seq vs n) → o.data ≠ .fields #[] → H b = none := fun {b o} e h1 h2 => by
      cases q : H b with
      | none => rfl
      | some u =>
        rcases hA b (by rw [q]; simp) with e' | e'
        · rw [e', ha] at e
          cases e
          exact (h1 _ _ rfl).elim
        · rw [isT b e'] at e
          cases e
          exact (h2 rfl).elim
    have noA : ∀ {b : Addr} {o : Obj} {es : Array DictEntry} {ep : Nat}, s₁.heap.get? b = some o → o.data = .dict es ep → H b = none := fun {b o es ep} e d => by
      refine noD e (fun vs n z => ?_) fun z => ?_
      · rw [d] at z
        cases z
      · rw [d] at z
        cases z
    have nsK : ∀ {b : Addr} {m : Str → Option Value}, s₁.heap.Ns b m → (hidT s₁.heap H).Ns b m := fun {b m} ⟨o, es, ep, e, d, r⟩ => ⟨o, es, ep, base_of e (noA e d), d, r⟩
    have hKb : K.In (hidT s₁.heap H) := fun b o e => base_of (KX b o e) (by
      cases q : H b with
      | none => rfl
      | some u =>
        rcases hA b (by rw [q]; simp) with e' | e'
        · rw [e'] at e q
          rw [hK (by rw [q]; simp)] at e
          cases e
        · obtain ⟨p, hp, ep⟩ := List.mem_map.mp e'
          rw [← ep, T.out p hp] at e
          cases e)
    have hM : Mod K mg (hidT s₁.heap H) := ⟨hKb, nsK hns, ⟨mb, nsK hb, hbb⟩, let ⟨mc, h1, h2⟩ := hlim; ⟨mc, nsK h1, h2⟩⟩
    have hB : BmB (hidT s₁.heap H) mg := fun Pt hPt hbP => by
      obtain ⟨bm, ob, b1, b2, b3, b4, b5, b6⟩ := hbm
      have nG : bm ≠ mainGlobals := fun q => by
        obtain ⟨o, es, ep, e, hd, _⟩ := hns
        rw [q, e] at b3
        cases b3
        rw [hd] at b6
        cases b6
      refine ⟨bm, ob, b1, b2, nG, hbP bm b1, base_of b3 (noD b3 (fun vs n z => ?_) fun z => ?_), b4, b5, b6⟩
      · rw [b6] at z
        cases z
      · rw [b6] at z
        cases z
    have e0 : Env0 P w K mg (hidT s₁.heap H) callerA [] s₁ H := ⟨rfl, hM, fun b o e => of_hidT e, Nat.le_of_eq (hidT_size _ _), trivial, fun b hb => absurd (show b ∈ ([] : List Addr) from hb) (by simp), hok, .of_eq hg⟩
    obtain ⟨fa', fd, ps, C⟩ := callAt_all (P := P) (w := w) (exc := exc) (fuel := fuel) W hB k D.x D.kws (by unfold Tab.kw; rw [hD]; rfl)
    obtain ⟨M, law⟩ := law
    have lp : ps.length = 1 := (C.len [.rol (ns.map .int)] (cs.map fun p => .tab p.1) (by rw [law]; exact fun z => by cases z)).symm
    obtain rfl : fa' = fa := by
      have e := C.at'.symm.trans mD
      cases e; rfl
    have SM0 : SM K mg (cs.map (·.2)) H (cs.map fun p => .tab p.1) := ⟨by rw [List.length_map, List.length_map], T.nd, fun i b o h h2 => by
      rw [List.getElem?_map] at h h2
      cases q : cs[i]? with
      | none => rw [q] at h; cases h
      | some p =>
        rw [q] at h h2
        cases h; cases h2
        have hp := List.mem_of_getElem? q
        refine ⟨.tbl #[], hH p hp, trivial, fun pos cv hc => ?_, T.tab p hp⟩
        have z : codeAmong pos [] = some cv := hc
        simp [codeAmong] at z⟩
    have rx : RVs K mg (cs.map (·.2)) H [.rol (ns.map .int)] [.ref a] := .cons (.rol hS (RVs.ints ns)) .nil
    have hpv : PostV K mg (fun _ _ _ => False) (cs.map (·.2)) H (callN (tab.txt gl exc fuel) k D.x [.rol (ns.map .int)] (cs.map fun p => .tab p.1)) (fun v _ => v = .bl true) := by
      rw [law]
      exact fun ρ' v H' _ _ r => r.bl_inv
    refine codeAny_mono (C.run callerA [] s₁ H ⟨[.ref a], []⟩ [.ref a] [.ref a] _ _ _ (fun v _ => v = .bl true) (fun _ _ _ => False) hr rfl e0 (C.bd s₁ [.ref a] lp.symm) (.cons rfl .nil) SM0 rx hpv) fun r s' h => ?_
    cases r with
    | error e =>
      obtain ⟨_, _, _, _, _, _, _, _, _, _, _, _, z⟩ := h
      exact z.elim
    | ok fl =>
      cases fl with
      | next => exact False.elim h
      | brk => exact False.elim h
      | cont => exact False.elim h
      | ret u =>
        obtain ⟨v, H', os, bare, un, hok', r', q⟩ := h
        have q' : v = .bl true := q
        subst q'
        obtain rfl : u = Value.bool true := r'
        have key : ∀ b o, b ∉ cs.map (·.2) → s₁.heap.get? b = some o → s'.heap.get? b = some o := fun b o nb e => by
          cases q : H b with
          | none => exact un.keep b o e q (by intro z; exact absurd (show b ∈ ([] : List Addr) from z) (by simp)) (by simp)
          | some u =>
            rcases hO b with z | z | ⟨ob, xs, z⟩
            · rw [q] at z; cases z
            · exact absurd z nb
            · have z2 := un.frzs b ob _ z
              obtain ⟨e1, _⟩ := hok b _ z
              obtain ⟨e2, _⟩ := hok' b _ z2
              rw [e] at e1; cases e1
              exact e2
        have grown : ∀ p ∈ cs, ∃ more : Array Value, s'.heap.get? p.2 = some { cls := .none, data := .fields more } := fun p hp => by
          obtain ⟨more, z⟩ := un.tbls p.2 #[] (hH p hp)
          exact ⟨_, hok' p.2 _ z⟩
        refine ⟨rfl, ⟨fun b o e => ?_, fun b o e => ?_⟩, os, bare⟩
        · by_cases hb : b ∈ cs.map (·.2)
          · obtain ⟨p, hp, ep⟩ := List.mem_map.mp hb
            obtain ⟨more, hm⟩ := grown p hp
            rw [← ep] at e ⊢
            rw [T.emp p hp] at e
            cases e
            obtain ⟨_, c, _, _, _, _, _, _, _, hc, _, _⟩ := T.tab p hp
            exact .inr (.inl ⟨((PySem.W.codeHd_of_K KX hc).tab (T.emp p hp)).isCodeTable, rfl, #[], more, rfl, by rw [Array.empty_append]; exact hm⟩)
          · exact .inl (key b o hb e)
        · by_cases hb : b ∈ cs.map (·.2)
          · obtain ⟨p, hp, ep⟩ := List.mem_map.mp hb
            obtain ⟨more, hm⟩ := grown p hp
            rw [← ep]
            exact ⟨_, hm⟩
          · exact ⟨o, key b o hb e⟩
  cases hk : K.lookup a with
  | some o =>
    have e := KX a o hk
    rw [ha] at e
    cases e
    refine core (fun b => if b ∈ cs.map (·.2) then some (.tbl #[]) else none) (fun p hp => if_pos (memT p hp)) (fun b => ?_) (.inr ⟨_, vs.toArray, _, hk, rfl, rfl, rfl, by rw [List.size_toArray, lenV]; exact hl, by simpa using rv⟩) (fun b u z => ?_) (fun b z => ?_) fun z => absurd (show (if a ∈ cs.map (·.2) then some (HO.tbl #[]) else none) = none from if_neg aT) z
    · by_cases hb : b ∈ cs.map (·.2)
      · exact .inr (.inl hb)
      · exact .inl (if_neg hb)
    · by_cases hb : b ∈ cs.map (·.2)
      · have z' := (if_pos hb).symm.trans z
        cases z'
        exact isT b hb
      · have z' := (if_neg hb).symm.trans z
        cases z'
    · by_cases hb : b ∈ cs.map (·.2)
      · exact .inr hb
      · exact absurd (if_neg hb) z
  | none =>
    refine core (fun b => if b = a then some (.frz { cls := .type "list", data := .seq vs.toArray } (.lst (ns.map V.int))) else if b ∈ cs.map (·.2) then some (.tbl #[]) else none) (fun p hp => (if_neg (show ¬ p.2 = a from fun z => aT (by rw [← z]; exact memT p hp))).trans (if_pos (memT p hp))) (fun b => ?_)
      (.inl ⟨{ cls := .type "list", data := .seq vs.toArray }, if_pos rfl⟩) (fun b u z => ?_) (fun b z => ?_) fun _ => hk
    · by_cases hb : b = a
      · exact .inr (.inr ⟨_, _, if_pos hb⟩)
      · by_cases hb2 : b ∈ cs.map (·.2)
        · exact .inr (.inl hb2)
        · exact .inl ((if_neg hb).trans (if_neg hb2))
    · by_cases hb : b = a
      · have z' := (if_pos hb).symm.trans z
        cases z'
        rw [hb]
        exact ⟨ha, by rw [List.length_map]; exact hl, vs, _, rv, ha⟩
      · have z1 := (if_neg hb).symm.trans z
        by_cases hb2 : b ∈ cs.map (·.2)
        · have z' := (if_pos hb2).symm.trans z1
          cases z'
          exact isT b hb2
        · have z' := (if_neg hb2).symm.trans z1
          cases z'
    · by_cases hb : b = a
      · exact .inl hb
      · by_cases hb2 : b ∈ cs.map (·.2)
        · exact .inr hb2
        · exact absurd ((if_neg hb).trans (if_neg hb2)) z
/-- the law's end: what stands behind the top, and that the code says True of every script -/
theorem walk_evT {l : PySem.W.OpenLaw} {n k : Nat} {q : Program} {loose : List Str} {XP : (Str → Option Value) → Heap → Prop} {YP : World → Heap → Prop} {d : DefRec} {tab : Tab} {gl : Str → Option PV} {exc : Str → Option (List Str)} {fuel : Nat} {D : Def} {fs : List Str}
    (hn : l.most = some n) (hn2 : n ≤ sizeLine) (hdf : d.params.defaults = []) (hr : Room (3 * k) callerA) (hD : tab.get D.x = some D) (hp : D.d.ps.length = 1)
    (F : ∀ (w : World) (mg : Str → Option Value) (fa : Addr) (h : Heap), YP w h → h.Ns mainGlobals mg → Bmain h mg → mg d.name = some (.ref fa) → ∃ (K : PySem.W.Frag) (cs : List (Str × Addr)), K.In h ∧ Wor K mg tab gl ∧ mg D.x = some (.ref fa) ∧ TabsOk K mg h cs ∧ cs.map (·.1) = fs)
    (law : ∀ ns : List Int, ns.length ≤ n → (∀ z ∈ ns, Builtin.Int.intBits z ≤ 1048576) → ∃ M, callN (tab.txt gl exc fuel) k D.x [.rol (ns.map .int)] (fs.map .tab) = .ok (.bl true) M) :
    PySem.W.WalkO q loose XP YP l.row.toRowW d [] (fun f vs => PySem.call f vs) := by
  refine Att.attach_callB hn hdf fun w s₀ s₁ mg mb fa o pm cd doc a vs ns G Y ho hd hcd hmg hobj hints hlen hbits hg => ?_
  obtain ⟨K, cs, KX, W, mD, T, ef⟩ := F w mg fa _ Y G.T.g G.T.bmain hmg
  have e : (cs.map fun p => MO.tab p.1) = fs.map .tab := by rw [← ef, List.map_map]; rfl
  exact law_end KX G.T.g G.T.b G.T.builtins G.T.nolimit hg G.T.bmain hobj hints (Nat.le_trans hlen hn2) hr T W hD mD hp (by rw [e]; exact law ns hlen hbits)
theorem walk_ev {l : PySem.W.OpenLaw} {n k : Nat} {q : Program} {loose : List Str} {XP : (Str → Option Value) → Heap → Prop} {YP : World → Heap → Prop} {d : DefRec} {tab : Tab} {gl : Str → Option PV} {exc : Str → Option (List Str)} {fuel : Nat} {D : Def}
    (hn : l.most = some n) (hn2 : n ≤ sizeLine) (hdf : d.params.defaults = []) (hr : Room (3 * k) callerA) (hD : tab.get D.x = some D) (hp : D.d.ps.length = 1)
    (F : ∀ (w : World) (mg : Str → Option Value) (fa : Addr) (h : Heap), YP w h → h.Ns mainGlobals mg → mg d.name = some (.ref fa) → ∃ K : PySem.W.Frag, K.In h ∧ Wor K mg tab gl ∧ mg D.x = some (.ref fa))
    (law : ∀ ns : List Int, ns.length ≤ n → (∀ z ∈ ns, Builtin.Int.intBits z ≤ 1048576) → ∃ M, callN (tab.txt gl exc fuel) k D.x [.rol (ns.map .int)] [] = .ok (.bl true) M) :
    PySem.W.WalkO q loose XP YP l.row.toRowW d [] (fun f vs => PySem.call f vs) :=
  walk_evT (fs := []) hn hn2 hdf hr hD hp (fun w mg fa h Y G _ hm => by
    obtain ⟨K, KX, W, mD⟩ := F w mg fa h Y G hm
    exact ⟨K, [], KX, W, mD, .nil, rfl⟩) law
end Ev

set_option Elab.async false
set_option linter.all false
set_option maxRecDepth 100000
set_option maxHeartbeats 8000000
/-! Ev16: what the head says. -/
namespace Ev
open PySem L2 PyProof.Rows

/-- the module's constants -/
inductive GC where
  | int (i : Int)
  | str (s : Str)
abbrev GCs := List (Str × GC)
def GC.pv : GC → PV
  | .int i => .int i
  | .str s => .str s
def GCs.glo (g : GCs) : Str → Option PV := fun x => (g.find? fun p => decide (p.1 = x)).map (·.2.pv)
def GC.fa (x : Str) : GC → He.Fa
  | .int i => .int x i
  | .str s => .str x s
def Def.dd (D : Def) : He.DefD := ⟨(D.x, none), D.x, D.x, D.params, D.body, D.scope, [], []⟩
def faOf (tab : Tab) (g : GCs) : List He.Fa := tab.map (fun D => .glo D.x) ++ (freeNames.map .free ++ (clsNames.map (fun c => .free (Str.ofString c)) ++ g.map (fun p => p.2.fa p.1)))
def fnOf (tab : Tab) : List He.DefD := tab.map Def.dd
section
variable {tab : Tab} {g : GCs} {K : PySem.W.Frag} {h : Heap} {mg : Str → Option Value}
theorem fact_mem (c : He.SaysD (faOf tab g) (fnOf tab) K) {f : He.Fa} (m : f ∈ faOf tab g) : f.ok K = true := by
  obtain ⟨i, hi⟩ := List.mem_iff_getElem?.mp m
  exact c.fact i hi
theorem wor_of (X : K.In h) (G : h.Ns mainGlobals mg) (c : He.SaysD (faOf tab g) (fnOf tab) K) (ok : ∀ D ∈ tab, D.Ok tab.kw) : Wor K mg tab g.glo := by
  refine ⟨fun D hD => ?_, ok, fun x hx => ?_, fun x hx => ?_, fun x pv e => ?_⟩
  · obtain ⟨i, hi⟩ := List.mem_iff_getElem?.mp (List.mem_map_of_mem (f := Def.dd) hD)
    obtain ⟨fd, F⟩ := c.def_ i hi
    refine ⟨_, fd, F, ?_⟩
    exact He.glo_ok X G (fact_mem c (List.mem_append_left _ (List.mem_map_of_mem (f := fun D : Def => He.Fa.glo D.x) hD)))
  · exact He.free_ok X G (fact_mem c (List.mem_append_right _ (List.mem_append_left _ (List.mem_map_of_mem (f := He.Fa.free) hx))))
  · exact He.free_ok X G (fact_mem c (List.mem_append_right _ (List.mem_append_right _ (List.mem_append_left _ (List.mem_map_of_mem (f := fun c => He.Fa.free (Str.ofString c)) hx)))))
  · unfold GCs.glo at e
    obtain ⟨p, hp, rfl⟩ := Option.map_eq_some_iff.mp e
    have hx : p.1 = x := by simpa using List.find?_some hp
    have m := fact_mem c (List.mem_append_right _ (List.mem_append_right _ (List.mem_append_right _ (List.mem_map_of_mem (f := fun p : Str × GC => p.2.fa p.1) (List.mem_of_find?_eq_some hp)))))
    obtain ⟨x', gc⟩ := p
    cases hx
    cases gc with
    | int i =>
      obtain ⟨t, e⟩ := He.int_ok X G (x := x') (i := i) m
      exact ⟨_, .int i, e, ⟨t, rfl⟩, fun ρ H => .int i⟩
    | str z =>
      obtain ⟨t, e⟩ := He.str_ok X G (x := x') (z := z) m
      exact ⟨_, .str z, e, ⟨t, rfl⟩, fun ρ H => .str z⟩
/-- the tables of the defs fs -/
def tfOf (fs : List Str) : List He.Defn := fs.map fun f => (f, none)
def csOf (K : PySem.W.Frag) (fs : List Str) : List (Str × Addr) := fs.map fun f => (f, (He.cT K (f, none)).2)
def tabOne (tab : Tab) (f : Str) : Bool := match tab.get f with
  | some _ => true
  | none => false
theorem tabs_of {w : World} {fs : List Str} (X : K.In h) (G : h.Ns mainGlobals mg) (B : Bmain h mg) (c : He.SaysX (faOf tab g) (fnOf tab) [] (tfOf fs) (fun _ => true) w h K) (hf : fs.all (tabOne tab) = true) (nd : ((csOf K fs).map (·.2)).Nodup) : TabsOk K mg h (csOf K fs) := by
  have mem : ∀ p ∈ csOf K fs, (p.1, none) ∈ tfOf fs ∧ p.1 ∈ fs ∧ p.2 = (He.cT K (p.1, none)).2 := fun p hp => by
    obtain ⟨f, h1, rfl⟩ := List.mem_map.mp hp
    exact ⟨List.mem_map_of_mem (f := fun f : Str => ((f, none) : He.Defn)) h1, h1, rfl⟩
  refine ⟨fun p hp => ?_, fun p hp => ?_, fun p hp => ?_, nd⟩
  · obtain ⟨h1, _, e⟩ := mem p hp
    rw [e]; exact c.empty _ h1
  · obtain ⟨h1, _, e⟩ := mem p hp
    rw [e]; exact c.out _ h1
  · obtain ⟨h1, h2, e⟩ := mem p hp
    have q := List.all_eq_true.mp hf _ h2
    unfold tabOne at q
    split at q
    · rename_i D hD
      obtain ⟨hm, hx⟩ := Tab.get_mem hD
      obtain ⟨i, hi⟩ := List.mem_iff_getElem?.mp (List.mem_map_of_mem (f := Def.dd) hm)
      obtain ⟨fd, F⟩ := c.t.d.def_ i hi
      obtain ⟨oc, od, dV, kV, doc, pm, an, cdv, ct, osl, efd, lk, hcd, _, _⟩ := F.ex
      have mgf := He.glo_ok X G (fact_mem c.t.d (List.mem_append_left _ (List.mem_map_of_mem (f := fun D : Def => He.Fa.glo D.x) hm)))
      obtain ⟨c0, ec⟩ := He.codeIn_ref hcd
      have lk' : K.lookup (He.fAd K (p.1, none)) = some ⟨oc, od, .func fd, osl⟩ := by rw [← hx]; exact lk
      have ec' : fd.code = .ref c0 := by rw [efd]; exact ec
      have hc := He.codeOf_eq lk' ec'
      have hd := c.hd _ h1
      rw [← e] at hd
      have ee := c.empty _ h1
      rw [← e] at ee
      refine ⟨He.fAd K (p.1, none), c0, oc, od, fd, osl, by rw [← hx]; exact mgf, lk', ec', ?_, fun z => ?_, fun bm hb z => ?_⟩
      · have hd' : PySem.W.codeHdIn K (He.codeOf K (p.1, none)) p.2 = true := hd
        rwa [hc] at hd'
      · obtain ⟨o, es, ep, e1, e2, _⟩ := G
        rw [z, ee] at e1
        cases e1
        cases e2
      · obtain ⟨bm', ob, b1, b2, b3, b4, b5, b6⟩ := B
        rw [b1] at hb
        cases hb
        rw [z, ee] at b3
        cases b3
        cases b6
    · cases q
end
end Ev

set_option Elab.async false
set_option linter.all false
set_option maxRecDepth 100000
set_option maxHeartbeats 8000000
/-! Ev17: how the code is run in thought. -/
namespace Ev
open PySem L2

theorem m_bind {α β : Type} (r : Res α) (f : α → Sto → Res β) : r.bind f = match r with | .ok a M => f a M | .exc x M => .exc x M | .bad => .bad := by cases r <;> rfl
theorem m_then {α : Type} (r : Res α) (env : Env) (f : α → Sto → SRes) : r.then env f = match r with | .ok a M => f a M | .exc x M => .ex x env M | .bad => .bad := by cases r <;> rfl
theorem m_sbind (r : SRes) (f : Env → Sto → SRes) : r.bind f = match r with | .nx env M => f env M | .rt v M => .rt v M | .bk env M => .bk env M | .ct env M => .ct env M | .ex x env M => .ex x env M | .bad => .bad := by cases r <;> rfl
theorem m_opt {α : Type} (o : Option α) (M : Sto) : Res.of o M = match o with | some a => .ok a M | none => .bad := by cases o <;> rfl
theorem at_call (T : Txt) (n : Nat) (f : Str) (xs : List PV) (M : Sto) : (T.at n).call f xs M = callN T n f xs M := rfl
theorem at_glo (T : Txt) (n : Nat) (x : Str) : (T.at n).glo x = T.glo x := rfl
theorem at_fuel (T : Txt) (n : Nat) : (T.at n).fuel = T.fuel := rfl
/-- a def's run -/
theorem run_def {T : Txt} {n : Nat} {f : Str} {ps N : List Str} {c : CS} (h : T.fn f = some ⟨ps, N, c⟩) (xs : List PV) (M : Sto) (k : Nat) (hl : xs.length = ps.length) (hk : N.length - xs.length = k) :
    callN T (n + 1) f xs M = (evS (T.at n) c (xs.map some ++ List.replicate k none) M).back := by
  rw [callN_def h]
  unfold runF
  rw [if_pos hl, hk]

/-! ### data of values that hang on no store -/
mutual
def pd : PV → PyData
  | .non => .none
  | .bl b => .bool b
  | .int i => .int i
  | .str s => .str s
  | .tup xs => .tuple (pds xs)
  | .rol xs => .list (pds xs)
  | .ref _ => .none
  | .glo _ => .none
  | .ty _ => .none
def pds : List PV → List PyData
  | [] => []
  | x :: xs => pd x :: pds xs
end
/-! it hangs on no store; its numbers are short enough to be written -/
mutual
def fine : PV → Bool
  | .non => true
  | .bl _ => true
  | .int i => decide (i.natAbs < 10 ^ 570)
  | .str s => s.cps.toList.all fun c => decide (c < 1114112)
  | .tup xs => fines xs
  | .rol xs => fines xs
  | .ref _ => false
  | .glo _ => false
  | .ty _ => false
def fines : List PV → Bool
  | [] => true
  | x :: xs => fine x && fines xs
end
mutual
theorem dat_fine (lk : Nat → Option PyData) : ∀ x, fine x = true → datR lk x = some (pd x)
  | .non, _ => by simp only [datR, pd]
  | .bl b, _ => by simp only [datR, pd]
  | .int i, _ => by simp only [datR, pd]
  | .str s, _ => by simp only [datR, pd]
  | .tup xs, h => by
    simp only [fine] at h
    simp only [datR, pd, dats_fine lk xs h, Option.map_some]
  | .rol xs, h => by
    simp only [fine] at h
    simp only [datR, pd, dats_fine lk xs h, Option.map_some]
  | .ref _, h => by simp [fine] at h
  | .glo _, h => by simp [fine] at h
  | .ty _, h => by simp [fine] at h
theorem dats_fine (lk : Nat → Option PyData) : ∀ xs, fines xs = true → datRs lk xs = some (pds xs)
  | [], _ => by simp only [datRs, pds]
  | x :: xs, h => by
    simp only [fines, Bool.and_eq_true] at h
    simp only [datRs, dat_fine lk x h.1, dats_fine lk xs h.2, pds]
end
theorem int_short {i : Int} (h : i.natAbs < 10 ^ 570) : (PyData.shown (.int i)).length ≤ 571 ∧ i.natAbs.log2 < 1920 := by
  constructor
  · have e := int_text_length_le10 (k := 570) (by decide) h
    show (Str.ofString (toString i)).length ≤ 571
    rw [ofString_length]; exact e
  · by_cases h0 : i.natAbs = 0
    · rw [h0]; decide
    · rw [Nat.log2_lt h0]
      exact Nat.lt_trans h (by decide +kernel)
mutual
theorem fine_ok : ∀ x, fine x = true → (pd x).leavesShort 571 = true ∧ (pd x).showable = true ∧ (pd x).hasDict = false ∧ (pd x).canLay0 = true
  | .non, _ => by simp [pd, PyData.leavesShort, PyData.showable, PyData.hasDict, PyData.canLay0]
  | .bl b, _ => by simp [pd, PyData.leavesShort, PyData.showable, PyData.hasDict, PyData.canLay0]
  | .int i, h => by
    simp only [fine, decide_eq_true_eq] at h
    obtain ⟨h1, h2⟩ := int_short h
    simp [pd, PyData.leavesShort, PyData.showable, PyData.hasDict, PyData.canLay0, h1, h2]
  | .str s, h => by
    simp only [fine, List.all_eq_true, decide_eq_true_eq] at h
    refine ⟨?_, by simp [pd, PyData.showable], by simp [pd, PyData.hasDict], ?_⟩
    · simp only [pd, PyData.leavesShort, List.all_eq_true, decide_eq_true_eq]
      exact fun c hc => Nat.lt_trans (h c hc) (by decide)
    · simp only [pd, PyData.canLay0, PyData.strOk]
      rw [Array.all_eq_true]
      intro i hi
      exact decide_eq_true (h _ (by simp))
  | .tup xs, h => by
    simp only [fine] at h
    obtain ⟨h1, h2, h3, h4⟩ := fines_ok xs h
    simp only [pd, PyData.leavesShort, PyData.showable, PyData.hasDict, PyData.canLay0, h1, h2, h3, h4, and_self]
  | .rol xs, h => by
    simp only [fine] at h
    obtain ⟨h1, h2, h3, h4⟩ := fines_ok xs h
    simp only [pd, PyData.leavesShort, PyData.showable, PyData.hasDict, PyData.canLay0, h1, h2, h3, h4, and_self]
  | .ref _, h => by simp [fine] at h
  | .glo _, h => by simp [fine] at h
  | .ty _, h => by simp [fine] at h
theorem fines_ok : ∀ xs, fines xs = true → PyData.leavesShortAll 571 (pds xs) = true ∧ PyData.showableAll (pds xs) = true ∧ PyData.hasDictAll (pds xs) = false ∧ PyData.canLayAll0 (pds xs) = true
  | [], _ => by simp [pds, PyData.leavesShortAll, PyData.showableAll, PyData.hasDictAll, PyData.canLayAll0]
  | x :: xs, h => by
    simp only [fines, Bool.and_eq_true] at h
    obtain ⟨a1, a2, a3, a4⟩ := fine_ok x h.1
    obtain ⟨h1, h2, h3, h4⟩ := fines_ok xs h.2
    simp [pds, PyData.leavesShortAll, PyData.showableAll, PyData.hasDictAll, PyData.canLayAll0, h1, h2, h3, h4, a1, a2, a3, a4]
end
theorem dat_of_fine {M : Sto} {x : PV} (h : fine x = true) : dat M x = some (pd x) := dat_fine _ x h
/-- its text -/
theorem repr_fine {M : Sto} {x : PV} (h : fine x = true) (hs : (pd x).bulk ≤ 29000) (hd : (pd x).depth ≤ 64) : reprV M x = some (pd x).shown := by
  obtain ⟨h1, h2, h3, _⟩ := fine_ok x h
  unfold reprV
  rw [dat_of_fine h]
  have e := PyData.shown_le_bulk 571 (by decide) (pd x) h1
  have e2 : (571 + 2) * (pd x).bulk ≤ 573 * 29000 := Nat.mul_le_mul (by omega) hs
  have e3 : (pd x).shown.length ≤ sizeLine := by rw [sizeLine_eq]; omega
  exact if_pos ⟨h2, e3, hd, h3⟩
theorem shaped_fine {x : PV} (h : fine x = true) (hd : (pd x).depth ≤ 64) : SeqAt.shaped (pd x) = true := by
  obtain ⟨_, _, _, h4⟩ := fine_ok x h
  simp [SeqAt.shaped, h4, hd]
/-! ### the store -/
theorem sto_set {M : Sto} {i : Nat} {o o' : MO} (h : M[i]? = some o) : (M.set i o')[i]? = some o' := by
  have := (List.getElem?_eq_some_iff.mp h).1
  rw [List.getElem?_set_self this]
theorem sto_ne {M : Sto} {i j : Nat} {o' : MO} (h : i ≠ j) : (M.set i o')[j]? = M[j]? := List.getElem?_set_ne h
theorem sto_lt {M : Sto} {i : Nat} {o : MO} (h : M[i]? = some o) : i < M.length := (List.getElem?_eq_some_iff.mp h).1
theorem sto_app {M : Sto} {i : Nat} {o : MO} {l : List MO} (h : M[i]? = some o) : (M ++ l)[i]? = some o := by rw [List.getElem?_append_left (sto_lt h)]; exact h
theorem sto_new (M : Sto) (o : MO) : (M ++ [o])[M.length]? = some o := by simp
/-- what stood and is not among these stands -/
def Keep (out : List Nat) (M M' : Sto) : Prop := M.length ≤ M'.length ∧ ∀ k, k < M.length → k ∉ out → M'[k]? = M[k]?
theorem Keep.refl {out : List Nat} (M : Sto) : Keep out M M := ⟨Nat.le_refl _, fun _ _ _ => rfl⟩
theorem Keep.trans {out : List Nat} {M M1 M2 : Sto} (a : Keep out M M1) (b : Keep out M1 M2) : Keep out M M2 :=
  ⟨Nat.le_trans a.1 b.1, fun k h n => (b.2 k (Nat.lt_of_lt_of_le h a.1) n).trans (a.2 k h n)⟩
theorem Keep.set {out : List Nat} {M : Sto} {i : Nat} {o : MO} (h : i ∈ out) : Keep out M (M.set i o) := ⟨by simp, fun k _ n => sto_ne fun e => n (e ▸ h)⟩
theorem Keep.app {out : List Nat} {M : Sto} {l : List MO} : Keep out M (M ++ l) := ⟨by simp, fun k h _ => by rw [List.getElem?_append_left h]⟩
theorem Keep.get {out : List Nat} {M M' : Sto} (a : Keep out M M') {k : Nat} {o : MO} (h : M[k]? = some o) (n : k ∉ out) : M'[k]? = some o := (a.2 k (sto_lt h) n).trans h
theorem Keep.imp {out out' : List Nat} {M M' : Sto} (a : Keep out M M') (h : ∀ k, k ∈ out → k ∈ out') : Keep out' M M' := ⟨a.1, fun k l n => a.2 k l fun z => n (h k z)⟩
theorem Keep.len {out : List Nat} {M M' : Sto} (a : Keep out M M') : M.length ≤ M'.length := a.1
/-! ### lists of numbers, as data -/
theorem dats_ints (lk : Nat → Option PyData) : ∀ ns : List Int, datRs lk (ns.map .int) = some (ns.map .int)
  | [] => rfl
  | n :: ns => by
    simp only [List.map_cons, datRs, datR, dats_ints lk ns]
theorem canLay_ints : ∀ ns : List Int, PyData.canLayAll0 (ns.map .int) = true
  | [] => rfl
  | n :: ns => by simp [PyData.canLayAll0, PyData.canLay0, canLay_ints ns]
theorem depth_ints : ∀ ns : List Int, PyData.depthAll (ns.map .int) = 0
  | [] => rfl
  | n :: ns => by simp [PyData.depthAll, PyData.depth, depth_ints ns]
theorem dat_lst {M : Sto} {i : Nat} {xs : List PV} (h : M[i]? = some (.lst xs)) : dat M (.ref i) = (datRs (lkN M 7) xs).map .list := by
  show datR (lkN M 8) (.ref i) = _
  simp only [datR, lkN, h]
/-- is a list the empty one? -/
theorem eq_empty {M : Sto} {i j : Nat} {ns : List Int} (h : M[i]? = some (.lst (ns.map .int))) (h' : M[j]? = some (.lst [])) : eqV M (.ref i) (.ref j) = some ns.isEmpty := by
  have e : eqV M (.ref i) (.ref j) = (match dat M (.ref i), dat M (.ref j) with
    | some d, some e => if SeqAt.shaped d = true ∧ SeqAt.shaped e = true then some (PyData.eqv d e) else none
    | _, _ => none) := rfl
  rw [e, dat_lst h, dat_lst h', dats_ints]
  have s1 : SeqAt.shaped (.list (ns.map .int)) = true := by simp [SeqAt.shaped, PyData.canLay0, canLay_ints, PyData.depth, depth_ints]
  have s2 : SeqAt.shaped (.list []) = true := by decide
  have s3 : datRs (lkN M 7) [] = some [] := by simp [datRs]
  rw [s3]
  show (if SeqAt.shaped (.list (ns.map .int)) = true ∧ SeqAt.shaped (.list []) = true then some (PyData.eqv (.list (ns.map .int)) (.list [])) else none) = _
  rw [if_pos ⟨s1, s2⟩]
  cases ns <;> simp [PyData.eqv, PyData.eqvAll]
/-! ### loops -/
section
variable {body : PV → Env → Sto → SRes} {keep : Sto → Bool}
/-- each turn goes on -/
theorem for_all (I : List PV → Env → Sto → Prop) (hk : ∀ xs env M, I xs env M → keep M = true)
    (step : ∀ x xs env M, I (x :: xs) env M → ∃ env1 M1, (body x env M = .nx env1 M1 ∨ body x env M = .ct env1 M1) ∧ I xs env1 M1) :
    ∀ xs env M, I xs env M → ∃ env' M', forL body keep xs env M = .nx env' M' ∧ I [] env' M'
  | [], env, M, h => ⟨env, M, by simp only [forL, hk _ _ _ h, if_true], h⟩
  | x :: xs, env, M, h => by
    obtain ⟨env1, M1, e, h1⟩ := step x xs env M h
    obtain ⟨env', M', e', h'⟩ := for_all I hk step xs env1 M1 h1
    refine ⟨env', M', ?_, h'⟩
    simp only [forL, hk _ _ _ h, if_true]
    rcases e with e | e <;> rw [e] <;> exact e'
end
/-- a while, its turns counted -/
theorem while_all {c : Env → Sto → Res PV} {b : Env → Sto → SRes} (I : Nat → Env → Sto → Prop) (J : SRes → Prop)
    (step : ∀ n env M, I n env M → (∃ x M1, c env M = .ok x M1 ∧ ((truV M1 x = some false ∧ J (.nx env M1)) ∨ (truV M1 x = some true ∧ ((∃ env2 M2 m, m < n ∧ (b env M1 = .nx env2 M2 ∨ b env M1 = .ct env2 M2) ∧ I m env2 M2) ∨ (∃ v M2, b env M1 = .rt v M2 ∧ J (.rt v M2)) ∨ (∃ env2 M2, b env M1 = .bk env2 M2 ∧ J (.nx env2 M2)))))) ) :
    ∀ n fuel env M, n < fuel → I n env M → J (whL c b fuel env M) := by
  intro n
  induction n using Nat.strongRecOn with
  | _ n ih =>
    intro fuel env M hf h
    cases fuel with
    | zero => omega
    | succ fuel =>
      obtain ⟨x, M1, e, h1⟩ := step n env M h
      unfold whL
      rw [e]
      simp only [Res.then_ok]
      rcases h1 with ⟨t, j⟩ | ⟨t, h2⟩
      · rw [t]; exact j
      · rw [t]
        rcases h2 with ⟨env2, M2, m, hm, e2, h3⟩ | ⟨v, M2, e2, j⟩ | ⟨env2, M2, e2, j⟩
        · rcases e2 with e2 | e2
          · simp only [e2]; exact ih m hm fuel env2 M2 (by omega) h3
          · simp only [e2]; exact ih m hm fuel env2 M2 (by omega) h3
        · simp only [e2]; exact j
        · simp only [e2]; exact j
theorem forB_def (t : CT) (r : Env → Sto → SRes) : (fun x env M => match asgT t x env with | some env1 => r env1 M | none => .bad) = forB t r := rfl
theorem ofString_eq (a b : String) : (Str.ofString a = Str.ofString b) = (a = b) := by
  apply propext
  constructor
  · intro h
    have h1 := congrArg (fun z : Str => z.cps.toList) h
    have h2 : cpsOfBytes 0 0 a.toByteArray.data.toList = cpsOfBytes 0 0 b.toByteArray.data.toList := by simpa [Str.ofString] using h1
    rw [cpsOfBytes_string, cpsOfBytes_string] at h2
    have inj : ∀ l l' : List Char, l.map Char.toNat = l'.map Char.toNat → l = l' := by
      intro l
      induction l with
      | nil => intro l' h; cases l' <;> simp at h; rfl
      | cons c l ih =>
        intro l' h
        cases l' with
        | nil => simp at h
        | cons c' l' =>
          simp only [List.map_cons, List.cons.injEq] at h
          have hc : c = c' := by
            apply Char.ext
            apply UInt32.toNat_inj.mp
            exact h.1
          rw [hc, ih l' h.2]
    have h3 := inj _ _ h2
    rw [← String.ofList_toList (s := a), ← String.ofList_toList (s := b), h3]
  · rintro rfl; rfl
theorem key_str (a b : Str) : ((Sum.inr a : Key) = Sum.inr b) = (a = b) := by simp
theorem key_int (a b : Int) : ((Sum.inl a : Key) = Sum.inl b) = (a = b) := by simp
theorem valP_nil (k : Key) : valP [] k = none := rfl
theorem valP_cons (k' : Key) (v : PV) (r : List (Key × PV)) (k : Key) : valP ((k', v) :: r) k = if k' = k then some v else valP r k := by
  unfold valP
  rw [List.find?_cons]
  by_cases h : k' = k <;> simp [h]
theorem sto_self (M : Sto) (i : Nat) (o : MO) : (M.set i o)[i]? = M[i]?.map fun _ => o := by
  rw [List.getElem?_set_self']; rfl
theorem sto_apps {M : Sto} {i : Nat} (l : List MO) (h : i < M.length) : (M ++ l)[i]? = M[i]? := List.getElem?_append_left h
section
variable (M : Sto)
theorem eq_ii (i j : Int) : eqV M (.int i) (.int j) = some (decide (i = j)) := rfl
theorem eq_ss (i j : Str) : eqV M (.str i) (.str j) = some (decide (i = j)) := rfl
theorem eq_bb (i j : Bool) : eqV M (.bl i) (.bl j) = some (decide (i = j)) := rfl
theorem eq_nn : eqV M .non .non = some true := rfl
theorem eq_ni (i : Int) : eqV M .non (.int i) = some false := rfl
theorem eq_in (i : Int) : eqV M (.int i) .non = some false := rfl
theorem eq_ns (i : Str) : eqV M .non (.str i) = some false := rfl
theorem eq_sn (i : Str) : eqV M (.str i) .non = some false := rfl
theorem eq_nb (i : Bool) : eqV M .non (.bl i) = some false := rfl
theorem eq_bn (i : Bool) : eqV M (.bl i) .non = some false := rfl
theorem eq_is (i : Int) (j : Str) : eqV M (.int i) (.str j) = some false := rfl
theorem eq_si (i : Str) (j : Int) : eqV M (.str i) (.int j) = some false := rfl
theorem eq_empty2 (ns : List Int) {i k : Nat} (h : M[i]? = some (.lst (ns.map .int))) (e : k = M.length) : eqV (M ++ [.lst []]) (.ref i) (.ref k) = some ns.isEmpty := by
  subst e
  exact eq_empty (sto_app h) (sto_new _ _)
end
theorem natAbs64 (i : Int) : (i.natAbs < 18446744073709551616) = (-18446744073709551616 < i ∧ i < 18446744073709551616) := by
  apply propext
  omega
theorem natAbs30 (i : Int) : (i.natAbs < 1073741824) = (-1073741824 < i ∧ i < 1073741824) := by
  apply propext
  omega
theorem last_get {α : Type} (l : List α) (a : α) : (l ++ [a])[(l ++ [a]).length - 1]? = some a := by simp
theorem ints_last (l : List Int) (c : Int) : ((l ++ [c]).map PV.int)[((l ++ [c]).map PV.int).length - 1]? = some (.int c) := by simp
theorem ints_drop (l : List Int) (c : Int) : ((l ++ [c]).map PV.int).dropLast = l.map .int := by simp
theorem fmod_ok {a b : Int} (h : 0 < b) : 0 ≤ a.fmod b ∧ a.fmod b < b := ⟨Int.fmod_nonneg_of_pos a h, Int.fmod_lt_of_pos a h⟩
theorem fmod_lt64 {a b : Int} (h : 0 < b) (h2 : b < 18446744073709551616) : (a.fmod b < 18446744073709551616) = True := eq_true (Int.lt_trans (fmod_ok h).2 h2)
theorem fmod_gt64 {a b : Int} (h : 0 < b) : (-18446744073709551616 < a.fmod b) = True := eq_true (by have := (fmod_ok (a := a) h).1; omega)
section
variable {α : Type} (xs : List α)
theorem atI_lit (n : Nat) : atI xs (n : Int) = xs[n]? := by
  unfold atI ixN
  rw [if_pos (by omega)]
  by_cases h : (n : Int) < (xs.length : Int)
  · rw [if_pos h]; simp
  · rw [if_neg h]
    show none = _
    rw [List.getElem?_eq_none (by omega)]
theorem atI_0 : atI xs 0 = xs[0]? := atI_lit xs 0
theorem atI_1 : atI xs 1 = xs[1]? := atI_lit xs 1
theorem atI_2 : atI xs 2 = xs[2]? := atI_lit xs 2
theorem atI_3 : atI xs 3 = xs[3]? := atI_lit xs 3
theorem atI_4 : atI xs 4 = xs[4]? := atI_lit xs 4
theorem atI_5 : atI xs 5 = xs[5]? := atI_lit xs 5
theorem atI_6 : atI xs 6 = xs[6]? := atI_lit xs 6
theorem atI_7 : atI xs 7 = xs[7]? := atI_lit xs 7
theorem atI_8 : atI xs 8 = xs[8]? := atI_lit xs 8
theorem atI_9 : atI xs 9 = xs[9]? := atI_lit xs 9
theorem atI_in {r : Int} (h0 : 0 ≤ r) (h1 : r < xs.length) : ∃ x, x ∈ xs ∧ xs[r.toNat]? = some x ∧ atI xs r = some x := by
  have hl : r.toNat < xs.length := by omega
  refine ⟨xs[r.toNat], List.getElem_mem hl, List.getElem?_eq_getElem hl, ?_⟩
  have e : atI xs r = atI xs ((r.toNat : Nat) : Int) := by rw [Int.toNat_of_nonneg h0]
  rw [e, atI_lit, List.getElem?_eq_getElem hl]
end
theorem sIx_none (n d : Nat) : HT.sIx n d none = d := rfl
theorem sIx_lit (n d k : Nat) : HT.sIx n d (some (k : Int)) = min k n := HT.sIx_nat n d k
theorem cut_all {xs : List PV} {k : Nat} (h : xs.length ≤ k) : cutP xs none (some (k : Int)) = xs := by
  unfold cutP
  rw [sIx_none, sIx_lit, Nat.min_eq_right h]
  simp
theorem cut_to (xs : List PV) (k : Nat) : cutP xs none (some (k : Int)) = xs.take k := by
  unfold cutP
  rw [sIx_none, sIx_lit]
  simp [List.take_eq_take_iff]
theorem cut_from (xs : List PV) (k : Nat) : cutP xs (some (k : Int)) none = xs.drop k := by
  unfold cutP
  rw [sIx_none, sIx_lit]
  by_cases h : k ≤ xs.length
  · rw [Nat.min_eq_left h, List.take_of_length_le (by simp)]
  · rw [Nat.min_eq_right (by omega)]
    simp; omega
theorem cut_mid (xs : List PV) (a b : Nat) (h : b ≤ xs.length) (h2 : a ≤ b) : cutP xs (some (a : Int)) (some (b : Int)) = (xs.take b).drop a := by
  unfold cutP
  rw [sIx_lit, sIx_lit, Nat.min_eq_left h, Nat.min_eq_left (by omega), List.drop_take]
theorem evS_for (G : Glob) (t : CT) (it : CE) (b : CS) (env : Env) (M : Sto) : evS G (.for_ t it b) env M = (evI G it env M).then env fun s M1 => forL (forB t (evS G b)) (keepB s.src) s.items env M1 := by
  simp only [evS]; rfl
theorem keep_nil (M : Sto) : keepB [] M = true := rfl
theorem keep_one {M : Sto} {k : Nat} {o : MO} (h : M[k]? = some o) : keepB [(k, o)] M = true := by simp [keepB, h]
theorem atI_m1 {α : Type} (xs : List α) (v : α) : atI (xs ++ [v]) (-1) = some v := atI_last xs v
theorem for_of {body : PV → Env → Sto → SRes} {keep : Sto → Bool} {xs : List PV} {env : Env} {M : Sto} {z : SRes} (hz : forL body keep xs env M = z) (I : List PV → Env → Sto → Prop) (init : I xs env M) (hk : ∀ xs env M, I xs env M → keep M = true)
    (step : ∀ x xs env M, I (x :: xs) env M → ∃ env1 M1, (body x env M = .nx env1 M1 ∨ body x env M = .ct env1 M1) ∧ I xs env1 M1) : ∃ env' M', z = .nx env' M' ∧ I [] env' M' := by
  rw [← hz]
  exact for_all I hk step xs env M init
theorem while_of {c : Env → Sto → Res PV} {b : Env → Sto → SRes} {fuel : Nat} {env : Env} {M : Sto} {z : SRes} (hz : whL c b fuel env M = z) (n : Nat) (hf : n < fuel) (I : Nat → Env → Sto → Prop) (J : SRes → Prop) (init : I n env M)
    (step : ∀ n env M, I n env M → (∃ x M1, c env M = .ok x M1 ∧ ((truV M1 x = some false ∧ J (.nx env M1)) ∨ (truV M1 x = some true ∧ ((∃ env2 M2 m, m < n ∧ (b env M1 = .nx env2 M2 ∨ b env M1 = .ct env2 M2) ∧ I m env2 M2) ∨ (∃ v M2, b env M1 = .rt v M2 ∧ J (.rt v M2)) ∨ (∃ env2 M2, b env M1 = .bk env2 M2 ∧ J (.nx env2 M2)))))) ) : J z := by
  rw [← hz]
  exact while_all I J step n fuel env M hf init
theorem cutf_1 (xs : List PV) : cutP xs (some 1) none = xs.drop 1 := cut_from xs 1
theorem cutt_1 (xs : List PV) : cutP xs none (some 1) = xs.take 1 := cut_to xs 1
theorem cutf_2 (xs : List PV) : cutP xs (some 2) none = xs.drop 2 := cut_from xs 2
theorem cutt_2 (xs : List PV) : cutP xs none (some 2) = xs.take 2 := cut_to xs 2
theorem cutf_3 (xs : List PV) : cutP xs (some 3) none = xs.drop 3 := cut_from xs 3
theorem cutt_3 (xs : List PV) : cutP xs none (some 3) = xs.take 3 := cut_to xs 3
theorem cutf_4 (xs : List PV) : cutP xs (some 4) none = xs.drop 4 := cut_from xs 4
theorem cutt_4 (xs : List PV) : cutP xs none (some 4) = xs.take 4 := cut_to xs 4
theorem cutf_5 (xs : List PV) : cutP xs (some 5) none = xs.drop 5 := cut_from xs 5
theorem cutt_5 (xs : List PV) : cutP xs none (some 5) = xs.take 5 := cut_to xs 5
theorem cutf_6 (xs : List PV) : cutP xs (some 6) none = xs.drop 6 := cut_from xs 6
theorem cutt_6 (xs : List PV) : cutP xs none (some 6) = xs.take 6 := cut_to xs 6
theorem cutf_7 (xs : List PV) : cutP xs (some 7) none = xs.drop 7 := cut_from xs 7
theorem cutt_7 (xs : List PV) : cutP xs none (some 7) = xs.take 7 := cut_to xs 7
theorem cutf_8 (xs : List PV) : cutP xs (some 8) none = xs.drop 8 := cut_from xs 8
theorem cutt_8 (xs : List PV) : cutP xs none (some 8) = xs.take 8 := cut_to xs 8
theorem cutf_9 (xs : List PV) : cutP xs (some 9) none = xs.drop 9 := cut_from xs 9
theorem cutt_9 (xs : List PV) : cutP xs none (some 9) = xs.take 9 := cut_to xs 9
/-- a comprehension that changes nothing -/
theorem comp_all {g : PV → Sto → Res (Option PV)} {keep : Sto → Bool} {M : Sto} (f : PV → Option PV) (hk : keep M = true) : ∀ (xs acc : List PV), (∀ x ∈ xs, g x M = .ok (f x) M) → acc.length + xs.length ≤ sizeLine → compL g keep xs M acc = .ok (acc ++ xs.filterMap f) M
  | [], acc, _, _ => by simp [compL, hk]
  | x :: xs, acc, h, hs => by
    simp only [List.length_cons] at hs
    unfold compL
    rw [if_pos hk, h x List.mem_cons_self]
    cases e : f x with
    | none =>
      simp only
      rw [comp_all f hk xs acc (fun y hy => h y (List.mem_cons_of_mem _ hy)) (by omega)]
      simp [e]
    | some y =>
      simp only
      rw [if_pos (by omega), comp_all f hk xs (acc ++ [y]) (fun y hy => h y (List.mem_cons_of_mem _ hy)) (by simp; omega)]
      simp [e]
theorem comp_of {g : PV → Sto → Res (Option PV)} {keep : Sto → Bool} {M : Sto} {xs : List PV} {z : Res (List PV)} (hz : compL g keep xs M [] = z) (f : PV → Option PV) (hk : keep M = true) (h : ∀ x ∈ xs, g x M = .ok (f x) M) (hs : xs.length ≤ sizeLine) : z = .ok (xs.filterMap f) M := by
  rw [← hz, comp_all f hk xs [] h (by simpa using hs)]
  rfl
/-- is a list of plain values the empty one? -/
theorem eq_empty_fine {M : Sto} {i j : Nat} {xs : List PV} (h : M[i]? = some (.lst xs)) (h' : M[j]? = some (.lst [])) (hf : fines xs = true) (hd : PyData.depthAll (pds xs) ≤ 63) : eqV M (.ref i) (.ref j) = some xs.isEmpty := by
  have e : eqV M (.ref i) (.ref j) = (match dat M (.ref i), dat M (.ref j) with
    | some d, some e => if SeqAt.shaped d = true ∧ SeqAt.shaped e = true then some (PyData.eqv d e) else none
    | _, _ => none) := rfl
  rw [e, dat_lst h, dat_lst h', dats_fine _ xs hf]
  obtain ⟨_, _, _, c⟩ := fines_ok xs hf
  have s1 : SeqAt.shaped (.list (pds xs)) = true := by simp [SeqAt.shaped, PyData.canLay0, c, PyData.depth]; omega
  have s2 : SeqAt.shaped (.list []) = true := by decide
  have s3 : datRs (lkN M 7) [] = some [] := by simp [datRs]
  rw [s3]
  show (if SeqAt.shaped (.list (pds xs)) = true ∧ SeqAt.shaped (.list []) = true then some (PyData.eqv (.list (pds xs)) (.list [])) else none) = _
  rw [if_pos ⟨s1, s2⟩]
  cases xs <;> simp [PyData.eqv, PyData.eqvAll, pds]
theorem eq_empty_fine2 (xs : List PV) {M : Sto} {i k : Nat} (h : M[i]? = some (.lst xs)) (hf : fines xs = true) (hd : PyData.depthAll (pds xs) ≤ 63) (e : k = M.length) : eqV (M ++ [.lst []]) (.ref i) (.ref k) = some xs.isEmpty := by
  subst e
  exact eq_empty_fine (sto_app h) (sto_new _ _) hf hd
theorem fines_all : ∀ {xs : List PV}, (∀ x ∈ xs, fine x = true) → fines xs = true
  | [], _ => by simp [fines]
  | x :: xs, h => by
    simp only [fines, h x List.mem_cons_self, fines_all fun y hy => h y (List.mem_cons_of_mem _ hy), Bool.and_self]
theorem depths_all {n : Nat} : ∀ {xs : List PV}, (∀ x ∈ xs, (pd x).depth ≤ n) → PyData.depthAll (pds xs) ≤ n
  | [], _ => by simp [pds, PyData.depthAll]
  | x :: xs, h => by
    simp only [pds, PyData.depthAll]
    have h1 := h x List.mem_cons_self
    have h2 := depths_all fun y hy => h y (List.mem_cons_of_mem _ hy)
    omega
theorem rg_one (n : Nat) : rgP 1 ((n : Int) + 1) = (List.range n).map fun i => PV.int (1 + (i : Nat)) := by
  unfold rgP
  rw [show ((n : Int) + 1 - 1).toNat = n by omega]
theorem rg_zero (n : Nat) : rgP 0 (n : Int) = (List.range n).map fun i => PV.int (i : Nat) := by
  unfold rgP
  rw [show ((n : Int) - 0).toNat = n by omega]
  simp
theorem evS_seq (G : Glob) (a r : CS) (env : Env) (M : Sto) : evS G (.seq a r) env M = (evS G a env M).bind (evS G r) := by
  simp only [evS]
def iteS (G : Glob) (a b : CS) (env : Env) (x : PV) (M : Sto) : SRes := match truV M x with
    | some true => evS G a env M
    | some false => evS G b env M
    | none => .bad
theorem evS_ite (G : Glob) (c : CE) (sa sb : CS) (env : Env) (M : Sto) : evS G (.ite c sa sb) env M = (evE G c env M).then env (iteS G sa sb env) := by
  simp only [evS]; rfl
theorem rgOk_nat {a b : Int} (h0 : -4000000000000000000 ≤ a) (h1 : a ≤ 4000000000000000000) (h2 : -4000000000000000000 ≤ b) (h3 : b ≤ 4000000000000000000) : rgOk a b = true := by
  unfold rgOk
  simp only [Bool.and_eq_true, decide_eq_true_eq]
  omega
/-- a new list, then [] -/
theorem eq_new_empty {xs : List PV} (hf : fines xs = true) (hd : PyData.depthAll (pds xs) ≤ 63) (N : Sto) : eqV (N ++ [.lst xs] ++ [.lst []]) (.ref N.length) (.ref (N ++ [MO.lst xs]).length) = some xs.isEmpty :=
  eq_empty_fine2 xs (sto_new _ _) hf hd rfl
end Ev

set_option Elab.async false
set_option linter.all false
set_option maxRecDepth 100000
set_option maxHeartbeats 8000000
/-! Ev18: more of it. -/
namespace Ev
open PySem L2
theorem permL_nil {α : Type} (l : List α) : permL [] l = [] := rfl
theorem permL_cons {α : Type} (i : Nat) (p : List Nat) (l : List α) : permL (i :: p) l = match l[i]? with
  | some x => x :: permL p l
  | none => permL p l := by
  unfold permL
  rw [List.filterMap_cons]
  cases l[i]? <;> rfl
theorem rep2 (x : PV) : (List.replicate 2 [x]).flatten = [x, x] := rfl
theorem rep3 (x : PV) : (List.replicate 3 [x]).flatten = [x, x, x] := rfl
theorem repr_true (M : Sto) : reprV M (.bl true) = some (Str.ofString "True") := by
  rw [repr_fine (by rfl) (by simp [pd, PyData.bulk]) (by simp [pd, PyData.depth])]
  rfl
theorem repr_false (M : Sto) : reprV M (.bl false) = some (Str.ofString "False") := by
  rw [repr_fine (by rfl) (by simp [pd, PyData.bulk]) (by simp [pd, PyData.depth])]
  rfl
theorem repr_two {x : PV} (hf : fine x = true) (hb : (pd x).bulk ≤ 100) (hd : (pd x).depth ≤ 10) : ∃ t, ∀ M, reprV M (.tup [x, x]) = some t := by
  refine ⟨_, fun M => repr_fine ?_ ?_ ?_⟩
  · simp [fine, fines, hf]
  · simp [pd, pds, PyData.bulk, PyData.bulkAll]; omega
  · simp [pd, pds, PyData.depth, PyData.depthAll]; omega
theorem repr_one {x : PV} (hf : fine x = true) (hb : (pd x).bulk ≤ 29000) (hd : (pd x).depth ≤ 64) : ∃ t, ∀ M, reprV M x = some t := ⟨_, fun M => repr_fine hf hb hd⟩
theorem small {i : Int} (h0 : -(10 ^ 30) < i) (h1 : i < 10 ^ 30) : i.natAbs < 10 ^ 570 := by
  have e : (10 : Nat) ^ 30 < 10 ^ 570 := by decide +kernel
  have : i.natAbs < 10 ^ 30 := by omega
  exact Nat.lt_trans this e
end Ev

set_option Elab.async false
set_option linter.all false
set_option maxRecDepth 100000
set_option maxHeartbeats 8000000
/-! Ev19: loops that may return; values of small numbers; equality of a value and itself; stores with one more list. -/
namespace Ev
open PySem L2
theorem for_gen {body : PV → Env → Sto → SRes} {keep : Sto → Bool} (I : List PV → Env → Sto → Prop) (J : SRes → Prop) (hk : ∀ xs env M, I xs env M → keep M = true) (fin : ∀ env M, I [] env M → J (.nx env M))
    (step : ∀ x xs env M, I (x :: xs) env M → (∃ env1 M1, (body x env M = .nx env1 M1 ∨ body x env M = .ct env1 M1) ∧ I xs env1 M1) ∨ (∃ v M1, body x env M = .rt v M1 ∧ J (.rt v M1)) ∨ (∃ env1 M1, body x env M = .bk env1 M1 ∧ J (.nx env1 M1))) :
    ∀ xs env M, I xs env M → J (forL body keep xs env M)
  | [], env, M, h => by simp only [forL, hk _ _ _ h, if_true]; exact fin _ _ h
  | x :: xs, env, M, h => by
    simp only [forL, hk _ _ _ h, if_true]
    rcases step x xs env M h with ⟨env1, M1, e, h1⟩ | ⟨v, M1, e, j⟩ | ⟨env1, M1, e, j⟩
    · rcases e with e | e <;> rw [e] <;> exact for_gen I J hk fin step xs env1 M1 h1
    · rw [e]; exact j
    · rw [e]; exact j
theorem for_gen' {body : PV → Env → Sto → SRes} {keep : Sto → Bool} {xs : List PV} {env : Env} {M : Sto} {z : SRes} (hz : forL body keep xs env M = z) (I : List PV → Env → Sto → Prop) (J : SRes → Prop) (init : I xs env M) (hk : ∀ xs env M, I xs env M → keep M = true) (fin : ∀ env M, I [] env M → J (.nx env M))
    (step : ∀ x xs env M, I (x :: xs) env M → (∃ env1 M1, (body x env M = .nx env1 M1 ∨ body x env M = .ct env1 M1) ∧ I xs env1 M1) ∨ (∃ v M1, body x env M = .rt v M1 ∧ J (.rt v M1)) ∨ (∃ env1 M1, body x env M = .bk env1 M1 ∧ J (.nx env1 M1))) : J z := by
  rw [← hz]
  exact for_gen I J hk fin step xs env M init
/-- a comprehension whose turns change the store: each turn by a rule -/
theorem comp_gen {g : PV → Sto → Res (Option PV)} {keep : Sto → Bool} (I : List PV → List PV → Sto → Prop) (hk : ∀ xs acc M, I xs acc M → keep M = true)
    (step : ∀ x xs acc M, I (x :: xs) acc M → acc.length < sizeLine ∧ ∃ M1, (∃ y, g x M = .ok (some y) M1 ∧ I xs (acc ++ [y]) M1) ∨ (g x M = .ok none M1 ∧ I xs acc M1)) :
    ∀ xs acc M, I xs acc M → ∃ out M', compL g keep xs M acc = .ok out M' ∧ I [] out M'
  | [], acc, M, h => ⟨acc, M, by simp only [compL, hk _ _ _ h, if_true], h⟩
  | x :: xs, acc, M, h => by
    obtain ⟨hl, M1, ⟨y, e, h1⟩ | ⟨e, h1⟩⟩ := step x xs acc M h
    · obtain ⟨out, M', e2, h2⟩ := comp_gen I hk step xs (acc ++ [y]) M1 h1
      refine ⟨out, M', ?_, h2⟩
      simp only [compL, hk _ _ _ h, if_true, e, hl]
      exact e2
    · obtain ⟨out, M', e2, h2⟩ := comp_gen I hk step xs acc M1 h1
      refine ⟨out, M', ?_, h2⟩
      simp only [compL, hk _ _ _ h, if_true, e]
      exact e2
theorem comp_gen' {g : PV → Sto → Res (Option PV)} {keep : Sto → Bool} {xs : List PV} {M : Sto} {z : Res (List PV)} (hz : compL g keep xs M [] = z) (I : List PV → List PV → Sto → Prop) (init : I xs [] M) (hk : ∀ xs acc M, I xs acc M → keep M = true)
    (step : ∀ x xs acc M, I (x :: xs) acc M → acc.length < sizeLine ∧ ∃ M1, (∃ y, g x M = .ok (some y) M1 ∧ I xs (acc ++ [y]) M1) ∨ (g x M = .ok none M1 ∧ I xs acc M1)) : ∃ out M', z = .ok out M' ∧ I [] out M' := by
  rw [← hz]
  exact comp_gen I hk step xs [] M init
/-! values of short numbers -/
mutual
def mini : PV → Bool
  | .non => true
  | .bl _ => true
  | .int i => decide (i.natAbs < 10 ^ 10)
  | .str s => s.cps.toList.all fun c => decide (c < 1114112)
  | .tup xs => minis xs
  | .rol xs => minis xs
  | .ref _ => false
  | .glo _ => false
  | .ty _ => false
def minis : List PV → Bool
  | [] => true
  | x :: xs => mini x && minis xs
end
theorem int_mini {i : Int} (h : i.natAbs < 10 ^ 10) : (PyData.shown (.int i)).length ≤ 12 := by
  have e := int_text_length_le10 (k := 10) (by decide) h
  show (Str.ofString (toString i)).length ≤ 12
  rw [ofString_length]; omega
mutual
theorem mini_fine : ∀ x, mini x = true → fine x = true
  | .non, _ => by simp only [fine]
  | .bl b, _ => by simp only [fine]
  | .int i, h => by
    simp only [mini, decide_eq_true_eq] at h
    simp only [fine, decide_eq_true_eq]
    have e : (10 : Nat) ^ 10 < 10 ^ 570 := by decide +kernel
    exact Nat.lt_trans h e
  | .str s, h => by simpa only [fine, mini] using h
  | .tup xs, h => by
    simp only [mini] at h
    simp only [fine, minis_fine xs h]
  | .rol xs, h => by
    simp only [mini] at h
    simp only [fine, minis_fine xs h]
  | .ref _, h => by simp [mini] at h
  | .glo _, h => by simp [mini] at h
  | .ty _, h => by simp [mini] at h
theorem minis_fine : ∀ xs, minis xs = true → fines xs = true
  | [], _ => by simp only [fines]
  | x :: xs, h => by
    simp only [minis, Bool.and_eq_true] at h
    simp only [fines, mini_fine x h.1, minis_fine xs h.2, Bool.and_self]
end
mutual
theorem mini_short : ∀ x, mini x = true → (pd x).leavesShort 12 = true
  | .non, _ => by simp [pd, PyData.leavesShort]
  | .bl b, _ => by simp [pd, PyData.leavesShort]
  | .int i, h => by
    simp only [mini, decide_eq_true_eq] at h
    simp [pd, PyData.leavesShort, int_mini h]
  | .str s, h => by
    simp only [mini, List.all_eq_true, decide_eq_true_eq] at h
    simp only [pd, PyData.leavesShort, List.all_eq_true, decide_eq_true_eq]
    exact fun c hc => Nat.lt_trans (h c hc) (by decide)
  | .tup xs, h => by
    simp only [mini] at h
    simp only [pd, PyData.leavesShort, minis_short xs h]
  | .rol xs, h => by
    simp only [mini] at h
    simp only [pd, PyData.leavesShort, minis_short xs h]
  | .ref _, h => by simp [mini] at h
  | .glo _, h => by simp [mini] at h
  | .ty _, h => by simp [mini] at h
theorem minis_short : ∀ xs, minis xs = true → PyData.leavesShortAll 12 (pds xs) = true
  | [], _ => by simp [pds, PyData.leavesShortAll]
  | x :: xs, h => by
    simp only [minis, Bool.and_eq_true] at h
    simp [pds, PyData.leavesShortAll, mini_short x h.1, minis_short xs h.2]
end
theorem repr_mini {M : Sto} {x : PV} (h : mini x = true) (hs : (pd x).bulk ≤ 1000000) (hd : (pd x).depth ≤ 64) : reprV M x = some (pd x).shown := by
  have hf := mini_fine x h
  obtain ⟨_, h2, h3, _⟩ := fine_ok x hf
  unfold reprV
  rw [dat_of_fine hf]
  exact if_pos ⟨h2, PyData.shown_fits_bulk (B := 12) (by decide) (by decide) (mini_short x h) (by omega), hd, h3⟩
mutual
theorem eqv_refl : ∀ x, fine x = true → PyData.eqv (pd x) (pd x) = true
  | .non, _ => by simp [pd, PyData.eqv]
  | .bl b, _ => by simp [pd, PyData.eqv]
  | .int i, _ => by simp [pd, PyData.eqv]
  | .str s, _ => by simp [pd, PyData.eqv]
  | .tup xs, h => by
    simp only [fine] at h
    simp only [pd, PyData.eqv, eqvs_refl xs h]
  | .rol xs, h => by
    simp only [fine] at h
    simp only [pd, PyData.eqv, eqvs_refl xs h]
  | .ref _, h => by simp [fine] at h
  | .glo _, h => by simp [fine] at h
  | .ty _, h => by simp [fine] at h
theorem eqvs_refl : ∀ xs, fines xs = true → PyData.eqvAll (pds xs) (pds xs) = true
  | [], _ => by simp [pds, PyData.eqvAll]
  | x :: xs, h => by
    simp only [fines, Bool.and_eq_true] at h
    simp [pds, PyData.eqvAll, eqv_refl x h.1, eqvs_refl xs h.2]
end
/-- a tuple is itself -/
theorem eq_tup {M : Sto} {xs : List PV} (h : fines xs = true) (hd : PyData.depthAll (pds xs) ≤ 63) : eqV M (.tup xs) (.tup xs) = some true := by
  have hf : fine (.tup xs) = true := by simpa only [fine] using h
  have hdd : (pd (.tup xs)).depth ≤ 64 := by simp [pd, PyData.depth]; omega
  have e : eqV M (.tup xs) (.tup xs) = (match dat M (.tup xs), dat M (.tup xs) with
    | some d, some e => if SeqAt.shaped d = true ∧ SeqAt.shaped e = true then some (PyData.eqv d e) else none
    | _, _ => none) := rfl
  rw [e, dat_of_fine hf]
  show (if SeqAt.shaped (pd (.tup xs)) = true ∧ SeqAt.shaped (pd (.tup xs)) = true then some (PyData.eqv (pd (.tup xs)) (pd (.tup xs))) else none) = _
  rw [if_pos ⟨shaped_fine hf hdd, shaped_fine hf hdd⟩, eqv_refl _ hf]
/-- lists of the same plain values -/
theorem eq_lst {M : Sto} {i j : Nat} {xs : List PV} (h1 : M[i]? = some (.lst xs)) (h2 : M[j]? = some (.lst xs)) (h : fines xs = true) (hd : PyData.depthAll (pds xs) ≤ 63) : eqV M (.ref i) (.ref j) = some true := by
  have e : eqV M (.ref i) (.ref j) = (match dat M (.ref i), dat M (.ref j) with
    | some d, some e => if SeqAt.shaped d = true ∧ SeqAt.shaped e = true then some (PyData.eqv d e) else none
    | _, _ => none) := rfl
  rw [e, dat_lst h1, dat_lst h2, dats_fine _ xs h]
  obtain ⟨_, _, _, c⟩ := fines_ok xs h
  have s1 : SeqAt.shaped (.list (pds xs)) = true := by simp [SeqAt.shaped, PyData.canLay0, c, PyData.depth]; omega
  show (if SeqAt.shaped (.list (pds xs)) = true ∧ SeqAt.shaped (.list (pds xs)) = true then some (PyData.eqv (.list (pds xs)) (.list (pds xs))) else none) = _
  rw [if_pos ⟨s1, s1⟩]
  simp [PyData.eqv, eqvs_refl xs h]
theorem minis_all : ∀ {xs : List PV}, (∀ x ∈ xs, mini x = true) → minis xs = true
  | [], _ => by simp [minis]
  | x :: xs, h => by
    simp only [minis, h x List.mem_cons_self, minis_all fun y hy => h y (List.mem_cons_of_mem _ hy), Bool.and_self]
theorem set_new (M : Sto) (o o' : MO) : (M ++ [o]).set M.length o' = M ++ [o'] := by
  rw [List.set_append_right _ _ (Nat.le_refl _), Nat.sub_self]; rfl
theorem repOk_nat {n : Nat} {k : Int} (h0 : -1000000000 ≤ k) (h1 : k ≤ 1000000000) (h2 : n * k.toNat ≤ 16777216) : repOk n k = true := by
  unfold repOk
  rw [sizeLine_eq]
  simp only [Bool.and_eq_true, decide_eq_true_eq]
  exact ⟨by omega, by omega, h2⟩
end Ev

set_option Elab.async false
set_option linter.all false
set_option maxRecDepth 100000
set_option maxHeartbeats 4000000
/-! Tx: texts by their signs. -/
namespace Ev
open PySem L2
abbrev tS (l : List Nat) : Str := ⟨l.toArray⟩
abbrev tv (l : List Nat) : PV := .str (tS l)
theorem tS_len (l : List Nat) : (tS l).length = l.length := SX.S_len l
theorem tS_cat (a b : List Nat) : tS a ++ tS b = tS (a ++ b) := SX.S_cat a b
theorem tS_eq (a b : List Nat) : (tS a = tS b) = (a = b) := propext ⟨fun h => SX.S_inj h, fun e => by rw [e]⟩
theorem tS_lt (a b : Nat) : ltS (tS [a]) (tS [b]) = decide (a < b) := by
  unfold ltS
  show decide ([a] < [b]) = _
  by_cases h : a < b
  · rw [decide_eq_true h, decide_eq_true]
    exact List.Lex.rel h
  · rw [decide_eq_false h, decide_eq_false]
    intro z
    cases z with
    | rel z => exact h z
    | cons z => cases z
abbrev tsv (ts : List (List Nat)) : List PV := ts.map tv
def wd (s : String) : List Nat := (Str.ofString s).cps.toList
theorem lit_w (s : String) : Str.ofString s = tS (wd s) := by
  unfold wd
  exact (SX.S_tl _).symm
theorem strs_tsv : ∀ ts : List (List Nat), strsP (tsv ts) = some (ts.map SX.S)
  | [] => rfl
  | t :: ts => by
    show (strsP (tsv ts)).map (tS t :: ·) = _
    rw [strs_tsv ts]; rfl
theorem join_nil : ∀ us : List (List Nat), TL.joinL [] us = us.flatten
  | [] => rfl
  | [p] => by simp [TL.joinL]
  | p :: q :: r => by
    show p ++ ([] ++ TL.joinL [] (q :: r)) = _
    rw [join_nil (q :: r)]; simp
theorem join_tsv (us : List (List Nat)) : Txt.join (tS []) (us.map SX.S) = tS us.flatten := by
  rw [← join_nil]
  exact SX.join_S [] us
theorem len_sum (us : List (List Nat)) : ((us.map SX.S).map (·.length)).sum = us.flatten.length := by
  rw [SX.lens, List.length_flatten]
theorem jo_ok {us : List (List Nat)} (h : us.flatten.length ≤ 16777216) : joinOk (tS []) (us.map SX.S) = true := by
  unfold joinOk
  rw [decide_eq_true_eq, len_sum, tS_len, List.length_nil, Nat.mul_zero]
  exact h
theorem flat_len {us : List (List Nat)} {B : Nat} (h : ∀ u ∈ us, u.length ≤ B) : us.flatten.length ≤ us.length * B := by
  induction us with
  | nil => simp
  | cons u us ih =>
    have h1 := h u List.mem_cons_self
    have h2 := ih fun v hv => h v (List.mem_cons_of_mem _ hv)
    simp only [List.flatten_cons, List.length_append, List.length_cons, Nat.succ_mul]
    omega
theorem repS_tS (l : List Nat) (k : Int) : repS (tS l) k = tS (List.replicate k.toNat l).flatten := by simp only [repS, List.toList_toArray]
theorem rep_len (l : List Nat) (k : Nat) : (List.replicate k l).flatten.length = k * l.length := by
  rw [List.length_flatten, List.map_replicate, List.sum_replicate_nat]
theorem cut_to_S (l : List Nat) (k : Nat) : cutS (tS l) none (some (k : Int)) = tS (l.take k) := by
  unfold cutS
  rw [tS_len, sIx_none, sIx_lit]
  simp [List.take_eq_take_iff]
theorem ints_map : ∀ ns : List Int, intsP (ns.map .int) = some ns
  | [] => rfl
  | n :: ns => by
    show (intsP (ns.map .int)).map (n :: ·) = _
    rw [ints_map ns]; rfl
theorem set_self' {M : Sto} {i : Nat} {o : MO} (h : M[i]? = some o) : M.set i o = M := by
  apply List.ext_getElem?
  intro k
  by_cases e : k = i
  · subst e; rw [sto_self, h]; rfl
  · rw [sto_ne (fun z => e z.symm)]
theorem keep_set {out : List Nat} {M M1 : Sto} {i : Nat} {o : MO} (k : Keep out M M1) (h : M.length ≤ i) : Keep out M (M1.set i o) :=
  ⟨by rw [List.length_set]; exact k.1, fun c hc n => by rw [sto_ne (by omega)]; exact k.2 c hc n⟩
theorem signs_tsv (p : List Nat) : (p.map fun c => PV.str ⟨#[c]⟩) = tsv (p.map fun c => [c]) := by simp [tsv]
theorem flat_signs : ∀ p : List Nat, (p.map fun c => [c]).flatten = p
  | [] => rfl
  | c :: p => by simp [flat_signs p]
theorem cut_mid_S (p : List Nat) {a b : Nat} (h : b ≤ p.length) (h2 : a ≤ b) : cutS (tS p) (some (a : Int)) (some (b : Int)) = tS ((p.take b).drop a) := by
  unfold cutS
  rw [tS_len, sIx_lit, sIx_lit, Nat.min_eq_left h, Nat.min_eq_left (by omega), List.drop_take]
theorem cut_from_S (p : List Nat) (a : Nat) : cutS (tS p) (some (a : Int)) none = tS (p.drop a) := by
  unfold cutS
  rw [tS_len, sIx_none, sIx_lit]
  by_cases h : a ≤ p.length
  · rw [Nat.min_eq_left h, List.take_of_length_le (by simp)]
  · rw [Nat.min_eq_right (by omega)]
    simp; omega
theorem cut_any (p : List Nat) (lo hi : Option Int) : ∃ u, cutS (tS p) lo hi = tS u ∧ u.length ≤ p.length := ⟨_, rfl, by
  rw [List.length_take, List.length_drop]
  show min _ (p.length - _) ≤ _
  omega⟩
theorem lit_e : Str.ofString "" = tS [] := by decide +kernel
theorem cat_e (l : List Nat) : Str.empty ++ tS l = tS l := tS_cat [] l
theorem in_tx (M : Sto) (c : Nat) (l : List Nat) : Ev.inV M (tv [c]) (tv l) = some (decide (c ∈ l)) := by
  show some (!(Builtin.Str.occurrences (tS l) (tS [c]) 0 (tS l).length 1).isEmpty) = _
  rw [PySem.StrLaws.found_one (tS l) c]
theorem atoms_tsv : ∀ ts : List (List Nat), atoms (tsv ts) = some (ts.map fun t => V.str (tS t))
  | [] => rfl
  | t :: ts => by
    show (match (tv t).atom, atoms (tsv ts) with | some v, some vs => some (v :: vs) | _, _ => none) = _
    rw [atoms_tsv ts]; rfl
theorem inv_str (t : List Nat) : ∀ ts : List (List Nat), L2.inV (V.str (tS t)) (ts.map fun t => V.str (tS t)) = decide (t ∈ ts)
  | [] => by simp [L2.inV]
  | u :: ts => by
    have ih := inv_str t ts
    show (decide (tS u = tS t) || L2.inV (V.str (tS t)) (ts.map fun t => V.str (tS t))) = _
    rw [ih]
    by_cases h : u = t
    · subst h; simp
    · have h2 : ¬ t = u := fun z => h z.symm
      have h3 : ¬ tS u = tS t := fun z => h (SX.S_inj z)
      simp [h3, h2]
theorem in_tsv {M : Sto} {a : Nat} {ts : List (List Nat)} (h : M[a]? = some (.lst (tsv ts))) (t : List Nat) : Ev.inV M (tv t) (.ref a) = some (decide (t ∈ ts)) := by
  have e : Ev.inV M (tv t) (.ref a) = (match lstOf M a with
    | some ys => match (tv t).atom, atoms ys with
      | some v, some vs => if flatV v = true ∧ vs.all flatV = true then some (L2.inV v vs) else none
      | _, _ => none
    | none => none) := rfl
  have e1 : lstOf M a = some (tsv ts) := by unfold lstOf; rw [h]
  rw [e, e1]
  show (match (tv t).atom, atoms (tsv ts) with
      | some v, some vs => if flatV v = true ∧ vs.all flatV = true then some (L2.inV v vs) else none
      | _, _ => none) = _
  rw [atoms_tsv]
  show (if flatV (V.str (tS t)) = true ∧ (ts.map fun t => V.str (tS t)).all flatV = true then some (L2.inV (V.str (tS t)) (ts.map fun t => V.str (tS t))) else none) = _
  rw [if_pos ⟨rfl, by simp [List.all_map, flatV]⟩, inv_str]
theorem atoms_ints : ∀ ns : List Int, atoms (ns.map .int) = some (ns.map .int)
  | [] => rfl
  | n :: ns => by
    show (match (PV.int n).atom, atoms (ns.map .int) with | some v, some vs => some (v :: vs) | _, _ => none) = _
    rw [atoms_ints ns]; rfl
theorem inv_int (n : Int) : ∀ ns : List Int, L2.inV (V.int n) (ns.map .int) = decide (n ∈ ns)
  | [] => by simp [L2.inV]
  | m :: ns => by
    have ih := inv_int n ns
    show (decide (m = n) || L2.inV (V.int n) (ns.map .int)) = _
    rw [ih]
    by_cases h : m = n
    · subst h; simp
    · have h2 : ¬ n = m := fun z => h z.symm
      simp [h, h2]
theorem in_tup (M : Sto) (n : Int) (ns : List Int) : Ev.inV M (.int n) (.tup (ns.map .int)) = some (decide (n ∈ ns)) := by
  show (match (PV.int n).atom, atoms (ns.map .int) with
      | some v, some vs => if flatV v = true ∧ vs.all flatV = true then some (L2.inV v vs) else none
      | _, _ => none) = _
  rw [atoms_ints]
  show (if flatV (V.int n) = true ∧ (ns.map V.int).all flatV = true then some (L2.inV (V.int n) (ns.map .int)) else none) = _
  rw [if_pos ⟨rfl, by simp [List.all_map, flatV]⟩, inv_int]
theorem bools_of {α : Type} (f : α → Bool) : ∀ xs : List α, boolsP (xs.map fun x => PV.bl (f x)) = some (xs.map f)
  | [] => rfl
  | x :: xs => by
    show (boolsP (xs.map fun x => PV.bl (f x))).map (f x :: ·) = _
    rw [bools_of f xs]; rfl
/-- a comprehension that changes nothing and leaves nothing out -/
theorem comp_map {α : Type} {g : PV → Sto → Res (Option PV)} {keep : Sto → Bool} {M : Sto} {z : Res (List PV)} (xs : List α) (v : α → PV) (f : α → PV) (hz : compL g keep (xs.map v) M [] = z) (hk : keep M = true) (h : ∀ x ∈ xs, g (v x) M = .ok (some (f x)) M) (hs : xs.length ≤ sizeLine) : z = .ok (xs.map f) M := by
  have : ∀ (ys : List α) (acc : List PV), (∀ y ∈ ys, y ∈ xs) → acc.length + ys.length ≤ sizeLine → compL g keep (ys.map v) M acc = .ok (acc ++ ys.map f) M := by
    intro ys
    induction ys with
    | nil => intro acc _ _; simp [compL, hk]
    | cons y ys ih =>
      intro acc hy hl
      simp only [List.length_cons] at hl
      rw [List.map_cons]
      unfold compL
      rw [if_pos hk, h y (hy y List.mem_cons_self)]
      simp only
      rw [if_pos (by omega), ih (acc ++ [f y]) (fun w hw => hy w (List.mem_cons_of_mem _ hw)) (by simp; omega)]
      simp
  rw [← hz, this xs [] (fun y hy => hy) (by simpa using hs)]
  rfl
end Ev

set_option Elab.async false
set_option linter.all false
set_option maxRecDepth 100000
set_option maxHeartbeats 0
/-! The code of answergate_k18_whole_turns_within_their, printed by gen.py from the text. -/
namespace K18
open PySem L2 Ev
abbrev R : PySem.W.OpenRow := PySem.W.OpenLaw.row PySem.Challenge.rw_answergate_k18_whole_turns_within_their
def top (i : Nat) : Stmt := PySem.Challenge.pw_answergate_k18_whole_turns_within_their.main.body.getD i (.Pass ⟨0, 0, 0, 0⟩)
abbrev Q := CS.seq
abbrev N_ := CS.nil
abbrev A := CE.cons
abbrev E_ := CE.nil
abbrev V := CE.var
abbrev I := CE.int
abbrev S := CE.str
def c_is_integer : CS := Q (.ret (.and (.isi (V 0) ["int"] false) (.not (.isi (V 0) ["bool"] false)))) (N_)
def c_is_between : CS := Q (.ret (.and (.call "is_integer" (A (V 0) (E_))) (.chain .LtE .LtE (V 1) (V 0) (V 2)))) (N_)
def c_is_count : CS := Q (.ret (.and (.call "is_integer" (A (V 0) (E_))) (.cmp .GtE (V 0) (I 0)))) (N_)
def c_is_row : CS := Q (.ret (.and (.isi (V 0) ["tuple"] false) (.cmp .Eq (.blt .len (A (V 0) (E_))) (V 1)))) (N_)
def c_is_word : CS := Q (.ite (.or (.not (.isi (V 0) ["str"] false)) (.not (.chain .LtE .LtE (I 1) (.blt .len (A (V 0) (E_))) (.glo "MOST_WORD")))) (Q (.ret (.bl false)) (N_)) (N_)) (Q (.ret (.blt .all (A (.comp (.nm 1) (.iv (V 0)) (E_) (.cmp .In (V 1) (.glo "LETTERS")) [1]) (E_)))) (N_))
def c_is_pool_value : CS := Q (.ite (.or (.not (.isi (V 0) ["tuple"] false)) (.or (.not (.chain .LtE .LtE (I 1) (.blt .len (A (V 0) (E_))) (.glo "MOST_POOL"))) (.not (.blt .all (A (.comp (.nm 1) (.iv (V 0)) (E_) (.call "is_row" (A (V 1) (A (I 2) (E_)))) [1]) (E_)))))) (Q (.ret (.bl false)) (N_)) (N_)) (Q (.ite (.not (.blt .all (A (.comp (.tp (.cons (.nm 2) (.cons (.nm 3) (.nil)))) (.iv (V 0)) (E_) (.and (.call "is_word" (A (V 2) (E_))) (.call "is_between" (A (V 3) (A (I 1) (A (.glo "MOST_WEIGHT") (E_)))))) [2, 3]) (E_)))) (Q (.ret (.bl false)) (N_)) (N_)) (Q (.ret (.cmp .Eq (.lenset (.comp (.tp (.cons (.nm 2) (.cons (.nm 3) (.nil)))) (.iv (V 0)) (E_) (V 2) [2, 3])) (.blt .len (A (V 0) (E_))))) (N_)))
def c_need_pool : CS := Q (.ite (.not (.call "is_pool_value" (A (V 0) (E_)))) (Q (.never) (N_)) (N_)) (N_)
def c_are_counts_like : CS := Q (.ret (.and (.call "is_row" (A (V 1) (A (.blt .len (A (V 0) (E_))) (E_)))) (.blt .all (A (.comp (.nm 2) (.iv (V 1)) (E_) (.call "is_count" (A (V 2) (E_))) [2]) (E_))))) (N_)
def c_are_counts : CS := Q (.ret (.and (.call "are_counts_like" (A (V 0) (A (V 1) (E_)))) (.cmp .Eq (V 1) (.call "counts_at" (A (V 0) (A (.blt .sum (A (V 1) (E_))) (E_))))))) (N_)
def c_weights_of : CS := Q (.ret (.comp (.tp (.cons (.nm 1) (.cons (.nm 2) (.nil)))) (.iv (V 0)) (E_) (V 2) [1, 2])) (N_)
def c_due_time : CS := Q (.ret (.neg (.bin .FloorDiv (.bin .Mult (.neg (V 2)) (V 1)) (V 0)))) (N_)
def c_is_ready : CS := Q (.ret (.cmp .Gt (V 3) (.bin .FloorDiv (.bin .Mult (V 2) (V 1)) (V 0)))) (N_)
def c_turn_after : CS := Q (.asg (.tp (.cons (.nm 2) (.cons (.nm 3) (.nil)))) (.tup (A (.blt .sum (A (V 0) (E_))) (A (.bin .Add (.blt .sum (A (V 1) (E_))) (I 1)) (E_))))) (Q (.asg (.nm 4) (.comp (.tp (.cons (.nm 5) (.cons (.nm 6) (.nil)))) (.ienum (V 0)) (A (.call "is_ready" (A (V 6) (A (V 2) (A (.sub (V 1) (V 5)) (A (V 3) (E_)))))) (E_)) (V 5) [5, 6])) (Q (.ret (.minkey "turn_after" 0 (V 4) 5 (.tup (A (.call "due_time" (A (.sub (V 0) (V 5)) (A (V 2) (A (.bin .Add (.sub (V 1) (V 5)) (I 1)) (E_))))) (A (V 5) (E_)))))) (N_)))
def c_with_one_more : CS := Q (.ret (.bin .Add (.bin .Add (.slc (V 0) (.no) (A (V 1) E_)) (.tup (A (.bin .Add (.sub (V 0) (V 1)) (I 1)) (E_)))) (.slc (V 0) (A (.bin .Add (V 1) (I 1)) E_) (.no)))) (N_)
def c_first_turns : CS := Q (.par [2, 3] (A (.lst (E_)) (A (.bin .Mult (.tup (A (I 0) (E_))) (.blt .len (A (V 0) (E_)))) (E_)))) (Q (.for_ (.nm 4) (.irg1 (.blt .int (A (V 1) (E_)))) (Q (.expr (.meth .append (V 2) (A (.call "turn_after" (A (V 0) (A (V 3) (E_)))) (E_)))) (Q (.asg (.nm 3) (.call "with_one_more" (A (V 3) (A (.sub (V 2) (.neg (I 1))) (E_))))) (N_)))) (Q (.ret (.tup (A (.blt .tuple (A (V 2) (E_))) (A (V 3) (E_))))) (N_)))
def c_counts_at : CS := Q (.asg (.nm 2) (.call "weights_of" (A (V 0) (E_)))) (Q (.asg (.tp (.cons (.nm 3) (.cons (.nm 4) (.nil)))) (.blt .divmod (A (V 1) (A (.blt .sum (A (V 2) (E_))) (E_))))) (Q (.asg (.nm 5) (.sub (.call "first_turns" (A (V 2) (A (V 4) (E_)))) (I 1))) (Q (.ret (.blt .tuple (A (.comp (.tp (.cons (.nm 6) (.cons (.nm 7) (.nil)))) (.izip (V 2) (V 5)) (E_) (.bin .Add (.bin .Mult (V 3) (V 6)) (V 7)) [6, 7]) (E_)))) (N_))))
def c_next_turn : CS := Q (.expr (.call "need_pool" (A (V 0) (E_)))) (Q (.ite (.not (.call "are_counts" (A (V 0) (A (V 1) (E_))))) (Q (.never) (N_)) (N_)) (Q (.ret (.call "turn_after" (A (.call "weights_of" (A (V 0) (E_))) (A (V 1) (E_))))) (N_)))
def c_turns : CS := Q (.expr (.call "need_pool" (A (V 0) (E_)))) (Q (.ite (.not (.call "is_between" (A (V 1) (A (I 0) (A (.glo "MOST_TURNS") (E_)))))) (Q (.never) (N_)) (N_)) (Q (.ret (.sub (.call "first_turns" (A (.call "weights_of" (A (V 0) (E_))) (A (V 1) (E_)))) (I 0))) (N_)))
def c_counts_after : CS := Q (.expr (.call "need_pool" (A (V 0) (E_)))) (Q (.ite (.not (.call "is_count" (A (V 1) (E_)))) (Q (.never) (N_)) (N_)) (Q (.ret (.call "counts_at" (A (V 0) (A (V 1) (E_))))) (N_)))
def c__law_dealt : CS := Q (.asg (.nm 1) (I 13749018)) (Q (.for_ (.nm 2) (.iv (.slc (V 0) (.no) (A (I 63) E_))) (Q (.asg (.nm 1) (.bin .Mod (.blt .int (A (.bin .Add (.bin .Add (.bin .Mult (V 1) (I 39373)) (.bin .Mod (.blt .int (A (V 2) (E_))) (I 2147483563))) (I 31)) (E_))) (I 2147483629))) (N_))) (Q (.ret (.dct (A (S "left") (A (S "mixed") (A (S "draws") (E_)))) (A (.rev (.blt .list (A (.slc (V 0) (.no) (A (I 63) E_)) (E_)))) (A (V 1) (A (I 0) (E_)))))) (N_)))
def c__law_draw : CS := Q (.asgS (V 0) (S "draws") (.bin .Add (.sub (V 0) (S "draws")) (I 1))) (Q (.asg (.nm 2) (.bin .Add (.sub (V 0) (S "mixed")) (.bin .Mult (I 52631) (.sub (V 0) (S "draws"))))) (Q (.ite (.cmp .NotEq (.sub (V 0) (S "left")) (.lst (E_))) (Q (.asg (.nm 3) (.meth .pop (.sub (V 0) (S "left")) (E_))) (Q (.ite (.cmp .GtE (V 3) (.bin .Pow (I 10) (I 18))) (Q (.expr (.meth .append (.sub (V 0) (S "left")) (A (.bin .FloorDiv (V 3) (.blt .max (A (I 2) (A (V 1) (E_))))) (E_)))) (Q (.ret (.bin .Mod (.blt .int (A (V 3) (E_))) (V 1))) (N_))) (N_)) (Q (.asg (.nm 2) (.bin .Add (V 2) (.bin .Mod (.blt .int (A (V 3) (E_))) (I 2147483563)))) (N_)))) (N_)) (Q (.asg (.nm 2) (.bin .Mod (.blt .int (A (.bin .Add (.bin .Mult (V 2) (I 48271)) (I 17)) (E_))) (I 2147483587))) (Q (.asg (.nm 2) (.bin .Mod (.blt .int (A (.bin .Add (.bin .Add (.bin .Mult (V 2) (V 2)) (.bin .Mult (I 40009) (.sub (V 0) (S "draws")))) (I 29)) (E_))) (I 2147483647))) (Q (.ret (.bin .Mod (.blt .int (A (.bin .FloorDiv (.bin .Mod (.blt .int (A (.bin .Mult (V 2) (I 40692)) (E_))) (I 2147483629)) (I 64)) (E_))) (V 1))) (N_))))))
def c__law_pick : CS := Q (.ret (.sub (V 1) (.call "_law_draw" (A (V 0) (A (.blt .len (A (V 1) (E_))) (E_)))))) (N_)
def c__law_is_whole : CS := Q (.ret (.and (.isi (V 0) ["int"] false) (.and (.not (.isi (V 0) ["bool"] false)) (.chain .LtE .LtE (V 1) (V 0) (V 2))))) (N_)
def c__law_pool : CS := Q (.par [1, 2] (A (.call "_law_pick" (A (V 0) (A (.lst (A (I 3) (A (I 2) (A (I 4) (A (I 1) (A (I 8) (A (I 5) (A (I 6) (E_))))))))) (E_)))) (A (.call "_law_draw" (A (V 0) (A (I 5) (E_)))) (E_)))) (Q (.par [3, 4] (A (.lst (A (S "ash") (A (S "oak") (A (S "elm") (A (S "b") (A (S "a") (A (S "abcdefghij") (A (S "yew") (A (S "z") (E_)))))))))) (A (.lst (E_)) (E_)))) (Q (.for_ (.nm 5) (.irg1 (V 1)) (Q (.asg (.nm 6) (.bin .Add (I 1) (.call "_law_draw" (A (V 0) (A (.sub (.lst (A (I 5) (A (I 100) (A (I 12) (A (I 3) (A (I 2) (E_))))))) (V 2)) (E_)))))) (Q (.ite (.and (.cmp .Eq (V 2) (I 4)) (.cmp .Eq (V 5) (I 1))) (Q (.asg (.nm 6) (.bin .Sub (I 100) (.call "_law_draw" (A (V 0) (A (I 3) (E_)))))) (N_)) (N_)) (Q (.expr (.meth .append (V 4) (A (.tup (A (.meth .popAt (V 3) (A (.call "_law_draw" (A (V 0) (A (.blt .len (A (V 3) (E_))) (E_)))) (E_))) (A (V 6) (E_)))) (E_)))) (N_))))) (Q (.ret (.blt .tuple (A (V 4) (E_)))) (N_))))
def c__law_is_next : CS := Q (.par [4, 5] (A (.blt .sum (A (.comp (.tp (.cons (.nm 6) (.cons (.nm 7) (.nil)))) (.iv (V 0)) (E_) (V 7) [6, 7]) (E_))) (A (.lst (E_)) (E_)))) (Q (.for_ (.tp (.cons (.nm 8) (.cons (.nm 9) (.nil)))) (.ienum (V 0)) (Q (.ite (.cmp .Gt (V 2) (.bin .FloorDiv (.bin .Mult (.sub (V 1) (V 8)) (V 4)) (.sub (V 9) (I 1)))) (Q (.expr (.meth .append (V 5) (A (.bin .FloorDiv (.bin .Sub (.bin .Add (.bin .Mult (.bin .Add (.sub (V 1) (V 8)) (I 1)) (V 4)) (.sub (V 9) (I 1))) (I 1)) (.sub (V 9) (I 1))) (E_)))) (N_)) (Q (.expr (.meth .append (V 5) (A (.non) (E_)))) (N_))) (N_))) (Q (.asg (.nm 10) (.comp (.nm 11) (.iv (V 5)) (A (.cmp .IsNot (V 11) (.non)) (E_)) (V 11) [11])) (Q (.ret (.and (.cmp .NotEq (V 10) (.lst (E_))) (.and (.cmp .Eq (V 3) (.meth .index (V 5) (A (.blt .min (A (V 10) (E_))) (E_)))) (.cmp .GtE (.blt .min (A (V 10) (E_))) (V 2))))) (N_))))
def c__law_is_share : CS := Q (.asg (.nm 3) (.blt .sum (A (.comp (.tp (.cons (.nm 4) (.cons (.nm 5) (.nil)))) (.iv (V 0)) (E_) (V 5) [4, 5]) (E_)))) (Q (.for_ (.tp (.cons (.nm 6) (.cons (.nm 7) (.nil)))) (.izip (V 0) (V 1)) (Q (.ite (.not (.chain .LtE .LtE (.bin .FloorDiv (.bin .Mult (V 2) (.sub (V 6) (I 1))) (V 3)) (V 7) (.bin .FloorDiv (.bin .Sub (.bin .Add (.bin .Mult (V 2) (.sub (V 6) (I 1))) (V 3)) (I 1)) (V 3)))) (Q (.ret (.bl false)) (N_)) (N_)) (N_))) (Q (.ret (.bl true)) (N_)))
def c_law : CS := Q (.asg (.nm 1) (.call "_law_dealt" (A (V 0) (E_)))) (Q (.for_ (.nm 2) (.irg1 (I 2)) (Q (.asg (.tp (.cons (.nm 3) (.cons (.nm 4) (.nil)))) (.tup (A (.call "_law_pool" (A (V 1) (E_))) (A (.call "_law_pick" (A (V 1) (A (.lst (A (I 60) (A (I 12) (A (I 30) (A (I 120) (A (I 0) (A (I 1) (E_)))))))) (E_)))) (E_))))) (Q (.ite (.and (.cmp .Eq (V 2) (I 1)) (.cmp .Eq (.call "_law_draw" (A (V 1) (A (I 8) (E_)))) (I 0))) (Q (.asg (.nm 4) (.call "_law_pick" (A (V 1) (A (.lst (A (I 2000) (A (I 1999) (A (I 1001) (A (I 201) (E_)))))) (E_))))) (N_)) (N_)) (Q (.asg (.nm 5) (.ife (.cmp .Eq (V 2) (I 0)) (.call "turns" (A (V 3) (A (V 4) (E_)))) (.callk "turns" 0 (E_) ["t", "pool"] (A (V 4) (A (V 3) (E_))) [1, 0]))) (Q (.ite (.or (.not (.isi (V 5) ["tuple"] false)) (.cmp .NotEq (.blt .len (A (V 5) (E_))) (V 4))) (Q (.ret (.bl false)) (N_)) (N_)) (Q (.asg (.tp (.cons (.nm 6) (.cons (.nm 7) (.nil)))) (.tup (A (.bin .Mult (.lst (A (I 0) (E_))) (.blt .len (A (V 3) (E_)))) (A (.comp (.nm 8) (.irg1 (I 4)) (E_) (.call "_law_draw" (A (V 1) (A (.bin .Add (V 4) (I 1)) (E_)))) [8]) (E_))))) (Q (.for_ (.tp (.cons (.nm 9) (.cons (.nm 10) (.nil)))) (.ienum (V 5)) (Q (.ite (.or (.not (.call "_law_is_whole" (A (V 10) (A (I 0) (A (.bin .Sub (.blt .len (A (V 3) (E_))) (I 1)) (E_)))))) (.not (.call "_law_is_next" (A (V 3) (A (V 6) (A (.bin .Add (V 9) (I 1)) (A (V 10) (E_)))))))) (Q (.ret (.bl false)) (N_)) (N_)) (Q (.ite (.cmp .In (V 9) (V 7)) (Q (.asg (.nm 11) (.blt .tuple (A (V 6) (E_)))) (Q (.ite (.cmp .NotEq (.blt .repr (A (.tup (A (.call "next_turn" (A (V 3) (A (V 11) (E_)))) (A (.call "counts_after" (A (V 3) (A (V 9) (E_)))) (E_)))) (E_))) (.blt .repr (A (.tup (A (V 10) (A (V 11) (E_)))) (E_)))) (Q (.ret (.bl false)) (N_)) (N_)) (N_))) (N_)) (Q (.asgS (V 6) (V 10) (.bin .Add (.sub (V 6) (V 10)) (I 1))) (Q (.ite (.not (.call "_law_is_share" (A (V 3) (A (V 6) (A (.bin .Add (V 9) (I 1)) (E_)))))) (Q (.ret (.bl false)) (N_)) (N_)) (N_)))))) (Q (.asg (.nm 12) (.comp (.nm 10) (.irg1 (.blt .len (A (V 3) (E_)))) (A (.call "_law_is_next" (A (V 3) (A (V 6) (A (.bin .Add (V 4) (I 1)) (A (V 10) (E_)))))) (E_)) (V 10) [10])) (Q (.ite (.cmp .NotEq (.blt .repr (A (.lst (A (.call "next_turn" (A (V 3) (A (.blt .tuple (A (V 6) (E_))) (E_)))) (E_))) (E_))) (.blt .repr (A (V 12) (E_)))) (Q (.ret (.bl false)) (N_)) (N_)) (Q (.ite (.or (.cmp .NotEq (.blt .repr (A (.callk "counts_after" 0 (E_) ["t", "pool"] (A (V 4) (A (V 3) (E_))) [1, 0]) (E_))) (.blt .repr (A (.blt .tuple (A (V 6) (E_))) (E_)))) (.cmp .NotEq (.blt .repr (A (.call "turns" (A (V 3) (A (.sub (V 7) (I 0)) (E_)))) (E_))) (.blt .repr (A (.slc (V 5) (.no) (A (.sub (V 7) (I 0)) E_)) (E_))))) (Q (.ret (.bl false)) (N_)) (N_)) (N_))))))))))) (Q (.ret (.bl true)) (N_)))
def f_is_integer : FD := ⟨["thing"], ["thing"], c_is_integer⟩
def d_is_integer : Def := ⟨"is_integer", defArgs (top 8), defBody (top 8), defScope (top 8), f_is_integer, []⟩
def f_is_between : FD := ⟨["thing", "least", "most"], ["thing", "least", "most"], c_is_between⟩
def d_is_between : Def := ⟨"is_between", defArgs (top 9), defBody (top 9), defScope (top 9), f_is_between, []⟩
def f_is_count : FD := ⟨["thing"], ["thing"], c_is_count⟩
def d_is_count : Def := ⟨"is_count", defArgs (top 10), defBody (top 10), defScope (top 10), f_is_count, []⟩
def f_is_row : FD := ⟨["thing", "many"], ["thing", "many"], c_is_row⟩
def d_is_row : Def := ⟨"is_row", defArgs (top 11), defBody (top 11), defScope (top 11), f_is_row, []⟩
def f_is_word : FD := ⟨["thing"], ["thing", "letter"], c_is_word⟩
def d_is_word : Def := ⟨"is_word", defArgs (top 12), defBody (top 12), defScope (top 12), f_is_word, []⟩
def f_is_pool_value : FD := ⟨["thing"], ["thing", "part", "label", "weight"], c_is_pool_value⟩
def d_is_pool_value : Def := ⟨"is_pool_value", defArgs (top 16), defBody (top 16), defScope (top 16), f_is_pool_value, []⟩
def f_need_pool : FD := ⟨["pool"], ["pool"], c_need_pool⟩
def d_need_pool : Def := ⟨"need_pool", defArgs (top 17), defBody (top 17), defScope (top 17), f_need_pool, []⟩
def f_are_counts_like : FD := ⟨["pool", "thing"], ["pool", "thing", "part"], c_are_counts_like⟩
def d_are_counts_like : Def := ⟨"are_counts_like", defArgs (top 18), defBody (top 18), defScope (top 18), f_are_counts_like, []⟩
def f_are_counts : FD := ⟨["pool", "thing"], ["pool", "thing"], c_are_counts⟩
def d_are_counts : Def := ⟨"are_counts", defArgs (top 19), defBody (top 19), defScope (top 19), f_are_counts, []⟩
def f_weights_of : FD := ⟨["pool"], ["pool", "label", "weight"], c_weights_of⟩
def d_weights_of : Def := ⟨"weights_of", defArgs (top 20), defBody (top 20), defScope (top 20), f_weights_of, []⟩
def f_due_time : FD := ⟨["weight", "whole", "turn"], ["weight", "whole", "turn"], c_due_time⟩
def d_due_time : Def := ⟨"due_time", defArgs (top 21), defBody (top 21), defScope (top 21), f_due_time, []⟩
def f_is_ready : FD := ⟨["weight", "whole", "given", "time"], ["weight", "whole", "given", "time"], c_is_ready⟩
def d_is_ready : Def := ⟨"is_ready", defArgs (top 22), defBody (top 22), defScope (top 22), f_is_ready, []⟩
def f_turn_after : FD := ⟨["weights", "counts"], ["weights", "counts", "whole", "time", "ready", "at", "weight"], c_turn_after⟩
def d_turn_after : Def := ⟨"turn_after", defArgs (top 23), defBody (top 23), defScope (top 23), f_turn_after, []⟩
def f_with_one_more : FD := ⟨["counts", "at"], ["counts", "at"], c_with_one_more⟩
def d_with_one_more : Def := ⟨"with_one_more", defArgs (top 24), defBody (top 24), defScope (top 24), f_with_one_more, []⟩
def f_first_turns : FD := ⟨["weights", "many"], ["weights", "many", "turns", "counts", "turn"], c_first_turns⟩
def d_first_turns : Def := ⟨"first_turns", defArgs (top 25), defBody (top 25), defScope (top 25), f_first_turns, []⟩
def f_counts_at : FD := ⟨["pool", "many"], ["pool", "many", "weights", "rounds", "rest", "counts", "weight", "count"], c_counts_at⟩
def d_counts_at : Def := ⟨"counts_at", defArgs (top 26), defBody (top 26), defScope (top 26), f_counts_at, []⟩
def f_next_turn : FD := ⟨["pool", "counts"], ["pool", "counts"], c_next_turn⟩
def d_next_turn : Def := ⟨"next_turn", defArgs (top 29), defBody (top 29), defScope (top 29), f_next_turn, []⟩
def f_turns : FD := ⟨["pool", "t"], ["pool", "t"], c_turns⟩
def d_turns : Def := ⟨"turns", defArgs (top 30), defBody (top 30), defScope (top 30), f_turns, [(0, ["t", "pool"], [1, 0])]⟩
def f_counts_after : FD := ⟨["pool", "t"], ["pool", "t"], c_counts_after⟩
def d_counts_after : Def := ⟨"counts_after", defArgs (top 31), defBody (top 31), defScope (top 31), f_counts_after, [(0, ["t", "pool"], [1, 0])]⟩
def f__law_dealt : FD := ⟨["_law_script"], ["_law_script", "_law_mixed", "_law_cell"], c__law_dealt⟩
def d__law_dealt : Def := ⟨"_law_dealt", defArgs (top 33), defBody (top 33), defScope (top 33), f__law_dealt, []⟩
def f__law_draw : FD := ⟨["_law_deck", "_law_many"], ["_law_deck", "_law_many", "_law_mark", "_law_cell"], c__law_draw⟩
def d__law_draw : Def := ⟨"_law_draw", defArgs (top 34), defBody (top 34), defScope (top 34), f__law_draw, []⟩
def f__law_pick : FD := ⟨["_law_deck", "_law_some"], ["_law_deck", "_law_some"], c__law_pick⟩
def d__law_pick : Def := ⟨"_law_pick", defArgs (top 35), defBody (top 35), defScope (top 35), f__law_pick, []⟩
def f__law_is_whole : FD := ⟨["_law_thing", "_law_low", "_law_high"], ["_law_thing", "_law_low", "_law_high"], c__law_is_whole⟩
def d__law_is_whole : Def := ⟨"_law_is_whole", defArgs (top 36), defBody (top 36), defScope (top 36), f__law_is_whole, []⟩
def f__law_pool : FD := ⟨["_law_deck"], ["_law_deck", "_law_many", "_law_way", "_law_names", "_law_found", "_law_at", "_law_weight"], c__law_pool⟩
def d__law_pool : Def := ⟨"_law_pool", defArgs (top 37), defBody (top 37), defScope (top 37), f__law_pool, []⟩
def f__law_is_next : FD := ⟨["_law_pool_here", "_law_counts", "_law_t", "_law_at"], ["_law_pool_here", "_law_counts", "_law_t", "_law_at", "_law_total", "_law_best", "_law_label", "_law_weight", "_law_i", "_law_pair", "_law_dues", "_law_due"], c__law_is_next⟩
def d__law_is_next : Def := ⟨"_law_is_next", defArgs (top 38), defBody (top 38), defScope (top 38), f__law_is_next, []⟩
def f__law_is_share : FD := ⟨["_law_pool_here", "_law_counts", "_law_t"], ["_law_pool_here", "_law_counts", "_law_t", "_law_total", "_law_label", "_law_weight", "_law_pair", "_law_many"], c__law_is_share⟩
def d__law_is_share : Def := ⟨"_law_is_share", defArgs (top 39), defBody (top 39), defScope (top 39), f__law_is_share, []⟩
def f_law : FD := ⟨["_law_script"], ["_law_script", "_law_deck", "_law_go", "_law_pool_here", "_law_many", "_law_told", "_law_counts", "_law_asked", "_law_turn", "_law_t", "_law_at", "_law_so_far", "_law_due"], c_law⟩
def d_law : Def := ⟨"law", defArgs (top 40), defBody (top 40), defScope (top 40), f_law, []⟩
def tab : Tab := [d_is_integer, d_is_between, d_is_count, d_is_row, d_is_word, d_is_pool_value, d_need_pool, d_are_counts_like, d_are_counts, d_weights_of, d_due_time, d_is_ready, d_turn_after, d_with_one_more, d_first_turns, d_counts_at, d_next_turn, d_turns, d_counts_after, d__law_dealt, d__law_draw, d__law_pick, d__law_is_whole, d__law_pool, d__law_is_next, d__law_is_share, d_law]
def gcs : GCs := [("LETTERS", .str "abcdefghijklmnopqrstuvwxyz"), ("MOST_POOL", .int 8), ("MOST_TURNS", .int 2000), ("MOST_WEIGHT", .int 100), ("MOST_WORD", .int 10)]
def kwt : KwT := tab.kw
theorem o_is_integer : d_is_integer.Ok tab.kw := by
  refine ⟨by kernel_rfl, by kernel_rfl, fun _ _ _ _ _ _ us hl => match us, hl with | [_], _ => rfl, fun z hz => by cases hz⟩
theorem o_is_between : d_is_between.Ok tab.kw := by
  refine ⟨by kernel_rfl, by kernel_rfl, fun _ _ _ _ _ _ us hl => match us, hl with | [_, _, _], _ => rfl, fun z hz => by cases hz⟩
theorem o_is_count : d_is_count.Ok tab.kw := by
  refine ⟨by kernel_rfl, by kernel_rfl, fun _ _ _ _ _ _ us hl => match us, hl with | [_], _ => rfl, fun z hz => by cases hz⟩
theorem o_is_row : d_is_row.Ok tab.kw := by
  refine ⟨by kernel_rfl, by kernel_rfl, fun _ _ _ _ _ _ us hl => match us, hl with | [_, _], _ => rfl, fun z hz => by cases hz⟩
theorem o_is_word : d_is_word.Ok tab.kw := by
  refine ⟨by kernel_rfl, by kernel_rfl, fun _ _ _ _ _ _ us hl => match us, hl with | [_], _ => rfl, fun z hz => by cases hz⟩
theorem o_is_pool_value : d_is_pool_value.Ok tab.kw := by
  refine ⟨by kernel_rfl, by kernel_rfl, fun _ _ _ _ _ _ us hl => match us, hl with | [_], _ => rfl, fun z hz => by cases hz⟩
theorem o_need_pool : d_need_pool.Ok tab.kw := by
  refine ⟨by kernel_rfl, by kernel_rfl, fun _ _ _ _ _ _ us hl => match us, hl with | [_], _ => rfl, fun z hz => by cases hz⟩
theorem o_are_counts_like : d_are_counts_like.Ok tab.kw := by
  refine ⟨by kernel_rfl, by kernel_rfl, fun _ _ _ _ _ _ us hl => match us, hl with | [_, _], _ => rfl, fun z hz => by cases hz⟩
theorem o_are_counts : d_are_counts.Ok tab.kw := by
  refine ⟨by kernel_rfl, by kernel_rfl, fun _ _ _ _ _ _ us hl => match us, hl with | [_, _], _ => rfl, fun z hz => by cases hz⟩
theorem o_weights_of : d_weights_of.Ok tab.kw := by
  refine ⟨by kernel_rfl, by kernel_rfl, fun _ _ _ _ _ _ us hl => match us, hl with | [_], _ => rfl, fun z hz => by cases hz⟩
theorem o_due_time : d_due_time.Ok tab.kw := by
  refine ⟨by kernel_rfl, by kernel_rfl, fun _ _ _ _ _ _ us hl => match us, hl with | [_, _, _], _ => rfl, fun z hz => by cases hz⟩
theorem o_is_ready : d_is_ready.Ok tab.kw := by
  refine ⟨by kernel_rfl, by kernel_rfl, fun _ _ _ _ _ _ us hl => match us, hl with | [_, _, _, _], _ => rfl, fun z hz => by cases hz⟩
theorem o_turn_after : d_turn_after.Ok tab.kw := by
  refine ⟨by kernel_rfl, by kernel_rfl, fun _ _ _ _ _ _ us hl => match us, hl with | [_, _], _ => rfl, fun z hz => by cases hz⟩
theorem o_with_one_more : d_with_one_more.Ok tab.kw := by
  refine ⟨by kernel_rfl, by kernel_rfl, fun _ _ _ _ _ _ us hl => match us, hl with | [_, _], _ => rfl, fun z hz => by cases hz⟩
theorem o_first_turns : d_first_turns.Ok tab.kw := by
  refine ⟨by kernel_rfl, by kernel_rfl, fun _ _ _ _ _ _ us hl => match us, hl with | [_, _], _ => rfl, fun z hz => by cases hz⟩
theorem o_counts_at : d_counts_at.Ok tab.kw := by
  refine ⟨by kernel_rfl, by kernel_rfl, fun _ _ _ _ _ _ us hl => match us, hl with | [_, _], _ => rfl, fun z hz => by cases hz⟩
theorem o_next_turn : d_next_turn.Ok tab.kw := by
  refine ⟨by kernel_rfl, by kernel_rfl, fun _ _ _ _ _ _ us hl => match us, hl with | [_, _], _ => rfl, fun z hz => by cases hz⟩
theorem o_turns : d_turns.Ok tab.kw := by
  refine ⟨by kernel_rfl, by kernel_rfl, fun _ _ _ _ _ _ us hl => match us, hl with | [_, _], _ => rfl, ?_⟩
  intro z hz
  rcases List.mem_cons.mp hz with rfl | hz
  · exact fun _ _ _ _ _ _ us ws h1 h2 => match us, ws, h1, h2 with | [], [_, _], _, _ => rfl
  · cases hz
theorem o_counts_after : d_counts_after.Ok tab.kw := by
  refine ⟨by kernel_rfl, by kernel_rfl, fun _ _ _ _ _ _ us hl => match us, hl with | [_, _], _ => rfl, ?_⟩
  intro z hz
  rcases List.mem_cons.mp hz with rfl | hz
  · exact fun _ _ _ _ _ _ us ws h1 h2 => match us, ws, h1, h2 with | [], [_, _], _, _ => rfl
  · cases hz
theorem o__law_dealt : d__law_dealt.Ok tab.kw := by
  refine ⟨by kernel_rfl, by kernel_rfl, fun _ _ _ _ _ _ us hl => match us, hl with | [_], _ => rfl, fun z hz => by cases hz⟩
theorem o__law_draw : d__law_draw.Ok tab.kw := by
  refine ⟨by kernel_rfl, by kernel_rfl, fun _ _ _ _ _ _ us hl => match us, hl with | [_, _], _ => rfl, fun z hz => by cases hz⟩
theorem o__law_pick : d__law_pick.Ok tab.kw := by
  refine ⟨by kernel_rfl, by kernel_rfl, fun _ _ _ _ _ _ us hl => match us, hl with | [_, _], _ => rfl, fun z hz => by cases hz⟩
theorem o__law_is_whole : d__law_is_whole.Ok tab.kw := by
  refine ⟨by kernel_rfl, by kernel_rfl, fun _ _ _ _ _ _ us hl => match us, hl with | [_, _, _], _ => rfl, fun z hz => by cases hz⟩
theorem o__law_pool : d__law_pool.Ok tab.kw := by
  refine ⟨by kernel_rfl, by kernel_rfl, fun _ _ _ _ _ _ us hl => match us, hl with | [_], _ => rfl, fun z hz => by cases hz⟩
theorem o__law_is_next : d__law_is_next.Ok tab.kw := by
  refine ⟨by kernel_rfl, by kernel_rfl, fun _ _ _ _ _ _ us hl => match us, hl with | [_, _, _, _], _ => rfl, fun z hz => by cases hz⟩
theorem o__law_is_share : d__law_is_share.Ok tab.kw := by
  refine ⟨by kernel_rfl, by kernel_rfl, fun _ _ _ _ _ _ us hl => match us, hl with | [_, _, _], _ => rfl, fun z hz => by cases hz⟩
theorem o_law : d_law.Ok tab.kw := by
  refine ⟨by kernel_rfl, by kernel_rfl, fun _ _ _ _ _ _ us hl => match us, hl with | [_], _ => rfl, fun z hz => by cases hz⟩
abbrev T : Txt := tab.txt gcs.glo (fun _ => none) 100000
theorem g_LETTERS : T.glo "LETTERS" = some (GC.pv ((.str "abcdefghijklmnopqrstuvwxyz"))) := rfl
theorem g_MOST_POOL : T.glo "MOST_POOL" = some (GC.pv ((.int 8))) := rfl
theorem g_MOST_TURNS : T.glo "MOST_TURNS" = some (GC.pv ((.int 2000))) := rfl
theorem g_MOST_WEIGHT : T.glo "MOST_WEIGHT" = some (GC.pv ((.int 100))) := rfl
theorem g_MOST_WORD : T.glo "MOST_WORD" = some (GC.pv ((.int 10))) := rfl
theorem e_is_integer (n : Nat) (a0 : PV) (M : Sto) : callN T (n + 1) "is_integer" [a0] M = (evS (T.at n) c_is_integer [some a0] M).back := run_def rfl _ _ 0 rfl rfl
theorem e_is_between (n : Nat) (a0 a1 a2 : PV) (M : Sto) : callN T (n + 1) "is_between" [a0, a1, a2] M = (evS (T.at n) c_is_between [some a0, some a1, some a2] M).back := run_def rfl _ _ 0 rfl rfl
theorem e_is_count (n : Nat) (a0 : PV) (M : Sto) : callN T (n + 1) "is_count" [a0] M = (evS (T.at n) c_is_count [some a0] M).back := run_def rfl _ _ 0 rfl rfl
theorem e_is_row (n : Nat) (a0 a1 : PV) (M : Sto) : callN T (n + 1) "is_row" [a0, a1] M = (evS (T.at n) c_is_row [some a0, some a1] M).back := run_def rfl _ _ 0 rfl rfl
theorem e_is_word (n : Nat) (a0 : PV) (M : Sto) : callN T (n + 1) "is_word" [a0] M = (evS (T.at n) c_is_word [some a0, none] M).back := run_def rfl _ _ 1 rfl rfl
theorem e_is_pool_value (n : Nat) (a0 : PV) (M : Sto) : callN T (n + 1) "is_pool_value" [a0] M = (evS (T.at n) c_is_pool_value [some a0, none, none, none] M).back := run_def rfl _ _ 3 rfl rfl
theorem e_need_pool (n : Nat) (a0 : PV) (M : Sto) : callN T (n + 1) "need_pool" [a0] M = (evS (T.at n) c_need_pool [some a0] M).back := run_def rfl _ _ 0 rfl rfl
theorem e_are_counts_like (n : Nat) (a0 a1 : PV) (M : Sto) : callN T (n + 1) "are_counts_like" [a0, a1] M = (evS (T.at n) c_are_counts_like [some a0, some a1, none] M).back := run_def rfl _ _ 1 rfl rfl
theorem e_are_counts (n : Nat) (a0 a1 : PV) (M : Sto) : callN T (n + 1) "are_counts" [a0, a1] M = (evS (T.at n) c_are_counts [some a0, some a1] M).back := run_def rfl _ _ 0 rfl rfl
theorem e_weights_of (n : Nat) (a0 : PV) (M : Sto) : callN T (n + 1) "weights_of" [a0] M = (evS (T.at n) c_weights_of [some a0, none, none] M).back := run_def rfl _ _ 2 rfl rfl
theorem e_due_time (n : Nat) (a0 a1 a2 : PV) (M : Sto) : callN T (n + 1) "due_time" [a0, a1, a2] M = (evS (T.at n) c_due_time [some a0, some a1, some a2] M).back := run_def rfl _ _ 0 rfl rfl
theorem e_is_ready (n : Nat) (a0 a1 a2 a3 : PV) (M : Sto) : callN T (n + 1) "is_ready" [a0, a1, a2, a3] M = (evS (T.at n) c_is_ready [some a0, some a1, some a2, some a3] M).back := run_def rfl _ _ 0 rfl rfl
theorem e_turn_after (n : Nat) (a0 a1 : PV) (M : Sto) : callN T (n + 1) "turn_after" [a0, a1] M = (evS (T.at n) c_turn_after [some a0, some a1, none, none, none, none, none] M).back := run_def rfl _ _ 5 rfl rfl
theorem e_with_one_more (n : Nat) (a0 a1 : PV) (M : Sto) : callN T (n + 1) "with_one_more" [a0, a1] M = (evS (T.at n) c_with_one_more [some a0, some a1] M).back := run_def rfl _ _ 0 rfl rfl
theorem e_first_turns (n : Nat) (a0 a1 : PV) (M : Sto) : callN T (n + 1) "first_turns" [a0, a1] M = (evS (T.at n) c_first_turns [some a0, some a1, none, none, none] M).back := run_def rfl _ _ 3 rfl rfl
theorem e_counts_at (n : Nat) (a0 a1 : PV) (M : Sto) : callN T (n + 1) "counts_at" [a0, a1] M = (evS (T.at n) c_counts_at [some a0, some a1, none, none, none, none, none, none] M).back := run_def rfl _ _ 6 rfl rfl
theorem e_next_turn (n : Nat) (a0 a1 : PV) (M : Sto) : callN T (n + 1) "next_turn" [a0, a1] M = (evS (T.at n) c_next_turn [some a0, some a1] M).back := run_def rfl _ _ 0 rfl rfl
theorem e_turns (n : Nat) (a0 a1 : PV) (M : Sto) : callN T (n + 1) "turns" [a0, a1] M = (evS (T.at n) c_turns [some a0, some a1] M).back := run_def rfl _ _ 0 rfl rfl
theorem e_counts_after (n : Nat) (a0 a1 : PV) (M : Sto) : callN T (n + 1) "counts_after" [a0, a1] M = (evS (T.at n) c_counts_after [some a0, some a1] M).back := run_def rfl _ _ 0 rfl rfl
theorem e__law_dealt (n : Nat) (a0 : PV) (M : Sto) : callN T (n + 1) "_law_dealt" [a0] M = (evS (T.at n) c__law_dealt [some a0, none, none] M).back := run_def rfl _ _ 2 rfl rfl
theorem e__law_draw (n : Nat) (a0 a1 : PV) (M : Sto) : callN T (n + 1) "_law_draw" [a0, a1] M = (evS (T.at n) c__law_draw [some a0, some a1, none, none] M).back := run_def rfl _ _ 2 rfl rfl
theorem e__law_pick (n : Nat) (a0 a1 : PV) (M : Sto) : callN T (n + 1) "_law_pick" [a0, a1] M = (evS (T.at n) c__law_pick [some a0, some a1] M).back := run_def rfl _ _ 0 rfl rfl
theorem e__law_is_whole (n : Nat) (a0 a1 a2 : PV) (M : Sto) : callN T (n + 1) "_law_is_whole" [a0, a1, a2] M = (evS (T.at n) c__law_is_whole [some a0, some a1, some a2] M).back := run_def rfl _ _ 0 rfl rfl
theorem e__law_pool (n : Nat) (a0 : PV) (M : Sto) : callN T (n + 1) "_law_pool" [a0] M = (evS (T.at n) c__law_pool [some a0, none, none, none, none, none, none] M).back := run_def rfl _ _ 6 rfl rfl
theorem e__law_is_next (n : Nat) (a0 a1 a2 a3 : PV) (M : Sto) : callN T (n + 1) "_law_is_next" [a0, a1, a2, a3] M = (evS (T.at n) c__law_is_next [some a0, some a1, some a2, some a3, none, none, none, none, none, none, none, none] M).back := run_def rfl _ _ 8 rfl rfl
theorem e__law_is_share (n : Nat) (a0 a1 a2 : PV) (M : Sto) : callN T (n + 1) "_law_is_share" [a0, a1, a2] M = (evS (T.at n) c__law_is_share [some a0, some a1, some a2, none, none, none, none, none] M).back := run_def rfl _ _ 5 rfl rfl
theorem e_law (n : Nat) (a0 : PV) (M : Sto) : callN T (n + 1) "law" [a0] M = (evS (T.at n) c_law [some a0, none, none, none, none, none, none, none, none, none, none, none, none] M).back := run_def rfl _ _ 12 rfl rfl
theorem ok : ∀ D ∈ tab, D.Ok tab.kw := by
  intro D h
  rcases List.mem_cons.mp h with rfl | h
  · exact o_is_integer
  rcases List.mem_cons.mp h with rfl | h
  · exact o_is_between
  rcases List.mem_cons.mp h with rfl | h
  · exact o_is_count
  rcases List.mem_cons.mp h with rfl | h
  · exact o_is_row
  rcases List.mem_cons.mp h with rfl | h
  · exact o_is_word
  rcases List.mem_cons.mp h with rfl | h
  · exact o_is_pool_value
  rcases List.mem_cons.mp h with rfl | h
  · exact o_need_pool
  rcases List.mem_cons.mp h with rfl | h
  · exact o_are_counts_like
  rcases List.mem_cons.mp h with rfl | h
  · exact o_are_counts
  rcases List.mem_cons.mp h with rfl | h
  · exact o_weights_of
  rcases List.mem_cons.mp h with rfl | h
  · exact o_due_time
  rcases List.mem_cons.mp h with rfl | h
  · exact o_is_ready
  rcases List.mem_cons.mp h with rfl | h
  · exact o_turn_after
  rcases List.mem_cons.mp h with rfl | h
  · exact o_with_one_more
  rcases List.mem_cons.mp h with rfl | h
  · exact o_first_turns
  rcases List.mem_cons.mp h with rfl | h
  · exact o_counts_at
  rcases List.mem_cons.mp h with rfl | h
  · exact o_next_turn
  rcases List.mem_cons.mp h with rfl | h
  · exact o_turns
  rcases List.mem_cons.mp h with rfl | h
  · exact o_counts_after
  rcases List.mem_cons.mp h with rfl | h
  · exact o__law_dealt
  rcases List.mem_cons.mp h with rfl | h
  · exact o__law_draw
  rcases List.mem_cons.mp h with rfl | h
  · exact o__law_pick
  rcases List.mem_cons.mp h with rfl | h
  · exact o__law_is_whole
  rcases List.mem_cons.mp h with rfl | h
  · exact o__law_pool
  rcases List.mem_cons.mp h with rfl | h
  · exact o__law_is_next
  rcases List.mem_cons.mp h with rfl | h
  · exact o__law_is_share
  rcases List.mem_cons.mp h with rfl | h
  · exact o_law
  cases h
def names0 : List PySem.Str := ["is_integer", "is_between", "is_count", "is_row", "is_word", "is_pool_value", "need_pool", "are_counts_like", "are_counts", "weights_of", "due_time", "is_ready", "turn_after", "with_one_more", "first_turns", "counts_at", "next_turn", "turns", "counts_after", "_law_dealt", "_law_draw", "_law_pick", "_law_is_whole", "_law_pool", "_law_is_next"]
def names1 : List PySem.Str := ["_law_is_share", "GateError", "BadNumber", "BadPool", "BadCounts", "MOST_WORD", "LETTERS", "MOST_POOL", "MOST_WEIGHT", "MOST_TURNS"]
def names : List PySem.Str := names0 ++ names1
def lawAt : Nat := 40
abbrev fa : List He.Fa := faOf tab gcs
abbrev fn : List He.DefD := Ev.fnOf tab
def fs : List PySem.Str := ["turn_after"]
end K18

set_option Elab.async false
set_option linter.all false
/-! K18m: turns by deadlines, plain. -/
namespace K18
abbrev Get (l : List Nat) (i : Nat) : Nat := l.getD i 0
/-- who may have a turn: c turns were given, s of all -/
abbrev Rdy (w c W s : Nat) : Prop := c * W / w ≤ s
/-- when the next turn is due -/
abbrev Due (w c W : Nat) : Nat := ((c + 1) * W + w - 1) / w
theorem rdy_iff {w c W s : Nat} (hw : 0 < w) : Rdy w c W s ↔ c * W < (s + 1) * w := by
  unfold Rdy
  rw [← Nat.lt_succ_iff, Nat.div_lt_iff_lt_mul hw]
theorem due_le {w c W d : Nat} (hw : 0 < w) : Due w c W ≤ d ↔ (c + 1) * W ≤ d * w := by
  unfold Due
  rw [← Nat.lt_succ_iff, Nat.div_lt_iff_lt_mul hw]
  have e : d.succ * w = d * w + w := Nat.succ_mul d w
  rw [e]
  generalize (c + 1) * W = a
  generalize d * w = b
  omega
/-- the turns that are due by d -/
def dem (W d : Nat) : List Nat → List Nat → Nat
  | w :: ws, c :: cs => (d * w / W - c) + dem W d ws cs
  | _, _ => 0
/-- what never fails: as many turns as are due by d can be given from s to d -/
def Fit (w c : List Nat) (W s : Nat) : Prop := ∀ d, s ≤ d → dem W d w c ≤ d - s
theorem floor_sum {W d : Nat} : ∀ w : List Nat, (w.map fun x => d * x / W).sum * W ≤ d * w.sum
  | [] => by simp
  | x :: w => by
    have := floor_sum (W := W) (d := d) w
    have h := Nat.div_mul_le_self (d * x) W
    simp only [List.map_cons, List.sum_cons, Nat.add_mul, Nat.mul_add]
    omega
theorem dem_zero {W d : Nat} : ∀ w : List Nat, dem W d w (w.map fun _ => 0) = (w.map fun x => d * x / W).sum
  | [] => rfl
  | x :: w => by simp [dem, dem_zero w]
theorem fit_zero {w : List Nat} {W : Nat} (hW : w.sum = W) (h0 : 0 < W) : Fit w (w.map fun _ => 0) W 0 := fun d _ => by
  rw [dem_zero, Nat.sub_zero]
  have := floor_sum (W := W) (d := d) w
  rw [hW] at this
  exact Nat.le_of_mul_le_mul_right this h0
/-- one by one -/
theorem dem_get {W d : Nat} : ∀ {w c : List Nat} {i : Nat}, i < w.length → i < c.length → d * Get w i / W - Get c i ≤ dem W d w c
  | [], _, i, h, _ => by simp at h
  | x :: w, [], i, _, h => by simp at h
  | x :: w, y :: c, 0, _, _ => by simp [dem, Get]
  | x :: w, y :: c, i + 1, h1, h2 => by
    have := dem_get (W := W) (d := d) (w := w) (c := c) (i := i) (by simpa using h1) (by simpa using h2)
    simp only [dem, Get, List.getD_cons_succ] at this ⊢
    omega
/-- one more turn for i -/
def inc (c : List Nat) (i : Nat) : List Nat := c.set i (Get c i + 1)
theorem inc_len {c : List Nat} {i : Nat} : (inc c i).length = c.length := by simp [inc]
theorem inc_sum : ∀ {c : List Nat} {i : Nat}, i < c.length → (inc c i).sum = c.sum + 1
  | [], i, h => by simp at h
  | x :: c, 0, _ => by simp [inc, Get]; omega
  | x :: c, i + 1, h => by
    have := inc_sum (c := c) (i := i) (by simpa using h)
    simp only [inc, Get, List.set_cons_succ, List.sum_cons, List.getD_cons_succ] at this ⊢
    omega
theorem inc_get {c : List Nat} {i j : Nat} (hi : i < c.length) : Get (inc c i) j = if j = i then Get c i + 1 else Get c j := by
  unfold inc Get
  by_cases h : j = i
  · subst h
    rw [if_pos rfl, List.getD_eq_getElem?_getD, List.getElem?_set_self hi]; rfl
  · rw [if_neg h, List.getD_eq_getElem?_getD, List.getElem?_set_ne (Ne.symm h), ← List.getD_eq_getElem?_getD]
theorem dem_inc {W d : Nat} : ∀ {w c : List Nat} {i : Nat}, i < w.length → i < c.length → dem W d w (inc c i) + (if Get c i < d * Get w i / W then 1 else 0) = dem W d w c
  | [], _, i, h, _ => by simp at h
  | x :: w, [], i, _, h => by simp at h
  | x :: w, y :: c, 0, _, _ => by
    simp only [inc, Get, List.set_cons_zero, List.getD_cons_zero, dem]
    split <;> omega
  | x :: w, y :: c, i + 1, h1, h2 => by
    have := dem_inc (W := W) (d := d) (w := w) (c := c) (i := i) (by simpa using h1) (by simpa using h2)
    simp only [inc, Get, List.set_cons_succ, List.getD_cons_succ, dem] at this ⊢
    omega
/-- the best turn: ready, due first, the lowest of those -/
structure Nxt (w c : List Nat) (W s i : Nat) : Prop where
  lt : i < w.length
  rdy : Rdy (Get w i) (Get c i) W s
  le : ∀ j, j < w.length → Rdy (Get w j) (Get c j) W s → Due (Get w i) (Get c i) W ≤ Due (Get w j) (Get c j) W ∧ (Due (Get w j) (Get c j) W = Due (Get w i) (Get c i) W → i ≤ j)
theorem Nxt.uniq {w c : List Nat} {W s i j : Nat} (a : Nxt w c W s i) (b : Nxt w c W s j) : i = j := by
  have h1 := a.le j b.lt b.rdy
  have h2 := b.le i a.lt a.rdy
  have e : Due (Get w j) (Get c j) W = Due (Get w i) (Get c i) W := by omega
  have := h1.2 e
  have := h2.2 e.symm
  omega
/-- one of the ready ones is there -/
theorem some_rdy {W s : Nat} (h0 : 0 < W) : ∀ {w c : List Nat}, w.length = c.length → (∀ x ∈ w, 0 < x) → (∀ i, i < w.length → ¬ Rdy (Get w i) (Get c i) W s) → (s + 1) * w.sum ≤ c.sum * W
  | [], [], _, _, _ => by simp
  | [], _ :: _, h, _, _ => by simp at h
  | _ :: _, [], h, _, _ => by simp at h
  | x :: w, y :: c, hl, hp, h => by
    have ih := some_rdy (W := W) (s := s) h0 (w := w) (c := c) (by simpa using hl) (fun z hz => hp z (List.mem_cons_of_mem _ hz)) (fun i hi => by simpa [Get] using h (i + 1) (by simpa using hi))
    have h1 : ¬ Rdy x y W s := by simpa [Get] using h 0 (by simp)
    rw [rdy_iff (hp x List.mem_cons_self)] at h1
    simp only [List.sum_cons, Nat.mul_add, Nat.add_mul] at ih ⊢
    simp only [Nat.add_mul] at h1
    omega
theorem sum_le_of {W k : Nat} : ∀ {w c : List Nat} {d : Nat}, w.length = c.length → (∀ i, i < w.length → (d * Get w i / W - Get c i) * W ≤ k * Get w i) → dem W d w c * W ≤ k * w.sum
  | [], [], d, _, _ => by simp [dem]
  | [], _ :: _, d, h, _ => by simp at h
  | _ :: _, [], d, h, _ => by simp at h
  | x :: w, y :: c, d, hl, h => by
    have ih := sum_le_of (W := W) (k := k) (w := w) (c := c) (d := d) (by simpa using hl) (fun i hi => by simpa [Get] using h (i + 1) (by simpa using hi))
    have h1 : (d * x / W - y) * W ≤ k * x := by simpa [Get] using h 0 (by simp)
    simp only [dem, List.sum_cons, Nat.mul_add, Nat.add_mul]
    omega
/-- the state that the turns keep -/
structure Good (w c : List Nat) (W : Nat) : Prop where
  len : c.length = w.length
  fit : Fit w c W c.sum
  up : ∀ i, i < w.length → Get c i * W < c.sum * Get w i + W
theorem get_pos {w : List Nat} (hp : ∀ x ∈ w, 0 < x) {i : Nat} (h : i < w.length) : 0 < Get w i := by
  unfold Get
  rw [List.getD_eq_getElem?_getD, List.getElem?_eq_getElem h]
  exact hp _ (List.getElem_mem h)
theorem Good.step {w c : List Nat} {W i : Nat} (hp : ∀ x ∈ w, 0 < x) (hW : w.sum = W) (h0 : 0 < W) (g : Good w c W) (n : Nxt w c W c.sum i) : Good w (inc c i) W := by
  have hic : i < c.length := by rw [g.len]; exact n.lt
  refine ⟨by rw [inc_len, g.len], ?_, fun j hj => ?_⟩
  · rw [inc_sum hic]
    intro d hd
    have e := dem_inc (W := W) (d := d) n.lt hic
    have hwi := get_pos hp n.lt
    by_cases c1 : Get c i < d * Get w i / W
    · rw [if_pos c1] at e
      have := g.fit d (by omega)
      omega
    · rw [if_neg c1, Nat.add_zero] at e
      rw [e]
      -- none of the ready ones is due by d
      have hd2 : ¬ Due (Get w i) (Get c i) W ≤ d := by
        rw [due_le hwi]
        intro z
        apply c1
        rw [Nat.lt_iff_add_one_le, Nat.le_div_iff_mul_le h0]
        exact z
      have key : dem W d w c * W ≤ (d - (c.sum + 1)) * w.sum := by
        refine sum_le_of g.len.symm fun j hj => ?_
        have hwj := get_pos hp hj
        by_cases r : Rdy (Get w j) (Get c j) W c.sum
        · have h1 := (n.le j hj r).1
          have h2 : ¬ Due (Get w j) (Get c j) W ≤ d := by omega
          rw [due_le hwj] at h2
          have h3 : d * Get w j / W ≤ Get c j := by
            rw [← Nat.lt_succ_iff, Nat.div_lt_iff_lt_mul h0]
            simpa using h2
          rw [Nat.sub_eq_zero_of_le h3]
          simp
        · rw [rdy_iff hwj] at r
          have h1 := Nat.div_mul_le_self (d * Get w j) W
          rw [Nat.sub_mul, Nat.sub_mul]
          have h2 : (c.sum + 1) * Get w j ≤ Get c j * W := by omega
          omega
      rw [hW] at key
      exact Nat.le_of_mul_le_mul_right key h0
  · rw [inc_sum hic, inc_get hic]
    by_cases e : j = i
    · subst e
      rw [if_pos rfl]
      have r := (rdy_iff (get_pos hp n.lt)).mp n.rdy
      rw [Nat.add_mul]
      omega
    · rw [if_neg e]
      have := g.up j hj
      rw [Nat.add_mul]
      omega
theorem zero_get (w : List Nat) (i : Nat) : Get (w.map fun _ => 0) i = 0 := by
  unfold Get
  rw [List.getD_eq_getElem?_getD, List.getElem?_map]
  cases w[i]? <;> rfl
theorem zero_sum (w : List Nat) : (w.map fun _ => 0).sum = 0 := by
  induction w with
  | nil => rfl
  | cons x w ih => simpa using ih
theorem good_zero {w : List Nat} {W : Nat} (hW : w.sum = W) (h0 : 0 < W) : Good w (w.map fun _ => 0) W :=
  ⟨by simp, by rw [zero_sum]; exact fit_zero hW h0, fun i hi => by rw [zero_get, zero_sum]; omega⟩
/-- what the law asks of the counts behind a turn -/
theorem Good.share {w c : List Nat} {W i : Nat} (h0 : 0 < W) (g : Good w c W) (hi : i < w.length) : c.sum * Get w i / W ≤ Get c i ∧ Get c i ≤ (c.sum * Get w i + W - 1) / W := by
  constructor
  · have h1 := g.fit c.sum (Nat.le_refl _)
    have h2 := dem_get (W := W) (d := c.sum) hi (by rw [g.len]; exact hi)
    omega
  · rw [Nat.le_div_iff_mul_le h0]
    have := g.up i hi
    omega
/-- what is due next is not late -/
theorem Good.late {w c : List Nat} {W i : Nat} (hp : ∀ x ∈ w, 0 < x) (h0 : 0 < W) (g : Good w c W) (hi : i < w.length) : c.sum + 1 ≤ Due (Get w i) (Get c i) W := by
  rw [← Nat.not_lt, Nat.lt_succ_iff, due_le (get_pos hp hi)]
  intro z
  have h1 := (g.share h0 hi).1
  have h2 : Get c i + 1 ≤ c.sum * Get w i / W := by
    rw [Nat.le_div_iff_mul_le h0]; exact z
  omega
theorem Good.rdy {w c : List Nat} {W : Nat} (hp : ∀ x ∈ w, 0 < x) (hW : w.sum = W) (h0 : 0 < W) (hl : c.length = w.length) : ∃ i, i < w.length ∧ Rdy (Get w i) (Get c i) W c.sum := by
  rcases Classical.em (∃ i, i < w.length ∧ Rdy (Get w i) (Get c i) W c.sum) with h | h
  · exact h
  · have := some_rdy (s := c.sum) h0 hl.symm hp fun i hi r => h ⟨i, hi, r⟩
    rw [hW, Nat.add_mul] at this
    omega
end K18

set_option Elab.async false
set_option linter.all false
/-! K18n: the turns as a function; their period. -/
namespace K18
/-- the first of the least by d -/
def mk (d : Nat → Nat) : Nat → List Nat → Nat
  | b, [] => b
  | b, n :: ns => if d n < d b then mk d n ns else mk d b ns
theorem mk_mem (d : Nat → Nat) : ∀ (l : List Nat) (b : Nat), mk d b l = b ∨ mk d b l ∈ l
  | [], b => .inl rfl
  | n :: l, b => by
    unfold mk
    split
    · rcases mk_mem d l n with h | h
      · exact .inr (by rw [h]; exact List.mem_cons_self)
      · exact .inr (List.mem_cons_of_mem _ h)
    · rcases mk_mem d l b with h | h
      · exact .inl h
      · exact .inr (List.mem_cons_of_mem _ h)
theorem mk_best (d : Nat → Nat) : ∀ (l : List Nat) (b : Nat), (b :: l).Pairwise (· < ·) → ∀ j ∈ b :: l, d (mk d b l) ≤ d j ∧ (d j = d (mk d b l) → mk d b l ≤ j)
  | [], b, _, j, hj => by
    have e := List.mem_singleton.mp hj
    subst e
    exact ⟨Nat.le_refl _, fun _ => Nat.le_refl _⟩
  | n :: l, b, hp, j, hj => by
    have h1 := List.pairwise_cons.mp hp
    have h2 := List.pairwise_cons.mp h1.2
    unfold mk
    split
    · rename_i c
      have ih := mk_best d l n h1.2
      rcases List.mem_cons.mp hj with e | hj
      · subst e
        have := (ih n List.mem_cons_self).1
        exact ⟨by omega, fun z => by omega⟩
      · exact ih j hj
    · rename_i c
      have hp' : (b :: l).Pairwise (· < ·) := List.pairwise_cons.mpr ⟨fun x hx => h1.1 x (List.mem_cons_of_mem _ hx), h2.2⟩
      have ih := mk_best d l b hp'
      rcases List.mem_cons.mp hj with e | hj
      · subst e
        exact ih j List.mem_cons_self
      · rcases List.mem_cons.mp hj with e | hj
        · subst e
          have a1 := (ih b List.mem_cons_self)
          refine ⟨by omega, fun z => ?_⟩
          have := a1.2 (by omega)
          have := h1.1 j List.mem_cons_self
          omega
        · exact ih j (List.mem_cons_of_mem _ hj)
def ready (w c : List Nat) (W s : Nat) : List Nat := (List.range w.length).filter fun i => decide (Rdy (Get w i) (Get c i) W s)
def nx (w c : List Nat) (W s : Nat) : Nat := mk (fun i => Due (Get w i) (Get c i) W) ((ready w c W s).headD 0) (ready w c W s).tail
theorem ready_up (w c : List Nat) (W s : Nat) : (ready w c W s).Pairwise (· < ·) := List.Pairwise.filter _ List.pairwise_lt_range
theorem mem_ready {w c : List Nat} {W s i : Nat} : i ∈ ready w c W s ↔ i < w.length ∧ Rdy (Get w i) (Get c i) W s := by
  unfold ready
  rw [List.mem_filter, List.mem_range, decide_eq_true_eq]
theorem nx_spec {w c : List Nat} {W s : Nat} (h : ∃ i, i < w.length ∧ Rdy (Get w i) (Get c i) W s) : Nxt w c W s (nx w c W s) := by
  obtain ⟨i, hi⟩ := h
  have hm := mem_ready.mpr hi
  cases q : ready w c W s with
  | nil => rw [q] at hm; cases hm
  | cons a l =>
    have up := ready_up w c W s
    rw [q] at up
    have e : nx w c W s = mk (fun i => Due (Get w i) (Get c i) W) a l := by unfold nx; rw [q]; rfl
    have m : mk (fun i => Due (Get w i) (Get c i) W) a l ∈ ready w c W s := by
      rw [q]
      rcases mk_mem (fun i => Due (Get w i) (Get c i) W) l a with h | h
      · rw [h]; exact List.mem_cons_self
      · exact List.mem_cons_of_mem _ h
    rw [e]
    obtain ⟨m1, m2⟩ := mem_ready.mp m
    exact ⟨m1, m2, fun j hj r => mk_best (fun i => Due (Get w i) (Get c i) W) l a up j (by rw [← q]; exact mem_ready.mpr ⟨hj, r⟩)⟩
/-- the counts behind m turns -/
def cnt (w : List Nat) (W : Nat) : Nat → List Nat
  | 0 => w.map fun _ => 0
  | m + 1 => inc (cnt w W m) (nx w (cnt w W m) W m)
def tr (w : List Nat) (W m : Nat) : Nat := nx w (cnt w W m) W m
section
variable {w : List Nat} {W : Nat} (hp : ∀ x ∈ w, 0 < x) (hW : w.sum = W) (h0 : 0 < W)
include hp hW h0
theorem cnt_good : ∀ m, Good w (cnt w W m) W ∧ (cnt w W m).sum = m
  | 0 => ⟨good_zero hW h0, zero_sum w⟩
  | m + 1 => by
    obtain ⟨g, e⟩ := cnt_good m
    have n : Nxt w (cnt w W m) W (cnt w W m).sum (nx w (cnt w W m) W (cnt w W m).sum) := nx_spec (Good.rdy hp hW h0 g.len)
    rw [e] at n
    refine ⟨?_, ?_⟩
    · exact g.step hp hW h0 (by rw [e]; exact n)
    · show (inc _ _).sum = _
      rw [inc_sum (by rw [g.len]; exact n.lt), e]
theorem tr_nxt (m : Nat) : Nxt w (cnt w W m) W m (tr w W m) := by
  obtain ⟨g, e⟩ := cnt_good hp hW h0 m
  have := Good.rdy hp hW h0 g.len
  rw [e] at this
  exact nx_spec this
end
/-! the period -/
def add (c v : List Nat) : List Nat := c.zipWith (· + ·) v
theorem add_get {c v : List Nat} {i : Nat} (h : c.length = v.length) : Get (add c v) i = Get c i + Get v i := by
  unfold Get add
  simp only [List.getD_eq_getElem?_getD, List.getElem?_zipWith]
  cases q : c[i]? with
  | none =>
    have : v[i]? = none := by
      rw [List.getElem?_eq_none_iff] at q ⊢
      omega
    rw [this]; rfl
  | some x =>
    have hi : i < c.length := (List.getElem?_eq_some_iff.mp q).1
    rw [List.getElem?_eq_getElem (by omega : i < v.length)]
    rfl
theorem add_len {c v : List Nat} (h : c.length = v.length) : (add c v).length = v.length := by simp [add, h]
theorem rdy_shift {w c W s : Nat} (hw : 0 < w) : Rdy w (c + w) W (s + W) ↔ Rdy w c W s := by
  unfold Rdy
  rw [Nat.add_mul, Nat.mul_comm w W, Nat.add_mul_div_right _ _ hw]
  omega
theorem due_shift {w c W : Nat} (hw : 0 < w) : Due w (c + w) W = Due w c W + W := by
  unfold Due
  have e : (c + w + 1) * W + w - 1 = ((c + 1) * W + w - 1) + W * w := by
    have : (c + w + 1) * W = (c + 1) * W + W * w := by
      rw [show c + w + 1 = (c + 1) + w by omega, Nat.add_mul, Nat.mul_comm w W]
    rw [this]
    generalize (c + 1) * W = a
    generalize W * w = b
    omega
  rw [e, Nat.add_mul_div_right _ _ hw]
theorem nxt_shift {w c : List Nat} {W s i : Nat} (hp : ∀ x ∈ w, 0 < x) (hl : c.length = w.length) (n : Nxt w c W s i) : Nxt w (add c w) W (s + W) i := by
  refine ⟨n.lt, ?_, fun j hj r => ?_⟩
  · rw [add_get hl, rdy_shift (get_pos hp n.lt)]
    exact n.rdy
  · rw [add_get hl] at r ⊢
    rw [rdy_shift (get_pos hp hj)] at r
    rw [add_get hl, due_shift (get_pos hp n.lt), due_shift (get_pos hp hj)]
    obtain ⟨h1, h2⟩ := n.le j hj r
    exact ⟨by omega, fun z => h2 (by omega)⟩
theorem list_ext {a b : List Nat} (hl : a.length = b.length) (h : ∀ i, i < a.length → Get a i = Get b i) : a = b := by
  refine List.ext_getElem hl fun i h1 h2 => ?_
  have := h i h1
  unfold Get at this
  rw [List.getD_eq_getElem?_getD, List.getD_eq_getElem?_getD, List.getElem?_eq_getElem h1, List.getElem?_eq_getElem h2] at this
  exact this
theorem inc_add {c v : List Nat} {i : Nat} (hl : c.length = v.length) (hi : i < c.length) : inc (add c v) i = add (inc c i) v := by
  refine list_ext (by rw [inc_len, add_len hl, add_len (by rw [inc_len, hl])]) fun j hj => ?_
  rw [inc_get (by rw [add_len hl]; omega), add_get hl, add_get hl, add_get (by rw [inc_len, hl]), inc_get hi]
  split
  · rename_i e; subst e; omega
  · rfl
section
variable {w : List Nat} {W : Nat} (hp : ∀ x ∈ w, 0 < x) (hW : w.sum = W) (h0 : 0 < W)
include hp hW h0
theorem cnt_len (m : Nat) : (cnt w W m).length = w.length := (cnt_good hp hW h0 m).1.len
theorem cnt_W : cnt w W W = w := by
  obtain ⟨g, e⟩ := cnt_good hp hW h0 W
  refine list_ext g.len fun i hi => ?_
  have hi' : i < w.length := by rw [← g.len]; exact hi
  obtain ⟨a, b⟩ := g.share h0 hi'
  rw [e, Nat.mul_div_cancel_left _ h0] at a
  rw [e] at b
  have e2 : (W * Get w i + W - 1) / W = Get w i := by
    have h := Nat.mul_add_div h0 (Get w i) (W - 1)
    rw [Nat.div_eq_of_lt (by omega : W - 1 < W), Nat.add_zero] at h
    rw [show W * Get w i + W - 1 = W * Get w i + (W - 1) by omega]
    exact h
  rw [e2] at b
  omega
theorem cnt_shift : ∀ m, cnt w W (m + W) = add (cnt w W m) w
  | 0 => by
    rw [Nat.zero_add, cnt_W hp hW h0]
    refine list_ext (by simp [cnt, add]) fun i hi => ?_
    rw [add_get (by simp [cnt]), show cnt w W 0 = w.map fun _ => 0 from rfl, zero_get, Nat.zero_add]
  | m + 1 => by
    have ih := cnt_shift m
    have l := cnt_len hp hW h0 m
    have n1 := tr_nxt hp hW h0 m
    have n2 := tr_nxt hp hW h0 (m + W)
    rw [ih] at n2
    have e := (nxt_shift hp l n1).uniq n2
    rw [show m + 1 + W = (m + W) + 1 by omega]
    show inc (cnt w W (m + W)) (tr w W (m + W)) = _
    rw [← e, ih, inc_add l (by rw [l]; exact n1.lt)]
    rfl
/-- counts_at's way -/
theorem cnt_div (m : Nat) : cnt w W m = (w.zip (cnt w W (m % W))).map fun p => m / W * p.1 + p.2 := by
  have key : ∀ r q, cnt w W (r + q * W) = (w.zip (cnt w W r)).map fun p => q * p.1 + p.2 := by
    intro r q
    have l := cnt_len hp hW h0 r
    induction q with
    | zero =>
      rw [Nat.zero_mul, Nat.add_zero]
      refine List.ext_getElem (by simp [l]) fun i h1 h2 => by simp
    | succ q ih =>
      rw [show r + (q + 1) * W = (r + q * W) + W by rw [Nat.add_mul]; omega, cnt_shift hp hW h0, ih]
      refine List.ext_getElem (by simp [l, add]) fun i h1 h2 => ?_
      simp [add, Nat.add_mul]
      omega
  have := key (m % W) (m / W)
  rwa [show m % W + m / W * W = m by rw [Nat.mul_comm]; exact Nat.mod_add_div m W] at this
end
end K18

set_option Elab.async false
set_option linter.all false
set_option maxRecDepth 100000
set_option maxHeartbeats 4000000
/-! K18p: draws. -/
namespace K18
open PySem L2 Ev
def Dk (i j : Nat) (M : Sto) : Prop := i ≠ j ∧ ∃ (m d : Int) (ns : List Int), M[i]? = some (.dct [(.inr "left", .ref j), (.inr "mixed", .int m), (.inr "draws", .int d)]) ∧ M[j]? = some (.lst (ns.map .int)) ∧ ns.length ≤ 64
theorem draw_ok (n : Nat) {i j : Nat} {M : Sto} (h : Dk i j M) {many : Int} (h1 : 1 ≤ many) (h2 : many < 1073741824) :
    ∃ r M', callN T (n + 1) "_law_draw" [.ref i, .int many] M = .ok (.int r) M' ∧ 0 ≤ r ∧ r < many ∧ Dk i j M' ∧ Keep [i, j] M M' := by
  obtain ⟨hij, m, d, ns, hi, hj, hn⟩ := h
  have li := sto_lt hi
  have lj := sto_lt hj
  have mp : (many = 0) = False := eq_false (by omega)
  obtain ⟨mx, hmx⟩ : ∃ mx, mx = (if many > 2 then many else 2) := ⟨_, rfl⟩
  have x1 : (mx = 0) = False := eq_false (by rw [hmx]; split <;> omega)
  have x2 : (-1073741824 < mx) = True := eq_true (by rw [hmx]; split <;> omega)
  have x3 : (mx < 1073741824) = True := eq_true (by rw [hmx]; split <;> omega)
  rw [e__law_draw]
  unfold c__law_draw
  rcases List.eq_nil_or_concat ns with rfl | ⟨ns, c, rfl⟩
  · simp only [↓evE.eq_1, ↓evE.eq_2, ↓evE.eq_3, ↓evE.eq_4, ↓evE.eq_5, ↓evE.eq_6, ↓evE.eq_7, ↓evE.eq_8, ↓evE.eq_9, ↓evE.eq_10, ↓evE.eq_11, ↓evE.eq_12, ↓evE.eq_13, ↓evE.eq_14, ↓evE.eq_15, ↓evE.eq_16, ↓evE.eq_17, ↓evE.eq_18, ↓evE.eq_19, ↓evE.eq_20, ↓evE.eq_21, ↓evE.eq_22, ↓evE.eq_23, ↓evE.eq_24, ↓evE.eq_25, ↓evE.eq_26, ↓evE.eq_27, ↓evE.eq_28, ↓evE.eq_29, ↓evE.eq_30, ↓evE.eq_31, ↓evE.eq_32, ↓evE.eq_33, ↓evE.eq_34, ↓evE.eq_35, ↓evE.eq_36, ↓evE.eq_37, ↓evE.eq_38, ↓evS.eq_1, ↓evS_seq, ↓evS.eq_3, ↓evS.eq_4, ↓evS.eq_5, ↓evS.eq_6, ↓evS.eq_7, ↓evS.eq_8, ↓evS_ite, ↓iteS, ↓evS.eq_11, ↓evS.eq_12, ↓evS.eq_13, ↓evS.eq_14, ↓evS.eq_15, ↓evS.eq_16, ↓evS.eq_17, ↓evS_for, ↓evA.eq_1, ↓evA.eq_2, ↓evT.eq_1, ↓evT.eq_2, ↓evO.eq_1, ↓evO.eq_2, ↓evI.eq_1, ↓evI.eq_2, ↓evI.eq_3, ↓evI.eq_4, ↓evI.eq_5, ↓evF.eq_1, ↓evF.eq_2, ↓m_bind, ↓m_then, ↓m_opt, SRes.bind_nx, SRes.bind_rt, SRes.bind_bk, SRes.bind_ct, SRes.bind_ex, SRes.bind_bad, at_call, at_glo, at_fuel, SRes.back, List.getElem?_cons_zero, List.getElem?_cons_succ, List.set_cons_zero, List.set_cons_succ, asgT, asgTs, cmpV, truV, binV, bltV, tyN, tyLe, subV, Option.map_some, Option.map_none, List.any_cons, List.any_nil, if_true, if_false, ite_true, ite_false, String.reduceBEq, Nat.reduceAdd, Bool.or_false, Bool.false_or, Bool.or_true, Bool.true_or, Bool.and_true, Bool.true_and, Bool.and_false, Bool.false_and, Bool.not_true, Bool.not_false, beq_self_eq_true, decide_true, decide_false, reduceCtorEq, Bool.false_eq_true, Ev.keyOf, dctKeys, List.length_cons, List.length_nil, List.zip_cons_cons, List.zip_nil_left, List.zip_nil_right, List.foldl_cons, List.foldl_nil, methV, setV, isL, permL_cons, permL_nil, List.map_cons, List.map_nil, valP_cons, valP_nil, key_str, key_int, ofString_eq, String.reduceEq, putP, sizeLine_eq, Nat.reduceLT, Nat.reduceLeDiff, sto_self, mulOk, powOk, divOk, Int.reducePow, Nat.reducePow, Int.reduceNeg, Int.reduceLT, Int.reduceLE, natAbs64, natAbs30, Int.reduceToNat, Int.reduceEq, Int.reduceAdd, Int.reduceSub, Int.reduceMul, ne_eq, not_false_eq_true, Int.reduceNe, Ev.alloc, Ev.eq_ii, Ev.eq_ss, Ev.eq_bb, Ev.eq_nn, Ev.eq_ni, Ev.eq_in, Ev.eq_ns, Ev.eq_sn, Ev.eq_nb, Ev.eq_bn, Ev.eq_is, Ev.eq_si, and_self, true_and, and_true, fmod_lt64, fmod_gt64, atI_0, atI_1, atI_2, atI_3, atI_4, atI_5, atI_6, atI_7, atI_8, atI_9, itemsV, smV, fmtV, lenSetV, seqOf, lstOf, slcV, revV, srcOf, optI, List.nil_append, List.cons_append, sto_new, intsP, sortI, insI, compL, compG, wipeP, boolsP, List.all_cons, List.all_nil, id_eq, keep_nil, maxI, minI, intsP, cutf_1, cutf_2, cutf_3, cutf_4, cutt_1, cutt_2, cutt_3, cutt_4, List.drop_succ_cons, List.drop_zero, List.take_succ_cons, List.take_zero, Int.cast_ofNat_Int, false_and, and_false, or_self, or_false, false_or, true_or, or_true, hi, hj, sto_ne hij, sto_ne hij.symm, li, lj, eq_empty2 _ [], sto_apps, List.length_set, List.isEmpty_nil, mp]
    refine ⟨_, _, rfl, (fmod_ok (by omega)).1, (fmod_ok (by omega)).2, ⟨hij, m, d + 1, [], ?_, ?_, by simp⟩, (Keep.set (by simp)).trans .app⟩
    · rw [sto_apps _ (by simpa using li), sto_self, hi]; rfl
    · rw [sto_apps _ (by simpa using lj), sto_ne hij, hj]
  · have ee : (ns ++ [c]).isEmpty = false := by simp
    have ln : (List.map PV.int ns).length < 16777216 := by simp at hn ⊢; omega
    by_cases hc : 1000000000000000000 ≤ c
    · simp only [↓evE.eq_1, ↓evE.eq_2, ↓evE.eq_3, ↓evE.eq_4, ↓evE.eq_5, ↓evE.eq_6, ↓evE.eq_7, ↓evE.eq_8, ↓evE.eq_9, ↓evE.eq_10, ↓evE.eq_11, ↓evE.eq_12, ↓evE.eq_13, ↓evE.eq_14, ↓evE.eq_15, ↓evE.eq_16, ↓evE.eq_17, ↓evE.eq_18, ↓evE.eq_19, ↓evE.eq_20, ↓evE.eq_21, ↓evE.eq_22, ↓evE.eq_23, ↓evE.eq_24, ↓evE.eq_25, ↓evE.eq_26, ↓evE.eq_27, ↓evE.eq_28, ↓evE.eq_29, ↓evE.eq_30, ↓evE.eq_31, ↓evE.eq_32, ↓evE.eq_33, ↓evE.eq_34, ↓evE.eq_35, ↓evE.eq_36, ↓evE.eq_37, ↓evE.eq_38, ↓evS.eq_1, ↓evS_seq, ↓evS.eq_3, ↓evS.eq_4, ↓evS.eq_5, ↓evS.eq_6, ↓evS.eq_7, ↓evS.eq_8, ↓evS_ite, ↓iteS, ↓evS.eq_11, ↓evS.eq_12, ↓evS.eq_13, ↓evS.eq_14, ↓evS.eq_15, ↓evS.eq_16, ↓evS.eq_17, ↓evS_for, ↓evA.eq_1, ↓evA.eq_2, ↓evT.eq_1, ↓evT.eq_2, ↓evO.eq_1, ↓evO.eq_2, ↓evI.eq_1, ↓evI.eq_2, ↓evI.eq_3, ↓evI.eq_4, ↓evI.eq_5, ↓evF.eq_1, ↓evF.eq_2, ↓m_bind, ↓m_then, ↓m_opt, SRes.bind_nx, SRes.bind_rt, SRes.bind_bk, SRes.bind_ct, SRes.bind_ex, SRes.bind_bad, at_call, at_glo, at_fuel, SRes.back, List.getElem?_cons_zero, List.getElem?_cons_succ, List.set_cons_zero, List.set_cons_succ, asgT, asgTs, cmpV, truV, binV, bltV, tyN, tyLe, subV, Option.map_some, Option.map_none, List.any_cons, List.any_nil, if_true, if_false, ite_true, ite_false, String.reduceBEq, Nat.reduceAdd, Bool.or_false, Bool.false_or, Bool.or_true, Bool.true_or, Bool.and_true, Bool.true_and, Bool.and_false, Bool.false_and, Bool.not_true, Bool.not_false, beq_self_eq_true, decide_true, decide_false, reduceCtorEq, Bool.false_eq_true, Ev.keyOf, dctKeys, List.length_cons, List.length_nil, List.zip_cons_cons, List.zip_nil_left, List.zip_nil_right, List.foldl_cons, List.foldl_nil, methV, setV, isL, permL_cons, permL_nil, List.map_cons, List.map_nil, valP_cons, valP_nil, key_str, key_int, ofString_eq, String.reduceEq, putP, sizeLine_eq, Nat.reduceLT, Nat.reduceLeDiff, sto_self, mulOk, powOk, divOk, Int.reducePow, Nat.reducePow, Int.reduceNeg, Int.reduceLT, Int.reduceLE, natAbs64, natAbs30, Int.reduceToNat, Int.reduceEq, Int.reduceAdd, Int.reduceSub, Int.reduceMul, ne_eq, not_false_eq_true, Int.reduceNe, Ev.alloc, Ev.eq_ii, Ev.eq_ss, Ev.eq_bb, Ev.eq_nn, Ev.eq_ni, Ev.eq_in, Ev.eq_ns, Ev.eq_sn, Ev.eq_nb, Ev.eq_bn, Ev.eq_is, Ev.eq_si, and_self, true_and, and_true, fmod_lt64, fmod_gt64, atI_0, atI_1, atI_2, atI_3, atI_4, atI_5, atI_6, atI_7, atI_8, atI_9, itemsV, smV, fmtV, lenSetV, seqOf, lstOf, slcV, revV, srcOf, optI, List.nil_append, List.cons_append, sto_new, intsP, sortI, insI, compL, compG, wipeP, boolsP, List.all_cons, List.all_nil, id_eq, keep_nil, maxI, minI, intsP, cutf_1, cutf_2, cutf_3, cutf_4, cutt_1, cutt_2, cutt_3, cutt_4, List.drop_succ_cons, List.drop_zero, List.take_succ_cons, List.take_zero, Int.cast_ofNat_Int, false_and, and_false, or_self, or_false, false_or, true_or, or_true, hi, hj, sto_ne hij, sto_ne hij.symm, li, lj, eq_empty2 _ (ns ++ [c]), sto_apps, List.length_set, ee, List.concat_eq_append, ints_last, ints_drop, hc, mp, ← hmx, x1, x2, x3, ln]
      refine ⟨_, _, rfl, (fmod_ok (by omega)).1, (fmod_ok (by omega)).2, ⟨hij, m, d + 1, ns ++ [c.fdiv mx], ?_, ?_, by simpa using hn⟩, (Keep.set (by simp)).trans (Keep.app.trans ((Keep.set (by simp)).trans (Keep.set (by simp))))⟩
      · rw [sto_ne hij.symm, sto_ne hij.symm, sto_apps _ (by simpa using li), sto_self, hi]; rfl
      · rw [sto_self, sto_self, sto_apps _ (by simpa using lj), sto_ne hij, hj]; simp
    · simp only [↓evE.eq_1, ↓evE.eq_2, ↓evE.eq_3, ↓evE.eq_4, ↓evE.eq_5, ↓evE.eq_6, ↓evE.eq_7, ↓evE.eq_8, ↓evE.eq_9, ↓evE.eq_10, ↓evE.eq_11, ↓evE.eq_12, ↓evE.eq_13, ↓evE.eq_14, ↓evE.eq_15, ↓evE.eq_16, ↓evE.eq_17, ↓evE.eq_18, ↓evE.eq_19, ↓evE.eq_20, ↓evE.eq_21, ↓evE.eq_22, ↓evE.eq_23, ↓evE.eq_24, ↓evE.eq_25, ↓evE.eq_26, ↓evE.eq_27, ↓evE.eq_28, ↓evE.eq_29, ↓evE.eq_30, ↓evE.eq_31, ↓evE.eq_32, ↓evE.eq_33, ↓evE.eq_34, ↓evE.eq_35, ↓evE.eq_36, ↓evE.eq_37, ↓evE.eq_38, ↓evS.eq_1, ↓evS_seq, ↓evS.eq_3, ↓evS.eq_4, ↓evS.eq_5, ↓evS.eq_6, ↓evS.eq_7, ↓evS.eq_8, ↓evS_ite, ↓iteS, ↓evS.eq_11, ↓evS.eq_12, ↓evS.eq_13, ↓evS.eq_14, ↓evS.eq_15, ↓evS.eq_16, ↓evS.eq_17, ↓evS_for, ↓evA.eq_1, ↓evA.eq_2, ↓evT.eq_1, ↓evT.eq_2, ↓evO.eq_1, ↓evO.eq_2, ↓evI.eq_1, ↓evI.eq_2, ↓evI.eq_3, ↓evI.eq_4, ↓evI.eq_5, ↓evF.eq_1, ↓evF.eq_2, ↓m_bind, ↓m_then, ↓m_opt, SRes.bind_nx, SRes.bind_rt, SRes.bind_bk, SRes.bind_ct, SRes.bind_ex, SRes.bind_bad, at_call, at_glo, at_fuel, SRes.back, List.getElem?_cons_zero, List.getElem?_cons_succ, List.set_cons_zero, List.set_cons_succ, asgT, asgTs, cmpV, truV, binV, bltV, tyN, tyLe, subV, Option.map_some, Option.map_none, List.any_cons, List.any_nil, if_true, if_false, ite_true, ite_false, String.reduceBEq, Nat.reduceAdd, Bool.or_false, Bool.false_or, Bool.or_true, Bool.true_or, Bool.and_true, Bool.true_and, Bool.and_false, Bool.false_and, Bool.not_true, Bool.not_false, beq_self_eq_true, decide_true, decide_false, reduceCtorEq, Bool.false_eq_true, Ev.keyOf, dctKeys, List.length_cons, List.length_nil, List.zip_cons_cons, List.zip_nil_left, List.zip_nil_right, List.foldl_cons, List.foldl_nil, methV, setV, isL, permL_cons, permL_nil, List.map_cons, List.map_nil, valP_cons, valP_nil, key_str, key_int, ofString_eq, String.reduceEq, putP, sizeLine_eq, Nat.reduceLT, Nat.reduceLeDiff, sto_self, mulOk, powOk, divOk, Int.reducePow, Nat.reducePow, Int.reduceNeg, Int.reduceLT, Int.reduceLE, natAbs64, natAbs30, Int.reduceToNat, Int.reduceEq, Int.reduceAdd, Int.reduceSub, Int.reduceMul, ne_eq, not_false_eq_true, Int.reduceNe, Ev.alloc, Ev.eq_ii, Ev.eq_ss, Ev.eq_bb, Ev.eq_nn, Ev.eq_ni, Ev.eq_in, Ev.eq_ns, Ev.eq_sn, Ev.eq_nb, Ev.eq_bn, Ev.eq_is, Ev.eq_si, and_self, true_and, and_true, fmod_lt64, fmod_gt64, atI_0, atI_1, atI_2, atI_3, atI_4, atI_5, atI_6, atI_7, atI_8, atI_9, itemsV, smV, fmtV, lenSetV, seqOf, lstOf, slcV, revV, srcOf, optI, List.nil_append, List.cons_append, sto_new, intsP, sortI, insI, compL, compG, wipeP, boolsP, List.all_cons, List.all_nil, id_eq, keep_nil, maxI, minI, intsP, cutf_1, cutf_2, cutf_3, cutf_4, cutt_1, cutt_2, cutt_3, cutt_4, List.drop_succ_cons, List.drop_zero, List.take_succ_cons, List.take_zero, Int.cast_ofNat_Int, false_and, and_false, or_self, or_false, false_or, true_or, or_true, hi, hj, sto_ne hij, sto_ne hij.symm, li, lj, eq_empty2 _ (ns ++ [c]), sto_apps, List.length_set, ee, List.concat_eq_append, ints_last, ints_drop, hc, mp]
      refine ⟨_, _, rfl, (fmod_ok (by omega)).1, (fmod_ok (by omega)).2, ⟨hij, m, d + 1, ns, ?_, ?_, by simp at hn; omega⟩, (Keep.set (by simp)).trans (Keep.app.trans (Keep.set (by simp)))⟩
      · rw [sto_ne hij.symm, sto_apps _ (by simpa using li), sto_self, hi]; rfl
      · rw [sto_self, sto_apps _ (by simpa using lj), sto_ne hij, hj]; rfl
theorem pick_ok (n : Nat) {i j k : Nat} {M : Sto} {xs : List PV} (h : Dk i j M) (hx : M[k]? = some (.lst xs)) (hj : k ≠ j) (h0 : 0 < xs.length) (h2 : xs.length < 1073741824) :
    ∃ r M', callN T (n + 2) "_law_pick" [.ref i, .ref k] M = .ok r M' ∧ r ∈ xs ∧ Dk i j M' ∧ Keep [i, j] M M' := by
  have hi : k ≠ i := by
    rintro rfl
    obtain ⟨_, _, _, _, e, _⟩ := h
    rw [hx] at e; cases e
  obtain ⟨r, M', e, h1, h3, d, kp⟩ := draw_ok n (many := xs.length) h (by omega) (by omega)
  obtain ⟨x, xm, _, xe⟩ := atI_in xs h1 h3
  rw [e__law_pick]
  unfold c__law_pick
  simp only [↓evE.eq_1, ↓evE.eq_2, ↓evE.eq_3, ↓evE.eq_4, ↓evE.eq_5, ↓evE.eq_6, ↓evE.eq_7, ↓evE.eq_8, ↓evE.eq_9, ↓evE.eq_10, ↓evE.eq_11, ↓evE.eq_12, ↓evE.eq_13, ↓evE.eq_14, ↓evE.eq_15, ↓evE.eq_16, ↓evE.eq_17, ↓evE.eq_18, ↓evE.eq_19, ↓evE.eq_20, ↓evE.eq_21, ↓evE.eq_22, ↓evE.eq_23, ↓evE.eq_24, ↓evE.eq_25, ↓evE.eq_26, ↓evE.eq_27, ↓evE.eq_28, ↓evE.eq_29, ↓evE.eq_30, ↓evE.eq_31, ↓evE.eq_32, ↓evE.eq_33, ↓evE.eq_34, ↓evE.eq_35, ↓evE.eq_36, ↓evE.eq_37, ↓evE.eq_38, ↓evS.eq_1, ↓evS_seq, ↓evS.eq_3, ↓evS.eq_4, ↓evS.eq_5, ↓evS.eq_6, ↓evS.eq_7, ↓evS.eq_8, ↓evS_ite, ↓iteS, ↓evS.eq_11, ↓evS.eq_12, ↓evS.eq_13, ↓evS.eq_14, ↓evS.eq_15, ↓evS.eq_16, ↓evS.eq_17, ↓evS_for, ↓evA.eq_1, ↓evA.eq_2, ↓evT.eq_1, ↓evT.eq_2, ↓evO.eq_1, ↓evO.eq_2, ↓evI.eq_1, ↓evI.eq_2, ↓evI.eq_3, ↓evI.eq_4, ↓evI.eq_5, ↓evF.eq_1, ↓evF.eq_2, ↓m_bind, ↓m_then, ↓m_opt, SRes.bind_nx, SRes.bind_rt, SRes.bind_bk, SRes.bind_ct, SRes.bind_ex, SRes.bind_bad, at_call, at_glo, at_fuel, SRes.back, List.getElem?_cons_zero, List.getElem?_cons_succ, List.set_cons_zero, List.set_cons_succ, asgT, asgTs, cmpV, truV, binV, bltV, tyN, tyLe, subV, Option.map_some, Option.map_none, List.any_cons, List.any_nil, if_true, if_false, ite_true, ite_false, String.reduceBEq, Nat.reduceAdd, Bool.or_false, Bool.false_or, Bool.or_true, Bool.true_or, Bool.and_true, Bool.true_and, Bool.and_false, Bool.false_and, Bool.not_true, Bool.not_false, beq_self_eq_true, decide_true, decide_false, reduceCtorEq, Bool.false_eq_true, Ev.keyOf, dctKeys, List.length_cons, List.length_nil, List.zip_cons_cons, List.zip_nil_left, List.zip_nil_right, List.foldl_cons, List.foldl_nil, methV, setV, isL, permL_cons, permL_nil, List.map_cons, List.map_nil, valP_cons, valP_nil, key_str, key_int, ofString_eq, String.reduceEq, putP, sizeLine_eq, Nat.reduceLT, Nat.reduceLeDiff, sto_self, mulOk, powOk, divOk, Int.reducePow, Nat.reducePow, Int.reduceNeg, Int.reduceLT, Int.reduceLE, natAbs64, natAbs30, Int.reduceToNat, Int.reduceEq, Int.reduceAdd, Int.reduceSub, Int.reduceMul, ne_eq, not_false_eq_true, Int.reduceNe, Ev.alloc, Ev.eq_ii, Ev.eq_ss, Ev.eq_bb, Ev.eq_nn, Ev.eq_ni, Ev.eq_in, Ev.eq_ns, Ev.eq_sn, Ev.eq_nb, Ev.eq_bn, Ev.eq_is, Ev.eq_si, and_self, true_and, and_true, fmod_lt64, fmod_gt64, atI_0, atI_1, atI_2, atI_3, atI_4, atI_5, atI_6, atI_7, atI_8, atI_9, itemsV, smV, fmtV, lenSetV, seqOf, lstOf, slcV, revV, srcOf, optI, List.nil_append, List.cons_append, sto_new, intsP, sortI, insI, compL, compG, wipeP, boolsP, List.all_cons, List.all_nil, id_eq, keep_nil, maxI, minI, intsP, cutf_1, cutf_2, cutf_3, cutf_4, cutt_1, cutt_2, cutt_3, cutt_4, List.drop_succ_cons, List.drop_zero, List.take_succ_cons, List.take_zero, Int.cast_ofNat_Int, false_and, and_false, or_self, or_false, false_or, true_or, or_true, hx, e, kp.get hx (by simp [hi, hj]), xe]
  exact ⟨x, M', rfl, xm, d, kp⟩
theorem deck_ok (n : Nat) (M : Sto) (ns : List Int) (hn : ns.length ≤ 63) : ∃ i j M', callN T (n + 1) "_law_dealt" [.rol (ns.map .int)] M = .ok (.ref i) M' ∧ Dk i j M' ∧ M.length ≤ i ∧ M.length ≤ j ∧ Keep [] M M' := by
  rw [e__law_dealt]
  unfold c__law_dealt
  have hc : ∀ k : Int, k = 63 → cutP (ns.map .int) none (some k) = ns.map .int := fun k e => by subst e; exact cut_all (k := 63) (by simpa using hn)
  simp only [↓evE.eq_1, ↓evE.eq_2, ↓evE.eq_3, ↓evE.eq_4, ↓evE.eq_5, ↓evE.eq_6, ↓evE.eq_7, ↓evE.eq_8, ↓evE.eq_9, ↓evE.eq_10, ↓evE.eq_11, ↓evE.eq_12, ↓evE.eq_13, ↓evE.eq_14, ↓evE.eq_15, ↓evE.eq_16, ↓evE.eq_17, ↓evE.eq_18, ↓evE.eq_19, ↓evE.eq_20, ↓evE.eq_21, ↓evE.eq_22, ↓evE.eq_23, ↓evE.eq_24, ↓evE.eq_25, ↓evE.eq_26, ↓evE.eq_27, ↓evE.eq_28, ↓evE.eq_29, ↓evE.eq_30, ↓evE.eq_31, ↓evE.eq_32, ↓evE.eq_33, ↓evE.eq_34, ↓evE.eq_35, ↓evE.eq_36, ↓evE.eq_37, ↓evE.eq_38, ↓evS.eq_1, ↓evS_seq, ↓evS.eq_3, ↓evS.eq_4, ↓evS.eq_5, ↓evS.eq_6, ↓evS.eq_7, ↓evS.eq_8, ↓evS_ite, ↓iteS, ↓evS.eq_11, ↓evS.eq_12, ↓evS.eq_13, ↓evS.eq_14, ↓evS.eq_15, ↓evS.eq_16, ↓evS.eq_17, ↓evS_for, ↓evA.eq_1, ↓evA.eq_2, ↓evT.eq_1, ↓evT.eq_2, ↓evO.eq_1, ↓evO.eq_2, ↓evI.eq_1, ↓evI.eq_2, ↓evI.eq_3, ↓evI.eq_4, ↓evI.eq_5, ↓evF.eq_1, ↓evF.eq_2, ↓m_bind, ↓m_then, ↓m_opt, SRes.bind_nx, SRes.bind_rt, SRes.bind_bk, SRes.bind_ct, SRes.bind_ex, SRes.bind_bad, at_call, at_glo, at_fuel, SRes.back, List.getElem?_cons_zero, List.getElem?_cons_succ, List.set_cons_zero, List.set_cons_succ, asgT, asgTs, cmpV, truV, binV, bltV, tyN, tyLe, subV, Option.map_some, Option.map_none, List.any_cons, List.any_nil, if_true, if_false, ite_true, ite_false, String.reduceBEq, Nat.reduceAdd, Bool.or_false, Bool.false_or, Bool.or_true, Bool.true_or, Bool.and_true, Bool.true_and, Bool.and_false, Bool.false_and, Bool.not_true, Bool.not_false, beq_self_eq_true, decide_true, decide_false, reduceCtorEq, Bool.false_eq_true, Ev.keyOf, dctKeys, List.length_cons, List.length_nil, List.zip_cons_cons, List.zip_nil_left, List.zip_nil_right, List.foldl_cons, List.foldl_nil, methV, setV, isL, permL_cons, permL_nil, List.map_cons, List.map_nil, valP_cons, valP_nil, key_str, key_int, ofString_eq, String.reduceEq, putP, sizeLine_eq, Nat.reduceLT, Nat.reduceLeDiff, sto_self, mulOk, powOk, divOk, Int.reducePow, Nat.reducePow, Int.reduceNeg, Int.reduceLT, Int.reduceLE, natAbs64, natAbs30, Int.reduceToNat, Int.reduceEq, Int.reduceAdd, Int.reduceSub, Int.reduceMul, ne_eq, not_false_eq_true, Int.reduceNe, Ev.alloc, Ev.eq_ii, Ev.eq_ss, Ev.eq_bb, Ev.eq_nn, Ev.eq_ni, Ev.eq_in, Ev.eq_ns, Ev.eq_sn, Ev.eq_nb, Ev.eq_bn, Ev.eq_is, Ev.eq_si, and_self, true_and, and_true, fmod_lt64, fmod_gt64, atI_0, atI_1, atI_2, atI_3, atI_4, atI_5, atI_6, atI_7, atI_8, atI_9, itemsV, smV, fmtV, lenSetV, seqOf, lstOf, slcV, revV, srcOf, optI, List.nil_append, List.cons_append, sto_new, intsP, sortI, insI, compL, compG, wipeP, boolsP, List.all_cons, List.all_nil, id_eq, keep_nil, maxI, minI, intsP, cutf_1, cutf_2, cutf_3, cutf_4, cutt_1, cutt_2, cutt_3, cutt_4, List.drop_succ_cons, List.drop_zero, List.take_succ_cons, List.take_zero, Int.cast_ofNat_Int, false_and, and_false, or_self, or_false, false_or, true_or, or_true, hc, sto_new, keep_one]
  generalize hz : forL _ _ _ _ _ = z
  obtain ⟨env', M', rfl, ms, m, c, h1, rfl, rfl⟩ := for_of hz (fun xs env M1 => ∃ (ms : List Int) (m : Int) (c : Option PV), xs = ms.map .int ∧ env = [some (.rol (ns.map .int)), some (.int m), c] ∧ M1 = M ++ [.lst (ns.map .int)]) ⟨ns, _, none, rfl, rfl, rfl⟩
    (fun xs env M1 ⟨ms, m, c, h1, h2, h3⟩ => by subst h3; exact keep_one (sto_new _ _)) (fun x xs env M1 ⟨ms, m, c, h1, h2, h3⟩ => by
      subst h2 h3
      cases ms with
      | nil => cases h1
      | cons k ms =>
        cases h1
        exact ⟨_, _, .inl (by unfold forB; simp only [↓evE.eq_1, ↓evE.eq_2, ↓evE.eq_3, ↓evE.eq_4, ↓evE.eq_5, ↓evE.eq_6, ↓evE.eq_7, ↓evE.eq_8, ↓evE.eq_9, ↓evE.eq_10, ↓evE.eq_11, ↓evE.eq_12, ↓evE.eq_13, ↓evE.eq_14, ↓evE.eq_15, ↓evE.eq_16, ↓evE.eq_17, ↓evE.eq_18, ↓evE.eq_19, ↓evE.eq_20, ↓evE.eq_21, ↓evE.eq_22, ↓evE.eq_23, ↓evE.eq_24, ↓evE.eq_25, ↓evE.eq_26, ↓evE.eq_27, ↓evE.eq_28, ↓evE.eq_29, ↓evE.eq_30, ↓evE.eq_31, ↓evE.eq_32, ↓evE.eq_33, ↓evE.eq_34, ↓evE.eq_35, ↓evE.eq_36, ↓evE.eq_37, ↓evE.eq_38, ↓evS.eq_1, ↓evS_seq, ↓evS.eq_3, ↓evS.eq_4, ↓evS.eq_5, ↓evS.eq_6, ↓evS.eq_7, ↓evS.eq_8, ↓evS_ite, ↓iteS, ↓evS.eq_11, ↓evS.eq_12, ↓evS.eq_13, ↓evS.eq_14, ↓evS.eq_15, ↓evS.eq_16, ↓evS.eq_17, ↓evS_for, ↓evA.eq_1, ↓evA.eq_2, ↓evT.eq_1, ↓evT.eq_2, ↓evO.eq_1, ↓evO.eq_2, ↓evI.eq_1, ↓evI.eq_2, ↓evI.eq_3, ↓evI.eq_4, ↓evI.eq_5, ↓evF.eq_1, ↓evF.eq_2, ↓m_bind, ↓m_then, ↓m_opt, SRes.bind_nx, SRes.bind_rt, SRes.bind_bk, SRes.bind_ct, SRes.bind_ex, SRes.bind_bad, at_call, at_glo, at_fuel, SRes.back, List.getElem?_cons_zero, List.getElem?_cons_succ, List.set_cons_zero, List.set_cons_succ, asgT, asgTs, cmpV, truV, binV, bltV, tyN, tyLe, subV, Option.map_some, Option.map_none, List.any_cons, List.any_nil, if_true, if_false, ite_true, ite_false, String.reduceBEq, Nat.reduceAdd, Bool.or_false, Bool.false_or, Bool.or_true, Bool.true_or, Bool.and_true, Bool.true_and, Bool.and_false, Bool.false_and, Bool.not_true, Bool.not_false, beq_self_eq_true, decide_true, decide_false, reduceCtorEq, Bool.false_eq_true, Ev.keyOf, dctKeys, List.length_cons, List.length_nil, List.zip_cons_cons, List.zip_nil_left, List.zip_nil_right, List.foldl_cons, List.foldl_nil, methV, setV, isL, permL_cons, permL_nil, List.map_cons, List.map_nil, valP_cons, valP_nil, key_str, key_int, ofString_eq, String.reduceEq, putP, sizeLine_eq, Nat.reduceLT, Nat.reduceLeDiff, sto_self, mulOk, powOk, divOk, Int.reducePow, Nat.reducePow, Int.reduceNeg, Int.reduceLT, Int.reduceLE, natAbs64, natAbs30, Int.reduceToNat, Int.reduceEq, Int.reduceAdd, Int.reduceSub, Int.reduceMul, ne_eq, not_false_eq_true, Int.reduceNe, Ev.alloc, Ev.eq_ii, Ev.eq_ss, Ev.eq_bb, Ev.eq_nn, Ev.eq_ni, Ev.eq_in, Ev.eq_ns, Ev.eq_sn, Ev.eq_nb, Ev.eq_bn, Ev.eq_is, Ev.eq_si, and_self, true_and, and_true, fmod_lt64, fmod_gt64, atI_0, atI_1, atI_2, atI_3, atI_4, atI_5, atI_6, atI_7, atI_8, atI_9, itemsV, smV, fmtV, lenSetV, seqOf, lstOf, slcV, revV, srcOf, optI, List.nil_append, List.cons_append, sto_new, intsP, sortI, insI, compL, compG, wipeP, boolsP, List.all_cons, List.all_nil, id_eq, keep_nil, maxI, minI, intsP, cutf_1, cutf_2, cutf_3, cutf_4, cutt_1, cutt_2, cutt_3, cutt_4, List.drop_succ_cons, List.drop_zero, List.take_succ_cons, List.take_zero, Int.cast_ofNat_Int, false_and, and_false, or_self, or_false, false_or, true_or, or_true]; try rfl), ms, _, _, rfl, rfl, rfl⟩)
  simp only [↓evE.eq_1, ↓evE.eq_2, ↓evE.eq_3, ↓evE.eq_4, ↓evE.eq_5, ↓evE.eq_6, ↓evE.eq_7, ↓evE.eq_8, ↓evE.eq_9, ↓evE.eq_10, ↓evE.eq_11, ↓evE.eq_12, ↓evE.eq_13, ↓evE.eq_14, ↓evE.eq_15, ↓evE.eq_16, ↓evE.eq_17, ↓evE.eq_18, ↓evE.eq_19, ↓evE.eq_20, ↓evE.eq_21, ↓evE.eq_22, ↓evE.eq_23, ↓evE.eq_24, ↓evE.eq_25, ↓evE.eq_26, ↓evE.eq_27, ↓evE.eq_28, ↓evE.eq_29, ↓evE.eq_30, ↓evE.eq_31, ↓evE.eq_32, ↓evE.eq_33, ↓evE.eq_34, ↓evE.eq_35, ↓evE.eq_36, ↓evE.eq_37, ↓evE.eq_38, ↓evS.eq_1, ↓evS_seq, ↓evS.eq_3, ↓evS.eq_4, ↓evS.eq_5, ↓evS.eq_6, ↓evS.eq_7, ↓evS.eq_8, ↓evS_ite, ↓iteS, ↓evS.eq_11, ↓evS.eq_12, ↓evS.eq_13, ↓evS.eq_14, ↓evS.eq_15, ↓evS.eq_16, ↓evS.eq_17, ↓evS_for, ↓evA.eq_1, ↓evA.eq_2, ↓evT.eq_1, ↓evT.eq_2, ↓evO.eq_1, ↓evO.eq_2, ↓evI.eq_1, ↓evI.eq_2, ↓evI.eq_3, ↓evI.eq_4, ↓evI.eq_5, ↓evF.eq_1, ↓evF.eq_2, ↓m_bind, ↓m_then, ↓m_opt, SRes.bind_nx, SRes.bind_rt, SRes.bind_bk, SRes.bind_ct, SRes.bind_ex, SRes.bind_bad, at_call, at_glo, at_fuel, SRes.back, List.getElem?_cons_zero, List.getElem?_cons_succ, List.set_cons_zero, List.set_cons_succ, asgT, asgTs, cmpV, truV, binV, bltV, tyN, tyLe, subV, Option.map_some, Option.map_none, List.any_cons, List.any_nil, if_true, if_false, ite_true, ite_false, String.reduceBEq, Nat.reduceAdd, Bool.or_false, Bool.false_or, Bool.or_true, Bool.true_or, Bool.and_true, Bool.true_and, Bool.and_false, Bool.false_and, Bool.not_true, Bool.not_false, beq_self_eq_true, decide_true, decide_false, reduceCtorEq, Bool.false_eq_true, Ev.keyOf, dctKeys, List.length_cons, List.length_nil, List.zip_cons_cons, List.zip_nil_left, List.zip_nil_right, List.foldl_cons, List.foldl_nil, methV, setV, isL, permL_cons, permL_nil, List.map_cons, List.map_nil, valP_cons, valP_nil, key_str, key_int, ofString_eq, String.reduceEq, putP, sizeLine_eq, Nat.reduceLT, Nat.reduceLeDiff, sto_self, mulOk, powOk, divOk, Int.reducePow, Nat.reducePow, Int.reduceNeg, Int.reduceLT, Int.reduceLE, natAbs64, natAbs30, Int.reduceToNat, Int.reduceEq, Int.reduceAdd, Int.reduceSub, Int.reduceMul, ne_eq, not_false_eq_true, Int.reduceNe, Ev.alloc, Ev.eq_ii, Ev.eq_ss, Ev.eq_bb, Ev.eq_nn, Ev.eq_ni, Ev.eq_in, Ev.eq_ns, Ev.eq_sn, Ev.eq_nb, Ev.eq_bn, Ev.eq_is, Ev.eq_si, and_self, true_and, and_true, fmod_lt64, fmod_gt64, atI_0, atI_1, atI_2, atI_3, atI_4, atI_5, atI_6, atI_7, atI_8, atI_9, itemsV, smV, fmtV, lenSetV, seqOf, lstOf, slcV, revV, srcOf, optI, List.nil_append, List.cons_append, sto_new, intsP, sortI, insI, compL, compG, wipeP, boolsP, List.all_cons, List.all_nil, id_eq, keep_nil, maxI, minI, intsP, cutf_1, cutf_2, cutf_3, cutf_4, cutt_1, cutt_2, cutt_3, cutt_4, List.drop_succ_cons, List.drop_zero, List.take_succ_cons, List.take_zero, Int.cast_ofNat_Int, false_and, and_false, or_self, or_false, false_or, true_or, or_true, hc, sto_new]
  refine ⟨_, M.length + 3, _, rfl, ⟨by simp, m, 0, ns.reverse, ?_, ?_, by simpa using Nat.le_succ_of_le hn⟩, by simp <;> omega, by omega, Keep.app.trans (Keep.app.trans (Keep.app.trans (Keep.app.trans Keep.app)))⟩
  · rw [sto_new]; simp
  · simp [List.getElem?_append]
theorem Dk.app {i j : Nat} {M : Sto} (h : Dk i j M) (l : List MO) : Dk i j (M ++ l) := by
  obtain ⟨hij, m, d, ns, hi, hj, hn⟩ := h
  exact ⟨hij, m, d, ns, sto_app hi, sto_app hj, hn⟩
theorem Dk.keep {i j : Nat} {M M' : Sto} {out : List Nat} (h : Dk i j M) (k : Keep out M M') (h1 : i ∉ out) (h2 : j ∉ out) : Dk i j M' := by
  obtain ⟨hij, m, d, ns, hi, hj, hn⟩ := h
  exact ⟨hij, m, d, ns, k.get hi h1, k.get hj h2, hn⟩
theorem Dk.lt {i j : Nat} {M : Sto} (h : Dk i j M) : i < M.length ∧ j < M.length := by
  obtain ⟨hij, m, d, ns, hi, hj, hn⟩ := h
  exact ⟨sto_lt hi, sto_lt hj⟩
/-- a pick from a written list of numbers -/
theorem picks (n : Nat) {i j : Nat} {M : Sto} (h : Dk i j M) (xs : List PV) (h0 : 0 < xs.length) (h2 : xs.length < 1073741824) :
    ∃ r M', callN T (n + 2) "_law_pick" [.ref i, .ref M.length] (M ++ [.lst xs]) = .ok r M' ∧ r ∈ xs ∧ Dk i j M' ∧ Keep [i, j] M M' := by
  obtain ⟨r, M', e, rm, d, k⟩ := pick_ok n (k := M.length) (h.app [.lst xs]) (sto_new _ _) (by have := h.lt; omega) h0 h2
  exact ⟨r, M', e, rm, d, Keep.app.trans k⟩
theorem Dk.set' {i j : Nat} {M : Sto} {F : Nat} {o : MO} (h : Dk i j M) (h1 : F ≠ i) (h2 : F ≠ j) : Dk i j (M.set F o) := by
  obtain ⟨hij, m, d, ns, hi, hj, hn⟩ := h
  exact ⟨hij, m, d, ns, by rw [sto_ne h1]; exact hi, by rw [sto_ne h2]; exact hj, hn⟩
theorem pick_str (n : Nat) {i j : Nat} {M : Sto} (h : Dk i j M) {l : List Nat} (h0 : 0 < l.length) (h2 : l.length < 1000000) :
    ∃ c M', callN T (n + 2) "_law_pick" [.ref i, tv l] M = .ok (tv [c]) M' ∧ c ∈ l ∧ Dk i j M' ∧ Keep [i, j] M M' := by
  obtain ⟨r, M', e, h1, h3, d, kp⟩ := draw_ok n (many := l.length) h (by omega) (by omega)
  obtain ⟨x, xm, _, xe⟩ := atI_in l h1 h3
  have l1 : (l.length ≤ 16777216) = True := eq_true (by omega)
  rw [e__law_pick]
  unfold c__law_pick
  simp only [↓evE.eq_1, ↓evE.eq_2, ↓evE.eq_3, ↓evE.eq_4, ↓evE.eq_5, ↓evE.eq_6, ↓evE.eq_7, ↓evE.eq_8, ↓evE.eq_9, ↓evE.eq_10, ↓evE.eq_11, ↓evE.eq_12, ↓evE.eq_13, ↓evE.eq_14, ↓evE.eq_15, ↓evE.eq_16, ↓evE.eq_17, ↓evE.eq_18, ↓evE.eq_19, ↓evE.eq_20, ↓evE.eq_21, ↓evE.eq_22, ↓evE.eq_23, ↓evE.eq_24, ↓evE.eq_25, ↓evE.eq_26, ↓evE.eq_27, ↓evE.eq_28, ↓evE.eq_29, ↓evE.eq_30, ↓evE.eq_31, ↓evE.eq_32, ↓evE.eq_33, ↓evE.eq_34, ↓evE.eq_35, ↓evE.eq_36, ↓evE.eq_37, ↓evE.eq_38, ↓evS.eq_1, ↓evS_seq, ↓evS.eq_3, ↓evS.eq_4, ↓evS.eq_5, ↓evS.eq_6, ↓evS.eq_7, ↓evS.eq_8, ↓evS_ite, ↓iteS, ↓evS.eq_11, ↓evS.eq_12, ↓evS.eq_13, ↓evS.eq_14, ↓evS.eq_15, ↓evS.eq_16, ↓evS.eq_17, ↓evS_for, ↓evA.eq_1, ↓evA.eq_2, ↓evT.eq_1, ↓evT.eq_2, ↓evO.eq_1, ↓evO.eq_2, ↓evI.eq_1, ↓evI.eq_2, ↓evI.eq_3, ↓evI.eq_4, ↓evI.eq_5, ↓evF.eq_1, ↓evF.eq_2, ↓m_bind, ↓m_then, ↓m_opt, SRes.bind_nx, SRes.bind_rt, SRes.bind_bk, SRes.bind_ct, SRes.bind_ex, SRes.bind_bad, at_call, at_glo, at_fuel, SRes.back, List.getElem?_cons_zero, List.getElem?_cons_succ, List.set_cons_zero, List.set_cons_succ, asgT, asgTs, cmpV, truV, binV, bltV, tyN, tyLe, subV, Option.map_some, Option.map_none, List.any_cons, List.any_nil, if_true, if_false, ite_true, ite_false, String.reduceBEq, Nat.reduceAdd, Bool.or_false, Bool.false_or, Bool.or_true, Bool.true_or, Bool.and_true, Bool.true_and, Bool.and_false, Bool.false_and, Bool.not_true, Bool.not_false, beq_self_eq_true, decide_true, decide_false, reduceCtorEq, Bool.false_eq_true, Ev.keyOf, dctKeys, List.length_cons, List.length_nil, List.zip_cons_cons, List.zip_nil_left, List.zip_nil_right, List.foldl_cons, List.foldl_nil, methV, setV, isL, permL_cons, permL_nil, List.map_cons, List.map_nil, valP_cons, valP_nil, key_str, key_int, ofString_eq, String.reduceEq, putP, sizeLine_eq, Nat.reduceLT, Nat.reduceLeDiff, sto_self, mulOk, powOk, divOk, Int.reducePow, Nat.reducePow, Int.reduceNeg, Int.reduceLT, Int.reduceLE, natAbs64, natAbs30, Int.reduceToNat, Int.reduceEq, Int.reduceAdd, Int.reduceSub, Int.reduceMul, ne_eq, not_false_eq_true, Int.reduceNe, Ev.alloc, Ev.eq_ii, Ev.eq_ss, Ev.eq_bb, Ev.eq_nn, Ev.eq_ni, Ev.eq_in, Ev.eq_ns, Ev.eq_sn, Ev.eq_nb, Ev.eq_bn, Ev.eq_is, Ev.eq_si, and_self, true_and, and_true, fmod_lt64, fmod_gt64, atI_0, atI_1, atI_2, atI_3, atI_4, atI_5, atI_6, atI_7, atI_8, atI_9, itemsV, smV, fmtV, lenSetV, seqOf, lstOf, slcV, revV, srcOf, optI, List.nil_append, List.cons_append, sto_new, intsP, sortI, insI, compL, compG, wipeP, boolsP, List.all_cons, List.all_nil, id_eq, keep_nil, maxI, minI, intsP, cutf_1, cutf_2, cutf_3, cutf_4, cutt_1, cutt_2, cutt_3, cutt_4, List.drop_succ_cons, List.drop_zero, List.take_succ_cons, List.take_zero, Int.cast_ofNat_Int, false_and, and_false, or_self, or_false, false_or, true_or, or_true, lit_e, tS_len, tS_cat, tS_eq, tS_lt, List.toList_toArray, l1, e, xe]
  exact ⟨x, M', rfl, xm, d, kp⟩
end K18

set_option Elab.async false
set_option linter.all false
set_option maxRecDepth 100000
set_option maxHeartbeats 4000000
/-! K18q: the program's picks. -/
namespace K18
open PySem L2 Ev
def low (c : Nat) : Prop := 97 ≤ c ∧ c ≤ 122
def word (w : List Nat) : Prop := 1 ≤ w.length ∧ w.length ≤ 10 ∧ ∀ c ∈ w, low c
def abc : List Nat := wd "abcdefghijklmnopqrstuvwxyz"
theorem abc_len : abc.length = 26 := by decide +kernel
theorem abc_eq : abc = (List.range 26).map (97 + ·) := by decide +kernel
theorem abc_mem (c : Nat) : c ∈ abc ↔ low c := by
  rw [abc_eq]
  simp only [List.mem_map, List.mem_range, low]
  constructor
  · rintro ⟨k, hk, rfl⟩; omega
  · exact fun h => ⟨c - 97, by omega, by omega⟩
theorem lit_abc : Str.ofString "abcdefghijklmnopqrstuvwxyz" = tS abc := lit_w _
theorem is_word_ok (n : Nat) (M : Sto) {w : List Nat} (h : word w) : ∃ M', callN T (n + 1) "is_word" [tv w] M = .ok (.bl true) M' ∧ Keep [] M M' := by
  obtain ⟨h1, h2, h3⟩ := h
  have q1 : (w.length ≤ 16777216) = True := eq_true (by omega)
  have q2 : ((1 : Int) ≤ w.length) = True := eq_true (by omega)
  have q3 : ((w.length : Int) ≤ 10) = True := eq_true (by omega)
  rw [e_is_word]
  unfold c_is_word
  simp only [↓evE.eq_1, ↓evE.eq_2, ↓evE.eq_3, ↓evE.eq_4, ↓evE.eq_5, ↓evE.eq_6, ↓evE.eq_7, ↓evE.eq_8, ↓evE.eq_9, ↓evE.eq_10, ↓evE.eq_11, ↓evE.eq_12, ↓evE.eq_13, ↓evE.eq_14, ↓evE.eq_15, ↓evE.eq_16, ↓evE.eq_17, ↓evE.eq_18, ↓evE.eq_19, ↓evE.eq_20, ↓evE.eq_21, ↓evE.eq_22, ↓evE.eq_23, ↓evE.eq_24, ↓evE.eq_25, ↓evE.eq_26, ↓evE.eq_27, ↓evE.eq_28, ↓evE.eq_29, ↓evE.eq_30, ↓evE.eq_31, ↓evE.eq_32, ↓evE.eq_33, ↓evE.eq_34, ↓evE.eq_35, ↓evE.eq_36, ↓evE.eq_37, ↓evE.eq_38, ↓evS.eq_1, ↓evS_seq, ↓evS.eq_3, ↓evS.eq_4, ↓evS.eq_5, ↓evS.eq_6, ↓evS.eq_7, ↓evS.eq_8, ↓evS_ite, ↓iteS, ↓evS.eq_11, ↓evS.eq_12, ↓evS.eq_13, ↓evS.eq_14, ↓evS.eq_15, ↓evS.eq_16, ↓evS.eq_17, ↓evS_for, ↓evA.eq_1, ↓evA.eq_2, ↓evT.eq_1, ↓evT.eq_2, ↓evO.eq_1, ↓evO.eq_2, ↓evI.eq_1, ↓evI.eq_2, ↓evI.eq_3, ↓evI.eq_4, ↓evI.eq_5, ↓evF.eq_1, ↓evF.eq_2, ↓m_bind, ↓m_then, ↓m_opt, SRes.bind_nx, SRes.bind_rt, SRes.bind_bk, SRes.bind_ct, SRes.bind_ex, SRes.bind_bad, at_call, at_glo, at_fuel, SRes.back, List.getElem?_cons_zero, List.getElem?_cons_succ, List.set_cons_zero, List.set_cons_succ, asgT, asgTs, cmpV, truV, binV, bltV, tyN, tyLe, subV, Option.map_some, Option.map_none, List.any_cons, List.any_nil, if_true, if_false, ite_true, ite_false, String.reduceBEq, Nat.reduceAdd, Bool.or_false, Bool.false_or, Bool.or_true, Bool.true_or, Bool.and_true, Bool.true_and, Bool.and_false, Bool.false_and, Bool.not_true, Bool.not_false, beq_self_eq_true, decide_true, decide_false, reduceCtorEq, Bool.false_eq_true, Ev.keyOf, dctKeys, List.length_cons, List.length_nil, List.zip_cons_cons, List.zip_nil_left, List.zip_nil_right, List.foldl_cons, List.foldl_nil, methV, setV, isL, permL_cons, permL_nil, List.map_cons, List.map_nil, valP_cons, valP_nil, key_str, key_int, ofString_eq, String.reduceEq, putP, sizeLine_eq, Nat.reduceLT, Nat.reduceLeDiff, sto_self, mulOk, powOk, divOk, Int.reducePow, Nat.reducePow, Int.reduceNeg, Int.reduceLT, Int.reduceLE, natAbs64, natAbs30, Int.reduceToNat, Int.reduceEq, Int.reduceAdd, Int.reduceSub, Int.reduceMul, ne_eq, not_false_eq_true, Int.reduceNe, Ev.alloc, Ev.eq_ii, Ev.eq_ss, Ev.eq_bb, Ev.eq_nn, Ev.eq_ni, Ev.eq_in, Ev.eq_ns, Ev.eq_sn, Ev.eq_nb, Ev.eq_bn, Ev.eq_is, Ev.eq_si, and_self, true_and, and_true, fmod_lt64, fmod_gt64, atI_0, atI_1, atI_2, atI_3, atI_4, atI_5, atI_6, atI_7, atI_8, atI_9, itemsV, smV, fmtV, lenSetV, seqOf, lstOf, slcV, revV, srcOf, optI, List.nil_append, List.cons_append, sto_new, intsP, sortI, insI, compL, compG, wipeP, boolsP, List.all_cons, List.all_nil, id_eq, keep_nil, maxI, minI, intsP, cutf_1, cutf_2, cutf_3, cutf_4, cutt_1, cutt_2, cutt_3, cutt_4, List.drop_succ_cons, List.drop_zero, List.take_succ_cons, List.take_zero, Int.cast_ofNat_Int, false_and, and_false, or_self, or_false, false_or, true_or, or_true, lit_e, tS_len, tS_cat, tS_eq, tS_lt, List.toList_toArray, g_MOST_WORD, g_LETTERS, g_MOST_POOL, g_MOST_WEIGHT, GC.pv, q1, q2, q3]
  rw [signs_tsv]
  generalize hz : compL _ _ _ _ _ = z
  have hc := comp_map (w.map fun c => [c]) tv (fun _ => .bl true) hz (keep_nil _) (fun x hx => by
    obtain ⟨c, hc, rfl⟩ := List.mem_map.mp hx
    have hm : decide (c ∈ abc) = true := decide_eq_true ((abc_mem c).mpr (h3 c hc))
    simp only [↓evE.eq_1, ↓evE.eq_2, ↓evE.eq_3, ↓evE.eq_4, ↓evE.eq_5, ↓evE.eq_6, ↓evE.eq_7, ↓evE.eq_8, ↓evE.eq_9, ↓evE.eq_10, ↓evE.eq_11, ↓evE.eq_12, ↓evE.eq_13, ↓evE.eq_14, ↓evE.eq_15, ↓evE.eq_16, ↓evE.eq_17, ↓evE.eq_18, ↓evE.eq_19, ↓evE.eq_20, ↓evE.eq_21, ↓evE.eq_22, ↓evE.eq_23, ↓evE.eq_24, ↓evE.eq_25, ↓evE.eq_26, ↓evE.eq_27, ↓evE.eq_28, ↓evE.eq_29, ↓evE.eq_30, ↓evE.eq_31, ↓evE.eq_32, ↓evE.eq_33, ↓evE.eq_34, ↓evE.eq_35, ↓evE.eq_36, ↓evE.eq_37, ↓evE.eq_38, ↓evS.eq_1, ↓evS_seq, ↓evS.eq_3, ↓evS.eq_4, ↓evS.eq_5, ↓evS.eq_6, ↓evS.eq_7, ↓evS.eq_8, ↓evS_ite, ↓iteS, ↓evS.eq_11, ↓evS.eq_12, ↓evS.eq_13, ↓evS.eq_14, ↓evS.eq_15, ↓evS.eq_16, ↓evS.eq_17, ↓evS_for, ↓evA.eq_1, ↓evA.eq_2, ↓evT.eq_1, ↓evT.eq_2, ↓evO.eq_1, ↓evO.eq_2, ↓evI.eq_1, ↓evI.eq_2, ↓evI.eq_3, ↓evI.eq_4, ↓evI.eq_5, ↓evF.eq_1, ↓evF.eq_2, ↓m_bind, ↓m_then, ↓m_opt, SRes.bind_nx, SRes.bind_rt, SRes.bind_bk, SRes.bind_ct, SRes.bind_ex, SRes.bind_bad, at_call, at_glo, at_fuel, SRes.back, List.getElem?_cons_zero, List.getElem?_cons_succ, List.set_cons_zero, List.set_cons_succ, asgT, asgTs, cmpV, truV, binV, bltV, tyN, tyLe, subV, Option.map_some, Option.map_none, List.any_cons, List.any_nil, if_true, if_false, ite_true, ite_false, String.reduceBEq, Nat.reduceAdd, Bool.or_false, Bool.false_or, Bool.or_true, Bool.true_or, Bool.and_true, Bool.true_and, Bool.and_false, Bool.false_and, Bool.not_true, Bool.not_false, beq_self_eq_true, decide_true, decide_false, reduceCtorEq, Bool.false_eq_true, Ev.keyOf, dctKeys, List.length_cons, List.length_nil, List.zip_cons_cons, List.zip_nil_left, List.zip_nil_right, List.foldl_cons, List.foldl_nil, methV, setV, isL, permL_cons, permL_nil, List.map_cons, List.map_nil, valP_cons, valP_nil, key_str, key_int, ofString_eq, String.reduceEq, putP, sizeLine_eq, Nat.reduceLT, Nat.reduceLeDiff, sto_self, mulOk, powOk, divOk, Int.reducePow, Nat.reducePow, Int.reduceNeg, Int.reduceLT, Int.reduceLE, natAbs64, natAbs30, Int.reduceToNat, Int.reduceEq, Int.reduceAdd, Int.reduceSub, Int.reduceMul, ne_eq, not_false_eq_true, Int.reduceNe, Ev.alloc, Ev.eq_ii, Ev.eq_ss, Ev.eq_bb, Ev.eq_nn, Ev.eq_ni, Ev.eq_in, Ev.eq_ns, Ev.eq_sn, Ev.eq_nb, Ev.eq_bn, Ev.eq_is, Ev.eq_si, and_self, true_and, and_true, fmod_lt64, fmod_gt64, atI_0, atI_1, atI_2, atI_3, atI_4, atI_5, atI_6, atI_7, atI_8, atI_9, itemsV, smV, fmtV, lenSetV, seqOf, lstOf, slcV, revV, srcOf, optI, List.nil_append, List.cons_append, sto_new, intsP, sortI, insI, compL, compG, wipeP, boolsP, List.all_cons, List.all_nil, id_eq, keep_nil, maxI, minI, intsP, cutf_1, cutf_2, cutf_3, cutf_4, cutt_1, cutt_2, cutt_3, cutt_4, List.drop_succ_cons, List.drop_zero, List.take_succ_cons, List.take_zero, Int.cast_ofNat_Int, false_and, and_false, or_self, or_false, false_or, true_or, or_true, lit_e, tS_len, tS_cat, tS_eq, tS_lt, List.toList_toArray, g_MOST_WORD, g_LETTERS, g_MOST_POOL, g_MOST_WEIGHT, GC.pv, lit_abc, in_tx, hm]) (by rw [sizeLine_eq]; simp; omega)
  subst hc
  have e := bools_of (fun _ => true) (w.map fun c => [c])
  have e2 : ((w.map fun c => [c]).map fun _ => true).all id = true := by simp
  simp only [↓evE.eq_1, ↓evE.eq_2, ↓evE.eq_3, ↓evE.eq_4, ↓evE.eq_5, ↓evE.eq_6, ↓evE.eq_7, ↓evE.eq_8, ↓evE.eq_9, ↓evE.eq_10, ↓evE.eq_11, ↓evE.eq_12, ↓evE.eq_13, ↓evE.eq_14, ↓evE.eq_15, ↓evE.eq_16, ↓evE.eq_17, ↓evE.eq_18, ↓evE.eq_19, ↓evE.eq_20, ↓evE.eq_21, ↓evE.eq_22, ↓evE.eq_23, ↓evE.eq_24, ↓evE.eq_25, ↓evE.eq_26, ↓evE.eq_27, ↓evE.eq_28, ↓evE.eq_29, ↓evE.eq_30, ↓evE.eq_31, ↓evE.eq_32, ↓evE.eq_33, ↓evE.eq_34, ↓evE.eq_35, ↓evE.eq_36, ↓evE.eq_37, ↓evE.eq_38, ↓evS.eq_1, ↓evS_seq, ↓evS.eq_3, ↓evS.eq_4, ↓evS.eq_5, ↓evS.eq_6, ↓evS.eq_7, ↓evS.eq_8, ↓evS_ite, ↓iteS, ↓evS.eq_11, ↓evS.eq_12, ↓evS.eq_13, ↓evS.eq_14, ↓evS.eq_15, ↓evS.eq_16, ↓evS.eq_17, ↓evS_for, ↓evA.eq_1, ↓evA.eq_2, ↓evT.eq_1, ↓evT.eq_2, ↓evO.eq_1, ↓evO.eq_2, ↓evI.eq_1, ↓evI.eq_2, ↓evI.eq_3, ↓evI.eq_4, ↓evI.eq_5, ↓evF.eq_1, ↓evF.eq_2, ↓m_bind, ↓m_then, ↓m_opt, SRes.bind_nx, SRes.bind_rt, SRes.bind_bk, SRes.bind_ct, SRes.bind_ex, SRes.bind_bad, at_call, at_glo, at_fuel, SRes.back, List.getElem?_cons_zero, List.getElem?_cons_succ, List.set_cons_zero, List.set_cons_succ, asgT, asgTs, cmpV, truV, binV, bltV, tyN, tyLe, subV, Option.map_some, Option.map_none, List.any_cons, List.any_nil, if_true, if_false, ite_true, ite_false, String.reduceBEq, Nat.reduceAdd, Bool.or_false, Bool.false_or, Bool.or_true, Bool.true_or, Bool.and_true, Bool.true_and, Bool.and_false, Bool.false_and, Bool.not_true, Bool.not_false, beq_self_eq_true, decide_true, decide_false, reduceCtorEq, Bool.false_eq_true, Ev.keyOf, dctKeys, List.length_cons, List.length_nil, List.zip_cons_cons, List.zip_nil_left, List.zip_nil_right, List.foldl_cons, List.foldl_nil, methV, setV, isL, permL_cons, permL_nil, List.map_cons, List.map_nil, valP_cons, valP_nil, key_str, key_int, ofString_eq, String.reduceEq, putP, sizeLine_eq, Nat.reduceLT, Nat.reduceLeDiff, sto_self, mulOk, powOk, divOk, Int.reducePow, Nat.reducePow, Int.reduceNeg, Int.reduceLT, Int.reduceLE, natAbs64, natAbs30, Int.reduceToNat, Int.reduceEq, Int.reduceAdd, Int.reduceSub, Int.reduceMul, ne_eq, not_false_eq_true, Int.reduceNe, Ev.alloc, Ev.eq_ii, Ev.eq_ss, Ev.eq_bb, Ev.eq_nn, Ev.eq_ni, Ev.eq_in, Ev.eq_ns, Ev.eq_sn, Ev.eq_nb, Ev.eq_bn, Ev.eq_is, Ev.eq_si, and_self, true_and, and_true, fmod_lt64, fmod_gt64, atI_0, atI_1, atI_2, atI_3, atI_4, atI_5, atI_6, atI_7, atI_8, atI_9, itemsV, smV, fmtV, lenSetV, seqOf, lstOf, slcV, revV, srcOf, optI, List.nil_append, List.cons_append, sto_new, intsP, sortI, insI, compL, compG, wipeP, boolsP, List.all_cons, List.all_nil, id_eq, keep_nil, maxI, minI, intsP, cutf_1, cutf_2, cutf_3, cutf_4, cutt_1, cutt_2, cutt_3, cutt_4, List.drop_succ_cons, List.drop_zero, List.take_succ_cons, List.take_zero, Int.cast_ofNat_Int, false_and, and_false, or_self, or_false, false_or, true_or, or_true, lit_e, tS_len, tS_cat, tS_eq, tS_lt, List.toList_toArray, g_MOST_WORD, g_LETTERS, g_MOST_POOL, g_MOST_WEIGHT, GC.pv, e, e2]
  exact ⟨_, rfl, Keep.app⟩
theorem is_between_ok (n : Nat) (M : Sto) (a b c : Int) : callN T (n + 2) "is_between" [.int a, .int b, .int c] M = .ok (.bl (decide (b ≤ a ∧ a ≤ c))) M := by
  rw [e_is_between]
  unfold c_is_between
  simp only [↓evE.eq_1, ↓evE.eq_2, ↓evE.eq_3, ↓evE.eq_4, ↓evE.eq_5, ↓evE.eq_6, ↓evE.eq_7, ↓evE.eq_8, ↓evE.eq_9, ↓evE.eq_10, ↓evE.eq_11, ↓evE.eq_12, ↓evE.eq_13, ↓evE.eq_14, ↓evE.eq_15, ↓evE.eq_16, ↓evE.eq_17, ↓evE.eq_18, ↓evE.eq_19, ↓evE.eq_20, ↓evE.eq_21, ↓evE.eq_22, ↓evE.eq_23, ↓evE.eq_24, ↓evE.eq_25, ↓evE.eq_26, ↓evE.eq_27, ↓evE.eq_28, ↓evE.eq_29, ↓evE.eq_30, ↓evE.eq_31, ↓evE.eq_32, ↓evE.eq_33, ↓evE.eq_34, ↓evE.eq_35, ↓evE.eq_36, ↓evE.eq_37, ↓evE.eq_38, ↓evS.eq_1, ↓evS_seq, ↓evS.eq_3, ↓evS.eq_4, ↓evS.eq_5, ↓evS.eq_6, ↓evS.eq_7, ↓evS.eq_8, ↓evS_ite, ↓iteS, ↓evS.eq_11, ↓evS.eq_12, ↓evS.eq_13, ↓evS.eq_14, ↓evS.eq_15, ↓evS.eq_16, ↓evS.eq_17, ↓evS_for, ↓evA.eq_1, ↓evA.eq_2, ↓evT.eq_1, ↓evT.eq_2, ↓evO.eq_1, ↓evO.eq_2, ↓evI.eq_1, ↓evI.eq_2, ↓evI.eq_3, ↓evI.eq_4, ↓evI.eq_5, ↓evF.eq_1, ↓evF.eq_2, ↓m_bind, ↓m_then, ↓m_opt, SRes.bind_nx, SRes.bind_rt, SRes.bind_bk, SRes.bind_ct, SRes.bind_ex, SRes.bind_bad, at_call, at_glo, at_fuel, SRes.back, List.getElem?_cons_zero, List.getElem?_cons_succ, List.set_cons_zero, List.set_cons_succ, asgT, asgTs, cmpV, truV, binV, bltV, tyN, tyLe, subV, Option.map_some, Option.map_none, List.any_cons, List.any_nil, if_true, if_false, ite_true, ite_false, String.reduceBEq, Nat.reduceAdd, Bool.or_false, Bool.false_or, Bool.or_true, Bool.true_or, Bool.and_true, Bool.true_and, Bool.and_false, Bool.false_and, Bool.not_true, Bool.not_false, beq_self_eq_true, decide_true, decide_false, reduceCtorEq, Bool.false_eq_true, Ev.keyOf, dctKeys, List.length_cons, List.length_nil, List.zip_cons_cons, List.zip_nil_left, List.zip_nil_right, List.foldl_cons, List.foldl_nil, methV, setV, isL, permL_cons, permL_nil, List.map_cons, List.map_nil, valP_cons, valP_nil, key_str, key_int, ofString_eq, String.reduceEq, putP, sizeLine_eq, Nat.reduceLT, Nat.reduceLeDiff, sto_self, mulOk, powOk, divOk, Int.reducePow, Nat.reducePow, Int.reduceNeg, Int.reduceLT, Int.reduceLE, natAbs64, natAbs30, Int.reduceToNat, Int.reduceEq, Int.reduceAdd, Int.reduceSub, Int.reduceMul, ne_eq, not_false_eq_true, Int.reduceNe, Ev.alloc, Ev.eq_ii, Ev.eq_ss, Ev.eq_bb, Ev.eq_nn, Ev.eq_ni, Ev.eq_in, Ev.eq_ns, Ev.eq_sn, Ev.eq_nb, Ev.eq_bn, Ev.eq_is, Ev.eq_si, and_self, true_and, and_true, fmod_lt64, fmod_gt64, atI_0, atI_1, atI_2, atI_3, atI_4, atI_5, atI_6, atI_7, atI_8, atI_9, itemsV, smV, fmtV, lenSetV, seqOf, lstOf, slcV, revV, srcOf, optI, List.nil_append, List.cons_append, sto_new, intsP, sortI, insI, compL, compG, wipeP, boolsP, List.all_cons, List.all_nil, id_eq, keep_nil, maxI, minI, intsP, cutf_1, cutf_2, cutf_3, cutf_4, cutt_1, cutt_2, cutt_3, cutt_4, List.drop_succ_cons, List.drop_zero, List.take_succ_cons, List.take_zero, Int.cast_ofNat_Int, false_and, and_false, or_self, or_false, false_or, true_or, or_true]
  rw [e_is_integer]
  unfold c_is_integer
  simp only [↓evE.eq_1, ↓evE.eq_2, ↓evE.eq_3, ↓evE.eq_4, ↓evE.eq_5, ↓evE.eq_6, ↓evE.eq_7, ↓evE.eq_8, ↓evE.eq_9, ↓evE.eq_10, ↓evE.eq_11, ↓evE.eq_12, ↓evE.eq_13, ↓evE.eq_14, ↓evE.eq_15, ↓evE.eq_16, ↓evE.eq_17, ↓evE.eq_18, ↓evE.eq_19, ↓evE.eq_20, ↓evE.eq_21, ↓evE.eq_22, ↓evE.eq_23, ↓evE.eq_24, ↓evE.eq_25, ↓evE.eq_26, ↓evE.eq_27, ↓evE.eq_28, ↓evE.eq_29, ↓evE.eq_30, ↓evE.eq_31, ↓evE.eq_32, ↓evE.eq_33, ↓evE.eq_34, ↓evE.eq_35, ↓evE.eq_36, ↓evE.eq_37, ↓evE.eq_38, ↓evS.eq_1, ↓evS_seq, ↓evS.eq_3, ↓evS.eq_4, ↓evS.eq_5, ↓evS.eq_6, ↓evS.eq_7, ↓evS.eq_8, ↓evS_ite, ↓iteS, ↓evS.eq_11, ↓evS.eq_12, ↓evS.eq_13, ↓evS.eq_14, ↓evS.eq_15, ↓evS.eq_16, ↓evS.eq_17, ↓evS_for, ↓evA.eq_1, ↓evA.eq_2, ↓evT.eq_1, ↓evT.eq_2, ↓evO.eq_1, ↓evO.eq_2, ↓evI.eq_1, ↓evI.eq_2, ↓evI.eq_3, ↓evI.eq_4, ↓evI.eq_5, ↓evF.eq_1, ↓evF.eq_2, ↓m_bind, ↓m_then, ↓m_opt, SRes.bind_nx, SRes.bind_rt, SRes.bind_bk, SRes.bind_ct, SRes.bind_ex, SRes.bind_bad, at_call, at_glo, at_fuel, SRes.back, List.getElem?_cons_zero, List.getElem?_cons_succ, List.set_cons_zero, List.set_cons_succ, asgT, asgTs, cmpV, truV, binV, bltV, tyN, tyLe, subV, Option.map_some, Option.map_none, List.any_cons, List.any_nil, if_true, if_false, ite_true, ite_false, String.reduceBEq, Nat.reduceAdd, Bool.or_false, Bool.false_or, Bool.or_true, Bool.true_or, Bool.and_true, Bool.true_and, Bool.and_false, Bool.false_and, Bool.not_true, Bool.not_false, beq_self_eq_true, decide_true, decide_false, reduceCtorEq, Bool.false_eq_true, Ev.keyOf, dctKeys, List.length_cons, List.length_nil, List.zip_cons_cons, List.zip_nil_left, List.zip_nil_right, List.foldl_cons, List.foldl_nil, methV, setV, isL, permL_cons, permL_nil, List.map_cons, List.map_nil, valP_cons, valP_nil, key_str, key_int, ofString_eq, String.reduceEq, putP, sizeLine_eq, Nat.reduceLT, Nat.reduceLeDiff, sto_self, mulOk, powOk, divOk, Int.reducePow, Nat.reducePow, Int.reduceNeg, Int.reduceLT, Int.reduceLE, natAbs64, natAbs30, Int.reduceToNat, Int.reduceEq, Int.reduceAdd, Int.reduceSub, Int.reduceMul, ne_eq, not_false_eq_true, Int.reduceNe, Ev.alloc, Ev.eq_ii, Ev.eq_ss, Ev.eq_bb, Ev.eq_nn, Ev.eq_ni, Ev.eq_in, Ev.eq_ns, Ev.eq_sn, Ev.eq_nb, Ev.eq_bn, Ev.eq_is, Ev.eq_si, and_self, true_and, and_true, fmod_lt64, fmod_gt64, atI_0, atI_1, atI_2, atI_3, atI_4, atI_5, atI_6, atI_7, atI_8, atI_9, itemsV, smV, fmtV, lenSetV, seqOf, lstOf, slcV, revV, srcOf, optI, List.nil_append, List.cons_append, sto_new, intsP, sortI, insI, compL, compG, wipeP, boolsP, List.all_cons, List.all_nil, id_eq, keep_nil, maxI, minI, intsP, cutf_1, cutf_2, cutf_3, cutf_4, cutt_1, cutt_2, cutt_3, cutt_4, List.drop_succ_cons, List.drop_zero, List.take_succ_cons, List.take_zero, Int.cast_ofNat_Int, false_and, and_false, or_self, or_false, false_or, true_or, or_true]
  by_cases h1 : b ≤ a <;> simp only [↓evE.eq_1, ↓evE.eq_2, ↓evE.eq_3, ↓evE.eq_4, ↓evE.eq_5, ↓evE.eq_6, ↓evE.eq_7, ↓evE.eq_8, ↓evE.eq_9, ↓evE.eq_10, ↓evE.eq_11, ↓evE.eq_12, ↓evE.eq_13, ↓evE.eq_14, ↓evE.eq_15, ↓evE.eq_16, ↓evE.eq_17, ↓evE.eq_18, ↓evE.eq_19, ↓evE.eq_20, ↓evE.eq_21, ↓evE.eq_22, ↓evE.eq_23, ↓evE.eq_24, ↓evE.eq_25, ↓evE.eq_26, ↓evE.eq_27, ↓evE.eq_28, ↓evE.eq_29, ↓evE.eq_30, ↓evE.eq_31, ↓evE.eq_32, ↓evE.eq_33, ↓evE.eq_34, ↓evE.eq_35, ↓evE.eq_36, ↓evE.eq_37, ↓evE.eq_38, ↓evS.eq_1, ↓evS_seq, ↓evS.eq_3, ↓evS.eq_4, ↓evS.eq_5, ↓evS.eq_6, ↓evS.eq_7, ↓evS.eq_8, ↓evS_ite, ↓iteS, ↓evS.eq_11, ↓evS.eq_12, ↓evS.eq_13, ↓evS.eq_14, ↓evS.eq_15, ↓evS.eq_16, ↓evS.eq_17, ↓evS_for, ↓evA.eq_1, ↓evA.eq_2, ↓evT.eq_1, ↓evT.eq_2, ↓evO.eq_1, ↓evO.eq_2, ↓evI.eq_1, ↓evI.eq_2, ↓evI.eq_3, ↓evI.eq_4, ↓evI.eq_5, ↓evF.eq_1, ↓evF.eq_2, ↓m_bind, ↓m_then, ↓m_opt, SRes.bind_nx, SRes.bind_rt, SRes.bind_bk, SRes.bind_ct, SRes.bind_ex, SRes.bind_bad, at_call, at_glo, at_fuel, SRes.back, List.getElem?_cons_zero, List.getElem?_cons_succ, List.set_cons_zero, List.set_cons_succ, asgT, asgTs, cmpV, truV, binV, bltV, tyN, tyLe, subV, Option.map_some, Option.map_none, List.any_cons, List.any_nil, if_true, if_false, ite_true, ite_false, String.reduceBEq, Nat.reduceAdd, Bool.or_false, Bool.false_or, Bool.or_true, Bool.true_or, Bool.and_true, Bool.true_and, Bool.and_false, Bool.false_and, Bool.not_true, Bool.not_false, beq_self_eq_true, decide_true, decide_false, reduceCtorEq, Bool.false_eq_true, Ev.keyOf, dctKeys, List.length_cons, List.length_nil, List.zip_cons_cons, List.zip_nil_left, List.zip_nil_right, List.foldl_cons, List.foldl_nil, methV, setV, isL, permL_cons, permL_nil, List.map_cons, List.map_nil, valP_cons, valP_nil, key_str, key_int, ofString_eq, String.reduceEq, putP, sizeLine_eq, Nat.reduceLT, Nat.reduceLeDiff, sto_self, mulOk, powOk, divOk, Int.reducePow, Nat.reducePow, Int.reduceNeg, Int.reduceLT, Int.reduceLE, natAbs64, natAbs30, Int.reduceToNat, Int.reduceEq, Int.reduceAdd, Int.reduceSub, Int.reduceMul, ne_eq, not_false_eq_true, Int.reduceNe, Ev.alloc, Ev.eq_ii, Ev.eq_ss, Ev.eq_bb, Ev.eq_nn, Ev.eq_ni, Ev.eq_in, Ev.eq_ns, Ev.eq_sn, Ev.eq_nb, Ev.eq_bn, Ev.eq_is, Ev.eq_si, and_self, true_and, and_true, fmod_lt64, fmod_gt64, atI_0, atI_1, atI_2, atI_3, atI_4, atI_5, atI_6, atI_7, atI_8, atI_9, itemsV, smV, fmtV, lenSetV, seqOf, lstOf, slcV, revV, srcOf, optI, List.nil_append, List.cons_append, sto_new, intsP, sortI, insI, compL, compG, wipeP, boolsP, List.all_cons, List.all_nil, id_eq, keep_nil, maxI, minI, intsP, cutf_1, cutf_2, cutf_3, cutf_4, cutt_1, cutt_2, cutt_3, cutt_4, List.drop_succ_cons, List.drop_zero, List.take_succ_cons, List.take_zero, Int.cast_ofNat_Int, false_and, and_false, or_self, or_false, false_or, true_or, or_true, h1]
theorem is_count_ok (n : Nat) (M : Sto) (a : Int) : callN T (n + 2) "is_count" [.int a] M = .ok (.bl (decide (0 ≤ a))) M := by
  rw [e_is_count]
  unfold c_is_count
  simp only [↓evE.eq_1, ↓evE.eq_2, ↓evE.eq_3, ↓evE.eq_4, ↓evE.eq_5, ↓evE.eq_6, ↓evE.eq_7, ↓evE.eq_8, ↓evE.eq_9, ↓evE.eq_10, ↓evE.eq_11, ↓evE.eq_12, ↓evE.eq_13, ↓evE.eq_14, ↓evE.eq_15, ↓evE.eq_16, ↓evE.eq_17, ↓evE.eq_18, ↓evE.eq_19, ↓evE.eq_20, ↓evE.eq_21, ↓evE.eq_22, ↓evE.eq_23, ↓evE.eq_24, ↓evE.eq_25, ↓evE.eq_26, ↓evE.eq_27, ↓evE.eq_28, ↓evE.eq_29, ↓evE.eq_30, ↓evE.eq_31, ↓evE.eq_32, ↓evE.eq_33, ↓evE.eq_34, ↓evE.eq_35, ↓evE.eq_36, ↓evE.eq_37, ↓evE.eq_38, ↓evS.eq_1, ↓evS_seq, ↓evS.eq_3, ↓evS.eq_4, ↓evS.eq_5, ↓evS.eq_6, ↓evS.eq_7, ↓evS.eq_8, ↓evS_ite, ↓iteS, ↓evS.eq_11, ↓evS.eq_12, ↓evS.eq_13, ↓evS.eq_14, ↓evS.eq_15, ↓evS.eq_16, ↓evS.eq_17, ↓evS_for, ↓evA.eq_1, ↓evA.eq_2, ↓evT.eq_1, ↓evT.eq_2, ↓evO.eq_1, ↓evO.eq_2, ↓evI.eq_1, ↓evI.eq_2, ↓evI.eq_3, ↓evI.eq_4, ↓evI.eq_5, ↓evF.eq_1, ↓evF.eq_2, ↓m_bind, ↓m_then, ↓m_opt, SRes.bind_nx, SRes.bind_rt, SRes.bind_bk, SRes.bind_ct, SRes.bind_ex, SRes.bind_bad, at_call, at_glo, at_fuel, SRes.back, List.getElem?_cons_zero, List.getElem?_cons_succ, List.set_cons_zero, List.set_cons_succ, asgT, asgTs, cmpV, truV, binV, bltV, tyN, tyLe, subV, Option.map_some, Option.map_none, List.any_cons, List.any_nil, if_true, if_false, ite_true, ite_false, String.reduceBEq, Nat.reduceAdd, Bool.or_false, Bool.false_or, Bool.or_true, Bool.true_or, Bool.and_true, Bool.true_and, Bool.and_false, Bool.false_and, Bool.not_true, Bool.not_false, beq_self_eq_true, decide_true, decide_false, reduceCtorEq, Bool.false_eq_true, Ev.keyOf, dctKeys, List.length_cons, List.length_nil, List.zip_cons_cons, List.zip_nil_left, List.zip_nil_right, List.foldl_cons, List.foldl_nil, methV, setV, isL, permL_cons, permL_nil, List.map_cons, List.map_nil, valP_cons, valP_nil, key_str, key_int, ofString_eq, String.reduceEq, putP, sizeLine_eq, Nat.reduceLT, Nat.reduceLeDiff, sto_self, mulOk, powOk, divOk, Int.reducePow, Nat.reducePow, Int.reduceNeg, Int.reduceLT, Int.reduceLE, natAbs64, natAbs30, Int.reduceToNat, Int.reduceEq, Int.reduceAdd, Int.reduceSub, Int.reduceMul, ne_eq, not_false_eq_true, Int.reduceNe, Ev.alloc, Ev.eq_ii, Ev.eq_ss, Ev.eq_bb, Ev.eq_nn, Ev.eq_ni, Ev.eq_in, Ev.eq_ns, Ev.eq_sn, Ev.eq_nb, Ev.eq_bn, Ev.eq_is, Ev.eq_si, and_self, true_and, and_true, fmod_lt64, fmod_gt64, atI_0, atI_1, atI_2, atI_3, atI_4, atI_5, atI_6, atI_7, atI_8, atI_9, itemsV, smV, fmtV, lenSetV, seqOf, lstOf, slcV, revV, srcOf, optI, List.nil_append, List.cons_append, sto_new, intsP, sortI, insI, compL, compG, wipeP, boolsP, List.all_cons, List.all_nil, id_eq, keep_nil, maxI, minI, intsP, cutf_1, cutf_2, cutf_3, cutf_4, cutt_1, cutt_2, cutt_3, cutt_4, List.drop_succ_cons, List.drop_zero, List.take_succ_cons, List.take_zero, Int.cast_ofNat_Int, false_and, and_false, or_self, or_false, false_or, true_or, or_true]
  rw [e_is_integer]
  unfold c_is_integer
  simp only [↓evE.eq_1, ↓evE.eq_2, ↓evE.eq_3, ↓evE.eq_4, ↓evE.eq_5, ↓evE.eq_6, ↓evE.eq_7, ↓evE.eq_8, ↓evE.eq_9, ↓evE.eq_10, ↓evE.eq_11, ↓evE.eq_12, ↓evE.eq_13, ↓evE.eq_14, ↓evE.eq_15, ↓evE.eq_16, ↓evE.eq_17, ↓evE.eq_18, ↓evE.eq_19, ↓evE.eq_20, ↓evE.eq_21, ↓evE.eq_22, ↓evE.eq_23, ↓evE.eq_24, ↓evE.eq_25, ↓evE.eq_26, ↓evE.eq_27, ↓evE.eq_28, ↓evE.eq_29, ↓evE.eq_30, ↓evE.eq_31, ↓evE.eq_32, ↓evE.eq_33, ↓evE.eq_34, ↓evE.eq_35, ↓evE.eq_36, ↓evE.eq_37, ↓evE.eq_38, ↓evS.eq_1, ↓evS_seq, ↓evS.eq_3, ↓evS.eq_4, ↓evS.eq_5, ↓evS.eq_6, ↓evS.eq_7, ↓evS.eq_8, ↓evS_ite, ↓iteS, ↓evS.eq_11, ↓evS.eq_12, ↓evS.eq_13, ↓evS.eq_14, ↓evS.eq_15, ↓evS.eq_16, ↓evS.eq_17, ↓evS_for, ↓evA.eq_1, ↓evA.eq_2, ↓evT.eq_1, ↓evT.eq_2, ↓evO.eq_1, ↓evO.eq_2, ↓evI.eq_1, ↓evI.eq_2, ↓evI.eq_3, ↓evI.eq_4, ↓evI.eq_5, ↓evF.eq_1, ↓evF.eq_2, ↓m_bind, ↓m_then, ↓m_opt, SRes.bind_nx, SRes.bind_rt, SRes.bind_bk, SRes.bind_ct, SRes.bind_ex, SRes.bind_bad, at_call, at_glo, at_fuel, SRes.back, List.getElem?_cons_zero, List.getElem?_cons_succ, List.set_cons_zero, List.set_cons_succ, asgT, asgTs, cmpV, truV, binV, bltV, tyN, tyLe, subV, Option.map_some, Option.map_none, List.any_cons, List.any_nil, if_true, if_false, ite_true, ite_false, String.reduceBEq, Nat.reduceAdd, Bool.or_false, Bool.false_or, Bool.or_true, Bool.true_or, Bool.and_true, Bool.true_and, Bool.and_false, Bool.false_and, Bool.not_true, Bool.not_false, beq_self_eq_true, decide_true, decide_false, reduceCtorEq, Bool.false_eq_true, Ev.keyOf, dctKeys, List.length_cons, List.length_nil, List.zip_cons_cons, List.zip_nil_left, List.zip_nil_right, List.foldl_cons, List.foldl_nil, methV, setV, isL, permL_cons, permL_nil, List.map_cons, List.map_nil, valP_cons, valP_nil, key_str, key_int, ofString_eq, String.reduceEq, putP, sizeLine_eq, Nat.reduceLT, Nat.reduceLeDiff, sto_self, mulOk, powOk, divOk, Int.reducePow, Nat.reducePow, Int.reduceNeg, Int.reduceLT, Int.reduceLE, natAbs64, natAbs30, Int.reduceToNat, Int.reduceEq, Int.reduceAdd, Int.reduceSub, Int.reduceMul, ne_eq, not_false_eq_true, Int.reduceNe, Ev.alloc, Ev.eq_ii, Ev.eq_ss, Ev.eq_bb, Ev.eq_nn, Ev.eq_ni, Ev.eq_in, Ev.eq_ns, Ev.eq_sn, Ev.eq_nb, Ev.eq_bn, Ev.eq_is, Ev.eq_si, and_self, true_and, and_true, fmod_lt64, fmod_gt64, atI_0, atI_1, atI_2, atI_3, atI_4, atI_5, atI_6, atI_7, atI_8, atI_9, itemsV, smV, fmtV, lenSetV, seqOf, lstOf, slcV, revV, srcOf, optI, List.nil_append, List.cons_append, sto_new, intsP, sortI, insI, compL, compG, wipeP, boolsP, List.all_cons, List.all_nil, id_eq, keep_nil, maxI, minI, intsP, cutf_1, cutf_2, cutf_3, cutf_4, cutt_1, cutt_2, cutt_3, cutt_4, List.drop_succ_cons, List.drop_zero, List.take_succ_cons, List.take_zero, Int.cast_ofNat_Int, false_and, and_false, or_self, or_false, false_or, true_or, or_true]
theorem is_row_ok (n : Nat) (M : Sto) (xs : List PV) (k : Int) : callN T (n + 1) "is_row" [.tup xs, .int k] M = .ok (.bl (decide ((xs.length : Int) = k))) M := by
  rw [e_is_row]
  unfold c_is_row
  simp only [↓evE.eq_1, ↓evE.eq_2, ↓evE.eq_3, ↓evE.eq_4, ↓evE.eq_5, ↓evE.eq_6, ↓evE.eq_7, ↓evE.eq_8, ↓evE.eq_9, ↓evE.eq_10, ↓evE.eq_11, ↓evE.eq_12, ↓evE.eq_13, ↓evE.eq_14, ↓evE.eq_15, ↓evE.eq_16, ↓evE.eq_17, ↓evE.eq_18, ↓evE.eq_19, ↓evE.eq_20, ↓evE.eq_21, ↓evE.eq_22, ↓evE.eq_23, ↓evE.eq_24, ↓evE.eq_25, ↓evE.eq_26, ↓evE.eq_27, ↓evE.eq_28, ↓evE.eq_29, ↓evE.eq_30, ↓evE.eq_31, ↓evE.eq_32, ↓evE.eq_33, ↓evE.eq_34, ↓evE.eq_35, ↓evE.eq_36, ↓evE.eq_37, ↓evE.eq_38, ↓evS.eq_1, ↓evS_seq, ↓evS.eq_3, ↓evS.eq_4, ↓evS.eq_5, ↓evS.eq_6, ↓evS.eq_7, ↓evS.eq_8, ↓evS_ite, ↓iteS, ↓evS.eq_11, ↓evS.eq_12, ↓evS.eq_13, ↓evS.eq_14, ↓evS.eq_15, ↓evS.eq_16, ↓evS.eq_17, ↓evS_for, ↓evA.eq_1, ↓evA.eq_2, ↓evT.eq_1, ↓evT.eq_2, ↓evO.eq_1, ↓evO.eq_2, ↓evI.eq_1, ↓evI.eq_2, ↓evI.eq_3, ↓evI.eq_4, ↓evI.eq_5, ↓evF.eq_1, ↓evF.eq_2, ↓m_bind, ↓m_then, ↓m_opt, SRes.bind_nx, SRes.bind_rt, SRes.bind_bk, SRes.bind_ct, SRes.bind_ex, SRes.bind_bad, at_call, at_glo, at_fuel, SRes.back, List.getElem?_cons_zero, List.getElem?_cons_succ, List.set_cons_zero, List.set_cons_succ, asgT, asgTs, cmpV, truV, binV, bltV, tyN, tyLe, subV, Option.map_some, Option.map_none, List.any_cons, List.any_nil, if_true, if_false, ite_true, ite_false, String.reduceBEq, Nat.reduceAdd, Bool.or_false, Bool.false_or, Bool.or_true, Bool.true_or, Bool.and_true, Bool.true_and, Bool.and_false, Bool.false_and, Bool.not_true, Bool.not_false, beq_self_eq_true, decide_true, decide_false, reduceCtorEq, Bool.false_eq_true, Ev.keyOf, dctKeys, List.length_cons, List.length_nil, List.zip_cons_cons, List.zip_nil_left, List.zip_nil_right, List.foldl_cons, List.foldl_nil, methV, setV, isL, permL_cons, permL_nil, List.map_cons, List.map_nil, valP_cons, valP_nil, key_str, key_int, ofString_eq, String.reduceEq, putP, sizeLine_eq, Nat.reduceLT, Nat.reduceLeDiff, sto_self, mulOk, powOk, divOk, Int.reducePow, Nat.reducePow, Int.reduceNeg, Int.reduceLT, Int.reduceLE, natAbs64, natAbs30, Int.reduceToNat, Int.reduceEq, Int.reduceAdd, Int.reduceSub, Int.reduceMul, ne_eq, not_false_eq_true, Int.reduceNe, Ev.alloc, Ev.eq_ii, Ev.eq_ss, Ev.eq_bb, Ev.eq_nn, Ev.eq_ni, Ev.eq_in, Ev.eq_ns, Ev.eq_sn, Ev.eq_nb, Ev.eq_bn, Ev.eq_is, Ev.eq_si, and_self, true_and, and_true, fmod_lt64, fmod_gt64, atI_0, atI_1, atI_2, atI_3, atI_4, atI_5, atI_6, atI_7, atI_8, atI_9, itemsV, smV, fmtV, lenSetV, seqOf, lstOf, slcV, revV, srcOf, optI, List.nil_append, List.cons_append, sto_new, intsP, sortI, insI, compL, compG, wipeP, boolsP, List.all_cons, List.all_nil, id_eq, keep_nil, maxI, minI, intsP, cutf_1, cutf_2, cutf_3, cutf_4, cutt_1, cutt_2, cutt_3, cutt_4, List.drop_succ_cons, List.drop_zero, List.take_succ_cons, List.take_zero, Int.cast_ofNat_Int, false_and, and_false, or_self, or_false, false_or, true_or, or_true]
/-! pools -/
abbrev Pool := List (List Nat × Nat)
abbrev eV (p : List Nat × Nat) : PV := .tup [tv p.1, .int (p.2 : Nat)]
abbrev pV (P : Pool) : PV := .tup (P.map eV)
structure IsPool (P : Pool) : Prop where
  pos : 1 ≤ P.length
  le : P.length ≤ 8
  w : ∀ p ∈ P, word p.1 ∧ 1 ≤ p.2 ∧ p.2 ≤ 100
  nd : (P.map (·.1)).Nodup
theorem all_const {α : Type} (xs : List α) : (xs.map fun _ => true).all id = true := by simp
theorem keys_tsv : ∀ ts : List (List Nat), keysP (tsv ts) = some (ts.map fun t => (.inr (tS t) : Key))
  | [] => rfl
  | t :: ts => by
    show (keysP (tsv ts)).map (.inr (tS t) :: ·) = _
    rw [keys_tsv ts]; rfl
theorem uniq_nodup {ks : List Key} (h : ks.Nodup) : uniq ks = ks := by
  have : ∀ (xs acc : List Key), (acc ++ xs).Nodup → xs.foldl (fun acc k => if memB k acc = true then acc else acc ++ [k]) acc = acc ++ xs := by
    intro xs
    induction xs with
    | nil => intro acc _; simp
    | cons x xs ih =>
      intro acc hn
      have hx : memB x acc = false := by
        unfold memB
        rw [List.any_eq_false]
        intro y hy e
        have : y = x := of_decide_eq_true e
        subst this
        exact (List.nodup_append.mp hn).2.2 _ hy _ List.mem_cons_self rfl
      rw [List.foldl_cons, hx]
      simp only [Bool.false_eq_true, if_false]
      rw [ih (acc ++ [x]) (by rw [List.append_assoc]; exact hn), List.append_assoc]
      rfl
  have := this ks [] (by simpa using h)
  rw [List.nil_append] at this
  exact this
theorem pool_ok (n : Nat) (M : Sto) {P : Pool} (h : IsPool P) : ∃ M', callN T (n + 3) "is_pool_value" [pV P] M = .ok (.bl true) M' ∧ Keep [] M M' := by
  obtain ⟨h1, h2, h3, h4⟩ := h
  have q1 : ((1 : Int) ≤ P.length) = True := eq_true (by omega)
  have q2 : ((P.length : Int) ≤ 8) = True := eq_true (by omega)
  rw [e_is_pool_value]
  unfold c_is_pool_value
  simp only [↓evE.eq_1, ↓evE.eq_2, ↓evE.eq_3, ↓evE.eq_4, ↓evE.eq_5, ↓evE.eq_6, ↓evE.eq_7, ↓evE.eq_8, ↓evE.eq_9, ↓evE.eq_10, ↓evE.eq_11, ↓evE.eq_12, ↓evE.eq_13, ↓evE.eq_14, ↓evE.eq_15, ↓evE.eq_16, ↓evE.eq_17, ↓evE.eq_18, ↓evE.eq_19, ↓evE.eq_20, ↓evE.eq_21, ↓evE.eq_22, ↓evE.eq_23, ↓evE.eq_24, ↓evE.eq_25, ↓evE.eq_26, ↓evE.eq_27, ↓evE.eq_28, ↓evE.eq_29, ↓evE.eq_30, ↓evE.eq_31, ↓evE.eq_32, ↓evE.eq_33, ↓evE.eq_34, ↓evE.eq_35, ↓evE.eq_36, ↓evE.eq_37, ↓evE.eq_38, ↓evS.eq_1, ↓evS_seq, ↓evS.eq_3, ↓evS.eq_4, ↓evS.eq_5, ↓evS.eq_6, ↓evS.eq_7, ↓evS.eq_8, ↓evS_ite, ↓iteS, ↓evS.eq_11, ↓evS.eq_12, ↓evS.eq_13, ↓evS.eq_14, ↓evS.eq_15, ↓evS.eq_16, ↓evS.eq_17, ↓evS_for, ↓evA.eq_1, ↓evA.eq_2, ↓evT.eq_1, ↓evT.eq_2, ↓evO.eq_1, ↓evO.eq_2, ↓evI.eq_1, ↓evI.eq_2, ↓evI.eq_3, ↓evI.eq_4, ↓evI.eq_5, ↓evF.eq_1, ↓evF.eq_2, ↓m_bind, ↓m_then, ↓m_opt, SRes.bind_nx, SRes.bind_rt, SRes.bind_bk, SRes.bind_ct, SRes.bind_ex, SRes.bind_bad, at_call, at_glo, at_fuel, SRes.back, List.getElem?_cons_zero, List.getElem?_cons_succ, List.set_cons_zero, List.set_cons_succ, asgT, asgTs, cmpV, truV, binV, bltV, tyN, tyLe, subV, Option.map_some, Option.map_none, List.any_cons, List.any_nil, if_true, if_false, ite_true, ite_false, String.reduceBEq, Nat.reduceAdd, Bool.or_false, Bool.false_or, Bool.or_true, Bool.true_or, Bool.and_true, Bool.true_and, Bool.and_false, Bool.false_and, Bool.not_true, Bool.not_false, beq_self_eq_true, decide_true, decide_false, reduceCtorEq, Bool.false_eq_true, Ev.keyOf, dctKeys, List.length_cons, List.length_nil, List.zip_cons_cons, List.zip_nil_left, List.zip_nil_right, List.foldl_cons, List.foldl_nil, methV, setV, isL, permL_cons, permL_nil, List.map_cons, List.map_nil, valP_cons, valP_nil, key_str, key_int, ofString_eq, String.reduceEq, putP, sizeLine_eq, Nat.reduceLT, Nat.reduceLeDiff, sto_self, mulOk, powOk, divOk, Int.reducePow, Nat.reducePow, Int.reduceNeg, Int.reduceLT, Int.reduceLE, natAbs64, natAbs30, Int.reduceToNat, Int.reduceEq, Int.reduceAdd, Int.reduceSub, Int.reduceMul, ne_eq, not_false_eq_true, Int.reduceNe, Ev.alloc, Ev.eq_ii, Ev.eq_ss, Ev.eq_bb, Ev.eq_nn, Ev.eq_ni, Ev.eq_in, Ev.eq_ns, Ev.eq_sn, Ev.eq_nb, Ev.eq_bn, Ev.eq_is, Ev.eq_si, and_self, true_and, and_true, fmod_lt64, fmod_gt64, atI_0, atI_1, atI_2, atI_3, atI_4, atI_5, atI_6, atI_7, atI_8, atI_9, itemsV, smV, fmtV, lenSetV, seqOf, lstOf, slcV, revV, srcOf, optI, List.nil_append, List.cons_append, sto_new, intsP, sortI, insI, compL, compG, wipeP, boolsP, List.all_cons, List.all_nil, id_eq, keep_nil, maxI, minI, intsP, cutf_1, cutf_2, cutf_3, cutf_4, cutt_1, cutt_2, cutt_3, cutt_4, List.drop_succ_cons, List.drop_zero, List.take_succ_cons, List.take_zero, Int.cast_ofNat_Int, false_and, and_false, or_self, or_false, false_or, true_or, or_true, lit_e, tS_len, tS_cat, tS_eq, tS_lt, List.toList_toArray, g_MOST_WORD, g_LETTERS, g_MOST_POOL, g_MOST_WEIGHT, GC.pv, List.length_map, q1, q2]
  generalize hz : compL _ _ _ _ _ = z
  have hc := comp_map P eV (fun _ => .bl true) hz (keep_nil _) (fun p hp => by simp only [↓evE.eq_1, ↓evE.eq_2, ↓evE.eq_3, ↓evE.eq_4, ↓evE.eq_5, ↓evE.eq_6, ↓evE.eq_7, ↓evE.eq_8, ↓evE.eq_9, ↓evE.eq_10, ↓evE.eq_11, ↓evE.eq_12, ↓evE.eq_13, ↓evE.eq_14, ↓evE.eq_15, ↓evE.eq_16, ↓evE.eq_17, ↓evE.eq_18, ↓evE.eq_19, ↓evE.eq_20, ↓evE.eq_21, ↓evE.eq_22, ↓evE.eq_23, ↓evE.eq_24, ↓evE.eq_25, ↓evE.eq_26, ↓evE.eq_27, ↓evE.eq_28, ↓evE.eq_29, ↓evE.eq_30, ↓evE.eq_31, ↓evE.eq_32, ↓evE.eq_33, ↓evE.eq_34, ↓evE.eq_35, ↓evE.eq_36, ↓evE.eq_37, ↓evE.eq_38, ↓evS.eq_1, ↓evS_seq, ↓evS.eq_3, ↓evS.eq_4, ↓evS.eq_5, ↓evS.eq_6, ↓evS.eq_7, ↓evS.eq_8, ↓evS_ite, ↓iteS, ↓evS.eq_11, ↓evS.eq_12, ↓evS.eq_13, ↓evS.eq_14, ↓evS.eq_15, ↓evS.eq_16, ↓evS.eq_17, ↓evS_for, ↓evA.eq_1, ↓evA.eq_2, ↓evT.eq_1, ↓evT.eq_2, ↓evO.eq_1, ↓evO.eq_2, ↓evI.eq_1, ↓evI.eq_2, ↓evI.eq_3, ↓evI.eq_4, ↓evI.eq_5, ↓evF.eq_1, ↓evF.eq_2, ↓m_bind, ↓m_then, ↓m_opt, SRes.bind_nx, SRes.bind_rt, SRes.bind_bk, SRes.bind_ct, SRes.bind_ex, SRes.bind_bad, at_call, at_glo, at_fuel, SRes.back, List.getElem?_cons_zero, List.getElem?_cons_succ, List.set_cons_zero, List.set_cons_succ, asgT, asgTs, cmpV, truV, binV, bltV, tyN, tyLe, subV, Option.map_some, Option.map_none, List.any_cons, List.any_nil, if_true, if_false, ite_true, ite_false, String.reduceBEq, Nat.reduceAdd, Bool.or_false, Bool.false_or, Bool.or_true, Bool.true_or, Bool.and_true, Bool.true_and, Bool.and_false, Bool.false_and, Bool.not_true, Bool.not_false, beq_self_eq_true, decide_true, decide_false, reduceCtorEq, Bool.false_eq_true, Ev.keyOf, dctKeys, List.length_cons, List.length_nil, List.zip_cons_cons, List.zip_nil_left, List.zip_nil_right, List.foldl_cons, List.foldl_nil, methV, setV, isL, permL_cons, permL_nil, List.map_cons, List.map_nil, valP_cons, valP_nil, key_str, key_int, ofString_eq, String.reduceEq, putP, sizeLine_eq, Nat.reduceLT, Nat.reduceLeDiff, sto_self, mulOk, powOk, divOk, Int.reducePow, Nat.reducePow, Int.reduceNeg, Int.reduceLT, Int.reduceLE, natAbs64, natAbs30, Int.reduceToNat, Int.reduceEq, Int.reduceAdd, Int.reduceSub, Int.reduceMul, ne_eq, not_false_eq_true, Int.reduceNe, Ev.alloc, Ev.eq_ii, Ev.eq_ss, Ev.eq_bb, Ev.eq_nn, Ev.eq_ni, Ev.eq_in, Ev.eq_ns, Ev.eq_sn, Ev.eq_nb, Ev.eq_bn, Ev.eq_is, Ev.eq_si, and_self, true_and, and_true, fmod_lt64, fmod_gt64, atI_0, atI_1, atI_2, atI_3, atI_4, atI_5, atI_6, atI_7, atI_8, atI_9, itemsV, smV, fmtV, lenSetV, seqOf, lstOf, slcV, revV, srcOf, optI, List.nil_append, List.cons_append, sto_new, intsP, sortI, insI, compL, compG, wipeP, boolsP, List.all_cons, List.all_nil, id_eq, keep_nil, maxI, minI, intsP, cutf_1, cutf_2, cutf_3, cutf_4, cutt_1, cutt_2, cutt_3, cutt_4, List.drop_succ_cons, List.drop_zero, List.take_succ_cons, List.take_zero, Int.cast_ofNat_Int, false_and, and_false, or_self, or_false, false_or, true_or, or_true, lit_e, tS_len, tS_cat, tS_eq, tS_lt, List.toList_toArray, g_MOST_WORD, g_LETTERS, g_MOST_POOL, g_MOST_WEIGHT, GC.pv, is_row_ok]) (by rw [sizeLine_eq]; omega)
  subst hc
  have e := bools_of (fun _ : List Nat × Nat => true) P
  simp only [↓evE.eq_1, ↓evE.eq_2, ↓evE.eq_3, ↓evE.eq_4, ↓evE.eq_5, ↓evE.eq_6, ↓evE.eq_7, ↓evE.eq_8, ↓evE.eq_9, ↓evE.eq_10, ↓evE.eq_11, ↓evE.eq_12, ↓evE.eq_13, ↓evE.eq_14, ↓evE.eq_15, ↓evE.eq_16, ↓evE.eq_17, ↓evE.eq_18, ↓evE.eq_19, ↓evE.eq_20, ↓evE.eq_21, ↓evE.eq_22, ↓evE.eq_23, ↓evE.eq_24, ↓evE.eq_25, ↓evE.eq_26, ↓evE.eq_27, ↓evE.eq_28, ↓evE.eq_29, ↓evE.eq_30, ↓evE.eq_31, ↓evE.eq_32, ↓evE.eq_33, ↓evE.eq_34, ↓evE.eq_35, ↓evE.eq_36, ↓evE.eq_37, ↓evE.eq_38, ↓evS.eq_1, ↓evS_seq, ↓evS.eq_3, ↓evS.eq_4, ↓evS.eq_5, ↓evS.eq_6, ↓evS.eq_7, ↓evS.eq_8, ↓evS_ite, ↓iteS, ↓evS.eq_11, ↓evS.eq_12, ↓evS.eq_13, ↓evS.eq_14, ↓evS.eq_15, ↓evS.eq_16, ↓evS.eq_17, ↓evS_for, ↓evA.eq_1, ↓evA.eq_2, ↓evT.eq_1, ↓evT.eq_2, ↓evO.eq_1, ↓evO.eq_2, ↓evI.eq_1, ↓evI.eq_2, ↓evI.eq_3, ↓evI.eq_4, ↓evI.eq_5, ↓evF.eq_1, ↓evF.eq_2, ↓m_bind, ↓m_then, ↓m_opt, SRes.bind_nx, SRes.bind_rt, SRes.bind_bk, SRes.bind_ct, SRes.bind_ex, SRes.bind_bad, at_call, at_glo, at_fuel, SRes.back, List.getElem?_cons_zero, List.getElem?_cons_succ, List.set_cons_zero, List.set_cons_succ, asgT, asgTs, cmpV, truV, binV, bltV, tyN, tyLe, subV, Option.map_some, Option.map_none, List.any_cons, List.any_nil, if_true, if_false, ite_true, ite_false, String.reduceBEq, Nat.reduceAdd, Bool.or_false, Bool.false_or, Bool.or_true, Bool.true_or, Bool.and_true, Bool.true_and, Bool.and_false, Bool.false_and, Bool.not_true, Bool.not_false, beq_self_eq_true, decide_true, decide_false, reduceCtorEq, Bool.false_eq_true, Ev.keyOf, dctKeys, List.length_cons, List.length_nil, List.zip_cons_cons, List.zip_nil_left, List.zip_nil_right, List.foldl_cons, List.foldl_nil, methV, setV, isL, permL_cons, permL_nil, List.map_cons, List.map_nil, valP_cons, valP_nil, key_str, key_int, ofString_eq, String.reduceEq, putP, sizeLine_eq, Nat.reduceLT, Nat.reduceLeDiff, sto_self, mulOk, powOk, divOk, Int.reducePow, Nat.reducePow, Int.reduceNeg, Int.reduceLT, Int.reduceLE, natAbs64, natAbs30, Int.reduceToNat, Int.reduceEq, Int.reduceAdd, Int.reduceSub, Int.reduceMul, ne_eq, not_false_eq_true, Int.reduceNe, Ev.alloc, Ev.eq_ii, Ev.eq_ss, Ev.eq_bb, Ev.eq_nn, Ev.eq_ni, Ev.eq_in, Ev.eq_ns, Ev.eq_sn, Ev.eq_nb, Ev.eq_bn, Ev.eq_is, Ev.eq_si, and_self, true_and, and_true, fmod_lt64, fmod_gt64, atI_0, atI_1, atI_2, atI_3, atI_4, atI_5, atI_6, atI_7, atI_8, atI_9, itemsV, smV, fmtV, lenSetV, seqOf, lstOf, slcV, revV, srcOf, optI, List.nil_append, List.cons_append, sto_new, intsP, sortI, insI, compL, compG, wipeP, boolsP, List.all_cons, List.all_nil, id_eq, keep_nil, maxI, minI, intsP, cutf_1, cutf_2, cutf_3, cutf_4, cutt_1, cutt_2, cutt_3, cutt_4, List.drop_succ_cons, List.drop_zero, List.take_succ_cons, List.take_zero, Int.cast_ofNat_Int, false_and, and_false, or_self, or_false, false_or, true_or, or_true, lit_e, tS_len, tS_cat, tS_eq, tS_lt, List.toList_toArray, g_MOST_WORD, g_LETTERS, g_MOST_POOL, g_MOST_WEIGHT, GC.pv, e, all_const]
  generalize hz2 : compL _ _ _ _ _ = z2
  obtain ⟨out, M2, rfl, hout, k2⟩ := comp_gen' hz2 (fun xs acc M2 => (∃ dn rt : Pool, dn ++ rt = P ∧ xs = rt.map eV ∧ acc = dn.map fun _ => PV.bl true) ∧ Keep [] M M2) ⟨⟨[], P, rfl, rfl, rfl⟩, Keep.app⟩ (fun _ _ _ _ => rfl) (fun x xs acc M2 ⟨⟨dn, rt, f1, f2, f3⟩, k⟩ => by
    cases rt with
    | nil => cases f2
    | cons p rt =>
      cases f2
      have hl : dn.length ≤ 8 := by rw [← f1] at h2; simp at h2; omega
      refine ⟨by rw [f3, sizeLine_eq]; simp; omega, ?_⟩
      obtain ⟨w1, w2, w3⟩ := h3 p (by rw [← f1]; simp)
      obtain ⟨M3, e3, k3⟩ := is_word_ok (n + 1) M2 w1
      have b : decide ((1 : Int) ≤ (p.2 : Nat) ∧ ((p.2 : Nat) : Int) ≤ 100) = true := decide_eq_true (by omega)
      refine ⟨M3, .inl ⟨.bl true, ?_, ⟨dn ++ [p], rt, by rw [← f1]; simp, rfl, by rw [f3]; simp⟩, k.trans k3⟩⟩
      simp only [↓evE.eq_1, ↓evE.eq_2, ↓evE.eq_3, ↓evE.eq_4, ↓evE.eq_5, ↓evE.eq_6, ↓evE.eq_7, ↓evE.eq_8, ↓evE.eq_9, ↓evE.eq_10, ↓evE.eq_11, ↓evE.eq_12, ↓evE.eq_13, ↓evE.eq_14, ↓evE.eq_15, ↓evE.eq_16, ↓evE.eq_17, ↓evE.eq_18, ↓evE.eq_19, ↓evE.eq_20, ↓evE.eq_21, ↓evE.eq_22, ↓evE.eq_23, ↓evE.eq_24, ↓evE.eq_25, ↓evE.eq_26, ↓evE.eq_27, ↓evE.eq_28, ↓evE.eq_29, ↓evE.eq_30, ↓evE.eq_31, ↓evE.eq_32, ↓evE.eq_33, ↓evE.eq_34, ↓evE.eq_35, ↓evE.eq_36, ↓evE.eq_37, ↓evE.eq_38, ↓evS.eq_1, ↓evS_seq, ↓evS.eq_3, ↓evS.eq_4, ↓evS.eq_5, ↓evS.eq_6, ↓evS.eq_7, ↓evS.eq_8, ↓evS_ite, ↓iteS, ↓evS.eq_11, ↓evS.eq_12, ↓evS.eq_13, ↓evS.eq_14, ↓evS.eq_15, ↓evS.eq_16, ↓evS.eq_17, ↓evS_for, ↓evA.eq_1, ↓evA.eq_2, ↓evT.eq_1, ↓evT.eq_2, ↓evO.eq_1, ↓evO.eq_2, ↓evI.eq_1, ↓evI.eq_2, ↓evI.eq_3, ↓evI.eq_4, ↓evI.eq_5, ↓evF.eq_1, ↓evF.eq_2, ↓m_bind, ↓m_then, ↓m_opt, SRes.bind_nx, SRes.bind_rt, SRes.bind_bk, SRes.bind_ct, SRes.bind_ex, SRes.bind_bad, at_call, at_glo, at_fuel, SRes.back, List.getElem?_cons_zero, List.getElem?_cons_succ, List.set_cons_zero, List.set_cons_succ, asgT, asgTs, cmpV, truV, binV, bltV, tyN, tyLe, subV, Option.map_some, Option.map_none, List.any_cons, List.any_nil, if_true, if_false, ite_true, ite_false, String.reduceBEq, Nat.reduceAdd, Bool.or_false, Bool.false_or, Bool.or_true, Bool.true_or, Bool.and_true, Bool.true_and, Bool.and_false, Bool.false_and, Bool.not_true, Bool.not_false, beq_self_eq_true, decide_true, decide_false, reduceCtorEq, Bool.false_eq_true, Ev.keyOf, dctKeys, List.length_cons, List.length_nil, List.zip_cons_cons, List.zip_nil_left, List.zip_nil_right, List.foldl_cons, List.foldl_nil, methV, setV, isL, permL_cons, permL_nil, List.map_cons, List.map_nil, valP_cons, valP_nil, key_str, key_int, ofString_eq, String.reduceEq, putP, sizeLine_eq, Nat.reduceLT, Nat.reduceLeDiff, sto_self, mulOk, powOk, divOk, Int.reducePow, Nat.reducePow, Int.reduceNeg, Int.reduceLT, Int.reduceLE, natAbs64, natAbs30, Int.reduceToNat, Int.reduceEq, Int.reduceAdd, Int.reduceSub, Int.reduceMul, ne_eq, not_false_eq_true, Int.reduceNe, Ev.alloc, Ev.eq_ii, Ev.eq_ss, Ev.eq_bb, Ev.eq_nn, Ev.eq_ni, Ev.eq_in, Ev.eq_ns, Ev.eq_sn, Ev.eq_nb, Ev.eq_bn, Ev.eq_is, Ev.eq_si, and_self, true_and, and_true, fmod_lt64, fmod_gt64, atI_0, atI_1, atI_2, atI_3, atI_4, atI_5, atI_6, atI_7, atI_8, atI_9, itemsV, smV, fmtV, lenSetV, seqOf, lstOf, slcV, revV, srcOf, optI, List.nil_append, List.cons_append, sto_new, intsP, sortI, insI, compL, compG, wipeP, boolsP, List.all_cons, List.all_nil, id_eq, keep_nil, maxI, minI, intsP, cutf_1, cutf_2, cutf_3, cutf_4, cutt_1, cutt_2, cutt_3, cutt_4, List.drop_succ_cons, List.drop_zero, List.take_succ_cons, List.take_zero, Int.cast_ofNat_Int, false_and, and_false, or_self, or_false, false_or, true_or, or_true, lit_e, tS_len, tS_cat, tS_eq, tS_lt, List.toList_toArray, g_MOST_WORD, g_LETTERS, g_MOST_POOL, g_MOST_WEIGHT, GC.pv, e3, is_between_ok, b])
  obtain ⟨dn, rt, f1, f2, f3⟩ := hout
  have : rt = [] := by cases rt with
    | nil => rfl
    | cons _ _ => cases f2
  subst this
  rw [List.append_nil] at f1
  subst f1 f3
  simp only [↓evE.eq_1, ↓evE.eq_2, ↓evE.eq_3, ↓evE.eq_4, ↓evE.eq_5, ↓evE.eq_6, ↓evE.eq_7, ↓evE.eq_8, ↓evE.eq_9, ↓evE.eq_10, ↓evE.eq_11, ↓evE.eq_12, ↓evE.eq_13, ↓evE.eq_14, ↓evE.eq_15, ↓evE.eq_16, ↓evE.eq_17, ↓evE.eq_18, ↓evE.eq_19, ↓evE.eq_20, ↓evE.eq_21, ↓evE.eq_22, ↓evE.eq_23, ↓evE.eq_24, ↓evE.eq_25, ↓evE.eq_26, ↓evE.eq_27, ↓evE.eq_28, ↓evE.eq_29, ↓evE.eq_30, ↓evE.eq_31, ↓evE.eq_32, ↓evE.eq_33, ↓evE.eq_34, ↓evE.eq_35, ↓evE.eq_36, ↓evE.eq_37, ↓evE.eq_38, ↓evS.eq_1, ↓evS_seq, ↓evS.eq_3, ↓evS.eq_4, ↓evS.eq_5, ↓evS.eq_6, ↓evS.eq_7, ↓evS.eq_8, ↓evS_ite, ↓iteS, ↓evS.eq_11, ↓evS.eq_12, ↓evS.eq_13, ↓evS.eq_14, ↓evS.eq_15, ↓evS.eq_16, ↓evS.eq_17, ↓evS_for, ↓evA.eq_1, ↓evA.eq_2, ↓evT.eq_1, ↓evT.eq_2, ↓evO.eq_1, ↓evO.eq_2, ↓evI.eq_1, ↓evI.eq_2, ↓evI.eq_3, ↓evI.eq_4, ↓evI.eq_5, ↓evF.eq_1, ↓evF.eq_2, ↓m_bind, ↓m_then, ↓m_opt, SRes.bind_nx, SRes.bind_rt, SRes.bind_bk, SRes.bind_ct, SRes.bind_ex, SRes.bind_bad, at_call, at_glo, at_fuel, SRes.back, List.getElem?_cons_zero, List.getElem?_cons_succ, List.set_cons_zero, List.set_cons_succ, asgT, asgTs, cmpV, truV, binV, bltV, tyN, tyLe, subV, Option.map_some, Option.map_none, List.any_cons, List.any_nil, if_true, if_false, ite_true, ite_false, String.reduceBEq, Nat.reduceAdd, Bool.or_false, Bool.false_or, Bool.or_true, Bool.true_or, Bool.and_true, Bool.true_and, Bool.and_false, Bool.false_and, Bool.not_true, Bool.not_false, beq_self_eq_true, decide_true, decide_false, reduceCtorEq, Bool.false_eq_true, Ev.keyOf, dctKeys, List.length_cons, List.length_nil, List.zip_cons_cons, List.zip_nil_left, List.zip_nil_right, List.foldl_cons, List.foldl_nil, methV, setV, isL, permL_cons, permL_nil, List.map_cons, List.map_nil, valP_cons, valP_nil, key_str, key_int, ofString_eq, String.reduceEq, putP, sizeLine_eq, Nat.reduceLT, Nat.reduceLeDiff, sto_self, mulOk, powOk, divOk, Int.reducePow, Nat.reducePow, Int.reduceNeg, Int.reduceLT, Int.reduceLE, natAbs64, natAbs30, Int.reduceToNat, Int.reduceEq, Int.reduceAdd, Int.reduceSub, Int.reduceMul, ne_eq, not_false_eq_true, Int.reduceNe, Ev.alloc, Ev.eq_ii, Ev.eq_ss, Ev.eq_bb, Ev.eq_nn, Ev.eq_ni, Ev.eq_in, Ev.eq_ns, Ev.eq_sn, Ev.eq_nb, Ev.eq_bn, Ev.eq_is, Ev.eq_si, and_self, true_and, and_true, fmod_lt64, fmod_gt64, atI_0, atI_1, atI_2, atI_3, atI_4, atI_5, atI_6, atI_7, atI_8, atI_9, itemsV, smV, fmtV, lenSetV, seqOf, lstOf, slcV, revV, srcOf, optI, List.nil_append, List.cons_append, sto_new, intsP, sortI, insI, compL, compG, wipeP, boolsP, List.all_cons, List.all_nil, id_eq, keep_nil, maxI, minI, intsP, cutf_1, cutf_2, cutf_3, cutf_4, cutt_1, cutt_2, cutt_3, cutt_4, List.drop_succ_cons, List.drop_zero, List.take_succ_cons, List.take_zero, Int.cast_ofNat_Int, false_and, and_false, or_self, or_false, false_or, true_or, or_true, lit_e, tS_len, tS_cat, tS_eq, tS_lt, List.toList_toArray, g_MOST_WORD, g_LETTERS, g_MOST_POOL, g_MOST_WEIGHT, GC.pv, e, all_const]
  generalize hz3 : compL _ _ _ _ _ = z3
  have hc3 := comp_map dn eV (fun p => tv p.1) hz3 (keep_nil _) (fun p hp => by simp only [↓evE.eq_1, ↓evE.eq_2, ↓evE.eq_3, ↓evE.eq_4, ↓evE.eq_5, ↓evE.eq_6, ↓evE.eq_7, ↓evE.eq_8, ↓evE.eq_9, ↓evE.eq_10, ↓evE.eq_11, ↓evE.eq_12, ↓evE.eq_13, ↓evE.eq_14, ↓evE.eq_15, ↓evE.eq_16, ↓evE.eq_17, ↓evE.eq_18, ↓evE.eq_19, ↓evE.eq_20, ↓evE.eq_21, ↓evE.eq_22, ↓evE.eq_23, ↓evE.eq_24, ↓evE.eq_25, ↓evE.eq_26, ↓evE.eq_27, ↓evE.eq_28, ↓evE.eq_29, ↓evE.eq_30, ↓evE.eq_31, ↓evE.eq_32, ↓evE.eq_33, ↓evE.eq_34, ↓evE.eq_35, ↓evE.eq_36, ↓evE.eq_37, ↓evE.eq_38, ↓evS.eq_1, ↓evS_seq, ↓evS.eq_3, ↓evS.eq_4, ↓evS.eq_5, ↓evS.eq_6, ↓evS.eq_7, ↓evS.eq_8, ↓evS_ite, ↓iteS, ↓evS.eq_11, ↓evS.eq_12, ↓evS.eq_13, ↓evS.eq_14, ↓evS.eq_15, ↓evS.eq_16, ↓evS.eq_17, ↓evS_for, ↓evA.eq_1, ↓evA.eq_2, ↓evT.eq_1, ↓evT.eq_2, ↓evO.eq_1, ↓evO.eq_2, ↓evI.eq_1, ↓evI.eq_2, ↓evI.eq_3, ↓evI.eq_4, ↓evI.eq_5, ↓evF.eq_1, ↓evF.eq_2, ↓m_bind, ↓m_then, ↓m_opt, SRes.bind_nx, SRes.bind_rt, SRes.bind_bk, SRes.bind_ct, SRes.bind_ex, SRes.bind_bad, at_call, at_glo, at_fuel, SRes.back, List.getElem?_cons_zero, List.getElem?_cons_succ, List.set_cons_zero, List.set_cons_succ, asgT, asgTs, cmpV, truV, binV, bltV, tyN, tyLe, subV, Option.map_some, Option.map_none, List.any_cons, List.any_nil, if_true, if_false, ite_true, ite_false, String.reduceBEq, Nat.reduceAdd, Bool.or_false, Bool.false_or, Bool.or_true, Bool.true_or, Bool.and_true, Bool.true_and, Bool.and_false, Bool.false_and, Bool.not_true, Bool.not_false, beq_self_eq_true, decide_true, decide_false, reduceCtorEq, Bool.false_eq_true, Ev.keyOf, dctKeys, List.length_cons, List.length_nil, List.zip_cons_cons, List.zip_nil_left, List.zip_nil_right, List.foldl_cons, List.foldl_nil, methV, setV, isL, permL_cons, permL_nil, List.map_cons, List.map_nil, valP_cons, valP_nil, key_str, key_int, ofString_eq, String.reduceEq, putP, sizeLine_eq, Nat.reduceLT, Nat.reduceLeDiff, sto_self, mulOk, powOk, divOk, Int.reducePow, Nat.reducePow, Int.reduceNeg, Int.reduceLT, Int.reduceLE, natAbs64, natAbs30, Int.reduceToNat, Int.reduceEq, Int.reduceAdd, Int.reduceSub, Int.reduceMul, ne_eq, not_false_eq_true, Int.reduceNe, Ev.alloc, Ev.eq_ii, Ev.eq_ss, Ev.eq_bb, Ev.eq_nn, Ev.eq_ni, Ev.eq_in, Ev.eq_ns, Ev.eq_sn, Ev.eq_nb, Ev.eq_bn, Ev.eq_is, Ev.eq_si, and_self, true_and, and_true, fmod_lt64, fmod_gt64, atI_0, atI_1, atI_2, atI_3, atI_4, atI_5, atI_6, atI_7, atI_8, atI_9, itemsV, smV, fmtV, lenSetV, seqOf, lstOf, slcV, revV, srcOf, optI, List.nil_append, List.cons_append, sto_new, intsP, sortI, insI, compL, compG, wipeP, boolsP, List.all_cons, List.all_nil, id_eq, keep_nil, maxI, minI, intsP, cutf_1, cutf_2, cutf_3, cutf_4, cutt_1, cutt_2, cutt_3, cutt_4, List.drop_succ_cons, List.drop_zero, List.take_succ_cons, List.take_zero, Int.cast_ofNat_Int, false_and, and_false, or_self, or_false, false_or, true_or, or_true, lit_e, tS_len, tS_cat, tS_eq, tS_lt, List.toList_toArray, g_MOST_WORD, g_LETTERS, g_MOST_POOL, g_MOST_WEIGHT, GC.pv]) (by rw [sizeLine_eq]; omega)
  subst hc3
  have ek : keysP (dn.map fun p => tv p.1) = some (dn.map fun p => (.inr (tS p.1) : Key)) := by
    have := keys_tsv (dn.map (·.1))
    simpa [tsv, List.map_map, Function.comp_def] using this
  have nd : (dn.map fun p => (.inr (tS p.1) : Key)).Nodup := by
    have := h4
    rw [List.nodup_iff_pairwise_ne, List.pairwise_map] at this ⊢
    refine this.imp fun {a b} hab e => hab ?_
    have e' : tS a.1 = tS b.1 := Sum.inr.inj e
    exact SX.S_inj e'
  have ul : (dn.length ≤ 4000) = True := eq_true (by omega)
  simp only [↓evE.eq_1, ↓evE.eq_2, ↓evE.eq_3, ↓evE.eq_4, ↓evE.eq_5, ↓evE.eq_6, ↓evE.eq_7, ↓evE.eq_8, ↓evE.eq_9, ↓evE.eq_10, ↓evE.eq_11, ↓evE.eq_12, ↓evE.eq_13, ↓evE.eq_14, ↓evE.eq_15, ↓evE.eq_16, ↓evE.eq_17, ↓evE.eq_18, ↓evE.eq_19, ↓evE.eq_20, ↓evE.eq_21, ↓evE.eq_22, ↓evE.eq_23, ↓evE.eq_24, ↓evE.eq_25, ↓evE.eq_26, ↓evE.eq_27, ↓evE.eq_28, ↓evE.eq_29, ↓evE.eq_30, ↓evE.eq_31, ↓evE.eq_32, ↓evE.eq_33, ↓evE.eq_34, ↓evE.eq_35, ↓evE.eq_36, ↓evE.eq_37, ↓evE.eq_38, ↓evS.eq_1, ↓evS_seq, ↓evS.eq_3, ↓evS.eq_4, ↓evS.eq_5, ↓evS.eq_6, ↓evS.eq_7, ↓evS.eq_8, ↓evS_ite, ↓iteS, ↓evS.eq_11, ↓evS.eq_12, ↓evS.eq_13, ↓evS.eq_14, ↓evS.eq_15, ↓evS.eq_16, ↓evS.eq_17, ↓evS_for, ↓evA.eq_1, ↓evA.eq_2, ↓evT.eq_1, ↓evT.eq_2, ↓evO.eq_1, ↓evO.eq_2, ↓evI.eq_1, ↓evI.eq_2, ↓evI.eq_3, ↓evI.eq_4, ↓evI.eq_5, ↓evF.eq_1, ↓evF.eq_2, ↓m_bind, ↓m_then, ↓m_opt, SRes.bind_nx, SRes.bind_rt, SRes.bind_bk, SRes.bind_ct, SRes.bind_ex, SRes.bind_bad, at_call, at_glo, at_fuel, SRes.back, List.getElem?_cons_zero, List.getElem?_cons_succ, List.set_cons_zero, List.set_cons_succ, asgT, asgTs, cmpV, truV, binV, bltV, tyN, tyLe, subV, Option.map_some, Option.map_none, List.any_cons, List.any_nil, if_true, if_false, ite_true, ite_false, String.reduceBEq, Nat.reduceAdd, Bool.or_false, Bool.false_or, Bool.or_true, Bool.true_or, Bool.and_true, Bool.true_and, Bool.and_false, Bool.false_and, Bool.not_true, Bool.not_false, beq_self_eq_true, decide_true, decide_false, reduceCtorEq, Bool.false_eq_true, Ev.keyOf, dctKeys, List.length_cons, List.length_nil, List.zip_cons_cons, List.zip_nil_left, List.zip_nil_right, List.foldl_cons, List.foldl_nil, methV, setV, isL, permL_cons, permL_nil, List.map_cons, List.map_nil, valP_cons, valP_nil, key_str, key_int, ofString_eq, String.reduceEq, putP, sizeLine_eq, Nat.reduceLT, Nat.reduceLeDiff, sto_self, mulOk, powOk, divOk, Int.reducePow, Nat.reducePow, Int.reduceNeg, Int.reduceLT, Int.reduceLE, natAbs64, natAbs30, Int.reduceToNat, Int.reduceEq, Int.reduceAdd, Int.reduceSub, Int.reduceMul, ne_eq, not_false_eq_true, Int.reduceNe, Ev.alloc, Ev.eq_ii, Ev.eq_ss, Ev.eq_bb, Ev.eq_nn, Ev.eq_ni, Ev.eq_in, Ev.eq_ns, Ev.eq_sn, Ev.eq_nb, Ev.eq_bn, Ev.eq_is, Ev.eq_si, and_self, true_and, and_true, fmod_lt64, fmod_gt64, atI_0, atI_1, atI_2, atI_3, atI_4, atI_5, atI_6, atI_7, atI_8, atI_9, itemsV, smV, fmtV, lenSetV, seqOf, lstOf, slcV, revV, srcOf, optI, List.nil_append, List.cons_append, sto_new, intsP, sortI, insI, compL, compG, wipeP, boolsP, List.all_cons, List.all_nil, id_eq, keep_nil, maxI, minI, intsP, cutf_1, cutf_2, cutf_3, cutf_4, cutt_1, cutt_2, cutt_3, cutt_4, List.drop_succ_cons, List.drop_zero, List.take_succ_cons, List.take_zero, Int.cast_ofNat_Int, false_and, and_false, or_self, or_false, false_or, true_or, or_true, lit_e, tS_len, tS_cat, tS_eq, tS_lt, List.toList_toArray, g_MOST_WORD, g_LETTERS, g_MOST_POOL, g_MOST_WEIGHT, GC.pv, ek, uniq_nodup nd, ul, List.length_map]
  exact ⟨_, rfl, k2.trans (Keep.app.trans Keep.app)⟩
theorem need_pool_ok (n : Nat) (M : Sto) {P : Pool} (h : IsPool P) : ∃ M', callN T (n + 4) "need_pool" [pV P] M = .ok .non M' ∧ Keep [] M M' := by
  obtain ⟨M', e, k⟩ := pool_ok n M h
  rw [e_need_pool]
  unfold c_need_pool
  simp only [↓evE.eq_1, ↓evE.eq_2, ↓evE.eq_3, ↓evE.eq_4, ↓evE.eq_5, ↓evE.eq_6, ↓evE.eq_7, ↓evE.eq_8, ↓evE.eq_9, ↓evE.eq_10, ↓evE.eq_11, ↓evE.eq_12, ↓evE.eq_13, ↓evE.eq_14, ↓evE.eq_15, ↓evE.eq_16, ↓evE.eq_17, ↓evE.eq_18, ↓evE.eq_19, ↓evE.eq_20, ↓evE.eq_21, ↓evE.eq_22, ↓evE.eq_23, ↓evE.eq_24, ↓evE.eq_25, ↓evE.eq_26, ↓evE.eq_27, ↓evE.eq_28, ↓evE.eq_29, ↓evE.eq_30, ↓evE.eq_31, ↓evE.eq_32, ↓evE.eq_33, ↓evE.eq_34, ↓evE.eq_35, ↓evE.eq_36, ↓evE.eq_37, ↓evE.eq_38, ↓evS.eq_1, ↓evS_seq, ↓evS.eq_3, ↓evS.eq_4, ↓evS.eq_5, ↓evS.eq_6, ↓evS.eq_7, ↓evS.eq_8, ↓evS_ite, ↓iteS, ↓evS.eq_11, ↓evS.eq_12, ↓evS.eq_13, ↓evS.eq_14, ↓evS.eq_15, ↓evS.eq_16, ↓evS.eq_17, ↓evS_for, ↓evA.eq_1, ↓evA.eq_2, ↓evT.eq_1, ↓evT.eq_2, ↓evO.eq_1, ↓evO.eq_2, ↓evI.eq_1, ↓evI.eq_2, ↓evI.eq_3, ↓evI.eq_4, ↓evI.eq_5, ↓evF.eq_1, ↓evF.eq_2, ↓m_bind, ↓m_then, ↓m_opt, SRes.bind_nx, SRes.bind_rt, SRes.bind_bk, SRes.bind_ct, SRes.bind_ex, SRes.bind_bad, at_call, at_glo, at_fuel, SRes.back, List.getElem?_cons_zero, List.getElem?_cons_succ, List.set_cons_zero, List.set_cons_succ, asgT, asgTs, cmpV, truV, binV, bltV, tyN, tyLe, subV, Option.map_some, Option.map_none, List.any_cons, List.any_nil, if_true, if_false, ite_true, ite_false, String.reduceBEq, Nat.reduceAdd, Bool.or_false, Bool.false_or, Bool.or_true, Bool.true_or, Bool.and_true, Bool.true_and, Bool.and_false, Bool.false_and, Bool.not_true, Bool.not_false, beq_self_eq_true, decide_true, decide_false, reduceCtorEq, Bool.false_eq_true, Ev.keyOf, dctKeys, List.length_cons, List.length_nil, List.zip_cons_cons, List.zip_nil_left, List.zip_nil_right, List.foldl_cons, List.foldl_nil, methV, setV, isL, permL_cons, permL_nil, List.map_cons, List.map_nil, valP_cons, valP_nil, key_str, key_int, ofString_eq, String.reduceEq, putP, sizeLine_eq, Nat.reduceLT, Nat.reduceLeDiff, sto_self, mulOk, powOk, divOk, Int.reducePow, Nat.reducePow, Int.reduceNeg, Int.reduceLT, Int.reduceLE, natAbs64, natAbs30, Int.reduceToNat, Int.reduceEq, Int.reduceAdd, Int.reduceSub, Int.reduceMul, ne_eq, not_false_eq_true, Int.reduceNe, Ev.alloc, Ev.eq_ii, Ev.eq_ss, Ev.eq_bb, Ev.eq_nn, Ev.eq_ni, Ev.eq_in, Ev.eq_ns, Ev.eq_sn, Ev.eq_nb, Ev.eq_bn, Ev.eq_is, Ev.eq_si, and_self, true_and, and_true, fmod_lt64, fmod_gt64, atI_0, atI_1, atI_2, atI_3, atI_4, atI_5, atI_6, atI_7, atI_8, atI_9, itemsV, smV, fmtV, lenSetV, seqOf, lstOf, slcV, revV, srcOf, optI, List.nil_append, List.cons_append, sto_new, intsP, sortI, insI, compL, compG, wipeP, boolsP, List.all_cons, List.all_nil, id_eq, keep_nil, maxI, minI, intsP, cutf_1, cutf_2, cutf_3, cutf_4, cutt_1, cutt_2, cutt_3, cutt_4, List.drop_succ_cons, List.drop_zero, List.take_succ_cons, List.take_zero, Int.cast_ofNat_Int, false_and, and_false, or_self, or_false, false_or, true_or, or_true, lit_e, tS_len, tS_cat, tS_eq, tS_lt, List.toList_toArray, g_MOST_WORD, g_LETTERS, g_MOST_POOL, g_MOST_WEIGHT, GC.pv, e]
  exact ⟨_, rfl, k⟩
/-! lots -/
abbrev iV (k : Nat) : PV := .int (k : Nat)
abbrev lV (l : List Nat) : PV := .tup (l.map iV)
theorem zipP_map (l m : List Nat) : zipP (l.map iV) (m.map iV) = (l.zip m).map fun p => .tup [iV p.1, iV p.2] := by
  unfold zipP
  induction l generalizing m with
  | nil => simp
  | cons a l ih =>
    cases m with
    | nil => simp
    | cons b m => simp [ih]
end K18

set_option Elab.async false
set_option linter.all false
set_option maxRecDepth 100000
set_option maxHeartbeats 4000000
/-! K18r: ready, due, the turn. -/
namespace K18
open PySem L2 Ev
theorem mul_small {a b : Int} (h1 : -1000000 < b) (h2 : b < 1000000) : mulOk a b = true := by
  unfold mulOk
  simp only [Bool.or_eq_true, Bool.and_eq_true, decide_eq_true_eq]
  right
  omega
theorem mul_smallL {a b : Int} (h1 : -1000000 < a) (h2 : a < 1000000) : mulOk a b = true := by
  unfold mulOk
  simp only [Bool.or_eq_true, Bool.and_eq_true, decide_eq_true_eq]
  left
  omega
theorem div_small {b : Int} (h1 : 0 < b) (h2 : b < 1000000) : divOk b = true := by
  unfold divOk
  simp only [Bool.and_eq_true, decide_eq_true_eq]
  omega
theorem is_ready_i (n : Nat) (M : Sto) {w W g t : Int} (hw : 0 < w) (hw2 : w < 1000000) (hW : -1000000 < W) (hW2 : W < 1000000) : callN T (n + 1) "is_ready" [.int w, .int W, .int g, .int t] M = .ok (.bl (decide ((g * W).fdiv w < t))) M := by
  have h1 : mulOk g W = true := mul_small hW hW2
  have h2 : (w = 0) = False := eq_false (by omega)
  have h3 : (w.natAbs < 1073741824) = True := eq_true (by omega)
  rw [e_is_ready]
  unfold c_is_ready
  simp only [↓evE.eq_1, ↓evE.eq_2, ↓evE.eq_3, ↓evE.eq_4, ↓evE.eq_5, ↓evE.eq_6, ↓evE.eq_7, ↓evE.eq_8, ↓evE.eq_9, ↓evE.eq_10, ↓evE.eq_11, ↓evE.eq_12, ↓evE.eq_13, ↓evE.eq_14, ↓evE.eq_15, ↓evE.eq_16, ↓evE.eq_17, ↓evE.eq_18, ↓evE.eq_19, ↓evE.eq_20, ↓evE.eq_21, ↓evE.eq_22, ↓evE.eq_23, ↓evE.eq_24, ↓evE.eq_25, ↓evE.eq_26, ↓evE.eq_27, ↓evE.eq_28, ↓evE.eq_29, ↓evE.eq_30, ↓evE.eq_31, ↓evE.eq_32, ↓evE.eq_33, ↓evE.eq_34, ↓evE.eq_35, ↓evE.eq_36, ↓evE.eq_37, ↓evE.eq_38, ↓evS.eq_1, ↓evS_seq, ↓evS.eq_3, ↓evS.eq_4, ↓evS.eq_5, ↓evS.eq_6, ↓evS.eq_7, ↓evS.eq_8, ↓evS_ite, ↓iteS, ↓evS.eq_11, ↓evS.eq_12, ↓evS.eq_13, ↓evS.eq_14, ↓evS.eq_15, ↓evS.eq_16, ↓evS.eq_17, ↓evS_for, ↓evA.eq_1, ↓evA.eq_2, ↓evT.eq_1, ↓evT.eq_2, ↓evO.eq_1, ↓evO.eq_2, ↓evI.eq_1, ↓evI.eq_2, ↓evI.eq_3, ↓evI.eq_4, ↓evI.eq_5, ↓evF.eq_1, ↓evF.eq_2, ↓m_bind, ↓m_then, ↓m_opt, SRes.bind_nx, SRes.bind_rt, SRes.bind_bk, SRes.bind_ct, SRes.bind_ex, SRes.bind_bad, at_call, at_glo, at_fuel, SRes.back, List.getElem?_cons_zero, List.getElem?_cons_succ, List.set_cons_zero, List.set_cons_succ, asgT, asgTs, cmpV, truV, binV, bltV, tyN, tyLe, subV, Option.map_some, Option.map_none, List.any_cons, List.any_nil, if_true, if_false, ite_true, ite_false, String.reduceBEq, Nat.reduceAdd, Bool.or_false, Bool.false_or, Bool.or_true, Bool.true_or, Bool.and_true, Bool.true_and, Bool.and_false, Bool.false_and, Bool.not_true, Bool.not_false, beq_self_eq_true, decide_true, decide_false, reduceCtorEq, Bool.false_eq_true, Ev.keyOf, dctKeys, List.length_cons, List.length_nil, List.zip_cons_cons, List.zip_nil_left, List.zip_nil_right, List.foldl_cons, List.foldl_nil, methV, setV, isL, permL_cons, permL_nil, List.map_cons, List.map_nil, valP_cons, valP_nil, key_str, key_int, ofString_eq, String.reduceEq, putP, sizeLine_eq, Nat.reduceLT, Nat.reduceLeDiff, sto_self, powOk, divOk, Int.reducePow, Nat.reducePow, Int.reduceNeg, Int.reduceLT, Int.reduceLE, natAbs64, natAbs30, Int.reduceToNat, Int.reduceEq, Int.reduceAdd, Int.reduceSub, Int.reduceMul, ne_eq, not_false_eq_true, Int.reduceNe, Ev.alloc, Ev.eq_ii, Ev.eq_ss, Ev.eq_bb, Ev.eq_nn, Ev.eq_ni, Ev.eq_in, Ev.eq_ns, Ev.eq_sn, Ev.eq_nb, Ev.eq_bn, Ev.eq_is, Ev.eq_si, and_self, true_and, and_true, fmod_lt64, fmod_gt64, atI_0, atI_1, atI_2, atI_3, atI_4, atI_5, atI_6, atI_7, atI_8, atI_9, itemsV, smV, fmtV, lenSetV, seqOf, lstOf, slcV, revV, srcOf, optI, List.nil_append, List.cons_append, sto_new, intsP, sortI, insI, compL, compG, wipeP, boolsP, List.all_cons, List.all_nil, id_eq, keep_nil, maxI, minI, intsP, cutf_1, cutf_2, cutf_3, cutf_4, cutt_1, cutt_2, cutt_3, cutt_4, List.drop_succ_cons, List.drop_zero, List.take_succ_cons, List.take_zero, Int.cast_ofNat_Int, false_and, and_false, or_self, or_false, false_or, true_or, or_true, lit_e, tS_len, tS_cat, tS_eq, tS_lt, List.toList_toArray, g_MOST_WORD, g_LETTERS, g_MOST_POOL, g_MOST_WEIGHT, GC.pv, h1, h2, h3]
theorem due_i (n : Nat) (M : Sto) {w W k : Int} (hw : 0 < w) (hw2 : w < 1000000) (hW : -1000000 < W) (hW2 : W < 1000000) : callN T (n + 1) "due_time" [.int w, .int W, .int k] M = .ok (.int (-((-k * W).fdiv w))) M := by
  have h1 : mulOk (-k) W = true := mul_small hW hW2
  have h2 : (w = 0) = False := eq_false (by omega)
  have h3 : (w.natAbs < 1073741824) = True := eq_true (by omega)
  rw [e_due_time]
  unfold c_due_time
  simp only [↓evE.eq_1, ↓evE.eq_2, ↓evE.eq_3, ↓evE.eq_4, ↓evE.eq_5, ↓evE.eq_6, ↓evE.eq_7, ↓evE.eq_8, ↓evE.eq_9, ↓evE.eq_10, ↓evE.eq_11, ↓evE.eq_12, ↓evE.eq_13, ↓evE.eq_14, ↓evE.eq_15, ↓evE.eq_16, ↓evE.eq_17, ↓evE.eq_18, ↓evE.eq_19, ↓evE.eq_20, ↓evE.eq_21, ↓evE.eq_22, ↓evE.eq_23, ↓evE.eq_24, ↓evE.eq_25, ↓evE.eq_26, ↓evE.eq_27, ↓evE.eq_28, ↓evE.eq_29, ↓evE.eq_30, ↓evE.eq_31, ↓evE.eq_32, ↓evE.eq_33, ↓evE.eq_34, ↓evE.eq_35, ↓evE.eq_36, ↓evE.eq_37, ↓evE.eq_38, ↓evS.eq_1, ↓evS_seq, ↓evS.eq_3, ↓evS.eq_4, ↓evS.eq_5, ↓evS.eq_6, ↓evS.eq_7, ↓evS.eq_8, ↓evS_ite, ↓iteS, ↓evS.eq_11, ↓evS.eq_12, ↓evS.eq_13, ↓evS.eq_14, ↓evS.eq_15, ↓evS.eq_16, ↓evS.eq_17, ↓evS_for, ↓evA.eq_1, ↓evA.eq_2, ↓evT.eq_1, ↓evT.eq_2, ↓evO.eq_1, ↓evO.eq_2, ↓evI.eq_1, ↓evI.eq_2, ↓evI.eq_3, ↓evI.eq_4, ↓evI.eq_5, ↓evF.eq_1, ↓evF.eq_2, ↓m_bind, ↓m_then, ↓m_opt, SRes.bind_nx, SRes.bind_rt, SRes.bind_bk, SRes.bind_ct, SRes.bind_ex, SRes.bind_bad, at_call, at_glo, at_fuel, SRes.back, List.getElem?_cons_zero, List.getElem?_cons_succ, List.set_cons_zero, List.set_cons_succ, asgT, asgTs, cmpV, truV, binV, bltV, tyN, tyLe, subV, Option.map_some, Option.map_none, List.any_cons, List.any_nil, if_true, if_false, ite_true, ite_false, String.reduceBEq, Nat.reduceAdd, Bool.or_false, Bool.false_or, Bool.or_true, Bool.true_or, Bool.and_true, Bool.true_and, Bool.and_false, Bool.false_and, Bool.not_true, Bool.not_false, beq_self_eq_true, decide_true, decide_false, reduceCtorEq, Bool.false_eq_true, Ev.keyOf, dctKeys, List.length_cons, List.length_nil, List.zip_cons_cons, List.zip_nil_left, List.zip_nil_right, List.foldl_cons, List.foldl_nil, methV, setV, isL, permL_cons, permL_nil, List.map_cons, List.map_nil, valP_cons, valP_nil, key_str, key_int, ofString_eq, String.reduceEq, putP, sizeLine_eq, Nat.reduceLT, Nat.reduceLeDiff, sto_self, powOk, divOk, Int.reducePow, Nat.reducePow, Int.reduceNeg, Int.reduceLT, Int.reduceLE, natAbs64, natAbs30, Int.reduceToNat, Int.reduceEq, Int.reduceAdd, Int.reduceSub, Int.reduceMul, ne_eq, not_false_eq_true, Int.reduceNe, Ev.alloc, Ev.eq_ii, Ev.eq_ss, Ev.eq_bb, Ev.eq_nn, Ev.eq_ni, Ev.eq_in, Ev.eq_ns, Ev.eq_sn, Ev.eq_nb, Ev.eq_bn, Ev.eq_is, Ev.eq_si, and_self, true_and, and_true, fmod_lt64, fmod_gt64, atI_0, atI_1, atI_2, atI_3, atI_4, atI_5, atI_6, atI_7, atI_8, atI_9, itemsV, smV, fmtV, lenSetV, seqOf, lstOf, slcV, revV, srcOf, optI, List.nil_append, List.cons_append, sto_new, intsP, sortI, insI, compL, compG, wipeP, boolsP, List.all_cons, List.all_nil, id_eq, keep_nil, maxI, minI, intsP, cutf_1, cutf_2, cutf_3, cutf_4, cutt_1, cutt_2, cutt_3, cutt_4, List.drop_succ_cons, List.drop_zero, List.take_succ_cons, List.take_zero, Int.cast_ofNat_Int, false_and, and_false, or_self, or_false, false_or, true_or, or_true, lit_e, tS_len, tS_cat, tS_eq, tS_lt, List.toList_toArray, g_MOST_WORD, g_LETTERS, g_MOST_POOL, g_MOST_WEIGHT, GC.pv, h1, h2, h3]
theorem fdiv_nat (a b : Nat) : ((a : Int)).fdiv (b : Int) = ((a / b : Nat) : Int) := by
  rw [Int.fdiv_eq_ediv_of_nonneg _ (Int.natCast_nonneg b)]
  rfl
theorem ceil_nat {x w : Nat} (hw : 0 < w) : -((-(x : Int)).fdiv (w : Int)) = (((x + w - 1) / w : Nat) : Int) := by
  rw [Int.fdiv_eq_ediv_of_nonneg _ (Int.natCast_nonneg w)]
  have h1 : w * ((x + w - 1) / w) ≤ x + w - 1 := Nat.mul_div_le _ _
  have h2 : x + w - 1 < w * ((x + w - 1) / w) + w := Nat.lt_mul_div_succ _ hw
  generalize (x + w - 1) / w = q at h1 h2
  have e : (-(x : Int)) / (w : Int) = -(q : Int) := by
    have hw' : (0 : Int) < (w : Int) := by omega
    have m1 : ((w * q : Nat) : Int) = (w : Int) * (q : Int) := by push_cast; rfl
    apply Int.le_antisymm
    · refine Int.lt_add_one_iff.mp (Int.ediv_lt_of_lt_mul hw' ?_)
      rw [Int.add_mul, Int.neg_mul, Int.one_mul, Int.mul_comm, ← m1]
      omega
    · refine Int.le_ediv_of_mul_le hw' ?_
      rw [Int.neg_mul, Int.mul_comm, ← m1]
      omega
  rw [e]
  omega
theorem is_ready_ok (n : Nat) (M : Sto) {w W g t : Nat} (hw : 0 < w ∧ w ≤ 100) (hW : W ≤ 800) : callN T (n + 1) "is_ready" [iV w, iV W, iV g, .int ((t : Int) + 1)] M = .ok (.bl (decide (Rdy w g W t))) M := by
  rw [is_ready_i n M (by omega) (by omega) (by omega) (by omega)]
  rw [show ((g : Int) * (W : Int)) = ((g * W : Nat) : Int) by push_cast; rfl, fdiv_nat]
  congr 2
  unfold Rdy
  rw [decide_eq_decide]
  omega
theorem due_ok (n : Nat) (M : Sto) {w W k : Nat} (hw : 0 < w ∧ w ≤ 100) (hW : W ≤ 800) : callN T (n + 1) "due_time" [iV w, iV W, .int ((k : Int) + 1)] M = .ok (iV (Due w k W)) M := by
  rw [due_i n M (by omega) (by omega) (by omega) (by omega)]
  rw [show (-((k : Int) + 1) * (W : Int)) = -(((k + 1) * W : Nat) : Int) by push_cast; rw [Int.neg_mul], ceil_nat hw.1]
theorem weights_ok (n : Nat) (M : Sto) (P : Pool) (hP : P.length ≤ 8) : callN T (n + 1) "weights_of" [pV P] M = .ok (.ref M.length) (M ++ [.lst ((P.map (·.2)).map iV)]) := by
  rw [e_weights_of]
  unfold c_weights_of
  simp only [↓evE.eq_1, ↓evE.eq_2, ↓evE.eq_3, ↓evE.eq_4, ↓evE.eq_5, ↓evE.eq_6, ↓evE.eq_7, ↓evE.eq_8, ↓evE.eq_9, ↓evE.eq_10, ↓evE.eq_11, ↓evE.eq_12, ↓evE.eq_13, ↓evE.eq_14, ↓evE.eq_15, ↓evE.eq_16, ↓evE.eq_17, ↓evE.eq_18, ↓evE.eq_19, ↓evE.eq_20, ↓evE.eq_21, ↓evE.eq_22, ↓evE.eq_23, ↓evE.eq_24, ↓evE.eq_25, ↓evE.eq_26, ↓evE.eq_27, ↓evE.eq_28, ↓evE.eq_29, ↓evE.eq_30, ↓evE.eq_31, ↓evE.eq_32, ↓evE.eq_33, ↓evE.eq_34, ↓evE.eq_35, ↓evE.eq_36, ↓evE.eq_37, ↓evE.eq_38, ↓evS.eq_1, ↓evS_seq, ↓evS.eq_3, ↓evS.eq_4, ↓evS.eq_5, ↓evS.eq_6, ↓evS.eq_7, ↓evS.eq_8, ↓evS_ite, ↓iteS, ↓evS.eq_11, ↓evS.eq_12, ↓evS.eq_13, ↓evS.eq_14, ↓evS.eq_15, ↓evS.eq_16, ↓evS.eq_17, ↓evS_for, ↓evA.eq_1, ↓evA.eq_2, ↓evT.eq_1, ↓evT.eq_2, ↓evO.eq_1, ↓evO.eq_2, ↓evI.eq_1, ↓evI.eq_2, ↓evI.eq_3, ↓evI.eq_4, ↓evI.eq_5, ↓evF.eq_1, ↓evF.eq_2, ↓m_bind, ↓m_then, ↓m_opt, SRes.bind_nx, SRes.bind_rt, SRes.bind_bk, SRes.bind_ct, SRes.bind_ex, SRes.bind_bad, at_call, at_glo, at_fuel, SRes.back, List.getElem?_cons_zero, List.getElem?_cons_succ, List.set_cons_zero, List.set_cons_succ, asgT, asgTs, cmpV, truV, binV, bltV, tyN, tyLe, subV, Option.map_some, Option.map_none, List.any_cons, List.any_nil, if_true, if_false, ite_true, ite_false, String.reduceBEq, Nat.reduceAdd, Bool.or_false, Bool.false_or, Bool.or_true, Bool.true_or, Bool.and_true, Bool.true_and, Bool.and_false, Bool.false_and, Bool.not_true, Bool.not_false, beq_self_eq_true, decide_true, decide_false, reduceCtorEq, Bool.false_eq_true, Ev.keyOf, dctKeys, List.length_cons, List.length_nil, List.zip_cons_cons, List.zip_nil_left, List.zip_nil_right, List.foldl_cons, List.foldl_nil, methV, setV, isL, permL_cons, permL_nil, List.map_cons, List.map_nil, valP_cons, valP_nil, key_str, key_int, ofString_eq, String.reduceEq, putP, sizeLine_eq, Nat.reduceLT, Nat.reduceLeDiff, sto_self, mulOk, powOk, divOk, Int.reducePow, Nat.reducePow, Int.reduceNeg, Int.reduceLT, Int.reduceLE, natAbs64, natAbs30, Int.reduceToNat, Int.reduceEq, Int.reduceAdd, Int.reduceSub, Int.reduceMul, ne_eq, not_false_eq_true, Int.reduceNe, Ev.alloc, Ev.eq_ii, Ev.eq_ss, Ev.eq_bb, Ev.eq_nn, Ev.eq_ni, Ev.eq_in, Ev.eq_ns, Ev.eq_sn, Ev.eq_nb, Ev.eq_bn, Ev.eq_is, Ev.eq_si, and_self, true_and, and_true, fmod_lt64, fmod_gt64, atI_0, atI_1, atI_2, atI_3, atI_4, atI_5, atI_6, atI_7, atI_8, atI_9, itemsV, smV, fmtV, lenSetV, seqOf, lstOf, slcV, revV, srcOf, optI, List.nil_append, List.cons_append, sto_new, intsP, sortI, insI, compL, compG, wipeP, boolsP, List.all_cons, List.all_nil, id_eq, keep_nil, maxI, minI, intsP, cutf_1, cutf_2, cutf_3, cutf_4, cutt_1, cutt_2, cutt_3, cutt_4, List.drop_succ_cons, List.drop_zero, List.take_succ_cons, List.take_zero, Int.cast_ofNat_Int, false_and, and_false, or_self, or_false, false_or, true_or, or_true, lit_e, tS_len, tS_cat, tS_eq, tS_lt, List.toList_toArray, g_MOST_WORD, g_LETTERS, g_MOST_POOL, g_MOST_WEIGHT, GC.pv]
  generalize hz : compL _ _ _ _ _ = z
  have hc := comp_map P eV (fun p => iV p.2) hz (keep_nil _) (fun p hp => by simp only [↓evE.eq_1, ↓evE.eq_2, ↓evE.eq_3, ↓evE.eq_4, ↓evE.eq_5, ↓evE.eq_6, ↓evE.eq_7, ↓evE.eq_8, ↓evE.eq_9, ↓evE.eq_10, ↓evE.eq_11, ↓evE.eq_12, ↓evE.eq_13, ↓evE.eq_14, ↓evE.eq_15, ↓evE.eq_16, ↓evE.eq_17, ↓evE.eq_18, ↓evE.eq_19, ↓evE.eq_20, ↓evE.eq_21, ↓evE.eq_22, ↓evE.eq_23, ↓evE.eq_24, ↓evE.eq_25, ↓evE.eq_26, ↓evE.eq_27, ↓evE.eq_28, ↓evE.eq_29, ↓evE.eq_30, ↓evE.eq_31, ↓evE.eq_32, ↓evE.eq_33, ↓evE.eq_34, ↓evE.eq_35, ↓evE.eq_36, ↓evE.eq_37, ↓evE.eq_38, ↓evS.eq_1, ↓evS_seq, ↓evS.eq_3, ↓evS.eq_4, ↓evS.eq_5, ↓evS.eq_6, ↓evS.eq_7, ↓evS.eq_8, ↓evS_ite, ↓iteS, ↓evS.eq_11, ↓evS.eq_12, ↓evS.eq_13, ↓evS.eq_14, ↓evS.eq_15, ↓evS.eq_16, ↓evS.eq_17, ↓evS_for, ↓evA.eq_1, ↓evA.eq_2, ↓evT.eq_1, ↓evT.eq_2, ↓evO.eq_1, ↓evO.eq_2, ↓evI.eq_1, ↓evI.eq_2, ↓evI.eq_3, ↓evI.eq_4, ↓evI.eq_5, ↓evF.eq_1, ↓evF.eq_2, ↓m_bind, ↓m_then, ↓m_opt, SRes.bind_nx, SRes.bind_rt, SRes.bind_bk, SRes.bind_ct, SRes.bind_ex, SRes.bind_bad, at_call, at_glo, at_fuel, SRes.back, List.getElem?_cons_zero, List.getElem?_cons_succ, List.set_cons_zero, List.set_cons_succ, asgT, asgTs, cmpV, truV, binV, bltV, tyN, tyLe, subV, Option.map_some, Option.map_none, List.any_cons, List.any_nil, if_true, if_false, ite_true, ite_false, String.reduceBEq, Nat.reduceAdd, Bool.or_false, Bool.false_or, Bool.or_true, Bool.true_or, Bool.and_true, Bool.true_and, Bool.and_false, Bool.false_and, Bool.not_true, Bool.not_false, beq_self_eq_true, decide_true, decide_false, reduceCtorEq, Bool.false_eq_true, Ev.keyOf, dctKeys, List.length_cons, List.length_nil, List.zip_cons_cons, List.zip_nil_left, List.zip_nil_right, List.foldl_cons, List.foldl_nil, methV, setV, isL, permL_cons, permL_nil, List.map_cons, List.map_nil, valP_cons, valP_nil, key_str, key_int, ofString_eq, String.reduceEq, putP, sizeLine_eq, Nat.reduceLT, Nat.reduceLeDiff, sto_self, mulOk, powOk, divOk, Int.reducePow, Nat.reducePow, Int.reduceNeg, Int.reduceLT, Int.reduceLE, natAbs64, natAbs30, Int.reduceToNat, Int.reduceEq, Int.reduceAdd, Int.reduceSub, Int.reduceMul, ne_eq, not_false_eq_true, Int.reduceNe, Ev.alloc, Ev.eq_ii, Ev.eq_ss, Ev.eq_bb, Ev.eq_nn, Ev.eq_ni, Ev.eq_in, Ev.eq_ns, Ev.eq_sn, Ev.eq_nb, Ev.eq_bn, Ev.eq_is, Ev.eq_si, and_self, true_and, and_true, fmod_lt64, fmod_gt64, atI_0, atI_1, atI_2, atI_3, atI_4, atI_5, atI_6, atI_7, atI_8, atI_9, itemsV, smV, fmtV, lenSetV, seqOf, lstOf, slcV, revV, srcOf, optI, List.nil_append, List.cons_append, sto_new, intsP, sortI, insI, compL, compG, wipeP, boolsP, List.all_cons, List.all_nil, id_eq, keep_nil, maxI, minI, intsP, cutf_1, cutf_2, cutf_3, cutf_4, cutt_1, cutt_2, cutt_3, cutt_4, List.drop_succ_cons, List.drop_zero, List.take_succ_cons, List.take_zero, Int.cast_ofNat_Int, false_and, and_false, or_self, or_false, false_or, true_or, or_true, lit_e, tS_len, tS_cat, tS_eq, tS_lt, List.toList_toArray, g_MOST_WORD, g_LETTERS, g_MOST_POOL, g_MOST_WEIGHT, GC.pv]) (by rw [sizeLine_eq]; omega)
  subst hc
  simp only [↓evE.eq_1, ↓evE.eq_2, ↓evE.eq_3, ↓evE.eq_4, ↓evE.eq_5, ↓evE.eq_6, ↓evE.eq_7, ↓evE.eq_8, ↓evE.eq_9, ↓evE.eq_10, ↓evE.eq_11, ↓evE.eq_12, ↓evE.eq_13, ↓evE.eq_14, ↓evE.eq_15, ↓evE.eq_16, ↓evE.eq_17, ↓evE.eq_18, ↓evE.eq_19, ↓evE.eq_20, ↓evE.eq_21, ↓evE.eq_22, ↓evE.eq_23, ↓evE.eq_24, ↓evE.eq_25, ↓evE.eq_26, ↓evE.eq_27, ↓evE.eq_28, ↓evE.eq_29, ↓evE.eq_30, ↓evE.eq_31, ↓evE.eq_32, ↓evE.eq_33, ↓evE.eq_34, ↓evE.eq_35, ↓evE.eq_36, ↓evE.eq_37, ↓evE.eq_38, ↓evS.eq_1, ↓evS_seq, ↓evS.eq_3, ↓evS.eq_4, ↓evS.eq_5, ↓evS.eq_6, ↓evS.eq_7, ↓evS.eq_8, ↓evS_ite, ↓iteS, ↓evS.eq_11, ↓evS.eq_12, ↓evS.eq_13, ↓evS.eq_14, ↓evS.eq_15, ↓evS.eq_16, ↓evS.eq_17, ↓evS_for, ↓evA.eq_1, ↓evA.eq_2, ↓evT.eq_1, ↓evT.eq_2, ↓evO.eq_1, ↓evO.eq_2, ↓evI.eq_1, ↓evI.eq_2, ↓evI.eq_3, ↓evI.eq_4, ↓evI.eq_5, ↓evF.eq_1, ↓evF.eq_2, ↓m_bind, ↓m_then, ↓m_opt, SRes.bind_nx, SRes.bind_rt, SRes.bind_bk, SRes.bind_ct, SRes.bind_ex, SRes.bind_bad, at_call, at_glo, at_fuel, SRes.back, List.getElem?_cons_zero, List.getElem?_cons_succ, List.set_cons_zero, List.set_cons_succ, asgT, asgTs, cmpV, truV, binV, bltV, tyN, tyLe, subV, Option.map_some, Option.map_none, List.any_cons, List.any_nil, if_true, if_false, ite_true, ite_false, String.reduceBEq, Nat.reduceAdd, Bool.or_false, Bool.false_or, Bool.or_true, Bool.true_or, Bool.and_true, Bool.true_and, Bool.and_false, Bool.false_and, Bool.not_true, Bool.not_false, beq_self_eq_true, decide_true, decide_false, reduceCtorEq, Bool.false_eq_true, Ev.keyOf, dctKeys, List.length_cons, List.length_nil, List.zip_cons_cons, List.zip_nil_left, List.zip_nil_right, List.foldl_cons, List.foldl_nil, methV, setV, isL, permL_cons, permL_nil, List.map_cons, List.map_nil, valP_cons, valP_nil, key_str, key_int, ofString_eq, String.reduceEq, putP, sizeLine_eq, Nat.reduceLT, Nat.reduceLeDiff, sto_self, mulOk, powOk, divOk, Int.reducePow, Nat.reducePow, Int.reduceNeg, Int.reduceLT, Int.reduceLE, natAbs64, natAbs30, Int.reduceToNat, Int.reduceEq, Int.reduceAdd, Int.reduceSub, Int.reduceMul, ne_eq, not_false_eq_true, Int.reduceNe, Ev.alloc, Ev.eq_ii, Ev.eq_ss, Ev.eq_bb, Ev.eq_nn, Ev.eq_ni, Ev.eq_in, Ev.eq_ns, Ev.eq_sn, Ev.eq_nb, Ev.eq_bn, Ev.eq_is, Ev.eq_si, and_self, true_and, and_true, fmod_lt64, fmod_gt64, atI_0, atI_1, atI_2, atI_3, atI_4, atI_5, atI_6, atI_7, atI_8, atI_9, itemsV, smV, fmtV, lenSetV, seqOf, lstOf, slcV, revV, srcOf, optI, List.nil_append, List.cons_append, sto_new, intsP, sortI, insI, compL, compG, wipeP, boolsP, List.all_cons, List.all_nil, id_eq, keep_nil, maxI, minI, intsP, cutf_1, cutf_2, cutf_3, cutf_4, cutt_1, cutt_2, cutt_3, cutt_4, List.drop_succ_cons, List.drop_zero, List.take_succ_cons, List.take_zero, Int.cast_ofNat_Int, false_and, and_false, or_self, or_false, false_or, true_or, or_true, lit_e, tS_len, tS_cat, tS_eq, tS_lt, List.toList_toArray, g_MOST_WORD, g_LETTERS, g_MOST_POOL, g_MOST_WEIGHT, GC.pv, List.map_map]
  rfl
/-! min(.., key=..) -/
theorem minkey_ok {G : Glob} {f : Str} {i x a : Nat} {it b : CE} {env : Ev.Env} {M M1 : Sto} {ys : List PV} {ns : List Int} {r : Res PV} (h : evE G it env M = .ok (.ref a) M1) (ha : M1[a]? = some (.lst ys)) (hi : M1[i]? = some (.tab f)) (hn : intsP ys = some ns)
    (hr : minKV (fun n M => evE G b (env.set x (some (.int n))) M) (keepB [(a, .lst ys)]) ns M1 = r) : evE G (.minkey f i it x b) env M = r := by
  rw [evE.eq_def]
  simp only [h, Res.bind_ok, ha, hi, hn, if_true]
  exact hr
theorem mkL_pure {g : Int → Sto → Res PV} {keep : Sto → Bool} {M : Sto} (d : Nat → Nat) (hk : keep M = true) : ∀ (l : List Nat) (b : Nat), (b :: l).Pairwise (· < ·) → (∀ n ∈ l, g (n : Nat) M = .ok (.tup [iV (d n), iV n]) M) →
    mkL g keep (l.map fun n : Nat => (n : Int)) b ((d b : Nat), (b : Nat)) M = .ok (iV (mk d b l)) M
  | [], b, _, _ => by simp [mkL, hk, mk]
  | n :: l, b, hp, hg => by
    have h1 := List.pairwise_cons.mp hp
    have h2 := List.pairwise_cons.mp h1.2
    have hb := h1.1 n List.mem_cons_self
    have e : Ev.ltP (((d n : Nat) : Int), ((n : Nat) : Int)) (((d b : Nat) : Int), ((b : Nat) : Int)) = decide (d n < d b) := by
      unfold Ev.ltP
      rw [decide_eq_decide]
      constructor
      · rintro (h | h)
        · exact Int.ofNat_lt.mp h
        · have := Int.ofNat_lt.mp h.2
          omega
      · exact fun h => .inl (Int.ofNat_lt.mpr h)
    simp only [List.map_cons, mkL, hk, if_true, hg n List.mem_cons_self, e, mk, decide_eq_true_eq]
    by_cases c : d n < d b
    · rw [if_pos c, if_pos c]
      exact mkL_pure d hk l n h1.2 fun m hm => hg m (List.mem_cons_of_mem _ hm)
    · rw [if_neg c, if_neg c]
      exact mkL_pure d hk l b (List.pairwise_cons.mpr ⟨fun y hy => h1.1 y (List.mem_cons_of_mem _ hy), h2.2⟩) fun m hm => hg m (List.mem_cons_of_mem _ hm)
theorem minKV_pure {g : Int → Sto → Res PV} {keep : Sto → Bool} {M : Sto} (d : Nat → Nat) (hk : keep M = true) (l : List Nat) (b : Nat) (hp : (b :: l).Pairwise (· < ·)) (hg : ∀ n ∈ b :: l, g (n : Nat) M = .ok (.tup [iV (d n), iV n]) M) :
    minKV g keep ((b :: l).map fun n : Nat => (n : Int)) M = .ok (iV (mk d b l)) M := by
  simp only [List.map_cons, minKV, hk, if_true, hg b List.mem_cons_self]
  exact mkL_pure d hk l b hp fun n hn => hg n (List.mem_cons_of_mem _ hn)
theorem ints_iV : ∀ l : List Nat, intsP (l.map iV) = some (l.map fun x : Nat => (x : Int))
  | [] => rfl
  | a :: l => by
    show (intsP (l.map iV)).map ((a : Int) :: ·) = _
    rw [ints_iV l]; rfl
theorem sum_cast : ∀ l : List Nat, (l.map fun x : Nat => (x : Int)).sum = ((l.sum : Nat) : Int)
  | [] => rfl
  | a :: l => by
    rw [List.map_cons, List.sum_cons, List.sum_cons, sum_cast l]
    push_cast; rfl
end K18

set_option Elab.async false
set_option linter.all false
set_option maxRecDepth 100000
set_option maxHeartbeats 4000000
/-! K18s: the program's turns. -/
namespace K18
open PySem L2 Ev
/-- a comprehension that sorts out, nothing changes -/
theorem comp_filt {α : Type} (xs : List α) (f : α → PV) (p : α → Bool) (e : α → PV) {g : PV → Sto → Res (Option PV)} {keep : Sto → Bool} {M : Sto} {z : Res (List PV)} (hz : compL g keep (xs.map f) M [] = z) (hk : keep M = true)
    (hg : ∀ x ∈ xs, g (f x) M = .ok (if p x = true then some (e x) else none) M) (hl : xs.length < sizeLine) : z = .ok ((xs.filter p).map e) M := by
  have key : ∀ (xs : List α) (acc : List PV), (∀ x ∈ xs, g (f x) M = .ok (if p x = true then some (e x) else none) M) → acc.length + xs.length < sizeLine → compL g keep (xs.map f) M acc = .ok (acc ++ (xs.filter p).map e) M := by
    intro xs
    induction xs with
    | nil => intro acc _ _; simp [compL, hk]
    | cons x xs ih =>
      intro acc hg hl
      have h1 := hg x List.mem_cons_self
      simp only [List.map_cons, compL, hk, if_true, h1]
      simp only [List.length_cons] at hl
      by_cases c : p x = true
      · simp only [c, if_true]
        rw [if_pos (by omega), ih _ (fun y hy => hg y (List.mem_cons_of_mem _ hy)) (by simp only [List.length_append, List.length_cons, List.length_nil]; omega)]
        simp [List.filter_cons, c]
      · simp only [c, if_false, Bool.false_eq_true]
        rw [ih _ (fun y hy => hg y (List.mem_cons_of_mem _ hy)) (by omega)]
        simp [List.filter_cons, c]
  rw [← hz, key xs [] hg (by simpa using hl)]
  simp
theorem at_iV {l : List Nat} {i : Nat} (h : i < l.length) : atI (l.map iV) ((i : Nat) : Int) = some (iV (Get l i)) := by
  obtain ⟨x, _, h1, h2⟩ := atI_in (l.map iV) (r := ((i : Nat) : Int)) (by omega) (by rw [List.length_map]; omega)
  rw [h2, ← h1, Int.toNat_natCast, List.getElem?_map, List.getElem?_eq_getElem h]
  unfold Get
  rw [List.getD_eq_getElem?_getD, List.getElem?_eq_getElem h]
  rfl
theorem num_iV (l : List Nat) : numP (l.map iV) = (List.range l.length).map fun i => .tup [iV i, iV (Get l i)] := by
  unfold numP
  refine List.ext_getElem (by simp) fun i h1 h2 => ?_
  simp only [List.getElem_zipWith, List.getElem_range, List.getElem_map]
  have hi : i < l.length := by simpa using h2
  unfold Get
  rw [List.getD_eq_getElem?_getD, List.getElem?_eq_getElem hi]
  rfl
/-- weights as they are drawn -/
structure IsW (w : List Nat) (W : Nat) : Prop where
  wt : ∀ x ∈ w, 0 < x ∧ x ≤ 100
  pos : 1 ≤ w.length
  le : w.length ≤ 8
  sum : w.sum = W
theorem sum_le8 : ∀ (w : List Nat), (∀ x ∈ w, x ≤ 100) → w.sum ≤ 100 * w.length
  | [], _ => by simp
  | x :: w, h => by
    have := sum_le8 w fun y hy => h y (List.mem_cons_of_mem _ hy)
    have := h x List.mem_cons_self
    simp only [List.sum_cons, List.length_cons]
    omega
theorem IsW.W800 {w : List Nat} {W : Nat} (h : IsW w W) : W ≤ 800 := by
  have := sum_le8 w fun x hx => (h.wt x hx).2
  have := h.le
  have := h.sum
  omega
theorem IsW.W0 {w : List Nat} {W : Nat} (h : IsW w W) : 0 < W := by
  have h1 := h.pos
  have h2 := h.sum
  cases w with
  | nil => simp at h1
  | cons x w =>
    have := (h.wt x List.mem_cons_self).1
    simp only [List.sum_cons] at h2
    omega
theorem IsW.get {w : List Nat} {W : Nat} (h : IsW w W) {i : Nat} (hi : i < w.length) : 0 < Get w i ∧ Get w i ≤ 100 := by
  unfold Get
  rw [List.getD_eq_getElem?_getD, List.getElem?_eq_getElem hi]
  exact h.wt _ (List.getElem_mem hi)
theorem IsW.hp {w : List Nat} {W : Nat} (h : IsW w W) : ∀ x ∈ w, 0 < x := fun x hx => (h.wt x hx).1
abbrev TB (M : Sto) : Prop := M[0]? = some (.tab "turn_after")
theorem turn_ok (n : Nat) (M : Sto) {w c : List Nat} {W a : Nat} (hw : IsW w W) (hl : c.length = w.length) (hex : ∃ i, i < w.length ∧ Rdy (Get w i) (Get c i) W c.sum) (ha : M[a]? = some (.lst (w.map iV))) (h0 : TB M) :
    ∃ M', callN T (n + 2) "turn_after" [.ref a, .tup (c.map iV)] M = .ok (iV (nx w c W c.sum)) M' ∧ Keep [] M M' := by
  have le := hw.le
  rw [e_turn_after]
  unfold c_turn_after
  simp only [↓evE.eq_1, ↓evE.eq_2, ↓evE.eq_3, ↓evE.eq_4, ↓evE.eq_5, ↓evE.eq_6, ↓evE.eq_7, ↓evE.eq_8, ↓evE.eq_9, ↓evE.eq_10, ↓evE.eq_11, ↓evE.eq_12, ↓evE.eq_13, ↓evE.eq_14, ↓evE.eq_15, ↓evE.eq_16, ↓evE.eq_17, ↓evE.eq_18, ↓evE.eq_19, ↓evE.eq_20, ↓evE.eq_21, ↓evE.eq_22, ↓evE.eq_23, ↓evE.eq_24, ↓evE.eq_25, ↓evE.eq_26, ↓evE.eq_27, ↓evE.eq_28, ↓evE.eq_29, ↓evE.eq_30, ↓evE.eq_31, ↓evE.eq_32, ↓evE.eq_33, ↓evE.eq_34, ↓evE.eq_35, ↓evE.eq_36, ↓evE.eq_37, ↓evE.eq_38, ↓evS.eq_1, ↓evS_seq, ↓evS.eq_3, ↓evS.eq_4, ↓evS.eq_5, ↓evS.eq_6, ↓evS.eq_7, ↓evS.eq_8, ↓evS_ite, ↓iteS, ↓evS.eq_11, ↓evS.eq_12, ↓evS.eq_13, ↓evS.eq_14, ↓evS.eq_15, ↓evS.eq_16, ↓evS.eq_17, ↓evS_for, ↓evA.eq_1, ↓evA.eq_2, ↓evT.eq_1, ↓evT.eq_2, ↓evO.eq_1, ↓evO.eq_2, ↓evI.eq_1, ↓evI.eq_2, ↓evI.eq_3, ↓evI.eq_4, ↓evI.eq_5, ↓evF.eq_1, ↓evF.eq_2, ↓m_bind, ↓m_then, ↓m_opt, SRes.bind_nx, SRes.bind_rt, SRes.bind_bk, SRes.bind_ct, SRes.bind_ex, SRes.bind_bad, at_call, at_glo, at_fuel, SRes.back, List.getElem?_cons_zero, List.getElem?_cons_succ, List.set_cons_zero, List.set_cons_succ, asgT, asgTs, cmpV, truV, binV, bltV, tyN, tyLe, subV, Option.map_some, Option.map_none, List.any_cons, List.any_nil, if_true, if_false, ite_true, ite_false, String.reduceBEq, Nat.reduceAdd, Bool.or_false, Bool.false_or, Bool.or_true, Bool.true_or, Bool.and_true, Bool.true_and, Bool.and_false, Bool.false_and, Bool.not_true, Bool.not_false, beq_self_eq_true, decide_true, decide_false, reduceCtorEq, Bool.false_eq_true, Ev.keyOf, dctKeys, List.length_cons, List.length_nil, List.zip_cons_cons, List.zip_nil_left, List.zip_nil_right, List.foldl_cons, List.foldl_nil, methV, setV, isL, permL_cons, permL_nil, List.map_cons, List.map_nil, valP_cons, valP_nil, key_str, key_int, ofString_eq, String.reduceEq, putP, sizeLine_eq, Nat.reduceLT, Nat.reduceLeDiff, sto_self, mulOk, powOk, divOk, Int.reducePow, Nat.reducePow, Int.reduceNeg, Int.reduceLT, Int.reduceLE, natAbs64, natAbs30, Int.reduceToNat, Int.reduceEq, Int.reduceAdd, Int.reduceSub, Int.reduceMul, ne_eq, not_false_eq_true, Int.reduceNe, Ev.alloc, Ev.eq_ii, Ev.eq_ss, Ev.eq_bb, Ev.eq_nn, Ev.eq_ni, Ev.eq_in, Ev.eq_ns, Ev.eq_sn, Ev.eq_nb, Ev.eq_bn, Ev.eq_is, Ev.eq_si, and_self, true_and, and_true, fmod_lt64, fmod_gt64, atI_0, atI_1, atI_2, atI_3, atI_4, atI_5, atI_6, atI_7, atI_8, atI_9, itemsV, smV, fmtV, lenSetV, seqOf, lstOf, slcV, revV, srcOf, optI, List.nil_append, List.cons_append, sto_new, intsP, sortI, insI, compL, compG, wipeP, boolsP, List.all_cons, List.all_nil, id_eq, keep_nil, maxI, minI, intsP, cutf_1, cutf_2, cutf_3, cutf_4, cutt_1, cutt_2, cutt_3, cutt_4, List.drop_succ_cons, List.drop_zero, List.take_succ_cons, List.take_zero, Int.cast_ofNat_Int, false_and, and_false, or_self, or_false, false_or, true_or, or_true, lit_e, tS_len, tS_cat, tS_eq, tS_lt, List.toList_toArray, g_MOST_WORD, g_LETTERS, g_MOST_POOL, g_MOST_WEIGHT, g_MOST_TURNS, GC.pv, ha, ints_iV, sum_cast, hw.sum, num_iV]
  generalize hz : compL _ _ _ _ _ = z
  have hc := comp_filt (List.range w.length) (fun i => PV.tup [iV i, iV (Get w i)]) (fun i => decide (Rdy (Get w i) (Get c i) W c.sum)) iV hz (by simp [keepB, ha]) (fun i hi => by
    have hi' := List.mem_range.mp hi
    have r := is_ready_ok n M (g := Get c i) (t := c.sum) (hw.get hi') hw.W800
    have hc := at_iV (l := c) (i := i) (by omega)
    by_cases b : Rdy (Get w i) (Get c i) W c.sum
    · simp only [↓evE.eq_1, ↓evE.eq_2, ↓evE.eq_3, ↓evE.eq_4, ↓evE.eq_5, ↓evE.eq_6, ↓evE.eq_7, ↓evE.eq_8, ↓evE.eq_9, ↓evE.eq_10, ↓evE.eq_11, ↓evE.eq_12, ↓evE.eq_13, ↓evE.eq_14, ↓evE.eq_15, ↓evE.eq_16, ↓evE.eq_17, ↓evE.eq_18, ↓evE.eq_19, ↓evE.eq_20, ↓evE.eq_21, ↓evE.eq_22, ↓evE.eq_23, ↓evE.eq_24, ↓evE.eq_25, ↓evE.eq_26, ↓evE.eq_27, ↓evE.eq_28, ↓evE.eq_29, ↓evE.eq_30, ↓evE.eq_31, ↓evE.eq_32, ↓evE.eq_33, ↓evE.eq_34, ↓evE.eq_35, ↓evE.eq_36, ↓evE.eq_37, ↓evE.eq_38, ↓evS.eq_1, ↓evS_seq, ↓evS.eq_3, ↓evS.eq_4, ↓evS.eq_5, ↓evS.eq_6, ↓evS.eq_7, ↓evS.eq_8, ↓evS_ite, ↓iteS, ↓evS.eq_11, ↓evS.eq_12, ↓evS.eq_13, ↓evS.eq_14, ↓evS.eq_15, ↓evS.eq_16, ↓evS.eq_17, ↓evS_for, ↓evA.eq_1, ↓evA.eq_2, ↓evT.eq_1, ↓evT.eq_2, ↓evO.eq_1, ↓evO.eq_2, ↓evI.eq_1, ↓evI.eq_2, ↓evI.eq_3, ↓evI.eq_4, ↓evI.eq_5, ↓evF.eq_1, ↓evF.eq_2, ↓m_bind, ↓m_then, ↓m_opt, SRes.bind_nx, SRes.bind_rt, SRes.bind_bk, SRes.bind_ct, SRes.bind_ex, SRes.bind_bad, at_call, at_glo, at_fuel, SRes.back, List.getElem?_cons_zero, List.getElem?_cons_succ, List.set_cons_zero, List.set_cons_succ, asgT, asgTs, cmpV, truV, binV, bltV, tyN, tyLe, subV, Option.map_some, Option.map_none, List.any_cons, List.any_nil, if_true, if_false, ite_true, ite_false, String.reduceBEq, Nat.reduceAdd, Bool.or_false, Bool.false_or, Bool.or_true, Bool.true_or, Bool.and_true, Bool.true_and, Bool.and_false, Bool.false_and, Bool.not_true, Bool.not_false, beq_self_eq_true, decide_true, decide_false, reduceCtorEq, Bool.false_eq_true, Ev.keyOf, dctKeys, List.length_cons, List.length_nil, List.zip_cons_cons, List.zip_nil_left, List.zip_nil_right, List.foldl_cons, List.foldl_nil, methV, setV, isL, permL_cons, permL_nil, List.map_cons, List.map_nil, valP_cons, valP_nil, key_str, key_int, ofString_eq, String.reduceEq, putP, sizeLine_eq, Nat.reduceLT, Nat.reduceLeDiff, sto_self, mulOk, powOk, divOk, Int.reducePow, Nat.reducePow, Int.reduceNeg, Int.reduceLT, Int.reduceLE, natAbs64, natAbs30, Int.reduceToNat, Int.reduceEq, Int.reduceAdd, Int.reduceSub, Int.reduceMul, ne_eq, not_false_eq_true, Int.reduceNe, Ev.alloc, Ev.eq_ii, Ev.eq_ss, Ev.eq_bb, Ev.eq_nn, Ev.eq_ni, Ev.eq_in, Ev.eq_ns, Ev.eq_sn, Ev.eq_nb, Ev.eq_bn, Ev.eq_is, Ev.eq_si, and_self, true_and, and_true, fmod_lt64, fmod_gt64, atI_0, atI_1, atI_2, atI_3, atI_4, atI_5, atI_6, atI_7, atI_8, atI_9, itemsV, smV, fmtV, lenSetV, seqOf, lstOf, slcV, revV, srcOf, optI, List.nil_append, List.cons_append, sto_new, intsP, sortI, insI, compL, compG, wipeP, boolsP, List.all_cons, List.all_nil, id_eq, keep_nil, maxI, minI, intsP, cutf_1, cutf_2, cutf_3, cutf_4, cutt_1, cutt_2, cutt_3, cutt_4, List.drop_succ_cons, List.drop_zero, List.take_succ_cons, List.take_zero, Int.cast_ofNat_Int, false_and, and_false, or_self, or_false, false_or, true_or, or_true, lit_e, tS_len, tS_cat, tS_eq, tS_lt, List.toList_toArray, g_MOST_WORD, g_LETTERS, g_MOST_POOL, g_MOST_WEIGHT, g_MOST_TURNS, GC.pv, hc, r, decide_eq_true b]
    · simp only [↓evE.eq_1, ↓evE.eq_2, ↓evE.eq_3, ↓evE.eq_4, ↓evE.eq_5, ↓evE.eq_6, ↓evE.eq_7, ↓evE.eq_8, ↓evE.eq_9, ↓evE.eq_10, ↓evE.eq_11, ↓evE.eq_12, ↓evE.eq_13, ↓evE.eq_14, ↓evE.eq_15, ↓evE.eq_16, ↓evE.eq_17, ↓evE.eq_18, ↓evE.eq_19, ↓evE.eq_20, ↓evE.eq_21, ↓evE.eq_22, ↓evE.eq_23, ↓evE.eq_24, ↓evE.eq_25, ↓evE.eq_26, ↓evE.eq_27, ↓evE.eq_28, ↓evE.eq_29, ↓evE.eq_30, ↓evE.eq_31, ↓evE.eq_32, ↓evE.eq_33, ↓evE.eq_34, ↓evE.eq_35, ↓evE.eq_36, ↓evE.eq_37, ↓evE.eq_38, ↓evS.eq_1, ↓evS_seq, ↓evS.eq_3, ↓evS.eq_4, ↓evS.eq_5, ↓evS.eq_6, ↓evS.eq_7, ↓evS.eq_8, ↓evS_ite, ↓iteS, ↓evS.eq_11, ↓evS.eq_12, ↓evS.eq_13, ↓evS.eq_14, ↓evS.eq_15, ↓evS.eq_16, ↓evS.eq_17, ↓evS_for, ↓evA.eq_1, ↓evA.eq_2, ↓evT.eq_1, ↓evT.eq_2, ↓evO.eq_1, ↓evO.eq_2, ↓evI.eq_1, ↓evI.eq_2, ↓evI.eq_3, ↓evI.eq_4, ↓evI.eq_5, ↓evF.eq_1, ↓evF.eq_2, ↓m_bind, ↓m_then, ↓m_opt, SRes.bind_nx, SRes.bind_rt, SRes.bind_bk, SRes.bind_ct, SRes.bind_ex, SRes.bind_bad, at_call, at_glo, at_fuel, SRes.back, List.getElem?_cons_zero, List.getElem?_cons_succ, List.set_cons_zero, List.set_cons_succ, asgT, asgTs, cmpV, truV, binV, bltV, tyN, tyLe, subV, Option.map_some, Option.map_none, List.any_cons, List.any_nil, if_true, if_false, ite_true, ite_false, String.reduceBEq, Nat.reduceAdd, Bool.or_false, Bool.false_or, Bool.or_true, Bool.true_or, Bool.and_true, Bool.true_and, Bool.and_false, Bool.false_and, Bool.not_true, Bool.not_false, beq_self_eq_true, decide_true, decide_false, reduceCtorEq, Bool.false_eq_true, Ev.keyOf, dctKeys, List.length_cons, List.length_nil, List.zip_cons_cons, List.zip_nil_left, List.zip_nil_right, List.foldl_cons, List.foldl_nil, methV, setV, isL, permL_cons, permL_nil, List.map_cons, List.map_nil, valP_cons, valP_nil, key_str, key_int, ofString_eq, String.reduceEq, putP, sizeLine_eq, Nat.reduceLT, Nat.reduceLeDiff, sto_self, mulOk, powOk, divOk, Int.reducePow, Nat.reducePow, Int.reduceNeg, Int.reduceLT, Int.reduceLE, natAbs64, natAbs30, Int.reduceToNat, Int.reduceEq, Int.reduceAdd, Int.reduceSub, Int.reduceMul, ne_eq, not_false_eq_true, Int.reduceNe, Ev.alloc, Ev.eq_ii, Ev.eq_ss, Ev.eq_bb, Ev.eq_nn, Ev.eq_ni, Ev.eq_in, Ev.eq_ns, Ev.eq_sn, Ev.eq_nb, Ev.eq_bn, Ev.eq_is, Ev.eq_si, and_self, true_and, and_true, fmod_lt64, fmod_gt64, atI_0, atI_1, atI_2, atI_3, atI_4, atI_5, atI_6, atI_7, atI_8, atI_9, itemsV, smV, fmtV, lenSetV, seqOf, lstOf, slcV, revV, srcOf, optI, List.nil_append, List.cons_append, sto_new, intsP, sortI, insI, compL, compG, wipeP, boolsP, List.all_cons, List.all_nil, id_eq, keep_nil, maxI, minI, intsP, cutf_1, cutf_2, cutf_3, cutf_4, cutt_1, cutt_2, cutt_3, cutt_4, List.drop_succ_cons, List.drop_zero, List.take_succ_cons, List.take_zero, Int.cast_ofNat_Int, false_and, and_false, or_self, or_false, false_or, true_or, or_true, lit_e, tS_len, tS_cat, tS_eq, tS_lt, List.toList_toArray, g_MOST_WORD, g_LETTERS, g_MOST_POOL, g_MOST_WEIGHT, g_MOST_TURNS, GC.pv, hc, r, decide_eq_false b]) (by rw [sizeLine_eq]; simp; omega)
  subst hc
  have er : (List.filter (fun i => decide (Rdy (Get w i) (Get c i) W c.sum)) (List.range w.length)) = ready w c W c.sum := rfl
  rw [er]
  simp only [↓evE.eq_1, ↓evE.eq_2, ↓evE.eq_3, ↓evE.eq_4, ↓evE.eq_5, ↓evE.eq_6, ↓evE.eq_7, ↓evE.eq_8, ↓evE.eq_9, ↓evE.eq_10, ↓evE.eq_11, ↓evE.eq_12, ↓evE.eq_13, ↓evE.eq_14, ↓evE.eq_15, ↓evE.eq_16, ↓evE.eq_17, ↓evE.eq_18, ↓evE.eq_19, ↓evE.eq_20, ↓evE.eq_21, ↓evE.eq_22, ↓evE.eq_23, ↓evE.eq_24, ↓evE.eq_25, ↓evE.eq_26, ↓evE.eq_27, ↓evE.eq_28, ↓evE.eq_29, ↓evE.eq_30, ↓evE.eq_31, ↓evE.eq_32, ↓evE.eq_33, ↓evE.eq_34, ↓evE.eq_35, ↓evE.eq_36, ↓evE.eq_37, ↓evE.eq_38, ↓evS.eq_1, ↓evS_seq, ↓evS.eq_3, ↓evS.eq_4, ↓evS.eq_5, ↓evS.eq_6, ↓evS.eq_7, ↓evS.eq_8, ↓evS_ite, ↓iteS, ↓evS.eq_11, ↓evS.eq_12, ↓evS.eq_13, ↓evS.eq_14, ↓evS.eq_15, ↓evS.eq_16, ↓evS.eq_17, ↓evS_for, ↓evA.eq_1, ↓evA.eq_2, ↓evT.eq_1, ↓evT.eq_2, ↓evO.eq_1, ↓evO.eq_2, ↓evI.eq_1, ↓evI.eq_2, ↓evI.eq_3, ↓evI.eq_4, ↓evI.eq_5, ↓evF.eq_1, ↓evF.eq_2, ↓m_bind, ↓m_then, ↓m_opt, SRes.bind_nx, SRes.bind_rt, SRes.bind_bk, SRes.bind_ct, SRes.bind_ex, SRes.bind_bad, at_call, at_glo, at_fuel, SRes.back, List.getElem?_cons_zero, List.getElem?_cons_succ, List.set_cons_zero, List.set_cons_succ, asgT, asgTs, cmpV, truV, binV, bltV, tyN, tyLe, subV, Option.map_some, Option.map_none, List.any_cons, List.any_nil, if_true, if_false, ite_true, ite_false, String.reduceBEq, Nat.reduceAdd, Bool.or_false, Bool.false_or, Bool.or_true, Bool.true_or, Bool.and_true, Bool.true_and, Bool.and_false, Bool.false_and, Bool.not_true, Bool.not_false, beq_self_eq_true, decide_true, decide_false, reduceCtorEq, Bool.false_eq_true, Ev.keyOf, dctKeys, List.length_cons, List.length_nil, List.zip_cons_cons, List.zip_nil_left, List.zip_nil_right, List.foldl_cons, List.foldl_nil, methV, setV, isL, permL_cons, permL_nil, List.map_cons, List.map_nil, valP_cons, valP_nil, key_str, key_int, ofString_eq, String.reduceEq, putP, sizeLine_eq, Nat.reduceLT, Nat.reduceLeDiff, sto_self, mulOk, powOk, divOk, Int.reducePow, Nat.reducePow, Int.reduceNeg, Int.reduceLT, Int.reduceLE, natAbs64, natAbs30, Int.reduceToNat, Int.reduceEq, Int.reduceAdd, Int.reduceSub, Int.reduceMul, ne_eq, not_false_eq_true, Int.reduceNe, Ev.alloc, Ev.eq_ii, Ev.eq_ss, Ev.eq_bb, Ev.eq_nn, Ev.eq_ni, Ev.eq_in, Ev.eq_ns, Ev.eq_sn, Ev.eq_nb, Ev.eq_bn, Ev.eq_is, Ev.eq_si, and_self, true_and, and_true, fmod_lt64, fmod_gt64, atI_0, atI_1, atI_2, atI_3, atI_4, atI_5, atI_6, atI_7, atI_8, atI_9, itemsV, smV, fmtV, lenSetV, seqOf, lstOf, slcV, revV, srcOf, optI, List.nil_append, List.cons_append, sto_new, intsP, sortI, insI, compL, compG, wipeP, boolsP, List.all_cons, List.all_nil, id_eq, keep_nil, maxI, minI, intsP, cutf_1, cutf_2, cutf_3, cutf_4, cutt_1, cutt_2, cutt_3, cutt_4, List.drop_succ_cons, List.drop_zero, List.take_succ_cons, List.take_zero, Int.cast_ofNat_Int, false_and, and_false, or_self, or_false, false_or, true_or, or_true, lit_e, tS_len, tS_cat, tS_eq, tS_lt, List.toList_toArray, g_MOST_WORD, g_LETTERS, g_MOST_POOL, g_MOST_WEIGHT, g_MOST_TURNS, GC.pv]
  obtain ⟨i, hi⟩ := hex
  have hm := mem_ready.mpr hi
  have up := ready_up w c W c.sum
  have inr : ∀ j ∈ ready w c W c.sum, j < w.length := fun j hj => (mem_ready.mp hj).1
  have en : nx w c W c.sum = mk (fun i => Due (Get w i) (Get c i) W) ((ready w c W c.sum).headD 0) (ready w c W c.sum).tail := rfl
  generalize ready w c W c.sum = R at hm up inr en ⊢
  obtain ⟨L, hL⟩ : ∃ L : List PV, L = R.map iV := ⟨_, rfl⟩
  rw [← hL]
  cases R with
  | nil => cases hm
  | cons r R =>
    rw [en]
    have hk := minkey_ok (G := T.at (n + 1)) (f := "turn_after") (i := 0) (x := 5) (a := M.length) (it := V 4) (b := .tup (A (.call "due_time" (A (.sub (V 0) (V 5)) (A (V 2) (A (.bin .Add (.sub (V 1) (V 5)) (I 1)) (E_))))) (A (V 5) (E_))))
      (env := [some (.ref a), some (.tup (c.map iV)), some (iV W), some (.int ((c.sum : Int) + 1)), some (.ref M.length), none, none]) (M := M ++ [.lst L]) (M1 := M ++ [.lst L]) (ys := L) (ns := (r :: R).map fun x : Nat => (x : Int)) (r := .ok (iV (mk (fun i => Due (Get w i) (Get c i) W) r R)) (M ++ [.lst L]))
      (by simp only [↓evE.eq_1, ↓evE.eq_2, ↓evE.eq_3, ↓evE.eq_4, ↓evE.eq_5, ↓evE.eq_6, ↓evE.eq_7, ↓evE.eq_8, ↓evE.eq_9, ↓evE.eq_10, ↓evE.eq_11, ↓evE.eq_12, ↓evE.eq_13, ↓evE.eq_14, ↓evE.eq_15, ↓evE.eq_16, ↓evE.eq_17, ↓evE.eq_18, ↓evE.eq_19, ↓evE.eq_20, ↓evE.eq_21, ↓evE.eq_22, ↓evE.eq_23, ↓evE.eq_24, ↓evE.eq_25, ↓evE.eq_26, ↓evE.eq_27, ↓evE.eq_28, ↓evE.eq_29, ↓evE.eq_30, ↓evE.eq_31, ↓evE.eq_32, ↓evE.eq_33, ↓evE.eq_34, ↓evE.eq_35, ↓evE.eq_36, ↓evE.eq_37, ↓evE.eq_38, ↓evS.eq_1, ↓evS_seq, ↓evS.eq_3, ↓evS.eq_4, ↓evS.eq_5, ↓evS.eq_6, ↓evS.eq_7, ↓evS.eq_8, ↓evS_ite, ↓iteS, ↓evS.eq_11, ↓evS.eq_12, ↓evS.eq_13, ↓evS.eq_14, ↓evS.eq_15, ↓evS.eq_16, ↓evS.eq_17, ↓evS_for, ↓evA.eq_1, ↓evA.eq_2, ↓evT.eq_1, ↓evT.eq_2, ↓evO.eq_1, ↓evO.eq_2, ↓evI.eq_1, ↓evI.eq_2, ↓evI.eq_3, ↓evI.eq_4, ↓evI.eq_5, ↓evF.eq_1, ↓evF.eq_2, ↓m_bind, ↓m_then, ↓m_opt, SRes.bind_nx, SRes.bind_rt, SRes.bind_bk, SRes.bind_ct, SRes.bind_ex, SRes.bind_bad, at_call, at_glo, at_fuel, SRes.back, List.getElem?_cons_zero, List.getElem?_cons_succ, List.set_cons_zero, List.set_cons_succ, asgT, asgTs, cmpV, truV, binV, bltV, tyN, tyLe, subV, Option.map_some, Option.map_none, List.any_cons, List.any_nil, if_true, if_false, ite_true, ite_false, String.reduceBEq, Nat.reduceAdd, Bool.or_false, Bool.false_or, Bool.or_true, Bool.true_or, Bool.and_true, Bool.true_and, Bool.and_false, Bool.false_and, Bool.not_true, Bool.not_false, beq_self_eq_true, decide_true, decide_false, reduceCtorEq, Bool.false_eq_true, Ev.keyOf, dctKeys, List.length_cons, List.length_nil, List.zip_cons_cons, List.zip_nil_left, List.zip_nil_right, List.foldl_cons, List.foldl_nil, methV, setV, isL, permL_cons, permL_nil, List.map_cons, List.map_nil, valP_cons, valP_nil, key_str, key_int, ofString_eq, String.reduceEq, putP, sizeLine_eq, Nat.reduceLT, Nat.reduceLeDiff, sto_self, mulOk, powOk, divOk, Int.reducePow, Nat.reducePow, Int.reduceNeg, Int.reduceLT, Int.reduceLE, natAbs64, natAbs30, Int.reduceToNat, Int.reduceEq, Int.reduceAdd, Int.reduceSub, Int.reduceMul, ne_eq, not_false_eq_true, Int.reduceNe, Ev.alloc, Ev.eq_ii, Ev.eq_ss, Ev.eq_bb, Ev.eq_nn, Ev.eq_ni, Ev.eq_in, Ev.eq_ns, Ev.eq_sn, Ev.eq_nb, Ev.eq_bn, Ev.eq_is, Ev.eq_si, and_self, true_and, and_true, fmod_lt64, fmod_gt64, atI_0, atI_1, atI_2, atI_3, atI_4, atI_5, atI_6, atI_7, atI_8, atI_9, itemsV, smV, fmtV, lenSetV, seqOf, lstOf, slcV, revV, srcOf, optI, List.nil_append, List.cons_append, sto_new, intsP, sortI, insI, compL, compG, wipeP, boolsP, List.all_cons, List.all_nil, id_eq, keep_nil, maxI, minI, intsP, cutf_1, cutf_2, cutf_3, cutf_4, cutt_1, cutt_2, cutt_3, cutt_4, List.drop_succ_cons, List.drop_zero, List.take_succ_cons, List.take_zero, Int.cast_ofNat_Int, false_and, and_false, or_self, or_false, false_or, true_or, or_true, lit_e, tS_len, tS_cat, tS_eq, tS_lt, List.toList_toArray, g_MOST_WORD, g_LETTERS, g_MOST_POOL, g_MOST_WEIGHT, g_MOST_TURNS, GC.pv]) (sto_new _ _) (sto_app h0) (by rw [hL]; exact ints_iV (r :: R)) (minKV_pure (fun i => Due (Get w i) (Get c i) W) (keep_one (sto_new _ _)) R r up (fun j hj => by
        have hj' := inr j hj
        have d := due_ok n (M ++ [.lst L]) (k := Get c j) (hw.get hj') hw.W800
        have h1 := at_iV (l := w) (i := j) hj'
        have h2 := at_iV (l := c) (i := j) (by omega)
        have ha2 : (M ++ [MO.lst L])[a]? = some (.lst (w.map iV)) := sto_app ha
        generalize (M ++ [MO.lst L]) = M2 at ha2 d ⊢
        simp only [↓evE.eq_1, ↓evE.eq_2, ↓evE.eq_3, ↓evE.eq_4, ↓evE.eq_5, ↓evE.eq_6, ↓evE.eq_7, ↓evE.eq_8, ↓evE.eq_9, ↓evE.eq_10, ↓evE.eq_11, ↓evE.eq_12, ↓evE.eq_13, ↓evE.eq_14, ↓evE.eq_15, ↓evE.eq_16, ↓evE.eq_17, ↓evE.eq_18, ↓evE.eq_19, ↓evE.eq_20, ↓evE.eq_21, ↓evE.eq_22, ↓evE.eq_23, ↓evE.eq_24, ↓evE.eq_25, ↓evE.eq_26, ↓evE.eq_27, ↓evE.eq_28, ↓evE.eq_29, ↓evE.eq_30, ↓evE.eq_31, ↓evE.eq_32, ↓evE.eq_33, ↓evE.eq_34, ↓evE.eq_35, ↓evE.eq_36, ↓evE.eq_37, ↓evE.eq_38, ↓evS.eq_1, ↓evS_seq, ↓evS.eq_3, ↓evS.eq_4, ↓evS.eq_5, ↓evS.eq_6, ↓evS.eq_7, ↓evS.eq_8, ↓evS_ite, ↓iteS, ↓evS.eq_11, ↓evS.eq_12, ↓evS.eq_13, ↓evS.eq_14, ↓evS.eq_15, ↓evS.eq_16, ↓evS.eq_17, ↓evS_for, ↓evA.eq_1, ↓evA.eq_2, ↓evT.eq_1, ↓evT.eq_2, ↓evO.eq_1, ↓evO.eq_2, ↓evI.eq_1, ↓evI.eq_2, ↓evI.eq_3, ↓evI.eq_4, ↓evI.eq_5, ↓evF.eq_1, ↓evF.eq_2, ↓m_bind, ↓m_then, ↓m_opt, SRes.bind_nx, SRes.bind_rt, SRes.bind_bk, SRes.bind_ct, SRes.bind_ex, SRes.bind_bad, at_call, at_glo, at_fuel, SRes.back, List.getElem?_cons_zero, List.getElem?_cons_succ, List.set_cons_zero, List.set_cons_succ, asgT, asgTs, cmpV, truV, binV, bltV, tyN, tyLe, subV, Option.map_some, Option.map_none, List.any_cons, List.any_nil, if_true, if_false, ite_true, ite_false, String.reduceBEq, Nat.reduceAdd, Bool.or_false, Bool.false_or, Bool.or_true, Bool.true_or, Bool.and_true, Bool.true_and, Bool.and_false, Bool.false_and, Bool.not_true, Bool.not_false, beq_self_eq_true, decide_true, decide_false, reduceCtorEq, Bool.false_eq_true, Ev.keyOf, dctKeys, List.length_cons, List.length_nil, List.zip_cons_cons, List.zip_nil_left, List.zip_nil_right, List.foldl_cons, List.foldl_nil, methV, setV, isL, permL_cons, permL_nil, List.map_cons, List.map_nil, valP_cons, valP_nil, key_str, key_int, ofString_eq, String.reduceEq, putP, sizeLine_eq, Nat.reduceLT, Nat.reduceLeDiff, sto_self, mulOk, powOk, divOk, Int.reducePow, Nat.reducePow, Int.reduceNeg, Int.reduceLT, Int.reduceLE, natAbs64, natAbs30, Int.reduceToNat, Int.reduceEq, Int.reduceAdd, Int.reduceSub, Int.reduceMul, ne_eq, not_false_eq_true, Int.reduceNe, Ev.alloc, Ev.eq_ii, Ev.eq_ss, Ev.eq_bb, Ev.eq_nn, Ev.eq_ni, Ev.eq_in, Ev.eq_ns, Ev.eq_sn, Ev.eq_nb, Ev.eq_bn, Ev.eq_is, Ev.eq_si, and_self, true_and, and_true, fmod_lt64, fmod_gt64, atI_0, atI_1, atI_2, atI_3, atI_4, atI_5, atI_6, atI_7, atI_8, atI_9, itemsV, smV, fmtV, lenSetV, seqOf, lstOf, slcV, revV, srcOf, optI, List.nil_append, List.cons_append, sto_new, intsP, sortI, insI, compL, compG, wipeP, boolsP, List.all_cons, List.all_nil, id_eq, keep_nil, maxI, minI, intsP, cutf_1, cutf_2, cutf_3, cutf_4, cutt_1, cutt_2, cutt_3, cutt_4, List.drop_succ_cons, List.drop_zero, List.take_succ_cons, List.take_zero, Int.cast_ofNat_Int, false_and, and_false, or_self, or_false, false_or, true_or, or_true, lit_e, tS_len, tS_cat, tS_eq, tS_lt, List.toList_toArray, g_MOST_WORD, g_LETTERS, g_MOST_POOL, g_MOST_WEIGHT, g_MOST_TURNS, GC.pv, ha2, h1, h2, d]))
    simp only [↓evE.eq_1, ↓evE.eq_2, ↓evE.eq_3, ↓evE.eq_4, ↓evE.eq_5, ↓evE.eq_6, ↓evE.eq_7, ↓evE.eq_8, ↓evE.eq_9, ↓evE.eq_10, ↓evE.eq_11, ↓evE.eq_12, ↓evE.eq_13, ↓evE.eq_14, ↓evE.eq_15, ↓evE.eq_16, ↓evE.eq_17, ↓evE.eq_18, ↓evE.eq_19, ↓evE.eq_20, ↓evE.eq_21, ↓evE.eq_22, ↓evE.eq_23, ↓evE.eq_24, ↓evE.eq_25, ↓evE.eq_26, ↓evE.eq_27, ↓evE.eq_28, ↓evE.eq_29, ↓evE.eq_30, ↓evE.eq_31, ↓evE.eq_32, ↓evE.eq_33, ↓evE.eq_34, ↓evE.eq_35, ↓evE.eq_36, ↓evE.eq_37, ↓evE.eq_38, ↓evS.eq_1, ↓evS_seq, ↓evS.eq_3, ↓evS.eq_4, ↓evS.eq_5, ↓evS.eq_6, ↓evS.eq_7, ↓evS.eq_8, ↓evS_ite, ↓iteS, ↓evS.eq_11, ↓evS.eq_12, ↓evS.eq_13, ↓evS.eq_14, ↓evS.eq_15, ↓evS.eq_16, ↓evS.eq_17, ↓evS_for, ↓evA.eq_1, ↓evA.eq_2, ↓evT.eq_1, ↓evT.eq_2, ↓evO.eq_1, ↓evO.eq_2, ↓evI.eq_1, ↓evI.eq_2, ↓evI.eq_3, ↓evI.eq_4, ↓evI.eq_5, ↓evF.eq_1, ↓evF.eq_2, ↓m_bind, ↓m_then, ↓m_opt, SRes.bind_nx, SRes.bind_rt, SRes.bind_bk, SRes.bind_ct, SRes.bind_ex, SRes.bind_bad, at_call, at_glo, at_fuel, SRes.back, List.getElem?_cons_zero, List.getElem?_cons_succ, List.set_cons_zero, List.set_cons_succ, asgT, asgTs, cmpV, truV, binV, bltV, tyN, tyLe, subV, Option.map_some, Option.map_none, List.any_cons, List.any_nil, if_true, if_false, ite_true, ite_false, String.reduceBEq, Nat.reduceAdd, Bool.or_false, Bool.false_or, Bool.or_true, Bool.true_or, Bool.and_true, Bool.true_and, Bool.and_false, Bool.false_and, Bool.not_true, Bool.not_false, beq_self_eq_true, decide_true, decide_false, reduceCtorEq, Bool.false_eq_true, Ev.keyOf, dctKeys, List.length_cons, List.length_nil, List.zip_cons_cons, List.zip_nil_left, List.zip_nil_right, List.foldl_cons, List.foldl_nil, methV, setV, isL, permL_cons, permL_nil, List.map_cons, List.map_nil, valP_cons, valP_nil, key_str, key_int, ofString_eq, String.reduceEq, putP, sizeLine_eq, Nat.reduceLT, Nat.reduceLeDiff, sto_self, mulOk, powOk, divOk, Int.reducePow, Nat.reducePow, Int.reduceNeg, Int.reduceLT, Int.reduceLE, natAbs64, natAbs30, Int.reduceToNat, Int.reduceEq, Int.reduceAdd, Int.reduceSub, Int.reduceMul, ne_eq, not_false_eq_true, Int.reduceNe, Ev.alloc, Ev.eq_ii, Ev.eq_ss, Ev.eq_bb, Ev.eq_nn, Ev.eq_ni, Ev.eq_in, Ev.eq_ns, Ev.eq_sn, Ev.eq_nb, Ev.eq_bn, Ev.eq_is, Ev.eq_si, and_self, true_and, and_true, fmod_lt64, fmod_gt64, atI_0, atI_1, atI_2, atI_3, atI_4, atI_5, atI_6, atI_7, atI_8, atI_9, itemsV, smV, fmtV, lenSetV, seqOf, lstOf, slcV, revV, srcOf, optI, List.nil_append, List.cons_append, sto_new, intsP, sortI, insI, compL, compG, wipeP, boolsP, List.all_cons, List.all_nil, id_eq, keep_nil, maxI, minI, intsP, cutf_1, cutf_2, cutf_3, cutf_4, cutt_1, cutt_2, cutt_3, cutt_4, List.drop_succ_cons, List.drop_zero, List.take_succ_cons, List.take_zero, Int.cast_ofNat_Int, false_and, and_false, or_self, or_false, false_or, true_or, or_true, lit_e, tS_len, tS_cat, tS_eq, tS_lt, List.toList_toArray, g_MOST_WORD, g_LETTERS, g_MOST_POOL, g_MOST_WEIGHT, g_MOST_TURNS, GC.pv, hk]
    exact ⟨_, rfl, Keep.app⟩
end K18

set_option Elab.async false
set_option linter.all false
set_option maxRecDepth 100000
set_option maxHeartbeats 4000000
/-! K18t: many turns; counts at any time. -/
namespace K18
open PySem L2 Ev
theorem inc_cut {c : List Nat} {i : Nat} (h : i < c.length) : (c.map iV).take i ++ [.int ((Get c i : Int) + 1)] ++ (c.map iV).drop (i + 1) = (inc c i).map iV := by
  have e : (.int ((Get c i : Int) + 1) : PV) = iV (Get c i + 1) := by
    show PV.int _ = PV.int _
    push_cast; rfl
  rw [e, ← List.map_take, ← List.map_drop, show [iV (Get c i + 1)] = [Get c i + 1].map iV from rfl, ← List.map_append, ← List.map_append]
  unfold inc
  rw [List.set_eq_take_append_cons_drop, if_pos h]
  simp
theorem one_more_ok (n : Nat) (M : Sto) {c : List Nat} {i : Nat} (h : i < c.length) (h8 : c.length ≤ 8) : callN T (n + 1) "with_one_more" [.tup (c.map iV), iV i] M = .ok (.tup ((inc c i).map iV)) M := by
  have h1 := at_iV h
  have h2 := cut_to (c.map iV) i
  have h3 : cutP (c.map iV) (some ((i : Int) + 1)) none = (c.map iV).drop (i + 1) := by
    rw [show ((i : Int) + 1) = ((i + 1 : Nat) : Int) by push_cast; rfl]
    exact cut_from _ _
  have l1 : (((c.map iV).take i).length + 1 ≤ 16777216) = True := eq_true (by simp; omega)
  have l2 : (((c.map iV).take i ++ [PV.int ((Get c i : Int) + 1)]).length + ((c.map iV).drop (i + 1)).length ≤ 16777216) = True := eq_true (by simp; omega)
  rw [e_with_one_more]
  unfold c_with_one_more
  simp only [↓evE.eq_1, ↓evE.eq_2, ↓evE.eq_3, ↓evE.eq_4, ↓evE.eq_5, ↓evE.eq_6, ↓evE.eq_7, ↓evE.eq_8, ↓evE.eq_9, ↓evE.eq_10, ↓evE.eq_11, ↓evE.eq_12, ↓evE.eq_13, ↓evE.eq_14, ↓evE.eq_15, ↓evE.eq_16, ↓evE.eq_17, ↓evE.eq_18, ↓evE.eq_19, ↓evE.eq_20, ↓evE.eq_21, ↓evE.eq_22, ↓evE.eq_23, ↓evE.eq_24, ↓evE.eq_25, ↓evE.eq_26, ↓evE.eq_27, ↓evE.eq_28, ↓evE.eq_29, ↓evE.eq_30, ↓evE.eq_31, ↓evE.eq_32, ↓evE.eq_33, ↓evE.eq_34, ↓evE.eq_35, ↓evE.eq_36, ↓evE.eq_37, ↓evE.eq_38, ↓evS.eq_1, ↓evS_seq, ↓evS.eq_3, ↓evS.eq_4, ↓evS.eq_5, ↓evS.eq_6, ↓evS.eq_7, ↓evS.eq_8, ↓evS_ite, ↓iteS, ↓evS.eq_11, ↓evS.eq_12, ↓evS.eq_13, ↓evS.eq_14, ↓evS.eq_15, ↓evS.eq_16, ↓evS.eq_17, ↓evS_for, ↓evA.eq_1, ↓evA.eq_2, ↓evT.eq_1, ↓evT.eq_2, ↓evO.eq_1, ↓evO.eq_2, ↓evI.eq_1, ↓evI.eq_2, ↓evI.eq_3, ↓evI.eq_4, ↓evI.eq_5, ↓evF.eq_1, ↓evF.eq_2, ↓m_bind, ↓m_then, ↓m_opt, SRes.bind_nx, SRes.bind_rt, SRes.bind_bk, SRes.bind_ct, SRes.bind_ex, SRes.bind_bad, at_call, at_glo, at_fuel, SRes.back, List.getElem?_cons_zero, List.getElem?_cons_succ, List.set_cons_zero, List.set_cons_succ, asgT, asgTs, cmpV, truV, binV, bltV, tyN, tyLe, subV, Option.map_some, Option.map_none, List.any_cons, List.any_nil, if_true, if_false, ite_true, ite_false, String.reduceBEq, Nat.reduceAdd, Bool.or_false, Bool.false_or, Bool.or_true, Bool.true_or, Bool.and_true, Bool.true_and, Bool.and_false, Bool.false_and, Bool.not_true, Bool.not_false, beq_self_eq_true, decide_true, decide_false, reduceCtorEq, Bool.false_eq_true, Ev.keyOf, dctKeys, List.length_cons, List.length_nil, List.zip_cons_cons, List.zip_nil_left, List.zip_nil_right, List.foldl_cons, List.foldl_nil, methV, setV, isL, permL_cons, permL_nil, List.map_cons, List.map_nil, valP_cons, valP_nil, key_str, key_int, ofString_eq, String.reduceEq, putP, sizeLine_eq, Nat.reduceLT, Nat.reduceLeDiff, sto_self, mulOk, powOk, divOk, Int.reducePow, Nat.reducePow, Int.reduceNeg, Int.reduceLT, Int.reduceLE, natAbs64, natAbs30, Int.reduceToNat, Int.reduceEq, Int.reduceAdd, Int.reduceSub, Int.reduceMul, ne_eq, not_false_eq_true, Int.reduceNe, Ev.alloc, Ev.eq_ii, Ev.eq_ss, Ev.eq_bb, Ev.eq_nn, Ev.eq_ni, Ev.eq_in, Ev.eq_ns, Ev.eq_sn, Ev.eq_nb, Ev.eq_bn, Ev.eq_is, Ev.eq_si, and_self, true_and, and_true, fmod_lt64, fmod_gt64, atI_0, atI_1, atI_2, atI_3, atI_4, atI_5, atI_6, atI_7, atI_8, atI_9, itemsV, smV, fmtV, lenSetV, seqOf, lstOf, slcV, revV, srcOf, optI, List.nil_append, List.cons_append, sto_new, intsP, sortI, insI, compL, compG, wipeP, boolsP, List.all_cons, List.all_nil, id_eq, keep_nil, maxI, minI, intsP, cutf_1, cutf_2, cutf_3, cutf_4, cutt_1, cutt_2, cutt_3, cutt_4, List.drop_succ_cons, List.drop_zero, List.take_succ_cons, List.take_zero, Int.cast_ofNat_Int, false_and, and_false, or_self, or_false, false_or, true_or, or_true, lit_e, tS_len, tS_cat, tS_eq, tS_lt, List.toList_toArray, g_MOST_WORD, g_LETTERS, g_MOST_POOL, g_MOST_WEIGHT, g_MOST_TURNS, GC.pv, h1, h2, h3, l1, l2, inc_cut h]
/-- a range up to a number: (the cast is kept out of the simp runs) -/
theorem rng_ok {G : Glob} {env : Ev.Env} {M : Sto} {e : CE} {m : Int} (h : evE G e env M = .ok (.int m) M) (rg : rgOk 0 m = true) : evI G (.irg1 e) env M = .ok ⟨rgP 0 m, []⟩ M := by
  unfold evI
  rw [h]
  simp only [Res.bind_ok, rg, if_true]
theorem first_ok (n : Nat) (M : Sto) {w : List Nat} {W a m : Nat} {mi : Int} (hmi : mi = (m : Nat)) (hw : IsW w W) (ha : M[a]? = some (.lst (w.map iV))) (h0 : TB M) (hm : m ≤ 4000) :
    ∃ M', callN T (n + 3) "first_turns" [.ref a, .int mi] M = .ok (.tup [.tup ((List.range m).map fun k => iV (tr w W k)), .tup ((cnt w W m).map iV)]) M' ∧ Keep [] M M' := by
  have p1 := hw.pos
  have p2 := hw.le
  have al := (List.getElem?_eq_some_iff.mp ha).1
  have zl := (List.getElem?_eq_some_iff.mp h0).1
  have rg : rgOk 0 mi = true := rgOk_nat (by omega) (by omega) (by omega) (by omega)
  have hr : rgP 0 mi = (List.range' 0 m).map iV := by rw [hmi, rg_zero, List.range_eq_range']
  obtain ⟨q, hq⟩ : ∃ q : Int, q = (w.length : Nat) := ⟨_, rfl⟩
  have hq' : (((w.map iV).length : Nat) : Int) = q := by rw [hq, List.length_map]
  have hrep : repOk 1 q = true := by
    unfold repOk
    simp only [Bool.and_eq_true, decide_eq_true_eq]
    refine ⟨by omega, by omega, ?_⟩
    rw [sizeLine_eq]; omega
  have hz0 : (List.replicate q.toNat [PV.int 0]).flatten = (cnt w W 0).map iV := by
    have : q.toNat = w.length := by omega
    rw [this]
    show _ = (w.map fun _ => 0).map iV
    generalize w = v
    induction v with
    | nil => rfl
    | cons x v ih => rw [List.length_cons, List.replicate_succ, List.flatten_cons, ih]; rfl
  rw [e_first_turns]
  unfold c_first_turns
  simp only [↓evE.eq_1, ↓evE.eq_2, ↓evE.eq_3, ↓evE.eq_4, ↓evE.eq_5, ↓evE.eq_6, ↓evE.eq_7, ↓evE.eq_8, ↓evE.eq_9, ↓evE.eq_10, ↓evE.eq_11, ↓evE.eq_12, ↓evE.eq_13, ↓evE.eq_14, ↓evE.eq_15, ↓evE.eq_16, ↓evE.eq_17, ↓evE.eq_18, ↓evE.eq_19, ↓evE.eq_20, ↓evE.eq_21, ↓evE.eq_22, ↓evE.eq_23, ↓evE.eq_24, ↓evE.eq_25, ↓evE.eq_26, ↓evE.eq_27, ↓evE.eq_28, ↓evE.eq_29, ↓evE.eq_30, ↓evE.eq_31, ↓evE.eq_32, ↓evE.eq_33, ↓evE.eq_34, ↓evE.eq_35, ↓evE.eq_36, ↓evE.eq_37, ↓evE.eq_38, ↓evS.eq_1, ↓evS_seq, ↓evS.eq_3, ↓evS.eq_4, ↓evS.eq_5, ↓evS.eq_6, ↓evS.eq_7, ↓evS.eq_8, ↓evS_ite, ↓iteS, ↓evS.eq_11, ↓evS.eq_12, ↓evS.eq_13, ↓evS.eq_14, ↓evS.eq_15, ↓evS.eq_16, ↓evS.eq_17, ↓evS_for, ↓evA.eq_1, ↓evA.eq_2, ↓evT.eq_1, ↓evT.eq_2, ↓evO.eq_1, ↓evO.eq_2, ↓evI.eq_1, ↓evI.eq_2, ↓evI.eq_3, ↓evI.eq_4, ↓evI.eq_5, ↓evF.eq_1, ↓evF.eq_2, ↓m_bind, ↓m_then, ↓m_opt, SRes.bind_nx, SRes.bind_rt, SRes.bind_bk, SRes.bind_ct, SRes.bind_ex, SRes.bind_bad, at_call, at_glo, at_fuel, SRes.back, List.getElem?_cons_zero, List.getElem?_cons_succ, List.set_cons_zero, List.set_cons_succ, asgT, asgTs, cmpV, truV, binV, bltV, tyN, tyLe, subV, Option.map_some, Option.map_none, List.any_cons, List.any_nil, if_true, if_false, ite_true, ite_false, String.reduceBEq, Nat.reduceAdd, Bool.or_false, Bool.false_or, Bool.or_true, Bool.true_or, Bool.and_true, Bool.true_and, Bool.and_false, Bool.false_and, Bool.not_true, Bool.not_false, beq_self_eq_true, decide_true, decide_false, reduceCtorEq, Bool.false_eq_true, Ev.keyOf, dctKeys, List.length_cons, List.length_nil, List.zip_cons_cons, List.zip_nil_left, List.zip_nil_right, List.foldl_cons, List.foldl_nil, methV, setV, isL, permL_cons, permL_nil, List.map_cons, List.map_nil, valP_cons, valP_nil, key_str, key_int, ofString_eq, String.reduceEq, putP, sizeLine_eq, Nat.reduceLT, Nat.reduceLeDiff, sto_self, mulOk, powOk, divOk, Int.reducePow, Nat.reducePow, Int.reduceNeg, Int.reduceLT, Int.reduceLE, natAbs64, natAbs30, Int.reduceToNat, Int.reduceEq, Int.reduceAdd, Int.reduceSub, Int.reduceMul, ne_eq, not_false_eq_true, Int.reduceNe, Ev.alloc, Ev.eq_ii, Ev.eq_ss, Ev.eq_bb, Ev.eq_nn, Ev.eq_ni, Ev.eq_in, Ev.eq_ns, Ev.eq_sn, Ev.eq_nb, Ev.eq_bn, Ev.eq_is, Ev.eq_si, and_self, true_and, and_true, fmod_lt64, fmod_gt64, atI_0, atI_1, atI_2, atI_3, atI_4, atI_5, atI_6, atI_7, atI_8, atI_9, itemsV, smV, fmtV, lenSetV, seqOf, lstOf, slcV, revV, srcOf, optI, List.nil_append, List.cons_append, sto_new, intsP, sortI, insI, compL, compG, wipeP, boolsP, List.all_cons, List.all_nil, id_eq, keep_nil, maxI, minI, intsP, cutf_1, cutf_2, cutf_3, cutf_4, cutt_1, cutt_2, cutt_3, cutt_4, List.drop_succ_cons, List.drop_zero, List.take_succ_cons, List.take_zero, Int.cast_ofNat_Int, false_and, and_false, or_self, or_false, false_or, true_or, or_true, lit_e, tS_len, tS_cat, tS_eq, tS_lt, List.toList_toArray, g_MOST_WORD, g_LETTERS, g_MOST_POOL, g_MOST_WEIGHT, g_MOST_TURNS, GC.pv, sto_app ha, hq', hrep, hz0, rg, hr]
  generalize hz : forL _ _ _ _ _ = z
  obtain ⟨env', M', rfl, k, v4, h1, h2, h3, h4⟩ := for_of hz (fun xs env M1 => ∃ k v4, xs = (List.range' k (m - k)).map iV ∧ env = [some (.ref a), some (.int mi), some (.ref M.length), some (.tup ((cnt w W k).map iV)), v4] ∧ M1[M.length]? = some (.lst ((List.range k).map fun j => iV (tr w W j))) ∧ (Keep [M.length] (M ++ [.lst []]) M1 ∧ k ≤ m))
    ⟨0, none, by simp, rfl, sto_new _ _, Keep.refl _, Nat.zero_le _⟩ (fun _ _ _ _ => keep_nil _) (fun x xs env M1 ⟨k, v4, h1, h2, h3, h4, hk⟩ => by
      have hkm : k < m := by
        rcases Nat.lt_or_ge k m with q | q
        · exact q
        · rw [show m - k = 0 by omega] at h1; cases h1
      rw [show m - k = (m - (k + 1)) + 1 by omega, List.range'_succ] at h1
      cases h1
      subst h2
      have nM : ∀ i, i < M.length → i ∉ [M.length] := fun i hi z => by
        have := List.mem_singleton.mp z; omega
      have ha1 : M1[a]? = some (.lst (w.map iV)) := h4.get (sto_app ha) (nM a al)
      have h01 : TB M1 := h4.get (sto_app h0) (nM 0 zl)
      obtain ⟨g, es⟩ := cnt_good hw.hp hw.sum hw.W0 k
      have nx1 := tr_nxt hw.hp hw.sum hw.W0 k
      obtain ⟨M2, e2, k2⟩ := turn_ok n M1 hw g.len (by rw [es]; exact ⟨_, nx1.lt, nx1.rdy⟩) ha1 h01
      rw [es] at e2
      have et : nx w (cnt w W k) W k = tr w W k := rfl
      rw [et] at e2
      have h32 := k2.get h3 (by simp)
      have ll : (((List.range k).map fun j => iV (tr w W j)).length < 16777216) = True := eq_true (by simp; omega)
      have em : (List.map (fun j => iV (tr w W j)) (List.range k)) ++ [iV (tr w W k)] = (List.range (k + 1)).map fun j => iV (tr w W j) := by
        rw [List.range_succ, List.map_append]; rfl
      have l2 := sto_lt h32
      have eo := one_more_ok (n + 1) (M2.set M.length (.lst ((List.range (k + 1)).map fun j => iV (tr w W j)))) (c := cnt w W k) (i := tr w W k) (by rw [g.len]; exact nx1.lt) (by rw [g.len]; exact p2)
      have ei : inc (cnt w W k) (tr w W k) = cnt w W (k + 1) := rfl
      rw [ei] at eo
      have em1 : atI ((List.range (k + 1)).map fun j => iV (tr w W j)) (-1) = some (iV (tr w W k)) := by rw [← em]; exact atI_m1 _ _
      refine ⟨_, M2.set M.length (.lst ((List.range (k + 1)).map fun j => iV (tr w W j))), .inl ?_, k + 1, some (iV k), rfl, rfl, by rw [sto_self, h32]; rfl, (h4.trans (k2.imp (fun _ z => nomatch z))).trans (Keep.set (by simp)), hkm⟩
      unfold forB
      simp only [↓evE.eq_1, ↓evE.eq_2, ↓evE.eq_3, ↓evE.eq_4, ↓evE.eq_5, ↓evE.eq_6, ↓evE.eq_7, ↓evE.eq_8, ↓evE.eq_9, ↓evE.eq_10, ↓evE.eq_11, ↓evE.eq_12, ↓evE.eq_13, ↓evE.eq_14, ↓evE.eq_15, ↓evE.eq_16, ↓evE.eq_17, ↓evE.eq_18, ↓evE.eq_19, ↓evE.eq_20, ↓evE.eq_21, ↓evE.eq_22, ↓evE.eq_23, ↓evE.eq_24, ↓evE.eq_25, ↓evE.eq_26, ↓evE.eq_27, ↓evE.eq_28, ↓evE.eq_29, ↓evE.eq_30, ↓evE.eq_31, ↓evE.eq_32, ↓evE.eq_33, ↓evE.eq_34, ↓evE.eq_35, ↓evE.eq_36, ↓evE.eq_37, ↓evE.eq_38, ↓evS.eq_1, ↓evS_seq, ↓evS.eq_3, ↓evS.eq_4, ↓evS.eq_5, ↓evS.eq_6, ↓evS.eq_7, ↓evS.eq_8, ↓evS_ite, ↓iteS, ↓evS.eq_11, ↓evS.eq_12, ↓evS.eq_13, ↓evS.eq_14, ↓evS.eq_15, ↓evS.eq_16, ↓evS.eq_17, ↓evS_for, ↓evA.eq_1, ↓evA.eq_2, ↓evT.eq_1, ↓evT.eq_2, ↓evO.eq_1, ↓evO.eq_2, ↓evI.eq_1, ↓evI.eq_2, ↓evI.eq_3, ↓evI.eq_4, ↓evI.eq_5, ↓evF.eq_1, ↓evF.eq_2, ↓m_bind, ↓m_then, ↓m_opt, SRes.bind_nx, SRes.bind_rt, SRes.bind_bk, SRes.bind_ct, SRes.bind_ex, SRes.bind_bad, at_call, at_glo, at_fuel, SRes.back, List.getElem?_cons_zero, List.getElem?_cons_succ, List.set_cons_zero, List.set_cons_succ, asgT, asgTs, cmpV, truV, binV, bltV, tyN, tyLe, subV, Option.map_some, Option.map_none, List.any_cons, List.any_nil, if_true, if_false, ite_true, ite_false, String.reduceBEq, Nat.reduceAdd, Bool.or_false, Bool.false_or, Bool.or_true, Bool.true_or, Bool.and_true, Bool.true_and, Bool.and_false, Bool.false_and, Bool.not_true, Bool.not_false, beq_self_eq_true, decide_true, decide_false, reduceCtorEq, Bool.false_eq_true, Ev.keyOf, dctKeys, List.length_cons, List.length_nil, List.zip_cons_cons, List.zip_nil_left, List.zip_nil_right, List.foldl_cons, List.foldl_nil, methV, setV, isL, permL_cons, permL_nil, List.map_cons, List.map_nil, valP_cons, valP_nil, key_str, key_int, ofString_eq, String.reduceEq, putP, sizeLine_eq, Nat.reduceLT, Nat.reduceLeDiff, sto_self, mulOk, powOk, divOk, Int.reducePow, Nat.reducePow, Int.reduceNeg, Int.reduceLT, Int.reduceLE, natAbs64, natAbs30, Int.reduceToNat, Int.reduceEq, Int.reduceAdd, Int.reduceSub, Int.reduceMul, ne_eq, not_false_eq_true, Int.reduceNe, Ev.alloc, Ev.eq_ii, Ev.eq_ss, Ev.eq_bb, Ev.eq_nn, Ev.eq_ni, Ev.eq_in, Ev.eq_ns, Ev.eq_sn, Ev.eq_nb, Ev.eq_bn, Ev.eq_is, Ev.eq_si, and_self, true_and, and_true, fmod_lt64, fmod_gt64, atI_0, atI_1, atI_2, atI_3, atI_4, atI_5, atI_6, atI_7, atI_8, atI_9, itemsV, smV, fmtV, lenSetV, seqOf, lstOf, slcV, revV, srcOf, optI, List.nil_append, List.cons_append, sto_new, intsP, sortI, insI, compL, compG, wipeP, boolsP, List.all_cons, List.all_nil, id_eq, keep_nil, maxI, minI, intsP, cutf_1, cutf_2, cutf_3, cutf_4, cutt_1, cutt_2, cutt_3, cutt_4, List.drop_succ_cons, List.drop_zero, List.take_succ_cons, List.take_zero, Int.cast_ofNat_Int, false_and, and_false, or_self, or_false, false_or, true_or, or_true, lit_e, tS_len, tS_cat, tS_eq, tS_lt, List.toList_toArray, g_MOST_WORD, g_LETTERS, g_MOST_POOL, g_MOST_WEIGHT, g_MOST_TURNS, GC.pv, e2, h3, h32, ll, em, l2, em1, eo])
  have hkm : k = m := by
    rcases Nat.lt_or_ge k m with q | q
    · rw [show m - k = (m - (k + 1)) + 1 by omega, List.range'_succ] at h1; cases h1
    · omega
  subst hkm
  subst h2
  simp only [↓evE.eq_1, ↓evE.eq_2, ↓evE.eq_3, ↓evE.eq_4, ↓evE.eq_5, ↓evE.eq_6, ↓evE.eq_7, ↓evE.eq_8, ↓evE.eq_9, ↓evE.eq_10, ↓evE.eq_11, ↓evE.eq_12, ↓evE.eq_13, ↓evE.eq_14, ↓evE.eq_15, ↓evE.eq_16, ↓evE.eq_17, ↓evE.eq_18, ↓evE.eq_19, ↓evE.eq_20, ↓evE.eq_21, ↓evE.eq_22, ↓evE.eq_23, ↓evE.eq_24, ↓evE.eq_25, ↓evE.eq_26, ↓evE.eq_27, ↓evE.eq_28, ↓evE.eq_29, ↓evE.eq_30, ↓evE.eq_31, ↓evE.eq_32, ↓evE.eq_33, ↓evE.eq_34, ↓evE.eq_35, ↓evE.eq_36, ↓evE.eq_37, ↓evE.eq_38, ↓evS.eq_1, ↓evS_seq, ↓evS.eq_3, ↓evS.eq_4, ↓evS.eq_5, ↓evS.eq_6, ↓evS.eq_7, ↓evS.eq_8, ↓evS_ite, ↓iteS, ↓evS.eq_11, ↓evS.eq_12, ↓evS.eq_13, ↓evS.eq_14, ↓evS.eq_15, ↓evS.eq_16, ↓evS.eq_17, ↓evS_for, ↓evA.eq_1, ↓evA.eq_2, ↓evT.eq_1, ↓evT.eq_2, ↓evO.eq_1, ↓evO.eq_2, ↓evI.eq_1, ↓evI.eq_2, ↓evI.eq_3, ↓evI.eq_4, ↓evI.eq_5, ↓evF.eq_1, ↓evF.eq_2, ↓m_bind, ↓m_then, ↓m_opt, SRes.bind_nx, SRes.bind_rt, SRes.bind_bk, SRes.bind_ct, SRes.bind_ex, SRes.bind_bad, at_call, at_glo, at_fuel, SRes.back, List.getElem?_cons_zero, List.getElem?_cons_succ, List.set_cons_zero, List.set_cons_succ, asgT, asgTs, cmpV, truV, binV, bltV, tyN, tyLe, subV, Option.map_some, Option.map_none, List.any_cons, List.any_nil, if_true, if_false, ite_true, ite_false, String.reduceBEq, Nat.reduceAdd, Bool.or_false, Bool.false_or, Bool.or_true, Bool.true_or, Bool.and_true, Bool.true_and, Bool.and_false, Bool.false_and, Bool.not_true, Bool.not_false, beq_self_eq_true, decide_true, decide_false, reduceCtorEq, Bool.false_eq_true, Ev.keyOf, dctKeys, List.length_cons, List.length_nil, List.zip_cons_cons, List.zip_nil_left, List.zip_nil_right, List.foldl_cons, List.foldl_nil, methV, setV, isL, permL_cons, permL_nil, List.map_cons, List.map_nil, valP_cons, valP_nil, key_str, key_int, ofString_eq, String.reduceEq, putP, sizeLine_eq, Nat.reduceLT, Nat.reduceLeDiff, sto_self, mulOk, powOk, divOk, Int.reducePow, Nat.reducePow, Int.reduceNeg, Int.reduceLT, Int.reduceLE, natAbs64, natAbs30, Int.reduceToNat, Int.reduceEq, Int.reduceAdd, Int.reduceSub, Int.reduceMul, ne_eq, not_false_eq_true, Int.reduceNe, Ev.alloc, Ev.eq_ii, Ev.eq_ss, Ev.eq_bb, Ev.eq_nn, Ev.eq_ni, Ev.eq_in, Ev.eq_ns, Ev.eq_sn, Ev.eq_nb, Ev.eq_bn, Ev.eq_is, Ev.eq_si, and_self, true_and, and_true, fmod_lt64, fmod_gt64, atI_0, atI_1, atI_2, atI_3, atI_4, atI_5, atI_6, atI_7, atI_8, atI_9, itemsV, smV, fmtV, lenSetV, seqOf, lstOf, slcV, revV, srcOf, optI, List.nil_append, List.cons_append, sto_new, intsP, sortI, insI, compL, compG, wipeP, boolsP, List.all_cons, List.all_nil, id_eq, keep_nil, maxI, minI, intsP, cutf_1, cutf_2, cutf_3, cutf_4, cutt_1, cutt_2, cutt_3, cutt_4, List.drop_succ_cons, List.drop_zero, List.take_succ_cons, List.take_zero, Int.cast_ofNat_Int, false_and, and_false, or_self, or_false, false_or, true_or, or_true, lit_e, tS_len, tS_cat, tS_eq, tS_lt, List.toList_toArray, g_MOST_WORD, g_LETTERS, g_MOST_POOL, g_MOST_WEIGHT, g_MOST_TURNS, GC.pv, h3]
  exact ⟨_, rfl, by have := h4.1.len; simp at this; omega, fun k hk _ => by rw [h4.1.2 k (by simp; omega) (by simp; omega)]; exact List.getElem?_append_left hk⟩
end K18

set_option Elab.async false
set_option linter.all false
set_option maxRecDepth 100000
set_option maxHeartbeats 4000000
/-! K18u: counts at any time; the program's answers. -/
namespace K18
open PySem L2 Ev
def ws (P : Pool) : List Nat := P.map (·.2)
def tot (P : Pool) : Nat := (ws P).sum
theorem isW {P : Pool} (h : IsPool P) : IsW (ws P) (tot P) := ⟨fun x hx => by
  obtain ⟨p, hp, rfl⟩ := List.mem_map.mp hx
  obtain ⟨_, h1, h2⟩ := h.w p hp
  exact ⟨by omega, h2⟩, by unfold ws; rw [List.length_map]; exact h.pos, by unfold ws; rw [List.length_map]; exact h.le, rfl⟩
theorem ws_len (P : Pool) : (ws P).length = P.length := by simp [ws]
abbrev cn (P : Pool) (m : Nat) : List Nat := cnt (ws P) (tot P) m
abbrev tn (P : Pool) (m : Nat) : Nat := tr (ws P) (tot P) m
theorem zip_iV (l m : List Nat) : zipP (l.map iV) (m.map iV) = (l.zip m).map fun p => .tup [iV p.1, iV p.2] := zipP_map l m
theorem cn_len {P : Pool} (h : IsPool P) (m : Nat) : (cn P m).length = P.length := by
  rw [cnt_len (isW h).hp (isW h).sum (isW h).W0, ws_len]
theorem counts_at_i (n : Nat) (M : Sto) {P : Pool} (hP : IsPool P) {m : Nat} {mi : Int} (hmi : mi = (m : Nat)) (h0 : TB M) (hm : m ≤ 4000) :
    ∃ M', callN T (n + 4) "counts_at" [pV P, .int mi] M = .ok (.tup ((cn P m).map iV)) M' ∧ Keep [] M M' := by
  have hw := isW hP
  have W0 := hw.W0
  have W8 := hw.W800
  have zl := sto_lt h0
  obtain ⟨q, hq⟩ : ∃ q : Int, q = (tot P : Nat) := ⟨_, rfl⟩
  have e1 := weights_ok (n + 2) M P hP.le
  have sm : ((ws P).map fun x : Nat => (x : Int)).sum = q := by rw [sum_cast, hq]; rfl
  have c1 : (0 < q) = True := eq_true (by omega)
  have c2 : (q < 1073741824) = True := eq_true (by omega)
  have ed : mi / q = ((m / tot P : Nat) : Int) := by rw [hmi, hq]; rfl
  have em : mi % q = ((m % tot P : Nat) : Int) := by rw [hmi, hq]; rfl
  obtain ⟨M2, e2, k2⟩ := first_ok n (M ++ [.lst ((ws P).map iV)]) (w := ws P) (W := tot P) (a := M.length) (m := m % tot P) (mi := mi % q) em hw (sto_new _ _) (sto_app h0) (by have := Nat.mod_le m (tot P); omega)
  have hl2 : M2[M.length]? = some (.lst ((ws P).map iV)) := k2.get (sto_new _ _) (by simp)
  have e1' : callN T (n + 3) "weights_of" [pV P] M = .ok (.ref M.length) (M ++ [.lst ((ws P).map iV)]) := e1
  have hsum : lstOf (M ++ [MO.lst ((ws P).map iV)]) M.length = some ((ws P).map iV) := by unfold lstOf; rw [sto_new]
  obtain ⟨rd, hrd⟩ : ∃ rd : Int, rd = mi / q := ⟨_, rfl⟩
  rw [e_counts_at]
  unfold c_counts_at
  simp only [↓evE.eq_1, ↓evE.eq_2, ↓evE.eq_3, ↓evE.eq_4, ↓evE.eq_5, ↓evE.eq_6, ↓evE.eq_7, ↓evE.eq_8, ↓evE.eq_9, ↓evE.eq_10, ↓evE.eq_11, ↓evE.eq_12, ↓evE.eq_13, ↓evE.eq_14, ↓evE.eq_15, ↓evE.eq_16, ↓evE.eq_17, ↓evE.eq_18, ↓evE.eq_19, ↓evE.eq_20, ↓evE.eq_21, ↓evE.eq_22, ↓evE.eq_23, ↓evE.eq_24, ↓evE.eq_25, ↓evE.eq_26, ↓evE.eq_27, ↓evE.eq_28, ↓evE.eq_29, ↓evE.eq_30, ↓evE.eq_31, ↓evE.eq_32, ↓evE.eq_33, ↓evE.eq_34, ↓evE.eq_35, ↓evE.eq_36, ↓evE.eq_37, ↓evE.eq_38, ↓evS.eq_1, ↓evS_seq, ↓evS.eq_3, ↓evS.eq_4, ↓evS.eq_5, ↓evS.eq_6, ↓evS.eq_7, ↓evS.eq_8, ↓evS_ite, ↓iteS, ↓evS.eq_11, ↓evS.eq_12, ↓evS.eq_13, ↓evS.eq_14, ↓evS.eq_15, ↓evS.eq_16, ↓evS.eq_17, ↓evS_for, ↓evA.eq_1, ↓evA.eq_2, ↓evT.eq_1, ↓evT.eq_2, ↓evO.eq_1, ↓evO.eq_2, ↓evI.eq_1, ↓evI.eq_2, ↓evI.eq_3, ↓evI.eq_4, ↓evI.eq_5, ↓evF.eq_1, ↓evF.eq_2, ↓m_bind, ↓m_then, ↓m_opt, SRes.bind_nx, SRes.bind_rt, SRes.bind_bk, SRes.bind_ct, SRes.bind_ex, SRes.bind_bad, at_call, at_glo, at_fuel, SRes.back, List.getElem?_cons_zero, List.getElem?_cons_succ, List.set_cons_zero, List.set_cons_succ, asgT, asgTs, cmpV, truV, binV, bltV, tyN, tyLe, subV, Option.map_some, Option.map_none, List.any_cons, List.any_nil, if_true, if_false, ite_true, ite_false, String.reduceBEq, Nat.reduceAdd, Bool.or_false, Bool.false_or, Bool.or_true, Bool.true_or, Bool.and_true, Bool.true_and, Bool.and_false, Bool.false_and, Bool.not_true, Bool.not_false, beq_self_eq_true, decide_true, decide_false, reduceCtorEq, Bool.false_eq_true, Ev.keyOf, dctKeys, List.length_cons, List.length_nil, List.zip_cons_cons, List.zip_nil_left, List.zip_nil_right, List.foldl_cons, List.foldl_nil, methV, setV, isL, permL_cons, permL_nil, List.map_cons, List.map_nil, valP_cons, valP_nil, key_str, key_int, ofString_eq, String.reduceEq, putP, sizeLine_eq, Nat.reduceLT, Nat.reduceLeDiff, sto_self, mulOk, powOk, divOk, Int.reducePow, Nat.reducePow, Int.reduceNeg, Int.reduceLT, Int.reduceLE, natAbs64, natAbs30, Int.reduceToNat, Int.reduceEq, Int.reduceAdd, Int.reduceSub, Int.reduceMul, ne_eq, not_false_eq_true, Int.reduceNe, Ev.alloc, Ev.eq_ii, Ev.eq_ss, Ev.eq_bb, Ev.eq_nn, Ev.eq_ni, Ev.eq_in, Ev.eq_ns, Ev.eq_sn, Ev.eq_nb, Ev.eq_bn, Ev.eq_is, Ev.eq_si, and_self, true_and, and_true, fmod_lt64, fmod_gt64, atI_0, atI_1, atI_2, atI_3, atI_4, atI_5, atI_6, atI_7, atI_8, atI_9, itemsV, smV, fmtV, lenSetV, seqOf, lstOf, slcV, revV, srcOf, optI, List.nil_append, List.cons_append, sto_new, intsP, sortI, insI, compL, compG, wipeP, boolsP, List.all_cons, List.all_nil, id_eq, keep_nil, maxI, minI, intsP, cutf_1, cutf_2, cutf_3, cutf_4, cutt_1, cutt_2, cutt_3, cutt_4, List.drop_succ_cons, List.drop_zero, List.take_succ_cons, List.take_zero, Int.cast_ofNat_Int, false_and, and_false, or_self, or_false, false_or, true_or, or_true, lit_e, tS_len, tS_cat, tS_eq, tS_lt, List.toList_toArray, g_MOST_WORD, g_LETTERS, g_MOST_POOL, g_MOST_WEIGHT, g_MOST_TURNS, GC.pv, e1', sto_new, ints_iV, sm, c1, c2, ← hrd, e2, hl2, zip_iV]
  generalize hz : compL _ _ _ _ _ = z
  have hc := comp_map ((ws P).zip (cnt (ws P) (tot P) (m % tot P))) (fun p => PV.tup [iV p.1, iV p.2]) (fun p => PV.int (rd * (p.1 : Nat) + (p.2 : Nat))) hz (keep_one hl2) (fun p hp => by
    have hp1 := hw.wt p.1 (List.of_mem_zip hp).1
    have hml : mulOk rd ((p.1 : Nat) : Int) = true := mul_small (by omega) (by omega)
    simp only [↓evE.eq_1, ↓evE.eq_2, ↓evE.eq_3, ↓evE.eq_4, ↓evE.eq_5, ↓evE.eq_6, ↓evE.eq_7, ↓evE.eq_8, ↓evE.eq_9, ↓evE.eq_10, ↓evE.eq_11, ↓evE.eq_12, ↓evE.eq_13, ↓evE.eq_14, ↓evE.eq_15, ↓evE.eq_16, ↓evE.eq_17, ↓evE.eq_18, ↓evE.eq_19, ↓evE.eq_20, ↓evE.eq_21, ↓evE.eq_22, ↓evE.eq_23, ↓evE.eq_24, ↓evE.eq_25, ↓evE.eq_26, ↓evE.eq_27, ↓evE.eq_28, ↓evE.eq_29, ↓evE.eq_30, ↓evE.eq_31, ↓evE.eq_32, ↓evE.eq_33, ↓evE.eq_34, ↓evE.eq_35, ↓evE.eq_36, ↓evE.eq_37, ↓evE.eq_38, ↓evS.eq_1, ↓evS_seq, ↓evS.eq_3, ↓evS.eq_4, ↓evS.eq_5, ↓evS.eq_6, ↓evS.eq_7, ↓evS.eq_8, ↓evS_ite, ↓iteS, ↓evS.eq_11, ↓evS.eq_12, ↓evS.eq_13, ↓evS.eq_14, ↓evS.eq_15, ↓evS.eq_16, ↓evS.eq_17, ↓evS_for, ↓evA.eq_1, ↓evA.eq_2, ↓evT.eq_1, ↓evT.eq_2, ↓evO.eq_1, ↓evO.eq_2, ↓evI.eq_1, ↓evI.eq_2, ↓evI.eq_3, ↓evI.eq_4, ↓evI.eq_5, ↓evF.eq_1, ↓evF.eq_2, ↓m_bind, ↓m_then, ↓m_opt, SRes.bind_nx, SRes.bind_rt, SRes.bind_bk, SRes.bind_ct, SRes.bind_ex, SRes.bind_bad, at_call, at_glo, at_fuel, SRes.back, List.getElem?_cons_zero, List.getElem?_cons_succ, List.set_cons_zero, List.set_cons_succ, asgT, asgTs, cmpV, truV, binV, bltV, tyN, tyLe, subV, Option.map_some, Option.map_none, List.any_cons, List.any_nil, if_true, if_false, ite_true, ite_false, String.reduceBEq, Nat.reduceAdd, Bool.or_false, Bool.false_or, Bool.or_true, Bool.true_or, Bool.and_true, Bool.true_and, Bool.and_false, Bool.false_and, Bool.not_true, Bool.not_false, beq_self_eq_true, decide_true, decide_false, reduceCtorEq, Bool.false_eq_true, Ev.keyOf, dctKeys, List.length_cons, List.length_nil, List.zip_cons_cons, List.zip_nil_left, List.zip_nil_right, List.foldl_cons, List.foldl_nil, methV, setV, isL, permL_cons, permL_nil, List.map_cons, List.map_nil, valP_cons, valP_nil, key_str, key_int, ofString_eq, String.reduceEq, putP, sizeLine_eq, Nat.reduceLT, Nat.reduceLeDiff, sto_self, powOk, divOk, Int.reducePow, Nat.reducePow, Int.reduceNeg, Int.reduceLT, Int.reduceLE, natAbs64, natAbs30, Int.reduceToNat, Int.reduceEq, Int.reduceAdd, Int.reduceSub, Int.reduceMul, ne_eq, not_false_eq_true, Int.reduceNe, Ev.alloc, Ev.eq_ii, Ev.eq_ss, Ev.eq_bb, Ev.eq_nn, Ev.eq_ni, Ev.eq_in, Ev.eq_ns, Ev.eq_sn, Ev.eq_nb, Ev.eq_bn, Ev.eq_is, Ev.eq_si, and_self, true_and, and_true, fmod_lt64, fmod_gt64, atI_0, atI_1, atI_2, atI_3, atI_4, atI_5, atI_6, atI_7, atI_8, atI_9, itemsV, smV, fmtV, lenSetV, seqOf, lstOf, slcV, revV, srcOf, optI, List.nil_append, List.cons_append, sto_new, intsP, sortI, insI, compL, compG, wipeP, boolsP, List.all_cons, List.all_nil, id_eq, keep_nil, maxI, minI, intsP, cutf_1, cutf_2, cutf_3, cutf_4, cutt_1, cutt_2, cutt_3, cutt_4, List.drop_succ_cons, List.drop_zero, List.take_succ_cons, List.take_zero, Int.cast_ofNat_Int, false_and, and_false, or_self, or_false, false_or, true_or, or_true, lit_e, tS_len, tS_cat, tS_eq, tS_lt, List.toList_toArray, g_MOST_WORD, g_LETTERS, g_MOST_POOL, g_MOST_WEIGHT, g_MOST_TURNS, GC.pv, hml]) (by rw [sizeLine_eq, List.length_zip, ws_len]; have := hP.le; omega)
  subst hc
  have ec : ((ws P).zip (cnt (ws P) (tot P) (m % tot P))).map (fun p => PV.int (rd * (p.1 : Nat) + (p.2 : Nat))) = (cn P m).map iV := by
    unfold cn
    rw [cnt_div hw.hp hw.sum W0 m, List.map_map]
    refine List.map_congr_left fun p hp => ?_
    show PV.int _ = PV.int _
    rw [hrd, ed]
    push_cast; rfl
  rw [ec]
  simp only [↓evE.eq_1, ↓evE.eq_2, ↓evE.eq_3, ↓evE.eq_4, ↓evE.eq_5, ↓evE.eq_6, ↓evE.eq_7, ↓evE.eq_8, ↓evE.eq_9, ↓evE.eq_10, ↓evE.eq_11, ↓evE.eq_12, ↓evE.eq_13, ↓evE.eq_14, ↓evE.eq_15, ↓evE.eq_16, ↓evE.eq_17, ↓evE.eq_18, ↓evE.eq_19, ↓evE.eq_20, ↓evE.eq_21, ↓evE.eq_22, ↓evE.eq_23, ↓evE.eq_24, ↓evE.eq_25, ↓evE.eq_26, ↓evE.eq_27, ↓evE.eq_28, ↓evE.eq_29, ↓evE.eq_30, ↓evE.eq_31, ↓evE.eq_32, ↓evE.eq_33, ↓evE.eq_34, ↓evE.eq_35, ↓evE.eq_36, ↓evE.eq_37, ↓evE.eq_38, ↓evS.eq_1, ↓evS_seq, ↓evS.eq_3, ↓evS.eq_4, ↓evS.eq_5, ↓evS.eq_6, ↓evS.eq_7, ↓evS.eq_8, ↓evS_ite, ↓iteS, ↓evS.eq_11, ↓evS.eq_12, ↓evS.eq_13, ↓evS.eq_14, ↓evS.eq_15, ↓evS.eq_16, ↓evS.eq_17, ↓evS_for, ↓evA.eq_1, ↓evA.eq_2, ↓evT.eq_1, ↓evT.eq_2, ↓evO.eq_1, ↓evO.eq_2, ↓evI.eq_1, ↓evI.eq_2, ↓evI.eq_3, ↓evI.eq_4, ↓evI.eq_5, ↓evF.eq_1, ↓evF.eq_2, ↓m_bind, ↓m_then, ↓m_opt, SRes.bind_nx, SRes.bind_rt, SRes.bind_bk, SRes.bind_ct, SRes.bind_ex, SRes.bind_bad, at_call, at_glo, at_fuel, SRes.back, List.getElem?_cons_zero, List.getElem?_cons_succ, List.set_cons_zero, List.set_cons_succ, asgT, asgTs, cmpV, truV, binV, bltV, tyN, tyLe, subV, Option.map_some, Option.map_none, List.any_cons, List.any_nil, if_true, if_false, ite_true, ite_false, String.reduceBEq, Nat.reduceAdd, Bool.or_false, Bool.false_or, Bool.or_true, Bool.true_or, Bool.and_true, Bool.true_and, Bool.and_false, Bool.false_and, Bool.not_true, Bool.not_false, beq_self_eq_true, decide_true, decide_false, reduceCtorEq, Bool.false_eq_true, Ev.keyOf, dctKeys, List.length_cons, List.length_nil, List.zip_cons_cons, List.zip_nil_left, List.zip_nil_right, List.foldl_cons, List.foldl_nil, methV, setV, isL, permL_cons, permL_nil, List.map_cons, List.map_nil, valP_cons, valP_nil, key_str, key_int, ofString_eq, String.reduceEq, putP, sizeLine_eq, Nat.reduceLT, Nat.reduceLeDiff, sto_self, mulOk, powOk, divOk, Int.reducePow, Nat.reducePow, Int.reduceNeg, Int.reduceLT, Int.reduceLE, natAbs64, natAbs30, Int.reduceToNat, Int.reduceEq, Int.reduceAdd, Int.reduceSub, Int.reduceMul, ne_eq, not_false_eq_true, Int.reduceNe, Ev.alloc, Ev.eq_ii, Ev.eq_ss, Ev.eq_bb, Ev.eq_nn, Ev.eq_ni, Ev.eq_in, Ev.eq_ns, Ev.eq_sn, Ev.eq_nb, Ev.eq_bn, Ev.eq_is, Ev.eq_si, and_self, true_and, and_true, fmod_lt64, fmod_gt64, atI_0, atI_1, atI_2, atI_3, atI_4, atI_5, atI_6, atI_7, atI_8, atI_9, itemsV, smV, fmtV, lenSetV, seqOf, lstOf, slcV, revV, srcOf, optI, List.nil_append, List.cons_append, sto_new, intsP, sortI, insI, compL, compG, wipeP, boolsP, List.all_cons, List.all_nil, id_eq, keep_nil, maxI, minI, intsP, cutf_1, cutf_2, cutf_3, cutf_4, cutt_1, cutt_2, cutt_3, cutt_4, List.drop_succ_cons, List.drop_zero, List.take_succ_cons, List.take_zero, Int.cast_ofNat_Int, false_and, and_false, or_self, or_false, false_or, true_or, or_true, lit_e, tS_len, tS_cat, tS_eq, tS_lt, List.toList_toArray, g_MOST_WORD, g_LETTERS, g_MOST_POOL, g_MOST_WEIGHT, g_MOST_TURNS, GC.pv]
  exact ⟨_, rfl, (Keep.app.trans k2).trans Keep.app⟩
theorem fine_iV {l : List Nat} (h : ∀ a ∈ l, a < 100000) : fines (l.map iV) = true ∧ PyData.depthAll (pds (l.map iV)) ≤ 0 ∧ PyData.bulkAll (pds (l.map iV)) = l.length := by
  refine ⟨fines_all fun x hx => ?_, ?_, ?_⟩
  · obtain ⟨a, ha, rfl⟩ := List.mem_map.mp hx
    have := h a ha
    simp only [fine, decide_eq_true_eq]
    exact small (by omega) (by omega)
  · clear h
    induction l with
    | nil => simp [pds, PyData.depthAll]
    | cons a l ih =>
      simp only [List.map_cons, pds, pd, PyData.depthAll, PyData.depth] at ih ⊢
      omega
  · clear h
    induction l with
    | nil => simp [pds, PyData.bulkAll]
    | cons a l ih =>
      simp only [List.map_cons, pds, pd, PyData.bulkAll, PyData.bulk, List.length_cons] at ih ⊢
      omega
theorem cn_le {P : Pool} (hP : IsPool P) (m : Nat) {a : Nat} (h : a ∈ cn P m) : a ≤ m := by
  have e : (cn P m).sum = m := (cnt_good (isW hP).hp (isW hP).sum (isW hP).W0 m).2
  have key : ∀ (l : List Nat) (a : Nat), a ∈ l → a ≤ l.sum := by
    intro l
    induction l with
    | nil => intro a h; cases h
    | cons x l ih =>
      intro a h
      rw [List.sum_cons]
      rcases List.mem_cons.mp h with rfl | h
      · omega
      · have := ih a h; omega
  have := key _ a h
  omega
theorem are_like_ok (n : Nat) (M : Sto) {P : Pool} (hP : IsPool P) (c : List Nat) (hl : c.length = P.length) : ∃ M', callN T (n + 3) "are_counts_like" [pV P, .tup (c.map iV)] M = .ok (.bl true) M' ∧ Keep [] M M' := by
  have p2 := hP.le
  obtain ⟨q, hq⟩ : ∃ q : Int, q = (P.length : Nat) := ⟨_, rfl⟩
  have hq' : (((P.map eV).length : Nat) : Int) = q := by rw [hq, List.length_map]
  have er := is_row_ok (n + 1) M (c.map iV) q
  have b : decide ((((c.map iV).length : Nat) : Int) = q) = true := decide_eq_true (by rw [List.length_map, hl, hq])
  rw [b] at er
  rw [e_are_counts_like]
  unfold c_are_counts_like
  simp only [↓evE.eq_1, ↓evE.eq_2, ↓evE.eq_3, ↓evE.eq_4, ↓evE.eq_5, ↓evE.eq_6, ↓evE.eq_7, ↓evE.eq_8, ↓evE.eq_9, ↓evE.eq_10, ↓evE.eq_11, ↓evE.eq_12, ↓evE.eq_13, ↓evE.eq_14, ↓evE.eq_15, ↓evE.eq_16, ↓evE.eq_17, ↓evE.eq_18, ↓evE.eq_19, ↓evE.eq_20, ↓evE.eq_21, ↓evE.eq_22, ↓evE.eq_23, ↓evE.eq_24, ↓evE.eq_25, ↓evE.eq_26, ↓evE.eq_27, ↓evE.eq_28, ↓evE.eq_29, ↓evE.eq_30, ↓evE.eq_31, ↓evE.eq_32, ↓evE.eq_33, ↓evE.eq_34, ↓evE.eq_35, ↓evE.eq_36, ↓evE.eq_37, ↓evE.eq_38, ↓evS.eq_1, ↓evS_seq, ↓evS.eq_3, ↓evS.eq_4, ↓evS.eq_5, ↓evS.eq_6, ↓evS.eq_7, ↓evS.eq_8, ↓evS_ite, ↓iteS, ↓evS.eq_11, ↓evS.eq_12, ↓evS.eq_13, ↓evS.eq_14, ↓evS.eq_15, ↓evS.eq_16, ↓evS.eq_17, ↓evS_for, ↓evA.eq_1, ↓evA.eq_2, ↓evT.eq_1, ↓evT.eq_2, ↓evO.eq_1, ↓evO.eq_2, ↓evI.eq_1, ↓evI.eq_2, ↓evI.eq_3, ↓evI.eq_4, ↓evI.eq_5, ↓evF.eq_1, ↓evF.eq_2, ↓m_bind, ↓m_then, ↓m_opt, SRes.bind_nx, SRes.bind_rt, SRes.bind_bk, SRes.bind_ct, SRes.bind_ex, SRes.bind_bad, at_call, at_glo, at_fuel, SRes.back, List.getElem?_cons_zero, List.getElem?_cons_succ, List.set_cons_zero, List.set_cons_succ, asgT, asgTs, cmpV, truV, binV, bltV, tyN, tyLe, subV, Option.map_some, Option.map_none, List.any_cons, List.any_nil, if_true, if_false, ite_true, ite_false, String.reduceBEq, Nat.reduceAdd, Bool.or_false, Bool.false_or, Bool.or_true, Bool.true_or, Bool.and_true, Bool.true_and, Bool.and_false, Bool.false_and, Bool.not_true, Bool.not_false, beq_self_eq_true, decide_true, decide_false, reduceCtorEq, Bool.false_eq_true, Ev.keyOf, dctKeys, List.length_cons, List.length_nil, List.zip_cons_cons, List.zip_nil_left, List.zip_nil_right, List.foldl_cons, List.foldl_nil, methV, setV, isL, permL_cons, permL_nil, List.map_cons, List.map_nil, valP_cons, valP_nil, key_str, key_int, ofString_eq, String.reduceEq, putP, sizeLine_eq, Nat.reduceLT, Nat.reduceLeDiff, sto_self, mulOk, powOk, divOk, Int.reducePow, Nat.reducePow, Int.reduceNeg, Int.reduceLT, Int.reduceLE, natAbs64, natAbs30, Int.reduceToNat, Int.reduceEq, Int.reduceAdd, Int.reduceSub, Int.reduceMul, ne_eq, not_false_eq_true, Int.reduceNe, Ev.alloc, Ev.eq_ii, Ev.eq_ss, Ev.eq_bb, Ev.eq_nn, Ev.eq_ni, Ev.eq_in, Ev.eq_ns, Ev.eq_sn, Ev.eq_nb, Ev.eq_bn, Ev.eq_is, Ev.eq_si, and_self, true_and, and_true, fmod_lt64, fmod_gt64, atI_0, atI_1, atI_2, atI_3, atI_4, atI_5, atI_6, atI_7, atI_8, atI_9, itemsV, smV, fmtV, lenSetV, seqOf, lstOf, slcV, revV, srcOf, optI, List.nil_append, List.cons_append, sto_new, intsP, sortI, insI, compL, compG, wipeP, boolsP, List.all_cons, List.all_nil, id_eq, keep_nil, maxI, minI, intsP, cutf_1, cutf_2, cutf_3, cutf_4, cutt_1, cutt_2, cutt_3, cutt_4, List.drop_succ_cons, List.drop_zero, List.take_succ_cons, List.take_zero, Int.cast_ofNat_Int, false_and, and_false, or_self, or_false, false_or, true_or, or_true, lit_e, tS_len, tS_cat, tS_eq, tS_lt, List.toList_toArray, g_MOST_WORD, g_LETTERS, g_MOST_POOL, g_MOST_WEIGHT, g_MOST_TURNS, GC.pv, hq', er]
  generalize hz : compL _ _ _ _ _ = z
  have hc := comp_map c iV (fun _ => .bl true) hz (keep_nil _) (fun a ha => by
    have b2 : decide ((0 : Int) ≤ (a : Nat)) = true := decide_eq_true (by omega)
    simp only [↓evE.eq_1, ↓evE.eq_2, ↓evE.eq_3, ↓evE.eq_4, ↓evE.eq_5, ↓evE.eq_6, ↓evE.eq_7, ↓evE.eq_8, ↓evE.eq_9, ↓evE.eq_10, ↓evE.eq_11, ↓evE.eq_12, ↓evE.eq_13, ↓evE.eq_14, ↓evE.eq_15, ↓evE.eq_16, ↓evE.eq_17, ↓evE.eq_18, ↓evE.eq_19, ↓evE.eq_20, ↓evE.eq_21, ↓evE.eq_22, ↓evE.eq_23, ↓evE.eq_24, ↓evE.eq_25, ↓evE.eq_26, ↓evE.eq_27, ↓evE.eq_28, ↓evE.eq_29, ↓evE.eq_30, ↓evE.eq_31, ↓evE.eq_32, ↓evE.eq_33, ↓evE.eq_34, ↓evE.eq_35, ↓evE.eq_36, ↓evE.eq_37, ↓evE.eq_38, ↓evS.eq_1, ↓evS_seq, ↓evS.eq_3, ↓evS.eq_4, ↓evS.eq_5, ↓evS.eq_6, ↓evS.eq_7, ↓evS.eq_8, ↓evS_ite, ↓iteS, ↓evS.eq_11, ↓evS.eq_12, ↓evS.eq_13, ↓evS.eq_14, ↓evS.eq_15, ↓evS.eq_16, ↓evS.eq_17, ↓evS_for, ↓evA.eq_1, ↓evA.eq_2, ↓evT.eq_1, ↓evT.eq_2, ↓evO.eq_1, ↓evO.eq_2, ↓evI.eq_1, ↓evI.eq_2, ↓evI.eq_3, ↓evI.eq_4, ↓evI.eq_5, ↓evF.eq_1, ↓evF.eq_2, ↓m_bind, ↓m_then, ↓m_opt, SRes.bind_nx, SRes.bind_rt, SRes.bind_bk, SRes.bind_ct, SRes.bind_ex, SRes.bind_bad, at_call, at_glo, at_fuel, SRes.back, List.getElem?_cons_zero, List.getElem?_cons_succ, List.set_cons_zero, List.set_cons_succ, asgT, asgTs, cmpV, truV, binV, bltV, tyN, tyLe, subV, Option.map_some, Option.map_none, List.any_cons, List.any_nil, if_true, if_false, ite_true, ite_false, String.reduceBEq, Nat.reduceAdd, Bool.or_false, Bool.false_or, Bool.or_true, Bool.true_or, Bool.and_true, Bool.true_and, Bool.and_false, Bool.false_and, Bool.not_true, Bool.not_false, beq_self_eq_true, decide_true, decide_false, reduceCtorEq, Bool.false_eq_true, Ev.keyOf, dctKeys, List.length_cons, List.length_nil, List.zip_cons_cons, List.zip_nil_left, List.zip_nil_right, List.foldl_cons, List.foldl_nil, methV, setV, isL, permL_cons, permL_nil, List.map_cons, List.map_nil, valP_cons, valP_nil, key_str, key_int, ofString_eq, String.reduceEq, putP, sizeLine_eq, Nat.reduceLT, Nat.reduceLeDiff, sto_self, mulOk, powOk, divOk, Int.reducePow, Nat.reducePow, Int.reduceNeg, Int.reduceLT, Int.reduceLE, natAbs64, natAbs30, Int.reduceToNat, Int.reduceEq, Int.reduceAdd, Int.reduceSub, Int.reduceMul, ne_eq, not_false_eq_true, Int.reduceNe, Ev.alloc, Ev.eq_ii, Ev.eq_ss, Ev.eq_bb, Ev.eq_nn, Ev.eq_ni, Ev.eq_in, Ev.eq_ns, Ev.eq_sn, Ev.eq_nb, Ev.eq_bn, Ev.eq_is, Ev.eq_si, and_self, true_and, and_true, fmod_lt64, fmod_gt64, atI_0, atI_1, atI_2, atI_3, atI_4, atI_5, atI_6, atI_7, atI_8, atI_9, itemsV, smV, fmtV, lenSetV, seqOf, lstOf, slcV, revV, srcOf, optI, List.nil_append, List.cons_append, sto_new, intsP, sortI, insI, compL, compG, wipeP, boolsP, List.all_cons, List.all_nil, id_eq, keep_nil, maxI, minI, intsP, cutf_1, cutf_2, cutf_3, cutf_4, cutt_1, cutt_2, cutt_3, cutt_4, List.drop_succ_cons, List.drop_zero, List.take_succ_cons, List.take_zero, Int.cast_ofNat_Int, false_and, and_false, or_self, or_false, false_or, true_or, or_true, lit_e, tS_len, tS_cat, tS_eq, tS_lt, List.toList_toArray, g_MOST_WORD, g_LETTERS, g_MOST_POOL, g_MOST_WEIGHT, g_MOST_TURNS, GC.pv, is_count_ok, b2]) (by rw [sizeLine_eq]; omega)
  subst hc
  have e := bools_of (fun _ : Nat => true) c
  simp only [↓evE.eq_1, ↓evE.eq_2, ↓evE.eq_3, ↓evE.eq_4, ↓evE.eq_5, ↓evE.eq_6, ↓evE.eq_7, ↓evE.eq_8, ↓evE.eq_9, ↓evE.eq_10, ↓evE.eq_11, ↓evE.eq_12, ↓evE.eq_13, ↓evE.eq_14, ↓evE.eq_15, ↓evE.eq_16, ↓evE.eq_17, ↓evE.eq_18, ↓evE.eq_19, ↓evE.eq_20, ↓evE.eq_21, ↓evE.eq_22, ↓evE.eq_23, ↓evE.eq_24, ↓evE.eq_25, ↓evE.eq_26, ↓evE.eq_27, ↓evE.eq_28, ↓evE.eq_29, ↓evE.eq_30, ↓evE.eq_31, ↓evE.eq_32, ↓evE.eq_33, ↓evE.eq_34, ↓evE.eq_35, ↓evE.eq_36, ↓evE.eq_37, ↓evE.eq_38, ↓evS.eq_1, ↓evS_seq, ↓evS.eq_3, ↓evS.eq_4, ↓evS.eq_5, ↓evS.eq_6, ↓evS.eq_7, ↓evS.eq_8, ↓evS_ite, ↓iteS, ↓evS.eq_11, ↓evS.eq_12, ↓evS.eq_13, ↓evS.eq_14, ↓evS.eq_15, ↓evS.eq_16, ↓evS.eq_17, ↓evS_for, ↓evA.eq_1, ↓evA.eq_2, ↓evT.eq_1, ↓evT.eq_2, ↓evO.eq_1, ↓evO.eq_2, ↓evI.eq_1, ↓evI.eq_2, ↓evI.eq_3, ↓evI.eq_4, ↓evI.eq_5, ↓evF.eq_1, ↓evF.eq_2, ↓m_bind, ↓m_then, ↓m_opt, SRes.bind_nx, SRes.bind_rt, SRes.bind_bk, SRes.bind_ct, SRes.bind_ex, SRes.bind_bad, at_call, at_glo, at_fuel, SRes.back, List.getElem?_cons_zero, List.getElem?_cons_succ, List.set_cons_zero, List.set_cons_succ, asgT, asgTs, cmpV, truV, binV, bltV, tyN, tyLe, subV, Option.map_some, Option.map_none, List.any_cons, List.any_nil, if_true, if_false, ite_true, ite_false, String.reduceBEq, Nat.reduceAdd, Bool.or_false, Bool.false_or, Bool.or_true, Bool.true_or, Bool.and_true, Bool.true_and, Bool.and_false, Bool.false_and, Bool.not_true, Bool.not_false, beq_self_eq_true, decide_true, decide_false, reduceCtorEq, Bool.false_eq_true, Ev.keyOf, dctKeys, List.length_cons, List.length_nil, List.zip_cons_cons, List.zip_nil_left, List.zip_nil_right, List.foldl_cons, List.foldl_nil, methV, setV, isL, permL_cons, permL_nil, List.map_cons, List.map_nil, valP_cons, valP_nil, key_str, key_int, ofString_eq, String.reduceEq, putP, sizeLine_eq, Nat.reduceLT, Nat.reduceLeDiff, sto_self, mulOk, powOk, divOk, Int.reducePow, Nat.reducePow, Int.reduceNeg, Int.reduceLT, Int.reduceLE, natAbs64, natAbs30, Int.reduceToNat, Int.reduceEq, Int.reduceAdd, Int.reduceSub, Int.reduceMul, ne_eq, not_false_eq_true, Int.reduceNe, Ev.alloc, Ev.eq_ii, Ev.eq_ss, Ev.eq_bb, Ev.eq_nn, Ev.eq_ni, Ev.eq_in, Ev.eq_ns, Ev.eq_sn, Ev.eq_nb, Ev.eq_bn, Ev.eq_is, Ev.eq_si, and_self, true_and, and_true, fmod_lt64, fmod_gt64, atI_0, atI_1, atI_2, atI_3, atI_4, atI_5, atI_6, atI_7, atI_8, atI_9, itemsV, smV, fmtV, lenSetV, seqOf, lstOf, slcV, revV, srcOf, optI, List.nil_append, List.cons_append, sto_new, intsP, sortI, insI, compL, compG, wipeP, boolsP, List.all_cons, List.all_nil, id_eq, keep_nil, maxI, minI, intsP, cutf_1, cutf_2, cutf_3, cutf_4, cutt_1, cutt_2, cutt_3, cutt_4, List.drop_succ_cons, List.drop_zero, List.take_succ_cons, List.take_zero, Int.cast_ofNat_Int, false_and, and_false, or_self, or_false, false_or, true_or, or_true, lit_e, tS_len, tS_cat, tS_eq, tS_lt, List.toList_toArray, g_MOST_WORD, g_LETTERS, g_MOST_POOL, g_MOST_WEIGHT, g_MOST_TURNS, GC.pv, e, all_const]
  exact ⟨_, rfl, Keep.app⟩
theorem are_counts_ok (n : Nat) (M : Sto) {P : Pool} (hP : IsPool P) {m : Nat} (h0 : TB M) (hm : m ≤ 4000) : ∃ M', callN T (n + 5) "are_counts" [pV P, .tup ((cn P m).map iV)] M = .ok (.bl true) M' ∧ Keep [] M M' := by
  obtain ⟨M1, e1, k1⟩ := are_like_ok (n + 1) M hP (cn P m) (cn_len hP m)
  obtain ⟨mi, hmi⟩ : ∃ mi : Int, mi = (m : Nat) := ⟨_, rfl⟩
  have h01 : TB M1 := k1.get h0 (by simp)
  obtain ⟨M2, e2, k2⟩ := counts_at_i n M1 hP hmi h01 hm
  have sm : ((cn P m).map fun x : Nat => (x : Int)).sum = mi := by
    rw [sum_cast, hmi, (cnt_good (isW hP).hp (isW hP).sum (isW hP).W0 m).2]
  obtain ⟨f1, f2, _⟩ := fine_iV (l := cn P m) (fun a ha => by have := cn_le hP m ha; omega)
  have eq := eq_tup (M := M2) f1 (by omega)
  rw [e_are_counts]
  unfold c_are_counts
  simp only [↓evE.eq_1, ↓evE.eq_2, ↓evE.eq_3, ↓evE.eq_4, ↓evE.eq_5, ↓evE.eq_6, ↓evE.eq_7, ↓evE.eq_8, ↓evE.eq_9, ↓evE.eq_10, ↓evE.eq_11, ↓evE.eq_12, ↓evE.eq_13, ↓evE.eq_14, ↓evE.eq_15, ↓evE.eq_16, ↓evE.eq_17, ↓evE.eq_18, ↓evE.eq_19, ↓evE.eq_20, ↓evE.eq_21, ↓evE.eq_22, ↓evE.eq_23, ↓evE.eq_24, ↓evE.eq_25, ↓evE.eq_26, ↓evE.eq_27, ↓evE.eq_28, ↓evE.eq_29, ↓evE.eq_30, ↓evE.eq_31, ↓evE.eq_32, ↓evE.eq_33, ↓evE.eq_34, ↓evE.eq_35, ↓evE.eq_36, ↓evE.eq_37, ↓evE.eq_38, ↓evS.eq_1, ↓evS_seq, ↓evS.eq_3, ↓evS.eq_4, ↓evS.eq_5, ↓evS.eq_6, ↓evS.eq_7, ↓evS.eq_8, ↓evS_ite, ↓iteS, ↓evS.eq_11, ↓evS.eq_12, ↓evS.eq_13, ↓evS.eq_14, ↓evS.eq_15, ↓evS.eq_16, ↓evS.eq_17, ↓evS_for, ↓evA.eq_1, ↓evA.eq_2, ↓evT.eq_1, ↓evT.eq_2, ↓evO.eq_1, ↓evO.eq_2, ↓evI.eq_1, ↓evI.eq_2, ↓evI.eq_3, ↓evI.eq_4, ↓evI.eq_5, ↓evF.eq_1, ↓evF.eq_2, ↓m_bind, ↓m_then, ↓m_opt, SRes.bind_nx, SRes.bind_rt, SRes.bind_bk, SRes.bind_ct, SRes.bind_ex, SRes.bind_bad, at_call, at_glo, at_fuel, SRes.back, List.getElem?_cons_zero, List.getElem?_cons_succ, List.set_cons_zero, List.set_cons_succ, asgT, asgTs, cmpV, truV, binV, bltV, tyN, tyLe, subV, Option.map_some, Option.map_none, List.any_cons, List.any_nil, if_true, if_false, ite_true, ite_false, String.reduceBEq, Nat.reduceAdd, Bool.or_false, Bool.false_or, Bool.or_true, Bool.true_or, Bool.and_true, Bool.true_and, Bool.and_false, Bool.false_and, Bool.not_true, Bool.not_false, beq_self_eq_true, decide_true, decide_false, reduceCtorEq, Bool.false_eq_true, Ev.keyOf, dctKeys, List.length_cons, List.length_nil, List.zip_cons_cons, List.zip_nil_left, List.zip_nil_right, List.foldl_cons, List.foldl_nil, methV, setV, isL, permL_cons, permL_nil, List.map_cons, List.map_nil, valP_cons, valP_nil, key_str, key_int, ofString_eq, String.reduceEq, putP, sizeLine_eq, Nat.reduceLT, Nat.reduceLeDiff, sto_self, mulOk, powOk, divOk, Int.reducePow, Nat.reducePow, Int.reduceNeg, Int.reduceLT, Int.reduceLE, natAbs64, natAbs30, Int.reduceToNat, Int.reduceEq, Int.reduceAdd, Int.reduceSub, Int.reduceMul, ne_eq, not_false_eq_true, Int.reduceNe, Ev.alloc, Ev.eq_ii, Ev.eq_ss, Ev.eq_bb, Ev.eq_nn, Ev.eq_ni, Ev.eq_in, Ev.eq_ns, Ev.eq_sn, Ev.eq_nb, Ev.eq_bn, Ev.eq_is, Ev.eq_si, and_self, true_and, and_true, fmod_lt64, fmod_gt64, atI_0, atI_1, atI_2, atI_3, atI_4, atI_5, atI_6, atI_7, atI_8, atI_9, itemsV, smV, fmtV, lenSetV, seqOf, lstOf, slcV, revV, srcOf, optI, List.nil_append, List.cons_append, sto_new, intsP, sortI, insI, compL, compG, wipeP, boolsP, List.all_cons, List.all_nil, id_eq, keep_nil, maxI, minI, intsP, cutf_1, cutf_2, cutf_3, cutf_4, cutt_1, cutt_2, cutt_3, cutt_4, List.drop_succ_cons, List.drop_zero, List.take_succ_cons, List.take_zero, Int.cast_ofNat_Int, false_and, and_false, or_self, or_false, false_or, true_or, or_true, lit_e, tS_len, tS_cat, tS_eq, tS_lt, List.toList_toArray, g_MOST_WORD, g_LETTERS, g_MOST_POOL, g_MOST_WEIGHT, g_MOST_TURNS, GC.pv, e1, ints_iV, sm, e2, eq]
  exact ⟨_, rfl, k1.trans k2⟩
theorem next_ok (n : Nat) (M : Sto) {P : Pool} (hP : IsPool P) {m : Nat} (h0 : TB M) (hm : m ≤ 4000) : ∃ M', callN T (n + 6) "next_turn" [pV P, .tup ((cn P m).map iV)] M = .ok (iV (tn P m)) M' ∧ Keep [] M M' := by
  have hw := isW hP
  obtain ⟨M1, e1, k1⟩ := need_pool_ok (n + 1) M hP
  obtain ⟨M2, e2, k2⟩ := are_counts_ok n M1 hP (k1.get h0 (by simp)) hm
  have e3 := weights_ok (n + 4) M2 P hP.le
  have e3' : callN T (n + 5) "weights_of" [pV P] M2 = .ok (.ref M2.length) (M2 ++ [.lst ((ws P).map iV)]) := e3
  obtain ⟨g, es⟩ := cnt_good hw.hp hw.sum hw.W0 m
  have nx1 := tr_nxt hw.hp hw.sum hw.W0 m
  have h02 : TB M2 := (k1.trans k2).get h0 (by simp)
  obtain ⟨M3, e4, k3⟩ := turn_ok (n + 3) (M2 ++ [.lst ((ws P).map iV)]) hw g.len (by rw [es]; exact ⟨_, nx1.lt, nx1.rdy⟩) (sto_new _ _) (sto_app h02)
  rw [es] at e4
  have e4' : callN T (n + 5) "turn_after" [.ref M2.length, .tup ((cn P m).map iV)] (M2 ++ [.lst ((ws P).map iV)]) = .ok (iV (tn P m)) M3 := e4
  rw [e_next_turn]
  unfold c_next_turn
  simp only [↓evE.eq_1, ↓evE.eq_2, ↓evE.eq_3, ↓evE.eq_4, ↓evE.eq_5, ↓evE.eq_6, ↓evE.eq_7, ↓evE.eq_8, ↓evE.eq_9, ↓evE.eq_10, ↓evE.eq_11, ↓evE.eq_12, ↓evE.eq_13, ↓evE.eq_14, ↓evE.eq_15, ↓evE.eq_16, ↓evE.eq_17, ↓evE.eq_18, ↓evE.eq_19, ↓evE.eq_20, ↓evE.eq_21, ↓evE.eq_22, ↓evE.eq_23, ↓evE.eq_24, ↓evE.eq_25, ↓evE.eq_26, ↓evE.eq_27, ↓evE.eq_28, ↓evE.eq_29, ↓evE.eq_30, ↓evE.eq_31, ↓evE.eq_32, ↓evE.eq_33, ↓evE.eq_34, ↓evE.eq_35, ↓evE.eq_36, ↓evE.eq_37, ↓evE.eq_38, ↓evS.eq_1, ↓evS_seq, ↓evS.eq_3, ↓evS.eq_4, ↓evS.eq_5, ↓evS.eq_6, ↓evS.eq_7, ↓evS.eq_8, ↓evS_ite, ↓iteS, ↓evS.eq_11, ↓evS.eq_12, ↓evS.eq_13, ↓evS.eq_14, ↓evS.eq_15, ↓evS.eq_16, ↓evS.eq_17, ↓evS_for, ↓evA.eq_1, ↓evA.eq_2, ↓evT.eq_1, ↓evT.eq_2, ↓evO.eq_1, ↓evO.eq_2, ↓evI.eq_1, ↓evI.eq_2, ↓evI.eq_3, ↓evI.eq_4, ↓evI.eq_5, ↓evF.eq_1, ↓evF.eq_2, ↓m_bind, ↓m_then, ↓m_opt, SRes.bind_nx, SRes.bind_rt, SRes.bind_bk, SRes.bind_ct, SRes.bind_ex, SRes.bind_bad, at_call, at_glo, at_fuel, SRes.back, List.getElem?_cons_zero, List.getElem?_cons_succ, List.set_cons_zero, List.set_cons_succ, asgT, asgTs, cmpV, truV, binV, bltV, tyN, tyLe, subV, Option.map_some, Option.map_none, List.any_cons, List.any_nil, if_true, if_false, ite_true, ite_false, String.reduceBEq, Nat.reduceAdd, Bool.or_false, Bool.false_or, Bool.or_true, Bool.true_or, Bool.and_true, Bool.true_and, Bool.and_false, Bool.false_and, Bool.not_true, Bool.not_false, beq_self_eq_true, decide_true, decide_false, reduceCtorEq, Bool.false_eq_true, Ev.keyOf, dctKeys, List.length_cons, List.length_nil, List.zip_cons_cons, List.zip_nil_left, List.zip_nil_right, List.foldl_cons, List.foldl_nil, methV, setV, isL, permL_cons, permL_nil, List.map_cons, List.map_nil, valP_cons, valP_nil, key_str, key_int, ofString_eq, String.reduceEq, putP, sizeLine_eq, Nat.reduceLT, Nat.reduceLeDiff, sto_self, mulOk, powOk, divOk, Int.reducePow, Nat.reducePow, Int.reduceNeg, Int.reduceLT, Int.reduceLE, natAbs64, natAbs30, Int.reduceToNat, Int.reduceEq, Int.reduceAdd, Int.reduceSub, Int.reduceMul, ne_eq, not_false_eq_true, Int.reduceNe, Ev.alloc, Ev.eq_ii, Ev.eq_ss, Ev.eq_bb, Ev.eq_nn, Ev.eq_ni, Ev.eq_in, Ev.eq_ns, Ev.eq_sn, Ev.eq_nb, Ev.eq_bn, Ev.eq_is, Ev.eq_si, and_self, true_and, and_true, fmod_lt64, fmod_gt64, atI_0, atI_1, atI_2, atI_3, atI_4, atI_5, atI_6, atI_7, atI_8, atI_9, itemsV, smV, fmtV, lenSetV, seqOf, lstOf, slcV, revV, srcOf, optI, List.nil_append, List.cons_append, sto_new, intsP, sortI, insI, compL, compG, wipeP, boolsP, List.all_cons, List.all_nil, id_eq, keep_nil, maxI, minI, intsP, cutf_1, cutf_2, cutf_3, cutf_4, cutt_1, cutt_2, cutt_3, cutt_4, List.drop_succ_cons, List.drop_zero, List.take_succ_cons, List.take_zero, Int.cast_ofNat_Int, false_and, and_false, or_self, or_false, false_or, true_or, or_true, lit_e, tS_len, tS_cat, tS_eq, tS_lt, List.toList_toArray, g_MOST_WORD, g_LETTERS, g_MOST_POOL, g_MOST_WEIGHT, g_MOST_TURNS, GC.pv, e1, e2, e3', e4']
  exact ⟨_, rfl, (k1.trans k2).trans (Keep.app.trans k3)⟩
theorem turns_ok (n : Nat) (M : Sto) {P : Pool} (hP : IsPool P) {m : Nat} {mi : Int} (hmi : mi = (m : Nat)) (h0 : TB M) (hm : m ≤ 2000) : ∃ M', callN T (n + 5) "turns" [pV P, .int mi] M = .ok (.tup ((List.range m).map fun k => iV (tn P k))) M' ∧ Keep [] M M' := by
  have hw := isW hP
  obtain ⟨M1, e1, k1⟩ := need_pool_ok n M hP
  have b : decide ((0 : Int) ≤ mi ∧ mi ≤ 2000) = true := decide_eq_true (by omega)
  have e3 := weights_ok (n + 3) M1 P hP.le
  have e3' : callN T (n + 4) "weights_of" [pV P] M1 = .ok (.ref M1.length) (M1 ++ [.lst ((ws P).map iV)]) := e3
  obtain ⟨M2, e4, k2⟩ := first_ok (n + 1) (M1 ++ [.lst ((ws P).map iV)]) hmi hw (sto_new _ _) (sto_app (k1.get h0 (by simp))) (by omega)
  rw [e_turns]
  unfold c_turns
  simp only [↓evE.eq_1, ↓evE.eq_2, ↓evE.eq_3, ↓evE.eq_4, ↓evE.eq_5, ↓evE.eq_6, ↓evE.eq_7, ↓evE.eq_8, ↓evE.eq_9, ↓evE.eq_10, ↓evE.eq_11, ↓evE.eq_12, ↓evE.eq_13, ↓evE.eq_14, ↓evE.eq_15, ↓evE.eq_16, ↓evE.eq_17, ↓evE.eq_18, ↓evE.eq_19, ↓evE.eq_20, ↓evE.eq_21, ↓evE.eq_22, ↓evE.eq_23, ↓evE.eq_24, ↓evE.eq_25, ↓evE.eq_26, ↓evE.eq_27, ↓evE.eq_28, ↓evE.eq_29, ↓evE.eq_30, ↓evE.eq_31, ↓evE.eq_32, ↓evE.eq_33, ↓evE.eq_34, ↓evE.eq_35, ↓evE.eq_36, ↓evE.eq_37, ↓evE.eq_38, ↓evS.eq_1, ↓evS_seq, ↓evS.eq_3, ↓evS.eq_4, ↓evS.eq_5, ↓evS.eq_6, ↓evS.eq_7, ↓evS.eq_8, ↓evS_ite, ↓iteS, ↓evS.eq_11, ↓evS.eq_12, ↓evS.eq_13, ↓evS.eq_14, ↓evS.eq_15, ↓evS.eq_16, ↓evS.eq_17, ↓evS_for, ↓evA.eq_1, ↓evA.eq_2, ↓evT.eq_1, ↓evT.eq_2, ↓evO.eq_1, ↓evO.eq_2, ↓evI.eq_1, ↓evI.eq_2, ↓evI.eq_3, ↓evI.eq_4, ↓evI.eq_5, ↓evF.eq_1, ↓evF.eq_2, ↓m_bind, ↓m_then, ↓m_opt, SRes.bind_nx, SRes.bind_rt, SRes.bind_bk, SRes.bind_ct, SRes.bind_ex, SRes.bind_bad, at_call, at_glo, at_fuel, SRes.back, List.getElem?_cons_zero, List.getElem?_cons_succ, List.set_cons_zero, List.set_cons_succ, asgT, asgTs, cmpV, truV, binV, bltV, tyN, tyLe, subV, Option.map_some, Option.map_none, List.any_cons, List.any_nil, if_true, if_false, ite_true, ite_false, String.reduceBEq, Nat.reduceAdd, Bool.or_false, Bool.false_or, Bool.or_true, Bool.true_or, Bool.and_true, Bool.true_and, Bool.and_false, Bool.false_and, Bool.not_true, Bool.not_false, beq_self_eq_true, decide_true, decide_false, reduceCtorEq, Bool.false_eq_true, Ev.keyOf, dctKeys, List.length_cons, List.length_nil, List.zip_cons_cons, List.zip_nil_left, List.zip_nil_right, List.foldl_cons, List.foldl_nil, methV, setV, isL, permL_cons, permL_nil, List.map_cons, List.map_nil, valP_cons, valP_nil, key_str, key_int, ofString_eq, String.reduceEq, putP, sizeLine_eq, Nat.reduceLT, Nat.reduceLeDiff, sto_self, mulOk, powOk, divOk, Int.reducePow, Nat.reducePow, Int.reduceNeg, Int.reduceLT, Int.reduceLE, natAbs64, natAbs30, Int.reduceToNat, Int.reduceEq, Int.reduceAdd, Int.reduceSub, Int.reduceMul, ne_eq, not_false_eq_true, Int.reduceNe, Ev.alloc, Ev.eq_ii, Ev.eq_ss, Ev.eq_bb, Ev.eq_nn, Ev.eq_ni, Ev.eq_in, Ev.eq_ns, Ev.eq_sn, Ev.eq_nb, Ev.eq_bn, Ev.eq_is, Ev.eq_si, and_self, true_and, and_true, fmod_lt64, fmod_gt64, atI_0, atI_1, atI_2, atI_3, atI_4, atI_5, atI_6, atI_7, atI_8, atI_9, itemsV, smV, fmtV, lenSetV, seqOf, lstOf, slcV, revV, srcOf, optI, List.nil_append, List.cons_append, sto_new, intsP, sortI, insI, compL, compG, wipeP, boolsP, List.all_cons, List.all_nil, id_eq, keep_nil, maxI, minI, intsP, cutf_1, cutf_2, cutf_3, cutf_4, cutt_1, cutt_2, cutt_3, cutt_4, List.drop_succ_cons, List.drop_zero, List.take_succ_cons, List.take_zero, Int.cast_ofNat_Int, false_and, and_false, or_self, or_false, false_or, true_or, or_true, lit_e, tS_len, tS_cat, tS_eq, tS_lt, List.toList_toArray, g_MOST_WORD, g_LETTERS, g_MOST_POOL, g_MOST_WEIGHT, g_MOST_TURNS, GC.pv, e1, is_between_ok, b, e3', e4]
  exact ⟨_, rfl, k1.trans (Keep.app.trans k2)⟩
theorem counts_ok (n : Nat) (M : Sto) {P : Pool} (hP : IsPool P) {m : Nat} {mi : Int} (hmi : mi = (m : Nat)) (h0 : TB M) (hm : m ≤ 4000) : ∃ M', callN T (n + 5) "counts_after" [pV P, .int mi] M = .ok (.tup ((cn P m).map iV)) M' ∧ Keep [] M M' := by
  obtain ⟨M1, e1, k1⟩ := need_pool_ok n M hP
  have b : decide ((0 : Int) ≤ mi) = true := decide_eq_true (by omega)
  obtain ⟨M2, e2, k2⟩ := counts_at_i n M1 hP hmi (k1.get h0 (by simp)) hm
  rw [e_counts_after]
  unfold c_counts_after
  simp only [↓evE.eq_1, ↓evE.eq_2, ↓evE.eq_3, ↓evE.eq_4, ↓evE.eq_5, ↓evE.eq_6, ↓evE.eq_7, ↓evE.eq_8, ↓evE.eq_9, ↓evE.eq_10, ↓evE.eq_11, ↓evE.eq_12, ↓evE.eq_13, ↓evE.eq_14, ↓evE.eq_15, ↓evE.eq_16, ↓evE.eq_17, ↓evE.eq_18, ↓evE.eq_19, ↓evE.eq_20, ↓evE.eq_21, ↓evE.eq_22, ↓evE.eq_23, ↓evE.eq_24, ↓evE.eq_25, ↓evE.eq_26, ↓evE.eq_27, ↓evE.eq_28, ↓evE.eq_29, ↓evE.eq_30, ↓evE.eq_31, ↓evE.eq_32, ↓evE.eq_33, ↓evE.eq_34, ↓evE.eq_35, ↓evE.eq_36, ↓evE.eq_37, ↓evE.eq_38, ↓evS.eq_1, ↓evS_seq, ↓evS.eq_3, ↓evS.eq_4, ↓evS.eq_5, ↓evS.eq_6, ↓evS.eq_7, ↓evS.eq_8, ↓evS_ite, ↓iteS, ↓evS.eq_11, ↓evS.eq_12, ↓evS.eq_13, ↓evS.eq_14, ↓evS.eq_15, ↓evS.eq_16, ↓evS.eq_17, ↓evS_for, ↓evA.eq_1, ↓evA.eq_2, ↓evT.eq_1, ↓evT.eq_2, ↓evO.eq_1, ↓evO.eq_2, ↓evI.eq_1, ↓evI.eq_2, ↓evI.eq_3, ↓evI.eq_4, ↓evI.eq_5, ↓evF.eq_1, ↓evF.eq_2, ↓m_bind, ↓m_then, ↓m_opt, SRes.bind_nx, SRes.bind_rt, SRes.bind_bk, SRes.bind_ct, SRes.bind_ex, SRes.bind_bad, at_call, at_glo, at_fuel, SRes.back, List.getElem?_cons_zero, List.getElem?_cons_succ, List.set_cons_zero, List.set_cons_succ, asgT, asgTs, cmpV, truV, binV, bltV, tyN, tyLe, subV, Option.map_some, Option.map_none, List.any_cons, List.any_nil, if_true, if_false, ite_true, ite_false, String.reduceBEq, Nat.reduceAdd, Bool.or_false, Bool.false_or, Bool.or_true, Bool.true_or, Bool.and_true, Bool.true_and, Bool.and_false, Bool.false_and, Bool.not_true, Bool.not_false, beq_self_eq_true, decide_true, decide_false, reduceCtorEq, Bool.false_eq_true, Ev.keyOf, dctKeys, List.length_cons, List.length_nil, List.zip_cons_cons, List.zip_nil_left, List.zip_nil_right, List.foldl_cons, List.foldl_nil, methV, setV, isL, permL_cons, permL_nil, List.map_cons, List.map_nil, valP_cons, valP_nil, key_str, key_int, ofString_eq, String.reduceEq, putP, sizeLine_eq, Nat.reduceLT, Nat.reduceLeDiff, sto_self, mulOk, powOk, divOk, Int.reducePow, Nat.reducePow, Int.reduceNeg, Int.reduceLT, Int.reduceLE, natAbs64, natAbs30, Int.reduceToNat, Int.reduceEq, Int.reduceAdd, Int.reduceSub, Int.reduceMul, ne_eq, not_false_eq_true, Int.reduceNe, Ev.alloc, Ev.eq_ii, Ev.eq_ss, Ev.eq_bb, Ev.eq_nn, Ev.eq_ni, Ev.eq_in, Ev.eq_ns, Ev.eq_sn, Ev.eq_nb, Ev.eq_bn, Ev.eq_is, Ev.eq_si, and_self, true_and, and_true, fmod_lt64, fmod_gt64, atI_0, atI_1, atI_2, atI_3, atI_4, atI_5, atI_6, atI_7, atI_8, atI_9, itemsV, smV, fmtV, lenSetV, seqOf, lstOf, slcV, revV, srcOf, optI, List.nil_append, List.cons_append, sto_new, intsP, sortI, insI, compL, compG, wipeP, boolsP, List.all_cons, List.all_nil, id_eq, keep_nil, maxI, minI, intsP, cutf_1, cutf_2, cutf_3, cutf_4, cutt_1, cutt_2, cutt_3, cutt_4, List.drop_succ_cons, List.drop_zero, List.take_succ_cons, List.take_zero, Int.cast_ofNat_Int, false_and, and_false, or_self, or_false, false_or, true_or, or_true, lit_e, tS_len, tS_cat, tS_eq, tS_lt, List.toList_toArray, g_MOST_WORD, g_LETTERS, g_MOST_POOL, g_MOST_WEIGHT, g_MOST_TURNS, GC.pv, e1, is_count_ok, b, e2]
  exact ⟨_, rfl, k1.trans k2⟩
end K18

set_option Elab.async false
set_option linter.all false
set_option maxRecDepth 100000
set_option maxHeartbeats 4000000
/-! K18v: the law's next turn. -/
namespace K18
open PySem L2 Ev
def bE (w c : List Nat) (W s i : Nat) : PV := if Rdy (Get w i) (Get c i) W s then iV (Due (Get w i) (Get c i) W) else .non
def vE (w c : List Nat) (W s i : Nat) : L2.V := if Rdy (Get w i) (Get c i) W s then .int (Due (Get w i) (Get c i) W : Nat) else .non
theorem atoms_bE (w c : List Nat) (W s : Nat) : ∀ l : List Nat, atoms (l.map (bE w c W s)) = some (l.map (vE w c W s))
  | [] => rfl
  | i :: l => by
    show (match (bE w c W s i).atom, atoms (l.map (bE w c W s)) with | some v, some vs => some (v :: vs) | _, _ => none) = _
    have e : (bE w c W s i).atom = some (vE w c W s i) := by
      unfold bE vE
      split <;> rfl
    rw [e, atoms_bE w c W s l]
    rfl
theorem flat_vE (w c : List Nat) (W s i : Nat) : flatV (vE w c W s i) = true := by
  unfold vE
  split <;> rfl
theorem ix_ok {w c : List Nat} {W s r : Nat} (n : Nxt w c W s r) : ixV (.int (Due (Get w r) (Get c r) W : Nat)) ((List.range w.length).map (bE w c W s)) = some r := by
  unfold ixV
  rw [atoms_bE]
  show (if flatV (.int (Due (Get w r) (Get c r) W : Nat)) = true ∧ _ then _ else _) = _
  rw [if_pos ⟨rfl, List.all_eq_true.mpr fun v hv => by
    obtain ⟨i, _, rfl⟩ := List.mem_map.mp hv
    exact flat_vE w c W s i⟩]
  rw [List.findIdx?_eq_some_iff_getElem]
  refine ⟨by simpa using n.lt, ?_, fun j hj => ?_⟩
  · simp only [List.getElem_map, List.getElem_range]
    unfold vE
    rw [if_pos n.rdy]
    simp [L2.eqV]
  · simp only [List.getElem_map, List.getElem_range]
    unfold vE
    by_cases q : Rdy (Get w j) (Get c j) W s
    · rw [if_pos q]
      have := n.le j (by have := n.lt; omega) q
      intro z
      have z' : Due (Get w j) (Get c j) W = Due (Get w r) (Get c r) W := by
        have z2 : (((Due (Get w j) (Get c j) W : Nat) : Int) == ((Due (Get w r) (Get c r) W : Nat) : Int)) = true := by first | exact z | simpa [L2.eqV] using z
        have := of_decide_eq_true (by simpa using z2 : decide (((Due (Get w j) (Get c j) W : Nat) : Int) = ((Due (Get w r) (Get c r) W : Nat) : Int)) = true)
        omega
      have := this.2 z'
      omega
    · rw [if_neg q]
      simp [L2.eqV]
theorem minI_spec : ∀ {l : List Int} {m : Int}, minI l = some m → m ∈ l ∧ ∀ x ∈ l, m ≤ x
  | [], _, h => by cases h
  | [x], m, h => by
    cases h
    exact ⟨List.mem_singleton_self _, fun y hy => by rw [List.mem_singleton.mp hy]; exact Int.le_refl _⟩
  | x :: y :: l, m, h => by
    have h' : (minI (y :: l)).map (fun m => if m < x then m else x) = some m := h
    obtain ⟨k, hk, e⟩ := Option.map_eq_some_iff.mp h'
    obtain ⟨h1, h2⟩ := minI_spec hk
    by_cases c : k < x
    · rw [if_pos c] at e
      subst e
      refine ⟨List.mem_cons_of_mem _ h1, fun z hz => ?_⟩
      rcases List.mem_cons.mp hz with rfl | hz
      · omega
      · exact h2 z hz
    · rw [if_neg c] at e
      subst e
      refine ⟨List.mem_cons_self, fun z hz => ?_⟩
      rcases List.mem_cons.mp hz with rfl | hz
      · omega
      · have := h2 z hz; omega
theorem minI_some : ∀ {l : List Int}, l ≠ [] → ∃ m, minI l = some m
  | [], h => absurd rfl h
  | [x], _ => ⟨x, rfl⟩
  | x :: y :: l, _ => by
    obtain ⟨m, hm⟩ := minI_some (l := y :: l) (by simp)
    exact ⟨_, by show (minI (y :: l)).map _ = _; rw [hm]; rfl⟩
theorem min_due {w c : List Nat} {W s r : Nat} (n : Nxt w c W s r) : minI ((ready w c W s).map fun i => ((Due (Get w i) (Get c i) W : Nat) : Int)) = some ((Due (Get w r) (Get c r) W : Nat) : Int) := by
  have hr : r ∈ ready w c W s := mem_ready.mpr ⟨n.lt, n.rdy⟩
  obtain ⟨m, hm⟩ := minI_some (l := (ready w c W s).map fun i => ((Due (Get w i) (Get c i) W : Nat) : Int)) (by
    intro z
    have := List.mem_map_of_mem (f := fun i => ((Due (Get w i) (Get c i) W : Nat) : Int)) hr
    rw [z] at this; cases this)
  rw [hm]
  obtain ⟨h1, h2⟩ := minI_spec hm
  have a1 := h2 _ (List.mem_map_of_mem (f := fun i => ((Due (Get w i) (Get c i) W : Nat) : Int)) hr)
  obtain ⟨i, hi, e⟩ := List.mem_map.mp h1
  obtain ⟨i1, i2⟩ := mem_ready.mp hi
  have a2 := (n.le i i1 i2).1
  congr 1
  rw [← e] at a1 ⊢
  omega
theorem law_weights {G : Glob} {env : Ev.Env} {M : Sto} {P : Pool} (hP : IsPool P) {z : Res (List PV)} (hz : compL (compG (.tp (.cons (.nm 6) (.cons (.nm 7) .nil))) (wipeP env [6, 7]) (evT G E_) (evE G (V 7))) (keepB []) (P.map eV) M [] = z) (h7 : env.length = 12) : z = .ok ((ws P).map iV) M := by
  have hc := comp_map P eV (fun p => iV p.2) hz (keep_nil _) (fun p hp => by
    match env, h7 with
    | [_, _, _, _, _, _, _, _, _, _, _, _], _ => simp only [↓evE.eq_1, ↓evE.eq_2, ↓evE.eq_3, ↓evE.eq_4, ↓evE.eq_5, ↓evE.eq_6, ↓evE.eq_7, ↓evE.eq_8, ↓evE.eq_9, ↓evE.eq_10, ↓evE.eq_11, ↓evE.eq_12, ↓evE.eq_13, ↓evE.eq_14, ↓evE.eq_15, ↓evE.eq_16, ↓evE.eq_17, ↓evE.eq_18, ↓evE.eq_19, ↓evE.eq_20, ↓evE.eq_21, ↓evE.eq_22, ↓evE.eq_23, ↓evE.eq_24, ↓evE.eq_25, ↓evE.eq_26, ↓evE.eq_27, ↓evE.eq_28, ↓evE.eq_29, ↓evE.eq_30, ↓evE.eq_31, ↓evE.eq_32, ↓evE.eq_33, ↓evE.eq_34, ↓evE.eq_35, ↓evE.eq_36, ↓evE.eq_37, ↓evE.eq_38, ↓evS.eq_1, ↓evS_seq, ↓evS.eq_3, ↓evS.eq_4, ↓evS.eq_5, ↓evS.eq_6, ↓evS.eq_7, ↓evS.eq_8, ↓evS_ite, ↓iteS, ↓evS.eq_11, ↓evS.eq_12, ↓evS.eq_13, ↓evS.eq_14, ↓evS.eq_15, ↓evS.eq_16, ↓evS.eq_17, ↓evS_for, ↓evA.eq_1, ↓evA.eq_2, ↓evT.eq_1, ↓evT.eq_2, ↓evO.eq_1, ↓evO.eq_2, ↓evI.eq_1, ↓evI.eq_2, ↓evI.eq_3, ↓evI.eq_4, ↓evI.eq_5, ↓evF.eq_1, ↓evF.eq_2, ↓m_bind, ↓m_then, ↓m_opt, SRes.bind_nx, SRes.bind_rt, SRes.bind_bk, SRes.bind_ct, SRes.bind_ex, SRes.bind_bad, at_call, at_glo, at_fuel, SRes.back, List.getElem?_cons_zero, List.getElem?_cons_succ, List.set_cons_zero, List.set_cons_succ, asgT, asgTs, cmpV, truV, binV, bltV, tyN, tyLe, subV, Option.map_some, Option.map_none, List.any_cons, List.any_nil, if_true, if_false, ite_true, ite_false, String.reduceBEq, Nat.reduceAdd, Bool.or_false, Bool.false_or, Bool.or_true, Bool.true_or, Bool.and_true, Bool.true_and, Bool.and_false, Bool.false_and, Bool.not_true, Bool.not_false, beq_self_eq_true, decide_true, decide_false, reduceCtorEq, Bool.false_eq_true, Ev.keyOf, dctKeys, List.length_cons, List.length_nil, List.zip_cons_cons, List.zip_nil_left, List.zip_nil_right, List.foldl_cons, List.foldl_nil, methV, setV, isL, permL_cons, permL_nil, List.map_cons, List.map_nil, valP_cons, valP_nil, key_str, key_int, ofString_eq, String.reduceEq, putP, sizeLine_eq, Nat.reduceLT, Nat.reduceLeDiff, sto_self, mulOk, powOk, divOk, Int.reducePow, Nat.reducePow, Int.reduceNeg, Int.reduceLT, Int.reduceLE, natAbs64, natAbs30, Int.reduceToNat, Int.reduceEq, Int.reduceAdd, Int.reduceSub, Int.reduceMul, ne_eq, not_false_eq_true, Int.reduceNe, Ev.alloc, Ev.eq_ii, Ev.eq_ss, Ev.eq_bb, Ev.eq_nn, Ev.eq_ni, Ev.eq_in, Ev.eq_ns, Ev.eq_sn, Ev.eq_nb, Ev.eq_bn, Ev.eq_is, Ev.eq_si, and_self, true_and, and_true, fmod_lt64, fmod_gt64, atI_0, atI_1, atI_2, atI_3, atI_4, atI_5, atI_6, atI_7, atI_8, atI_9, itemsV, smV, fmtV, lenSetV, seqOf, lstOf, slcV, revV, srcOf, optI, List.nil_append, List.cons_append, sto_new, intsP, sortI, insI, compL, compG, wipeP, boolsP, List.all_cons, List.all_nil, id_eq, keep_nil, maxI, minI, intsP, cutf_1, cutf_2, cutf_3, cutf_4, cutt_1, cutt_2, cutt_3, cutt_4, List.drop_succ_cons, List.drop_zero, List.take_succ_cons, List.take_zero, Int.cast_ofNat_Int, false_and, and_false, or_self, or_false, false_or, true_or, or_true, lit_e, tS_len, tS_cat, tS_eq, tS_lt, List.toList_toArray, g_MOST_WORD, g_LETTERS, g_MOST_POOL, g_MOST_WEIGHT, g_MOST_TURNS, GC.pv]) (by rw [sizeLine_eq]; have := hP.le; omega)
  rw [hc]
  unfold ws
  rw [List.map_map]; rfl
theorem num_pool (P : Pool) : numP (P.map eV) = (List.range' 0 P.length).map fun i => .tup [iV i, eV (P.getD i ([], 0))] := by
  unfold numP
  refine List.ext_getElem (by simp) fun i h1 h2 => ?_
  have hi : i < P.length := by simpa using h2
  simp [List.getElem_range', hi]
theorem ws_get (P : Pool) (i : Nat) : Get (ws P) i = (P.getD i ([], 0)).2 := by
  unfold Get ws
  rw [List.getD_eq_getElem?_getD, List.getD_eq_getElem?_getD, List.getElem?_map]
  cases P[i]? <;> rfl
end K18

set_option Elab.async false
set_option linter.all false
set_option maxRecDepth 100000
set_option maxHeartbeats 4000000
/-! K18w: the law's next turn, its shares. -/
namespace K18
open PySem L2 Ev
theorem ints_ws (P : Pool) : intsP (P.map fun p => iV p.2) = some ((ws P).map fun x : Nat => (x : Int)) := by
  have := ints_iV (ws P)
  unfold ws at this ⊢
  rw [List.map_map] at this
  exact this
theorem due_bound {w c W : Nat} (hw : 0 < w) (hc : c ≤ 4000) (hW : W ≤ 800) (hw2 : w ≤ 100) : Due w c W < 100000000 := by
  unfold Due
  refine Nat.lt_of_le_of_lt (Nat.div_le_self _ _) ?_
  have : (c + 1) * W ≤ 4001 * 800 := Nat.mul_le_mul (by omega) hW
  omega
theorem is_next_ok (n : Nat) (M : Sto) {P : Pool} (hP : IsPool P) {m k j : Nat} (hm : m ≤ 4000) (hk : M[k]? = some (.lst ((cn P m).map iV))) :
    ∃ M', callN T (n + 1) "_law_is_next" [pV P, .ref k, .int ((m : Int) + 1), iV j] M = .ok (.bl (decide (j = tn P m))) M' ∧ Keep [] M M' := by
  have hw := isW hP
  have p1 := hP.pos
  have p2 := hP.le
  have W8 := hw.W800
  have W0 := hw.W0
  obtain ⟨g, es⟩ := cnt_good hw.hp hw.sum hw.W0 m
  have nx1 := tr_nxt hw.hp hw.sum hw.W0 m
  have wl := ws_len P
  obtain ⟨Wi, hWi⟩ : ∃ Wi : Int, Wi = (tot P : Nat) := ⟨_, rfl⟩
  have sm : ((ws P).map fun x : Nat => (x : Int)).sum = Wi := by rw [sum_cast, hWi]; rfl
  have lk := sto_lt hk
  rw [e__law_is_next]
  unfold c__law_is_next
  simp only [↓evE.eq_1, ↓evE.eq_2, ↓evE.eq_3, ↓evE.eq_4, ↓evE.eq_5, ↓evE.eq_6, ↓evE.eq_7, ↓evE.eq_8, ↓evE.eq_9, ↓evE.eq_10, ↓evE.eq_11, ↓evE.eq_12, ↓evE.eq_13, ↓evE.eq_14, ↓evE.eq_15, ↓evE.eq_16, ↓evE.eq_17, ↓evE.eq_18, ↓evE.eq_19, ↓evE.eq_20, ↓evE.eq_21, ↓evE.eq_22, ↓evE.eq_23, ↓evE.eq_24, ↓evE.eq_25, ↓evE.eq_26, ↓evE.eq_27, ↓evE.eq_28, ↓evE.eq_29, ↓evE.eq_30, ↓evE.eq_31, ↓evE.eq_32, ↓evE.eq_33, ↓evE.eq_34, ↓evE.eq_35, ↓evE.eq_36, ↓evE.eq_37, ↓evE.eq_38, ↓evS.eq_1, ↓evS_seq, ↓evS.eq_3, ↓evS.eq_4, ↓evS.eq_5, ↓evS.eq_6, ↓evS.eq_7, ↓evS.eq_8, ↓evS_ite, ↓iteS, ↓evS.eq_11, ↓evS.eq_12, ↓evS.eq_13, ↓evS.eq_14, ↓evS.eq_15, ↓evS.eq_16, ↓evS.eq_17, ↓evS_for, ↓evA.eq_1, ↓evA.eq_2, ↓evT.eq_1, ↓evT.eq_2, ↓evO.eq_1, ↓evO.eq_2, ↓evI.eq_1, ↓evI.eq_2, ↓evI.eq_3, ↓evI.eq_4, ↓evI.eq_5, ↓evF.eq_1, ↓evF.eq_2, ↓m_bind, ↓m_then, ↓m_opt, SRes.bind_nx, SRes.bind_rt, SRes.bind_bk, SRes.bind_ct, SRes.bind_ex, SRes.bind_bad, at_call, at_glo, at_fuel, SRes.back, List.getElem?_cons_zero, List.getElem?_cons_succ, List.set_cons_zero, List.set_cons_succ, asgT, asgTs, cmpV, truV, binV, bltV, tyN, tyLe, subV, Option.map_some, Option.map_none, List.any_cons, List.any_nil, if_true, if_false, ite_true, ite_false, String.reduceBEq, Nat.reduceAdd, Bool.or_false, Bool.false_or, Bool.or_true, Bool.true_or, Bool.and_true, Bool.true_and, Bool.and_false, Bool.false_and, Bool.not_true, Bool.not_false, beq_self_eq_true, decide_true, decide_false, reduceCtorEq, Bool.false_eq_true, Ev.keyOf, dctKeys, List.length_cons, List.length_nil, List.zip_cons_cons, List.zip_nil_left, List.zip_nil_right, List.foldl_cons, List.foldl_nil, methV, setV, isL, permL_cons, permL_nil, List.map_cons, List.map_nil, valP_cons, valP_nil, key_str, key_int, ofString_eq, String.reduceEq, putP, sizeLine_eq, Nat.reduceLT, Nat.reduceLeDiff, sto_self, mulOk, powOk, divOk, Int.reducePow, Nat.reducePow, Int.reduceNeg, Int.reduceLT, Int.reduceLE, natAbs64, natAbs30, Int.reduceToNat, Int.reduceEq, Int.reduceAdd, Int.reduceSub, Int.reduceMul, ne_eq, not_false_eq_true, Int.reduceNe, Ev.alloc, Ev.eq_ii, Ev.eq_ss, Ev.eq_bb, Ev.eq_nn, Ev.eq_ni, Ev.eq_in, Ev.eq_ns, Ev.eq_sn, Ev.eq_nb, Ev.eq_bn, Ev.eq_is, Ev.eq_si, and_self, true_and, and_true, fmod_lt64, fmod_gt64, atI_0, atI_1, atI_2, atI_3, atI_4, atI_5, atI_6, atI_7, atI_8, atI_9, itemsV, smV, fmtV, lenSetV, seqOf, lstOf, slcV, revV, srcOf, optI, List.nil_append, List.cons_append, sto_new, intsP, sortI, insI, compL, compG, wipeP, boolsP, List.all_cons, List.all_nil, id_eq, keep_nil, maxI, minI, intsP, cutf_1, cutf_2, cutf_3, cutf_4, cutt_1, cutt_2, cutt_3, cutt_4, List.drop_succ_cons, List.drop_zero, List.take_succ_cons, List.take_zero, Int.cast_ofNat_Int, false_and, and_false, or_self, or_false, false_or, true_or, or_true, lit_e, tS_len, tS_cat, tS_eq, tS_lt, List.toList_toArray, g_MOST_WORD, g_LETTERS, g_MOST_POOL, g_MOST_WEIGHT, g_MOST_TURNS, GC.pv]
  generalize hz : compL _ _ _ _ _ = z
  have hc := comp_map P eV (fun p => iV p.2) hz (keep_nil _) (fun p hp => by simp only [↓evE.eq_1, ↓evE.eq_2, ↓evE.eq_3, ↓evE.eq_4, ↓evE.eq_5, ↓evE.eq_6, ↓evE.eq_7, ↓evE.eq_8, ↓evE.eq_9, ↓evE.eq_10, ↓evE.eq_11, ↓evE.eq_12, ↓evE.eq_13, ↓evE.eq_14, ↓evE.eq_15, ↓evE.eq_16, ↓evE.eq_17, ↓evE.eq_18, ↓evE.eq_19, ↓evE.eq_20, ↓evE.eq_21, ↓evE.eq_22, ↓evE.eq_23, ↓evE.eq_24, ↓evE.eq_25, ↓evE.eq_26, ↓evE.eq_27, ↓evE.eq_28, ↓evE.eq_29, ↓evE.eq_30, ↓evE.eq_31, ↓evE.eq_32, ↓evE.eq_33, ↓evE.eq_34, ↓evE.eq_35, ↓evE.eq_36, ↓evE.eq_37, ↓evE.eq_38, ↓evS.eq_1, ↓evS_seq, ↓evS.eq_3, ↓evS.eq_4, ↓evS.eq_5, ↓evS.eq_6, ↓evS.eq_7, ↓evS.eq_8, ↓evS_ite, ↓iteS, ↓evS.eq_11, ↓evS.eq_12, ↓evS.eq_13, ↓evS.eq_14, ↓evS.eq_15, ↓evS.eq_16, ↓evS.eq_17, ↓evS_for, ↓evA.eq_1, ↓evA.eq_2, ↓evT.eq_1, ↓evT.eq_2, ↓evO.eq_1, ↓evO.eq_2, ↓evI.eq_1, ↓evI.eq_2, ↓evI.eq_3, ↓evI.eq_4, ↓evI.eq_5, ↓evF.eq_1, ↓evF.eq_2, ↓m_bind, ↓m_then, ↓m_opt, SRes.bind_nx, SRes.bind_rt, SRes.bind_bk, SRes.bind_ct, SRes.bind_ex, SRes.bind_bad, at_call, at_glo, at_fuel, SRes.back, List.getElem?_cons_zero, List.getElem?_cons_succ, List.set_cons_zero, List.set_cons_succ, asgT, asgTs, cmpV, truV, binV, bltV, tyN, tyLe, subV, Option.map_some, Option.map_none, List.any_cons, List.any_nil, if_true, if_false, ite_true, ite_false, String.reduceBEq, Nat.reduceAdd, Bool.or_false, Bool.false_or, Bool.or_true, Bool.true_or, Bool.and_true, Bool.true_and, Bool.and_false, Bool.false_and, Bool.not_true, Bool.not_false, beq_self_eq_true, decide_true, decide_false, reduceCtorEq, Bool.false_eq_true, Ev.keyOf, dctKeys, List.length_cons, List.length_nil, List.zip_cons_cons, List.zip_nil_left, List.zip_nil_right, List.foldl_cons, List.foldl_nil, methV, setV, isL, permL_cons, permL_nil, List.map_cons, List.map_nil, valP_cons, valP_nil, key_str, key_int, ofString_eq, String.reduceEq, putP, sizeLine_eq, Nat.reduceLT, Nat.reduceLeDiff, sto_self, mulOk, powOk, divOk, Int.reducePow, Nat.reducePow, Int.reduceNeg, Int.reduceLT, Int.reduceLE, natAbs64, natAbs30, Int.reduceToNat, Int.reduceEq, Int.reduceAdd, Int.reduceSub, Int.reduceMul, ne_eq, not_false_eq_true, Int.reduceNe, Ev.alloc, Ev.eq_ii, Ev.eq_ss, Ev.eq_bb, Ev.eq_nn, Ev.eq_ni, Ev.eq_in, Ev.eq_ns, Ev.eq_sn, Ev.eq_nb, Ev.eq_bn, Ev.eq_is, Ev.eq_si, and_self, true_and, and_true, fmod_lt64, fmod_gt64, atI_0, atI_1, atI_2, atI_3, atI_4, atI_5, atI_6, atI_7, atI_8, atI_9, itemsV, smV, fmtV, lenSetV, seqOf, lstOf, slcV, revV, srcOf, optI, List.nil_append, List.cons_append, sto_new, intsP, sortI, insI, compL, compG, wipeP, boolsP, List.all_cons, List.all_nil, id_eq, keep_nil, maxI, minI, intsP, cutf_1, cutf_2, cutf_3, cutf_4, cutt_1, cutt_2, cutt_3, cutt_4, List.drop_succ_cons, List.drop_zero, List.take_succ_cons, List.take_zero, Int.cast_ofNat_Int, false_and, and_false, or_self, or_false, false_or, true_or, or_true, lit_e, tS_len, tS_cat, tS_eq, tS_lt, List.toList_toArray, g_MOST_WORD, g_LETTERS, g_MOST_POOL, g_MOST_WEIGHT, g_MOST_TURNS, GC.pv]) (by rw [sizeLine_eq]; omega)
  subst hc
  have hk1 : (M ++ [MO.lst (P.map fun p => iV p.2)])[k]? = some (.lst ((cn P m).map iV)) := sto_app hk
  have hnew := sto_new M (.lst (P.map fun p => iV p.2))
  have kM : Keep [] M (M ++ [MO.lst (P.map fun p => iV p.2)]) := Keep.app
  simp only [↓evE.eq_1, ↓evE.eq_2, ↓evE.eq_3, ↓evE.eq_4, ↓evE.eq_5, ↓evE.eq_6, ↓evE.eq_7, ↓evE.eq_8, ↓evE.eq_9, ↓evE.eq_10, ↓evE.eq_11, ↓evE.eq_12, ↓evE.eq_13, ↓evE.eq_14, ↓evE.eq_15, ↓evE.eq_16, ↓evE.eq_17, ↓evE.eq_18, ↓evE.eq_19, ↓evE.eq_20, ↓evE.eq_21, ↓evE.eq_22, ↓evE.eq_23, ↓evE.eq_24, ↓evE.eq_25, ↓evE.eq_26, ↓evE.eq_27, ↓evE.eq_28, ↓evE.eq_29, ↓evE.eq_30, ↓evE.eq_31, ↓evE.eq_32, ↓evE.eq_33, ↓evE.eq_34, ↓evE.eq_35, ↓evE.eq_36, ↓evE.eq_37, ↓evE.eq_38, ↓evS.eq_1, ↓evS_seq, ↓evS.eq_3, ↓evS.eq_4, ↓evS.eq_5, ↓evS.eq_6, ↓evS.eq_7, ↓evS.eq_8, ↓evS_ite, ↓iteS, ↓evS.eq_11, ↓evS.eq_12, ↓evS.eq_13, ↓evS.eq_14, ↓evS.eq_15, ↓evS.eq_16, ↓evS.eq_17, ↓evS_for, ↓evA.eq_1, ↓evA.eq_2, ↓evT.eq_1, ↓evT.eq_2, ↓evO.eq_1, ↓evO.eq_2, ↓evI.eq_1, ↓evI.eq_2, ↓evI.eq_3, ↓evI.eq_4, ↓evI.eq_5, ↓evF.eq_1, ↓evF.eq_2, ↓m_bind, ↓m_then, ↓m_opt, SRes.bind_nx, SRes.bind_rt, SRes.bind_bk, SRes.bind_ct, SRes.bind_ex, SRes.bind_bad, at_call, at_glo, at_fuel, SRes.back, List.getElem?_cons_zero, List.getElem?_cons_succ, List.set_cons_zero, List.set_cons_succ, asgT, asgTs, cmpV, truV, binV, bltV, tyN, tyLe, subV, Option.map_some, Option.map_none, List.any_cons, List.any_nil, if_true, if_false, ite_true, ite_false, String.reduceBEq, Nat.reduceAdd, Bool.or_false, Bool.false_or, Bool.or_true, Bool.true_or, Bool.and_true, Bool.true_and, Bool.and_false, Bool.false_and, Bool.not_true, Bool.not_false, beq_self_eq_true, decide_true, decide_false, reduceCtorEq, Bool.false_eq_true, Ev.keyOf, dctKeys, List.length_cons, List.length_nil, List.zip_cons_cons, List.zip_nil_left, List.zip_nil_right, List.foldl_cons, List.foldl_nil, methV, setV, isL, permL_cons, permL_nil, List.map_cons, List.map_nil, valP_cons, valP_nil, key_str, key_int, ofString_eq, String.reduceEq, putP, sizeLine_eq, Nat.reduceLT, Nat.reduceLeDiff, sto_self, mulOk, powOk, divOk, Int.reducePow, Nat.reducePow, Int.reduceNeg, Int.reduceLT, Int.reduceLE, natAbs64, natAbs30, Int.reduceToNat, Int.reduceEq, Int.reduceAdd, Int.reduceSub, Int.reduceMul, ne_eq, not_false_eq_true, Int.reduceNe, Ev.alloc, Ev.eq_ii, Ev.eq_ss, Ev.eq_bb, Ev.eq_nn, Ev.eq_ni, Ev.eq_in, Ev.eq_ns, Ev.eq_sn, Ev.eq_nb, Ev.eq_bn, Ev.eq_is, Ev.eq_si, and_self, true_and, and_true, fmod_lt64, fmod_gt64, atI_0, atI_1, atI_2, atI_3, atI_4, atI_5, atI_6, atI_7, atI_8, atI_9, itemsV, smV, fmtV, lenSetV, seqOf, lstOf, slcV, revV, srcOf, optI, List.nil_append, List.cons_append, sto_new, intsP, sortI, insI, compL, compG, wipeP, boolsP, List.all_cons, List.all_nil, id_eq, keep_nil, maxI, minI, intsP, cutf_1, cutf_2, cutf_3, cutf_4, cutt_1, cutt_2, cutt_3, cutt_4, List.drop_succ_cons, List.drop_zero, List.take_succ_cons, List.take_zero, Int.cast_ofNat_Int, false_and, and_false, or_self, or_false, false_or, true_or, or_true, lit_e, tS_len, tS_cat, tS_eq, tS_lt, List.toList_toArray, g_MOST_WORD, g_LETTERS, g_MOST_POOL, g_MOST_WEIGHT, g_MOST_TURNS, GC.pv, hnew, ints_ws, sm, num_pool]
  generalize M ++ [MO.lst (P.map fun p => iV p.2)] = M1 at hk1 kM ⊢
  have lk1 := sto_lt hk1
  generalize hz2 : forL _ _ _ _ _ = z2
  obtain ⟨env', M', rfl, i, v8, v9, h1, h2, h3, h4, hi⟩ := for_of hz2 (fun xs env M2 => ∃ i v8 v9, xs = ((List.range' i (P.length - i)).map fun i => .tup [iV i, eV (P.getD i ([], 0))]) ∧
      env = [some (pV P), some (.ref k), some (.int ((m : Int) + 1)), some (iV j), some (.int Wi), some (.ref M1.length), none, none, v8, v9, none, none] ∧
      M2[M1.length]? = some (.lst ((List.range i).map (bE (ws P) (cn P m) (tot P) m))) ∧ Keep [M1.length] (M1 ++ [.lst []]) M2 ∧ i ≤ P.length)
    ⟨0, none, none, rfl, rfl, sto_new _ _, Keep.refl _, Nat.zero_le _⟩ (fun _ _ _ _ => keep_nil _) (fun x xs env M2 ⟨i, v8, v9, h1, h2, h3, h4, hi⟩ => by
      have hin : i < P.length := by
        rcases Nat.lt_or_ge i P.length with q | q
        · exact q
        · rw [show P.length - i = 0 by omega] at h1; cases h1
      rw [show P.length - i = (P.length - (i + 1)) + 1 by omega, List.range'_succ] at h1
      cases h1
      subst h2
      have hk2 : M2[k]? = some (.lst ((cn P m).map iV)) := h4.get (sto_app hk1) (fun z => by have := List.mem_singleton.mp z; omega)
      have hci := at_iV (l := cn P m) (i := i) (by rw [cn_len hP]; exact hin)
      have hwg := hw.get (i := i) (by rw [wl]; exact hin)
      have hcg : Get (cn P m) i ≤ m := by
        have hi2 : i < (cn P m).length := by rw [cn_len hP]; exact hin
        unfold Get
        rw [List.getD_eq_getElem?_getD, List.getElem?_eq_getElem hi2]
        exact cn_le hP m (List.getElem_mem hi2)
      have hwp := ws_get P i
      have hbe : bE (ws P) (cn P m) (tot P) m i = if Rdy (Get (ws P) i) (Get (cn P m) i) (tot P) m then iV (Due (Get (ws P) i) (Get (cn P m) i) (tot P)) else .non := rfl
      rw [hwp] at hwg hbe
      dsimp only
      generalize P.getD i ([], 0) = p at hwg hbe ⊢
      have hm1 : mulOk ((Get (cn P m) i : Nat) : Int) Wi = true := mul_small (by omega) (by omega)
      have hm2 : mulOk (((Get (cn P m) i : Nat) : Int) + 1) Wi = true := mul_small (by omega) (by omega)
      have d0 : (((p.2 : Nat) : Int) = 0) = False := eq_false (by omega)
      have d1 : (-1073741824 < ((p.2 : Nat) : Int)) = True := eq_true (by omega)
      have d2 : (((p.2 : Nat) : Int) < 1073741824) = True := eq_true (by omega)
      have ll : (((List.range i).map (bE (ws P) (cn P m) (tot P) m)).length < 16777216) = True := eq_true (by simp; omega)
      have em : ((List.range i).map (bE (ws P) (cn P m) (tot P) m)) ++ [bE (ws P) (cn P m) (tot P) m i] = (List.range (i + 1)).map (bE (ws P) (cn P m) (tot P) m) := by
        rw [List.range_succ, List.map_append]; rfl
      have eg : (((Get (cn P m) i : Nat) : Int) * Wi).fdiv ((p.2 : Nat) : Int) = ((Get (cn P m) i * tot P / p.2 : Nat) : Int) := by
        rw [hWi, ← fdiv_nat]; push_cast; rfl
      have h3' := h3
      refine ⟨_, M2.set M1.length (.lst ((List.range (i + 1)).map (bE (ws P) (cn P m) (tot P) m))), .inl ?_, i + 1, some (iV i), some (eV p), rfl, rfl, by rw [sto_self, h3]; rfl, h4.trans (Keep.set (by simp)), hin⟩
      unfold forB
      by_cases r : Rdy p.2 (Get (cn P m) i) (tot P) m
      · rw [if_pos r] at hbe
        rw [hbe] at em
        have hb : ((((Get (cn P m) i : Nat) : Int) * Wi).fdiv ((p.2 : Nat) : Int) < (m : Int) + 1) = True := eq_true (by rw [eg]; unfold Rdy at r; omega)
        have hd : ((((Get (cn P m) i : Nat) : Int) + 1) * Wi + ((p.2 : Nat) : Int) - 1).fdiv ((p.2 : Nat) : Int) = ((Due p.2 (Get (cn P m) i) (tot P) : Nat) : Int) := by
          unfold Due
          rw [← fdiv_nat, hWi]
          have hge : 1 ≤ (Get (cn P m) i + 1) * tot P + p.2 := by omega
          rw [Int.ofNat_sub hge]
          push_cast; rfl
        simp only [↓evE.eq_1, ↓evE.eq_2, ↓evE.eq_3, ↓evE.eq_4, ↓evE.eq_5, ↓evE.eq_6, ↓evE.eq_7, ↓evE.eq_8, ↓evE.eq_9, ↓evE.eq_10, ↓evE.eq_11, ↓evE.eq_12, ↓evE.eq_13, ↓evE.eq_14, ↓evE.eq_15, ↓evE.eq_16, ↓evE.eq_17, ↓evE.eq_18, ↓evE.eq_19, ↓evE.eq_20, ↓evE.eq_21, ↓evE.eq_22, ↓evE.eq_23, ↓evE.eq_24, ↓evE.eq_25, ↓evE.eq_26, ↓evE.eq_27, ↓evE.eq_28, ↓evE.eq_29, ↓evE.eq_30, ↓evE.eq_31, ↓evE.eq_32, ↓evE.eq_33, ↓evE.eq_34, ↓evE.eq_35, ↓evE.eq_36, ↓evE.eq_37, ↓evE.eq_38, ↓evS.eq_1, ↓evS_seq, ↓evS.eq_3, ↓evS.eq_4, ↓evS.eq_5, ↓evS.eq_6, ↓evS.eq_7, ↓evS.eq_8, ↓evS_ite, ↓iteS, ↓evS.eq_11, ↓evS.eq_12, ↓evS.eq_13, ↓evS.eq_14, ↓evS.eq_15, ↓evS.eq_16, ↓evS.eq_17, ↓evS_for, ↓evA.eq_1, ↓evA.eq_2, ↓evT.eq_1, ↓evT.eq_2, ↓evO.eq_1, ↓evO.eq_2, ↓evI.eq_1, ↓evI.eq_2, ↓evI.eq_3, ↓evI.eq_4, ↓evI.eq_5, ↓evF.eq_1, ↓evF.eq_2, ↓m_bind, ↓m_then, ↓m_opt, SRes.bind_nx, SRes.bind_rt, SRes.bind_bk, SRes.bind_ct, SRes.bind_ex, SRes.bind_bad, at_call, at_glo, at_fuel, SRes.back, List.getElem?_cons_zero, List.getElem?_cons_succ, List.set_cons_zero, List.set_cons_succ, asgT, asgTs, cmpV, truV, binV, bltV, tyN, tyLe, subV, Option.map_some, Option.map_none, List.any_cons, List.any_nil, if_true, if_false, ite_true, ite_false, String.reduceBEq, Nat.reduceAdd, Bool.or_false, Bool.false_or, Bool.or_true, Bool.true_or, Bool.and_true, Bool.true_and, Bool.and_false, Bool.false_and, Bool.not_true, Bool.not_false, beq_self_eq_true, decide_true, decide_false, reduceCtorEq, Bool.false_eq_true, Ev.keyOf, dctKeys, List.length_cons, List.length_nil, List.zip_cons_cons, List.zip_nil_left, List.zip_nil_right, List.foldl_cons, List.foldl_nil, methV, setV, isL, permL_cons, permL_nil, List.map_cons, List.map_nil, valP_cons, valP_nil, key_str, key_int, ofString_eq, String.reduceEq, putP, sizeLine_eq, Nat.reduceLT, Nat.reduceLeDiff, sto_self, powOk, divOk, Int.reducePow, Nat.reducePow, Int.reduceNeg, Int.reduceLT, Int.reduceLE, natAbs64, natAbs30, Int.reduceToNat, Int.reduceEq, Int.reduceAdd, Int.reduceSub, Int.reduceMul, ne_eq, not_false_eq_true, Int.reduceNe, Ev.alloc, Ev.eq_ii, Ev.eq_ss, Ev.eq_bb, Ev.eq_nn, Ev.eq_ni, Ev.eq_in, Ev.eq_ns, Ev.eq_sn, Ev.eq_nb, Ev.eq_bn, Ev.eq_is, Ev.eq_si, and_self, true_and, and_true, fmod_lt64, fmod_gt64, atI_0, atI_1, atI_2, atI_3, atI_4, atI_5, atI_6, atI_7, atI_8, atI_9, itemsV, smV, fmtV, lenSetV, seqOf, lstOf, slcV, revV, srcOf, optI, List.nil_append, List.cons_append, sto_new, intsP, sortI, insI, compL, compG, wipeP, boolsP, List.all_cons, List.all_nil, id_eq, keep_nil, maxI, minI, intsP, cutf_1, cutf_2, cutf_3, cutf_4, cutt_1, cutt_2, cutt_3, cutt_4, List.drop_succ_cons, List.drop_zero, List.take_succ_cons, List.take_zero, Int.cast_ofNat_Int, false_and, and_false, or_self, or_false, false_or, true_or, or_true, lit_e, tS_len, tS_cat, tS_eq, tS_lt, List.toList_toArray, g_MOST_WORD, g_LETTERS, g_MOST_POOL, g_MOST_WEIGHT, g_MOST_TURNS, GC.pv, hk2, hci, hm1, hm2, d0, d1, d2, hb, hd, h3, ll, em]
      · rw [if_neg r] at hbe
        rw [hbe] at em
        have hb : ((((Get (cn P m) i : Nat) : Int) * Wi).fdiv ((p.2 : Nat) : Int) < (m : Int) + 1) = False := eq_false (by rw [eg]; unfold Rdy at r; omega)
        simp only [↓evE.eq_1, ↓evE.eq_2, ↓evE.eq_3, ↓evE.eq_4, ↓evE.eq_5, ↓evE.eq_6, ↓evE.eq_7, ↓evE.eq_8, ↓evE.eq_9, ↓evE.eq_10, ↓evE.eq_11, ↓evE.eq_12, ↓evE.eq_13, ↓evE.eq_14, ↓evE.eq_15, ↓evE.eq_16, ↓evE.eq_17, ↓evE.eq_18, ↓evE.eq_19, ↓evE.eq_20, ↓evE.eq_21, ↓evE.eq_22, ↓evE.eq_23, ↓evE.eq_24, ↓evE.eq_25, ↓evE.eq_26, ↓evE.eq_27, ↓evE.eq_28, ↓evE.eq_29, ↓evE.eq_30, ↓evE.eq_31, ↓evE.eq_32, ↓evE.eq_33, ↓evE.eq_34, ↓evE.eq_35, ↓evE.eq_36, ↓evE.eq_37, ↓evE.eq_38, ↓evS.eq_1, ↓evS_seq, ↓evS.eq_3, ↓evS.eq_4, ↓evS.eq_5, ↓evS.eq_6, ↓evS.eq_7, ↓evS.eq_8, ↓evS_ite, ↓iteS, ↓evS.eq_11, ↓evS.eq_12, ↓evS.eq_13, ↓evS.eq_14, ↓evS.eq_15, ↓evS.eq_16, ↓evS.eq_17, ↓evS_for, ↓evA.eq_1, ↓evA.eq_2, ↓evT.eq_1, ↓evT.eq_2, ↓evO.eq_1, ↓evO.eq_2, ↓evI.eq_1, ↓evI.eq_2, ↓evI.eq_3, ↓evI.eq_4, ↓evI.eq_5, ↓evF.eq_1, ↓evF.eq_2, ↓m_bind, ↓m_then, ↓m_opt, SRes.bind_nx, SRes.bind_rt, SRes.bind_bk, SRes.bind_ct, SRes.bind_ex, SRes.bind_bad, at_call, at_glo, at_fuel, SRes.back, List.getElem?_cons_zero, List.getElem?_cons_succ, List.set_cons_zero, List.set_cons_succ, asgT, asgTs, cmpV, truV, binV, bltV, tyN, tyLe, subV, Option.map_some, Option.map_none, List.any_cons, List.any_nil, if_true, if_false, ite_true, ite_false, String.reduceBEq, Nat.reduceAdd, Bool.or_false, Bool.false_or, Bool.or_true, Bool.true_or, Bool.and_true, Bool.true_and, Bool.and_false, Bool.false_and, Bool.not_true, Bool.not_false, beq_self_eq_true, decide_true, decide_false, reduceCtorEq, Bool.false_eq_true, Ev.keyOf, dctKeys, List.length_cons, List.length_nil, List.zip_cons_cons, List.zip_nil_left, List.zip_nil_right, List.foldl_cons, List.foldl_nil, methV, setV, isL, permL_cons, permL_nil, List.map_cons, List.map_nil, valP_cons, valP_nil, key_str, key_int, ofString_eq, String.reduceEq, putP, sizeLine_eq, Nat.reduceLT, Nat.reduceLeDiff, sto_self, powOk, divOk, Int.reducePow, Nat.reducePow, Int.reduceNeg, Int.reduceLT, Int.reduceLE, natAbs64, natAbs30, Int.reduceToNat, Int.reduceEq, Int.reduceAdd, Int.reduceSub, Int.reduceMul, ne_eq, not_false_eq_true, Int.reduceNe, Ev.alloc, Ev.eq_ii, Ev.eq_ss, Ev.eq_bb, Ev.eq_nn, Ev.eq_ni, Ev.eq_in, Ev.eq_ns, Ev.eq_sn, Ev.eq_nb, Ev.eq_bn, Ev.eq_is, Ev.eq_si, and_self, true_and, and_true, fmod_lt64, fmod_gt64, atI_0, atI_1, atI_2, atI_3, atI_4, atI_5, atI_6, atI_7, atI_8, atI_9, itemsV, smV, fmtV, lenSetV, seqOf, lstOf, slcV, revV, srcOf, optI, List.nil_append, List.cons_append, sto_new, intsP, sortI, insI, compL, compG, wipeP, boolsP, List.all_cons, List.all_nil, id_eq, keep_nil, maxI, minI, intsP, cutf_1, cutf_2, cutf_3, cutf_4, cutt_1, cutt_2, cutt_3, cutt_4, List.drop_succ_cons, List.drop_zero, List.take_succ_cons, List.take_zero, Int.cast_ofNat_Int, false_and, and_false, or_self, or_false, false_or, true_or, or_true, lit_e, tS_len, tS_cat, tS_eq, tS_lt, List.toList_toArray, g_MOST_WORD, g_LETTERS, g_MOST_POOL, g_MOST_WEIGHT, g_MOST_TURNS, GC.pv, hk2, hci, hm1, hm2, d0, d1, d2, hb, h3, ll, em])
  have hin : i = P.length := by
    rcases Nat.lt_or_ge i P.length with q | q
    · rw [show P.length - i = (P.length - (i + 1)) + 1 by omega, List.range'_succ] at h1; cases h1
    · omega
  subst hin
  subst h2
  have kM2 : Keep [] M M' := kM.trans ⟨by have := h4.len; simp at this; omega, fun q hq _ => by rw [h4.2 q (by simp; omega) (by simp; omega)]; exact List.getElem?_append_left hq⟩
  generalize M1.length = B at h3 ⊢
  simp only [↓evE.eq_1, ↓evE.eq_2, ↓evE.eq_3, ↓evE.eq_4, ↓evE.eq_5, ↓evE.eq_6, ↓evE.eq_7, ↓evE.eq_8, ↓evE.eq_9, ↓evE.eq_10, ↓evE.eq_11, ↓evE.eq_12, ↓evE.eq_13, ↓evE.eq_14, ↓evE.eq_15, ↓evE.eq_16, ↓evE.eq_17, ↓evE.eq_18, ↓evE.eq_19, ↓evE.eq_20, ↓evE.eq_21, ↓evE.eq_22, ↓evE.eq_23, ↓evE.eq_24, ↓evE.eq_25, ↓evE.eq_26, ↓evE.eq_27, ↓evE.eq_28, ↓evE.eq_29, ↓evE.eq_30, ↓evE.eq_31, ↓evE.eq_32, ↓evE.eq_33, ↓evE.eq_34, ↓evE.eq_35, ↓evE.eq_36, ↓evE.eq_37, ↓evE.eq_38, ↓evS.eq_1, ↓evS_seq, ↓evS.eq_3, ↓evS.eq_4, ↓evS.eq_5, ↓evS.eq_6, ↓evS.eq_7, ↓evS.eq_8, ↓evS_ite, ↓iteS, ↓evS.eq_11, ↓evS.eq_12, ↓evS.eq_13, ↓evS.eq_14, ↓evS.eq_15, ↓evS.eq_16, ↓evS.eq_17, ↓evS_for, ↓evA.eq_1, ↓evA.eq_2, ↓evT.eq_1, ↓evT.eq_2, ↓evO.eq_1, ↓evO.eq_2, ↓evI.eq_1, ↓evI.eq_2, ↓evI.eq_3, ↓evI.eq_4, ↓evI.eq_5, ↓evF.eq_1, ↓evF.eq_2, ↓m_bind, ↓m_then, ↓m_opt, SRes.bind_nx, SRes.bind_rt, SRes.bind_bk, SRes.bind_ct, SRes.bind_ex, SRes.bind_bad, at_call, at_glo, at_fuel, SRes.back, List.getElem?_cons_zero, List.getElem?_cons_succ, List.set_cons_zero, List.set_cons_succ, asgT, asgTs, cmpV, truV, binV, bltV, tyN, tyLe, subV, Option.map_some, Option.map_none, List.any_cons, List.any_nil, if_true, if_false, ite_true, ite_false, String.reduceBEq, Nat.reduceAdd, Bool.or_false, Bool.false_or, Bool.or_true, Bool.true_or, Bool.and_true, Bool.true_and, Bool.and_false, Bool.false_and, Bool.not_true, Bool.not_false, beq_self_eq_true, decide_true, decide_false, reduceCtorEq, Bool.false_eq_true, Ev.keyOf, dctKeys, List.length_cons, List.length_nil, List.zip_cons_cons, List.zip_nil_left, List.zip_nil_right, List.foldl_cons, List.foldl_nil, methV, setV, isL, permL_cons, permL_nil, List.map_cons, List.map_nil, valP_cons, valP_nil, key_str, key_int, ofString_eq, String.reduceEq, putP, sizeLine_eq, Nat.reduceLT, Nat.reduceLeDiff, sto_self, mulOk, powOk, divOk, Int.reducePow, Nat.reducePow, Int.reduceNeg, Int.reduceLT, Int.reduceLE, natAbs64, natAbs30, Int.reduceToNat, Int.reduceEq, Int.reduceAdd, Int.reduceSub, Int.reduceMul, ne_eq, not_false_eq_true, Int.reduceNe, Ev.alloc, Ev.eq_ii, Ev.eq_ss, Ev.eq_bb, Ev.eq_nn, Ev.eq_ni, Ev.eq_in, Ev.eq_ns, Ev.eq_sn, Ev.eq_nb, Ev.eq_bn, Ev.eq_is, Ev.eq_si, and_self, true_and, and_true, fmod_lt64, fmod_gt64, atI_0, atI_1, atI_2, atI_3, atI_4, atI_5, atI_6, atI_7, atI_8, atI_9, itemsV, smV, fmtV, lenSetV, seqOf, lstOf, slcV, revV, srcOf, optI, List.nil_append, List.cons_append, sto_new, intsP, sortI, insI, compL, compG, wipeP, boolsP, List.all_cons, List.all_nil, id_eq, keep_nil, maxI, minI, intsP, cutf_1, cutf_2, cutf_3, cutf_4, cutt_1, cutt_2, cutt_3, cutt_4, List.drop_succ_cons, List.drop_zero, List.take_succ_cons, List.take_zero, Int.cast_ofNat_Int, false_and, and_false, or_self, or_false, false_or, true_or, or_true, lit_e, tS_len, tS_cat, tS_eq, tS_lt, List.toList_toArray, g_MOST_WORD, g_LETTERS, g_MOST_POOL, g_MOST_WEIGHT, g_MOST_TURNS, GC.pv, h3]
  generalize hz3 : compL _ _ _ _ _ = z3
  have hc3 := comp_filt (List.range P.length) (bE (ws P) (cn P m) (tot P) m) (fun i => decide (Rdy (Get (ws P) i) (Get (cn P m) i) (tot P) m)) (fun i => iV (Due (Get (ws P) i) (Get (cn P m) i) (tot P))) hz3 (keep_one h3) (fun i hi => by
    unfold bE
    by_cases r : Rdy (Get (ws P) i) (Get (cn P m) i) (tot P) m
    · rw [if_pos r, if_pos (decide_eq_true r)]
      simp only [↓evE.eq_1, ↓evE.eq_2, ↓evE.eq_3, ↓evE.eq_4, ↓evE.eq_5, ↓evE.eq_6, ↓evE.eq_7, ↓evE.eq_8, ↓evE.eq_9, ↓evE.eq_10, ↓evE.eq_11, ↓evE.eq_12, ↓evE.eq_13, ↓evE.eq_14, ↓evE.eq_15, ↓evE.eq_16, ↓evE.eq_17, ↓evE.eq_18, ↓evE.eq_19, ↓evE.eq_20, ↓evE.eq_21, ↓evE.eq_22, ↓evE.eq_23, ↓evE.eq_24, ↓evE.eq_25, ↓evE.eq_26, ↓evE.eq_27, ↓evE.eq_28, ↓evE.eq_29, ↓evE.eq_30, ↓evE.eq_31, ↓evE.eq_32, ↓evE.eq_33, ↓evE.eq_34, ↓evE.eq_35, ↓evE.eq_36, ↓evE.eq_37, ↓evE.eq_38, ↓evS.eq_1, ↓evS_seq, ↓evS.eq_3, ↓evS.eq_4, ↓evS.eq_5, ↓evS.eq_6, ↓evS.eq_7, ↓evS.eq_8, ↓evS_ite, ↓iteS, ↓evS.eq_11, ↓evS.eq_12, ↓evS.eq_13, ↓evS.eq_14, ↓evS.eq_15, ↓evS.eq_16, ↓evS.eq_17, ↓evS_for, ↓evA.eq_1, ↓evA.eq_2, ↓evT.eq_1, ↓evT.eq_2, ↓evO.eq_1, ↓evO.eq_2, ↓evI.eq_1, ↓evI.eq_2, ↓evI.eq_3, ↓evI.eq_4, ↓evI.eq_5, ↓evF.eq_1, ↓evF.eq_2, ↓m_bind, ↓m_then, ↓m_opt, SRes.bind_nx, SRes.bind_rt, SRes.bind_bk, SRes.bind_ct, SRes.bind_ex, SRes.bind_bad, at_call, at_glo, at_fuel, SRes.back, List.getElem?_cons_zero, List.getElem?_cons_succ, List.set_cons_zero, List.set_cons_succ, asgT, asgTs, cmpV, truV, binV, bltV, tyN, tyLe, subV, Option.map_some, Option.map_none, List.any_cons, List.any_nil, if_true, if_false, ite_true, ite_false, String.reduceBEq, Nat.reduceAdd, Bool.or_false, Bool.false_or, Bool.or_true, Bool.true_or, Bool.and_true, Bool.true_and, Bool.and_false, Bool.false_and, Bool.not_true, Bool.not_false, beq_self_eq_true, decide_true, decide_false, reduceCtorEq, Bool.false_eq_true, Ev.keyOf, dctKeys, List.length_cons, List.length_nil, List.zip_cons_cons, List.zip_nil_left, List.zip_nil_right, List.foldl_cons, List.foldl_nil, methV, setV, isL, permL_cons, permL_nil, List.map_cons, List.map_nil, valP_cons, valP_nil, key_str, key_int, ofString_eq, String.reduceEq, putP, sizeLine_eq, Nat.reduceLT, Nat.reduceLeDiff, sto_self, mulOk, powOk, divOk, Int.reducePow, Nat.reducePow, Int.reduceNeg, Int.reduceLT, Int.reduceLE, natAbs64, natAbs30, Int.reduceToNat, Int.reduceEq, Int.reduceAdd, Int.reduceSub, Int.reduceMul, ne_eq, not_false_eq_true, Int.reduceNe, Ev.alloc, Ev.eq_ii, Ev.eq_ss, Ev.eq_bb, Ev.eq_nn, Ev.eq_ni, Ev.eq_in, Ev.eq_ns, Ev.eq_sn, Ev.eq_nb, Ev.eq_bn, Ev.eq_is, Ev.eq_si, and_self, true_and, and_true, fmod_lt64, fmod_gt64, atI_0, atI_1, atI_2, atI_3, atI_4, atI_5, atI_6, atI_7, atI_8, atI_9, itemsV, smV, fmtV, lenSetV, seqOf, lstOf, slcV, revV, srcOf, optI, List.nil_append, List.cons_append, sto_new, intsP, sortI, insI, compL, compG, wipeP, boolsP, List.all_cons, List.all_nil, id_eq, keep_nil, maxI, minI, intsP, cutf_1, cutf_2, cutf_3, cutf_4, cutt_1, cutt_2, cutt_3, cutt_4, List.drop_succ_cons, List.drop_zero, List.take_succ_cons, List.take_zero, Int.cast_ofNat_Int, false_and, and_false, or_self, or_false, false_or, true_or, or_true, lit_e, tS_len, tS_cat, tS_eq, tS_lt, List.toList_toArray, g_MOST_WORD, g_LETTERS, g_MOST_POOL, g_MOST_WEIGHT, g_MOST_TURNS, GC.pv]
    · rw [if_neg r, if_neg (by simpa using r)]
      simp only [↓evE.eq_1, ↓evE.eq_2, ↓evE.eq_3, ↓evE.eq_4, ↓evE.eq_5, ↓evE.eq_6, ↓evE.eq_7, ↓evE.eq_8, ↓evE.eq_9, ↓evE.eq_10, ↓evE.eq_11, ↓evE.eq_12, ↓evE.eq_13, ↓evE.eq_14, ↓evE.eq_15, ↓evE.eq_16, ↓evE.eq_17, ↓evE.eq_18, ↓evE.eq_19, ↓evE.eq_20, ↓evE.eq_21, ↓evE.eq_22, ↓evE.eq_23, ↓evE.eq_24, ↓evE.eq_25, ↓evE.eq_26, ↓evE.eq_27, ↓evE.eq_28, ↓evE.eq_29, ↓evE.eq_30, ↓evE.eq_31, ↓evE.eq_32, ↓evE.eq_33, ↓evE.eq_34, ↓evE.eq_35, ↓evE.eq_36, ↓evE.eq_37, ↓evE.eq_38, ↓evS.eq_1, ↓evS_seq, ↓evS.eq_3, ↓evS.eq_4, ↓evS.eq_5, ↓evS.eq_6, ↓evS.eq_7, ↓evS.eq_8, ↓evS_ite, ↓iteS, ↓evS.eq_11, ↓evS.eq_12, ↓evS.eq_13, ↓evS.eq_14, ↓evS.eq_15, ↓evS.eq_16, ↓evS.eq_17, ↓evS_for, ↓evA.eq_1, ↓evA.eq_2, ↓evT.eq_1, ↓evT.eq_2, ↓evO.eq_1, ↓evO.eq_2, ↓evI.eq_1, ↓evI.eq_2, ↓evI.eq_3, ↓evI.eq_4, ↓evI.eq_5, ↓evF.eq_1, ↓evF.eq_2, ↓m_bind, ↓m_then, ↓m_opt, SRes.bind_nx, SRes.bind_rt, SRes.bind_bk, SRes.bind_ct, SRes.bind_ex, SRes.bind_bad, at_call, at_glo, at_fuel, SRes.back, List.getElem?_cons_zero, List.getElem?_cons_succ, List.set_cons_zero, List.set_cons_succ, asgT, asgTs, cmpV, truV, binV, bltV, tyN, tyLe, subV, Option.map_some, Option.map_none, List.any_cons, List.any_nil, if_true, if_false, ite_true, ite_false, String.reduceBEq, Nat.reduceAdd, Bool.or_false, Bool.false_or, Bool.or_true, Bool.true_or, Bool.and_true, Bool.true_and, Bool.and_false, Bool.false_and, Bool.not_true, Bool.not_false, beq_self_eq_true, decide_true, decide_false, reduceCtorEq, Bool.false_eq_true, Ev.keyOf, dctKeys, List.length_cons, List.length_nil, List.zip_cons_cons, List.zip_nil_left, List.zip_nil_right, List.foldl_cons, List.foldl_nil, methV, setV, isL, permL_cons, permL_nil, List.map_cons, List.map_nil, valP_cons, valP_nil, key_str, key_int, ofString_eq, String.reduceEq, putP, sizeLine_eq, Nat.reduceLT, Nat.reduceLeDiff, sto_self, mulOk, powOk, divOk, Int.reducePow, Nat.reducePow, Int.reduceNeg, Int.reduceLT, Int.reduceLE, natAbs64, natAbs30, Int.reduceToNat, Int.reduceEq, Int.reduceAdd, Int.reduceSub, Int.reduceMul, ne_eq, not_false_eq_true, Int.reduceNe, Ev.alloc, Ev.eq_ii, Ev.eq_ss, Ev.eq_bb, Ev.eq_nn, Ev.eq_ni, Ev.eq_in, Ev.eq_ns, Ev.eq_sn, Ev.eq_nb, Ev.eq_bn, Ev.eq_is, Ev.eq_si, and_self, true_and, and_true, fmod_lt64, fmod_gt64, atI_0, atI_1, atI_2, atI_3, atI_4, atI_5, atI_6, atI_7, atI_8, atI_9, itemsV, smV, fmtV, lenSetV, seqOf, lstOf, slcV, revV, srcOf, optI, List.nil_append, List.cons_append, sto_new, intsP, sortI, insI, compL, compG, wipeP, boolsP, List.all_cons, List.all_nil, id_eq, keep_nil, maxI, minI, intsP, cutf_1, cutf_2, cutf_3, cutf_4, cutt_1, cutt_2, cutt_3, cutt_4, List.drop_succ_cons, List.drop_zero, List.take_succ_cons, List.take_zero, Int.cast_ofNat_Int, false_and, and_false, or_self, or_false, false_or, true_or, or_true, lit_e, tS_len, tS_cat, tS_eq, tS_lt, List.toList_toArray, g_MOST_WORD, g_LETTERS, g_MOST_POOL, g_MOST_WEIGHT, g_MOST_TURNS, GC.pv]) (by rw [sizeLine_eq]; simp; omega)
  subst hc3
  have hr : List.filter (fun i => decide (Rdy (Get (ws P) i) (Get (cn P m) i) (tot P) m)) (List.range P.length) = ready (ws P) (cn P m) (tot P) m := by unfold ready; rw [wl]
  rw [hr]
  have hmem : tn P m ∈ ready (ws P) (cn P m) (tot P) m := mem_ready.mpr ⟨nx1.lt, nx1.rdy⟩
  have hmin := min_due nx1
  have hix := ix_ok nx1
  rw [wl] at hix
  have hlate : m + 1 ≤ Due (Get (ws P) (tn P m)) (Get (cn P m) (tn P m)) (tot P) := by
    have := g.late hw.hp hw.W0 nx1.lt
    rw [es] at this
    exact this
  obtain ⟨L, hL⟩ : ∃ L : List PV, L = (ready (ws P) (cn P m) (tot P) m).map fun i => iV (Due (Get (ws P) i) (Get (cn P m) i) (tot P)) := ⟨_, rfl⟩
  have hLi : intsP L = some ((ready (ws P) (cn P m) (tot P) m).map fun i => ((Due (Get (ws P) i) (Get (cn P m) i) (tot P) : Nat) : Int)) := by
    have := ints_iV ((ready (ws P) (cn P m) (tot P) m).map fun i => Due (Get (ws P) i) (Get (cn P m) i) (tot P))
    rw [List.map_map, List.map_map] at this
    rw [hL]; exact this
  have hLe : L.isEmpty = false := by
    rw [hL]
    cases q : ready (ws P) (cn P m) (tot P) m with
    | nil => rw [q] at hmem; cases hmem
    | cons _ _ => rfl
  have hLf : fines L = true ∧ PyData.depthAll (pds L) ≤ 63 := by
    rw [hL]
    constructor
    · refine fines_all fun x hx => ?_
      obtain ⟨i, hi, rfl⟩ := List.mem_map.mp hx
      have hi' := (mem_ready.mp hi).1
      have hi2 : i < (cn P m).length := by rw [g.len]; exact hi'
      have hcg : Get (cn P m) i ≤ m := by
        unfold Get
        rw [List.getD_eq_getElem?_getD, List.getElem?_eq_getElem hi2]
        exact cn_le hP m (List.getElem_mem hi2)
      have := due_bound (hw.get hi').1 (Nat.le_trans hcg hm) W8 (hw.get hi').2
      simp only [fine, decide_eq_true_eq]
      exact small (by omega) (by omega)
    · refine depths_all fun x hx => ?_
      obtain ⟨i, hi, rfl⟩ := List.mem_map.mp hx
      simp [pd, PyData.depth]
  rw [← hL]
  generalize (List.range P.length).map (bE (ws P) (cn P m) (tot P) m) = BL at h3 hix ⊢
  have en := eq_new_empty hLf.1 hLf.2 M'
  have h3a : (M' ++ [MO.lst L] ++ [MO.lst []])[B]? = some (.lst BL) := sto_app (sto_app h3)
  have h3b : (M' ++ [MO.lst L] ++ [MO.lst []])[M'.length]? = some (.lst L) := sto_app (sto_new _ _)
  have kk : Keep [] M (M' ++ [MO.lst L] ++ [MO.lst []]) := kM2.trans (Keep.app.trans Keep.app)
  by_cases hj : j = tn P m
  · subst hj
    have ej : (((tn P m : Nat) : Int) = ((tn P m : Nat) : Int)) = True := eq_true rfl
    have el : ((m : Int) + 1 ≤ ((Due (Get (ws P) (tn P m)) (Get (cn P m) (tn P m)) (tot P) : Nat) : Int)) = True := eq_true (by omega)
    simp only [↓evE.eq_1, ↓evE.eq_2, ↓evE.eq_3, ↓evE.eq_4, ↓evE.eq_5, ↓evE.eq_6, ↓evE.eq_7, ↓evE.eq_8, ↓evE.eq_9, ↓evE.eq_10, ↓evE.eq_11, ↓evE.eq_12, ↓evE.eq_13, ↓evE.eq_14, ↓evE.eq_15, ↓evE.eq_16, ↓evE.eq_17, ↓evE.eq_18, ↓evE.eq_19, ↓evE.eq_20, ↓evE.eq_21, ↓evE.eq_22, ↓evE.eq_23, ↓evE.eq_24, ↓evE.eq_25, ↓evE.eq_26, ↓evE.eq_27, ↓evE.eq_28, ↓evE.eq_29, ↓evE.eq_30, ↓evE.eq_31, ↓evE.eq_32, ↓evE.eq_33, ↓evE.eq_34, ↓evE.eq_35, ↓evE.eq_36, ↓evE.eq_37, ↓evE.eq_38, ↓evS.eq_1, ↓evS_seq, ↓evS.eq_3, ↓evS.eq_4, ↓evS.eq_5, ↓evS.eq_6, ↓evS.eq_7, ↓evS.eq_8, ↓evS_ite, ↓iteS, ↓evS.eq_11, ↓evS.eq_12, ↓evS.eq_13, ↓evS.eq_14, ↓evS.eq_15, ↓evS.eq_16, ↓evS.eq_17, ↓evS_for, ↓evA.eq_1, ↓evA.eq_2, ↓evT.eq_1, ↓evT.eq_2, ↓evO.eq_1, ↓evO.eq_2, ↓evI.eq_1, ↓evI.eq_2, ↓evI.eq_3, ↓evI.eq_4, ↓evI.eq_5, ↓evF.eq_1, ↓evF.eq_2, ↓m_bind, ↓m_then, ↓m_opt, SRes.bind_nx, SRes.bind_rt, SRes.bind_bk, SRes.bind_ct, SRes.bind_ex, SRes.bind_bad, at_call, at_glo, at_fuel, SRes.back, List.getElem?_cons_zero, List.getElem?_cons_succ, List.set_cons_zero, List.set_cons_succ, asgT, asgTs, cmpV, truV, binV, bltV, tyN, tyLe, subV, Option.map_some, Option.map_none, List.any_cons, List.any_nil, if_true, if_false, ite_true, ite_false, String.reduceBEq, Nat.reduceAdd, Bool.or_false, Bool.false_or, Bool.or_true, Bool.true_or, Bool.and_true, Bool.true_and, Bool.and_false, Bool.false_and, Bool.not_true, Bool.not_false, beq_self_eq_true, decide_true, decide_false, reduceCtorEq, Bool.false_eq_true, Ev.keyOf, dctKeys, List.length_cons, List.length_nil, List.zip_cons_cons, List.zip_nil_left, List.zip_nil_right, List.foldl_cons, List.foldl_nil, methV, setV, isL, permL_cons, permL_nil, List.map_cons, List.map_nil, valP_cons, valP_nil, key_str, key_int, ofString_eq, String.reduceEq, putP, sizeLine_eq, Nat.reduceLT, Nat.reduceLeDiff, sto_self, mulOk, powOk, divOk, Int.reducePow, Nat.reducePow, Int.reduceNeg, Int.reduceLT, Int.reduceLE, natAbs64, natAbs30, Int.reduceToNat, Int.reduceEq, Int.reduceAdd, Int.reduceSub, Int.reduceMul, ne_eq, not_false_eq_true, Int.reduceNe, Ev.alloc, Ev.eq_ii, Ev.eq_ss, Ev.eq_bb, Ev.eq_nn, Ev.eq_ni, Ev.eq_in, Ev.eq_ns, Ev.eq_sn, Ev.eq_nb, Ev.eq_bn, Ev.eq_is, Ev.eq_si, and_self, true_and, and_true, fmod_lt64, fmod_gt64, atI_0, atI_1, atI_2, atI_3, atI_4, atI_5, atI_6, atI_7, atI_8, atI_9, itemsV, smV, fmtV, lenSetV, seqOf, lstOf, slcV, revV, srcOf, optI, List.nil_append, List.cons_append, sto_new, intsP, sortI, insI, compL, compG, wipeP, boolsP, List.all_cons, List.all_nil, id_eq, keep_nil, maxI, minI, intsP, cutf_1, cutf_2, cutf_3, cutf_4, cutt_1, cutt_2, cutt_3, cutt_4, List.drop_succ_cons, List.drop_zero, List.take_succ_cons, List.take_zero, Int.cast_ofNat_Int, false_and, and_false, or_self, or_false, false_or, true_or, or_true, lit_e, tS_len, tS_cat, tS_eq, tS_lt, List.toList_toArray, g_MOST_WORD, g_LETTERS, g_MOST_POOL, g_MOST_WEIGHT, g_MOST_TURNS, GC.pv, en, hLe]
    generalize (M' ++ [MO.lst L] ++ [MO.lst []]) = M4 at h3a h3b kk ⊢
    simp only [↓evE.eq_1, ↓evE.eq_2, ↓evE.eq_3, ↓evE.eq_4, ↓evE.eq_5, ↓evE.eq_6, ↓evE.eq_7, ↓evE.eq_8, ↓evE.eq_9, ↓evE.eq_10, ↓evE.eq_11, ↓evE.eq_12, ↓evE.eq_13, ↓evE.eq_14, ↓evE.eq_15, ↓evE.eq_16, ↓evE.eq_17, ↓evE.eq_18, ↓evE.eq_19, ↓evE.eq_20, ↓evE.eq_21, ↓evE.eq_22, ↓evE.eq_23, ↓evE.eq_24, ↓evE.eq_25, ↓evE.eq_26, ↓evE.eq_27, ↓evE.eq_28, ↓evE.eq_29, ↓evE.eq_30, ↓evE.eq_31, ↓evE.eq_32, ↓evE.eq_33, ↓evE.eq_34, ↓evE.eq_35, ↓evE.eq_36, ↓evE.eq_37, ↓evE.eq_38, ↓evS.eq_1, ↓evS_seq, ↓evS.eq_3, ↓evS.eq_4, ↓evS.eq_5, ↓evS.eq_6, ↓evS.eq_7, ↓evS.eq_8, ↓evS_ite, ↓iteS, ↓evS.eq_11, ↓evS.eq_12, ↓evS.eq_13, ↓evS.eq_14, ↓evS.eq_15, ↓evS.eq_16, ↓evS.eq_17, ↓evS_for, ↓evA.eq_1, ↓evA.eq_2, ↓evT.eq_1, ↓evT.eq_2, ↓evO.eq_1, ↓evO.eq_2, ↓evI.eq_1, ↓evI.eq_2, ↓evI.eq_3, ↓evI.eq_4, ↓evI.eq_5, ↓evF.eq_1, ↓evF.eq_2, ↓m_bind, ↓m_then, ↓m_opt, SRes.bind_nx, SRes.bind_rt, SRes.bind_bk, SRes.bind_ct, SRes.bind_ex, SRes.bind_bad, at_call, at_glo, at_fuel, SRes.back, List.getElem?_cons_zero, List.getElem?_cons_succ, List.set_cons_zero, List.set_cons_succ, asgT, asgTs, cmpV, truV, binV, bltV, tyN, tyLe, subV, Option.map_some, Option.map_none, List.any_cons, List.any_nil, if_true, if_false, ite_true, ite_false, String.reduceBEq, Nat.reduceAdd, Bool.or_false, Bool.false_or, Bool.or_true, Bool.true_or, Bool.and_true, Bool.true_and, Bool.and_false, Bool.false_and, Bool.not_true, Bool.not_false, beq_self_eq_true, decide_true, decide_false, reduceCtorEq, Bool.false_eq_true, Ev.keyOf, dctKeys, List.length_cons, List.length_nil, List.zip_cons_cons, List.zip_nil_left, List.zip_nil_right, List.foldl_cons, List.foldl_nil, methV, setV, isL, permL_cons, permL_nil, List.map_cons, List.map_nil, valP_cons, valP_nil, key_str, key_int, ofString_eq, String.reduceEq, putP, sizeLine_eq, Nat.reduceLT, Nat.reduceLeDiff, sto_self, mulOk, powOk, divOk, Int.reducePow, Nat.reducePow, Int.reduceNeg, Int.reduceLT, Int.reduceLE, natAbs64, natAbs30, Int.reduceToNat, Int.reduceEq, Int.reduceAdd, Int.reduceSub, Int.reduceMul, ne_eq, not_false_eq_true, Int.reduceNe, Ev.alloc, Ev.eq_ii, Ev.eq_ss, Ev.eq_bb, Ev.eq_nn, Ev.eq_ni, Ev.eq_in, Ev.eq_ns, Ev.eq_sn, Ev.eq_nb, Ev.eq_bn, Ev.eq_is, Ev.eq_si, and_self, true_and, and_true, fmod_lt64, fmod_gt64, atI_0, atI_1, atI_2, atI_3, atI_4, atI_5, atI_6, atI_7, atI_8, atI_9, itemsV, smV, fmtV, lenSetV, seqOf, lstOf, slcV, revV, srcOf, optI, List.nil_append, List.cons_append, sto_new, intsP, sortI, insI, compL, compG, wipeP, boolsP, List.all_cons, List.all_nil, id_eq, keep_nil, maxI, minI, intsP, cutf_1, cutf_2, cutf_3, cutf_4, cutt_1, cutt_2, cutt_3, cutt_4, List.drop_succ_cons, List.drop_zero, List.take_succ_cons, List.take_zero, Int.cast_ofNat_Int, false_and, and_false, or_self, or_false, false_or, true_or, or_true, lit_e, tS_len, tS_cat, tS_eq, tS_lt, List.toList_toArray, g_MOST_WORD, g_LETTERS, g_MOST_POOL, g_MOST_WEIGHT, g_MOST_TURNS, GC.pv, h3a, h3b, hLi, hmin, hix, el]
    exact ⟨_, rfl, kk⟩
  · have ej : ((j : Int) = ((tn P m : Nat) : Int)) = False := eq_false (by omega)
    have ed : decide (j = tn P m) = false := decide_eq_false hj
    simp only [↓evE.eq_1, ↓evE.eq_2, ↓evE.eq_3, ↓evE.eq_4, ↓evE.eq_5, ↓evE.eq_6, ↓evE.eq_7, ↓evE.eq_8, ↓evE.eq_9, ↓evE.eq_10, ↓evE.eq_11, ↓evE.eq_12, ↓evE.eq_13, ↓evE.eq_14, ↓evE.eq_15, ↓evE.eq_16, ↓evE.eq_17, ↓evE.eq_18, ↓evE.eq_19, ↓evE.eq_20, ↓evE.eq_21, ↓evE.eq_22, ↓evE.eq_23, ↓evE.eq_24, ↓evE.eq_25, ↓evE.eq_26, ↓evE.eq_27, ↓evE.eq_28, ↓evE.eq_29, ↓evE.eq_30, ↓evE.eq_31, ↓evE.eq_32, ↓evE.eq_33, ↓evE.eq_34, ↓evE.eq_35, ↓evE.eq_36, ↓evE.eq_37, ↓evE.eq_38, ↓evS.eq_1, ↓evS_seq, ↓evS.eq_3, ↓evS.eq_4, ↓evS.eq_5, ↓evS.eq_6, ↓evS.eq_7, ↓evS.eq_8, ↓evS_ite, ↓iteS, ↓evS.eq_11, ↓evS.eq_12, ↓evS.eq_13, ↓evS.eq_14, ↓evS.eq_15, ↓evS.eq_16, ↓evS.eq_17, ↓evS_for, ↓evA.eq_1, ↓evA.eq_2, ↓evT.eq_1, ↓evT.eq_2, ↓evO.eq_1, ↓evO.eq_2, ↓evI.eq_1, ↓evI.eq_2, ↓evI.eq_3, ↓evI.eq_4, ↓evI.eq_5, ↓evF.eq_1, ↓evF.eq_2, ↓m_bind, ↓m_then, ↓m_opt, SRes.bind_nx, SRes.bind_rt, SRes.bind_bk, SRes.bind_ct, SRes.bind_ex, SRes.bind_bad, at_call, at_glo, at_fuel, SRes.back, List.getElem?_cons_zero, List.getElem?_cons_succ, List.set_cons_zero, List.set_cons_succ, asgT, asgTs, cmpV, truV, binV, bltV, tyN, tyLe, subV, Option.map_some, Option.map_none, List.any_cons, List.any_nil, if_true, if_false, ite_true, ite_false, String.reduceBEq, Nat.reduceAdd, Bool.or_false, Bool.false_or, Bool.or_true, Bool.true_or, Bool.and_true, Bool.true_and, Bool.and_false, Bool.false_and, Bool.not_true, Bool.not_false, beq_self_eq_true, decide_true, decide_false, reduceCtorEq, Bool.false_eq_true, Ev.keyOf, dctKeys, List.length_cons, List.length_nil, List.zip_cons_cons, List.zip_nil_left, List.zip_nil_right, List.foldl_cons, List.foldl_nil, methV, setV, isL, permL_cons, permL_nil, List.map_cons, List.map_nil, valP_cons, valP_nil, key_str, key_int, ofString_eq, String.reduceEq, putP, sizeLine_eq, Nat.reduceLT, Nat.reduceLeDiff, sto_self, mulOk, powOk, divOk, Int.reducePow, Nat.reducePow, Int.reduceNeg, Int.reduceLT, Int.reduceLE, natAbs64, natAbs30, Int.reduceToNat, Int.reduceEq, Int.reduceAdd, Int.reduceSub, Int.reduceMul, ne_eq, not_false_eq_true, Int.reduceNe, Ev.alloc, Ev.eq_ii, Ev.eq_ss, Ev.eq_bb, Ev.eq_nn, Ev.eq_ni, Ev.eq_in, Ev.eq_ns, Ev.eq_sn, Ev.eq_nb, Ev.eq_bn, Ev.eq_is, Ev.eq_si, and_self, true_and, and_true, fmod_lt64, fmod_gt64, atI_0, atI_1, atI_2, atI_3, atI_4, atI_5, atI_6, atI_7, atI_8, atI_9, itemsV, smV, fmtV, lenSetV, seqOf, lstOf, slcV, revV, srcOf, optI, List.nil_append, List.cons_append, sto_new, intsP, sortI, insI, compL, compG, wipeP, boolsP, List.all_cons, List.all_nil, id_eq, keep_nil, maxI, minI, intsP, cutf_1, cutf_2, cutf_3, cutf_4, cutt_1, cutt_2, cutt_3, cutt_4, List.drop_succ_cons, List.drop_zero, List.take_succ_cons, List.take_zero, Int.cast_ofNat_Int, false_and, and_false, or_self, or_false, false_or, true_or, or_true, lit_e, tS_len, tS_cat, tS_eq, tS_lt, List.toList_toArray, g_MOST_WORD, g_LETTERS, g_MOST_POOL, g_MOST_WEIGHT, g_MOST_TURNS, GC.pv, en, hLe]
    generalize (M' ++ [MO.lst L] ++ [MO.lst []]) = M4 at h3a h3b kk ⊢
    simp only [↓evE.eq_1, ↓evE.eq_2, ↓evE.eq_3, ↓evE.eq_4, ↓evE.eq_5, ↓evE.eq_6, ↓evE.eq_7, ↓evE.eq_8, ↓evE.eq_9, ↓evE.eq_10, ↓evE.eq_11, ↓evE.eq_12, ↓evE.eq_13, ↓evE.eq_14, ↓evE.eq_15, ↓evE.eq_16, ↓evE.eq_17, ↓evE.eq_18, ↓evE.eq_19, ↓evE.eq_20, ↓evE.eq_21, ↓evE.eq_22, ↓evE.eq_23, ↓evE.eq_24, ↓evE.eq_25, ↓evE.eq_26, ↓evE.eq_27, ↓evE.eq_28, ↓evE.eq_29, ↓evE.eq_30, ↓evE.eq_31, ↓evE.eq_32, ↓evE.eq_33, ↓evE.eq_34, ↓evE.eq_35, ↓evE.eq_36, ↓evE.eq_37, ↓evE.eq_38, ↓evS.eq_1, ↓evS_seq, ↓evS.eq_3, ↓evS.eq_4, ↓evS.eq_5, ↓evS.eq_6, ↓evS.eq_7, ↓evS.eq_8, ↓evS_ite, ↓iteS, ↓evS.eq_11, ↓evS.eq_12, ↓evS.eq_13, ↓evS.eq_14, ↓evS.eq_15, ↓evS.eq_16, ↓evS.eq_17, ↓evS_for, ↓evA.eq_1, ↓evA.eq_2, ↓evT.eq_1, ↓evT.eq_2, ↓evO.eq_1, ↓evO.eq_2, ↓evI.eq_1, ↓evI.eq_2, ↓evI.eq_3, ↓evI.eq_4, ↓evI.eq_5, ↓evF.eq_1, ↓evF.eq_2, ↓m_bind, ↓m_then, ↓m_opt, SRes.bind_nx, SRes.bind_rt, SRes.bind_bk, SRes.bind_ct, SRes.bind_ex, SRes.bind_bad, at_call, at_glo, at_fuel, SRes.back, List.getElem?_cons_zero, List.getElem?_cons_succ, List.set_cons_zero, List.set_cons_succ, asgT, asgTs, cmpV, truV, binV, bltV, tyN, tyLe, subV, Option.map_some, Option.map_none, List.any_cons, List.any_nil, if_true, if_false, ite_true, ite_false, String.reduceBEq, Nat.reduceAdd, Bool.or_false, Bool.false_or, Bool.or_true, Bool.true_or, Bool.and_true, Bool.true_and, Bool.and_false, Bool.false_and, Bool.not_true, Bool.not_false, beq_self_eq_true, decide_true, decide_false, reduceCtorEq, Bool.false_eq_true, Ev.keyOf, dctKeys, List.length_cons, List.length_nil, List.zip_cons_cons, List.zip_nil_left, List.zip_nil_right, List.foldl_cons, List.foldl_nil, methV, setV, isL, permL_cons, permL_nil, List.map_cons, List.map_nil, valP_cons, valP_nil, key_str, key_int, ofString_eq, String.reduceEq, putP, sizeLine_eq, Nat.reduceLT, Nat.reduceLeDiff, sto_self, mulOk, powOk, divOk, Int.reducePow, Nat.reducePow, Int.reduceNeg, Int.reduceLT, Int.reduceLE, natAbs64, natAbs30, Int.reduceToNat, Int.reduceEq, Int.reduceAdd, Int.reduceSub, Int.reduceMul, ne_eq, not_false_eq_true, Int.reduceNe, Ev.alloc, Ev.eq_ii, Ev.eq_ss, Ev.eq_bb, Ev.eq_nn, Ev.eq_ni, Ev.eq_in, Ev.eq_ns, Ev.eq_sn, Ev.eq_nb, Ev.eq_bn, Ev.eq_is, Ev.eq_si, and_self, true_and, and_true, fmod_lt64, fmod_gt64, atI_0, atI_1, atI_2, atI_3, atI_4, atI_5, atI_6, atI_7, atI_8, atI_9, itemsV, smV, fmtV, lenSetV, seqOf, lstOf, slcV, revV, srcOf, optI, List.nil_append, List.cons_append, sto_new, intsP, sortI, insI, compL, compG, wipeP, boolsP, List.all_cons, List.all_nil, id_eq, keep_nil, maxI, minI, intsP, cutf_1, cutf_2, cutf_3, cutf_4, cutt_1, cutt_2, cutt_3, cutt_4, List.drop_succ_cons, List.drop_zero, List.take_succ_cons, List.take_zero, Int.cast_ofNat_Int, false_and, and_false, or_self, or_false, false_or, true_or, or_true, lit_e, tS_len, tS_cat, tS_eq, tS_lt, List.toList_toArray, g_MOST_WORD, g_LETTERS, g_MOST_POOL, g_MOST_WEIGHT, g_MOST_TURNS, GC.pv, h3a, h3b, hLi, hmin, hix, ej, ed]
    exact ⟨_, rfl, kk⟩
end K18

set_option Elab.async false
set_option linter.all false
set_option maxRecDepth 100000
set_option maxHeartbeats 4000000
/-! K18x: the shares; pools as drawn. -/
namespace K18
open PySem L2 Ev
theorem zip_pool {P : Pool} {c : List Nat} (h : c.length = P.length) : zipP (P.map eV) (c.map iV) = (List.range' 0 P.length).map fun i => .tup [eV (P.getD i ([], 0)), iV (Get c i)] := by
  unfold zipP
  refine List.ext_getElem (by simp [h]) fun i h1 h2 => ?_
  have hi : i < P.length := by simpa using h2
  have hi2 : i < c.length := by omega
  simp [List.getElem_range', hi, Get, hi2]
theorem is_share_ok (n : Nat) (M : Sto) {P : Pool} (hP : IsPool P) {m k : Nat} {ti : Int} (hti : ti = (m : Nat)) (hm : m ≤ 4000) (hk : M[k]? = some (.lst ((cn P m).map iV))) :
    ∃ M', callN T (n + 1) "_law_is_share" [pV P, .ref k, .int ti] M = .ok (.bl true) M' ∧ Keep [] M M' := by
  have hw := isW hP
  have p1 := hP.pos
  have p2 := hP.le
  have W8 := hw.W800
  have W0 := hw.W0
  obtain ⟨g, es⟩ := cnt_good hw.hp hw.sum hw.W0 m
  have wl := ws_len P
  obtain ⟨Wi, hWi⟩ : ∃ Wi : Int, Wi = (tot P : Nat) := ⟨_, rfl⟩
  have sm : ((ws P).map fun x : Nat => (x : Int)).sum = Wi := by rw [sum_cast, hWi]; rfl
  rw [e__law_is_share]
  unfold c__law_is_share
  simp only [↓evE.eq_1, ↓evE.eq_2, ↓evE.eq_3, ↓evE.eq_4, ↓evE.eq_5, ↓evE.eq_6, ↓evE.eq_7, ↓evE.eq_8, ↓evE.eq_9, ↓evE.eq_10, ↓evE.eq_11, ↓evE.eq_12, ↓evE.eq_13, ↓evE.eq_14, ↓evE.eq_15, ↓evE.eq_16, ↓evE.eq_17, ↓evE.eq_18, ↓evE.eq_19, ↓evE.eq_20, ↓evE.eq_21, ↓evE.eq_22, ↓evE.eq_23, ↓evE.eq_24, ↓evE.eq_25, ↓evE.eq_26, ↓evE.eq_27, ↓evE.eq_28, ↓evE.eq_29, ↓evE.eq_30, ↓evE.eq_31, ↓evE.eq_32, ↓evE.eq_33, ↓evE.eq_34, ↓evE.eq_35, ↓evE.eq_36, ↓evE.eq_37, ↓evE.eq_38, ↓evS.eq_1, ↓evS_seq, ↓evS.eq_3, ↓evS.eq_4, ↓evS.eq_5, ↓evS.eq_6, ↓evS.eq_7, ↓evS.eq_8, ↓evS_ite, ↓iteS, ↓evS.eq_11, ↓evS.eq_12, ↓evS.eq_13, ↓evS.eq_14, ↓evS.eq_15, ↓evS.eq_16, ↓evS.eq_17, ↓evS_for, ↓evA.eq_1, ↓evA.eq_2, ↓evT.eq_1, ↓evT.eq_2, ↓evO.eq_1, ↓evO.eq_2, ↓evI.eq_1, ↓evI.eq_2, ↓evI.eq_3, ↓evI.eq_4, ↓evI.eq_5, ↓evF.eq_1, ↓evF.eq_2, ↓m_bind, ↓m_then, ↓m_opt, SRes.bind_nx, SRes.bind_rt, SRes.bind_bk, SRes.bind_ct, SRes.bind_ex, SRes.bind_bad, at_call, at_glo, at_fuel, SRes.back, List.getElem?_cons_zero, List.getElem?_cons_succ, List.set_cons_zero, List.set_cons_succ, asgT, asgTs, cmpV, truV, binV, bltV, tyN, tyLe, subV, Option.map_some, Option.map_none, List.any_cons, List.any_nil, if_true, if_false, ite_true, ite_false, String.reduceBEq, Nat.reduceAdd, Bool.or_false, Bool.false_or, Bool.or_true, Bool.true_or, Bool.and_true, Bool.true_and, Bool.and_false, Bool.false_and, Bool.not_true, Bool.not_false, beq_self_eq_true, decide_true, decide_false, reduceCtorEq, Bool.false_eq_true, Ev.keyOf, dctKeys, List.length_cons, List.length_nil, List.zip_cons_cons, List.zip_nil_left, List.zip_nil_right, List.foldl_cons, List.foldl_nil, methV, setV, isL, permL_cons, permL_nil, List.map_cons, List.map_nil, valP_cons, valP_nil, key_str, key_int, ofString_eq, String.reduceEq, putP, sizeLine_eq, Nat.reduceLT, Nat.reduceLeDiff, sto_self, mulOk, powOk, divOk, Int.reducePow, Nat.reducePow, Int.reduceNeg, Int.reduceLT, Int.reduceLE, natAbs64, natAbs30, Int.reduceToNat, Int.reduceEq, Int.reduceAdd, Int.reduceSub, Int.reduceMul, ne_eq, not_false_eq_true, Int.reduceNe, Ev.alloc, Ev.eq_ii, Ev.eq_ss, Ev.eq_bb, Ev.eq_nn, Ev.eq_ni, Ev.eq_in, Ev.eq_ns, Ev.eq_sn, Ev.eq_nb, Ev.eq_bn, Ev.eq_is, Ev.eq_si, and_self, true_and, and_true, fmod_lt64, fmod_gt64, atI_0, atI_1, atI_2, atI_3, atI_4, atI_5, atI_6, atI_7, atI_8, atI_9, itemsV, smV, fmtV, lenSetV, seqOf, lstOf, slcV, revV, srcOf, optI, List.nil_append, List.cons_append, sto_new, intsP, sortI, insI, compL, compG, wipeP, boolsP, List.all_cons, List.all_nil, id_eq, keep_nil, maxI, minI, intsP, cutf_1, cutf_2, cutf_3, cutf_4, cutt_1, cutt_2, cutt_3, cutt_4, List.drop_succ_cons, List.drop_zero, List.take_succ_cons, List.take_zero, Int.cast_ofNat_Int, false_and, and_false, or_self, or_false, false_or, true_or, or_true, lit_e, tS_len, tS_cat, tS_eq, tS_lt, List.toList_toArray, g_MOST_WORD, g_LETTERS, g_MOST_POOL, g_MOST_WEIGHT, g_MOST_TURNS, GC.pv]
  generalize hz : compL _ _ _ _ _ = z
  have hc := comp_map P eV (fun p => iV p.2) hz (keep_nil _) (fun p hp => by simp only [↓evE.eq_1, ↓evE.eq_2, ↓evE.eq_3, ↓evE.eq_4, ↓evE.eq_5, ↓evE.eq_6, ↓evE.eq_7, ↓evE.eq_8, ↓evE.eq_9, ↓evE.eq_10, ↓evE.eq_11, ↓evE.eq_12, ↓evE.eq_13, ↓evE.eq_14, ↓evE.eq_15, ↓evE.eq_16, ↓evE.eq_17, ↓evE.eq_18, ↓evE.eq_19, ↓evE.eq_20, ↓evE.eq_21, ↓evE.eq_22, ↓evE.eq_23, ↓evE.eq_24, ↓evE.eq_25, ↓evE.eq_26, ↓evE.eq_27, ↓evE.eq_28, ↓evE.eq_29, ↓evE.eq_30, ↓evE.eq_31, ↓evE.eq_32, ↓evE.eq_33, ↓evE.eq_34, ↓evE.eq_35, ↓evE.eq_36, ↓evE.eq_37, ↓evE.eq_38, ↓evS.eq_1, ↓evS_seq, ↓evS.eq_3, ↓evS.eq_4, ↓evS.eq_5, ↓evS.eq_6, ↓evS.eq_7, ↓evS.eq_8, ↓evS_ite, ↓iteS, ↓evS.eq_11, ↓evS.eq_12, ↓evS.eq_13, ↓evS.eq_14, ↓evS.eq_15, ↓evS.eq_16, ↓evS.eq_17, ↓evS_for, ↓evA.eq_1, ↓evA.eq_2, ↓evT.eq_1, ↓evT.eq_2, ↓evO.eq_1, ↓evO.eq_2, ↓evI.eq_1, ↓evI.eq_2, ↓evI.eq_3, ↓evI.eq_4, ↓evI.eq_5, ↓evF.eq_1, ↓evF.eq_2, ↓m_bind, ↓m_then, ↓m_opt, SRes.bind_nx, SRes.bind_rt, SRes.bind_bk, SRes.bind_ct, SRes.bind_ex, SRes.bind_bad, at_call, at_glo, at_fuel, SRes.back, List.getElem?_cons_zero, List.getElem?_cons_succ, List.set_cons_zero, List.set_cons_succ, asgT, asgTs, cmpV, truV, binV, bltV, tyN, tyLe, subV, Option.map_some, Option.map_none, List.any_cons, List.any_nil, if_true, if_false, ite_true, ite_false, String.reduceBEq, Nat.reduceAdd, Bool.or_false, Bool.false_or, Bool.or_true, Bool.true_or, Bool.and_true, Bool.true_and, Bool.and_false, Bool.false_and, Bool.not_true, Bool.not_false, beq_self_eq_true, decide_true, decide_false, reduceCtorEq, Bool.false_eq_true, Ev.keyOf, dctKeys, List.length_cons, List.length_nil, List.zip_cons_cons, List.zip_nil_left, List.zip_nil_right, List.foldl_cons, List.foldl_nil, methV, setV, isL, permL_cons, permL_nil, List.map_cons, List.map_nil, valP_cons, valP_nil, key_str, key_int, ofString_eq, String.reduceEq, putP, sizeLine_eq, Nat.reduceLT, Nat.reduceLeDiff, sto_self, mulOk, powOk, divOk, Int.reducePow, Nat.reducePow, Int.reduceNeg, Int.reduceLT, Int.reduceLE, natAbs64, natAbs30, Int.reduceToNat, Int.reduceEq, Int.reduceAdd, Int.reduceSub, Int.reduceMul, ne_eq, not_false_eq_true, Int.reduceNe, Ev.alloc, Ev.eq_ii, Ev.eq_ss, Ev.eq_bb, Ev.eq_nn, Ev.eq_ni, Ev.eq_in, Ev.eq_ns, Ev.eq_sn, Ev.eq_nb, Ev.eq_bn, Ev.eq_is, Ev.eq_si, and_self, true_and, and_true, fmod_lt64, fmod_gt64, atI_0, atI_1, atI_2, atI_3, atI_4, atI_5, atI_6, atI_7, atI_8, atI_9, itemsV, smV, fmtV, lenSetV, seqOf, lstOf, slcV, revV, srcOf, optI, List.nil_append, List.cons_append, sto_new, intsP, sortI, insI, compL, compG, wipeP, boolsP, List.all_cons, List.all_nil, id_eq, keep_nil, maxI, minI, intsP, cutf_1, cutf_2, cutf_3, cutf_4, cutt_1, cutt_2, cutt_3, cutt_4, List.drop_succ_cons, List.drop_zero, List.take_succ_cons, List.take_zero, Int.cast_ofNat_Int, false_and, and_false, or_self, or_false, false_or, true_or, or_true, lit_e, tS_len, tS_cat, tS_eq, tS_lt, List.toList_toArray, g_MOST_WORD, g_LETTERS, g_MOST_POOL, g_MOST_WEIGHT, g_MOST_TURNS, GC.pv]) (by rw [sizeLine_eq]; omega)
  subst hc
  have hk1 : (M ++ [MO.lst (P.map fun p => iV p.2)])[k]? = some (.lst ((cn P m).map iV)) := sto_app hk
  have hnew := sto_new M (.lst (P.map fun p => iV p.2))
  have kM : Keep [] M (M ++ [MO.lst (P.map fun p => iV p.2)]) := Keep.app
  simp only [↓evE.eq_1, ↓evE.eq_2, ↓evE.eq_3, ↓evE.eq_4, ↓evE.eq_5, ↓evE.eq_6, ↓evE.eq_7, ↓evE.eq_8, ↓evE.eq_9, ↓evE.eq_10, ↓evE.eq_11, ↓evE.eq_12, ↓evE.eq_13, ↓evE.eq_14, ↓evE.eq_15, ↓evE.eq_16, ↓evE.eq_17, ↓evE.eq_18, ↓evE.eq_19, ↓evE.eq_20, ↓evE.eq_21, ↓evE.eq_22, ↓evE.eq_23, ↓evE.eq_24, ↓evE.eq_25, ↓evE.eq_26, ↓evE.eq_27, ↓evE.eq_28, ↓evE.eq_29, ↓evE.eq_30, ↓evE.eq_31, ↓evE.eq_32, ↓evE.eq_33, ↓evE.eq_34, ↓evE.eq_35, ↓evE.eq_36, ↓evE.eq_37, ↓evE.eq_38, ↓evS.eq_1, ↓evS_seq, ↓evS.eq_3, ↓evS.eq_4, ↓evS.eq_5, ↓evS.eq_6, ↓evS.eq_7, ↓evS.eq_8, ↓evS_ite, ↓iteS, ↓evS.eq_11, ↓evS.eq_12, ↓evS.eq_13, ↓evS.eq_14, ↓evS.eq_15, ↓evS.eq_16, ↓evS.eq_17, ↓evS_for, ↓evA.eq_1, ↓evA.eq_2, ↓evT.eq_1, ↓evT.eq_2, ↓evO.eq_1, ↓evO.eq_2, ↓evI.eq_1, ↓evI.eq_2, ↓evI.eq_3, ↓evI.eq_4, ↓evI.eq_5, ↓evF.eq_1, ↓evF.eq_2, ↓m_bind, ↓m_then, ↓m_opt, SRes.bind_nx, SRes.bind_rt, SRes.bind_bk, SRes.bind_ct, SRes.bind_ex, SRes.bind_bad, at_call, at_glo, at_fuel, SRes.back, List.getElem?_cons_zero, List.getElem?_cons_succ, List.set_cons_zero, List.set_cons_succ, asgT, asgTs, cmpV, truV, binV, bltV, tyN, tyLe, subV, Option.map_some, Option.map_none, List.any_cons, List.any_nil, if_true, if_false, ite_true, ite_false, String.reduceBEq, Nat.reduceAdd, Bool.or_false, Bool.false_or, Bool.or_true, Bool.true_or, Bool.and_true, Bool.true_and, Bool.and_false, Bool.false_and, Bool.not_true, Bool.not_false, beq_self_eq_true, decide_true, decide_false, reduceCtorEq, Bool.false_eq_true, Ev.keyOf, dctKeys, List.length_cons, List.length_nil, List.zip_cons_cons, List.zip_nil_left, List.zip_nil_right, List.foldl_cons, List.foldl_nil, methV, setV, isL, permL_cons, permL_nil, List.map_cons, List.map_nil, valP_cons, valP_nil, key_str, key_int, ofString_eq, String.reduceEq, putP, sizeLine_eq, Nat.reduceLT, Nat.reduceLeDiff, sto_self, mulOk, powOk, divOk, Int.reducePow, Nat.reducePow, Int.reduceNeg, Int.reduceLT, Int.reduceLE, natAbs64, natAbs30, Int.reduceToNat, Int.reduceEq, Int.reduceAdd, Int.reduceSub, Int.reduceMul, ne_eq, not_false_eq_true, Int.reduceNe, Ev.alloc, Ev.eq_ii, Ev.eq_ss, Ev.eq_bb, Ev.eq_nn, Ev.eq_ni, Ev.eq_in, Ev.eq_ns, Ev.eq_sn, Ev.eq_nb, Ev.eq_bn, Ev.eq_is, Ev.eq_si, and_self, true_and, and_true, fmod_lt64, fmod_gt64, atI_0, atI_1, atI_2, atI_3, atI_4, atI_5, atI_6, atI_7, atI_8, atI_9, itemsV, smV, fmtV, lenSetV, seqOf, lstOf, slcV, revV, srcOf, optI, List.nil_append, List.cons_append, sto_new, intsP, sortI, insI, compL, compG, wipeP, boolsP, List.all_cons, List.all_nil, id_eq, keep_nil, maxI, minI, intsP, cutf_1, cutf_2, cutf_3, cutf_4, cutt_1, cutt_2, cutt_3, cutt_4, List.drop_succ_cons, List.drop_zero, List.take_succ_cons, List.take_zero, Int.cast_ofNat_Int, false_and, and_false, or_self, or_false, false_or, true_or, or_true, lit_e, tS_len, tS_cat, tS_eq, tS_lt, List.toList_toArray, g_MOST_WORD, g_LETTERS, g_MOST_POOL, g_MOST_WEIGHT, g_MOST_TURNS, GC.pv, hnew, ints_ws, sm]
  generalize M ++ [MO.lst (P.map fun p => iV p.2)] = M1 at hk1 kM ⊢
  simp only [↓evE.eq_1, ↓evE.eq_2, ↓evE.eq_3, ↓evE.eq_4, ↓evE.eq_5, ↓evE.eq_6, ↓evE.eq_7, ↓evE.eq_8, ↓evE.eq_9, ↓evE.eq_10, ↓evE.eq_11, ↓evE.eq_12, ↓evE.eq_13, ↓evE.eq_14, ↓evE.eq_15, ↓evE.eq_16, ↓evE.eq_17, ↓evE.eq_18, ↓evE.eq_19, ↓evE.eq_20, ↓evE.eq_21, ↓evE.eq_22, ↓evE.eq_23, ↓evE.eq_24, ↓evE.eq_25, ↓evE.eq_26, ↓evE.eq_27, ↓evE.eq_28, ↓evE.eq_29, ↓evE.eq_30, ↓evE.eq_31, ↓evE.eq_32, ↓evE.eq_33, ↓evE.eq_34, ↓evE.eq_35, ↓evE.eq_36, ↓evE.eq_37, ↓evE.eq_38, ↓evS.eq_1, ↓evS_seq, ↓evS.eq_3, ↓evS.eq_4, ↓evS.eq_5, ↓evS.eq_6, ↓evS.eq_7, ↓evS.eq_8, ↓evS_ite, ↓iteS, ↓evS.eq_11, ↓evS.eq_12, ↓evS.eq_13, ↓evS.eq_14, ↓evS.eq_15, ↓evS.eq_16, ↓evS.eq_17, ↓evS_for, ↓evA.eq_1, ↓evA.eq_2, ↓evT.eq_1, ↓evT.eq_2, ↓evO.eq_1, ↓evO.eq_2, ↓evI.eq_1, ↓evI.eq_2, ↓evI.eq_3, ↓evI.eq_4, ↓evI.eq_5, ↓evF.eq_1, ↓evF.eq_2, ↓m_bind, ↓m_then, ↓m_opt, SRes.bind_nx, SRes.bind_rt, SRes.bind_bk, SRes.bind_ct, SRes.bind_ex, SRes.bind_bad, at_call, at_glo, at_fuel, SRes.back, List.getElem?_cons_zero, List.getElem?_cons_succ, List.set_cons_zero, List.set_cons_succ, asgT, asgTs, cmpV, truV, binV, bltV, tyN, tyLe, subV, Option.map_some, Option.map_none, List.any_cons, List.any_nil, if_true, if_false, ite_true, ite_false, String.reduceBEq, Nat.reduceAdd, Bool.or_false, Bool.false_or, Bool.or_true, Bool.true_or, Bool.and_true, Bool.true_and, Bool.and_false, Bool.false_and, Bool.not_true, Bool.not_false, beq_self_eq_true, decide_true, decide_false, reduceCtorEq, Bool.false_eq_true, Ev.keyOf, dctKeys, List.length_cons, List.length_nil, List.zip_cons_cons, List.zip_nil_left, List.zip_nil_right, List.foldl_cons, List.foldl_nil, methV, setV, isL, permL_cons, permL_nil, List.map_cons, List.map_nil, valP_cons, valP_nil, key_str, key_int, ofString_eq, String.reduceEq, putP, sizeLine_eq, Nat.reduceLT, Nat.reduceLeDiff, sto_self, mulOk, powOk, divOk, Int.reducePow, Nat.reducePow, Int.reduceNeg, Int.reduceLT, Int.reduceLE, natAbs64, natAbs30, Int.reduceToNat, Int.reduceEq, Int.reduceAdd, Int.reduceSub, Int.reduceMul, ne_eq, not_false_eq_true, Int.reduceNe, Ev.alloc, Ev.eq_ii, Ev.eq_ss, Ev.eq_bb, Ev.eq_nn, Ev.eq_ni, Ev.eq_in, Ev.eq_ns, Ev.eq_sn, Ev.eq_nb, Ev.eq_bn, Ev.eq_is, Ev.eq_si, and_self, true_and, and_true, fmod_lt64, fmod_gt64, atI_0, atI_1, atI_2, atI_3, atI_4, atI_5, atI_6, atI_7, atI_8, atI_9, itemsV, smV, fmtV, lenSetV, seqOf, lstOf, slcV, revV, srcOf, optI, List.nil_append, List.cons_append, sto_new, intsP, sortI, insI, compL, compG, wipeP, boolsP, List.all_cons, List.all_nil, id_eq, keep_nil, maxI, minI, intsP, cutf_1, cutf_2, cutf_3, cutf_4, cutt_1, cutt_2, cutt_3, cutt_4, List.drop_succ_cons, List.drop_zero, List.take_succ_cons, List.take_zero, Int.cast_ofNat_Int, false_and, and_false, or_self, or_false, false_or, true_or, or_true, lit_e, tS_len, tS_cat, tS_eq, tS_lt, List.toList_toArray, g_MOST_WORD, g_LETTERS, g_MOST_POOL, g_MOST_WEIGHT, g_MOST_TURNS, GC.pv, hk1, zip_pool (cn_len hP m)]
  generalize hz2 : forL _ _ _ _ _ = z2
  obtain ⟨env', M', rfl, i, v6, v7, h1, h2, h3, hi⟩ := for_of hz2 (fun xs env M2 => ∃ i v6 v7, xs = ((List.range' i (P.length - i)).map fun i => .tup [eV (P.getD i ([], 0)), iV (Get (cn P m) i)]) ∧
      env = [some (pV P), some (.ref k), some (.int ti), some (.int Wi), none, none, v6, v7] ∧ M2 = M1 ∧ i ≤ P.length)
    ⟨0, none, none, rfl, rfl, rfl, Nat.zero_le _⟩ (fun xs env M2 ⟨i, v6, v7, h1, h2, h3, hi⟩ => by subst h3; simp [keepB, hk1]) (fun x xs env M2 ⟨i, v6, v7, h1, h2, h3, hi⟩ => by
      have hin : i < P.length := by
        rcases Nat.lt_or_ge i P.length with q | q
        · exact q
        · rw [show P.length - i = 0 by omega] at h1; cases h1
      rw [show P.length - i = (P.length - (i + 1)) + 1 by omega, List.range'_succ] at h1
      cases h1
      subst h2
      subst h3
      have hwg := hw.get (i := i) (by rw [wl]; exact hin)
      obtain ⟨s1, s2⟩ := g.share hw.W0 (i := i) (by rw [wl]; exact hin)
      rw [es] at s1 s2
      have hwp := ws_get P i
      rw [hwp] at hwg s1 s2
      dsimp only
      refine ⟨_, _, .inl ?_, i + 1, some (.tup [tv (P.getD i ([], 0)).1, .int ((P.getD i ([], 0)).2 : Nat)]), some (iV (Get (cn P m) i)), rfl, rfl, rfl, hin⟩
      generalize P.getD i ([], 0) = p at hwg s1 s2 ⊢
      unfold forB
      have hm1 : mulOk ti ((p.2 : Nat) : Int) = true := mul_small (by omega) (by omega)
      have d0 : (Wi = 0) = False := eq_false (by omega)
      have d1 : (-1073741824 < Wi) = True := eq_true (by omega)
      have d2 : (Wi < 1073741824) = True := eq_true (by omega)
      have e1 : (ti * ((p.2 : Nat) : Int)).fdiv Wi = ((m * p.2 / tot P : Nat) : Int) := by rw [hti, hWi, ← fdiv_nat]; push_cast; rfl
      have e2 : (ti * ((p.2 : Nat) : Int) + Wi - 1).fdiv Wi = (((m * p.2 + tot P - 1) / tot P : Nat) : Int) := by
        rw [hti, hWi, ← fdiv_nat]
        have hge : 1 ≤ m * p.2 + tot P := by omega
        rw [Int.ofNat_sub hge]
        push_cast; rfl
      have b1 : ((ti * ((p.2 : Nat) : Int)).fdiv Wi ≤ ((Get (cn P m) i : Nat) : Int)) = True := eq_true (by rw [e1]; exact Int.ofNat_le.mpr s1)
      have b2 : (((Get (cn P m) i : Nat) : Int) ≤ (ti * ((p.2 : Nat) : Int) + Wi - 1).fdiv Wi) = True := eq_true (by rw [e2]; exact Int.ofNat_le.mpr s2)
      simp only [↓evE.eq_1, ↓evE.eq_2, ↓evE.eq_3, ↓evE.eq_4, ↓evE.eq_5, ↓evE.eq_6, ↓evE.eq_7, ↓evE.eq_8, ↓evE.eq_9, ↓evE.eq_10, ↓evE.eq_11, ↓evE.eq_12, ↓evE.eq_13, ↓evE.eq_14, ↓evE.eq_15, ↓evE.eq_16, ↓evE.eq_17, ↓evE.eq_18, ↓evE.eq_19, ↓evE.eq_20, ↓evE.eq_21, ↓evE.eq_22, ↓evE.eq_23, ↓evE.eq_24, ↓evE.eq_25, ↓evE.eq_26, ↓evE.eq_27, ↓evE.eq_28, ↓evE.eq_29, ↓evE.eq_30, ↓evE.eq_31, ↓evE.eq_32, ↓evE.eq_33, ↓evE.eq_34, ↓evE.eq_35, ↓evE.eq_36, ↓evE.eq_37, ↓evE.eq_38, ↓evS.eq_1, ↓evS_seq, ↓evS.eq_3, ↓evS.eq_4, ↓evS.eq_5, ↓evS.eq_6, ↓evS.eq_7, ↓evS.eq_8, ↓evS_ite, ↓iteS, ↓evS.eq_11, ↓evS.eq_12, ↓evS.eq_13, ↓evS.eq_14, ↓evS.eq_15, ↓evS.eq_16, ↓evS.eq_17, ↓evS_for, ↓evA.eq_1, ↓evA.eq_2, ↓evT.eq_1, ↓evT.eq_2, ↓evO.eq_1, ↓evO.eq_2, ↓evI.eq_1, ↓evI.eq_2, ↓evI.eq_3, ↓evI.eq_4, ↓evI.eq_5, ↓evF.eq_1, ↓evF.eq_2, ↓m_bind, ↓m_then, ↓m_opt, SRes.bind_nx, SRes.bind_rt, SRes.bind_bk, SRes.bind_ct, SRes.bind_ex, SRes.bind_bad, at_call, at_glo, at_fuel, SRes.back, List.getElem?_cons_zero, List.getElem?_cons_succ, List.set_cons_zero, List.set_cons_succ, asgT, asgTs, cmpV, truV, binV, bltV, tyN, tyLe, subV, Option.map_some, Option.map_none, List.any_cons, List.any_nil, if_true, if_false, ite_true, ite_false, String.reduceBEq, Nat.reduceAdd, Bool.or_false, Bool.false_or, Bool.or_true, Bool.true_or, Bool.and_true, Bool.true_and, Bool.and_false, Bool.false_and, Bool.not_true, Bool.not_false, beq_self_eq_true, decide_true, decide_false, reduceCtorEq, Bool.false_eq_true, Ev.keyOf, dctKeys, List.length_cons, List.length_nil, List.zip_cons_cons, List.zip_nil_left, List.zip_nil_right, List.foldl_cons, List.foldl_nil, methV, setV, isL, permL_cons, permL_nil, List.map_cons, List.map_nil, valP_cons, valP_nil, key_str, key_int, ofString_eq, String.reduceEq, putP, sizeLine_eq, Nat.reduceLT, Nat.reduceLeDiff, sto_self, powOk, divOk, Int.reducePow, Nat.reducePow, Int.reduceNeg, Int.reduceLT, Int.reduceLE, natAbs64, natAbs30, Int.reduceToNat, Int.reduceEq, Int.reduceAdd, Int.reduceSub, Int.reduceMul, ne_eq, not_false_eq_true, Int.reduceNe, Ev.alloc, Ev.eq_ii, Ev.eq_ss, Ev.eq_bb, Ev.eq_nn, Ev.eq_ni, Ev.eq_in, Ev.eq_ns, Ev.eq_sn, Ev.eq_nb, Ev.eq_bn, Ev.eq_is, Ev.eq_si, and_self, true_and, and_true, fmod_lt64, fmod_gt64, atI_0, atI_1, atI_2, atI_3, atI_4, atI_5, atI_6, atI_7, atI_8, atI_9, itemsV, smV, fmtV, lenSetV, seqOf, lstOf, slcV, revV, srcOf, optI, List.nil_append, List.cons_append, sto_new, intsP, sortI, insI, compL, compG, wipeP, boolsP, List.all_cons, List.all_nil, id_eq, keep_nil, maxI, minI, intsP, cutf_1, cutf_2, cutf_3, cutf_4, cutt_1, cutt_2, cutt_3, cutt_4, List.drop_succ_cons, List.drop_zero, List.take_succ_cons, List.take_zero, Int.cast_ofNat_Int, false_and, and_false, or_self, or_false, false_or, true_or, or_true, lit_e, tS_len, tS_cat, tS_eq, tS_lt, List.toList_toArray, g_MOST_WORD, g_LETTERS, g_MOST_POOL, g_MOST_WEIGHT, g_MOST_TURNS, GC.pv, hm1, d0, d1, d2, b1, b2])
  subst h3
  subst h2
  simp only [↓evE.eq_1, ↓evE.eq_2, ↓evE.eq_3, ↓evE.eq_4, ↓evE.eq_5, ↓evE.eq_6, ↓evE.eq_7, ↓evE.eq_8, ↓evE.eq_9, ↓evE.eq_10, ↓evE.eq_11, ↓evE.eq_12, ↓evE.eq_13, ↓evE.eq_14, ↓evE.eq_15, ↓evE.eq_16, ↓evE.eq_17, ↓evE.eq_18, ↓evE.eq_19, ↓evE.eq_20, ↓evE.eq_21, ↓evE.eq_22, ↓evE.eq_23, ↓evE.eq_24, ↓evE.eq_25, ↓evE.eq_26, ↓evE.eq_27, ↓evE.eq_28, ↓evE.eq_29, ↓evE.eq_30, ↓evE.eq_31, ↓evE.eq_32, ↓evE.eq_33, ↓evE.eq_34, ↓evE.eq_35, ↓evE.eq_36, ↓evE.eq_37, ↓evE.eq_38, ↓evS.eq_1, ↓evS_seq, ↓evS.eq_3, ↓evS.eq_4, ↓evS.eq_5, ↓evS.eq_6, ↓evS.eq_7, ↓evS.eq_8, ↓evS_ite, ↓iteS, ↓evS.eq_11, ↓evS.eq_12, ↓evS.eq_13, ↓evS.eq_14, ↓evS.eq_15, ↓evS.eq_16, ↓evS.eq_17, ↓evS_for, ↓evA.eq_1, ↓evA.eq_2, ↓evT.eq_1, ↓evT.eq_2, ↓evO.eq_1, ↓evO.eq_2, ↓evI.eq_1, ↓evI.eq_2, ↓evI.eq_3, ↓evI.eq_4, ↓evI.eq_5, ↓evF.eq_1, ↓evF.eq_2, ↓m_bind, ↓m_then, ↓m_opt, SRes.bind_nx, SRes.bind_rt, SRes.bind_bk, SRes.bind_ct, SRes.bind_ex, SRes.bind_bad, at_call, at_glo, at_fuel, SRes.back, List.getElem?_cons_zero, List.getElem?_cons_succ, List.set_cons_zero, List.set_cons_succ, asgT, asgTs, cmpV, truV, binV, bltV, tyN, tyLe, subV, Option.map_some, Option.map_none, List.any_cons, List.any_nil, if_true, if_false, ite_true, ite_false, String.reduceBEq, Nat.reduceAdd, Bool.or_false, Bool.false_or, Bool.or_true, Bool.true_or, Bool.and_true, Bool.true_and, Bool.and_false, Bool.false_and, Bool.not_true, Bool.not_false, beq_self_eq_true, decide_true, decide_false, reduceCtorEq, Bool.false_eq_true, Ev.keyOf, dctKeys, List.length_cons, List.length_nil, List.zip_cons_cons, List.zip_nil_left, List.zip_nil_right, List.foldl_cons, List.foldl_nil, methV, setV, isL, permL_cons, permL_nil, List.map_cons, List.map_nil, valP_cons, valP_nil, key_str, key_int, ofString_eq, String.reduceEq, putP, sizeLine_eq, Nat.reduceLT, Nat.reduceLeDiff, sto_self, mulOk, powOk, divOk, Int.reducePow, Nat.reducePow, Int.reduceNeg, Int.reduceLT, Int.reduceLE, natAbs64, natAbs30, Int.reduceToNat, Int.reduceEq, Int.reduceAdd, Int.reduceSub, Int.reduceMul, ne_eq, not_false_eq_true, Int.reduceNe, Ev.alloc, Ev.eq_ii, Ev.eq_ss, Ev.eq_bb, Ev.eq_nn, Ev.eq_ni, Ev.eq_in, Ev.eq_ns, Ev.eq_sn, Ev.eq_nb, Ev.eq_bn, Ev.eq_is, Ev.eq_si, and_self, true_and, and_true, fmod_lt64, fmod_gt64, atI_0, atI_1, atI_2, atI_3, atI_4, atI_5, atI_6, atI_7, atI_8, atI_9, itemsV, smV, fmtV, lenSetV, seqOf, lstOf, slcV, revV, srcOf, optI, List.nil_append, List.cons_append, sto_new, intsP, sortI, insI, compL, compG, wipeP, boolsP, List.all_cons, List.all_nil, id_eq, keep_nil, maxI, minI, intsP, cutf_1, cutf_2, cutf_3, cutf_4, cutt_1, cutt_2, cutt_3, cutt_4, List.drop_succ_cons, List.drop_zero, List.take_succ_cons, List.take_zero, Int.cast_ofNat_Int, false_and, and_false, or_self, or_false, false_or, true_or, or_true, lit_e, tS_len, tS_cat, tS_eq, tS_lt, List.toList_toArray, g_MOST_WORD, g_LETTERS, g_MOST_POOL, g_MOST_WEIGHT, g_MOST_TURNS, GC.pv]
  exact ⟨_, rfl, kM⟩
end K18

set_option Elab.async false
set_option linter.all false
set_option maxRecDepth 100000
set_option maxHeartbeats 4000000
/-! K18o: pools as drawn. -/
namespace K18
open PySem L2 Ev
def names8 : List (List Nat) := [wd "ash", wd "oak", wd "elm", wd "b", wd "a", wd "abcdefghij", wd "yew", wd "z"]
theorem names8_ok : names8.Nodup ∧ ∀ x ∈ names8, word x := by
  constructor
  · decide +kernel
  · have : names8.all (fun x => decide (1 ≤ x.length) && decide (x.length ≤ 10) && x.all fun c => decide (97 ≤ c) && decide (c ≤ 122)) = true := by decide +kernel
    intro x hx
    have h := List.all_eq_true.mp this x hx
    simp only [Bool.and_eq_true, decide_eq_true_eq, List.all_eq_true] at h
    exact ⟨h.1.1, h.1.2, fun c hc => h.2 c hc⟩
theorem names8_lit : [PV.str "ash", PV.str "oak", PV.str "elm", PV.str "b", PV.str "a", PV.str "abcdefghij", PV.str "yew", PV.str "z"] = tsv names8 := by
  unfold tsv names8 tv
  simp only [List.map_cons, List.map_nil, ← lit_w]
theorem way_at {r : Int} (h0 : 0 ≤ r) (h1 : r < 5) : ∃ b : Int, 2 ≤ b ∧ b ≤ 100 ∧ atI [PV.int 5, PV.int 100, PV.int 12, PV.int 3, PV.int 2] r = some (.int b) := by
  have : r = 0 ∨ r = 1 ∨ r = 2 ∨ r = 3 ∨ r = 4 := by omega
  rcases this with rfl | rfl | rfl | rfl | rfl
  · exact ⟨5, by omega, by omega, rfl⟩
  · exact ⟨100, by omega, by omega, rfl⟩
  · exact ⟨12, by omega, by omega, rfl⟩
  · exact ⟨3, by omega, by omega, rfl⟩
  · exact ⟨2, by omega, by omega, rfl⟩
theorem erase_perm {α : Type} : ∀ {l : List α} {k : Nat} {x : α}, l[k]? = some x → (x :: l.eraseIdx k).Perm l
  | [], k, x, h => by simp at h
  | a :: l, 0, x, h => by
    simp at h; subst h
    simp
  | a :: l, k + 1, x, h => by
    have ih := erase_perm (l := l) (k := k) (x := x) (by simpa using h)
    rw [List.eraseIdx_cons_succ]
    exact (List.Perm.swap a x _).trans (ih.cons a)
structure Pst (dn : Pool) (rem : List (List Nat)) : Prop where
  len : dn.length + rem.length = 8
  nd : (rem ++ dn.map (·.1)).Nodup
  w : ∀ p ∈ dn, word p.1 ∧ 1 ≤ p.2 ∧ p.2 ≤ 100
  r : ∀ x ∈ rem, word x
theorem Pst.pop {dn : Pool} {rem : List (List Nat)} (h : Pst dn rem) {k : Nat} {x : List Nat} (hx : rem[k]? = some x) {v : Nat} (h1 : 1 ≤ v) (h2 : v ≤ 100) : Pst (dn ++ [(x, v)]) (rem.eraseIdx k) := by
  obtain ⟨hk, hx'⟩ := List.getElem?_eq_some_iff.mp hx
  have pm : (x :: rem.eraseIdx k).Perm rem := erase_perm hx
  refine ⟨?_, ?_, fun p hp => ?_, fun y hy => h.r y (List.mem_of_mem_eraseIdx hy)⟩
  · have := h.len
    rw [List.length_append, List.length_eraseIdx_of_lt hk]
    simp only [List.length_cons, List.length_nil]
    omega
  · rw [List.map_append]
    have p2 : (rem.eraseIdx k ++ (dn.map (·.1) ++ [x])).Perm (rem ++ dn.map (·.1)) := by
      refine List.Perm.trans ?_ (pm.append_right (dn.map (·.1)))
      show (rem.eraseIdx k ++ (dn.map (·.1) ++ [x])).Perm (x :: (rem.eraseIdx k ++ dn.map (·.1)))
      rw [← List.append_assoc]
      exact List.perm_append_singleton _ _
    exact (p2.nodup_iff).mpr h.nd
  · rcases List.mem_append.mp hp with hp | hp
    · exact h.w p hp
    · rw [List.mem_singleton.mp hp]
      exact ⟨h.r x (List.mem_of_getElem? hx), h1, h2⟩
theorem Pst.pool {dn : Pool} {rem : List (List Nat)} (h : Pst dn rem) (h1 : 1 ≤ dn.length) : IsPool dn :=
  ⟨h1, by have := h.len; omega, h.w, (List.nodup_append.mp h.nd).2.1⟩
theorem erase_tsv : ∀ (rem : List (List Nat)) (k : Nat), (tsv rem).eraseIdx k = tsv (rem.eraseIdx k)
  | [], k => by simp [tsv]
  | a :: l, 0 => by simp [tsv]
  | a :: l, k + 1 => by
    have := erase_tsv l k
    unfold tsv at this ⊢
    rw [List.map_cons, List.eraseIdx_cons_succ, List.eraseIdx_cons_succ, List.map_cons, this]
abbrev p_tail : CS := .expr (.meth .append (V 4) (A (.tup (A (.meth .popAt (V 3) (A (.call "_law_draw" (A (V 0) (A (.blt .len (A (V 3) (E_))) (E_)))) (E_))) (A (V 6) (E_)))) (E_)))
theorem tail_ok (n : Nat) {i j NI FI : Nat} {M : Sto} (h : Dk i j M) {dn : Pool} {rem : List (List Nat)} (st : Pst dn rem) (h8 : dn.length < 8) (hN : M[NI]? = some (.lst (tsv rem))) (hF : M[FI]? = some (.lst (dn.map eV)))
    (n1 : NI ≠ i) (n2 : NI ≠ j) (f1 : FI ≠ i) (f2 : FI ≠ j) (nf : NI ≠ FI) (many way : PV) (at' : Option PV) {v : Nat} (v1 : 1 ≤ v) (v2 : v ≤ 100) :
    ∃ M' dn' rem', evS (T.at (n + 1)) p_tail [some (.ref i), some many, some way, some (.ref NI), some (.ref FI), at', some (iV v)] M = .nx [some (.ref i), some many, some way, some (.ref NI), some (.ref FI), at', some (iV v)] M' ∧
      Dk i j M' ∧ Pst dn' rem' ∧ dn'.length = dn.length + 1 ∧ M'[NI]? = some (.lst (tsv rem')) ∧ M'[FI]? = some (.lst (dn'.map eV)) ∧ Keep [i, j, NI, FI] M M' := by
  have sl := st.len
  obtain ⟨L, hL⟩ : ∃ L : Int, L = (rem.length : Nat) := ⟨_, rfl⟩
  have hL' : (((tsv rem).length : Nat) : Int) = L := by rw [hL]; simp [tsv]
  obtain ⟨r, M2, e2, r0, r1, d2, k2⟩ := draw_ok n h (many := L) (by omega) (by omega)
  obtain ⟨k, rfl⟩ : ∃ k : Nat, r = (k : Nat) := ⟨r.toNat, by omega⟩
  have hk : k < rem.length := by omega
  have hx : rem[k]? = some rem[k] := List.getElem?_eq_getElem hk
  have hxt : (tsv rem)[k]? = some (tv rem[k]) := by unfold tsv; rw [List.getElem?_map, hx]; rfl
  have hN2 := k2.get hN (by simp [n1, n2])
  have hF2 := k2.get hF (by simp [f1, f2])
  have hsi : seqIndex? ((k : Nat) : Int) (tsv rem).length = some k := by
    unfold seqIndex?
    have : (tsv rem).length = rem.length := by simp [tsv]
    rw [this]
    simp only [show ¬ ((k : Nat) : Int) < 0 by omega, if_false]
    rw [if_pos (by simp; omega), Int.toNat_natCast]
  have c1 : (-9223372036854775808 ≤ ((k : Nat) : Int)) = True := eq_true (by omega)
  have c2 : (((k : Nat) : Int) < 9223372036854775808) = True := eq_true (by omega)
  have ll : ((dn.map eV).length < 16777216) = True := eq_true (by simp; omega)
  have ea : dn.map eV ++ [.tup [tv rem[k], iV v]] = (dn ++ [(rem[k], v)]).map eV := by simp
  have er := erase_tsv rem k
  have hNF : (M2.set NI (.lst (tsv (rem.eraseIdx k))))[FI]? = some (.lst (dn.map eV)) := by rw [sto_ne nf]; exact hF2
  refine ⟨(M2.set NI (.lst (tsv (rem.eraseIdx k)))).set FI (.lst ((dn ++ [(rem[k], v)]).map eV)), _, _, ?_, (d2.set' n1 n2).set' f1 f2, st.pop hx v1 v2, by simp, ?_, ?_, ((k2.imp (by simp)).trans (Keep.set (by simp))).trans (Keep.set (by simp))⟩
  · unfold p_tail
    simp only [↓evE.eq_1, ↓evE.eq_2, ↓evE.eq_3, ↓evE.eq_4, ↓evE.eq_5, ↓evE.eq_6, ↓evE.eq_7, ↓evE.eq_8, ↓evE.eq_9, ↓evE.eq_10, ↓evE.eq_11, ↓evE.eq_12, ↓evE.eq_13, ↓evE.eq_14, ↓evE.eq_15, ↓evE.eq_16, ↓evE.eq_17, ↓evE.eq_18, ↓evE.eq_19, ↓evE.eq_20, ↓evE.eq_21, ↓evE.eq_22, ↓evE.eq_23, ↓evE.eq_24, ↓evE.eq_25, ↓evE.eq_26, ↓evE.eq_27, ↓evE.eq_28, ↓evE.eq_29, ↓evE.eq_30, ↓evE.eq_31, ↓evE.eq_32, ↓evE.eq_33, ↓evE.eq_34, ↓evE.eq_35, ↓evE.eq_36, ↓evE.eq_37, ↓evE.eq_38, ↓evS.eq_1, ↓evS_seq, ↓evS.eq_3, ↓evS.eq_4, ↓evS.eq_5, ↓evS.eq_6, ↓evS.eq_7, ↓evS.eq_8, ↓evS_ite, ↓iteS, ↓evS.eq_11, ↓evS.eq_12, ↓evS.eq_13, ↓evS.eq_14, ↓evS.eq_15, ↓evS.eq_16, ↓evS.eq_17, ↓evS_for, ↓evA.eq_1, ↓evA.eq_2, ↓evT.eq_1, ↓evT.eq_2, ↓evO.eq_1, ↓evO.eq_2, ↓evI.eq_1, ↓evI.eq_2, ↓evI.eq_3, ↓evI.eq_4, ↓evI.eq_5, ↓evF.eq_1, ↓evF.eq_2, ↓m_bind, ↓m_then, ↓m_opt, SRes.bind_nx, SRes.bind_rt, SRes.bind_bk, SRes.bind_ct, SRes.bind_ex, SRes.bind_bad, at_call, at_glo, at_fuel, SRes.back, List.getElem?_cons_zero, List.getElem?_cons_succ, List.set_cons_zero, List.set_cons_succ, asgT, asgTs, cmpV, truV, binV, bltV, tyN, tyLe, subV, Option.map_some, Option.map_none, List.any_cons, List.any_nil, if_true, if_false, ite_true, ite_false, String.reduceBEq, Nat.reduceAdd, Bool.or_false, Bool.false_or, Bool.or_true, Bool.true_or, Bool.and_true, Bool.true_and, Bool.and_false, Bool.false_and, Bool.not_true, Bool.not_false, beq_self_eq_true, decide_true, decide_false, reduceCtorEq, Bool.false_eq_true, Ev.keyOf, dctKeys, List.length_cons, List.length_nil, List.zip_cons_cons, List.zip_nil_left, List.zip_nil_right, List.foldl_cons, List.foldl_nil, methV, setV, isL, permL_cons, permL_nil, List.map_cons, List.map_nil, valP_cons, valP_nil, key_str, key_int, ofString_eq, String.reduceEq, putP, sizeLine_eq, Nat.reduceLT, Nat.reduceLeDiff, sto_self, mulOk, powOk, divOk, Int.reducePow, Nat.reducePow, Int.reduceNeg, Int.reduceLT, Int.reduceLE, natAbs64, natAbs30, Int.reduceToNat, Int.reduceEq, Int.reduceAdd, Int.reduceSub, Int.reduceMul, ne_eq, not_false_eq_true, Int.reduceNe, Ev.alloc, Ev.eq_ii, Ev.eq_ss, Ev.eq_bb, Ev.eq_nn, Ev.eq_ni, Ev.eq_in, Ev.eq_ns, Ev.eq_sn, Ev.eq_nb, Ev.eq_bn, Ev.eq_is, Ev.eq_si, and_self, true_and, and_true, fmod_lt64, fmod_gt64, atI_0, atI_1, atI_2, atI_3, atI_4, atI_5, atI_6, atI_7, atI_8, atI_9, itemsV, smV, fmtV, lenSetV, seqOf, lstOf, slcV, revV, srcOf, optI, List.nil_append, List.cons_append, sto_new, intsP, sortI, insI, compL, compG, wipeP, boolsP, List.all_cons, List.all_nil, id_eq, keep_nil, maxI, minI, intsP, cutf_1, cutf_2, cutf_3, cutf_4, cutt_1, cutt_2, cutt_3, cutt_4, List.drop_succ_cons, List.drop_zero, List.take_succ_cons, List.take_zero, Int.cast_ofNat_Int, false_and, and_false, or_self, or_false, false_or, true_or, or_true, lit_e, tS_len, tS_cat, tS_eq, tS_lt, List.toList_toArray, g_MOST_WORD, g_LETTERS, g_MOST_POOL, g_MOST_WEIGHT, g_MOST_TURNS, GC.pv, hN, hF, hL', e2, hN2, hsi, hxt, c1, c2, er, hNF, ll, ea]
  · rw [sto_ne nf.symm, sto_self, hN2]; rfl
  · rw [sto_self, hNF]; rfl
theorem pool_drawn (n : Nat) {i j : Nat} {M : Sto} (h : Dk i j M) : ∃ P M', callN T (n + 3) "_law_pool" [.ref i] M = .ok (pV P) M' ∧ IsPool P ∧ Dk i j M' ∧ Keep [i, j] M M' := by
  obtain ⟨r, M1, e1, rm, d1, k1⟩ := picks n h [.int 3, .int 2, .int 4, .int 1, .int 8, .int 5, .int 6] (by simp) (by simp)
  obtain ⟨q, rfl, q1, q2⟩ : ∃ q : Nat, r = .int (q : Nat) ∧ 1 ≤ q ∧ q ≤ 8 := by
    simp only [List.mem_cons, List.not_mem_nil, or_false] at rm
    rcases rm with rfl | rfl | rfl | rfl | rfl | rfl | rfl
    · exact ⟨3, rfl, by omega, by omega⟩
    · exact ⟨2, rfl, by omega, by omega⟩
    · exact ⟨4, rfl, by omega, by omega⟩
    · exact ⟨1, rfl, by omega, by omega⟩
    · exact ⟨8, rfl, by omega, by omega⟩
    · exact ⟨5, rfl, by omega, by omega⟩
    · exact ⟨6, rfl, by omega, by omega⟩
  obtain ⟨qi, hqi⟩ : ∃ qi : Int, qi = (q : Nat) := ⟨_, rfl⟩
  rw [← hqi] at e1
  have e1' : callN T (n + 2) "_law_pick" [.ref i, .ref M.length] (M ++ [.lst [.int 3, .int 2, .int 4, .int 1, .int 8, .int 5, .int 6]]) = .ok (.int qi) M1 := e1
  obtain ⟨way, M2, e2, w0, w5, d2, k2⟩ := draw_ok (n + 1) d1 (many := 5) (by omega) (by omega)
  have rg : rgOk 0 qi = true := rgOk_nat (by omega) (by omega) (by omega) (by omega)
  have hr : rgP 0 qi = (List.range' 0 q).map iV := by rw [hqi, rg_zero, List.range_eq_range']
  have l2 := d2.lt
  rw [e__law_pool]
  unfold c__law_pool
  have l8 : ((tsv names8).length ≤ 16777216) = True := eq_true (by simp [tsv, names8])
  simp only [↓evE.eq_1, ↓evE.eq_2, ↓evE.eq_3, ↓evE.eq_4, ↓evE.eq_5, ↓evE.eq_6, ↓evE.eq_7, ↓evE.eq_8, ↓evE.eq_9, ↓evE.eq_10, ↓evE.eq_11, ↓evE.eq_12, ↓evE.eq_13, ↓evE.eq_14, ↓evE.eq_15, ↓evE.eq_16, ↓evE.eq_17, ↓evE.eq_18, ↓evE.eq_19, ↓evE.eq_20, ↓evE.eq_21, ↓evE.eq_22, ↓evE.eq_23, ↓evE.eq_24, ↓evE.eq_25, ↓evE.eq_26, ↓evE.eq_27, ↓evE.eq_28, ↓evE.eq_29, ↓evE.eq_30, ↓evE.eq_31, ↓evE.eq_32, ↓evE.eq_33, ↓evE.eq_34, ↓evE.eq_35, ↓evE.eq_36, ↓evE.eq_37, ↓evE.eq_38, ↓evS.eq_1, ↓evS_seq, ↓evS.eq_3, ↓evS.eq_4, ↓evS.eq_5, ↓evS.eq_6, ↓evS.eq_7, ↓evS.eq_8, ↓evS_ite, ↓iteS, ↓evS.eq_11, ↓evS.eq_12, ↓evS.eq_13, ↓evS.eq_14, ↓evS.eq_15, ↓evS.eq_16, ↓evS.eq_17, ↓evS_for, ↓evA.eq_1, ↓evA.eq_2, ↓evT.eq_1, ↓evT.eq_2, ↓evO.eq_1, ↓evO.eq_2, ↓evI.eq_1, ↓evI.eq_2, ↓evI.eq_3, ↓evI.eq_4, ↓evI.eq_5, ↓evF.eq_1, ↓evF.eq_2, ↓m_bind, ↓m_then, ↓m_opt, SRes.bind_nx, SRes.bind_rt, SRes.bind_bk, SRes.bind_ct, SRes.bind_ex, SRes.bind_bad, at_call, at_glo, at_fuel, SRes.back, List.getElem?_cons_zero, List.getElem?_cons_succ, List.set_cons_zero, List.set_cons_succ, asgT, asgTs, cmpV, truV, binV, bltV, tyN, tyLe, subV, Option.map_some, Option.map_none, List.any_cons, List.any_nil, if_true, if_false, ite_true, ite_false, String.reduceBEq, Nat.reduceAdd, Bool.or_false, Bool.false_or, Bool.or_true, Bool.true_or, Bool.and_true, Bool.true_and, Bool.and_false, Bool.false_and, Bool.not_true, Bool.not_false, beq_self_eq_true, decide_true, decide_false, reduceCtorEq, Bool.false_eq_true, Ev.keyOf, dctKeys, List.length_cons, List.length_nil, List.zip_cons_cons, List.zip_nil_left, List.zip_nil_right, List.foldl_cons, List.foldl_nil, methV, setV, isL, permL_cons, permL_nil, List.map_cons, List.map_nil, valP_cons, valP_nil, key_str, key_int, ofString_eq, String.reduceEq, putP, sizeLine_eq, Nat.reduceLT, Nat.reduceLeDiff, sto_self, mulOk, powOk, divOk, Int.reducePow, Nat.reducePow, Int.reduceNeg, Int.reduceLT, Int.reduceLE, natAbs64, natAbs30, Int.reduceToNat, Int.reduceEq, Int.reduceAdd, Int.reduceSub, Int.reduceMul, ne_eq, not_false_eq_true, Int.reduceNe, Ev.alloc, Ev.eq_ii, Ev.eq_ss, Ev.eq_bb, Ev.eq_nn, Ev.eq_ni, Ev.eq_in, Ev.eq_ns, Ev.eq_sn, Ev.eq_nb, Ev.eq_bn, Ev.eq_is, Ev.eq_si, and_self, true_and, and_true, fmod_lt64, fmod_gt64, atI_0, atI_1, atI_2, atI_3, atI_4, atI_5, atI_6, atI_7, atI_8, atI_9, itemsV, smV, fmtV, lenSetV, seqOf, lstOf, slcV, revV, srcOf, optI, List.nil_append, List.cons_append, sto_new, intsP, sortI, insI, compL, compG, wipeP, boolsP, List.all_cons, List.all_nil, id_eq, keep_nil, maxI, minI, intsP, cutf_1, cutf_2, cutf_3, cutf_4, cutt_1, cutt_2, cutt_3, cutt_4, List.drop_succ_cons, List.drop_zero, List.take_succ_cons, List.take_zero, Int.cast_ofNat_Int, false_and, and_false, or_self, or_false, false_or, true_or, or_true, lit_e, tS_len, tS_cat, tS_eq, tS_lt, List.toList_toArray, g_MOST_WORD, g_LETTERS, g_MOST_POOL, g_MOST_WEIGHT, g_MOST_TURNS, GC.pv, e1', e2, names8_lit, l8, rg, hr]
  generalize hz : forL _ _ _ _ _ = z
  obtain ⟨NI, hNI⟩ : ∃ NI, NI = M2.length := ⟨_, rfl⟩
  obtain ⟨FI, hFI⟩ : ∃ FI, FI = (M2 ++ [MO.lst (tsv names8)]).length := ⟨_, rfl⟩
  rw [← hNI, ← hFI] at hz
  have hFI2 : FI = NI + 1 := by rw [hFI, hNI]; simp
  obtain ⟨env', M', rfl, a, dn, rem, v5, v6, h1, h2, h3, h4, h5, h6, h7, h8⟩ := for_of hz (fun xs env M1 => ∃ a dn rem v5 v6, xs = (List.range' a (q - a)).map iV ∧ env = [some (.ref i), some (.int qi), some (.int way), some (.ref NI), some (.ref FI), v5, v6] ∧
      M1[NI]? = some (.lst (tsv rem)) ∧ M1[FI]? = some (.lst (dn.map eV)) ∧ Dk i j M1 ∧ Pst dn rem ∧ (dn.length = a ∧ a ≤ q) ∧ Keep [i, j, NI, FI] (M2 ++ [MO.lst (tsv names8)] ++ [MO.lst []]) M1)
    ⟨0, [], names8, none, none, by simp, rfl, by rw [hNI]; exact sto_app (sto_new _ _), by rw [hFI]; exact sto_new _ _, (d2.app _).app _, ⟨rfl, by simpa using names8_ok.1, (fun p hp => by cases hp), names8_ok.2⟩, ⟨rfl, Nat.zero_le _⟩, Keep.refl _⟩
    (fun _ _ _ _ => keep_nil _) (fun x xs env M1 ⟨a, dn, rem, v5, v6, h1, h2, h3, h4, h5, h6, ⟨h7, h8⟩, h9⟩ => by
      have ha : a < q := by
        rcases Nat.lt_or_ge a q with q' | q'
        · exact q'
        · rw [show q - a = 0 by omega] at h1; cases h1
      rw [show q - a = (q - (a + 1)) + 1 by omega, List.range'_succ] at h1
      cases h1
      subst h2
      obtain ⟨b, b1, b2, hb⟩ := way_at w0 w5
      obtain ⟨r, M3, e3, r0, r1, d3, k3⟩ := draw_ok (n + 1) (h5.app [.lst [.int 5, .int 100, .int 12, .int 3, .int 2]]) (many := b) (by omega) (by omega)
      have k3' : Keep [i, j, NI, FI] M1 M3 := Keep.app.trans (k3.imp (by simp))
      have n1 : NI ≠ i := by omega
      have n2 : NI ≠ j := by omega
      have f1 : FI ≠ i := by omega
      have f2 : FI ≠ j := by omega
      have nf : NI ≠ FI := by omega
      have hN3 : M3[NI]? = some (.lst (tsv rem)) := k3.get (sto_app h3) (by simp [n1, n2])
      have hF3 : M3[FI]? = some (.lst (dn.map eV)) := k3.get (sto_app h4) (by simp [f1, f2])
      by_cases c : way = 4 ∧ a = 1
      · obtain ⟨c1, c2⟩ := c
        subst c2
        obtain ⟨r2, M4, e4, s0, s1, d4, k4⟩ := draw_ok (n + 1) d3 (many := 3) (by omega) (by omega)
        have hN4 := k4.get hN3 (by simp [n1, n2])
        have hF4 := k4.get hF3 (by simp [f1, f2])
        obtain ⟨v, hv⟩ : ∃ v : Nat, (100 - r2) = ((v : Nat) : Int) := ⟨(100 - r2).toNat, by omega⟩
        obtain ⟨M5, dn', rem', e5, d5, st5, ln5, hN5, hF5, k5⟩ := tail_ok (n + 1) d4 h6 (by omega) hN4 hF4 n1 n2 f1 f2 nf (.int qi) (.int way) (some (iV 1)) (v := v) (by omega) (by omega)
        unfold p_tail at e5
        refine ⟨_, M5, .inl ?_, 1 + 1, dn', rem', some (iV 1), some (iV v), rfl, rfl, hN5, hF5, d5, st5, ⟨by omega, by omega⟩, h9.trans (k3'.trans ((k4.imp (by simp)).trans k5))⟩
        unfold forB
        have cw : (way = 4) = True := eq_true c1
        have ca : (((1 : Nat) : Int) = 1) = True := eq_true rfl
        simp only [↓evE.eq_1, ↓evE.eq_2, ↓evE.eq_3, ↓evE.eq_4, ↓evE.eq_5, ↓evE.eq_6, ↓evE.eq_7, ↓evE.eq_8, ↓evE.eq_9, ↓evE.eq_10, ↓evE.eq_11, ↓evE.eq_12, ↓evE.eq_13, ↓evE.eq_14, ↓evE.eq_15, ↓evE.eq_16, ↓evE.eq_17, ↓evE.eq_18, ↓evE.eq_19, ↓evE.eq_20, ↓evE.eq_21, ↓evE.eq_22, ↓evE.eq_23, ↓evE.eq_24, ↓evE.eq_25, ↓evE.eq_26, ↓evE.eq_27, ↓evE.eq_28, ↓evE.eq_29, ↓evE.eq_30, ↓evE.eq_31, ↓evE.eq_32, ↓evE.eq_33, ↓evE.eq_34, ↓evE.eq_35, ↓evE.eq_36, ↓evE.eq_37, ↓evE.eq_38, ↓evS.eq_1, ↓evS_seq, ↓evS.eq_3, ↓evS.eq_4, ↓evS.eq_5, ↓evS.eq_6, ↓evS.eq_7, ↓evS.eq_8, ↓evS_ite, ↓iteS, ↓evS.eq_11, ↓evS.eq_12, ↓evS.eq_13, ↓evS.eq_14, ↓evS.eq_15, ↓evS.eq_16, ↓evS.eq_17, ↓evS_for, ↓evA.eq_1, ↓evA.eq_2, ↓evT.eq_1, ↓evT.eq_2, ↓evO.eq_1, ↓evO.eq_2, ↓evI.eq_1, ↓evI.eq_2, ↓evI.eq_3, ↓evI.eq_4, ↓evI.eq_5, ↓evF.eq_1, ↓evF.eq_2, ↓m_bind, ↓m_then, ↓m_opt, SRes.bind_nx, SRes.bind_rt, SRes.bind_bk, SRes.bind_ct, SRes.bind_ex, SRes.bind_bad, at_call, at_glo, at_fuel, SRes.back, List.getElem?_cons_zero, List.getElem?_cons_succ, List.set_cons_zero, List.set_cons_succ, asgT, asgTs, cmpV, truV, binV, bltV, tyN, tyLe, subV, Option.map_some, Option.map_none, List.any_cons, List.any_nil, if_true, if_false, ite_true, ite_false, String.reduceBEq, Nat.reduceAdd, Bool.or_false, Bool.false_or, Bool.or_true, Bool.true_or, Bool.and_true, Bool.true_and, Bool.and_false, Bool.false_and, Bool.not_true, Bool.not_false, beq_self_eq_true, decide_true, decide_false, reduceCtorEq, Bool.false_eq_true, Ev.keyOf, dctKeys, List.length_cons, List.length_nil, List.zip_cons_cons, List.zip_nil_left, List.zip_nil_right, List.foldl_cons, List.foldl_nil, methV, setV, isL, permL_cons, permL_nil, List.map_cons, List.map_nil, valP_cons, valP_nil, key_str, key_int, ofString_eq, String.reduceEq, putP, sizeLine_eq, Nat.reduceLT, Nat.reduceLeDiff, sto_self, mulOk, powOk, divOk, Int.reducePow, Nat.reducePow, Int.reduceNeg, Int.reduceLT, Int.reduceLE, natAbs64, natAbs30, Int.reduceToNat, Int.reduceEq, Int.reduceAdd, Int.reduceSub, Int.reduceMul, ne_eq, not_false_eq_true, Int.reduceNe, Ev.alloc, Ev.eq_ii, Ev.eq_ss, Ev.eq_bb, Ev.eq_nn, Ev.eq_ni, Ev.eq_in, Ev.eq_ns, Ev.eq_sn, Ev.eq_nb, Ev.eq_bn, Ev.eq_is, Ev.eq_si, and_self, true_and, and_true, fmod_lt64, fmod_gt64, atI_0, atI_1, atI_2, atI_3, atI_4, atI_5, atI_6, atI_7, atI_8, atI_9, itemsV, smV, fmtV, lenSetV, seqOf, lstOf, slcV, revV, srcOf, optI, List.nil_append, List.cons_append, sto_new, intsP, sortI, insI, compL, compG, wipeP, boolsP, List.all_cons, List.all_nil, id_eq, keep_nil, maxI, minI, intsP, cutf_1, cutf_2, cutf_3, cutf_4, cutt_1, cutt_2, cutt_3, cutt_4, List.drop_succ_cons, List.drop_zero, List.take_succ_cons, List.take_zero, Int.cast_ofNat_Int, false_and, and_false, or_self, or_false, false_or, true_or, or_true, lit_e, tS_len, tS_cat, tS_eq, tS_lt, List.toList_toArray, g_MOST_WORD, g_LETTERS, g_MOST_POOL, g_MOST_WEIGHT, g_MOST_TURNS, GC.pv, hb, e3, cw, ca, e4, hv, ↓e5]
      · obtain ⟨v, hv⟩ : ∃ v : Nat, (1 + r) = ((v : Nat) : Int) := ⟨(1 + r).toNat, by omega⟩
        obtain ⟨M5, dn', rem', e5, d5, st5, ln5, hN5, hF5, k5⟩ := tail_ok (n + 1) d3 h6 (by omega) hN3 hF3 n1 n2 f1 f2 nf (.int qi) (.int way) (some (iV a)) (v := v) (by omega) (by omega)
        unfold p_tail at e5
        refine ⟨_, M5, .inl ?_, a + 1, dn', rem', some (iV a), some (iV v), rfl, rfl, hN5, hF5, d5, st5, ⟨by omega, by omega⟩, h9.trans (k3'.trans k5)⟩
        unfold forB
        by_cases cw : way = 4
        · have ca : (((a : Nat) : Int) = 1) = False := eq_false (by omega)
          have cw' : (way = 4) = True := eq_true cw
          simp only [↓evE.eq_1, ↓evE.eq_2, ↓evE.eq_3, ↓evE.eq_4, ↓evE.eq_5, ↓evE.eq_6, ↓evE.eq_7, ↓evE.eq_8, ↓evE.eq_9, ↓evE.eq_10, ↓evE.eq_11, ↓evE.eq_12, ↓evE.eq_13, ↓evE.eq_14, ↓evE.eq_15, ↓evE.eq_16, ↓evE.eq_17, ↓evE.eq_18, ↓evE.eq_19, ↓evE.eq_20, ↓evE.eq_21, ↓evE.eq_22, ↓evE.eq_23, ↓evE.eq_24, ↓evE.eq_25, ↓evE.eq_26, ↓evE.eq_27, ↓evE.eq_28, ↓evE.eq_29, ↓evE.eq_30, ↓evE.eq_31, ↓evE.eq_32, ↓evE.eq_33, ↓evE.eq_34, ↓evE.eq_35, ↓evE.eq_36, ↓evE.eq_37, ↓evE.eq_38, ↓evS.eq_1, ↓evS_seq, ↓evS.eq_3, ↓evS.eq_4, ↓evS.eq_5, ↓evS.eq_6, ↓evS.eq_7, ↓evS.eq_8, ↓evS_ite, ↓iteS, ↓evS.eq_11, ↓evS.eq_12, ↓evS.eq_13, ↓evS.eq_14, ↓evS.eq_15, ↓evS.eq_16, ↓evS.eq_17, ↓evS_for, ↓evA.eq_1, ↓evA.eq_2, ↓evT.eq_1, ↓evT.eq_2, ↓evO.eq_1, ↓evO.eq_2, ↓evI.eq_1, ↓evI.eq_2, ↓evI.eq_3, ↓evI.eq_4, ↓evI.eq_5, ↓evF.eq_1, ↓evF.eq_2, ↓m_bind, ↓m_then, ↓m_opt, SRes.bind_nx, SRes.bind_rt, SRes.bind_bk, SRes.bind_ct, SRes.bind_ex, SRes.bind_bad, at_call, at_glo, at_fuel, SRes.back, List.getElem?_cons_zero, List.getElem?_cons_succ, List.set_cons_zero, List.set_cons_succ, asgT, asgTs, cmpV, truV, binV, bltV, tyN, tyLe, subV, Option.map_some, Option.map_none, List.any_cons, List.any_nil, if_true, if_false, ite_true, ite_false, String.reduceBEq, Nat.reduceAdd, Bool.or_false, Bool.false_or, Bool.or_true, Bool.true_or, Bool.and_true, Bool.true_and, Bool.and_false, Bool.false_and, Bool.not_true, Bool.not_false, beq_self_eq_true, decide_true, decide_false, reduceCtorEq, Bool.false_eq_true, Ev.keyOf, dctKeys, List.length_cons, List.length_nil, List.zip_cons_cons, List.zip_nil_left, List.zip_nil_right, List.foldl_cons, List.foldl_nil, methV, setV, isL, permL_cons, permL_nil, List.map_cons, List.map_nil, valP_cons, valP_nil, key_str, key_int, ofString_eq, String.reduceEq, putP, sizeLine_eq, Nat.reduceLT, Nat.reduceLeDiff, sto_self, mulOk, powOk, divOk, Int.reducePow, Nat.reducePow, Int.reduceNeg, Int.reduceLT, Int.reduceLE, natAbs64, natAbs30, Int.reduceToNat, Int.reduceEq, Int.reduceAdd, Int.reduceSub, Int.reduceMul, ne_eq, not_false_eq_true, Int.reduceNe, Ev.alloc, Ev.eq_ii, Ev.eq_ss, Ev.eq_bb, Ev.eq_nn, Ev.eq_ni, Ev.eq_in, Ev.eq_ns, Ev.eq_sn, Ev.eq_nb, Ev.eq_bn, Ev.eq_is, Ev.eq_si, and_self, true_and, and_true, fmod_lt64, fmod_gt64, atI_0, atI_1, atI_2, atI_3, atI_4, atI_5, atI_6, atI_7, atI_8, atI_9, itemsV, smV, fmtV, lenSetV, seqOf, lstOf, slcV, revV, srcOf, optI, List.nil_append, List.cons_append, sto_new, intsP, sortI, insI, compL, compG, wipeP, boolsP, List.all_cons, List.all_nil, id_eq, keep_nil, maxI, minI, intsP, cutf_1, cutf_2, cutf_3, cutf_4, cutt_1, cutt_2, cutt_3, cutt_4, List.drop_succ_cons, List.drop_zero, List.take_succ_cons, List.take_zero, Int.cast_ofNat_Int, false_and, and_false, or_self, or_false, false_or, true_or, or_true, lit_e, tS_len, tS_cat, tS_eq, tS_lt, List.toList_toArray, g_MOST_WORD, g_LETTERS, g_MOST_POOL, g_MOST_WEIGHT, g_MOST_TURNS, GC.pv, hb, e3, cw', ca, hv, ↓e5]
        · have cw' : (way = 4) = False := eq_false cw
          simp only [↓evE.eq_1, ↓evE.eq_2, ↓evE.eq_3, ↓evE.eq_4, ↓evE.eq_5, ↓evE.eq_6, ↓evE.eq_7, ↓evE.eq_8, ↓evE.eq_9, ↓evE.eq_10, ↓evE.eq_11, ↓evE.eq_12, ↓evE.eq_13, ↓evE.eq_14, ↓evE.eq_15, ↓evE.eq_16, ↓evE.eq_17, ↓evE.eq_18, ↓evE.eq_19, ↓evE.eq_20, ↓evE.eq_21, ↓evE.eq_22, ↓evE.eq_23, ↓evE.eq_24, ↓evE.eq_25, ↓evE.eq_26, ↓evE.eq_27, ↓evE.eq_28, ↓evE.eq_29, ↓evE.eq_30, ↓evE.eq_31, ↓evE.eq_32, ↓evE.eq_33, ↓evE.eq_34, ↓evE.eq_35, ↓evE.eq_36, ↓evE.eq_37, ↓evE.eq_38, ↓evS.eq_1, ↓evS_seq, ↓evS.eq_3, ↓evS.eq_4, ↓evS.eq_5, ↓evS.eq_6, ↓evS.eq_7, ↓evS.eq_8, ↓evS_ite, ↓iteS, ↓evS.eq_11, ↓evS.eq_12, ↓evS.eq_13, ↓evS.eq_14, ↓evS.eq_15, ↓evS.eq_16, ↓evS.eq_17, ↓evS_for, ↓evA.eq_1, ↓evA.eq_2, ↓evT.eq_1, ↓evT.eq_2, ↓evO.eq_1, ↓evO.eq_2, ↓evI.eq_1, ↓evI.eq_2, ↓evI.eq_3, ↓evI.eq_4, ↓evI.eq_5, ↓evF.eq_1, ↓evF.eq_2, ↓m_bind, ↓m_then, ↓m_opt, SRes.bind_nx, SRes.bind_rt, SRes.bind_bk, SRes.bind_ct, SRes.bind_ex, SRes.bind_bad, at_call, at_glo, at_fuel, SRes.back, List.getElem?_cons_zero, List.getElem?_cons_succ, List.set_cons_zero, List.set_cons_succ, asgT, asgTs, cmpV, truV, binV, bltV, tyN, tyLe, subV, Option.map_some, Option.map_none, List.any_cons, List.any_nil, if_true, if_false, ite_true, ite_false, String.reduceBEq, Nat.reduceAdd, Bool.or_false, Bool.false_or, Bool.or_true, Bool.true_or, Bool.and_true, Bool.true_and, Bool.and_false, Bool.false_and, Bool.not_true, Bool.not_false, beq_self_eq_true, decide_true, decide_false, reduceCtorEq, Bool.false_eq_true, Ev.keyOf, dctKeys, List.length_cons, List.length_nil, List.zip_cons_cons, List.zip_nil_left, List.zip_nil_right, List.foldl_cons, List.foldl_nil, methV, setV, isL, permL_cons, permL_nil, List.map_cons, List.map_nil, valP_cons, valP_nil, key_str, key_int, ofString_eq, String.reduceEq, putP, sizeLine_eq, Nat.reduceLT, Nat.reduceLeDiff, sto_self, mulOk, powOk, divOk, Int.reducePow, Nat.reducePow, Int.reduceNeg, Int.reduceLT, Int.reduceLE, natAbs64, natAbs30, Int.reduceToNat, Int.reduceEq, Int.reduceAdd, Int.reduceSub, Int.reduceMul, ne_eq, not_false_eq_true, Int.reduceNe, Ev.alloc, Ev.eq_ii, Ev.eq_ss, Ev.eq_bb, Ev.eq_nn, Ev.eq_ni, Ev.eq_in, Ev.eq_ns, Ev.eq_sn, Ev.eq_nb, Ev.eq_bn, Ev.eq_is, Ev.eq_si, and_self, true_and, and_true, fmod_lt64, fmod_gt64, atI_0, atI_1, atI_2, atI_3, atI_4, atI_5, atI_6, atI_7, atI_8, atI_9, itemsV, smV, fmtV, lenSetV, seqOf, lstOf, slcV, revV, srcOf, optI, List.nil_append, List.cons_append, sto_new, intsP, sortI, insI, compL, compG, wipeP, boolsP, List.all_cons, List.all_nil, id_eq, keep_nil, maxI, minI, intsP, cutf_1, cutf_2, cutf_3, cutf_4, cutt_1, cutt_2, cutt_3, cutt_4, List.drop_succ_cons, List.drop_zero, List.take_succ_cons, List.take_zero, Int.cast_ofNat_Int, false_and, and_false, or_self, or_false, false_or, true_or, or_true, lit_e, tS_len, tS_cat, tS_eq, tS_lt, List.toList_toArray, g_MOST_WORD, g_LETTERS, g_MOST_POOL, g_MOST_WEIGHT, g_MOST_TURNS, GC.pv, hb, e3, cw', hv, ↓e5])
  obtain ⟨h7, h9⟩ := h7
  have ha : a = q := by
    rcases Nat.lt_or_ge a q with q' | q'
    · rw [show q - a = (q - (a + 1)) + 1 by omega, List.range'_succ] at h1; cases h1
    · omega
  subst h2
  simp only [↓evE.eq_1, ↓evE.eq_2, ↓evE.eq_3, ↓evE.eq_4, ↓evE.eq_5, ↓evE.eq_6, ↓evE.eq_7, ↓evE.eq_8, ↓evE.eq_9, ↓evE.eq_10, ↓evE.eq_11, ↓evE.eq_12, ↓evE.eq_13, ↓evE.eq_14, ↓evE.eq_15, ↓evE.eq_16, ↓evE.eq_17, ↓evE.eq_18, ↓evE.eq_19, ↓evE.eq_20, ↓evE.eq_21, ↓evE.eq_22, ↓evE.eq_23, ↓evE.eq_24, ↓evE.eq_25, ↓evE.eq_26, ↓evE.eq_27, ↓evE.eq_28, ↓evE.eq_29, ↓evE.eq_30, ↓evE.eq_31, ↓evE.eq_32, ↓evE.eq_33, ↓evE.eq_34, ↓evE.eq_35, ↓evE.eq_36, ↓evE.eq_37, ↓evE.eq_38, ↓evS.eq_1, ↓evS_seq, ↓evS.eq_3, ↓evS.eq_4, ↓evS.eq_5, ↓evS.eq_6, ↓evS.eq_7, ↓evS.eq_8, ↓evS_ite, ↓iteS, ↓evS.eq_11, ↓evS.eq_12, ↓evS.eq_13, ↓evS.eq_14, ↓evS.eq_15, ↓evS.eq_16, ↓evS.eq_17, ↓evS_for, ↓evA.eq_1, ↓evA.eq_2, ↓evT.eq_1, ↓evT.eq_2, ↓evO.eq_1, ↓evO.eq_2, ↓evI.eq_1, ↓evI.eq_2, ↓evI.eq_3, ↓evI.eq_4, ↓evI.eq_5, ↓evF.eq_1, ↓evF.eq_2, ↓m_bind, ↓m_then, ↓m_opt, SRes.bind_nx, SRes.bind_rt, SRes.bind_bk, SRes.bind_ct, SRes.bind_ex, SRes.bind_bad, at_call, at_glo, at_fuel, SRes.back, List.getElem?_cons_zero, List.getElem?_cons_succ, List.set_cons_zero, List.set_cons_succ, asgT, asgTs, cmpV, truV, binV, bltV, tyN, tyLe, subV, Option.map_some, Option.map_none, List.any_cons, List.any_nil, if_true, if_false, ite_true, ite_false, String.reduceBEq, Nat.reduceAdd, Bool.or_false, Bool.false_or, Bool.or_true, Bool.true_or, Bool.and_true, Bool.true_and, Bool.and_false, Bool.false_and, Bool.not_true, Bool.not_false, beq_self_eq_true, decide_true, decide_false, reduceCtorEq, Bool.false_eq_true, Ev.keyOf, dctKeys, List.length_cons, List.length_nil, List.zip_cons_cons, List.zip_nil_left, List.zip_nil_right, List.foldl_cons, List.foldl_nil, methV, setV, isL, permL_cons, permL_nil, List.map_cons, List.map_nil, valP_cons, valP_nil, key_str, key_int, ofString_eq, String.reduceEq, putP, sizeLine_eq, Nat.reduceLT, Nat.reduceLeDiff, sto_self, mulOk, powOk, divOk, Int.reducePow, Nat.reducePow, Int.reduceNeg, Int.reduceLT, Int.reduceLE, natAbs64, natAbs30, Int.reduceToNat, Int.reduceEq, Int.reduceAdd, Int.reduceSub, Int.reduceMul, ne_eq, not_false_eq_true, Int.reduceNe, Ev.alloc, Ev.eq_ii, Ev.eq_ss, Ev.eq_bb, Ev.eq_nn, Ev.eq_ni, Ev.eq_in, Ev.eq_ns, Ev.eq_sn, Ev.eq_nb, Ev.eq_bn, Ev.eq_is, Ev.eq_si, and_self, true_and, and_true, fmod_lt64, fmod_gt64, atI_0, atI_1, atI_2, atI_3, atI_4, atI_5, atI_6, atI_7, atI_8, atI_9, itemsV, smV, fmtV, lenSetV, seqOf, lstOf, slcV, revV, srcOf, optI, List.nil_append, List.cons_append, sto_new, intsP, sortI, insI, compL, compG, wipeP, boolsP, List.all_cons, List.all_nil, id_eq, keep_nil, maxI, minI, intsP, cutf_1, cutf_2, cutf_3, cutf_4, cutt_1, cutt_2, cutt_3, cutt_4, List.drop_succ_cons, List.drop_zero, List.take_succ_cons, List.take_zero, Int.cast_ofNat_Int, false_and, and_false, or_self, or_false, false_or, true_or, or_true, lit_e, tS_len, tS_cat, tS_eq, tS_lt, List.toList_toArray, g_MOST_WORD, g_LETTERS, g_MOST_POOL, g_MOST_WEIGHT, g_MOST_TURNS, GC.pv, h4]
  refine ⟨dn, M', rfl, h6.pool (by omega), h5, ?_⟩
  have kA : Keep [i, j] M M2 := k1.trans k2
  refine kA.trans ⟨by have := h8.len; simp at this; omega, fun k hk hn => ?_⟩
  rw [h8.2 k (by simp; omega) (by simp only [List.mem_cons, List.not_mem_nil, or_false] at hn ⊢; omega), List.append_assoc]
  exact List.getElem?_append_left hk
end K18

set_option Elab.async false
set_option linter.all false
set_option maxRecDepth 100000
set_option maxHeartbeats 4000000
/-! K18y: the law. -/
namespace K18
open PySem L2 Ev
theorem repr_lst {M : Sto} {i : Nat} {xs : List PV} (h : M[i]? = some (.lst xs)) (hm : minis xs = true) (hs : (pd (.rol xs)).bulk ≤ 1000000) (hd : (pd (.rol xs)).depth ≤ 64) : reprV M (.ref i) = some (pd (.rol xs)).shown := by
  have hm' : mini (.rol xs) = true := by simpa only [mini] using hm
  have hf := mini_fine _ hm'
  obtain ⟨_, h2, h3, _⟩ := fine_ok _ hf
  have e : dat M (.ref i) = some (pd (.rol xs)) := by
    rw [dat_lst h, dats_fine _ xs (minis_fine xs hm)]
    simp only [pd, Option.map_some]
  unfold reprV
  rw [e]
  exact if_pos ⟨h2, PyData.shown_fits_bulk (B := 12) (by decide) (by decide) (mini_short _ hm') (by omega), hd, h3⟩
theorem in_lst {M : Sto} {a : Nat} {ns : List Int} (h : M[a]? = some (.lst (ns.map .int))) (n : Int) : Ev.inV M (.int n) (.ref a) = some (decide (n ∈ ns)) := by
  have e : Ev.inV M (.int n) (.ref a) = (match lstOf M a with
    | some ys => match (PV.int n).atom, atoms ys with
      | some v, some vs => if flatV v = true ∧ vs.all flatV = true then some (L2.inV v vs) else none
      | _, _ => none
    | none => none) := rfl
  have e1 : lstOf M a = some (ns.map .int) := by unfold lstOf; rw [h]
  rw [e, e1]
  show (match (PV.int n).atom, atoms (ns.map .int) with
      | some v, some vs => if flatV v = true ∧ vs.all flatV = true then some (L2.inV v vs) else none
      | _, _ => none) = _
  rw [atoms_ints]
  show (if flatV (V.int n) = true ∧ (ns.map V.int).all flatV = true then some (L2.inV (V.int n) (ns.map .int)) else none) = _
  rw [if_pos ⟨rfl, by simp [List.all_map, flatV]⟩, inv_int]
theorem whole_ok (n : Nat) (M : Sto) (a b c : Int) : callN T (n + 1) "_law_is_whole" [.int a, .int b, .int c] M = .ok (.bl (decide (b ≤ a ∧ a ≤ c))) M := by
  rw [e__law_is_whole]
  unfold c__law_is_whole
  by_cases h1 : b ≤ a
  · by_cases h2 : a ≤ c
    · simp only [↓evE.eq_1, ↓evE.eq_2, ↓evE.eq_3, ↓evE.eq_4, ↓evE.eq_5, ↓evE.eq_6, ↓evE.eq_7, ↓evE.eq_8, ↓evE.eq_9, ↓evE.eq_10, ↓evE.eq_11, ↓evE.eq_12, ↓evE.eq_13, ↓evE.eq_14, ↓evE.eq_15, ↓evE.eq_16, ↓evE.eq_17, ↓evE.eq_18, ↓evE.eq_19, ↓evE.eq_20, ↓evE.eq_21, ↓evE.eq_22, ↓evE.eq_23, ↓evE.eq_24, ↓evE.eq_25, ↓evE.eq_26, ↓evE.eq_27, ↓evE.eq_28, ↓evE.eq_29, ↓evE.eq_30, ↓evE.eq_31, ↓evE.eq_32, ↓evE.eq_33, ↓evE.eq_34, ↓evE.eq_35, ↓evE.eq_36, ↓evE.eq_37, ↓evE.eq_38, ↓evS.eq_1, ↓evS_seq, ↓evS.eq_3, ↓evS.eq_4, ↓evS.eq_5, ↓evS.eq_6, ↓evS.eq_7, ↓evS.eq_8, ↓evS_ite, ↓iteS, ↓evS.eq_11, ↓evS.eq_12, ↓evS.eq_13, ↓evS.eq_14, ↓evS.eq_15, ↓evS.eq_16, ↓evS.eq_17, ↓evS_for, ↓evA.eq_1, ↓evA.eq_2, ↓evT.eq_1, ↓evT.eq_2, ↓evO.eq_1, ↓evO.eq_2, ↓evI.eq_1, ↓evI.eq_2, ↓evI.eq_3, ↓evI.eq_4, ↓evI.eq_5, ↓evF.eq_1, ↓evF.eq_2, ↓m_bind, ↓m_then, ↓m_opt, SRes.bind_nx, SRes.bind_rt, SRes.bind_bk, SRes.bind_ct, SRes.bind_ex, SRes.bind_bad, at_call, at_glo, at_fuel, SRes.back, List.getElem?_cons_zero, List.getElem?_cons_succ, List.set_cons_zero, List.set_cons_succ, asgT, asgTs, cmpV, truV, binV, bltV, tyN, tyLe, subV, Option.map_some, Option.map_none, List.any_cons, List.any_nil, if_true, if_false, ite_true, ite_false, String.reduceBEq, Nat.reduceAdd, Bool.or_false, Bool.false_or, Bool.or_true, Bool.true_or, Bool.and_true, Bool.true_and, Bool.and_false, Bool.false_and, Bool.not_true, Bool.not_false, beq_self_eq_true, decide_true, decide_false, reduceCtorEq, Bool.false_eq_true, Ev.keyOf, dctKeys, List.length_cons, List.length_nil, List.zip_cons_cons, List.zip_nil_left, List.zip_nil_right, List.foldl_cons, List.foldl_nil, methV, setV, isL, permL_cons, permL_nil, List.map_cons, List.map_nil, valP_cons, valP_nil, key_str, key_int, ofString_eq, String.reduceEq, putP, sizeLine_eq, Nat.reduceLT, Nat.reduceLeDiff, sto_self, mulOk, powOk, divOk, Int.reducePow, Nat.reducePow, Int.reduceNeg, Int.reduceLT, Int.reduceLE, natAbs64, natAbs30, Int.reduceToNat, Int.reduceEq, Int.reduceAdd, Int.reduceSub, Int.reduceMul, ne_eq, not_false_eq_true, Int.reduceNe, Ev.alloc, Ev.eq_ii, Ev.eq_ss, Ev.eq_bb, Ev.eq_nn, Ev.eq_ni, Ev.eq_in, Ev.eq_ns, Ev.eq_sn, Ev.eq_nb, Ev.eq_bn, Ev.eq_is, Ev.eq_si, and_self, true_and, and_true, fmod_lt64, fmod_gt64, atI_0, atI_1, atI_2, atI_3, atI_4, atI_5, atI_6, atI_7, atI_8, atI_9, itemsV, smV, fmtV, lenSetV, seqOf, lstOf, slcV, revV, srcOf, optI, List.nil_append, List.cons_append, sto_new, intsP, sortI, insI, compL, compG, wipeP, boolsP, List.all_cons, List.all_nil, id_eq, keep_nil, maxI, minI, intsP, cutf_1, cutf_2, cutf_3, cutf_4, cutt_1, cutt_2, cutt_3, cutt_4, List.drop_succ_cons, List.drop_zero, List.take_succ_cons, List.take_zero, Int.cast_ofNat_Int, false_and, and_false, or_self, or_false, false_or, true_or, or_true, lit_e, tS_len, tS_cat, tS_eq, tS_lt, List.toList_toArray, g_MOST_WORD, g_LETTERS, g_MOST_POOL, g_MOST_WEIGHT, g_MOST_TURNS, GC.pv, h1, h2]
    · simp only [↓evE.eq_1, ↓evE.eq_2, ↓evE.eq_3, ↓evE.eq_4, ↓evE.eq_5, ↓evE.eq_6, ↓evE.eq_7, ↓evE.eq_8, ↓evE.eq_9, ↓evE.eq_10, ↓evE.eq_11, ↓evE.eq_12, ↓evE.eq_13, ↓evE.eq_14, ↓evE.eq_15, ↓evE.eq_16, ↓evE.eq_17, ↓evE.eq_18, ↓evE.eq_19, ↓evE.eq_20, ↓evE.eq_21, ↓evE.eq_22, ↓evE.eq_23, ↓evE.eq_24, ↓evE.eq_25, ↓evE.eq_26, ↓evE.eq_27, ↓evE.eq_28, ↓evE.eq_29, ↓evE.eq_30, ↓evE.eq_31, ↓evE.eq_32, ↓evE.eq_33, ↓evE.eq_34, ↓evE.eq_35, ↓evE.eq_36, ↓evE.eq_37, ↓evE.eq_38, ↓evS.eq_1, ↓evS_seq, ↓evS.eq_3, ↓evS.eq_4, ↓evS.eq_5, ↓evS.eq_6, ↓evS.eq_7, ↓evS.eq_8, ↓evS_ite, ↓iteS, ↓evS.eq_11, ↓evS.eq_12, ↓evS.eq_13, ↓evS.eq_14, ↓evS.eq_15, ↓evS.eq_16, ↓evS.eq_17, ↓evS_for, ↓evA.eq_1, ↓evA.eq_2, ↓evT.eq_1, ↓evT.eq_2, ↓evO.eq_1, ↓evO.eq_2, ↓evI.eq_1, ↓evI.eq_2, ↓evI.eq_3, ↓evI.eq_4, ↓evI.eq_5, ↓evF.eq_1, ↓evF.eq_2, ↓m_bind, ↓m_then, ↓m_opt, SRes.bind_nx, SRes.bind_rt, SRes.bind_bk, SRes.bind_ct, SRes.bind_ex, SRes.bind_bad, at_call, at_glo, at_fuel, SRes.back, List.getElem?_cons_zero, List.getElem?_cons_succ, List.set_cons_zero, List.set_cons_succ, asgT, asgTs, cmpV, truV, binV, bltV, tyN, tyLe, subV, Option.map_some, Option.map_none, List.any_cons, List.any_nil, if_true, if_false, ite_true, ite_false, String.reduceBEq, Nat.reduceAdd, Bool.or_false, Bool.false_or, Bool.or_true, Bool.true_or, Bool.and_true, Bool.true_and, Bool.and_false, Bool.false_and, Bool.not_true, Bool.not_false, beq_self_eq_true, decide_true, decide_false, reduceCtorEq, Bool.false_eq_true, Ev.keyOf, dctKeys, List.length_cons, List.length_nil, List.zip_cons_cons, List.zip_nil_left, List.zip_nil_right, List.foldl_cons, List.foldl_nil, methV, setV, isL, permL_cons, permL_nil, List.map_cons, List.map_nil, valP_cons, valP_nil, key_str, key_int, ofString_eq, String.reduceEq, putP, sizeLine_eq, Nat.reduceLT, Nat.reduceLeDiff, sto_self, mulOk, powOk, divOk, Int.reducePow, Nat.reducePow, Int.reduceNeg, Int.reduceLT, Int.reduceLE, natAbs64, natAbs30, Int.reduceToNat, Int.reduceEq, Int.reduceAdd, Int.reduceSub, Int.reduceMul, ne_eq, not_false_eq_true, Int.reduceNe, Ev.alloc, Ev.eq_ii, Ev.eq_ss, Ev.eq_bb, Ev.eq_nn, Ev.eq_ni, Ev.eq_in, Ev.eq_ns, Ev.eq_sn, Ev.eq_nb, Ev.eq_bn, Ev.eq_is, Ev.eq_si, and_self, true_and, and_true, fmod_lt64, fmod_gt64, atI_0, atI_1, atI_2, atI_3, atI_4, atI_5, atI_6, atI_7, atI_8, atI_9, itemsV, smV, fmtV, lenSetV, seqOf, lstOf, slcV, revV, srcOf, optI, List.nil_append, List.cons_append, sto_new, intsP, sortI, insI, compL, compG, wipeP, boolsP, List.all_cons, List.all_nil, id_eq, keep_nil, maxI, minI, intsP, cutf_1, cutf_2, cutf_3, cutf_4, cutt_1, cutt_2, cutt_3, cutt_4, List.drop_succ_cons, List.drop_zero, List.take_succ_cons, List.take_zero, Int.cast_ofNat_Int, false_and, and_false, or_self, or_false, false_or, true_or, or_true, lit_e, tS_len, tS_cat, tS_eq, tS_lt, List.toList_toArray, g_MOST_WORD, g_LETTERS, g_MOST_POOL, g_MOST_WEIGHT, g_MOST_TURNS, GC.pv, h1, h2]
  · simp only [↓evE.eq_1, ↓evE.eq_2, ↓evE.eq_3, ↓evE.eq_4, ↓evE.eq_5, ↓evE.eq_6, ↓evE.eq_7, ↓evE.eq_8, ↓evE.eq_9, ↓evE.eq_10, ↓evE.eq_11, ↓evE.eq_12, ↓evE.eq_13, ↓evE.eq_14, ↓evE.eq_15, ↓evE.eq_16, ↓evE.eq_17, ↓evE.eq_18, ↓evE.eq_19, ↓evE.eq_20, ↓evE.eq_21, ↓evE.eq_22, ↓evE.eq_23, ↓evE.eq_24, ↓evE.eq_25, ↓evE.eq_26, ↓evE.eq_27, ↓evE.eq_28, ↓evE.eq_29, ↓evE.eq_30, ↓evE.eq_31, ↓evE.eq_32, ↓evE.eq_33, ↓evE.eq_34, ↓evE.eq_35, ↓evE.eq_36, ↓evE.eq_37, ↓evE.eq_38, ↓evS.eq_1, ↓evS_seq, ↓evS.eq_3, ↓evS.eq_4, ↓evS.eq_5, ↓evS.eq_6, ↓evS.eq_7, ↓evS.eq_8, ↓evS_ite, ↓iteS, ↓evS.eq_11, ↓evS.eq_12, ↓evS.eq_13, ↓evS.eq_14, ↓evS.eq_15, ↓evS.eq_16, ↓evS.eq_17, ↓evS_for, ↓evA.eq_1, ↓evA.eq_2, ↓evT.eq_1, ↓evT.eq_2, ↓evO.eq_1, ↓evO.eq_2, ↓evI.eq_1, ↓evI.eq_2, ↓evI.eq_3, ↓evI.eq_4, ↓evI.eq_5, ↓evF.eq_1, ↓evF.eq_2, ↓m_bind, ↓m_then, ↓m_opt, SRes.bind_nx, SRes.bind_rt, SRes.bind_bk, SRes.bind_ct, SRes.bind_ex, SRes.bind_bad, at_call, at_glo, at_fuel, SRes.back, List.getElem?_cons_zero, List.getElem?_cons_succ, List.set_cons_zero, List.set_cons_succ, asgT, asgTs, cmpV, truV, binV, bltV, tyN, tyLe, subV, Option.map_some, Option.map_none, List.any_cons, List.any_nil, if_true, if_false, ite_true, ite_false, String.reduceBEq, Nat.reduceAdd, Bool.or_false, Bool.false_or, Bool.or_true, Bool.true_or, Bool.and_true, Bool.true_and, Bool.and_false, Bool.false_and, Bool.not_true, Bool.not_false, beq_self_eq_true, decide_true, decide_false, reduceCtorEq, Bool.false_eq_true, Ev.keyOf, dctKeys, List.length_cons, List.length_nil, List.zip_cons_cons, List.zip_nil_left, List.zip_nil_right, List.foldl_cons, List.foldl_nil, methV, setV, isL, permL_cons, permL_nil, List.map_cons, List.map_nil, valP_cons, valP_nil, key_str, key_int, ofString_eq, String.reduceEq, putP, sizeLine_eq, Nat.reduceLT, Nat.reduceLeDiff, sto_self, mulOk, powOk, divOk, Int.reducePow, Nat.reducePow, Int.reduceNeg, Int.reduceLT, Int.reduceLE, natAbs64, natAbs30, Int.reduceToNat, Int.reduceEq, Int.reduceAdd, Int.reduceSub, Int.reduceMul, ne_eq, not_false_eq_true, Int.reduceNe, Ev.alloc, Ev.eq_ii, Ev.eq_ss, Ev.eq_bb, Ev.eq_nn, Ev.eq_ni, Ev.eq_in, Ev.eq_ns, Ev.eq_sn, Ev.eq_nb, Ev.eq_bn, Ev.eq_is, Ev.eq_si, and_self, true_and, and_true, fmod_lt64, fmod_gt64, atI_0, atI_1, atI_2, atI_3, atI_4, atI_5, atI_6, atI_7, atI_8, atI_9, itemsV, smV, fmtV, lenSetV, seqOf, lstOf, slcV, revV, srcOf, optI, List.nil_append, List.cons_append, sto_new, intsP, sortI, insI, compL, compG, wipeP, boolsP, List.all_cons, List.all_nil, id_eq, keep_nil, maxI, minI, intsP, cutf_1, cutf_2, cutf_3, cutf_4, cutt_1, cutt_2, cutt_3, cutt_4, List.drop_succ_cons, List.drop_zero, List.take_succ_cons, List.take_zero, Int.cast_ofNat_Int, false_and, and_false, or_self, or_false, false_or, true_or, or_true, lit_e, tS_len, tS_cat, tS_eq, tS_lt, List.toList_toArray, g_MOST_WORD, g_LETTERS, g_MOST_POOL, g_MOST_WEIGHT, g_MOST_TURNS, GC.pv, h1]
theorem mini_cn {P : Pool} (hP : IsPool P) {m : Nat} (hm : m ≤ 4000) : minis ((cn P m).map iV) = true ∧ (cn P m).length ≤ 8 ∧ PyData.depthAll (pds ((cn P m).map iV)) ≤ 0 ∧ PyData.bulkAll (pds ((cn P m).map iV)) = (cn P m).length := by
  obtain ⟨_, f2, f3⟩ := fine_iV (l := cn P m) (fun a ha => by have := cn_le hP m ha; omega)
  refine ⟨minis_all fun x hx => ?_, by rw [cn_len hP]; exact hP.le, f2, f3⟩
  obtain ⟨a, ha, rfl⟩ := List.mem_map.mp hx
  have := cn_le hP m ha
  simp only [mini, decide_eq_true_eq]
  omega
theorem tn_lt {P : Pool} (hP : IsPool P) (m : Nat) : tn P m < P.length := by
  have := (tr_nxt (isW hP).hp (isW hP).sum (isW hP).W0 m).lt
  rw [ws_len] at this
  exact this
theorem repr_c {P : Pool} (hP : IsPool P) {m : Nat} (hm : m ≤ 4000) : ∃ t, ∀ M, reprV M (.tup ((cn P m).map iV)) = some t := by
  obtain ⟨h1, h2, h3, h4⟩ := mini_cn hP hm
  exact ⟨_, fun M => repr_mini (by simpa only [mini] using h1) (by simp only [pd, PyData.bulk, h4]; omega) (by simp only [pd, PyData.depth]; omega)⟩
theorem repr_tc {P : Pool} (hP : IsPool P) {m : Nat} (hm : m ≤ 4000) : ∃ t, ∀ M, reprV M (.tup [iV (tn P m), .tup ((cn P m).map iV)]) = some t := by
  obtain ⟨h1, h2, h3, h4⟩ := mini_cn hP hm
  have hl := tn_lt hP m
  have := hP.le
  refine ⟨_, fun M => repr_mini (x := .tup [iV (tn P m), .tup ((cn P m).map iV)]) ?_ ?_ ?_⟩
  · simp only [mini, minis, h1, Bool.and_true, decide_eq_true_eq]; omega
  · simp only [pd, pds, PyData.bulk, PyData.bulkAll, h4]; omega
  · simp only [pd, pds, PyData.depth, PyData.depthAll]; omega
theorem repr_told {P : Pool} (hP : IsPool P) {m : Nat} (hm : m ≤ 4000) : ∃ t, ∀ M, reprV M (.tup ((List.range m).map fun k => iV (tn P k))) = some t := by
  have hf : ∀ a ∈ (List.range m).map (tn P), a < 100000 := fun a ha => by
    obtain ⟨k, _, rfl⟩ := List.mem_map.mp ha
    have := tn_lt hP k
    have := hP.le
    omega
  obtain ⟨_, f2, f3⟩ := fine_iV hf
  have e : ((List.range m).map fun k => iV (tn P k)) = ((List.range m).map (tn P)).map iV := by rw [List.map_map]; rfl
  have hl : ((List.range m).map (tn P)).length = m := by simp
  refine ⟨_, fun M => repr_mini (x := .tup ((List.range m).map fun k => iV (tn P k))) ?_ ?_ ?_⟩
  · simp only [mini]
    refine minis_all fun x hx => ?_
    obtain ⟨k, _, rfl⟩ := List.mem_map.mp hx
    have := tn_lt hP k
    have := hP.le
    simp only [mini, decide_eq_true_eq]
    omega
  · rw [e]; simp only [pd, PyData.bulk, f3]; omega
  · rw [e]; simp only [pd, PyData.depth]; omega
theorem set_cn {P : Pool} (hP : IsPool P) (m : Nat) : ((cn P m).map iV).set (tn P m) (.int ((Get (cn P m) (tn P m) : Nat) + 1)) = (cn P (m + 1)).map iV := by
  show _ = (inc (cn P m) (tn P m)).map iV
  unfold inc
  rw [List.map_set]
  rfl
def b_turn : CS := Q (.ite (.or (.not (.call "_law_is_whole" (A (V 10) (A (I 0) (A (.bin .Sub (.blt .len (A (V 3) (E_))) (I 1)) (E_)))))) (.not (.call "_law_is_next" (A (V 3) (A (V 6) (A (.bin .Add (V 9) (I 1)) (A (V 10) (E_)))))))) (Q (.ret (.bl false)) (N_)) (N_)) (Q (.ite (.cmp .In (V 9) (V 7)) (Q (.asg (.nm 11) (.blt .tuple (A (V 6) (E_)))) (Q (.ite (.cmp .NotEq (.blt .repr (A (.tup (A (.call "next_turn" (A (V 3) (A (V 11) (E_)))) (A (.call "counts_after" (A (V 3) (A (V 9) (E_)))) (E_)))) (E_))) (.blt .repr (A (.tup (A (V 10) (A (V 11) (E_)))) (E_)))) (Q (.ret (.bl false)) (N_)) (N_)) (N_))) (N_)) (Q (.asgS (V 6) (V 10) (.bin .Add (.sub (V 6) (V 10)) (I 1))) (Q (.ite (.not (.call "_law_is_share" (A (V 3) (A (V 6) (A (.bin .Add (V 9) (I 1)) (E_)))))) (Q (.ret (.bl false)) (N_)) (N_)) (N_))))
theorem ix_nat {k n : Nat} (h : k < n) : ixN n ((k : Nat) : Int) = some k := by
  unfold ixN
  rw [if_pos (by omega), if_pos (by omega)]
  simp
theorem turn_step (N : Nat) {n : Nat} (hN : N = n + 6) {M : Sto} {P : Pool} (hP : IsPool P) {k CI AI : Nat} (hk : k ≤ 3000) {ns : List Int} (hC : M[CI]? = some (.lst ((cn P k).map iV))) (hA : M[AI]? = some (.lst (ns.map .int))) (h0 : TB M) (hc0 : CI ≠ 0)
    (v0 v1 v2 v4 v5 v8 v9 v10 v11 v12 : Option PV) :
    ∃ e11 M', forB (.tp (.cons (.nm 9) (.cons (.nm 10) .nil))) (evS (T.at N) b_turn) (.tup [iV k, iV (tn P k)]) [v0, v1, v2, some (pV P), v4, v5, some (.ref CI), some (.ref AI), v8, v9, v10, v11, v12] M = .nx [v0, v1, v2, some (pV P), v4, v5, some (.ref CI), some (.ref AI), v8, some (iV k), some (iV (tn P k)), e11, v12] M' ∧
      M'[CI]? = some (.lst ((cn P (k + 1)).map iV)) ∧ Keep [CI] M M' := by
  have hl := tn_lt hP k
  have h8 := hP.le
  obtain ⟨q, hq⟩ : ∃ q : Int, q = (P.length : Nat) := ⟨_, rfl⟩
  have hq' : (((P.map eV).length : Nat) : Int) = q := by rw [hq, List.length_map]
  have e1 : ∀ M, callN T N "_law_is_whole" [iV (tn P k), .int 0, .int (q - 1)] M = .ok (.bl true) M := fun M => by
    rw [hN, whole_ok]
    rw [decide_eq_true (by omega)]
  obtain ⟨M1, e2, k1⟩ := is_next_ok (n + 5) M hP (j := tn P k) (by omega) hC
  rw [decide_eq_true rfl] at e2
  have e2 : callN T N "_law_is_next" [pV P, .ref CI, .int ((k : Int) + 1), iV (tn P k)] M = .ok (.bl true) M1 := by rw [hN]; exact e2
  have hC1 := k1.get hC (by simp)
  have hA1 := k1.get hA (by simp)
  have h01 : TB M1 := k1.get h0 (by simp)
  have gl : tn P k < (cn P k).length := by rw [cn_len hP]; exact hl
  have at1 := at_iV gl
  have ixk : ixN ((cn P k).map iV).length ((tn P k : Nat) : Int) = some (tn P k) := ix_nat (by rw [List.length_map]; exact gl)
  have st := set_cn hP k
  have ii := in_lst hA1 (k : Int)
  have fin : ∀ M2, Keep [] M M2 → M2[CI]? = some (.lst ((cn P k).map iV)) → ∃ M', callN T N "_law_is_share" [pV P, .ref CI, .int ((k : Int) + 1)] (M2.set CI (.lst ((cn P (k + 1)).map iV))) = .ok (.bl true) M' ∧ M'[CI]? = some (.lst ((cn P (k + 1)).map iV)) ∧ Keep [CI] M M' := fun M2 k2 c2 => by
    have cs : (M2.set CI (.lst ((cn P (k + 1)).map iV)))[CI]? = some (.lst ((cn P (k + 1)).map iV)) := sto_set c2
    obtain ⟨M', e, k3⟩ := is_share_ok (n + 5) _ hP (m := k + 1) (ti := (k : Int) + 1) (by push_cast; rfl) (by omega) cs
    exact ⟨M', by rw [hN]; exact e, k3.get cs (by simp), (k2.imp (fun _ z => nomatch z)).trans ((Keep.set (by simp)).trans (k3.imp (fun _ z => nomatch z)))⟩
  unfold forB b_turn
  by_cases hi : ((k : Nat) : Int) ∈ ns
  · rw [decide_eq_true hi] at ii
    obtain ⟨M2, e3, k2⟩ := next_ok n M1 hP h01 (m := k) (by omega)
    obtain ⟨M3, e4, k3⟩ := counts_ok (n + 1) M2 hP (m := k) (mi := (k : Nat)) rfl (k2.get h01 (by simp)) (by omega)
    have e3 : callN T N "next_turn" [pV P, .tup ((cn P k).map iV)] M1 = .ok (iV (tn P k)) M2 := by rw [hN]; exact e3
    have e4 : callN T N "counts_after" [pV P, iV k] M2 = .ok (.tup ((cn P k).map iV)) M3 := by rw [hN]; exact e4
    obtain ⟨t, ht⟩ := repr_tc hP (m := k) (by omega)
    have hC3 := (k2.trans k3).get hC1 (by simp)
    obtain ⟨M', e5, c5, k5⟩ := fin M3 (k1.trans (k2.trans k3)) hC3
    simp only [↓evE.eq_1, ↓evE.eq_2, ↓evE.eq_3, ↓evE.eq_4, ↓evE.eq_5, ↓evE.eq_6, ↓evE.eq_7, ↓evE.eq_8, ↓evE.eq_9, ↓evE.eq_10, ↓evE.eq_11, ↓evE.eq_12, ↓evE.eq_13, ↓evE.eq_14, ↓evE.eq_15, ↓evE.eq_16, ↓evE.eq_17, ↓evE.eq_18, ↓evE.eq_19, ↓evE.eq_20, ↓evE.eq_21, ↓evE.eq_22, ↓evE.eq_23, ↓evE.eq_24, ↓evE.eq_25, ↓evE.eq_26, ↓evE.eq_27, ↓evE.eq_28, ↓evE.eq_29, ↓evE.eq_30, ↓evE.eq_31, ↓evE.eq_32, ↓evE.eq_33, ↓evE.eq_34, ↓evE.eq_35, ↓evE.eq_36, ↓evE.eq_37, ↓evE.eq_38, ↓evS.eq_1, ↓evS_seq, ↓evS.eq_3, ↓evS.eq_4, ↓evS.eq_5, ↓evS.eq_6, ↓evS.eq_7, ↓evS.eq_8, ↓evS_ite, ↓iteS, ↓evS.eq_11, ↓evS.eq_12, ↓evS.eq_13, ↓evS.eq_14, ↓evS.eq_15, ↓evS.eq_16, ↓evS.eq_17, ↓evS_for, ↓evA.eq_1, ↓evA.eq_2, ↓evT.eq_1, ↓evT.eq_2, ↓evO.eq_1, ↓evO.eq_2, ↓evI.eq_1, ↓evI.eq_2, ↓evI.eq_3, ↓evI.eq_4, ↓evI.eq_5, ↓evF.eq_1, ↓evF.eq_2, ↓m_bind, ↓m_then, ↓m_opt, SRes.bind_nx, SRes.bind_rt, SRes.bind_bk, SRes.bind_ct, SRes.bind_ex, SRes.bind_bad, at_call, at_glo, at_fuel, SRes.back, List.getElem?_cons_zero, List.getElem?_cons_succ, List.set_cons_zero, List.set_cons_succ, asgT, asgTs, cmpV, truV, binV, bltV, tyN, tyLe, subV, Option.map_some, Option.map_none, List.any_cons, List.any_nil, if_true, if_false, ite_true, ite_false, String.reduceBEq, Nat.reduceAdd, Bool.or_false, Bool.false_or, Bool.or_true, Bool.true_or, Bool.and_true, Bool.true_and, Bool.and_false, Bool.false_and, Bool.not_true, Bool.not_false, beq_self_eq_true, decide_true, decide_false, reduceCtorEq, Bool.false_eq_true, Ev.keyOf, dctKeys, List.length_cons, List.length_nil, List.zip_cons_cons, List.zip_nil_left, List.zip_nil_right, List.foldl_cons, List.foldl_nil, methV, setV, isL, permL_cons, permL_nil, List.map_cons, List.map_nil, valP_cons, valP_nil, key_str, key_int, ofString_eq, String.reduceEq, putP, sizeLine_eq, Nat.reduceLT, Nat.reduceLeDiff, sto_self, mulOk, powOk, divOk, Int.reducePow, Nat.reducePow, Int.reduceNeg, Int.reduceLT, Int.reduceLE, natAbs64, natAbs30, Int.reduceToNat, Int.reduceEq, Int.reduceAdd, Int.reduceSub, Int.reduceMul, ne_eq, not_false_eq_true, Int.reduceNe, Ev.alloc, Ev.eq_ii, Ev.eq_ss, Ev.eq_bb, Ev.eq_nn, Ev.eq_ni, Ev.eq_in, Ev.eq_ns, Ev.eq_sn, Ev.eq_nb, Ev.eq_bn, Ev.eq_is, Ev.eq_si, and_self, true_and, and_true, fmod_lt64, fmod_gt64, atI_0, atI_1, atI_2, atI_3, atI_4, atI_5, atI_6, atI_7, atI_8, atI_9, itemsV, smV, fmtV, lenSetV, seqOf, lstOf, slcV, revV, srcOf, optI, List.nil_append, List.cons_append, sto_new, intsP, sortI, insI, compL, compG, wipeP, boolsP, List.all_cons, List.all_nil, id_eq, keep_nil, maxI, minI, intsP, cutf_1, cutf_2, cutf_3, cutf_4, cutt_1, cutt_2, cutt_3, cutt_4, List.drop_succ_cons, List.drop_zero, List.take_succ_cons, List.take_zero, Int.cast_ofNat_Int, false_and, and_false, or_self, or_false, false_or, true_or, or_true, lit_e, tS_len, tS_cat, tS_eq, tS_lt, List.toList_toArray, g_MOST_WORD, g_LETTERS, g_MOST_POOL, g_MOST_WEIGHT, g_MOST_TURNS, GC.pv, hq', e1, e2, ii, hC1, e3, e4, ht, hC3, at1, ixk, st, e5]
    exact ⟨_, _, rfl, c5, k5⟩
  · rw [decide_eq_false hi] at ii
    obtain ⟨M', e5, c5, k5⟩ := fin M1 k1 hC1
    simp only [↓evE.eq_1, ↓evE.eq_2, ↓evE.eq_3, ↓evE.eq_4, ↓evE.eq_5, ↓evE.eq_6, ↓evE.eq_7, ↓evE.eq_8, ↓evE.eq_9, ↓evE.eq_10, ↓evE.eq_11, ↓evE.eq_12, ↓evE.eq_13, ↓evE.eq_14, ↓evE.eq_15, ↓evE.eq_16, ↓evE.eq_17, ↓evE.eq_18, ↓evE.eq_19, ↓evE.eq_20, ↓evE.eq_21, ↓evE.eq_22, ↓evE.eq_23, ↓evE.eq_24, ↓evE.eq_25, ↓evE.eq_26, ↓evE.eq_27, ↓evE.eq_28, ↓evE.eq_29, ↓evE.eq_30, ↓evE.eq_31, ↓evE.eq_32, ↓evE.eq_33, ↓evE.eq_34, ↓evE.eq_35, ↓evE.eq_36, ↓evE.eq_37, ↓evE.eq_38, ↓evS.eq_1, ↓evS_seq, ↓evS.eq_3, ↓evS.eq_4, ↓evS.eq_5, ↓evS.eq_6, ↓evS.eq_7, ↓evS.eq_8, ↓evS_ite, ↓iteS, ↓evS.eq_11, ↓evS.eq_12, ↓evS.eq_13, ↓evS.eq_14, ↓evS.eq_15, ↓evS.eq_16, ↓evS.eq_17, ↓evS_for, ↓evA.eq_1, ↓evA.eq_2, ↓evT.eq_1, ↓evT.eq_2, ↓evO.eq_1, ↓evO.eq_2, ↓evI.eq_1, ↓evI.eq_2, ↓evI.eq_3, ↓evI.eq_4, ↓evI.eq_5, ↓evF.eq_1, ↓evF.eq_2, ↓m_bind, ↓m_then, ↓m_opt, SRes.bind_nx, SRes.bind_rt, SRes.bind_bk, SRes.bind_ct, SRes.bind_ex, SRes.bind_bad, at_call, at_glo, at_fuel, SRes.back, List.getElem?_cons_zero, List.getElem?_cons_succ, List.set_cons_zero, List.set_cons_succ, asgT, asgTs, cmpV, truV, binV, bltV, tyN, tyLe, subV, Option.map_some, Option.map_none, List.any_cons, List.any_nil, if_true, if_false, ite_true, ite_false, String.reduceBEq, Nat.reduceAdd, Bool.or_false, Bool.false_or, Bool.or_true, Bool.true_or, Bool.and_true, Bool.true_and, Bool.and_false, Bool.false_and, Bool.not_true, Bool.not_false, beq_self_eq_true, decide_true, decide_false, reduceCtorEq, Bool.false_eq_true, Ev.keyOf, dctKeys, List.length_cons, List.length_nil, List.zip_cons_cons, List.zip_nil_left, List.zip_nil_right, List.foldl_cons, List.foldl_nil, methV, setV, isL, permL_cons, permL_nil, List.map_cons, List.map_nil, valP_cons, valP_nil, key_str, key_int, ofString_eq, String.reduceEq, putP, sizeLine_eq, Nat.reduceLT, Nat.reduceLeDiff, sto_self, mulOk, powOk, divOk, Int.reducePow, Nat.reducePow, Int.reduceNeg, Int.reduceLT, Int.reduceLE, natAbs64, natAbs30, Int.reduceToNat, Int.reduceEq, Int.reduceAdd, Int.reduceSub, Int.reduceMul, ne_eq, not_false_eq_true, Int.reduceNe, Ev.alloc, Ev.eq_ii, Ev.eq_ss, Ev.eq_bb, Ev.eq_nn, Ev.eq_ni, Ev.eq_in, Ev.eq_ns, Ev.eq_sn, Ev.eq_nb, Ev.eq_bn, Ev.eq_is, Ev.eq_si, and_self, true_and, and_true, fmod_lt64, fmod_gt64, atI_0, atI_1, atI_2, atI_3, atI_4, atI_5, atI_6, atI_7, atI_8, atI_9, itemsV, smV, fmtV, lenSetV, seqOf, lstOf, slcV, revV, srcOf, optI, List.nil_append, List.cons_append, sto_new, intsP, sortI, insI, compL, compG, wipeP, boolsP, List.all_cons, List.all_nil, id_eq, keep_nil, maxI, minI, intsP, cutf_1, cutf_2, cutf_3, cutf_4, cutt_1, cutt_2, cutt_3, cutt_4, List.drop_succ_cons, List.drop_zero, List.take_succ_cons, List.take_zero, Int.cast_ofNat_Int, false_and, and_false, or_self, or_false, false_or, true_or, or_true, lit_e, tS_len, tS_cat, tS_eq, tS_lt, List.toList_toArray, g_MOST_WORD, g_LETTERS, g_MOST_POOL, g_MOST_WEIGHT, g_MOST_TURNS, GC.pv, hq', e1, e2, ii, hC1, at1, ixk, st, e5]
    exact ⟨_, _, rfl, c5, k5⟩

def q0 : CS := .asg (.tp (.cons (.nm 3) (.cons (.nm 4) (.nil)))) (.tup (A (.call "_law_pool" (A (V 1) (E_))) (A (.call "_law_pick" (A (V 1) (A (.lst (A (I 60) (A (I 12) (A (I 30) (A (I 120) (A (I 0) (A (I 1) (E_)))))))) (E_)))) (E_))))
def q1 : CS := .ite (.and (.cmp .Eq (V 2) (I 1)) (.cmp .Eq (.call "_law_draw" (A (V 1) (A (I 8) (E_)))) (I 0))) (Q (.asg (.nm 4) (.call "_law_pick" (A (V 1) (A (.lst (A (I 2000) (A (I 1999) (A (I 1001) (A (I 201) (E_)))))) (E_))))) (N_)) (N_)
def q2 : CS := .asg (.nm 5) (.ife (.cmp .Eq (V 2) (I 0)) (.call "turns" (A (V 3) (A (V 4) (E_)))) (.callk "turns" 0 (E_) ["t", "pool"] (A (V 4) (A (V 3) (E_))) [1, 0]))
def q3 : CS := .ite (.or (.not (.isi (V 5) ["tuple"] false)) (.cmp .NotEq (.blt .len (A (V 5) (E_))) (V 4))) (Q (.ret (.bl false)) (N_)) (N_)
def q4 : CS := .asg (.tp (.cons (.nm 6) (.cons (.nm 7) (.nil)))) (.tup (A (.bin .Mult (.lst (A (I 0) (E_))) (.blt .len (A (V 3) (E_)))) (A (.comp (.nm 8) (.irg1 (I 4)) (E_) (.call "_law_draw" (A (V 1) (A (.bin .Add (V 4) (I 1)) (E_)))) [8]) (E_))))
def q5 : CS := .for_ (.tp (.cons (.nm 9) (.cons (.nm 10) (.nil)))) (.ienum (V 5)) b_turn
def q6 : CS := .asg (.nm 12) (.comp (.nm 10) (.irg1 (.blt .len (A (V 3) (E_)))) (A (.call "_law_is_next" (A (V 3) (A (V 6) (A (.bin .Add (V 4) (I 1)) (A (V 10) (E_)))))) (E_)) (V 10) [10])
def q7 : CS := .ite (.cmp .NotEq (.blt .repr (A (.lst (A (.call "next_turn" (A (V 3) (A (.blt .tuple (A (V 6) (E_))) (E_)))) (E_))) (E_))) (.blt .repr (A (V 12) (E_)))) (Q (.ret (.bl false)) (N_)) (N_)
def q8 : CS := .ite (.or (.cmp .NotEq (.blt .repr (A (.callk "counts_after" 0 (E_) ["t", "pool"] (A (V 4) (A (V 3) (E_))) [1, 0]) (E_))) (.blt .repr (A (.blt .tuple (A (V 6) (E_))) (E_)))) (.cmp .NotEq (.blt .repr (A (.call "turns" (A (V 3) (A (.sub (V 7) (I 0)) (E_)))) (E_))) (.blt .repr (A (.slc (V 5) (.no) (A (.sub (V 7) (I 0)) E_)) (E_))))) (Q (.ret (.bl false)) (N_)) (N_)
def b_law : CS := Q q0 (Q q1 (Q q2 (Q q3 (Q q4 (Q q5 (Q q6 (Q q7 (Q q8 N_))))))))
theorem num_told (P : Pool) (m : Nat) : numP ((List.range m).map fun k => iV (tn P k)) = (List.range' 0 m).map fun k => .tup [iV k, iV (tn P k)] := by
  unfold numP
  refine List.ext_getElem (by simp) fun i h1 h2 => ?_
  simp [List.getElem_range', List.getElem_zipWith]
theorem s5_ok (N : Nat) {n : Nat} (hN : N = n + 6) {M : Sto} {P : Pool} (hP : IsPool P) {m CI AI : Nat} (hm : m ≤ 2000) {ns : List Int} (hC : M[CI]? = some (.lst ((cn P 0).map iV))) (hA : M[AI]? = some (.lst (ns.map .int))) (h0 : TB M) (hc0 : CI ≠ 0) (hca : AI ≠ CI)
    (v0 v1 v2 v4 v8 v9 v10 v11 v12 : Option PV) :
    ∃ v9' v10' v11' M', evS (T.at N) q5 [v0, v1, v2, some (pV P), v4, some (.tup ((List.range m).map fun k => iV (tn P k))), some (.ref CI), some (.ref AI), v8, v9, v10, v11, v12] M = .nx [v0, v1, v2, some (pV P), v4, some (.tup ((List.range m).map fun k => iV (tn P k))), some (.ref CI), some (.ref AI), v8, v9', v10', v11', v12] M' ∧
      M'[CI]? = some (.lst ((cn P m).map iV)) ∧ Keep [CI] M M' := by
  unfold q5
  obtain ⟨tl, hT⟩ : ∃ tl, tl = b_turn := ⟨_, rfl⟩
  rw [← hT]
  simp only [↓evE.eq_1, ↓evE.eq_2, ↓evE.eq_3, ↓evE.eq_4, ↓evE.eq_5, ↓evE.eq_6, ↓evE.eq_7, ↓evE.eq_8, ↓evE.eq_9, ↓evE.eq_10, ↓evE.eq_11, ↓evE.eq_12, ↓evE.eq_13, ↓evE.eq_14, ↓evE.eq_15, ↓evE.eq_16, ↓evE.eq_17, ↓evE.eq_18, ↓evE.eq_19, ↓evE.eq_20, ↓evE.eq_21, ↓evE.eq_22, ↓evE.eq_23, ↓evE.eq_24, ↓evE.eq_25, ↓evE.eq_26, ↓evE.eq_27, ↓evE.eq_28, ↓evE.eq_29, ↓evE.eq_30, ↓evE.eq_31, ↓evE.eq_32, ↓evE.eq_33, ↓evE.eq_34, ↓evE.eq_35, ↓evE.eq_36, ↓evE.eq_37, ↓evE.eq_38, ↓evS.eq_1, ↓evS_seq, ↓evS.eq_3, ↓evS.eq_4, ↓evS.eq_5, ↓evS.eq_6, ↓evS.eq_7, ↓evS.eq_8, ↓evS_ite, ↓iteS, ↓evS.eq_11, ↓evS.eq_12, ↓evS.eq_13, ↓evS.eq_14, ↓evS.eq_15, ↓evS.eq_16, ↓evS.eq_17, ↓evS_for, ↓evA.eq_1, ↓evA.eq_2, ↓evT.eq_1, ↓evT.eq_2, ↓evO.eq_1, ↓evO.eq_2, ↓evI.eq_1, ↓evI.eq_2, ↓evI.eq_3, ↓evI.eq_4, ↓evI.eq_5, ↓evF.eq_1, ↓evF.eq_2, ↓m_bind, ↓m_then, ↓m_opt, SRes.bind_nx, SRes.bind_rt, SRes.bind_bk, SRes.bind_ct, SRes.bind_ex, SRes.bind_bad, at_call, at_glo, at_fuel, SRes.back, List.getElem?_cons_zero, List.getElem?_cons_succ, List.set_cons_zero, List.set_cons_succ, asgT, asgTs, cmpV, truV, binV, bltV, tyN, tyLe, subV, Option.map_some, Option.map_none, List.any_cons, List.any_nil, if_true, if_false, ite_true, ite_false, String.reduceBEq, Nat.reduceAdd, Bool.or_false, Bool.false_or, Bool.or_true, Bool.true_or, Bool.and_true, Bool.true_and, Bool.and_false, Bool.false_and, Bool.not_true, Bool.not_false, beq_self_eq_true, decide_true, decide_false, reduceCtorEq, Bool.false_eq_true, Ev.keyOf, dctKeys, List.length_cons, List.length_nil, List.zip_cons_cons, List.zip_nil_left, List.zip_nil_right, List.foldl_cons, List.foldl_nil, methV, setV, isL, permL_cons, permL_nil, List.map_cons, List.map_nil, valP_cons, valP_nil, key_str, key_int, ofString_eq, String.reduceEq, putP, sizeLine_eq, Nat.reduceLT, Nat.reduceLeDiff, sto_self, mulOk, powOk, divOk, Int.reducePow, Nat.reducePow, Int.reduceNeg, Int.reduceLT, Int.reduceLE, natAbs64, natAbs30, Int.reduceToNat, Int.reduceEq, Int.reduceAdd, Int.reduceSub, Int.reduceMul, ne_eq, not_false_eq_true, Int.reduceNe, Ev.alloc, Ev.eq_ii, Ev.eq_ss, Ev.eq_bb, Ev.eq_nn, Ev.eq_ni, Ev.eq_in, Ev.eq_ns, Ev.eq_sn, Ev.eq_nb, Ev.eq_bn, Ev.eq_is, Ev.eq_si, and_self, true_and, and_true, fmod_lt64, fmod_gt64, atI_0, atI_1, atI_2, atI_3, atI_4, atI_5, atI_6, atI_7, atI_8, atI_9, itemsV, smV, fmtV, lenSetV, seqOf, lstOf, slcV, revV, srcOf, optI, List.nil_append, List.cons_append, sto_new, intsP, sortI, insI, compL, compG, wipeP, boolsP, List.all_cons, List.all_nil, id_eq, keep_nil, maxI, minI, intsP, cutf_1, cutf_2, cutf_3, cutf_4, cutt_1, cutt_2, cutt_3, cutt_4, List.drop_succ_cons, List.drop_zero, List.take_succ_cons, List.take_zero, Int.cast_ofNat_Int, false_and, and_false, or_self, or_false, false_or, true_or, or_true, lit_e, tS_len, tS_cat, tS_eq, tS_lt, List.toList_toArray, g_MOST_WORD, g_LETTERS, g_MOST_POOL, g_MOST_WEIGHT, g_MOST_TURNS, GC.pv, num_told]
  generalize hz : forL _ _ _ _ _ = z
  obtain ⟨env', M', rfl, k, x9, x10, x11, h1, h2, h3, h4, h5⟩ := for_of hz (fun xs env M1 => ∃ k x9 x10 x11, xs = ((List.range' k (m - k)).map fun k => .tup [iV k, iV (tn P k)]) ∧ env = [v0, v1, v2, some (pV P), v4, some (.tup ((List.range m).map fun k => iV (tn P k))), some (.ref CI), some (.ref AI), v8, x9, x10, x11, v12] ∧
      M1[CI]? = some (.lst ((cn P k).map iV)) ∧ Keep [CI] M M1 ∧ k ≤ m) ⟨0, v9, v10, v11, by simp, rfl, hC, Keep.refl _, Nat.zero_le _⟩ (fun _ _ _ _ => rfl) (fun x xs env M1 ⟨k, x9, x10, x11, h1, h2, h3, h4, h5⟩ => by
      have hk : k < m := by
        rcases Nat.lt_or_ge k m with q | q
        · exact q
        · rw [show m - k = 0 by omega] at h1; cases h1
      rw [show m - k = (m - (k + 1)) + 1 by omega, List.range'_succ] at h1
      cases h1
      subst h2
      obtain ⟨e11, M2, e, c2, k2⟩ := turn_step N hN hP (k := k) (by omega) h3 (h4.get hA (by simpa using hca)) (h4.get h0 (by simpa using hc0.symm)) hc0 v0 v1 v2 v4 (some (.tup ((List.range m).map fun k => iV (tn P k)))) v8 x9 x10 x11 v12
      rw [← hT] at e
      exact ⟨_, M2, .inl e, k + 1, _, _, _, rfl, rfl, c2, h4.trans k2, hk⟩)
  have hk : k = m := by
    rcases Nat.lt_or_ge k m with q | q
    · rw [show m - k = (m - (k + 1)) + 1 by omega, List.range'_succ] at h1; cases h1
    · omega
  subst hk
  exact ⟨x9, x10, x11, M', by rw [h2], h3, h4⟩
theorem flt_one {t : Nat} : ∀ n, t < n → (List.range n).filter (fun i => decide (i = t)) = [t]
  | 0, h => by omega
  | n + 1, h => by
    rw [List.range_succ, List.filter_append]
    by_cases e : t = n
    · subst e
      have : (List.range t).filter (fun i => decide (i = t)) = [] := by
        refine List.filter_eq_nil_iff.mpr fun a ha => ?_
        have := List.mem_range.mp ha
        simp; omega
      rw [this]; simp
    · rw [flt_one n (by omega)]
      simp; omega
def c6 : CE := A (.call "_law_is_next" (A (V 3) (A (V 6) (A (.bin .Add (V 4) (I 1)) (A (V 10) (E_)))))) (E_)
theorem s6_pre (N : Nat) {M M2 : Sto} {L out : List PV} {pp x4 x6 : PV} {v0 v1 v2 v5 v7 v8 v9 v10 v11 v12 : Option PV} (h : evI (T.at N) (.irg1 (.blt .len (A (V 3) (E_)))) [v0, v1, v2, some pp, some x4, v5, some x6, v7, v8, v9, v10, v11, v12] M = .ok ⟨L, []⟩ M)
    (hz : compL (compG (.nm 10) [v0, v1, v2, some pp, some x4, v5, some x6, v7, v8, v9, none, v11, v12] (evT (T.at N) c6) (evE (T.at N) (V 10))) (keepB []) L M [] = .ok out M2) :
    evS (T.at N) q6 [v0, v1, v2, some pp, some x4, v5, some x6, v7, v8, v9, v10, v11, v12] M = .nx [v0, v1, v2, some pp, some x4, v5, some x6, v7, v8, v9, v10, v11, some (.ref M2.length)] (M2 ++ [.lst out]) := by
  unfold c6 at hz
  unfold q6
  simp only [↓evE.eq_1, ↓evE.eq_2, ↓evE.eq_3, ↓evE.eq_4, ↓evE.eq_5, ↓evE.eq_6, ↓evE.eq_7, ↓evE.eq_8, ↓evE.eq_9, ↓evE.eq_10, ↓evE.eq_11, ↓evE.eq_12, ↓evE.eq_13, ↓evE.eq_14, ↓evE.eq_15, ↓evE.eq_16, ↓evE.eq_17, ↓evE.eq_18, ↓evE.eq_19, ↓evE.eq_20, ↓evE.eq_21, ↓evE.eq_22, ↓evE.eq_23, ↓evE.eq_24, ↓evE.eq_25, ↓evE.eq_26, ↓evE.eq_27, ↓evE.eq_28, ↓evE.eq_29, ↓evE.eq_30, ↓evE.eq_31, ↓evE.eq_32, ↓evE.eq_33, ↓evE.eq_34, ↓evE.eq_35, ↓evE.eq_36, ↓evE.eq_37, ↓evE.eq_38, ↓evS.eq_1, ↓evS_seq, ↓evS.eq_3, ↓evS.eq_4, ↓evS.eq_5, ↓evS.eq_6, ↓evS.eq_7, ↓evS.eq_8, ↓evS_ite, ↓iteS, ↓evS.eq_11, ↓evS.eq_12, ↓evS.eq_13, ↓evS.eq_14, ↓evS.eq_15, ↓evS.eq_16, ↓evS.eq_17, ↓evS_for, ↓evA.eq_1, ↓evA.eq_2, ↓evT.eq_1, ↓evT.eq_2, ↓evO.eq_1, ↓evO.eq_2, ↓evI.eq_1, ↓evI.eq_2, ↓evI.eq_3, ↓evI.eq_4, ↓evI.eq_5, ↓evF.eq_1, ↓evF.eq_2, ↓m_bind, ↓m_then, ↓m_opt, SRes.bind_nx, SRes.bind_rt, SRes.bind_bk, SRes.bind_ct, SRes.bind_ex, SRes.bind_bad, at_call, at_glo, at_fuel, SRes.back, List.getElem?_cons_zero, List.getElem?_cons_succ, List.set_cons_zero, List.set_cons_succ, asgT, asgTs, cmpV, truV, binV, bltV, tyN, tyLe, subV, Option.map_some, Option.map_none, List.any_cons, List.any_nil, if_true, if_false, ite_true, ite_false, String.reduceBEq, Nat.reduceAdd, Bool.or_false, Bool.false_or, Bool.or_true, Bool.true_or, Bool.and_true, Bool.true_and, Bool.and_false, Bool.false_and, Bool.not_true, Bool.not_false, beq_self_eq_true, decide_true, decide_false, reduceCtorEq, Bool.false_eq_true, Ev.keyOf, dctKeys, List.length_cons, List.length_nil, List.zip_cons_cons, List.zip_nil_left, List.zip_nil_right, List.foldl_cons, List.foldl_nil, methV, setV, isL, permL_cons, permL_nil, List.map_cons, List.map_nil, valP_cons, valP_nil, key_str, key_int, ofString_eq, String.reduceEq, putP, sizeLine_eq, Nat.reduceLT, Nat.reduceLeDiff, sto_self, mulOk, powOk, divOk, Int.reducePow, Nat.reducePow, Int.reduceNeg, Int.reduceLT, Int.reduceLE, natAbs64, natAbs30, Int.reduceToNat, Int.reduceEq, Int.reduceAdd, Int.reduceSub, Int.reduceMul, ne_eq, not_false_eq_true, Int.reduceNe, Ev.alloc, Ev.eq_ii, Ev.eq_ss, Ev.eq_bb, Ev.eq_nn, Ev.eq_ni, Ev.eq_in, Ev.eq_ns, Ev.eq_sn, Ev.eq_nb, Ev.eq_bn, Ev.eq_is, Ev.eq_si, and_self, true_and, and_true, fmod_lt64, fmod_gt64, atI_0, atI_1, atI_2, atI_3, atI_4, atI_5, atI_6, atI_7, atI_8, atI_9, itemsV, smV, fmtV, lenSetV, seqOf, lstOf, slcV, revV, srcOf, optI, List.nil_append, List.cons_append, sto_new, intsP, sortI, insI, compL, compG, wipeP, boolsP, List.all_cons, List.all_nil, id_eq, keep_nil, maxI, minI, intsP, cutf_1, cutf_2, cutf_3, cutf_4, cutt_1, cutt_2, cutt_3, cutt_4, List.drop_succ_cons, List.drop_zero, List.take_succ_cons, List.take_zero, Int.cast_ofNat_Int, false_and, and_false, or_self, or_false, false_or, true_or, or_true, ↓h, hz]
theorem s6_ok (N : Nat) {n : Nat} (hN : N = n + 6) {M : Sto} {P : Pool} (hP : IsPool P) {m CI : Nat} (hm : m ≤ 2000) (hC : M[CI]? = some (.lst ((cn P m).map iV))) {mi : Int} (hmi : mi = (m : Nat))
    (v0 v1 v2 v5 v7 v8 v9 v10 v11 v12 : Option PV) :
    ∃ DI M', evS (T.at N) q6 [v0, v1, v2, some (pV P), some (.int mi), v5, some (.ref CI), v7, v8, v9, v10, v11, v12] M = .nx [v0, v1, v2, some (pV P), some (.int mi), v5, some (.ref CI), v7, v8, v9, v10, v11, some (.ref DI)] M' ∧
      M'[DI]? = some (.lst [iV (tn P m)]) ∧ Keep [] M M' := by
  have h8 := hP.le
  obtain ⟨q, hq⟩ : ∃ q : Int, q = (P.length : Nat) := ⟨_, rfl⟩
  have hq' : (((P.map eV).length : Nat) : Int) = q := by rw [hq, List.length_map]
  have rg : rgOk 0 q = true := rgOk_nat (by omega) (by omega) (by omega) (by omega)
  have hr : rgP 0 q = (List.range' 0 P.length).map iV := by rw [hq, rg_zero, List.range_eq_range']
  have eI : evI (T.at N) (.irg1 (.blt .len (A (V 3) (E_)))) [v0, v1, v2, some (pV P), some (.int mi), v5, some (.ref CI), v7, v8, v9, v10, v11, v12] M = .ok ⟨(List.range' 0 P.length).map iV, []⟩ M := by
    simp only [↓evE.eq_1, ↓evE.eq_2, ↓evE.eq_3, ↓evE.eq_4, ↓evE.eq_5, ↓evE.eq_6, ↓evE.eq_7, ↓evE.eq_8, ↓evE.eq_9, ↓evE.eq_10, ↓evE.eq_11, ↓evE.eq_12, ↓evE.eq_13, ↓evE.eq_14, ↓evE.eq_15, ↓evE.eq_16, ↓evE.eq_17, ↓evE.eq_18, ↓evE.eq_19, ↓evE.eq_20, ↓evE.eq_21, ↓evE.eq_22, ↓evE.eq_23, ↓evE.eq_24, ↓evE.eq_25, ↓evE.eq_26, ↓evE.eq_27, ↓evE.eq_28, ↓evE.eq_29, ↓evE.eq_30, ↓evE.eq_31, ↓evE.eq_32, ↓evE.eq_33, ↓evE.eq_34, ↓evE.eq_35, ↓evE.eq_36, ↓evE.eq_37, ↓evE.eq_38, ↓evS.eq_1, ↓evS_seq, ↓evS.eq_3, ↓evS.eq_4, ↓evS.eq_5, ↓evS.eq_6, ↓evS.eq_7, ↓evS.eq_8, ↓evS_ite, ↓iteS, ↓evS.eq_11, ↓evS.eq_12, ↓evS.eq_13, ↓evS.eq_14, ↓evS.eq_15, ↓evS.eq_16, ↓evS.eq_17, ↓evS_for, ↓evA.eq_1, ↓evA.eq_2, ↓evT.eq_1, ↓evT.eq_2, ↓evO.eq_1, ↓evO.eq_2, ↓evI.eq_1, ↓evI.eq_2, ↓evI.eq_3, ↓evI.eq_4, ↓evI.eq_5, ↓evF.eq_1, ↓evF.eq_2, ↓m_bind, ↓m_then, ↓m_opt, SRes.bind_nx, SRes.bind_rt, SRes.bind_bk, SRes.bind_ct, SRes.bind_ex, SRes.bind_bad, at_call, at_glo, at_fuel, SRes.back, List.getElem?_cons_zero, List.getElem?_cons_succ, List.set_cons_zero, List.set_cons_succ, asgT, asgTs, cmpV, truV, binV, bltV, tyN, tyLe, subV, Option.map_some, Option.map_none, List.any_cons, List.any_nil, if_true, if_false, ite_true, ite_false, String.reduceBEq, Nat.reduceAdd, Bool.or_false, Bool.false_or, Bool.or_true, Bool.true_or, Bool.and_true, Bool.true_and, Bool.and_false, Bool.false_and, Bool.not_true, Bool.not_false, beq_self_eq_true, decide_true, decide_false, reduceCtorEq, Bool.false_eq_true, Ev.keyOf, dctKeys, List.length_cons, List.length_nil, List.zip_cons_cons, List.zip_nil_left, List.zip_nil_right, List.foldl_cons, List.foldl_nil, methV, setV, isL, permL_cons, permL_nil, List.map_cons, List.map_nil, valP_cons, valP_nil, key_str, key_int, ofString_eq, String.reduceEq, putP, sizeLine_eq, Nat.reduceLT, Nat.reduceLeDiff, sto_self, mulOk, powOk, divOk, Int.reducePow, Nat.reducePow, Int.reduceNeg, Int.reduceLT, Int.reduceLE, natAbs64, natAbs30, Int.reduceToNat, Int.reduceEq, Int.reduceAdd, Int.reduceSub, Int.reduceMul, ne_eq, not_false_eq_true, Int.reduceNe, Ev.alloc, Ev.eq_ii, Ev.eq_ss, Ev.eq_bb, Ev.eq_nn, Ev.eq_ni, Ev.eq_in, Ev.eq_ns, Ev.eq_sn, Ev.eq_nb, Ev.eq_bn, Ev.eq_is, Ev.eq_si, and_self, true_and, and_true, fmod_lt64, fmod_gt64, atI_0, atI_1, atI_2, atI_3, atI_4, atI_5, atI_6, atI_7, atI_8, atI_9, itemsV, smV, fmtV, lenSetV, seqOf, lstOf, slcV, revV, srcOf, optI, List.nil_append, List.cons_append, sto_new, intsP, sortI, insI, compL, compG, wipeP, boolsP, List.all_cons, List.all_nil, id_eq, keep_nil, maxI, minI, intsP, cutf_1, cutf_2, cutf_3, cutf_4, cutt_1, cutt_2, cutt_3, cutt_4, List.drop_succ_cons, List.drop_zero, List.take_succ_cons, List.take_zero, Int.cast_ofNat_Int, false_and, and_false, or_self, or_false, false_or, true_or, or_true, lit_e, tS_len, tS_cat, tS_eq, tS_lt, List.toList_toArray, g_MOST_WORD, g_LETTERS, g_MOST_POOL, g_MOST_WEIGHT, g_MOST_TURNS, GC.pv, hq', rg, hr]
  generalize hz : compL (compG (.nm 10) [v0, v1, v2, some (pV P), some (.int mi), v5, some (.ref CI), v7, v8, v9, none, v11, v12] (evT (T.at N) c6) (evE (T.at N) (V 10))) (keepB []) ((List.range' 0 P.length).map iV) M [] = z
  obtain ⟨out, M2, rfl, k, h1, h2, h3, h4⟩ := comp_gen' hz (fun xs acc M2 => ∃ k, xs = (List.range' k (P.length - k)).map iV ∧ acc = ((List.range k).filter (fun i => decide (i = tn P m))).map iV ∧ k ≤ P.length ∧ Keep [] M M2)
    ⟨0, by simp, rfl, Nat.zero_le _, Keep.refl _⟩ (fun _ _ _ _ => rfl) (fun x xs acc M2 ⟨k, h1, h2, h3, h4⟩ => by
      have hk : k < P.length := by
        rcases Nat.lt_or_ge k P.length with q | q
        · exact q
        · rw [show P.length - k = 0 by omega] at h1; cases h1
      rw [show P.length - k = (P.length - (k + 1)) + 1 by omega, List.range'_succ] at h1
      cases h1
      have fl : ((List.range k).filter (fun i => decide (i = tn P m))).length ≤ k := Nat.le_trans (List.length_filter_le _ _) (by simp)
      refine ⟨by rw [h2, sizeLine_eq, List.length_map]; omega, ?_⟩
      obtain ⟨M3, e, k3⟩ := is_next_ok (n + 5) M2 hP (j := k) (by omega) (h4.get hC (by simp))
      rw [← hmi, show n + 5 + 1 = N from hN.symm] at e
      have fs : ((List.range (k + 1)).filter (fun i => decide (i = tn P m))) = ((List.range k).filter (fun i => decide (i = tn P m))) ++ if k = tn P m then [k] else [] := by
        rw [List.range_succ, List.filter_append, List.filter_cons, List.filter_nil]
        simp only [decide_eq_true_eq]
      refine ⟨M3, ?_⟩
      by_cases c : k = tn P m
      · rw [decide_eq_true c] at e
        rw [if_pos c] at fs
        unfold c6
        refine .inl ⟨iV k, ?_, k + 1, rfl, by rw [h2, fs, List.map_append]; rfl, hk, h4.trans k3⟩
        simp only [↓evE.eq_1, ↓evE.eq_2, ↓evE.eq_3, ↓evE.eq_4, ↓evE.eq_5, ↓evE.eq_6, ↓evE.eq_7, ↓evE.eq_8, ↓evE.eq_9, ↓evE.eq_10, ↓evE.eq_11, ↓evE.eq_12, ↓evE.eq_13, ↓evE.eq_14, ↓evE.eq_15, ↓evE.eq_16, ↓evE.eq_17, ↓evE.eq_18, ↓evE.eq_19, ↓evE.eq_20, ↓evE.eq_21, ↓evE.eq_22, ↓evE.eq_23, ↓evE.eq_24, ↓evE.eq_25, ↓evE.eq_26, ↓evE.eq_27, ↓evE.eq_28, ↓evE.eq_29, ↓evE.eq_30, ↓evE.eq_31, ↓evE.eq_32, ↓evE.eq_33, ↓evE.eq_34, ↓evE.eq_35, ↓evE.eq_36, ↓evE.eq_37, ↓evE.eq_38, ↓evS.eq_1, ↓evS_seq, ↓evS.eq_3, ↓evS.eq_4, ↓evS.eq_5, ↓evS.eq_6, ↓evS.eq_7, ↓evS.eq_8, ↓evS_ite, ↓iteS, ↓evS.eq_11, ↓evS.eq_12, ↓evS.eq_13, ↓evS.eq_14, ↓evS.eq_15, ↓evS.eq_16, ↓evS.eq_17, ↓evS_for, ↓evA.eq_1, ↓evA.eq_2, ↓evT.eq_1, ↓evT.eq_2, ↓evO.eq_1, ↓evO.eq_2, ↓evI.eq_1, ↓evI.eq_2, ↓evI.eq_3, ↓evI.eq_4, ↓evI.eq_5, ↓evF.eq_1, ↓evF.eq_2, ↓m_bind, ↓m_then, ↓m_opt, SRes.bind_nx, SRes.bind_rt, SRes.bind_bk, SRes.bind_ct, SRes.bind_ex, SRes.bind_bad, at_call, at_glo, at_fuel, SRes.back, List.getElem?_cons_zero, List.getElem?_cons_succ, List.set_cons_zero, List.set_cons_succ, asgT, asgTs, cmpV, truV, binV, bltV, tyN, tyLe, subV, Option.map_some, Option.map_none, List.any_cons, List.any_nil, if_true, if_false, ite_true, ite_false, String.reduceBEq, Nat.reduceAdd, Bool.or_false, Bool.false_or, Bool.or_true, Bool.true_or, Bool.and_true, Bool.true_and, Bool.and_false, Bool.false_and, Bool.not_true, Bool.not_false, beq_self_eq_true, decide_true, decide_false, reduceCtorEq, Bool.false_eq_true, Ev.keyOf, dctKeys, List.length_cons, List.length_nil, List.zip_cons_cons, List.zip_nil_left, List.zip_nil_right, List.foldl_cons, List.foldl_nil, methV, setV, isL, permL_cons, permL_nil, List.map_cons, List.map_nil, valP_cons, valP_nil, key_str, key_int, ofString_eq, String.reduceEq, putP, sizeLine_eq, Nat.reduceLT, Nat.reduceLeDiff, sto_self, mulOk, powOk, divOk, Int.reducePow, Nat.reducePow, Int.reduceNeg, Int.reduceLT, Int.reduceLE, natAbs64, natAbs30, Int.reduceToNat, Int.reduceEq, Int.reduceAdd, Int.reduceSub, Int.reduceMul, ne_eq, not_false_eq_true, Int.reduceNe, Ev.alloc, Ev.eq_ii, Ev.eq_ss, Ev.eq_bb, Ev.eq_nn, Ev.eq_ni, Ev.eq_in, Ev.eq_ns, Ev.eq_sn, Ev.eq_nb, Ev.eq_bn, Ev.eq_is, Ev.eq_si, and_self, true_and, and_true, fmod_lt64, fmod_gt64, atI_0, atI_1, atI_2, atI_3, atI_4, atI_5, atI_6, atI_7, atI_8, atI_9, itemsV, smV, fmtV, lenSetV, seqOf, lstOf, slcV, revV, srcOf, optI, List.nil_append, List.cons_append, sto_new, intsP, sortI, insI, compL, compG, wipeP, boolsP, List.all_cons, List.all_nil, id_eq, keep_nil, maxI, minI, intsP, cutf_1, cutf_2, cutf_3, cutf_4, cutt_1, cutt_2, cutt_3, cutt_4, List.drop_succ_cons, List.drop_zero, List.take_succ_cons, List.take_zero, Int.cast_ofNat_Int, false_and, and_false, or_self, or_false, false_or, true_or, or_true, lit_e, tS_len, tS_cat, tS_eq, tS_lt, List.toList_toArray, g_MOST_WORD, g_LETTERS, g_MOST_POOL, g_MOST_WEIGHT, g_MOST_TURNS, GC.pv, e]
      · rw [decide_eq_false c] at e
        rw [if_neg c, List.append_nil] at fs
        unfold c6
        refine .inr ⟨?_, k + 1, rfl, by rw [h2, fs], hk, h4.trans k3⟩
        simp only [↓evE.eq_1, ↓evE.eq_2, ↓evE.eq_3, ↓evE.eq_4, ↓evE.eq_5, ↓evE.eq_6, ↓evE.eq_7, ↓evE.eq_8, ↓evE.eq_9, ↓evE.eq_10, ↓evE.eq_11, ↓evE.eq_12, ↓evE.eq_13, ↓evE.eq_14, ↓evE.eq_15, ↓evE.eq_16, ↓evE.eq_17, ↓evE.eq_18, ↓evE.eq_19, ↓evE.eq_20, ↓evE.eq_21, ↓evE.eq_22, ↓evE.eq_23, ↓evE.eq_24, ↓evE.eq_25, ↓evE.eq_26, ↓evE.eq_27, ↓evE.eq_28, ↓evE.eq_29, ↓evE.eq_30, ↓evE.eq_31, ↓evE.eq_32, ↓evE.eq_33, ↓evE.eq_34, ↓evE.eq_35, ↓evE.eq_36, ↓evE.eq_37, ↓evE.eq_38, ↓evS.eq_1, ↓evS_seq, ↓evS.eq_3, ↓evS.eq_4, ↓evS.eq_5, ↓evS.eq_6, ↓evS.eq_7, ↓evS.eq_8, ↓evS_ite, ↓iteS, ↓evS.eq_11, ↓evS.eq_12, ↓evS.eq_13, ↓evS.eq_14, ↓evS.eq_15, ↓evS.eq_16, ↓evS.eq_17, ↓evS_for, ↓evA.eq_1, ↓evA.eq_2, ↓evT.eq_1, ↓evT.eq_2, ↓evO.eq_1, ↓evO.eq_2, ↓evI.eq_1, ↓evI.eq_2, ↓evI.eq_3, ↓evI.eq_4, ↓evI.eq_5, ↓evF.eq_1, ↓evF.eq_2, ↓m_bind, ↓m_then, ↓m_opt, SRes.bind_nx, SRes.bind_rt, SRes.bind_bk, SRes.bind_ct, SRes.bind_ex, SRes.bind_bad, at_call, at_glo, at_fuel, SRes.back, List.getElem?_cons_zero, List.getElem?_cons_succ, List.set_cons_zero, List.set_cons_succ, asgT, asgTs, cmpV, truV, binV, bltV, tyN, tyLe, subV, Option.map_some, Option.map_none, List.any_cons, List.any_nil, if_true, if_false, ite_true, ite_false, String.reduceBEq, Nat.reduceAdd, Bool.or_false, Bool.false_or, Bool.or_true, Bool.true_or, Bool.and_true, Bool.true_and, Bool.and_false, Bool.false_and, Bool.not_true, Bool.not_false, beq_self_eq_true, decide_true, decide_false, reduceCtorEq, Bool.false_eq_true, Ev.keyOf, dctKeys, List.length_cons, List.length_nil, List.zip_cons_cons, List.zip_nil_left, List.zip_nil_right, List.foldl_cons, List.foldl_nil, methV, setV, isL, permL_cons, permL_nil, List.map_cons, List.map_nil, valP_cons, valP_nil, key_str, key_int, ofString_eq, String.reduceEq, putP, sizeLine_eq, Nat.reduceLT, Nat.reduceLeDiff, sto_self, mulOk, powOk, divOk, Int.reducePow, Nat.reducePow, Int.reduceNeg, Int.reduceLT, Int.reduceLE, natAbs64, natAbs30, Int.reduceToNat, Int.reduceEq, Int.reduceAdd, Int.reduceSub, Int.reduceMul, ne_eq, not_false_eq_true, Int.reduceNe, Ev.alloc, Ev.eq_ii, Ev.eq_ss, Ev.eq_bb, Ev.eq_nn, Ev.eq_ni, Ev.eq_in, Ev.eq_ns, Ev.eq_sn, Ev.eq_nb, Ev.eq_bn, Ev.eq_is, Ev.eq_si, and_self, true_and, and_true, fmod_lt64, fmod_gt64, atI_0, atI_1, atI_2, atI_3, atI_4, atI_5, atI_6, atI_7, atI_8, atI_9, itemsV, smV, fmtV, lenSetV, seqOf, lstOf, slcV, revV, srcOf, optI, List.nil_append, List.cons_append, sto_new, intsP, sortI, insI, compL, compG, wipeP, boolsP, List.all_cons, List.all_nil, id_eq, keep_nil, maxI, minI, intsP, cutf_1, cutf_2, cutf_3, cutf_4, cutt_1, cutt_2, cutt_3, cutt_4, List.drop_succ_cons, List.drop_zero, List.take_succ_cons, List.take_zero, Int.cast_ofNat_Int, false_and, and_false, or_self, or_false, false_or, true_or, or_true, lit_e, tS_len, tS_cat, tS_eq, tS_lt, List.toList_toArray, g_MOST_WORD, g_LETTERS, g_MOST_POOL, g_MOST_WEIGHT, g_MOST_TURNS, GC.pv, e])
  have hk : k = P.length := by
    rcases Nat.lt_or_ge k P.length with q | q
    · rw [show P.length - k = (P.length - (k + 1)) + 1 by omega, List.range'_succ] at h1; cases h1
    · omega
  rw [hk, flt_one _ (tn_lt hP m)] at h2
  subst h2
  exact ⟨_, _, s6_pre N eI hz, sto_new _ _, h4.trans Keep.app⟩
theorem s4_ok (N : Nat) {n : Nat} (hN : N = n + 6) {i j : Nat} {M : Sto} (h : Dk i j M) {P : Pool} (hP : IsPool P) {m : Nat} (hm : m ≤ 2000) {mi : Int} (hmi : mi = (m : Nat)) (v0 v2 v5 v6 v7 v8 v9 v10 v11 v12 : Option PV) :
    ∃ a0 ns CI AI M', evS (T.at N) q4 [v0, some (.ref i), v2, some (pV P), some (.int mi), v5, v6, v7, v8, v9, v10, v11, v12] M = .nx [v0, some (.ref i), v2, some (pV P), some (.int mi), v5, some (.ref CI), some (.ref AI), v8, v9, v10, v11, v12] M' ∧
      M'[CI]? = some (.lst ((cn P 0).map iV)) ∧ M'[AI]? = some (.lst ((a0 :: ns).map .int)) ∧ 0 ≤ a0 ∧ a0 ≤ mi ∧ AI ≠ CI ∧ CI ≠ i ∧ CI ≠ j ∧ AI ≠ i ∧ AI ≠ j ∧ M.length ≤ CI ∧ Dk i j M' ∧ Keep [i, j] M M' := by
  unfold q4
  have h8 := hP.le
  have l := h.lt
  obtain ⟨q, hq⟩ : ∃ q : Int, q = (P.length : Nat) := ⟨_, rfl⟩
  have hq' : (((P.map eV).length : Nat) : Int) = q := by rw [hq, List.length_map]
  have hrep : repOk 1 q = true := repOk_nat (by omega) (by omega) (by omega)
  have hz0 : (List.replicate q.toNat [PV.int 0]).flatten = (cn P 0).map iV := by
    have : q.toNat = P.length := by omega
    rw [this, ← ws_len P]
    show _ = ((ws P).map fun _ => 0).map iV
    generalize ws P = v
    induction v with
    | nil => rfl
    | cons x v ih => rw [List.length_cons, List.replicate_succ, List.flatten_cons, ih]; rfl
  have rg : rgOk 0 4 = true := rgOk_nat (by decide) (by decide) (by decide) (by decide)
  simp only [↓evE.eq_1, ↓evE.eq_2, ↓evE.eq_3, ↓evE.eq_4, ↓evE.eq_5, ↓evE.eq_6, ↓evE.eq_7, ↓evE.eq_8, ↓evE.eq_9, ↓evE.eq_10, ↓evE.eq_11, ↓evE.eq_12, ↓evE.eq_13, ↓evE.eq_14, ↓evE.eq_15, ↓evE.eq_16, ↓evE.eq_17, ↓evE.eq_18, ↓evE.eq_19, ↓evE.eq_20, ↓evE.eq_21, ↓evE.eq_22, ↓evE.eq_23, ↓evE.eq_24, ↓evE.eq_25, ↓evE.eq_26, ↓evE.eq_27, ↓evE.eq_28, ↓evE.eq_29, ↓evE.eq_30, ↓evE.eq_31, ↓evE.eq_32, ↓evE.eq_33, ↓evE.eq_34, ↓evE.eq_35, ↓evE.eq_36, ↓evE.eq_37, ↓evE.eq_38, ↓evS.eq_1, ↓evS_seq, ↓evS.eq_3, ↓evS.eq_4, ↓evS.eq_5, ↓evS.eq_6, ↓evS.eq_7, ↓evS.eq_8, ↓evS_ite, ↓iteS, ↓evS.eq_11, ↓evS.eq_12, ↓evS.eq_13, ↓evS.eq_14, ↓evS.eq_15, ↓evS.eq_16, ↓evS.eq_17, ↓evS_for, ↓evA.eq_1, ↓evA.eq_2, ↓evT.eq_1, ↓evT.eq_2, ↓evO.eq_1, ↓evO.eq_2, ↓evI.eq_1, ↓evI.eq_2, ↓evI.eq_3, ↓evI.eq_4, ↓evI.eq_5, ↓evF.eq_1, ↓evF.eq_2, ↓m_bind, ↓m_then, ↓m_opt, SRes.bind_nx, SRes.bind_rt, SRes.bind_bk, SRes.bind_ct, SRes.bind_ex, SRes.bind_bad, at_call, at_glo, at_fuel, SRes.back, List.getElem?_cons_zero, List.getElem?_cons_succ, List.set_cons_zero, List.set_cons_succ, asgT, asgTs, cmpV, truV, binV, bltV, tyN, tyLe, subV, Option.map_some, Option.map_none, List.any_cons, List.any_nil, if_true, if_false, ite_true, ite_false, String.reduceBEq, Nat.reduceAdd, Bool.or_false, Bool.false_or, Bool.or_true, Bool.true_or, Bool.and_true, Bool.true_and, Bool.and_false, Bool.false_and, Bool.not_true, Bool.not_false, beq_self_eq_true, decide_true, decide_false, reduceCtorEq, Bool.false_eq_true, Ev.keyOf, dctKeys, List.length_cons, List.length_nil, List.zip_cons_cons, List.zip_nil_left, List.zip_nil_right, List.foldl_cons, List.foldl_nil, methV, setV, isL, permL_cons, permL_nil, List.map_cons, List.map_nil, valP_cons, valP_nil, key_str, key_int, ofString_eq, String.reduceEq, putP, sizeLine_eq, Nat.reduceLT, Nat.reduceLeDiff, sto_self, mulOk, powOk, divOk, Int.reducePow, Nat.reducePow, Int.reduceNeg, Int.reduceLT, Int.reduceLE, natAbs64, natAbs30, Int.reduceToNat, Int.reduceEq, Int.reduceAdd, Int.reduceSub, Int.reduceMul, ne_eq, not_false_eq_true, Int.reduceNe, Ev.alloc, Ev.eq_ii, Ev.eq_ss, Ev.eq_bb, Ev.eq_nn, Ev.eq_ni, Ev.eq_in, Ev.eq_ns, Ev.eq_sn, Ev.eq_nb, Ev.eq_bn, Ev.eq_is, Ev.eq_si, and_self, true_and, and_true, fmod_lt64, fmod_gt64, atI_0, atI_1, atI_2, atI_3, atI_4, atI_5, atI_6, atI_7, atI_8, atI_9, itemsV, smV, fmtV, lenSetV, seqOf, lstOf, slcV, revV, srcOf, optI, List.nil_append, List.cons_append, sto_new, intsP, sortI, insI, compL, compG, wipeP, boolsP, List.all_cons, List.all_nil, id_eq, keep_nil, maxI, minI, intsP, cutf_1, cutf_2, cutf_3, cutf_4, cutt_1, cutt_2, cutt_3, cutt_4, List.drop_succ_cons, List.drop_zero, List.take_succ_cons, List.take_zero, Int.cast_ofNat_Int, false_and, and_false, or_self, or_false, false_or, true_or, or_true, lit_e, tS_len, tS_cat, tS_eq, tS_lt, List.toList_toArray, g_MOST_WORD, g_LETTERS, g_MOST_POOL, g_MOST_WEIGHT, g_MOST_TURNS, GC.pv, hq', hrep, hz0, rg]
  generalize hz : compL _ _ _ _ _ = z
  obtain ⟨W, hW⟩ : ∃ W, W = M ++ [MO.lst [PV.int 0]] ++ [MO.lst ((cn P 0).map iV)] := ⟨_, rfl⟩
  have dW : Dk i j W := by rw [hW]; exact (h.app _).app _
  have cW : W[M.length + 1]? = some (.lst ((cn P 0).map iV)) := by
    have := sto_new (M ++ [MO.lst [PV.int 0]]) (.lst ((cn P 0).map iV))
    rw [List.length_append] at this
    rw [hW]; exact this
  have kW : Keep [i, j] M W := by rw [hW]; exact Keep.app.trans Keep.app
  rw [← hW] at hz
  obtain ⟨out, M2, rfl, ns, h1, h2, h3, h4, h5⟩ := comp_gen' hz (fun xs acc M2 => ∃ ns : List Int, acc = ns.map .int ∧ ns.length + xs.length = 4 ∧ (∀ a ∈ ns, 0 ≤ a ∧ a ≤ mi) ∧ Dk i j M2 ∧ Keep [i, j] W M2)
    ⟨[], rfl, by simp [rgP], (fun _ z => by cases z), dW, Keep.refl _⟩ (fun _ _ _ _ => rfl) (fun x xs acc M2 ⟨ns, h1, h2, h3, h4, h5⟩ => by
      simp only [List.length_cons] at h2
      refine ⟨by rw [h1, sizeLine_eq, List.length_map]; omega, ?_⟩
      obtain ⟨r, M3, e, r0, r1, d3, k3⟩ := draw_ok (n + 5) h4 (many := mi + 1) (by omega) (by omega)
      rw [show n + 5 + 1 = N from hN.symm] at e
      refine ⟨M3, .inl ⟨.int r, ?_, ns ++ [r], by rw [h1]; simp, by simp; omega, fun a ha => ?_, d3, h5.trans k3⟩⟩
      · simp only [↓evE.eq_1, ↓evE.eq_2, ↓evE.eq_3, ↓evE.eq_4, ↓evE.eq_5, ↓evE.eq_6, ↓evE.eq_7, ↓evE.eq_8, ↓evE.eq_9, ↓evE.eq_10, ↓evE.eq_11, ↓evE.eq_12, ↓evE.eq_13, ↓evE.eq_14, ↓evE.eq_15, ↓evE.eq_16, ↓evE.eq_17, ↓evE.eq_18, ↓evE.eq_19, ↓evE.eq_20, ↓evE.eq_21, ↓evE.eq_22, ↓evE.eq_23, ↓evE.eq_24, ↓evE.eq_25, ↓evE.eq_26, ↓evE.eq_27, ↓evE.eq_28, ↓evE.eq_29, ↓evE.eq_30, ↓evE.eq_31, ↓evE.eq_32, ↓evE.eq_33, ↓evE.eq_34, ↓evE.eq_35, ↓evE.eq_36, ↓evE.eq_37, ↓evE.eq_38, ↓evS.eq_1, ↓evS_seq, ↓evS.eq_3, ↓evS.eq_4, ↓evS.eq_5, ↓evS.eq_6, ↓evS.eq_7, ↓evS.eq_8, ↓evS_ite, ↓iteS, ↓evS.eq_11, ↓evS.eq_12, ↓evS.eq_13, ↓evS.eq_14, ↓evS.eq_15, ↓evS.eq_16, ↓evS.eq_17, ↓evS_for, ↓evA.eq_1, ↓evA.eq_2, ↓evT.eq_1, ↓evT.eq_2, ↓evO.eq_1, ↓evO.eq_2, ↓evI.eq_1, ↓evI.eq_2, ↓evI.eq_3, ↓evI.eq_4, ↓evI.eq_5, ↓evF.eq_1, ↓evF.eq_2, ↓m_bind, ↓m_then, ↓m_opt, SRes.bind_nx, SRes.bind_rt, SRes.bind_bk, SRes.bind_ct, SRes.bind_ex, SRes.bind_bad, at_call, at_glo, at_fuel, SRes.back, List.getElem?_cons_zero, List.getElem?_cons_succ, List.set_cons_zero, List.set_cons_succ, asgT, asgTs, cmpV, truV, binV, bltV, tyN, tyLe, subV, Option.map_some, Option.map_none, List.any_cons, List.any_nil, if_true, if_false, ite_true, ite_false, String.reduceBEq, Nat.reduceAdd, Bool.or_false, Bool.false_or, Bool.or_true, Bool.true_or, Bool.and_true, Bool.true_and, Bool.and_false, Bool.false_and, Bool.not_true, Bool.not_false, beq_self_eq_true, decide_true, decide_false, reduceCtorEq, Bool.false_eq_true, Ev.keyOf, dctKeys, List.length_cons, List.length_nil, List.zip_cons_cons, List.zip_nil_left, List.zip_nil_right, List.foldl_cons, List.foldl_nil, methV, setV, isL, permL_cons, permL_nil, List.map_cons, List.map_nil, valP_cons, valP_nil, key_str, key_int, ofString_eq, String.reduceEq, putP, sizeLine_eq, Nat.reduceLT, Nat.reduceLeDiff, sto_self, mulOk, powOk, divOk, Int.reducePow, Nat.reducePow, Int.reduceNeg, Int.reduceLT, Int.reduceLE, natAbs64, natAbs30, Int.reduceToNat, Int.reduceEq, Int.reduceAdd, Int.reduceSub, Int.reduceMul, ne_eq, not_false_eq_true, Int.reduceNe, Ev.alloc, Ev.eq_ii, Ev.eq_ss, Ev.eq_bb, Ev.eq_nn, Ev.eq_ni, Ev.eq_in, Ev.eq_ns, Ev.eq_sn, Ev.eq_nb, Ev.eq_bn, Ev.eq_is, Ev.eq_si, and_self, true_and, and_true, fmod_lt64, fmod_gt64, atI_0, atI_1, atI_2, atI_3, atI_4, atI_5, atI_6, atI_7, atI_8, atI_9, itemsV, smV, fmtV, lenSetV, seqOf, lstOf, slcV, revV, srcOf, optI, List.nil_append, List.cons_append, sto_new, intsP, sortI, insI, compL, compG, wipeP, boolsP, List.all_cons, List.all_nil, id_eq, keep_nil, maxI, minI, intsP, cutf_1, cutf_2, cutf_3, cutf_4, cutt_1, cutt_2, cutt_3, cutt_4, List.drop_succ_cons, List.drop_zero, List.take_succ_cons, List.take_zero, Int.cast_ofNat_Int, false_and, and_false, or_self, or_false, false_or, true_or, or_true, lit_e, tS_len, tS_cat, tS_eq, tS_lt, List.toList_toArray, g_MOST_WORD, g_LETTERS, g_MOST_POOL, g_MOST_WEIGHT, g_MOST_TURNS, GC.pv, e]
      · rcases List.mem_append.mp ha with ha | ha
        · exact h3 a ha
        · rw [List.mem_singleton.mp ha]; omega)
  subst h1
  cases ns with
  | nil => simp at h2
  | cons a0 ns =>
    obtain ⟨a1, a2⟩ := h3 a0 List.mem_cons_self
    have wl := h5.len
    have cM : M2[M.length + 1]? = some (.lst ((cn P 0).map iV)) := h5.get cW (by simp; omega)
    have l2 := sto_lt cM
    simp only [↓evE.eq_1, ↓evE.eq_2, ↓evE.eq_3, ↓evE.eq_4, ↓evE.eq_5, ↓evE.eq_6, ↓evE.eq_7, ↓evE.eq_8, ↓evE.eq_9, ↓evE.eq_10, ↓evE.eq_11, ↓evE.eq_12, ↓evE.eq_13, ↓evE.eq_14, ↓evE.eq_15, ↓evE.eq_16, ↓evE.eq_17, ↓evE.eq_18, ↓evE.eq_19, ↓evE.eq_20, ↓evE.eq_21, ↓evE.eq_22, ↓evE.eq_23, ↓evE.eq_24, ↓evE.eq_25, ↓evE.eq_26, ↓evE.eq_27, ↓evE.eq_28, ↓evE.eq_29, ↓evE.eq_30, ↓evE.eq_31, ↓evE.eq_32, ↓evE.eq_33, ↓evE.eq_34, ↓evE.eq_35, ↓evE.eq_36, ↓evE.eq_37, ↓evE.eq_38, ↓evS.eq_1, ↓evS_seq, ↓evS.eq_3, ↓evS.eq_4, ↓evS.eq_5, ↓evS.eq_6, ↓evS.eq_7, ↓evS.eq_8, ↓evS_ite, ↓iteS, ↓evS.eq_11, ↓evS.eq_12, ↓evS.eq_13, ↓evS.eq_14, ↓evS.eq_15, ↓evS.eq_16, ↓evS.eq_17, ↓evS_for, ↓evA.eq_1, ↓evA.eq_2, ↓evT.eq_1, ↓evT.eq_2, ↓evO.eq_1, ↓evO.eq_2, ↓evI.eq_1, ↓evI.eq_2, ↓evI.eq_3, ↓evI.eq_4, ↓evI.eq_5, ↓evF.eq_1, ↓evF.eq_2, ↓m_bind, ↓m_then, ↓m_opt, SRes.bind_nx, SRes.bind_rt, SRes.bind_bk, SRes.bind_ct, SRes.bind_ex, SRes.bind_bad, at_call, at_glo, at_fuel, SRes.back, List.getElem?_cons_zero, List.getElem?_cons_succ, List.set_cons_zero, List.set_cons_succ, asgT, asgTs, cmpV, truV, binV, bltV, tyN, tyLe, subV, Option.map_some, Option.map_none, List.any_cons, List.any_nil, if_true, if_false, ite_true, ite_false, String.reduceBEq, Nat.reduceAdd, Bool.or_false, Bool.false_or, Bool.or_true, Bool.true_or, Bool.and_true, Bool.true_and, Bool.and_false, Bool.false_and, Bool.not_true, Bool.not_false, beq_self_eq_true, decide_true, decide_false, reduceCtorEq, Bool.false_eq_true, Ev.keyOf, dctKeys, List.length_cons, List.length_nil, List.zip_cons_cons, List.zip_nil_left, List.zip_nil_right, List.foldl_cons, List.foldl_nil, methV, setV, isL, permL_cons, permL_nil, List.map_cons, List.map_nil, valP_cons, valP_nil, key_str, key_int, ofString_eq, String.reduceEq, putP, sizeLine_eq, Nat.reduceLT, Nat.reduceLeDiff, sto_self, mulOk, powOk, divOk, Int.reducePow, Nat.reducePow, Int.reduceNeg, Int.reduceLT, Int.reduceLE, natAbs64, natAbs30, Int.reduceToNat, Int.reduceEq, Int.reduceAdd, Int.reduceSub, Int.reduceMul, ne_eq, not_false_eq_true, Int.reduceNe, Ev.alloc, Ev.eq_ii, Ev.eq_ss, Ev.eq_bb, Ev.eq_nn, Ev.eq_ni, Ev.eq_in, Ev.eq_ns, Ev.eq_sn, Ev.eq_nb, Ev.eq_bn, Ev.eq_is, Ev.eq_si, and_self, true_and, and_true, fmod_lt64, fmod_gt64, atI_0, atI_1, atI_2, atI_3, atI_4, atI_5, atI_6, atI_7, atI_8, atI_9, itemsV, smV, fmtV, lenSetV, seqOf, lstOf, slcV, revV, srcOf, optI, List.nil_append, List.cons_append, sto_new, intsP, sortI, insI, compL, compG, wipeP, boolsP, List.all_cons, List.all_nil, id_eq, keep_nil, maxI, minI, intsP, cutf_1, cutf_2, cutf_3, cutf_4, cutt_1, cutt_2, cutt_3, cutt_4, List.drop_succ_cons, List.drop_zero, List.take_succ_cons, List.take_zero, Int.cast_ofNat_Int, false_and, and_false, or_self, or_false, false_or, true_or, or_true, lit_e, tS_len, tS_cat, tS_eq, tS_lt, List.toList_toArray, g_MOST_WORD, g_LETTERS, g_MOST_POOL, g_MOST_WEIGHT, g_MOST_TURNS, GC.pv]
    refine ⟨a0, ns, M.length + 1, M2.length, M2 ++ [.lst ((a0 :: ns).map .int)], ?_, sto_app cM, sto_new _ _, a1, a2, by omega, by omega, by omega, by omega, by omega, by omega, h4.app _, kW.trans (h5.trans Keep.app)⟩
    simp
end K18

set_option Elab.async false
set_option linter.all false
set_option maxRecDepth 100000
set_option maxHeartbeats 4000000
/-! K18l: the law. -/
namespace K18
open PySem L2 Ev
theorem nums {xs : List PV} (h : ∀ x ∈ xs, ∃ q : Nat, x = .int (q : Nat) ∧ q ≤ 2000) {r : PV} (hr : r ∈ xs) : ∃ q : Nat, r = .int (q : Nat) ∧ q ≤ 2000 := h r hr
theorem s01_ok (N : Nat) {n : Nat} (hN : N = n + 6) {i j : Nat} {M : Sto} (h : Dk i j M) {g : Int} (v0 v3 v4 v5 v6 v7 v8 v9 v10 v11 v12 : Option PV) :
    ∃ P m mi M', evS (T.at N) (Q q0 (Q q1 N_)) [v0, some (.ref i), some (.int g), v3, v4, v5, v6, v7, v8, v9, v10, v11, v12] M = .nx [v0, some (.ref i), some (.int g), some (pV P), some (.int mi), v5, v6, v7, v8, v9, v10, v11, v12] M' ∧
      IsPool P ∧ mi = ((m : Nat) : Int) ∧ m ≤ 2000 ∧ Dk i j M' ∧ Keep [i, j] M M' := by
  obtain ⟨P, M1, e1, hP, d1, k1⟩ := pool_drawn (n + 3) h
  obtain ⟨r, M2, e2, rm, d2, k2⟩ := picks (n + 4) d1 [.int 60, .int 12, .int 30, .int 120, .int 0, .int 1] (by simp) (by simp)
  obtain ⟨q, rfl, q1'⟩ : ∃ q : Nat, r = .int (q : Nat) ∧ q ≤ 2000 := by
    simp only [List.mem_cons, List.not_mem_nil, or_false] at rm
    rcases rm with rfl | rfl | rfl | rfl | rfl | rfl
    · exact ⟨60, rfl, by omega⟩
    · exact ⟨12, rfl, by omega⟩
    · exact ⟨30, rfl, by omega⟩
    · exact ⟨120, rfl, by omega⟩
    · exact ⟨0, rfl, by omega⟩
    · exact ⟨1, rfl, by omega⟩
  obtain ⟨qi, hqi⟩ : ∃ qi : Int, qi = (q : Nat) := ⟨_, rfl⟩
  rw [← hqi] at e2
  have e1 : callN T N "_law_pool" [.ref i] M = .ok (pV P) M1 := by rw [hN]; exact e1
  have e2 : callN T N "_law_pick" [.ref i, .ref M1.length] (M1 ++ [.lst [.int 60, .int 12, .int 30, .int 120, .int 0, .int 1]]) = .ok (.int qi) M2 := by rw [hN]; exact e2
  obtain ⟨pp, hpp⟩ : ∃ pp, pp = pV P := ⟨_, rfl⟩
  rw [← hpp] at e1
  by_cases hg : g = 1
  · obtain ⟨w, M3, e3, w0, w1, d3, k3⟩ := draw_ok (n + 5) d2 (many := 8) (by omega) (by omega)
    have e3 : callN T N "_law_draw" [.ref i, .int 8] M2 = .ok (.int w) M3 := by rw [hN]; exact e3
    have hg' : (g = 1) = True := eq_true hg
    by_cases hw : w = 0
    · obtain ⟨r, M4, e4, rm, d4, k4⟩ := picks (n + 4) d3 [.int 2000, .int 1999, .int 1001, .int 201] (by simp) (by simp)
      obtain ⟨q4, rfl, q4'⟩ : ∃ q : Nat, r = .int (q : Nat) ∧ q ≤ 2000 := by
        simp only [List.mem_cons, List.not_mem_nil, or_false] at rm
        rcases rm with rfl | rfl | rfl | rfl
        · exact ⟨2000, rfl, by omega⟩
        · exact ⟨1999, rfl, by omega⟩
        · exact ⟨1001, rfl, by omega⟩
        · exact ⟨201, rfl, by omega⟩
      obtain ⟨qj, hqj⟩ : ∃ qi : Int, qi = (q4 : Nat) := ⟨_, rfl⟩
      rw [← hqj] at e4
      have e4 : callN T N "_law_pick" [.ref i, .ref M3.length] (M3 ++ [.lst [.int 2000, .int 1999, .int 1001, .int 201]]) = .ok (.int qj) M4 := by rw [hN]; exact e4
      have hw' : (w = 0) = True := eq_true hw
      refine ⟨P, q4, qj, M4, ?_, hP, hqj, q4', d4, k1.trans (k2.trans (k3.trans k4))⟩
      rw [← hpp]
      unfold q0 q1
      simp only [↓evE.eq_1, ↓evE.eq_2, ↓evE.eq_3, ↓evE.eq_4, ↓evE.eq_5, ↓evE.eq_6, ↓evE.eq_7, ↓evE.eq_8, ↓evE.eq_9, ↓evE.eq_10, ↓evE.eq_11, ↓evE.eq_12, ↓evE.eq_13, ↓evE.eq_14, ↓evE.eq_15, ↓evE.eq_16, ↓evE.eq_17, ↓evE.eq_18, ↓evE.eq_19, ↓evE.eq_20, ↓evE.eq_21, ↓evE.eq_22, ↓evE.eq_23, ↓evE.eq_24, ↓evE.eq_25, ↓evE.eq_26, ↓evE.eq_27, ↓evE.eq_28, ↓evE.eq_29, ↓evE.eq_30, ↓evE.eq_31, ↓evE.eq_32, ↓evE.eq_33, ↓evE.eq_34, ↓evE.eq_35, ↓evE.eq_36, ↓evE.eq_37, ↓evE.eq_38, ↓evS.eq_1, ↓evS_seq, ↓evS.eq_3, ↓evS.eq_4, ↓evS.eq_5, ↓evS.eq_6, ↓evS.eq_7, ↓evS.eq_8, ↓evS_ite, ↓iteS, ↓evS.eq_11, ↓evS.eq_12, ↓evS.eq_13, ↓evS.eq_14, ↓evS.eq_15, ↓evS.eq_16, ↓evS.eq_17, ↓evS_for, ↓evA.eq_1, ↓evA.eq_2, ↓evT.eq_1, ↓evT.eq_2, ↓evO.eq_1, ↓evO.eq_2, ↓evI.eq_1, ↓evI.eq_2, ↓evI.eq_3, ↓evI.eq_4, ↓evI.eq_5, ↓evF.eq_1, ↓evF.eq_2, ↓m_bind, ↓m_then, ↓m_opt, SRes.bind_nx, SRes.bind_rt, SRes.bind_bk, SRes.bind_ct, SRes.bind_ex, SRes.bind_bad, at_call, at_glo, at_fuel, SRes.back, List.getElem?_cons_zero, List.getElem?_cons_succ, List.set_cons_zero, List.set_cons_succ, asgT, asgTs, cmpV, truV, binV, bltV, tyN, tyLe, subV, Option.map_some, Option.map_none, List.any_cons, List.any_nil, if_true, if_false, ite_true, ite_false, String.reduceBEq, Nat.reduceAdd, Bool.or_false, Bool.false_or, Bool.or_true, Bool.true_or, Bool.and_true, Bool.true_and, Bool.and_false, Bool.false_and, Bool.not_true, Bool.not_false, beq_self_eq_true, decide_true, decide_false, reduceCtorEq, Bool.false_eq_true, Ev.keyOf, dctKeys, List.length_cons, List.length_nil, List.zip_cons_cons, List.zip_nil_left, List.zip_nil_right, List.foldl_cons, List.foldl_nil, methV, setV, isL, permL_cons, permL_nil, List.map_cons, List.map_nil, valP_cons, valP_nil, key_str, key_int, ofString_eq, String.reduceEq, putP, sizeLine_eq, Nat.reduceLT, Nat.reduceLeDiff, sto_self, mulOk, powOk, divOk, Int.reducePow, Nat.reducePow, Int.reduceNeg, Int.reduceLT, Int.reduceLE, natAbs64, natAbs30, Int.reduceToNat, Int.reduceEq, Int.reduceAdd, Int.reduceSub, Int.reduceMul, ne_eq, not_false_eq_true, Int.reduceNe, Ev.alloc, Ev.eq_ii, Ev.eq_ss, Ev.eq_bb, Ev.eq_nn, Ev.eq_ni, Ev.eq_in, Ev.eq_ns, Ev.eq_sn, Ev.eq_nb, Ev.eq_bn, Ev.eq_is, Ev.eq_si, and_self, true_and, and_true, fmod_lt64, fmod_gt64, atI_0, atI_1, atI_2, atI_3, atI_4, atI_5, atI_6, atI_7, atI_8, atI_9, itemsV, smV, fmtV, lenSetV, seqOf, lstOf, slcV, revV, srcOf, optI, List.nil_append, List.cons_append, sto_new, intsP, sortI, insI, compL, compG, wipeP, boolsP, List.all_cons, List.all_nil, id_eq, keep_nil, maxI, minI, intsP, cutf_1, cutf_2, cutf_3, cutf_4, cutt_1, cutt_2, cutt_3, cutt_4, List.drop_succ_cons, List.drop_zero, List.take_succ_cons, List.take_zero, Int.cast_ofNat_Int, false_and, and_false, or_self, or_false, false_or, true_or, or_true, lit_e, tS_len, tS_cat, tS_eq, tS_lt, List.toList_toArray, g_MOST_WORD, g_LETTERS, g_MOST_POOL, g_MOST_WEIGHT, g_MOST_TURNS, GC.pv, e1, e2, e3, e4, hg', hw']
    · have hw' : (w = 0) = False := eq_false hw
      refine ⟨P, q, qi, M3, ?_, hP, hqi, q1', d3, k1.trans (k2.trans k3)⟩
      rw [← hpp]
      unfold q0 q1
      simp only [↓evE.eq_1, ↓evE.eq_2, ↓evE.eq_3, ↓evE.eq_4, ↓evE.eq_5, ↓evE.eq_6, ↓evE.eq_7, ↓evE.eq_8, ↓evE.eq_9, ↓evE.eq_10, ↓evE.eq_11, ↓evE.eq_12, ↓evE.eq_13, ↓evE.eq_14, ↓evE.eq_15, ↓evE.eq_16, ↓evE.eq_17, ↓evE.eq_18, ↓evE.eq_19, ↓evE.eq_20, ↓evE.eq_21, ↓evE.eq_22, ↓evE.eq_23, ↓evE.eq_24, ↓evE.eq_25, ↓evE.eq_26, ↓evE.eq_27, ↓evE.eq_28, ↓evE.eq_29, ↓evE.eq_30, ↓evE.eq_31, ↓evE.eq_32, ↓evE.eq_33, ↓evE.eq_34, ↓evE.eq_35, ↓evE.eq_36, ↓evE.eq_37, ↓evE.eq_38, ↓evS.eq_1, ↓evS_seq, ↓evS.eq_3, ↓evS.eq_4, ↓evS.eq_5, ↓evS.eq_6, ↓evS.eq_7, ↓evS.eq_8, ↓evS_ite, ↓iteS, ↓evS.eq_11, ↓evS.eq_12, ↓evS.eq_13, ↓evS.eq_14, ↓evS.eq_15, ↓evS.eq_16, ↓evS.eq_17, ↓evS_for, ↓evA.eq_1, ↓evA.eq_2, ↓evT.eq_1, ↓evT.eq_2, ↓evO.eq_1, ↓evO.eq_2, ↓evI.eq_1, ↓evI.eq_2, ↓evI.eq_3, ↓evI.eq_4, ↓evI.eq_5, ↓evF.eq_1, ↓evF.eq_2, ↓m_bind, ↓m_then, ↓m_opt, SRes.bind_nx, SRes.bind_rt, SRes.bind_bk, SRes.bind_ct, SRes.bind_ex, SRes.bind_bad, at_call, at_glo, at_fuel, SRes.back, List.getElem?_cons_zero, List.getElem?_cons_succ, List.set_cons_zero, List.set_cons_succ, asgT, asgTs, cmpV, truV, binV, bltV, tyN, tyLe, subV, Option.map_some, Option.map_none, List.any_cons, List.any_nil, if_true, if_false, ite_true, ite_false, String.reduceBEq, Nat.reduceAdd, Bool.or_false, Bool.false_or, Bool.or_true, Bool.true_or, Bool.and_true, Bool.true_and, Bool.and_false, Bool.false_and, Bool.not_true, Bool.not_false, beq_self_eq_true, decide_true, decide_false, reduceCtorEq, Bool.false_eq_true, Ev.keyOf, dctKeys, List.length_cons, List.length_nil, List.zip_cons_cons, List.zip_nil_left, List.zip_nil_right, List.foldl_cons, List.foldl_nil, methV, setV, isL, permL_cons, permL_nil, List.map_cons, List.map_nil, valP_cons, valP_nil, key_str, key_int, ofString_eq, String.reduceEq, putP, sizeLine_eq, Nat.reduceLT, Nat.reduceLeDiff, sto_self, mulOk, powOk, divOk, Int.reducePow, Nat.reducePow, Int.reduceNeg, Int.reduceLT, Int.reduceLE, natAbs64, natAbs30, Int.reduceToNat, Int.reduceEq, Int.reduceAdd, Int.reduceSub, Int.reduceMul, ne_eq, not_false_eq_true, Int.reduceNe, Ev.alloc, Ev.eq_ii, Ev.eq_ss, Ev.eq_bb, Ev.eq_nn, Ev.eq_ni, Ev.eq_in, Ev.eq_ns, Ev.eq_sn, Ev.eq_nb, Ev.eq_bn, Ev.eq_is, Ev.eq_si, and_self, true_and, and_true, fmod_lt64, fmod_gt64, atI_0, atI_1, atI_2, atI_3, atI_4, atI_5, atI_6, atI_7, atI_8, atI_9, itemsV, smV, fmtV, lenSetV, seqOf, lstOf, slcV, revV, srcOf, optI, List.nil_append, List.cons_append, sto_new, intsP, sortI, insI, compL, compG, wipeP, boolsP, List.all_cons, List.all_nil, id_eq, keep_nil, maxI, minI, intsP, cutf_1, cutf_2, cutf_3, cutf_4, cutt_1, cutt_2, cutt_3, cutt_4, List.drop_succ_cons, List.drop_zero, List.take_succ_cons, List.take_zero, Int.cast_ofNat_Int, false_and, and_false, or_self, or_false, false_or, true_or, or_true, lit_e, tS_len, tS_cat, tS_eq, tS_lt, List.toList_toArray, g_MOST_WORD, g_LETTERS, g_MOST_POOL, g_MOST_WEIGHT, g_MOST_TURNS, GC.pv, e1, e2, e3, hg', hw']
  · have hg' : (g = 1) = False := eq_false hg
    refine ⟨P, q, qi, M2, ?_, hP, hqi, q1', d2, k1.trans k2⟩
    rw [← hpp]
    unfold q0 q1
    simp only [↓evE.eq_1, ↓evE.eq_2, ↓evE.eq_3, ↓evE.eq_4, ↓evE.eq_5, ↓evE.eq_6, ↓evE.eq_7, ↓evE.eq_8, ↓evE.eq_9, ↓evE.eq_10, ↓evE.eq_11, ↓evE.eq_12, ↓evE.eq_13, ↓evE.eq_14, ↓evE.eq_15, ↓evE.eq_16, ↓evE.eq_17, ↓evE.eq_18, ↓evE.eq_19, ↓evE.eq_20, ↓evE.eq_21, ↓evE.eq_22, ↓evE.eq_23, ↓evE.eq_24, ↓evE.eq_25, ↓evE.eq_26, ↓evE.eq_27, ↓evE.eq_28, ↓evE.eq_29, ↓evE.eq_30, ↓evE.eq_31, ↓evE.eq_32, ↓evE.eq_33, ↓evE.eq_34, ↓evE.eq_35, ↓evE.eq_36, ↓evE.eq_37, ↓evE.eq_38, ↓evS.eq_1, ↓evS_seq, ↓evS.eq_3, ↓evS.eq_4, ↓evS.eq_5, ↓evS.eq_6, ↓evS.eq_7, ↓evS.eq_8, ↓evS_ite, ↓iteS, ↓evS.eq_11, ↓evS.eq_12, ↓evS.eq_13, ↓evS.eq_14, ↓evS.eq_15, ↓evS.eq_16, ↓evS.eq_17, ↓evS_for, ↓evA.eq_1, ↓evA.eq_2, ↓evT.eq_1, ↓evT.eq_2, ↓evO.eq_1, ↓evO.eq_2, ↓evI.eq_1, ↓evI.eq_2, ↓evI.eq_3, ↓evI.eq_4, ↓evI.eq_5, ↓evF.eq_1, ↓evF.eq_2, ↓m_bind, ↓m_then, ↓m_opt, SRes.bind_nx, SRes.bind_rt, SRes.bind_bk, SRes.bind_ct, SRes.bind_ex, SRes.bind_bad, at_call, at_glo, at_fuel, SRes.back, List.getElem?_cons_zero, List.getElem?_cons_succ, List.set_cons_zero, List.set_cons_succ, asgT, asgTs, cmpV, truV, binV, bltV, tyN, tyLe, subV, Option.map_some, Option.map_none, List.any_cons, List.any_nil, if_true, if_false, ite_true, ite_false, String.reduceBEq, Nat.reduceAdd, Bool.or_false, Bool.false_or, Bool.or_true, Bool.true_or, Bool.and_true, Bool.true_and, Bool.and_false, Bool.false_and, Bool.not_true, Bool.not_false, beq_self_eq_true, decide_true, decide_false, reduceCtorEq, Bool.false_eq_true, Ev.keyOf, dctKeys, List.length_cons, List.length_nil, List.zip_cons_cons, List.zip_nil_left, List.zip_nil_right, List.foldl_cons, List.foldl_nil, methV, setV, isL, permL_cons, permL_nil, List.map_cons, List.map_nil, valP_cons, valP_nil, key_str, key_int, ofString_eq, String.reduceEq, putP, sizeLine_eq, Nat.reduceLT, Nat.reduceLeDiff, sto_self, mulOk, powOk, divOk, Int.reducePow, Nat.reducePow, Int.reduceNeg, Int.reduceLT, Int.reduceLE, natAbs64, natAbs30, Int.reduceToNat, Int.reduceEq, Int.reduceAdd, Int.reduceSub, Int.reduceMul, ne_eq, not_false_eq_true, Int.reduceNe, Ev.alloc, Ev.eq_ii, Ev.eq_ss, Ev.eq_bb, Ev.eq_nn, Ev.eq_ni, Ev.eq_in, Ev.eq_ns, Ev.eq_sn, Ev.eq_nb, Ev.eq_bn, Ev.eq_is, Ev.eq_si, and_self, true_and, and_true, fmod_lt64, fmod_gt64, atI_0, atI_1, atI_2, atI_3, atI_4, atI_5, atI_6, atI_7, atI_8, atI_9, itemsV, smV, fmtV, lenSetV, seqOf, lstOf, slcV, revV, srcOf, optI, List.nil_append, List.cons_append, sto_new, intsP, sortI, insI, compL, compG, wipeP, boolsP, List.all_cons, List.all_nil, id_eq, keep_nil, maxI, minI, intsP, cutf_1, cutf_2, cutf_3, cutf_4, cutt_1, cutt_2, cutt_3, cutt_4, List.drop_succ_cons, List.drop_zero, List.take_succ_cons, List.take_zero, Int.cast_ofNat_Int, false_and, and_false, or_self, or_false, false_or, true_or, or_true, lit_e, tS_len, tS_cat, tS_eq, tS_lt, List.toList_toArray, g_MOST_WORD, g_LETTERS, g_MOST_POOL, g_MOST_WEIGHT, g_MOST_TURNS, GC.pv, e1, e2, hg']
theorem s23_ok (N : Nat) {n : Nat} (hN : N = n + 6) {M : Sto} {P : Pool} (hP : IsPool P) {m : Nat} {mi : Int} (hm : m ≤ 2000) (hmi : mi = (m : Nat)) (h0 : TB M) {g : Int} (v0 v1 v5 v6 v7 v8 v9 v10 v11 v12 : Option PV) :
    ∃ M', evS (T.at N) (Q q2 (Q q3 N_)) [v0, v1, some (.int g), some (pV P), some (.int mi), v5, v6, v7, v8, v9, v10, v11, v12] M = .nx [v0, v1, some (.int g), some (pV P), some (.int mi), some (.tup ((List.range m).map fun k => iV (tn P k))), v6, v7, v8, v9, v10, v11, v12] M' ∧ Keep [] M M' := by
  obtain ⟨M1, e1, k1⟩ := turns_ok (n + 1) M hP hmi h0 hm
  have e1 : callN T N "turns" [pV P, .int mi] M = .ok (.tup ((List.range m).map fun k => iV (tn P k))) M1 := by rw [hN]; exact e1
  obtain ⟨pp, hpp⟩ : ∃ pp, pp = pV P := ⟨_, rfl⟩
  obtain ⟨tt, htt⟩ : ∃ tt, tt = (List.range m).map fun k => iV (tn P k) := ⟨_, rfl⟩
  have hl : ((tt.length : Nat) : Int) = mi := by rw [htt, hmi]; simp
  rw [← hpp, ← htt] at e1 ⊢
  refine ⟨M1, ?_, k1⟩
  unfold q2 q3
  by_cases hg : g = 0
  · have hg' : (g = 0) = True := eq_true hg
    simp only [↓evE.eq_1, ↓evE.eq_2, ↓evE.eq_3, ↓evE.eq_4, ↓evE.eq_5, ↓evE.eq_6, ↓evE.eq_7, ↓evE.eq_8, ↓evE.eq_9, ↓evE.eq_10, ↓evE.eq_11, ↓evE.eq_12, ↓evE.eq_13, ↓evE.eq_14, ↓evE.eq_15, ↓evE.eq_16, ↓evE.eq_17, ↓evE.eq_18, ↓evE.eq_19, ↓evE.eq_20, ↓evE.eq_21, ↓evE.eq_22, ↓evE.eq_23, ↓evE.eq_24, ↓evE.eq_25, ↓evE.eq_26, ↓evE.eq_27, ↓evE.eq_28, ↓evE.eq_29, ↓evE.eq_30, ↓evE.eq_31, ↓evE.eq_32, ↓evE.eq_33, ↓evE.eq_34, ↓evE.eq_35, ↓evE.eq_36, ↓evE.eq_37, ↓evE.eq_38, ↓evS.eq_1, ↓evS_seq, ↓evS.eq_3, ↓evS.eq_4, ↓evS.eq_5, ↓evS.eq_6, ↓evS.eq_7, ↓evS.eq_8, ↓evS_ite, ↓iteS, ↓evS.eq_11, ↓evS.eq_12, ↓evS.eq_13, ↓evS.eq_14, ↓evS.eq_15, ↓evS.eq_16, ↓evS.eq_17, ↓evS_for, ↓evA.eq_1, ↓evA.eq_2, ↓evT.eq_1, ↓evT.eq_2, ↓evO.eq_1, ↓evO.eq_2, ↓evI.eq_1, ↓evI.eq_2, ↓evI.eq_3, ↓evI.eq_4, ↓evI.eq_5, ↓evF.eq_1, ↓evF.eq_2, ↓m_bind, ↓m_then, ↓m_opt, SRes.bind_nx, SRes.bind_rt, SRes.bind_bk, SRes.bind_ct, SRes.bind_ex, SRes.bind_bad, at_call, at_glo, at_fuel, SRes.back, List.getElem?_cons_zero, List.getElem?_cons_succ, List.set_cons_zero, List.set_cons_succ, asgT, asgTs, cmpV, truV, binV, bltV, tyN, tyLe, subV, Option.map_some, Option.map_none, List.any_cons, List.any_nil, if_true, if_false, ite_true, ite_false, String.reduceBEq, Nat.reduceAdd, Bool.or_false, Bool.false_or, Bool.or_true, Bool.true_or, Bool.and_true, Bool.true_and, Bool.and_false, Bool.false_and, Bool.not_true, Bool.not_false, beq_self_eq_true, decide_true, decide_false, reduceCtorEq, Bool.false_eq_true, Ev.keyOf, dctKeys, List.length_cons, List.length_nil, List.zip_cons_cons, List.zip_nil_left, List.zip_nil_right, List.foldl_cons, List.foldl_nil, methV, setV, isL, permL_cons, permL_nil, List.map_cons, List.map_nil, valP_cons, valP_nil, key_str, key_int, ofString_eq, String.reduceEq, putP, sizeLine_eq, Nat.reduceLT, Nat.reduceLeDiff, sto_self, mulOk, powOk, divOk, Int.reducePow, Nat.reducePow, Int.reduceNeg, Int.reduceLT, Int.reduceLE, natAbs64, natAbs30, Int.reduceToNat, Int.reduceEq, Int.reduceAdd, Int.reduceSub, Int.reduceMul, ne_eq, not_false_eq_true, Int.reduceNe, Ev.alloc, Ev.eq_ii, Ev.eq_ss, Ev.eq_bb, Ev.eq_nn, Ev.eq_ni, Ev.eq_in, Ev.eq_ns, Ev.eq_sn, Ev.eq_nb, Ev.eq_bn, Ev.eq_is, Ev.eq_si, and_self, true_and, and_true, fmod_lt64, fmod_gt64, atI_0, atI_1, atI_2, atI_3, atI_4, atI_5, atI_6, atI_7, atI_8, atI_9, itemsV, smV, fmtV, lenSetV, seqOf, lstOf, slcV, revV, srcOf, optI, List.nil_append, List.cons_append, sto_new, intsP, sortI, insI, compL, compG, wipeP, boolsP, List.all_cons, List.all_nil, id_eq, keep_nil, maxI, minI, intsP, cutf_1, cutf_2, cutf_3, cutf_4, cutt_1, cutt_2, cutt_3, cutt_4, List.drop_succ_cons, List.drop_zero, List.take_succ_cons, List.take_zero, Int.cast_ofNat_Int, false_and, and_false, or_self, or_false, false_or, true_or, or_true, lit_e, tS_len, tS_cat, tS_eq, tS_lt, List.toList_toArray, g_MOST_WORD, g_LETTERS, g_MOST_POOL, g_MOST_WEIGHT, g_MOST_TURNS, GC.pv, e1, hg', hl]
  · have hg' : (g = 0) = False := eq_false hg
    simp only [↓evE.eq_1, ↓evE.eq_2, ↓evE.eq_3, ↓evE.eq_4, ↓evE.eq_5, ↓evE.eq_6, ↓evE.eq_7, ↓evE.eq_8, ↓evE.eq_9, ↓evE.eq_10, ↓evE.eq_11, ↓evE.eq_12, ↓evE.eq_13, ↓evE.eq_14, ↓evE.eq_15, ↓evE.eq_16, ↓evE.eq_17, ↓evE.eq_18, ↓evE.eq_19, ↓evE.eq_20, ↓evE.eq_21, ↓evE.eq_22, ↓evE.eq_23, ↓evE.eq_24, ↓evE.eq_25, ↓evE.eq_26, ↓evE.eq_27, ↓evE.eq_28, ↓evE.eq_29, ↓evE.eq_30, ↓evE.eq_31, ↓evE.eq_32, ↓evE.eq_33, ↓evE.eq_34, ↓evE.eq_35, ↓evE.eq_36, ↓evE.eq_37, ↓evE.eq_38, ↓evS.eq_1, ↓evS_seq, ↓evS.eq_3, ↓evS.eq_4, ↓evS.eq_5, ↓evS.eq_6, ↓evS.eq_7, ↓evS.eq_8, ↓evS_ite, ↓iteS, ↓evS.eq_11, ↓evS.eq_12, ↓evS.eq_13, ↓evS.eq_14, ↓evS.eq_15, ↓evS.eq_16, ↓evS.eq_17, ↓evS_for, ↓evA.eq_1, ↓evA.eq_2, ↓evT.eq_1, ↓evT.eq_2, ↓evO.eq_1, ↓evO.eq_2, ↓evI.eq_1, ↓evI.eq_2, ↓evI.eq_3, ↓evI.eq_4, ↓evI.eq_5, ↓evF.eq_1, ↓evF.eq_2, ↓m_bind, ↓m_then, ↓m_opt, SRes.bind_nx, SRes.bind_rt, SRes.bind_bk, SRes.bind_ct, SRes.bind_ex, SRes.bind_bad, at_call, at_glo, at_fuel, SRes.back, List.getElem?_cons_zero, List.getElem?_cons_succ, List.set_cons_zero, List.set_cons_succ, asgT, asgTs, cmpV, truV, binV, bltV, tyN, tyLe, subV, Option.map_some, Option.map_none, List.any_cons, List.any_nil, if_true, if_false, ite_true, ite_false, String.reduceBEq, Nat.reduceAdd, Bool.or_false, Bool.false_or, Bool.or_true, Bool.true_or, Bool.and_true, Bool.true_and, Bool.and_false, Bool.false_and, Bool.not_true, Bool.not_false, beq_self_eq_true, decide_true, decide_false, reduceCtorEq, Bool.false_eq_true, Ev.keyOf, dctKeys, List.length_cons, List.length_nil, List.zip_cons_cons, List.zip_nil_left, List.zip_nil_right, List.foldl_cons, List.foldl_nil, methV, setV, isL, permL_cons, permL_nil, List.map_cons, List.map_nil, valP_cons, valP_nil, key_str, key_int, ofString_eq, String.reduceEq, putP, sizeLine_eq, Nat.reduceLT, Nat.reduceLeDiff, sto_self, mulOk, powOk, divOk, Int.reducePow, Nat.reducePow, Int.reduceNeg, Int.reduceLT, Int.reduceLE, natAbs64, natAbs30, Int.reduceToNat, Int.reduceEq, Int.reduceAdd, Int.reduceSub, Int.reduceMul, ne_eq, not_false_eq_true, Int.reduceNe, Ev.alloc, Ev.eq_ii, Ev.eq_ss, Ev.eq_bb, Ev.eq_nn, Ev.eq_ni, Ev.eq_in, Ev.eq_ns, Ev.eq_sn, Ev.eq_nb, Ev.eq_bn, Ev.eq_is, Ev.eq_si, and_self, true_and, and_true, fmod_lt64, fmod_gt64, atI_0, atI_1, atI_2, atI_3, atI_4, atI_5, atI_6, atI_7, atI_8, atI_9, itemsV, smV, fmtV, lenSetV, seqOf, lstOf, slcV, revV, srcOf, optI, List.nil_append, List.cons_append, sto_new, intsP, sortI, insI, compL, compG, wipeP, boolsP, List.all_cons, List.all_nil, id_eq, keep_nil, maxI, minI, intsP, cutf_1, cutf_2, cutf_3, cutf_4, cutt_1, cutt_2, cutt_3, cutt_4, List.drop_succ_cons, List.drop_zero, List.take_succ_cons, List.take_zero, Int.cast_ofNat_Int, false_and, and_false, or_self, or_false, false_or, true_or, or_true, lit_e, tS_len, tS_cat, tS_eq, tS_lt, List.toList_toArray, g_MOST_WORD, g_LETTERS, g_MOST_POOL, g_MOST_WEIGHT, g_MOST_TURNS, GC.pv, e1, hg', hl]
theorem s78_ok (N : Nat) {n : Nat} (hN : N = n + 6) {M : Sto} {P : Pool} (hP : IsPool P) {m CI AI DI : Nat} {mi a0 : Int} (hm : m ≤ 2000) (hmi : mi = (m : Nat)) (h0 : TB M) {ns : List Int} (hC : M[CI]? = some (.lst ((cn P m).map iV))) (hA : M[AI]? = some (.lst ((a0 :: ns).map .int))) (hD : M[DI]? = some (.lst [iV (tn P m)]))
    (a1 : 0 ≤ a0) (a2 : a0 ≤ mi) (v0 v1 v2 v8 v9 v10 v11 : Option PV) :
    ∃ M', evS (T.at N) (Q q7 (Q q8 N_)) [v0, v1, v2, some (pV P), some (.int mi), some (.tup ((List.range m).map fun k => iV (tn P k))), some (.ref CI), some (.ref AI), v8, v9, v10, v11, some (.ref DI)] M = .nx [v0, v1, v2, some (pV P), some (.int mi), some (.tup ((List.range m).map fun k => iV (tn P k))), some (.ref CI), some (.ref AI), v8, v9, v10, v11, some (.ref DI)] M' ∧ Keep [] M M' := by
  obtain ⟨a, ha⟩ : ∃ a : Nat, a0 = (a : Nat) := ⟨a0.toNat, by omega⟩
  obtain ⟨M1, e1, k1⟩ := next_ok n M hP (m := m) h0 (by omega)
  obtain ⟨M2, e2, k2⟩ := counts_ok (n + 1) (M1 ++ [.lst [iV (tn P m)]]) hP hmi (sto_app (k1.get h0 (by simp))) (by omega)
  have kA : Keep [] M M2 := k1.trans (Keep.app.trans k2)
  obtain ⟨M3, e3, k3⟩ := turns_ok (n + 1) M2 hP (m := a) ha (kA.get h0 (by simp)) (by omega)
  have e1 : callN T N "next_turn" [pV P, .tup ((cn P m).map iV)] M = .ok (iV (tn P m)) M1 := by rw [hN]; exact e1
  have e2 : callN T N "counts_after" [pV P, .int mi] (M1 ++ [.lst [iV (tn P m)]]) = .ok (.tup ((cn P m).map iV)) M2 := by rw [hN]; exact e2
  have e3 : callN T N "turns" [pV P, .int a0] M2 = .ok (.tup ((List.range a).map fun k => iV (tn P k))) M3 := by rw [hN]; exact e3
  obtain ⟨t1, ht1⟩ : ∃ t, ∀ (M : Sto) (i : Nat), M[i]? = some (.lst [iV (tn P m)]) → reprV M (.ref i) = some t := ⟨_, fun M i h => repr_lst h (by
    have := tn_lt hP m
    have := hP.le
    simp only [minis, mini, Bool.and_true, decide_eq_true_eq]; omega) (by simp [pd, pds, PyData.bulk, PyData.bulkAll]) (by simp [pd, pds, PyData.depth, PyData.depthAll])⟩
  obtain ⟨t2, ht2⟩ := repr_c hP (m := m) (by omega)
  obtain ⟨t3, ht3⟩ := repr_told hP (m := a) (by omega)
  have r1 := ht1 _ _ (sto_new M1 (.lst [iV (tn P m)]))
  have r2 := ht1 (M1 ++ [.lst [iV (tn P m)]]) DI (sto_app (k1.get hD (by simp)))
  have ct : cutP ((List.range m).map fun k => iV (tn P k)) none (some a0) = (List.range a).map fun k => iV (tn P k) := by
    rw [ha, cut_to, ← List.map_take, List.take_range]
    rw [show min a m = a by omega]
  have hC1 := k1.get hC (by simp)
  have hC2 := kA.get hC (by simp)
  have hA2 : M2[AI]? = some (.lst (.int a0 :: ns.map .int)) := kA.get hA (by simp)
  have hA3 := k3.get hA2 (by simp)
  refine ⟨M3, ?_, kA.trans k3⟩
  obtain ⟨pp, hpp⟩ : ∃ pp, pp = pV P := ⟨_, rfl⟩
  obtain ⟨tt, htt⟩ : ∃ tt, tt = (List.range m).map fun k => iV (tn P k) := ⟨_, rfl⟩
  obtain ⟨ta, hta⟩ : ∃ tt, tt = (List.range a).map fun k => iV (tn P k) := ⟨_, rfl⟩
  obtain ⟨cc, hcc⟩ : ∃ cc, cc = (cn P m).map iV := ⟨_, rfl⟩
  obtain ⟨nn, hnn⟩ : ∃ nn : List PV, nn = ns.map .int := ⟨_, rfl⟩
  obtain ⟨xx, hxx⟩ : ∃ xx, xx = iV (tn P m) := ⟨_, rfl⟩
  rw [← hpp, ← hcc, ← hxx] at e1
  rw [← hpp, ← hcc, ← hxx] at e2
  rw [← hpp, ← hta] at e3
  rw [← htt, ← hta] at ct
  rw [← hcc] at hC hC2
  rw [← hnn] at hA2 hA3
  rw [← hcc] at ht2
  rw [← hta] at ht3
  rw [← hxx] at r1 r2
  rw [← hpp, ← htt]
  unfold q7 q8
  simp only [↓evE.eq_1, ↓evE.eq_2, ↓evE.eq_3, ↓evE.eq_4, ↓evE.eq_5, ↓evE.eq_6, ↓evE.eq_7, ↓evE.eq_8, ↓evE.eq_9, ↓evE.eq_10, ↓evE.eq_11, ↓evE.eq_12, ↓evE.eq_13, ↓evE.eq_14, ↓evE.eq_15, ↓evE.eq_16, ↓evE.eq_17, ↓evE.eq_18, ↓evE.eq_19, ↓evE.eq_20, ↓evE.eq_21, ↓evE.eq_22, ↓evE.eq_23, ↓evE.eq_24, ↓evE.eq_25, ↓evE.eq_26, ↓evE.eq_27, ↓evE.eq_28, ↓evE.eq_29, ↓evE.eq_30, ↓evE.eq_31, ↓evE.eq_32, ↓evE.eq_33, ↓evE.eq_34, ↓evE.eq_35, ↓evE.eq_36, ↓evE.eq_37, ↓evE.eq_38, ↓evS.eq_1, ↓evS_seq, ↓evS.eq_3, ↓evS.eq_4, ↓evS.eq_5, ↓evS.eq_6, ↓evS.eq_7, ↓evS.eq_8, ↓evS_ite, ↓iteS, ↓evS.eq_11, ↓evS.eq_12, ↓evS.eq_13, ↓evS.eq_14, ↓evS.eq_15, ↓evS.eq_16, ↓evS.eq_17, ↓evS_for, ↓evA.eq_1, ↓evA.eq_2, ↓evT.eq_1, ↓evT.eq_2, ↓evO.eq_1, ↓evO.eq_2, ↓evI.eq_1, ↓evI.eq_2, ↓evI.eq_3, ↓evI.eq_4, ↓evI.eq_5, ↓evF.eq_1, ↓evF.eq_2, ↓m_bind, ↓m_then, ↓m_opt, SRes.bind_nx, SRes.bind_rt, SRes.bind_bk, SRes.bind_ct, SRes.bind_ex, SRes.bind_bad, at_call, at_glo, at_fuel, SRes.back, List.getElem?_cons_zero, List.getElem?_cons_succ, List.set_cons_zero, List.set_cons_succ, asgT, asgTs, cmpV, truV, binV, bltV, tyN, tyLe, subV, Option.map_some, Option.map_none, List.any_cons, List.any_nil, if_true, if_false, ite_true, ite_false, String.reduceBEq, Nat.reduceAdd, Bool.or_false, Bool.false_or, Bool.or_true, Bool.true_or, Bool.and_true, Bool.true_and, Bool.and_false, Bool.false_and, Bool.not_true, Bool.not_false, beq_self_eq_true, decide_true, decide_false, reduceCtorEq, Bool.false_eq_true, Ev.keyOf, dctKeys, List.length_cons, List.length_nil, List.zip_cons_cons, List.zip_nil_left, List.zip_nil_right, List.foldl_cons, List.foldl_nil, methV, setV, isL, permL_cons, permL_nil, List.map_cons, List.map_nil, valP_cons, valP_nil, key_str, key_int, ofString_eq, String.reduceEq, putP, sizeLine_eq, Nat.reduceLT, Nat.reduceLeDiff, sto_self, mulOk, powOk, divOk, Int.reducePow, Nat.reducePow, Int.reduceNeg, Int.reduceLT, Int.reduceLE, natAbs64, natAbs30, Int.reduceToNat, Int.reduceEq, Int.reduceAdd, Int.reduceSub, Int.reduceMul, ne_eq, not_false_eq_true, Int.reduceNe, Ev.alloc, Ev.eq_ii, Ev.eq_ss, Ev.eq_bb, Ev.eq_nn, Ev.eq_ni, Ev.eq_in, Ev.eq_ns, Ev.eq_sn, Ev.eq_nb, Ev.eq_bn, Ev.eq_is, Ev.eq_si, and_self, true_and, and_true, fmod_lt64, fmod_gt64, atI_0, atI_1, atI_2, atI_3, atI_4, atI_5, atI_6, atI_7, atI_8, atI_9, itemsV, smV, fmtV, lenSetV, seqOf, lstOf, slcV, revV, srcOf, optI, List.nil_append, List.cons_append, sto_new, intsP, sortI, insI, compL, compG, wipeP, boolsP, List.all_cons, List.all_nil, id_eq, keep_nil, maxI, minI, intsP, cutf_1, cutf_2, cutf_3, cutf_4, cutt_1, cutt_2, cutt_3, cutt_4, List.drop_succ_cons, List.drop_zero, List.take_succ_cons, List.take_zero, Int.cast_ofNat_Int, false_and, and_false, or_self, or_false, false_or, true_or, or_true, lit_e, tS_len, tS_cat, tS_eq, tS_lt, List.toList_toArray, g_MOST_WORD, g_LETTERS, g_MOST_POOL, g_MOST_WEIGHT, g_MOST_TURNS, GC.pv, e1, e2, e3, ct, hC, hC1, hC2, hA2, hA3, r1, r2, ht2, ht3]
theorem go_ok (N : Nat) {n : Nat} (hN : N = n + 6) {i j : Nat} {M : Sto} (h : Dk i j M) (h0 : TB M) (i0 : i ≠ 0) (j0 : j ≠ 0) {g : Int} (v0 v3 v4 v5 v6 v7 v8 v9 v10 v11 v12 : Option PV) :
    ∃ x3 x4 x5 x6 x7 x8 x9 x10 x11 x12 M', evS (T.at N) b_law [v0, some (.ref i), some (.int g), v3, v4, v5, v6, v7, v8, v9, v10, v11, v12] M = .nx [v0, some (.ref i), some (.int g), x3, x4, x5, x6, x7, x8, x9, x10, x11, x12] M' ∧ Dk i j M' ∧ Keep [i, j] M M' := by
  obtain ⟨P, m, mi, M1, e1, hP, hmi, hm, d1, k1⟩ := s01_ok N hN h (g := g) v0 v3 v4 v5 v6 v7 v8 v9 v10 v11 v12
  have h01 : TB M1 := k1.get h0 (by simp; omega)
  obtain ⟨M2, e2, k2⟩ := s23_ok N hN hP hm hmi h01 (g := g) v0 (some (.ref i)) v5 v6 v7 v8 v9 v10 v11 v12
  have d2 := d1.keep k2 (by simp) (by simp)
  have h02 : TB M2 := k2.get h01 (by simp)
  obtain ⟨a0, ns, CI, AI, M3, e3, hC3, hA3, a1, a2, ac, ci, cj, ai, aj, lc, d3, k3⟩ := s4_ok N hN d2 hP hm hmi v0 (some (.int g)) (some (.tup ((List.range m).map fun k => iV (tn P k)))) v6 v7 v8 v9 v10 v11 v12
  have l2 := sto_lt h02
  have c0 : CI ≠ 0 := by omega
  have h03 : TB M3 := k3.get h02 (by simp; omega)
  obtain ⟨x9, x10, x11, M4, e4, hC4, k4⟩ := s5_ok N hN hP hm hC3 hA3 h03 c0 ac v0 (some (.ref i)) (some (.int g)) (some (.int mi)) v8 v9 v10 v11 v12
  have d4 := d3.keep k4 (by simpa using ci.symm) (by simpa using cj.symm)
  have h04 : TB M4 := k4.get h03 (by simpa using c0.symm)
  have hA4 := k4.get hA3 (by simpa using ac)
  obtain ⟨DI, M5, e5, hD5, k5⟩ := s6_ok N hN hP hm hC4 hmi v0 (some (.ref i)) (some (.int g)) (some (.tup ((List.range m).map fun k => iV (tn P k)))) (some (.ref AI)) v8 x9 x10 x11 v12
  obtain ⟨M6, e6, k6⟩ := s78_ok N hN hP hm hmi (k5.get h04 (by simp)) (k5.get hC4 (by simp)) (k5.get hA4 (by simp)) hD5 a1 a2 v0 (some (.ref i)) (some (.int g)) v8 x9 x10 x11
  have k56 : Keep [] M4 M6 := k5.trans k6
  refine ⟨some (pV P), some (.int mi), some (.tup ((List.range m).map fun k => iV (tn P k))), some (.ref CI), some (.ref AI), v8, x9, x10, x11, some (.ref DI), M6, ?_, d4.keep k56 (by simp) (by simp), ?_⟩
  · unfold b_law
    have sq : ∀ {a b : CS} {env env' : Ev.Env} {M M' : Sto}, evS (T.at N) (Q a (Q b N_)) env M = .nx env' M' → ∃ e1 M1, evS (T.at N) a env M = .nx e1 M1 ∧ evS (T.at N) b e1 M1 = .nx env' M' := fun {a b env env' M M'} e => by
      rw [evS_seq] at e
      cases q : evS (T.at N) a env M with
      | nx e1 M1 =>
        rw [q, SRes.bind_nx, evS_seq] at e
        refine ⟨e1, M1, rfl, ?_⟩
        cases q2 : evS (T.at N) b e1 M1 with
        | nx e2 M2 =>
          rw [q2, SRes.bind_nx] at e
          have e' : SRes.nx e2 M2 = .nx env' M' := by rw [← e]; rfl
          exact e'
        | _ => rw [q2] at e; cases e
      | _ => rw [q] at e; cases e
    obtain ⟨_, _, p1, p2⟩ := sq e1
    obtain ⟨_, _, p3, p4⟩ := sq e2
    obtain ⟨_, _, p5, p6⟩ := sq e6
    rw [evS_seq, p1, SRes.bind_nx, evS_seq, p2, SRes.bind_nx, evS_seq, p3, SRes.bind_nx, evS_seq, p4, SRes.bind_nx, evS_seq, e3, SRes.bind_nx, evS_seq, e4, SRes.bind_nx, evS_seq, e5, SRes.bind_nx, evS_seq, p5, SRes.bind_nx, evS_seq, p6, SRes.bind_nx]
    rfl
  · have hK : Keep [CI] M3 M6 := k4.trans (k56.imp (by simp))
    have kA : Keep [i, j] M M3 := (k1.trans (k2.imp (by simp))).trans k3
    have l1 := (k1.trans (k2.imp (by simp))).len
    exact ⟨Nat.le_trans kA.len hK.len, fun k hk hn => (hK.2 k (Nat.lt_of_lt_of_le hk kA.len) (by simp; omega)).trans (kA.2 k hk hn)⟩
theorem law_ok (n : Nat) (ns : List Int) (hn : ns.length ≤ 63) : ∃ M, callN T (n + 7) "law" [.rol (ns.map .int)] [.tab "turn_after"] = .ok (.bl true) M := by
  obtain ⟨i, j, M1, e1, d1, hi, hj, k1⟩ := deck_ok (n + 5) [.tab "turn_after"] ns hn
  have h01 : TB M1 := k1.get rfl (by simp)
  obtain ⟨N, hN⟩ : ∃ N, N = n + 6 := ⟨_, rfl⟩
  have e1 : callN T N "_law_dealt" [.rol (ns.map .int)] [.tab "turn_after"] = .ok (.ref i) M1 := by rw [hN]; exact e1
  rw [e_law, ← hN]
  unfold c_law
  obtain ⟨tl, hT⟩ : ∃ tl, tl = b_law := ⟨_, rfl⟩
  have hT' := hT
  unfold b_law q0 q1 q2 q3 q4 q5 q6 q7 q8 b_turn at hT
  rw [← hT]
  have rg : rgOk 0 2 = true := rgOk_nat (by decide) (by decide) (by decide) (by decide)
  simp only [↓evE.eq_1, ↓evE.eq_2, ↓evE.eq_3, ↓evE.eq_4, ↓evE.eq_5, ↓evE.eq_6, ↓evE.eq_7, ↓evE.eq_8, ↓evE.eq_9, ↓evE.eq_10, ↓evE.eq_11, ↓evE.eq_12, ↓evE.eq_13, ↓evE.eq_14, ↓evE.eq_15, ↓evE.eq_16, ↓evE.eq_17, ↓evE.eq_18, ↓evE.eq_19, ↓evE.eq_20, ↓evE.eq_21, ↓evE.eq_22, ↓evE.eq_23, ↓evE.eq_24, ↓evE.eq_25, ↓evE.eq_26, ↓evE.eq_27, ↓evE.eq_28, ↓evE.eq_29, ↓evE.eq_30, ↓evE.eq_31, ↓evE.eq_32, ↓evE.eq_33, ↓evE.eq_34, ↓evE.eq_35, ↓evE.eq_36, ↓evE.eq_37, ↓evE.eq_38, ↓evS.eq_1, ↓evS_seq, ↓evS.eq_3, ↓evS.eq_4, ↓evS.eq_5, ↓evS.eq_6, ↓evS.eq_7, ↓evS.eq_8, ↓evS_ite, ↓iteS, ↓evS.eq_11, ↓evS.eq_12, ↓evS.eq_13, ↓evS.eq_14, ↓evS.eq_15, ↓evS.eq_16, ↓evS.eq_17, ↓evS_for, ↓evA.eq_1, ↓evA.eq_2, ↓evT.eq_1, ↓evT.eq_2, ↓evO.eq_1, ↓evO.eq_2, ↓evI.eq_1, ↓evI.eq_2, ↓evI.eq_3, ↓evI.eq_4, ↓evI.eq_5, ↓evF.eq_1, ↓evF.eq_2, ↓m_bind, ↓m_then, ↓m_opt, SRes.bind_nx, SRes.bind_rt, SRes.bind_bk, SRes.bind_ct, SRes.bind_ex, SRes.bind_bad, at_call, at_glo, at_fuel, SRes.back, List.getElem?_cons_zero, List.getElem?_cons_succ, List.set_cons_zero, List.set_cons_succ, asgT, asgTs, cmpV, truV, binV, bltV, tyN, tyLe, subV, Option.map_some, Option.map_none, List.any_cons, List.any_nil, if_true, if_false, ite_true, ite_false, String.reduceBEq, Nat.reduceAdd, Bool.or_false, Bool.false_or, Bool.or_true, Bool.true_or, Bool.and_true, Bool.true_and, Bool.and_false, Bool.false_and, Bool.not_true, Bool.not_false, beq_self_eq_true, decide_true, decide_false, reduceCtorEq, Bool.false_eq_true, Ev.keyOf, dctKeys, List.length_cons, List.length_nil, List.zip_cons_cons, List.zip_nil_left, List.zip_nil_right, List.foldl_cons, List.foldl_nil, methV, setV, isL, permL_cons, permL_nil, List.map_cons, List.map_nil, valP_cons, valP_nil, key_str, key_int, ofString_eq, String.reduceEq, putP, sizeLine_eq, Nat.reduceLT, Nat.reduceLeDiff, sto_self, mulOk, powOk, divOk, Int.reducePow, Nat.reducePow, Int.reduceNeg, Int.reduceLT, Int.reduceLE, natAbs64, natAbs30, Int.reduceToNat, Int.reduceEq, Int.reduceAdd, Int.reduceSub, Int.reduceMul, ne_eq, not_false_eq_true, Int.reduceNe, Ev.alloc, Ev.eq_ii, Ev.eq_ss, Ev.eq_bb, Ev.eq_nn, Ev.eq_ni, Ev.eq_in, Ev.eq_ns, Ev.eq_sn, Ev.eq_nb, Ev.eq_bn, Ev.eq_is, Ev.eq_si, and_self, true_and, and_true, fmod_lt64, fmod_gt64, atI_0, atI_1, atI_2, atI_3, atI_4, atI_5, atI_6, atI_7, atI_8, atI_9, itemsV, smV, fmtV, lenSetV, seqOf, lstOf, slcV, revV, srcOf, optI, List.nil_append, List.cons_append, sto_new, intsP, sortI, insI, compL, compG, wipeP, boolsP, List.all_cons, List.all_nil, id_eq, keep_nil, maxI, minI, intsP, cutf_1, cutf_2, cutf_3, cutf_4, cutt_1, cutt_2, cutt_3, cutt_4, List.drop_succ_cons, List.drop_zero, List.take_succ_cons, List.take_zero, Int.cast_ofNat_Int, false_and, and_false, or_self, or_false, false_or, true_or, or_true, lit_e, tS_len, tS_cat, tS_eq, tS_lt, List.toList_toArray, g_MOST_WORD, g_LETTERS, g_MOST_POOL, g_MOST_WEIGHT, g_MOST_TURNS, GC.pv, e1, rg]
  generalize hz : forL _ _ _ _ _ = z
  obtain ⟨env', M4, rfl, f1, ⟨x2, x3, x4, x5, x6, x7, x8, x9, x10, x11, x12, f2⟩, d4, k4⟩ := for_of hz (fun xs env M4 => (∀ x ∈ xs, ∃ g : Int, x = .int g) ∧ (∃ x2 x3 x4 x5 x6 x7 x8 x9 x10 x11 x12, env = [some (.rol (ns.map .int)), some (.ref i), x2, x3, x4, x5, x6, x7, x8, x9, x10, x11, x12]) ∧ Dk i j M4 ∧ Keep [i, j] M1 M4)
    ⟨fun x hx => by
      have : x ∈ [PV.int 0, .int 1] := hx
      simp only [List.mem_cons, List.not_mem_nil, or_false] at this
      rcases this with rfl | rfl <;> exact ⟨_, rfl⟩, ⟨none, none, none, none, none, none, none, none, none, none, none, rfl⟩, d1, Keep.refl _⟩ (fun _ _ _ _ => rfl)
    (fun x xs env M4 ⟨f1, ⟨x2, x3, x4, x5, x6, x7, x8, x9, x10, x11, x12, f2⟩, d4, k4⟩ => by
      subst f2
      obtain ⟨g, rfl⟩ := f1 x List.mem_cons_self
      have hi' : i ≠ 0 := by simp at hi; omega
      have hj' : j ≠ 0 := by simp at hj; omega
      obtain ⟨y3, y4, y5, y6, y7, y8, y9, y10, y11, y12, M5, e, d5, k5⟩ := go_ok N hN d4 (k4.get h01 (by simp; omega)) hi' hj' (g := g) (some (.rol (ns.map .int))) x3 x4 x5 x6 x7 x8 x9 x10 x11 x12
      refine ⟨[some (.rol (ns.map .int)), some (.ref i), some (.int g), y3, y4, y5, y6, y7, y8, y9, y10, y11, y12], M5, .inl ?_, fun y hy => f1 y (List.mem_cons_of_mem _ hy), ⟨_, _, _, _, _, _, _, _, _, _, _, rfl⟩, d5, k4.trans k5⟩
      unfold forB
      simp only [↓evE.eq_1, ↓evE.eq_2, ↓evE.eq_3, ↓evE.eq_4, ↓evE.eq_5, ↓evE.eq_6, ↓evE.eq_7, ↓evE.eq_8, ↓evE.eq_9, ↓evE.eq_10, ↓evE.eq_11, ↓evE.eq_12, ↓evE.eq_13, ↓evE.eq_14, ↓evE.eq_15, ↓evE.eq_16, ↓evE.eq_17, ↓evE.eq_18, ↓evE.eq_19, ↓evE.eq_20, ↓evE.eq_21, ↓evE.eq_22, ↓evE.eq_23, ↓evE.eq_24, ↓evE.eq_25, ↓evE.eq_26, ↓evE.eq_27, ↓evE.eq_28, ↓evE.eq_29, ↓evE.eq_30, ↓evE.eq_31, ↓evE.eq_32, ↓evE.eq_33, ↓evE.eq_34, ↓evE.eq_35, ↓evE.eq_36, ↓evE.eq_37, ↓evE.eq_38, ↓evS.eq_1, ↓evS_seq, ↓evS.eq_3, ↓evS.eq_4, ↓evS.eq_5, ↓evS.eq_6, ↓evS.eq_7, ↓evS.eq_8, ↓evS_ite, ↓iteS, ↓evS.eq_11, ↓evS.eq_12, ↓evS.eq_13, ↓evS.eq_14, ↓evS.eq_15, ↓evS.eq_16, ↓evS.eq_17, ↓evS_for, ↓evA.eq_1, ↓evA.eq_2, ↓evT.eq_1, ↓evT.eq_2, ↓evO.eq_1, ↓evO.eq_2, ↓evI.eq_1, ↓evI.eq_2, ↓evI.eq_3, ↓evI.eq_4, ↓evI.eq_5, ↓evF.eq_1, ↓evF.eq_2, ↓m_bind, ↓m_then, ↓m_opt, SRes.bind_nx, SRes.bind_rt, SRes.bind_bk, SRes.bind_ct, SRes.bind_ex, SRes.bind_bad, at_call, at_glo, at_fuel, SRes.back, List.getElem?_cons_zero, List.getElem?_cons_succ, List.set_cons_zero, List.set_cons_succ, asgT, asgTs, cmpV, truV, binV, bltV, tyN, tyLe, subV, Option.map_some, Option.map_none, List.any_cons, List.any_nil, if_true, if_false, ite_true, ite_false, String.reduceBEq, Nat.reduceAdd, Bool.or_false, Bool.false_or, Bool.or_true, Bool.true_or, Bool.and_true, Bool.true_and, Bool.and_false, Bool.false_and, Bool.not_true, Bool.not_false, beq_self_eq_true, decide_true, decide_false, reduceCtorEq, Bool.false_eq_true, Ev.keyOf, dctKeys, List.length_cons, List.length_nil, List.zip_cons_cons, List.zip_nil_left, List.zip_nil_right, List.foldl_cons, List.foldl_nil, methV, setV, isL, permL_cons, permL_nil, List.map_cons, List.map_nil, valP_cons, valP_nil, key_str, key_int, ofString_eq, String.reduceEq, putP, sizeLine_eq, Nat.reduceLT, Nat.reduceLeDiff, sto_self, mulOk, powOk, divOk, Int.reducePow, Nat.reducePow, Int.reduceNeg, Int.reduceLT, Int.reduceLE, natAbs64, natAbs30, Int.reduceToNat, Int.reduceEq, Int.reduceAdd, Int.reduceSub, Int.reduceMul, ne_eq, not_false_eq_true, Int.reduceNe, Ev.alloc, Ev.eq_ii, Ev.eq_ss, Ev.eq_bb, Ev.eq_nn, Ev.eq_ni, Ev.eq_in, Ev.eq_ns, Ev.eq_sn, Ev.eq_nb, Ev.eq_bn, Ev.eq_is, Ev.eq_si, and_self, true_and, and_true, fmod_lt64, fmod_gt64, atI_0, atI_1, atI_2, atI_3, atI_4, atI_5, atI_6, atI_7, atI_8, atI_9, itemsV, smV, fmtV, lenSetV, seqOf, lstOf, slcV, revV, srcOf, optI, List.nil_append, List.cons_append, sto_new, intsP, sortI, insI, compL, compG, wipeP, boolsP, List.all_cons, List.all_nil, id_eq, keep_nil, maxI, minI, intsP, cutf_1, cutf_2, cutf_3, cutf_4, cutt_1, cutt_2, cutt_3, cutt_4, List.drop_succ_cons, List.drop_zero, List.take_succ_cons, List.take_zero, Int.cast_ofNat_Int, false_and, and_false, or_self, or_false, false_or, true_or, or_true, lit_e, tS_len, tS_cat, tS_eq, tS_lt, List.toList_toArray, g_MOST_WORD, g_LETTERS, g_MOST_POOL, g_MOST_WEIGHT, g_MOST_TURNS, GC.pv, hT']
      exact e)
  subst f2
  simp only [↓evE.eq_1, ↓evE.eq_2, ↓evE.eq_3, ↓evE.eq_4, ↓evE.eq_5, ↓evE.eq_6, ↓evE.eq_7, ↓evE.eq_8, ↓evE.eq_9, ↓evE.eq_10, ↓evE.eq_11, ↓evE.eq_12, ↓evE.eq_13, ↓evE.eq_14, ↓evE.eq_15, ↓evE.eq_16, ↓evE.eq_17, ↓evE.eq_18, ↓evE.eq_19, ↓evE.eq_20, ↓evE.eq_21, ↓evE.eq_22, ↓evE.eq_23, ↓evE.eq_24, ↓evE.eq_25, ↓evE.eq_26, ↓evE.eq_27, ↓evE.eq_28, ↓evE.eq_29, ↓evE.eq_30, ↓evE.eq_31, ↓evE.eq_32, ↓evE.eq_33, ↓evE.eq_34, ↓evE.eq_35, ↓evE.eq_36, ↓evE.eq_37, ↓evE.eq_38, ↓evS.eq_1, ↓evS_seq, ↓evS.eq_3, ↓evS.eq_4, ↓evS.eq_5, ↓evS.eq_6, ↓evS.eq_7, ↓evS.eq_8, ↓evS_ite, ↓iteS, ↓evS.eq_11, ↓evS.eq_12, ↓evS.eq_13, ↓evS.eq_14, ↓evS.eq_15, ↓evS.eq_16, ↓evS.eq_17, ↓evS_for, ↓evA.eq_1, ↓evA.eq_2, ↓evT.eq_1, ↓evT.eq_2, ↓evO.eq_1, ↓evO.eq_2, ↓evI.eq_1, ↓evI.eq_2, ↓evI.eq_3, ↓evI.eq_4, ↓evI.eq_5, ↓evF.eq_1, ↓evF.eq_2, ↓m_bind, ↓m_then, ↓m_opt, SRes.bind_nx, SRes.bind_rt, SRes.bind_bk, SRes.bind_ct, SRes.bind_ex, SRes.bind_bad, at_call, at_glo, at_fuel, SRes.back, List.getElem?_cons_zero, List.getElem?_cons_succ, List.set_cons_zero, List.set_cons_succ, asgT, asgTs, cmpV, truV, binV, bltV, tyN, tyLe, subV, Option.map_some, Option.map_none, List.any_cons, List.any_nil, if_true, if_false, ite_true, ite_false, String.reduceBEq, Nat.reduceAdd, Bool.or_false, Bool.false_or, Bool.or_true, Bool.true_or, Bool.and_true, Bool.true_and, Bool.and_false, Bool.false_and, Bool.not_true, Bool.not_false, beq_self_eq_true, decide_true, decide_false, reduceCtorEq, Bool.false_eq_true, Ev.keyOf, dctKeys, List.length_cons, List.length_nil, List.zip_cons_cons, List.zip_nil_left, List.zip_nil_right, List.foldl_cons, List.foldl_nil, methV, setV, isL, permL_cons, permL_nil, List.map_cons, List.map_nil, valP_cons, valP_nil, key_str, key_int, ofString_eq, String.reduceEq, putP, sizeLine_eq, Nat.reduceLT, Nat.reduceLeDiff, sto_self, mulOk, powOk, divOk, Int.reducePow, Nat.reducePow, Int.reduceNeg, Int.reduceLT, Int.reduceLE, natAbs64, natAbs30, Int.reduceToNat, Int.reduceEq, Int.reduceAdd, Int.reduceSub, Int.reduceMul, ne_eq, not_false_eq_true, Int.reduceNe, Ev.alloc, Ev.eq_ii, Ev.eq_ss, Ev.eq_bb, Ev.eq_nn, Ev.eq_ni, Ev.eq_in, Ev.eq_ns, Ev.eq_sn, Ev.eq_nb, Ev.eq_bn, Ev.eq_is, Ev.eq_si, and_self, true_and, and_true, fmod_lt64, fmod_gt64, atI_0, atI_1, atI_2, atI_3, atI_4, atI_5, atI_6, atI_7, atI_8, atI_9, itemsV, smV, fmtV, lenSetV, seqOf, lstOf, slcV, revV, srcOf, optI, List.nil_append, List.cons_append, sto_new, intsP, sortI, insI, compL, compG, wipeP, boolsP, List.all_cons, List.all_nil, id_eq, keep_nil, maxI, minI, intsP, cutf_1, cutf_2, cutf_3, cutf_4, cutt_1, cutt_2, cutt_3, cutt_4, List.drop_succ_cons, List.drop_zero, List.take_succ_cons, List.take_zero, Int.cast_ofNat_Int, false_and, and_false, or_self, or_false, false_or, true_or, or_true, lit_e, tS_len, tS_cat, tS_eq, tS_lt, List.toList_toArray, g_MOST_WORD, g_LETTERS, g_MOST_POOL, g_MOST_WEIGHT, g_MOST_TURNS, GC.pv]
  exact ⟨_, rfl⟩
end K18

set_option Elab.async false
set_option linter.all false
set_option maxRecDepth 100000
set_option maxHeartbeats 0
namespace K18
open PySem L2 Ev PyProof.Rows
abbrev hk : PySem.W.Hook := He.hookX 4 fa fn [] (tfOf fs) (fun _ => true)
def ob (s : PySem.W.SharedT) : He.AlX := He.obsX 4 fa fn [] (tfOf fs) (fun _ => true) (HandSHeadRun.getT s)
theorem ob_eq (s : PySem.W.SharedT) : ob s = hk.obs s.abs := He.obsX_eq (HandSHeadRun.getT_eq s)
theorem run (w : World) : HandSHeadRun.RunEq R (PySem.W.view R.prog [lawAt]) hk ob 4000 names w := by
  intro os
  kernel_rfl
end K18

set_option Elab.async false
set_option linter.all false
set_option maxRecDepth 100000
set_option maxHeartbeats 0
open PySem PySem.W PySem.Calls PyProof.Rows
theorem PySem.Challenge.cw_answergate_k18_whole_turns_within_their_holds : PySem.Challenge.rw_answergate_k18_whole_turns_within_their.Holds := by
  w_on; o_law
  refine HandSHeadRun.head_any (r := OpenLaw.row PySem.Challenge.rw_answergate_k18_whole_turns_within_their) (q := view (OpenLaw.row PySem.Challenge.rw_answergate_k18_whole_turns_within_their).prog [K18.lawAt]) (H := K18.hk) (ob := K18.ob) (M := 4000) (loose := K18.names) (d := HandSHeadRun.topDef (OpenLaw.row PySem.Challenge.rw_answergate_k18_whole_turns_within_their).prog K18.lawAt) (kwd := []) K18.ob_eq
    (by kernel_rfl) (fun s => by kernel_rfl) K18.run (by kernel_rfl) (by kernel_rfl) (by kernel_rfl) (by rfl) (by first | assumption | decide +kernel) (by decide +kernel) ⟨rfl, rfl, rfl, rfl, rfl, by decide +kernel⟩ ?hw ?hc
  case hw => w_witness2
  case hc =>
    refine Ev.walk_evT (l := PySem.Challenge.rw_answergate_k18_whole_turns_within_their) (n := 63) (k := 12) (tab := K18.tab) (gl := K18.gcs.glo) (exc := fun _ => none) (fuel := 100000) (D := K18.d_law) (fs := K18.fs) rfl (by decide) (by kernel_rfl) ⟨rfl, by decide, by decide⟩ (by kernel_rfl) rfl ?F ?L
    case F =>
      intro w mg fa h Y G B hmg0
      obtain ⟨K, KX, c⟩ := Y
      have e : (HandSHeadRun.topDef (OpenLaw.row PySem.Challenge.rw_answergate_k18_whole_turns_within_their).prog K18.lawAt).name = K18.d_law.x := by kernel_rfl
      refine ⟨K, Ev.csOf K K18.fs, KX, Ev.wor_of KX G c.t.d K18.ok, ?_, Ev.tabs_of KX G B c (by kernel_rfl) (by simp [Ev.csOf, K18.fs]), rfl⟩
      rw [← e]
      exact hmg0
    case L => exact fun ns hn _ => K18.law_ok 5 ns hn
