import PyProof.Rows.All
import HandS.ForMost
import HandS.Conv
import KE.IntText
import HandS.ForExc
import HandS.CallSlots
import HandS.TupAny
import HandS.TupMul
import HandS.Flow
import HandS.Style
import HandS.IsInst
import HandS.RaiseMore
import HandS.SortInts
import PyProof.ReprRoads
import HandS.Text
import PyProof.ListStr
import PyProof.StrBlock2
import KE.DataMinMax
import HandS.WordsList
import KE.SortData
import HandS.Iter
import HandS.Zip
import KE.GoesEnum
import HandS.Strs
import HandS.SetKeys
import HandS.FStr
import HandS.Defaults
import HandS.Ends
import HandS.EndBits
import HandS.Head0
import HandS.Head1
import HandS.Head2
import HandS.HeadEnd
import HandS.HeadHook1
import HandS.HeadHook2
import PyProof.ReprBulk
import HandS.Codes
import PySem.Challenge.RW_answergate_k20_whole_least_busy_and_by_k
set_option Elab.async false
set_option linter.all false
set_option maxRecDepth 100000
/-! Ev1: pure values, an own store, an own code, and what the code does. -/
namespace Ev
open PySem L2

inductive PV where
  | non | bl (b : Bool) | int (i : Int) | str (s : Str)
  | tup (xs : List PV)
  | rol (xs : List PV)      -- a list that is never written: the script, a list of the module's
  | ref (i : Nat)
  | glo (x : Str)
  | ty (n : String)
  deriving Inhabited

mutual
def PV.beq : PV → PV → Bool
  | .non, .non => true
  | .bl a, .bl b => a == b
  | .int a, .int b => a == b
  | .str a, .str b => decide (a = b)
  | .tup a, .tup b => PV.beqs a b
  | .rol a, .rol b => PV.beqs a b
  | .ref a, .ref b => a == b
  | .glo a, .glo b => decide (a = b)
  | .ty a, .ty b => a == b
  | _, _ => false
def PV.beqs : List PV → List PV → Bool
  | [], [] => true
  | x :: xs, y :: ys => PV.beq x y && PV.beqs xs ys
  | _, _ => false
end
mutual
theorem PV.beq_iff : ∀ a b : PV, PV.beq a b = true ↔ a = b
  | .non, b => by cases b <;> simp [PV.beq]
  | .bl a, b => by cases b <;> simp [PV.beq]
  | .int a, b => by cases b <;> simp [PV.beq]
  | .str a, b => by cases b <;> simp [PV.beq]
  | .tup a, b => by
    cases b with
    | tup b => simp only [PV.beq, PV.tup.injEq]; exact PV.beqs_iff a b
    | _ => simp [PV.beq]
  | .rol a, b => by
    cases b with
    | rol b => simp only [PV.beq, PV.rol.injEq]; exact PV.beqs_iff a b
    | _ => simp [PV.beq]
  | .ref a, b => by cases b <;> simp [PV.beq]
  | .glo a, b => by cases b <;> simp [PV.beq]
  | .ty a, b => by cases b <;> simp [PV.beq]
theorem PV.beqs_iff : ∀ a b : List PV, PV.beqs a b = true ↔ a = b
  | [], b => by cases b <;> simp [PV.beqs]
  | x :: xs, b => by
    cases b with
    | nil => simp [PV.beqs]
    | cons y ys => simp only [PV.beqs, Bool.and_eq_true, List.cons.injEq, PV.beq_iff x y, PV.beqs_iff xs ys]
end
instance : DecidableEq PV := fun a b => decidable_of_iff _ (PV.beq_iff a b)

/-- what stands in the own store -/
inductive MO where
  | lst (xs : List PV)
  | dct (kvs : List (Key × PV))
  deriving DecidableEq
abbrev Sto := List MO
abbrev Env := List (Option PV)

/-- an error of an own class: its class, its fields -/
structure Exc where
  cls : Str
  fs : List (Str × PV)
  deriving DecidableEq

inductive Res (α : Type) where
  | ok (a : α) (M : Sto)
  | exc (x : Exc) (M : Sto)
  | bad
def Res.bind {α β : Type} (r : Res α) (f : α → Sto → Res β) : Res β := match r with
  | .ok a M => f a M
  | .exc x M => .exc x M
  | .bad => .bad
@[simp] theorem Res.bind_ok {α β : Type} (a : α) (M : Sto) (f : α → Sto → Res β) : (Res.ok a M).bind f = f a M := rfl
@[simp] theorem Res.bind_exc {α β : Type} (x : Exc) (M : Sto) (f : α → Sto → Res β) : (Res.exc x M : Res α).bind f = .exc x M := rfl
@[simp] theorem Res.bind_bad {α β : Type} (f : α → Sto → Res β) : (Res.bad : Res α).bind f = .bad := rfl
def Res.of {α : Type} (o : Option α) (M : Sto) : Res α := match o with
  | some a => .ok a M
  | none => .bad
@[simp] theorem Res.of_some {α : Type} (a : α) (M : Sto) : Res.of (some a) M = .ok a M := rfl
@[simp] theorem Res.of_none {α : Type} (M : Sto) : Res.of (none : Option α) M = .bad := rfl

inductive SRes where
  | nx (env : Env) (M : Sto)
  | rt (v : PV) (M : Sto)
  | bk (env : Env) (M : Sto)
  | ct (env : Env) (M : Sto)
  | ex (x : Exc) (env : Env) (M : Sto)
  | bad
def SRes.bind (r : SRes) (f : Env → Sto → SRes) : SRes := match r with
  | .nx env M => f env M
  | r => r
@[simp] theorem SRes.bind_nx (e : Env) (M : Sto) (f : Env → Sto → SRes) : (SRes.nx e M).bind f = f e M := rfl
@[simp] theorem SRes.bind_rt (v : PV) (M : Sto) (f : Env → Sto → SRes) : (SRes.rt v M).bind f = .rt v M := rfl
@[simp] theorem SRes.bind_bk (e : Env) (M : Sto) (f : Env → Sto → SRes) : (SRes.bk e M).bind f = .bk e M := rfl
@[simp] theorem SRes.bind_ct (e : Env) (M : Sto) (f : Env → Sto → SRes) : (SRes.ct e M).bind f = .ct e M := rfl
@[simp] theorem SRes.bind_ex (x : Exc) (e : Env) (M : Sto) (f : Env → Sto → SRes) : (SRes.ex x e M).bind f = .ex x e M := rfl
@[simp] theorem SRes.bind_bad (f : Env → Sto → SRes) : SRes.bad.bind f = .bad := rfl
/-- an expression's value is used -/
def Res.then {α : Type} (r : Res α) (env : Env) (f : α → Sto → SRes) : SRes := match r with
  | .ok a M => f a M
  | .exc x M => .ex x env M
  | .bad => .bad
@[simp] theorem Res.then_ok {α : Type} (a : α) (M : Sto) (env : Env) (f : α → Sto → SRes) : (Res.ok a M).then env f = f a M := rfl
@[simp] theorem Res.then_exc {α : Type} (x : Exc) (M : Sto) (env : Env) (f : α → Sto → SRes) : (Res.exc x M : Res α).then env f = .ex x env M := rfl
@[simp] theorem Res.then_bad {α : Type} (env : Env) (f : α → Sto → SRes) : (Res.bad : Res α).then env f = .bad := rfl

/-! ### data -/
mutual
def datR (lk : Nat → Option PyData) : PV → Option PyData
  | .non => some .none
  | .bl b => some (.bool b)
  | .int i => some (.int i)
  | .str s => some (.str s)
  | .tup xs => (datRs lk xs).map .tuple
  | .rol xs => (datRs lk xs).map .list
  | .ref i => lk i
  | .glo _ => none
  | .ty _ => none
def datRs (lk : Nat → Option PyData) : List PV → Option (List PyData)
  | [] => some []
  | x :: xs => match datR lk x, datRs lk xs with
    | some d, some ds => some (d :: ds)
    | _, _ => none
end
def lkN (M : Sto) : Nat → Nat → Option PyData
  | 0, _ => none
  | n + 1, i => match M[i]? with
    | some (.lst xs) => (datRs (lkN M n) xs).map .list
    | _ => none
def dat (M : Sto) (x : PV) : Option PyData := datR (lkN M 8) x

/-- the value as the layer has it, where it hangs on no heap -/
def PV.atom : PV → Option V
  | .non => some .non
  | .bl b => some (.bl b)
  | .int i => some (.int i)
  | .str s => some (.str s)
  | .ty n => some (.ty n)
  | _ => none
def atoms : List PV → Option (List V)
  | [] => some []
  | x :: xs => match x.atom, atoms xs with
    | some v, some vs => some (v :: vs)
    | _, _ => none

def eqV (M : Sto) (x y : PV) : Option Bool := match x, y with
  | .int i, .int j => some (decide (i = j))
  | .str s, .str t => some (decide (s = t))
  | .bl a, .bl b => some (decide (a = b))
  | .non, .non => some true
  | .non, .int _ => some false
  | .int _, .non => some false
  | .non, .str _ => some false
  | .str _, .non => some false
  | .non, .bl _ => some false
  | .bl _, .non => some false
  | .int _, .str _ => some false
  | .str _, .int _ => some false
  | .bl _, .str _ => some false
  | .str _, .bl _ => some false
  | x, y => match dat M x, dat M y with
    | some d, some e => if SeqAt.shaped d = true ∧ SeqAt.shaped e = true then some (PyData.eqv d e) else none
    | _, _ => none

/-- a list's items -/
def lstOf (M : Sto) (i : Nat) : Option (List PV) := match M[i]? with
  | some (.lst xs) => some xs
  | _ => none
/-- the items of a list or a tuple -/
def seqOf (M : Sto) : PV → Option (List PV)
  | .tup xs => some xs
  | .rol xs => some xs
  | .ref i => lstOf M i
  | _ => none

def truV (M : Sto) : PV → Option Bool
  | .non => some false
  | .bl b => some b
  | .int i => some (i != 0)
  | .str s => if s.length ≤ sizeLine then some ((s.length : Int) != 0) else none
  | .tup xs => some (!xs.isEmpty)
  | .rol xs => some (!xs.isEmpty)
  | .ref i => match M[i]? with
    | some (.lst xs) => some (!xs.isEmpty)
    | some (.dct kvs) => some (!kvs.isEmpty)
    | none => none
  | _ => none

def alloc (o : MO) (M : Sto) : Res PV := .ok (.ref M.length) (M ++ [o])

def mulOk (i j : Int) : Bool := (decide (-(2 ^ 64) < i) && decide (i < 2 ^ 64)) || (decide (-(2 ^ 64) < j) && decide (j < 2 ^ 64))
def powOk (i j : Int) : Bool := decide (0 ≤ j) && decide (j ≤ 1000000) && decide (i.natAbs < 2 ^ 64)
def divOk (j : Int) : Bool := decide (j ≠ 0) && decide (j.natAbs < 1073741824)

def repOk (n : Nat) (k : Int) : Bool := decide (-(2 ^ 63) ≤ k) && (decide (k < 2 ^ 31) && decide (n * k.toNat ≤ sizeLine))
def repS (s : Str) (k : Int) : Str := ⟨(List.replicate k.toNat s.cps.toList).flatten.toArray⟩
def binV (op : Operator) (x y : PV) (M : Sto) : Res PV := match x, y with
  | .int i, .int j => match op with
    | .Add => .ok (.int (i + j)) M
    | .Sub => .ok (.int (i - j)) M
    | .Mult => if mulOk i j then .ok (.int (i * j)) M else .bad
    | .FloorDiv => if divOk j then .ok (.int (i.fdiv j)) M else .bad
    | .Mod => if decide (j ≠ 0) then .ok (.int (i.fmod j)) M else .bad
    | .Pow => if powOk i j then .ok (.int (i ^ j.toNat)) M else .bad
    | _ => .bad
  | .str s, .str t => match op with
    | .Add => if s.length + t.length ≤ sizeLine then .ok (.str (s ++ t)) M else .bad
    | _ => .bad
  | .tup xs, .tup ys => match op with
    | .Add => if xs.length + ys.length ≤ sizeLine then .ok (.tup (xs ++ ys)) M else .bad
    | _ => .bad
  | .tup xs, .int k => match op with
    | .Mult => if xs ≠ [] ∧ repOk xs.length k = true then .ok (.tup (List.replicate k.toNat xs).flatten) M else .bad
    | _ => .bad
  | .str s, .int k => match op with
    | .Mult => if repOk s.length k = true then .ok (.str (repS s k)) M else .bad
    | _ => .bad
  | .ref a, .int k => match op with
    | .Mult => match M[a]? with
      | some (.lst xs) => if repOk xs.length k = true then alloc (.lst (List.replicate k.toNat xs).flatten) M else .bad
      | _ => .bad
    | _ => .bad
  | .ref a, .ref b => match op with
    | .Add => match M[a]?, M[b]? with
      | some (.lst xs), some (.lst ys) => if xs.length + ys.length ≤ sizeLine then alloc (.lst (xs ++ ys)) M else .bad
      | _, _ => .bad
    | _ => .bad
  | _, _ => .bad

def inV (M : Sto) (x y : PV) : Option Bool := match y with
  | .str t => match x with
    | .str s => some (!(Builtin.Str.occurrences t s 0 t.length 1).isEmpty)
    | _ => none
  | y => match seqOf M y with
    | some ys => match x.atom, atoms ys with
      | some v, some vs => if flatV v = true ∧ vs.all flatV = true then some (L2.inV v vs) else none
      | _, _ => none
    | none => none

def ltS (i j : Str) : Bool := decide (i.cps.toList < j.cps.toList)
def cmpV (op : CmpOp) (x y : PV) (M : Sto) : Option Bool := match op with
  | .Eq => eqV M x y
  | .NotEq => (eqV M x y).map (!·)
  | .Lt => match x, y with | .int i, .int j => some (decide (i < j)) | .str i, .str j => some (ltS i j) | _, _ => none
  | .LtE => match x, y with | .int i, .int j => some (decide (i ≤ j)) | .str i, .str j => some (!ltS j i) | _, _ => none
  | .Gt => match x, y with | .int i, .int j => some (decide (j < i)) | .str i, .str j => some (ltS j i) | _, _ => none
  | .GtE => match x, y with | .int i, .int j => some (decide (j ≤ i)) | .str i, .str j => some (!ltS i j) | _, _ => none
  | .Is => match x, y with | x, .non => (match x with | .glo _ => none | x => some (decide (x = .non))) | .bl a, .bl b => some (decide (a = b)) | _, _ => none
  | .IsNot => match x, y with | x, .non => (match x with | .glo _ => none | x => some (!decide (x = .non))) | .bl a, .bl b => some (!decide (a = b)) | _, _ => none
  | .In => inV M x y
  | .NotIn => (inV M x y).map (!·)

def keyOf : PV → Option Key
  | .int i => some (.inl i)
  | .str s => some (.inr s)
  | _ => none
def valP (kvs : List (Key × PV)) (k : Key) : Option PV := (kvs.find? fun kv => decide (kv.1 = k)).map (·.2)
def putP (kvs : List (Key × PV)) (k : Key) (v : PV) : List (Key × PV) :=
  if (kvs.any fun kv => decide (kv.1 = k)) = true then kvs.map (fun kv => if kv.1 = k then (kv.1, v) else kv) else kvs ++ [(k, v)]

/-- x[i] -/
def subV (x i : PV) (M : Sto) : Option PV := match x, i with
  | .tup xs, .int k => atI xs k
  | .rol xs, .int k => atI xs k
  | .str s, .int k => if s.length ≤ sizeLine then (atI s.cps.toList k).map fun c => .str ⟨#[c]⟩ else none
  | .ref a, i => match M[a]? with
    | some (.lst xs) => match i with | .int k => atI xs k | _ => none
    | some (.dct kvs) => match keyOf i with | some k => valP kvs k | none => none
    | none => none
  | _, _ => none

def cutP (xs : List PV) (lo hi : Option Int) : List PV := (xs.drop (HT.sIx xs.length 0 lo)).take (HT.sIx xs.length xs.length hi - HT.sIx xs.length 0 lo)
/-- x[lo:hi] -/
def slcV (x : PV) (lo hi : Option Int) (M : Sto) : Res PV := match x with
  | .tup xs => .ok (.tup (cutP xs lo hi)) M
  | .rol xs => alloc (.lst (cutP xs lo hi)) M
  | .str s => if s.length ≤ sizeLine then .ok (.str (cutS s lo hi)) M else .bad
  | .ref a => match lstOf M a with
    | some xs => alloc (.lst (cutP xs lo hi)) M
    | none => .bad
  | _ => .bad
/-- x[::-1] of a list -/
def revV (x : PV) (M : Sto) : Res PV := match x with
  | .rol xs => alloc (.lst xs.reverse) M
  | .ref a => match lstOf M a with
    | some xs => alloc (.lst xs.reverse) M
    | none => .bad
  | _ => .bad

/-- o[i] = v -/
def setV (o i v : PV) (M : Sto) : Option Sto := match o with
  | .ref a => match M[a]? with
    | some (.lst xs) => match i with
      | .int k => (ixN xs.length k).map fun j => M.set a (.lst (xs.set j v))
      | _ => none
    | some (.dct kvs) => match keyOf i with
      | some k => if kvs.length < sizeLine then some (M.set a (.dct (putP kvs k v))) else none
      | none => none
    | _ => none
  | _ => none

/-- the name of a value's built-in class -/
def tyN (M : Sto) : PV → Option String
  | .non => some "NoneType"
  | .bl _ => some "bool"
  | .int _ => some "int"
  | .str _ => some "str"
  | .tup _ => some "tuple"
  | .rol _ => some "list"
  | .ref i => match M[i]? with
    | some (.lst _) => some "list"
    | some (.dct _) => some "dict"
    | none => none
  | _ => none
/-- is a built-in class below another? -/
def tyLe (t c : String) : Bool := t == c || (t == "bool" && c == "int")

/-- built-in functions and classes that are called -/
inductive BI where
  | len | int | tuple | list | repr | str | sorted | max | min | all | any | sum | abs | ord | divmod
  deriving DecidableEq

def intsP : List PV → Option (List Int)
  | [] => some []
  | .int i :: xs => (intsP xs).map (i :: ·)
  | _ => none
def boolsP : List PV → Option (List Bool)
  | [] => some []
  | .bl b :: xs => (boolsP xs).map (b :: ·)
  | _ => none
def insI (x : Int) : List Int → List Int
  | [] => [x]
  | y :: ys => if x ≤ y then x :: y :: ys else y :: insI x ys
def sortI : List Int → List Int
  | [] => []
  | x :: xs => insI x (sortI xs)
def maxI : List Int → Option Int
  | [] => none
  | [x] => some x
  | x :: xs => (maxI xs).map fun m => if m > x then m else x
def minI : List Int → Option Int
  | [] => none
  | [x] => some x
  | x :: xs => (minI xs).map fun m => if m < x then m else x

def pairsP : List PV → Option (List (Int × Int))
  | [] => some []
  | .tup [.int a, .int b] :: xs => (pairsP xs).map ((a, b) :: ·)
  | _ => none
def ltP (p q : Int × Int) : Bool := decide (p.1 < q.1 ∨ (p.1 = q.1 ∧ p.2 < q.2))
/-- the first of the least -/
def minP : List (Int × Int) → Option (Int × Int)
  | [] => none
  | p :: ps => some (ps.foldl (fun a y => if ltP y a = true then y else a) p)

def reprV (M : Sto) (x : PV) : Option Str := match dat M x with
  | some d => if d.showable = true ∧ d.shown.length ≤ sizeLine ∧ d.depth ≤ 64 ∧ d.hasDict = false then some d.shown else none
  | none => none

def bltV (f : BI) (xs : List PV) (M : Sto) : Res PV := match f, xs with
  | .len, [.str s] => if s.length ≤ sizeLine then .ok (.int s.length) M else .bad
  | .len, [.ref a] => match M[a]? with
    | some (.lst ys) => .ok (.int ys.length) M
    | _ => .bad
  | .len, [.tup ys] => .ok (.int ys.length) M
  | .len, [.rol ys] => .ok (.int ys.length) M
  | .int, [.int i] => .ok (.int i) M
  | .int, [.bl b] => .ok (.int (if b then 1 else 0)) M
  | .int, [.str s] => match PySem.intText? s with
    | some n => if s.length ≤ 640 then .ok (.int n) M else .bad
    | none => .bad
  | .tuple, [.tup ys] => .ok (.tup ys) M
  | .tuple, [.rol ys] => .ok (.tup ys) M
  | .tuple, [.ref a] => match lstOf M a with
    | some ys => .ok (.tup ys) M
    | none => .bad
  | .list, [.str s] => if s.length ≤ sizeLine then alloc (.lst (s.cps.toList.map fun c => .str ⟨#[c]⟩)) M else .bad
  | .list, [x] => match seqOf M x with
    | some ys => alloc (.lst ys) M
    | none => .bad
  | .repr, [x] => match reprV M x with
    | some s => .ok (.str s) M
    | none => .bad
  | .str, [.str s] => .ok (.str s) M
  | .str, [.int i] => if i.natAbs.log2 < 1920 then .ok (.str (toString i)) M else .bad
  | .sorted, [.tup ys] => match intsP ys with
    | some ns => alloc (.lst ((sortI ns).map .int)) M
    | none => .bad
  | .sorted, [.ref a] => match lstOf M a with
    | some ys => match intsP ys with
      | some ns => alloc (.lst ((sortI ns).map .int)) M
      | none => .bad
    | none => .bad
  | .max, [.int i, .int j] => .ok (.int (if j > i then j else i)) M
  | .min, [.int i, .int j] => .ok (.int (if j < i then j else i)) M
  | .max, [.ref a] => match lstOf M a with
    | some ys => match intsP ys with
      | some ns => match maxI ns with
        | some m => .ok (.int m) M
        | none => .bad
      | none => .bad
    | none => .bad
  | .min, [.ref a] => match lstOf M a with
    | some ys => match intsP ys with
      | some ns => match minI ns with
        | some i => .ok (.int i) M
        | none => .bad
      | none => match pairsP ys with
        | some ps => match minP ps with
          | some p => .ok (.tup [.int p.1, .int p.2]) M
          | none => .bad
        | none => .bad
    | none => .bad
  | .all, [.ref a] => match lstOf M a with
    | some ys => match boolsP ys with
      | some bs => .ok (.bl (bs.all id)) M
      | none => .bad
    | none => .bad
  | .any, [.ref a] => match lstOf M a with
    | some ys => match boolsP ys with
      | some bs => .ok (.bl (bs.any id)) M
      | none => .bad
    | none => .bad
  | .sum, [.ref a] => match lstOf M a with
    | some ys => match intsP ys with
      | some ns => .ok (.int ns.sum) M
      | none => .bad
    | none => .bad
  | .abs, [.int i] => .ok (.int (if i < 0 then -i else i)) M
  | .ord, [.str s] => if s.length = 1 then .ok (.int (s.cps.getD 0 0 : Nat)) M else .bad
  | .divmod, [.int i, .int j] => if 0 < j ∧ j < 1073741824 then .ok (.tup [.int (i / j), .int (i % j)]) M else .bad
  | _, _ => .bad

/-- methods of built-in classes -/
inductive MI where
  | append | pop | popAt | extend
  deriving DecidableEq
def methV (m : MI) (o : PV) (xs : List PV) (M : Sto) : Res PV := match o with
  | .ref a => match M[a]? with
    | some (.lst ys) => match m, xs with
      | .append, [y] => if ys.length < sizeLine then .ok .non (M.set a (.lst (ys ++ [y]))) else .bad
      | .pop, [] => match ys[ys.length - 1]? with
        | some y => .ok y (M.set a (.lst ys.dropLast))
        | none => .bad
      | .popAt, [.int i] => if -(2 ^ 63) ≤ i ∧ i < 2 ^ 63 then (match seqIndex? i ys.length with
          | some k => match ys[k]? with
            | some y => .ok y (M.set a (.lst (ys.eraseIdx k)))
            | none => .bad
          | none => .bad) else .bad
      | .extend, [.ref b] => match M[b]? with
        | some (.lst zs) => if ys.length + zs.length ≤ sizeLine then .ok .non (M.set a (.lst (ys ++ zs))) else .bad
        | _ => .bad
      | _, _ => .bad
    | _ => .bad
  | _ => .bad

/-- methods of texts -/
inductive TM where
  | join | partition | split | upper | endswith | startswith
  deriving DecidableEq
def strsP : List PV → Option (List Str)
  | [] => some []
  | .str s :: xs => (strsP xs).map (s :: ·)
  | _ => none
def joinOk (a : Str) (ys : List Str) : Bool := decide ((ys.map (·.length)).sum + ys.length * a.length ≤ 16777216)
def smV (m : TM) (o : PV) (xs : List PV) (M : Sto) : Res PV := match o with
  | .str a => match m, xs with
    | .join, [y] => match (match y with | .ref i => lstOf M i | .tup ys => some ys | _ => none) with
      | some ys => match strsP ys with
        | some ss => if joinOk a ss = true then .ok (.str (Txt.join a ss)) M else .bad
        | none => .bad
      | none => .bad
    | .partition, [.str b] => if b.length ≠ 0 ∧ a.length ≤ sizeLine then .ok (.tup [.str (Txt.partition a b).1, .str (Txt.partition a b).2.1, .str (Txt.partition a b).2.2]) M else .bad
    | .split, [.str b] => if b.length ≠ 0 ∧ a.length + 2 ≤ sizeLine then alloc (.lst ((Txt.split a b).map .str)) M else .bad
    | .upper, [] => if a.length ≤ 5592405 then .ok (.str (Txt.upper a)) M else .bad
    | .endswith, [.str b] => .ok (.bl (Txt.endswith a b)) M
    | .startswith, [.str b] => .ok (.bl (Txt.startswith a b)) M
    | _, _ => .bad
  | _ => .bad
/-- a part of an f-string -/
def fmtV (x : PV) (M : Sto) : Res PV := match x with
  | .str s => if s.length ≤ sizeLine then .ok (.str s) M else .bad
  | .int i => if i.natAbs.log2 < 1920 then .ok (.str (toString i)) M else .bad
  | _ => .bad
/-- numbers and texts as keys -/
def keysP : List PV → Option (List Key)
  | [] => some []
  | .int i :: xs => (keysP xs).map (.inl i :: ·)
  | .str s :: xs => (keysP xs).map (.inr s :: ·)
  | _ => none
def memB (k : Key) (l : List Key) : Bool := l.any fun j => decide (j = k)
/-- the unlike ones, each at its first place -/
def uniq (ks : List Key) : List Key := ks.foldl (fun acc k => if memB k acc = true then acc else acc ++ [k]) []
def lenSetV (x : PV) (M : Sto) : Res PV := match (match x with | .ref i => lstOf M i | .tup ys => some ys | _ => none) with
  | some ys => match keysP ys with
    | some ks => if ks.length ≤ 4000 then .ok (.int ((uniq ks).length : Nat)) M else .bad
    | none => .bad
  | none => .bad
/-- what a walk yields: a list's, a tuple's items, a text's signs -/
def itemsV (M : Sto) : PV → Option (List PV)
  | .str s => some (s.cps.toList.map fun c => .str ⟨#[c]⟩)
  | x => seqOf M x

/-- is it a list of the store? a dict? -/
def isL (M : Sto) : PV → Bool
  | .ref a => match M[a]? with
    | some (.lst _) => true
    | _ => false
  | _ => false
def isD (M : Sto) : PV → Bool
  | .ref a => match M[a]? with
    | some (.dct _) => true
    | _ => false
  | _ => false
/-! ### the code -/
/-- what is assigned to -/
inductive CT where
  | nm (i : Nat)
  | tp (ts : CT)      -- a tuple of targets, by nil and cons
  | nil
  | cons (a r : CT)
  deriving DecidableEq, Inhabited

inductive CE where
  | var (i : Nat)
  | non | bl (b : Bool) | int (i : Int) | str (s : Str)
  | glo (x : Str)
  | bin (op : Operator) (a b : CE)
  | neg (a : CE)
  | not (a : CE)
  | cmp (op : CmpOp) (a b : CE)
  | chain (op op' : CmpOp) (a b c : CE)
  | and (a b : CE) | or (a b : CE)
  | ife (t a b : CE)
  | tup (as : CE) | lst (as : CE)
  | dct (ks vs : CE)
  | nil | cons (a r : CE)
  | sub (a i : CE)
  | no
  | slc (a lo hi : CE)
  | rev (a : CE)
  | isi (a : CE) (ts : List String) (many : Bool)
  | call (f : Str) (as : CE)
  | callk (f : Str) (n : Nat) (as : CE) (ks : List Str) (kws : CE) (perm : List Nat)
  | blt (f : BI) (as : CE)
  | meth (m : MI) (o as : CE)
  | comp (t : CT) (it : CE) (ifs : CE) (elt : CE) (own : List Nat)
  | iv (e : CE)
  | irg1 (a : CE)
  | irg2 (a b : CE)
  | ienum (a : CE)
  | izip (a b : CE)
  | lenset (a : CE)
  | smeth (m : TM) (o as : CE)
  | fstr (as : CE)
  | fmt (a : CE)
  deriving DecidableEq, Inhabited

inductive CS where
  | nil
  | seq (a r : CS)
  | asg (t : CT) (e : CE)
  | par (is : List Nat) (as : CE)
  | never
  | asgS (o i e : CE)
  | aug (i : Nat) (op : Operator) (e : CE)
  | expr (e : CE)
  | ite (c : CE) (a b : CS)
  | for_ (t : CT) (it : CE) (b : CS)
  | while_ (c : CE) (b : CS)
  | ret (e : CE)
  | retN
  | pass | brk | cnt
  | raise (c : Str) (as : CE)
  deriving DecidableEq, Inhabited

/-! ### what it does -/
structure Glob where
  call : Str → List PV → Sto → Res PV
  glo : Str → Option PV
  exc : Str → Option (List Str)
  fuel : Nat

mutual
def asgT : CT → PV → Env → Option Env
  | .nm i, v, env => some (env.set i (some v))
  | .tp ts, v, env => match v with
    | .tup vs => asgTs ts vs env
    | _ => none
  | .nil, _, _ => none
  | .cons _ _, _, _ => none
def asgTs : CT → List PV → Env → Option Env
  | .nil, [], env => some env
  | .cons a r, v :: vs, env => match asgT a v env with
    | some env' => asgTs r vs env'
    | none => none
  | _, _, _ => none
end

def wipeP (env : Env) : List Nat → Env
  | [] => env
  | v :: vs => (wipeP env vs).set v none

/-- the turns of a comprehension: g makes the item's value, or none where it is left out; nothing is raised in it -/
def compL (g : PV → Sto → Res (Option PV)) (keep : Sto → Bool) : List PV → Sto → List PV → Res (List PV)
  | [], M, acc => if keep M = true then .ok acc M else .bad
  | x :: xs, M, acc => if keep M = true then (match g x M with
    | .ok (some y) M1 => if acc.length < sizeLine then compL g keep xs M1 (acc ++ [y]) else .bad
    | .ok none M1 => compL g keep xs M1 acc
    | _ => .bad) else .bad

/-- what an iteration walks: its items; the lists that must stand still -/
structure Src where
  items : List PV
  src : List (Nat × MO)
def keepB (src : List (Nat × MO)) (M : Sto) : Bool := src.all fun p => decide (M[p.1]? = some p.2)
def srcOf (M : Sto) (x : PV) : List (Nat × MO) := match x with
  | .ref i => match M[i]? with
    | some o => [(i, o)]
    | none => []
  | _ => []
/-- one turn's value -/
def compG (t : CT) (env : Env) (test : Env → Sto → Res Bool) (elt : Env → Sto → Res PV) (x : PV) (M : Sto) : Res (Option PV) := match asgT t x env with
  | some env1 => (test env1 M).bind fun b M1 => match b with
    | true => (elt env1 M1).bind fun y M2 => .ok (some y) M2
    | false => .ok none M1
  | none => .bad

def rgOk (a b : Int) : Bool := decide (-(2 ^ 62) ≤ a) && decide (a < 2 ^ 62) && decide (-(2 ^ 62) ≤ b) && decide (b < 2 ^ 62)
def rgP (a b : Int) : List PV := (List.range (b - a).toNat).map fun i => .int (a + (i : Nat))

def numP (xs : List PV) : List PV := (List.range xs.length).zipWith (fun i x => .tup [.int (i : Nat), x]) xs
def zipP (xs ys : List PV) : List PV := xs.zipWith (fun x y => .tup [x, y]) ys
/-- the arguments in the parameters' order -/
def permL {α : Type} (perm : List Nat) (l : List α) : List α := perm.filterMap (l[·]?)
def optI (r : Res PV) : Res (Option Int) := r.bind fun v M => match v with
  | .int i => .ok (some i) M
  | _ => .bad

/-- written keys -/
def dctKeys : CE → Option (List Key)
  | .nil => some []
  | .cons (.str s) r => (dctKeys r).map (.inr s :: ·)
  | .cons (.int i) r => (dctKeys r).map (.inl i :: ·)
  | _ => none
mutual
def evE (G : Glob) : CE → Env → Sto → Res PV
  | .var i, env, M => match env[i]? with
    | some (some v) => .ok v M
    | _ => .bad
  | .non, _, M => .ok .non M
  | .bl b, _, M => .ok (.bl b) M
  | .int i, _, M => .ok (.int i) M
  | .str s, _, M => .ok (.str s) M
  | .glo x, _, M => Res.of (G.glo x) M
  | .bin op a b, env, M => (evE G a env M).bind fun x M1 => (evE G b env M1).bind fun y M2 => binV op x y M2
  | .neg a, env, M => (evE G a env M).bind fun x M1 => match x with
    | .int i => .ok (.int (-i)) M1
    | _ => .bad
  | .not a, env, M => (evE G a env M).bind fun x M1 => Res.of ((truV M1 x).map fun b => .bl (!b)) M1
  | .cmp op a b, env, M => (evE G a env M).bind fun x M1 => (evE G b env M1).bind fun y M2 => Res.of ((cmpV op x y M2).map .bl) M2
  | .chain op op' a b c, env, M => (evE G a env M).bind fun x M1 => (evE G b env M1).bind fun y M2 => match cmpV op x y M2 with
    | some true => (evE G c env M2).bind fun z M3 => Res.of ((cmpV op' y z M3).map .bl) M3
    | some false => .ok (.bl false) M2
    | none => .bad
  | .and a b, env, M => (evE G a env M).bind fun x M1 => match truV M1 x with
    | some true => evE G b env M1
    | some false => .ok x M1
    | none => .bad
  | .or a b, env, M => (evE G a env M).bind fun x M1 => match truV M1 x with
    | some true => .ok x M1
    | some false => evE G b env M1
    | none => .bad
  | .ife t a b, env, M => (evE G t env M).bind fun x M1 => match truV M1 x with
    | some true => evE G a env M1
    | some false => evE G b env M1
    | none => .bad
  | .tup as, env, M => (evA G as env M).bind fun xs M1 => if xs.length ≤ sizeLine then .ok (.tup xs) M1 else .bad
  | .lst as, env, M => (evA G as env M).bind fun xs M1 => if xs.length ≤ sizeLine then alloc (.lst xs) M1 else .bad
  | .dct ks vs, env, M => (evA G vs env M).bind fun xs M1 => match dctKeys ks with
    | some js => if js.length = xs.length then alloc (.dct ((js.zip xs).foldl (fun acc kv => putP acc kv.1 kv.2) [])) M1 else .bad
    | none => .bad
  | .nil, _, _ => .bad
  | .cons _ _, _, _ => .bad
  | .sub a i, env, M => (evE G a env M).bind fun x M1 => (evE G i env M1).bind fun y M2 => Res.of (subV x y M2) M2
  | .no, _, _ => .bad
  | .slc a lo hi, env, M => (evE G a env M).bind fun x M1 => (evO G lo env M1).bind fun l M2 => (evO G hi env M2).bind fun h M3 => slcV x l h M3
  | .rev a, env, M => (evE G a env M).bind fun x M1 => revV x M1
  | .isi a ts _, env, M => (evE G a env M).bind fun x M1 => match tyN M1 x with
    | some t => .ok (.bl (ts.any fun c => tyLe t c)) M1
    | none => .bad
  | .call f as, env, M => (evA G as env M).bind fun xs M1 => G.call f xs M1
  | .callk f n as ks kws perm, env, M => (evA G as env M).bind fun xs M1 => (evA G kws env M1).bind fun ys M2 =>
    if xs.length = n ∧ ys.length = ks.length then G.call f (permL perm (xs ++ ys)) M2 else .bad
  | .blt f as, env, M => (evA G as env M).bind fun xs M1 => bltV f xs M1
  | .meth m o as, env, M => (evE G o env M).bind fun x M1 => if isL M1 x = true then (evA G as env M1).bind fun xs M2 => methV m x xs M2 else .bad
  | .comp t it ifs elt own, env, M => (evI G it env M).bind fun s M1 =>
    (compL (compG t (wipeP env own) (evT G ifs) (evE G elt)) (keepB s.src) s.items M1 []).bind fun ys M2 => alloc (.lst ys) M2
  | .iv _, _, _ => .bad
  | .irg1 _, _, _ => .bad
  | .irg2 _ _, _, _ => .bad
  | .ienum _, _, _ => .bad
  | .izip _ _, _, _ => .bad
  | .lenset a, env, M => (evE G a env M).bind fun x M1 => lenSetV x M1
  | .smeth m o as, env, M => (evE G o env M).bind fun x M1 => match x with
    | .str s => (evA G as env M1).bind fun xs M2 => smV m (.str s) xs M2
    | _ => .bad
  | .fstr as, env, M => (evF G as env M Str.empty).bind fun s M1 => .ok (.str s) M1
  | .fmt a, env, M => (evE G a env M).bind fun x M1 => fmtV x M1
/-- the parts of an f-string, one behind another -/
def evF (G : Glob) : CE → Env → Sto → Str → Res Str
  | .nil, _, M, acc => .ok acc M
  | .cons a r, env, M, acc => (evE G a env M).bind fun x M1 => match x with
    | .str s => if (acc ++ s).length ≤ sizeLine then evF G r env M1 (acc ++ s) else .bad
    | _ => .bad
  | _, _, _, _ => .bad
/-- arguments, from the left -/
def evA (G : Glob) : CE → Env → Sto → Res (List PV)
  | .nil, _, M => .ok [] M
  | .cons a r, env, M => (evE G a env M).bind fun x M1 => (evA G r env M1).bind fun xs M2 => .ok (x :: xs) M2
  | _, _, _ => .bad
/-- tests, all of them -/
def evT (G : Glob) : CE → Env → Sto → Res Bool
  | .nil, _, M => .ok true M
  | .cons a r, env, M => (evE G a env M).bind fun x M1 => match truV M1 x with
    | some true => evT G r env M1
    | some false => .ok false M1
    | none => .bad
  | _, _, _ => .bad
/-- a slice's part -/
def evO (G : Glob) : CE → Env → Sto → Res (Option Int)
  | .no, _, M => .ok none M
  | .cons a .nil, env, M => optI (evE G a env M)
  | _, _, _ => .bad
/-- what is walked -/
def evI (G : Glob) : CE → Env → Sto → Res Src
  | .iv e, env, M => (evE G e env M).bind fun x M1 => match itemsV M1 x with
    | some xs => .ok ⟨xs, srcOf M1 x⟩ M1
    | none => .bad
  | .ienum e, env, M => (evE G e env M).bind fun x M1 => match itemsV M1 x with
    | some xs => .ok ⟨numP xs, srcOf M1 x⟩ M1
    | none => .bad
  | .izip a b, env, M => (evE G a env M).bind fun x M1 => (evE G b env M1).bind fun y M2 => match itemsV M2 x, itemsV M2 y with
    | some xs, some ys => .ok ⟨zipP xs ys, srcOf M2 x ++ srcOf M2 y⟩ M2
    | _, _ => .bad
  | .irg1 a, env, M => (evE G a env M).bind fun x M1 => match x with
    | .int n => if rgOk 0 n = true then .ok ⟨rgP 0 n, []⟩ M1 else .bad
    | _ => .bad
  | .irg2 a b, env, M => (evE G a env M).bind fun x M1 => (evE G b env M1).bind fun y M2 => match x, y with
    | .int i, .int j => if rgOk i j = true then .ok ⟨rgP i j, []⟩ M2 else .bad
    | _, _ => .bad
  | _, _, _ => .bad
end

/-- the turns of a for -/
def forL (body : PV → Env → Sto → SRes) (keep : Sto → Bool) : List PV → Env → Sto → SRes
  | [], env, M => if keep M = true then .nx env M else .bad
  | x :: xs, env, M => if keep M = true then (match body x env M with
    | .nx env1 M1 => forL body keep xs env1 M1
    | .ct env1 M1 => forL body keep xs env1 M1
    | .bk env1 M1 => .nx env1 M1
    | .rt v M1 => .rt v M1
    | .ex x env1 M1 => .ex x env1 M1
    | .bad => .bad) else .bad
/-- the turns of a while, at most so many -/
def whL (c : Env → Sto → Res PV) (b : Env → Sto → SRes) : Nat → Env → Sto → SRes
  | 0, _, _ => .bad
  | n + 1, env, M => (c env M).then env fun x M1 => match truV M1 x with
    | some true => match b env M1 with
      | .nx env1 M2 => whL c b n env1 M2
      | .ct env1 M2 => whL c b n env1 M2
      | .bk env1 M2 => .nx env1 M2
      | .rt v M2 => .rt v M2
      | .ex x env1 M2 => .ex x env1 M2
      | .bad => .bad
    | some false => .nx env M1
    | none => .bad

def evS (G : Glob) : CS → Env → Sto → SRes
  | .nil, env, M => .nx env M
  | .seq a r, env, M => (evS G a env M).bind fun env1 M1 => evS G r env1 M1
  | .asg t e, env, M => (evE G e env M).then env fun x M1 => match asgT t x env with
    | some env1 => .nx env1 M1
    | none => .bad
  | .par is as, env, M => (evA G as env M).then env fun xs M1 => if is.length = xs.length then .nx ((is.zip xs).foldl (fun env p => env.set p.1 (some p.2)) env) M1 else .bad
  | .never, _, _ => .bad
  | .asgS o i e, env, M => (evE G e env M).then env fun x M1 => (evE G o env M1).then env fun y M2 => (evE G i env M2).then env fun z M3 => match setV y z x M3 with
    | some M4 => .nx env M4
    | none => .bad
  | .aug i op e, env, M => match env[i]? with
    | some (some x) => (evE G e env M).then env fun y M1 => match x, y, op with
      | .int a, .int b, .Add => .nx (env.set i (some (.int (a + b)))) M1
      | .int a, .int b, .Sub => .nx (env.set i (some (.int (a - b)))) M1
      | .str a, .str b, .Add => if a.length + b.length ≤ sizeLine then .nx (env.set i (some (.str (a ++ b)))) M1 else .bad
      | _, _, _ => .bad
    | _ => .bad
  | .expr e, env, M => (evE G e env M).then env fun _ M1 => .nx env M1
  | .ite c a b, env, M => (evE G c env M).then env fun x M1 => match truV M1 x with
    | some true => evS G a env M1
    | some false => evS G b env M1
    | none => .bad
  | .for_ t it b, env, M => (evI G it env M).then env fun s M1 => forL (fun x env M => match asgT t x env with
      | some env1 => evS G b env1 M
      | none => .bad) (keepB s.src) s.items env M1
  | .while_ c b, env, M => whL (evE G c) (evS G b) G.fuel env M
  | .ret e, env, M => (evE G e env M).then env fun x M1 => .rt x M1
  | .retN, _, M => .rt .non M
  | .pass, env, M => .nx env M
  | .brk, env, M => .bk env M
  | .cnt, env, M => .ct env M
  | .raise c as, env, M => (evA G as env M).then env fun xs M1 => match G.exc c with
    | some fs => if fs.length = xs.length then .ex ⟨c, fs.zip xs⟩ env M1 else .bad
    | none => .bad

/-- a def: its parameters, its slots, its body -/
structure FD where
  ps : List Str
  N : List Str
  body : CS
def SRes.back : SRes → Res PV
  | .nx _ M => .ok .non M
  | .rt v M => .ok v M
  | .ex x _ M => .exc x M
  | _ => .bad
def runF (G : Glob) (d : FD) (xs : List PV) (M : Sto) : Res PV :=
  if xs.length = d.ps.length then (evS G d.body (xs.map some ++ List.replicate (d.N.length - xs.length) none) M).back else .bad
/-- the text: its defs, its values, its own classes of errors -/
structure Txt where
  fn : Str → Option FD
  glo : Str → Option PV
  exc : Str → Option (List Str)
  fuel : Nat
def callN (T : Txt) : Nat → Str → List PV → Sto → Res PV
  | 0, _, _, _ => .bad
  | n + 1, f, xs, M => match T.fn f with
    | some d => runF ⟨callN T n, T.glo, T.exc, T.fuel⟩ d xs M
    | none => .bad
abbrev Txt.at (T : Txt) (n : Nat) : Glob := ⟨callN T n, T.glo, T.exc, T.fuel⟩
theorem callN_def {T : Txt} {n : Nat} {f : Str} {d : FD} (h : T.fn f = some d) (xs : List PV) (M : Sto) : callN T (n + 1) f xs M = runF (T.at n) d xs M := by
  show (match T.fn f with | some d => _ | none => _) = _
  rw [h]
end Ev

set_option Elab.async false
set_option linter.all false
set_option maxRecDepth 100000
set_option maxHeartbeats 4000000
/-! Ev2: how the pure values stand in the layer's heap. -/
namespace Ev
open PySem L2

section
variable (K : PySem.W.Frag) (mg : Str → Option Value) (ρ : List Addr) (H : Hp)
/-- a list that nobody writes -/
def Fzl (a : Addr) (vs : List V) : Prop := (∃ o, H a = some (.frz o (.lst vs))) ∨
  ∃ (o : Obj) (its : Array Value) (n : Nat), K.lookup a = some o ∧ o.cls = .type "list" ∧ o.dict = none ∧ o.data = .seq its n ∧ its.size ≤ sizeLine ∧ Vals vs its.toList
mutual
inductive RV : PV → V → Prop
  | non : RV .non .non
  | bl (b : Bool) : RV (.bl b) (.bl b)
  | int (i : Int) : RV (.int i) (.int i)
  | str (s : Str) : RV (.str s) (.str s)
  | ty (n : String) : RV (.ty n) (.ty n)
  | tup {a : Addr} {xs : List PV} {vs : List V} : SqT K H a vs → RVs xs vs → RV (.tup xs) (.ref a)
  | rol {a : Addr} {xs : List PV} {vs : List V} : Fzl K H a vs → RVs xs vs → RV (.rol xs) (.ref a)
  | ref {i : Nat} {a : Addr} : ρ[i]? = some a → RV (.ref i) (.ref a)
  | glo {x : Str} {u : Value} {v : V} : mg x = some u → RelV v u → RV (.glo x) v
inductive RVs : List PV → List V → Prop
  | nil : RVs [] []
  | cons {x : PV} {v : V} {xs : List PV} {vs : List V} : RV x v → RVs xs vs → RVs (x :: xs) (v :: vs)
end
def RKs (kvs : List (Key × PV)) (ws : List (Key × V)) : Prop := Paired (fun (p : Key × PV) (q : Key × V) => p.1 = q.1 ∧ RV K mg ρ H p.2 q.2) kvs ws
/-- an object of the own store, as it is tracked -/
def RO : MO → HO → Prop
  | .lst xs, .lst vs => RVs K mg ρ H xs vs
  | .dct kvs, .dK ws => RKs K mg ρ H kvs ws
  | _, _ => False
structure SM (M : Sto) : Prop where
  len : M.length = ρ.length
  nd : ρ.Nodup
  at' : ∀ (i : Nat) (a : Addr) (o : MO), ρ[i]? = some a → M[i]? = some o → ∃ ho, H a = some ho ∧ RO K mg ρ H o ho
def RVo : Option PV → Option V → Prop
  | none, _ => True
  | some x, some v => RV K mg ρ H x v
  | some _, none => False
def RE (env : Env) (σ : St) : Prop := Paired (RVo K mg ρ H) env σ
end
/-- what stands behind a step -/
structure Ext (ρ : List Addr) (H : Hp) (ρ' : List Addr) (H' : Hp) : Prop where
  pre : ∃ more, ρ' = ρ ++ more
  keep : ∀ b o, H b = some o → b ∉ ρ → H' b = some o
  new : ∀ b, b ∈ ρ' → b ∉ ρ → H b = none
theorem Ext.refl (ρ : List Addr) (H : Hp) : Ext ρ H ρ H := ⟨⟨[], by simp⟩, fun _ _ h _ => h, fun _ h n => absurd h n⟩
theorem Ext.trans {ρ ρ1 ρ2 : List Addr} {H H1 H2 : Hp} (a : Ext ρ H ρ1 H1) (b : Ext ρ1 H1 ρ2 H2) : Ext ρ H ρ2 H2 := by
  obtain ⟨m1, e1⟩ := a.pre
  obtain ⟨m2, e2⟩ := b.pre
  refine ⟨⟨m1 ++ m2, by rw [e2, e1, List.append_assoc]⟩, fun c o h n => ?_, fun c h n => ?_⟩
  · refine b.keep c o (a.keep c o h n) fun z => ?_
    have q := a.new c z n
    rw [q] at h
    cases h
  · by_cases z : c ∈ ρ1
    · exact a.new c z n
    · have q := b.new c h z
      cases e : H c with
      | none => rfl
      | some o =>
        rw [a.keep c o e n] at q
        cases q

section
variable {K : PySem.W.Frag} {mg : Str → Option Value} {ρ ρ' : List Addr} {H H' : Hp} {M : Sto}
theorem SM.mut (S : SM K mg ρ H M) {a : Addr} (h : a ∈ ρ) : ∃ ho, H a = some ho ∧ ((∃ vs, ho = .lst vs) ∨ ∃ ws, ho = .dK ws) := by
  obtain ⟨i, hi, e⟩ := List.getElem_of_mem h
  have hM : i < M.length := by rw [S.len]; exact hi
  obtain ⟨ho, e1, e2⟩ := S.at' i a M[i] (by rw [List.getElem?_eq_getElem hi, e]) (List.getElem?_eq_getElem hM)
  refine ⟨ho, e1, ?_⟩
  generalize M[i] = o at e2
  cases o <;> cases ho <;> first | exact e2.elim | exact .inl ⟨_, rfl⟩ | exact .inr ⟨_, rfl⟩
theorem SM.tup_out (S : SM K mg ρ H M) {a : Addr} {vs : List V} (h : Rd H a (.tup vs)) : a ∉ ρ := fun z => by
  obtain ⟨ho, e, q⟩ := S.mut z
  rcases h with h | ⟨o, h⟩ <;> (rw [h] at e; cases e; rcases q with ⟨_, q⟩ | ⟨_, q⟩ <;> cases q)
theorem SM.frz_out (S : SM K mg ρ H M) {a : Addr} {o : Obj} {u : HO} (h : H a = some (.frz o u)) : a ∉ ρ := fun z => by
  obtain ⟨ho, e, q⟩ := S.mut z
  rw [h] at e; cases e; rcases q with ⟨_, q⟩ | ⟨_, q⟩ <;> cases q
/-- tuples and locked things stay, the store's addresses grow -/
structure Kp (ρ : List Addr) (H : Hp) (ρ' : List Addr) (H' : Hp) : Prop where
  pre : ∃ more, ρ' = ρ ++ more
  tup : ∀ a vs, H a = some (.tup vs) → H' a = some (.tup vs)
  frz : ∀ a o u, H a = some (.frz o u) → H' a = some (.frz o u)
theorem Kp.of (S : SM K mg ρ H M) (E : Ext ρ H ρ' H') : Kp ρ H ρ' H' :=
  ⟨E.pre, fun a vs h => E.keep _ _ h (S.tup_out (.inl h)), fun a o u h => E.keep _ _ h (S.frz_out h)⟩
/-- another object is written at an address that the store doesn't hold -/
theorem Kp.side {p : Addr} {ho u : HO} (hu : H p = some u) (h1 : ∀ vs, u ≠ .tup vs) (h2 : ∀ o v, u ≠ .frz o v) : Kp ρ H ρ (upd H p ho) := by
  refine ⟨⟨[], by simp⟩, fun a vs h => ?_, fun a o v h => ?_⟩
  · have n : a ≠ p := fun z => by rw [z, hu] at h; cases h; exact h1 vs rfl
    rw [upd_ne n]; exact h
  · have n : a ≠ p := fun z => by rw [z, hu] at h; cases h; exact h2 o v rfl
    rw [upd_ne n]; exact h
theorem Kp.grow {p : Addr} (k : Kp ρ H ρ' H') : Kp ρ H (ρ' ++ [p]) H' := ⟨by obtain ⟨m, e⟩ := k.pre; exact ⟨m ++ [p], by rw [e, List.append_assoc]⟩, k.tup, k.frz⟩
theorem SqT.kp (k : Kp ρ H ρ' H') {a : Addr} {vs : List V} (h : SqT K H a vs) : SqT K H' a vs := by
  rcases h with h | h
  · rcases h with h | ⟨o, h⟩
    · exact .inl (.inl (k.tup _ _ h))
    · exact .inl (.inr ⟨o, k.frz _ _ _ h⟩)
  · exact .inr h
theorem Fzl.kp (k : Kp ρ H ρ' H') {a : Addr} {vs : List V} (h : Fzl K H a vs) : Fzl K H' a vs := by
  rcases h with ⟨o, h⟩ | h
  · exact .inl ⟨o, k.frz _ _ _ h⟩
  · exact .inr h
mutual
theorem RV.kp (k : Kp ρ H ρ' H') : ∀ {x : PV} {v : V}, RV K mg ρ H x v → RV K mg ρ' H' x v
  | _, _, .non => .non
  | _, _, .bl b => .bl b
  | _, _, .int i => .int i
  | _, _, .str s => .str s
  | _, _, .ty n => .ty n
  | _, _, .tup h r => .tup (SqT.kp k h) (RVs.kp k r)
  | _, _, .rol h r => .rol (Fzl.kp k h) (RVs.kp k r)
  | _, _, .ref (i := i) (a := a) h => .ref (by
    obtain ⟨m, e⟩ := k.pre
    have hi : i < ρ.length := (List.getElem?_eq_some_iff.mp h).1
    rw [e, List.getElem?_append_left hi]
    exact h)
  | _, _, .glo h r => .glo h r
theorem RVs.kp (k : Kp ρ H ρ' H') : ∀ {xs : List PV} {vs : List V}, RVs K mg ρ H xs vs → RVs K mg ρ' H' xs vs
  | _, _, .nil => .nil
  | _, _, .cons a b => .cons (RV.kp k a) (RVs.kp k b)
end
theorem RKs.kp (k : Kp ρ H ρ' H') {kvs : List (Key × PV)} {ws : List (Key × V)} (h : RKs K mg ρ H kvs ws) : RKs K mg ρ' H' kvs ws :=
  Paired.mapP h fun _ _ z => ⟨z.1, RV.kp k z.2⟩
theorem RO.kp (k : Kp ρ H ρ' H') {o : MO} {ho : HO} (h : RO K mg ρ H o ho) : RO K mg ρ' H' o ho := by
  cases o <;> cases ho <;> first | exact False.elim h | exact RVs.kp k h | exact RKs.kp k h
theorem RVo.kp (k : Kp ρ H ρ' H') : ∀ {x : Option PV} {v : Option V}, RVo K mg ρ H x v → RVo K mg ρ' H' x v
  | none, _, _ => trivial
  | some _, some _, h => RV.kp k h
  | some _, none, h => h
theorem RE.kp (k : Kp ρ H ρ' H') {env : Env} {σ : St} (h : RE K mg ρ H env σ) : RE K mg ρ' H' env σ := Paired.mapP h fun _ _ z => RVo.kp k z
theorem RV.mono (S : SM K mg ρ H M) (E : Ext ρ H ρ' H') {x : PV} {v : V} (h : RV K mg ρ H x v) : RV K mg ρ' H' x v := h.kp (.of S E)
theorem RVs.mono (S : SM K mg ρ H M) (E : Ext ρ H ρ' H') {xs : List PV} {vs : List V} (h : RVs K mg ρ H xs vs) : RVs K mg ρ' H' xs vs := h.kp (.of S E)
theorem RKs.mono (S : SM K mg ρ H M) (E : Ext ρ H ρ' H') {kvs : List (Key × PV)} {ws : List (Key × V)} (h : RKs K mg ρ H kvs ws) : RKs K mg ρ' H' kvs ws := h.kp (.of S E)
theorem RO.mono (S : SM K mg ρ H M) (E : Ext ρ H ρ' H') {o : MO} {ho : HO} (h : RO K mg ρ H o ho) : RO K mg ρ' H' o ho := h.kp (.of S E)
theorem RE.mono (S : SM K mg ρ H M) (E : Ext ρ H ρ' H') {env : Env} {σ : St} (h : RE K mg ρ H env σ) : RE K mg ρ' H' env σ := h.kp (.of S E)

/-! ### lists of values -/
theorem RVs.length : ∀ {xs : List PV} {vs : List V}, RVs K mg ρ H xs vs → xs.length = vs.length
  | _, _, .nil => rfl
  | _, _, .cons _ b => by rw [List.length_cons, List.length_cons, RVs.length b]
theorem RVs.get : ∀ {xs : List PV} {vs : List V} {i : Nat} {x : PV}, RVs K mg ρ H xs vs → xs[i]? = some x → ∃ v, vs[i]? = some v ∧ RV K mg ρ H x v
  | _, _, _, _, .nil, e => by simp at e
  | _, _, 0, _, .cons a _, e => by simp at e; subst e; exact ⟨_, rfl, a⟩
  | _, _, i + 1, x, .cons _ b, e => by
    obtain ⟨v, h1, h2⟩ := RVs.get (i := i) (x := x) b (by simpa using e)
    exact ⟨v, by simpa using h1, h2⟩
theorem RVs.append : ∀ {xs ys : List PV} {vs ws : List V}, RVs K mg ρ H xs vs → RVs K mg ρ H ys ws → RVs K mg ρ H (xs ++ ys) (vs ++ ws)
  | _, _, _, _, .nil, s => s
  | _, _, _, _, .cons a b, s => .cons a (RVs.append b s)
theorem RVs.take : ∀ {xs : List PV} {vs : List V} (n : Nat), RVs K mg ρ H xs vs → RVs K mg ρ H (xs.take n) (vs.take n)
  | _, _, 0, _ => .nil
  | _, _, _ + 1, .nil => .nil
  | _, _, n + 1, .cons a b => .cons a (RVs.take n b)
theorem RVs.drop : ∀ {xs : List PV} {vs : List V} (n : Nat), RVs K mg ρ H xs vs → RVs K mg ρ H (xs.drop n) (vs.drop n)
  | _, _, 0, r => r
  | _, _, _ + 1, .nil => .nil
  | _, _, n + 1, .cons _ b => RVs.drop n b
theorem RVs.set {x : PV} {v : V} (r : RV K mg ρ H x v) : ∀ {xs : List PV} {vs : List V} (i : Nat), RVs K mg ρ H xs vs → RVs K mg ρ H (xs.set i x) (vs.set i v)
  | _, _, _, .nil => .nil
  | _, _, 0, .cons _ b => .cons r b
  | _, _, i + 1, .cons a b => .cons a (RVs.set r i b)
theorem RVs.reverse {xs : List PV} {vs : List V} (h : RVs K mg ρ H xs vs) : RVs K mg ρ H xs.reverse vs.reverse := by
  have go : ∀ {xs : List PV} {vs : List V}, RVs K mg ρ H xs vs → RVs K mg ρ H xs.reverse vs.reverse := by
    intro xs vs h
    induction h using RVs.rec (motive_1 := fun _ _ _ => True) with
    | nil => exact .nil
    | cons a b _ ih => rw [List.reverse_cons, List.reverse_cons]; exact RVs.append ih (.cons a .nil)
    | _ => trivial
  exact go h
theorem RVs.dropLast {xs : List PV} {vs : List V} (h : RVs K mg ρ H xs vs) : RVs K mg ρ H xs.dropLast vs.dropLast := by
  rw [List.dropLast_eq_take, List.dropLast_eq_take, h.length]
  exact h.take _
theorem RVs.eraseIdx : ∀ {xs : List PV} {vs : List V} (i : Nat), RVs K mg ρ H xs vs → RVs K mg ρ H (xs.eraseIdx i) (vs.eraseIdx i)
  | _, _, _, .nil => .nil
  | _, _, 0, .cons _ b => b
  | _, _, i + 1, .cons a b => .cons a (RVs.eraseIdx i b)
theorem RVs.cut {xs : List PV} {vs : List V} (lo hi : Option Int) (h : RVs K mg ρ H xs vs) : RVs K mg ρ H (cutP xs lo hi) (cutV vs lo hi) := by
  unfold cutP cutV
  rw [h.length]
  exact (h.drop _).take _
theorem RVs.rep {xs : List PV} {vs : List V} (h : RVs K mg ρ H xs vs) : ∀ k : Nat, RVs K mg ρ H (List.replicate k xs).flatten (List.replicate k vs).flatten
  | 0 => .nil
  | k + 1 => by rw [List.replicate_succ, List.replicate_succ, List.flatten_cons, List.flatten_cons]; exact h.append (RVs.rep h k)
theorem RVs.atI {xs : List PV} {vs : List V} {i : Int} {x : PV} (h : RVs K mg ρ H xs vs) (e : L2.atI xs i = some x) : ∃ v, L2.atI vs i = some v ∧ RV K mg ρ H x v := by
  unfold L2.atI at e ⊢
  rw [← h.length]
  cases q : ixN xs.length i with
  | none => rw [q] at e; cases e
  | some j =>
    rw [q] at e
    exact h.get e
theorem RVs.nil_iff {xs : List PV} {vs : List V} (h : RVs K mg ρ H xs vs) : xs.isEmpty = vs.isEmpty := by
  cases h <;> rfl

/-! ### the store -/
theorem SM.get (S : SM K mg ρ H M) {i : Nat} {a : Addr} {xs : List PV} (h : ρ[i]? = some a) (e : M[i]? = some (.lst xs)) : ∃ vs, H a = some (.lst vs) ∧ RVs K mg ρ H xs vs := by
  obtain ⟨ho, e1, e2⟩ := S.at' i a _ h e
  cases ho <;> first | exact e2.elim | exact ⟨_, e1, e2⟩
theorem SM.getD (S : SM K mg ρ H M) {i : Nat} {a : Addr} {kvs : List (Key × PV)} (h : ρ[i]? = some a) (e : M[i]? = some (.dct kvs)) : ∃ ws, H a = some (.dK ws) ∧ RKs K mg ρ H kvs ws := by
  obtain ⟨ho, e1, e2⟩ := S.at' i a _ h e
  cases ho <;> first | exact e2.elim | exact ⟨_, e1, e2⟩
/-- a new tuple, or any other thing that the store does not hold -/
theorem Ext.upd {p : Addr} {o : HO} (h : H p = none) : Ext ρ H ρ (upd H p o) :=
  ⟨⟨[], by simp⟩, fun b u e _ => by rw [upd_ne (ne_of_none e h)]; exact e, fun _ a b => absurd a b⟩
theorem SM.ext (S : SM K mg ρ H M) (E : Ext ρ H ρ H') (k : ∀ b ∈ ρ, H' b = H b) : SM K mg ρ H' M :=
  ⟨S.len, S.nd, fun i a o h e => by
    obtain ⟨ho, e1, e2⟩ := S.at' i a o h e
    exact ⟨ho, by rw [k a (List.mem_of_getElem? h)]; exact e1, RO.mono S E e2⟩⟩
theorem SM.upd (S : SM K mg ρ H M) {p : Addr} {o : HO} (h : H p = none) : SM K mg ρ (upd H p o) M :=
  S.ext (Ext.upd h) fun b hb => by
    obtain ⟨ho, e, _⟩ := S.mut hb
    exact upd_ne (ne_of_none e h)
/-- a new object of the store -/
theorem Ext.alloc {p : Addr} {o : HO} (h : H p = none) : Ext ρ H (ρ ++ [p]) (L2.upd H p o) :=
  ⟨⟨[p], rfl⟩, fun b u e _ => by rw [upd_ne (ne_of_none e h)]; exact e, fun b a n => by
    rcases List.mem_append.mp a with a | a
    · exact absurd a n
    · rw [List.mem_singleton.mp a]; exact h⟩
theorem SM.alloc (S : SM K mg ρ H M) {p : Addr} {o : MO} {ho : HO} (h : H p = none) (r : RO K mg ρ H o ho) : SM K mg (ρ ++ [p]) (L2.upd H p ho) (M ++ [o]) := by
  have E : Ext ρ H (ρ ++ [p]) (L2.upd H p ho) := Ext.alloc h
  have hp : p ∉ ρ := fun z => by
    obtain ⟨u, e, _⟩ := S.mut z
    rw [h] at e; cases e
  refine ⟨by rw [List.length_append, List.length_append, S.len]; rfl, ?_, fun i a o' h1 h2 => ?_⟩
  · rw [List.nodup_append]
    refine ⟨S.nd, by simp, fun a ha b hb e => ?_⟩
    rw [List.mem_singleton.mp hb] at e
    exact hp (e ▸ ha)
  · by_cases hi : i < ρ.length
    · rw [List.getElem?_append_left hi] at h1
      rw [List.getElem?_append_left (by rw [S.len]; exact hi)] at h2
      obtain ⟨u, e1, e2⟩ := S.at' i a o' h1 h2
      exact ⟨u, by rw [upd_ne (ne_of_none e1 h)]; exact e1, RO.mono S E e2⟩
    · have hl : i = ρ.length := by
        have := (List.getElem?_eq_some_iff.mp h1).1
        rw [List.length_append, List.length_singleton] at this
        omega
      subst hl
      rw [List.getElem?_append_right (Nat.le_refl _), Nat.sub_self] at h1
      rw [List.getElem?_append_right (by rw [S.len]; exact Nat.le_refl _), S.len, Nat.sub_self] at h2
      cases h1; cases h2
      exact ⟨ho, upd_same, RO.mono S E r⟩
theorem RV.new (S : SM K mg ρ H M) {p : Addr} {H' : Hp} : RV K mg (ρ ++ [p]) H' (.ref M.length) (.ref p) := .ref (by
  rw [S.len, List.getElem?_append_right (Nat.le_refl _), Nat.sub_self]; rfl)
/-- an object is written -/
theorem Ext.set {a : Addr} {o : HO} (h : a ∈ ρ) : Ext ρ H ρ (L2.upd H a o) :=
  ⟨⟨[], by simp⟩, fun b u e n => by
    have nb : b ≠ a := fun z => n (by rw [z]; exact h)
    rw [upd_ne nb]; exact e, fun _ a b => absurd a b⟩
theorem SM.set (S : SM K mg ρ H M) {i : Nat} {a : Addr} {o : MO} {ho : HO} (h : ρ[i]? = some a) (r : RO K mg ρ H o ho) : SM K mg ρ (L2.upd H a ho) (M.set i o) := by
  have E : Ext ρ H ρ (L2.upd H a ho) := Ext.set (List.mem_of_getElem? h)
  refine ⟨by rw [List.length_set]; exact S.len, S.nd, fun j b o' h1 h2 => ?_⟩
  by_cases e : j = i
  · subst e
    rw [h] at h1; cases h1
    have hj : j < M.length := by rw [S.len]; exact (List.getElem?_eq_some_iff.mp h).1
    rw [List.getElem?_set_self hj] at h2
    cases h2
    exact ⟨ho, upd_same, RO.mono S E r⟩
  · rw [List.getElem?_set_ne (Ne.symm e)] at h2
    obtain ⟨u, e1, e2⟩ := S.at' j b o' h1 h2
    have nb : b ≠ a := fun z => by
      subst z
      obtain ⟨h1', e1'⟩ := List.getElem?_eq_some_iff.mp h1
      obtain ⟨h2', e2'⟩ := List.getElem?_eq_some_iff.mp h
      exact e ((List.getElem_inj S.nd).mp (e1'.trans e2'.symm))
    exact ⟨u, by rw [upd_ne nb]; exact e1, RO.mono S E e2⟩
/-! ### the slots -/
theorem RE.length {env : Env} {σ : St} (h : RE K mg ρ H env σ) : env.length = σ.length := Paired.length h
theorem RE.get : ∀ {env : Env} {σ : St} {i : Nat} {x : PV}, RE K mg ρ H env σ → env[i]? = some (some x) → ∃ v, σ[i]? = some (some v) ∧ RV K mg ρ H x v
  | _, _, _, _, .nil, e => by simp at e
  | _, v :: _, 0, x, .cons a _, e => by
    simp at e; subst e
    cases v with
    | none => exact a.elim
    | some v => exact ⟨v, rfl, a⟩
  | _, _, i + 1, x, .cons _ b, e => by
    obtain ⟨v, h1, h2⟩ := RE.get (i := i) (x := x) b (by simpa using e)
    exact ⟨v, by simpa using h1, h2⟩
theorem RE.set {x : PV} {v : V} (r : RV K mg ρ H x v) : ∀ {env : Env} {σ : St} (i : Nat), RE K mg ρ H env σ → RE K mg ρ H (env.set i (some x)) (σ.set i (some v))
  | _, _, _, .nil => .nil
  | _, _, 0, .cons _ b => .cons r b
  | _, _, i + 1, .cons a b => .cons a (RE.set r i b)
theorem RE.unset : ∀ {env : Env} {σ : St} (i : Nat), RE K mg ρ H env σ → RE K mg ρ H (env.set i none) (σ.set i none)
  | _, _, _, .nil => .nil
  | _, _, 0, .cons _ b => .cons trivial b
  | _, _, i + 1, .cons a b => .cons a (RE.unset i b)
theorem RE.wipe {env : Env} {σ : St} (h : RE K mg ρ H env σ) : ∀ own : List Nat, RE K mg ρ H (wipeP env own) (L2.wipe σ own)
  | [] => h
  | i :: r => RE.unset i (RE.wipe h r)
/-- an object beside the store is written -/
theorem SM.side (S : SM K mg ρ H M) {p : Addr} {ho u : HO} (hp : p ∉ ρ) (hu : H p = some u) (h1 : ∀ vs, u ≠ .tup vs) (h2 : ∀ o v, u ≠ .frz o v) : SM K mg ρ (L2.upd H p ho) M :=
  ⟨S.len, S.nd, fun i a o h e => by
    obtain ⟨x, e1, e2⟩ := S.at' i a o h e
    have n : a ≠ p := fun z => hp (z ▸ List.mem_of_getElem? h)
    exact ⟨x, by rw [upd_ne n]; exact e1, RO.kp (Kp.side hu h1 h2) e2⟩⟩
/-- .. and becomes the store's -/
theorem SM.adopt (S : SM K mg ρ H M) {p : Addr} {o : MO} {ho : HO} (hp : p ∉ ρ) (hu : H p = some ho) (r : RO K mg ρ H o ho) : SM K mg (ρ ++ [p]) H (M ++ [o]) := by
  have k : Kp ρ H (ρ ++ [p]) H := ⟨⟨[p], rfl⟩, fun _ _ h => h, fun _ _ _ h => h⟩
  refine ⟨by rw [List.length_append, List.length_append, S.len]; rfl, ?_, fun i a o' h1 h2 => ?_⟩
  · rw [List.nodup_append]
    refine ⟨S.nd, by simp, fun a ha b hb e => ?_⟩
    rw [List.mem_singleton.mp hb] at e
    exact hp (e ▸ ha)
  · by_cases hi : i < ρ.length
    · rw [List.getElem?_append_left hi] at h1
      rw [List.getElem?_append_left (by rw [S.len]; exact hi)] at h2
      obtain ⟨u, e1, e2⟩ := S.at' i a o' h1 h2
      exact ⟨u, e1, e2.kp k⟩
    · have hl : i = ρ.length := by
        have := (List.getElem?_eq_some_iff.mp h1).1
        rw [List.length_append, List.length_singleton] at this
        omega
      subst hl
      rw [List.getElem?_append_right (Nat.le_refl _), Nat.sub_self] at h1
      rw [List.getElem?_append_right (by rw [S.len]; exact Nat.le_refl _), S.len, Nat.sub_self] at h2
      cases h1; cases h2
      exact ⟨ho, hu, r.kp k⟩
/-- beside a fresh address -/
theorem Ext.beside {ρ1 : List Addr} {H1 : Hp} {p : Addr} {u : HO} (hp : H p = none) (E : Ext ρ (L2.upd H p u) ρ1 H1) : Ext ρ H ρ1 H1 ∧ (p ∉ ρ → p ∉ ρ1 ∧ H1 p = some u) := by
  have out : p ∉ ρ → p ∉ ρ1 := fun n z => by
    have q := E.new p z n
    rw [upd_same] at q; cases q
  refine ⟨⟨E.pre, fun b o e n => E.keep b o (by rw [upd_ne (ne_of_none e hp)]; exact e) n, fun b h n => ?_⟩, fun n => ⟨out n, E.keep p u upd_same n⟩⟩
  have q := E.new b h n
  by_cases z : b = p
  · rw [z]; exact hp
  · rw [upd_ne z] at q; exact q
theorem Ext.also {ρ1 : List Addr} {H1 : Hp} {p : Addr} {u : HO} (hp : H p = none) (E : Ext ρ H ρ1 H1) : Ext ρ H ρ1 (L2.upd H1 p u) :=
  ⟨E.pre, fun b o e n => by rw [upd_ne (ne_of_none e hp)]; exact E.keep b o e n, E.new⟩
theorem Ext.join {ρ1 : List Addr} {H1 : Hp} {p : Addr} (hp : H p = none) (E : Ext ρ H ρ1 H1) : Ext ρ H (ρ1 ++ [p]) H1 :=
  ⟨by obtain ⟨m, e⟩ := E.pre; exact ⟨m ++ [p], by rw [e, List.append_assoc]⟩, E.keep, fun b h n => by
    rcases List.mem_append.mp h with h | h
    · exact E.new b h n
    · rw [List.mem_singleton.mp h]; exact hp⟩
theorem SM.out (S : SM K mg ρ H M) {p : Addr} (hp : H p = none) : p ∉ ρ := fun z => by
  obtain ⟨u, e, _⟩ := S.mut z
  rw [hp] at e; cases e
end
end Ev

set_option Elab.async false
set_option linter.all false
set_option maxRecDepth 100000
set_option maxHeartbeats 4000000
/-! EvX: more rules: text * int, tuple * int whatever the int, list(text), [::-1] of texts and tuples. -/
namespace Ev
open PySem L2 PySem.Spec PyProof.Rows
section
variable {X : Cx}
abbrev rMulS : R2 := fun x y H Q => ∃ (a : Str) (k : Int), x = .str a ∧ y = .int k ∧ MulOk a k ∧ Q (.str (Txt.mul a k)) H
theorem op_mulS : OpR X (binaryOp .Mult) rMulS := by
  intro pins s σ H x y v u Q I rx ry h
  obtain ⟨a, k, rfl, rfl, hk, q⟩ := h
  obtain ⟨t, rfl⟩ := rx
  obtain ⟨t', rfl⟩ := ry
  exact PySem.SB.mul hk fun t' k => ⟨.str _, H, I.tok _, ⟨_, rfl⟩, q⟩
theorem mulOk_of {a : Str} {k : Int} (h1 : -(2 ^ 63) ≤ k) (h2 : k < 2 ^ 31) (h3 : a.length * k.toNat ≤ sizeLine) : MulOk a k := by
  refine ⟨?_, fun c1 c2 => ?_, fun _ _ => ?_⟩
  · rw [decide_eq_false (by omega), decide_eq_false (by omega)]; rfl
  · intro z
    have hz : (sizeLine : Nat) ≤ 2 ^ 26 := by rw [sizeLine_eq]; decide
    have k0 : (0 : Int) < k := by omega
    have e : ((a.length * k.toNat : Nat) : Int) = (a.length : Int) * k := by rw [Int.natCast_mul, Int.toNat_of_nonneg (by omega)]
    have l1 : (a.length : Int) * k ≤ 2 ^ 26 := by rw [← e]; omega
    have l2 : (a.length : Int) ≤ (2 ^ 63 - 1) / k := (Int.le_ediv_iff_mul_le k0).mpr (by omega)
    omega
  · unfold Builtin.Str.tooLong
    first
      | exact decide_eq_false (by omega)
      | (rw [sizeLine_eq] at h3; exact decide_eq_false (by omega))
theorem mul_eq {a : Str} {k : Int} : Txt.mul a k = ⟨(List.replicate k.toNat a.cps.toList).flatten.toArray⟩ := by
  unfold Txt.mul
  split
  · rename_i c
    have : k.toNat = 0 := by omega
    rw [this]; rfl
  · rename_i c
    split
    · rename_i d
      simp only [Bool.or_eq_true, beq_iff_eq] at d
      rcases d with d | d
      · subst d
        simp
      · obtain ⟨⟨l⟩⟩ := a
        have : l = [] := by
          have : l.length = 0 := d
          exact List.eq_nil_of_length_eq_zero this
        subst this
        have : ∀ n : Nat, (List.replicate n ([] : List Nat)).flatten = [] := fun n => by induction n <;> simp [List.replicate_succ, *]
        simp [this]
    · obtain ⟨⟨l⟩⟩ := a
      have : ∀ (n : Nat) (acc : List Nat), (List.replicate n (⟨l⟩ : Array Nat)).foldl (· ++ ·) ⟨acc⟩ = ⟨acc ++ (List.replicate n l).flatten⟩ := fun n => by
        induction n with
        | zero => intro acc; simp
        | succ n ih =>
          intro acc
          rw [List.replicate_succ, List.foldl_cons]
          have e : (⟨acc⟩ : Array Nat) ++ ⟨l⟩ = ⟨acc ++ l⟩ := by simp
          rw [e, ih, List.replicate_succ, List.flatten_cons, List.append_assoc]
      have z := this k.toNat []
      rw [List.nil_append] at z
      exact congrArg Str.mk z

/-! tuple * int -/
theorem tuple_mulZ (l : Addr) (items : Array Value) (n : Nat) (dd : Option Addr) (sl : Array (Option Value)) (x : Int) (u : Tok) (c0 : (decide (x < -(2 ^ 63)) || decide (x ≥ 2 ^ 63)) = false) (c1 : (items.isEmpty || x == 1) = false) (c2 : (decide (x ≤ 0) || items.isEmpty) = true) :
    Meets (Builtin.«tuple.__mul__» ⟨[.ref l, .int x u], []⟩) (fun _ R s => s.heap.get? l = some { cls := .type "tuple", dict := dd, data := .seq items n, slots := sl } ∧
      R (.ok (.ret (Value.ref s.heap.objs.size))) { s with heap := s.heap.push { cls := Value.type "tuple", data := Data.seq #[] }, toks := s.toks }) :=
  .of_wp fun prog w A R s h => by
    obtain ⟨hp, g, d, tk, os⟩ := s
    obtain ⟨hl, h⟩ := h
    have f1 := AutoSeq1.idx_int
    wp_walk using wpAny_loadPart' hl
    repeat (first
      | (refine wpAny_ite_false (decide_eq_false (by rw [c0]; exact Bool.false_ne_true)) ?_; wp_walk using wpAny_loadPart' hl)
      | (refine wpAny_ite_false (decide_eq_false (by rw [c1]; exact Bool.false_ne_true)) ?_; wp_walk using wpAny_loadPart' hl)
      | (refine wpAny_ite_true (decide_eq_true c2) ?_; wp_walk using wpAny_loadPart' hl))
    exact ⟨_, rfl, h⟩
theorem tuple_mulI (l : Addr) (items : Array Value) (n : Nat) (dd : Option Addr) (sl : Array (Option Value)) (u : Tok) :
    Meets (Builtin.«tuple.__mul__» ⟨[.ref l, .int 1 u], []⟩) (fun _ R s => s.heap.get? l = some { cls := .type "tuple", dict := dd, data := .seq items n, slots := sl } ∧
      R (.ok (.ret (Value.ref l))) s) :=
  .of_wp fun prog w A R s h => by
    obtain ⟨hp, g, d, tk, os⟩ := s
    obtain ⟨hl, h⟩ := h
    have f1 := AutoSeq1.idx_int
    wp_walk using wpAny_loadPart' hl
    repeat (first
      | (refine wpAny_ite_false (decide_eq_false (by decide)) ?_; wp_walk using wpAny_loadPart' hl)
      | (refine wpAny_ite_true (decide_eq_true (by simp)) ?_; wp_walk using wpAny_loadPart' hl))
    exact ⟨_, rfl, h⟩
def rRepU (K : PySem.W.Frag) : R2 := fun x y H Q => ∃ l k xs, x = .ref l ∧ y = .int k ∧ SqT K H l xs ∧ xs ≠ [] ∧ -(2 ^ 63) ≤ k ∧ k < 2 ^ 31 ∧ xs.length * k.toNat ≤ sizeLine ∧ (k = 1 → Q (.ref l) H) ∧
  (k ≠ 1 → ∀ p, H p = none → Q (.ref p) (upd H p (.tup (List.replicate k.toNat xs).flatten)))
theorem op_repU : OpR X (binaryOp .Mult) (rRepU X.K) := by
  intro pins s σ H x y v u Q I rx ry h
  obtain ⟨l, k, xs, rfl, rfl, hT, hne, h1, h2, hz, q1, q⟩ := h
  cases rx
  obtain ⟨t, rfl⟩ := ry
  obtain ⟨its, r, ⟨⟨cls, dd, data, sl⟩, ho, hc, n, hd⟩, hs⟩ := I.tuple hT
  simp only at hc hd
  subst hc hd
  have hle : its.length = xs.length := r.length.symm
  have hn : its ≠ [] := fun e => hne (by
    rw [e] at hle
    exact List.eq_nil_of_length_eq_zero hle.symm)
  have hi : its.toArray.isEmpty = false := by
    cases its with
    | nil => exact absurd rfl hn
    | cons a b => rfl
  have hsz0 : its.toArray.size = xs.length := by rw [List.size_toArray, hle]
  have c0 : (decide (k < -(2 ^ 63)) || decide (k ≥ 2 ^ 63)) = false := by
    rw [decide_eq_false (by omega), decide_eq_false (by omega)] <;> rfl
  have flen : (List.replicate k.toNat xs).flatten.length ≤ sizeLine := by
    rw [PyProof.Rows.lm_len_rep_flat, Nat.mul_comm]; exact hz
  by_cases k1 : k = 1
  · subst k1
    refine wpAny_binaryOp_repeat_ref (T := "tuple") (U := "int") (by decide) ⟨_, ho, rfl⟩ (fun s' => typeIs_int s' 1 t) noFill_tuple_mul F.fills_int_mul F.slot_int_rmul repeat_tuple F.slot_int_index.lookup
      (call_meets F.slot_int_rmul (typeIs_int s 1 t) F.entry_int_rmul (F.args_int_rmul_2 _ _) (int_rmul_tuple 1 t l its.toArray n dd sl)
        ⟨ho, rfl, ⟨_, ho, rfl⟩, call_meets F.slot_tuple_mul ⟨_, ho, rfl⟩ F.entry_tuple_mul (F.args_tuple_mul_2 _ _) (tuple_mulI l its.toArray n dd sl t) ⟨ho, ?_⟩⟩)
    exact ⟨.ref l, H, I, rfl, q1 rfl⟩
  · have c1 : (its.toArray.isEmpty || k == 1) = false := by
      rw [hi, Bool.false_or]
      exact beq_eq_false_iff_ne.mpr k1
    by_cases k0 : k ≤ 0
    · have c2 : (decide (k ≤ 0) || its.toArray.isEmpty) = true := by
        rw [decide_eq_true k0]; rfl
      refine wpAny_binaryOp_repeat_ref (T := "tuple") (U := "int") (by decide) ⟨_, ho, rfl⟩ (fun s' => typeIs_int s' k t) noFill_tuple_mul F.fills_int_mul F.slot_int_rmul repeat_tuple F.slot_int_index.lookup
        (call_meets F.slot_int_rmul (typeIs_int s k t) F.entry_int_rmul (F.args_int_rmul_2 _ _) (int_rmul_tuple k t l its.toArray n dd sl)
          ⟨ho, rfl, ⟨_, ho, rfl⟩, call_meets F.slot_tuple_mul ⟨_, ho, rfl⟩ F.entry_tuple_mul (F.args_tuple_mul_2 _ _) (tuple_mulZ l its.toArray n dd sl k t c0 c1 c2) ⟨ho, ?_⟩⟩)
      refine ⟨.ref s.heap.objs.size, _, I.laid (t' := s.toks) (o := .tup (List.replicate k.toNat xs).flatten) (fun b ob q => Heap.get?_push_of_some _ q) (Nat.le_refl _) ?_, rfl, q k1 _ (I.hok.fresh (Nat.le_refl _))⟩
      refine ⟨flen, _, r.rep k.toNat, ?_⟩
      have : k.toNat = 0 := by omega
      rw [this]
      exact IsTup.new _ _
    · have c2 : (decide (k ≤ 0) || its.toArray.isEmpty) = false := by
        rw [hi, Bool.or_false]
        exact decide_eq_false k0
      have e : ((its.toArray.size : Nat) : Int) * k = ((xs.length * k.toNat : Nat) : Int) := by rw [hsz0, Int.natCast_mul, Int.toNat_of_nonneg (by omega)]
      have hm : ((its.toArray.size : Nat) : Int) * k ≤ 100000000 := by
        rw [e]
        rw [sizeLine_eq] at hz
        omega
      have c4 : Builtin.Tuple.tupleTooMany (((its.toArray.size : Nat) : Int) * k) = false := by
        unfold Builtin.Tuple.tupleTooMany
        exact decide_eq_false (by omega)
      refine wpAny_binaryOp_repeat_ref (T := "tuple") (U := "int") (by decide) ⟨_, ho, rfl⟩ (fun s' => typeIs_int s' k t) noFill_tuple_mul F.fills_int_mul F.slot_int_rmul repeat_tuple F.slot_int_index.lookup
        (call_meets F.slot_int_rmul (typeIs_int s k t) F.entry_int_rmul (F.args_int_rmul_2 _ _) (int_rmul_tuple k t l its.toArray n dd sl)
          ⟨ho, rfl, ⟨_, ho, rfl⟩, call_meets F.slot_tuple_mul ⟨_, ho, rfl⟩ F.entry_tuple_mul (F.args_tuple_mul_2 _ _) (tuple_mulW l its.toArray n dd sl k t c0 c1 c2 (by omega) c4 (by rw [size_rep, List.size_toArray, PyProof.Rows.lm_len_rep_flat, hle, Nat.mul_comm]; exact hz)) ⟨ho, ?_⟩⟩)
      rw [size_rep]
      refine ⟨.ref s.heap.objs.size, _, I.laid (t' := s.toks) (o := .tup (List.replicate k.toNat xs).flatten) (fun b ob q => Heap.get?_push_of_some _ q) (Nat.le_refl _) ?_, rfl, q k1 _ (I.hok.fresh (Nat.le_refl _))⟩
      exact ⟨flen, _, r.rep k.toNat, IsTup.new _ _⟩

/-! list(text) -/
def signsP (x : Str) : List V := x.cps.toList.map fun c => .str ⟨#[c]⟩
theorem call_list_strR (hc : X.calm = true) : CallR X (.type "list") (fun xs H Q => ∃ x, xs = [.str x] ∧ x.length ≤ sizeLine ∧ ∀ p, H p = none → Q (.ref p) (upd H p (.lst (signsP x)))) := by
  intro pins s σ H xs us Q I r h
  obtain ⟨x, rfl, hl, q⟩ := h
  cases r with
  | cons r1 rs =>
    cases rs
    obtain ⟨t, rfl⟩ := r1
    refine PySem.call_list_str (I.ok.hd hc) x t (fun h' tk acc' c' hk hS hi => ?_) hl
    refine ⟨.ref _, _, I.laid (t' := tk) (o := .lst (signsP x)) hk (Nat.le_refl _) ?_, rfl, q _ (I.hok.fresh (Nat.le_refl _))⟩
    have hn : (signsP x).length = acc'.toList.length := by
      rw [signsP, List.length_map, Array.length_toList, Array.length_toList]; exact hi.1.symm
    refine ⟨by rw [signsP, List.length_map, Array.length_toList]; exact hl, acc'.toList, c', vals_of_at hn fun j v u e1 e2 => ?_, by simpa using hS⟩
    rw [Array.getElem?_toList] at e2
    obtain ⟨c, u', hc', rfl⟩ := hi.2 j u e2
    rw [signsP, List.getElem?_map, Array.getElem?_toList, hc'] at e1
    cases e1
    exact ⟨_, rfl⟩
end
end Ev

set_option Elab.async false
set_option linter.all false
set_option maxRecDepth 100000
set_option maxHeartbeats 4000000
/-! EvY: sorted(tuple of ints), min(list of pairs of ints). -/
namespace PyProof.Rows
open PySem
section
variable {prog : Program} {w : World} {A : Around} {E : Value → Shared → Prop} {s : Shared}
theorem collect_tupE {t : Addr} {us : List Value} {Q : List Value → Shared → Prop} (ht : IsTup s.heap t us.toArray) (hz : us.length ≤ sizeLine)
    (fin : Q us { s with heap := (s.heap.push (seqObj "list" #[] 0)).update s.heap.objs.size (Obj.mapSeq (· ++ us.toArray)) }) : wpAny (model prog w) A (collect (.ref t)) Q E s := by
  obtain ⟨ob, g0, gc, m, gd⟩ := id ht
  unfold collect; refine wpAny_bind (wpAny_runValue (codeAny_builtin entry_proto_collect' ?_))
  show wpAny _ _ (do again (.builtin "list.__iadd__" ⟨[← newList [], .ref t], []⟩)) _ _ s
  refine wpAny_bind (wpAny_newList (wpAny_pure ⟨Code.quiet_builtin _ (by decide +kernel), codeAny_builtin entry_list_iadd' ?_⟩)); show wpAny _ _ (Builtin.List.listExtendWith (.ref s.heap.objs.size) (.ref t) (.ref s.heap.objs.size)) _ _ { s with heap := s.heap.push (seqObj "list" #[] 0) }
  unfold Builtin.List.listExtendWith; have g1 : (s.heap.push (seqObj "list" #[] 0)).get? t = some ob := Heap.get?_push_of_some _ g0
  refine wpAny_bind (wpAny_typeOf (T := "tuple") ⟨ob, g1, gc⟩ ?_); have t1 : (Value.type "tuple" == Value.type "tuple") = true := by rfl
  rw [if_pos (by rw [t1]; simp)]; refine wpAny_bind (listItems_at g1 gd ?_)
  refine wpAny_bind (listItems_at (n := 0) (xs := #[]) (Heap.get?_push_size _ rfl) rfl ?_)
  rw [if_neg (by simp)]; refine wpAny_bind (listUpdate_at (n := 0) (xs := #[]) (Heap.get?_push_size _ rfl) rfl ?_ (Nat.zero_le _) (by show (#[] ++ us.toArray).size ≤ sizeLine + 1; simp only [Array.size_append, List.size_toArray, List.length_nil]; omega))
  refine wpAny_pure ?_; show wpAny (model prog w) A (do
    let o ← load s.heap.objs.size
    match o.data with | .seq xs _ => pure xs.toList | _ => unsupported "internal:collect") Q E { s with heap := (s.heap.push (seqObj "list" #[] 0)).update s.heap.objs.size (Obj.mapSeq (· ++ us.toArray)) }
  refine wpAny_bind (wpAny_load (get?_update_seq (Heap.get?_push_size _ rfl) _) ?_); show wpAny _ _ (pure ((#[] : Array Value) ++ us.toArray).toList) Q E _
  rw [show ((#[] : Array Value) ++ us.toArray).toList = us by simp]; exact wpAny_pure fin
end
end PyProof.Rows
namespace SrtO
open PySem PySem.Spec PyProof.Rows
section
variable {prog : Program} {w : World} {A : Around} {E : Value → Shared → Prop} {s : Shared}
theorem sorted_tupE {t : Addr} {us : List Value} {ltv : Value → Value → Bool} {Q : Value → Shared → Prop} (O : Swo ltv) (ht : IsTup s.heap t us.toArray) (hz : us.length ≤ sizeLine)
    (hS : 2 ≤ us.length → ∀ (h₁ : Heap) (a : Addr), h₁.get? a = some (seqObj "list" us.toArray 0) → (∀ b o, s.heap.get? b = some o → b ≠ a ∧ h₁.get? b = some o) → SortableO prog w A.in1.in1 { s with heap := h₁ } a us ltv)
    (fin : ∀ out : List Value, Srtd ltv out → Stb ltv out us → Q (.ref (s.heap.objs.size + 1)) { s with heap := sortedAll s.heap us out.toArray }) : wpAny (model prog w) A (call (.builtin "sorted") [.ref t]) Q E s := by
  refine Calls.call_function_entry kind_sorted plain_sorted entry_sorted (args_sorted1 _) ?_; unfold Builtin.«sorted»
  refine wpAny_bind (m := checkCount "sorted" 1 1 _) (wpAny_pure ?_); refine wpAny_bind (collect_tupE ht hz ?_); refine wpAny_bind (wpAny_newList ?_ hz)
  have hn : ((s.heap.push (seqObj "list" #[] 0)).update s.heap.objs.size (Obj.mapSeq (· ++ us.toArray))).objs.size = s.heap.objs.size + 1 := by rw [Heap.size_update, size_push']
  have ho : (((s.heap.push (seqObj "list" #[] 0)).update s.heap.objs.size (Obj.mapSeq (· ++ us.toArray))).push (seqObj "list" us.toArray 0)).get? (s.heap.objs.size + 1) = some (seqObj "list" us.toArray 0) := by rw [← hn]; exact Heap.get?_push_size _ rfl
  have keep : ∀ b o, s.heap.get? b = some o → b ≠ s.heap.objs.size + 1 ∧ (((s.heap.push (seqObj "list" #[] 0)).update s.heap.objs.size (Obj.mapSeq (· ++ us.toArray))).push (seqObj "list" us.toArray 0)).get? b = some o := fun b o q => by
    have lt : b < s.heap.objs.size := Heap.lt_size q
    refine ⟨Nat.ne_of_lt (Nat.lt_succ_of_lt lt), Heap.get?_push_of_some _ ?_⟩; rw [Heap.get?_update_ne _ _ _ _ (Nat.ne_of_lt lt)]; exact Heap.get?_push_of_some _ q
  show wpAny _ _ _ _ _ { s with heap := ((s.heap.push (seqObj "list" #[] 0)).update s.heap.objs.size (Obj.mapSeq (· ++ us.toArray))).push (seqObj "list" us.toArray 0) }; rw [hn]
  refine wpAny_bind (wpAny_holding (wpAny_call_entry slot_list_sort ⟨_, ho, rfl⟩ entry_list_sort (list_sort_ord O ho hz (fun h2 => hS h2 _ _ ho keep) fun out a b => ⟨_, rfl, ?_⟩) (args_list_sort _))); exact wpAny_pure ⟨_, rfl, fin out a b⟩
end
end SrtO
namespace Ev
open PySem L2 PySem.Spec PyProof.Rows
section
variable {X : Cx}
def rSortedT (K : PySem.W.Frag) : List V → Hp → VK → Prop := fun vs H Q => ∃ (a : Addr) (ns : List Int), vs = [V.ref a] ∧ SqT K H a (ns.map V.int) ∧
  ∀ (ns' : List Int) (p : Addr), ns'.Perm ns → ns'.Pairwise (· ≤ ·) → H p = none → Q (.ref p) (upd H p (.lst (ns'.map V.int)))
theorem cr_sortedT : CallR X (.builtin "sorted") (rSortedT X.K) := by
  intro pins s σ H vs us Q I r h
  obtain ⟨a, ns, rfl, hs, q⟩ := h
  obtain ⟨its, rv, ht, hz⟩ := I.tuple hs
  rw [Vals.ref1 r]
  have hi := rv.ints
  refine SrtO.sorted_tupE SrtO.swo_int ht (by rw [← rv.length]; exact hz) (fun h2 h₁ a' _ _ => SrtO.ints_sortable hi h2) fun out h1 h2 => ?_
  obtain ⟨k1, k2, k3⟩ := SrtO.ints_out hi h1 h2
  obtain ⟨ep, he'⟩ := PyProof.Rows.sortedAll_at s.heap its out.toArray
  have hlen : ((out.map SrtO.iv).map V.int).length ≤ sizeLine := by rw [List.length_map, k2.length_eq]; rw [List.length_map] at hz; exact hz
  refine ⟨.ref _, upd H (s.heap.objs.size + 1) (.lst ((out.map SrtO.iv).map V.int)), I.laid (t' := s.toks) (fun _ _ => PyProof.Rows.sortedAll_old) (Nat.le_succ _) ⟨hlen, out, ep, vals_of_ints k1, he'⟩, rfl, ?_⟩
  exact q _ _ k2 k3 (I.hok.fresh (Nat.le_succ _))
theorem paired_get {α β : Type} {R : α → β → Prop} : ∀ {xs : List α} {ys : List β} {i : Nat} {y : β}, Paired R xs ys → ys[i]? = some y → ∃ x, xs[i]? = some x ∧ R x y
  | _, _, _, _, .nil, e => by simp at e
  | _, _, 0, _, .cons a _, e => by simp at e; subst e; exact ⟨_, rfl, a⟩
  | _, _, i + 1, y, .cons _ b, e => by
    obtain ⟨x, h1, h2⟩ := paired_get b (by simpa using e)
    exact ⟨x, by simpa using h1, h2⟩
/-! min of pairs -/
def dP (p : Int × Int) : PyData := .tuple [.int p.1, .int p.2]
/-- where the first least one stands -/
def minIx (ps : List (Int × Int)) : Nat := argBest (fun i j => PySem.W.dataLt ((ps.map dP).getD i .none) ((ps.map dP).getD j .none)) (ps.length - 1)
def rMinP (K : PySem.W.Frag) : List V → Hp → VK → Prop := fun vs H Q => ∃ (a : Addr) (xs : List V) (ps : List (Int × Int)), vs = [V.ref a] ∧ SqL K H a xs ∧ DpAll K H xs (ps.map dP) ∧ 0 < ps.length ∧ ∀ v, xs[minIx ps]? = some v → Q v H
theorem alike_dP (p q : Int × Int) : PySem.W.alike (dP p) (dP q) = true := by simp [dP, PySem.W.alike, PySem.W.alikeAll]
theorem depth_dP : ∀ ps : List (Int × Int), PyData.depthAll (ps.map dP) ≤ 1
  | [] => by simp [PyData.depthAll]
  | p :: ps => by
    have := depth_dP ps
    simp only [List.map_cons, PyData.depthAll, dP, PyData.depth]
    omega
theorem cr_minP (hc : X.calm = true) (hu : X.A.units + 66 < cLine) : CallR X (.builtin "min") (rMinP X.K) := by
  intro pins s σ H vs us Q I r h
  obtain ⟨a, xs, ps, rfl, hs, hd, hne, q⟩ := h
  obtain ⟨its, rv, hl, hz⟩ := I.list hs
  rw [Vals.ref1 r]
  obtain ⟨as, R⟩ := Dp.readsAll I _ xs its hd rv
  have al : PySem.W.AlikeAll (ps.map dP) := ⟨fun x hx y hy => by
    obtain ⟨p, _, rfl⟩ := List.mem_map.mp hx
    obtain ⟨p', _, rfl⟩ := List.mem_map.mp hy
    exact alike_dP _ _, fun x hx => by
    obtain ⟨p, _, rfl⟩ := List.mem_map.mp hx
    simp [dP]⟩
  have hn : its.toArray.size = ps.length := by
    have := PySem.W.readsAll_len (vs := its.toArray) R
    rw [this, List.length_map]
  refine call_min_walkH (PySem.W.iter_listW (A := X.A.in1) (I.ok.hd hc) hl.isList fun s₂ e W st hfp hw hk => ?_)
  refine ⟨_, _, _, _, _, _, _, s.heap, _, rfl, W, st, hfp, by omega, hw, hk, PySem.W.cmpIn_lt (A := X.A.in1) (vs := its.toArray) R al ?_, fun v s' hP m => ?_⟩
  · show X.A.units + 1 + _ < _
    have := depth_dP ps
    omega
  · obtain ⟨h', tk, rfl, hk'⟩ := PySem.W.moved_old e rfl m
    rw [hn] at hP
    have hP' : its[minIx ps]? = some v := by simpa [minIx] using hP
    obtain ⟨x, hx, rx⟩ : ∃ x, xs[minIx ps]? = some x ∧ RelV x v := paired_get rv hP'
    exact ⟨x, H, I.kept hk', rx, q x hx⟩
end
end Ev

set_option Elab.async false
set_option linter.all false
set_option maxRecDepth 100000
set_option maxHeartbeats 4000000
/-! Ev3: what the operations do to values, by the layer's rules. -/
namespace Ev
open PySem L2

/-- how an error lies in the heap -/
def EV (K : PySem.W.Frag) (mg : Str → Option Value) (ρ : List Addr) (H : Hp) (e : Exc) (cls : Value) (d : Option Addr) : Prop :=
  mg e.cls = some cls ∧ ∃ dd ws, d = some dd ∧ H dd = some (.xd ws) ∧ Paired (fun (p : Str × PV) (q : Str × V) => p.1 = q.1 ∧ RV K mg ρ H p.2 q.2) e.fs ws

/-- what is wanted behind a step, by its outcome -/
def Post {α β : Type} (K : PySem.W.Frag) (mg : Str → Option Value) (R : List Addr → Hp → α → β → Prop) (W : XK) (ρ : List Addr) (H : Hp) (r : Res α) (Q : β → Hp → Prop) : Prop := match r with
  | .ok x M => ∀ ρ' v H', Ext ρ H ρ' H' → SM K mg ρ' H' M → R ρ' H' x v → Q v H'
  | .exc e M => ∀ ρ' H' cls d, Ext ρ H ρ' H' → SM K mg ρ' H' M → EV K mg ρ' H' e cls d → W cls d H'
  | .bad => False
section
variable {K : PySem.W.Frag} {mg : Str → Option Value} {ρ ρ1 : List Addr} {H H1 : Hp} {α β γ δ : Type} {R : List Addr → Hp → α → β → Prop} {R1 : List Addr → Hp → γ → δ → Prop} {W : XK} {M : Sto} {Q : β → Hp → Prop}
theorem Post.chain {r : Res γ} {f : γ → Sto → Res α} {Q1 : δ → Hp → Prop} (h : Post K mg R W ρ H (r.bind f) Q)
    (k : ∀ x M1 ρ1 v H1, Ext ρ H ρ1 H1 → SM K mg ρ1 H1 M1 → R1 ρ1 H1 x v → Post K mg R W ρ1 H1 (f x M1) Q → Q1 v H1) : Post K mg R1 W ρ H r Q1 := by
  cases r with
  | ok x M =>
    intro ρ' v H' E S r1
    refine k x M ρ' v H' E S r1 ?_
    have h' : Post K mg R W ρ H (f x M) Q := h
    revert h'
    cases f x M with
    | ok y N => exact fun h ρ2 w H2 E2 => h ρ2 w H2 (E.trans E2)
    | exc e N => exact fun h ρ2 H2 c d E2 => h ρ2 H2 c d (E.trans E2)
    | bad => exact fun h => h
  | exc e M => exact h
  | bad => exact h
theorem Post.here {x : α} {v : β} (S : SM K mg ρ H M) (r : R ρ H x v) (h : Post K mg R W ρ H (.ok x M) Q) : Q v H := h ρ v H (Ext.refl _ _) S r
theorem Post.ext {x : α} {v : β} {M1 : Sto} (h : Post K mg R W ρ H (.ok x M1) Q) (E : Ext ρ H ρ1 H1) (S : SM K mg ρ1 H1 M1) (r : R ρ1 H1 x v) : Q v H1 := h ρ1 v H1 E S r
end

section
variable {K : PySem.W.Frag} {mg : Str → Option Value} {ρ : List Addr} {H : Hp} {W : XK} {M : Sto} {Q : VK}
abbrev PostV (K : PySem.W.Frag) (mg : Str → Option Value) (W : XK) (ρ : List Addr) (H : Hp) (r : Res PV) (Q : VK) : Prop := Post K mg (RV K mg) W ρ H r Q

/-! ### reading values -/
theorem RV.int_inv {i : Int} {v : V} (h : RV K mg ρ H (.int i) v) : v = .int i := by cases h; rfl
theorem RV.str_inv {s : Str} {v : V} (h : RV K mg ρ H (.str s) v) : v = .str s := by cases h; rfl
theorem RV.bl_inv {b : Bool} {v : V} (h : RV K mg ρ H (.bl b) v) : v = .bl b := by cases h; rfl
theorem RV.non_inv {v : V} (h : RV K mg ρ H .non v) : v = .non := by cases h; rfl
theorem RV.tup_inv {xs : List PV} {v : V} (h : RV K mg ρ H (.tup xs) v) : ∃ a vs, v = .ref a ∧ SqT K H a vs ∧ RVs K mg ρ H xs vs := by cases h with | tup a b => exact ⟨_, _, rfl, a, b⟩
theorem RV.rol_inv {xs : List PV} {v : V} (h : RV K mg ρ H (.rol xs) v) : ∃ a vs, v = .ref a ∧ Fzl K H a vs ∧ RVs K mg ρ H xs vs := by cases h with | rol a b => exact ⟨_, _, rfl, a, b⟩
theorem RV.ref_inv {i : Nat} {v : V} (h : RV K mg ρ H (.ref i) v) : ∃ a, v = .ref a ∧ ρ[i]? = some a := by cases h with | ref a => exact ⟨_, rfl, a⟩
theorem Fzl.sq {a : Addr} {vs : List V} (h : Fzl K H a vs) : SqL K H a vs := by
  rcases h with ⟨o, h⟩ | h
  · exact .inl (.inr ⟨o, h⟩)
  · exact .inr h
theorem RV.atom {x : PV} {v w : V} (h : RV K mg ρ H x v) (e : x.atom = some w) : v = w := by
  cases h <;> first | (cases e; rfl) | cases e
theorem RVs.atoms : ∀ {xs : List PV} {vs ws : List V}, RVs K mg ρ H xs vs → Ev.atoms xs = some ws → vs = ws
  | _, _, _, .nil, e => by cases e; rfl
  | x :: xs, _, _, .cons a b, e => by
    have e' : (match x.atom, Ev.atoms xs with | some v, some vs => some (v :: vs) | _, _ => none) = some _ := e
    cases h1 : x.atom with
    | none => rw [h1] at e'; cases e'
    | some v =>
      cases h2 : Ev.atoms xs with
      | none => rw [h1, h2] at e'; cases e'
      | some vs =>
        rw [h1, h2] at e'
        cases e'
        rw [RV.atom a h1, RVs.atoms b h2]
/-- a list or a tuple, as it is read -/
theorem seq_read (S : SM K mg ρ H M) {x : PV} {v : V} {xs : List PV} (h : RV K mg ρ H x v) (e : seqOf M x = some xs) : ∃ a vs, v = .ref a ∧ (SqL K H a vs ∨ SqT K H a vs) ∧ RVs K mg ρ H xs vs := by
  cases h with
  | tup a b => cases e; exact ⟨_, _, rfl, .inr a, b⟩
  | rol a b => cases e; exact ⟨_, _, rfl, .inl a.sq, b⟩
  | ref h =>
    rename_i i a
    have e' : lstOf M i = some xs := e
    unfold lstOf at e'
    cases q : M[i]? with
    | none => rw [q] at e'; cases e'
    | some o =>
      rw [q] at e'
      cases o with
      | dct _ => cases e'
      | lst ys =>
        cases e'
        obtain ⟨vs, h1, h2⟩ := S.get h q
        exact ⟨_, _, rfl, .inl (.inl (.inl h1)), h2⟩
  | _ => cases e
theorem lst_read (S : SM K mg ρ H M) {i : Nat} {v : V} {xs : List PV} (h : RV K mg ρ H (.ref i) v) (e : lstOf M i = some xs) : ∃ a vs, v = .ref a ∧ ρ[i]? = some a ∧ H a = some (.lst vs) ∧ RVs K mg ρ H xs vs := by
  obtain ⟨a, rfl, hi⟩ := h.ref_inv
  unfold lstOf at e
  cases q : M[i]? with
  | none => rw [q] at e; cases e
  | some o =>
    rw [q] at e
    cases o with
    | dct _ => cases e
    | lst ys =>
      cases e
      obtain ⟨vs, h1, h2⟩ := S.get hi q
      exact ⟨_, _, rfl, hi, h1, h2⟩
theorem Post.alloc {o : MO} {ho : HO} (S : SM K mg ρ H M) (r : RO K mg ρ H o ho) (h : PostV K mg W ρ H (Ev.alloc o M) Q) : ∀ p, H p = none → Q (.ref p) (upd H p ho) := fun p hp =>
  h (ρ ++ [p]) (.ref p) _ (Ext.alloc hp) (S.alloc hp r) (RV.new S)
theorem Post.tup {xs : List PV} {vs : List V} (S : SM K mg ρ H M) (r : RVs K mg ρ H xs vs) (h : PostV K mg W ρ H (.ok (.tup xs) M) Q) : ∀ p, H p = none → Q (.ref p) (upd H p (.tup vs)) := fun p hp =>
  h ρ (.ref p) _ (Ext.upd hp) (S.upd hp) (.tup (.inl (.inl upd_same)) (RVs.mono S (Ext.upd hp) r))

/-! ### data -/
mutual
theorem dp_of (S : SM K mg ρ H M) {lk : Nat → Option PyData} (hl : ∀ i a d, ρ[i]? = some a → lk i = some d → Dp K H (.ref a) d) : ∀ (x : PV) (v : V) (d : PyData), RV K mg ρ H x v → datR lk x = some d → Dp K H v d
  | .non, _, _, .non, e => by cases e; exact .non
  | .bl b, _, _, .bl _, e => by cases e; exact .bl b
  | .int i, _, _, .int _, e => by cases e; exact .int i
  | .str s, _, _, .str _, e => by cases e; exact .str s
  | .tup xs, _, d, .tup (vs := vs) h r, e => by
    have e' : (datRs lk xs).map PyData.tuple = some d := e
    cases q : datRs lk xs with
    | none => rw [q] at e'; cases e'
    | some ds => rw [q] at e'; cases e'; exact .tup h (dps_of S hl xs vs ds r q)
  | .rol xs, _, d, .rol (vs := vs) h r, e => by
    have e' : (datRs lk xs).map PyData.list = some d := e
    cases q : datRs lk xs with
    | none => rw [q] at e'; cases e'
    | some ds => rw [q] at e'; cases e'; exact .lst h.sq (dps_of S hl xs vs ds r q)
  | .ref i, _, d, .ref h, e => hl i _ d h e
theorem dps_of (S : SM K mg ρ H M) {lk : Nat → Option PyData} (hl : ∀ i a d, ρ[i]? = some a → lk i = some d → Dp K H (.ref a) d) : ∀ (xs : List PV) (vs : List V) (ds : List PyData), RVs K mg ρ H xs vs → datRs lk xs = some ds → DpAll K H vs ds
  | [], _, _, .nil, e => by cases e; exact .nil
  | x :: xs, _, ds, .cons (v := v) (vs := vs) a b, e => by
    have e' : (match datR lk x, datRs lk xs with | some d, some ds => some (d :: ds) | _, _ => none) = some ds := e
    cases h1 : datR lk x with
    | none => rw [h1] at e'; cases e'
    | some d =>
      cases h2 : datRs lk xs with
      | none => rw [h1, h2] at e'; cases e'
      | some ds' => rw [h1, h2] at e'; cases e'; exact .cons (dp_of S hl x v d a h1) (dps_of S hl xs vs ds' b h2)
end
theorem lk_of (S : SM K mg ρ H M) : ∀ (n i : Nat) (a : Addr) (d : PyData), ρ[i]? = some a → lkN M n i = some d → Dp K H (.ref a) d
  | 0, _, _, _, _, e => by cases e
  | n + 1, i, a, d, h, e => by
    have e' : (match M[i]? with | some (.lst xs) => (datRs (lkN M n) xs).map PyData.list | _ => none) = some d := e
    cases q : M[i]? with
    | none => rw [q] at e'; cases e'
    | some o =>
      rw [q] at e'
      cases o with
      | dct _ => cases e'
      | lst xs =>
        have e2 : (datRs (lkN M n) xs).map PyData.list = some d := e'
        cases h2 : datRs (lkN M n) xs with
        | none => rw [h2] at e2; cases e2
        | some ds =>
          rw [h2] at e2; cases e2
          obtain ⟨vs, h3, h4⟩ := S.get h q
          exact .lst (.inl (.inl h3)) (dps_of S (lk_of S n) xs vs ds h4 h2)
theorem dat_of (S : SM K mg ρ H M) {x : PV} {v : V} {d : PyData} (r : RV K mg ρ H x v) (e : dat M x = some d) : Dp K H v d := dp_of S (lk_of S 8) x v d r e
end

/-! ### operators -/
section
variable {X : Cx}
def rNo : R2 := fun _ _ _ _ => False
theorem op_no {f : Value → Value → Sem Value} : OpR X f rNo := fun _ _ _ _ _ _ _ _ _ _ _ _ h => h.elim
abbrev rStrAdd : R2 := fun x y H Q => ∃ i j, x = .str i ∧ y = .str j ∧ i.length + j.length ≤ sizeLine ∧ Q (.str (i ++ j)) H
def rBin (K : PySem.W.Frag) : Operator → R2
  | .Add => fun x y H Q => rI0 (fun i j => .int (i + j)) x y H Q ∨ (rStrAdd x y H Q ∨ (rCatA K x y H Q ∨ rCat x y H Q))
  | .Sub => rI0 fun i j => .int (i - j)
  | .Mult => fun x y H Q => rI CMul (fun i j => .int (i * j)) x y H Q ∨ (rRepU K x y H Q ∨ (rMulS x y H Q ∨ rRep x y H Q))
  | .FloorDiv => rI CDivN fun i j => .int (i.fdiv j)
  | .Mod => rI (fun _ j => j ≠ 0) fun i j => .int (i.fmod j)
  | .Pow => rI CPow fun i j => .int (i ^ j.toNat)
  | _ => rNo
theorem op_bin (op : Operator) : OpR X (binaryOp op) (rBin X.K op) := by
  cases op <;> first
    | exact op_add.or (op_add_str.or (op_catA.or op_cat))
    | exact op_sub
    | exact op_mul.or (op_repU.or (op_mulS.or op_rep))
    | exact op_fdivN
    | exact op_modN
    | exact op_pow
    | exact op_no
end
section
variable {K : PySem.W.Frag} {mg : Str → Option Value} {ρ : List Addr} {H : Hp} {W : XK} {M : Sto} {Q : VK}
theorem mulOk_iff {i j : Int} (h : mulOk i j = true) : CMul i j := by
  unfold mulOk at h
  simp only [Bool.or_eq_true, Bool.and_eq_true, decide_eq_true_eq] at h
  exact h
theorem divOk_iff {i j : Int} (h : divOk j = true) : CDivN i j := by
  unfold divOk at h
  simp only [Bool.and_eq_true, decide_eq_true_eq] at h
  exact h
theorem powOk_iff {i j : Int} (h : powOk i j = true) : CPow i j := by
  unfold powOk at h
  simp only [Bool.and_eq_true, decide_eq_true_eq] at h
  exact ⟨h.1.1, h.1.2, h.2⟩
theorem repOk_iff {n : Nat} {k : Int} (h : repOk n k = true) : -(2 ^ 63) ≤ k ∧ k < 2 ^ 31 ∧ n * k.toNat ≤ sizeLine := by
  unfold repOk at h
  simp only [Bool.and_eq_true, decide_eq_true_eq] at h
  exact h
theorem binV_ok (op : Operator) {x y : PV} {v w : V} (S : SM K mg ρ H M) (rx : RV K mg ρ H x v) (ry : RV K mg ρ H y w) (h : PostV K mg W ρ H (binV op x y M) Q) : rBin K op v w H Q := by
  unfold binV at h
  split at h
  · -- two ints
    cases rx.int_inv; cases ry.int_inv
    cases op <;> simp only at h <;> first
      | exact h.elim
      | exact .inl ⟨_, _, rfl, rfl, h.here S (.int _)⟩
      | exact ⟨_, _, rfl, rfl, h.here S (.int _)⟩
      | (split at h
         · rename_i c
           first
             | exact .inl ⟨_, _, rfl, rfl, mulOk_iff c, h.here S (.int _)⟩
             | exact ⟨_, _, rfl, rfl, divOk_iff c, h.here S (.int _)⟩
             | exact ⟨_, _, rfl, rfl, of_decide_eq_true c, h.here S (.int _)⟩
             | exact ⟨_, _, rfl, rfl, powOk_iff c, h.here S (.int _)⟩
         · exact h.elim)
  · cases rx.str_inv; cases ry.str_inv
    cases op <;> simp only at h <;> first
      | exact h.elim
      | (split at h
         · rename_i c
           exact .inr (.inl ⟨_, _, rfl, rfl, c, h.here S (.str _)⟩)
         · exact h.elim)
  · obtain ⟨a, vs, rfl, ha, ra⟩ := rx.tup_inv
    obtain ⟨b, ws, rfl, hb, rb⟩ := ry.tup_inv
    cases op <;> simp only at h <;> first
      | exact h.elim
      | (split at h
         · rename_i xs ys c
           refine .inr (.inr (.inl ⟨a, b, vs, ws, rfl, rfl, ha, hb, by rw [← ra.length, ← rb.length]; exact c, fun e => ?_, fun _ e => ?_, fun _ _ => ?_⟩))
           · refine h.here S (.tup hb ?_)
             have e1 : xs = [] := by
               have := ra.length
               rw [e] at this
               exact List.eq_nil_of_length_eq_zero this
             rw [e1]; exact rb
           · refine h.here S (.tup ha ?_)
             have e1 : ys = [] := by
               have := rb.length
               rw [e] at this
               exact List.eq_nil_of_length_eq_zero this
             rw [e1, List.append_nil]; exact ra
           · exact Post.tup S (ra.append rb) h
         · exact h.elim)
  · obtain ⟨a, vs, rfl, ha, ra⟩ := rx.tup_inv
    cases ry.int_inv
    cases op <;> simp only at h <;> first
      | exact h.elim
      | (split at h
         · rename_i xs k c
           obtain ⟨c1, c2⟩ := c
           obtain ⟨c3, c4, c5⟩ := repOk_iff c2
           refine .inr (.inl ⟨a, _, vs, rfl, rfl, ha, fun e => c1 ?_, c3, c4, by rw [← ra.length]; exact c5, fun e => ?_, fun _ => Post.tup S (ra.rep _) h⟩)
           · have := ra.length
             rw [e] at this
             exact List.eq_nil_of_length_eq_zero this
           · subst e
             refine h.here S (.tup ha ?_)
             have e1 : (List.replicate (1 : Int).toNat xs).flatten = xs := by simp
             rw [e1]; exact ra
         · exact h.elim)
  · cases rx.str_inv
    cases ry.int_inv
    cases op <;> simp only at h <;> first
      | exact h.elim
      | (split at h
         · rename_i c
           obtain ⟨c3, c4, c5⟩ := repOk_iff c
           exact .inr (.inr (.inl ⟨_, _, rfl, rfl, mulOk_of c3 c4 c5, by rw [mul_eq]; exact h.here S (.str _)⟩))
         · exact h.elim)
  · cases ry.int_inv
    cases op <;> simp only at h <;> first
      | exact h.elim
      | (split at h
         · rename_i i xs e1
           split at h
           · rename_i c
             obtain ⟨c3, c4, c5⟩ := repOk_iff c
             obtain ⟨a, rfl, hi⟩ := rx.ref_inv
             obtain ⟨vs, h1, h2⟩ := S.get hi e1
             exact .inr (.inr (.inr ⟨a, _, vs, rfl, rfl, h1, c3, by omega, by rw [← h2.length]; exact c5, Post.alloc (o := .lst _) (ho := .lst _) S (h2.rep _) h⟩))
           · exact h.elim
         · exact h.elim)
  · cases op <;> simp only at h <;> first
      | exact h.elim
      | (split at h
         · rename_i i j xs ys e1 e2
           split at h
           · rename_i c
             obtain ⟨a, rfl, hi⟩ := rx.ref_inv
             obtain ⟨b, rfl, hj⟩ := ry.ref_inv
             obtain ⟨vs, h1, h2⟩ := S.get hi e1
             obtain ⟨ws, h3, h4⟩ := S.get hj e2
             exact .inr (.inr (.inr ⟨a, b, vs, ws, rfl, rfl, h1, h3, by rw [← h2.length, ← h4.length]; exact c, Post.alloc (o := .lst (xs ++ ys)) (ho := .lst (vs ++ ws)) S (h2.append h4) h⟩))
           · exact h.elim
         · exact h.elim)
  · exact h.elim
end
end Ev

set_option Elab.async false
set_option linter.all false
set_option maxRecDepth 100000
set_option maxHeartbeats 4000000
/-! Ev4: comparisons, truth, items, slices, by the layer's rules. -/
namespace Ev
open PySem L2
section
variable {X : Cx}
abbrev rIsN : R2 := fun x y H Q => y = .non ∧ Q (.bl (decide (x = .non))) H
abbrev rIsNotN : R2 := fun x y H Q => y = .non ∧ Q (.bl (!decide (x = .non))) H
abbrev rInStr : R2 := fun x y H Q => ∃ i j, x = .str i ∧ y = .str j ∧ Q (.bl (!(Builtin.Str.occurrences j i 0 j.length 1).isEmpty)) H
abbrev rNotInStr : R2 := fun x y H Q => ∃ i j, x = .str i ∧ y = .str j ∧ Q (.bl (!(!(Builtin.Str.occurrences j i 0 j.length 1).isEmpty))) H
abbrev rStr2 (g : Str → Str → Bool) : R2 := fun x y H Q => ∃ i j, x = .str i ∧ y = .str j ∧ Q (.bl (g i j)) H
def rCmp (K : PySem.W.Frag) : CmpOp → R2
  | .Eq => fun x y H Q => rEq x y H Q ∨ rEqD K x y H Q
  | .NotEq => fun x y H Q => rNe x y H Q ∨ rNeD K x y H Q
  | .Lt => fun x y H Q => rI0 (fun i j => .bl (decide (i < j))) x y H Q ∨ rStr2 (fun i j => ltS i j) x y H Q
  | .LtE => fun x y H Q => rI0 (fun i j => .bl (decide (i ≤ j))) x y H Q ∨ rStr2 (fun i j => !ltS j i) x y H Q
  | .Gt => fun x y H Q => rI0 (fun i j => .bl (decide (j < i))) x y H Q ∨ rStr2 (fun i j => ltS j i) x y H Q
  | .GtE => fun x y H Q => rI0 (fun i j => .bl (decide (j ≤ i))) x y H Q ∨ rStr2 (fun i j => !ltS i j) x y H Q
  | .Is => fun x y H Q => rIsN x y H Q ∨ rIsB x y H Q
  | .IsNot => fun x y H Q => rIsNotN x y H Q ∨ rNotB x y H Q
  | .In => fun x y H Q => rInStr x y H Q ∨ rIn K false x y H Q
  | .NotIn => fun x y H Q => rNotInStr x y H Q ∨ rIn K true x y H Q
theorem op_cmp (hu : X.A.units + 64 < cLine) (op : CmpOp) : OpR X (compareOp op) (rCmp X.K op) := by
  cases op with
  | Eq => exact op_eq.or (op_eqD hu)
  | NotEq => exact op_ne.or (op_neD hu)
  | Lt => exact op_lt.or op_lt_str
  | LtE => exact op_le.or op_le_str
  | Gt => exact op_gt.or op_gt_str
  | GtE => exact op_ge.or op_ge_str
  | Is => exact op_isN.or op_isBl
  | IsNot => exact op_notN.or op_notBl
  | In => exact op_in_str.or op_in_seq
  | NotIn => exact op_notin_str.or op_notIn_seq
end
section
variable {K : PySem.W.Frag} {mg : Str → Option Value} {ρ : List Addr} {H : Hp} {W : XK} {M : Sto} {Q : VK}
theorem eqV_ok {x y : PV} {v w : V} {k : Bool} (S : SM K mg ρ H M) (rx : RV K mg ρ H x v) (ry : RV K mg ρ H y w) (e : eqV M x y = some k) :
    (scal v w = true ∧ decide (v = w) = k) ∨ ∃ d d', Dp K H v d ∧ Dp K H w d' ∧ SeqAt.shaped d = true ∧ SeqAt.shaped d' = true ∧ PyData.eqv d d' = k := by
  unfold eqV at e
  split at e
  all_goals first
    | (cases rx.int_inv; cases ry.int_inv; cases e; exact .inl ⟨rfl, by simp⟩)
    | (cases rx.str_inv; cases ry.str_inv; cases e; exact .inl ⟨rfl, by simp⟩)
    | (cases rx.bl_inv; cases ry.bl_inv; cases e; exact .inl ⟨rfl, by simp⟩)
    | (cases rx.non_inv; cases ry.non_inv; cases e; exact .inl ⟨rfl, by simp⟩)
    | (cases rx.non_inv; cases ry.int_inv; cases e; exact .inl ⟨rfl, by simp⟩)
    | (cases rx.int_inv; cases ry.non_inv; cases e; exact .inl ⟨rfl, by simp⟩)
    | (cases rx.non_inv; cases ry.str_inv; cases e; exact .inl ⟨rfl, by simp⟩)
    | (cases rx.str_inv; cases ry.non_inv; cases e; exact .inl ⟨rfl, by simp⟩)
    | (cases rx.non_inv; cases ry.bl_inv; cases e; exact .inl ⟨rfl, by simp⟩)
    | (cases rx.bl_inv; cases ry.non_inv; cases e; exact .inl ⟨rfl, by simp⟩)
    | (cases rx.int_inv; cases ry.str_inv; cases e; exact .inl ⟨rfl, by simp⟩)
    | (cases rx.str_inv; cases ry.int_inv; cases e; exact .inl ⟨rfl, by simp⟩)
    | (cases rx.bl_inv; cases ry.str_inv; cases e; exact .inl ⟨rfl, by simp⟩)
    | (cases rx.str_inv; cases ry.bl_inv; cases e; exact .inl ⟨rfl, by simp⟩)
    | skip
  split at e
  · rename_i d d' h1 h2
    split at e
    · rename_i c
      cases e
      exact .inr ⟨d, d', dat_of S rx h1, dat_of S ry h2, c.1, c.2, rfl⟩
    · cases e
  · cases e
theorem inV_ok {x y : PV} {v w : V} {k : Bool} (S : SM K mg ρ H M) (rx : RV K mg ρ H x v) (ry : RV K mg ρ H y w) (e : inV M x y = some k) :
    (∃ i j, v = .str i ∧ w = .str j ∧ (!(Builtin.Str.occurrences j i 0 j.length 1).isEmpty) = k) ∨
    ∃ p xs, w = .ref p ∧ (SqL K H p xs ∨ SqT K H p xs) ∧ flatV v = true ∧ xs.all flatV = true ∧ L2.inV v xs = k := by
  unfold inV at e
  split at e
  · split at e
    · cases rx.str_inv; cases ry.str_inv; cases e
      exact .inl ⟨_, _, rfl, rfl, rfl⟩
    · cases e
  · split at e
    · rename_i ys hs
      split at e
      · rename_i vx vs h1 h2
        split at e
        · rename_i c
          cases e
          obtain ⟨a, us, rfl, hq, ru⟩ := seq_read S ry hs
          have e1 := rx.atom h1
          have e2 := ru.atoms h2
          subst e1; subst e2
          exact .inr ⟨a, _, rfl, hq, c.1, c.2, rfl⟩
        · cases e
      · cases e
    · cases e
theorem none_iff {x : PV} {v : V} (r : RV K mg ρ H x v) (hx : ∀ y, x ≠ .glo y) : decide (v = V.non) = decide (x = PV.non) := by
  cases r with
  | glo _ _ => exact absurd rfl (hx _)
  | _ => simp
theorem cmpV_ok (op : CmpOp) {x y : PV} {v w : V} {k : Bool} (S : SM K mg ρ H M) (rx : RV K mg ρ H x v) (ry : RV K mg ρ H y w) (e : cmpV op x y M = some k) (h : Q (.bl k) H) : rCmp K op v w H Q := by
  cases op with
  | Eq =>
    rcases eqV_ok S rx ry e with ⟨s, e⟩ | ⟨d, d', h1, h2, h3, h4, e⟩
    · exact .inl ⟨s, by rw [e]; exact h⟩
    · exact .inr ⟨d, d', h1, h2, h3, h4, by rw [e]; exact h⟩
  | NotEq =>
    have e' : (eqV M x y).map (!·) = some k := e
    cases q : eqV M x y with
    | none => rw [q] at e'; cases e'
    | some b =>
      rw [q] at e'; cases e'
      rcases eqV_ok S rx ry q with ⟨s, e⟩ | ⟨d, d', h1, h2, h3, h4, e⟩
      · exact .inl ⟨s, by rw [e]; exact h⟩
      · exact .inr ⟨d, d', h1, h2, h3, h4, by rw [e]; exact h⟩
  | Lt | LtE | Gt | GtE =>
    simp only [cmpV] at e
    split at e
    · cases rx.int_inv; cases ry.int_inv; cases e
      exact .inl ⟨_, _, rfl, rfl, h⟩
    · cases rx.str_inv; cases ry.str_inv; cases e
      exact .inr ⟨_, _, rfl, rfl, h⟩
    · cases e
  | Is | IsNot =>
    simp only [cmpV] at e
    split at e
    · cases ry.non_inv
      split at e
      · cases e
      · rename_i hx
        cases e
        exact .inl ⟨rfl, by rw [none_iff rx hx]; exact h⟩
    · cases rx.bl_inv; cases ry.bl_inv; cases e
      exact .inr ⟨_, _, rfl, rfl, h⟩
    · cases e
  | In =>
    rcases inV_ok S rx ry e with ⟨i, j, rfl, rfl, e⟩ | ⟨p, xs, rfl, h1, h2, h3, e⟩
    · exact .inl ⟨_, _, rfl, rfl, by rw [e]; exact h⟩
    · exact .inr ⟨p, xs, rfl, h1, h2, h3, by rw [if_neg Bool.false_ne_true, e]; exact h⟩
  | NotIn =>
    have e' : (inV M x y).map (!·) = some k := e
    cases q : inV M x y with
    | none => rw [q] at e'; cases e'
    | some b =>
      rw [q] at e'; cases e'
      rcases inV_ok S rx ry q with ⟨i, j, rfl, rfl, e⟩ | ⟨p, xs, rfl, h1, h2, h3, e⟩
      · exact .inl ⟨_, _, rfl, rfl, by rw [e]; exact h⟩
      · exact .inr ⟨p, xs, rfl, h1, h2, h3, by rw [if_pos rfl, e]; exact h⟩
theorem truV_ok {x : PV} {v : V} {k : Bool} (S : SM K mg ρ H M) (rx : RV K mg ρ H x v) (e : truV M x = some k) : TruV K v H k := by
  unfold truV at e
  split at e
  · cases rx.non_inv; cases e; exact rfl
  · cases rx.bl_inv; cases e; exact rfl
  · cases rx.int_inv; cases e; exact rfl
  · cases rx.str_inv
    split at e
    · rename_i c
      cases e
      exact ⟨c, rfl⟩
    · cases e
  · obtain ⟨a, vs, rfl, h, r⟩ := rx.tup_inv
    cases e
    exact .inr (.inl ⟨vs, h, by rw [r.nil_iff]⟩)
  · obtain ⟨a, vs, rfl, h, r⟩ := rx.rol_inv
    cases e
    exact .inl ⟨vs, h.sq, by rw [r.nil_iff]⟩
  · obtain ⟨a, rfl, hi⟩ := rx.ref_inv
    split at e
    · rename_i q
      cases e
      obtain ⟨vs, h1, h2⟩ := S.get hi q
      exact .inl ⟨vs, .inl (.inl h1), by rw [h2.nil_iff]⟩
    · rename_i q
      cases e
      obtain ⟨ws, h1, h2⟩ := S.getD hi q
      exact .inr (.inr ⟨ws, h1, by cases h2 <;> rfl⟩)
    · cases e
  · cases e

/-! ### items -/
theorem keyOf_ok {i : PV} {w : V} {k : Key} (r : RV K mg ρ H i w) (e : keyOf i = some k) : w = kV k := by
  cases r <;> first | (cases e; rfl) | cases e
theorem RKs.val {kvs : List (Key × PV)} {ws : List (Key × V)} (r : RKs K mg ρ H kvs ws) {k : Key} : (∀ x, valP kvs k = some x → ∃ v, valV ws k = some v ∧ RV K mg ρ H x v) ∧ (valP kvs k = none → valV ws k = none) := by
  induction r with
  | nil => exact ⟨fun _ h => (nomatch h), fun _ => rfl⟩
  | @cons p q ps qs h t ih =>
    by_cases e : p.1 = k
    · have e2 : q.1 = k := h.1 ▸ e
      have v1 : valP (p :: ps) k = some p.2 := by simp [valP, List.find?_cons, e]
      rw [v1, valV_pos e2]
      exact ⟨fun x hx => ⟨_, rfl, by cases hx; exact h.2⟩, fun z => nomatch z⟩
    · have e2 : ¬ q.1 = k := fun z => e (h.1.trans z)
      have v1 : valP (p :: ps) k = valP ps k := by simp [valP, List.find?_cons, e]
      rw [v1, valV_neg e2]
      exact ih
theorem subV_ok {x i y : PV} {v w : V} (S : SM K mg ρ H M) (rx : RV K mg ρ H x v) (ri : RV K mg ρ H i w) (e : subV x i M = some y) (h : ∀ z, RV K mg ρ H y z → Q z H) :
    (isD M x = false ∧ rIx K v w H Q) ∨ (isD M x = true ∧ ∃ a z, v = .ref a ∧ DGet H a w (some z) ∧ Q z H) := by
  unfold subV at e
  split at e
  · obtain ⟨a, vs, rfl, ha, r⟩ := rx.tup_inv
    cases ri.int_inv
    obtain ⟨z, h1, h2⟩ := r.atI e
    exact .inl ⟨rfl, .inr (.inl ⟨a, vs, _, z, rfl, rfl, ha, h1, h z h2⟩)⟩
  · obtain ⟨a, vs, rfl, ha, r⟩ := rx.rol_inv
    cases ri.int_inv
    obtain ⟨z, h1, h2⟩ := r.atI e
    exact .inl ⟨rfl, .inl ⟨a, vs, _, z, rfl, rfl, ha.sq, h1, h z h2⟩⟩
  · cases rx.str_inv; cases ri.int_inv
    split at e
    · rename_i s k c
      cases q : L2.atI s.cps.toList k with
      | none => rw [q] at e; cases e
      | some d =>
        rw [q] at e; cases e
        exact .inl ⟨rfl, .inr (.inr ⟨_, _, d, rfl, rfl, c, q, h _ (.str _)⟩)⟩
    · cases e
  · obtain ⟨a, rfl, hi⟩ := rx.ref_inv
    split at e
    · rename_i q
      split at e
      · cases ri.int_inv
        obtain ⟨vs, h1, h2⟩ := S.get hi q
        obtain ⟨z, h3, h4⟩ := h2.atI e
        exact .inl ⟨by simp only [isD, q], .inl ⟨a, vs, _, z, rfl, rfl, .inl (.inl h1), h3, h z h4⟩⟩
      · cases e
    · rename_i q
      split at e
      · rename_i k hk
        obtain ⟨ws, h1, h2⟩ := S.getD hi q
        obtain ⟨z, h3, h4⟩ := h2.val.1 _ e
        rw [keyOf_ok ri hk]
        refine .inr ⟨by simp only [isD, q], a, z, rfl, ?_, h z h4⟩
        rw [← h3]
        exact .k h1
      · cases e
    · cases e
  · cases e
def rSlice (K : PySem.W.Frag) : V → Option Int → Option Int → Hp → VK → Prop := fun x lo hi H Q => rSlL K x lo hi H Q ∨ (rSlA K x lo hi H Q ∨ rSlS x lo hi H Q)
theorem sl_any {X : Cx} : SlR X (rSlice X.K) := sl_list.or (sl_tupA.or sl_str)
theorem cutP_whole {xs : List PV} {lo hi : Option Int} (h : HT.sIx xs.length 0 lo = 0 ∧ HT.sIx xs.length xs.length hi = xs.length) : cutP xs lo hi = xs := by
  unfold cutP
  rw [h.1, h.2, List.drop_zero, Nat.sub_zero, List.take_length]
theorem slcV_ok {x : PV} {v : V} {lo hi : Option Int} (S : SM K mg ρ H M) (rx : RV K mg ρ H x v) (h : PostV K mg W ρ H (slcV x lo hi M) Q) : rSlice K v lo hi H Q := by
  unfold slcV at h
  split at h
  · obtain ⟨a, vs, rfl, ha, r⟩ := rx.tup_inv
    refine .inr (.inl ⟨a, vs, rfl, ha, fun c => ?_, fun _ => Post.tup S (r.cut lo hi) h⟩)
    refine h.here S (.tup ha ?_)
    rw [cutP_whole (by rw [r.length]; exact c)]
    exact r
  · obtain ⟨a, vs, rfl, ha, r⟩ := rx.rol_inv
    exact .inl ⟨a, vs, rfl, ha.sq, Post.alloc (o := .lst _) (ho := .lst _) S (r.cut lo hi) h⟩
  · cases rx.str_inv
    split at h
    · rename_i c
      exact .inr (.inr ⟨_, rfl, c, h.here S (.str _)⟩)
    · exact h.elim
  · split at h
    · rename_i q
      obtain ⟨a, vs, rfl, hi, h1, h2⟩ := lst_read S rx q
      exact .inl ⟨a, vs, rfl, .inl (.inl h1), Post.alloc (o := .lst _) (ho := .lst _) S (h2.cut _ _) h⟩
    · exact h.elim
  · exact h.elim
theorem revV_ok {x : PV} {v : V} (S : SM K mg ρ H M) (rx : RV K mg ρ H x v) (h : PostV K mg W ρ H (revV x M) Q) : ∃ a xs, v = .ref a ∧ SqL K H a xs ∧ ∀ p, H p = none → Q (.ref p) (upd H p (.lst xs.reverse)) := by
  unfold revV at h
  split at h
  · obtain ⟨a, vs, rfl, ha, r⟩ := rx.rol_inv
    exact ⟨a, vs, rfl, ha.sq, Post.alloc (o := .lst _) (ho := .lst _) S r.reverse h⟩
  · split at h
    · rename_i q
      obtain ⟨a, vs, rfl, hi, h1, h2⟩ := lst_read S rx q
      exact ⟨a, vs, rfl, .inl (.inl h1), Post.alloc (o := .lst _) (ho := .lst _) S h2.reverse h⟩
    · exact h.elim
  · exact h.elim
end
end Ev

set_option Elab.async false
set_option linter.all false
set_option maxRecDepth 100000
set_option maxHeartbeats 4000000
/-! Ev5: built-in functions, methods, isinstance, stores, by the layer's rules. -/
namespace Ev
open PySem L2
section
variable {X : Cx}
def rRepr (K : PySem.W.Frag) : List V → Hp → VK → Prop := fun xs H Q => ∃ x d, xs = [x] ∧ Dp K H x d ∧ d.showable = true ∧ d.hasDict = false ∧ d.depth ≤ 64 ∧ d.shown.length ≤ sizeLine ∧ Q (.str d.shown) H
theorem cr_repr (hg : X.A.guards = some []) (hu : X.A.units + 66 < cLine) : CallR X (.builtin "repr") (rRepr X.K) := by
  intro pins s σ H xs us Q I r h
  obtain ⟨x, d, rfl, hd, hs, hn, hz, hl, q⟩ := h
  obtain ⟨u, rfl, ru⟩ := vals1 r
  obtain ⟨as, R⟩ := Dp.reads I d x u hd ru
  have fin : ∀ (h' : Heap) (tk : Tok) (t : Nat), (∀ b o, s.heap.get? b = some o → h'.get? b = some o) → EP X pins σ Q (.str d.shown tk) { s with heap := h', toks := t } := fun h' tk t k =>
    ⟨.str d.shown, H, I.kept (t' := t) k, ⟨tk, rfl⟩, q⟩
  have fin0 : ∀ (tk : Tok) (t : Nat), EP X pins σ Q (.str d.shown tk) { s with toks := t } := fun tk t => fin s.heap tk t fun _ _ e => e
  cases R with
  | none => exact PySem.P.repr_of_none (by simpa only [PyData.shown] using fin0 _ _)
  | bool b => exact PySem.P.repr_of_bool (by simpa only [PyData.shown] using fin0 _ _)
  | int i t => exact PySem.P.repr_of_int (by simpa [PyData.showable] using hs) (by simpa only [PyData.shown] using fin0 _ _)
  | str y t => exact PySem.P.repr_of_str (by simpa only [PyData.shown] using fin0 _ _) (by simpa only [PyData.shown] using hl)
  | list h1 h2 h3 h4 =>
    exact repr_of_reads' (.list h1 h2 h3 h4) hs (fun z => by rw [hn] at z; cases z) hg (by omega) (fun _ _ e => e) (fun h' u tk k => fin h' u tk k) hl
  | tuple h1 h2 h3 h4 =>
    exact repr_of_reads' (.tuple h1 h2 h3 h4) hs (fun z => by rw [hn] at z; cases z) hg (by omega) (fun _ _ e => e) (fun h' u tk k => fin h' u tk k) hl
  | dict h1 h2 h3 h4 h5 => exact repr_of_reads' (.dict h1 h2 h3 h4 h5) hs (fun z => by rw [hn] at z; cases z) hg (by omega) (fun _ _ e => e) (fun h' u tk k => fin h' u tk k) hl
/-- a built-in function's or class's value -/
def BI.val : BI → Value
  | .len => .builtin "len" | .int => .type "int" | .tuple => .type "tuple" | .list => .type "list" | .repr => .builtin "repr" | .str => .type "str"
  | .sorted => .builtin "sorted" | .max => .builtin "max" | .min => .builtin "min" | .all => .builtin "all" | .any => .builtin "any" | .sum => .builtin "sum" | .abs => .builtin "abs" | .ord => .builtin "ord" | .divmod => .builtin "divmod"
def BI.name : BI → Str
  | .len => "len" | .int => "int" | .tuple => "tuple" | .list => "list" | .repr => "repr" | .str => "str"
  | .sorted => "sorted" | .max => "max" | .min => "min" | .all => "all" | .any => "any" | .sum => "sum" | .abs => "abs" | .ord => "ord" | .divmod => "divmod"
abbrev RC := List V → Hp → VK → Prop
def rBlt (K : PySem.W.Frag) : BI → RC
  | .len => fun xs H Q => (∃ p ys, xs = [.ref p] ∧ (SqL K H p ys ∨ SqT K H p ys) ∧ Q (.int ys.length) H) ∨ ∃ z, xs = [.str z] ∧ z.length ≤ sizeLine ∧ Q (.int z.length) H
  | .int => fun xs H Q => ((∃ i, xs = [.int i] ∧ Q (.int i) H) ∨ ∃ k, xs = [.bl k] ∧ Q (.int (if k then 1 else 0)) H) ∨ ∃ a n, xs = [.str a] ∧ PySem.intText? a = some n ∧ a.length ≤ 640 ∧ Q (.int n) H
  | .tuple => fun xs H Q => ∃ p ys, xs = [.ref p] ∧ ((SqL K H p ys ∧ ∀ l, H l = none → Q (.ref l) (upd H l (.tup ys))) ∨ (SqT K H p ys ∧ Q (.ref p) H))
  | .list => fun xs H Q => (∃ p ys, xs = [.ref p] ∧ (SqL K H p ys ∨ SqT K H p ys) ∧ ∀ l, H l = none → Q (.ref l) (upd H l (.lst ys))) ∨ ∃ x, xs = [.str x] ∧ x.length ≤ sizeLine ∧ ∀ p, H p = none → Q (.ref p) (upd H p (.lst (signsP x)))
  | .repr => rRepr K
  | .str => fun xs H Q => (∃ a, xs = [.str a] ∧ Q (.str a) H) ∨ ∃ i, xs = [.int i] ∧ i.natAbs.log2 < 1920 ∧ Q (.str (toString i)) H
  | .sorted => fun xs H Q => rSortedI K xs H Q ∨ rSortedT K xs H Q
  | .max => fun xs H Q => (∃ i j, xs = [.int i, .int j] ∧ Q (.int (if j > i then j else i)) H) ∨ rMax K xs H Q
  | .min => fun xs H Q => (∃ i j, xs = [.int i, .int j] ∧ Q (.int (if j < i then j else i)) H) ∨ (rMin K xs H Q ∨ rMinP K xs H Q)
  | .all => rAll K
  | .any => rAny K
  | .sum => rSum K
  | .abs => fun xs H Q => ∃ i, xs = [.int i] ∧ Q (.int (if i < 0 then -i else i)) H
  | .ord => fun xs H Q => ∃ x : Str, xs = [.str x] ∧ x.length = 1 ∧ Q (.int (x.cps.getD 0 0 : Nat)) H
  | .divmod => fun xs H Q => ∃ i j, xs = [.int i, .int j] ∧ CDiv i j ∧ ∀ p, H p = none → Q (.ref p) (upd H p (.tup [.int (i / j), .int (i % j)]))
theorem cr_blt (hc : X.calm = true) (hg : X.A.guards = some []) (hu : X.A.units + 66 < cLine) (f : BI) : CallR X f.val (rBlt X.K f) := by
  cases f with
  | len => exact call_len_seq.or call_len_str
  | int => exact L2.CallR.or call_int1 call_int_str
  | tuple => exact call_tuple_of
  | list => exact L2.CallR.or call_list_of (call_list_strR hc)
  | repr => exact cr_repr hg hu
  | str => exact (L2.CallR.or SkE.call_str_str call_str_int)
  | sorted => exact L2.CallR.or cr_sortedI cr_sortedT
  | max => exact (call_max2 hc).or (cr_max hc)
  | min => exact (call_min2 hc).or (L2.CallR.or (cr_min hc) (cr_minP hc hu))
  | all => exact cr_all hc
  | any => exact cr_any hc
  | sum => exact cr_sum hc
  | abs => exact call_abs
  | ord => exact call_ord
  | divmod => exact call_divmod
end
section
variable {K : PySem.W.Frag} {mg : Str → Option Value} {ρ : List Addr} {H : Hp} {W : XK} {M : Sto} {Q : VK}
theorem RVs.one_inv {x : PV} {vs : List V} (h : RVs K mg ρ H [x] vs) : ∃ v, vs = [v] ∧ RV K mg ρ H x v := by
  cases h with
  | cons a b => cases b; exact ⟨_, rfl, a⟩
theorem RVs.two_inv {x y : PV} {vs : List V} (h : RVs K mg ρ H [x, y] vs) : ∃ v w, vs = [v, w] ∧ RV K mg ρ H x v ∧ RV K mg ρ H y w := by
  cases h with
  | cons a b =>
    cases b with
    | cons b c => cases c; exact ⟨_, _, rfl, a, b⟩
theorem RVs.nil_inv {vs : List V} (h : RVs K mg ρ H [] vs) : vs = [] := by cases h; rfl
theorem RVs.ints_inv : ∀ {xs : List PV} {vs : List V} {ns : List Int}, RVs K mg ρ H xs vs → intsP xs = some ns → vs = ns.map V.int
  | _, _, _, .nil, e => by cases e; rfl
  | x :: xs, _, ns, .cons a b, e => by
    cases x <;> try (cases e)
    rename_i i
    have e' : (intsP xs).map (i :: ·) = some ns := e
    cases q : intsP xs with
    | none => rw [q] at e'; cases e'
    | some ms =>
      rw [q] at e'; cases e'
      rw [a.int_inv, RVs.ints_inv b q]; rfl
theorem RVs.bools_inv : ∀ {xs : List PV} {vs : List V} {bs : List Bool}, RVs K mg ρ H xs vs → boolsP xs = some bs → vs = bs.map V.bl
  | _, _, _, .nil, e => by cases e; rfl
  | x :: xs, _, ns, .cons a b, e => by
    cases x <;> try (cases e)
    rename_i i
    have e' : (boolsP xs).map (i :: ·) = some ns := e
    cases q : boolsP xs with
    | none => rw [q] at e'; cases e'
    | some ms =>
      rw [q] at e'; cases e'
      rw [a.bl_inv, RVs.bools_inv b q]; rfl
theorem RVs.of_ints : ∀ ns : List Int, RVs K mg ρ H (ns.map PV.int) (ns.map V.int)
  | [] => .nil
  | n :: ns => .cons (.int n) (RVs.of_ints ns)
theorem RVs.of_signs : ∀ cs : List Nat, RVs K mg ρ H (cs.map fun c => PV.str ⟨#[c]⟩) (cs.map fun c => V.str ⟨#[c]⟩)
  | [] => .nil
  | _ :: cs => .cons (.str _) (RVs.of_signs cs)
/-! sorting -/
theorem insI_perm (x : Int) : ∀ ys : List Int, (insI x ys).Perm (x :: ys)
  | [] => .refl _
  | y :: ys => by
    unfold insI
    split
    · exact .refl _
    · exact ((insI_perm x ys).cons y).trans (.swap x y ys)
theorem sortI_perm : ∀ xs : List Int, (sortI xs).Perm xs
  | [] => .refl _
  | x :: xs => (insI_perm x _).trans ((sortI_perm xs).cons x)
theorem insI_sorted (x : Int) : ∀ ys : List Int, ys.Pairwise (· ≤ ·) → (insI x ys).Pairwise (· ≤ ·)
  | [], _ => by simp [insI]
  | y :: ys, h => by
    unfold insI
    have hp := List.pairwise_cons.mp h
    split
    · rename_i c
      refine List.pairwise_cons.mpr ⟨fun z hz => ?_, h⟩
      rcases List.mem_cons.mp hz with rfl | hz
      · exact c
      · exact Int.le_trans c (hp.1 z hz)
    · rename_i c
      refine List.pairwise_cons.mpr ⟨fun z hz => ?_, insI_sorted x ys hp.2⟩
      rcases List.mem_cons.mp ((insI_perm x ys).mem_iff.mp hz) with rfl | hz
      · omega
      · exact hp.1 z hz
theorem sortI_sorted : ∀ xs : List Int, (sortI xs).Pairwise (· ≤ ·)
  | [] => .nil
  | x :: xs => insI_sorted x _ (sortI_sorted xs)
theorem sortI_unique {xs ys : List Int} (h : ys.Perm xs) (s : ys.Pairwise (· ≤ ·)) : ys = sortI xs :=
  (h.trans (sortI_perm xs).symm).eq_of_pairwise (fun a b _ _ h1 h2 => Int.le_antisymm h1 h2) s (sortI_sorted xs)
theorem maxI_spec : ∀ {xs : List Int} {m : Int}, maxI xs = some m → m ∈ xs ∧ ∀ y ∈ xs, y ≤ m
  | [x], m, e => by cases e; simp
  | x :: y :: r, m, e => by
    have e' : (maxI (y :: r)).map (fun m => if m > x then m else x) = some m := e
    cases q : maxI (y :: r) with
    | none => rw [q] at e'; cases e'
    | some k =>
      rw [q] at e'; cases e'
      obtain ⟨h1, h2⟩ := maxI_spec q
      refine ⟨?_, fun z hz => ?_⟩
      · show (if k > x then k else x) ∈ _
        split
        · exact List.mem_cons_of_mem _ h1
        · exact List.mem_cons_self
      · show z ≤ if k > x then k else x
        rcases List.mem_cons.mp hz with rfl | hz
        · split <;> omega
        · have := h2 z hz
          split <;> omega
theorem minI_spec : ∀ {xs : List Int} {m : Int}, minI xs = some m → m ∈ xs ∧ ∀ y ∈ xs, m ≤ y
  | [x], m, e => by cases e; simp
  | x :: y :: r, m, e => by
    have e' : (minI (y :: r)).map (fun m => if m < x then m else x) = some m := e
    cases q : minI (y :: r) with
    | none => rw [q] at e'; cases e'
    | some k =>
      rw [q] at e'; cases e'
      obtain ⟨h1, h2⟩ := minI_spec q
      refine ⟨?_, fun z hz => ?_⟩
      · show (if k < x then k else x) ∈ _
        split
        · exact List.mem_cons_of_mem _ h1
        · exact List.mem_cons_self
      · show (if k < x then k else x) ≤ z
        rcases List.mem_cons.mp hz with rfl | hz
        · split <;> omega
        · have := h2 z hz
          split <;> omega
theorem RVs.pairs_inv : ∀ {xs : List PV} {vs : List V} {ps : List (Int × Int)}, RVs K mg ρ H xs vs → pairsP xs = some ps → DpAll K H vs (ps.map dP) ∧ ∀ (i : Nat) (p : Int × Int) (w : V), ps[i]? = some p → vs[i]? = some w → RV K mg ρ H (.tup [.int p.1, .int p.2]) w
  | _, _, _, .nil, e => by cases e; exact ⟨.nil, fun i p w h => by simp at h⟩
  | x :: xs, _, ps, .cons (v := v) (vs := vs) a b, e => by
    unfold pairsP at e
    split at e
    · rename_i h; cases h
    · rename_i c d xs' h
      cases h
      cases q : pairsP xs with
      | none => rw [q] at e; cases e
      | some qs =>
        rw [q] at e; cases e
        obtain ⟨h1, h2⟩ := RVs.pairs_inv b q
        have a' := a
        obtain ⟨ad, us, rfl, ha, hr⟩ := a.tup_inv
        cases hr with
        | cons r1 r2 =>
          cases r2 with
          | cons r2 r3 =>
            cases r3
            cases r1.int_inv; cases r2.int_inv
            refine ⟨.cons (.tup ha (.cons (.int c) (.cons (.int d) .nil))) h1, fun i p w hp hw => ?_⟩
            cases i with
            | zero => simp at hp hw; subst hp hw; exact a'
            | succ i => exact h2 i p w (by simpa using hp) (by simpa using hw)
    · cases e
theorem dataLt_dP (p q : Int × Int) : PySem.W.dataLt (dP p) (dP q) = ltP p q := PySem.W.dataLt_ii _ _ _ _
theorem minP_ix {ps : List (Int × Int)} {m : Int × Int} (h : minP ps = some m) : 0 < ps.length ∧ ps[minIx ps]? = some m := by
  cases ps with
  | nil => cases h
  | cons p ps =>
    refine ⟨by simp, ?_⟩
    have h' : ps.foldl (fun a y => if ltP y a = true then y else a) p = m := Option.some.inj h
    obtain ⟨e1, e2⟩ := PySem.W.argBest_fold (fun a b => ltP a b) (0, 0) p ps ps.length (Nat.le_refl _)
    rw [List.take_length, h'] at e2
    have e3 : minIx (p :: ps) = argBest (fun i j => ltP ((p :: ps).getD i (0, 0)) ((p :: ps).getD j (0, 0))) ps.length := by
      unfold minIx
      have : (p :: ps).length - 1 = ps.length := by simp
      rw [this]
      have key : ∀ k, k ≤ ps.length → argBest (fun i j => PySem.W.dataLt (((p :: ps).map dP).getD i .none) (((p :: ps).map dP).getD j .none)) k = argBest (fun i j => ltP ((p :: ps).getD i (0, 0)) ((p :: ps).getD j (0, 0))) k ∧ argBest (fun i j => ltP ((p :: ps).getD i (0, 0)) ((p :: ps).getD j (0, 0))) k ≤ k := by
        intro k
        induction k with
        | zero => exact fun _ => ⟨rfl, Nat.le_refl _⟩
        | succ k ih =>
          intro hk
          obtain ⟨i1, i2⟩ := ih (by omega)
          have gd : ∀ i, i ≤ ps.length → ((p :: ps).map dP).getD i .none = dP ((p :: ps).getD i (0, 0)) := fun i hi => by
            have hi' : i < (p :: ps).length := by simp; omega
            rw [List.getD_eq_getElem?_getD, List.getD_eq_getElem?_getD, List.getElem?_map, List.getElem?_eq_getElem hi']
            rfl
          have g1 := gd (k + 1) hk
          have g2 := gd (argBest (fun i j => ltP ((p :: ps).getD i (0, 0)) ((p :: ps).getD j (0, 0))) k) (by omega)
          unfold argBest
          rw [i1, g1, g2, dataLt_dP]
          exact ⟨rfl, by split <;> omega⟩
      exact (key ps.length (Nat.le_refl _)).1
    rw [e3]
    have hi' : argBest (fun i j => ltP ((p :: ps).getD i (0, 0)) ((p :: ps).getD j (0, 0))) ps.length < (p :: ps).length := Nat.lt_succ_of_le e1
    rw [List.getD_eq_getElem?_getD, List.getElem?_eq_getElem hi'] at e2
    rw [List.getElem?_eq_getElem hi']
    exact congrArg some e2
theorem bltV_ok (f : BI) {xs : List PV} {vs : List V} (S : SM K mg ρ H M) (rx : RVs K mg ρ H xs vs) (h : PostV K mg W ρ H (bltV f xs M) Q) : rBlt K f vs H Q := by
  unfold bltV at h
  split at h
  · obtain ⟨v, rfl, r⟩ := rx.one_inv
    cases r.str_inv
    split at h
    · rename_i c
      exact .inr ⟨_, rfl, c, h.here S (.int _)⟩
    · exact h.elim
  · obtain ⟨v, rfl, r⟩ := rx.one_inv
    obtain ⟨a, rfl, hi⟩ := r.ref_inv
    split at h
    · rename_i q
      obtain ⟨us, h1, h2⟩ := S.get hi q
      exact .inl ⟨a, us, rfl, .inl (.inl (.inl h1)), by rw [← h2.length]; exact h.here S (.int _)⟩
    · exact h.elim
  · obtain ⟨v, rfl, r⟩ := rx.one_inv
    obtain ⟨a, us, rfl, ha, hr⟩ := r.tup_inv
    exact .inl ⟨a, us, rfl, .inr ha, by rw [← hr.length]; exact h.here S (.int _)⟩
  · obtain ⟨v, rfl, r⟩ := rx.one_inv
    obtain ⟨a, us, rfl, ha, hr⟩ := r.rol_inv
    exact .inl ⟨a, us, rfl, .inl ha.sq, by rw [← hr.length]; exact h.here S (.int _)⟩
  · obtain ⟨v, rfl, r⟩ := rx.one_inv
    cases r.int_inv
    exact .inl (.inl ⟨_, rfl, h.here S (.int _)⟩)
  · obtain ⟨v, rfl, r⟩ := rx.one_inv
    cases r.bl_inv
    exact .inl (.inr ⟨_, rfl, h.here S (.int _)⟩)
  · obtain ⟨v, rfl, r⟩ := rx.one_inv
    cases r.str_inv
    split at h
    · rename_i n hn
      split at h
      · rename_i c
        exact .inr ⟨_, _, rfl, hn, c, h.here S (.int _)⟩
      · exact h.elim
    · exact h.elim
  · obtain ⟨v, rfl, r⟩ := rx.one_inv
    obtain ⟨a, us, rfl, ha, hr⟩ := r.tup_inv
    exact ⟨a, us, rfl, .inr ⟨ha, h.here S (.tup ha hr)⟩⟩
  · obtain ⟨v, rfl, r⟩ := rx.one_inv
    obtain ⟨a, us, rfl, ha, hr⟩ := r.rol_inv
    exact ⟨a, us, rfl, .inl ⟨ha.sq, Post.tup S hr h⟩⟩
  · obtain ⟨v, rfl, r⟩ := rx.one_inv
    split at h
    · rename_i q
      obtain ⟨a, us, rfl, hi, h1, h2⟩ := lst_read S r q
      exact ⟨a, us, rfl, .inl ⟨.inl (.inl h1), Post.tup S h2 h⟩⟩
    · exact h.elim
  · obtain ⟨v, rfl, r⟩ := rx.one_inv
    cases r.str_inv
    split at h
    · rename_i c
      exact .inr ⟨_, rfl, c, Post.alloc (o := .lst _) (ho := .lst _) S (RVs.of_signs _) h⟩
    · exact h.elim
  · obtain ⟨v, rfl, r⟩ := rx.one_inv
    split at h
    · rename_i q
      obtain ⟨a, us, rfl, hq, hr⟩ := seq_read S r q
      exact .inl ⟨a, us, rfl, hq, Post.alloc (o := .lst _) (ho := .lst _) S hr h⟩
    · exact h.elim
  · obtain ⟨v, rfl, r⟩ := rx.one_inv
    split at h
    · rename_i z q
      unfold reprV at q
      split at q
      · rename_i d hd
        split at q
        · rename_i c
          cases q
          exact ⟨v, d, rfl, dat_of S r hd, c.1, c.2.2.2, c.2.2.1, c.2.1, h.here S (.str _)⟩
        · cases q
      · cases q
    · exact h.elim
  · obtain ⟨v, rfl, r⟩ := rx.one_inv
    cases r.str_inv
    exact .inl ⟨_, rfl, h.here S (.str _)⟩
  · obtain ⟨v, rfl, r⟩ := rx.one_inv
    cases r.int_inv
    split at h
    · rename_i c
      exact .inr ⟨_, rfl, c, h.here S (.str _)⟩
    · exact h.elim
  · obtain ⟨v, rfl, r⟩ := rx.one_inv
    obtain ⟨a, us, rfl, ha, hr⟩ := r.tup_inv
    split at h
    · rename_i q2
      have e := hr.ints_inv q2
      subst e
      refine .inr ⟨a, _, rfl, ha, fun ns' p hp hs hn => ?_⟩
      rw [sortI_unique hp hs]
      exact Post.alloc (o := .lst _) (ho := .lst _) S (RVs.of_ints _) h p hn
    · exact h.elim
  · obtain ⟨v, rfl, r⟩ := rx.one_inv
    split at h
    · rename_i q
      split at h
      · rename_i q2
        obtain ⟨a, us, rfl, hi, h1, h2⟩ := lst_read S r q
        have e := h2.ints_inv q2
        subst e
        refine .inl ⟨a, _, rfl, .inl (.inl h1), fun ns' p hp hs hn => ?_⟩
        rw [sortI_unique hp hs]
        exact Post.alloc (o := .lst _) (ho := .lst _) S (RVs.of_ints _) h p hn
      · exact h.elim
    · exact h.elim
  · obtain ⟨v, w, rfl, r1, r2⟩ := rx.two_inv
    cases r1.int_inv; cases r2.int_inv
    exact .inl ⟨_, _, rfl, h.here S (.int _)⟩
  · obtain ⟨v, w, rfl, r1, r2⟩ := rx.two_inv
    cases r1.int_inv; cases r2.int_inv
    exact .inl ⟨_, _, rfl, h.here S (.int _)⟩
  · obtain ⟨v, rfl, r⟩ := rx.one_inv
    split at h
    · rename_i q
      split at h
      · rename_i q2
        split at h
        · rename_i m q3
          obtain ⟨a, us, rfl, hi, h1, h2⟩ := lst_read S r q
          have e := h2.ints_inv q2
          subst e
          obtain ⟨m1, m2⟩ := maxI_spec q3
          refine .inr ⟨a, _, rfl, .inl (.inl h1), List.length_pos_of_mem m1, fun k k1 k2 => ?_⟩
          have : k = m := Int.le_antisymm (m2 k k1) (k2 m m1)
          rw [this]
          exact h.here S (.int _)
        · exact h.elim
      · exact h.elim
    · exact h.elim
  · obtain ⟨v, rfl, r⟩ := rx.one_inv
    split at h
    · rename_i q
      split at h
      · rename_i q2
        split at h
        · rename_i m q3
          obtain ⟨a, us, rfl, hi, h1, h2⟩ := lst_read S r q
          have e := h2.ints_inv q2
          subst e
          obtain ⟨m1, m2⟩ := minI_spec q3
          refine .inr (.inl ⟨a, _, rfl, .inl (.inl h1), List.length_pos_of_mem m1, fun k k1 k2 => ?_⟩)
          have : k = m := Int.le_antisymm (k2 m m1) (m2 k k1)
          rw [this]
          exact h.here S (.int _)
        · exact h.elim
      · split at h
        · rename_i ps q2
          split at h
          · rename_i m q3
            obtain ⟨a, us, rfl, hi, h1, h2⟩ := lst_read S r q
            obtain ⟨h3, h4⟩ := RVs.pairs_inv h2 q2
            obtain ⟨h5, h6⟩ := minP_ix q3
            refine .inr (.inr ⟨a, us, ps, rfl, .inl (.inl h1), h3, h5, fun w hw => ?_⟩)
            exact h.here S (h4 _ _ _ h6 hw)
          · exact h.elim
        · exact h.elim
    · exact h.elim
  · obtain ⟨v, rfl, r⟩ := rx.one_inv
    split at h
    · rename_i q
      split at h
      · rename_i q2
        obtain ⟨a, us, rfl, hi, h1, h2⟩ := lst_read S r q
        have e := h2.bools_inv q2
        subst e
        exact ⟨a, _, rfl, .inl (.inl h1), h.here S (.bl _)⟩
      · exact h.elim
    · exact h.elim
  · obtain ⟨v, rfl, r⟩ := rx.one_inv
    split at h
    · rename_i q
      split at h
      · rename_i q2
        obtain ⟨a, us, rfl, hi, h1, h2⟩ := lst_read S r q
        have e := h2.bools_inv q2
        subst e
        exact ⟨a, _, rfl, .inl (.inl h1), h.here S (.bl _)⟩
      · exact h.elim
    · exact h.elim
  · obtain ⟨v, rfl, r⟩ := rx.one_inv
    split at h
    · rename_i q
      split at h
      · rename_i q2
        obtain ⟨a, us, rfl, hi, h1, h2⟩ := lst_read S r q
        have e := h2.ints_inv q2
        subst e
        exact ⟨a, _, rfl, .inl (.inl h1), h.here S (.int _)⟩
      · exact h.elim
    · exact h.elim
  · obtain ⟨v, rfl, r⟩ := rx.one_inv
    cases r.int_inv
    exact ⟨_, rfl, h.here S (.int _)⟩
  · obtain ⟨v, rfl, r⟩ := rx.one_inv
    cases r.str_inv
    split at h
    · rename_i c
      exact ⟨_, rfl, c, h.here S (.int _)⟩
    · exact h.elim
  · obtain ⟨v, w, rfl, r1, r2⟩ := rx.two_inv
    cases r1.int_inv
    cases r2.int_inv
    split at h
    · rename_i c
      exact ⟨_, _, rfl, c, Post.tup S (.cons (.int _) (.cons (.int _) .nil)) h⟩
    · exact h.elim
  · exact h.elim
end
end Ev

set_option Elab.async false
set_option linter.all false
set_option maxRecDepth 100000
set_option maxHeartbeats 4000000
/-! Ev6: a text and a code, place by place: are they alike? -/
namespace Ev
open PySem L2

structure CK where
  N : List Str
  sc : Scope
  all : Bool
  kw : Str → Option (List (Nat × List Str × List Nat))
def visB (sc : Scope) (x : Str) : Bool := match sc.names.lookup x with
  | some .local => true
  | some .cell => true
  | some .free => true
  | _ => false
def locB (k : CK) (x : Str) : Bool := match k.sc.names.lookup x with
  | some .local => true
  | some .cell => k.all
  | _ => false
def gloB (sc : Scope) (x : Str) : Bool := match sc.names.lookup x with
  | some .globalImplicit => !(x == ("__debug__" : Str))
  | _ => false
def okName (x : Str) : Bool := !(x == ("__debug__" : Str)) && !(x == ("__classdict__" : Str))
def isSet : Expr → Bool
  | .Set .. => true
  | _ => false
def isSlice : Expr → Bool
  | .Slice .. => true
  | _ => false
def isStar : Expr → Bool
  | .Starred .. => true
  | _ => false
def isComp : Expr → Bool
  | .ListComp .. => true
  | .SetComp .. => true
  | .DictComp .. => true
  | _ => false
def isCall : Expr → Bool
  | .Call .. => true
  | _ => false
/-- tests that are walked by their own form -/
def isTest : Expr → Bool
  | .UnaryOp .Not _ _ => true
  | .BoolOp .. => true
  | .IfExp .. => true
  | .Compare .. => true
  | _ => false
def MI.name : MI → Str
  | .append => "append" | .pop => "pop" | .popAt => "pop" | .extend => "extend"
def TM.name : TM → Str
  | .join => "join" | .partition => "partition" | .split => "split" | .upper => "upper" | .endswith => "endswith" | .startswith => "startswith"
def isTupT : Expr → Bool
  | .Tuple .. => true
  | _ => false
def clsNames : List String := ["int", "str", "bool", "tuple", "list", "dict"]

/-- targets -/
def chkG (k : CK) : CT → Expr → Bool
  | .nm i, e => match e with
    | .Name x _ => decide (k.N[i]? = some x) && locB k x
    | _ => false
  | .tp ts, e => match e with
    | .Tuple es _ _ => chkGs k ts es
    | _ => false
  | .nil, _ => false
  | .cons _ _, _ => false
where chkGs (k : CK) : CT → List Expr → Bool
  | .nil, es => match es with
    | [] => true
    | _ => false
  | .cons a r, es => match es with
    | e :: es => chkG k a e && chkGs k r es
    | [] => false
  | .nm _, _ => false
  | .tp _, _ => false

/-- the slots of a target -/
def ctSlots : CT → List Nat
  | .nm i => [i]
  | .tp ts => ctSlots ts
  | .nil => []
  | .cons a r => ctSlots a ++ ctSlots r
def chkD : CE → List (Option Expr) → Bool
  | .nil, [] => true
  | .cons (.str s) r, some (.Constant (.str t) _ _) :: es => decide (s = t) && chkD r es
  | .cons (.int s) r, some (.Constant (.int t) _ _) :: es => decide (s = t) && chkD r es
  | _, _ => false
def typeNames : List String → List Expr → Scope → Bool
  | [], [], _ => true
  | c :: cs, .Name x _ :: es, sc => decide (x = Str.ofString c) && gloB sc x && clsNames.contains c && typeNames cs es sc
  | _, _, _ => false

mutual
/-- t: is it a test? -/
def chkE : CE → Bool → CK → Expr → Bool
  | .var i, _, k, e => match e with
    | .Name x _ => decide (k.N[i]? = some x) && visB k.sc x && okName x
    | _ => false
  | .non, _, _, e => match e with
    | .Constant .none _ _ => true
    | _ => false
  | .bl b, _, _, e => match e with
    | .Constant (.bool c) _ _ => decide (b = c)
    | _ => false
  | .int i, _, _, e => match e with
    | .Constant (.int j) _ _ => decide (i = j)
    | _ => false
  | .str s, _, _, e => match e with
    | .Constant (.str t) _ _ => decide (s = t)
    | _ => false
  | .glo x, _, k, e => match e with
    | .Name y _ => decide (x = y) && gloB k.sc x
    | _ => false
  | .bin op a b, _, k, e => match e with
    | .BinOp l o r _ => decide (op = o) && chkE a false k l && chkE b false k r
    | _ => false
  | .neg a, _, k, e => match e with
    | .UnaryOp .USub x _ => chkE a false k x
    | _ => false
  | .not a, t, k, e => match e with
    | .UnaryOp .Not x _ => chkE a t k x
    | _ => false
  | .cmp op a b, _, k, e => match e with
    | .Compare l [o] [r] _ => decide (op = o) && !isSet r && chkE a false k l && chkE b false k r
    | _ => false
  | .chain op op' a b c, _, k, e => match e with
    | .Compare l [o, o'] [r, r'] _ => decide (op = o) && decide (op' = o') && !isSet r && !isSet r' && chkE a false k l && chkE b false k r && chkE c false k r'
    | _ => false
  | .and a b, t, k, e => match e with
    | .BoolOp .And (l :: r :: es) pos => chkE a t k l && (match es with
      | [] => chkE b t k r
      | _ :: _ => chkE b t k (.BoolOp .And (r :: es) pos))
    | _ => false
  | .or a b, t, k, e => match e with
    | .BoolOp .Or (l :: r :: es) pos => chkE a t k l && (match es with
      | [] => chkE b t k r
      | _ :: _ => chkE b t k (.BoolOp .Or (r :: es) pos))
    | _ => false
  | .ife c a b, t, k, e => match e with
    | .IfExp x l r _ => !t && chkE c true k x && chkE a false k l && chkE b false k r
    | _ => false
  | .tup as, _, k, e => match e with
    | .Tuple es _ _ => chkA as k es
    | _ => false
  | .lst as, _, k, e => match e with
    | .List es _ => chkA as k es
    | _ => false
  | .dct ks vs, _, k, e => match e with
    | .Dict ke ve _ => chkD ks ke && chkA vs k ve && decide (ke.length = ve.length) && !ke.isEmpty && decide (ke.length ≤ 15)
    | _ => false
  | .nil, _, _, _ => false
  | .cons _ _, _, _, _ => false
  | .sub a i, _, k, e => match e with
    | .Subscript o j _ => !isSlice j && chkE a false k o && chkE i false k j
    | _ => false
  | .no, _, _, _ => false
  | .slc a lo hi, _, k, e => match e with
    | .Subscript o (.Slice l h none _) _ => chkE a false k o && chkO lo k l && chkO hi k h
    | _ => false
  | .rev a, _, k, e => match e with
    | .Subscript o (.Slice none none (some (.UnaryOp .USub (.Constant (.int 1) _ _) _)) _) _ => chkE a false k o
    | _ => false
  | .isi a ts many, _, k, e => match e with
    | .Call (.Name f _) [x, t] [] _ => decide (f = ("isinstance" : Str)) && gloB k.sc f && chkE a false k x && (match many, t with
      | true, .Tuple es _ _ => decide (ts.length ≤ sizeLine) && typeNames ts es k.sc
      | false, t => decide (ts.length = 1) && typeNames ts [t] k.sc
      | _, _ => false)
    | _ => false
  | .call f as, _, k, e => match e with
    | .Call (.Name g _) es [] _ => decide (f = g) && gloB k.sc f && chkA as k es && (k.kw f).isSome
    | _ => false
  | .callk f n as ks kws perm, _, k, e => match e with
    | .Call (.Name g _) es ws _ => decide (f = g) && gloB k.sc f && chkA as k es && chkK kws ks k ws && decide (n = es.length) && !ws.isEmpty && (match k.kw f with | some l => decide ((n, ks, perm) ∈ l) | none => false)
    | _ => false
  | .blt f as, _, k, e => match e with
    | .Call (.Name g _) (x :: es) [] _ => decide (f.name = g) && gloB k.sc g && chkA as k (x :: es)
    | _ => false
  | .meth m o as, _, k, e => match e with
    | .Call (.Attribute x n ap) es [] cp => decide (m.name = n) && (ap.endLine == cp.line) && !isCall x && chkE o false k x && chkA as k es && decide (es.length < 30) && (match m, es with
      | .pop, [] => true
      | .pop, _ => false
      | _, [] => false
      | _, _ => true)
    | _ => false
  | .comp t it ifs elt own, _, k, e => match e with
    | .ListComp x [⟨tg, iter, tests, a⟩] sc _ => decide (a = 0) && (match own.mapM fun i => (k.N[i]?).map fun x => (x, i) with
        | some ow => blkC k.N k.sc sc ow && decide (ow.map (·.2) = own)
        | none => false) && !isSet iter && chkI it k tg iter && chkG ⟨k.N, relS sc k.sc, false, k.kw⟩ t tg && chkTs ifs ⟨k.N, relS sc k.sc, false, k.kw⟩ tests && chkE elt false ⟨k.N, relS sc k.sc, false, k.kw⟩ x && (ctSlots t).all own.contains
    | _ => false
  | .iv _, _, _, _ => false
  | .irg1 _, _, _, _ => false
  | .irg2 _ _, _, _, _ => false
  | .ienum _, _, _, _ => false
  | .izip _ _, _, _, _ => false
  | .lenset a, _, k, e => match e with
    | .Call (.Name f _) [.Call (.Name g _) [x] [] _] [] _ => decide (f = ("len" : Str)) && decide (g = ("set" : Str)) && gloB k.sc f && gloB k.sc g && chkE a false k x
    | _ => false
  | .smeth m o as, _, k, e => match e with
    | .Call (.Attribute x n ap) es [] cp => decide (m.name = n) && (ap.endLine == cp.line) && !isCall x && chkE o false k x && chkA as k es && (match m, es with
      | .upper, [] => true
      | .upper, _ => false
      | _, [_] => true
      | _, _ => false)
    | _ => false
  | .fstr as, _, k, e => match e with
    | .JoinedStr es _ => chkA as k es && decide (2 ≤ es.length)
    | _ => false
  | .fmt a, _, k, e => match e with
    | .FormattedValue x c none _ => decide (c = -1) && chkE a false k x
    | _ => false
def chkA : CE → CK → List Expr → Bool
  | .nil, _, es => match es with
    | [] => true
    | _ => false
  | .cons a r, k, es => match es with
    | x :: es => chkE a false k x && chkA r k es
    | [] => false
  | _, _, _ => false
/-- keywords -/
def chkK : CE → List Str → CK → List Keyword → Bool
  | .nil, ks, _, ws => match ks, ws with
    | [], [] => true
    | _, _ => false
  | .cons a r, ks, k, ws => match ks, ws with
    | n :: ks, ⟨nm, x, _⟩ :: ws => decide (nm = some n) && chkE a false k x && chkK r ks k ws
    | _, _ => false
  | _, _, _, _ => false
def chkTs : CE → CK → List Expr → Bool
  | .nil, _, es => match es with
    | [] => true
    | _ => false
  | .cons a .nil, k, es => match es with
    | [x] => chkE a true k x
    | _ => false
  | _, _, _ => false
def chkO : CE → CK → Option Expr → Bool
  | .no, _, e => match e with
    | none => true
    | _ => false
  | .cons a .nil, k, e => match e with
    | some x => chkE a false k x
    | none => false
  | _, _, _ => false
def chkI : CE → CK → Expr → Expr → Bool
  | .iv e, k, _, x => chkE e false k x
  | .ienum a, k, tg, e => match e with
    | .Call (.Name f _) [x] [] _ => isTupT tg && decide (f = ("enumerate" : Str)) && gloB k.sc f && chkE a false k x
    | _ => false
  | .izip a b, k, tg, e => match e with
    | .Call (.Name f _) [x, y] [] _ => isTupT tg && decide (f = ("zip" : Str)) && gloB k.sc f && chkE a false k x && chkE b false k y
    | _ => false
  | .irg1 a, k, _, e => match e with
    | .Call (.Name f _) [x] [] _ => decide (f = ("range" : Str)) && gloB k.sc f && chkE a false k x
    | _ => false
  | .irg2 a b, k, _, e => match e with
    | .Call (.Name f _) [x, y] [] _ => decide (f = ("range" : Str)) && gloB k.sc f && chkE a false k x && chkE b false k y
    | _ => false
  | _, _, _, _ => false
end
/-! ### what hangs on a text's form alone -/
theorem star_ne {e : Expr} (h : isStar e = false) (es : List Expr) (env : PySem.Env) : starEach (e :: es) env = (false, eval e env) :: starEach es env := by
  cases e <;> first | rfl | cases h
theorem chkE_star {c : CE} {t : Bool} {k : CK} {e : Expr} (h : chkE c t k e = true) : isStar e = false := by
  cases e <;> first | rfl | (exfalso; cases c <;> simp [chkE] at h)
theorem behind_ne {op : CmpOp} {e : Expr} (h : isSet e = false) : behindInMarks op e = false := by
  cases e <;> first | rfl | cases h
theorem folded_ne {e : Expr} (h : isSet e = false) (env : PySem.Env) (x : Value) : foldedSetIterable e env x = pure x := by
  cases e <;> first | rfl | cases h
theorem plain_ix {e : Expr} (h : isSlice e = false) (ov iv : Value) : subscripted e false ov iv = operate [ov, iv] (getItem ov iv) := by
  cases e <;> first | rfl | cases h
theorem attr_ne {e : Expr} (h : isCall e = false) (f : Str) (env : PySem.Env) : attributeBase e f env (eval e env) = eval e env := by
  cases e <;> first | rfl | cases h
theorem swaps_ne {e : Expr} (h : isComp e = false) (tg : Option Expr) (l : Nat) (env : PySem.Env) : swapsWith e tg l env = pure false := by
  cases e <;> first | rfl | cases h
theorem test_ne {e : Expr} (h : isTest e = false) (env : PySem.Env) (whole : Sem Value) : isTrue e env whole = (do let v ← whole; standAt e.pos; holding [v] (truthy v)) := by
  cases e with
  | UnaryOp op x p => cases op <;> first | rfl | cases h
  | _ => first | rfl | cases h
/-- no star in a list of arguments -/
def noStar (es : List Expr) : Bool := es.all fun e => !isStar e
theorem any_star (pos : Pos) (env : PySem.Env) : ∀ {es : List Expr}, noStar es = true → (backTo pos (starEach es env)).any (·.1) = false
  | [], _ => rfl
  | e :: es, h => by
    have h2 := List.all_eq_true.mp h
    have h1 : isStar e = false := by simpa using h2 e List.mem_cons_self
    have h3 : noStar es = true := List.all_eq_true.mpr fun x hx => h2 x (List.mem_cons_of_mem _ hx)
    rw [star_ne h1]
    show (false || (backTo pos (starEach es env)).any (·.1)) = false
    rw [any_star pos env h3]; rfl
theorem all_star (pos : Pos) (env : PySem.Env) : ∀ {es : List Expr}, noStar es = true → (backTo pos (starEach es env)).all (fun x => !x.1) = true
  | [], _ => rfl
  | e :: es, h => by
    have h2 := List.all_eq_true.mp h
    have h1 : isStar e = false := by simpa using h2 e List.mem_cons_self
    have h3 : noStar es = true := List.all_eq_true.mpr fun x hx => h2 x (List.mem_cons_of_mem _ hx)
    rw [star_ne h1]
    show (true && (backTo pos (starEach es env)).all (fun x => !x.1)) = true
    rw [all_star pos env h3]; rfl
theorem chkA_star : ∀ {c : CE} {k : CK} {es : List Expr}, chkA c k es = true → noStar es = true
  | .nil, _, es, h => by
    cases es with
    | nil => rfl
    | cons _ _ => simp [chkA] at h
  | .cons a r, k, es, h => by
    cases es with
    | nil => simp [chkA] at h
    | cons x es =>
      simp only [chkA, Bool.and_eq_true] at h
      have h1 := chkE_star h.1
      have h2 := chkA_star h.2
      unfold noStar at h2 ⊢
      rw [List.all_cons, h1, h2]; rfl
  | .var _, _, _, h | .non, _, _, h | .bl _, _, _, h | .int _, _, _, h | .str _, _, _, h | .glo _, _, _, h | .bin _ _ _, _, _, h | .neg _, _, _, h | .not _, _, _, h | .cmp _ _ _, _, _, h | .chain _ _ _ _ _, _, _, h
  | .and _ _, _, _, h | .or _ _, _, _, h | .ife _ _ _, _, _, h | .tup _, _, _, h | .lst _, _, _, h | .dct _ _, _, _, h | .sub _ _, _, _, h | .no, _, _, h | .slc _ _ _, _, _, h | .rev _, _, _, h | .isi _ _ _, _, _, h
  | .call _ _, _, _, h | .callk _ _ _ _ _ _, _, _, h | .blt _ _, _, _, h | .meth _ _ _, _, _, h | .comp _ _ _ _ _, _, _, h | .iv _, _, _, h | .irg1 _, _, _, h | .irg2 _ _, _, _, h
  | .ienum _, _, _, h | .izip _ _, _, _, h | .lenset _, _, _, h | .smeth _ _ _, _, _, h | .fstr _, _, _, h | .fmt _, _, _, h => by simp [chkA] at h
end Ev

set_option Elab.async false
set_option linter.all false
set_option maxRecDepth 100000
set_option maxHeartbeats 4000000
/-! Ev7: the text's expressions do what the code says, form by form. -/
namespace Ev
open PySem L2

theorem PE.weak {X : Cx} {e : Expr} {t t' : TE} (h : PE X e t) (k : ∀ σ H Q, t' σ H Q → t σ H Q) : PE X e t' := ⟨fun pins s σ H Q I q => h.run pins s σ H Q I (k σ H Q q)⟩
theorem PT.weak {X : Cx} {e : Expr} {t t' : TT} (h : PT X e t) (k : ∀ σ H Q, t' σ H Q → t σ H Q) : PT X e t' := ⟨fun pins s σ H Q I q => h.run pins s σ H Q I (k σ H Q q)⟩
theorem PE.or {X : Cx} {e : Expr} {t t' : TE} (h : PE X e t) (h' : PE X e t') : PE X e (fun σ H Q => t σ H Q ∨ t' σ H Q) := ⟨fun pins s σ H Q I q => q.elim (h.run pins s σ H Q I) (h'.run pins s σ H Q I)⟩

/-- a reading, lifted -/
def lR {α β : Type} (X : Cx) (R : List Addr → Hp → α → β → Prop) (W : WX) (r : Env → Sto → Res α) : St → Hp → (β → Hp → Prop) → Prop := fun σ H Q =>
  ∃ ρ env M, SM X.K X.mg ρ H M ∧ RE X.K X.mg ρ H env σ ∧ Post X.K X.mg R (fun c d H' => W c d σ H') ρ H (r env M) Q
abbrev lE (X : Cx) (W : WX) (r : Env → Sto → Res PV) : TE := lR X (RV X.K X.mg) W r
abbrev lA (X : Cx) (W : WX) (r : Env → Sto → Res (List PV)) : TA := lR X (RVs X.K X.mg) W r
abbrev eqR {α : Type} : List Addr → Hp → α → α → Prop := fun _ _ a b => a = b
abbrev lB (X : Cx) (W : WX) (r : Env → Sto → Res Bool) : TT := lR X eqR W r
abbrev lO (X : Cx) (W : WX) (r : Env → Sto → Res (Option Int)) : TO := lR X eqR W r
/-- the truth of a value -/
def truR (r : Env → Sto → Res PV) : Env → Sto → Res Bool := fun env M => (r env M).bind fun x M1 => Res.of (truV M1 x) M1
abbrev lT (X : Cx) (W : WX) (r : Env → Sto → Res PV) : TT := lB X W (truR r)

section
variable {α β γ δ ε : Type} {X : Cx} {R : List Addr → Hp → α → β → Prop} {R1 : List Addr → Hp → γ → δ → Prop} {W : WX} {σ : St} {H : Hp} {Q : β → Hp → Prop}
/-- one step, then the rest -/
theorem lR.chain {r : Env → Sto → Res γ} {f : Env → γ → Sto → Res α} {Q1 : δ → Hp → Prop} (h : lR X R W (fun env M => (r env M).bind (f env)) σ H Q)
    (k : ∀ ρ env M x M1 ρ1 v H1, SM X.K X.mg ρ H M → RE X.K X.mg ρ H env σ → Ext ρ H ρ1 H1 → SM X.K X.mg ρ1 H1 M1 → RE X.K X.mg ρ1 H1 env σ → R1 ρ1 H1 x v → Post X.K X.mg R (fun c d H' => W c d σ H') ρ1 H1 (f env x M1) Q → Q1 v H1) : lR X R1 W r σ H Q1 := by
  obtain ⟨ρ, env, M, S, E, h⟩ := h
  exact ⟨ρ, env, M, S, E, h.chain fun x M1 ρ1 v H1 e1 S1 r1 h1 => k ρ env M x M1 ρ1 v H1 S E e1 S1 (E.mono S e1) r1 h1⟩
end
section
variable {α β : Type} {K : PySem.W.Frag} {mg : Str → Option Value} {R : List Addr → Hp → α → β → Prop} {W : XK} {ρ ρ1 : List Addr} {H H1 : Hp} {Q : β → Hp → Prop}
theorem Post.at {r : Res α} (h : Post K mg R W ρ H r Q) (E : Ext ρ H ρ1 H1) : Post K mg R W ρ1 H1 r Q := by
  cases r with
  | ok x M => exact fun ρ2 v H2 e2 => h ρ2 v H2 (E.trans e2)
  | exc x M => exact fun ρ2 H2 c d e2 => h ρ2 H2 c d (E.trans e2)
  | bad => exact h
/-- a value's truth, then one of two ways -/
theorem Post.test {r : Res PV} {f g : PV → Sto → Res α} {Q1 : Bool → Hp → Prop} (h : Post K mg R W ρ H (r.bind fun x M1 => match truV M1 x with | some true => f x M1 | some false => g x M1 | none => .bad) Q)
    (k : ∀ b x M1 ρ1 H1, Ext ρ H ρ1 H1 → SM K mg ρ1 H1 M1 → truV M1 x = some b → Post K mg R W ρ1 H1 (if b = true then f x M1 else g x M1) Q → Q1 b H1) :
    Post K mg eqR W ρ H (r.bind fun x M1 => Res.of (truV M1 x) M1) Q1 := by
  cases r with
  | bad => exact h
  | exc x M1 => exact h
  | ok x M1 =>
    show Post K mg eqR W ρ H (Res.of (truV M1 x) M1) Q1
    have h' : Post K mg R W ρ H (match truV M1 x with | some true => f x M1 | some false => g x M1 | none => .bad) Q := h
    cases q : truV M1 x with
    | none => rw [q] at h'; exact h'.elim
    | some b =>
      rw [q] at h'
      intro ρ1 v H1 e1 S1 r1
      cases r1
      refine k b x M1 ρ1 H1 e1 S1 q ?_
      cases b with
      | true => exact h'.at e1
      | false => exact h'.at e1
end
theorem Res.bind_assoc {α β γ : Type} (r : Res α) (f : α → Sto → Res β) (g : β → Sto → Res γ) : (r.bind f).bind g = r.bind fun x M => (f x M).bind g := by cases r <;> rfl
theorem truR_bind {α : Type} (ra : Env → Sto → Res α) (f : Env → α → Sto → Res PV) : truR (fun env M => (ra env M).bind (f env)) = fun env M => (ra env M).bind fun x M1 => (f env x M1).bind fun y M2 => Res.of (truV M2 y) M2 := by
  funext env M
  exact Res.bind_assoc _ _ _
section
variable {X : Cx} {W : WX} {a b c e : Expr} {es : List Expr} {pos p : Pos} {ra rb rc : Env → Sto → Res PV} {rs : Env → Sto → Res (List PV)}
theorem s_var {i : Nat} {x : Str} (hN : X.N[i]? = some x) (hv : Vis X.env.scope x) (hd : (x == ("__debug__" : Str)) = false) (hc : (x == ("__classdict__" : Str)) = false) :
    PE X (.Name x pos) (lE X W fun env M => match env[i]? with | some (some v) => .ok v M | _ => .bad) := by
  refine PE.weak (pe_var hN hv hd hc) fun σ H Q h => ?_
  obtain ⟨ρ, env, M, S, E, h⟩ := h
  dsimp only at h
  cases q : env[i]? with
  | none => rw [q] at h; exact h.elim
  | some o =>
    cases o with
    | none => rw [q] at h; exact h.elim
    | some v =>
      rw [q] at h
      obtain ⟨w, h1, h2⟩ := E.get q
      exact ⟨w, h1, h.here S h2⟩
theorem s_const {x : PV} {v : V} (h : PE X e (tC v)) (r : ∀ ρ H, RV X.K X.mg ρ H x v) : PE X e (lE X W fun _ M => .ok x M) := by
  refine PE.weak h fun σ H Q h => ?_
  obtain ⟨ρ, env, M, S, E, h⟩ := h
  exact h.here S (r _ _)
theorem s_bin {op : Operator} (ha : PE X a (lE X W ra)) (hb : PE X b (lE X W rb)) : PE X (.BinOp a op b pos) (lE X W fun env M => (ra env M).bind fun x M1 => (rb env M1).bind fun y M2 => binV op x y M2) := by
  refine PE.weak (pe_op (op_bin op) ha hb) fun σ H Q h => ?_
  refine lR.chain h fun ρ env M x M1 ρ1 v H1 S E e1 S1 E1 r1 h1 => ?_
  exact ⟨ρ1, env, M1, S1, E1, h1.chain fun y M2 ρ2 w H2 e2 S2 r2 h2 => binV_ok op S2 (r1.mono S1 e2) r2 h2⟩
theorem s_neg (ha : PE X a (lE X W ra)) : PE X (.UnaryOp .USub a pos) (lE X W fun env M => (ra env M).bind fun x M1 => match x with | .int i => .ok (.int (-i)) M1 | _ => .bad) := by
  refine PE.weak (pe_un un_neg ha) fun σ H Q h => ?_
  refine lR.chain h fun ρ env M x M1 ρ1 v H1 S E e1 S1 E1 r1 h1 => ?_
  cases x <;> first | exact h1.elim | skip
  cases r1.int_inv
  exact ⟨_, rfl, h1.here S1 (.int _)⟩
theorem s_not (ha : PE X a (lE X W ra)) : PE X (.UnaryOp .Not a pos) (lE X W fun env M => (ra env M).bind fun x M1 => Res.of ((truV M1 x).map fun b => .bl (!b)) M1) := by
  refine PE.weak (pe_notT ha) fun σ H Q h => ?_
  refine lR.chain h fun ρ env M x M1 ρ1 v H1 S E e1 S1 E1 r1 h1 => ?_
  cases q : truV M1 x with
  | none => rw [q] at h1; exact h1.elim
  | some k =>
    rw [q] at h1
    exact ⟨k, truV_ok S1 r1 q, h1.here S1 (.bl _)⟩
/-- a comparison's answer -/
def cmpR (op : CmpOp) (ra rb : Env → Sto → Res PV) : Env → Sto → Res PV := fun env M => (ra env M).bind fun x M1 => (rb env M1).bind fun y M2 => Res.of ((cmpV op x y M2).map .bl) M2
theorem of_cmp {K : PySem.W.Frag} {mg : Str → Option Value} {ρ : List Addr} {H : Hp} {WW : XK} {M : Sto} {Q : VK} {o : Option Bool} (S : SM K mg ρ H M) (h : PostV K mg WW ρ H (Res.of (o.map .bl) M) Q) : ∃ k, o = some k ∧ Q (.bl k) H := by
  cases o with
  | none => exact h.elim
  | some k => exact ⟨k, rfl, Post.here (x := PV.bl k) S (.bl k) h⟩
theorem s_cmp {op : CmpOp} (hu : X.A.units + 64 < cLine) (ha : PE X a (lE X W ra)) (hb : PE X b (lE X W rb)) (hs : isSet b = false) : PE X (.Compare a [op] [b] pos) (lE X W (cmpR op ra rb)) := by
  refine PE.weak (pe_cmpR (op_cmp hu op) ha hb (behind_ne hs)) fun σ H Q h => ?_
  refine lR.chain h fun ρ env M x M1 ρ1 v H1 S E e1 S1 E1 r1 h1 => ?_
  refine ⟨ρ1, env, M1, S1, E1, h1.chain fun y M2 ρ2 w H2 e2 S2 r2 h2 => ?_⟩
  obtain ⟨k, q, hk⟩ := of_cmp S2 h2
  exact cmpV_ok op S2 (r1.mono S1 e2) r2 q hk
/-- the truth of an answer that is True or False -/
theorem truR_bl {K : PySem.W.Frag} {mg : Str → Option Value} {ρ : List Addr} {H : Hp} {WW : XK} {M : Sto} {Q : Bool → Hp → Prop} {o : Option Bool} (S : SM K mg ρ H M)
    (h : Post K mg eqR WW ρ H ((Res.of (o.map PV.bl) M).bind fun x M1 => Res.of (truV M1 x) M1) Q) : ∃ k, o = some k ∧ Q k H := by
  cases o with
  | none => exact h.elim
  | some k => exact ⟨k, rfl, Post.here (x := k) (v := k) S rfl h⟩
theorem t_cmp {op : CmpOp} (hu : X.A.units + 64 < cLine) (ha : PE X a (lE X W ra)) (hb : PE X b (lE X W rb)) (hs : isSet b = false) : PT X (.Compare a [op] [b] pos) (lT X W (cmpR op ra rb)) := by
  refine PT.weak (pt_cmpR (op_cmp hu op) ha hb (behind_ne hs)) fun σ H Q h => ?_
  unfold cmpR at h
  rw [lT, truR_bind] at h
  refine lR.chain h fun ρ env M x M1 ρ1 v H1 S E e1 S1 E1 r1 h1 => ?_
  rw [Res.bind_assoc] at h1
  refine ⟨ρ1, env, M1, S1, E1, h1.chain fun y M2 ρ2 w H2 e2 S2 r2 h2 => ?_⟩
  obtain ⟨k, q, hk⟩ := truR_bl S2 h2
  exact cmpV_ok op S2 (r1.mono S1 e2) r2 q ⟨k, rfl, hk⟩
def chainR (op op' : CmpOp) (ra rb rc : Env → Sto → Res PV) : Env → Sto → Res PV := fun env M => (ra env M).bind fun x M1 => (rb env M1).bind fun y M2 => match cmpV op x y M2 with
    | some true => (rc env M2).bind fun z M3 => Res.of ((cmpV op' y z M3).map .bl) M3
    | some false => .ok (.bl false) M2
    | none => .bad
theorem last_ne {op op' : CmpOp} {b c : Expr} (h : isSet c = false) : lastMarks [op, op'] [b, c] = false := by
  show lastMarks [op'] [c] = false
  exact behind_ne h
theorem s_chain {op op' : CmpOp} (hu : X.A.units + 64 < cLine) (ha : PE X a (lE X W ra)) (hb : PE X b (lE X W rb)) (hc : PE X c (lE X W rc)) (hs : isSet c = false) :
    PE X (.Compare a [op, op'] [b, c] pos) (lE X W (chainR op op' ra rb rc)) := by
  refine PE.weak (pe_chain (op_cmp hu op) (op_cmp hu op') ha hb hc (last_ne hs)) fun σ H Q h => ?_
  refine lR.chain h fun ρ env M x M1 ρ1 v H1 S E e1 S1 E1 r1 h1 => ?_
  refine ⟨ρ1, env, M1, S1, E1, h1.chain fun y M2 ρ2 w H2 e2 S2 r2 h2 => ?_⟩
  cases q : cmpV op x y M2 with
  | none => rw [q] at h2; exact h2.elim
  | some k =>
    rw [q] at h2
    refine cmpV_ok op S2 (r1.mono S1 e2) r2 q ⟨k, rfl, ?_⟩
    cases k with
    | true =>
      rw [if_pos rfl]
      refine ⟨ρ2, env, M2, S2, E1.mono S1 e2, Post.chain h2 fun z M3 ρ3 u H3 e3 S3 r3 h3 => ?_⟩
      obtain ⟨k, q3, hk⟩ := of_cmp S3 h3
      exact cmpV_ok op' S3 (r2.mono S2 e3) r3 q3 hk
    | false =>
      rw [if_neg Bool.false_ne_true]
      exact h2.here S2 (.bl _)
theorem t_chain {op op' : CmpOp} (hu : X.A.units + 64 < cLine) (ha : PE X a (lE X W ra)) (hb : PE X b (lE X W rb)) (hc : PE X c (lE X W rc)) (hs : isSet c = false) :
    PT X (.Compare a [op, op'] [b, c] pos) (lT X W (chainR op op' ra rb rc)) := by
  refine PT.weak (pt_chain (op_cmp hu op) (op_cmp hu op') ha hb hc (last_ne hs)) fun σ H Q h => ?_
  unfold chainR at h
  rw [lT, truR_bind] at h
  refine lR.chain h fun ρ env M x M1 ρ1 v H1 S E e1 S1 E1 r1 h1 => ?_
  rw [Res.bind_assoc] at h1
  refine ⟨ρ1, env, M1, S1, E1, h1.chain fun y M2 ρ2 w H2 e2 S2 r2 h2 => ?_⟩
  cases q : cmpV op x y M2 with
  | none => rw [q] at h2; exact h2.elim
  | some k =>
    rw [q] at h2
    refine cmpV_ok op S2 (r1.mono S1 e2) r2 q ⟨k, rfl, ?_⟩
    cases k with
    | true =>
      rw [if_pos rfl]
      have h2 : Post _ _ _ _ _ _ (((rc env M2).bind fun z M3 => Res.of ((cmpV op' y z M3).map .bl) M3).bind fun y M2 => Res.of (truV M2 y) M2) _ := h2
      rw [Res.bind_assoc] at h2
      refine ⟨ρ2, env, M2, S2, E1.mono S1 e2, Post.chain h2 fun z M3 ρ3 u H3 e3 S3 r3 h3 => ?_⟩
      obtain ⟨k, q3, hk⟩ := truR_bl S3 h3
      exact cmpV_ok op' S3 (r2.mono S2 e3) r3 q3 ⟨k, rfl, hk⟩
    | false =>
      rw [if_neg Bool.false_ne_true]
      exact ⟨false, rfl, Post.here (x := false) (v := false) S2 rfl h2⟩
theorem t_val (ha : PE X a (lE X W ra)) (h : isTest a = false) : PT X a (lT X W ra) := by
  refine PT.weak (pt_truth ha (test_ne h _)) fun σ H Q h => ?_
  refine lR.chain h fun ρ env M x M1 ρ1 v H1 S E e1 S1 E1 r1 h1 => ?_
  cases q : truV M1 x with
  | none => rw [q] at h1; exact h1.elim
  | some k =>
    rw [q] at h1
    exact ⟨k, truV_ok S1 r1 q, h1.here S1 rfl⟩
def andR (ra rb : Env → Sto → Res PV) : Env → Sto → Res PV := fun env M => (ra env M).bind fun x M1 => match truV M1 x with
    | some true => rb env M1
    | some false => .ok x M1
    | none => .bad
def orR (ra rb : Env → Sto → Res PV) : Env → Sto → Res PV := fun env M => (ra env M).bind fun x M1 => match truV M1 x with
    | some true => .ok x M1
    | some false => rb env M1
    | none => .bad
theorem s_and (ha : PE X a (lE X W ra)) (hb : PE X (.BoolOp .And (b :: es) pos) (lE X W rb)) : PE X (.BoolOp .And (a :: b :: es) pos) (lE X W (andR ra rb)) := by
  refine PE.weak (pe_andT ha hb) fun σ H Q h => ?_
  refine lR.chain h fun ρ env M x M1 ρ1 v H1 S E e1 S1 E1 r1 h1 => ?_
  cases q : truV M1 x with
  | none => rw [q] at h1; exact h1.elim
  | some k =>
    rw [q] at h1
    refine ⟨k, truV_ok S1 r1 q, ?_⟩
    cases k with
    | true => exact iteT ⟨ρ1, env, M1, S1, E1, h1⟩
    | false => exact iteF (h1.here S1 r1)
theorem s_or (ha : PE X a (lE X W ra)) (hb : PE X (.BoolOp .Or (b :: es) pos) (lE X W rb)) : PE X (.BoolOp .Or (a :: b :: es) pos) (lE X W (orR ra rb)) := by
  refine PE.weak (pe_orT ha hb) fun σ H Q h => ?_
  refine lR.chain h fun ρ env M x M1 ρ1 v H1 S E e1 S1 E1 r1 h1 => ?_
  cases q : truV M1 x with
  | none => rw [q] at h1; exact h1.elim
  | some k =>
    rw [q] at h1
    refine ⟨k, truV_ok S1 r1 q, ?_⟩
    cases k with
    | true => exact iteT (h1.here S1 r1)
    | false => exact iteF ⟨ρ1, env, M1, S1, E1, h1⟩
theorem s_one {op : BoolOp} (ha : PE X a (lE X W ra)) : PE X (.BoolOp op [a] pos) (lE X W ra) := pe_one ha
/-- tests by their own form, whatever the whole is -/
theorem truR_and : truR (andR ra rb) = fun env M => (ra env M).bind fun x M1 => match truV M1 x with
    | some true => truR rb env M1
    | some false => .ok false M1
    | none => .bad := by
  funext env M
  unfold truR andR
  rw [Res.bind_assoc]
  congr 1
  funext x M1
  cases q : truV M1 x with
  | none => rfl
  | some k =>
    cases k with
    | true => rfl
    | false => show Res.of (truV M1 x) M1 = _; rw [q]; rfl
theorem truR_or : truR (orR ra rb) = fun env M => (ra env M).bind fun x M1 => match truV M1 x with
    | some true => .ok true M1
    | some false => truR rb env M1
    | none => .bad := by
  funext env M
  unfold truR orR
  rw [Res.bind_assoc]
  congr 1
  funext x M1
  cases q : truV M1 x with
  | none => rfl
  | some k =>
    cases k with
    | false => rfl
    | true => show Res.of (truV M1 x) M1 = _; rw [q]; rfl
theorem w_and (ha : PT X a (lT X W ra)) (hb : PW X (.BoolOp .And (b :: es) pos) (lT X W rb)) : PW X (.BoolOp .And (a :: b :: es) pos) (lT X W (andR ra rb)) := by
  refine ⟨fun wh pins s σ H Q I h => (pw_and ha hb).run wh pins s σ H Q I ?_⟩
  rw [lT, truR_and] at h
  obtain ⟨ρ, env, M, S, E, h⟩ := h
  refine ⟨ρ, env, M, S, E, h.test fun k x M1 ρ1 H1 e1 S1 q h1 => ?_⟩
  cases k with
  | true => exact iteT ⟨ρ1, env, M1, S1, E.mono S e1, h1⟩
  | false => exact iteF (Post.here (x := false) (v := false) S1 rfl h1)
theorem w_or (ha : PT X a (lT X W ra)) (hb : PW X (.BoolOp .Or (b :: es) pos) (lT X W rb)) : PW X (.BoolOp .Or (a :: b :: es) pos) (lT X W (orR ra rb)) := by
  refine ⟨fun wh pins s σ H Q I h => (pw_or ha hb).run wh pins s σ H Q I ?_⟩
  rw [lT, truR_or] at h
  obtain ⟨ρ, env, M, S, E, h⟩ := h
  refine ⟨ρ, env, M, S, E, h.test fun k x M1 ρ1 H1 e1 S1 q h1 => ?_⟩
  cases k with
  | true => exact iteT (Post.here (x := true) (v := true) S1 rfl h1)
  | false => exact iteF ⟨ρ1, env, M1, S1, E.mono S e1, h1⟩
theorem w_and1 (ha : PT X a (lT X W ra)) : PW X (.BoolOp .And [a] pos) (lT X W ra) := pw_and1 ha
theorem w_or1 (ha : PT X a (lT X W ra)) : PW X (.BoolOp .Or [a] pos) (lT X W ra) := pw_or1 ha
def notR (ra : Env → Sto → Res PV) : Env → Sto → Res PV := fun env M => (ra env M).bind fun x M1 => Res.of ((truV M1 x).map fun b => .bl (!b)) M1
theorem truR_not : truR (notR ra) = fun env M => (ra env M).bind fun x M1 => match truV M1 x with
    | some true => .ok false M1
    | some false => .ok true M1
    | none => .bad := by
  funext env M
  unfold truR notR
  rw [Res.bind_assoc]
  congr 1
  funext x M1
  cases q : truV M1 x with
  | none => rfl
  | some k => cases k <;> rfl
theorem t_not (ha : PT X a (lT X W ra)) : PT X (.UnaryOp .Not a pos) (lT X W (notR ra)) := by
  refine PT.weak (pt_not ha) fun σ H Q h => ?_
  rw [lT, truR_not] at h
  obtain ⟨ρ, env, M, S, E, h⟩ := h
  refine ⟨ρ, env, M, S, E, h.test fun k x M1 ρ1 H1 e1 S1 q h1 => ?_⟩
  cases k with
  | true => exact Post.here (x := false) (v := false) S1 rfl h1
  | false => exact Post.here (x := true) (v := true) S1 rfl h1
theorem s_ife (hc : PT X c (lT X W rc)) (ha : PE X a (lE X W ra)) (hb : PE X b (lE X W rb)) : PE X (.IfExp c a b pos) (lE X W fun env M => (rc env M).bind fun x M1 => match truV M1 x with
    | some true => ra env M1
    | some false => rb env M1
    | none => .bad) := by
  refine PE.weak (pe_ifExp hc ha hb) fun σ H Q h => ?_
  obtain ⟨ρ, env, M, S, E, h⟩ := h
  refine ⟨ρ, env, M, S, E, Post.test h fun k x M1 ρ1 H1 e1 S1 q h1 => ?_⟩
  cases k with
  | true => exact iteT ⟨ρ1, env, M1, S1, E.mono S e1, h1⟩
  | false => exact iteF ⟨ρ1, env, M1, S1, E.mono S e1, h1⟩
/-! ### lists of arguments, displays -/
theorem s_nil : PA X [] (lA X W fun _ M => .ok [] M) := by
  refine ⟨fun pos pins s σ H Q I h => pa_nil.run pos pins s σ H Q I ?_⟩
  obtain ⟨ρ, env, M, S, E, h⟩ := h
  exact h.here S .nil
theorem s_cons (hs : isStar a = false) (ha : PE X a (lE X W ra)) (hr : PA X es (lA X W rs)) : PA X (a :: es) (lA X W fun env M => (ra env M).bind fun x M1 => (rs env M1).bind fun xs M2 => .ok (x :: xs) M2) := by
  refine ⟨fun pos pins s σ H Q I h => (pa_cons ha hr (star_ne hs _ _)).run pos pins s σ H Q I ?_⟩
  refine lR.chain h fun ρ env M x M1 ρ1 v H1 S E e1 S1 E1 r1 h1 => ?_
  exact ⟨ρ1, env, M1, S1, E1, h1.chain fun y M2 ρ2 w H2 e2 S2 r2 h2 => h2.here S2 (.cons (r1.mono S1 e2) r2)⟩
theorem s_tup {k : Nat} (h : PA X es (lA X W rs)) : PE X (.Tuple es k pos) (lE X W fun env M => (rs env M).bind fun xs M1 => if xs.length ≤ sizeLine then .ok (.tup xs) M1 else .bad) := by
  refine PE.weak (pe_tup h) fun σ H Q h => ?_
  refine lR.chain h fun ρ env M x M1 ρ1 v H1 S E e1 S1 E1 r1 h1 => ?_
  split at h1
  · rename_i c
    exact ⟨by rw [← r1.length]; exact c, Post.tup S1 r1 h1⟩
  · exact h1.elim
theorem s_lst (h : PA X es (lA X W rs)) : PE X (.List es pos) (lE X W fun env M => (rs env M).bind fun xs M1 => if xs.length ≤ sizeLine then alloc (.lst xs) M1 else .bad) := by
  refine PE.weak (pe_lst h) fun σ H Q h => ?_
  refine lR.chain h fun ρ env M x M1 ρ1 v H1 S E e1 S1 E1 r1 h1 => ?_
  split at h1
  · rename_i c
    exact ⟨by rw [← r1.length]; exact c, Post.alloc (o := .lst _) (ho := .lst _) S1 r1 h1⟩
  · exact h1.elim
/-- an item, of a list, a tuple, a text or a dict -/
theorem ix_dict (hu : X.A.units + 1 < cLine) (ha : PE X a ta) (hb : PE X b tb) (hi : isSlice b = false) :
    PE X (.Subscript a b pos) (fun σ H Q => ta σ H fun x H1 => tb σ H1 fun y H2 => ∃ p v, x = .ref p ∧ DGet H2 p y (some v) ∧ Q v H2) := pe_dget hu ha hb (fun o i => plain_ix hi o i)
theorem s_sub (hu : X.A.units + 64 < cLine) (hi : isSlice b = false) (ha : PE X a (lE X W ra)) (hb : PE X b (lE X W rb)) :
    PE X (.Subscript a b pos) (lE X W fun env M => (ra env M).bind fun x M1 => (rb env M1).bind fun y M2 => Res.of (subV x y M2) M2) := by
  have h1 := pe_ix (X := X) (pos := pos) ix_seq ha hb (fun o i => plain_ix hi o i)
  have h2 := ix_dict (X := X) (pos := pos) (by omega : X.A.units + 1 < cLine) ha hb hi
  refine ⟨fun pins s σ H Q I h => ?_⟩
  obtain ⟨ρ, env, M, S, E, h⟩ := h
  have go : (tOp (rIx X.K) (lE X W ra) (lE X W rb)) σ H Q ∨ (lE X W ra σ H fun x H1 => lE X W rb σ H1 fun y H2 => ∃ p v, x = .ref p ∧ DGet H2 p y (some v) ∧ Q v H2) := by
    cases qa : ra env M with
    | bad => dsimp only at h; rw [qa] at h; exact h.elim
    | exc x M1 => dsimp only at h; rw [qa] at h; exact .inl ⟨ρ, env, M, S, E, by rw [qa]; exact h⟩
    | ok x M1 =>
      dsimp only at h
      rw [qa, Res.bind_ok] at h
      cases qb : rb env M1 with
      | bad => rw [qb] at h; exact h.elim
      | exc y M2 =>
        rw [qb] at h
        refine .inl ⟨ρ, env, M, S, E, ?_⟩
        rw [qa]
        intro ρ1 v H1 e1 S1 r1
        exact ⟨ρ1, env, M1, S1, E.mono S e1, by rw [qb]; exact h.at e1⟩
      | ok y M2 =>
        rw [qb, Res.bind_ok] at h
        cases qs : subV x y M2 with
        | none => rw [qs] at h; exact h.elim
        | some z =>
          rw [qs] at h
          by_cases c : isD M2 x = true
          · refine .inr ⟨ρ, env, M, S, E, ?_⟩
            rw [qa]
            intro ρ1 v H1 e1 S1 r1
            refine ⟨ρ1, env, M1, S1, E.mono S e1, ?_⟩
            rw [qb]
            intro ρ2 w H2 e2 S2 r2
            rcases subV_ok (Q := Q) S2 (r1.mono S1 e2) r2 qs (fun z' rz => h ρ2 z' H2 (e1.trans e2) S2 rz) with ⟨n, _⟩ | ⟨_, q⟩
            · rw [n] at c; cases c
            · exact q
          · refine .inl ⟨ρ, env, M, S, E, ?_⟩
            rw [qa]
            intro ρ1 v H1 e1 S1 r1
            refine ⟨ρ1, env, M1, S1, E.mono S e1, ?_⟩
            rw [qb]
            intro ρ2 w H2 e2 S2 r2
            rcases subV_ok (Q := Q) S2 (r1.mono S1 e2) r2 qs (fun z' rz => h ρ2 z' H2 (e1.trans e2) S2 rz) with ⟨_, q⟩ | ⟨n, _⟩
            · exact q
            · exact absurd n c
  exact go.elim (h1.run pins s σ H Q I) (h2.run pins s σ H Q I)

/-! ### slices -/
theorem s_no : PO X none (lO X W fun _ M => .ok none M) := by
  refine ⟨fun pins s σ H Q I h => po_none.run pins s σ H Q I ?_⟩
  obtain ⟨ρ, env, M, S, E, h⟩ := h
  exact Post.here (x := none) (v := none) S rfl h
theorem s_part (ha : PE X a (lE X W ra)) : PO X (some a) (lO X W fun env M => optI (ra env M)) := by
  refine ⟨fun pins s σ H Q I h => (po_some ha).run pins s σ H Q I ?_⟩
  refine lR.chain h fun ρ env M x M1 ρ1 v H1 S E e1 S1 E1 r1 h1 => ?_
  cases x <;> first | exact h1.elim | skip
  cases r1.int_inv
  exact ⟨_, rfl, Post.here (α := Option Int) (R := eqR) S1 rfl h1⟩
theorem s_slc {lo hi : Option Expr} {rl rh : Env → Sto → Res (Option Int)} {p2 : Pos} (ha : PE X a (lE X W ra)) (hl : PO X lo (lO X W rl)) (hh : PO X hi (lO X W rh)) :
    PE X (.Subscript a (.Slice lo hi none p2) pos) (lE X W fun env M => (ra env M).bind fun x M1 => (rl env M1).bind fun l M2 => (rh env M2).bind fun h M3 => slcV x l h M3) := by
  refine PE.weak (pe_slice sl_any ha hl hh) fun σ H Q h => ?_
  refine lR.chain h fun ρ env M x M1 ρ1 v H1 S E e1 S1 E1 r1 h1 => ?_
  refine ⟨ρ1, env, M1, S1, E1, h1.chain fun l M2 ρ2 l' H2 e2 S2 r2 h2 => ?_⟩
  refine ⟨ρ2, env, M2, S2, E1.mono S1 e2, h2.chain fun u M3 ρ3 u' H3 e3 S3 r3 h3 => ?_⟩
  cases r2; cases r3
  exact slcV_ok S3 (r1.mono S1 (e2.trans e3)) h3
theorem s_rev {k : Nat} {p1 p2 p3 : Pos} (ha : PE X a (lE X W ra)) : PE X (.Subscript a (.Slice none none (some (.UnaryOp .USub (.Constant (.int 1) k p1) p2)) p3) pos) (lE X W fun env M => (ra env M).bind fun x M1 => revV x M1) := by
  refine PE.weak (pe_revL ha) fun σ H Q h => ?_
  exact lR.chain h fun ρ env M x M1 ρ1 v H1 S E e1 S1 E1 r1 h1 => revV_ok S1 r1 h1
/-! ### built-ins -/
theorem boot_bi (f : BI) : bootBuiltins f.name = some f.val := by cases f <;> decide +kernel
theorem bi_names (f : BI) : f.name ≠ "__name__" ∧ (f.name == ("__debug__" : Str)) = false := by cases f <;> exact ⟨by decide +kernel, by decide +kernel⟩
theorem pe_bi {f : BI} {r : RC} {t : TA} (hc : CallR X f.val r) (hg : Gl X f.name) (hm : X.mg f.name = none) (ha : PA X (a :: es) t) (hs : noStar (a :: es) = true) : PE X (.Call (.Name f.name p) (a :: es) [] pos) (tCB r t) := by
  have h1 : isStar a = false := by
    have := List.all_eq_true.mp hs a List.mem_cons_self
    simpa using this
  have h2 : noStar es = true := List.all_eq_true.mpr fun x hx => List.all_eq_true.mp hs x (List.mem_cons_of_mem _ hx)
  have hb := boot_bi f
  obtain ⟨n1, n2⟩ := bi_names f
  cases f <;> first
    | exact pe_callB hc hg hm hb ha n1 n2 (star_ne h1 _ _) (any_star _ _ h2)
    | exact pe_callTy hc hg hm hb ha n1 n2 (star_ne h1 _ _) (any_star _ _ h2)
theorem s_blt {f : BI} (hc : X.calm = true) (hgd : X.A.guards = some []) (hu : X.A.units + 66 < cLine) (hg : Gl X f.name) (hm : X.mg f.name = none) (ha : PA X (a :: es) (lA X W rs)) (hs : noStar (a :: es) = true) :
    PE X (.Call (.Name f.name p) (a :: es) [] pos) (lE X W fun env M => (rs env M).bind fun xs M1 => bltV f xs M1) := by
  refine PE.weak (pe_bi (cr_blt hc hgd hu f) hg hm ha hs) fun σ H Q h => ?_
  exact lR.chain h fun ρ env M x M1 ρ1 v H1 S E e1 S1 E1 r1 h1 => bltV_ok f S1 r1 h1
end
end Ev

set_option Elab.async false
set_option linter.all false
set_option maxRecDepth 100000
set_option maxHeartbeats 4000000
/-! Ev8: dicts that are written, isinstance, methods, calls, comprehensions. -/
namespace Ev
open PySem L2
section
variable {X : Cx} {W : WX} {a b c e : Expr} {es : List Expr} {pos p : Pos} {ra rb rc : Env → Sto → Res PV} {rs : Env → Sto → Res (List PV)}
/-! ### written dicts -/
theorem RKs.put {K : PySem.W.Frag} {mg : Str → Option Value} {ρ : List Addr} {H : Hp} {kvs : List (Key × PV)} {ws : List (Key × V)} (h : RKs K mg ρ H kvs ws) {k : Key} {x : PV} {v : V} (r : RV K mg ρ H x v) : RKs K mg ρ H (putP kvs k x) (putK ws k v) := by
  have any : ∀ {kvs : List (Key × PV)} {ws : List (Key × V)}, RKs K mg ρ H kvs ws → (kvs.any fun kv => decide (kv.1 = k)) = (ws.any fun kv => decide (kv.1 = k)) := by
    intro kvs ws h
    induction h with
    | nil => rfl
    | cons a _ ih => rw [List.any_cons, List.any_cons, ih, a.1]
  unfold putP putK
  rw [any h]
  split
  · induction h with
    | nil => exact .nil
    | @cons p q ps qs a t ih =>
      rename_i c
      refine .cons ?_ (Paired.mapP ?_ fun _ _ z => z)
      · by_cases e : p.1 = k
        · have e2 : q.1 = k := a.1 ▸ e
          simp only [if_pos e, if_pos e2]
          exact ⟨a.1, r⟩
        · have e2 : ¬ q.1 = k := fun z => e (a.1.trans z)
          simp only [if_neg e, if_neg e2]
          exact a
      · clear ih c
        induction t with
        | nil => exact .nil
        | @cons p q ps qs a t ih =>
          refine .cons ?_ ih
          by_cases e : p.1 = k
          · have e2 : q.1 = k := a.1 ▸ e
            simp only [if_pos e, if_pos e2]
            exact ⟨a.1, r⟩
          · have e2 : ¬ q.1 = k := fun z => e (a.1.trans z)
            simp only [if_neg e, if_neg e2]
            exact a
  · have app : ∀ {kvs : List (Key × PV)} {ws : List (Key × V)}, RKs K mg ρ H kvs ws → RKs K mg ρ H (kvs ++ [(k, x)]) (ws ++ [(k, v)]) := by
      intro kvs ws h
      induction h with
      | nil => exact .cons ⟨rfl, r⟩ .nil
      | cons a _ ih => exact .cons a ih
    exact app h
theorem RKs.fold {K : PySem.W.Frag} {mg : Str → Option Value} {ρ : List Addr} {H : Hp} : ∀ (js : List Key) {xs : List PV} {vs : List V} {kvs : List (Key × PV)} {ws : List (Key × V)}, RVs K mg ρ H xs vs → RKs K mg ρ H kvs ws →
    RKs K mg ρ H ((js.zip xs).foldl (fun acc kv => putP acc kv.1 kv.2) kvs) ((js.zip vs).foldl (fun acc kv => putK acc kv.1 kv.2) ws)
  | [], _, _, _, _, _, h => by simpa using h
  | j :: js, _, _, _, _, .nil, h => by simpa using h
  | j :: js, _, _, _, _, .cons a b, h => by
    simp only [List.zip_cons_cons, List.foldl_cons]
    exact RKs.fold js b (h.put a)
/-- the pairs of a written dict -/
structure PD (X : Cx) (W : WX) (pos : Pos) (js : List Key) (ke : List (Option Expr)) (ve : List Expr) (rs : Env → Sto → Res (List PV)) : Prop where
  ex : ∃ trs, PPs X pos ke ve trs ∧ ∀ σ H Q, lA X W rs σ H (fun vs H' => Q ((js.zip vs).map fun kv => (kV kv.1, kv.2)) H') → tPairs trs σ H Q
theorem d_nil : PD X W pos [] [] [] (fun _ M => .ok [] M) := ⟨[], pps_nil, fun σ H Q h => by
  obtain ⟨ρ, env, M, S, E, h⟩ := h
  exact Post.here (R := RVs X.K X.mg) (v := []) S RVs.nil h⟩
theorem d_cons {j : Key} {js : List Key} {k : Expr} {ke : List (Option Expr)} (hk : PE X k (tC (kV j))) (ha : PE X a (lE X W ra)) (hr : PD X W pos js ke es rs) :
    PD X W pos (j :: js) (some k :: ke) (a :: es) (fun env M => (ra env M).bind fun x M1 => (rs env M1).bind fun xs M2 => .ok (x :: xs) M2) := by
  obtain ⟨trs, h1, h2⟩ := hr.ex
  refine ⟨_, pps_cons hk ha h1, fun σ H Q h => ?_⟩
  show lE X W ra σ H fun y H2 => tPairs trs σ H2 fun ps H3 => Q ((kV j, y) :: ps) H3
  refine lR.chain h fun ρ env M x M1 ρ1 v H1 S E e1 S1 E1 r1 h1 => ?_
  exact h2 σ H1 _ ⟨ρ1, env, M1, S1, E1, Post.chain h1 fun y M2 ρ2 w H2 e2 S2 r2 h2 => Post.here (R := RVs X.K X.mg) (v := v :: w) S2 (RVs.cons (r1.mono S1 e2) r2) h2⟩
theorem mergeK_zip (kvs : List (Key × V)) : mergeK [] kvs = kvs.foldl (fun acc kv => putK acc kv.1 kv.2) [] := rfl
theorem s_dct {js : List Key} {ke : List (Option Expr)} (hd : PD X W pos js ke es rs) (hall : ke.all (·.isSome) = true) (hl : ke.length = es.length) (h0 : ke ≠ []) (h15 : ke.length ≤ 15) (hj : js.length = ke.length) :
    PE X (.Dict ke es pos) (lE X W fun env M => (rs env M).bind fun xs M1 => if js.length = xs.length then alloc (.dct ((js.zip xs).foldl (fun acc kv => putP acc kv.1 kv.2) [])) M1 else .bad) := by
  obtain ⟨trs, h1, h2⟩ := hd.ex
  refine PE.weak (pe_disp h1 hall hl h0 h15) fun σ H Q h => ?_
  obtain ⟨ρ, env, M, S, E, h⟩ := h
  intro q hq
  have e0 : Ext ρ H ρ (upd H q (.dK [])) := Ext.upd hq
  have hn : q ∉ ρ := S.out hq
  refine h2 σ _ _ ⟨ρ, env, M, S.upd hq, E.mono S e0, ?_⟩
  dsimp only at h
  revert h
  cases rs env M with
  | bad => exact fun h => h
  | exc x M1 => exact fun h => Post.at (r := (Res.exc x M1 : Res (List PV))) (R := RVs X.K X.mg) (Q := fun _ _ => True) h e0
  | ok xs M1 =>
    intro h ρ1 vs H1 e1 S1 r1
    have h : Post X.K X.mg (RV X.K X.mg) (fun c d H' => W c d σ H') ρ H (if js.length = xs.length then alloc (.dct ((js.zip xs).foldl (fun acc kv => putP acc kv.1 kv.2) [])) M1 else .bad) Q := h
    obtain ⟨eb, ob⟩ := Ext.beside hq e1
    obtain ⟨o1, o2⟩ := ob hn
    split at h
    · rename_i c
      refine ⟨o2, js.zip vs, rfl, by rw [List.length_zip]; omega, ?_⟩
      rw [mergeK_zip]
      have r : RKs X.K X.mg ρ1 H1 ((js.zip xs).foldl (fun acc kv => putP acc kv.1 kv.2) []) ((js.zip vs).foldl (fun acc kv => putK acc kv.1 kv.2) []) := RKs.fold js r1 .nil
      have S2 := S1.side (ho := .dK ((js.zip vs).foldl (fun acc kv => putK acc kv.1 kv.2) [])) o1 o2 (fun _ z => nomatch z) (fun _ _ z => nomatch z)
      have k2 : Kp ρ1 H1 ρ1 (upd H1 q (.dK ((js.zip vs).foldl (fun acc kv => putK acc kv.1 kv.2) []))) := Kp.side o2 (fun _ z => nomatch z) (fun _ _ z => nomatch z)
      have r2 : RO X.K X.mg ρ1 (upd H1 q (.dK ((js.zip vs).foldl (fun acc kv => putK acc kv.1 kv.2) []))) (.dct ((js.zip xs).foldl (fun acc kv => putP acc kv.1 kv.2) [])) (.dK ((js.zip vs).foldl (fun acc kv => putK acc kv.1 kv.2) [])) := r.kp k2
      have S3 := S2.adopt o1 upd_same r2
      exact h (ρ1 ++ [q]) (.ref q) _ ((eb.also hq).join hq) S3 (RV.new S1)
    · exact h.elim
/-! ### isinstance -/
theorem tyX_ok {K : PySem.W.Frag} {mg : Str → Option Value} {ρ : List Addr} {H : Hp} {M : Sto} (S : SM K mg ρ H M) {x : PV} {v : V} {t : String} (r : RV K mg ρ H x v) (e : tyN M x = some t) : TyX K H v (.type t) := by
  unfold tyN at e
  split at e
  · cases r.non_inv; cases e; exact .base .non
  · cases r.bl_inv; cases e; exact .base (.bl _)
  · cases r.int_inv; cases e; exact .base (.int _)
  · cases r.str_inv; cases e; exact .base (.str _)
  · obtain ⟨a, vs, rfl, h, _⟩ := r.tup_inv
    cases e
    rcases h with h | ⟨o, its, n, h1, h2, _⟩
    · rcases h with h | ⟨o, h⟩
      · exact .base (.tup h)
      · exact .fTuple h
    · exact .kTuple h1 h2
  · obtain ⟨a, vs, rfl, h, _⟩ := r.rol_inv
    cases e
    rcases h with ⟨o, h⟩ | ⟨o, its, n, h1, h2, _⟩
    · exact .base (.frz h)
    · exact .kList h1 h2
  · obtain ⟨a, rfl, hi⟩ := r.ref_inv
    split at e
    · rename_i q
      cases e
      obtain ⟨vs, h1, _⟩ := S.get hi q
      exact .base (.lst h1)
    · rename_i q
      cases e
      obtain ⟨vs, h1, _⟩ := S.getD hi q
      exact .base (.dK h1)
    · cases e
  · cases e
def tyNames : List String := ["NoneType", "bool", "int", "str", "tuple", "list", "dict"]
theorem tyN_mem {M : Sto} {x : PV} {t : String} (e : tyN M x = some t) : t ∈ tyNames := by
  unfold tyN at e
  split at e <;> (try split at e) <;> first | (cases e; decide) | cases e
theorem kit_all : ∀ t ∈ tyNames, ∀ c ∈ clsNames, kitB t c = some (tyLe t c) := by decide +kernel
theorem boot_cls : ∀ c ∈ clsNames, bootBuiltins (Str.ofString c) = some (.type c) ∧ Str.ofString c ≠ "__name__" ∧ (Str.ofString c == ("__debug__" : Str)) = false := by decide +kernel
theorem kit_any {K : PySem.W.Frag} {t : String} (ht : t ∈ tyNames) : ∀ {cs : List String}, (∀ c ∈ cs, c ∈ clsNames) → PySem.W.kitAny K (.type t) (cs.map Value.type) = some (cs.any fun c => tyLe t c)
  | [], _ => rfl
  | c :: cs, h => by
    refine kitAny_cons (kit_ty (kit_all t ht c (h c List.mem_cons_self))) (fun e => ?_) (fun e => ?_)
    · rw [List.any_cons, e, Bool.false_or]
      exact kit_any ht fun d hd => h d (List.mem_cons_of_mem _ hd)
    · rw [List.any_cons, e, Bool.true_or]
/-- the names of built-in classes, as arguments -/
theorem gl_of {X : Cx} {x : Str} (h : gloB X.env.scope x = true) : Gl X x ∧ (x == ("__debug__" : Str)) = false := by
  unfold gloB at h
  split at h
  · rename_i q
    exact ⟨q, by simpa using h⟩
  · cases h
theorem pa_types (hf : ∀ c ∈ clsNames, X.mg (Str.ofString c) = none) : ∀ {ts : List String} {es : List Expr}, typeNames ts es X.env.scope = true → (∀ c ∈ ts, c ∈ clsNames) ∧ PA X es (fun _ H Q => Q (ts.map V.ty) H)
  | [], [], _ => ⟨fun _ z => (nomatch z), pa_nil⟩
  | c :: cs, .Name x _ :: es, h => by
    unfold typeNames at h
    simp only [Bool.and_eq_true, decide_eq_true_eq] at h
    obtain ⟨⟨⟨rfl, h2⟩, h3⟩, h4⟩ := h
    obtain ⟨i1, i2⟩ := pa_types hf h4
    have hc : c ∈ clsNames := by simpa using h3
    obtain ⟨b1, b2, b3⟩ := boot_cls c hc
    refine ⟨fun d hd => ?_, pa_cons (pe_bltn (v := .ty c) (gl_of h2).1 (hf c hc) b1 rfl b2 b3) i2⟩
    rcases List.mem_cons.mp hd with rfl | hd
    · exact hc
    · exact i1 d hd
  | [], _ :: _, h => by unfold typeNames at h; cases h
  | _ :: _, [], h => by unfold typeNames at h; cases h
theorem boot_isi : bootBuiltins "isinstance" = some (.builtin "isinstance") := by decide +kernel
theorem pa_one {x : Expr} {v : V} (h : PE X x (tC v)) (hs : isStar x = false) : PA X [x] (fun _ H Q => Q [v] H) := pa_cons h pa_nil (star_ne hs _ _)
theorem s_isi1 {c : String} {x : Str} {p1 p2 : Pos} (hg : Gl X "isinstance") (hm : X.mg "isinstance" = none) (hf : ∀ c ∈ clsNames, X.mg (Str.ofString c) = none) (ha : PE X a (lE X W ra)) (hs : isStar a = false) {t : Expr} (ht : typeNames [c] [t] X.env.scope = true) :
    PE X (.Call (.Name "isinstance" p) [a, t] [] pos) (lE X W fun env M => (ra env M).bind fun x M1 => match tyN M1 x with
    | some t => .ok (.bl ([c].any fun c => tyLe t c)) M1
    | none => .bad) := by
  obtain ⟨hc, hp⟩ := pa_types hf ht
  have hst : isStar t = false := by
    cases t <;> first | rfl | (unfold typeNames at ht; cases ht)
  refine PE.weak (pe_callB call_isi hg hm boot_isi (pa_cons ha hp (star_ne hs _ _)) (by decide +kernel) (by decide +kernel) (star_ne hs _ _) (any_star _ _ (by unfold noStar; rw [List.all_cons, hst]; rfl))) fun σ H Q h => ?_
  refine lR.chain h fun ρ env M x M1 ρ1 v H1 S E e1 S1 E1 r1 h1 => ?_
  cases q : tyN M1 x with
  | none => rw [q] at h1; exact h1.elim
  | some t =>
    rw [q] at h1
    have hc' : c ∈ clsNames := hc c (by simp)
    refine ⟨v, .ty c, .type t, .type c, tyLe t c, rfl, .ty c, tyX_ok S1 r1 q, kit_ty (kit_all t (tyN_mem q) c hc'), ?_⟩
    have h2 := Post.here (x := PV.bl ([c].any fun c => tyLe t c)) S1 (.bl _) h1
    simpa using h2
theorem cls_pairs : ∀ ts : List String, Paired ClsV (ts.map V.ty) (ts.map Value.type)
  | [] => .nil
  | c :: cs => .cons (.ty c) (cls_pairs cs)
theorem s_isiT {ts : List String} {k : Nat} {p2 : Pos} {es : List Expr} (hg : Gl X "isinstance") (hm : X.mg "isinstance" = none) (hf : ∀ c ∈ clsNames, X.mg (Str.ofString c) = none) (ha : PE X a (lE X W ra)) (hs : isStar a = false) (ht : typeNames ts es X.env.scope = true) (hl : ts.length ≤ sizeLine) :
    PE X (.Call (.Name "isinstance" p) [a, .Tuple es k p2] [] pos) (lE X W fun env M => (ra env M).bind fun x M1 => match tyN M1 x with
    | some t => .ok (.bl (ts.any fun c => tyLe t c)) M1
    | none => .bad) := by
  obtain ⟨hc, hp⟩ := pa_types hf ht
  have hT : PA X [.Tuple es k p2] (tCons (tTup fun _ H Q => Q (ts.map V.ty) H) tNil) := pa_cons (pe_tup hp) pa_nil (star_ne rfl _ _)
  refine PE.weak (pe_callB call_isiT hg hm boot_isi (pa_cons ha hT (star_ne hs _ _)) (by decide +kernel) (by decide +kernel) (star_ne hs _ _) (any_star _ _ rfl)) fun σ H Q h => ?_
  refine lR.chain h fun ρ env M x M1 ρ1 v H1 S E e1 S1 E1 r1 h1 => ?_
  cases q : tyN M1 x with
  | none => rw [q] at h1; exact h1.elim
  | some t =>
    rw [q] at h1
    refine ⟨by rw [List.length_map]; exact hl, fun tp htp => ?_⟩
    have e2 : Ext ρ1 H1 ρ1 (upd H1 tp (.tup (ts.map V.ty))) := Ext.upd htp
    have S2 := S1.upd (o := .tup (ts.map V.ty)) htp
    have r2 := r1.mono S1 e2
    have pr : Paired ClsV (ts.map V.ty) (ts.map Value.type) := cls_pairs ts
    exact ⟨v, tp, ts.map V.ty, .type t, ts.map Value.type, _, rfl, upd_same, pr, tyX_ok S2 r2 q, kit_any (tyN_mem q) hc, h1 ρ1 _ _ e2 S2 (.bl _)⟩
/-! ### methods of lists -/
def MI.id : MI → String
  | .append => "list.append" | .pop => "list.pop" | .popAt => "list.pop" | .extend => "list.extend"
def rMt : MI → V → List V → Hp → VK → Prop
  | .append => rAppend
  | .pop => rPop
  | .popAt => rPopAt
  | .extend => rExtend
theorem mt_mi (m : MI) : MtM X m.id (rMt m) := by
  cases m with
  | append => exact mt_append
  | pop => exact mt_pop
  | popAt => exact mt_popAt
  | extend => exact mt_extend
theorem methV_ok {K : PySem.W.Frag} {mg : Str → Option Value} {ρ : List Addr} {H : Hp} {WW : XK} {M : Sto} {Q : VK} (m : MI) {x : PV} {v : V} {xs : List PV} {vs : List V} (S : SM K mg ρ H M) (rx : RV K mg ρ H x v) (rs : RVs K mg ρ H xs vs)
    (h : PostV K mg WW ρ H (methV m x xs M) Q) : rMt m v vs H Q := by
  unfold methV at h
  split at h
  · obtain ⟨a, rfl, hi⟩ := rx.ref_inv
    split at h
    · rename_i q
      obtain ⟨us, h1, h2⟩ := S.get hi q
      split at h
      · obtain ⟨w, rfl, r⟩ := rs.one_inv
        split at h
        · rename_i c
          refine ⟨a, us, w, rfl, rfl, h1, by rw [← h2.length]; exact c, ?_⟩
          exact h ρ .non _ (Ext.set (List.mem_of_getElem? hi)) (S.set hi (o := .lst _) (ho := .lst _) (h2.append (.cons r .nil))) .non
        · exact h.elim
      · cases rs.nil_inv
        split at h
        · rename_i y hy
          obtain ⟨w, hw, rw'⟩ := h2.get hy
          refine ⟨a, us, w, rfl, rfl, h1, by rw [← h2.length]; exact hw, ?_⟩
          have e : Ext ρ H ρ (upd H a (.lst us.dropLast)) := Ext.set (List.mem_of_getElem? hi)
          exact h ρ w _ e (S.set hi (o := .lst _) (ho := .lst _) h2.dropLast) (rw'.mono S e)
        · exact h.elim
      · obtain ⟨w, rfl, r⟩ := rs.one_inv
        cases r.int_inv
        split at h
        · rename_i c
          split at h
          · rename_i k hk
            split at h
            · rename_i y hy
              obtain ⟨w, hw, rw'⟩ := h2.get hy
              refine ⟨a, us, _, k, w, rfl, rfl, h1, c.1, c.2, by rw [← h2.length]; exact hk, hw, ?_⟩
              have e : Ext ρ H ρ (upd H a (.lst (us.eraseIdx k))) := Ext.set (List.mem_of_getElem? hi)
              exact h ρ w _ e (S.set hi (o := .lst _) (ho := .lst _) (h2.eraseIdx k)) (rw'.mono S e)
            · exact h.elim
          · exact h.elim
        · exact h.elim
      · obtain ⟨w, rfl, r⟩ := rs.one_inv
        obtain ⟨b, rfl, hj⟩ := r.ref_inv
        split at h
        · rename_i q2
          split at h
          · rename_i c
            obtain ⟨ws, h3, h4⟩ := S.get hj q2
            refine ⟨a, b, us, ws, rfl, rfl, h1, h3, by rw [← h2.length, ← h4.length]; exact c, ?_⟩
            exact h ρ .non _ (Ext.set (List.mem_of_getElem? hi)) (S.set hi (o := .lst _) (ho := .lst _) (h2.append h4)) .non
          · exact h.elim
        · exact h.elim
      · exact h.elim
    · exact h.elim
  · exact h.elim
theorem isL_ok {K : PySem.W.Frag} {mg : Str → Option Value} {ρ : List Addr} {H : Hp} {M : Sto} {x : PV} {v : V} (S : SM K mg ρ H M) (rx : RV K mg ρ H x v) (h : isL M x = true) : tyV K "list" v H := by
  unfold isL at h
  split at h
  · obtain ⟨a, rfl, hi⟩ := rx.ref_inv
    split at h
    · rename_i q
      obtain ⟨us, h1, h2⟩ := S.get hi q
      exact .inl ⟨rfl, us, .inl (.inl h1)⟩
    · cases h
  · cases h
def lMeth (m : MI) (ra : Env → Sto → Res PV) (rs : Env → Sto → Res (List PV)) : Env → Sto → Res PV := fun env M =>
  (ra env M).bind fun x M1 => if isL M1 x = true then (rs env M1).bind fun xs M2 => methV m x xs M2 else .bad
theorem s_meth0 {apos cpos : Pos} (ha : PE X a (lE X W ra)) (hb : isCall a = false) (hl : (apos.endLine == cpos.line) = true) : PE X (.Call (.Attribute a "pop" apos) [] [] cpos) (lE X W (lMeth .pop ra fun _ M => .ok [] M)) := by
  refine PE.weak (pe_bm0 PySem.F.plainAttrs_list PySem.F.slot_list_pop PySem.F.type_list_pop (mt_mi .pop) ha (attr_ne hb _ _) hl) fun σ H Q h => ?_
  refine lR.chain h fun ρ env M x M1 ρ1 v H1 S E e1 S1 E1 r1 h1 => ?_
  split at h1
  · rename_i c
    exact ⟨isL_ok S1 r1 c, methV_ok .pop S1 r1 .nil h1⟩
  · exact h1.elim
theorem pe_mi {m : MI} {t : TA} {apos cpos : Pos} (ha : PE X a (lE X W ra)) (hp : PA X (e :: es) t) (hb : isCall a = false) (hl : (apos.endLine == cpos.line) = true) (hs : noStar (e :: es) = true) (hn : (e :: es).length < 30) (hm : m ≠ .pop) :
    PE X (.Call (.Attribute a m.name apos) (e :: es) [] cpos) (tBM X.K "list" (rMt m) (lE X W ra) t) := by
  have h1 : isStar e = false := by
    have := List.all_eq_true.mp hs e List.mem_cons_self
    simpa using this
  have h2 : noStar es = true := List.all_eq_true.mpr fun x hx => List.all_eq_true.mp hs x (List.mem_cons_of_mem _ hx)
  have hfew : ((backTo cpos (starEach (e :: es) X.env)).all (fun x => !x.1) && (backToKw cpos (keywordEach [] X.env)).all (fun x => x.1.isSome) && decide ((e :: es).length + ([] : List Keyword).length + (if ([] : List Keyword).isEmpty then 0 else 1) < 30)) = true := by
    rw [all_star _ _ hs]
    show (true && true && decide ((e :: es).length + 0 + 0 < 30)) = true
    simpa using hn
  cases m with
  | append => exact pe_bm PySem.F.plainAttrs_list PySem.F.slot_list_append PySem.F.type_list_append (mt_mi .append) ha hp (attr_ne hb _ _) hfew hl (star_ne h1 _ _) (any_star _ _ h2)
  | pop => exact absurd rfl hm
  | popAt => exact pe_bm PySem.F.plainAttrs_list PySem.F.slot_list_pop PySem.F.type_list_pop (mt_mi .popAt) ha hp (attr_ne hb _ _) hfew hl (star_ne h1 _ _) (any_star _ _ h2)
  | extend => exact pe_bm PySem.F.plainAttrs_list PySem.F.slot_list_extend PySem.F.type_list_extend (mt_mi .extend) ha hp (attr_ne hb _ _) hfew hl (star_ne h1 _ _) (any_star _ _ h2)
theorem s_meth {m : MI} {apos cpos : Pos} (ha : PE X a (lE X W ra)) (hp : PA X (e :: es) (lA X W rs)) (hb : isCall a = false) (hl : (apos.endLine == cpos.line) = true) (hs : noStar (e :: es) = true) (hn : (e :: es).length < 30) (hm : m ≠ .pop) :
    PE X (.Call (.Attribute a m.name apos) (e :: es) [] cpos) (lE X W (lMeth m ra rs)) := by
  refine PE.weak (pe_mi ha hp hb hl hs hn hm) fun σ H Q h => ?_
  refine lR.chain h fun ρ env M x M1 ρ1 v H1 S E e1 S1 E1 r1 h1 => ?_
  split at h1
  · rename_i c
    exact ⟨isL_ok S1 r1 c, ρ1, env, M1, S1, E1, h1.chain fun xs M2 ρ2 vs H2 e2 S2 r2 h2 => methV_ok m S2 (r1.mono S1 e2) r2 h2⟩
  · exact h1.elim
end
end Ev

set_option Elab.async false
set_option linter.all false
set_option maxRecDepth 100000
set_option maxHeartbeats 4000000
/-! Ev9: calls of the text's own defs, comprehensions, what is walked. -/
namespace Ev
open PySem L2
/-- what is true of a def of the text: it does as the code says -/
structure CallAt (P : Program) (w : World) (K : PySem.W.Frag) (mg : Str → Option Value) (base : Heap) (d : Nat) (f : Str) (kw : List (Nat × List Str × List Nat)) (g : List PV → Sto → Res PV) (fa : Addr) (fd : FuncData) (ps : List Str) : Prop where
  at' : mg f = some (.ref fa)
  kp : PySem.W.keepIn K (.ref fa) = true
  len : ∀ xs M, g xs M ≠ .bad → xs.length = ps.length
  bd : ∀ (s : Shared) (us : List Value), us.length = ps.length → BindsTo s fd ⟨us, []⟩ (ps.zip us)
  kb : ∀ z ∈ kw, ∀ (s : Shared) (us ws : List Value), us.length = z.1 → ws.length = z.2.1.length → BindsTo s fd ⟨us, z.2.1.zip ws⟩ (ps.zip (permL z.2.2 (us ++ ws)))
  run : ∀ (A : Around) (outer : List PySem.Env) (s : Shared) (H : Hp) (args : Args) (us : List Value) (vs : List V) (xs : List PV) (ρ : List Addr) (M : Sto) (Q : VK) (E : XK), Room d A → A.guards = some [] → Env0 P w K mg base A outer s H → BindsTo s fd args (ps.zip us) → Vals vs us →
    SM K mg ρ H M → RVs K mg ρ H xs vs → PostV K mg E ρ H (g xs M) Q → codeAny (model P w) A (.call (.ref fa) args) (CR (L2.CX P w) outer P w H s Q E) s
section
variable {X : Cx} {W : WX} {a b c e : Expr} {es : List Expr} {pos p : Pos} {ra rb rc : Env → Sto → Res PV} {rs rk : Env → Sto → Res (List PV)}
/-- the callee runs -/
theorem run_g {pins : List (Addr × Obj)} {s : Shared} {σ : St} {H : Hp} {Q : VK} {d : Nat} {f : Str} {kw : List (Nat × List Str × List Nat)} {g : List PV → Sto → Res PV} {fa : Addr} {fd : FuncData} {ps : List Str} (C : CallAt X.prog X.w X.K X.mg X.base d f kw g fa fd ps)
    (hr : Room d X.A) (hg : X.A.guards = some []) (tk : Takes X W) (I : Inv X pins σ H s) {us zs : List Value} {kws : List (Str × Value)} {vs : List V} {xs : List PV} {ρ : List Addr} {M : Sto} (hb : BindsTo s fd ⟨us, kws⟩ (ps.zip zs)) (r : Vals vs zs) (S : SM X.K X.mg ρ H M) (rx : RVs X.K X.mg ρ H xs vs)
    (h : PostV X.K X.mg (fun c d H' => W c d σ H') ρ H (g xs M) Q) : wpAny (model X.prog X.w) X.A (call (.ref fa) us kws) (EP X pins σ Q) X.xe s := by
  refine wpAny_call (codeAny_mono (C.run X.A X.stack s H ⟨us, kws⟩ zs vs xs ρ M Q _ hr hg I.env0 hb r S rx h) fun r s' hq => ?_)
  cases r with
  | error e => exact passAt tk σ pins H s e s' I hq
  | ok fl =>
    cases fl with
    | ret u => exact I.after hq
    | next => exact False.elim hq
    | brk => exact False.elim hq
    | cont => exact False.elim hq
theorem s_call0 {d : Nat} {f : Str} {kw : List (Nat × List Str × List Nat)} {g : List PV → Sto → Res PV} {fa : Addr} {fd : FuncData} {ps : List Str} (C : CallAt X.prog X.w X.K X.mg X.base d f kw g fa fd ps) (hr : Room d X.A) (hg : X.A.guards = some []) (tk : Takes X W) (hG : Gl X f) (hdb : (f == ("__debug__" : Str)) = false) :
    PE X (.Call (.Name f p) [] [] pos) (lE X W fun _ M => g [] M) := by
  refine ⟨fun pins s σ H Q I h => ?_⟩
  obtain ⟨ρ, env, M, S, E, h⟩ := h
  refine wpAny_Call_Name_kw (ld_glob I hG C.at' ?_ hdb)
  refine PySem.W.callWith_K0 I.kIn C.kp ?_
  have hl : ([] : List PV).length = ps.length := C.len [] M fun z => by
    have h : PostV X.K X.mg (fun c d H' => W c d σ H') ρ H (g [] M) Q := h
    rw [z] at h; exact h.elim
  exact run_g C hr hg tk I (us := []) (zs := []) (C.bd s [] hl) .nil S .nil h
theorem s_call {d : Nat} {f : Str} {kw : List (Nat × List Str × List Nat)} {g : List PV → Sto → Res PV} {fa : Addr} {fd : FuncData} {ps : List Str} (C : CallAt X.prog X.w X.K X.mg X.base d f kw g fa fd ps) (hr : Room d X.A) (hg : X.A.guards = some []) (tk : Takes X W) (hG : Gl X f) (hdb : (f == ("__debug__" : Str)) = false)
    (ha : PA X (e :: es) (lA X W rs)) (hs : noStar (e :: es) = true) : PE X (.Call (.Name f p) (e :: es) [] pos) (lE X W fun env M => (rs env M).bind fun xs M1 => g xs M1) := by
  refine ⟨fun pins s σ H Q I h => ?_⟩
  refine wpAny_Call_Name_kw (ld_glob I hG C.at' ?_ hdb)
  have h1 : isStar e = false := by
    have := List.all_eq_true.mp hs e List.mem_cons_self
    simpa using this
  have h2 : noStar es = true := List.all_eq_true.mpr fun x hx => List.all_eq_true.mp hs x (List.mem_cons_of_mem _ hx)
  refine PySem.W.callWith_K (h₀ := X.base) I.ok.mod.kin C.kp (thn (ha.run pos pins s σ H _ I (lR.chain h fun ρ env M x M1 ρ1 v H1 S E e1 S1 E1 r1 h1 => (⟨ρ1, x, M1, S1, r1, h1⟩ : ∃ ρ1 x M1, SM X.K X.mg ρ1 H1 M1 ∧ RVs X.K X.mg ρ1 H1 x v ∧ PostV X.K X.mg (fun c d H' => W c d σ H') ρ1 H1 (g x M1) Q))) fun us s1 ⟨vs, H1, I1, r, ρ1, x, M1, S1, r1, q⟩ => ⟨I1.kIn, ?_⟩) (star_ne h1 _ _) (any_star _ _ h2)
  have hl : x.length = ps.length := C.len x M1 fun z => by rw [z] at q; exact q.elim
  have hl2 : us.length = ps.length := by rw [← r.length, ← r1.length]; exact hl
  exact run_g C hr hg tk I1 (C.bd s1 us hl2) r S1 r1 q
/-! keywords -/
abbrev lK (X : Cx) (W : WX) (r : Env → Sto → Res (List PV)) : TA := lR X (RVs X.K X.mg) W r
theorem k_nil : PK X [] (lK X W fun _ M => .ok [] M) := by
  refine ⟨fun pos pins s σ H Q I h => pk_nil.run pos pins s σ H Q I ?_⟩
  obtain ⟨ρ, env, M, S, E, h⟩ := h
  exact h.here S .nil
theorem k_cons {nm : Option Str} {kws : List Keyword} {kp : Pos} (ha : PE X a (lE X W ra)) (hr : PK X kws (lK X W rs)) : PK X (⟨nm, a, kp⟩ :: kws) (lK X W fun env M => (ra env M).bind fun x M1 => (rs env M1).bind fun xs M2 => .ok (x :: xs) M2) := by
  refine ⟨fun pos pins s σ H Q I h => (pk_cons ha hr).run pos pins s σ H Q I ?_⟩
  refine lR.chain h fun ρ env M x M1 ρ1 v H1 S E e1 S1 E1 r1 h1 => ?_
  exact ⟨ρ1, env, M1, S1, E1, h1.chain fun y M2 ρ2 w H2 e2 S2 r2 h2 => h2.here S2 (.cons (r1.mono S1 e2) r2)⟩
theorem RVs.perm {K : PySem.W.Frag} {mg : Str → Option Value} {ρ : List Addr} {H : Hp} {xs : List PV} {vs : List V} (h : RVs K mg ρ H xs vs) : ∀ p : List Nat, RVs K mg ρ H (permL p xs) (permL p vs)
  | [] => .nil
  | i :: p => by
    unfold permL
    rw [List.filterMap_cons, List.filterMap_cons]
    cases q : xs[i]? with
    | none =>
      have : vs[i]? = none := by
        rw [List.getElem?_eq_none_iff] at q ⊢
        rw [← h.length]; exact q
      rw [this]
      exact RVs.perm h p
    | some x =>
      obtain ⟨v, h1, h2⟩ := h.get q
      rw [h1]
      exact .cons h2 (RVs.perm h p)
theorem Vals.perm {xs : List V} {us : List Value} (h : Vals xs us) : ∀ p : List Nat, Vals (permL p xs) (permL p us)
  | [] => .nil
  | i :: p => by
    unfold permL
    rw [List.filterMap_cons, List.filterMap_cons]
    cases q : xs[i]? with
    | none =>
      have : us[i]? = none := h.none_of q
      rw [this]
      exact Vals.perm h p
    | some x =>
      obtain ⟨v, h1, h2⟩ := h.get q
      rw [h1]
      exact .cons h2 (Vals.perm h p)
/-- the names of keywords -/
def kwNames (ks : List Str) : List Keyword → Bool
  | [] => ks.isEmpty
  | ⟨nm, _, _⟩ :: ws => match ks with
    | k :: ks => decide (nm = some k) && kwNames ks ws
    | [] => false
theorem kw_all (pos : Pos) (env : PySem.Env) : ∀ {ks : List Str} {ws : List Keyword}, kwNames ks ws = true →
    (backToKw pos (keywordEach ws env)).all (·.1.isSome) = true ∧ (backToKw pos (keywordEach ws env)).filterMap (·.1) = ks ∧ (backToKw pos (keywordEach ws env)).any (·.1.isNone) = false
  | ks, [], h => by
    cases ks with
    | nil => exact ⟨rfl, rfl, rfl⟩
    | cons _ _ => cases h
  | [], ⟨_, _, _⟩ :: _, h => by cases h
  | k :: ks, ⟨nm, x, kp⟩ :: ws, h => by
    unfold kwNames at h
    simp only [Bool.and_eq_true, decide_eq_true_eq] at h
    obtain ⟨rfl, h⟩ := h
    obtain ⟨h1, h2, h3⟩ := kw_all pos env h
    refine ⟨?_, ?_, ?_⟩
    · show (true && (backToKw pos (keywordEach ws env)).all (·.1.isSome)) = true
      rw [h1]; rfl
    · show k :: (backToKw pos (keywordEach ws env)).filterMap (·.1) = k :: ks
      rw [h2]
    · show (false || (backToKw pos (keywordEach ws env)).any (·.1.isNone)) = false
      rw [h3]; rfl
def lCallk (g : List PV → Sto → Res PV) (n : Nat) (ks : List Str) (perm : List Nat) (rs rk : Env → Sto → Res (List PV)) : Env → Sto → Res PV := fun env M =>
  (rs env M).bind fun xs M1 => (rk env M1).bind fun ys M2 => if xs.length = n ∧ ys.length = ks.length then g (permL perm (xs ++ ys)) M2 else .bad
theorem run_k {pins : List (Addr × Obj)} {s : Shared} {σ : St} {H : Hp} {Q : VK} {d : Nat} {f : Str} {kw : List (Nat × List Str × List Nat)} {g : List PV → Sto → Res PV} {fa : Addr} {fd : FuncData} {ps : List Str} (C : CallAt X.prog X.w X.K X.mg X.base d f kw g fa fd ps)
    {n : Nat} {ks : List Str} {perm : List Nat} (hz : (n, ks, perm) ∈ kw) (hr : Room d X.A) (hg : X.A.guards = some []) (tk : Takes X W) (I : Inv X pins σ H s) {us ws : List Value} {vs zs : List V} {xs ys : List PV} {ρ : List Addr} {M : Sto} (r : Vals vs us) (r' : Vals zs ws) (S : SM X.K X.mg ρ H M) (rx : RVs X.K X.mg ρ H xs vs) (ry : RVs X.K X.mg ρ H ys zs)
    (h : PostV X.K X.mg (fun c d H' => W c d σ H') ρ H (if xs.length = n ∧ ys.length = ks.length then g (permL perm (xs ++ ys)) M else .bad) Q) : wpAny (model X.prog X.w) X.A (call (.ref fa) us (ks.zip ws)) (EP X pins σ Q) X.xe s := by
  split at h
  · rename_i c
    have l1 : us.length = n := by rw [← r.length, ← rx.length]; exact c.1
    have l2 : ws.length = ks.length := by rw [← r'.length, ← ry.length]; exact c.2
    exact run_g C hr hg tk I (C.kb _ hz s us ws l1 l2) (Ev.Vals.perm (r.append r') perm) S ((rx.append ry).perm perm) h
  · exact h.elim
theorem s_callk0 {d : Nat} {f : Str} {kw : List (Nat × List Str × List Nat)} {g : List PV → Sto → Res PV} {fa : Addr} {fd : FuncData} {ps : List Str} (C : CallAt X.prog X.w X.K X.mg X.base d f kw g fa fd ps) {ks : List Str} {perm : List Nat} (hz : (0, ks, perm) ∈ kw) {kws : List Keyword}
    (hr : Room d X.A) (hg : X.A.guards = some []) (tk : Takes X W) (hG : Gl X f) (hdb : (f == ("__debug__" : Str)) = false) (hk : PK X kws (lK X W rk)) (hn : kwNames ks kws = true) : PE X (.Call (.Name f p) [] kws pos) (lE X W (lCallk g 0 ks perm (fun _ M => .ok [] M) rk)) := by
  refine ⟨fun pins s σ H Q I h => ?_⟩
  obtain ⟨k1, k2, k3⟩ := kw_all pos X.env hn
  refine wpAny_Call_Name_kw (ld_glob I hG C.at' ?_ hdb)
  have h : lR X (RV X.K X.mg) W (fun env M => (rk env M).bind fun ys M2 => if ([] : List PV).length = 0 ∧ ys.length = ks.length then g (permL perm ([] ++ ys)) M2 else .bad) σ H Q := h
  refine PySem.W.callWith_KW0 (h₀ := X.base) I.ok.mod.kin C.kp k1 (thn (hk.run pos pins s σ H _ I (lR.chain h fun ρ env M x M1 ρ1 v H1 S E e1 S1 E1 r1 h1 => (⟨ρ1, x, M1, S1, r1, h1⟩ : ∃ ρ1 ys M2, SM X.K X.mg ρ1 H1 M2 ∧ RVs X.K X.mg ρ1 H1 ys v ∧ PostV X.K X.mg (fun c d H' => W c d σ H') ρ1 H1 (if ([] : List PV).length = 0 ∧ ys.length = ks.length then g (permL perm ([] ++ ys)) M2 else .bad) Q))) fun ws s1 ⟨vs, H1, I1, r, ρ1, x, M1, S1, r1, q⟩ => ⟨I1.kIn, ?_⟩) (by rw [k3]; rfl)
  rw [k2]
  exact run_k C hz hr hg tk I1 (us := []) .nil r S1 .nil r1 q
theorem s_callk {d : Nat} {f : Str} {kw : List (Nat × List Str × List Nat)} {g : List PV → Sto → Res PV} {fa : Addr} {fd : FuncData} {ps : List Str} (C : CallAt X.prog X.w X.K X.mg X.base d f kw g fa fd ps) {n : Nat} {ks : List Str} {perm : List Nat} (hz : (n, ks, perm) ∈ kw) {kws : List Keyword}
    (hr : Room d X.A) (hg : X.A.guards = some []) (tk : Takes X W) (hG : Gl X f) (hdb : (f == ("__debug__" : Str)) = false) (ha : PA X (e :: es) (lA X W rs)) (hs : noStar (e :: es) = true) (hk : PK X kws (lK X W rk)) (hn : kwNames ks kws = true) :
    PE X (.Call (.Name f p) (e :: es) kws pos) (lE X W (lCallk g n ks perm rs rk)) := by
  refine ⟨fun pins s σ H Q I h => ?_⟩
  obtain ⟨k1, k2, k3⟩ := kw_all pos X.env hn
  have h1 : isStar e = false := by
    have := List.all_eq_true.mp hs e List.mem_cons_self
    simpa using this
  refine wpAny_Call_Name_kw (ld_glob I hG C.at' ?_ hdb)
  refine PySem.W.callWith_KW (h₀ := X.base) I.ok.mod.kin C.kp k1 (thn (ha.run pos pins s σ H _ I (lR.chain h fun ρ env M x M1 ρ1 v H1 S E e1 S1 E1 r1 h1 => (⟨ρ1, env, x, M1, S1, E1, r1, h1⟩ :
    ∃ ρ1 env xs M1, SM X.K X.mg ρ1 H1 M1 ∧ RE X.K X.mg ρ1 H1 env σ ∧ RVs X.K X.mg ρ1 H1 xs v ∧ PostV X.K X.mg (fun c d H' => W c d σ H') ρ1 H1 ((rk env M1).bind fun ys M2 => if xs.length = n ∧ ys.length = ks.length then g (permL perm (xs ++ ys)) M2 else .bad) Q))) fun us s1 ⟨vs, H1, I1, r, ρ1, env, xs, M1, S1, E1, r1, q⟩ => ?_) (by rw [k3, any_star _ _ hs]; rfl) (star_ne h1 _ _)
  refine thn (hk.run pos pins s1 σ H1 _ I1 ⟨ρ1, env, M1, S1, E1, q.chain fun y M2 ρ2 w H2 e2 S2 r2 h2 => (⟨ρ2, y, M2, S2, r1.mono S1 e2, r2, h2⟩ :
    ∃ ρ2 ys M2, SM X.K X.mg ρ2 H2 M2 ∧ RVs X.K X.mg ρ2 H2 xs vs ∧ RVs X.K X.mg ρ2 H2 ys w ∧ PostV X.K X.mg (fun c d H' => W c d σ H') ρ2 H2 (if xs.length = n ∧ ys.length = ks.length then g (permL perm (xs ++ ys)) M2 else .bad) Q)⟩) fun ws s2 ⟨zs, H2, I2, rz, ρ2, ys, M2, S2, r1', r2, q2⟩ => ⟨I2.kIn, ?_⟩
  rw [k2]
  exact run_k C hz hr hg tk I2 r rz S2 r1' r2 q2
end
end Ev

set_option Elab.async false
set_option linter.all false
set_option maxRecDepth 100000
set_option maxHeartbeats 4000000
/-! EvW: enumerate and zip over lists, tuples, texts, mixed. -/
namespace Ev
open PySem L2 PyProof.Rows

/-- what is walked beneath -/
inductive Sk where
  | lst (a : Addr)
  | tup (a : Addr)
  | txt (z : Str)
def Sk.fp : Sk → List Addr
  | .lst a => [a]
  | .tup a => [a]
  | .txt _ => []
def Sk.at' (k : Sk) (it : Addr) (i : Nat) (h : Heap) : Prop := match k with
  | .lst a => h.IsListIter it a i
  | .tup a => h.IsTupleIter it a i
  | .txt z => ∃ t, h.IsStrIter it (strIterType z) z t i
def Sk.items (K : PySem.W.Frag) (H : Hp) (k : Sk) (xs : List V) : Prop := match k with
  | .lst a => SqL K H a xs
  | .tup a => SqT K H a xs
  | .txt z => xs = z.cps.toList.map fun c => V.str ⟨#[c]⟩
/-- the value that begins it -/
def Sk.of (k : Sk) (u : Value) : Prop := match k with
  | .lst a => u = .ref a
  | .tup a => u = .ref a
  | .txt z => ∃ t, u = .str z t
theorem Sk.live {k : Sk} {it : Addr} {i : Nat} {h : Heap} (x : k.at' it i h) : ∃ o, h.get? it = some o ∧ ∀ v, o.data ≠ .cell v := by
  cases k with
  | lst a => obtain ⟨o, e, _, d⟩ := x; exact ⟨o, e, fun v q => by rw [d] at q; cases q⟩
  | tup a => obtain ⟨o, e, _, d⟩ := x; exact ⟨o, e, fun v q => by rw [d] at q; cases q⟩
  | txt z => obtain ⟨t, o, e, _, d⟩ := x; exact ⟨o, e, fun v q => by rw [d] at q; cases q⟩
theorem Sk.keep {k : Sk} {it : Addr} {i : Nat} {h h' : Heap} (x : k.at' it i h) (q : ∀ o, h.get? it = some o → h'.get? it = some o) : k.at' it i h' := by
  cases k with
  | lst a => exact Heap.IsListIter.at x fun o e => q o e
  | tup a => exact Heap.IsTupleIter.at x fun o e => q o e
  | txt z => obtain ⟨t, o, e, c, d⟩ := x; exact ⟨t, o, q o e, c, d⟩
section
variable {X : Cx} {pins : List (Addr × Obj)} {σ : L2.St} {H : Hp} {s : Shared} {k : Sk} {xs ys : List V}
theorem Sk.inj (I : Inv X pins σ H s) (h : k.items X.K H xs) (h' : k.items X.K H ys) : xs = ys := by
  cases k with
  | lst a => exact I.list_inj h h'
  | tup a => exact I.tuple_inj h h'
  | txt z => exact h.trans h'.symm
theorem Sk.draws {A : Around} (hh : A.handled = none) (I : Inv X pins σ H s) (hk : k.items X.K H xs) {it : Addr} (hne : it ∉ k.fp) {i0 : Nat} (x0 : k.at' it i0 s.heap) :
    ∃ (P : Nat → Value → Prop) (St : Nat → Heap → Prop), Draws X.prog X.w A it (it :: k.fp) xs.length P St ∧ St i0 s.heap ∧ (∀ i h, St i h → k.at' it i h) ∧ ∀ i v, P i v → ∃ x, xs[i]? = some x ∧ RelV x v := by
  cases k with
  | lst a =>
    obtain ⟨its, rv, p, _⟩ := I.list hk
    have hl : its.toArray.size = xs.length := by rw [List.size_toArray]; exact rv.length.symm
    refine ⟨fun i v => its.toArray[i]? = some v, fun i h => h.IsListIter it a i ∧ h.IsList a its.toArray, by rw [← hl]; exact Draws.list hh it a (fun e => hne (by simp [Sk.fp, e])) its.toArray, ⟨x0, p.isList⟩, fun i h q => q.1, fun i v hv => ?_⟩
    have hv : its[i]? = some v := by simpa using hv
    have hi : i < xs.length := by
      have := (List.getElem?_eq_some_iff.mp hv).1
      rw [← rv.length] at this; exact this
    obtain ⟨u, e1, e2⟩ := rv.get (List.getElem?_eq_getElem hi)
    rw [hv] at e1; cases e1
    exact ⟨_, List.getElem?_eq_getElem hi, e2⟩
  | tup a =>
    obtain ⟨its, rv, p, _⟩ := I.tuple hk
    have hl : its.toArray.size = xs.length := by rw [List.size_toArray]; exact rv.length.symm
    refine ⟨fun i v => its.toArray[i]? = some v, fun i h => h.IsTupleIter it a i ∧ h.IsTuple a its.toArray, by rw [← hl]; exact Draws.tuple hh it a (fun e => hne (by simp [Sk.fp, e])) its.toArray, ⟨x0, p⟩, fun i h q => q.1, fun i v hv => ?_⟩
    have hv : its[i]? = some v := by simpa using hv
    have hi : i < xs.length := by
      have := (List.getElem?_eq_some_iff.mp hv).1
      rw [← rv.length] at this; exact this
    obtain ⟨u, e1, e2⟩ := rv.get (List.getElem?_eq_getElem hi)
    rw [hv] at e1; cases e1
    exact ⟨_, List.getElem?_eq_getElem hi, e2⟩
  | txt z =>
    obtain ⟨t, x0⟩ := x0
    have hk : xs = z.cps.toList.map fun c => V.str ⟨#[c]⟩ := hk
    subst hk
    have hl : z.cps.size = (z.cps.toList.map fun c => V.str ⟨#[c]⟩).length := by simp
    refine ⟨fun i v => ∃ c u, z.cps[i]? = some c ∧ v = .str ⟨#[c]⟩ u, fun i h => h.IsStrIter it (strIterType z) z t i, by rw [← hl]; exact Draws.text hh it z t, x0, fun i h q => ⟨t, q⟩, fun i v hv => ?_⟩
    obtain ⟨c, u, e, rfl⟩ := hv
    exact ⟨.str ⟨#[c]⟩, by simp [e], ⟨u, rfl⟩⟩
theorem Sk.begins (I : Inv X pins σ H s) (hk : k.items X.K H xs) {u : Value} (hu : k.of u) : ∃ (o : Obj) (Hs : Heap → Prop), Begins u o Hs ∧ Hs s.heap ∧ (∀ b ∈ k.fp, b < s.heap.objs.size) ∧ ∀ it h, h.get? it = some o → k.at' it 0 h := by
  cases k with
  | lst a =>
    obtain ⟨its, rv, p, _⟩ := I.list hk
    cases hu
    exact ⟨_, _, begins_list a its.toArray, p.isList, fun b hb => (show b = a by simpa [Sk.fp] using hb) ▸ p.lt, fun it h e => ⟨_, e, rfl, rfl⟩⟩
  | tup a =>
    obtain ⟨its, rv, p, _⟩ := I.tuple hk
    cases hu
    obtain ⟨o1, ho1, _⟩ := id p
    exact ⟨_, _, begins_tuple a its.toArray, p, fun b hb => (show b = a by simpa [Sk.fp] using hb) ▸ Heap.lt_size ho1, fun it h e => ⟨_, e, rfl, rfl⟩⟩
  | txt z =>
    obtain ⟨t, rfl⟩ := hu
    exact ⟨_, _, begins_text z t, trivial, fun b hb => by simp [Sk.fp] at hb, fun it h e => ⟨t, _, e, rfl, rfl⟩⟩
/-! ### enumerate -/
/-- what is walked as it stands at each turn, each item in a new pair with its number -/
def Iye (K : PySem.W.Frag) (k : Sk) : It :=
  ⟨fun i H => ∃ (xs : List V) (x : V), k.items K H xs ∧ xs[i]? = some x, fun i H v H' => ∃ T x, v = .ref T ∧ H T = none ∧ H' = upd H T (.tup [.int (i : Nat), x]) ∧ ∀ xs, k.items K H xs → xs[i]? = some x, fun i H => ∃ xs : List V, k.items K H xs ∧ i = xs.length⟩
theorem turn_enumW {P : Program} {w : World} {K : PySem.W.Frag} {elts : List Expr} {kk : Nat} {tpos : Pos} (k : Sk) (e it : Addr) (hei : e ≠ it) (hef : e ∉ k.fp) (hif : it ∉ k.fp) :
    Turn P w K (.Tuple elts kk tpos) (Iye K k) [e, it] e (fun i h => (∃ old, IsEnum h e it ((i : Nat) : Int) old) ∧ k.at' it i h) where
  mem := by simp
  obj := fun i h st b hb => by
    obtain ⟨⟨old, he⟩, hi⟩ := st
    have e' : b = e ∨ b = it := by simpa using hb
    rcases e' with z | z
    · rw [z]; exact ⟨_, he, fun v q => nomatch q⟩
    · rw [z]; exact Sk.live hi
  keep := fun i h h' st q => let ⟨⟨old, he⟩, hi⟩ := st; ⟨⟨old, q e (by simp) _ he⟩, Sk.keep hi fun o z => q it (by simp) o z⟩
  item := by
    intro X hP hw hK hc i pins s σ H E I hf st hg
    subst hP hw hK
    obtain ⟨⟨old, he⟩, hit⟩ := st
    obtain ⟨xs, x, hq, hx⟩ := hg
    obtain ⟨Pd, Sd, D, st0, back, rel⟩ := Sk.draws (A := X.A.in1) (I.ok.hd hc) I hq hif hit
    have hel : e < s.heap.objs.size := Heap.lt_size he
    have hil : it < s.heap.objs.size := by obtain ⟨_, q, _⟩ := Sk.live hit; exact Heap.lt_size q
    have hlt : i < xs.length := (List.getElem?_eq_some_iff.mp hx).1
    have W := WalksT.enumerateD D e hei (by simp [hei, hef]) (by simp)
    refine W.item i s _ _ hlt ⟨⟨old, he⟩, st0⟩ fun T vals h' tk hP hle hT hm hk => ⟨_, rfl, W.go elts kk tpos i T { s with heap := h', toks := tk } _ _ hm fun h'' st'' hk'' => ?_⟩
    obtain ⟨t, u, hPu, rfl⟩ := hP
    obtain ⟨y, hy, ry⟩ := rel i u hPu
    rw [hx] at hy
    cases hy
    have hT2 : h''.IsTuple T #[.int i t, u] := hT.at fun o q => hk'' T o (W.apart i T h' hm) q
    have new : ObjOk X.prog X.w (upd H T (.tup [.int (i : Nat), x])) h'' T (.tup [.int (i : Nat), x]) := ⟨by show 2 ≤ sizeLine; decide, [.int i t, u], .cons ⟨_, rfl⟩ (.cons ry .nil), hT2⟩
    have I1 : Inv X pins σ (upd H T (.tup [.int (i : Nat), x])) { s with heap := h'', toks := tk } :=
      I.turnedNew (ch := [e, it]) (fun b ob hb q => hk'' b ob hb (hk b ob hb q)) hf hle new
    refine ⟨.ref T, _, I1, rfl, ⟨T, x, rfl, I.hok.fresh hle, rfl, fun ys hy => by rw [Sk.inj I hy hq]; exact hx⟩, ⟨?_, back _ _ st''.2⟩, fun b hb => ?_⟩
    · have e1 : ((i + 1 : Nat) : Int) = (i : Int) + 1 := by omega
      obtain ⟨o2, q⟩ := st''.1
      exact ⟨o2, q⟩
    · have hb' : b < s.heap.objs.size := by
        have e' : b = e ∨ b = it := by simpa using hb
        rcases e' with z | z
        · rw [z]; exact hel
        · rw [z]; exact hil
      rw [upd_ne (Nat.ne_of_lt (Nat.lt_of_lt_of_le hb' hle))]
      exact (hf b hb).1
  done := by
    intro X hP hw hK hc i pins s σ H E I hf st hg
    subst hP hw hK
    obtain ⟨⟨old, he⟩, hit⟩ := st
    obtain ⟨xs, hq, rfl⟩ := hg
    obtain ⟨Pd, Sd, D, st0, back, rel⟩ := Sk.draws (A := X.A.in1) (I.ok.hd hc) I hq hif hit
    have W := WalksT.enumerateD D e hei (by simp [hei, hef]) (by simp)
    exact W.done s _ _ ⟨⟨old, he⟩, st0⟩ fun h' tk hk => ⟨rfl, I.turnedL (t' := tk) (ch := [e, it]) hk hf⟩
  self := fun A i s Q E st h => let ⟨⟨_, he⟩, _⟩ := st; wpAny_pyIter_enum he h
/-! ### zip -/
def Iyz (K : PySem.W.Frag) (k l : Sk) : It :=
  ⟨fun i H => ∃ (xs ys : List V) (x y : V), k.items K H xs ∧ l.items K H ys ∧ xs[i]? = some x ∧ ys[i]? = some y,
    fun i H v H' => ∃ T x y, v = .ref T ∧ H T = none ∧ H' = upd H T (.tup [x, y]) ∧ (∀ xs, k.items K H xs → xs[i]? = some x) ∧ ∀ ys, l.items K H ys → ys[i]? = some y,
    fun i H => ∃ xs ys : List V, k.items K H xs ∧ l.items K H ys ∧ i = min xs.length ys.length⟩
theorem turn_zipW {P : Program} {w : World} {K : PySem.W.Frag} {elts : List Expr} {kk : Nat} {tpos : Pos} (k l : Sk) (z TI TO i1 i2 : Addr) (S : ZipSep2 z TI TO i1 i2 (i1 :: k.fp) (i2 :: l.fp)) (n1 : i1 ∉ k.fp) (n2 : i2 ∉ l.fp) :
    Turn P w K (.Tuple elts kk tpos) (Iyz K k l) [z, TI, TO, i1, i2] z (fun i h => IsZip h z TI TO .none ∧ IsTupOf2 h TI (.ref i1) (.ref i2) ∧ (∃ x y, IsTupOf2 h TO x y) ∧ k.at' i1 i h ∧ l.at' i2 i h) where
  mem := by simp
  obj := fun i h st c hc => by
    obtain ⟨hz, hTI, ⟨x, y, hTO⟩, h1, h2⟩ := st
    have e' : c = z ∨ c = TI ∨ c = TO ∨ c = i1 ∨ c = i2 := by simpa using hc
    rcases e' with q | q | q | q | q
    · rw [q]; exact ⟨_, hz, fun v q => nomatch q⟩
    · rw [q]; exact ⟨_, hTI, fun v q => nomatch q⟩
    · rw [q]; exact ⟨_, hTO, fun v q => nomatch q⟩
    · rw [q]; exact Sk.live h1
    · rw [q]; exact Sk.live h2
  keep := fun i h h' st q => by
    obtain ⟨hz, hTI, ⟨x, y, hTO⟩, h1, h2⟩ := st
    exact ⟨q z (by simp) _ hz, q TI (by simp) _ hTI, ⟨x, y, q TO (by simp) _ hTO⟩, Sk.keep h1 fun o e => q i1 (by simp) o e, Sk.keep h2 fun o e => q i2 (by simp) o e⟩
  item := by
    intro X hP hw hK hc i pins s σ H E I hf st hg
    subst hP hw hK
    obtain ⟨hz, hTI, ⟨x0, y0, hTO⟩, h1, h2⟩ := st
    obtain ⟨xs, ys, x, y, hqx, hqy, hx, hy⟩ := hg
    obtain ⟨P1, S1, D1, s1, b1, r1⟩ := Sk.draws (A := X.A.in1) (I.ok.hd hc) I hqx n1 h1
    obtain ⟨P2, S2, D2, s2, b2, r2⟩ := Sk.draws (A := X.A.in1) (I.ok.hd hc) I hqy n2 h2
    have l1 : i < xs.length := (List.getElem?_eq_some_iff.mp hx).1
    have l2 : i < ys.length := (List.getElem?_eq_some_iff.mp hy).1
    have W := WalksT.zipD2 S D1 D2
    refine W.item i s _ _ (by omega) ⟨hz, hTI, ⟨x0, y0, hTO⟩, s1, s2⟩ fun T vals h' tk hP hle hT hm hk => ⟨_, rfl, W.go elts kk tpos i T { s with heap := h', toks := tk } _ _ hm fun h'' st'' hk'' => ?_⟩
    obtain ⟨u, v, hu, hv, rfl⟩ := hP
    obtain ⟨x', hx', ru⟩ := r1 i u hu
    obtain ⟨y', hy', rv⟩ := r2 i v hv
    rw [hx] at hx'; cases hx'
    rw [hy] at hy'; cases hy'
    have hT2 : h''.IsTuple T #[u, v] := hT.at fun o q => hk'' T o (W.apart i T h' hm) q
    have new : ObjOk X.prog X.w (upd H T (.tup [x, y])) h'' T (.tup [x, y]) := ⟨by show 2 ≤ sizeLine; decide, [u, v], .cons ru (.cons rv .nil), hT2⟩
    have wr : ∀ b, b ∉ [z, TI, TO, i1, i2] → b ∉ [z, TO, i1, i2] := fun b hb q => hb (by simp only [List.mem_cons, List.mem_nil_iff, or_false] at q ⊢; rcases q with q | q | q | q <;> simp [q])
    have I1 : Inv X pins σ (upd H T (.tup [x, y])) { s with heap := h'', toks := tk } :=
      I.turnedNew (ch := [z, TI, TO, i1, i2]) (fun b ob hb q => hk'' b ob (wr b hb) (hk b ob (wr b hb) q)) hf hle new
    obtain ⟨a1, a2, ⟨c1, c2, a3⟩, a4, a5⟩ := st''
    refine ⟨.ref T, _, I1, rfl, ⟨T, x, y, rfl, I.hok.fresh hle, rfl, fun q hq => by rw [Sk.inj I hq hqx]; exact hx, fun q hq => by rw [Sk.inj I hq hqy]; exact hy⟩, ⟨a1, a2, ⟨c1, c2, a3⟩, b1 _ _ a4, b2 _ _ a5⟩, fun b hb => ?_⟩
    have hlt : b < s.heap.objs.size := by
      have e' : b = z ∨ b = TI ∨ b = TO ∨ b = i1 ∨ b = i2 := by simpa using hb
      rcases e' with q | q | q | q | q
      · rw [q]; exact Heap.lt_size hz
      · rw [q]; exact Heap.lt_size hTI
      · rw [q]; exact Heap.lt_size hTO
      · rw [q]; obtain ⟨_, e1, _⟩ := Sk.live h1; exact Heap.lt_size e1
      · rw [q]; obtain ⟨_, e1, _⟩ := Sk.live h2; exact Heap.lt_size e1
    rw [upd_ne (Nat.ne_of_lt (Nat.lt_of_lt_of_le hlt hle))]
    exact (hf b hb).1
  done := by
    intro X hP hw hK hc i pins s σ H E I hf st hg
    subst hP hw hK
    obtain ⟨hz, hTI, ⟨x0, y0, hTO⟩, h1, h2⟩ := st
    obtain ⟨xs, ys, hqx, hqy, rfl⟩ := hg
    obtain ⟨P1, S1, D1, s1, b1, r1⟩ := Sk.draws (A := X.A.in1) (I.ok.hd hc) I hqx n1 h1
    obtain ⟨P2, S2, D2, s2, b2, r2⟩ := Sk.draws (A := X.A.in1) (I.ok.hd hc) I hqy n2 h2
    have W := WalksT.zipD2 S D1 D2
    have wr : ∀ b, b ∉ [z, TI, TO, i1, i2] → b ∉ [z, TO, i1, i2] := fun b hb q => hb (by simp only [List.mem_cons, List.mem_nil_iff, or_false] at q ⊢; rcases q with q | q | q | q <;> simp [q])
    exact W.done s _ _ ⟨hz, hTI, ⟨x0, y0, hTO⟩, s1, s2⟩ fun h' tk hk => ⟨rfl, I.turnedL (t' := tk) (ch := [z, TI, TO, i1, i2]) (fun b o hb q => hk b o (wr b hb) q) hf⟩
  self := fun A i s Q E st h => wpAny_pyIter_zip st.1 h
end
/-! ### how they begin -/
set_option maxHeartbeats 1000000 in
theorem meets_enum1 {v : Value} {o : Obj} {H : Heap → Prop} (B : Begins v o H) :
    Meets (Builtin.«enumerate.__new__» ⟨[.type "enumerate", v], []⟩) (fun _ R s => H s.heap ∧
      R (.ok (.ret (.ref (s.heap.push o).objs.size))) { s with heap := (s.heap.push o).push { cls := .type "enumerate", data := .fields #[.none, .bool false, .ref s.heap.objs.size, rawInt 0, .none, .none] } }) :=
  .of_wp fun prog w A R s h => by
    obtain ⟨hp, g, d, tk, os⟩ := s; obtain ⟨h1, h⟩ := h
    have hsub := sub_enumerate
    have q1 : ∀ {A' : Around} {E : Value → Shared → Prop} {Q : Value → Shared → Prop}, Q (.ref hp.objs.size) ⟨hp.push o, g, d, tk, os⟩ → wpAny (model prog w) A' (pyIter v) Q E ⟨hp, g, d, tk, os⟩ :=
      fun q => B.iter prog w _ _ ⟨hp, g, d, tk, os⟩ _ h1 q
    wp_walk using q1
    refine wpAny_stack_any fun st => wpAny_pure ?_
    split
    · rename_i c _ _ _ _ _
      cases (c == Value.type "enumerate")
      · wp_walk using q1
        exact ⟨_, rfl, h⟩
      · wp_walk using q1
        exact ⟨_, rfl, h⟩
    · wp_walk using q1
      exact ⟨_, rfl, h⟩
section
variable {prog : Program} {w : World} {A : Around} {E : Value → Shared → Prop} {s : Shared}
theorem enum_begin1 {v : Value} {o : Obj} {H : Heap → Prop} {Q : Value → Shared → Prop} (B : Begins v o H) (h1 : H s.heap)
    (h : ∀ h', IsEnum h' (s.heap.objs.size + 1) s.heap.objs.size 0 .none → h'.get? s.heap.objs.size = some o → h'.objs.size = s.heap.objs.size + 2 →
      (∀ b o, s.heap.get? b = some o → h'.get? b = some o) → Q (.ref (s.heap.objs.size + 1)) { s with heap := h' }) :
    wpAny (model prog w) A (call (.type "enumerate") [v]) Q E s := by
  refine callType_new F.called_enumerate (by decide) (F.typeCall_enumerate_1 _) (F.newCall_enumerate_1 _) (fun obj => F.args_object_init_2 obj _) F.entry_enumerate_new
    (meets_enum1 B) ⟨h1, ?_⟩
  have hz : (s.heap.push o).objs.size = s.heap.objs.size + 1 := Heap.size_push ..
  show _ ∧ _
  rw [hz]
  have he : IsEnum ((s.heap.push o).push { cls := .type "enumerate", data := .fields #[.none, .bool false, .ref s.heap.objs.size, rawInt 0, .none, .none] }) (s.heap.objs.size + 1) s.heap.objs.size 0 .none := by
    have := Heap.get?_push_size (s.heap.push o) (o := { cls := .type "enumerate", data := .fields #[.none, .bool false, .ref s.heap.objs.size, rawInt 0, .none, .none] }) rfl
    rw [hz] at this; exact this
  refine ⟨⟨_, he, rfl⟩, h _ he (Heap.get?_push_of_some _ (Heap.get?_push_size _ B.free)) (by rw [Heap.size_push, hz]) fun b o x => Heap.get?_push_of_some _ (Heap.get?_push_of_some _ x)⟩
end
/-- the key of a value that is walked -/
def SkV (k : Sk) (v : V) : Prop := match k with
  | .lst a => v = .ref a
  | .tup a => v = .ref a
  | .txt z => v = .str z
theorem SkV.of {k : Sk} {v : V} {u : Value} (h : SkV k v) (r : RelV v u) : k.of u := by
  cases k with
  | lst a => cases h; cases r; rfl
  | tup a => cases h; cases r; rfl
  | txt z => cases h; exact r
section
variable {X : Cx} {e e2 : Expr} {ta : TA} {p pos tpos : Pos} {elts : List Expr} {kk : Nat}
theorem pi_enumW (hg : Gl X "enumerate") (hm : X.mg "enumerate" = none) (ha : PA X [e] ta) (hs : starEach [e] X.env = [(false, eval e X.env)]) :
    PI X (.Tuple elts kk tpos) (.Call (.Name "enumerate" p) [e] [] pos) (fun σ H R => ta σ H fun vs H1 => ∃ v k xs, vs = [v] ∧ SkV k v ∧ k.items X.K H1 xs ∧ R (Iye X.K k) H1) := by
  refine ⟨fun pins s σ H R I h => ?_⟩
  refine Call_ (ld_blt I hg hm boot_enumerate (PyProof.Rows.callWith_type1 (thn (ha.run pos pins s σ H _ I h) fun us s1 ⟨vs, H1, I1, r1, q1⟩ => ?_) hs rfl))
  obtain ⟨v, k, xs, ex, hv, hq, q⟩ := q1
  subst ex
  cases r1 with
  | cons r rr =>
    cases rr
    obtain ⟨o, Hs, B, b1, b2, b3⟩ := Sk.begins I1 hq (hv.of r)
    refine enum_begin1 B b1 fun h' he hit hsz hk => wpAny_pyIter_enum he ?_
    have I2 : Inv X pins σ H1 { s1 with heap := h' } := I1.kept (t' := s1.toks) hk
    have f1 : s1.heap.objs.size ∉ k.fp := fun z => Nat.lt_irrefl _ (b2 _ z)
    have f2 : s1.heap.objs.size + 1 ∉ k.fp := fun z => absurd (b2 _ z) (Nat.not_lt.mpr (Nat.le_add_right _ _))
    refine ⟨s1.heap.objs.size + 1, [s1.heap.objs.size + 1, s1.heap.objs.size], _, _, H1, rfl, I2, turn_enumW k (s1.heap.objs.size + 1) s1.heap.objs.size (Nat.succ_ne_self _) f2 f1, ⟨⟨.none, he⟩, b3 _ _ hit⟩, fun b hb => ?_, q⟩
    have e' : b = s1.heap.objs.size + 1 ∨ b = s1.heap.objs.size := by simpa using hb
    have hle : s1.heap.objs.size ≤ b := by
      rcases e' with z | z
      · rw [z]; exact Nat.le_add_right _ _
      · rw [z]; exact Nat.le_refl _
    exact I1.fpOk hle (I1.hok.fresh hle)
theorem pi_zipW (hg : Gl X "zip") (hm : X.mg "zip" = none) (ha : PA X [e, e2] ta) (hs : starEach [e, e2] X.env = (false, eval e X.env) :: starEach [e2] X.env) (hpl : (backTo pos (starEach [e2] X.env)).any (·.1) = false) :
    PI X (.Tuple elts kk tpos) (.Call (.Name "zip" p) [e, e2] [] pos) (fun σ H R => ta σ H fun vs H1 => ∃ v w k l xs ys, vs = [v, w] ∧ SkV k v ∧ SkV l w ∧ k.items X.K H1 xs ∧ l.items X.K H1 ys ∧ R (Iyz X.K k l) H1) := by
  refine ⟨fun pins s σ H R I h => ?_⟩
  refine Call_ (ld_blt I hg hm PyProof.Rows.boot_zip (PyProof.Rows.callWith_type1 (thn (ha.run pos pins s σ H _ I h) fun us s1 ⟨vs, H1, I1, r1, q1⟩ => ?_) hs hpl))
  obtain ⟨v, w, k, l, xs, ys, ex, hv, hw, hqx, hqy, q⟩ := q1
  subst ex
  cases r1 with
  | cons r rr =>
    cases rr with
    | cons r' rr =>
      cases rr
      obtain ⟨o, Hs, B, b1, b2, b3⟩ := Sk.begins I1 hqx (hv.of r)
      obtain ⟨o', Hs', B', c1, c2, c3⟩ := Sk.begins I1 hqy (hw.of r')
      refine zip_begins2 B B' b1 c1 fun h' hz hTI hTO g1 g2 hsz hk => wpAny_pyIter_zip hz ?_
      have I2 : Inv X pins σ H1 { s1 with heap := h' } := I1.kept (t' := s1.toks) hk
      refine ⟨s1.heap.objs.size + 4, [s1.heap.objs.size + 4, s1.heap.objs.size + 2, s1.heap.objs.size + 3, s1.heap.objs.size, s1.heap.objs.size + 1], _, _, H1, rfl, I2,
        turn_zipW k l _ _ _ _ _ (zip_sep2 b2 c2) (fun z => Nat.lt_irrefl _ (b2 _ z)) (fun z => absurd (c2 _ z) (Nat.not_lt.mpr (Nat.le_add_right _ _))), ⟨hz, hTI, ⟨_, _, hTO⟩, b3 _ _ g1, c3 _ _ g2⟩, fun c hcm => ?_, q⟩
      have e' : c = s1.heap.objs.size + 4 ∨ c = s1.heap.objs.size + 2 ∨ c = s1.heap.objs.size + 3 ∨ c = s1.heap.objs.size ∨ c = s1.heap.objs.size + 1 := by simpa using hcm
      have hle : s1.heap.objs.size ≤ c := by
        rcases e' with z | z | z | z | z
        · rw [z]; exact Nat.le_add_right _ _
        · rw [z]; exact Nat.le_add_right _ _
        · rw [z]; exact Nat.le_add_right _ _
        · rw [z]; exact Nat.le_refl _
        · rw [z]; exact Nat.le_add_right _ _
      exact I1.fpOk hle (I1.hok.fresh hle)
end
end Ev

set_option Elab.async false
set_option linter.all false
set_option maxRecDepth 100000
set_option maxHeartbeats 4000000
/-! EvL: len(set(xs)), xs a list or tuple of numbers and texts (printed by genL.py). -/
namespace Ev
open PySem L2 PyProof.Rows

theorem memB_app (k j : Key) (l : List Key) : memB k (l ++ [j]) = (memB k l || decide (j = k)) := by simp [memB]
theorem uniq_app (ks : List Key) (k : Key) : uniq (ks ++ [k]) = if memB k (uniq ks) = true then uniq ks else uniq ks ++ [k] := by
  unfold uniq
  rw [List.foldl_append]
  rfl
theorem uniq_len : ∀ (ks acc : List Key), (ks.foldl (fun acc k => if memB k acc = true then acc else acc ++ [k]) acc).length ≤ acc.length + ks.length
  | [], acc => Nat.le_refl _
  | k :: ks, acc => by
    rw [List.foldl_cons]
    have := uniq_len ks (if memB k acc = true then acc else acc ++ [k])
    have h2 : (if memB k acc = true then acc else acc ++ [k]).length ≤ acc.length + 1 := by split <;> simp
    simp only [List.length_cons]
    omega
theorem setOf_congr {prog : Program} {w : World} {h : Heap} {a : Addr} {S S' : Key → Bool} {n n' : Nat} (hS : h.SetOf (mixKind prog w) a S n) (e : ∀ k, S k = S' k) (en : n = n') : h.SetOf (mixKind prog w) a S' n' := by
  have : S = S' := funext e
  subst this; subst en; exact hS
theorem key_scan' {k : Key} {v : Value} (h : keyIs k v = true) : v.scannable = true := by
  rcases keyIs_shape h with ⟨i, t, rfl, rfl⟩ | ⟨x, t, rfl, rfl⟩ <;> rfl
section
variable {prog : Program} {w : World} {A : Around} {R : Result → Shared → Prop} {I : Addr} {fp wr : List Addr} {G : Array GenState → Array GenState → Prop} {n : Nat} {P : Nat → Value → Prop} {Sd : Nat → Shared → Prop}
theorem loopK (W : WalksS prog w A.in1 I fp wr G n P Sd) (S : Addr) (hSf : S ∉ fp) (ks : List Key) (hsz : ks.length = n) (hn1 : n + 1 < scanBound)
    (hval : ∀ i v, P i v → ∃ k, ks[i]? = some k ∧ keyIs k v = true) :
    ∀ (m i : Nat) (s : Shared), n - i = m → i ≤ n → Sd i s →
      s.heap.SetOf (mixKind prog w) S (fun k' => memB k' (uniq (ks.take i))) (uniq (ks.take i)).length →
      (∀ s', Moved (S :: wr) G s s' → s'.heap.SetOf (mixKind prog w) S (fun k' => memB k' (uniq ks)) (uniq ks).length → R (.ok (.ret .none)) s') →
      codeAny (model prog w) A (.builtin "set.update.loop" ⟨[.ref S, .ref I], []⟩) R s := by
  have hSw : S ∉ wr := fun h => hSf (W.sub _ h)
  have hsub : ∀ b ∈ wr, b ∈ S :: wr := fun b hb => List.mem_cons_of_mem _ hb
  intro m
  induction m with
  | zero =>
    intro i s hk hi hst hS hR
    have hin : i = n := by omega
    subst hin
    refine codeAny_builtin PyProof.Rows.F.entry_set_update_loop ?_
    rw [Around.under_plainId PyProof.Rows.F.plain_set_update_loop _]
    show wpAny _ A.in1 (pyNext (.ref I) >>= _) _ _ s
    refine wpAny_bind (W.done s _ _ hst fun s' hm => ?_)
    show wpAny _ A.in1 (ret Value.none) _ _ s'
    rw [← hsz, List.take_length] at hS
    exact wpAny_pure (hR s' (hm.mono hsub) (by
      obtain ⟨o, es, ep, t, ho, rest⟩ := hS
      exact ⟨o, es, ep, t, hm.heap S _ hSw ho, rest⟩))
  | succ m ih =>
    intro i s hk hi hst hS hR
    have hlt : i < n := by omega
    refine codeAny_builtin PyProof.Rows.F.entry_set_update_loop ?_
    rw [Around.under_plainId PyProof.Rows.F.plain_set_update_loop _]
    show wpAny _ A.in1 (pyNext (.ref I) >>= _) _ _ s
    refine wpAny_bind (W.item i s _ _ hlt hst fun v s' hP hst' hm => ?_)
    obtain ⟨k, hk1, hk2⟩ := hval i v hP
    have hS' : s'.heap.SetOf (mixKind prog w) S (fun k' => memB k' (uniq (ks.take i))) (uniq (ks.take i)).length := by
      obtain ⟨o, es, ep, tb, ho, rest⟩ := hS
      exact ⟨o, es, ep, tb, hm.heap S _ hSw ho, rest⟩
    have hul : (uniq (ks.take i)).length ≤ i := by
      have := uniq_len (ks.take i) []
      simp at this
      unfold uniq
      omega
    have htk : ks.take (i + 1) = ks.take i ++ [k] := by
      rw [List.take_succ, hk1]; rfl
    show wpAny _ A.in1 (holding [v] (setAdd S v) >>= _) _ _ s'
    refine wpAny_bind (wpAny_holding ?_)
    unfold setAdd
    refine wpAny_holding ?_
    refine wpAny_bind ((mixKind prog w).pyHash (k := k) hk2 ?_)
    refine wpAny_setAddHashed_of (knd := mixKind prog w) (s := { s' with toks := s'.toks + 1 }) hk2 (key_scan' hk2) hS' (by omega) fun h' hsb hS2 => ?_
    have hSi : h'.SetOf (mixKind prog w) S (fun k' => memB k' (uniq (ks.take (i + 1)))) (uniq (ks.take (i + 1))).length := by
      refine setOf_congr hS2 (fun k' => ?_) ?_
      · rw [htk, uniq_app]
        by_cases e : memB k (uniq (ks.take i)) = true
        · rw [if_pos e]
          by_cases e2 : k' = k
          · subst e2; simp [e]
          · simp [e2]
        · rw [if_neg e, memB_app]
          congr 1
          exact decide_eq_decide.mpr ⟨fun q => q.symm, fun q => q.symm⟩
      · rw [htk, uniq_app]
        by_cases e : memB k (uniq (ks.take i)) = true
        · simp [e]
        · simp [e]
    refine wpAny_pure ⟨plainId_quiet PyProof.Rows.F.plain_set_update_loop _, ih (i + 1) _ (by omega) hlt (W.frame _ s' _ _ hst' (Nat.le_succ _) fun b hb o e => ?_) hSi fun s'' hm'' hS'' => ?_⟩
    · rw [hsb.2 b (fun h : b = S => hSf (by rw [← h]; exact hb))]; exact e
    · refine hR s'' (Moved.trans W.gtrans ((hm.mono hsub).then_heap (Nat.le_succ _) fun b o hb e => ?_) hm'') hS''
      rw [hsb.2 b (fun h : b = S => hb (by rw [h]; exact List.mem_cons_self))]; exact e
end
/-- items and keys -/
def KeysAre (its : List Value) (ks : List Key) : Prop := Paired (fun (v : Value) (k : Key) => keyIs k v = true) its ks
theorem KeysAre.at' {its : List Value} {ks : List Key} (h : KeysAre its ks) : ∀ {i : Nat} {v : Value}, its[i]? = some v → ∃ k, ks[i]? = some k ∧ keyIs k v = true := by
  induction h with
  | nil => intro i v e; simp at e
  | cons a r ih =>
    intro i v e
    cases i with
    | zero => simp at e; subst e; exact ⟨_, rfl, a⟩
    | succ i => simpa using ih (by simpa using e)
theorem KeysAre.len {its : List Value} {ks : List Key} (h : KeysAre its ks) : its.length = ks.length := Paired.length h
section
variable {prog : Program} {w : World} {A : Around} {E : Value → Shared → Prop} {s : Shared}
set_option maxHeartbeats 3200000 in
theorem call_set_listK {l : Addr} {items : Array Value} {ks : List Key} {Q : Value → Shared → Prop}
    (hh : A.handled = none) (hl : s.heap.IsList l items) (hi : KeysAre items.toList ks) (hn1 : ks.length + 1 < scanBound)
    (h : ∀ (h' : Heap) (tk : Nat), h'.SetOf (mixKind prog w) s.heap.objs.size (fun k' => memB k' (uniq ks)) (uniq ks).length →
      (∀ b o, b < s.heap.objs.size → s.heap.get? b = some o → h'.get? b = some o) → Q (.ref s.heap.objs.size) { s with heap := h', toks := tk }) :
    wpAny (model prog w) A (call (.type "set") [.ref l]) Q E s := by
  obtain ⟨c, tl, hmro⟩ := PySem.F.called_set.mro
  have hmade := PySem.F.called_set.made
  have hsub := PySem.F.called_set.sub
  refine wpAny_call (codeAny_of_tree ?_)
  show wpAny _ _ (callAny (.type "set") _) _ _ _
  refine wpAny_pure ⟨Code.quiet_builtin _ (by decide +kernel), codeAny_builtin PySem.F.entry_type_call ?_⟩
  rw [Around.under_plain (weight_type_call_type "set" [.ref l] []) rfl]
  have h1 := PySem.F.called_set.notType
  have h2 := PySem.F.called_set.canCreate
  have hct := PySem.F.typeCall_set_1 (.ref l)
  repeat (any_goals (first | assumption | wp_step))
  refine codeAny_mono (code_set_new_1 (.ref l) (E := E) (Q₁ := fun obj s₁ => ∃ led : Bool, obj = .ref s.heap.objs.size ∧ s₁ = { s with heap := s.heap.push { cls := .type "set", dict := none, data := .set #[] 0 (.fresh 0 0 led) } }) fun led => ⟨led, rfl, rfl⟩) fun r s₁ hr => ?_
  cases r with
  | error e => exact hr
  | ok fl =>
    cases fl with
    | ret obj =>
      obtain ⟨led, rfl, rfl⟩ := hr
      have hS : (s.heap.push { cls := .type "set", dict := none, data := .set #[] 0 (.fresh 0 0 led) }).get? s.heap.objs.size = some { cls := .type "set", dict := none, data := .set #[] 0 (.fresh 0 0 led) } := Heap.get?_push_size _ rfl
      have hT : Shared.TypeIs { s with heap := s.heap.push { cls := .type "set", dict := none, data := .set #[] 0 (.fresh 0 0 led) } } (.ref s.heap.objs.size) "set" := ⟨_, hS, rfl⟩
      have hli := PySem.F.called_set.init.lookup
      have hbi := PySem.F.called_set.init.bind (.ref s.heap.objs.size)
      repeat (any_goals (first | assumption | wp_step))
      refine codeAny_mono (codeAny_call_builtin (R := wants (fun r s₂ => r = .none ∧ ∃ h' tk, s₂ = { s with heap := h', toks := tk } ∧
          h'.SetOf (mixKind prog w) s.heap.objs.size (fun k' => memB k' (uniq ks)) (uniq ks).length ∧
          (∀ b o, b < s.heap.objs.size → s.heap.get? b = some o → h'.get? b = some o)) E) PySem.F.called_set.init.plain PySem.F.entry_set_init (check_set_init_1 hT ?_)) fun r₂ s₂ hr₂ => ?_
      · obtain ⟨ol, hol, hcl, nl, hdl⟩ := hl
        obtain ⟨ocls, odict, odata, oslots⟩ := ol
        simp only at hcl hdl
        subst hcl; subst hdl
        have hol' : (s.heap.push { cls := .type "set", dict := none, data := .set #[] 0 (.fresh 0 0 led) }).get? l = some { cls := .type "list", dict := odict, data := .seq items nl, slots := oslots } := Heap.get?_push_of_some _ hol
        have hsls := PySem.F.sub_list_set
        have hslf := PySem.F.sub_list_frozenset
        have hne : (Value.type "list" == Value.type "dict") = false := by decide
        have hl1 : (s.heap.push { cls := .type "set", dict := none, data := .set #[] 0 (.fresh 0 0 led) }).IsList l items := ⟨_, hol', rfl, nl, rfl⟩
        unfold Builtin.«set.__init__» noKeywords Builtin.Frozenset.updateFrom
        generalize hPI : pyIter = PI
        wp_walk
        subst hPI
        refine wpAny_pyIter_list hl1 ?_
        refine wpAny_bind (wpAny_runValue ?_)
        have hlS : l < s.heap.objs.size := Heap.lt_size hol
        have hh3 : A.in1.in1.in1.handled = none := by simp [hh]
        have hneI : l ≠ (s.heap.push { cls := .type "set", dict := none, data := .set #[] 0 (.fresh 0 0 led) }).objs.size := by
          rw [Heap.size_push]; exact Nat.ne_of_lt (Nat.lt_succ_of_lt hlS)
        have hSf : s.heap.objs.size ∉ [(s.heap.push { cls := .type "set", dict := none, data := .set #[] 0 (.fresh 0 0 led) }).objs.size, l] := by
          rw [Heap.size_push]; simp only [List.mem_cons, List.mem_singleton, List.not_mem_nil, or_false, not_or]
          exact ⟨Nat.ne_of_lt (Nat.lt_succ_self _), Nat.ne_of_gt hlS⟩
        have hsz : ks.length = items.size := by rw [← hi.len, Array.length_toList]
        refine loopK ((Walks.list hh3 _ l hneI items).toS) s.heap.objs.size
          hSf ks hsz (by rw [← hsz]; exact hn1) (fun i v hv => hi.at' (by rw [Array.getElem?_toList]; exact hv)) (items.size - 0) 0 _ (by omega) (Nat.zero_le _)
          ⟨⟨_, Heap.get?_push_size _ rfl, rfl, rfl⟩, (hl1.push _)⟩ ?hS0 ?hR
        case hS0 =>
          have hget : ((s.heap.push { cls := .type "set", dict := none, data := .set #[] 0 (.fresh 0 0 led) }).push { cls := .type "list_iterator", data := .fields #[.ref l, .int 0 0] }).get? s.heap.objs.size
              = some { cls := .type "set", dict := none, data := .set #[] 0 (.fresh 0 0 led) } := Heap.get?_push_of_some _ hS
          exact ⟨_, #[], 0, _, hget, ⟨rfl, rfl, rfl⟩, rfl, (fun e he => by simp at he), (fun k => by simp [uniq, memB]), (by unfold scanBound; decide), (by rfl), rfl⟩
        case hR =>
          intro s' hm hS'
          obtain ⟨h', g', d', tk', os'⟩ := s'
          have eg : g' = s.gens := hm.gens
          have ed : d' = s.drawn := hm.drawn
          have eo : os' = s.os := hm.os
          subst eg; subst ed; subst eo
          show wpAny _ _ _ _ _ _
          refine wpAny_pure ?_
          show wpAny _ _ (ret Value.none) _ _ _
          refine wpAny_pure ⟨rfl, h', tk', rfl, hS', fun b o hb e => ?_⟩
          have hb1 : b ≠ s.heap.objs.size := Nat.ne_of_lt hb
          have hb2 : b ≠ (s.heap.push { cls := .type "set", dict := none, data := .set #[] 0 (.fresh 0 0 led) }).objs.size := by
            rw [Heap.size_push]; exact Nat.ne_of_lt (Nat.lt_succ_of_lt hb)
          exact hm.heap b o (by simp only [List.mem_cons, List.mem_singleton, List.not_mem_nil, or_false, not_or]; exact ⟨hb1, hb2⟩) (Heap.get?_push_of_some _ (Heap.get?_push_of_some _ e))
      · cases r₂ with
        | error e => exact hr₂
        | ok fl₂ =>
          cases fl₂ with
          | ret r =>
            obtain ⟨rfl, h', tk, rfl, hS', hk'⟩ := hr₂
            repeat (any_goals (first | assumption | wp_step))
            exact h _ _ hS' hk'
          | _ => exact hr₂.elim
    | _ => exact hr.elim
set_option maxHeartbeats 3200000 in
theorem call_set_tupleK {l : Addr} {items : Array Value} {ks : List Key} {Q : Value → Shared → Prop}
    (hh : A.handled = none) (hl : s.heap.IsTuple l items) (hi : KeysAre items.toList ks) (hn1 : ks.length + 1 < scanBound)
    (h : ∀ (h' : Heap) (tk : Nat), h'.SetOf (mixKind prog w) s.heap.objs.size (fun k' => memB k' (uniq ks)) (uniq ks).length →
      (∀ b o, b < s.heap.objs.size → s.heap.get? b = some o → h'.get? b = some o) → Q (.ref s.heap.objs.size) { s with heap := h', toks := tk }) :
    wpAny (model prog w) A (call (.type "set") [.ref l]) Q E s := by
  obtain ⟨c, tl, hmro⟩ := PySem.F.called_set.mro
  have hmade := PySem.F.called_set.made
  have hsub := PySem.F.called_set.sub
  refine wpAny_call (codeAny_of_tree ?_)
  show wpAny _ _ (callAny (.type "set") _) _ _ _
  refine wpAny_pure ⟨Code.quiet_builtin _ (by decide +kernel), codeAny_builtin PySem.F.entry_type_call ?_⟩
  rw [Around.under_plain (weight_type_call_type "set" [.ref l] []) rfl]
  have h1 := PySem.F.called_set.notType
  have h2 := PySem.F.called_set.canCreate
  have hct := PySem.F.typeCall_set_1 (.ref l)
  repeat (any_goals (first | assumption | wp_step))
  refine codeAny_mono (code_set_new_1 (.ref l) (E := E) (Q₁ := fun obj s₁ => ∃ led : Bool, obj = .ref s.heap.objs.size ∧ s₁ = { s with heap := s.heap.push { cls := .type "set", dict := none, data := .set #[] 0 (.fresh 0 0 led) } }) fun led => ⟨led, rfl, rfl⟩) fun r s₁ hr => ?_
  cases r with
  | error e => exact hr
  | ok fl =>
    cases fl with
    | ret obj =>
      obtain ⟨led, rfl, rfl⟩ := hr
      have hS : (s.heap.push { cls := .type "set", dict := none, data := .set #[] 0 (.fresh 0 0 led) }).get? s.heap.objs.size = some { cls := .type "set", dict := none, data := .set #[] 0 (.fresh 0 0 led) } := Heap.get?_push_size _ rfl
      have hT : Shared.TypeIs { s with heap := s.heap.push { cls := .type "set", dict := none, data := .set #[] 0 (.fresh 0 0 led) } } (.ref s.heap.objs.size) "set" := ⟨_, hS, rfl⟩
      have hli := PySem.F.called_set.init.lookup
      have hbi := PySem.F.called_set.init.bind (.ref s.heap.objs.size)
      repeat (any_goals (first | assumption | wp_step))
      refine codeAny_mono (codeAny_call_builtin (R := wants (fun r s₂ => r = .none ∧ ∃ h' tk, s₂ = { s with heap := h', toks := tk } ∧
          h'.SetOf (mixKind prog w) s.heap.objs.size (fun k' => memB k' (uniq ks)) (uniq ks).length ∧
          (∀ b o, b < s.heap.objs.size → s.heap.get? b = some o → h'.get? b = some o)) E) PySem.F.called_set.init.plain PySem.F.entry_set_init (check_set_init_1 hT ?_)) fun r₂ s₂ hr₂ => ?_
      · obtain ⟨ol, hol, hcl, nl, hdl⟩ := hl
        obtain ⟨ocls, odict, odata, oslots⟩ := ol
        simp only at hcl hdl
        subst hcl; subst hdl
        have hol' : (s.heap.push { cls := .type "set", dict := none, data := .set #[] 0 (.fresh 0 0 led) }).get? l = some { cls := .type "tuple", dict := odict, data := .seq items nl, slots := oslots } := Heap.get?_push_of_some _ hol
        have hsls := PySem.F.sub_tuple_set
        have hslf := PySem.F.sub_tuple_frozenset
        have hne : (Value.type "tuple" == Value.type "dict") = false := by decide
        have hl1 : (s.heap.push { cls := .type "set", dict := none, data := .set #[] 0 (.fresh 0 0 led) }).IsTuple l items := ⟨_, hol', rfl, nl, rfl⟩
        unfold Builtin.«set.__init__» noKeywords Builtin.Frozenset.updateFrom
        generalize hPI : pyIter = PI
        wp_walk
        subst hPI
        refine wpAny_pyIter_tuple hl1 ?_
        refine wpAny_bind (wpAny_runValue ?_)
        have hlS : l < s.heap.objs.size := Heap.lt_size hol
        have hh3 : A.in1.in1.in1.handled = none := by simp [hh]
        have hneI : l ≠ (s.heap.push { cls := .type "set", dict := none, data := .set #[] 0 (.fresh 0 0 led) }).objs.size := by
          rw [Heap.size_push]; exact Nat.ne_of_lt (Nat.lt_succ_of_lt hlS)
        have hSf : s.heap.objs.size ∉ [(s.heap.push { cls := .type "set", dict := none, data := .set #[] 0 (.fresh 0 0 led) }).objs.size, l] := by
          rw [Heap.size_push]; simp only [List.mem_cons, List.mem_singleton, List.not_mem_nil, or_false, not_or]
          exact ⟨Nat.ne_of_lt (Nat.lt_succ_self _), Nat.ne_of_gt hlS⟩
        have hsz : ks.length = items.size := by rw [← hi.len, Array.length_toList]
        refine loopK ((Walks.tuple hh3 _ l hneI items).toS) s.heap.objs.size
          hSf ks hsz (by rw [← hsz]; exact hn1) (fun i v hv => hi.at' (by rw [Array.getElem?_toList]; exact hv)) (items.size - 0) 0 _ (by omega) (Nat.zero_le _)
          ⟨⟨_, Heap.get?_push_size _ rfl, rfl, rfl⟩, (hl1.push _)⟩ ?hS0 ?hR
        case hS0 =>
          have hget : ((s.heap.push { cls := .type "set", dict := none, data := .set #[] 0 (.fresh 0 0 led) }).push { cls := .type "tuple_iterator", data := .fields #[.ref l, .int 0 0] }).get? s.heap.objs.size
              = some { cls := .type "set", dict := none, data := .set #[] 0 (.fresh 0 0 led) } := Heap.get?_push_of_some _ hS
          exact ⟨_, #[], 0, _, hget, ⟨rfl, rfl, rfl⟩, rfl, (fun e he => by simp at he), (fun k => by simp [uniq, memB]), (by unfold scanBound; decide), (by rfl), rfl⟩
        case hR =>
          intro s' hm hS'
          obtain ⟨h', g', d', tk', os'⟩ := s'
          have eg : g' = s.gens := hm.gens
          have ed : d' = s.drawn := hm.drawn
          have eo : os' = s.os := hm.os
          subst eg; subst ed; subst eo
          show wpAny _ _ _ _ _ _
          refine wpAny_pure ?_
          show wpAny _ _ (ret Value.none) _ _ _
          refine wpAny_pure ⟨rfl, h', tk', rfl, hS', fun b o hb e => ?_⟩
          have hb1 : b ≠ s.heap.objs.size := Nat.ne_of_lt hb
          have hb2 : b ≠ (s.heap.push { cls := .type "set", dict := none, data := .set #[] 0 (.fresh 0 0 led) }).objs.size := by
            rw [Heap.size_push]; exact Nat.ne_of_lt (Nat.lt_succ_of_lt hb)
          exact hm.heap b o (by simp only [List.mem_cons, List.mem_singleton, List.not_mem_nil, or_false, not_or]; exact ⟨hb1, hb2⟩) (Heap.get?_push_of_some _ (Heap.get?_push_of_some _ e))
      · cases r₂ with
        | error e => exact hr₂
        | ok fl₂ =>
          cases fl₂ with
          | ret r =>
            obtain ⟨rfl, h', tk, rfl, hS', hk'⟩ := hr₂
            repeat (any_goals (first | assumption | wp_step))
            exact h _ _ hS' hk'
          | _ => exact hr₂.elim
    | _ => exact hr.elim
end
theorem keysAre_of {ks : List Key} {us : List Value} (h : Vals (ks.map kV) us) : KeysAre us ks := by
  induction ks generalizing us with
  | nil => cases h; exact .nil
  | cons k ks ih =>
    cases h with
    | cons r t =>
      refine .cons ?_ (ih t)
      cases k with
      | inl i => obtain ⟨t, rfl⟩ := r; exact keyIs_int i t
      | inr x => obtain ⟨t, rfl⟩ := r; exact keyIs_str x t
def tLenSetK (K : PySem.W.Frag) (ta : TE) : TE := fun σ H Q => ta σ H fun x H1 => ∃ (l : Addr) (ks : List Key), x = .ref l ∧ (SqL K H1 l (ks.map kV) ∨ SqT K H1 l (ks.map kV)) ∧ ks.length ≤ 4000 ∧ Q (.int ((uniq ks).length : Nat)) H1
theorem pe_lenSetK {X : Cx} {a : Expr} {ta : TE} {p p2 q pos : Pos} (hg : Gl X "len") (hm : X.mg "len" = none) (hg2 : Gl X "set") (hm2 : X.mg "set" = none) (ha : PE X a ta) (hc : X.calm = true)
    (na : starEach [a] X.env = (false, eval a X.env) :: starEach [] X.env) : PE X (.Call (.Name "len" p) [.Call (.Name "set" p2) [a] [] q] [] pos) (tLenSetK X.K ta) := by
  refine ⟨fun pins s σ H Q I h => ?_⟩
  refine Call_ (ld_blt I hg hm boot_len ?_)
  refine PyProof.Rows.callWith_builtin1 (PyProof.Rows.args_cons ?_ rfl) rfl rfl
  refine Call_ (ld_blt I hg2 hm2 boot_set ?_)
  refine PyProof.Rows.callWith_type1 (PyProof.Rows.args_cons (thn (ha.run pins s σ H _ I h) fun v s1 ⟨x, H1, I1, r1, q1⟩ => PyProof.Rows.args_nil ?_) na) na rfl
  obtain ⟨l, ks, rfl, hq, hl, q1⟩ := q1
  cases r1
  have hu : (uniq ks).length ≤ ks.length := by have := uniq_len ks []; simpa [uniq] using this
  have fin : ∀ (h' : Heap) (tk : Nat), h'.SetOf (mixKind X.prog X.w) s1.heap.objs.size (fun k' => memB k' (uniq ks)) (uniq ks).length →
      (∀ b o, b < s1.heap.objs.size → s1.heap.get? b = some o → h'.get? b = some o) →
      wpAny (model X.prog X.w) X.A (spliced (backTo pos (starEach [] X.env))) (fun vs s₂ => wpAny (model X.prog X.w) X.A (call (.builtin "len") (Value.ref s1.heap.objs.size :: vs)) (EP X pins σ Q) X.xe s₂) X.xe { s1 with heap := h', toks := tk } := fun h' tk hS hk => by
    refine PyProof.Rows.args_nil ?_
    obtain ⟨o, es, ep, t, ho, hex, hd, _, _, _, hf, hn⟩ := hS
    have I2 : Inv X pins σ H1 { s1 with heap := h', toks := tk } := I1.kept fun b o e => hk b o (Heap.lt_size e) e
    exact call_len_set ho hex hd hf (by rw [hn]; omega) ⟨.int (uniq ks).length, H1, I2.tok _, ⟨_, by rw [hn]⟩, q1⟩
  rcases hq with hq | hq
  · obtain ⟨its, r, pl, hz⟩ := I1.list hq
    exact call_set_listK (I1.ok.hd hc) pl.isList (by simpa using keysAre_of r) (by unfold scanBound; omega) fin
  · obtain ⟨its, r, pl, hz⟩ := I1.tuple hq
    exact call_set_tupleK (I1.ok.hd hc) pl (by simpa using keysAre_of r) (by unfold scanBound; omega) fin
end Ev


set_option Elab.async false
set_option linter.all false
set_option maxRecDepth 100000
set_option maxHeartbeats 4000000
/-! EvT: methods of texts, f-strings, len(set(..)). -/
namespace Ev
open PySem L2

def TM.id : TM → String
  | .join => "str.join" | .partition => "str.partition" | .split => "str.split" | .upper => "str.upper" | .endswith => "str.endswith" | .startswith => "str.startswith"
def rTm (K : PySem.W.Frag) : TM → V → List V → Hp → VK → Prop
  | .join => fun x xs H Q => ∃ a p, ∃ ys : List Str, x = .str a ∧ xs = [.ref p] ∧ (SqL K H p (ys.map V.str) ∨ SqT K H p (ys.map V.str)) ∧ (ys.map (·.length)).sum + ys.length * a.length ≤ 16777216 ∧ Q (.str (Txt.join a ys)) H
  | .partition => fun x xs H Q => ∃ a b, x = .str a ∧ xs = [.str b] ∧ (b.length == 0) = false ∧ a.length ≤ sizeLine ∧ ∀ p, H p = none → Q (.ref p) (upd H p (.tup [.str (Txt.partition a b).1, .str (Txt.partition a b).2.1, .str (Txt.partition a b).2.2]))
  | .split => fun x xs H Q => ∃ a b, x = .str a ∧ xs = [.str b] ∧ (b.length == 0) = false ∧ a.length + 2 ≤ sizeLine ∧ rNewStrs (Txt.split a b) H Q
  | .upper => fun x xs H Q => ∃ a, x = .str a ∧ xs = [] ∧ a.length ≤ 5592405 ∧ Q (.str (Txt.upper a)) H
  | .endswith => fun x xs H Q => ∃ a b, x = .str a ∧ xs = [.str b] ∧ Q (.bl (Txt.endswith a b)) H
  | .startswith => fun x xs H Q => ∃ a b, x = .str a ∧ xs = [.str b] ∧ Q (.bl (Txt.startswith a b)) H
theorem mt_tm {X : Cx} (m : TM) : MtR X m.id (rTm X.K m) := by
  cases m with
  | join => exact mt_join
  | partition => exact mt_partition
  | split => exact mt_split
  | upper => exact mt_upper
  | endswith => exact mt_endswith
  | startswith => exact mt_startswith
theorem slot_tm (m : TM) : Slot "str" m.name m.id ∧ typeOf (.builtin m.id) = pure (.type "method_descriptor") := by
  cases m with
  | join => exact ⟨PySem.F.slot_str_join, PySem.F.type_str_join⟩
  | partition => exact ⟨PySem.F.slot_str_partition, PySem.F.type_str_partition⟩
  | split => exact ⟨PySem.F.slot_str_split, PySem.F.type_str_split⟩
  | upper => exact ⟨PySem.F.slot_str_upper, PySem.F.type_str_upper⟩
  | endswith => exact ⟨PySem.F.slot_str_endswith, PySem.F.type_str_endswith⟩
  | startswith => exact ⟨PySem.F.slot_str_startswith, PySem.F.type_str_startswith⟩
section
variable {K : PySem.W.Frag} {mg : Str → Option Value} {ρ : List Addr} {H : Hp} {W : XK} {M : Sto} {Q : VK}
theorem strs_inv : ∀ {xs : List PV} {vs : List V} {ss : List Str}, RVs K mg ρ H xs vs → strsP xs = some ss → vs = ss.map V.str
  | _, _, _, .nil, e => by cases e; rfl
  | x :: xs, _, ss, .cons r rs, e => by
    cases x <;> simp only [strsP] at e <;> first | (cases e; done) | skip
    obtain ⟨ts, h1, rfl⟩ := Option.map_eq_some_iff.mp e
    cases r.str_inv
    rw [strs_inv rs h1]; rfl
theorem len_ne {b : Str} (h : b.length ≠ 0) : (b.length == 0) = false := by simpa using h
theorem rvs_strs : ∀ ss : List Str, RVs K mg ρ H (ss.map .str) (ss.map V.str)
  | [] => .nil
  | s :: ss => .cons (.str s) (rvs_strs ss)
theorem smV_ok (m : TM) {s : Str} {xs : List PV} {vs : List V} (S : SM K mg ρ H M) (rx : RVs K mg ρ H xs vs) (h : PostV K mg W ρ H (smV m (.str s) xs M) Q) : rTm K m (.str s) vs H Q := by
  unfold smV at h
  split at h
  case h_2 => rename_i hn; exact absurd rfl (hn s)
  rename_i a e
  cases e
  split at h
  · rename_i y
    obtain ⟨v, rfl, r⟩ := rx.one_inv
    split at h
    · rename_i ys q
      split at h
      · rename_i ss q2
        split at h
        · rename_i c
          have c := of_decide_eq_true c
          cases y <;> first | (cases q; done) | skip
          · obtain ⟨p, us, rfl, h1, h2⟩ := r.tup_inv
            cases q
            exact ⟨s, p, ss, rfl, rfl, .inr (by rw [← strs_inv h2 q2]; exact h1), c, h.here S (.str _)⟩
          · obtain ⟨p, us, rfl, hi, h1, h2⟩ := lst_read S r q
            exact ⟨s, p, ss, rfl, rfl, .inl (by rw [← strs_inv h2 q2]; exact .inl (.inl h1)), c, h.here S (.str _)⟩
        · exact h.elim
      · exact h.elim
    · exact h.elim
  · obtain ⟨v, rfl, r⟩ := rx.one_inv
    cases r.str_inv
    split at h
    · rename_i c
      exact ⟨_, _, rfl, rfl, len_ne c.1, c.2, Post.tup S (.cons (.str _) (.cons (.str _) (.cons (.str _) .nil))) h⟩
    · exact h.elim
  · obtain ⟨v, rfl, r⟩ := rx.one_inv
    cases r.str_inv
    split at h
    · rename_i c
      exact ⟨_, _, rfl, rfl, len_ne c.1, c.2, Post.alloc (o := .lst _) (ho := .lst _) S (rvs_strs _) h⟩
    · exact h.elim
  · cases rx.nil_inv
    split at h
    · rename_i c
      exact ⟨_, rfl, rfl, c, h.here S (.str _)⟩
    · exact h.elim
  · obtain ⟨v, rfl, r⟩ := rx.one_inv
    cases r.str_inv
    exact ⟨_, _, rfl, rfl, h.here S (.bl _)⟩
  · obtain ⟨v, rfl, r⟩ := rx.one_inv
    cases r.str_inv
    exact ⟨_, _, rfl, rfl, h.here S (.bl _)⟩
  · exact h.elim
end
section
variable {X : Cx} {W : WX} {a b c e : Expr} {es : List Expr} {pos p : Pos} {ra rb : Env → Sto → Res PV} {rs : Env → Sto → Res (List PV)}
/-- a method of a text -/
def lSm (m : TM) (ra : Env → Sto → Res PV) (rs : Env → Sto → Res (List PV)) : Env → Sto → Res PV := fun env M => (ra env M).bind fun x M1 => match x with
    | .str s => (rs env M1).bind fun xs M2 => smV m (.str s) xs M2
    | _ => .bad
theorem s_smeth0 {m : TM} {apos cpos : Pos} (ha : PE X a (lE X W ra)) (hb : isCall a = false) (hl : (apos.endLine == cpos.line) = true) : PE X (.Call (.Attribute a m.name apos) [] [] cpos) (lE X W (lSm m ra fun _ M => .ok [] M)) := by
  refine PE.weak (pe_m0 (slot_tm m).1 (slot_tm m).2 (mt_tm m) ha (attr_ne hb _ _) hl) fun σ H Q h => ?_
  refine lR.chain h fun ρ env M x M1 ρ1 v H1 S E e1 S1 E1 r1 h1 => ?_
  cases x <;> first | exact h1.elim | skip
  cases r1.str_inv
  exact ⟨⟨_, rfl⟩, smV_ok m S1 .nil h1⟩
theorem s_smeth1 {m : TM} {apos cpos : Pos} (ha : PE X a (lE X W ra)) (he : PE X e (lE X W rb)) (hb : isCall a = false) (hl : (apos.endLine == cpos.line) = true) (hs : isStar e = false) : PE X (.Call (.Attribute a m.name apos) [e] [] cpos) (lE X W (lSm m ra fun env M => (rb env M).bind fun y M1 => .ok [y] M1)) := by
  refine PE.weak (pe_m1 (slot_tm m).1 (slot_tm m).2 (mt_tm m) ha he (star_ne hs _ _) (attr_ne hb _ _) hl) fun σ H Q h => ?_
  refine lR.chain h fun ρ env M x M1 ρ1 v H1 S E e1 S1 E1 r1 h1 => ?_
  cases x <;> first | exact h1.elim | skip
  cases r1.str_inv
  refine ⟨⟨_, rfl⟩, ρ1, env, M1, S1, E1, ?_⟩
  have h1 : PostV X.K X.mg _ ρ1 H1 (((rb env M1).bind fun y M2 => .ok [y] M2).bind fun xs M2 => smV m (.str _) xs M2) Q := h1
  rw [Res.bind_assoc] at h1
  exact h1.chain fun y M2 ρ2 w H2 e2 S2 r2 h2 => smV_ok m S2 (.cons r2 .nil) h2
theorem keys_inv {K : PySem.W.Frag} {mg : Str → Option Value} {ρ : List Addr} {H : Hp} : ∀ {xs : List PV} {vs : List V} {ks : List Key}, RVs K mg ρ H xs vs → keysP xs = some ks → vs = ks.map kV
  | _, _, _, .nil, e => by cases e; rfl
  | x :: xs, _, ks, .cons r rs, e => by
    cases x <;> simp only [keysP] at e <;> first | (cases e; done) | skip
    · obtain ⟨ts, h1, rfl⟩ := Option.map_eq_some_iff.mp e
      cases r.int_inv
      rw [keys_inv rs h1]; rfl
    · obtain ⟨ts, h1, rfl⟩ := Option.map_eq_some_iff.mp e
      cases r.str_inv
      rw [keys_inv rs h1]; rfl
theorem s_lenset {p2 q : Pos} (hc : X.calm = true) (hg : Gl X "len") (hm : X.mg "len" = none) (hg2 : Gl X "set") (hm2 : X.mg "set" = none) (ha : PE X a (lE X W ra)) (hs : isStar a = false) :
    PE X (.Call (.Name "len" p) [.Call (.Name "set" p2) [a] [] q] [] pos) (lE X W fun env M => (ra env M).bind fun x M1 => lenSetV x M1) := by
  refine PE.weak (pe_lenSetK hg hm hg2 hm2 ha hc (star_ne hs _ _)) fun σ H Q h => ?_
  refine lR.chain h fun ρ env M x M1 ρ1 v H1 S E e1 S1 E1 r1 h1 => ?_
  unfold lenSetV at h1
  split at h1
  · rename_i ys q
    split at h1
    · rename_i ks q2
      split at h1
      · rename_i c
        cases x <;> first | (cases q; done) | skip
        · obtain ⟨l, us, rfl, a1, a2⟩ := r1.tup_inv
          cases q
          exact ⟨l, ks, rfl, .inr (by rw [← keys_inv a2 q2]; exact a1), c, h1.here S1 (.int _)⟩
        · obtain ⟨l, us, rfl, hi, a1, a2⟩ := lst_read S1 r1 q
          exact ⟨l, ks, rfl, .inl (by rw [← keys_inv a2 q2]; exact .inl (.inl a1)), c, h1.here S1 (.int _)⟩
      · exact h1.elim
    · exact h1.elim
  · exact h1.elim
theorem s_fmt (ha : PE X a (lE X W ra)) : PE X (.FormattedValue a (-1) none pos) (lE X W fun env M => (ra env M).bind fun x M1 => fmtV x M1) := by
  refine PE.weak (pe_fmt ha) fun σ H Q h => ?_
  refine lR.chain h fun ρ env M x M1 ρ1 v H1 S E e1 S1 E1 r1 h1 => ?_
  unfold fmtV at h1
  split at h1
  · cases r1.str_inv
    split at h1
    · rename_i c
      exact .inl ⟨_, rfl, c, h1.here S1 (.str _)⟩
    · exact h1.elim
  · cases r1.int_inv
    split at h1
    · rename_i c
      exact .inr ⟨_, rfl, c, h1.here S1 (.str _)⟩
    · exact h1.elim
  · exact h1.elim
/-- the parts of an f-string -/
theorem j_cons {G : Glob} {c r : CE} {ts : List TE} (h : ∀ acc σ H Q, lR X eqR W (fun env M => evF G r env M acc) σ H Q → tJs ts acc σ H Q) :
    ∀ acc σ H Q, lR X eqR W (fun env M => evF G (.cons c r) env M acc) σ H Q → tJs (lE X W (evE G c) :: ts) acc σ H Q := by
  intro acc σ H Q q
  have q : lR X eqR W (fun env M => (evE G c env M).bind fun x M1 => match x with
    | .str s => if (acc ++ s).length ≤ sizeLine then evF G r env M1 (acc ++ s) else .bad
    | _ => .bad) σ H Q := by
    simp only [evF] at q
    exact q
  show lE X W (evE G c) σ H fun x H1 => ∃ y : Str, x = .str y ∧ (acc ++ y).length ≤ sizeLine ∧ tJs ts (acc ++ y) σ H1 Q
  refine lR.chain q fun ρ env M x M1 ρ1 v H1 S E e1 S1 E1 r1 h1 => ?_
  cases x <;> first | exact h1.elim | skip
  cases r1.str_inv
  have h1 : Post X.K X.mg eqR _ ρ1 H1 (if (acc ++ _).length ≤ sizeLine then evF G r env M1 (acc ++ _) else .bad) Q := h1
  split at h1
  · rename_i c
    exact ⟨_, rfl, c, h _ σ H1 Q ⟨ρ1, env, M1, S1, E1, h1⟩⟩
  · exact h1.elim
theorem j_nil {G : Glob} : ∀ acc σ H Q, lR X eqR W (fun env M => evF G .nil env M acc) σ H Q → tJs [] acc σ H Q := by
  intro acc σ H Q q
  obtain ⟨ρ, env, M, S, E, h⟩ := q
  simp only [evF] at h
  exact Post.here (x := acc) (v := acc) S rfl h
theorem s_fstr {G : Glob} {c : CE} {v1 v2 : Expr} {ts : List TE} (hj : PJ X (v1 :: v2 :: es) ts) (h : ∀ acc σ H Q, lR X eqR W (fun env M => evF G c env M acc) σ H Q → tJs ts acc σ H Q) :
    PE X (.JoinedStr (v1 :: v2 :: es) pos) (lE X W fun env M => (evF G c env M Str.empty).bind fun s M1 => .ok (.str s) M1) := by
  refine PE.weak (pe_joined hj) fun σ H Q q => ?_
  refine h _ σ H _ (lR.chain q fun ρ env M x M1 ρ1 v H1 S E e1 S1 E1 r1 h1 => ?_)
  cases r1
  exact h1.here S1 (.str _)
end
end Ev

set_option Elab.async false
set_option linter.all false
set_option maxRecDepth 100000
set_option maxHeartbeats 4000000
/-! Ev10: targets, what is walked, comprehensions. -/
namespace Ev
open PySem L2
/-- a code's context and the layer's -/
structure KOk (k : CK) (X : Cx) : Prop where
  N : X.N = k.N
  sc : X.env.scope = k.sc
  fn : k.all = true → ∀ x, X.fn x = true
section
variable {X : Cx} {W : WX}
theorem vis_of {k : CK} (h : KOk k X) {x : Str} (v : visB k.sc x = true) : Vis X.env.scope x := by
  unfold Vis
  rw [h.sc]
  unfold visB at v
  split at v
  · rename_i q; exact .inl q
  · rename_i q; exact .inr (.inl q)
  · rename_i q; exact .inr (.inr q)
  · cases v
theorem loc_of {k : CK} (h : KOk k X) {x : Str} (v : locB k x = true) : L2.Loc X.env.scope x ∧ (X.fn x = true ∨ X.env.scope.names.lookup x = some .local) := by
  unfold L2.Loc
  rw [h.sc]
  unfold locB at v
  split at v
  · rename_i q; exact ⟨.inl q, .inr q⟩
  · rename_i q; exact ⟨.inr q, .inl (h.fn v x)⟩
  · cases v
/-- slots that a target leaves alone -/
def Off (t : CT) (σ σ' : St) : Prop := σ'.length = σ.length ∧ ∀ j, j ∉ ctSlots t → σ'[j]? = σ[j]?
def lG (X : Cx) (t : CT) : TG := fun v σ H Q => ∃ ρ env M x env', SM X.K X.mg ρ H M ∧ RE X.K X.mg ρ H env σ ∧ RV X.K X.mg ρ H x v ∧ asgT t x env = some env' ∧ ∀ σ', RE X.K X.mg ρ H env' σ' → Off t σ σ' → Q σ' H
def lGs (X : Cx) (ts : CT) : TGs := fun vs σ H Q => ∃ ρ env M xs env', SM X.K X.mg ρ H M ∧ RE X.K X.mg ρ H env σ ∧ RVs X.K X.mg ρ H xs vs ∧ asgTs ts xs env = some env' ∧ ∀ σ', RE X.K X.mg ρ H env' σ' → Off ts σ σ' → Q σ' H
theorem PG.weak {e : Expr} {t t' : TG} (h : PG X e t) (k : ∀ v σ H Q, t' v σ H Q → t v σ H Q) : PG X e t' := ⟨fun pins s σ H v u Q I r q => h.run pins s σ H v u Q I r (k v σ H Q q)⟩
theorem PGs.weak {es : List Expr} {t t' : TGs} (h : PGs X es t) (k : ∀ v σ H Q, t' v σ H Q → t v σ H Q) : PGs X es t' := ⟨fun pins s σ H v u Q I r q => h.run pins s σ H v u Q I r (k v σ H Q q)⟩
theorem chkGs_star {k : CK} : ∀ {ts : CT} {es : List Expr}, chkG.chkGs k ts es = true → ∀ e ∈ es, isStar e = false
  | .nil, [], _ => fun _ z => (nomatch z)
  | .nil, _ :: _, h => by simp [chkG.chkGs] at h
  | .cons a r, [], h => by simp [chkG.chkGs] at h
  | .cons a r, e :: es, h => by
    simp only [chkG.chkGs, Bool.and_eq_true] at h
    intro x hx
    rcases List.mem_cons.mp hx with rfl | hx
    · cases x <;> first | rfl | (exfalso; have h1 := h.1; cases a <;> simp [chkG] at h1)
    · exact chkGs_star h.2 x hx
  | .nm _, _, h => by simp [chkG.chkGs] at h
  | .tp _, _, h => by simp [chkG.chkGs] at h
theorem each_plain (env : PySem.Env) : ∀ {es : List Expr}, (∀ e ∈ es, isStar e = false) → (assignEach es env).length = es.length ∧ (assignEach es env).findIdx? (·.1) = none
  | [], _ => ⟨rfl, rfl⟩
  | e :: es, h => by
    have h1 : isStar e = false := h e List.mem_cons_self
    obtain ⟨i1, i2⟩ := each_plain env fun x hx => h x (List.mem_cons_of_mem _ hx)
    have q : assignEach (e :: es) env = (false, assign e env) :: assignEach es env := by cases e <;> first | rfl | cases h1
    rw [q]
    refine ⟨by rw [List.length_cons, List.length_cons, i1], ?_⟩
    rw [List.findIdx?_cons, i2]; rfl
theorem each_cons {e : Expr} (env : PySem.Env) (es : List Expr) (h : isStar e = false) : (assignEach (e :: es) env).map (·.2) = assign e env :: (assignEach es env).map (·.2) := by
  cases e <;> first | rfl | cases h
theorem asgTs_len : ∀ {ts : CT} {xs : List PV} {env env' : Env} {k : CK} {es : List Expr}, asgTs ts xs env = some env' → chkG.chkGs k ts es = true → xs.length = es.length
  | .nil, [], _, _, _, [], _, _ => rfl
  | .nil, [], _, _, _, _ :: _, _, h => by simp [chkG.chkGs] at h
  | .nil, _ :: _, _, _, _, _, e, _ => by simp [asgTs] at e
  | .cons a r, [], _, _, _, _, e, _ => by simp [asgTs] at e
  | .cons a r, x :: xs, env, env', k, [], _, h => by simp [chkG.chkGs] at h
  | .cons a r, x :: xs, env, env', k, e :: es, q, h => by
    simp only [chkG.chkGs, Bool.and_eq_true] at h
    simp only [asgTs] at q
    cases q1 : asgT a x env with
    | none => rw [q1] at q; cases q
    | some env1 =>
      rw [q1] at q
      rw [List.length_cons, List.length_cons, asgTs_len q h.2]
  | .nm _, _, _, _, _, _, _, h => by simp [chkG.chkGs] at h
  | .tp _, _, _, _, _, _, _, h => by simp [chkG.chkGs] at h
mutual
theorem s_tgt {k : CK} (hk : KOk k X) (hN : X.N.Nodup) (hc : X.calm = true) : ∀ (t : CT) (e : Expr), chkG k t e = true → PG X e (lG X t)
  | .nm i, e, h => by
    cases e <;> first | (simp [chkG] at h; done) | skip
    rename_i x p
    simp only [chkG, Bool.and_eq_true, decide_eq_true_eq] at h
    obtain ⟨h1, h2⟩ := loc_of hk h.2
    refine PG.weak (pg_name hN (by rw [hk.N]; exact h.1) h1 h2) fun v σ H Q h => ?_
    obtain ⟨ρ, env, M, x, env', S, E, r, q, f⟩ := h
    simp only [asgT] at q
    cases q
    exact f _ (E.set r i) ⟨List.length_set, fun j hj => List.getElem?_set_ne (fun z => hj (by simp [ctSlots, z]))⟩
  | .tp ts, e, h => by
    cases e <;> first | (simp [chkG] at h; done) | skip
    rename_i es k2 p
    simp only [chkG] at h
    have hs := chkGs_star h
    obtain ⟨l1, l2⟩ := each_plain X.env hs
    refine PG.weak (pg_tup hc (s_tgts hk hN hc ts es h) l1 l2) fun v σ H Q hh => ?_
    obtain ⟨ρ, env, M, x, env', S, E, r, q, f⟩ := hh
    cases x <;> first | (simp [asgT] at q; done) | skip
    rename_i xs
    obtain ⟨a, vs, rfl, ha, rr⟩ := r.tup_inv
    have q' : asgTs ts xs env = some env' := q
    exact ⟨a, vs, rfl, ha, by rw [← rr.length]; exact asgTs_len q' h, ρ, env, M, xs, env', S, E, rr, q', f⟩
  | .nil, e, h => by simp [chkG] at h
  | .cons _ _, e, h => by simp [chkG] at h
theorem s_tgts {k : CK} (hk : KOk k X) (hN : X.N.Nodup) (hc : X.calm = true) : ∀ (ts : CT) (es : List Expr), chkG.chkGs k ts es = true → PGs X es (lGs X ts)
  | .nil, es, h => by
    cases es with
    | cons _ _ => simp [chkG.chkGs] at h
    | nil =>
      refine PGs.weak pgs_nil fun vs σ H Q hh => ?_
      obtain ⟨ρ, env, M, xs, env', S, E, r, q, f⟩ := hh
      cases xs with
      | cons _ _ => simp [asgTs] at q
      | nil =>
        simp only [asgTs] at q
        cases q
        exact ⟨r.nil_inv, f σ E ⟨rfl, fun _ _ => rfl⟩⟩
  | .cons a rs, es, h => by
    cases es with
    | nil => simp [chkG.chkGs] at h
    | cons e es =>
      have hs : isStar e = false := chkGs_star h e List.mem_cons_self
      simp only [chkG.chkGs, Bool.and_eq_true] at h
      refine PGs.weak (pgs_cons (s_tgt hk hN hc a e h.1) (s_tgts hk hN hc rs es h.2) (each_cons _ _ hs)) fun vs σ H Q hh => ?_
      obtain ⟨ρ, env, M, xs, env', S, E, r, q, f⟩ := hh
      cases xs with
      | nil => simp [asgTs] at q
      | cons x xs =>
        simp only [asgTs] at q
        cases q1 : asgT a x env with
        | none => rw [q1] at q; cases q
        | some env1 =>
          rw [q1] at q
          cases r with
          | cons r1 r2 =>
            refine ⟨_, _, rfl, ρ, env, M, x, env1, S, E, r1, q1, fun σ1 E1 o1 => ⟨ρ, env1, M, xs, env', S, E1, r2, q, fun σ2 E2 o2 => f σ2 E2 ⟨o2.1.trans o1.1, fun j hj => ?_⟩⟩⟩
            have hj' : j ∉ ctSlots a ∧ j ∉ ctSlots rs := by simpa [ctSlots, List.mem_append, not_or] using hj
            exact (o2.2 j hj'.2).trans (o1.2 j hj'.1)
  | .nm _, _, h => by simp [chkG.chkGs] at h
  | .tp _, _, h => by simp [chkG.chkGs] at h
end
theorem wipe_get {σ : St} {j : Nat} : ∀ vs : List Nat, (wipe σ vs)[j]? = if j ∈ vs then (if j < σ.length then some none else none) else σ[j]?
  | [] => by simp [wipe]
  | v :: vs => by
    unfold wipe
    by_cases e : v = j
    · subst e
      rw [if_pos List.mem_cons_self]
      by_cases hl : v < σ.length
      · rw [List.getElem?_set_self (by rw [wipe_length]; exact hl), if_pos hl]
      · rw [List.getElem?_eq_none (by rw [List.length_set, wipe_length]; omega), if_neg hl]
    · rw [List.getElem?_set_ne e, wipe_get vs]
      have : (j ∈ v :: vs) ↔ j ∈ vs := by
        rw [List.mem_cons]
        exact ⟨fun z => z.resolve_left fun q => e q.symm, .inr⟩
      by_cases h : j ∈ vs
      · rw [if_pos h, if_pos (this.mpr h)]
      · rw [if_neg h, if_neg fun z => h (this.mp z)]
theorem wipe_off {t : CT} {σ σ' : St} {vs : List Nat} (h : Off t (wipe σ vs) σ') (hs : ∀ j ∈ ctSlots t, j ∈ vs) : wipe σ' vs = wipe σ vs := by
  have hl : σ'.length = σ.length := by rw [h.1, wipe_length]
  refine List.ext_getElem? fun j => ?_
  rw [wipe_get, wipe_get, hl]
  by_cases hj : j ∈ vs
  · rw [if_pos hj, if_pos hj]
  · rw [if_neg hj, if_neg hj, h.2 j fun z => hj (hs j z), wipe_get, if_neg hj]

/-! ### what is walked -/
/-- the iterator gives the items, as long as the lists stand still -/
structure Wk (X : Cx) (ρ1 : List Addr) (H1 : Hp) (s : Src) (J : It) : Prop where
  go : ∀ i ρ H M, Ext ρ1 H1 ρ H → SM X.K X.mg ρ H M → keepB s.src M = true → i < s.items.length → J.go i H
  yld : ∀ i x ρ H M v H', Ext ρ1 H1 ρ H → SM X.K X.mg ρ H M → keepB s.src M = true → s.items[i]? = some x → J.yld i H v H' → Ext ρ H ρ H' ∧ SM X.K X.mg ρ H' M ∧ RV X.K X.mg ρ H' x v
  stop : ∀ ρ H M, Ext ρ1 H1 ρ H → SM X.K X.mg ρ H M → keepB s.src M = true → J.stop s.items.length H
def WkR (X : Cx) : List Addr → Hp → Src → It → Prop := fun ρ H s J => Wk X ρ H s J ∧ ∀ M, SM X.K X.mg ρ H M → True
abbrev lI (X : Cx) (W : WX) (r : Env → Sto → Res Src) : TI := lR X (fun ρ H s J => Wk X ρ H s J) W r
theorem wk_list {ρ1 : List Addr} {H1 : Hp} {M1 : Sto} {i : Nat} {a : Addr} {xs : List PV} (h : ρ1[i]? = some a) : Wk X ρ1 H1 ⟨xs, [(i, .lst xs)]⟩ (Itl X.K a) := by
  have rd : ∀ ρ H M, Ext ρ1 H1 ρ H → SM X.K X.mg ρ H M → keepB [(i, MO.lst xs)] M = true → ∃ vs, H a = some (.lst vs) ∧ RVs X.K X.mg ρ H xs vs := fun ρ H M E S k => by
    have e : M[i]? = some (.lst xs) := by simpa [keepB] using k
    have hi : ρ[i]? = some a := by
      obtain ⟨m, q⟩ := E.pre
      have : i < ρ1.length := (List.getElem?_eq_some_iff.mp h).1
      rw [q, List.getElem?_append_left this]; exact h
    exact S.get hi e
  refine ⟨fun j ρ H M E S k hj => ?_, fun j x ρ H M v H' E S k hx y => ?_, fun ρ H M E S k => ?_⟩
  · obtain ⟨vs, h1, h2⟩ := rd ρ H M E S k
    obtain ⟨v, h3, _⟩ := h2.get (List.getElem?_eq_getElem hj)
    exact ⟨vs, v, .inl (.inl h1), h3⟩
  · obtain ⟨vs, h1, h2⟩ := rd ρ H M E S k
    obtain ⟨w, h3, h4⟩ := h2.get hx
    obtain ⟨rfl, f⟩ := y
    have := f vs (.inl (.inl h1))
    rw [h3] at this
    cases this
    exact ⟨Ext.refl _ _, S, h4⟩
  · obtain ⟨vs, h1, h2⟩ := rd ρ H M E S k
    exact ⟨vs, .inl (.inl h1), by rw [← h2.length]; exact Nat.le_refl _⟩
theorem wk_rol {ρ1 : List Addr} {H1 : Hp} {M1 : Sto} (S1 : SM X.K X.mg ρ1 H1 M1) {a : Addr} {xs : List PV} {vs : List V} (h : Fzl X.K H1 a vs) (r : RVs X.K X.mg ρ1 H1 xs vs) : Wk X ρ1 H1 ⟨xs, []⟩ (Itl X.K a) := by
  refine ⟨fun j ρ H M E S k hj => ?_, fun j x ρ H M v H' E S k hx y => ?_, fun ρ H M E S k => ?_⟩
  · have kk := Kp.of S1 E
    obtain ⟨v, h3, _⟩ := (r.kp kk).get (List.getElem?_eq_getElem hj)
    exact ⟨vs, v, (h.kp kk).sq, h3⟩
  · have kk := Kp.of S1 E
    obtain ⟨w, h3, h4⟩ := (r.kp kk).get hx
    obtain ⟨rfl, f⟩ := y
    have := f vs (h.kp kk).sq
    rw [h3] at this
    cases this
    exact ⟨Ext.refl _ _, S, h4⟩
  · have kk := Kp.of S1 E
    exact ⟨vs, (h.kp kk).sq, by rw [← r.length]; exact Nat.le_refl _⟩
theorem wk_tup {ρ1 : List Addr} {H1 : Hp} {M1 : Sto} (S1 : SM X.K X.mg ρ1 H1 M1) {a : Addr} {xs : List PV} {vs : List V} (h : SqT X.K H1 a vs) (r : RVs X.K X.mg ρ1 H1 xs vs) : Wk X ρ1 H1 ⟨xs, []⟩ (Itt X.K a) := by
  refine ⟨fun j ρ H M E S k hj => ?_, fun j x ρ H M v H' E S k hx y => ?_, fun ρ H M E S k => ?_⟩
  · have kk := Kp.of S1 E
    obtain ⟨v, h3, _⟩ := (r.kp kk).get (List.getElem?_eq_getElem hj)
    exact ⟨vs, v, SqT.kp kk h, h3⟩
  · have kk := Kp.of S1 E
    obtain ⟨w, h3, h4⟩ := (r.kp kk).get hx
    obtain ⟨rfl, f⟩ := y
    have := f vs (SqT.kp kk h)
    rw [h3] at this
    cases this
    exact ⟨Ext.refl _ _, S, h4⟩
  · have kk := Kp.of S1 E
    exact ⟨vs, SqT.kp kk h, by rw [← r.length]; exact Nat.le_refl _⟩
theorem wk_rng {ρ1 : List Addr} {H1 : Hp} (a b : Int) : Wk X ρ1 H1 ⟨rgP a b, []⟩ (Itr a (b - a).toNat) := by
  have hl : (rgP a b).length = (b - a).toNat := by unfold rgP; rw [List.length_map, List.length_range]
  refine ⟨fun j ρ H M E S k hj => ?_, fun j x ρ H M v H' E S k hx y => ?_, fun ρ H M E S k => ?_⟩
  · show j < _
    rw [← hl]; exact hj
  · obtain ⟨rfl, rfl⟩ := y
    have hj : j < (b - a).toNat := by
      have := (List.getElem?_eq_some_iff.mp hx).1
      rw [← hl]; exact this
    unfold rgP at hx
    simp only [List.getElem?_map, List.getElem?_range hj, Option.map_some] at hx
    cases hx
    exact ⟨Ext.refl _ _, S, .int _⟩
  · show _ ≤ _
    rw [← hl]; exact Nat.le_refl _
section
variable {a b c e tg : Expr} {es : List Expr} {pos p : Pos} {ra rb rc : Env → Sto → Res PV}
theorem PI.or {it : Expr} {w w' : TI} (h : PI X tg it w) (h' : PI X tg it w') : PI X tg it (fun σ H R => w σ H R ∨ w' σ H R) := ⟨fun pins s σ H R I q => q.elim (h.run pins s σ H R I) (h'.run pins s σ H R I)⟩
theorem PI.weak {it : Expr} {w w' : TI} (h : PI X tg it w) (k : ∀ σ H R, w' σ H R → w σ H R) : PI X tg it w' := ⟨fun pins s σ H R I q => h.run pins s σ H R I (k σ H R q)⟩
def evalIv (ra : Env → Sto → Res PV) : Env → Sto → Res Src := fun env M => (ra env M).bind fun x M1 => match itemsV M1 x with
    | some xs => .ok ⟨xs, srcOf M1 x⟩ M1
    | none => .bad
/-- what stands of a source at a later turn -/
def Stays (X : Cx) (ρ1 : List Addr) (H1 : Hp) (src : List (Nat × MO)) (k : Sk) (xs : List PV) : Prop := ∀ ρ H M, Ext ρ1 H1 ρ H → SM X.K X.mg ρ H M → keepB src M = true → ∃ us, k.items X.K H us ∧ RVs X.K X.mg ρ H xs us
theorem rvs_signs {ρ : List Addr} {H : Hp} : ∀ l : List Nat, RVs X.K X.mg ρ H (l.map fun c => .str ⟨#[c]⟩) (l.map fun c => V.str ⟨#[c]⟩)
  | [] => .nil
  | c :: l => .cons (.str _) (rvs_signs l)
theorem sk_of {ρ1 : List Addr} {H1 : Hp} {M1 : Sto} {x : PV} {v : V} {xs : List PV} (S1 : SM X.K X.mg ρ1 H1 M1) (r : RV X.K X.mg ρ1 H1 x v) (q : itemsV M1 x = some xs) : ∃ k, SkV k v ∧ Stays X ρ1 H1 (srcOf M1 x) k xs := by
  cases x with
  | str z =>
    cases r.str_inv
    have q : some (z.cps.toList.map fun c => PV.str ⟨#[c]⟩) = some xs := q
    cases q
    exact ⟨.txt z, rfl, fun ρ H M E S k => ⟨_, rfl, rvs_signs _⟩⟩
  | tup ys =>
    have q : some ys = some xs := q
    cases q
    obtain ⟨a, vs, rfl, h1, h2⟩ := r.tup_inv
    exact ⟨.tup a, rfl, fun ρ H M E S k => ⟨vs, SqT.kp (.of S1 E) h1, h2.kp (.of S1 E)⟩⟩
  | rol ys =>
    have q : some ys = some xs := q
    cases q
    obtain ⟨a, vs, rfl, h1, h2⟩ := r.rol_inv
    exact ⟨.lst a, rfl, fun ρ H M E S k => ⟨vs, (h1.kp (.of S1 E)).sq, h2.kp (.of S1 E)⟩⟩
  | ref i =>
    have q : lstOf M1 i = some xs := q
    obtain ⟨a, rfl, hi⟩ := r.ref_inv
    have qm : M1[i]? = some (.lst xs) := by
      unfold lstOf at q
      cases z : M1[i]? with
      | none => rw [z] at q; cases q
      | some o =>
        rw [z] at q
        cases o with
        | lst _ => cases q; rfl
        | dct _ => cases q
    have es : srcOf M1 (.ref i) = [(i, .lst xs)] := by simp only [srcOf, qm]
    rw [es]
    refine ⟨.lst a, rfl, fun ρ H M E S k => ?_⟩
    have e : M[i]? = some (.lst xs) := by simpa [keepB] using k
    have hi2 : ρ[i]? = some a := by
      obtain ⟨m, q⟩ := E.pre
      have : i < ρ1.length := (List.getElem?_eq_some_iff.mp hi).1
      rw [q, List.getElem?_append_left this]; exact hi
    obtain ⟨vs, h1, h2⟩ := S.get hi2 e
    exact ⟨vs, .inl (.inl h1), h2⟩
  | non => cases (show (none : Option (List PV)) = some xs from q)
  | bl _ => cases (show (none : Option (List PV)) = some xs from q)
  | int _ => cases (show (none : Option (List PV)) = some xs from q)
  | glo _ => cases (show (none : Option (List PV)) = some xs from q)
  | ty _ => cases (show (none : Option (List PV)) = some xs from q)
/-- a plain walk of it -/
def Sk.plain (K : PySem.W.Frag) : Sk → It
  | .lst a => Itl K a
  | .tup a => Itt K a
  | .txt z => Its z
theorem wk_plain {ρ1 : List Addr} {H1 : Hp} {src : List (Nat × MO)} {k : Sk} {xs : List PV} (h : Stays X ρ1 H1 src k xs) : Wk X ρ1 H1 ⟨xs, src⟩ (k.plain X.K) := by
  refine ⟨fun j ρ H M E S q hj => ?_, fun j x ρ H M v H' E S q hx y => ?_, fun ρ H M E S q => ?_⟩
  · obtain ⟨us, h1, h2⟩ := h ρ H M E S q
    obtain ⟨v, h3, _⟩ := h2.get (List.getElem?_eq_getElem hj)
    cases k with
    | lst a => exact ⟨us, v, h1, h3⟩
    | tup a => exact ⟨us, v, h1, h3⟩
    | txt z =>
      have hl := h2.length
      have h1 : us = _ := h1
      rw [h1] at hl
      simp only [List.length_map, Array.length_toList] at hl
      show j < z.cps.size
      have hj : j < xs.length := hj
      omega
  · obtain ⟨us, h1, h2⟩ := h ρ H M E S q
    obtain ⟨w, h3, h4⟩ := h2.get hx
    cases k with
    | lst a =>
      obtain ⟨rfl, f⟩ := y
      have := f us h1
      rw [h3] at this; cases this
      exact ⟨Ext.refl _ _, S, h4⟩
    | tup a =>
      obtain ⟨rfl, f⟩ := y
      have := f us h1
      rw [h3] at this; cases this
      exact ⟨Ext.refl _ _, S, h4⟩
    | txt z =>
      obtain ⟨rfl, c, hc, rfl⟩ := y
      have h1 : us = _ := h1
      rw [h1] at h3
      simp [hc] at h3
      subst h3
      exact ⟨Ext.refl _ _, S, h4⟩
  · obtain ⟨us, h1, h2⟩ := h ρ H M E S q
    cases k with
    | lst a => exact ⟨us, h1, by rw [← h2.length]; exact Nat.le_refl _⟩
    | tup a => exact ⟨us, h1, by rw [← h2.length]; exact Nat.le_refl _⟩
    | txt z =>
      have hl := h2.length
      have h1 : us = _ := h1
      rw [h1] at hl
      simp only [List.length_map, Array.length_toList] at hl
      show z.cps.size ≤ xs.length
      omega
theorem i_iv (ha : PE X a (lE X W ra)) : PI X tg a (lI X W (evalIv ra)) := by
  refine PI.weak (PI.or (pi_list ha) (PI.or (pi_tup ha) (pi_str ha))) fun σ H R h => ?_
  obtain ⟨ρ, env, M, S, E, h⟩ := h
  unfold evalIv at h
  cases qa : ra env M with
  | bad => rw [qa] at h; exact h.elim
  | exc x M1 => rw [qa] at h; exact .inl ⟨ρ, env, M, S, E, by rw [qa]; exact h⟩
  | ok x M1 =>
    rw [qa, Res.bind_ok] at h
    cases qs : itemsV M1 x with
    | none => rw [qs] at h; exact h.elim
    | some xs =>
      rw [qs] at h
      have key : ∀ ρ1 v H1, Ext ρ H ρ1 H1 → SM X.K X.mg ρ1 H1 M1 → RV X.K X.mg ρ1 H1 x v → ∃ k : Sk, SkV k v ∧ (∃ us, k.items X.K H1 us) ∧ R (k.plain X.K) H1 := fun ρ1 v H1 e1 S1 r1 => by
        obtain ⟨k, h1, h2⟩ := sk_of S1 r1 qs
        have kp0 : keepB (srcOf M1 x) M1 = true := by
          unfold srcOf
          split
          · split
            · rename_i i o q; simp [keepB, q]
            · rfl
          · rfl
        obtain ⟨us, i1, _⟩ := h2 ρ1 H1 M1 (Ext.refl _ _) S1 kp0
        exact ⟨k, h1, ⟨us, i1⟩, h ρ1 _ H1 e1 S1 (wk_plain h2)⟩
      by_cases c : ∃ ys, x = .tup ys
      · obtain ⟨ys, rfl⟩ := c
        refine .inr (.inl ⟨ρ, env, M, S, E, ?_⟩)
        rw [qa]
        intro ρ1 v H1 e1 S1 r1
        obtain ⟨k, hv, ⟨us, hu⟩, hR⟩ := key ρ1 v H1 e1 S1 r1
        obtain ⟨a, vs, rfl, h1, h2⟩ := r1.tup_inv
        exact ⟨a, rfl, ⟨vs, h1⟩, h ρ1 _ H1 e1 S1 (by cases qs; exact wk_tup S1 h1 h2)⟩
      · by_cases c2 : ∃ z, x = .str z
        · obtain ⟨z, rfl⟩ := c2
          refine .inr (.inr ⟨ρ, env, M, S, E, ?_⟩)
          rw [qa]
          intro ρ1 v H1 e1 S1 r1
          cases r1.str_inv
          obtain ⟨k, h1, h2⟩ := sk_of S1 r1 qs
          refine ⟨z, rfl, h ρ1 _ H1 e1 S1 ?_⟩
          cases k with
          | lst a => cases h1
          | tup a => cases h1
          | txt y => cases h1; exact wk_plain h2
        · refine .inl ⟨ρ, env, M, S, E, ?_⟩
          rw [qa]
          intro ρ1 v H1 e1 S1 r1
          cases x <;> first | (cases (show (none : Option (List PV)) = some xs from qs); done) | (exact absurd ⟨_, rfl⟩ c) | (exact absurd ⟨_, rfl⟩ c2) | skip
          · obtain ⟨a, vs, rfl, h1, h2⟩ := r1.rol_inv
            have qs : some _ = some xs := qs
            cases qs
            exact ⟨a, rfl, ⟨vs, h1.sq⟩, h ρ1 _ H1 e1 S1 (wk_rol S1 h1 h2)⟩
          · obtain ⟨k, h1, h2⟩ := sk_of S1 r1 qs
            rename_i i
            obtain ⟨q, vs, rfl, hi, i1, i2⟩ := lst_read S1 r1 (show lstOf M1 i = some xs from qs)
            refine ⟨q, rfl, ⟨vs, .inl (.inl i1)⟩, h ρ1 _ H1 e1 S1 ?_⟩
            have qm : M1[i]? = some (.lst xs) := by
              have qs' : lstOf M1 i = some xs := qs
              unfold lstOf at qs'
              cases z : M1[i]? with
              | none => rw [z] at qs'; cases qs'
              | some o =>
                rw [z] at qs'
                cases o with
                | lst _ => cases qs'; rfl
                | dct _ => cases qs'
            have es : srcOf M1 (.ref i) = [(i, .lst xs)] := by simp only [srcOf, qm]
            rw [es]
            exact wk_list (M1 := M1) hi
theorem i_rg1 (hg : Gl X "range") (hm : X.mg "range" = none) (ha : PE X a (lE X W ra)) (hs : isStar a = false) : PI X tg (.Call (.Name "range" p) [a] [] pos) (lI X W fun env M => (ra env M).bind fun x M1 => match x with
    | .int n => if rgOk 0 n = true then .ok ⟨rgP 0 n, []⟩ M1 else .bad
    | _ => .bad) := by
  refine PI.weak (pi_range1 hg hm (pa_cons ha pa_nil (star_ne hs _ _)) (star_ne hs _ _)) fun σ H R h => ?_
  refine lR.chain h fun ρ env M x M1 ρ1 v H1 S E e1 S1 E1 r1 h1 => ?_
  cases x <;> first | exact h1.elim | skip
  cases r1.int_inv
  rename_i n
  have h1 : Post X.K X.mg (fun ρ H s J => Wk X ρ H s J) (fun c d H' => W c d σ H') ρ1 H1 (if rgOk 0 n = true then .ok ⟨rgP 0 n, []⟩ M1 else .bad) R := h1
  split at h1
  · rename_i c
    simp only [rgOk, Bool.and_eq_true, decide_eq_true_eq] at c
    refine ⟨n, rfl, c.1.2, c.2, ?_⟩
    have q := wk_rng (X := X) (ρ1 := ρ1) (H1 := H1) 0 n
    rw [Int.sub_zero] at q
    exact h1 ρ1 _ H1 (Ext.refl _ _) S1 q
  · exact h1.elim
theorem i_rg2 (hg : Gl X "range") (hm : X.mg "range" = none) (ha : PE X a (lE X W ra)) (hb : PE X b (lE X W rb)) (hs : isStar a = false) (hs2 : isStar b = false) : PI X tg (.Call (.Name "range" p) [a, b] [] pos) (lI X W fun env M => (ra env M).bind fun x M1 => (rb env M1).bind fun y M2 => match x, y with
    | .int i, .int j => if rgOk i j = true then .ok ⟨rgP i j, []⟩ M2 else .bad
    | _, _ => .bad) := by
  refine PI.weak (pi_range2 hg hm (pa_cons ha (pa_cons hb pa_nil (star_ne hs2 _ _)) (star_ne hs _ _)) (by rw [star_ne hs, star_ne hs2]; rfl) (star_ne hs2 _ _)) fun σ H R h => ?_
  refine lR.chain h fun ρ env M x M1 ρ1 v H1 S E e1 S1 E1 r1 h1 => ?_
  refine ⟨ρ1, env, M1, S1, E1, h1.chain fun y M2 ρ2 w H2 e2 S2 r2 h2 => ?_⟩
  split at h2
  · cases r1.int_inv; cases r2.int_inv
    rename_i i j
    split at h2
    · rename_i c
      simp only [rgOk, Bool.and_eq_true, decide_eq_true_eq] at c
      exact ⟨_, _, rfl, ⟨c.1.1.1, c.1.1.2, c.1.2, c.2⟩, h2 ρ2 _ H2 (Ext.refl _ _) S2 (wk_rng _ _)⟩
    · exact h2.elim
  · exact h2.elim
/-! ### comprehensions -/
theorem drop_get {α : Type} {xs : List α} {i : Nat} {x : α} {r : List α} (h : xs.drop i = x :: r) : xs[i]? = some x ∧ xs.drop (i + 1) = r ∧ i < xs.length := by
  have hl : i < xs.length := by
    by_cases z : i < xs.length
    · exact z
    · rw [List.drop_eq_nil_of_le (by omega)] at h; cases h
  rw [List.drop_eq_getElem_cons hl] at h
  cases h
  exact ⟨List.getElem?_eq_getElem hl, rfl, hl⟩
def W0 : WX := fun _ _ _ _ => False
/-- the block of a comprehension, at any start -/
abbrev Blk (X : Cx) (scope : Scope) (s : Shared) (H : Hp) (C : Addr) (cl : List (Str × Addr)) (fp : List Addr) : Cx := X.blk s H scope (compEnvC scope cl C X.env) fp
def lComp (t : CT) (own : List Nat) (ri : Env → Sto → Res Src) (rt : Env → Sto → Res Bool) (re : Env → Sto → Res PV) : Env → Sto → Res PV := fun env M => (ri env M).bind fun s M1 =>
    (compL (compG t (wipeP env own) rt re) (keepB s.src) s.items M1 []).bind fun ys M2 => alloc (.lst ys) M2
theorem comp_in {t : CT} {own : List Nat} {ri : Env → Sto → Res Src} {rt : Env → Sto → Res Bool} {re : Env → Sto → Res PV} {σ : St} {H : Hp} {Q : VK} (hsl : ∀ j ∈ ctSlots t, j ∈ own) (h : lE X W (lComp t own ri rt re) σ H Q) : tLc (lI X W ri) (lG X t) (lB X W0 rt) (lE X W0 re) own σ H Q := by
  unfold lComp at h
  refine lR.chain h fun ρ env M s M1 ρ1 J H1 S E e1 S1 E1 wk h1 D hD => ?_
  have hDρ : D ∉ ρ1 := S1.out hD
  -- what holds between two turns
  have key : ∃ W' : Nat → Nat → Hp → Prop, (∃ m, W' 0 m (upd H1 D (.lst []))) ∧ ∀ i m H, W' i m H →
      (J.stop i H ∧ Q (.ref D) H) ∨ (J.go i H ∧ ∃ Nx : Hp → Prop, (∀ H', Nx H' → ∃ m', m' < m ∧ W' (i + 1) m' H') ∧ ∀ x H', J.yld i H x H' → lG X t x (wipe σ own) H' fun σ2 H2 => wipe σ2 own = wipe σ own ∧ lB X W0 rt σ2 H2 fun b H3 =>
        if b = true then lE X W0 re σ2 H3 fun y H4 => ∃ acc, H4 D = some (.lst acc) ∧ acc.length < sizeLine ∧ Nx (upd H4 D (.lst (acc ++ [y]))) else Nx H3) := by
    let Pv : Nat → Hp → Prop := fun i H => ∃ ρ M acc accV, Ext ρ1 H1 ρ H ∧ SM X.K X.mg ρ H M ∧ D ∉ ρ ∧ H D = some (.lst accV) ∧ RVs X.K X.mg ρ H acc accV ∧
      PostV X.K X.mg (fun c d H' => W c d σ H') ρ1 H1 ((compL (compG t (wipeP env own) rt re) (keepB s.src) (s.items.drop i) M acc).bind fun ys M2 => alloc (.lst ys) M2) Q
    refine ⟨fun i m H => m = s.items.length - i ∧ i ≤ s.items.length ∧ Pv i H, ⟨s.items.length, rfl, Nat.zero_le _, ρ1, M1, [], [], Ext.upd hD, S1.upd hD, hDρ, upd_same, .nil, by rw [List.drop_zero]; exact h1⟩, ?_⟩
    rintro i m H2 ⟨rfl, hi, ρ2, M2, acc, accV, e2, S2, hD2, hH2, r2, h2⟩
    have k2 : keepB s.src M2 = true := by
      cases q : s.items.drop i with
      | nil =>
        rw [q] at h2
        simp only [compL] at h2
        by_cases k : keepB s.src M2 = true
        · exact k
        · rw [if_neg k] at h2; exact h2.elim
      | cons x r =>
        rw [q] at h2
        simp only [compL] at h2
        by_cases k : keepB s.src M2 = true
        · exact k
        · rw [if_neg k] at h2; exact h2.elim
    cases q : s.items.drop i with
    | nil =>
      have hl : i = s.items.length := by
        have := congrArg List.length q
        rw [List.length_drop] at this
        simp at this
        omega
      rw [q] at h2
      simp only [compL, if_pos k2, Res.bind_ok] at h2
      refine .inl ⟨by rw [hl]; exact wk.stop ρ2 H2 M2 e2 S2 k2, ?_⟩
      exact h2 (ρ2 ++ [D]) (.ref D) H2 (e2.join hD) (S2.adopt (o := .lst acc) (ho := .lst accV) hD2 hH2 r2) (RV.new S2)
    | cons x r =>
      obtain ⟨gx, gr, gi⟩ := drop_get q
      rw [q] at h2
      simp only [compL, if_pos k2] at h2
      refine .inr ⟨wk.go i ρ2 H2 M2 e2 S2 k2 gi, Pv (i + 1), fun H' p' => ⟨s.items.length - (i + 1), by omega, rfl, gi, p'⟩, fun v H3 y => ?_⟩
      obtain ⟨e3, S3, r3⟩ := wk.yld i x ρ2 H2 M2 v H3 e2 S2 k2 gx y
      have E3 : RE X.K X.mg ρ2 H3 env σ := E1.mono S1 (e2.trans e3)
      have hH3 : H3 D = some (.lst accV) := e3.keep D _ hH2 hD2
      have r2' : RVs X.K X.mg ρ2 H3 acc accV := r2.mono S2 e3
      unfold compG at h2
      cases qa : asgT t x (wipeP env own) with
      | none => rw [qa] at h2; exact h2.elim
      | some env1 =>
        rw [qa] at h2
        refine ⟨ρ2, wipeP env own, M2, x, env1, S3, E3.wipe own, r3, qa, fun σ2 E4 o4 => ⟨wipe_off o4 hsl, ρ2, env1, M2, S3, E4, ?_⟩⟩
        simp only at h2
        cases qt : rt env1 M2 with
        | bad => rw [qt] at h2; exact h2.elim
        | exc z M3 => rw [qt] at h2; exact h2.elim
        | ok b M3 =>
          rw [qt] at h2
          simp only [Res.bind_ok] at h2
          intro ρ4 b' H4 e4 S4 rb
          cases rb
          have hD4 : D ∉ ρ4 := fun z => by
            have := e4.new D z hD2
            rw [hH3] at this; cases this
          have hH4 : H4 D = some (.lst accV) := e4.keep D _ hH3 hD2
          have e14 : Ext ρ1 H1 ρ4 H4 := (e2.trans e3).trans e4
          cases b with
          | false =>
            rw [if_neg Bool.false_ne_true]
            exact ⟨ρ4, M3, acc, accV, e14, S4, hD4, hH4, r2'.mono S3 e4, by rw [gr]; exact h2⟩
          | true =>
            rw [if_pos rfl]
            refine ⟨ρ4, env1, M3, S4, E4.mono S3 e4, ?_⟩
            simp only at h2
            cases qe : re env1 M3 with
            | bad => rw [qe] at h2; exact h2.elim
            | exc z M4 => rw [qe] at h2; exact h2.elim
            | ok y M4 =>
              rw [qe] at h2
              simp only [Res.bind_ok] at h2
              intro ρ5 w H5 e5 S5 ry
              have hD5 : D ∉ ρ5 := fun z => by
                have := e5.new D z hD4
                rw [hH4] at this; cases this
              have hH5 : H5 D = some (.lst accV) := e5.keep D _ hH4 hD4
              have r5 : RVs X.K X.mg ρ5 H5 acc accV := (r2'.mono S3 e4).mono S4 e5
              by_cases c : acc.length < sizeLine
              · rw [if_pos c] at h2
                have kp : Kp ρ5 H5 ρ5 (upd H5 D (.lst (accV ++ [w]))) := Kp.side hH5 (fun _ z => nomatch z) (fun _ _ z => nomatch z)
                exact ⟨accV, hH5, by rw [← r5.length]; exact c, ρ5, M4, acc ++ [y], accV ++ [w], (e14.trans e5).also hD, S5.side hD5 hH5 (fun _ z => nomatch z) (fun _ _ z => nomatch z), hD5, upd_same, (r5.append (.cons ry .nil)).kp kp, by rw [gr]; exact h2⟩
              · rw [if_neg c] at h2; exact h2.elim
  exact key
theorem s_comp {x iter : Expr} {tests : List Expr} {sc : Scope} {own : List Nat} {ow : List (Str × Nat)} {t : CT} {ri : Env → Sto → Res Src} {rt : Env → Sto → Res Bool} {re : Env → Sto → Res PV} (hc : X.calm = true) (hN : X.N.Nodup) (hi : PI X tg iter (lI X W ri)) (ok : BlkOk X.N X.env.scope sc ow) (how : ow.map (·.2) = own)
    (hg : ∀ s H C cl fp, PG (Blk X sc s H C cl fp) tg (lG X t)) (ht : ∀ s H C cl fp, PTs (Blk X sc s H C cl fp) tests (lB X W0 rt)) (he : ∀ s H C cl fp, PE (Blk X sc s H C cl fp) x (lE X W0 re)) (hs : isSet iter = false) (hsl : ∀ j ∈ ctSlots t, j ∈ own) :
    PE X (.ListComp x [⟨tg, iter, tests, 0⟩] sc pos) (lE X W (lComp t own ri rt re)) := by
  subst how
  exact PE.weak (pe_lc (own := ow) hc hN hi ok hg ht he (folded_ne hs _)) fun σ H Q h => comp_in hsl h
/-- name = [..], the name a local -/
theorem x_setc {x iter : Expr} {tests : List Expr} {sc : Scope} {own : List Nat} {ow : List (Str × Nat)} {t : CT} {ri : Env → Sto → Res Src} {rt : Env → Sto → Res Bool} {re : Env → Sto → Res PV} {i : Nat} {y : Str} {py spos : Pos} (hc : X.calm = true) (hN : X.N.Nodup) (hy : X.N[i]? = some y) (hyl : X.env.scope.names.lookup y = some .local)
    (hsw : swapsWith (.ListComp x [⟨tg, iter, tests, 0⟩] sc pos) (some (.Name y py)) spos.line X.env = pure true) (hi : PI X tg iter (lI X W ri)) (ok : BlkOk X.N X.env.scope sc ow) (how : ow.map (·.2) = own)
    (hg : ∀ s H C cl fp, PG (Blk X sc s H C cl fp) tg (lG X t)) (ht : ∀ s H C cl fp, PTs (Blk X sc s H C cl fp) tests (lB X W0 rt)) (he : ∀ s H C cl fp, PE (Blk X sc s H C cl fp) x (lE X W0 re)) (hs : isSet iter = false) (hsl : ∀ j ∈ ctSlots t, j ∈ own) :
    PS X (.Assign [.Name y py] (.ListComp x [⟨tg, iter, tests, 0⟩] sc pos) spos) (tAsg (lE X W (lComp t own ri rt re)) (gName i)) := by
  subst how
  refine ⟨fun pins s σ H D I h => (ps_setLc (own := ow) hc hN hy hyl hsw hi ok hg ht he (folded_ne hs _)).run pins s σ H D I ?_⟩
  exact comp_in hsl h
theorem keep_src {M : Sto} (x : PV) : keepB (srcOf M x) M = true := by
  unfold srcOf
  split
  · split
    · rename_i i o q; simp [keepB, q]
    · rfl
  · rfl
theorem num_len (xs : List PV) : (numP xs).length = xs.length := by simp [numP]
theorem num_at {xs : List PV} {i : Nat} {x : PV} (h : (numP xs)[i]? = some x) : ∃ y, xs[i]? = some y ∧ x = .tup [.int (i : Nat), y] := by
  have hi : i < xs.length := by have := (List.getElem?_eq_some_iff.mp h).1; rw [num_len] at this; exact this
  refine ⟨xs[i], List.getElem?_eq_getElem hi, ?_⟩
  simp [numP, List.getElem?_zipWith, List.getElem?_range hi, List.getElem?_eq_getElem hi] at h
  exact h.symm
theorem zip_len (xs ys : List PV) : (zipP xs ys).length = min xs.length ys.length := by simp [zipP]
theorem zip_at {xs ys : List PV} {i : Nat} {x : PV} (h : (zipP xs ys)[i]? = some x) : ∃ y z, xs[i]? = some y ∧ ys[i]? = some z ∧ x = .tup [y, z] := by
  have hi : i < min xs.length ys.length := by have := (List.getElem?_eq_some_iff.mp h).1; rw [zip_len] at this; exact this
  have h1 : i < xs.length := by omega
  have h2 : i < ys.length := by omega
  refine ⟨xs[i], ys[i], List.getElem?_eq_getElem h1, List.getElem?_eq_getElem h2, ?_⟩
  simp [zipP, List.getElem?_zipWith, List.getElem?_eq_getElem h1, List.getElem?_eq_getElem h2] at h
  exact h.symm
theorem wk_enum {ρ1 : List Addr} {H1 : Hp} {src : List (Nat × MO)} {k : Sk} {xs : List PV} (h : Stays X ρ1 H1 src k xs) : Wk X ρ1 H1 ⟨numP xs, src⟩ (Iye X.K k) := by
  refine ⟨fun j ρ H M E S q hj => ?_, fun j x ρ H M v H' E S q hx y => ?_, fun ρ H M E S q => ?_⟩
  · obtain ⟨us, h1, h2⟩ := h ρ H M E S q
    have hj : j < xs.length := by rw [← num_len]; exact hj
    obtain ⟨v, h3, _⟩ := h2.get (List.getElem?_eq_getElem hj)
    exact ⟨us, v, h1, h3⟩
  · obtain ⟨us, h1, h2⟩ := h ρ H M E S q
    obtain ⟨z, hz, rfl⟩ := num_at hx
    obtain ⟨w, h3, h4⟩ := h2.get hz
    obtain ⟨T, u, rfl, hT, rfl, f⟩ := y
    have := f us h1
    rw [h3] at this; cases this
    exact ⟨Ext.upd hT, S.upd hT, .tup (.inl (.inl upd_same)) (.cons (.int _) (.cons (RV.mono S (Ext.upd hT) h4) .nil))⟩
  · obtain ⟨us, h1, h2⟩ := h ρ H M E S q
    exact ⟨us, h1, by show (numP xs).length = _; rw [num_len, h2.length]⟩
theorem keep_app {s1 s2 : List (Nat × MO)} {M : Sto} (h : keepB (s1 ++ s2) M = true) : keepB s1 M = true ∧ keepB s2 M = true := by
  unfold keepB at h ⊢
  rw [List.all_append, Bool.and_eq_true] at h
  exact h
theorem wk_zip {ρ1 : List Addr} {H1 : Hp} {s1 s2 : List (Nat × MO)} {k l : Sk} {xs ys : List PV} (h : Stays X ρ1 H1 s1 k xs) (g : Stays X ρ1 H1 s2 l ys) : Wk X ρ1 H1 ⟨zipP xs ys, s1 ++ s2⟩ (Iyz X.K k l) := by
  refine ⟨fun j ρ H M E S q hj => ?_, fun j x ρ H M v H' E S q hx y => ?_, fun ρ H M E S q => ?_⟩
  · obtain ⟨us, h1, h2⟩ := h ρ H M E S (keep_app q).1
    obtain ⟨ws, g1, g2⟩ := g ρ H M E S (keep_app q).2
    have hj : j < min xs.length ys.length := by rw [← zip_len]; exact hj
    obtain ⟨v, h3, _⟩ := h2.get (List.getElem?_eq_getElem (show j < xs.length by omega))
    obtain ⟨w, g3, _⟩ := g2.get (List.getElem?_eq_getElem (show j < ys.length by omega))
    exact ⟨us, ws, v, w, h1, g1, h3, g3⟩
  · obtain ⟨us, h1, h2⟩ := h ρ H M E S (keep_app q).1
    obtain ⟨ws, g1, g2⟩ := g ρ H M E S (keep_app q).2
    obtain ⟨z, z2, hz, hz2, rfl⟩ := zip_at hx
    obtain ⟨w, h3, h4⟩ := h2.get hz
    obtain ⟨w2, g3, g4⟩ := g2.get hz2
    obtain ⟨T, u, u2, rfl, hT, rfl, f, f2⟩ := y
    have a := f us h1
    rw [h3] at a; cases a
    have b := f2 ws g1
    rw [g3] at b; cases b
    exact ⟨Ext.upd hT, S.upd hT, .tup (.inl (.inl upd_same)) (.cons (RV.mono S (Ext.upd hT) h4) (.cons (RV.mono S (Ext.upd hT) g4) .nil))⟩
  · obtain ⟨us, h1, h2⟩ := h ρ H M E S (keep_app q).1
    obtain ⟨ws, g1, g2⟩ := g ρ H M E S (keep_app q).2
    exact ⟨us, ws, h1, g1, by show (zipP xs ys).length = _; rw [zip_len, h2.length, g2.length]⟩
theorem i_ienum {elts : List Expr} {kk : Nat} {tpos : Pos} (hg : Gl X "enumerate") (hm : X.mg "enumerate" = none) (ha : PE X a (lE X W ra)) (hs : isStar a = false) : PI X (.Tuple elts kk tpos) (.Call (.Name "enumerate" p) [a] [] pos) (lI X W fun env M => (ra env M).bind fun x M1 => match itemsV M1 x with
    | some xs => .ok ⟨numP xs, srcOf M1 x⟩ M1
    | none => .bad) := by
  refine PI.weak (pi_enumW hg hm (pa_cons ha pa_nil (star_ne hs _ _)) (star_ne hs _ _)) fun σ H R h => ?_
  refine lR.chain h fun ρ env M x M1 ρ1 v H1 S E e1 S1 E1 r1 h1 => ?_
  cases qs : itemsV M1 x with
  | none => rw [qs] at h1; exact h1.elim
  | some xs =>
    rw [qs] at h1
    obtain ⟨k, a1, a2⟩ := sk_of S1 r1 qs
    obtain ⟨us, i1, _⟩ := a2 ρ1 H1 M1 (Ext.refl _ _) S1 (keep_src x)
    exact ⟨v, k, us, rfl, a1, i1, h1 ρ1 _ H1 (Ext.refl _ _) S1 (wk_enum a2)⟩
theorem i_izip {elts : List Expr} {kk : Nat} {tpos : Pos} (hg : Gl X "zip") (hm : X.mg "zip" = none) (ha : PE X a (lE X W ra)) (hb : PE X b (lE X W rb)) (hs : isStar a = false) (hs2 : isStar b = false) : PI X (.Tuple elts kk tpos) (.Call (.Name "zip" p) [a, b] [] pos) (lI X W fun env M => (ra env M).bind fun x M1 => (rb env M1).bind fun y M2 => match itemsV M2 x, itemsV M2 y with
    | some xs, some ys => .ok ⟨zipP xs ys, srcOf M2 x ++ srcOf M2 y⟩ M2
    | _, _ => .bad) := by
  refine PI.weak (pi_zipW hg hm (pa_cons ha (pa_cons hb pa_nil (star_ne hs2 _ _)) (star_ne hs _ _)) (star_ne hs _ _) (by rw [star_ne hs2]; rfl)) fun σ H R h => ?_
  refine lR.chain h fun ρ env M x M1 ρ1 v H1 S E e1 S1 E1 r1 h1 => ?_
  refine ⟨ρ1, env, M1, S1, E1, h1.chain fun y M2 ρ2 w H2 e2 S2 r2 h2 => ?_⟩
  have r1' := r1.mono S1 e2
  cases qs : itemsV M2 x with
  | none => rw [qs] at h2; exact h2.elim
  | some xs =>
    cases qt : itemsV M2 y with
    | none => rw [qs, qt] at h2; exact h2.elim
    | some ys =>
      rw [qs, qt] at h2
      obtain ⟨k, a1, a2⟩ := sk_of S2 r1' qs
      obtain ⟨l, b1, b2⟩ := sk_of S2 r2 qt
      obtain ⟨us, i1, _⟩ := a2 ρ2 H2 M2 (Ext.refl _ _) S2 (keep_src x)
      obtain ⟨ws, j1, _⟩ := b2 ρ2 H2 M2 (Ext.refl _ _) S2 (keep_src y)
      exact ⟨v, w, k, l, us, ws, rfl, a1, b1, i1, j1, h2 ρ2 _ H2 (Ext.refl _ _) S2 (wk_zip a2 b2)⟩
end
end
end Ev

set_option Elab.async false
set_option linter.all false
set_option maxRecDepth 100000
set_option maxHeartbeats 8000000
/-! Ev11: the text's expressions do what the code says (printed by gen11.py). -/
namespace Ev
open PySem L2
abbrev KwT := Str → Option (List (Nat × List Str × List Nat))
def freeNames : List Str := ["len", "int", "tuple", "list", "repr", "str", "sorted", "max", "min", "all", "any", "sum", "abs", "isinstance", "range", "ord", "divmod", "enumerate", "zip", "set"]
/-- what is known where the code runs -/
structure XOk (G : Glob) (kw : KwT) (d : Nat) (X : Cx) : Prop where
  calm : X.calm = true
  nd : X.N.Nodup
  room : Room d X.A
  gd : X.A.guards = some []
  free : ∀ x ∈ freeNames, X.mg x = none
  cls : ∀ c ∈ clsNames, X.mg (Str.ofString c) = none
  glo : ∀ x pv, G.glo x = some pv → ∃ u v, X.mg x = some u ∧ RelV v u ∧ ∀ ρ H, RV X.K X.mg ρ H pv v
  call : ∀ f l, kw f = some l → ∃ fa fd ps, CallAt X.prog X.w X.K X.mg X.base d f l (G.call f) fa fd ps
theorem XOk.blk {G : Glob} {kw : KwT} {d : Nat} {X : Cx} (x : XOk G kw d X) (sc : Scope) (s : Shared) (H : Hp) (C : Addr) (cl : List (Str × Addr)) (fp : List Addr) : XOk G kw d (Blk X sc s H C cl fp) :=
  ⟨x.calm, x.nd, x.room, x.gd, x.free, x.cls, x.glo, x.call⟩
theorem KOk.blk {k : CK} {X : Cx} (h : KOk k X) (sc : Scope) (s : Shared) (H : Hp) (C : Addr) (cl : List (Str × Addr)) (fp : List Addr) : KOk ⟨k.N, relS sc k.sc, false, k.kw⟩ (Blk X sc s H C cl fp) :=
  ⟨h.N, by show relS sc X.env.scope = _; rw [h.sc], fun z => nomatch z⟩
theorem bi_free (f : BI) : f.name ∈ freeNames := by cases f <;> decide
section
variable {G : Glob} {d : Nat}
theorem XOk.units {kw : KwT} {X : Cx} (x : XOk G kw d X) : X.A.units + 66 < cLine := by have := x.room.un; omega
theorem gl_k {k : CK} {X : Cx} (h : KOk k X) {x : Str} (q : gloB k.sc x = true) : Gl X x ∧ (x == ("__debug__" : Str)) = false := gl_of (by rw [h.sc]; exact q)
theorem kwNames_of : ∀ {c : CE} {ks : List Str} {k : CK} {ws : List Keyword}, chkK c ks k ws = true → kwNames ks ws = true
  | .nil, ks, _, ws, h => by
    cases ks <;> cases ws <;> first | rfl | (simp [chkK] at h; done)
  | .cons a r, ks, k, ws, h => by
    cases ks with
    | nil => simp [chkK] at h
    | cons n ks =>
      cases ws with
      | nil => simp [chkK] at h
      | cons w ws =>
        obtain ⟨nm, x, p⟩ := w
        simp only [chkK, Bool.and_eq_true, decide_eq_true_eq] at h
        unfold kwNames
        simp only [h.1.1, kwNames_of h.2, decide_true, Bool.and_self]
  | .var _, _, _, _, h | .non, _, _, _, h | .bl _, _, _, _, h | .int _, _, _, _, h | .str _, _, _, _, h | .glo _, _, _, _, h | .bin _ _ _, _, _, _, h | .neg _, _, _, _, h | .not _, _, _, _, h | .cmp _ _ _, _, _, _, h | .chain _ _ _ _ _, _, _, _, h | .and _ _, _, _, _, h | .or _ _, _, _, _, h | .ife _ _ _, _, _, _, h | .tup _, _, _, _, h | .lst _, _, _, _, h | .dct _ _, _, _, _, h | .sub _ _, _, _, _, h | .no, _, _, _, h | .slc _ _ _, _, _, _, h | .rev _, _, _, _, h | .isi _ _ _, _, _, _, h | .call _ _, _, _, _, h | .callk _ _ _ _ _ _, _, _, _, h | .blt _ _, _, _, _, h | .meth _ _ _, _, _, _, h | .comp _ _ _ _ _, _, _, _, h | .iv _, _, _, _, h | .irg1 _, _, _, _, h | .irg2 _ _, _, _, _, h | .ienum _, _, _, _, h | .izip _ _, _, _, _, h | .lenset _, _, _, _, h | .smeth _ _ _, _, _, _, h | .fstr _, _, _, _, h | .fmt _, _, _, _, h => by simp [chkK] at h
theorem pw_of_pt {X : Cx} {op : BoolOp} {vs : List Expr} {p : Pos} {t : TT} (h : PT X (.BoolOp op vs p) t) : PW X (.BoolOp op vs p) t := ⟨fun _ pins s σ H Q I q => h.run pins s σ H Q I q⟩
theorem typeNames_len : ∀ {ts : List String} {es : List Expr} {sc : Scope}, typeNames ts es sc = true → ts.length = es.length
  | [], [], _, _ => rfl
  | _ :: cs, .Name _ _ :: es, sc, h => by
    unfold typeNames at h
    simp only [Bool.and_eq_true] at h
    rw [List.length_cons, List.length_cons, typeNames_len h.2]
theorem s_glo {X : Cx} {W : WX} {y : Str} {p : Pos} (hg : ∀ x pv, G.glo x = some pv → ∃ u v, X.mg x = some u ∧ RelV v u ∧ ∀ ρ H, RV X.K X.mg ρ H pv v) (g1 : Gl X y) (g2 : (y == ("__debug__" : Str)) = false) : PE X (.Name y p) (lE X W (evE G (.glo y))) := by
  refine ⟨fun pins s σ H Q I h => ?_⟩
  obtain ⟨ρ, env, M, S, E, h⟩ := h
  simp only [evE] at h
  cases q : G.glo y with
  | none => rw [q] at h; exact h.elim
  | some pv =>
    rw [q] at h
    obtain ⟨u, v, hm, r, f⟩ := hg y pv q
    exact (pe_glob g1 hm r g2).run pins s σ H Q I (h.here S (f ρ H))
theorem both {X : Cx} {W : WX} {e : Expr} {r : Env → Sto → Res PV} {t : Bool} (q : PE X e (lE X W r)) (h : isTest e = false) : PE X e (lE X W r) ∧ (t = true → PT X e (lT X W r)) := ⟨q, fun _ => t_val q h⟩
theorem ts_nil {X : Cx} {W : WX} : PTs X [] (lB X W (evT G .nil)) := by
  refine ⟨fun pins s σ H Q I h => pts_nil.run pins s σ H Q I ?_⟩
  obtain ⟨ρ, env, M, S, E, h⟩ := h
  exact Post.here (x := true) (v := true) S rfl h
theorem evT_one (a : CE) : evT G (.cons a .nil) = truR (evE G a) := by
  funext env M
  simp only [evT, truR]
  congr 1
  funext x M1
  cases truV M1 x with
  | none => rfl
  | some b => cases b <;> rfl
theorem ts_one {X : Cx} {W : WX} {y : Expr} {a : CE} (h : PT X y (lT X W (evE G a))) : PTs X [y] (lB X W (evT G (.cons a .nil))) := by
  rw [evT_one]
  exact pts_one h
theorem own_of {N : List Str} : ∀ {own : List Nat} {ow : List (Str × Nat)}, (own.mapM fun i => (N[i]?).map fun x => (x, i)) = some ow → True := fun _ => trivial


mutual
theorem s_E : ∀ (c : CE) (t : Bool) (k : CK) (X : Cx) (W : WX) (e : Expr), XOk G k.kw d X → KOk k X → Takes X W → chkE c t k e = true → PE X e (lE X W (evE G c)) ∧ (t = true → PT X e (lT X W (evE G c)))
  | .var i, t, k, X, W, e, x, hk, tk, h => by
    cases e <;> first | (simp [chkE] at h; done) | skip
    simp only [chkE, Bool.and_eq_true, decide_eq_true_eq, okName, Bool.not_eq_true'] at h
    exact both (s_var (by rw [hk.N]; exact h.1.1) (vis_of hk h.1.2) h.2.1 h.2.2) rfl
  | .non, t, k, X, W, e, x, hk, tk, h => by
    cases e <;> first | (simp [chkE] at h; done) | skip
    rename_i v _ _
    cases v <;> first | (simp [chkE] at h; done) | skip
    exact both (s_const pe_non fun _ _ => .non) rfl
  | .bl b, t, k, X, W, e, x, hk, tk, h => by
    cases e <;> first | (simp [chkE] at h; done) | skip
    rename_i v _ _
    cases v <;> first | (simp [chkE] at h; done) | skip
    simp only [chkE, decide_eq_true_eq] at h
    subst h
    exact both (s_const pe_bl fun _ _ => .bl b) rfl
  | .int b, t, k, X, W, e, x, hk, tk, h => by
    cases e <;> first | (simp [chkE] at h; done) | skip
    rename_i v _ _
    cases v <;> first | (simp [chkE] at h; done) | skip
    simp only [chkE, decide_eq_true_eq] at h
    subst h
    exact both (s_const pe_int fun _ _ => .int b) rfl
  | .str b, t, k, X, W, e, x, hk, tk, h => by
    cases e <;> first | (simp [chkE] at h; done) | skip
    rename_i v _ _
    cases v <;> first | (simp [chkE] at h; done) | skip
    simp only [chkE, decide_eq_true_eq] at h
    subst h
    exact both (s_const pe_str fun _ _ => .str b) rfl
  | .glo y, t, k, X, W, e, x, hk, tk, h => by
    cases e <;> first | (simp [chkE] at h; done) | skip
    simp only [chkE, Bool.and_eq_true, decide_eq_true_eq] at h
    obtain ⟨rfl, h⟩ := h
    obtain ⟨g1, g2⟩ := gl_k hk h
    exact both (s_glo x.glo g1 g2) rfl
  | .bin op a b, t, k, X, W, e, x, hk, tk, h => by
    cases e <;> first | (simp [chkE] at h; done) | skip
    simp only [chkE, Bool.and_eq_true, decide_eq_true_eq] at h
    obtain ⟨⟨rfl, h1⟩, h2⟩ := h
    exact both (s_bin (s_E a false k X W _ x hk tk h1).1 (s_E b false k X W _ x hk tk h2).1) rfl
  | .neg a, t, k, X, W, e, x, hk, tk, h => by
    cases e <;> first | (simp [chkE] at h; done) | skip
    rename_i o _ _
    cases o <;> first | (simp [chkE] at h; done) | skip
    simp only [chkE] at h
    exact both (s_neg (s_E a false k X W _ x hk tk h).1) rfl
  | .not a, t, k, X, W, e, x, hk, tk, h => by
    cases e <;> first | (simp [chkE] at h; done) | skip
    rename_i o _ _
    cases o <;> first | (simp [chkE] at h; done) | skip
    simp only [chkE] at h
    have i := s_E a t k X W _ x hk tk h
    exact ⟨s_not i.1, fun z => t_not (i.2 z)⟩
  | .cmp op a b, t, k, X, W, e, x, hk, tk, h => by
    cases e <;> first | (simp [chkE] at h; done) | skip
    rename_i l ops rs p
    simp only [chkE] at h
    split at h
    · rename_i heq
      cases heq
      simp only [Bool.and_eq_true, decide_eq_true_eq, Bool.not_eq_true'] at h
      obtain ⟨⟨⟨rfl, h0⟩, h1⟩, h2⟩ := h
      have u : X.A.units + 64 < cLine := by have := x.units; omega
      have i1 := (s_E a false k X W _ x hk tk h1).1
      have i2 := (s_E b false k X W _ x hk tk h2).1
      exact ⟨s_cmp u i1 i2 h0, fun _ => t_cmp u i1 i2 h0⟩
    · cases h
  | .chain op op' a b c, t, k, X, W, e, x, hk, tk, h => by
    cases e <;> first | (simp [chkE] at h; done) | skip
    rename_i l ops rs p
    simp only [chkE] at h
    split at h
    · rename_i heq
      cases heq
      simp only [Bool.and_eq_true, decide_eq_true_eq, Bool.not_eq_true'] at h
      obtain ⟨⟨⟨⟨⟨⟨rfl, rfl⟩, h0⟩, h0'⟩, h1⟩, h2⟩, h3⟩ := h
      have u : X.A.units + 64 < cLine := by have := x.units; omega
      have i1 := (s_E a false k X W _ x hk tk h1).1
      have i2 := (s_E b false k X W _ x hk tk h2).1
      have i3 := (s_E c false k X W _ x hk tk h3).1
      exact ⟨s_chain u i1 i2 i3 h0', fun _ => t_chain u i1 i2 i3 h0'⟩
    · cases h
  | .and a b, t, k, X, W, e, x, hk, tk, h => by
    cases e <;> first | (simp [chkE] at h; done) | skip
    rename_i o vs p
    simp only [chkE] at h
    split at h
    · rename_i heq
      cases heq
      simp only [Bool.and_eq_true] at h
      obtain ⟨h1, h2⟩ := h
      have i1 := s_E a t k X W _ x hk tk h1
      split at h2
      · have i2 := s_E b t k X W _ x hk tk h2
        exact ⟨s_and i1.1 (s_one i2.1), fun z => (w_and (i1.2 z) (w_and1 (i2.2 z))).pt⟩
      · have i2 := s_E b t k X W _ x hk tk h2
        exact ⟨s_and i1.1 i2.1, fun z => (w_and (i1.2 z) (pw_of_pt (i2.2 z))).pt⟩
    · cases h
  | .or a b, t, k, X, W, e, x, hk, tk, h => by
    cases e <;> first | (simp [chkE] at h; done) | skip
    rename_i o vs p
    simp only [chkE] at h
    split at h
    · rename_i heq
      cases heq
      simp only [Bool.and_eq_true] at h
      obtain ⟨h1, h2⟩ := h
      have i1 := s_E a t k X W _ x hk tk h1
      split at h2
      · have i2 := s_E b t k X W _ x hk tk h2
        exact ⟨s_or i1.1 (s_one i2.1), fun z => (w_or (i1.2 z) (w_or1 (i2.2 z))).pt⟩
      · have i2 := s_E b t k X W _ x hk tk h2
        exact ⟨s_or i1.1 i2.1, fun z => (w_or (i1.2 z) (pw_of_pt (i2.2 z))).pt⟩
    · cases h
  | .ife c a b, t, k, X, W, e, x, hk, tk, h => by
    cases e <;> first | (simp [chkE] at h; done) | skip
    simp only [chkE, Bool.and_eq_true, Bool.not_eq_true'] at h
    obtain ⟨⟨⟨h0, h1⟩, h2⟩, h3⟩ := h
    refine ⟨s_ife ((s_E c true k X W _ x hk tk h1).2 rfl) (s_E a false k X W _ x hk tk h2).1 (s_E b false k X W _ x hk tk h3).1, fun z => ?_⟩
    rw [h0] at z; cases z
  | .tup as, t, k, X, W, e, x, hk, tk, h => by
    cases e <;> first | (simp [chkE] at h; done) | skip
    simp only [chkE] at h
    exact both (s_tup (s_A as k X W _ x hk tk h)) rfl
  | .lst as, t, k, X, W, e, x, hk, tk, h => by
    cases e <;> first | (simp [chkE] at h; done) | skip
    simp only [chkE] at h
    exact both (s_lst (s_A as k X W _ x hk tk h)) rfl
  | .dct ks vs, t, k, X, W, e, x, hk, tk, h => by
    cases e <;> first | (simp [chkE] at h; done) | skip
    rename_i ke ve p
    simp only [chkE, Bool.and_eq_true, decide_eq_true_eq, Bool.not_eq_true'] at h
    obtain ⟨⟨⟨⟨h1, h2⟩, h3⟩, h4⟩, h5⟩ := h
    obtain ⟨js, e1, e2, e3, pd⟩ := s_D vs ks k X W ke ve p x hk tk h1 h2 h3
    have q0 := s_dct pd e3 h3 (by intro z; rw [z] at h4; cases h4) h5 e2
    refine both (PE.weak q0 fun σ H Q hh => ?_) rfl
    obtain ⟨ρ, env, M, S, E, hh⟩ := hh
    refine ⟨ρ, env, M, S, E, ?_⟩
    simp only [evE, e1] at hh
    exact hh
  | .nil, t, k, X, W, e, x, hk, tk, h => by simp [chkE] at h
  | .cons _ _, t, k, X, W, e, x, hk, tk, h => by simp [chkE] at h
  | .sub a i, t, k, X, W, e, x, hk, tk, h => by
    cases e <;> first | (simp [chkE] at h; done) | skip
    simp only [chkE, Bool.and_eq_true, Bool.not_eq_true'] at h
    obtain ⟨⟨h0, h1⟩, h2⟩ := h
    have u : X.A.units + 64 < cLine := by have := x.units; omega
    exact both (s_sub u h0 (s_E a false k X W _ x hk tk h1).1 (s_E i false k X W _ x hk tk h2).1) rfl
  | .no, t, k, X, W, e, x, hk, tk, h => by simp [chkE] at h
  | .slc a lo hi, t, k, X, W, e, x, hk, tk, h => by
    cases e <;> first | (simp [chkE] at h; done) | skip
    rename_i o j p
    simp only [chkE] at h
    split at h
    · rename_i heq
      cases heq
      simp only [Bool.and_eq_true] at h
      obtain ⟨⟨h1, h2⟩, h3⟩ := h
      exact both (s_slc (s_E a false k X W _ x hk tk h1).1 (s_O lo k X W _ x hk tk h2) (s_O hi k X W _ x hk tk h3)) rfl
    · cases h
  | .rev a, t, k, X, W, e, x, hk, tk, h => by
    cases e <;> first | (simp [chkE] at h; done) | skip
    rename_i o j p
    simp only [chkE] at h
    split at h
    · rename_i heq
      cases heq
      exact both (s_rev (s_E a false k X W _ x hk tk h).1) rfl
    · cases h
  | .isi a ts many, t, k, X, W, e, x, hk, tk, h => by
    cases e <;> first | (simp [chkE] at h; done) | skip
    rename_i f as kws p
    simp only [chkE] at h
    split at h
    · rename_i heq
      cases heq
      simp only [Bool.and_eq_true, decide_eq_true_eq] at h
      obtain ⟨⟨⟨rfl, h1⟩, h2⟩, h3⟩ := h
      obtain ⟨g1, _⟩ := gl_k hk h1
      have hs := chkE_star h2
      have fr := x.free "isinstance" (by decide)
      have ia := (s_E a false k X W _ x hk tk h2).1
      split at h3
      · simp only [Bool.and_eq_true, decide_eq_true_eq] at h3
        exact both (s_isiT g1 fr x.cls ia hs (by rw [hk.sc]; exact h3.2) h3.1) rfl
      · simp only [Bool.and_eq_true, decide_eq_true_eq] at h3
        obtain ⟨l1, h3⟩ := h3
        match ts, l1, h3 with
        | [c], _, h3 =>
          exact both (s_isi1 (x := "x") (p1 := p) (p2 := p) g1 fr x.cls ia hs (by rw [hk.sc]; exact h3)) rfl
      · cases h3
    · cases h
  | .call f as, t, k, X, W, e, x, hk, tk, h => by
    cases e <;> first | (simp [chkE] at h; done) | skip
    rename_i g es kws p
    simp only [chkE] at h
    split at h
    · rename_i heq
      cases heq
      simp only [Bool.and_eq_true, decide_eq_true_eq] at h
      obtain ⟨⟨⟨rfl, h1⟩, h2⟩, h3⟩ := h
      obtain ⟨g1, g2⟩ := gl_k hk h1
      obtain ⟨l, hl⟩ := Option.isSome_iff_exists.mp h3
      obtain ⟨fa, fd, ps, C⟩ := x.call f l hl
      have hs := chkA_star h2
      cases es with
      | nil =>
        have en : as = .nil := by cases as <;> first | rfl | (simp [chkA] at h2)
        subst en
        exact both (s_call0 C x.room x.gd tk g1 g2) rfl
      | cons y ys =>
        exact both (s_call C x.room x.gd tk g1 g2 (s_A as k X W _ x hk tk h2) hs) rfl
    · cases h
  | .callk f n as ks kws perm, t, k, X, W, e, x, hk, tk, h => by
    cases e <;> first | (simp [chkE] at h; done) | skip
    rename_i g es ws p
    simp only [chkE] at h
    split at h
    · rename_i heq
      cases heq
      simp only [Bool.and_eq_true, decide_eq_true_eq, Bool.not_eq_true'] at h
      obtain ⟨⟨⟨⟨⟨⟨rfl, h1⟩, h2⟩, h3⟩, h4⟩, h5⟩, h6⟩ := h
      obtain ⟨g1, g2⟩ := gl_k hk h1
      split at h6
      · rename_i l hl
        obtain ⟨fa, fd, ps, C⟩ := x.call f l hl
        have hz : (n, ks, perm) ∈ l := by simpa using h6
        have hs := chkA_star h2
        have hn := kwNames_of h3
        have ik := s_K kws ks k X W ws x hk tk h3
        cases es with
        | nil =>
          have en : as = .nil := by cases as <;> first | rfl | (simp [chkA] at h2)
          subst en
          have e0 : n = 0 := h4
          subst e0
          exact both (s_callk0 C hz x.room x.gd tk g1 g2 ik hn) rfl
        | cons y ys =>
          exact both (s_callk C hz x.room x.gd tk g1 g2 (s_A as k X W _ x hk tk h2) hs ik hn) rfl
      · cases h6
    · cases h
  | .blt f as, t, k, X, W, e, x, hk, tk, h => by
    cases e <;> first | (simp [chkE] at h; done) | skip
    rename_i g es kws p
    simp only [chkE] at h
    split at h
    · rename_i heq
      cases heq
      simp only [Bool.and_eq_true, decide_eq_true_eq] at h
      obtain ⟨⟨rfl, h1⟩, h2⟩ := h
      obtain ⟨g1, g2⟩ := gl_k hk h1
      exact both (s_blt x.calm x.gd x.units g1 (x.free _ (bi_free f)) (s_A as k X W _ x hk tk h2) (chkA_star h2)) rfl
    · cases h
  | .meth m o as, t, k, X, W, e, x, hk, tk, h => by
    cases e <;> first | (simp [chkE] at h; done) | skip
    rename_i g es kws p
    simp only [chkE] at h
    split at h
    · rename_i heq
      cases heq
      simp only [Bool.and_eq_true, decide_eq_true_eq, Bool.not_eq_true'] at h
      obtain ⟨⟨⟨⟨⟨⟨rfl, h1⟩, h2⟩, h3⟩, h4⟩, h5⟩, h6⟩ := h
      have io := (s_E o false k X W _ x hk tk h3).1
      cases es with
      | nil =>
        have en : as = .nil := by cases as <;> first | rfl | (simp [chkA] at h4)
        subst en
        cases m <;> first | (simp at h6; done) | skip
        exact both (s_meth0 io h2 h1) rfl
      | cons y ys =>
        have hm : m ≠ .pop := by intro z; subst z; simp at h6
        exact both (s_meth io (s_A as k X W _ x hk tk h4) h2 h1 (chkA_star h4) h5 hm) rfl
    · cases h
  | .comp ct it ifs elt own, t, k, X, W, e, x, hk, tk, h => by
    cases e <;> first | (simp [chkE] at h; done) | skip
    rename_i y gens sc p
    simp only [chkE] at h
    split at h
    · rename_i heq
      cases heq
      simp only [Bool.and_eq_true, decide_eq_true_eq, Bool.not_eq_true'] at h
      obtain ⟨⟨⟨⟨⟨⟨⟨h0, h1⟩, h2⟩, h3⟩, h4⟩, h5⟩, h6⟩, h7⟩ := h
      subst h0
      split at h1
      · rename_i ow how
        simp only [Bool.and_eq_true, decide_eq_true_eq] at h1
        exact both (s_comp (ow := ow) x.calm x.nd (s_I it k X W _ _ x hk tk h3) (by rw [hk.N, hk.sc]; exact blkOk_by h1.1) h1.2
            (fun s H C cl fp => (s_tgt (hk.blk sc s H C cl fp) x.nd x.calm ct _ h4)) (fun s H C cl fp => (s_Ts ifs ⟨k.N, relS sc k.sc, false, k.kw⟩ _ W0 _ (x.blk sc s H C cl fp) (hk.blk sc s H C cl fp) takes0 h5)) (fun s H C cl fp => (s_E elt false ⟨k.N, relS sc k.sc, false, k.kw⟩ _ W0 _ (x.blk sc s H C cl fp) (hk.blk sc s H C cl fp) takes0 h6).1)
            h2 (fun j hj => by have := List.all_eq_true.mp h7 j hj; simpa using this)) rfl
      · cases h1
    · cases h
  | .iv _, t, k, X, W, e, x, hk, tk, h => by simp [chkE] at h
  | .irg1 _, t, k, X, W, e, x, hk, tk, h => by simp [chkE] at h
  | .irg2 _ _, t, k, X, W, e, x, hk, tk, h => by simp [chkE] at h
  | .ienum _, t, k, X, W, e, x, hk, tk, h => by simp [chkE] at h
  | .izip _ _, t, k, X, W, e, x, hk, tk, h => by simp [chkE] at h
  | .lenset a, t, k, X, W, e, x, hk, tk, h => by
    cases e <;> first | (simp [chkE] at h; done) | skip
    simp only [chkE] at h
    split at h
    · rename_i heq
      cases heq
      simp only [Bool.and_eq_true, decide_eq_true_eq] at h
      obtain ⟨⟨⟨⟨rfl, rfl⟩, h1⟩, h2⟩, h3⟩ := h
      exact both (s_lenset x.calm (gl_k hk h1).1 (x.free _ (by decide)) (gl_k hk h2).1 (x.free _ (by decide)) (s_E a false k X W _ x hk tk h3).1 (chkE_star h3)) rfl
    · cases h
  | .smeth m o as, t, k, X, W, e, x, hk, tk, h => by
    cases e <;> first | (simp [chkE] at h; done) | skip
    rename_i g es kws p
    simp only [chkE] at h
    split at h
    · rename_i heq
      cases heq
      simp only [Bool.and_eq_true, decide_eq_true_eq, Bool.not_eq_true'] at h
      obtain ⟨⟨⟨⟨⟨rfl, h1⟩, h2⟩, h3⟩, h4⟩, h5⟩ := h
      have io := (s_E o false k X W _ x hk tk h3).1
      cases es with
      | nil =>
        have en : as = .nil := by cases as <;> first | rfl | (simp [chkA] at h4)
        subst en
        exact both (s_smeth0 io h2 h1) rfl
      | cons z zs =>
        cases zs with
        | cons _ _ => cases m <;> simp at h5
        | nil =>
          cases as <;> first | (simp [chkA] at h4; done) | skip
          rename_i c r
          simp only [chkA, Bool.and_eq_true] at h4
          have en : r = .nil := by cases r <;> first | rfl | (simp [chkA] at h4)
          subst en
          exact both (s_smeth1 io (s_E c false k X W _ x hk tk h4.1).1 h2 h1 (chkE_star h4.1)) rfl
    · cases h
  | .fstr as, t, k, X, W, e, x, hk, tk, h => by
    cases e <;> first | (simp [chkE] at h; done) | skip
    rename_i es p
    simp only [chkE, Bool.and_eq_true, decide_eq_true_eq] at h
    match es, h with
    | v1 :: v2 :: rest, h =>
      obtain ⟨ts, hj, hr⟩ := s_F as k X W _ x hk tk h.1
      exact both (s_fstr hj hr) rfl
  | .fmt a, t, k, X, W, e, x, hk, tk, h => by
    cases e <;> first | (simp [chkE] at h; done) | skip
    simp only [chkE] at h
    split at h
    · rename_i heq
      cases heq
      simp only [Bool.and_eq_true, decide_eq_true_eq] at h
      obtain ⟨rfl, h1⟩ := h
      exact both (s_fmt (s_E a false k X W _ x hk tk h1).1) rfl
    · cases h
theorem s_F : ∀ (c : CE) (k : CK) (X : Cx) (W : WX) (es : List Expr), XOk G k.kw d X → KOk k X → Takes X W → chkA c k es = true → ∃ ts, PJ X es ts ∧ ∀ acc σ H Q, lR X eqR W (fun env M => evF G c env M acc) σ H Q → tJs ts acc σ H Q
  | .nil, k, X, W, es, x, hk, tk, h => by
    cases es with
    | nil => exact ⟨[], .nil, j_nil⟩
    | cons _ _ => simp [chkA] at h
  | .cons a r, k, X, W, es, x, hk, tk, h => by
    cases es with
    | nil => simp [chkA] at h
    | cons y ys =>
      simp only [chkA, Bool.and_eq_true] at h
      obtain ⟨ts, h1, h2⟩ := s_F r k X W ys x hk tk h.2
      exact ⟨_, .cons (s_E a false k X W _ x hk tk h.1).1 h1, j_cons h2⟩
  | .var _, k, X, W, es, x, hk, tk, h | .non, k, X, W, es, x, hk, tk, h | .bl _, k, X, W, es, x, hk, tk, h | .int _, k, X, W, es, x, hk, tk, h | .str _, k, X, W, es, x, hk, tk, h | .glo _, k, X, W, es, x, hk, tk, h | .bin _ _ _, k, X, W, es, x, hk, tk, h | .neg _, k, X, W, es, x, hk, tk, h | .not _, k, X, W, es, x, hk, tk, h | .cmp _ _ _, k, X, W, es, x, hk, tk, h | .chain _ _ _ _ _, k, X, W, es, x, hk, tk, h | .and _ _, k, X, W, es, x, hk, tk, h | .or _ _, k, X, W, es, x, hk, tk, h | .ife _ _ _, k, X, W, es, x, hk, tk, h | .tup _, k, X, W, es, x, hk, tk, h | .lst _, k, X, W, es, x, hk, tk, h | .dct _ _, k, X, W, es, x, hk, tk, h | .sub _ _, k, X, W, es, x, hk, tk, h | .no, k, X, W, es, x, hk, tk, h | .slc _ _ _, k, X, W, es, x, hk, tk, h | .rev _, k, X, W, es, x, hk, tk, h | .isi _ _ _, k, X, W, es, x, hk, tk, h | .call _ _, k, X, W, es, x, hk, tk, h | .callk _ _ _ _ _ _, k, X, W, es, x, hk, tk, h | .blt _ _, k, X, W, es, x, hk, tk, h | .meth _ _ _, k, X, W, es, x, hk, tk, h | .comp _ _ _ _ _, k, X, W, es, x, hk, tk, h | .iv _, k, X, W, es, x, hk, tk, h | .irg1 _, k, X, W, es, x, hk, tk, h | .irg2 _ _, k, X, W, es, x, hk, tk, h | .ienum _, k, X, W, es, x, hk, tk, h | .izip _ _, k, X, W, es, x, hk, tk, h | .lenset _, k, X, W, es, x, hk, tk, h | .smeth _ _ _, k, X, W, es, x, hk, tk, h | .fstr _, k, X, W, es, x, hk, tk, h | .fmt _, k, X, W, es, x, hk, tk, h => by simp [chkA] at h
theorem s_A : ∀ (c : CE) (k : CK) (X : Cx) (W : WX) (es : List Expr), XOk G k.kw d X → KOk k X → Takes X W → chkA c k es = true → PA X es (lA X W (evA G c))
  | .nil, k, X, W, es, x, hk, tk, h => by
    cases es with
    | nil => exact s_nil
    | cons _ _ => simp [chkA] at h
  | .cons a r, k, X, W, es, x, hk, tk, h => by
    cases es with
    | nil => simp [chkA] at h
    | cons y ys =>
      simp only [chkA, Bool.and_eq_true] at h
      exact s_cons (chkE_star h.1) (s_E a false k X W _ x hk tk h.1).1 (s_A r k X W _ x hk tk h.2)
  | .var _, k, X, W, es, x, hk, tk, h | .non, k, X, W, es, x, hk, tk, h | .bl _, k, X, W, es, x, hk, tk, h | .int _, k, X, W, es, x, hk, tk, h | .str _, k, X, W, es, x, hk, tk, h | .glo _, k, X, W, es, x, hk, tk, h | .bin _ _ _, k, X, W, es, x, hk, tk, h | .neg _, k, X, W, es, x, hk, tk, h | .not _, k, X, W, es, x, hk, tk, h | .cmp _ _ _, k, X, W, es, x, hk, tk, h | .chain _ _ _ _ _, k, X, W, es, x, hk, tk, h | .and _ _, k, X, W, es, x, hk, tk, h | .or _ _, k, X, W, es, x, hk, tk, h | .ife _ _ _, k, X, W, es, x, hk, tk, h | .tup _, k, X, W, es, x, hk, tk, h | .lst _, k, X, W, es, x, hk, tk, h | .dct _ _, k, X, W, es, x, hk, tk, h | .sub _ _, k, X, W, es, x, hk, tk, h | .no, k, X, W, es, x, hk, tk, h | .slc _ _ _, k, X, W, es, x, hk, tk, h | .rev _, k, X, W, es, x, hk, tk, h | .isi _ _ _, k, X, W, es, x, hk, tk, h | .call _ _, k, X, W, es, x, hk, tk, h | .callk _ _ _ _ _ _, k, X, W, es, x, hk, tk, h | .blt _ _, k, X, W, es, x, hk, tk, h | .meth _ _ _, k, X, W, es, x, hk, tk, h | .comp _ _ _ _ _, k, X, W, es, x, hk, tk, h | .iv _, k, X, W, es, x, hk, tk, h | .irg1 _, k, X, W, es, x, hk, tk, h | .irg2 _ _, k, X, W, es, x, hk, tk, h | .ienum _, k, X, W, es, x, hk, tk, h | .izip _ _, k, X, W, es, x, hk, tk, h | .lenset _, k, X, W, es, x, hk, tk, h | .smeth _ _ _, k, X, W, es, x, hk, tk, h | .fstr _, k, X, W, es, x, hk, tk, h | .fmt _, k, X, W, es, x, hk, tk, h => by simp [chkA] at h
theorem s_K : ∀ (c : CE) (ks : List Str) (k : CK) (X : Cx) (W : WX) (ws : List Keyword), XOk G k.kw d X → KOk k X → Takes X W → chkK c ks k ws = true → PK X ws (lK X W (evA G c))
  | .nil, ks, k, X, W, ws, x, hk, tk, h => by
    cases ws with
    | nil => exact k_nil
    | cons _ _ => cases ks <;> simp [chkK] at h
  | .cons a r, ks, k, X, W, ws, x, hk, tk, h => by
    cases ks with
    | nil => simp [chkK] at h
    | cons n ks =>
      cases ws with
      | nil => simp [chkK] at h
      | cons w ws =>
        obtain ⟨nm, y, p⟩ := w
        simp only [chkK, Bool.and_eq_true] at h
        exact k_cons (s_E a false k X W _ x hk tk h.1.2).1 (s_K r ks k X W ws x hk tk h.2)
  | .var _, ks, k, X, W, ws, x, hk, tk, h | .non, ks, k, X, W, ws, x, hk, tk, h | .bl _, ks, k, X, W, ws, x, hk, tk, h | .int _, ks, k, X, W, ws, x, hk, tk, h | .str _, ks, k, X, W, ws, x, hk, tk, h | .glo _, ks, k, X, W, ws, x, hk, tk, h | .bin _ _ _, ks, k, X, W, ws, x, hk, tk, h | .neg _, ks, k, X, W, ws, x, hk, tk, h | .not _, ks, k, X, W, ws, x, hk, tk, h | .cmp _ _ _, ks, k, X, W, ws, x, hk, tk, h | .chain _ _ _ _ _, ks, k, X, W, ws, x, hk, tk, h | .and _ _, ks, k, X, W, ws, x, hk, tk, h | .or _ _, ks, k, X, W, ws, x, hk, tk, h | .ife _ _ _, ks, k, X, W, ws, x, hk, tk, h | .tup _, ks, k, X, W, ws, x, hk, tk, h | .lst _, ks, k, X, W, ws, x, hk, tk, h | .dct _ _, ks, k, X, W, ws, x, hk, tk, h | .sub _ _, ks, k, X, W, ws, x, hk, tk, h | .no, ks, k, X, W, ws, x, hk, tk, h | .slc _ _ _, ks, k, X, W, ws, x, hk, tk, h | .rev _, ks, k, X, W, ws, x, hk, tk, h | .isi _ _ _, ks, k, X, W, ws, x, hk, tk, h | .call _ _, ks, k, X, W, ws, x, hk, tk, h | .callk _ _ _ _ _ _, ks, k, X, W, ws, x, hk, tk, h | .blt _ _, ks, k, X, W, ws, x, hk, tk, h | .meth _ _ _, ks, k, X, W, ws, x, hk, tk, h | .comp _ _ _ _ _, ks, k, X, W, ws, x, hk, tk, h | .iv _, ks, k, X, W, ws, x, hk, tk, h | .irg1 _, ks, k, X, W, ws, x, hk, tk, h | .irg2 _ _, ks, k, X, W, ws, x, hk, tk, h | .ienum _, ks, k, X, W, ws, x, hk, tk, h | .izip _ _, ks, k, X, W, ws, x, hk, tk, h | .lenset _, ks, k, X, W, ws, x, hk, tk, h | .smeth _ _ _, ks, k, X, W, ws, x, hk, tk, h | .fstr _, ks, k, X, W, ws, x, hk, tk, h | .fmt _, ks, k, X, W, ws, x, hk, tk, h => by simp [chkK] at h
theorem s_D : ∀ (c ks : CE) (k : CK) (X : Cx) (W : WX) (ke : List (Option Expr)) (ve : List Expr) (pos : Pos), XOk G k.kw d X → KOk k X → Takes X W → chkD ks ke = true → chkA c k ve = true → ke.length = ve.length →
    ∃ js, dctKeys ks = some js ∧ js.length = ke.length ∧ ke.all (·.isSome) = true ∧ PD X W pos js ke ve (evA G c)
  | .nil, ks, k, X, W, ke, ve, pos, x, hk, tk, h, h', hl => by
    cases ve with
    | cons _ _ => simp [chkA] at h'
    | nil =>
      cases ke with
      | cons _ _ => cases hl
      | nil =>
        have e : ks = .nil := by cases ks <;> first | rfl | (simp [chkD] at h)
        subst e
        exact ⟨[], rfl, rfl, rfl, d_nil⟩
  | .cons a r, ks, k, X, W, ke, ve, pos, x, hk, tk, h, h', hl => by
    cases ve with
    | nil => simp [chkA] at h'
    | cons y ys =>
      simp only [chkA, Bool.and_eq_true] at h'
      cases ke with
      | nil => cases hl
      | cons z zs =>
        have ia := (s_E a false k X W _ x hk tk h'.1).1
        cases ks <;> first | (simp [chkD] at h; done) | skip
        rename_i c cs
        cases c <;> first | (simp [chkD] at h; done) | skip
        · cases z with
          | none => simp [chkD] at h
          | some z =>
            cases z <;> first | (simp [chkD] at h; done) | skip
            rename_i v _ _
            cases v <;> first | (simp [chkD] at h; done) | skip
            simp only [chkD, Bool.and_eq_true, decide_eq_true_eq] at h
            obtain ⟨rfl, h2⟩ := h
            obtain ⟨js, e1, e2, e3, pd⟩ := s_D r cs k X W zs ys pos x hk tk h2 h'.2 (Nat.succ.inj hl)
            exact ⟨.inl _ :: js, by simp only [dctKeys, e1, Option.map_some], by rw [List.length_cons, List.length_cons, e2], by rw [List.all_cons, e3]; rfl, d_cons pe_int ia pd⟩
        · cases z with
          | none => simp [chkD] at h
          | some z =>
            cases z <;> first | (simp [chkD] at h; done) | skip
            rename_i v _ _
            cases v <;> first | (simp [chkD] at h; done) | skip
            simp only [chkD, Bool.and_eq_true, decide_eq_true_eq] at h
            obtain ⟨rfl, h2⟩ := h
            obtain ⟨js, e1, e2, e3, pd⟩ := s_D r cs k X W zs ys pos x hk tk h2 h'.2 (Nat.succ.inj hl)
            exact ⟨.inr _ :: js, by simp only [dctKeys, e1, Option.map_some], by rw [List.length_cons, List.length_cons, e2], by rw [List.all_cons, e3]; rfl, d_cons pe_str ia pd⟩
  | .var _, ks, k, X, W, ke, ve, pos, x, hk, tk, h, h', _ | .non, ks, k, X, W, ke, ve, pos, x, hk, tk, h, h', _ | .bl _, ks, k, X, W, ke, ve, pos, x, hk, tk, h, h', _ | .int _, ks, k, X, W, ke, ve, pos, x, hk, tk, h, h', _ | .str _, ks, k, X, W, ke, ve, pos, x, hk, tk, h, h', _ | .glo _, ks, k, X, W, ke, ve, pos, x, hk, tk, h, h', _ | .bin _ _ _, ks, k, X, W, ke, ve, pos, x, hk, tk, h, h', _ | .neg _, ks, k, X, W, ke, ve, pos, x, hk, tk, h, h', _ | .not _, ks, k, X, W, ke, ve, pos, x, hk, tk, h, h', _ | .cmp _ _ _, ks, k, X, W, ke, ve, pos, x, hk, tk, h, h', _ | .chain _ _ _ _ _, ks, k, X, W, ke, ve, pos, x, hk, tk, h, h', _ | .and _ _, ks, k, X, W, ke, ve, pos, x, hk, tk, h, h', _ | .or _ _, ks, k, X, W, ke, ve, pos, x, hk, tk, h, h', _ | .ife _ _ _, ks, k, X, W, ke, ve, pos, x, hk, tk, h, h', _ | .tup _, ks, k, X, W, ke, ve, pos, x, hk, tk, h, h', _ | .lst _, ks, k, X, W, ke, ve, pos, x, hk, tk, h, h', _ | .dct _ _, ks, k, X, W, ke, ve, pos, x, hk, tk, h, h', _ | .sub _ _, ks, k, X, W, ke, ve, pos, x, hk, tk, h, h', _ | .no, ks, k, X, W, ke, ve, pos, x, hk, tk, h, h', _ | .slc _ _ _, ks, k, X, W, ke, ve, pos, x, hk, tk, h, h', _ | .rev _, ks, k, X, W, ke, ve, pos, x, hk, tk, h, h', _ | .isi _ _ _, ks, k, X, W, ke, ve, pos, x, hk, tk, h, h', _ | .call _ _, ks, k, X, W, ke, ve, pos, x, hk, tk, h, h', _ | .callk _ _ _ _ _ _, ks, k, X, W, ke, ve, pos, x, hk, tk, h, h', _ | .blt _ _, ks, k, X, W, ke, ve, pos, x, hk, tk, h, h', _ | .meth _ _ _, ks, k, X, W, ke, ve, pos, x, hk, tk, h, h', _ | .comp _ _ _ _ _, ks, k, X, W, ke, ve, pos, x, hk, tk, h, h', _ | .iv _, ks, k, X, W, ke, ve, pos, x, hk, tk, h, h', _ | .irg1 _, ks, k, X, W, ke, ve, pos, x, hk, tk, h, h', _ | .irg2 _ _, ks, k, X, W, ke, ve, pos, x, hk, tk, h, h', _ | .ienum _, ks, k, X, W, ke, ve, pos, x, hk, tk, h, h', _ | .izip _ _, ks, k, X, W, ke, ve, pos, x, hk, tk, h, h', _ | .lenset _, ks, k, X, W, ke, ve, pos, x, hk, tk, h, h', _ | .smeth _ _ _, ks, k, X, W, ke, ve, pos, x, hk, tk, h, h', _ | .fstr _, ks, k, X, W, ke, ve, pos, x, hk, tk, h, h', _ | .fmt _, ks, k, X, W, ke, ve, pos, x, hk, tk, h, h', _ => by simp [chkA] at h'
theorem s_Ts : ∀ (c : CE) (k : CK) (X : Cx) (W : WX) (es : List Expr), XOk G k.kw d X → KOk k X → Takes X W → chkTs c k es = true → PTs X es (lB X W (evT G c))
  | .nil, k, X, W, es, x, hk, tk, h => by
    cases es with
    | nil => exact ts_nil
    | cons _ _ => simp [chkTs] at h
  | .cons a r, k, X, W, es, x, hk, tk, h => by
    cases r <;> first | (simp [chkTs] at h; done) | skip
    cases es with
    | nil => simp [chkTs] at h
    | cons y ys =>
      cases ys with
      | cons _ _ => simp [chkTs] at h
      | nil =>
        simp only [chkTs] at h
        exact ts_one ((s_E a true k X W _ x hk tk h).2 rfl)
  | .var _, k, X, W, es, x, hk, tk, h | .non, k, X, W, es, x, hk, tk, h | .bl _, k, X, W, es, x, hk, tk, h | .int _, k, X, W, es, x, hk, tk, h | .str _, k, X, W, es, x, hk, tk, h | .glo _, k, X, W, es, x, hk, tk, h | .bin _ _ _, k, X, W, es, x, hk, tk, h | .neg _, k, X, W, es, x, hk, tk, h | .not _, k, X, W, es, x, hk, tk, h | .cmp _ _ _, k, X, W, es, x, hk, tk, h | .chain _ _ _ _ _, k, X, W, es, x, hk, tk, h | .and _ _, k, X, W, es, x, hk, tk, h | .or _ _, k, X, W, es, x, hk, tk, h | .ife _ _ _, k, X, W, es, x, hk, tk, h | .tup _, k, X, W, es, x, hk, tk, h | .lst _, k, X, W, es, x, hk, tk, h | .dct _ _, k, X, W, es, x, hk, tk, h | .sub _ _, k, X, W, es, x, hk, tk, h | .no, k, X, W, es, x, hk, tk, h | .slc _ _ _, k, X, W, es, x, hk, tk, h | .rev _, k, X, W, es, x, hk, tk, h | .isi _ _ _, k, X, W, es, x, hk, tk, h | .call _ _, k, X, W, es, x, hk, tk, h | .callk _ _ _ _ _ _, k, X, W, es, x, hk, tk, h | .blt _ _, k, X, W, es, x, hk, tk, h | .meth _ _ _, k, X, W, es, x, hk, tk, h | .comp _ _ _ _ _, k, X, W, es, x, hk, tk, h | .iv _, k, X, W, es, x, hk, tk, h | .irg1 _, k, X, W, es, x, hk, tk, h | .irg2 _ _, k, X, W, es, x, hk, tk, h | .ienum _, k, X, W, es, x, hk, tk, h | .izip _ _, k, X, W, es, x, hk, tk, h | .lenset _, k, X, W, es, x, hk, tk, h | .smeth _ _ _, k, X, W, es, x, hk, tk, h | .fstr _, k, X, W, es, x, hk, tk, h | .fmt _, k, X, W, es, x, hk, tk, h => by simp [chkTs] at h
theorem s_O : ∀ (c : CE) (k : CK) (X : Cx) (W : WX) (e : Option Expr), XOk G k.kw d X → KOk k X → Takes X W → chkO c k e = true → PO X e (lO X W (evO G c))
  | .no, k, X, W, e, x, hk, tk, h => by
    cases e with
    | none => exact s_no
    | some _ => simp [chkO] at h
  | .cons a r, k, X, W, e, x, hk, tk, h => by
    cases r <;> first | (simp [chkO] at h; done) | skip
    cases e with
    | none => simp [chkO] at h
    | some y =>
      simp only [chkO] at h
      exact s_part (s_E a false k X W _ x hk tk h).1
  | .var _, k, X, W, e, x, hk, tk, h | .non, k, X, W, e, x, hk, tk, h | .bl _, k, X, W, e, x, hk, tk, h | .int _, k, X, W, e, x, hk, tk, h | .str _, k, X, W, e, x, hk, tk, h | .glo _, k, X, W, e, x, hk, tk, h | .bin _ _ _, k, X, W, e, x, hk, tk, h | .neg _, k, X, W, e, x, hk, tk, h | .not _, k, X, W, e, x, hk, tk, h | .cmp _ _ _, k, X, W, e, x, hk, tk, h | .chain _ _ _ _ _, k, X, W, e, x, hk, tk, h | .and _ _, k, X, W, e, x, hk, tk, h | .or _ _, k, X, W, e, x, hk, tk, h | .ife _ _ _, k, X, W, e, x, hk, tk, h | .tup _, k, X, W, e, x, hk, tk, h | .lst _, k, X, W, e, x, hk, tk, h | .dct _ _, k, X, W, e, x, hk, tk, h | .nil, k, X, W, e, x, hk, tk, h | .sub _ _, k, X, W, e, x, hk, tk, h | .slc _ _ _, k, X, W, e, x, hk, tk, h | .rev _, k, X, W, e, x, hk, tk, h | .isi _ _ _, k, X, W, e, x, hk, tk, h | .call _ _, k, X, W, e, x, hk, tk, h | .callk _ _ _ _ _ _, k, X, W, e, x, hk, tk, h | .blt _ _, k, X, W, e, x, hk, tk, h | .meth _ _ _, k, X, W, e, x, hk, tk, h | .comp _ _ _ _ _, k, X, W, e, x, hk, tk, h | .iv _, k, X, W, e, x, hk, tk, h | .irg1 _, k, X, W, e, x, hk, tk, h | .irg2 _ _, k, X, W, e, x, hk, tk, h | .ienum _, k, X, W, e, x, hk, tk, h | .izip _ _, k, X, W, e, x, hk, tk, h | .lenset _, k, X, W, e, x, hk, tk, h | .smeth _ _ _, k, X, W, e, x, hk, tk, h | .fstr _, k, X, W, e, x, hk, tk, h | .fmt _, k, X, W, e, x, hk, tk, h => by simp [chkO] at h
theorem s_I : ∀ (c : CE) (k : CK) (X : Cx) (W : WX) (tg e : Expr), XOk G k.kw d X → KOk k X → Takes X W → chkI c k tg e = true → PI X tg e (lI X W (evI G c))
  | .iv a, k, X, W, tg, e, x, hk, tk, h => by
    simp only [chkI] at h
    exact i_iv (s_E a false k X W _ x hk tk h).1
  | .irg1 a, k, X, W, tg, e, x, hk, tk, h => by
    cases e <;> first | (simp [chkI] at h; done) | skip
    simp only [chkI] at h
    split at h
    · rename_i heq
      cases heq
      simp only [Bool.and_eq_true, decide_eq_true_eq] at h
      obtain ⟨⟨rfl, h1⟩, h2⟩ := h
      exact i_rg1 (gl_k hk h1).1 (x.free _ (by decide)) (s_E a false k X W _ x hk tk h2).1 (chkE_star h2)
    · cases h
  | .irg2 a b, k, X, W, tg, e, x, hk, tk, h => by
    cases e <;> first | (simp [chkI] at h; done) | skip
    simp only [chkI] at h
    split at h
    · rename_i heq
      cases heq
      simp only [Bool.and_eq_true, decide_eq_true_eq] at h
      obtain ⟨⟨⟨rfl, h1⟩, h2⟩, h3⟩ := h
      exact i_rg2 (gl_k hk h1).1 (x.free _ (by decide)) (s_E a false k X W _ x hk tk h2).1 (s_E b false k X W _ x hk tk h3).1 (chkE_star h2) (chkE_star h3)
    · cases h
  | .ienum a, k, X, W, tg, e, x, hk, tk, h => by
    cases e <;> first | (simp [chkI] at h; done) | skip
    simp only [chkI] at h
    split at h
    · rename_i heq
      cases heq
      simp only [Bool.and_eq_true, decide_eq_true_eq] at h
      obtain ⟨⟨⟨ht, rfl⟩, h1⟩, h2⟩ := h
      cases tg <;> first | (cases ht; done) | skip
      exact i_ienum (gl_k hk h1).1 (x.free _ (by decide)) (s_E a false k X W _ x hk tk h2).1 (chkE_star h2)
    · cases h
  | .izip a b, k, X, W, tg, e, x, hk, tk, h => by
    cases e <;> first | (simp [chkI] at h; done) | skip
    simp only [chkI] at h
    split at h
    · rename_i heq
      cases heq
      simp only [Bool.and_eq_true, decide_eq_true_eq] at h
      obtain ⟨⟨⟨⟨ht, rfl⟩, h1⟩, h2⟩, h3⟩ := h
      cases tg <;> first | (cases ht; done) | skip
      exact i_izip (gl_k hk h1).1 (x.free _ (by decide)) (s_E a false k X W _ x hk tk h2).1 (s_E b false k X W _ x hk tk h3).1 (chkE_star h2) (chkE_star h3)
    · cases h
  | .var _, k, X, W, tg, e, x, hk, tk, h | .non, k, X, W, tg, e, x, hk, tk, h | .bl _, k, X, W, tg, e, x, hk, tk, h | .int _, k, X, W, tg, e, x, hk, tk, h | .str _, k, X, W, tg, e, x, hk, tk, h | .glo _, k, X, W, tg, e, x, hk, tk, h | .bin _ _ _, k, X, W, tg, e, x, hk, tk, h | .neg _, k, X, W, tg, e, x, hk, tk, h | .not _, k, X, W, tg, e, x, hk, tk, h | .cmp _ _ _, k, X, W, tg, e, x, hk, tk, h | .chain _ _ _ _ _, k, X, W, tg, e, x, hk, tk, h | .and _ _, k, X, W, tg, e, x, hk, tk, h | .or _ _, k, X, W, tg, e, x, hk, tk, h | .ife _ _ _, k, X, W, tg, e, x, hk, tk, h | .tup _, k, X, W, tg, e, x, hk, tk, h | .lst _, k, X, W, tg, e, x, hk, tk, h | .dct _ _, k, X, W, tg, e, x, hk, tk, h | .nil, k, X, W, tg, e, x, hk, tk, h | .cons _ _, k, X, W, tg, e, x, hk, tk, h | .sub _ _, k, X, W, tg, e, x, hk, tk, h | .no, k, X, W, tg, e, x, hk, tk, h | .slc _ _ _, k, X, W, tg, e, x, hk, tk, h | .rev _, k, X, W, tg, e, x, hk, tk, h | .isi _ _ _, k, X, W, tg, e, x, hk, tk, h | .call _ _, k, X, W, tg, e, x, hk, tk, h | .callk _ _ _ _ _ _, k, X, W, tg, e, x, hk, tk, h | .blt _ _, k, X, W, tg, e, x, hk, tk, h | .meth _ _ _, k, X, W, tg, e, x, hk, tk, h | .comp _ _ _ _ _, k, X, W, tg, e, x, hk, tk, h | .lenset _, k, X, W, tg, e, x, hk, tk, h | .smeth _ _ _, k, X, W, tg, e, x, hk, tk, h | .fstr _, k, X, W, tg, e, x, hk, tk, h | .fmt _, k, X, W, tg, e, x, hk, tk, h => by simp [chkI] at h
end
end
end Ev


set_option Elab.async false
set_option linter.all false
set_option maxRecDepth 100000
set_option maxHeartbeats 8000000
/-! Ev12: the text's statements do what the code says. -/
namespace Ev
open PySem L2

/-! ### is it alike? -/
def swapNames (sc : Scope) (ts : List Expr) : List Str := ts.filterMap fun
    | .Name id pos => if sc.names.lookup id == some .local && pos.line == (ts.head?.map (·.pos.line)).getD 0 then some id else none
    | _ => none
/-- are the stores of a, b = x, y swapped? none: this isn't told -/
def swapB (sc : Scope) (ts vs : List Expr) : Option (Option (List Str)) :=
  if !(ts.length == 2 || ts.length == 3) || vs.length != ts.length then some none else
  if vs.any isStar then some none else
  if (swapNames sc ts).length != ts.length || (swapNames sc ts).eraseDups.length != (swapNames sc ts).length then some none else
  if vs.all (foldedForSure 8) then some none else
  if vs.all (constantsAlone 8) then none else some (some (swapNames sc ts))
def isTupE : Expr → Bool
  | .Tuple .. => true
  | _ => false
def tgtName : Expr → Option (Str × Nat)
  | .Name x p => some (x, p.line)
  | _ => none
/-- a comprehension that is given to a name: does the store go first? -/
def compOk (k : CK) (x : Str) (px : Pos) : Expr → Bool
  | .ListComp _ _ sc p => match k.sc.names.lookup x with
    | some .local => (px.line == p.line) && !(sc.names.any fun (n, q) => n == x && (q == .local || q == .cell))
    | _ => true
  | .SetComp .. => false
  | .DictComp .. => false
  | _ => true
mutual
def chkS : CS → CK → Stmt → Bool
  | .asg t e, k, s => match s with
    | .Assign [tg] v _ => chkE e false k v && chkG k t tg && (match tg, v with
      | .Name x px, v => compOk k x px v
      | .Tuple ts _ _, .Tuple vs _ _ => (match swapB k.sc ts vs with
        | some none => true
        | _ => false)
      | .Tuple .., _ => true
      | _, _ => false)
    | _ => false
  | .par is as, k, s => match s with
    | .Assign [.Tuple ts _ _] (.Tuple vs _ _) _ => chkA as k vs && (match is, ts, vs with
      | [i, j], [.Name x _, .Name y _], [_, _] => decide (k.N[i]? = some x) && decide (k.N[j]? = some y) && decide (i ≠ j) && decide (k.sc.names.lookup x = some .local) && decide (k.sc.names.lookup y = some .local) && decide (swapB k.sc ts vs = some (some [x, y]))
      | [i, j, l], [.Name x _, .Name y _, .Name z _], [_, _, _] => decide (k.N[i]? = some x) && decide (k.N[j]? = some y) && decide (k.N[l]? = some z) && decide (i ≠ j) && decide (i ≠ l) && decide (j ≠ l) && decide (k.sc.names.lookup x = some .local) && decide (k.sc.names.lookup y = some .local) && decide (k.sc.names.lookup z = some .local) && decide (swapB k.sc ts vs = some (some [x, y, z]))
      | _, _, _ => false)
    | _ => false
  | .asgS o i e, k, s => match s with
    | .Assign [.Subscript x j _] v _ => chkE e false k v && chkE o false k x && chkE i false k j && !isSlice j
    | _ => false
  | .aug i op e, k, s => match s with
    | .AugAssign (.Name x _) o v _ => decide (op = o) && decide (op = .Add) && decide (k.N[i]? = some x) && locB k x && chkE e false k v
    | _ => false
  | .expr e, k, s => match s with
    | .Expr v _ => chkE e false k v && !isComp v
    | _ => false
  | .ite c a b, k, s => match s with
    | .If x as bs _ => chkE c true k x && chkB a k as && chkB b k bs
    | _ => false
  | .for_ t it b, k, s => match s with
    | .For tg iter body [] _ => chkG k t tg && chkI it k tg iter && !isSet iter && chkB b k body
    | _ => false
  | .while_ c b, k, s => match s with
    | .While x body [] _ => chkE c true k x && chkB b k body
    | _ => false
  | .ret e, k, s => match s with
    | .Return (some v) _ => chkE e false k v
    | _ => false
  | .retN, _, s => match s with
    | .Return none _ => true
    | _ => false
  | .pass, _, s => match s with
    | .Pass _ => true
    | _ => false
  | .brk, _, s => match s with
    | .Break _ => true
    | _ => false
  | .cnt, _, s => match s with
    | .Continue _ => true
    | _ => false
  | .never, _, _ => true
  | .nil, _, _ => false
  | .seq _ _, _, _ => false
  | .raise _ _, _, _ => false
def chkB : CS → CK → List Stmt → Bool
  | .nil, _, ss => match ss with
    | [] => true
    | _ => false
  | .seq a r, k, ss => match ss with
    | s :: ss => chkS a k s && chkB r k ss
    | [] => false
  | _, _, _ => false
end
theorem swap_eq {env : PySem.Env} {ts vs : List Expr} {k1 k2 : Nat} {p1 p2 : Pos} {o : Option (List Str)} (hb : env.blockKind = .function) (h : swapB env.scope ts vs = some o) : swappedStores [.Tuple ts k1 p1] (.Tuple vs k2 p2) env = pure o := by
  have hk : ∀ id, env.kindOf id = env.scope.names.lookup id := fun _ => rfl
  have hbb : (env.blockKind != .function) = false := by rw [hb]; rfl
  unfold swapB at h
  unfold swappedStores
  simp only [hbb, Bool.or_false, hk]
  show (if _ then _ else _) = _
  split at h
  · rename_i c
    cases h
    split
    · rfl
    · rename_i c'
      exact absurd c c'
  · rename_i c
    split
    · rename_i c'
      exact absurd c' c
    · show (if _ then _ else _) = _
      split at h
      · rename_i c2
        cases h
        split
        · rfl
        · rename_i c'
          exact absurd c2 c'
      · rename_i c2
        split
        · rename_i c'
          exact absurd c' c2
        · show (if ((swapNames env.scope ts).length != ts.length || (swapNames env.scope ts).eraseDups.length != (swapNames env.scope ts).length) = true then _ else _) = _
          split at h
          · rename_i c3
            cases h
            split
            · rfl
            · rename_i c'
              exact absurd c3 c'
          · rename_i c3
            split
            · rename_i c'
              exact absurd c' c3
            · show (if _ then _ else _) = _
              split at h
              · rename_i c4
                cases h
                split
                · rfl
                · rename_i c'
                  exact absurd c4 c'
              · rename_i c4
                split
                · rename_i c'
                  exact absurd c' c4
                · show (if _ then _ else _) = _
                  split at h
                  · cases h
                  · rename_i c5
                    split
                    · rename_i c'
                      exact absurd c' c5
                    · cases h
                      rfl
/-! ### readings -/
def PostS (X : Cx) (W : WX) (D : Ends) (ρ : List Addr) (H : Hp) : SRes → Prop
  | .nx env M => ∀ ρ' σ' H', Ext ρ H ρ' H' → SM X.K X.mg ρ' H' M → RE X.K X.mg ρ' H' env σ' → D.nx σ' H'
  | .rt v M => ∀ ρ' x H', Ext ρ H ρ' H' → SM X.K X.mg ρ' H' M → RV X.K X.mg ρ' H' v x → D.rt x H'
  | .bk env M => ∀ ρ' σ' H', Ext ρ H ρ' H' → SM X.K X.mg ρ' H' M → RE X.K X.mg ρ' H' env σ' → D.bk σ' H'
  | .ct env M => ∀ ρ' σ' H', Ext ρ H ρ' H' → SM X.K X.mg ρ' H' M → RE X.K X.mg ρ' H' env σ' → D.ct σ' H'
  | .ex x env M => ∀ ρ' σ' H' cls d, Ext ρ H ρ' H' → SM X.K X.mg ρ' H' M → RE X.K X.mg ρ' H' env σ' → EV X.K X.mg ρ' H' x cls d → W cls d σ' H'
  | .bad => False
def lS (X : Cx) (W : WX) (r : Env → Sto → SRes) : TS := fun D σ H => ∃ ρ env M, SM X.K X.mg ρ H M ∧ RE X.K X.mg ρ H env σ ∧ PostS X W D ρ H (r env M)
section
variable {X : Cx} {W : WX} {D D' : Ends} {ρ ρ1 : List Addr} {H H1 : Hp}
theorem PS.weak {s : Stmt} {t t' : TS} (h : PS X s t) (k : ∀ D σ H, t' D σ H → t D σ H) : PS X s t' := ⟨fun pins s σ H D I q => h.run pins s σ H D I (k D σ H q)⟩
theorem PSs.weak {s : List Stmt} {t t' : TS} (h : PSs X s t) (k : ∀ D σ H, t' D σ H → t D σ H) : PSs X s t' := ⟨fun pins s σ H D I q => h.run pins s σ H D I (k D σ H q)⟩
theorem PS.or {s : Stmt} {t t' : TS} (h : PS X s t) (h' : PS X s t') : PS X s (fun D σ H => t D σ H ∨ t' D σ H) := ⟨fun pins s σ H D I q => q.elim (h.run pins s σ H D I) (h'.run pins s σ H D I)⟩
theorem PostS.at {r : SRes} (h : PostS X W D ρ H r) (E : Ext ρ H ρ1 H1) : PostS X W D ρ1 H1 r := by
  cases r with
  | nx _ _ => exact fun a b c e => h a b c (E.trans e)
  | rt _ _ => exact fun a b c e => h a b c (E.trans e)
  | bk _ _ => exact fun a b c e => h a b c (E.trans e)
  | ct _ _ => exact fun a b c e => h a b c (E.trans e)
  | ex _ _ _ => exact fun a b c d f e => h a b c d f (E.trans e)
  | bad => exact h
/-- an expression, then the rest -/
theorem PostS.exp {α β : Type} {R : List Addr → Hp → α → β → Prop} {r : Res α} {env : Env} {σ : St} {M : Sto} {f : α → Sto → SRes} {Q : β → Hp → Prop} (S : SM X.K X.mg ρ H M) (E : RE X.K X.mg ρ H env σ) (h : PostS X W D ρ H (r.then env f))
    (k : ∀ x M1 ρ1 v H1, Ext ρ H ρ1 H1 → SM X.K X.mg ρ1 H1 M1 → RE X.K X.mg ρ1 H1 env σ → R ρ1 H1 x v → PostS X W D ρ1 H1 (f x M1) → Q v H1) : Post X.K X.mg R (fun c d H' => W c d σ H') ρ H r Q := by
  cases r with
  | bad => exact h
  | exc x M1 => exact fun ρ1 H1 c d e1 S1 ev => h ρ1 σ H1 c d e1 S1 (E.mono S e1) ev
  | ok x M1 => exact fun ρ1 v H1 e1 S1 r1 => k x M1 ρ1 v H1 e1 S1 (E.mono S e1) r1 (PostS.at h e1)
/-- a test, then one of two ways -/
theorem PostS.test {r : Res PV} {env : Env} {σ : St} {M : Sto} {f g : PV → Sto → SRes} {Q : Bool → Hp → Prop} (S : SM X.K X.mg ρ H M) (E : RE X.K X.mg ρ H env σ) (h : PostS X W D ρ H (r.then env fun x M1 => match truV M1 x with | some true => f x M1 | some false => g x M1 | none => .bad))
    (k : ∀ b x M1 ρ1 H1, Ext ρ H ρ1 H1 → SM X.K X.mg ρ1 H1 M1 → RE X.K X.mg ρ1 H1 env σ → PostS X W D ρ1 H1 (if b = true then f x M1 else g x M1) → Q b H1) : Post X.K X.mg eqR (fun c d H' => W c d σ H') ρ H (r.bind fun x M1 => Res.of (truV M1 x) M1) Q := by
  cases r with
  | bad => exact h
  | exc x M1 => exact fun ρ1 H1 c d e1 S1 ev => h ρ1 σ H1 c d e1 S1 (E.mono S e1) ev
  | ok x M1 =>
    show Post X.K X.mg eqR _ ρ H (Res.of (truV M1 x) M1) Q
    have h' : PostS X W D ρ H (match truV M1 x with | some true => f x M1 | some false => g x M1 | none => .bad) := h
    cases q : truV M1 x with
    | none => rw [q] at h'; exact h'.elim
    | some b =>
      rw [q] at h'
      intro ρ1 v H1 e1 S1 r1
      cases r1
      refine k b x M1 ρ1 H1 e1 S1 (E.mono S e1) ?_
      cases b with
      | true => exact PostS.at h' e1
      | false => exact PostS.at h' e1
theorem PostS.next {env : Env} {M : Sto} {σ : St} (h : PostS X W D ρ H (.nx env M)) (S : SM X.K X.mg ρ H M) (E : RE X.K X.mg ρ H env σ) : D.nx σ H := h ρ σ H (Ext.refl _ _) S E
end
section
variable {X : Cx} {W : WX} {a b c e tg : Expr} {es : List Expr} {pos p : Pos} {ra rb rc : Env → Sto → Res PV} {rs : Env → Sto → Res (List PV)} {r1 r2 : Env → Sto → SRes}
theorem b_nil : PSs X [] (lS X W fun env M => .nx env M) := by
  refine PSs.weak pss_nil fun D σ H h => ?_
  obtain ⟨ρ, env, M, S, E, h⟩ := h
  exact PostS.next h S E
theorem b_cons {s : Stmt} {ss : List Stmt} (h1 : PS X s (lS X W r1)) (h2 : PSs X ss (lS X W r2)) : PSs X (s :: ss) (lS X W fun env M => (r1 env M).bind fun env1 M1 => r2 env1 M1) := by
  refine PSs.weak (pss_cons h1 h2) fun D σ H h => ?_
  obtain ⟨ρ, env, M, S, E, h⟩ := h
  refine ⟨ρ, env, M, S, E, ?_⟩
  dsimp only at h
  revert h
  cases r1 env M with
  | nx env1 M1 => exact fun h ρ1 σ1 H1 e1 S1 E1 => ⟨ρ1, env1, M1, S1, E1, PostS.at h e1⟩
  | rt _ _ => exact fun h => h
  | bk _ _ => exact fun h => h
  | ct _ _ => exact fun h => h
  | ex _ _ _ => exact fun h => h
  | bad => exact fun h => h
theorem x_asg {t : CT} {s : Stmt} (hs : PS X s (tAsg (lE X W ra) (lG X t))) : PS X s (lS X W fun env M => (ra env M).then env fun x M1 => match asgT t x env with
    | some env1 => .nx env1 M1
    | none => .bad) := by
  refine PS.weak hs fun D σ H h => ?_
  obtain ⟨ρ, env, M, S, E, h⟩ := h
  refine ⟨ρ, env, M, S, E, PostS.exp S E h fun x M1 ρ1 v H1 e1 S1 E1 r1 h1 => ?_⟩
  cases q : asgT t x env with
  | none => rw [q] at h1; exact h1.elim
  | some env1 =>
    rw [q] at h1
    exact ⟨ρ1, env, M1, x, env1, S1, E1, r1, q, fun σ2 E2 _ => PostS.next h1 S1 E2⟩
theorem x_expr (ha : PE X a (lE X W ra)) (hc : isComp a = false) : PS X (.Expr a pos) (lS X W fun env M => (ra env M).then env fun _ M1 => .nx env M1) := by
  refine PS.weak (ps_expr ha (swaps_ne hc _ _ _)) fun D σ H h => ?_
  obtain ⟨ρ, env, M, S, E, h⟩ := h
  exact ⟨ρ, env, M, S, E, PostS.exp S E h fun x M1 ρ1 v H1 e1 S1 E1 r1 h1 => PostS.next h1 S1 E1⟩
theorem x_ret (ha : PE X a (lE X W ra)) : PS X (.Return (some a) pos) (lS X W fun env M => (ra env M).then env fun x M1 => .rt x M1) := by
  refine PS.weak (ps_ret ha) fun D σ H h => ?_
  obtain ⟨ρ, env, M, S, E, h⟩ := h
  exact ⟨ρ, env, M, S, E, PostS.exp S E h fun x M1 ρ1 v H1 e1 S1 E1 r1 h1 => h1 ρ1 v H1 (Ext.refl _ _) S1 r1⟩
theorem x_retN : PS X (.Return none pos) (lS X W fun _ M => .rt .non M) := by
  refine PS.weak ps_retN fun D σ H h => ?_
  obtain ⟨ρ, env, M, S, E, h⟩ := h
  exact h ρ .non H (Ext.refl _ _) S .non
theorem x_pass : PS X (.Pass pos) (lS X W fun env M => .nx env M) := by
  refine PS.weak ps_pass fun D σ H h => ?_
  obtain ⟨ρ, env, M, S, E, h⟩ := h
  exact PostS.next h S E
theorem x_brk : PS X (.Break pos) (lS X W fun env M => .bk env M) := by
  refine PS.weak ps_break fun D σ H h => ?_
  obtain ⟨ρ, env, M, S, E, h⟩ := h
  exact h ρ σ H (Ext.refl _ _) S E
theorem x_cnt : PS X (.Continue pos) (lS X W fun env M => .ct env M) := by
  refine PS.weak ps_continue fun D σ H h => ?_
  obtain ⟨ρ, env, M, S, E, h⟩ := h
  exact h ρ σ H (Ext.refl _ _) S E
theorem x_ite {as bs : List Stmt} (hc : PT X c (lT X W rc)) (ha : PSs X as (lS X W r1)) (hb : PSs X bs (lS X W r2)) : PS X (.If c as bs pos) (lS X W fun env M => (rc env M).then env fun x M1 => match truV M1 x with
    | some true => r1 env M1
    | some false => r2 env M1
    | none => .bad) := by
  refine PS.weak (ps_if hc ha hb) fun D σ H h => ?_
  obtain ⟨ρ, env, M, S, E, h⟩ := h
  refine ⟨ρ, env, M, S, E, PostS.test S E h fun k x M1 ρ1 H1 e1 S1 E1 h1 => ?_⟩
  cases k with
  | true => exact iteT ⟨ρ1, env, M1, S1, E1, h1⟩
  | false => exact iteF ⟨ρ1, env, M1, S1, E1, h1⟩
theorem x_aug {i : Nat} {x : Str} (hN : X.N.Nodup) (hi : X.N[i]? = some x) (hx : L2.Loc X.env.scope x) (hf : X.fn x = true ∨ X.env.scope.names.lookup x = some .local) (ha : PE X a (lE X W ra)) : PS X (.AugAssign (.Name x p) .Add a pos) (lS X W fun env M => match env[i]? with
    | some (some x) => (ra env M).then env fun y M1 => match x, y, Operator.Add with
      | .int a, .int b, .Add => .nx (env.set i (some (.int (a + b)))) M1
      | .int a, .int b, .Sub => .nx (env.set i (some (.int (a - b)))) M1
      | .str a, .str b, .Add => if a.length + b.length ≤ sizeLine then .nx (env.set i (some (.str (a ++ b)))) M1 else .bad
      | _, _, _ => .bad
    | _ => .bad) := by
  refine PS.weak (ps_aug hN hi hx ha (iop_add.or iop_add_str) hf) fun D σ H h => ?_
  obtain ⟨ρ, env, M, S, E, h⟩ := h
  dsimp only at h
  cases q : env[i]? with
  | none => rw [q] at h; exact h.elim
  | some o =>
    cases o with
    | none => rw [q] at h; exact h.elim
    | some z =>
      rw [q] at h
      obtain ⟨v, hv, rz⟩ := E.get q
      refine ⟨v, hv, ρ, env, M, S, E, PostS.exp S E h fun y M1 ρ1 w H1 e1 S1 E1 r1 h1 => ?_⟩
      have rz1 := rz.mono S e1
      cases z <;> cases y <;> first | exact h1.elim | skip
      · cases rz1.int_inv; cases r1.int_inv
        exact .inl ⟨_, _, rfl, rfl, PostS.next h1 S1 (E1.set (.int _) i)⟩
      · cases rz1.str_inv; cases r1.str_inv
        rename_i s1 s2
        have h1 : PostS X W D ρ1 H1 (if s1.length + s2.length ≤ sizeLine then .nx (env.set i (some (.str (s1 ++ s2)))) M1 else .bad) := h1
        split at h1
        · rename_i c
          exact .inr ⟨_, _, rfl, rfl, c, PostS.next h1 S1 (E1.set (.str _) i)⟩
        · exact h1.elim
theorem x_par2 {i j : Nat} {x y : Str} {px py pt : Pos} {kt k2 : Nat} {pt2 : Pos} (hc : X.calm = true) (hN : X.N.Nodup) (hi : X.N[i]? = some x) (hj : X.N[j]? = some y) (hij : i ≠ j) (hx : X.env.scope.names.lookup x = some .local) (hy : X.env.scope.names.lookup y = some .local) (ha : PA X [a, b] (lA X W rs))
    (hw : swappedStores [.Tuple [.Name x px, .Name y py] kt pt] (.Tuple [a, b] k2 pt2) X.env = pure (some [x, y])) :
    PS X (.Assign [.Tuple [.Name x px, .Name y py] kt pt] (.Tuple [a, b] k2 pt2) pos) (lS X W fun env M => (rs env M).then env fun xs M1 => if [i, j].length = xs.length then .nx (([i, j].zip xs).foldl (fun env p => env.set p.1 (some p.2)) env) M1 else .bad) := by
  refine PS.weak (ps_par hc hN hi hj hij hx hy ha hw) fun D σ H h => ?_
  obtain ⟨ρ, env, M, S, E, h⟩ := h
  refine ⟨ρ, env, M, S, E, PostS.exp S E h fun xs M1 ρ1 vs H1 e1 S1 E1 r1 h1 => ?_⟩
  split at h1
  · rename_i c
    match xs, c, r1, h1 with
    | [u, v], _, r1, h1 =>
      obtain ⟨u', v', rfl, q1, q2⟩ := r1.two_inv
      exact ⟨u', v', rfl, PostS.next h1 S1 ((E1.set q1 i).set q2 j)⟩
  · exact h1.elim
theorem RVs.three_inv {K : PySem.W.Frag} {mg : Str → Option Value} {ρ : List Addr} {H : Hp} {x y z : PV} {vs : List V} (h : RVs K mg ρ H [x, y, z] vs) : ∃ u v w, vs = [u, v, w] ∧ RV K mg ρ H x u ∧ RV K mg ρ H y v ∧ RV K mg ρ H z w := by
  cases h with
  | cons a b =>
    obtain ⟨v, w, rfl, h1, h2⟩ := b.two_inv
    exact ⟨_, v, w, rfl, a, h1, h2⟩
theorem x_par3 {i j l : Nat} {x y z : Str} {px py pz pt : Pos} {kt k2 : Nat} {pt2 : Pos} (hc : X.calm = true) (hN : X.N.Nodup) (hi : X.N[i]? = some x) (hj : X.N[j]? = some y) (hl : X.N[l]? = some z) (hij : i ≠ j) (hil : i ≠ l) (hjl : j ≠ l) (hx : X.env.scope.names.lookup x = some .local) (hy : X.env.scope.names.lookup y = some .local) (hz : X.env.scope.names.lookup z = some .local) (ha : PA X [a, b, c] (lA X W rs))
    (hw : swappedStores [.Tuple [.Name x px, .Name y py, .Name z pz] kt pt] (.Tuple [a, b, c] k2 pt2) X.env = pure (some [x, y, z])) :
    PS X (.Assign [.Tuple [.Name x px, .Name y py, .Name z pz] kt pt] (.Tuple [a, b, c] k2 pt2) pos) (lS X W fun env M => (rs env M).then env fun xs M1 => if [i, j, l].length = xs.length then .nx (([i, j, l].zip xs).foldl (fun env p => env.set p.1 (some p.2)) env) M1 else .bad) := by
  refine PS.weak (ps_par3 hc hN hi hj hl hij hil hjl hx hy hz ha hw) fun D σ H h => ?_
  obtain ⟨ρ, env, M, S, E, h⟩ := h
  refine ⟨ρ, env, M, S, E, PostS.exp S E h fun xs M1 ρ1 vs H1 e1 S1 E1 r1 h1 => ?_⟩
  split at h1
  · rename_i c
    match xs, c, r1, h1 with
    | [u, v, w], _, r1, h1 =>
      obtain ⟨t', u', v', rfl, q0, q1, q2⟩ := RVs.three_inv r1
      exact ⟨t', u', v', rfl, PostS.next h1 S1 (((E1.set q0 i).set q1 j).set q2 l)⟩
  · exact h1.elim
end
end Ev

set_option Elab.async false
set_option linter.all false
set_option maxRecDepth 100000
set_option maxHeartbeats 8000000
/-! Ev13: loops, stores, blocks. -/
namespace Ev
open PySem L2
section
variable {X : Cx} {W : WX} {a b c e tg : Expr} {es : List Expr} {pos p : Pos} {ra rb rc : Env → Sto → Res PV} {rs : Env → Sto → Res (List PV)} {r1 r2 : Env → Sto → SRes}
/-- the turn of a for: the target, then the body -/
def forB (t : CT) (r : Env → Sto → SRes) (x : PV) (env : Env) (M : Sto) : SRes := match asgT t x env with
      | some env1 => r env1 M
      | none => .bad
theorem x_for {iter : Expr} {body : List Stmt} {t : CT} {ri : Env → Sto → Res Src} (hp : PassesOwn (model X.prog X.w) X.A X.env X.xe) (hc : X.calm = true) (hi : PI X tg iter (lI X W ri)) (hg : PG X tg (lG X t)) (hb : PSs X body (lS X W r1)) (hs : isSet iter = false) :
    PS X (.For tg iter body [] pos) (lS X W fun env M => (ri env M).then env fun s M1 => forL (forB t r1) (keepB s.src) s.items env M1) := by
  refine PS.weak (ps_for hp hc hi hg hb (folded_ne hs _)) fun D σ H h => ?_
  obtain ⟨ρ, env, M, S, E, h⟩ := h
  refine ⟨ρ, env, M, S, E, PostS.exp S E h fun s M1 ρ1 J H1 e1 S1 E1 wk h1 => ?_⟩
  let Pv : Nat → St → Hp → Prop := fun i σ H => ∃ ρ env M, Ext ρ1 H1 ρ H ∧ SM X.K X.mg ρ H M ∧ RE X.K X.mg ρ H env σ ∧ PostS X W D ρ H (forL (forB t r1) (keepB s.src) (s.items.drop i) env M)
  refine ⟨fun i m σ H => m = s.items.length - i ∧ i ≤ s.items.length ∧ Pv i σ H, ⟨s.items.length, rfl, Nat.zero_le _, ρ1, env, M1, Ext.refl _ _, S1, E1, by rw [List.drop_zero]; exact h1⟩, ?_⟩
  rintro i m σ2 H2 ⟨rfl, hi, ρ2, env2, M2, e2, S2, E2, h2⟩
  have k2 : keepB s.src M2 = true := by
    cases q : s.items.drop i with
    | nil =>
      rw [q] at h2
      simp only [forL] at h2
      by_cases k : keepB s.src M2 = true
      · exact k
      · rw [if_neg k] at h2; exact h2.elim
    | cons x r =>
      rw [q] at h2
      simp only [forL] at h2
      by_cases k : keepB s.src M2 = true
      · exact k
      · rw [if_neg k] at h2; exact h2.elim
  cases q : s.items.drop i with
  | nil =>
    have hl : i = s.items.length := by
      have := congrArg List.length q
      rw [List.length_drop] at this
      simp at this
      omega
    rw [q] at h2
    simp only [forL, if_pos k2] at h2
    exact .inl ⟨by rw [hl]; exact wk.stop ρ2 H2 M2 e2 S2 k2, PostS.next h2 S2 E2⟩
  | cons x r =>
    obtain ⟨gx, gr, gi⟩ := drop_get q
    rw [q] at h2
    simp only [forL, if_pos k2] at h2
    refine .inr ⟨wk.go i ρ2 H2 M2 e2 S2 k2 gi, Pv (i + 1), fun σ' H' p' => ⟨s.items.length - (i + 1), by omega, rfl, gi, p'⟩, fun v H3 y => ?_⟩
    obtain ⟨e3, S3, r3⟩ := wk.yld i x ρ2 H2 M2 v H3 e2 S2 k2 gx y
    have E3 : RE X.K X.mg ρ2 H3 env2 σ2 := E2.mono S2 e3
    unfold forB at h2
    cases qa : asgT t x env2 with
    | none => rw [qa] at h2; exact h2.elim
    | some env1 =>
      rw [qa] at h2
      refine ⟨ρ2, env2, M2, x, env1, S3, E3, r3, qa, fun σ4 E4 _ => ⟨ρ2, env1, M2, S3, E4, ?_⟩⟩
      simp only at h2
      have e23 := e2.trans e3
      revert h2
      cases r1 env1 M2 with
      | nx env5 M5 => exact fun h ρ5 σ5 H5 e5 S5 E5 => ⟨ρ5, env5, M5, e23.trans e5, S5, E5, by rw [gr]; exact PostS.at h (e3.trans e5)⟩
      | ct env5 M5 => exact fun h ρ5 σ5 H5 e5 S5 E5 => ⟨ρ5, env5, M5, e23.trans e5, S5, E5, by rw [gr]; exact PostS.at h (e3.trans e5)⟩
      | bk env5 M5 => exact fun h ρ5 σ5 H5 e5 S5 E5 => h ρ5 σ5 H5 (e3.trans e5) S5 E5
      | rt _ _ => exact fun h ρ5 x H5 e5 => h ρ5 x H5 (e3.trans e5)
      | ex _ _ _ => exact fun h ρ5 σ5 H5 c d e5 => h ρ5 σ5 H5 c d (e3.trans e5)
      | bad => exact fun h => h
theorem x_while {body : List Stmt} {n : Nat} (hp : PassesOwn (model X.prog X.w) X.A X.env X.xe) (hc : PT X c (lT X W rc)) (hb : PSs X body (lS X W r1)) : PS X (.While c body [] pos) (lS X W fun env M => whL rc r1 n env M) := by
  refine PS.weak (ps_while hp hc hb) fun D σ H h => ?_
  obtain ⟨ρ, env, M, S, E, h⟩ := h
  let Pv : Nat → St → Hp → Prop := fun m σ H => ∃ ρ env M, SM X.K X.mg ρ H M ∧ RE X.K X.mg ρ H env σ ∧ PostS X W D ρ H (whL rc r1 m env M)
  refine ⟨Pv, ⟨n, ρ, env, M, S, E, h⟩, ?_⟩
  rintro m σ2 H2 ⟨ρ2, env2, M2, S2, E2, h2⟩
  cases m with
  | zero => exact h2.elim
  | succ m =>
    simp only [whL] at h2
    refine ⟨ρ2, env2, M2, S2, E2, PostS.test S2 E2 h2 fun k x M3 ρ3 H3 e3 S3 E3 h3 => ?_⟩
    cases k with
    | false => exact iteF (PostS.next h3 S3 E3)
    | true =>
      rw [if_pos rfl] at h3
      refine iteT ⟨Pv m, fun σ' H' q => ⟨m, Nat.lt_succ_self m, q⟩, ρ3, env2, M3, S3, E3, ?_⟩
      revert h3
      cases r1 env2 M3 with
      | nx env5 M5 => exact fun h ρ5 σ5 H5 e5 S5 E5 => ⟨ρ5, env5, M5, S5, E5, PostS.at h e5⟩
      | ct env5 M5 => exact fun h ρ5 σ5 H5 e5 S5 E5 => ⟨ρ5, env5, M5, S5, E5, PostS.at h e5⟩
      | bk env5 M5 => exact fun h => h
      | rt _ _ => exact fun h => h
      | ex _ _ _ => exact fun h => h
      | bad => exact fun h => h
/-! ### o[i] = v -/
theorem assign_sub {o i : Expr} {pos : Pos} {env : PySem.Env} (h : isSlice i = false) (v : Value) : assign (.Subscript o i pos) env v = (do
      let ov ← holding [v] (eval o env)
      let iv ← holding [v, ov] (eval i env)
      standAt pos
      holding [v, ov, iv] (setItem ov iv v)
      release [v, ov, iv] []) := by
  cases i <;> first | rfl | cases h
theorem swaps_sub {v o i : Expr} {p : Pos} {l : Nat} {env : PySem.Env} : swapsWith v (some (.Subscript o i p)) l env = pure false := by
  cases v <;> rfl
theorem swaps_tup {v : Expr} {ts : List Expr} {k : Nat} {p : Pos} {l : Nat} {env : PySem.Env} : swapsWith v (some (.Tuple ts k p)) l env = pure false := by
  cases v <;> rfl
theorem sole_of {v t : Expr} {l : Nat} {env : PySem.Env} (h : swapsWith v (some t) l env = pure false) : swapsWithSole [t] v l env = pure false := h
theorem swapped_sub {v o i : Expr} {p : Pos} {env : PySem.Env} : swappedStores [.Subscript o i p] v env = pure none := by
  cases v <;> rfl
theorem swapped_tup {v : Expr} {ts : List Expr} {k : Nat} {p : Pos} {env : PySem.Env} (h : isTupE v = false) : swappedStores [.Tuple ts k p] v env = pure none := by
  cases v <;> first | rfl | cases h
theorem swapped_name {v : Expr} {x : Str} {p : Pos} {env : PySem.Env} : swappedStores [.Name x p] v env = pure none := by
  cases v <;> rfl
theorem setV_ok {K : PySem.W.Frag} {mg : Str → Option Value} {ρ : List Addr} {H : Hp} {M M' : Sto} {o i y : PV} {v w u : V} (S : SM K mg ρ H M) (ro : RV K mg ρ H o v) (ri : RV K mg ρ H i w) (ry : RV K mg ρ H y u) (e : setV o i y M = some M') :
    (isD M o = false ∧ ∃ p xs k j, v = .ref p ∧ w = .int k ∧ H p = some (.lst xs) ∧ ixN xs.length k = some j ∧ Ext ρ H ρ (upd H p (.lst (xs.set j u))) ∧ SM K mg ρ (upd H p (.lst (xs.set j u))) M') ∨
    (isD M o = true ∧ ∃ p H', v = .ref p ∧ DPut H p w u H' ∧ Ext ρ H ρ H' ∧ SM K mg ρ H' M') := by
  unfold setV at e
  split at e
  · obtain ⟨a, rfl, hi⟩ := ro.ref_inv
    split at e
    · rename_i q
      obtain ⟨vs, h1, h2⟩ := S.get hi q
      split at e
      · cases ri.int_inv
        rename_i xs _ k
        cases qi : ixN xs.length k with
        | none => rw [qi] at e; cases e
        | some j =>
          rw [qi] at e; cases e
          exact .inl ⟨by simp only [isD, q], a, vs, k, j, rfl, rfl, h1, by rw [← h2.length]; exact qi, Ext.set (List.mem_of_getElem? hi), S.set hi (o := .lst _) (ho := .lst _) (h2.set ry j)⟩
      · cases e
    · rename_i q
      obtain ⟨ws, h1, h2⟩ := S.getD hi q
      split at e
      · rename_i k hk
        split at e
        · rename_i c
          cases e
          rw [keyOf_ok ri hk]
          have hl : ws.length < sizeLine := by rw [← Paired.length h2]; exact c
          exact .inr ⟨by simp only [isD, q], a, _, rfl, DPut.k h1 hl, Ext.set (List.mem_of_getElem? hi), S.set hi (o := .dct _) (ho := .dK _) (h2.put ry)⟩
        · cases e
      · cases e
    · cases e
  · cases e
theorem x_set {o i v : Expr} {ro ri : Env → Sto → Res PV} {p2 : Pos} (hu : X.A.units + 1 < cLine) (hi : isSlice i = false) (hv : PE X v (lE X W ra)) (ho : PE X o (lE X W ro)) (hix : PE X i (lE X W ri)) :
    PS X (.Assign [.Subscript o i p2] v pos) (lS X W fun env M => (ra env M).then env fun x M1 => (ro env M1).then env fun y M2 => (ri env M2).then env fun z M3 => match setV y z x M3 with
    | some M4 => .nx env M4
    | none => .bad) := by
  have q1 : PS X (.Assign [.Subscript o i p2] v pos) (tAsg (lE X W ra) (gSub (lE X W ro) (lE X W ri) rSetL)) := ps_asg hv (pg_sub ho hix set_list fun v => assign_sub hi v) (sole_of swaps_sub) swapped_sub (each_cons _ _ rfl)
  have q2 := ps_dput (pos' := p2) (pos := pos) hu ho hix hv swaps_sub
  refine ⟨fun pins s σ H D I h => ?_⟩
  obtain ⟨ρ, env, M, S, E, h⟩ := h
  dsimp only at h
  have go : (tAsg (lE X W ra) (gSub (lE X W ro) (lE X W ri) rSetL)) D σ H ∨ sDPut (lE X W ro) (lE X W ri) (lE X W ra) D σ H := by
    cases qa : ra env M with
    | bad => rw [qa] at h; exact h.elim
    | exc x M1 =>
      rw [qa] at h
      exact .inl ⟨ρ, env, M, S, E, by rw [qa]; exact fun ρ1 H1 c d e1 S1 ev => h ρ1 σ H1 c d e1 S1 (E.mono S e1) ev⟩
    | ok x M1 =>
      rw [qa, Res.then_ok] at h
      cases qo : ro env M1 with
      | bad => rw [qo] at h; exact h.elim
      | exc y M2 =>
        rw [qo] at h
        refine .inl ⟨ρ, env, M, S, E, ?_⟩
        rw [qa]
        intro ρ1 v1 H1 e1 S1 r1
        exact ⟨ρ1, env, M1, S1, E.mono S e1, by rw [qo]; exact fun ρ2 H2 c d e2 S2 ev => h ρ2 σ H2 c d (e1.trans e2) S2 (E.mono S (e1.trans e2)) ev⟩
      | ok y M2 =>
        rw [qo, Res.then_ok] at h
        cases qi : ri env M2 with
        | bad => rw [qi] at h; exact h.elim
        | exc z M3 =>
          rw [qi] at h
          refine .inl ⟨ρ, env, M, S, E, ?_⟩
          rw [qa]
          intro ρ1 v1 H1 e1 S1 r1
          refine ⟨ρ1, env, M1, S1, E.mono S e1, ?_⟩
          rw [qo]
          intro ρ2 v2 H2 e2 S2 r2
          exact ⟨ρ2, env, M2, S2, E.mono S (e1.trans e2), by rw [qi]; exact fun ρ3 H3 c d e3 S3 ev => h ρ3 σ H3 c d ((e1.trans e2).trans e3) S3 (E.mono S ((e1.trans e2).trans e3)) ev⟩
        | ok z M3 =>
          rw [qi, Res.then_ok] at h
          cases qs : setV y z x M3 with
          | none => rw [qs] at h; exact h.elim
          | some M4 =>
            rw [qs] at h
            by_cases c : isD M3 y = true
            · refine .inr ⟨ρ, env, M, S, E, ?_⟩
              rw [qa]
              intro ρ1 v1 H1 e1 S1 r1
              refine ⟨ρ1, env, M1, S1, E.mono S e1, ?_⟩
              rw [qo]
              intro ρ2 v2 H2 e2 S2 r2
              refine ⟨ρ2, env, M2, S2, E.mono S (e1.trans e2), ?_⟩
              rw [qi]
              intro ρ3 v3 H3 e3 S3 r3
              rcases setV_ok S3 (r2.mono S2 e3) r3 (r1.mono S1 (e2.trans e3)) qs with ⟨n, _⟩ | ⟨_, p, H', rfl, dp, e4, S4⟩
              · rw [n] at c; cases c
              · have ee := ((e1.trans e2).trans e3).trans e4
                exact ⟨p, H', rfl, dp, h ρ3 σ H' ee S4 (E.mono S ee)⟩
            · refine .inl ⟨ρ, env, M, S, E, ?_⟩
              rw [qa]
              intro ρ1 v1 H1 e1 S1 r1
              refine ⟨ρ1, env, M1, S1, E.mono S e1, ?_⟩
              rw [qo]
              intro ρ2 v2 H2 e2 S2 r2
              refine ⟨ρ2, env, M2, S2, E.mono S (e1.trans e2), ?_⟩
              rw [qi]
              intro ρ3 v3 H3 e3 S3 r3
              rcases setV_ok S3 (r2.mono S2 e3) r3 (r1.mono S1 (e2.trans e3)) qs with ⟨_, p, xs, k, j, rfl, rfl, h1, h2, e4, S4⟩ | ⟨n, _⟩
              · have ee := ((e1.trans e2).trans e3).trans e4
                exact ⟨p, xs, k, j, rfl, rfl, h1, h2, h ρ3 σ _ ee S4 (E.mono S ee)⟩
              · exact absurd n c
  exact go.elim (q1.run pins s σ H D I) (q2.run pins s σ H D I)
end
/-- what is known in a def's body -/
structure XS (G : Glob) (kw : KwT) (d : Nat) (X : Cx) : Prop where
  x : XOk G kw d X
  po : PassesOwn (model X.prog X.w) X.A X.env X.xe
  bk : X.env.scope.kind = .function
section
variable {G : Glob} {d : Nat}
theorem block_kind {X : Cx} (h : X.env.scope.kind = .function) : X.env.blockKind = .function := by unfold PySem.Env.blockKind; rw [h]; rfl
theorem lookS {sc : Scope} {x : Str} (h : (sc.names.lookup x == some NameKind.local) = true) : sc.names.lookup x = some .local := by simpa using h
/-- name = value -/
theorem x_name {X : Cx} {W : WX} {k : CK} {i : Nat} {x : Str} {px pos : Pos} {v : Expr} {ra : Env → Sto → Res PV} (hk : KOk k X) (hN : X.N.Nodup) (hc : X.calm = true) (hf : X.env.scope.kind = .function) (hg : chkG k (.nm i) (.Name x px) = true) (hv : PE X v (lE X W ra)) (hcv : isComp v = false) :
    PS X (.Assign [.Name x px] v pos) (tAsg (lE X W ra) (lG X (.nm i))) := ps_asg hv (s_tgt hk hN hc (.nm i) _ hg) (sole_of (swaps_ne hcv _ _ _)) swapped_name (each_cons _ _ rfl)
theorem swaps_cell {e : Expr} {gs : List Comprehension} {sc : Scope} {p px : Pos} {x : Str} {l : Nat} {env : PySem.Env} (h : env.scope.names.lookup x ≠ some .local) : swapsWith (.ListComp e gs sc p) (some (.Name x px)) l env = pure false := by
  have hk : (env.kindOf x == some NameKind.local) = false := by
    show (env.scope.names.lookup x == some NameKind.local) = false
    cases q : env.scope.names.lookup x with
    | none => rfl
    | some v =>
      rw [q] at h
      cases v <;> first | rfl | exact absurd rfl h
  unfold swapsWith
  simp only [hk, Bool.and_false, Bool.false_and]
theorem gName_of {X : Cx} {W : WX} {s : Stmt} {i : Nat} {r : Env → Sto → Res PV} (h : PS X s (tAsg (lE X W r) (gName i))) : PS X s (lS X W fun env M => (r env M).then env fun x M1 => match asgT (.nm i) x env with
    | some env1 => .nx env1 M1
    | none => .bad) := by
  refine PS.weak h fun D σ H h => ?_
  obtain ⟨ρ, env, M, S, E, h⟩ := h
  refine ⟨ρ, env, M, S, E, PostS.exp S E h fun x M1 ρ1 v H1 e1 S1 E1 r1 h1 => ?_⟩
  exact PostS.next (env := env.set i (some x)) h1 S1 (E1.set r1 i)
/-- name = [..] -/
theorem x_comp {X : Cx} {W : WX} {k : CK} {i : Nat} {y : Str} {py pos spos : Pos} {c : CE} {v : Expr} {gs : List Comprehension} {sc : Scope} (xs : XS G k.kw d X) (hk : KOk k X) (tk : Takes X W) (hy : k.N[i]? = some y) (hl : k.sc.names.lookup y = some .local) (h : chkE c false k (.ListComp v gs sc pos) = true)
    (ho : ((py.line == pos.line) && !(sc.names.any fun (n, q) => n == y && (q == .local || q == .cell))) = true) : PS X (.Assign [.Name y py] (.ListComp v gs sc pos) spos) (tAsg (lE X W (evE G c)) (gName i)) := by
  have x := xs.x
  cases c <;> first | (simp [chkE] at h; done) | skip
  rename_i ct it ifs elt own
  simp only [chkE] at h
  split at h
  · rename_i heq
    cases heq
    simp only [Bool.and_eq_true, decide_eq_true_eq, Bool.not_eq_true'] at h
    obtain ⟨⟨⟨⟨⟨⟨⟨h0, h1⟩, h2⟩, h3⟩, h4⟩, h5⟩, h6⟩, h7⟩ := h
    subst h0
    split at h1
    · rename_i ow how
      simp only [Bool.and_eq_true, decide_eq_true_eq] at h1
      simp only [Bool.and_eq_true, Bool.not_eq_true'] at ho
      exact x_setc (ow := ow) x.calm x.nd (by rw [hk.N]; exact hy) (by rw [hk.sc]; exact hl) (sw_true xs.bk (by rw [hk.sc]; exact hl) ho.1 ho.2) (s_I it k X W _ _ x hk tk h3) (by rw [hk.N, hk.sc]; exact blkOk_by h1.1) h1.2
            (fun s H C cl fp => (s_tgt (hk.blk sc s H C cl fp) x.nd x.calm ct _ h4)) (fun s H C cl fp => (s_Ts ifs ⟨k.N, relS sc k.sc, false, k.kw⟩ _ W0 _ (x.blk sc s H C cl fp) (hk.blk sc s H C cl fp) takes0 h5)) (fun s H C cl fp => (s_E elt false ⟨k.N, relS sc k.sc, false, k.kw⟩ _ W0 _ (x.blk sc s H C cl fp) (hk.blk sc s H C cl fp) takes0 h6).1)
            h2 (fun j hj => by have := List.all_eq_true.mp h7 j hj; simpa using this)
    · cases h1
  · cases h
mutual
theorem s_S : ∀ (c : CS) (k : CK) (X : Cx) (W : WX) (s : Stmt), XS G k.kw d X → KOk k X → Takes X W → chkS c k s = true → PS X s (lS X W (evS G c))
  | .asg t e, k, X, W, s, xs, hk, tk, h => by
    have x := xs.x
    cases s <;> first | (simp [chkS] at h; done) | skip
    rename_i ts v p
    simp only [chkS] at h
    split at h
    · rename_i heq
      cases heq
      rename_i tg
      simp only [Bool.and_eq_true] at h
      obtain ⟨⟨h1, h2⟩, h3⟩ := h
      have iv := (s_E e false k X W _ x hk tk h1).1
      split at h3
      · rename_i y py
        cases t <;> first | (simp [chkG] at h2; done) | skip
        rename_i i
        by_cases hcv : isComp v = true
        · cases v <;> first | (cases hcv; done) | (simp [compOk] at h3; done) | skip
          rename_i e2 gs sc p2
          simp only [compOk] at h3
          have hn : k.N[i]? = some y := by
            simp only [chkG, Bool.and_eq_true, decide_eq_true_eq] at h2
            exact h2.1
          split at h3
          · rename_i hl
            exact gName_of (x_comp xs hk tk hn hl h1 h3)
          · rename_i hl
            have hl' : X.env.scope.names.lookup y ≠ some .local := by rw [hk.sc]; exact fun z => hl z
            exact x_asg (ps_asg iv (s_tgt hk x.nd x.calm (.nm i) _ h2) (sole_of (swaps_cell hl')) swapped_name (each_cons _ _ rfl))
        · exact x_asg (x_name hk x.nd x.calm xs.bk h2 iv (by simpa using hcv))
      · rename_i ts k1 p1 vs k2 p2
        split at h3
        · rename_i hw
          have hw' := swap_eq (k1 := k1) (k2 := k2) (p1 := p1) (p2 := p2) (block_kind xs.bk) (by rw [hk.sc]; exact hw)
          exact x_asg (ps_asg iv (s_tgt hk x.nd x.calm t _ h2) (sole_of swaps_tup) hw' (each_cons _ _ rfl))
        · cases h3
      · rename_i hv
        exact x_asg (ps_asg iv (s_tgt hk x.nd x.calm t _ h2) (sole_of swaps_tup) (swapped_tup (by cases v <;> first | rfl | exact absurd rfl (hv _ _ _))) (each_cons _ _ rfl))
      · cases h3
    · cases h
  | .par is as, k, X, W, s, xs, hk, tk, h => by
    have x := xs.x
    cases s <;> first | (simp [chkS] at h; done) | skip
    rename_i ts v p
    simp only [chkS] at h
    split at h
    · rename_i heq
      cases heq
      simp only [Bool.and_eq_true] at h
      obtain ⟨h1, h2⟩ := h
      have ia := s_A as k X W _ x hk tk h1
      split at h2
      · simp only [Bool.and_eq_true, decide_eq_true_eq] at h2
        obtain ⟨⟨⟨⟨⟨q1, q2⟩, q3⟩, q4⟩, q5⟩, q6⟩ := h2
        exact x_par2 x.calm x.nd (by rw [hk.N]; exact q1) (by rw [hk.N]; exact q2) q3 (by rw [hk.sc]; exact q4) (by rw [hk.sc]; exact q5) ia (swap_eq (block_kind xs.bk) (by rw [hk.sc]; exact q6))
      · simp only [Bool.and_eq_true, decide_eq_true_eq] at h2
        obtain ⟨⟨⟨⟨⟨⟨⟨⟨⟨q1, q2⟩, q3⟩, q4⟩, q5⟩, q6⟩, q7⟩, q8⟩, q9⟩, q10⟩ := h2
        exact x_par3 x.calm x.nd (by rw [hk.N]; exact q1) (by rw [hk.N]; exact q2) (by rw [hk.N]; exact q3) q4 q5 q6 (by rw [hk.sc]; exact q7) (by rw [hk.sc]; exact q8) (by rw [hk.sc]; exact q9) ia (swap_eq (block_kind xs.bk) (by rw [hk.sc]; exact q10))
      · cases h2
    · cases h
  | .never, k, X, W, s, xs, hk, tk, h => PS.weak ps_never fun D σ H h => by
    obtain ⟨ρ, env, M, S, E, h⟩ := h
    exact h
  | .asgS o i e, k, X, W, s, xs, hk, tk, h => by
    have x := xs.x
    cases s <;> first | (simp [chkS] at h; done) | skip
    rename_i ts v p
    simp only [chkS] at h
    split at h
    · rename_i heq
      cases heq
      simp only [Bool.and_eq_true, Bool.not_eq_true'] at h
      obtain ⟨⟨⟨h1, h2⟩, h3⟩, h4⟩ := h
      have u : X.A.units + 1 < cLine := by have := x.units; omega
      exact x_set u h4 (s_E e false k X W _ x hk tk h1).1 (s_E o false k X W _ x hk tk h2).1 (s_E i false k X W _ x hk tk h3).1
    · cases h
  | .aug i op e, k, X, W, s, xs, hk, tk, h => by
    have x := xs.x
    cases s <;> first | (simp [chkS] at h; done) | skip
    rename_i t o v p
    cases t <;> first | (simp [chkS] at h; done) | skip
    simp only [chkS, Bool.and_eq_true, decide_eq_true_eq] at h
    obtain ⟨⟨⟨⟨rfl, rfl⟩, h2⟩, h3⟩, h4⟩ := h
    obtain ⟨l1, l2⟩ := loc_of hk h3
    exact x_aug x.nd (by rw [hk.N]; exact h2) l1 l2 (s_E e false k X W _ x hk tk h4).1
  | .expr e, k, X, W, s, xs, hk, tk, h => by
    have x := xs.x
    cases s <;> first | (simp [chkS] at h; done) | skip
    simp only [chkS, Bool.and_eq_true, Bool.not_eq_true'] at h
    exact x_expr (s_E e false k X W _ x hk tk h.1).1 h.2
  | .ite c a b, k, X, W, s, xs, hk, tk, h => by
    have x := xs.x
    cases s <;> first | (simp [chkS] at h; done) | skip
    simp only [chkS, Bool.and_eq_true] at h
    exact x_ite ((s_E c true k X W _ x hk tk h.1.1).2 rfl) (s_B a k X W _ xs hk tk h.1.2) (s_B b k X W _ xs hk tk h.2)
  | .for_ t it b, k, X, W, s, xs, hk, tk, h => by
    have x := xs.x
    cases s <;> first | (simp [chkS] at h; done) | skip
    rename_i tg iter body orelse p
    cases orelse with
    | cons _ _ => simp [chkS] at h
    | nil =>
      simp only [chkS, Bool.and_eq_true, Bool.not_eq_true'] at h
      obtain ⟨⟨⟨h1, h2⟩, h3⟩, h4⟩ := h
      exact x_for xs.po x.calm (s_I it k X W _ _ x hk tk h2) (s_tgt hk x.nd x.calm t _ h1) (s_B b k X W _ xs hk tk h4) h3
  | .while_ c b, k, X, W, s, xs, hk, tk, h => by
    have x := xs.x
    cases s <;> first | (simp [chkS] at h; done) | skip
    rename_i t body orelse p
    cases orelse with
    | cons _ _ => simp [chkS] at h
    | nil =>
      simp only [chkS, Bool.and_eq_true] at h
      exact x_while xs.po ((s_E c true k X W _ x hk tk h.1).2 rfl) (s_B b k X W _ xs hk tk h.2)
  | .ret e, k, X, W, s, xs, hk, tk, h => by
    have x := xs.x
    cases s <;> first | (simp [chkS] at h; done) | skip
    rename_i v p
    cases v with
    | none => simp [chkS] at h
    | some v =>
      simp only [chkS] at h
      exact x_ret (s_E e false k X W _ x hk tk h).1
  | .retN, k, X, W, s, xs, hk, tk, h => by
    cases s <;> first | (simp [chkS] at h; done) | skip
    rename_i v p
    cases v with
    | none => exact x_retN
    | some v => simp [chkS] at h
  | .pass, k, X, W, s, xs, hk, tk, h => by
    cases s <;> first | (simp [chkS] at h; done) | skip
    exact x_pass
  | .brk, k, X, W, s, xs, hk, tk, h => by
    cases s <;> first | (simp [chkS] at h; done) | skip
    exact x_brk
  | .cnt, k, X, W, s, xs, hk, tk, h => by
    cases s <;> first | (simp [chkS] at h; done) | skip
    exact x_cnt
  | .nil, k, X, W, s, xs, hk, tk, h => by simp [chkS] at h
  | .seq _ _, k, X, W, s, xs, hk, tk, h => by simp [chkS] at h
  | .raise _ _, k, X, W, s, xs, hk, tk, h => by simp [chkS] at h
theorem s_B : ∀ (c : CS) (k : CK) (X : Cx) (W : WX) (ss : List Stmt), XS G k.kw d X → KOk k X → Takes X W → chkB c k ss = true → PSs X ss (lS X W (evS G c))
  | .nil, k, X, W, ss, xs, hk, tk, h => by
    cases ss with
    | nil => exact b_nil
    | cons _ _ => simp [chkB] at h
  | .seq a r, k, X, W, ss, xs, hk, tk, h => by
    cases ss with
    | nil => simp [chkB] at h
    | cons s ss =>
      simp only [chkB, Bool.and_eq_true] at h
      exact b_cons (s_S a k X W s xs hk tk h.1) (s_B r k X W ss xs hk tk h.2)
  | .asg _ _, k, X, W, ss, xs, hk, tk, h | .par _ _, k, X, W, ss, xs, hk, tk, h | .never, k, X, W, ss, xs, hk, tk, h | .asgS _ _ _, k, X, W, ss, xs, hk, tk, h | .aug _ _ _, k, X, W, ss, xs, hk, tk, h | .expr _, k, X, W, ss, xs, hk, tk, h
  | .ite _ _ _, k, X, W, ss, xs, hk, tk, h | .for_ _ _ _, k, X, W, ss, xs, hk, tk, h | .while_ _ _, k, X, W, ss, xs, hk, tk, h | .ret _, k, X, W, ss, xs, hk, tk, h | .retN, k, X, W, ss, xs, hk, tk, h | .pass, k, X, W, ss, xs, hk, tk, h
  | .brk, k, X, W, ss, xs, hk, tk, h | .cnt, k, X, W, ss, xs, hk, tk, h | .raise _ _, k, X, W, ss, xs, hk, tk, h => by simp [chkB] at h
end
end
end Ev

set_option Elab.async false
set_option linter.all false
set_option maxRecDepth 100000
set_option maxHeartbeats 8000000
/-! Ev14: the defs of a text do what the code says. -/
namespace Ev
open PySem L2

/-- a def of the text, its code, the forms of its calls by name -/
structure Def where
  x : Str
  params : Arguments
  body : List Stmt
  scope : Scope
  d : FD
  kws : List (Nat × List Str × List Nat)
def parB (sc : Scope) (x : Str) : Bool := match sc.names.lookup x with
  | some .local => true
  | some .cell => true
  | _ => false
def freeB : NameKind → Bool
  | .free => true
  | _ => false
def fnKind (sc : Scope) : Bool := match sc.kind with
  | .function => true
  | _ => false
def scOk (N ps : List Str) (sc : Scope) : Bool := fnKind sc && !sc.isCoroutine && !sc.isGenerator && decide N.Nodup && decide (N.take ps.length = ps) && ps.all (parB sc) && sc.names.all (fun y => !freeB y.2)
theorem scOk.ok {N ps : List Str} {sc : Scope} (h : scOk N ps sc = true) : FnScope N ps sc := by
  unfold scOk at h
  simp only [Bool.and_eq_true, Bool.not_eq_true', decide_eq_true_eq] at h
  obtain ⟨⟨⟨⟨⟨⟨h1, h2⟩, h3⟩, h4⟩, h5⟩, h6⟩, h7⟩ := h
  refine ⟨?_, h2, h3, h4, h5, fun x hx => ?_, fun y hy e => ?_⟩
  · unfold fnKind at h1
    split at h1
    · assumption
    · cases h1
  · have q := List.all_eq_true.mp h6 x hx
    unfold parB at q
    split at q
    · exact .inl (by assumption)
    · exact .inr (by assumption)
    · cases q
  · have q := List.all_eq_true.mp h7 y hy
    rw [e] at q
    cases q
abbrev Tab := List Def
def Tab.get (tab : Tab) (x : Str) : Option Def := tab.find? fun D => decide (D.x = x)
def Tab.kw (tab : Tab) : KwT := fun x => (tab.get x).map (·.kws)
theorem Tab.get_mem {tab : Tab} {x : Str} {D : Def} (h : tab.get x = some D) : D ∈ tab ∧ D.x = x := by
  unfold Tab.get at h
  exact ⟨List.mem_of_find?_eq_some h, by simpa using List.find?_some h⟩
structure Def.Ok (kw : KwT) (D : Def) : Prop where
  sc : scOk D.d.N D.d.ps D.scope = true
  code : chkB D.d.body ⟨D.d.N, D.scope, true, kw⟩ D.body = true
  bd : ∀ (kV doc pm : Value) (an : Option Addr) (cdv ct : Value) (us : List Value), us.length = D.d.ps.length → bindArgs (PySem.W.fnOf D.x D.x D.params D.body D.scope .none kV doc pm an cdv ct) ⟨us, []⟩ = pure (D.d.ps.zip us)
  kb : ∀ z ∈ D.kws, ∀ (kV doc pm : Value) (an : Option Addr) (cdv ct : Value) (us ws : List Value), us.length = z.1 → ws.length = z.2.1.length →
    bindArgs (PySem.W.fnOf D.x D.x D.params D.body D.scope .none kV doc pm an cdv ct) ⟨us, z.2.1.zip ws⟩ = pure (D.d.ps.zip (permL z.2.2 (us ++ ws)))
/-- the text's code -/
def Tab.txt (tab : Tab) (glo : Str → Option PV) (exc : Str → Option (List Str)) (fuel : Nat) : Txt := ⟨fun x => (tab.get x).map (·.d), glo, exc, fuel⟩
/-- what stands behind the top -/
structure Wor (K : PySem.W.Frag) (mg : Str → Option Value) (tab : Tab) (glo : Str → Option PV) : Prop where
  fns : ∀ D ∈ tab, ∃ f fd, FunD K D.x D.x D.params D.body D.scope [] [] f fd ∧ mg D.x = some (.ref f)
  ok : ∀ D ∈ tab, D.Ok tab.kw
  free : ∀ x ∈ freeNames, mg x = none
  cls : ∀ c ∈ clsNames, mg (Str.ofString c) = none
  glo : ∀ x pv, glo x = some pv → ∃ u v, mg x = some u ∧ RelV v u ∧ ∀ ρ H, RV K mg ρ H pv v

theorem RE.start {K : PySem.W.Frag} {mg : Str → Option Value} {ρ : List Addr} {H : Hp} : ∀ (n : Nat) {xs : List PV} {vs : List V}, RVs K mg ρ H xs vs → RE K mg ρ H (xs.map some ++ List.replicate n none) (vs.map some ++ List.replicate n none)
  | 0, _, _, .nil => by exact .nil
  | n + 1, _, _, .nil => by
    show Paired _ (none :: _) (none :: _)
    exact .cons trivial (RE.start n .nil)
  | n, _, _, .cons r rs => .cons r (RE.start n rs)
section
variable {P : Program} {w : World} {K : PySem.W.Frag} {mg : Str → Option Value} {tab : Tab} {gl : Str → Option PV} {exc : Str → Option (List Str)} {fuel : Nat}
theorem guards_deeper (A : Around) (env : PySem.Env) : (A.deeper env).guards = A.guards := rfl
theorem RVs.len {ρ : List Addr} {H : Hp} {xs : List PV} {vs : List V} (h : RVs K mg ρ H xs vs) : xs.length = vs.length := h.length
theorem len_run {n : Nat} {D : Def} (hD : tab.get D.x = some D) {xs : List PV} {M : Sto} (h : callN (tab.txt gl exc fuel) n D.x xs M ≠ .bad) : xs.length = D.d.ps.length := by
  cases n with
  | zero => exact absurd rfl h
  | succ n =>
    rw [callN_def (d := D.d) (by show (tab.get D.x).map _ = _; rw [hD]; rfl)] at h
    unfold runF at h
    split at h
    · assumption
    · exact absurd rfl h
theorem back_post {X : Cx} {E : XK} {ρ : List Addr} {H : Hp} {Q : VK} {r : SRes} (h : PostV X.K X.mg E ρ H r.back Q) : PostS X (fun cls d _ H => E cls d H) { nx := fun _ H' => Q .non H', rt := Q } ρ H r := by
  cases r with
  | nx env M => exact fun ρ' σ' H' e S _ => h ρ' .non H' e S .non
  | rt v M => exact fun ρ' x H' e S r => h ρ' x H' e S r
  | bk env M => exact h.elim
  | ct env M => exact h.elim
  | ex x env M => exact fun ρ' σ' H' cls d e S _ ev => h ρ' H' cls d e S ev
  | bad => exact h.elim
theorem callAt_run {n : Nat} {D : Def} {f : Addr} {fd : FuncData} {base : Heap} (W : Wor K mg tab gl) (hD : tab.get D.x = some D) (F : FunD K D.x D.x D.params D.body D.scope [] [] f fd)
    (ih : ∀ (base : Heap) (x : Str) (l : List (Nat × List Str × List Nat)), tab.kw x = some l → ∃ fa fd ps, CallAt P w K mg base n x l (callN (tab.txt gl exc fuel) n x) fa fd ps) :
    ∀ (A : Around) (outer : List PySem.Env) (s : Shared) (H : Hp) (args : Args) (us : List Value) (vs : List V) (xs : List PV) (ρ : List Addr) (M : Sto) (Q : VK) (E : XK), Room (n + 1) A → A.guards = some [] → Env0 P w K mg base A outer s H → BindsTo s fd args (D.d.ps.zip us) → Vals vs us →
    SM K mg ρ H M → RVs K mg ρ H xs vs → PostV K mg E ρ H (callN (tab.txt gl exc fuel) (n + 1) D.x xs M) Q → codeAny (model P w) A (.call (.ref f) args) (CR (L2.CX P w) outer P w H s Q E) s := by
  intro A outer s H args us vs xs ρ M Q E hr hg e0 hb r SM0 rx hsp
  have O : D.Ok tab.kw := W.ok D (Tab.get_mem hD).1
  have S : FnScope D.d.N D.d.ps D.scope := scOk.ok O.sc
  have hlx : xs.length = D.d.ps.length := len_run hD fun z => by rw [z] at hsp; exact hsp.elim
  have hl : vs.length = D.d.ps.length := by rw [← rx.len]; exact hlx
  obtain ⟨oc, od, dV, kV, doc, pm, an, cdv, ct, osl, rfl, lk, hcd, _, _⟩ := F.ex
  have KX : K.In s.heap := e0.mod.kin.keeps fun b o e => (e0.bs b o e).1
  have lim : s.heap.NoLimit := e0.mod.nolimit.keeps fun b o e => (e0.bs b o e).1
  have hkind : ∀ y ∈ D.d.ps.zip us, D.scope.names.lookup y.1 = some .local ∨ (D.scope.names.lookup y.1 = some .cell ∧ ((cellsFrom (s.heap.objs.size + 1) D.scope.names []).lookup y.1).isSome = true) := fun ⟨n, v⟩ hy => by
    rcases S.par n (List.of_mem_zip hy).1 with q | q
    · exact .inl q
    · exact .inr ⟨q, PySem.W.cellsFrom_some _ _ _ (.inl q)⟩
  refine codeAny_call_function hr.depth (KX _ _ lk) rfl S.co S.gen rfl (PySem.W.codeRec_of KX hcd) (hb _ _ _ _ ?_)
  refine wpAny_newFunctionEnv_cells S.kind hkind fun env he s1 x => ?_
  subst he
  refine ⟨lim.keeps x.toInCall.keep, codeAny_func ?_⟩
  let X : Cx := cxOf (L2.CX P w) P w K mg base D.d.N D.x D.scope f cdv A outer s H E
  have I : Inv X [] (L2.start D.d.N vs) H s1 := inv_start S hr.hd e0 hl r x
  have xo : XOk ((tab.txt gl exc fuel).at n) tab.kw n X := ⟨rfl, S.nd, hr.deeper _, hg, W.free, W.cls, W.glo, fun x l h => ih base x l h⟩
  have xs0 : XS ((tab.txt gl exc fuel).at n) tab.kw n X := ⟨xo, passes_of rfl, S.kind⟩
  have hk : KOk ⟨D.d.N, D.scope, true, tab.kw⟩ X := ⟨rfl, rfl, fun _ _ => rfl⟩
  have tk : Takes X (fun cls d _ H => E cls d H) := takes_of rfl rfl rfl rfl
  have ht := s_B D.d.body ⟨D.d.N, D.scope, true, tab.kw⟩ X _ D.body xs0 hk tk O.code
  have hq : lS X (fun cls d _ H => E cls d H) (evS ((tab.txt gl exc fuel).at n) D.d.body) { nx := fun _ H' => Q .non H', rt := Q } (L2.start D.d.N vs) H := by
    rw [callN_def (d := D.d) (by show (tab.get D.x).map _ = _; rw [hD]; rfl)] at hsp
    unfold runF at hsp
    rw [if_pos hlx] at hsp
    refine ⟨ρ, _, M, SM0, ?_, back_post hsp⟩
    unfold L2.start
    rw [← rx.len]
    exact RE.start _ rx
  refine wpAny_mono (ht.run [] s1 (L2.start D.d.N vs) H _ I hq) (fun fl s' hs => ?_) fun e s' hs => hs
  have fin : ∀ {σ' : St} {H' : Hp} {v : V} {u : Value}, Inv X [] σ' H' s' → RelV v u → Q v H' → L2.CE outer P w H s Q u s' :=
    fun {σ' H' v u} J rv q => ⟨v, H', J.os, J.bare, J.base, J.hok, rv, q⟩
  cases fl with
  | ret u =>
    obtain ⟨v, σ', H', J, rv, q⟩ := hs
    exact fin J rv q
  | next =>
    obtain ⟨σ', H', J, q⟩ := hs
    exact fin (v := V.non) (u := Value.none) J rfl q
  | brk =>
    obtain ⟨_, _, _, q⟩ := hs
    exact False.elim q
  | cont =>
    obtain ⟨_, _, _, q⟩ := hs
    exact False.elim q
theorem binds_any {D : Def} {f : Addr} {fd : FuncData} (F : FunD K D.x D.x D.params D.body D.scope [] [] f fd) {args : Args} {bs : List (Str × Value)}
    (h : ∀ (kV doc pm : Value) (an : Option Addr) (cdv ct : Value), bindArgs (PySem.W.fnOf D.x D.x D.params D.body D.scope .none kV doc pm an cdv ct) args = pure bs) (s : Shared) : BindsTo s fd args bs := by
  obtain ⟨oc, od, dV, kV, doc, pm, an, cdv, ct, osl, rfl, lk, hcd, hD, hK⟩ := F.ex
  rcases hD with ⟨_, rfl⟩ | ⟨e, _⟩
  · exact .of_eq (h kV doc pm an cdv ct)
  · exact absurd rfl e
theorem callAt_of {n : Nat} {D : Def} {f : Addr} {fd : FuncData} {base : Heap} (W : Wor K mg tab gl) (hD : tab.get D.x = some D) (F : FunD K D.x D.x D.params D.body D.scope [] [] f fd) (m : mg D.x = some (.ref f))
    (run : ∀ (A : Around) (outer : List PySem.Env) (s : Shared) (H : Hp) (args : Args) (us : List Value) (vs : List V) (xs : List PV) (ρ : List Addr) (M : Sto) (Q : VK) (E : XK), Room n A → A.guards = some [] → Env0 P w K mg base A outer s H → BindsTo s fd args (D.d.ps.zip us) → Vals vs us →
    SM K mg ρ H M → RVs K mg ρ H xs vs → PostV K mg E ρ H (callN (tab.txt gl exc fuel) n D.x xs M) Q → codeAny (model P w) A (.call (.ref f) args) (CR (L2.CX P w) outer P w H s Q E) s) :
    CallAt P w K mg base n D.x D.kws (callN (tab.txt gl exc fuel) n D.x) f fd D.d.ps :=
  ⟨m, F.kp, fun _ _ z => len_run hD z, fun s us hl => binds_any F (fun kV doc pm an cdv ct => (W.ok D (Tab.get_mem hD).1).bd kV doc pm an cdv ct us hl) s,
    fun z hz s us ws h1 h2 => binds_any F (fun kV doc pm an cdv ct => (W.ok D (Tab.get_mem hD).1).kb z hz kV doc pm an cdv ct us ws h1 h2) s, run⟩
theorem callAt_all (W : Wor K mg tab gl) : ∀ (n : Nat) (base : Heap) (x : Str) (l : List (Nat × List Str × List Nat)), tab.kw x = some l → ∃ fa fd ps, CallAt P w K mg base n x l (callN (tab.txt gl exc fuel) n x) fa fd ps := by
  intro n
  induction n with
  | zero =>
    intro base x l h
    unfold Tab.kw at h
    obtain ⟨D, hD, rfl⟩ := Option.map_eq_some_iff.mp h
    obtain ⟨hm, rfl⟩ := Tab.get_mem hD
    obtain ⟨f, fd, F, m⟩ := W.fns D hm
    exact ⟨f, fd, D.d.ps, callAt_of W hD F m fun A outer s H args us vs xs ρ M Q E _ _ _ _ _ _ _ q => q.elim⟩
  | succ n ih =>
    intro base x l h
    unfold Tab.kw at h
    obtain ⟨D, hD, rfl⟩ := Option.map_eq_some_iff.mp h
    obtain ⟨hm, rfl⟩ := Tab.get_mem hD
    obtain ⟨f, fd, F, m⟩ := W.fns D hm
    exact ⟨f, fd, D.d.ps, callAt_of W hD F m (callAt_run W hD F ih)⟩
end
end Ev

set_option Elab.async false
set_option linter.all false
set_option maxRecDepth 100000
set_option maxHeartbeats 8000000
/-! Ev15: the end of a law. -/
namespace Ev
open PySem L2 PyProof.Rows

theorem RVs.ints {K : PySem.W.Frag} {mg : Str → Option Value} {ρ : List Addr} {H : Hp} : ∀ ns : List Int, RVs K mg ρ H (ns.map .int) (ns.map V.int)
  | [] => .nil
  | n :: ns => .cons (.int n) (RVs.ints ns)
theorem law_end {P : Program} {w : World} {K : PySem.W.Frag} {mg mb : Str → Option Value} {tab : Tab} {gl : Str → Option PV} {exc : Str → Option (List Str)} {fuel k : Nat} {D : Def} {fa a : Addr} {s₁ : Shared} {vs : List Value} {ns : List Int}
    (KX : K.In s₁.heap) (hns : s₁.heap.Ns mainGlobals mg) (hb : s₁.heap.Ns builtinsNs mb) (hbb : ∀ x : Str, x ≠ "__name__" → mb x = bootBuiltins x) (hlim : s₁.heap.NoLimit) (hg : s₁.gens = #[])
    (ha : s₁.heap.get? a = some { cls := .type "list", data := .seq vs.toArray }) (hi : IntsAre vs ns) (hl : ns.length ≤ sizeLine) (hr : Room k callerA)
    (W : Wor K mg tab gl) (hD : tab.get D.x = some D) (mD : mg D.x = some (.ref fa)) (hp : D.d.ps.length = 1) (law : ∃ M, callN (tab.txt gl exc fuel) k D.x [.rol (ns.map .int)] [] = .ok (.bl true) M) :
    codeAny (model P w) callerA (.call (.ref fa) ⟨[.ref a], []⟩) (fun r s' => r = .ok (.ret (.bool true)) ∧ OldK s₁.heap s'.heap ∧ s'.os = s₁.os ∧ AllBare s'.gens) s₁ := by
  have rv := vals_ints hi
  have lenV := hi.length
  have core : ∀ H : Hp, Only H → Fzl K H a (ns.map V.int) → HOk P w H s₁.heap → (∀ b, H b ≠ none → b = a) → (H a ≠ none → K.lookup a = none) →
      codeAny (model P w) callerA (.call (.ref fa) ⟨[.ref a], []⟩) (fun r s' => r = .ok (.ret (.bool true)) ∧ OldK s₁.heap s'.heap ∧ s'.os = s₁.os ∧ AllBare s'.gens) s₁ := by
    intro H hO hS hok hA hK
    have base_of : ∀ {b : Addr} {o : Obj}, s₁.heap.get? b = some o → H b = none → (hidT s₁.heap H).get? b = some o := fun e n => hidT_get e n
    have noA : ∀ {b : Addr} {o : Obj} {es : Array DictEntry} {ep : Nat}, s₁.heap.get? b = some o → o.data = .dict es ep → H b = none := fun {b o es ep} e d => by
      cases q : H b with
      | none => rfl
      | some u =>
        have e' : b = a := hA b (by rw [q]; simp)
        subst e'
        rw [ha] at e; cases e
        have d' : Data.seq vs.toArray _ = Data.dict es ep := d
        cases d'
    have nsK : ∀ {b : Addr} {m : Str → Option Value}, s₁.heap.Ns b m → (hidT s₁.heap H).Ns b m := fun {b m} ⟨o, es, ep, e, d, r⟩ => ⟨o, es, ep, base_of e (noA e d), d, r⟩
    have hKb : K.In (hidT s₁.heap H) := fun b o e => base_of (KX b o e) (by
      cases q : H b with
      | none => rfl
      | some u =>
        have e' : b = a := hA b (by rw [q]; simp)
        subst e'
        rw [hK (by rw [q]; simp)] at e; cases e)
    have hM : Mod K mg (hidT s₁.heap H) := ⟨hKb, nsK hns, ⟨mb, nsK hb, hbb⟩, let ⟨mc, h1, h2⟩ := hlim; ⟨mc, nsK h1, h2⟩⟩
    have e0 : Env0 P w K mg (hidT s₁.heap H) callerA [] s₁ H := ⟨rfl, hM, fun b o e => of_hidT e, Nat.le_of_eq (hidT_size _ _), trivial, fun b hb => absurd (show b ∈ ([] : List Addr) from hb) (by simp), hok, .of_eq hg⟩
    obtain ⟨fa', fd, ps, C⟩ := callAt_all (P := P) (w := w) (exc := exc) (fuel := fuel) W k (hidT s₁.heap H) D.x D.kws (by unfold Tab.kw; rw [hD]; rfl)
    obtain ⟨M, law⟩ := law
    have lp : ps.length = 1 := (C.len [.rol (ns.map .int)] [] (by rw [law]; exact fun z => by cases z)).symm
    obtain rfl : fa' = fa := by
      have e := C.at'.symm.trans mD
      cases e; rfl
    have SM0 : SM K mg [] H [] := ⟨rfl, List.nodup_nil, fun i a o h => by simp at h⟩
    have rx : RVs K mg [] H [.rol (ns.map .int)] [.ref a] := .cons (.rol hS (RVs.ints ns)) .nil
    have hpv : PostV K mg (fun _ _ _ => False) [] H (callN (tab.txt gl exc fuel) k D.x [.rol (ns.map .int)] []) (fun v _ => v = .bl true) := by
      rw [law]
      exact fun ρ' v H' _ _ r => r.bl_inv
    refine codeAny_mono (C.run callerA [] s₁ H ⟨[.ref a], []⟩ [.ref a] [.ref a] _ [] [] (fun v _ => v = .bl true) (fun _ _ _ => False) hr rfl e0 (C.bd s₁ [.ref a] lp.symm) (.cons rfl .nil) SM0 rx hpv) fun r s' h => ?_
    cases r with
    | error e =>
      obtain ⟨_, _, _, _, _, _, _, _, _, _, _, _, z⟩ := h
      exact z.elim
    | ok fl =>
      cases fl with
      | next => exact False.elim h
      | brk => exact False.elim h
      | cont => exact False.elim h
      | ret u =>
        obtain ⟨v, H', os, bare, un, hok', r', q⟩ := h
        have q' : v = .bl true := q
        subst q'
        obtain rfl : u = Value.bool true := r'
        refine ⟨rfl, OldK.of_keep fun b o e => ?_, os, bare⟩
        cases q : H b with
        | none => exact un.keep b o e q (by intro z; exact absurd (show b ∈ ([] : List Addr) from z) (by simp)) (by simp)
        | some u =>
          rcases hO b with z | ⟨ob, xs, z⟩
          · rw [q] at z; cases z
          · have z2 := un.frzs b ob _ z
            obtain ⟨e1, _⟩ := hok b _ z
            obtain ⟨e2, _⟩ := hok' b _ z2
            rw [e] at e1; cases e1
            exact e2
  cases hk : K.lookup a with
  | some o =>
    have e := KX a o hk
    rw [ha] at e
    cases e
    refine core (fun _ => none) (fun _ => .inl rfl) (.inr ⟨_, vs.toArray, _, hk, rfl, rfl, rfl, by rw [List.size_toArray, lenV]; exact hl, by simpa using rv⟩) (fun b u z => by have z' : (none : Option HO) = some u := z; cases z') (fun b z => absurd rfl z) fun z => absurd rfl z
  | none =>
    refine core (fun b => if b = a then some (.frz { cls := .type "list", data := .seq vs.toArray } (.lst (ns.map V.int))) else none) (fun b => ?_) (.inl ⟨{ cls := .type "list", data := .seq vs.toArray }, if_pos rfl⟩) (fun b u z => ?_) (fun b z => ?_) fun _ => hk
    · by_cases hb : b = a
      · exact .inr ⟨_, _, if_pos hb⟩
      · exact .inl (if_neg hb)
    · by_cases hb : b = a
      · have z' := (if_pos hb).symm.trans z
        cases z'
        subst hb
        exact ⟨ha, by rw [List.length_map]; exact hl, vs, _, rv, ha⟩
      · have z' := (if_neg hb).symm.trans z
        cases z'
    · by_cases hb : b = a
      · exact hb
      · exact absurd (if_neg hb) z
/-- the law's end: what stands behind the top, and that the code says True of every script -/
theorem walk_ev {l : PySem.W.OpenLaw} {n k : Nat} {q : Program} {loose : List Str} {XP : (Str → Option Value) → Heap → Prop} {YP : World → Heap → Prop} {d : DefRec} {tab : Tab} {gl : Str → Option PV} {exc : Str → Option (List Str)} {fuel : Nat} {D : Def}
    (hn : l.most = some n) (hn2 : n ≤ sizeLine) (hdf : d.params.defaults = []) (hr : Room k callerA) (hD : tab.get D.x = some D) (hp : D.d.ps.length = 1)
    (F : ∀ (w : World) (mg : Str → Option Value) (fa : Addr) (h : Heap), YP w h → h.Ns mainGlobals mg → mg d.name = some (.ref fa) → ∃ K : PySem.W.Frag, K.In h ∧ Wor K mg tab gl ∧ mg D.x = some (.ref fa))
    (law : ∀ ns : List Int, ns.length ≤ n → (∀ z ∈ ns, Builtin.Int.intBits z ≤ 1048576) → ∃ M, callN (tab.txt gl exc fuel) k D.x [.rol (ns.map .int)] [] = .ok (.bl true) M) :
    PySem.W.WalkO q loose XP YP l.row.toRowW d [] (fun f vs => PySem.call f vs) := by
  refine Att.attach_callB hn hdf fun w s₀ s₁ mg mb fa o pm cd doc a vs ns G Y ho hd hcd hmg hobj hints hlen hbits hg => ?_
  obtain ⟨K, KX, W, mD⟩ := F w mg fa _ Y G.T.g hmg
  exact law_end KX G.T.g G.T.b G.T.builtins G.T.nolimit hg hobj hints (Nat.le_trans hlen hn2) hr W hD mD hp (law ns hlen hbits)
end Ev

set_option Elab.async false
set_option linter.all false
set_option maxRecDepth 100000
set_option maxHeartbeats 8000000
/-! Ev16: what the head says. -/
namespace Ev
open PySem L2 PyProof.Rows

/-- the module's constants -/
inductive GC where
  | int (i : Int)
  | str (s : Str)
abbrev GCs := List (Str × GC)
def GC.pv : GC → PV
  | .int i => .int i
  | .str s => .str s
def GCs.glo (g : GCs) : Str → Option PV := fun x => (g.find? fun p => decide (p.1 = x)).map (·.2.pv)
def GC.fa (x : Str) : GC → He.Fa
  | .int i => .int x i
  | .str s => .str x s
def Def.dd (D : Def) : He.DefD := ⟨(D.x, none), D.x, D.x, D.params, D.body, D.scope, [], []⟩
def faOf (tab : Tab) (g : GCs) : List He.Fa := tab.map (fun D => .glo D.x) ++ (freeNames.map .free ++ (clsNames.map (fun c => .free (Str.ofString c)) ++ g.map (fun p => p.2.fa p.1)))
def fnOf (tab : Tab) : List He.DefD := tab.map Def.dd
section
variable {tab : Tab} {g : GCs} {K : PySem.W.Frag} {h : Heap} {mg : Str → Option Value}
theorem fact_mem (c : He.SaysD (faOf tab g) (fnOf tab) K) {f : He.Fa} (m : f ∈ faOf tab g) : f.ok K = true := by
  obtain ⟨i, hi⟩ := List.mem_iff_getElem?.mp m
  exact c.fact i hi
theorem wor_of (X : K.In h) (G : h.Ns mainGlobals mg) (c : He.SaysD (faOf tab g) (fnOf tab) K) (ok : ∀ D ∈ tab, D.Ok tab.kw) : Wor K mg tab g.glo := by
  refine ⟨fun D hD => ?_, ok, fun x hx => ?_, fun x hx => ?_, fun x pv e => ?_⟩
  · obtain ⟨i, hi⟩ := List.mem_iff_getElem?.mp (List.mem_map_of_mem (f := Def.dd) hD)
    obtain ⟨fd, F⟩ := c.def_ i hi
    refine ⟨_, fd, F, ?_⟩
    exact He.glo_ok X G (fact_mem c (List.mem_append_left _ (List.mem_map_of_mem (f := fun D : Def => He.Fa.glo D.x) hD)))
  · exact He.free_ok X G (fact_mem c (List.mem_append_right _ (List.mem_append_left _ (List.mem_map_of_mem (f := He.Fa.free) hx))))
  · exact He.free_ok X G (fact_mem c (List.mem_append_right _ (List.mem_append_right _ (List.mem_append_left _ (List.mem_map_of_mem (f := fun c => He.Fa.free (Str.ofString c)) hx)))))
  · unfold GCs.glo at e
    obtain ⟨p, hp, rfl⟩ := Option.map_eq_some_iff.mp e
    have hx : p.1 = x := by simpa using List.find?_some hp
    have m := fact_mem c (List.mem_append_right _ (List.mem_append_right _ (List.mem_append_right _ (List.mem_map_of_mem (f := fun p : Str × GC => p.2.fa p.1) (List.mem_of_find?_eq_some hp)))))
    obtain ⟨x', gc⟩ := p
    cases hx
    cases gc with
    | int i =>
      obtain ⟨t, e⟩ := He.int_ok X G (x := x') (i := i) m
      exact ⟨_, .int i, e, ⟨t, rfl⟩, fun ρ H => .int i⟩
    | str z =>
      obtain ⟨t, e⟩ := He.str_ok X G (x := x') (z := z) m
      exact ⟨_, .str z, e, ⟨t, rfl⟩, fun ρ H => .str z⟩
end
end Ev

set_option Elab.async false
set_option linter.all false
set_option maxRecDepth 100000
set_option maxHeartbeats 8000000
/-! Ev17: how the code is run in thought. -/
namespace Ev
open PySem L2

theorem m_bind {α β : Type} (r : Res α) (f : α → Sto → Res β) : r.bind f = match r with | .ok a M => f a M | .exc x M => .exc x M | .bad => .bad := by cases r <;> rfl
theorem m_then {α : Type} (r : Res α) (env : Env) (f : α → Sto → SRes) : r.then env f = match r with | .ok a M => f a M | .exc x M => .ex x env M | .bad => .bad := by cases r <;> rfl
theorem m_sbind (r : SRes) (f : Env → Sto → SRes) : r.bind f = match r with | .nx env M => f env M | .rt v M => .rt v M | .bk env M => .bk env M | .ct env M => .ct env M | .ex x env M => .ex x env M | .bad => .bad := by cases r <;> rfl
theorem m_opt {α : Type} (o : Option α) (M : Sto) : Res.of o M = match o with | some a => .ok a M | none => .bad := by cases o <;> rfl
theorem at_call (T : Txt) (n : Nat) (f : Str) (xs : List PV) (M : Sto) : (T.at n).call f xs M = callN T n f xs M := rfl
theorem at_glo (T : Txt) (n : Nat) (x : Str) : (T.at n).glo x = T.glo x := rfl
theorem at_fuel (T : Txt) (n : Nat) : (T.at n).fuel = T.fuel := rfl
/-- a def's run -/
theorem run_def {T : Txt} {n : Nat} {f : Str} {ps N : List Str} {c : CS} (h : T.fn f = some ⟨ps, N, c⟩) (xs : List PV) (M : Sto) (k : Nat) (hl : xs.length = ps.length) (hk : N.length - xs.length = k) :
    callN T (n + 1) f xs M = (evS (T.at n) c (xs.map some ++ List.replicate k none) M).back := by
  rw [callN_def h]
  unfold runF
  rw [if_pos hl, hk]

/-! ### data of values that hang on no store -/
mutual
def pd : PV → PyData
  | .non => .none
  | .bl b => .bool b
  | .int i => .int i
  | .str s => .str s
  | .tup xs => .tuple (pds xs)
  | .rol xs => .list (pds xs)
  | .ref _ => .none
  | .glo _ => .none
  | .ty _ => .none
def pds : List PV → List PyData
  | [] => []
  | x :: xs => pd x :: pds xs
end
/-! it hangs on no store; its numbers are short enough to be written -/
mutual
def fine : PV → Bool
  | .non => true
  | .bl _ => true
  | .int i => decide (i.natAbs < 10 ^ 570)
  | .str s => s.cps.toList.all fun c => decide (c < 1114112)
  | .tup xs => fines xs
  | .rol xs => fines xs
  | .ref _ => false
  | .glo _ => false
  | .ty _ => false
def fines : List PV → Bool
  | [] => true
  | x :: xs => fine x && fines xs
end
mutual
theorem dat_fine (lk : Nat → Option PyData) : ∀ x, fine x = true → datR lk x = some (pd x)
  | .non, _ => by simp only [datR, pd]
  | .bl b, _ => by simp only [datR, pd]
  | .int i, _ => by simp only [datR, pd]
  | .str s, _ => by simp only [datR, pd]
  | .tup xs, h => by
    simp only [fine] at h
    simp only [datR, pd, dats_fine lk xs h, Option.map_some]
  | .rol xs, h => by
    simp only [fine] at h
    simp only [datR, pd, dats_fine lk xs h, Option.map_some]
  | .ref _, h => by simp [fine] at h
  | .glo _, h => by simp [fine] at h
  | .ty _, h => by simp [fine] at h
theorem dats_fine (lk : Nat → Option PyData) : ∀ xs, fines xs = true → datRs lk xs = some (pds xs)
  | [], _ => by simp only [datRs, pds]
  | x :: xs, h => by
    simp only [fines, Bool.and_eq_true] at h
    simp only [datRs, dat_fine lk x h.1, dats_fine lk xs h.2, pds]
end
theorem int_short {i : Int} (h : i.natAbs < 10 ^ 570) : (PyData.shown (.int i)).length ≤ 571 ∧ i.natAbs.log2 < 1920 := by
  constructor
  · have e := int_text_length_le10 (k := 570) (by decide) h
    show (Str.ofString (toString i)).length ≤ 571
    rw [ofString_length]; exact e
  · by_cases h0 : i.natAbs = 0
    · rw [h0]; decide
    · rw [Nat.log2_lt h0]
      exact Nat.lt_trans h (by decide +kernel)
mutual
theorem fine_ok : ∀ x, fine x = true → (pd x).leavesShort 571 = true ∧ (pd x).showable = true ∧ (pd x).hasDict = false ∧ (pd x).canLay0 = true
  | .non, _ => by simp [pd, PyData.leavesShort, PyData.showable, PyData.hasDict, PyData.canLay0]
  | .bl b, _ => by simp [pd, PyData.leavesShort, PyData.showable, PyData.hasDict, PyData.canLay0]
  | .int i, h => by
    simp only [fine, decide_eq_true_eq] at h
    obtain ⟨h1, h2⟩ := int_short h
    simp [pd, PyData.leavesShort, PyData.showable, PyData.hasDict, PyData.canLay0, h1, h2]
  | .str s, h => by
    simp only [fine, List.all_eq_true, decide_eq_true_eq] at h
    refine ⟨?_, by simp [pd, PyData.showable], by simp [pd, PyData.hasDict], ?_⟩
    · simp only [pd, PyData.leavesShort, List.all_eq_true, decide_eq_true_eq]
      exact fun c hc => Nat.lt_trans (h c hc) (by decide)
    · simp only [pd, PyData.canLay0, PyData.strOk]
      rw [Array.all_eq_true]
      intro i hi
      exact decide_eq_true (h _ (by simp))
  | .tup xs, h => by
    simp only [fine] at h
    obtain ⟨h1, h2, h3, h4⟩ := fines_ok xs h
    simp only [pd, PyData.leavesShort, PyData.showable, PyData.hasDict, PyData.canLay0, h1, h2, h3, h4, and_self]
  | .rol xs, h => by
    simp only [fine] at h
    obtain ⟨h1, h2, h3, h4⟩ := fines_ok xs h
    simp only [pd, PyData.leavesShort, PyData.showable, PyData.hasDict, PyData.canLay0, h1, h2, h3, h4, and_self]
  | .ref _, h => by simp [fine] at h
  | .glo _, h => by simp [fine] at h
  | .ty _, h => by simp [fine] at h
theorem fines_ok : ∀ xs, fines xs = true → PyData.leavesShortAll 571 (pds xs) = true ∧ PyData.showableAll (pds xs) = true ∧ PyData.hasDictAll (pds xs) = false ∧ PyData.canLayAll0 (pds xs) = true
  | [], _ => by simp [pds, PyData.leavesShortAll, PyData.showableAll, PyData.hasDictAll, PyData.canLayAll0]
  | x :: xs, h => by
    simp only [fines, Bool.and_eq_true] at h
    obtain ⟨a1, a2, a3, a4⟩ := fine_ok x h.1
    obtain ⟨h1, h2, h3, h4⟩ := fines_ok xs h.2
    simp [pds, PyData.leavesShortAll, PyData.showableAll, PyData.hasDictAll, PyData.canLayAll0, h1, h2, h3, h4, a1, a2, a3, a4]
end
theorem dat_of_fine {M : Sto} {x : PV} (h : fine x = true) : dat M x = some (pd x) := dat_fine _ x h
/-- its text -/
theorem repr_fine {M : Sto} {x : PV} (h : fine x = true) (hs : (pd x).bulk ≤ 29000) (hd : (pd x).depth ≤ 64) : reprV M x = some (pd x).shown := by
  obtain ⟨h1, h2, h3, _⟩ := fine_ok x h
  unfold reprV
  rw [dat_of_fine h]
  have e := PyData.shown_le_bulk 571 (by decide) (pd x) h1
  have e2 : (571 + 2) * (pd x).bulk ≤ 573 * 29000 := Nat.mul_le_mul (by omega) hs
  have e3 : (pd x).shown.length ≤ sizeLine := by rw [sizeLine_eq]; omega
  exact if_pos ⟨h2, e3, hd, h3⟩
theorem shaped_fine {x : PV} (h : fine x = true) (hd : (pd x).depth ≤ 64) : SeqAt.shaped (pd x) = true := by
  obtain ⟨_, _, _, h4⟩ := fine_ok x h
  simp [SeqAt.shaped, h4, hd]
/-! ### the store -/
theorem sto_set {M : Sto} {i : Nat} {o o' : MO} (h : M[i]? = some o) : (M.set i o')[i]? = some o' := by
  have := (List.getElem?_eq_some_iff.mp h).1
  rw [List.getElem?_set_self this]
theorem sto_ne {M : Sto} {i j : Nat} {o' : MO} (h : i ≠ j) : (M.set i o')[j]? = M[j]? := List.getElem?_set_ne h
theorem sto_lt {M : Sto} {i : Nat} {o : MO} (h : M[i]? = some o) : i < M.length := (List.getElem?_eq_some_iff.mp h).1
theorem sto_app {M : Sto} {i : Nat} {o : MO} {l : List MO} (h : M[i]? = some o) : (M ++ l)[i]? = some o := by rw [List.getElem?_append_left (sto_lt h)]; exact h
theorem sto_new (M : Sto) (o : MO) : (M ++ [o])[M.length]? = some o := by simp
/-- what stood and is not among these stands -/
def Keep (out : List Nat) (M M' : Sto) : Prop := M.length ≤ M'.length ∧ ∀ k, k < M.length → k ∉ out → M'[k]? = M[k]?
theorem Keep.refl {out : List Nat} (M : Sto) : Keep out M M := ⟨Nat.le_refl _, fun _ _ _ => rfl⟩
theorem Keep.trans {out : List Nat} {M M1 M2 : Sto} (a : Keep out M M1) (b : Keep out M1 M2) : Keep out M M2 :=
  ⟨Nat.le_trans a.1 b.1, fun k h n => (b.2 k (Nat.lt_of_lt_of_le h a.1) n).trans (a.2 k h n)⟩
theorem Keep.set {out : List Nat} {M : Sto} {i : Nat} {o : MO} (h : i ∈ out) : Keep out M (M.set i o) := ⟨by simp, fun k _ n => sto_ne fun e => n (e ▸ h)⟩
theorem Keep.app {out : List Nat} {M : Sto} {l : List MO} : Keep out M (M ++ l) := ⟨by simp, fun k h _ => by rw [List.getElem?_append_left h]⟩
theorem Keep.get {out : List Nat} {M M' : Sto} (a : Keep out M M') {k : Nat} {o : MO} (h : M[k]? = some o) (n : k ∉ out) : M'[k]? = some o := (a.2 k (sto_lt h) n).trans h
theorem Keep.imp {out out' : List Nat} {M M' : Sto} (a : Keep out M M') (h : ∀ k, k ∈ out → k ∈ out') : Keep out' M M' := ⟨a.1, fun k l n => a.2 k l fun z => n (h k z)⟩
theorem Keep.len {out : List Nat} {M M' : Sto} (a : Keep out M M') : M.length ≤ M'.length := a.1
/-! ### lists of numbers, as data -/
theorem dats_ints (lk : Nat → Option PyData) : ∀ ns : List Int, datRs lk (ns.map .int) = some (ns.map .int)
  | [] => rfl
  | n :: ns => by
    simp only [List.map_cons, datRs, datR, dats_ints lk ns]
theorem canLay_ints : ∀ ns : List Int, PyData.canLayAll0 (ns.map .int) = true
  | [] => rfl
  | n :: ns => by simp [PyData.canLayAll0, PyData.canLay0, canLay_ints ns]
theorem depth_ints : ∀ ns : List Int, PyData.depthAll (ns.map .int) = 0
  | [] => rfl
  | n :: ns => by simp [PyData.depthAll, PyData.depth, depth_ints ns]
theorem dat_lst {M : Sto} {i : Nat} {xs : List PV} (h : M[i]? = some (.lst xs)) : dat M (.ref i) = (datRs (lkN M 7) xs).map .list := by
  show datR (lkN M 8) (.ref i) = _
  simp only [datR, lkN, h]
/-- is a list the empty one? -/
theorem eq_empty {M : Sto} {i j : Nat} {ns : List Int} (h : M[i]? = some (.lst (ns.map .int))) (h' : M[j]? = some (.lst [])) : eqV M (.ref i) (.ref j) = some ns.isEmpty := by
  have e : eqV M (.ref i) (.ref j) = (match dat M (.ref i), dat M (.ref j) with
    | some d, some e => if SeqAt.shaped d = true ∧ SeqAt.shaped e = true then some (PyData.eqv d e) else none
    | _, _ => none) := rfl
  rw [e, dat_lst h, dat_lst h', dats_ints]
  have s1 : SeqAt.shaped (.list (ns.map .int)) = true := by simp [SeqAt.shaped, PyData.canLay0, canLay_ints, PyData.depth, depth_ints]
  have s2 : SeqAt.shaped (.list []) = true := by decide
  have s3 : datRs (lkN M 7) [] = some [] := by simp [datRs]
  rw [s3]
  show (if SeqAt.shaped (.list (ns.map .int)) = true ∧ SeqAt.shaped (.list []) = true then some (PyData.eqv (.list (ns.map .int)) (.list [])) else none) = _
  rw [if_pos ⟨s1, s2⟩]
  cases ns <;> simp [PyData.eqv, PyData.eqvAll]
/-! ### loops -/
section
variable {body : PV → Env → Sto → SRes} {keep : Sto → Bool}
/-- each turn goes on -/
theorem for_all (I : List PV → Env → Sto → Prop) (hk : ∀ xs env M, I xs env M → keep M = true)
    (step : ∀ x xs env M, I (x :: xs) env M → ∃ env1 M1, (body x env M = .nx env1 M1 ∨ body x env M = .ct env1 M1) ∧ I xs env1 M1) :
    ∀ xs env M, I xs env M → ∃ env' M', forL body keep xs env M = .nx env' M' ∧ I [] env' M'
  | [], env, M, h => ⟨env, M, by simp only [forL, hk _ _ _ h, if_true], h⟩
  | x :: xs, env, M, h => by
    obtain ⟨env1, M1, e, h1⟩ := step x xs env M h
    obtain ⟨env', M', e', h'⟩ := for_all I hk step xs env1 M1 h1
    refine ⟨env', M', ?_, h'⟩
    simp only [forL, hk _ _ _ h, if_true]
    rcases e with e | e <;> rw [e] <;> exact e'
end
/-- a while, its turns counted -/
theorem while_all {c : Env → Sto → Res PV} {b : Env → Sto → SRes} (I : Nat → Env → Sto → Prop) (J : SRes → Prop)
    (step : ∀ n env M, I n env M → (∃ x M1, c env M = .ok x M1 ∧ ((truV M1 x = some false ∧ J (.nx env M1)) ∨ (truV M1 x = some true ∧ ((∃ env2 M2 m, m < n ∧ (b env M1 = .nx env2 M2 ∨ b env M1 = .ct env2 M2) ∧ I m env2 M2) ∨ (∃ v M2, b env M1 = .rt v M2 ∧ J (.rt v M2)) ∨ (∃ env2 M2, b env M1 = .bk env2 M2 ∧ J (.nx env2 M2)))))) ) :
    ∀ n fuel env M, n < fuel → I n env M → J (whL c b fuel env M) := by
  intro n
  induction n using Nat.strongRecOn with
  | _ n ih =>
    intro fuel env M hf h
    cases fuel with
    | zero => omega
    | succ fuel =>
      obtain ⟨x, M1, e, h1⟩ := step n env M h
      unfold whL
      rw [e]
      simp only [Res.then_ok]
      rcases h1 with ⟨t, j⟩ | ⟨t, h2⟩
      · rw [t]; exact j
      · rw [t]
        rcases h2 with ⟨env2, M2, m, hm, e2, h3⟩ | ⟨v, M2, e2, j⟩ | ⟨env2, M2, e2, j⟩
        · rcases e2 with e2 | e2
          · simp only [e2]; exact ih m hm fuel env2 M2 (by omega) h3
          · simp only [e2]; exact ih m hm fuel env2 M2 (by omega) h3
        · simp only [e2]; exact j
        · simp only [e2]; exact j
theorem forB_def (t : CT) (r : Env → Sto → SRes) : (fun x env M => match asgT t x env with | some env1 => r env1 M | none => .bad) = forB t r := rfl
theorem ofString_eq (a b : String) : (Str.ofString a = Str.ofString b) = (a = b) := by
  apply propext
  constructor
  · intro h
    have h1 := congrArg (fun z : Str => z.cps.toList) h
    have h2 : cpsOfBytes 0 0 a.toByteArray.data.toList = cpsOfBytes 0 0 b.toByteArray.data.toList := by simpa [Str.ofString] using h1
    rw [cpsOfBytes_string, cpsOfBytes_string] at h2
    have inj : ∀ l l' : List Char, l.map Char.toNat = l'.map Char.toNat → l = l' := by
      intro l
      induction l with
      | nil => intro l' h; cases l' <;> simp at h; rfl
      | cons c l ih =>
        intro l' h
        cases l' with
        | nil => simp at h
        | cons c' l' =>
          simp only [List.map_cons, List.cons.injEq] at h
          have hc : c = c' := by
            apply Char.ext
            apply UInt32.toNat_inj.mp
            exact h.1
          rw [hc, ih l' h.2]
    have h3 := inj _ _ h2
    rw [← String.ofList_toList (s := a), ← String.ofList_toList (s := b), h3]
  · rintro rfl; rfl
theorem key_str (a b : Str) : ((Sum.inr a : Key) = Sum.inr b) = (a = b) := by simp
theorem key_int (a b : Int) : ((Sum.inl a : Key) = Sum.inl b) = (a = b) := by simp
theorem valP_nil (k : Key) : valP [] k = none := rfl
theorem valP_cons (k' : Key) (v : PV) (r : List (Key × PV)) (k : Key) : valP ((k', v) :: r) k = if k' = k then some v else valP r k := by
  unfold valP
  rw [List.find?_cons]
  by_cases h : k' = k <;> simp [h]
theorem sto_self (M : Sto) (i : Nat) (o : MO) : (M.set i o)[i]? = M[i]?.map fun _ => o := by
  rw [List.getElem?_set_self']; rfl
theorem sto_apps {M : Sto} {i : Nat} (l : List MO) (h : i < M.length) : (M ++ l)[i]? = M[i]? := List.getElem?_append_left h
section
variable (M : Sto)
theorem eq_ii (i j : Int) : eqV M (.int i) (.int j) = some (decide (i = j)) := rfl
theorem eq_ss (i j : Str) : eqV M (.str i) (.str j) = some (decide (i = j)) := rfl
theorem eq_bb (i j : Bool) : eqV M (.bl i) (.bl j) = some (decide (i = j)) := rfl
theorem eq_nn : eqV M .non .non = some true := rfl
theorem eq_ni (i : Int) : eqV M .non (.int i) = some false := rfl
theorem eq_in (i : Int) : eqV M (.int i) .non = some false := rfl
theorem eq_ns (i : Str) : eqV M .non (.str i) = some false := rfl
theorem eq_sn (i : Str) : eqV M (.str i) .non = some false := rfl
theorem eq_nb (i : Bool) : eqV M .non (.bl i) = some false := rfl
theorem eq_bn (i : Bool) : eqV M (.bl i) .non = some false := rfl
theorem eq_is (i : Int) (j : Str) : eqV M (.int i) (.str j) = some false := rfl
theorem eq_si (i : Str) (j : Int) : eqV M (.str i) (.int j) = some false := rfl
theorem eq_empty2 (ns : List Int) {i k : Nat} (h : M[i]? = some (.lst (ns.map .int))) (e : k = M.length) : eqV (M ++ [.lst []]) (.ref i) (.ref k) = some ns.isEmpty := by
  subst e
  exact eq_empty (sto_app h) (sto_new _ _)
end
theorem natAbs64 (i : Int) : (i.natAbs < 18446744073709551616) = (-18446744073709551616 < i ∧ i < 18446744073709551616) := by
  apply propext
  omega
theorem natAbs30 (i : Int) : (i.natAbs < 1073741824) = (-1073741824 < i ∧ i < 1073741824) := by
  apply propext
  omega
theorem last_get {α : Type} (l : List α) (a : α) : (l ++ [a])[(l ++ [a]).length - 1]? = some a := by simp
theorem ints_last (l : List Int) (c : Int) : ((l ++ [c]).map PV.int)[((l ++ [c]).map PV.int).length - 1]? = some (.int c) := by simp
theorem ints_drop (l : List Int) (c : Int) : ((l ++ [c]).map PV.int).dropLast = l.map .int := by simp
theorem fmod_ok {a b : Int} (h : 0 < b) : 0 ≤ a.fmod b ∧ a.fmod b < b := ⟨Int.fmod_nonneg_of_pos a h, Int.fmod_lt_of_pos a h⟩
theorem fmod_lt64 {a b : Int} (h : 0 < b) (h2 : b < 18446744073709551616) : (a.fmod b < 18446744073709551616) = True := eq_true (Int.lt_trans (fmod_ok h).2 h2)
theorem fmod_gt64 {a b : Int} (h : 0 < b) : (-18446744073709551616 < a.fmod b) = True := eq_true (by have := (fmod_ok (a := a) h).1; omega)
section
variable {α : Type} (xs : List α)
theorem atI_lit (n : Nat) : atI xs (n : Int) = xs[n]? := by
  unfold atI ixN
  rw [if_pos (by omega)]
  by_cases h : (n : Int) < (xs.length : Int)
  · rw [if_pos h]; simp
  · rw [if_neg h]
    show none = _
    rw [List.getElem?_eq_none (by omega)]
theorem atI_0 : atI xs 0 = xs[0]? := atI_lit xs 0
theorem atI_1 : atI xs 1 = xs[1]? := atI_lit xs 1
theorem atI_2 : atI xs 2 = xs[2]? := atI_lit xs 2
theorem atI_3 : atI xs 3 = xs[3]? := atI_lit xs 3
theorem atI_4 : atI xs 4 = xs[4]? := atI_lit xs 4
theorem atI_5 : atI xs 5 = xs[5]? := atI_lit xs 5
theorem atI_6 : atI xs 6 = xs[6]? := atI_lit xs 6
theorem atI_7 : atI xs 7 = xs[7]? := atI_lit xs 7
theorem atI_8 : atI xs 8 = xs[8]? := atI_lit xs 8
theorem atI_9 : atI xs 9 = xs[9]? := atI_lit xs 9
theorem atI_in {r : Int} (h0 : 0 ≤ r) (h1 : r < xs.length) : ∃ x, x ∈ xs ∧ xs[r.toNat]? = some x ∧ atI xs r = some x := by
  have hl : r.toNat < xs.length := by omega
  refine ⟨xs[r.toNat], List.getElem_mem hl, List.getElem?_eq_getElem hl, ?_⟩
  have e : atI xs r = atI xs ((r.toNat : Nat) : Int) := by rw [Int.toNat_of_nonneg h0]
  rw [e, atI_lit, List.getElem?_eq_getElem hl]
end
theorem sIx_none (n d : Nat) : HT.sIx n d none = d := rfl
theorem sIx_lit (n d k : Nat) : HT.sIx n d (some (k : Int)) = min k n := HT.sIx_nat n d k
theorem cut_all {xs : List PV} {k : Nat} (h : xs.length ≤ k) : cutP xs none (some (k : Int)) = xs := by
  unfold cutP
  rw [sIx_none, sIx_lit, Nat.min_eq_right h]
  simp
theorem cut_to (xs : List PV) (k : Nat) : cutP xs none (some (k : Int)) = xs.take k := by
  unfold cutP
  rw [sIx_none, sIx_lit]
  simp [List.take_eq_take_iff]
theorem cut_from (xs : List PV) (k : Nat) : cutP xs (some (k : Int)) none = xs.drop k := by
  unfold cutP
  rw [sIx_none, sIx_lit]
  by_cases h : k ≤ xs.length
  · rw [Nat.min_eq_left h, List.take_of_length_le (by simp)]
  · rw [Nat.min_eq_right (by omega)]
    simp; omega
theorem cut_mid (xs : List PV) (a b : Nat) (h : b ≤ xs.length) (h2 : a ≤ b) : cutP xs (some (a : Int)) (some (b : Int)) = (xs.take b).drop a := by
  unfold cutP
  rw [sIx_lit, sIx_lit, Nat.min_eq_left h, Nat.min_eq_left (by omega), List.drop_take]
theorem evS_for (G : Glob) (t : CT) (it : CE) (b : CS) (env : Env) (M : Sto) : evS G (.for_ t it b) env M = (evI G it env M).then env fun s M1 => forL (forB t (evS G b)) (keepB s.src) s.items env M1 := by
  simp only [evS]; rfl
theorem keep_nil (M : Sto) : keepB [] M = true := rfl
theorem keep_one {M : Sto} {k : Nat} {o : MO} (h : M[k]? = some o) : keepB [(k, o)] M = true := by simp [keepB, h]
theorem atI_m1 {α : Type} (xs : List α) (v : α) : atI (xs ++ [v]) (-1) = some v := atI_last xs v
theorem for_of {body : PV → Env → Sto → SRes} {keep : Sto → Bool} {xs : List PV} {env : Env} {M : Sto} {z : SRes} (hz : forL body keep xs env M = z) (I : List PV → Env → Sto → Prop) (init : I xs env M) (hk : ∀ xs env M, I xs env M → keep M = true)
    (step : ∀ x xs env M, I (x :: xs) env M → ∃ env1 M1, (body x env M = .nx env1 M1 ∨ body x env M = .ct env1 M1) ∧ I xs env1 M1) : ∃ env' M', z = .nx env' M' ∧ I [] env' M' := by
  rw [← hz]
  exact for_all I hk step xs env M init
theorem while_of {c : Env → Sto → Res PV} {b : Env → Sto → SRes} {fuel : Nat} {env : Env} {M : Sto} {z : SRes} (hz : whL c b fuel env M = z) (n : Nat) (hf : n < fuel) (I : Nat → Env → Sto → Prop) (J : SRes → Prop) (init : I n env M)
    (step : ∀ n env M, I n env M → (∃ x M1, c env M = .ok x M1 ∧ ((truV M1 x = some false ∧ J (.nx env M1)) ∨ (truV M1 x = some true ∧ ((∃ env2 M2 m, m < n ∧ (b env M1 = .nx env2 M2 ∨ b env M1 = .ct env2 M2) ∧ I m env2 M2) ∨ (∃ v M2, b env M1 = .rt v M2 ∧ J (.rt v M2)) ∨ (∃ env2 M2, b env M1 = .bk env2 M2 ∧ J (.nx env2 M2)))))) ) : J z := by
  rw [← hz]
  exact while_all I J step n fuel env M hf init
theorem cutf_1 (xs : List PV) : cutP xs (some 1) none = xs.drop 1 := cut_from xs 1
theorem cutt_1 (xs : List PV) : cutP xs none (some 1) = xs.take 1 := cut_to xs 1
theorem cutf_2 (xs : List PV) : cutP xs (some 2) none = xs.drop 2 := cut_from xs 2
theorem cutt_2 (xs : List PV) : cutP xs none (some 2) = xs.take 2 := cut_to xs 2
theorem cutf_3 (xs : List PV) : cutP xs (some 3) none = xs.drop 3 := cut_from xs 3
theorem cutt_3 (xs : List PV) : cutP xs none (some 3) = xs.take 3 := cut_to xs 3
theorem cutf_4 (xs : List PV) : cutP xs (some 4) none = xs.drop 4 := cut_from xs 4
theorem cutt_4 (xs : List PV) : cutP xs none (some 4) = xs.take 4 := cut_to xs 4
theorem cutf_5 (xs : List PV) : cutP xs (some 5) none = xs.drop 5 := cut_from xs 5
theorem cutt_5 (xs : List PV) : cutP xs none (some 5) = xs.take 5 := cut_to xs 5
theorem cutf_6 (xs : List PV) : cutP xs (some 6) none = xs.drop 6 := cut_from xs 6
theorem cutt_6 (xs : List PV) : cutP xs none (some 6) = xs.take 6 := cut_to xs 6
theorem cutf_7 (xs : List PV) : cutP xs (some 7) none = xs.drop 7 := cut_from xs 7
theorem cutt_7 (xs : List PV) : cutP xs none (some 7) = xs.take 7 := cut_to xs 7
theorem cutf_8 (xs : List PV) : cutP xs (some 8) none = xs.drop 8 := cut_from xs 8
theorem cutt_8 (xs : List PV) : cutP xs none (some 8) = xs.take 8 := cut_to xs 8
theorem cutf_9 (xs : List PV) : cutP xs (some 9) none = xs.drop 9 := cut_from xs 9
theorem cutt_9 (xs : List PV) : cutP xs none (some 9) = xs.take 9 := cut_to xs 9
/-- a comprehension that changes nothing -/
theorem comp_all {g : PV → Sto → Res (Option PV)} {keep : Sto → Bool} {M : Sto} (f : PV → Option PV) (hk : keep M = true) : ∀ (xs acc : List PV), (∀ x ∈ xs, g x M = .ok (f x) M) → acc.length + xs.length ≤ sizeLine → compL g keep xs M acc = .ok (acc ++ xs.filterMap f) M
  | [], acc, _, _ => by simp [compL, hk]
  | x :: xs, acc, h, hs => by
    simp only [List.length_cons] at hs
    unfold compL
    rw [if_pos hk, h x List.mem_cons_self]
    cases e : f x with
    | none =>
      simp only
      rw [comp_all f hk xs acc (fun y hy => h y (List.mem_cons_of_mem _ hy)) (by omega)]
      simp [e]
    | some y =>
      simp only
      rw [if_pos (by omega), comp_all f hk xs (acc ++ [y]) (fun y hy => h y (List.mem_cons_of_mem _ hy)) (by simp; omega)]
      simp [e]
theorem comp_of {g : PV → Sto → Res (Option PV)} {keep : Sto → Bool} {M : Sto} {xs : List PV} {z : Res (List PV)} (hz : compL g keep xs M [] = z) (f : PV → Option PV) (hk : keep M = true) (h : ∀ x ∈ xs, g x M = .ok (f x) M) (hs : xs.length ≤ sizeLine) : z = .ok (xs.filterMap f) M := by
  rw [← hz, comp_all f hk xs [] h (by simpa using hs)]
  rfl
/-- is a list of plain values the empty one? -/
theorem eq_empty_fine {M : Sto} {i j : Nat} {xs : List PV} (h : M[i]? = some (.lst xs)) (h' : M[j]? = some (.lst [])) (hf : fines xs = true) (hd : PyData.depthAll (pds xs) ≤ 63) : eqV M (.ref i) (.ref j) = some xs.isEmpty := by
  have e : eqV M (.ref i) (.ref j) = (match dat M (.ref i), dat M (.ref j) with
    | some d, some e => if SeqAt.shaped d = true ∧ SeqAt.shaped e = true then some (PyData.eqv d e) else none
    | _, _ => none) := rfl
  rw [e, dat_lst h, dat_lst h', dats_fine _ xs hf]
  obtain ⟨_, _, _, c⟩ := fines_ok xs hf
  have s1 : SeqAt.shaped (.list (pds xs)) = true := by simp [SeqAt.shaped, PyData.canLay0, c, PyData.depth]; omega
  have s2 : SeqAt.shaped (.list []) = true := by decide
  have s3 : datRs (lkN M 7) [] = some [] := by simp [datRs]
  rw [s3]
  show (if SeqAt.shaped (.list (pds xs)) = true ∧ SeqAt.shaped (.list []) = true then some (PyData.eqv (.list (pds xs)) (.list [])) else none) = _
  rw [if_pos ⟨s1, s2⟩]
  cases xs <;> simp [PyData.eqv, PyData.eqvAll, pds]
theorem eq_empty_fine2 (xs : List PV) {M : Sto} {i k : Nat} (h : M[i]? = some (.lst xs)) (hf : fines xs = true) (hd : PyData.depthAll (pds xs) ≤ 63) (e : k = M.length) : eqV (M ++ [.lst []]) (.ref i) (.ref k) = some xs.isEmpty := by
  subst e
  exact eq_empty_fine (sto_app h) (sto_new _ _) hf hd
theorem fines_all : ∀ {xs : List PV}, (∀ x ∈ xs, fine x = true) → fines xs = true
  | [], _ => by simp [fines]
  | x :: xs, h => by
    simp only [fines, h x List.mem_cons_self, fines_all fun y hy => h y (List.mem_cons_of_mem _ hy), Bool.and_self]
theorem depths_all {n : Nat} : ∀ {xs : List PV}, (∀ x ∈ xs, (pd x).depth ≤ n) → PyData.depthAll (pds xs) ≤ n
  | [], _ => by simp [pds, PyData.depthAll]
  | x :: xs, h => by
    simp only [pds, PyData.depthAll]
    have h1 := h x List.mem_cons_self
    have h2 := depths_all fun y hy => h y (List.mem_cons_of_mem _ hy)
    omega
theorem rg_one (n : Nat) : rgP 1 ((n : Int) + 1) = (List.range n).map fun i => PV.int (1 + (i : Nat)) := by
  unfold rgP
  rw [show ((n : Int) + 1 - 1).toNat = n by omega]
theorem rg_zero (n : Nat) : rgP 0 (n : Int) = (List.range n).map fun i => PV.int (i : Nat) := by
  unfold rgP
  rw [show ((n : Int) - 0).toNat = n by omega]
  simp
theorem evS_seq (G : Glob) (a r : CS) (env : Env) (M : Sto) : evS G (.seq a r) env M = (evS G a env M).bind (evS G r) := by
  simp only [evS]
def iteS (G : Glob) (a b : CS) (env : Env) (x : PV) (M : Sto) : SRes := match truV M x with
    | some true => evS G a env M
    | some false => evS G b env M
    | none => .bad
theorem evS_ite (G : Glob) (c : CE) (sa sb : CS) (env : Env) (M : Sto) : evS G (.ite c sa sb) env M = (evE G c env M).then env (iteS G sa sb env) := by
  simp only [evS]; rfl
theorem rgOk_nat {a b : Int} (h0 : -4000000000000000000 ≤ a) (h1 : a ≤ 4000000000000000000) (h2 : -4000000000000000000 ≤ b) (h3 : b ≤ 4000000000000000000) : rgOk a b = true := by
  unfold rgOk
  simp only [Bool.and_eq_true, decide_eq_true_eq]
  omega
/-- a new list, then [] -/
theorem eq_new_empty {xs : List PV} (hf : fines xs = true) (hd : PyData.depthAll (pds xs) ≤ 63) (N : Sto) : eqV (N ++ [.lst xs] ++ [.lst []]) (.ref N.length) (.ref (N ++ [MO.lst xs]).length) = some xs.isEmpty :=
  eq_empty_fine2 xs (sto_new _ _) hf hd rfl
end Ev

set_option Elab.async false
set_option linter.all false
set_option maxRecDepth 100000
set_option maxHeartbeats 8000000
/-! Ev18: more of it. -/
namespace Ev
open PySem L2
theorem permL_nil {α : Type} (l : List α) : permL [] l = [] := rfl
theorem permL_cons {α : Type} (i : Nat) (p : List Nat) (l : List α) : permL (i :: p) l = match l[i]? with
  | some x => x :: permL p l
  | none => permL p l := by
  unfold permL
  rw [List.filterMap_cons]
  cases l[i]? <;> rfl
theorem rep2 (x : PV) : (List.replicate 2 [x]).flatten = [x, x] := rfl
theorem rep3 (x : PV) : (List.replicate 3 [x]).flatten = [x, x, x] := rfl
theorem repr_true (M : Sto) : reprV M (.bl true) = some (Str.ofString "True") := by
  rw [repr_fine (by rfl) (by simp [pd, PyData.bulk]) (by simp [pd, PyData.depth])]
  rfl
theorem repr_false (M : Sto) : reprV M (.bl false) = some (Str.ofString "False") := by
  rw [repr_fine (by rfl) (by simp [pd, PyData.bulk]) (by simp [pd, PyData.depth])]
  rfl
theorem repr_two {x : PV} (hf : fine x = true) (hb : (pd x).bulk ≤ 100) (hd : (pd x).depth ≤ 10) : ∃ t, ∀ M, reprV M (.tup [x, x]) = some t := by
  refine ⟨_, fun M => repr_fine ?_ ?_ ?_⟩
  · simp [fine, fines, hf]
  · simp [pd, pds, PyData.bulk, PyData.bulkAll]; omega
  · simp [pd, pds, PyData.depth, PyData.depthAll]; omega
theorem repr_one {x : PV} (hf : fine x = true) (hb : (pd x).bulk ≤ 29000) (hd : (pd x).depth ≤ 64) : ∃ t, ∀ M, reprV M x = some t := ⟨_, fun M => repr_fine hf hb hd⟩
theorem small {i : Int} (h0 : -(10 ^ 30) < i) (h1 : i < 10 ^ 30) : i.natAbs < 10 ^ 570 := by
  have e : (10 : Nat) ^ 30 < 10 ^ 570 := by decide +kernel
  have : i.natAbs < 10 ^ 30 := by omega
  exact Nat.lt_trans this e
end Ev

set_option Elab.async false
set_option linter.all false
set_option maxRecDepth 100000
set_option maxHeartbeats 8000000
/-! Ev19: loops that may return; values of small numbers; equality of a value and itself; stores with one more list. -/
namespace Ev
open PySem L2
theorem for_gen {body : PV → Env → Sto → SRes} {keep : Sto → Bool} (I : List PV → Env → Sto → Prop) (J : SRes → Prop) (hk : ∀ xs env M, I xs env M → keep M = true) (fin : ∀ env M, I [] env M → J (.nx env M))
    (step : ∀ x xs env M, I (x :: xs) env M → (∃ env1 M1, (body x env M = .nx env1 M1 ∨ body x env M = .ct env1 M1) ∧ I xs env1 M1) ∨ (∃ v M1, body x env M = .rt v M1 ∧ J (.rt v M1)) ∨ (∃ env1 M1, body x env M = .bk env1 M1 ∧ J (.nx env1 M1))) :
    ∀ xs env M, I xs env M → J (forL body keep xs env M)
  | [], env, M, h => by simp only [forL, hk _ _ _ h, if_true]; exact fin _ _ h
  | x :: xs, env, M, h => by
    simp only [forL, hk _ _ _ h, if_true]
    rcases step x xs env M h with ⟨env1, M1, e, h1⟩ | ⟨v, M1, e, j⟩ | ⟨env1, M1, e, j⟩
    · rcases e with e | e <;> rw [e] <;> exact for_gen I J hk fin step xs env1 M1 h1
    · rw [e]; exact j
    · rw [e]; exact j
theorem for_gen' {body : PV → Env → Sto → SRes} {keep : Sto → Bool} {xs : List PV} {env : Env} {M : Sto} {z : SRes} (hz : forL body keep xs env M = z) (I : List PV → Env → Sto → Prop) (J : SRes → Prop) (init : I xs env M) (hk : ∀ xs env M, I xs env M → keep M = true) (fin : ∀ env M, I [] env M → J (.nx env M))
    (step : ∀ x xs env M, I (x :: xs) env M → (∃ env1 M1, (body x env M = .nx env1 M1 ∨ body x env M = .ct env1 M1) ∧ I xs env1 M1) ∨ (∃ v M1, body x env M = .rt v M1 ∧ J (.rt v M1)) ∨ (∃ env1 M1, body x env M = .bk env1 M1 ∧ J (.nx env1 M1))) : J z := by
  rw [← hz]
  exact for_gen I J hk fin step xs env M init
/-- a comprehension whose turns change the store: each turn by a rule -/
theorem comp_gen {g : PV → Sto → Res (Option PV)} {keep : Sto → Bool} (I : List PV → List PV → Sto → Prop) (hk : ∀ xs acc M, I xs acc M → keep M = true)
    (step : ∀ x xs acc M, I (x :: xs) acc M → acc.length < sizeLine ∧ ∃ M1, (∃ y, g x M = .ok (some y) M1 ∧ I xs (acc ++ [y]) M1) ∨ (g x M = .ok none M1 ∧ I xs acc M1)) :
    ∀ xs acc M, I xs acc M → ∃ out M', compL g keep xs M acc = .ok out M' ∧ I [] out M'
  | [], acc, M, h => ⟨acc, M, by simp only [compL, hk _ _ _ h, if_true], h⟩
  | x :: xs, acc, M, h => by
    obtain ⟨hl, M1, ⟨y, e, h1⟩ | ⟨e, h1⟩⟩ := step x xs acc M h
    · obtain ⟨out, M', e2, h2⟩ := comp_gen I hk step xs (acc ++ [y]) M1 h1
      refine ⟨out, M', ?_, h2⟩
      simp only [compL, hk _ _ _ h, if_true, e, hl]
      exact e2
    · obtain ⟨out, M', e2, h2⟩ := comp_gen I hk step xs acc M1 h1
      refine ⟨out, M', ?_, h2⟩
      simp only [compL, hk _ _ _ h, if_true, e]
      exact e2
theorem comp_gen' {g : PV → Sto → Res (Option PV)} {keep : Sto → Bool} {xs : List PV} {M : Sto} {z : Res (List PV)} (hz : compL g keep xs M [] = z) (I : List PV → List PV → Sto → Prop) (init : I xs [] M) (hk : ∀ xs acc M, I xs acc M → keep M = true)
    (step : ∀ x xs acc M, I (x :: xs) acc M → acc.length < sizeLine ∧ ∃ M1, (∃ y, g x M = .ok (some y) M1 ∧ I xs (acc ++ [y]) M1) ∨ (g x M = .ok none M1 ∧ I xs acc M1)) : ∃ out M', z = .ok out M' ∧ I [] out M' := by
  rw [← hz]
  exact comp_gen I hk step xs [] M init
/-! values of short numbers -/
mutual
def mini : PV → Bool
  | .non => true
  | .bl _ => true
  | .int i => decide (i.natAbs < 10 ^ 10)
  | .str s => s.cps.toList.all fun c => decide (c < 1114112)
  | .tup xs => minis xs
  | .rol xs => minis xs
  | .ref _ => false
  | .glo _ => false
  | .ty _ => false
def minis : List PV → Bool
  | [] => true
  | x :: xs => mini x && minis xs
end
theorem int_mini {i : Int} (h : i.natAbs < 10 ^ 10) : (PyData.shown (.int i)).length ≤ 12 := by
  have e := int_text_length_le10 (k := 10) (by decide) h
  show (Str.ofString (toString i)).length ≤ 12
  rw [ofString_length]; omega
mutual
theorem mini_fine : ∀ x, mini x = true → fine x = true
  | .non, _ => by simp only [fine]
  | .bl b, _ => by simp only [fine]
  | .int i, h => by
    simp only [mini, decide_eq_true_eq] at h
    simp only [fine, decide_eq_true_eq]
    have e : (10 : Nat) ^ 10 < 10 ^ 570 := by decide +kernel
    exact Nat.lt_trans h e
  | .str s, h => by simpa only [fine, mini] using h
  | .tup xs, h => by
    simp only [mini] at h
    simp only [fine, minis_fine xs h]
  | .rol xs, h => by
    simp only [mini] at h
    simp only [fine, minis_fine xs h]
  | .ref _, h => by simp [mini] at h
  | .glo _, h => by simp [mini] at h
  | .ty _, h => by simp [mini] at h
theorem minis_fine : ∀ xs, minis xs = true → fines xs = true
  | [], _ => by simp only [fines]
  | x :: xs, h => by
    simp only [minis, Bool.and_eq_true] at h
    simp only [fines, mini_fine x h.1, minis_fine xs h.2, Bool.and_self]
end
mutual
theorem mini_short : ∀ x, mini x = true → (pd x).leavesShort 12 = true
  | .non, _ => by simp [pd, PyData.leavesShort]
  | .bl b, _ => by simp [pd, PyData.leavesShort]
  | .int i, h => by
    simp only [mini, decide_eq_true_eq] at h
    simp [pd, PyData.leavesShort, int_mini h]
  | .str s, h => by
    simp only [mini, List.all_eq_true, decide_eq_true_eq] at h
    simp only [pd, PyData.leavesShort, List.all_eq_true, decide_eq_true_eq]
    exact fun c hc => Nat.lt_trans (h c hc) (by decide)
  | .tup xs, h => by
    simp only [mini] at h
    simp only [pd, PyData.leavesShort, minis_short xs h]
  | .rol xs, h => by
    simp only [mini] at h
    simp only [pd, PyData.leavesShort, minis_short xs h]
  | .ref _, h => by simp [mini] at h
  | .glo _, h => by simp [mini] at h
  | .ty _, h => by simp [mini] at h
theorem minis_short : ∀ xs, minis xs = true → PyData.leavesShortAll 12 (pds xs) = true
  | [], _ => by simp [pds, PyData.leavesShortAll]
  | x :: xs, h => by
    simp only [minis, Bool.and_eq_true] at h
    simp [pds, PyData.leavesShortAll, mini_short x h.1, minis_short xs h.2]
end
theorem repr_mini {M : Sto} {x : PV} (h : mini x = true) (hs : (pd x).bulk ≤ 1000000) (hd : (pd x).depth ≤ 64) : reprV M x = some (pd x).shown := by
  have hf := mini_fine x h
  obtain ⟨_, h2, h3, _⟩ := fine_ok x hf
  unfold reprV
  rw [dat_of_fine hf]
  exact if_pos ⟨h2, PyData.shown_fits_bulk (B := 12) (by decide) (by decide) (mini_short x h) (by omega), hd, h3⟩
mutual
theorem eqv_refl : ∀ x, fine x = true → PyData.eqv (pd x) (pd x) = true
  | .non, _ => by simp [pd, PyData.eqv]
  | .bl b, _ => by simp [pd, PyData.eqv]
  | .int i, _ => by simp [pd, PyData.eqv]
  | .str s, _ => by simp [pd, PyData.eqv]
  | .tup xs, h => by
    simp only [fine] at h
    simp only [pd, PyData.eqv, eqvs_refl xs h]
  | .rol xs, h => by
    simp only [fine] at h
    simp only [pd, PyData.eqv, eqvs_refl xs h]
  | .ref _, h => by simp [fine] at h
  | .glo _, h => by simp [fine] at h
  | .ty _, h => by simp [fine] at h
theorem eqvs_refl : ∀ xs, fines xs = true → PyData.eqvAll (pds xs) (pds xs) = true
  | [], _ => by simp [pds, PyData.eqvAll]
  | x :: xs, h => by
    simp only [fines, Bool.and_eq_true] at h
    simp [pds, PyData.eqvAll, eqv_refl x h.1, eqvs_refl xs h.2]
end
/-- a tuple is itself -/
theorem eq_tup {M : Sto} {xs : List PV} (h : fines xs = true) (hd : PyData.depthAll (pds xs) ≤ 63) : eqV M (.tup xs) (.tup xs) = some true := by
  have hf : fine (.tup xs) = true := by simpa only [fine] using h
  have hdd : (pd (.tup xs)).depth ≤ 64 := by simp [pd, PyData.depth]; omega
  have e : eqV M (.tup xs) (.tup xs) = (match dat M (.tup xs), dat M (.tup xs) with
    | some d, some e => if SeqAt.shaped d = true ∧ SeqAt.shaped e = true then some (PyData.eqv d e) else none
    | _, _ => none) := rfl
  rw [e, dat_of_fine hf]
  show (if SeqAt.shaped (pd (.tup xs)) = true ∧ SeqAt.shaped (pd (.tup xs)) = true then some (PyData.eqv (pd (.tup xs)) (pd (.tup xs))) else none) = _
  rw [if_pos ⟨shaped_fine hf hdd, shaped_fine hf hdd⟩, eqv_refl _ hf]
/-- lists of the same plain values -/
theorem eq_lst {M : Sto} {i j : Nat} {xs : List PV} (h1 : M[i]? = some (.lst xs)) (h2 : M[j]? = some (.lst xs)) (h : fines xs = true) (hd : PyData.depthAll (pds xs) ≤ 63) : eqV M (.ref i) (.ref j) = some true := by
  have e : eqV M (.ref i) (.ref j) = (match dat M (.ref i), dat M (.ref j) with
    | some d, some e => if SeqAt.shaped d = true ∧ SeqAt.shaped e = true then some (PyData.eqv d e) else none
    | _, _ => none) := rfl
  rw [e, dat_lst h1, dat_lst h2, dats_fine _ xs h]
  obtain ⟨_, _, _, c⟩ := fines_ok xs h
  have s1 : SeqAt.shaped (.list (pds xs)) = true := by simp [SeqAt.shaped, PyData.canLay0, c, PyData.depth]; omega
  show (if SeqAt.shaped (.list (pds xs)) = true ∧ SeqAt.shaped (.list (pds xs)) = true then some (PyData.eqv (.list (pds xs)) (.list (pds xs))) else none) = _
  rw [if_pos ⟨s1, s1⟩]
  simp [PyData.eqv, eqvs_refl xs h]
theorem minis_all : ∀ {xs : List PV}, (∀ x ∈ xs, mini x = true) → minis xs = true
  | [], _ => by simp [minis]
  | x :: xs, h => by
    simp only [minis, h x List.mem_cons_self, minis_all fun y hy => h y (List.mem_cons_of_mem _ hy), Bool.and_self]
theorem set_new (M : Sto) (o o' : MO) : (M ++ [o]).set M.length o' = M ++ [o'] := by
  rw [List.set_append_right _ _ (Nat.le_refl _), Nat.sub_self]; rfl
theorem repOk_nat {n : Nat} {k : Int} (h0 : -1000000000 ≤ k) (h1 : k ≤ 1000000000) (h2 : n * k.toNat ≤ 16777216) : repOk n k = true := by
  unfold repOk
  rw [sizeLine_eq]
  simp only [Bool.and_eq_true, decide_eq_true_eq]
  exact ⟨by omega, by omega, h2⟩
end Ev

set_option Elab.async false
set_option linter.all false
set_option maxRecDepth 100000
set_option maxHeartbeats 4000000
/-! Tx: texts by their signs. -/
namespace Ev
open PySem L2
abbrev tS (l : List Nat) : Str := ⟨l.toArray⟩
abbrev tv (l : List Nat) : PV := .str (tS l)
theorem tS_len (l : List Nat) : (tS l).length = l.length := SX.S_len l
theorem tS_cat (a b : List Nat) : tS a ++ tS b = tS (a ++ b) := SX.S_cat a b
theorem tS_eq (a b : List Nat) : (tS a = tS b) = (a = b) := propext ⟨fun h => SX.S_inj h, fun e => by rw [e]⟩
theorem tS_lt (a b : Nat) : ltS (tS [a]) (tS [b]) = decide (a < b) := by
  unfold ltS
  show decide ([a] < [b]) = _
  by_cases h : a < b
  · rw [decide_eq_true h, decide_eq_true]
    exact List.Lex.rel h
  · rw [decide_eq_false h, decide_eq_false]
    intro z
    cases z with
    | rel z => exact h z
    | cons z => cases z
abbrev tsv (ts : List (List Nat)) : List PV := ts.map tv
def wd (s : String) : List Nat := (Str.ofString s).cps.toList
theorem lit_w (s : String) : Str.ofString s = tS (wd s) := by
  unfold wd
  exact (SX.S_tl _).symm
theorem strs_tsv : ∀ ts : List (List Nat), strsP (tsv ts) = some (ts.map SX.S)
  | [] => rfl
  | t :: ts => by
    show (strsP (tsv ts)).map (tS t :: ·) = _
    rw [strs_tsv ts]; rfl
theorem join_nil : ∀ us : List (List Nat), TL.joinL [] us = us.flatten
  | [] => rfl
  | [p] => by simp [TL.joinL]
  | p :: q :: r => by
    show p ++ ([] ++ TL.joinL [] (q :: r)) = _
    rw [join_nil (q :: r)]; simp
theorem join_tsv (us : List (List Nat)) : Txt.join (tS []) (us.map SX.S) = tS us.flatten := by
  rw [← join_nil]
  exact SX.join_S [] us
theorem len_sum (us : List (List Nat)) : ((us.map SX.S).map (·.length)).sum = us.flatten.length := by
  rw [SX.lens, List.length_flatten]
theorem jo_ok {us : List (List Nat)} (h : us.flatten.length ≤ 16777216) : joinOk (tS []) (us.map SX.S) = true := by
  unfold joinOk
  rw [decide_eq_true_eq, len_sum, tS_len, List.length_nil, Nat.mul_zero]
  exact h
theorem flat_len {us : List (List Nat)} {B : Nat} (h : ∀ u ∈ us, u.length ≤ B) : us.flatten.length ≤ us.length * B := by
  induction us with
  | nil => simp
  | cons u us ih =>
    have h1 := h u List.mem_cons_self
    have h2 := ih fun v hv => h v (List.mem_cons_of_mem _ hv)
    simp only [List.flatten_cons, List.length_append, List.length_cons, Nat.succ_mul]
    omega
theorem repS_tS (l : List Nat) (k : Int) : repS (tS l) k = tS (List.replicate k.toNat l).flatten := by simp only [repS, List.toList_toArray]
theorem rep_len (l : List Nat) (k : Nat) : (List.replicate k l).flatten.length = k * l.length := by
  rw [List.length_flatten, List.map_replicate, List.sum_replicate_nat]
theorem cut_to_S (l : List Nat) (k : Nat) : cutS (tS l) none (some (k : Int)) = tS (l.take k) := by
  unfold cutS
  rw [tS_len, sIx_none, sIx_lit]
  simp [List.take_eq_take_iff]
theorem ints_map : ∀ ns : List Int, intsP (ns.map .int) = some ns
  | [] => rfl
  | n :: ns => by
    show (intsP (ns.map .int)).map (n :: ·) = _
    rw [ints_map ns]; rfl
theorem set_self' {M : Sto} {i : Nat} {o : MO} (h : M[i]? = some o) : M.set i o = M := by
  apply List.ext_getElem?
  intro k
  by_cases e : k = i
  · subst e; rw [sto_self, h]; rfl
  · rw [sto_ne (fun z => e z.symm)]
theorem keep_set {out : List Nat} {M M1 : Sto} {i : Nat} {o : MO} (k : Keep out M M1) (h : M.length ≤ i) : Keep out M (M1.set i o) :=
  ⟨by rw [List.length_set]; exact k.1, fun c hc n => by rw [sto_ne (by omega)]; exact k.2 c hc n⟩
theorem signs_tsv (p : List Nat) : (p.map fun c => PV.str ⟨#[c]⟩) = tsv (p.map fun c => [c]) := by simp [tsv]
theorem flat_signs : ∀ p : List Nat, (p.map fun c => [c]).flatten = p
  | [] => rfl
  | c :: p => by simp [flat_signs p]
theorem cut_mid_S (p : List Nat) {a b : Nat} (h : b ≤ p.length) (h2 : a ≤ b) : cutS (tS p) (some (a : Int)) (some (b : Int)) = tS ((p.take b).drop a) := by
  unfold cutS
  rw [tS_len, sIx_lit, sIx_lit, Nat.min_eq_left h, Nat.min_eq_left (by omega), List.drop_take]
theorem cut_from_S (p : List Nat) (a : Nat) : cutS (tS p) (some (a : Int)) none = tS (p.drop a) := by
  unfold cutS
  rw [tS_len, sIx_none, sIx_lit]
  by_cases h : a ≤ p.length
  · rw [Nat.min_eq_left h, List.take_of_length_le (by simp)]
  · rw [Nat.min_eq_right (by omega)]
    simp; omega
theorem cut_any (p : List Nat) (lo hi : Option Int) : ∃ u, cutS (tS p) lo hi = tS u ∧ u.length ≤ p.length := ⟨_, rfl, by
  rw [List.length_take, List.length_drop]
  show min _ (p.length - _) ≤ _
  omega⟩
theorem lit_e : Str.ofString "" = tS [] := by decide +kernel
theorem cat_e (l : List Nat) : Str.empty ++ tS l = tS l := tS_cat [] l
theorem in_tx (M : Sto) (c : Nat) (l : List Nat) : Ev.inV M (tv [c]) (tv l) = some (decide (c ∈ l)) := by
  show some (!(Builtin.Str.occurrences (tS l) (tS [c]) 0 (tS l).length 1).isEmpty) = _
  rw [PySem.StrLaws.found_one (tS l) c]
theorem atoms_tsv : ∀ ts : List (List Nat), atoms (tsv ts) = some (ts.map fun t => V.str (tS t))
  | [] => rfl
  | t :: ts => by
    show (match (tv t).atom, atoms (tsv ts) with | some v, some vs => some (v :: vs) | _, _ => none) = _
    rw [atoms_tsv ts]; rfl
theorem inv_str (t : List Nat) : ∀ ts : List (List Nat), L2.inV (V.str (tS t)) (ts.map fun t => V.str (tS t)) = decide (t ∈ ts)
  | [] => by simp [L2.inV]
  | u :: ts => by
    have ih := inv_str t ts
    show (decide (tS u = tS t) || L2.inV (V.str (tS t)) (ts.map fun t => V.str (tS t))) = _
    rw [ih]
    by_cases h : u = t
    · subst h; simp
    · have h2 : ¬ t = u := fun z => h z.symm
      have h3 : ¬ tS u = tS t := fun z => h (SX.S_inj z)
      simp [h3, h2]
theorem in_tsv {M : Sto} {a : Nat} {ts : List (List Nat)} (h : M[a]? = some (.lst (tsv ts))) (t : List Nat) : Ev.inV M (tv t) (.ref a) = some (decide (t ∈ ts)) := by
  have e : Ev.inV M (tv t) (.ref a) = (match lstOf M a with
    | some ys => match (tv t).atom, atoms ys with
      | some v, some vs => if flatV v = true ∧ vs.all flatV = true then some (L2.inV v vs) else none
      | _, _ => none
    | none => none) := rfl
  have e1 : lstOf M a = some (tsv ts) := by unfold lstOf; rw [h]
  rw [e, e1]
  show (match (tv t).atom, atoms (tsv ts) with
      | some v, some vs => if flatV v = true ∧ vs.all flatV = true then some (L2.inV v vs) else none
      | _, _ => none) = _
  rw [atoms_tsv]
  show (if flatV (V.str (tS t)) = true ∧ (ts.map fun t => V.str (tS t)).all flatV = true then some (L2.inV (V.str (tS t)) (ts.map fun t => V.str (tS t))) else none) = _
  rw [if_pos ⟨rfl, by simp [List.all_map, flatV]⟩, inv_str]
theorem atoms_ints : ∀ ns : List Int, atoms (ns.map .int) = some (ns.map .int)
  | [] => rfl
  | n :: ns => by
    show (match (PV.int n).atom, atoms (ns.map .int) with | some v, some vs => some (v :: vs) | _, _ => none) = _
    rw [atoms_ints ns]; rfl
theorem inv_int (n : Int) : ∀ ns : List Int, L2.inV (V.int n) (ns.map .int) = decide (n ∈ ns)
  | [] => by simp [L2.inV]
  | m :: ns => by
    have ih := inv_int n ns
    show (decide (m = n) || L2.inV (V.int n) (ns.map .int)) = _
    rw [ih]
    by_cases h : m = n
    · subst h; simp
    · have h2 : ¬ n = m := fun z => h z.symm
      simp [h, h2]
theorem in_tup (M : Sto) (n : Int) (ns : List Int) : Ev.inV M (.int n) (.tup (ns.map .int)) = some (decide (n ∈ ns)) := by
  show (match (PV.int n).atom, atoms (ns.map .int) with
      | some v, some vs => if flatV v = true ∧ vs.all flatV = true then some (L2.inV v vs) else none
      | _, _ => none) = _
  rw [atoms_ints]
  show (if flatV (V.int n) = true ∧ (ns.map V.int).all flatV = true then some (L2.inV (V.int n) (ns.map .int)) else none) = _
  rw [if_pos ⟨rfl, by simp [List.all_map, flatV]⟩, inv_int]
theorem bools_of {α : Type} (f : α → Bool) : ∀ xs : List α, boolsP (xs.map fun x => PV.bl (f x)) = some (xs.map f)
  | [] => rfl
  | x :: xs => by
    show (boolsP (xs.map fun x => PV.bl (f x))).map (f x :: ·) = _
    rw [bools_of f xs]; rfl
/-- a comprehension that changes nothing and leaves nothing out -/
theorem comp_map {α : Type} {g : PV → Sto → Res (Option PV)} {keep : Sto → Bool} {M : Sto} {z : Res (List PV)} (xs : List α) (v : α → PV) (f : α → PV) (hz : compL g keep (xs.map v) M [] = z) (hk : keep M = true) (h : ∀ x ∈ xs, g (v x) M = .ok (some (f x)) M) (hs : xs.length ≤ sizeLine) : z = .ok (xs.map f) M := by
  have : ∀ (ys : List α) (acc : List PV), (∀ y ∈ ys, y ∈ xs) → acc.length + ys.length ≤ sizeLine → compL g keep (ys.map v) M acc = .ok (acc ++ ys.map f) M := by
    intro ys
    induction ys with
    | nil => intro acc _ _; simp [compL, hk]
    | cons y ys ih =>
      intro acc hy hl
      simp only [List.length_cons] at hl
      rw [List.map_cons]
      unfold compL
      rw [if_pos hk, h y (hy y List.mem_cons_self)]
      simp only
      rw [if_pos (by omega), ih (acc ++ [f y]) (fun w hw => hy w (List.mem_cons_of_mem _ hw)) (by simp; omega)]
      simp
  rw [← hz, this xs [] (fun y hy => hy) (by simpa using hs)]
  rfl
end Ev

set_option Elab.async false
set_option linter.all false
set_option maxRecDepth 100000
set_option maxHeartbeats 0
/-! The code of answergate_k20_whole_least_busy_and_by_k, printed by gen.py from the text. -/
namespace K20
open PySem L2 Ev
abbrev R : PySem.W.OpenRow := PySem.W.OpenLaw.row PySem.Challenge.rw_answergate_k20_whole_least_busy_and_by_k
def top (i : Nat) : Stmt := PySem.Challenge.pw_answergate_k20_whole_least_busy_and_by_k.main.body.getD i (.Pass ⟨0, 0, 0, 0⟩)
abbrev Q := CS.seq
abbrev N_ := CS.nil
abbrev A := CE.cons
abbrev E_ := CE.nil
abbrev V := CE.var
abbrev I := CE.int
abbrev S := CE.str
def c_is_integer : CS := Q (.ret (.and (.isi (V 0) ["int"] false) (.not (.isi (V 0) ["bool"] false)))) (N_)
def c_is_between : CS := Q (.ret (.and (.call "is_integer" (A (V 0) (E_))) (.chain .LtE .LtE (V 1) (V 0) (V 2)))) (N_)
def c_is_count : CS := Q (.ret (.and (.call "is_integer" (A (V 0) (E_))) (.cmp .GtE (V 0) (I 0)))) (N_)
def c_is_row : CS := Q (.ret (.and (.isi (V 0) ["tuple"] false) (.cmp .Eq (.blt .len (A (V 0) (E_))) (V 1)))) (N_)
def c_is_word : CS := Q (.ite (.or (.not (.isi (V 0) ["str"] false)) (.not (.chain .LtE .LtE (I 1) (.blt .len (A (V 0) (E_))) (.glo "MOST_WORD")))) (Q (.ret (.bl false)) (N_)) (N_)) (Q (.ret (.blt .all (A (.comp (.nm 1) (.iv (V 0)) (E_) (.cmp .In (V 1) (.glo "LETTERS")) [1]) (E_)))) (N_))
def c_is_pool_value : CS := Q (.ite (.or (.not (.isi (V 0) ["tuple"] false)) (.or (.not (.chain .LtE .LtE (I 1) (.blt .len (A (V 0) (E_))) (.glo "MOST_POOL"))) (.not (.blt .all (A (.comp (.nm 1) (.iv (V 0)) (E_) (.call "is_row" (A (V 1) (A (I 2) (E_)))) [1]) (E_)))))) (Q (.ret (.bl false)) (N_)) (N_)) (Q (.ite (.not (.blt .all (A (.comp (.tp (.cons (.nm 2) (.cons (.nm 3) (.nil)))) (.iv (V 0)) (E_) (.and (.call "is_word" (A (V 2) (E_))) (.call "is_between" (A (V 3) (A (I 1) (A (.glo "MOST_WEIGHT") (E_)))))) [2, 3]) (E_)))) (Q (.ret (.bl false)) (N_)) (N_)) (Q (.ret (.cmp .Eq (.lenset (.comp (.tp (.cons (.nm 2) (.cons (.nm 3) (.nil)))) (.iv (V 0)) (E_) (V 2) [2, 3])) (.blt .len (A (V 0) (E_))))) (N_)))
def c_need_pool : CS := Q (.ite (.not (.call "is_pool_value" (A (V 0) (E_)))) (Q (.never) (N_)) (N_)) (N_)
def c_is_lot : CS := Q (.ite (.or (.not (.isi (V 1) ["tuple"] false)) (.not (.blt .all (A (.comp (.nm 2) (.iv (V 1)) (E_) (.call "is_between" (A (V 2) (A (I 0) (A (.bin .Sub (.blt .len (A (V 0) (E_))) (I 1)) (E_))))) [2]) (E_))))) (Q (.ret (.bl false)) (N_)) (N_)) (Q (.ret (.blt .all (A (.comp (.tp (.cons (.nm 3) (.cons (.nm 4) (.nil)))) (.izip (V 1) (.slc (V 1) (A (I 1) E_) (.no))) (E_) (.cmp .Lt (V 3) (V 4)) [3, 4]) (E_)))) (N_))
def c_are_counts_like : CS := Q (.ret (.and (.call "is_row" (A (V 1) (A (.blt .len (A (V 0) (E_))) (E_)))) (.blt .all (A (.comp (.nm 2) (.iv (V 1)) (E_) (.call "is_count" (A (V 2) (E_))) [2]) (E_))))) (N_)
def c_least_busy_in : CS := Q (.asg (.nm 3) (.sub (V 1) (I 0))) (Q (.for_ (.nm 4) (.iv (V 1)) (Q (.ite (.cmp .Lt (.bin .Mult (.bin .Add (.sub (V 2) (V 4)) (I 1)) (.sub (.sub (V 0) (V 3)) (I 1))) (.bin .Mult (.bin .Add (.sub (V 2) (V 3)) (I 1)) (.sub (.sub (V 0) (V 4)) (I 1)))) (Q (.asg (.nm 3) (V 4)) (N_)) (N_)) (N_))) (Q (.ret (V 3)) (N_)))
def c_score_of : CS := Q (.asg (.nm 2) (.glo "BEGIN")) (Q (.for_ (.nm 3) (.iv (.bin .Add (.bin .Add (V 0) (S "/")) (V 1))) (Q (.asg (.nm 2) (.bin .Mod (.bin .Add (.bin .Mult (V 2) (.glo "FACTOR")) (.blt .ord (A (V 3) (E_)))) (.glo "MODULUS"))) (N_))) (Q (.ret (V 2)) (N_)))
def c_keyed_in : CS := Q (.asg (.nm 3) (.sub (V 1) (I 0))) (Q (.for_ (.nm 4) (.iv (V 1)) (Q (.ite (.cmp .Gt (.call "score_of" (A (V 2) (A (.sub (.sub (V 0) (V 4)) (I 0)) (E_)))) (.call "score_of" (A (V 2) (A (.sub (.sub (V 0) (V 3)) (I 0)) (E_))))) (Q (.asg (.nm 3) (V 4)) (N_)) (N_)) (N_))) (Q (.ret (V 3)) (N_)))
def c_is_pool : CS := Q (.ret (.call "is_pool_value" (A (V 0) (E_)))) (N_)
def c_need_lot : CS := Q (.expr (.call "need_pool" (A (V 0) (E_)))) (Q (.ite (.or (.not (.call "is_lot" (A (V 0) (A (V 1) (E_))))) (.cmp .Eq (V 1) (.tup (E_)))) (Q (.never) (N_)) (N_)) (N_))
def c_least_busy : CS := Q (.expr (.call "need_lot" (A (V 0) (A (V 1) (E_))))) (Q (.ite (.not (.call "are_counts_like" (A (V 0) (A (V 2) (E_))))) (Q (.never) (N_)) (N_)) (Q (.ret (.call "least_busy_in" (A (V 0) (A (V 1) (A (V 2) (E_)))))) (N_)))
def c_need_word : CS := Q (.ite (.not (.call "is_word" (A (V 0) (E_)))) (Q (.never) (N_)) (N_)) (N_)
def c_by_key : CS := Q (.expr (.call "need_lot" (A (V 0) (A (V 1) (E_))))) (Q (.expr (.call "need_word" (A (V 2) (E_)))) (Q (.ret (.call "keyed_in" (A (V 0) (A (V 1) (A (V 2) (E_)))))) (N_)))
def c_score : CS := Q (.expr (.call "need_word" (A (V 0) (E_)))) (Q (.expr (.call "need_word" (A (V 1) (E_)))) (Q (.ret (.call "score_of" (A (V 0) (A (V 1) (E_))))) (N_)))
def c__law_deck : CS := Q (.asg (.nm 1) (I 13749020)) (Q (.for_ (.nm 2) (.iv (.slc (V 0) (.no) (A (I 63) E_))) (Q (.asg (.nm 1) (.bin .Mod (.blt .int (A (.bin .Add (.bin .Add (.bin .Mult (V 1) (I 69621)) (.bin .Mod (.blt .int (A (V 2) (E_))) (I 2147483587))) (I 20)) (E_))) (I 2147483629))) (N_))) (Q (.ret (.dct (A (S "left") (A (S "mixed") (A (S "draws") (E_)))) (A (.rev (.blt .list (A (.slc (V 0) (.no) (A (I 63) E_)) (E_)))) (A (V 1) (A (I 0) (E_)))))) (N_)))
def c__law_draw : CS := Q (.asgS (V 0) (S "draws") (.bin .Add (.sub (V 0) (S "draws")) (I 1))) (Q (.asg (.nm 2) (.bin .Add (.sub (V 0) (S "mixed")) (.bin .Mult (I 52711) (.sub (V 0) (S "draws"))))) (Q (.ite (.cmp .NotEq (.sub (V 0) (S "left")) (.lst (E_))) (Q (.asg (.nm 3) (.meth .pop (.sub (V 0) (S "left")) (E_))) (Q (.ite (.cmp .GtE (V 3) (.bin .Pow (I 10) (I 18))) (Q (.expr (.meth .append (.sub (V 0) (S "left")) (A (.bin .FloorDiv (V 3) (.blt .max (A (I 2) (A (V 1) (E_))))) (E_)))) (Q (.ret (.bin .Mod (.blt .int (A (V 3) (E_))) (V 1))) (N_))) (N_)) (Q (.asg (.nm 2) (.bin .Add (V 2) (.bin .Mod (.blt .int (A (V 3) (E_))) (I 2147483587)))) (N_)))) (N_)) (Q (.asg (.nm 2) (.bin .Mod (.blt .int (A (.bin .Add (.bin .Mult (V 2) (I 40014)) (I 20)) (E_))) (I 2147483563))) (Q (.asg (.nm 2) (.bin .Mod (.blt .int (A (.bin .Add (.bin .Add (.bin .Mult (V 2) (V 2)) (.bin .Mult (I 61473) (.sub (V 0) (S "draws")))) (I 20)) (E_))) (I 2147483399))) (Q (.asg (.nm 2) (.bin .Mod (.blt .int (A (.bin .Mult (V 2) (I 39373)) (E_))) (I 2147483647))) (Q (.ret (.bin .Mod (.blt .int (A (.bin .FloorDiv (V 2) (I 64)) (E_))) (V 1))) (N_)))))))
def c__law_pick : CS := Q (.ret (.sub (V 1) (.call "_law_draw" (A (V 0) (A (.blt .len (A (V 1) (E_))) (E_)))))) (N_)
def c__law_score : CS := Q (.asg (.nm 2) (I 7)) (Q (.for_ (.nm 3) (.iv (.bin .Add (.bin .Add (V 0) (S "/")) (V 1))) (Q (.asg (.nm 2) (.bin .Mod (.blt .int (A (.bin .Add (.bin .Mult (V 2) (I 251)) (.blt .ord (A (V 3) (E_)))) (E_))) (I 65521))) (N_))) (Q (.ret (V 2)) (N_)))
def c__law_by_key : CS := Q (.ret (.sub (.blt .min (A (.comp (.nm 3) (.iv (V 1)) (E_) (.tup (A (.neg (.call "_law_score" (A (V 2) (A (.sub (.sub (V 0) (V 3)) (I 0)) (E_))))) (A (V 3) (E_)))) [3]) (E_))) (I 1))) (N_)
def c__law_least_busy : CS := Q (.asg (.nm 3) (.sub (V 1) (I 0))) (Q (.for_ (.nm 4) (.iv (.slc (V 1) (A (I 1) E_) (.no))) (Q (.ite (.cmp .Lt (.bin .Mult (.bin .Add (.sub (V 2) (V 4)) (I 1)) (.sub (.sub (V 0) (V 3)) (I 1))) (.bin .Mult (.bin .Add (.sub (V 2) (V 3)) (I 1)) (.sub (.sub (V 0) (V 4)) (I 1)))) (Q (.asg (.nm 3) (V 4)) (N_)) (N_)) (N_))) (Q (.ret (V 3)) (N_)))
def c__law_word : CS := Q (.asg (.nm 1) (.call "_law_pick" (A (V 0) (A (.lst (A (I 1) (A (I 2) (A (I 3) (A (I 5) (A (I 10) (A (I 4) (E_)))))))) (E_))))) (Q (.ret (.smeth .join (S "") (A (.comp (.nm 2) (.irg1 (V 1)) (E_) (.call "_law_pick" (A (V 0) (A (S "abcdefghijklmnopqrstuvwxyz") (E_)))) [2]) (E_)))) (N_))
def c__law_words : CS := Q (.asg (.nm 2) (.lst (E_))) (Q (.for_ (.nm 3) (.irg1 (V 1)) (Q (.asg (.nm 4) (.call "_law_word" (A (V 0) (E_)))) (Q (.ite (.cmp .In (V 4) (V 2)) (Q (.asg (.nm 4) (.sub (.comp (.nm 5) (.iv (S "abcdefghijkl")) (A (.cmp .NotIn (.bin .Mult (V 5) (I 10)) (V 2)) (E_)) (.bin .Mult (V 5) (I 10)) [5]) (I 0))) (N_)) (N_)) (Q (.expr (.meth .append (V 2) (A (V 4) (E_)))) (N_))))) (Q (.ret (V 2)) (N_)))
def c__law_twin_label : CS := Q (.asg (.nm 2) (.call "_law_draw" (A (V 0) (A (.bin .Sub (.blt .len (A (V 1) (E_))) (I 2)) (E_))))) (Q (.asg (.nm 3) (.comp (.nm 4) (.iv (.slc (V 1) (A (V 2) E_) (A (.bin .Add (V 2) (I 3)) E_))) (E_) (.bin .Sub (.blt .ord (A (V 4) (E_))) (I 97)) [4])) (Q (.ite (.or (.cmp .Gt (.sub (V 3) (I 0)) (I 24)) (.or (.cmp .Gt (.sub (V 3) (I 1)) (I 15)) (.cmp .Gt (.sub (V 3) (I 2)) (I 15)))) (Q (.asg (.nm 3) (.lst (A (I 0) (A (I 3) (A (I 5) (E_)))))) (Q (.asg (.nm 1) (.bin .Add (.bin .Add (.slc (V 1) (.no) (A (V 2) E_)) (S "adf")) (.slc (V 1) (A (.bin .Add (V 2) (I 3)) E_) (.no)))) (N_))) (N_)) (Q (.asg (.nm 5) (S "abcdefghijklmnopqrstuvwxyz")) (Q (.asg (.nm 6) (.bin .Add (.bin .Add (.sub (V 5) (.bin .Add (.sub (V 3) (I 0)) (I 1))) (.sub (V 5) (.bin .Add (.sub (V 3) (I 1)) (I 10)))) (.sub (V 5) (.bin .Add (.sub (V 3) (I 2)) (I 10))))) (Q (.ret (.tup (A (V 1) (A (.bin .Add (.bin .Add (.slc (V 1) (.no) (A (V 2) E_)) (V 6)) (.slc (V 1) (A (.bin .Add (V 2) (I 3)) E_) (.no))) (E_))))) (N_))))))
def c__law_drawn_pool : CS := Q (.asg (.nm 1) (.call "_law_pick" (A (V 0) (A (.lst (A (I 3) (A (I 2) (A (I 1) (A (I 4) (A (I 8) (A (I 5) (E_)))))))) (E_))))) (Q (.asg (.nm 2) (.call "_law_words" (A (V 0) (A (V 1) (E_))))) (Q (.ite (.and (.cmp .Gt (V 1) (I 1)) (.and (.cmp .Gt (.blt .len (A (.sub (V 2) (I 0)) (E_))) (I 2)) (.cmp .Eq (.call "_law_draw" (A (V 0) (A (I 2) (E_)))) (I 0)))) (Q (.asg (.nm 3) (.call "_law_twin_label" (A (V 0) (A (.sub (V 2) (I 0)) (E_))))) (Q (.ite (.and (.cmp .NotIn (.sub (V 3) (I 0)) (.slc (V 2) (A (I 1) E_) (.no))) (.cmp .NotIn (.sub (V 3) (I 1)) (.slc (V 2) (A (I 1) E_) (.no)))) (Q (.asg (.nm 2) (.bin .Add (.bin .Add (.lst (A (.sub (V 3) (I 0)) (E_))) (.slc (V 2) (A (I 1) E_) (A (.neg (I 1)) E_))) (.lst (A (.sub (V 3) (I 1)) (E_))))) (N_)) (N_)) (N_))) (N_)) (Q (.ite (.cmp .Eq (.call "_law_draw" (A (V 0) (A (I 2) (E_)))) (I 0)) (Q (.asg (.nm 2) (.rev (V 2))) (N_)) (N_)) (Q (.asg (.nm 4) (.call "_law_pick" (A (V 0) (A (.lst (A (I 3) (A (I 100) (A (I 8) (E_))))) (E_))))) (Q (.ret (.blt .tuple (A (.comp (.nm 5) (.iv (V 2)) (E_) (.tup (A (V 5) (A (.bin .Add (I 1) (.call "_law_draw" (A (V 0) (A (V 4) (E_))))) (E_)))) [5]) (E_)))) (N_))))))
def c__law_drawn_lot : CS := Q (.asg (.nm 2) (.comp (.nm 3) (.irg1 (V 1)) (A (.cmp .Gt (.call "_law_draw" (A (V 0) (A (I 3) (E_)))) (I 0)) (E_)) (V 3) [3])) (Q (.ret (.ife (.cmp .NotEq (V 2) (.lst (E_))) (.blt .tuple (A (V 2) (E_))) (.tup (A (.call "_law_draw" (A (V 0) (A (V 1) (E_)))) (E_))))) (N_))
def c__law_drawn_busy : CS := Q (.asg (.nm 2) (.call "_law_draw" (A (V 0) (A (I 4) (E_))))) (Q (.ite (.cmp .Eq (V 2) (I 0)) (Q (.ret (.blt .tuple (A (.comp (.nm 3) (.iv (V 1)) (E_) (.call "_law_draw" (A (V 0) (A (I 999999999) (E_)))) [3]) (E_)))) (N_)) (N_)) (Q (.ite (.cmp .Eq (V 2) (I 1)) (Q (.asg (.nm 4) (.bin .Add (I 1) (.call "_law_draw" (A (V 0) (A (I 5) (E_)))))) (Q (.ret (.blt .tuple (A (.comp (.tp (.cons (.nm 5) (.cons (.nm 6) (.nil)))) (.iv (V 1)) (E_) (.bin .Sub (.bin .Mult (V 6) (V 4)) (I 1)) [5, 6]) (E_)))) (N_))) (N_)) (Q (.ret (.blt .tuple (A (.comp (.nm 3) (.iv (V 1)) (E_) (.call "_law_draw" (A (V 0) (A (.sub (.lst (A (I 4) (A (I 40) (E_)))) (.bin .Sub (V 2) (I 2))) (E_)))) [3]) (E_)))) (N_))))
def c__law_are_changes_right : CS := Q (.for_ (.nm 4) (.irg1 (.blt .len (A (V 0) (E_)))) (Q (.ite (.cmp .NotIn (V 4) (V 1)) (Q (.asg (.nm 5) (.blt .tuple (A (.blt .sorted (A (.bin .Add (V 1) (.tup (A (V 4) (E_)))) (E_))) (E_)))) (Q (.asg (.nm 6) (.call "by_key" (A (V 0) (A (V 5) (A (V 2) (E_)))))) (Q (.ite (.or (.cmp .NotIn (V 6) (.tup (A (V 3) (A (V 4) (E_))))) (.cmp .NotEq (.blt .repr (A (V 6) (E_))) (.blt .repr (A (.call "_law_by_key" (A (V 0) (A (V 5) (A (V 2) (E_))))) (E_))))) (Q (.ret (.bl false)) (N_)) (N_)) (N_)))) (Q (.ite (.cmp .Gt (.blt .len (A (V 1) (E_))) (I 1)) (Q (.asg (.nm 7) (.blt .tuple (A (.comp (.nm 8) (.iv (V 1)) (A (.cmp .NotEq (V 8) (V 4)) (E_)) (V 8) [8]) (E_)))) (Q (.asg (.nm 6) (.call "by_key" (A (V 0) (A (V 7) (A (V 2) (E_)))))) (Q (.ite (.or (.and (.cmp .NotEq (V 4) (V 3)) (.cmp .NotEq (V 6) (V 3))) (.cmp .NotEq (.blt .repr (A (V 6) (E_))) (.blt .repr (A (.call "_law_by_key" (A (V 0) (A (V 7) (A (V 2) (E_))))) (E_))))) (Q (.ret (.bl false)) (N_)) (N_)) (N_)))) (N_)) (N_))) (N_))) (Q (.ret (.bl true)) (N_))
def c_law : CS := Q (.asg (.nm 1) (.call "_law_deck" (A (V 0) (E_)))) (Q (.asg (.nm 2) (.call "_law_drawn_pool" (A (V 1) (E_)))) (Q (.ite (.cmp .NotEq (.blt .repr (A (.call "is_pool" (A (V 2) (E_))) (E_))) (S "True")) (Q (.ret (.bl false)) (N_)) (N_)) (Q (.for_ (.nm 3) (.irg1 (I 3)) (Q (.par [4, 5, 6] (A (.call "_law_drawn_lot" (A (V 1) (A (.blt .len (A (V 2) (E_))) (E_)))) (A (.call "_law_drawn_busy" (A (V 1) (A (V 2) (E_)))) (A (.call "_law_word" (A (V 1) (E_))) (E_))))) (Q (.ite (.cmp .NotEq (.blt .repr (A (.call "least_busy" (A (V 2) (A (V 4) (A (V 5) (E_))))) (E_))) (.blt .repr (A (.call "_law_least_busy" (A (V 2) (A (V 4) (A (V 5) (E_))))) (E_)))) (Q (.ret (.bl false)) (N_)) (N_)) (Q (.asg (.nm 7) (.ife (.cmp .Eq (V 3) (I 0)) (.callk "by_key" 0 (E_) ["key", "lot", "pool"] (A (V 6) (A (V 4) (A (V 2) (E_)))) [2, 1, 0]) (.call "by_key" (A (V 2) (A (V 4) (A (V 6) (E_))))))) (Q (.ite (.or (.cmp .NotEq (.blt .repr (A (V 7) (E_))) (.blt .repr (A (.call "_law_by_key" (A (V 2) (A (V 4) (A (V 6) (E_))))) (E_)))) (.not (.call "_law_are_changes_right" (A (V 2) (A (V 4) (A (V 6) (A (V 7) (E_)))))))) (Q (.ret (.bl false)) (N_)) (N_)) (Q (.for_ (.tp (.cons (.nm 8) (.cons (.nm 9) (.nil)))) (.iv (V 2)) (Q (.ite (.cmp .NotEq (.blt .repr (A (.tup (A (.call "score" (A (V 6) (A (V 8) (E_)))) (A (.callk "score" 0 (E_) ["label", "key"] (A (V 8) (A (V 6) (E_))) [1, 0]) (E_)))) (E_))) (.blt .repr (A (.bin .Mult (.tup (A (.call "_law_score" (A (V 6) (A (V 8) (E_)))) (E_))) (I 2)) (E_)))) (Q (.ret (.bl false)) (N_)) (N_)) (Q (.par [10, 11] (A (.bin .Add (V 6) (.slc (V 8) (.no) (A (I 1) E_))) (A (.slc (V 8) (A (I 1) E_) (.no)) (E_)))) (Q (.ite (.and (.cmp .Eq (V 3) (I 2)) (.and (.cmp .Lt (.blt .len (A (V 10) (E_))) (I 11)) (.and (.cmp .NotEq (V 11) (S "")) (.cmp .NotEq (.blt .repr (A (.call "score" (A (V 10) (A (V 11) (E_)))) (E_))) (.blt .repr (A (.call "_law_score" (A (V 10) (A (V 11) (E_)))) (E_))))))) (Q (.ret (.bl false)) (N_)) (N_)) (N_))))) (N_))))))) (Q (.ret (.cmp .Eq (.blt .repr (A (.callk "least_busy" 0 (E_) ["busy", "lot", "pool"] (A (V 5) (A (V 4) (A (V 2) (E_)))) [2, 1, 0]) (E_))) (.blt .repr (A (.call "_law_least_busy" (A (V 2) (A (V 4) (A (V 5) (E_))))) (E_))))) (N_)))))
def f_is_integer : FD := ⟨["thing"], ["thing"], c_is_integer⟩
def d_is_integer : Def := ⟨"is_integer", defArgs (top 9), defBody (top 9), defScope (top 9), f_is_integer, []⟩
def f_is_between : FD := ⟨["thing", "least", "most"], ["thing", "least", "most"], c_is_between⟩
def d_is_between : Def := ⟨"is_between", defArgs (top 10), defBody (top 10), defScope (top 10), f_is_between, []⟩
def f_is_count : FD := ⟨["thing"], ["thing"], c_is_count⟩
def d_is_count : Def := ⟨"is_count", defArgs (top 11), defBody (top 11), defScope (top 11), f_is_count, []⟩
def f_is_row : FD := ⟨["thing", "many"], ["thing", "many"], c_is_row⟩
def d_is_row : Def := ⟨"is_row", defArgs (top 12), defBody (top 12), defScope (top 12), f_is_row, []⟩
def f_is_word : FD := ⟨["thing"], ["thing", "letter"], c_is_word⟩
def d_is_word : Def := ⟨"is_word", defArgs (top 13), defBody (top 13), defScope (top 13), f_is_word, []⟩
def f_is_pool_value : FD := ⟨["thing"], ["thing", "part", "label", "weight"], c_is_pool_value⟩
def d_is_pool_value : Def := ⟨"is_pool_value", defArgs (top 20), defBody (top 20), defScope (top 20), f_is_pool_value, []⟩
def f_need_pool : FD := ⟨["pool"], ["pool"], c_need_pool⟩
def d_need_pool : Def := ⟨"need_pool", defArgs (top 21), defBody (top 21), defScope (top 21), f_need_pool, []⟩
def f_is_lot : FD := ⟨["pool", "thing"], ["pool", "thing", "at", "near", "far"], c_is_lot⟩
def d_is_lot : Def := ⟨"is_lot", defArgs (top 22), defBody (top 22), defScope (top 22), f_is_lot, []⟩
def f_are_counts_like : FD := ⟨["pool", "thing"], ["pool", "thing", "part"], c_are_counts_like⟩
def d_are_counts_like : Def := ⟨"are_counts_like", defArgs (top 23), defBody (top 23), defScope (top 23), f_are_counts_like, []⟩
def f_least_busy_in : FD := ⟨["pool", "lot", "busy"], ["pool", "lot", "busy", "best", "at"], c_least_busy_in⟩
def d_least_busy_in : Def := ⟨"least_busy_in", defArgs (top 24), defBody (top 24), defScope (top 24), f_least_busy_in, []⟩
def f_score_of : FD := ⟨["key", "label"], ["key", "label", "found", "sign"], c_score_of⟩
def d_score_of : Def := ⟨"score_of", defArgs (top 25), defBody (top 25), defScope (top 25), f_score_of, []⟩
def f_keyed_in : FD := ⟨["pool", "lot", "key"], ["pool", "lot", "key", "best", "at"], c_keyed_in⟩
def d_keyed_in : Def := ⟨"keyed_in", defArgs (top 26), defBody (top 26), defScope (top 26), f_keyed_in, []⟩
def f_is_pool : FD := ⟨["thing"], ["thing"], c_is_pool⟩
def d_is_pool : Def := ⟨"is_pool", defArgs (top 28), defBody (top 28), defScope (top 28), f_is_pool, []⟩
def f_need_lot : FD := ⟨["pool", "lot"], ["pool", "lot"], c_need_lot⟩
def d_need_lot : Def := ⟨"need_lot", defArgs (top 29), defBody (top 29), defScope (top 29), f_need_lot, []⟩
def f_least_busy : FD := ⟨["pool", "lot", "busy"], ["pool", "lot", "busy"], c_least_busy⟩
def d_least_busy : Def := ⟨"least_busy", defArgs (top 30), defBody (top 30), defScope (top 30), f_least_busy, [(0, ["busy", "lot", "pool"], [2, 1, 0])]⟩
def f_need_word : FD := ⟨["word"], ["word"], c_need_word⟩
def d_need_word : Def := ⟨"need_word", defArgs (top 31), defBody (top 31), defScope (top 31), f_need_word, []⟩
def f_by_key : FD := ⟨["pool", "lot", "key"], ["pool", "lot", "key"], c_by_key⟩
def d_by_key : Def := ⟨"by_key", defArgs (top 32), defBody (top 32), defScope (top 32), f_by_key, [(0, ["key", "lot", "pool"], [2, 1, 0])]⟩
def f_score : FD := ⟨["key", "label"], ["key", "label"], c_score⟩
def d_score : Def := ⟨"score", defArgs (top 33), defBody (top 33), defScope (top 33), f_score, [(0, ["label", "key"], [1, 0])]⟩
def f__law_deck : FD := ⟨["_law_script"], ["_law_script", "_law_mixed", "_law_cell"], c__law_deck⟩
def d__law_deck : Def := ⟨"_law_deck", defArgs (top 35), defBody (top 35), defScope (top 35), f__law_deck, []⟩
def f__law_draw : FD := ⟨["_law_deck_here", "_law_many"], ["_law_deck_here", "_law_many", "_law_figure", "_law_cell"], c__law_draw⟩
def d__law_draw : Def := ⟨"_law_draw", defArgs (top 36), defBody (top 36), defScope (top 36), f__law_draw, []⟩
def f__law_pick : FD := ⟨["_law_deck_here", "_law_some"], ["_law_deck_here", "_law_some"], c__law_pick⟩
def d__law_pick : Def := ⟨"_law_pick", defArgs (top 37), defBody (top 37), defScope (top 37), f__law_pick, []⟩
def f__law_score : FD := ⟨["_law_key", "_law_label"], ["_law_key", "_law_label", "_law_found", "_law_sign"], c__law_score⟩
def d__law_score : Def := ⟨"_law_score", defArgs (top 38), defBody (top 38), defScope (top 38), f__law_score, []⟩
def f__law_by_key : FD := ⟨["_law_pool", "_law_lot", "_law_key"], ["_law_pool", "_law_lot", "_law_key", "_law_at"], c__law_by_key⟩
def d__law_by_key : Def := ⟨"_law_by_key", defArgs (top 39), defBody (top 39), defScope (top 39), f__law_by_key, []⟩
def f__law_least_busy : FD := ⟨["_law_pool", "_law_lot", "_law_busy"], ["_law_pool", "_law_lot", "_law_busy", "_law_found", "_law_at"], c__law_least_busy⟩
def d__law_least_busy : Def := ⟨"_law_least_busy", defArgs (top 40), defBody (top 40), defScope (top 40), f__law_least_busy, []⟩
def f__law_word : FD := ⟨["_law_deck_here"], ["_law_deck_here", "_law_many", "_law_letter"], c__law_word⟩
def d__law_word : Def := ⟨"_law_word", defArgs (top 41), defBody (top 41), defScope (top 41), f__law_word, []⟩
def f__law_words : FD := ⟨["_law_deck_here", "_law_many"], ["_law_deck_here", "_law_many", "_law_found", "_law_turn", "_law_word_here", "_law_letter"], c__law_words⟩
def d__law_words : Def := ⟨"_law_words", defArgs (top 42), defBody (top 42), defScope (top 42), f__law_words, []⟩
def f__law_twin_label : FD := ⟨["_law_deck_here", "_law_label"], ["_law_deck_here", "_law_label", "_law_at", "_law_codes", "_law_sign", "_law_letters", "_law_twin"], c__law_twin_label⟩
def d__law_twin_label : Def := ⟨"_law_twin_label", defArgs (top 43), defBody (top 43), defScope (top 43), f__law_twin_label, []⟩
def f__law_drawn_pool : FD := ⟨["_law_deck_here"], ["_law_deck_here", "_law_many", "_law_labels", "_law_pair", "_law_most", "_law_label"], c__law_drawn_pool⟩
def d__law_drawn_pool : Def := ⟨"_law_drawn_pool", defArgs (top 44), defBody (top 44), defScope (top 44), f__law_drawn_pool, []⟩
def f__law_drawn_lot : FD := ⟨["_law_deck_here", "_law_many"], ["_law_deck_here", "_law_many", "_law_found", "_law_at"], c__law_drawn_lot⟩
def d__law_drawn_lot : Def := ⟨"_law_drawn_lot", defArgs (top 45), defBody (top 45), defScope (top 45), f__law_drawn_lot, []⟩
def f__law_drawn_busy : FD := ⟨["_law_deck_here", "_law_pool"], ["_law_deck_here", "_law_pool", "_law_way", "_law_one", "_law_times", "_law_label", "_law_weight"], c__law_drawn_busy⟩
def d__law_drawn_busy : Def := ⟨"_law_drawn_busy", defArgs (top 46), defBody (top 46), defScope (top 46), f__law_drawn_busy, []⟩
def f__law_are_changes_right : FD := ⟨["_law_pool", "_law_lot", "_law_key", "_law_told"], ["_law_pool", "_law_lot", "_law_key", "_law_told", "_law_at", "_law_more", "_law_found", "_law_rest", "_law_other"], c__law_are_changes_right⟩
def d__law_are_changes_right : Def := ⟨"_law_are_changes_right", defArgs (top 47), defBody (top 47), defScope (top 47), f__law_are_changes_right, []⟩
def f_law : FD := ⟨["_law_script"], ["_law_script", "_law_deck_here", "_law_pool", "_law_turn", "_law_lot", "_law_busy", "_law_key", "_law_told", "_law_label", "_law_weight", "_law_more", "_law_less"], c_law⟩
def d_law : Def := ⟨"law", defArgs (top 48), defBody (top 48), defScope (top 48), f_law, []⟩
def tab : Tab := [d_is_integer, d_is_between, d_is_count, d_is_row, d_is_word, d_is_pool_value, d_need_pool, d_is_lot, d_are_counts_like, d_least_busy_in, d_score_of, d_keyed_in, d_is_pool, d_need_lot, d_least_busy, d_need_word, d_by_key, d_score, d__law_deck, d__law_draw, d__law_pick, d__law_score, d__law_by_key, d__law_least_busy, d__law_word, d__law_words, d__law_twin_label, d__law_drawn_pool, d__law_drawn_lot, d__law_drawn_busy, d__law_are_changes_right, d_law]
def gcs : GCs := [("BEGIN", .int 7), ("FACTOR", .int 251), ("LETTERS", .str "abcdefghijklmnopqrstuvwxyz"), ("MODULUS", .int 65521), ("MOST_POOL", .int 8), ("MOST_WEIGHT", .int 100), ("MOST_WORD", .int 10)]
def kwt : KwT := tab.kw
theorem o_is_integer : d_is_integer.Ok tab.kw := by
  refine ⟨by kernel_rfl, by kernel_rfl, fun _ _ _ _ _ _ us hl => match us, hl with | [_], _ => rfl, fun z hz => by cases hz⟩
theorem o_is_between : d_is_between.Ok tab.kw := by
  refine ⟨by kernel_rfl, by kernel_rfl, fun _ _ _ _ _ _ us hl => match us, hl with | [_, _, _], _ => rfl, fun z hz => by cases hz⟩
theorem o_is_count : d_is_count.Ok tab.kw := by
  refine ⟨by kernel_rfl, by kernel_rfl, fun _ _ _ _ _ _ us hl => match us, hl with | [_], _ => rfl, fun z hz => by cases hz⟩
theorem o_is_row : d_is_row.Ok tab.kw := by
  refine ⟨by kernel_rfl, by kernel_rfl, fun _ _ _ _ _ _ us hl => match us, hl with | [_, _], _ => rfl, fun z hz => by cases hz⟩
theorem o_is_word : d_is_word.Ok tab.kw := by
  refine ⟨by kernel_rfl, by kernel_rfl, fun _ _ _ _ _ _ us hl => match us, hl with | [_], _ => rfl, fun z hz => by cases hz⟩
theorem o_is_pool_value : d_is_pool_value.Ok tab.kw := by
  refine ⟨by kernel_rfl, by kernel_rfl, fun _ _ _ _ _ _ us hl => match us, hl with | [_], _ => rfl, fun z hz => by cases hz⟩
theorem o_need_pool : d_need_pool.Ok tab.kw := by
  refine ⟨by kernel_rfl, by kernel_rfl, fun _ _ _ _ _ _ us hl => match us, hl with | [_], _ => rfl, fun z hz => by cases hz⟩
theorem o_is_lot : d_is_lot.Ok tab.kw := by
  refine ⟨by kernel_rfl, by kernel_rfl, fun _ _ _ _ _ _ us hl => match us, hl with | [_, _], _ => rfl, fun z hz => by cases hz⟩
theorem o_are_counts_like : d_are_counts_like.Ok tab.kw := by
  refine ⟨by kernel_rfl, by kernel_rfl, fun _ _ _ _ _ _ us hl => match us, hl with | [_, _], _ => rfl, fun z hz => by cases hz⟩
theorem o_least_busy_in : d_least_busy_in.Ok tab.kw := by
  refine ⟨by kernel_rfl, by kernel_rfl, fun _ _ _ _ _ _ us hl => match us, hl with | [_, _, _], _ => rfl, fun z hz => by cases hz⟩
theorem o_score_of : d_score_of.Ok tab.kw := by
  refine ⟨by kernel_rfl, by kernel_rfl, fun _ _ _ _ _ _ us hl => match us, hl with | [_, _], _ => rfl, fun z hz => by cases hz⟩
theorem o_keyed_in : d_keyed_in.Ok tab.kw := by
  refine ⟨by kernel_rfl, by kernel_rfl, fun _ _ _ _ _ _ us hl => match us, hl with | [_, _, _], _ => rfl, fun z hz => by cases hz⟩
theorem o_is_pool : d_is_pool.Ok tab.kw := by
  refine ⟨by kernel_rfl, by kernel_rfl, fun _ _ _ _ _ _ us hl => match us, hl with | [_], _ => rfl, fun z hz => by cases hz⟩
theorem o_need_lot : d_need_lot.Ok tab.kw := by
  refine ⟨by kernel_rfl, by kernel_rfl, fun _ _ _ _ _ _ us hl => match us, hl with | [_, _], _ => rfl, fun z hz => by cases hz⟩
theorem o_least_busy : d_least_busy.Ok tab.kw := by
  refine ⟨by kernel_rfl, by kernel_rfl, fun _ _ _ _ _ _ us hl => match us, hl with | [_, _, _], _ => rfl, ?_⟩
  intro z hz
  rcases List.mem_cons.mp hz with rfl | hz
  · exact fun _ _ _ _ _ _ us ws h1 h2 => match us, ws, h1, h2 with | [], [_, _, _], _, _ => rfl
  · cases hz
theorem o_need_word : d_need_word.Ok tab.kw := by
  refine ⟨by kernel_rfl, by kernel_rfl, fun _ _ _ _ _ _ us hl => match us, hl with | [_], _ => rfl, fun z hz => by cases hz⟩
theorem o_by_key : d_by_key.Ok tab.kw := by
  refine ⟨by kernel_rfl, by kernel_rfl, fun _ _ _ _ _ _ us hl => match us, hl with | [_, _, _], _ => rfl, ?_⟩
  intro z hz
  rcases List.mem_cons.mp hz with rfl | hz
  · exact fun _ _ _ _ _ _ us ws h1 h2 => match us, ws, h1, h2 with | [], [_, _, _], _, _ => rfl
  · cases hz
theorem o_score : d_score.Ok tab.kw := by
  refine ⟨by kernel_rfl, by kernel_rfl, fun _ _ _ _ _ _ us hl => match us, hl with | [_, _], _ => rfl, ?_⟩
  intro z hz
  rcases List.mem_cons.mp hz with rfl | hz
  · exact fun _ _ _ _ _ _ us ws h1 h2 => match us, ws, h1, h2 with | [], [_, _], _, _ => rfl
  · cases hz
theorem o__law_deck : d__law_deck.Ok tab.kw := by
  refine ⟨by kernel_rfl, by kernel_rfl, fun _ _ _ _ _ _ us hl => match us, hl with | [_], _ => rfl, fun z hz => by cases hz⟩
theorem o__law_draw : d__law_draw.Ok tab.kw := by
  refine ⟨by kernel_rfl, by kernel_rfl, fun _ _ _ _ _ _ us hl => match us, hl with | [_, _], _ => rfl, fun z hz => by cases hz⟩
theorem o__law_pick : d__law_pick.Ok tab.kw := by
  refine ⟨by kernel_rfl, by kernel_rfl, fun _ _ _ _ _ _ us hl => match us, hl with | [_, _], _ => rfl, fun z hz => by cases hz⟩
theorem o__law_score : d__law_score.Ok tab.kw := by
  refine ⟨by kernel_rfl, by kernel_rfl, fun _ _ _ _ _ _ us hl => match us, hl with | [_, _], _ => rfl, fun z hz => by cases hz⟩
theorem o__law_by_key : d__law_by_key.Ok tab.kw := by
  refine ⟨by kernel_rfl, by kernel_rfl, fun _ _ _ _ _ _ us hl => match us, hl with | [_, _, _], _ => rfl, fun z hz => by cases hz⟩
theorem o__law_least_busy : d__law_least_busy.Ok tab.kw := by
  refine ⟨by kernel_rfl, by kernel_rfl, fun _ _ _ _ _ _ us hl => match us, hl with | [_, _, _], _ => rfl, fun z hz => by cases hz⟩
theorem o__law_word : d__law_word.Ok tab.kw := by
  refine ⟨by kernel_rfl, by kernel_rfl, fun _ _ _ _ _ _ us hl => match us, hl with | [_], _ => rfl, fun z hz => by cases hz⟩
theorem o__law_words : d__law_words.Ok tab.kw := by
  refine ⟨by kernel_rfl, by kernel_rfl, fun _ _ _ _ _ _ us hl => match us, hl with | [_, _], _ => rfl, fun z hz => by cases hz⟩
theorem o__law_twin_label : d__law_twin_label.Ok tab.kw := by
  refine ⟨by kernel_rfl, by kernel_rfl, fun _ _ _ _ _ _ us hl => match us, hl with | [_, _], _ => rfl, fun z hz => by cases hz⟩
theorem o__law_drawn_pool : d__law_drawn_pool.Ok tab.kw := by
  refine ⟨by kernel_rfl, by kernel_rfl, fun _ _ _ _ _ _ us hl => match us, hl with | [_], _ => rfl, fun z hz => by cases hz⟩
theorem o__law_drawn_lot : d__law_drawn_lot.Ok tab.kw := by
  refine ⟨by kernel_rfl, by kernel_rfl, fun _ _ _ _ _ _ us hl => match us, hl with | [_, _], _ => rfl, fun z hz => by cases hz⟩
theorem o__law_drawn_busy : d__law_drawn_busy.Ok tab.kw := by
  refine ⟨by kernel_rfl, by kernel_rfl, fun _ _ _ _ _ _ us hl => match us, hl with | [_, _], _ => rfl, fun z hz => by cases hz⟩
theorem o__law_are_changes_right : d__law_are_changes_right.Ok tab.kw := by
  refine ⟨by kernel_rfl, by kernel_rfl, fun _ _ _ _ _ _ us hl => match us, hl with | [_, _, _, _], _ => rfl, fun z hz => by cases hz⟩
theorem o_law : d_law.Ok tab.kw := by
  refine ⟨by kernel_rfl, by kernel_rfl, fun _ _ _ _ _ _ us hl => match us, hl with | [_], _ => rfl, fun z hz => by cases hz⟩
abbrev T : Txt := tab.txt gcs.glo (fun _ => none) 100000
theorem g_BEGIN : T.glo "BEGIN" = some (GC.pv ((.int 7))) := rfl
theorem g_FACTOR : T.glo "FACTOR" = some (GC.pv ((.int 251))) := rfl
theorem g_LETTERS : T.glo "LETTERS" = some (GC.pv ((.str "abcdefghijklmnopqrstuvwxyz"))) := rfl
theorem g_MODULUS : T.glo "MODULUS" = some (GC.pv ((.int 65521))) := rfl
theorem g_MOST_POOL : T.glo "MOST_POOL" = some (GC.pv ((.int 8))) := rfl
theorem g_MOST_WEIGHT : T.glo "MOST_WEIGHT" = some (GC.pv ((.int 100))) := rfl
theorem g_MOST_WORD : T.glo "MOST_WORD" = some (GC.pv ((.int 10))) := rfl
theorem e_is_integer (n : Nat) (a0 : PV) (M : Sto) : callN T (n + 1) "is_integer" [a0] M = (evS (T.at n) c_is_integer [some a0] M).back := run_def rfl _ _ 0 rfl rfl
theorem e_is_between (n : Nat) (a0 a1 a2 : PV) (M : Sto) : callN T (n + 1) "is_between" [a0, a1, a2] M = (evS (T.at n) c_is_between [some a0, some a1, some a2] M).back := run_def rfl _ _ 0 rfl rfl
theorem e_is_count (n : Nat) (a0 : PV) (M : Sto) : callN T (n + 1) "is_count" [a0] M = (evS (T.at n) c_is_count [some a0] M).back := run_def rfl _ _ 0 rfl rfl
theorem e_is_row (n : Nat) (a0 a1 : PV) (M : Sto) : callN T (n + 1) "is_row" [a0, a1] M = (evS (T.at n) c_is_row [some a0, some a1] M).back := run_def rfl _ _ 0 rfl rfl
theorem e_is_word (n : Nat) (a0 : PV) (M : Sto) : callN T (n + 1) "is_word" [a0] M = (evS (T.at n) c_is_word [some a0, none] M).back := run_def rfl _ _ 1 rfl rfl
theorem e_is_pool_value (n : Nat) (a0 : PV) (M : Sto) : callN T (n + 1) "is_pool_value" [a0] M = (evS (T.at n) c_is_pool_value [some a0, none, none, none] M).back := run_def rfl _ _ 3 rfl rfl
theorem e_need_pool (n : Nat) (a0 : PV) (M : Sto) : callN T (n + 1) "need_pool" [a0] M = (evS (T.at n) c_need_pool [some a0] M).back := run_def rfl _ _ 0 rfl rfl
theorem e_is_lot (n : Nat) (a0 a1 : PV) (M : Sto) : callN T (n + 1) "is_lot" [a0, a1] M = (evS (T.at n) c_is_lot [some a0, some a1, none, none, none] M).back := run_def rfl _ _ 3 rfl rfl
theorem e_are_counts_like (n : Nat) (a0 a1 : PV) (M : Sto) : callN T (n + 1) "are_counts_like" [a0, a1] M = (evS (T.at n) c_are_counts_like [some a0, some a1, none] M).back := run_def rfl _ _ 1 rfl rfl
theorem e_least_busy_in (n : Nat) (a0 a1 a2 : PV) (M : Sto) : callN T (n + 1) "least_busy_in" [a0, a1, a2] M = (evS (T.at n) c_least_busy_in [some a0, some a1, some a2, none, none] M).back := run_def rfl _ _ 2 rfl rfl
theorem e_score_of (n : Nat) (a0 a1 : PV) (M : Sto) : callN T (n + 1) "score_of" [a0, a1] M = (evS (T.at n) c_score_of [some a0, some a1, none, none] M).back := run_def rfl _ _ 2 rfl rfl
theorem e_keyed_in (n : Nat) (a0 a1 a2 : PV) (M : Sto) : callN T (n + 1) "keyed_in" [a0, a1, a2] M = (evS (T.at n) c_keyed_in [some a0, some a1, some a2, none, none] M).back := run_def rfl _ _ 2 rfl rfl
theorem e_is_pool (n : Nat) (a0 : PV) (M : Sto) : callN T (n + 1) "is_pool" [a0] M = (evS (T.at n) c_is_pool [some a0] M).back := run_def rfl _ _ 0 rfl rfl
theorem e_need_lot (n : Nat) (a0 a1 : PV) (M : Sto) : callN T (n + 1) "need_lot" [a0, a1] M = (evS (T.at n) c_need_lot [some a0, some a1] M).back := run_def rfl _ _ 0 rfl rfl
theorem e_least_busy (n : Nat) (a0 a1 a2 : PV) (M : Sto) : callN T (n + 1) "least_busy" [a0, a1, a2] M = (evS (T.at n) c_least_busy [some a0, some a1, some a2] M).back := run_def rfl _ _ 0 rfl rfl
theorem e_need_word (n : Nat) (a0 : PV) (M : Sto) : callN T (n + 1) "need_word" [a0] M = (evS (T.at n) c_need_word [some a0] M).back := run_def rfl _ _ 0 rfl rfl
theorem e_by_key (n : Nat) (a0 a1 a2 : PV) (M : Sto) : callN T (n + 1) "by_key" [a0, a1, a2] M = (evS (T.at n) c_by_key [some a0, some a1, some a2] M).back := run_def rfl _ _ 0 rfl rfl
theorem e_score (n : Nat) (a0 a1 : PV) (M : Sto) : callN T (n + 1) "score" [a0, a1] M = (evS (T.at n) c_score [some a0, some a1] M).back := run_def rfl _ _ 0 rfl rfl
theorem e__law_deck (n : Nat) (a0 : PV) (M : Sto) : callN T (n + 1) "_law_deck" [a0] M = (evS (T.at n) c__law_deck [some a0, none, none] M).back := run_def rfl _ _ 2 rfl rfl
theorem e__law_draw (n : Nat) (a0 a1 : PV) (M : Sto) : callN T (n + 1) "_law_draw" [a0, a1] M = (evS (T.at n) c__law_draw [some a0, some a1, none, none] M).back := run_def rfl _ _ 2 rfl rfl
theorem e__law_pick (n : Nat) (a0 a1 : PV) (M : Sto) : callN T (n + 1) "_law_pick" [a0, a1] M = (evS (T.at n) c__law_pick [some a0, some a1] M).back := run_def rfl _ _ 0 rfl rfl
theorem e__law_score (n : Nat) (a0 a1 : PV) (M : Sto) : callN T (n + 1) "_law_score" [a0, a1] M = (evS (T.at n) c__law_score [some a0, some a1, none, none] M).back := run_def rfl _ _ 2 rfl rfl
theorem e__law_by_key (n : Nat) (a0 a1 a2 : PV) (M : Sto) : callN T (n + 1) "_law_by_key" [a0, a1, a2] M = (evS (T.at n) c__law_by_key [some a0, some a1, some a2, none] M).back := run_def rfl _ _ 1 rfl rfl
theorem e__law_least_busy (n : Nat) (a0 a1 a2 : PV) (M : Sto) : callN T (n + 1) "_law_least_busy" [a0, a1, a2] M = (evS (T.at n) c__law_least_busy [some a0, some a1, some a2, none, none] M).back := run_def rfl _ _ 2 rfl rfl
theorem e__law_word (n : Nat) (a0 : PV) (M : Sto) : callN T (n + 1) "_law_word" [a0] M = (evS (T.at n) c__law_word [some a0, none, none] M).back := run_def rfl _ _ 2 rfl rfl
theorem e__law_words (n : Nat) (a0 a1 : PV) (M : Sto) : callN T (n + 1) "_law_words" [a0, a1] M = (evS (T.at n) c__law_words [some a0, some a1, none, none, none, none] M).back := run_def rfl _ _ 4 rfl rfl
theorem e__law_twin_label (n : Nat) (a0 a1 : PV) (M : Sto) : callN T (n + 1) "_law_twin_label" [a0, a1] M = (evS (T.at n) c__law_twin_label [some a0, some a1, none, none, none, none, none] M).back := run_def rfl _ _ 5 rfl rfl
theorem e__law_drawn_pool (n : Nat) (a0 : PV) (M : Sto) : callN T (n + 1) "_law_drawn_pool" [a0] M = (evS (T.at n) c__law_drawn_pool [some a0, none, none, none, none, none] M).back := run_def rfl _ _ 5 rfl rfl
theorem e__law_drawn_lot (n : Nat) (a0 a1 : PV) (M : Sto) : callN T (n + 1) "_law_drawn_lot" [a0, a1] M = (evS (T.at n) c__law_drawn_lot [some a0, some a1, none, none] M).back := run_def rfl _ _ 2 rfl rfl
theorem e__law_drawn_busy (n : Nat) (a0 a1 : PV) (M : Sto) : callN T (n + 1) "_law_drawn_busy" [a0, a1] M = (evS (T.at n) c__law_drawn_busy [some a0, some a1, none, none, none, none, none] M).back := run_def rfl _ _ 5 rfl rfl
theorem e__law_are_changes_right (n : Nat) (a0 a1 a2 a3 : PV) (M : Sto) : callN T (n + 1) "_law_are_changes_right" [a0, a1, a2, a3] M = (evS (T.at n) c__law_are_changes_right [some a0, some a1, some a2, some a3, none, none, none, none, none] M).back := run_def rfl _ _ 5 rfl rfl
theorem e_law (n : Nat) (a0 : PV) (M : Sto) : callN T (n + 1) "law" [a0] M = (evS (T.at n) c_law [some a0, none, none, none, none, none, none, none, none, none, none, none] M).back := run_def rfl _ _ 11 rfl rfl
theorem ok : ∀ D ∈ tab, D.Ok tab.kw := by
  intro D h
  rcases List.mem_cons.mp h with rfl | h
  · exact o_is_integer
  rcases List.mem_cons.mp h with rfl | h
  · exact o_is_between
  rcases List.mem_cons.mp h with rfl | h
  · exact o_is_count
  rcases List.mem_cons.mp h with rfl | h
  · exact o_is_row
  rcases List.mem_cons.mp h with rfl | h
  · exact o_is_word
  rcases List.mem_cons.mp h with rfl | h
  · exact o_is_pool_value
  rcases List.mem_cons.mp h with rfl | h
  · exact o_need_pool
  rcases List.mem_cons.mp h with rfl | h
  · exact o_is_lot
  rcases List.mem_cons.mp h with rfl | h
  · exact o_are_counts_like
  rcases List.mem_cons.mp h with rfl | h
  · exact o_least_busy_in
  rcases List.mem_cons.mp h with rfl | h
  · exact o_score_of
  rcases List.mem_cons.mp h with rfl | h
  · exact o_keyed_in
  rcases List.mem_cons.mp h with rfl | h
  · exact o_is_pool
  rcases List.mem_cons.mp h with rfl | h
  · exact o_need_lot
  rcases List.mem_cons.mp h with rfl | h
  · exact o_least_busy
  rcases List.mem_cons.mp h with rfl | h
  · exact o_need_word
  rcases List.mem_cons.mp h with rfl | h
  · exact o_by_key
  rcases List.mem_cons.mp h with rfl | h
  · exact o_score
  rcases List.mem_cons.mp h with rfl | h
  · exact o__law_deck
  rcases List.mem_cons.mp h with rfl | h
  · exact o__law_draw
  rcases List.mem_cons.mp h with rfl | h
  · exact o__law_pick
  rcases List.mem_cons.mp h with rfl | h
  · exact o__law_score
  rcases List.mem_cons.mp h with rfl | h
  · exact o__law_by_key
  rcases List.mem_cons.mp h with rfl | h
  · exact o__law_least_busy
  rcases List.mem_cons.mp h with rfl | h
  · exact o__law_word
  rcases List.mem_cons.mp h with rfl | h
  · exact o__law_words
  rcases List.mem_cons.mp h with rfl | h
  · exact o__law_twin_label
  rcases List.mem_cons.mp h with rfl | h
  · exact o__law_drawn_pool
  rcases List.mem_cons.mp h with rfl | h
  · exact o__law_drawn_lot
  rcases List.mem_cons.mp h with rfl | h
  · exact o__law_drawn_busy
  rcases List.mem_cons.mp h with rfl | h
  · exact o__law_are_changes_right
  rcases List.mem_cons.mp h with rfl | h
  · exact o_law
  cases h
def names0 : List PySem.Str := ["is_integer", "is_between", "is_count", "is_row", "is_word", "is_pool_value", "need_pool", "is_lot", "are_counts_like", "least_busy_in", "score_of", "keyed_in", "is_pool", "need_lot", "least_busy", "need_word", "by_key", "score", "_law_deck", "_law_draw", "_law_pick", "_law_score", "_law_by_key", "_law_least_busy", "_law_word"]
def names1 : List PySem.Str := ["_law_words", "_law_twin_label", "_law_drawn_pool", "_law_drawn_lot", "_law_drawn_busy", "_law_are_changes_right", "GateError", "BadPool", "BadCounts", "BadLot", "BadWord", "MOST_WORD", "LETTERS", "MOST_POOL", "MOST_WEIGHT", "FACTOR", "MODULUS", "BEGIN"]
def names : List PySem.Str := names0 ++ names1
def lawAt : Nat := 48
abbrev fa : List He.Fa := faOf tab gcs
abbrev fn : List He.DefD := Ev.fnOf tab
end K20

set_option Elab.async false
set_option linter.all false
set_option maxRecDepth 100000
set_option maxHeartbeats 0
namespace K20
open PySem L2 Ev PyProof.Rows
abbrev hk : PySem.W.Hook := He.hookD 4 fa fn
def ob (s : PySem.W.SharedT) : He.AlD := He.obsDG 4 fa fn (HandSHeadRun.getT s)
theorem ob_eq (s : PySem.W.SharedT) : ob s = hk.obs s.abs := He.obsDG_eq (HandSHeadRun.getT_eq s)
theorem run (w : World) : HandSHeadRun.RunEq R (PySem.W.view R.prog [lawAt]) hk ob 4000 names w := by
  intro os
  kernel_rfl
end K20

set_option Elab.async false
set_option linter.all false
set_option maxRecDepth 100000
set_option maxHeartbeats 4000000
/-! K20p: draws. -/
namespace K20
open PySem L2 Ev
def Dk (i j : Nat) (M : Sto) : Prop := i ≠ j ∧ ∃ (m d : Int) (ns : List Int), M[i]? = some (.dct [(.inr "left", .ref j), (.inr "mixed", .int m), (.inr "draws", .int d)]) ∧ M[j]? = some (.lst (ns.map .int)) ∧ ns.length ≤ 64
theorem draw_ok (n : Nat) {i j : Nat} {M : Sto} (h : Dk i j M) {many : Int} (h1 : 1 ≤ many) (h2 : many < 1073741824) :
    ∃ r M', callN T (n + 1) "_law_draw" [.ref i, .int many] M = .ok (.int r) M' ∧ 0 ≤ r ∧ r < many ∧ Dk i j M' ∧ Keep [i, j] M M' := by
  obtain ⟨hij, m, d, ns, hi, hj, hn⟩ := h
  have li := sto_lt hi
  have lj := sto_lt hj
  have mp : (many = 0) = False := eq_false (by omega)
  obtain ⟨mx, hmx⟩ : ∃ mx, mx = (if many > 2 then many else 2) := ⟨_, rfl⟩
  have x1 : (mx = 0) = False := eq_false (by rw [hmx]; split <;> omega)
  have x2 : (-1073741824 < mx) = True := eq_true (by rw [hmx]; split <;> omega)
  have x3 : (mx < 1073741824) = True := eq_true (by rw [hmx]; split <;> omega)
  rw [e__law_draw]
  unfold c__law_draw
  rcases List.eq_nil_or_concat ns with rfl | ⟨ns, c, rfl⟩
  · simp only [↓evE.eq_1, ↓evE.eq_2, ↓evE.eq_3, ↓evE.eq_4, ↓evE.eq_5, ↓evE.eq_6, ↓evE.eq_7, ↓evE.eq_8, ↓evE.eq_9, ↓evE.eq_10, ↓evE.eq_11, ↓evE.eq_12, ↓evE.eq_13, ↓evE.eq_14, ↓evE.eq_15, ↓evE.eq_16, ↓evE.eq_17, ↓evE.eq_18, ↓evE.eq_19, ↓evE.eq_20, ↓evE.eq_21, ↓evE.eq_22, ↓evE.eq_23, ↓evE.eq_24, ↓evE.eq_25, ↓evE.eq_26, ↓evE.eq_27, ↓evE.eq_28, ↓evE.eq_29, ↓evE.eq_30, ↓evE.eq_31, ↓evE.eq_32, ↓evE.eq_33, ↓evE.eq_34, ↓evE.eq_35, ↓evE.eq_36, ↓evE.eq_37, ↓evE.eq_38, ↓evS.eq_1, ↓evS_seq, ↓evS.eq_3, ↓evS.eq_4, ↓evS.eq_5, ↓evS.eq_6, ↓evS.eq_7, ↓evS.eq_8, ↓evS_ite, ↓iteS, ↓evS.eq_11, ↓evS.eq_12, ↓evS.eq_13, ↓evS.eq_14, ↓evS.eq_15, ↓evS.eq_16, ↓evS.eq_17, ↓evS_for, ↓evA.eq_1, ↓evA.eq_2, ↓evT.eq_1, ↓evT.eq_2, ↓evO.eq_1, ↓evO.eq_2, ↓evI.eq_1, ↓evI.eq_2, ↓evI.eq_3, ↓evI.eq_4, ↓evI.eq_5, ↓evF.eq_1, ↓evF.eq_2, ↓m_bind, ↓m_then, ↓m_opt, SRes.bind_nx, SRes.bind_rt, SRes.bind_bk, SRes.bind_ct, SRes.bind_ex, SRes.bind_bad, at_call, at_glo, at_fuel, SRes.back, List.getElem?_cons_zero, List.getElem?_cons_succ, List.set_cons_zero, List.set_cons_succ, asgT, asgTs, cmpV, truV, binV, bltV, tyN, tyLe, subV, Option.map_some, Option.map_none, List.any_cons, List.any_nil, if_true, if_false, ite_true, ite_false, String.reduceBEq, Nat.reduceAdd, Bool.or_false, Bool.false_or, Bool.or_true, Bool.true_or, Bool.and_true, Bool.true_and, Bool.and_false, Bool.false_and, Bool.not_true, Bool.not_false, beq_self_eq_true, decide_true, decide_false, reduceCtorEq, Bool.false_eq_true, Ev.keyOf, dctKeys, List.length_cons, List.length_nil, List.zip_cons_cons, List.zip_nil_left, List.zip_nil_right, List.foldl_cons, List.foldl_nil, methV, setV, isL, permL_cons, permL_nil, List.map_cons, List.map_nil, valP_cons, valP_nil, key_str, key_int, ofString_eq, String.reduceEq, putP, sizeLine_eq, Nat.reduceLT, Nat.reduceLeDiff, sto_self, mulOk, powOk, divOk, Int.reducePow, Nat.reducePow, Int.reduceNeg, Int.reduceLT, Int.reduceLE, natAbs64, natAbs30, Int.reduceToNat, Int.reduceEq, Int.reduceAdd, Int.reduceSub, Int.reduceMul, ne_eq, not_false_eq_true, Int.reduceNe, Ev.alloc, Ev.eq_ii, Ev.eq_ss, Ev.eq_bb, Ev.eq_nn, Ev.eq_ni, Ev.eq_in, Ev.eq_ns, Ev.eq_sn, Ev.eq_nb, Ev.eq_bn, Ev.eq_is, Ev.eq_si, and_self, true_and, and_true, fmod_lt64, fmod_gt64, atI_0, atI_1, atI_2, atI_3, atI_4, atI_5, atI_6, atI_7, atI_8, atI_9, itemsV, smV, fmtV, lenSetV, seqOf, lstOf, slcV, revV, srcOf, optI, List.nil_append, List.cons_append, sto_new, intsP, sortI, insI, compL, compG, wipeP, boolsP, List.all_cons, List.all_nil, id_eq, keep_nil, maxI, minI, intsP, cutf_1, cutf_2, cutf_3, cutf_4, cutt_1, cutt_2, cutt_3, cutt_4, List.drop_succ_cons, List.drop_zero, List.take_succ_cons, List.take_zero, Int.cast_ofNat_Int, false_and, and_false, or_self, or_false, false_or, true_or, or_true, hi, hj, sto_ne hij, sto_ne hij.symm, li, lj, eq_empty2 _ [], sto_apps, List.length_set, List.isEmpty_nil, mp]
    refine ⟨_, _, rfl, (fmod_ok (by omega)).1, (fmod_ok (by omega)).2, ⟨hij, m, d + 1, [], ?_, ?_, by simp⟩, (Keep.set (by simp)).trans .app⟩
    · rw [sto_apps _ (by simpa using li), sto_self, hi]; rfl
    · rw [sto_apps _ (by simpa using lj), sto_ne hij, hj]
  · have ee : (ns ++ [c]).isEmpty = false := by simp
    have ln : (List.map PV.int ns).length < 16777216 := by simp at hn ⊢; omega
    by_cases hc : 1000000000000000000 ≤ c
    · simp only [↓evE.eq_1, ↓evE.eq_2, ↓evE.eq_3, ↓evE.eq_4, ↓evE.eq_5, ↓evE.eq_6, ↓evE.eq_7, ↓evE.eq_8, ↓evE.eq_9, ↓evE.eq_10, ↓evE.eq_11, ↓evE.eq_12, ↓evE.eq_13, ↓evE.eq_14, ↓evE.eq_15, ↓evE.eq_16, ↓evE.eq_17, ↓evE.eq_18, ↓evE.eq_19, ↓evE.eq_20, ↓evE.eq_21, ↓evE.eq_22, ↓evE.eq_23, ↓evE.eq_24, ↓evE.eq_25, ↓evE.eq_26, ↓evE.eq_27, ↓evE.eq_28, ↓evE.eq_29, ↓evE.eq_30, ↓evE.eq_31, ↓evE.eq_32, ↓evE.eq_33, ↓evE.eq_34, ↓evE.eq_35, ↓evE.eq_36, ↓evE.eq_37, ↓evE.eq_38, ↓evS.eq_1, ↓evS_seq, ↓evS.eq_3, ↓evS.eq_4, ↓evS.eq_5, ↓evS.eq_6, ↓evS.eq_7, ↓evS.eq_8, ↓evS_ite, ↓iteS, ↓evS.eq_11, ↓evS.eq_12, ↓evS.eq_13, ↓evS.eq_14, ↓evS.eq_15, ↓evS.eq_16, ↓evS.eq_17, ↓evS_for, ↓evA.eq_1, ↓evA.eq_2, ↓evT.eq_1, ↓evT.eq_2, ↓evO.eq_1, ↓evO.eq_2, ↓evI.eq_1, ↓evI.eq_2, ↓evI.eq_3, ↓evI.eq_4, ↓evI.eq_5, ↓evF.eq_1, ↓evF.eq_2, ↓m_bind, ↓m_then, ↓m_opt, SRes.bind_nx, SRes.bind_rt, SRes.bind_bk, SRes.bind_ct, SRes.bind_ex, SRes.bind_bad, at_call, at_glo, at_fuel, SRes.back, List.getElem?_cons_zero, List.getElem?_cons_succ, List.set_cons_zero, List.set_cons_succ, asgT, asgTs, cmpV, truV, binV, bltV, tyN, tyLe, subV, Option.map_some, Option.map_none, List.any_cons, List.any_nil, if_true, if_false, ite_true, ite_false, String.reduceBEq, Nat.reduceAdd, Bool.or_false, Bool.false_or, Bool.or_true, Bool.true_or, Bool.and_true, Bool.true_and, Bool.and_false, Bool.false_and, Bool.not_true, Bool.not_false, beq_self_eq_true, decide_true, decide_false, reduceCtorEq, Bool.false_eq_true, Ev.keyOf, dctKeys, List.length_cons, List.length_nil, List.zip_cons_cons, List.zip_nil_left, List.zip_nil_right, List.foldl_cons, List.foldl_nil, methV, setV, isL, permL_cons, permL_nil, List.map_cons, List.map_nil, valP_cons, valP_nil, key_str, key_int, ofString_eq, String.reduceEq, putP, sizeLine_eq, Nat.reduceLT, Nat.reduceLeDiff, sto_self, mulOk, powOk, divOk, Int.reducePow, Nat.reducePow, Int.reduceNeg, Int.reduceLT, Int.reduceLE, natAbs64, natAbs30, Int.reduceToNat, Int.reduceEq, Int.reduceAdd, Int.reduceSub, Int.reduceMul, ne_eq, not_false_eq_true, Int.reduceNe, Ev.alloc, Ev.eq_ii, Ev.eq_ss, Ev.eq_bb, Ev.eq_nn, Ev.eq_ni, Ev.eq_in, Ev.eq_ns, Ev.eq_sn, Ev.eq_nb, Ev.eq_bn, Ev.eq_is, Ev.eq_si, and_self, true_and, and_true, fmod_lt64, fmod_gt64, atI_0, atI_1, atI_2, atI_3, atI_4, atI_5, atI_6, atI_7, atI_8, atI_9, itemsV, smV, fmtV, lenSetV, seqOf, lstOf, slcV, revV, srcOf, optI, List.nil_append, List.cons_append, sto_new, intsP, sortI, insI, compL, compG, wipeP, boolsP, List.all_cons, List.all_nil, id_eq, keep_nil, maxI, minI, intsP, cutf_1, cutf_2, cutf_3, cutf_4, cutt_1, cutt_2, cutt_3, cutt_4, List.drop_succ_cons, List.drop_zero, List.take_succ_cons, List.take_zero, Int.cast_ofNat_Int, false_and, and_false, or_self, or_false, false_or, true_or, or_true, hi, hj, sto_ne hij, sto_ne hij.symm, li, lj, eq_empty2 _ (ns ++ [c]), sto_apps, List.length_set, ee, List.concat_eq_append, ints_last, ints_drop, hc, mp, ← hmx, x1, x2, x3, ln]
      refine ⟨_, _, rfl, (fmod_ok (by omega)).1, (fmod_ok (by omega)).2, ⟨hij, m, d + 1, ns ++ [c.fdiv mx], ?_, ?_, by simpa using hn⟩, (Keep.set (by simp)).trans (Keep.app.trans ((Keep.set (by simp)).trans (Keep.set (by simp))))⟩
      · rw [sto_ne hij.symm, sto_ne hij.symm, sto_apps _ (by simpa using li), sto_self, hi]; rfl
      · rw [sto_self, sto_self, sto_apps _ (by simpa using lj), sto_ne hij, hj]; simp
    · simp only [↓evE.eq_1, ↓evE.eq_2, ↓evE.eq_3, ↓evE.eq_4, ↓evE.eq_5, ↓evE.eq_6, ↓evE.eq_7, ↓evE.eq_8, ↓evE.eq_9, ↓evE.eq_10, ↓evE.eq_11, ↓evE.eq_12, ↓evE.eq_13, ↓evE.eq_14, ↓evE.eq_15, ↓evE.eq_16, ↓evE.eq_17, ↓evE.eq_18, ↓evE.eq_19, ↓evE.eq_20, ↓evE.eq_21, ↓evE.eq_22, ↓evE.eq_23, ↓evE.eq_24, ↓evE.eq_25, ↓evE.eq_26, ↓evE.eq_27, ↓evE.eq_28, ↓evE.eq_29, ↓evE.eq_30, ↓evE.eq_31, ↓evE.eq_32, ↓evE.eq_33, ↓evE.eq_34, ↓evE.eq_35, ↓evE.eq_36, ↓evE.eq_37, ↓evE.eq_38, ↓evS.eq_1, ↓evS_seq, ↓evS.eq_3, ↓evS.eq_4, ↓evS.eq_5, ↓evS.eq_6, ↓evS.eq_7, ↓evS.eq_8, ↓evS_ite, ↓iteS, ↓evS.eq_11, ↓evS.eq_12, ↓evS.eq_13, ↓evS.eq_14, ↓evS.eq_15, ↓evS.eq_16, ↓evS.eq_17, ↓evS_for, ↓evA.eq_1, ↓evA.eq_2, ↓evT.eq_1, ↓evT.eq_2, ↓evO.eq_1, ↓evO.eq_2, ↓evI.eq_1, ↓evI.eq_2, ↓evI.eq_3, ↓evI.eq_4, ↓evI.eq_5, ↓evF.eq_1, ↓evF.eq_2, ↓m_bind, ↓m_then, ↓m_opt, SRes.bind_nx, SRes.bind_rt, SRes.bind_bk, SRes.bind_ct, SRes.bind_ex, SRes.bind_bad, at_call, at_glo, at_fuel, SRes.back, List.getElem?_cons_zero, List.getElem?_cons_succ, List.set_cons_zero, List.set_cons_succ, asgT, asgTs, cmpV, truV, binV, bltV, tyN, tyLe, subV, Option.map_some, Option.map_none, List.any_cons, List.any_nil, if_true, if_false, ite_true, ite_false, String.reduceBEq, Nat.reduceAdd, Bool.or_false, Bool.false_or, Bool.or_true, Bool.true_or, Bool.and_true, Bool.true_and, Bool.and_false, Bool.false_and, Bool.not_true, Bool.not_false, beq_self_eq_true, decide_true, decide_false, reduceCtorEq, Bool.false_eq_true, Ev.keyOf, dctKeys, List.length_cons, List.length_nil, List.zip_cons_cons, List.zip_nil_left, List.zip_nil_right, List.foldl_cons, List.foldl_nil, methV, setV, isL, permL_cons, permL_nil, List.map_cons, List.map_nil, valP_cons, valP_nil, key_str, key_int, ofString_eq, String.reduceEq, putP, sizeLine_eq, Nat.reduceLT, Nat.reduceLeDiff, sto_self, mulOk, powOk, divOk, Int.reducePow, Nat.reducePow, Int.reduceNeg, Int.reduceLT, Int.reduceLE, natAbs64, natAbs30, Int.reduceToNat, Int.reduceEq, Int.reduceAdd, Int.reduceSub, Int.reduceMul, ne_eq, not_false_eq_true, Int.reduceNe, Ev.alloc, Ev.eq_ii, Ev.eq_ss, Ev.eq_bb, Ev.eq_nn, Ev.eq_ni, Ev.eq_in, Ev.eq_ns, Ev.eq_sn, Ev.eq_nb, Ev.eq_bn, Ev.eq_is, Ev.eq_si, and_self, true_and, and_true, fmod_lt64, fmod_gt64, atI_0, atI_1, atI_2, atI_3, atI_4, atI_5, atI_6, atI_7, atI_8, atI_9, itemsV, smV, fmtV, lenSetV, seqOf, lstOf, slcV, revV, srcOf, optI, List.nil_append, List.cons_append, sto_new, intsP, sortI, insI, compL, compG, wipeP, boolsP, List.all_cons, List.all_nil, id_eq, keep_nil, maxI, minI, intsP, cutf_1, cutf_2, cutf_3, cutf_4, cutt_1, cutt_2, cutt_3, cutt_4, List.drop_succ_cons, List.drop_zero, List.take_succ_cons, List.take_zero, Int.cast_ofNat_Int, false_and, and_false, or_self, or_false, false_or, true_or, or_true, hi, hj, sto_ne hij, sto_ne hij.symm, li, lj, eq_empty2 _ (ns ++ [c]), sto_apps, List.length_set, ee, List.concat_eq_append, ints_last, ints_drop, hc, mp]
      refine ⟨_, _, rfl, (fmod_ok (by omega)).1, (fmod_ok (by omega)).2, ⟨hij, m, d + 1, ns, ?_, ?_, by simp at hn; omega⟩, (Keep.set (by simp)).trans (Keep.app.trans (Keep.set (by simp)))⟩
      · rw [sto_ne hij.symm, sto_apps _ (by simpa using li), sto_self, hi]; rfl
      · rw [sto_self, sto_apps _ (by simpa using lj), sto_ne hij, hj]; rfl
theorem pick_ok (n : Nat) {i j k : Nat} {M : Sto} {xs : List PV} (h : Dk i j M) (hx : M[k]? = some (.lst xs)) (hj : k ≠ j) (h0 : 0 < xs.length) (h2 : xs.length < 1073741824) :
    ∃ r M', callN T (n + 2) "_law_pick" [.ref i, .ref k] M = .ok r M' ∧ r ∈ xs ∧ Dk i j M' ∧ Keep [i, j] M M' := by
  have hi : k ≠ i := by
    rintro rfl
    obtain ⟨_, _, _, _, e, _⟩ := h
    rw [hx] at e; cases e
  obtain ⟨r, M', e, h1, h3, d, kp⟩ := draw_ok n (many := xs.length) h (by omega) (by omega)
  obtain ⟨x, xm, _, xe⟩ := atI_in xs h1 h3
  rw [e__law_pick]
  unfold c__law_pick
  simp only [↓evE.eq_1, ↓evE.eq_2, ↓evE.eq_3, ↓evE.eq_4, ↓evE.eq_5, ↓evE.eq_6, ↓evE.eq_7, ↓evE.eq_8, ↓evE.eq_9, ↓evE.eq_10, ↓evE.eq_11, ↓evE.eq_12, ↓evE.eq_13, ↓evE.eq_14, ↓evE.eq_15, ↓evE.eq_16, ↓evE.eq_17, ↓evE.eq_18, ↓evE.eq_19, ↓evE.eq_20, ↓evE.eq_21, ↓evE.eq_22, ↓evE.eq_23, ↓evE.eq_24, ↓evE.eq_25, ↓evE.eq_26, ↓evE.eq_27, ↓evE.eq_28, ↓evE.eq_29, ↓evE.eq_30, ↓evE.eq_31, ↓evE.eq_32, ↓evE.eq_33, ↓evE.eq_34, ↓evE.eq_35, ↓evE.eq_36, ↓evE.eq_37, ↓evE.eq_38, ↓evS.eq_1, ↓evS_seq, ↓evS.eq_3, ↓evS.eq_4, ↓evS.eq_5, ↓evS.eq_6, ↓evS.eq_7, ↓evS.eq_8, ↓evS_ite, ↓iteS, ↓evS.eq_11, ↓evS.eq_12, ↓evS.eq_13, ↓evS.eq_14, ↓evS.eq_15, ↓evS.eq_16, ↓evS.eq_17, ↓evS_for, ↓evA.eq_1, ↓evA.eq_2, ↓evT.eq_1, ↓evT.eq_2, ↓evO.eq_1, ↓evO.eq_2, ↓evI.eq_1, ↓evI.eq_2, ↓evI.eq_3, ↓evI.eq_4, ↓evI.eq_5, ↓evF.eq_1, ↓evF.eq_2, ↓m_bind, ↓m_then, ↓m_opt, SRes.bind_nx, SRes.bind_rt, SRes.bind_bk, SRes.bind_ct, SRes.bind_ex, SRes.bind_bad, at_call, at_glo, at_fuel, SRes.back, List.getElem?_cons_zero, List.getElem?_cons_succ, List.set_cons_zero, List.set_cons_succ, asgT, asgTs, cmpV, truV, binV, bltV, tyN, tyLe, subV, Option.map_some, Option.map_none, List.any_cons, List.any_nil, if_true, if_false, ite_true, ite_false, String.reduceBEq, Nat.reduceAdd, Bool.or_false, Bool.false_or, Bool.or_true, Bool.true_or, Bool.and_true, Bool.true_and, Bool.and_false, Bool.false_and, Bool.not_true, Bool.not_false, beq_self_eq_true, decide_true, decide_false, reduceCtorEq, Bool.false_eq_true, Ev.keyOf, dctKeys, List.length_cons, List.length_nil, List.zip_cons_cons, List.zip_nil_left, List.zip_nil_right, List.foldl_cons, List.foldl_nil, methV, setV, isL, permL_cons, permL_nil, List.map_cons, List.map_nil, valP_cons, valP_nil, key_str, key_int, ofString_eq, String.reduceEq, putP, sizeLine_eq, Nat.reduceLT, Nat.reduceLeDiff, sto_self, mulOk, powOk, divOk, Int.reducePow, Nat.reducePow, Int.reduceNeg, Int.reduceLT, Int.reduceLE, natAbs64, natAbs30, Int.reduceToNat, Int.reduceEq, Int.reduceAdd, Int.reduceSub, Int.reduceMul, ne_eq, not_false_eq_true, Int.reduceNe, Ev.alloc, Ev.eq_ii, Ev.eq_ss, Ev.eq_bb, Ev.eq_nn, Ev.eq_ni, Ev.eq_in, Ev.eq_ns, Ev.eq_sn, Ev.eq_nb, Ev.eq_bn, Ev.eq_is, Ev.eq_si, and_self, true_and, and_true, fmod_lt64, fmod_gt64, atI_0, atI_1, atI_2, atI_3, atI_4, atI_5, atI_6, atI_7, atI_8, atI_9, itemsV, smV, fmtV, lenSetV, seqOf, lstOf, slcV, revV, srcOf, optI, List.nil_append, List.cons_append, sto_new, intsP, sortI, insI, compL, compG, wipeP, boolsP, List.all_cons, List.all_nil, id_eq, keep_nil, maxI, minI, intsP, cutf_1, cutf_2, cutf_3, cutf_4, cutt_1, cutt_2, cutt_3, cutt_4, List.drop_succ_cons, List.drop_zero, List.take_succ_cons, List.take_zero, Int.cast_ofNat_Int, false_and, and_false, or_self, or_false, false_or, true_or, or_true, hx, e, kp.get hx (by simp [hi, hj]), xe]
  exact ⟨x, M', rfl, xm, d, kp⟩
theorem deck_ok (n : Nat) (M : Sto) (ns : List Int) (hn : ns.length ≤ 63) : ∃ i j M', callN T (n + 1) "_law_deck" [.rol (ns.map .int)] M = .ok (.ref i) M' ∧ Dk i j M' ∧ M.length ≤ i ∧ M.length ≤ j ∧ Keep [] M M' := by
  rw [e__law_deck]
  unfold c__law_deck
  have hc : ∀ k : Int, k = 63 → cutP (ns.map .int) none (some k) = ns.map .int := fun k e => by subst e; exact cut_all (k := 63) (by simpa using hn)
  simp only [↓evE.eq_1, ↓evE.eq_2, ↓evE.eq_3, ↓evE.eq_4, ↓evE.eq_5, ↓evE.eq_6, ↓evE.eq_7, ↓evE.eq_8, ↓evE.eq_9, ↓evE.eq_10, ↓evE.eq_11, ↓evE.eq_12, ↓evE.eq_13, ↓evE.eq_14, ↓evE.eq_15, ↓evE.eq_16, ↓evE.eq_17, ↓evE.eq_18, ↓evE.eq_19, ↓evE.eq_20, ↓evE.eq_21, ↓evE.eq_22, ↓evE.eq_23, ↓evE.eq_24, ↓evE.eq_25, ↓evE.eq_26, ↓evE.eq_27, ↓evE.eq_28, ↓evE.eq_29, ↓evE.eq_30, ↓evE.eq_31, ↓evE.eq_32, ↓evE.eq_33, ↓evE.eq_34, ↓evE.eq_35, ↓evE.eq_36, ↓evE.eq_37, ↓evE.eq_38, ↓evS.eq_1, ↓evS_seq, ↓evS.eq_3, ↓evS.eq_4, ↓evS.eq_5, ↓evS.eq_6, ↓evS.eq_7, ↓evS.eq_8, ↓evS_ite, ↓iteS, ↓evS.eq_11, ↓evS.eq_12, ↓evS.eq_13, ↓evS.eq_14, ↓evS.eq_15, ↓evS.eq_16, ↓evS.eq_17, ↓evS_for, ↓evA.eq_1, ↓evA.eq_2, ↓evT.eq_1, ↓evT.eq_2, ↓evO.eq_1, ↓evO.eq_2, ↓evI.eq_1, ↓evI.eq_2, ↓evI.eq_3, ↓evI.eq_4, ↓evI.eq_5, ↓evF.eq_1, ↓evF.eq_2, ↓m_bind, ↓m_then, ↓m_opt, SRes.bind_nx, SRes.bind_rt, SRes.bind_bk, SRes.bind_ct, SRes.bind_ex, SRes.bind_bad, at_call, at_glo, at_fuel, SRes.back, List.getElem?_cons_zero, List.getElem?_cons_succ, List.set_cons_zero, List.set_cons_succ, asgT, asgTs, cmpV, truV, binV, bltV, tyN, tyLe, subV, Option.map_some, Option.map_none, List.any_cons, List.any_nil, if_true, if_false, ite_true, ite_false, String.reduceBEq, Nat.reduceAdd, Bool.or_false, Bool.false_or, Bool.or_true, Bool.true_or, Bool.and_true, Bool.true_and, Bool.and_false, Bool.false_and, Bool.not_true, Bool.not_false, beq_self_eq_true, decide_true, decide_false, reduceCtorEq, Bool.false_eq_true, Ev.keyOf, dctKeys, List.length_cons, List.length_nil, List.zip_cons_cons, List.zip_nil_left, List.zip_nil_right, List.foldl_cons, List.foldl_nil, methV, setV, isL, permL_cons, permL_nil, List.map_cons, List.map_nil, valP_cons, valP_nil, key_str, key_int, ofString_eq, String.reduceEq, putP, sizeLine_eq, Nat.reduceLT, Nat.reduceLeDiff, sto_self, mulOk, powOk, divOk, Int.reducePow, Nat.reducePow, Int.reduceNeg, Int.reduceLT, Int.reduceLE, natAbs64, natAbs30, Int.reduceToNat, Int.reduceEq, Int.reduceAdd, Int.reduceSub, Int.reduceMul, ne_eq, not_false_eq_true, Int.reduceNe, Ev.alloc, Ev.eq_ii, Ev.eq_ss, Ev.eq_bb, Ev.eq_nn, Ev.eq_ni, Ev.eq_in, Ev.eq_ns, Ev.eq_sn, Ev.eq_nb, Ev.eq_bn, Ev.eq_is, Ev.eq_si, and_self, true_and, and_true, fmod_lt64, fmod_gt64, atI_0, atI_1, atI_2, atI_3, atI_4, atI_5, atI_6, atI_7, atI_8, atI_9, itemsV, smV, fmtV, lenSetV, seqOf, lstOf, slcV, revV, srcOf, optI, List.nil_append, List.cons_append, sto_new, intsP, sortI, insI, compL, compG, wipeP, boolsP, List.all_cons, List.all_nil, id_eq, keep_nil, maxI, minI, intsP, cutf_1, cutf_2, cutf_3, cutf_4, cutt_1, cutt_2, cutt_3, cutt_4, List.drop_succ_cons, List.drop_zero, List.take_succ_cons, List.take_zero, Int.cast_ofNat_Int, false_and, and_false, or_self, or_false, false_or, true_or, or_true, hc, sto_new, keep_one]
  generalize hz : forL _ _ _ _ _ = z
  obtain ⟨env', M', rfl, ms, m, c, h1, rfl, rfl⟩ := for_of hz (fun xs env M1 => ∃ (ms : List Int) (m : Int) (c : Option PV), xs = ms.map .int ∧ env = [some (.rol (ns.map .int)), some (.int m), c] ∧ M1 = M ++ [.lst (ns.map .int)]) ⟨ns, _, none, rfl, rfl, rfl⟩
    (fun xs env M1 ⟨ms, m, c, h1, h2, h3⟩ => by subst h3; exact keep_one (sto_new _ _)) (fun x xs env M1 ⟨ms, m, c, h1, h2, h3⟩ => by
      subst h2 h3
      cases ms with
      | nil => cases h1
      | cons k ms =>
        cases h1
        exact ⟨_, _, .inl (by unfold forB; simp only [↓evE.eq_1, ↓evE.eq_2, ↓evE.eq_3, ↓evE.eq_4, ↓evE.eq_5, ↓evE.eq_6, ↓evE.eq_7, ↓evE.eq_8, ↓evE.eq_9, ↓evE.eq_10, ↓evE.eq_11, ↓evE.eq_12, ↓evE.eq_13, ↓evE.eq_14, ↓evE.eq_15, ↓evE.eq_16, ↓evE.eq_17, ↓evE.eq_18, ↓evE.eq_19, ↓evE.eq_20, ↓evE.eq_21, ↓evE.eq_22, ↓evE.eq_23, ↓evE.eq_24, ↓evE.eq_25, ↓evE.eq_26, ↓evE.eq_27, ↓evE.eq_28, ↓evE.eq_29, ↓evE.eq_30, ↓evE.eq_31, ↓evE.eq_32, ↓evE.eq_33, ↓evE.eq_34, ↓evE.eq_35, ↓evE.eq_36, ↓evE.eq_37, ↓evE.eq_38, ↓evS.eq_1, ↓evS_seq, ↓evS.eq_3, ↓evS.eq_4, ↓evS.eq_5, ↓evS.eq_6, ↓evS.eq_7, ↓evS.eq_8, ↓evS_ite, ↓iteS, ↓evS.eq_11, ↓evS.eq_12, ↓evS.eq_13, ↓evS.eq_14, ↓evS.eq_15, ↓evS.eq_16, ↓evS.eq_17, ↓evS_for, ↓evA.eq_1, ↓evA.eq_2, ↓evT.eq_1, ↓evT.eq_2, ↓evO.eq_1, ↓evO.eq_2, ↓evI.eq_1, ↓evI.eq_2, ↓evI.eq_3, ↓evI.eq_4, ↓evI.eq_5, ↓evF.eq_1, ↓evF.eq_2, ↓m_bind, ↓m_then, ↓m_opt, SRes.bind_nx, SRes.bind_rt, SRes.bind_bk, SRes.bind_ct, SRes.bind_ex, SRes.bind_bad, at_call, at_glo, at_fuel, SRes.back, List.getElem?_cons_zero, List.getElem?_cons_succ, List.set_cons_zero, List.set_cons_succ, asgT, asgTs, cmpV, truV, binV, bltV, tyN, tyLe, subV, Option.map_some, Option.map_none, List.any_cons, List.any_nil, if_true, if_false, ite_true, ite_false, String.reduceBEq, Nat.reduceAdd, Bool.or_false, Bool.false_or, Bool.or_true, Bool.true_or, Bool.and_true, Bool.true_and, Bool.and_false, Bool.false_and, Bool.not_true, Bool.not_false, beq_self_eq_true, decide_true, decide_false, reduceCtorEq, Bool.false_eq_true, Ev.keyOf, dctKeys, List.length_cons, List.length_nil, List.zip_cons_cons, List.zip_nil_left, List.zip_nil_right, List.foldl_cons, List.foldl_nil, methV, setV, isL, permL_cons, permL_nil, List.map_cons, List.map_nil, valP_cons, valP_nil, key_str, key_int, ofString_eq, String.reduceEq, putP, sizeLine_eq, Nat.reduceLT, Nat.reduceLeDiff, sto_self, mulOk, powOk, divOk, Int.reducePow, Nat.reducePow, Int.reduceNeg, Int.reduceLT, Int.reduceLE, natAbs64, natAbs30, Int.reduceToNat, Int.reduceEq, Int.reduceAdd, Int.reduceSub, Int.reduceMul, ne_eq, not_false_eq_true, Int.reduceNe, Ev.alloc, Ev.eq_ii, Ev.eq_ss, Ev.eq_bb, Ev.eq_nn, Ev.eq_ni, Ev.eq_in, Ev.eq_ns, Ev.eq_sn, Ev.eq_nb, Ev.eq_bn, Ev.eq_is, Ev.eq_si, and_self, true_and, and_true, fmod_lt64, fmod_gt64, atI_0, atI_1, atI_2, atI_3, atI_4, atI_5, atI_6, atI_7, atI_8, atI_9, itemsV, smV, fmtV, lenSetV, seqOf, lstOf, slcV, revV, srcOf, optI, List.nil_append, List.cons_append, sto_new, intsP, sortI, insI, compL, compG, wipeP, boolsP, List.all_cons, List.all_nil, id_eq, keep_nil, maxI, minI, intsP, cutf_1, cutf_2, cutf_3, cutf_4, cutt_1, cutt_2, cutt_3, cutt_4, List.drop_succ_cons, List.drop_zero, List.take_succ_cons, List.take_zero, Int.cast_ofNat_Int, false_and, and_false, or_self, or_false, false_or, true_or, or_true]; try rfl), ms, _, _, rfl, rfl, rfl⟩)
  simp only [↓evE.eq_1, ↓evE.eq_2, ↓evE.eq_3, ↓evE.eq_4, ↓evE.eq_5, ↓evE.eq_6, ↓evE.eq_7, ↓evE.eq_8, ↓evE.eq_9, ↓evE.eq_10, ↓evE.eq_11, ↓evE.eq_12, ↓evE.eq_13, ↓evE.eq_14, ↓evE.eq_15, ↓evE.eq_16, ↓evE.eq_17, ↓evE.eq_18, ↓evE.eq_19, ↓evE.eq_20, ↓evE.eq_21, ↓evE.eq_22, ↓evE.eq_23, ↓evE.eq_24, ↓evE.eq_25, ↓evE.eq_26, ↓evE.eq_27, ↓evE.eq_28, ↓evE.eq_29, ↓evE.eq_30, ↓evE.eq_31, ↓evE.eq_32, ↓evE.eq_33, ↓evE.eq_34, ↓evE.eq_35, ↓evE.eq_36, ↓evE.eq_37, ↓evE.eq_38, ↓evS.eq_1, ↓evS_seq, ↓evS.eq_3, ↓evS.eq_4, ↓evS.eq_5, ↓evS.eq_6, ↓evS.eq_7, ↓evS.eq_8, ↓evS_ite, ↓iteS, ↓evS.eq_11, ↓evS.eq_12, ↓evS.eq_13, ↓evS.eq_14, ↓evS.eq_15, ↓evS.eq_16, ↓evS.eq_17, ↓evS_for, ↓evA.eq_1, ↓evA.eq_2, ↓evT.eq_1, ↓evT.eq_2, ↓evO.eq_1, ↓evO.eq_2, ↓evI.eq_1, ↓evI.eq_2, ↓evI.eq_3, ↓evI.eq_4, ↓evI.eq_5, ↓evF.eq_1, ↓evF.eq_2, ↓m_bind, ↓m_then, ↓m_opt, SRes.bind_nx, SRes.bind_rt, SRes.bind_bk, SRes.bind_ct, SRes.bind_ex, SRes.bind_bad, at_call, at_glo, at_fuel, SRes.back, List.getElem?_cons_zero, List.getElem?_cons_succ, List.set_cons_zero, List.set_cons_succ, asgT, asgTs, cmpV, truV, binV, bltV, tyN, tyLe, subV, Option.map_some, Option.map_none, List.any_cons, List.any_nil, if_true, if_false, ite_true, ite_false, String.reduceBEq, Nat.reduceAdd, Bool.or_false, Bool.false_or, Bool.or_true, Bool.true_or, Bool.and_true, Bool.true_and, Bool.and_false, Bool.false_and, Bool.not_true, Bool.not_false, beq_self_eq_true, decide_true, decide_false, reduceCtorEq, Bool.false_eq_true, Ev.keyOf, dctKeys, List.length_cons, List.length_nil, List.zip_cons_cons, List.zip_nil_left, List.zip_nil_right, List.foldl_cons, List.foldl_nil, methV, setV, isL, permL_cons, permL_nil, List.map_cons, List.map_nil, valP_cons, valP_nil, key_str, key_int, ofString_eq, String.reduceEq, putP, sizeLine_eq, Nat.reduceLT, Nat.reduceLeDiff, sto_self, mulOk, powOk, divOk, Int.reducePow, Nat.reducePow, Int.reduceNeg, Int.reduceLT, Int.reduceLE, natAbs64, natAbs30, Int.reduceToNat, Int.reduceEq, Int.reduceAdd, Int.reduceSub, Int.reduceMul, ne_eq, not_false_eq_true, Int.reduceNe, Ev.alloc, Ev.eq_ii, Ev.eq_ss, Ev.eq_bb, Ev.eq_nn, Ev.eq_ni, Ev.eq_in, Ev.eq_ns, Ev.eq_sn, Ev.eq_nb, Ev.eq_bn, Ev.eq_is, Ev.eq_si, and_self, true_and, and_true, fmod_lt64, fmod_gt64, atI_0, atI_1, atI_2, atI_3, atI_4, atI_5, atI_6, atI_7, atI_8, atI_9, itemsV, smV, fmtV, lenSetV, seqOf, lstOf, slcV, revV, srcOf, optI, List.nil_append, List.cons_append, sto_new, intsP, sortI, insI, compL, compG, wipeP, boolsP, List.all_cons, List.all_nil, id_eq, keep_nil, maxI, minI, intsP, cutf_1, cutf_2, cutf_3, cutf_4, cutt_1, cutt_2, cutt_3, cutt_4, List.drop_succ_cons, List.drop_zero, List.take_succ_cons, List.take_zero, Int.cast_ofNat_Int, false_and, and_false, or_self, or_false, false_or, true_or, or_true, hc, sto_new]
  refine ⟨_, M.length + 3, _, rfl, ⟨by simp, m, 0, ns.reverse, ?_, ?_, by simpa using Nat.le_succ_of_le hn⟩, by simp <;> omega, by omega, Keep.app.trans (Keep.app.trans (Keep.app.trans (Keep.app.trans Keep.app)))⟩
  · rw [sto_new]; simp
  · simp [List.getElem?_append]
theorem Dk.app {i j : Nat} {M : Sto} (h : Dk i j M) (l : List MO) : Dk i j (M ++ l) := by
  obtain ⟨hij, m, d, ns, hi, hj, hn⟩ := h
  exact ⟨hij, m, d, ns, sto_app hi, sto_app hj, hn⟩
theorem Dk.keep {i j : Nat} {M M' : Sto} {out : List Nat} (h : Dk i j M) (k : Keep out M M') (h1 : i ∉ out) (h2 : j ∉ out) : Dk i j M' := by
  obtain ⟨hij, m, d, ns, hi, hj, hn⟩ := h
  exact ⟨hij, m, d, ns, k.get hi h1, k.get hj h2, hn⟩
theorem Dk.lt {i j : Nat} {M : Sto} (h : Dk i j M) : i < M.length ∧ j < M.length := by
  obtain ⟨hij, m, d, ns, hi, hj, hn⟩ := h
  exact ⟨sto_lt hi, sto_lt hj⟩
/-- a pick from a written list of numbers -/
theorem picks (n : Nat) {i j : Nat} {M : Sto} (h : Dk i j M) (xs : List PV) (h0 : 0 < xs.length) (h2 : xs.length < 1073741824) :
    ∃ r M', callN T (n + 2) "_law_pick" [.ref i, .ref M.length] (M ++ [.lst xs]) = .ok r M' ∧ r ∈ xs ∧ Dk i j M' ∧ Keep [i, j] M M' := by
  obtain ⟨r, M', e, rm, d, k⟩ := pick_ok n (k := M.length) (h.app [.lst xs]) (sto_new _ _) (by have := h.lt; omega) h0 h2
  exact ⟨r, M', e, rm, d, Keep.app.trans k⟩
theorem Dk.set' {i j : Nat} {M : Sto} {F : Nat} {o : MO} (h : Dk i j M) (h1 : F ≠ i) (h2 : F ≠ j) : Dk i j (M.set F o) := by
  obtain ⟨hij, m, d, ns, hi, hj, hn⟩ := h
  exact ⟨hij, m, d, ns, by rw [sto_ne h1]; exact hi, by rw [sto_ne h2]; exact hj, hn⟩
theorem pick_str (n : Nat) {i j : Nat} {M : Sto} (h : Dk i j M) {l : List Nat} (h0 : 0 < l.length) (h2 : l.length < 1000000) :
    ∃ c M', callN T (n + 2) "_law_pick" [.ref i, tv l] M = .ok (tv [c]) M' ∧ c ∈ l ∧ Dk i j M' ∧ Keep [i, j] M M' := by
  obtain ⟨r, M', e, h1, h3, d, kp⟩ := draw_ok n (many := l.length) h (by omega) (by omega)
  obtain ⟨x, xm, _, xe⟩ := atI_in l h1 h3
  have l1 : (l.length ≤ 16777216) = True := eq_true (by omega)
  rw [e__law_pick]
  unfold c__law_pick
  simp only [↓evE.eq_1, ↓evE.eq_2, ↓evE.eq_3, ↓evE.eq_4, ↓evE.eq_5, ↓evE.eq_6, ↓evE.eq_7, ↓evE.eq_8, ↓evE.eq_9, ↓evE.eq_10, ↓evE.eq_11, ↓evE.eq_12, ↓evE.eq_13, ↓evE.eq_14, ↓evE.eq_15, ↓evE.eq_16, ↓evE.eq_17, ↓evE.eq_18, ↓evE.eq_19, ↓evE.eq_20, ↓evE.eq_21, ↓evE.eq_22, ↓evE.eq_23, ↓evE.eq_24, ↓evE.eq_25, ↓evE.eq_26, ↓evE.eq_27, ↓evE.eq_28, ↓evE.eq_29, ↓evE.eq_30, ↓evE.eq_31, ↓evE.eq_32, ↓evE.eq_33, ↓evE.eq_34, ↓evE.eq_35, ↓evE.eq_36, ↓evE.eq_37, ↓evE.eq_38, ↓evS.eq_1, ↓evS_seq, ↓evS.eq_3, ↓evS.eq_4, ↓evS.eq_5, ↓evS.eq_6, ↓evS.eq_7, ↓evS.eq_8, ↓evS_ite, ↓iteS, ↓evS.eq_11, ↓evS.eq_12, ↓evS.eq_13, ↓evS.eq_14, ↓evS.eq_15, ↓evS.eq_16, ↓evS.eq_17, ↓evS_for, ↓evA.eq_1, ↓evA.eq_2, ↓evT.eq_1, ↓evT.eq_2, ↓evO.eq_1, ↓evO.eq_2, ↓evI.eq_1, ↓evI.eq_2, ↓evI.eq_3, ↓evI.eq_4, ↓evI.eq_5, ↓evF.eq_1, ↓evF.eq_2, ↓m_bind, ↓m_then, ↓m_opt, SRes.bind_nx, SRes.bind_rt, SRes.bind_bk, SRes.bind_ct, SRes.bind_ex, SRes.bind_bad, at_call, at_glo, at_fuel, SRes.back, List.getElem?_cons_zero, List.getElem?_cons_succ, List.set_cons_zero, List.set_cons_succ, asgT, asgTs, cmpV, truV, binV, bltV, tyN, tyLe, subV, Option.map_some, Option.map_none, List.any_cons, List.any_nil, if_true, if_false, ite_true, ite_false, String.reduceBEq, Nat.reduceAdd, Bool.or_false, Bool.false_or, Bool.or_true, Bool.true_or, Bool.and_true, Bool.true_and, Bool.and_false, Bool.false_and, Bool.not_true, Bool.not_false, beq_self_eq_true, decide_true, decide_false, reduceCtorEq, Bool.false_eq_true, Ev.keyOf, dctKeys, List.length_cons, List.length_nil, List.zip_cons_cons, List.zip_nil_left, List.zip_nil_right, List.foldl_cons, List.foldl_nil, methV, setV, isL, permL_cons, permL_nil, List.map_cons, List.map_nil, valP_cons, valP_nil, key_str, key_int, ofString_eq, String.reduceEq, putP, sizeLine_eq, Nat.reduceLT, Nat.reduceLeDiff, sto_self, mulOk, powOk, divOk, Int.reducePow, Nat.reducePow, Int.reduceNeg, Int.reduceLT, Int.reduceLE, natAbs64, natAbs30, Int.reduceToNat, Int.reduceEq, Int.reduceAdd, Int.reduceSub, Int.reduceMul, ne_eq, not_false_eq_true, Int.reduceNe, Ev.alloc, Ev.eq_ii, Ev.eq_ss, Ev.eq_bb, Ev.eq_nn, Ev.eq_ni, Ev.eq_in, Ev.eq_ns, Ev.eq_sn, Ev.eq_nb, Ev.eq_bn, Ev.eq_is, Ev.eq_si, and_self, true_and, and_true, fmod_lt64, fmod_gt64, atI_0, atI_1, atI_2, atI_3, atI_4, atI_5, atI_6, atI_7, atI_8, atI_9, itemsV, smV, fmtV, lenSetV, seqOf, lstOf, slcV, revV, srcOf, optI, List.nil_append, List.cons_append, sto_new, intsP, sortI, insI, compL, compG, wipeP, boolsP, List.all_cons, List.all_nil, id_eq, keep_nil, maxI, minI, intsP, cutf_1, cutf_2, cutf_3, cutf_4, cutt_1, cutt_2, cutt_3, cutt_4, List.drop_succ_cons, List.drop_zero, List.take_succ_cons, List.take_zero, Int.cast_ofNat_Int, false_and, and_false, or_self, or_false, false_or, true_or, or_true, lit_e, tS_len, tS_cat, tS_eq, tS_lt, List.toList_toArray, l1, e, xe]
  exact ⟨x, M', rfl, xm, d, kp⟩
end K20

set_option Elab.async false
set_option linter.all false
set_option maxRecDepth 100000
set_option maxHeartbeats 4000000
/-! K20q: the program's picks. -/
namespace K20
open PySem L2 Ev
def low (c : Nat) : Prop := 97 ≤ c ∧ c ≤ 122
def word (w : List Nat) : Prop := 1 ≤ w.length ∧ w.length ≤ 10 ∧ ∀ c ∈ w, low c
def abc : List Nat := wd "abcdefghijklmnopqrstuvwxyz"
theorem abc_len : abc.length = 26 := by decide +kernel
theorem abc_eq : abc = (List.range 26).map (97 + ·) := by decide +kernel
theorem abc_mem (c : Nat) : c ∈ abc ↔ low c := by
  rw [abc_eq]
  simp only [List.mem_map, List.mem_range, low]
  constructor
  · rintro ⟨k, hk, rfl⟩; omega
  · exact fun h => ⟨c - 97, by omega, by omega⟩
theorem lit_abc : Str.ofString "abcdefghijklmnopqrstuvwxyz" = tS abc := lit_w _
theorem is_word_ok (n : Nat) (M : Sto) {w : List Nat} (h : word w) : ∃ M', callN T (n + 1) "is_word" [tv w] M = .ok (.bl true) M' ∧ Keep [] M M' := by
  obtain ⟨h1, h2, h3⟩ := h
  have q1 : (w.length ≤ 16777216) = True := eq_true (by omega)
  have q2 : ((1 : Int) ≤ w.length) = True := eq_true (by omega)
  have q3 : ((w.length : Int) ≤ 10) = True := eq_true (by omega)
  rw [e_is_word]
  unfold c_is_word
  simp only [↓evE.eq_1, ↓evE.eq_2, ↓evE.eq_3, ↓evE.eq_4, ↓evE.eq_5, ↓evE.eq_6, ↓evE.eq_7, ↓evE.eq_8, ↓evE.eq_9, ↓evE.eq_10, ↓evE.eq_11, ↓evE.eq_12, ↓evE.eq_13, ↓evE.eq_14, ↓evE.eq_15, ↓evE.eq_16, ↓evE.eq_17, ↓evE.eq_18, ↓evE.eq_19, ↓evE.eq_20, ↓evE.eq_21, ↓evE.eq_22, ↓evE.eq_23, ↓evE.eq_24, ↓evE.eq_25, ↓evE.eq_26, ↓evE.eq_27, ↓evE.eq_28, ↓evE.eq_29, ↓evE.eq_30, ↓evE.eq_31, ↓evE.eq_32, ↓evE.eq_33, ↓evE.eq_34, ↓evE.eq_35, ↓evE.eq_36, ↓evE.eq_37, ↓evE.eq_38, ↓evS.eq_1, ↓evS_seq, ↓evS.eq_3, ↓evS.eq_4, ↓evS.eq_5, ↓evS.eq_6, ↓evS.eq_7, ↓evS.eq_8, ↓evS_ite, ↓iteS, ↓evS.eq_11, ↓evS.eq_12, ↓evS.eq_13, ↓evS.eq_14, ↓evS.eq_15, ↓evS.eq_16, ↓evS.eq_17, ↓evS_for, ↓evA.eq_1, ↓evA.eq_2, ↓evT.eq_1, ↓evT.eq_2, ↓evO.eq_1, ↓evO.eq_2, ↓evI.eq_1, ↓evI.eq_2, ↓evI.eq_3, ↓evI.eq_4, ↓evI.eq_5, ↓evF.eq_1, ↓evF.eq_2, ↓m_bind, ↓m_then, ↓m_opt, SRes.bind_nx, SRes.bind_rt, SRes.bind_bk, SRes.bind_ct, SRes.bind_ex, SRes.bind_bad, at_call, at_glo, at_fuel, SRes.back, List.getElem?_cons_zero, List.getElem?_cons_succ, List.set_cons_zero, List.set_cons_succ, asgT, asgTs, cmpV, truV, binV, bltV, tyN, tyLe, subV, Option.map_some, Option.map_none, List.any_cons, List.any_nil, if_true, if_false, ite_true, ite_false, String.reduceBEq, Nat.reduceAdd, Bool.or_false, Bool.false_or, Bool.or_true, Bool.true_or, Bool.and_true, Bool.true_and, Bool.and_false, Bool.false_and, Bool.not_true, Bool.not_false, beq_self_eq_true, decide_true, decide_false, reduceCtorEq, Bool.false_eq_true, Ev.keyOf, dctKeys, List.length_cons, List.length_nil, List.zip_cons_cons, List.zip_nil_left, List.zip_nil_right, List.foldl_cons, List.foldl_nil, methV, setV, isL, permL_cons, permL_nil, List.map_cons, List.map_nil, valP_cons, valP_nil, key_str, key_int, ofString_eq, String.reduceEq, putP, sizeLine_eq, Nat.reduceLT, Nat.reduceLeDiff, sto_self, mulOk, powOk, divOk, Int.reducePow, Nat.reducePow, Int.reduceNeg, Int.reduceLT, Int.reduceLE, natAbs64, natAbs30, Int.reduceToNat, Int.reduceEq, Int.reduceAdd, Int.reduceSub, Int.reduceMul, ne_eq, not_false_eq_true, Int.reduceNe, Ev.alloc, Ev.eq_ii, Ev.eq_ss, Ev.eq_bb, Ev.eq_nn, Ev.eq_ni, Ev.eq_in, Ev.eq_ns, Ev.eq_sn, Ev.eq_nb, Ev.eq_bn, Ev.eq_is, Ev.eq_si, and_self, true_and, and_true, fmod_lt64, fmod_gt64, atI_0, atI_1, atI_2, atI_3, atI_4, atI_5, atI_6, atI_7, atI_8, atI_9, itemsV, smV, fmtV, lenSetV, seqOf, lstOf, slcV, revV, srcOf, optI, List.nil_append, List.cons_append, sto_new, intsP, sortI, insI, compL, compG, wipeP, boolsP, List.all_cons, List.all_nil, id_eq, keep_nil, maxI, minI, intsP, cutf_1, cutf_2, cutf_3, cutf_4, cutt_1, cutt_2, cutt_3, cutt_4, List.drop_succ_cons, List.drop_zero, List.take_succ_cons, List.take_zero, Int.cast_ofNat_Int, false_and, and_false, or_self, or_false, false_or, true_or, or_true, lit_e, tS_len, tS_cat, tS_eq, tS_lt, List.toList_toArray, g_MOST_WORD, g_LETTERS, g_MOST_POOL, g_MOST_WEIGHT, g_BEGIN, g_FACTOR, g_MODULUS, GC.pv, q1, q2, q3]
  rw [signs_tsv]
  generalize hz : compL _ _ _ _ _ = z
  have hc := comp_map (w.map fun c => [c]) tv (fun _ => .bl true) hz (keep_nil _) (fun x hx => by
    obtain ⟨c, hc, rfl⟩ := List.mem_map.mp hx
    have hm : decide (c ∈ abc) = true := decide_eq_true ((abc_mem c).mpr (h3 c hc))
    simp only [↓evE.eq_1, ↓evE.eq_2, ↓evE.eq_3, ↓evE.eq_4, ↓evE.eq_5, ↓evE.eq_6, ↓evE.eq_7, ↓evE.eq_8, ↓evE.eq_9, ↓evE.eq_10, ↓evE.eq_11, ↓evE.eq_12, ↓evE.eq_13, ↓evE.eq_14, ↓evE.eq_15, ↓evE.eq_16, ↓evE.eq_17, ↓evE.eq_18, ↓evE.eq_19, ↓evE.eq_20, ↓evE.eq_21, ↓evE.eq_22, ↓evE.eq_23, ↓evE.eq_24, ↓evE.eq_25, ↓evE.eq_26, ↓evE.eq_27, ↓evE.eq_28, ↓evE.eq_29, ↓evE.eq_30, ↓evE.eq_31, ↓evE.eq_32, ↓evE.eq_33, ↓evE.eq_34, ↓evE.eq_35, ↓evE.eq_36, ↓evE.eq_37, ↓evE.eq_38, ↓evS.eq_1, ↓evS_seq, ↓evS.eq_3, ↓evS.eq_4, ↓evS.eq_5, ↓evS.eq_6, ↓evS.eq_7, ↓evS.eq_8, ↓evS_ite, ↓iteS, ↓evS.eq_11, ↓evS.eq_12, ↓evS.eq_13, ↓evS.eq_14, ↓evS.eq_15, ↓evS.eq_16, ↓evS.eq_17, ↓evS_for, ↓evA.eq_1, ↓evA.eq_2, ↓evT.eq_1, ↓evT.eq_2, ↓evO.eq_1, ↓evO.eq_2, ↓evI.eq_1, ↓evI.eq_2, ↓evI.eq_3, ↓evI.eq_4, ↓evI.eq_5, ↓evF.eq_1, ↓evF.eq_2, ↓m_bind, ↓m_then, ↓m_opt, SRes.bind_nx, SRes.bind_rt, SRes.bind_bk, SRes.bind_ct, SRes.bind_ex, SRes.bind_bad, at_call, at_glo, at_fuel, SRes.back, List.getElem?_cons_zero, List.getElem?_cons_succ, List.set_cons_zero, List.set_cons_succ, asgT, asgTs, cmpV, truV, binV, bltV, tyN, tyLe, subV, Option.map_some, Option.map_none, List.any_cons, List.any_nil, if_true, if_false, ite_true, ite_false, String.reduceBEq, Nat.reduceAdd, Bool.or_false, Bool.false_or, Bool.or_true, Bool.true_or, Bool.and_true, Bool.true_and, Bool.and_false, Bool.false_and, Bool.not_true, Bool.not_false, beq_self_eq_true, decide_true, decide_false, reduceCtorEq, Bool.false_eq_true, Ev.keyOf, dctKeys, List.length_cons, List.length_nil, List.zip_cons_cons, List.zip_nil_left, List.zip_nil_right, List.foldl_cons, List.foldl_nil, methV, setV, isL, permL_cons, permL_nil, List.map_cons, List.map_nil, valP_cons, valP_nil, key_str, key_int, ofString_eq, String.reduceEq, putP, sizeLine_eq, Nat.reduceLT, Nat.reduceLeDiff, sto_self, mulOk, powOk, divOk, Int.reducePow, Nat.reducePow, Int.reduceNeg, Int.reduceLT, Int.reduceLE, natAbs64, natAbs30, Int.reduceToNat, Int.reduceEq, Int.reduceAdd, Int.reduceSub, Int.reduceMul, ne_eq, not_false_eq_true, Int.reduceNe, Ev.alloc, Ev.eq_ii, Ev.eq_ss, Ev.eq_bb, Ev.eq_nn, Ev.eq_ni, Ev.eq_in, Ev.eq_ns, Ev.eq_sn, Ev.eq_nb, Ev.eq_bn, Ev.eq_is, Ev.eq_si, and_self, true_and, and_true, fmod_lt64, fmod_gt64, atI_0, atI_1, atI_2, atI_3, atI_4, atI_5, atI_6, atI_7, atI_8, atI_9, itemsV, smV, fmtV, lenSetV, seqOf, lstOf, slcV, revV, srcOf, optI, List.nil_append, List.cons_append, sto_new, intsP, sortI, insI, compL, compG, wipeP, boolsP, List.all_cons, List.all_nil, id_eq, keep_nil, maxI, minI, intsP, cutf_1, cutf_2, cutf_3, cutf_4, cutt_1, cutt_2, cutt_3, cutt_4, List.drop_succ_cons, List.drop_zero, List.take_succ_cons, List.take_zero, Int.cast_ofNat_Int, false_and, and_false, or_self, or_false, false_or, true_or, or_true, lit_e, tS_len, tS_cat, tS_eq, tS_lt, List.toList_toArray, g_MOST_WORD, g_LETTERS, g_MOST_POOL, g_MOST_WEIGHT, g_BEGIN, g_FACTOR, g_MODULUS, GC.pv, lit_abc, in_tx, hm]) (by rw [sizeLine_eq]; simp; omega)
  subst hc
  have e := bools_of (fun _ => true) (w.map fun c => [c])
  have e2 : ((w.map fun c => [c]).map fun _ => true).all id = true := by simp
  simp only [↓evE.eq_1, ↓evE.eq_2, ↓evE.eq_3, ↓evE.eq_4, ↓evE.eq_5, ↓evE.eq_6, ↓evE.eq_7, ↓evE.eq_8, ↓evE.eq_9, ↓evE.eq_10, ↓evE.eq_11, ↓evE.eq_12, ↓evE.eq_13, ↓evE.eq_14, ↓evE.eq_15, ↓evE.eq_16, ↓evE.eq_17, ↓evE.eq_18, ↓evE.eq_19, ↓evE.eq_20, ↓evE.eq_21, ↓evE.eq_22, ↓evE.eq_23, ↓evE.eq_24, ↓evE.eq_25, ↓evE.eq_26, ↓evE.eq_27, ↓evE.eq_28, ↓evE.eq_29, ↓evE.eq_30, ↓evE.eq_31, ↓evE.eq_32, ↓evE.eq_33, ↓evE.eq_34, ↓evE.eq_35, ↓evE.eq_36, ↓evE.eq_37, ↓evE.eq_38, ↓evS.eq_1, ↓evS_seq, ↓evS.eq_3, ↓evS.eq_4, ↓evS.eq_5, ↓evS.eq_6, ↓evS.eq_7, ↓evS.eq_8, ↓evS_ite, ↓iteS, ↓evS.eq_11, ↓evS.eq_12, ↓evS.eq_13, ↓evS.eq_14, ↓evS.eq_15, ↓evS.eq_16, ↓evS.eq_17, ↓evS_for, ↓evA.eq_1, ↓evA.eq_2, ↓evT.eq_1, ↓evT.eq_2, ↓evO.eq_1, ↓evO.eq_2, ↓evI.eq_1, ↓evI.eq_2, ↓evI.eq_3, ↓evI.eq_4, ↓evI.eq_5, ↓evF.eq_1, ↓evF.eq_2, ↓m_bind, ↓m_then, ↓m_opt, SRes.bind_nx, SRes.bind_rt, SRes.bind_bk, SRes.bind_ct, SRes.bind_ex, SRes.bind_bad, at_call, at_glo, at_fuel, SRes.back, List.getElem?_cons_zero, List.getElem?_cons_succ, List.set_cons_zero, List.set_cons_succ, asgT, asgTs, cmpV, truV, binV, bltV, tyN, tyLe, subV, Option.map_some, Option.map_none, List.any_cons, List.any_nil, if_true, if_false, ite_true, ite_false, String.reduceBEq, Nat.reduceAdd, Bool.or_false, Bool.false_or, Bool.or_true, Bool.true_or, Bool.and_true, Bool.true_and, Bool.and_false, Bool.false_and, Bool.not_true, Bool.not_false, beq_self_eq_true, decide_true, decide_false, reduceCtorEq, Bool.false_eq_true, Ev.keyOf, dctKeys, List.length_cons, List.length_nil, List.zip_cons_cons, List.zip_nil_left, List.zip_nil_right, List.foldl_cons, List.foldl_nil, methV, setV, isL, permL_cons, permL_nil, List.map_cons, List.map_nil, valP_cons, valP_nil, key_str, key_int, ofString_eq, String.reduceEq, putP, sizeLine_eq, Nat.reduceLT, Nat.reduceLeDiff, sto_self, mulOk, powOk, divOk, Int.reducePow, Nat.reducePow, Int.reduceNeg, Int.reduceLT, Int.reduceLE, natAbs64, natAbs30, Int.reduceToNat, Int.reduceEq, Int.reduceAdd, Int.reduceSub, Int.reduceMul, ne_eq, not_false_eq_true, Int.reduceNe, Ev.alloc, Ev.eq_ii, Ev.eq_ss, Ev.eq_bb, Ev.eq_nn, Ev.eq_ni, Ev.eq_in, Ev.eq_ns, Ev.eq_sn, Ev.eq_nb, Ev.eq_bn, Ev.eq_is, Ev.eq_si, and_self, true_and, and_true, fmod_lt64, fmod_gt64, atI_0, atI_1, atI_2, atI_3, atI_4, atI_5, atI_6, atI_7, atI_8, atI_9, itemsV, smV, fmtV, lenSetV, seqOf, lstOf, slcV, revV, srcOf, optI, List.nil_append, List.cons_append, sto_new, intsP, sortI, insI, compL, compG, wipeP, boolsP, List.all_cons, List.all_nil, id_eq, keep_nil, maxI, minI, intsP, cutf_1, cutf_2, cutf_3, cutf_4, cutt_1, cutt_2, cutt_3, cutt_4, List.drop_succ_cons, List.drop_zero, List.take_succ_cons, List.take_zero, Int.cast_ofNat_Int, false_and, and_false, or_self, or_false, false_or, true_or, or_true, lit_e, tS_len, tS_cat, tS_eq, tS_lt, List.toList_toArray, g_MOST_WORD, g_LETTERS, g_MOST_POOL, g_MOST_WEIGHT, g_BEGIN, g_FACTOR, g_MODULUS, GC.pv, e, e2]
  exact ⟨_, rfl, Keep.app⟩
theorem is_between_ok (n : Nat) (M : Sto) (a b c : Int) : callN T (n + 2) "is_between" [.int a, .int b, .int c] M = .ok (.bl (decide (b ≤ a ∧ a ≤ c))) M := by
  rw [e_is_between]
  unfold c_is_between
  simp only [↓evE.eq_1, ↓evE.eq_2, ↓evE.eq_3, ↓evE.eq_4, ↓evE.eq_5, ↓evE.eq_6, ↓evE.eq_7, ↓evE.eq_8, ↓evE.eq_9, ↓evE.eq_10, ↓evE.eq_11, ↓evE.eq_12, ↓evE.eq_13, ↓evE.eq_14, ↓evE.eq_15, ↓evE.eq_16, ↓evE.eq_17, ↓evE.eq_18, ↓evE.eq_19, ↓evE.eq_20, ↓evE.eq_21, ↓evE.eq_22, ↓evE.eq_23, ↓evE.eq_24, ↓evE.eq_25, ↓evE.eq_26, ↓evE.eq_27, ↓evE.eq_28, ↓evE.eq_29, ↓evE.eq_30, ↓evE.eq_31, ↓evE.eq_32, ↓evE.eq_33, ↓evE.eq_34, ↓evE.eq_35, ↓evE.eq_36, ↓evE.eq_37, ↓evE.eq_38, ↓evS.eq_1, ↓evS_seq, ↓evS.eq_3, ↓evS.eq_4, ↓evS.eq_5, ↓evS.eq_6, ↓evS.eq_7, ↓evS.eq_8, ↓evS_ite, ↓iteS, ↓evS.eq_11, ↓evS.eq_12, ↓evS.eq_13, ↓evS.eq_14, ↓evS.eq_15, ↓evS.eq_16, ↓evS.eq_17, ↓evS_for, ↓evA.eq_1, ↓evA.eq_2, ↓evT.eq_1, ↓evT.eq_2, ↓evO.eq_1, ↓evO.eq_2, ↓evI.eq_1, ↓evI.eq_2, ↓evI.eq_3, ↓evI.eq_4, ↓evI.eq_5, ↓evF.eq_1, ↓evF.eq_2, ↓m_bind, ↓m_then, ↓m_opt, SRes.bind_nx, SRes.bind_rt, SRes.bind_bk, SRes.bind_ct, SRes.bind_ex, SRes.bind_bad, at_call, at_glo, at_fuel, SRes.back, List.getElem?_cons_zero, List.getElem?_cons_succ, List.set_cons_zero, List.set_cons_succ, asgT, asgTs, cmpV, truV, binV, bltV, tyN, tyLe, subV, Option.map_some, Option.map_none, List.any_cons, List.any_nil, if_true, if_false, ite_true, ite_false, String.reduceBEq, Nat.reduceAdd, Bool.or_false, Bool.false_or, Bool.or_true, Bool.true_or, Bool.and_true, Bool.true_and, Bool.and_false, Bool.false_and, Bool.not_true, Bool.not_false, beq_self_eq_true, decide_true, decide_false, reduceCtorEq, Bool.false_eq_true, Ev.keyOf, dctKeys, List.length_cons, List.length_nil, List.zip_cons_cons, List.zip_nil_left, List.zip_nil_right, List.foldl_cons, List.foldl_nil, methV, setV, isL, permL_cons, permL_nil, List.map_cons, List.map_nil, valP_cons, valP_nil, key_str, key_int, ofString_eq, String.reduceEq, putP, sizeLine_eq, Nat.reduceLT, Nat.reduceLeDiff, sto_self, mulOk, powOk, divOk, Int.reducePow, Nat.reducePow, Int.reduceNeg, Int.reduceLT, Int.reduceLE, natAbs64, natAbs30, Int.reduceToNat, Int.reduceEq, Int.reduceAdd, Int.reduceSub, Int.reduceMul, ne_eq, not_false_eq_true, Int.reduceNe, Ev.alloc, Ev.eq_ii, Ev.eq_ss, Ev.eq_bb, Ev.eq_nn, Ev.eq_ni, Ev.eq_in, Ev.eq_ns, Ev.eq_sn, Ev.eq_nb, Ev.eq_bn, Ev.eq_is, Ev.eq_si, and_self, true_and, and_true, fmod_lt64, fmod_gt64, atI_0, atI_1, atI_2, atI_3, atI_4, atI_5, atI_6, atI_7, atI_8, atI_9, itemsV, smV, fmtV, lenSetV, seqOf, lstOf, slcV, revV, srcOf, optI, List.nil_append, List.cons_append, sto_new, intsP, sortI, insI, compL, compG, wipeP, boolsP, List.all_cons, List.all_nil, id_eq, keep_nil, maxI, minI, intsP, cutf_1, cutf_2, cutf_3, cutf_4, cutt_1, cutt_2, cutt_3, cutt_4, List.drop_succ_cons, List.drop_zero, List.take_succ_cons, List.take_zero, Int.cast_ofNat_Int, false_and, and_false, or_self, or_false, false_or, true_or, or_true]
  rw [e_is_integer]
  unfold c_is_integer
  simp only [↓evE.eq_1, ↓evE.eq_2, ↓evE.eq_3, ↓evE.eq_4, ↓evE.eq_5, ↓evE.eq_6, ↓evE.eq_7, ↓evE.eq_8, ↓evE.eq_9, ↓evE.eq_10, ↓evE.eq_11, ↓evE.eq_12, ↓evE.eq_13, ↓evE.eq_14, ↓evE.eq_15, ↓evE.eq_16, ↓evE.eq_17, ↓evE.eq_18, ↓evE.eq_19, ↓evE.eq_20, ↓evE.eq_21, ↓evE.eq_22, ↓evE.eq_23, ↓evE.eq_24, ↓evE.eq_25, ↓evE.eq_26, ↓evE.eq_27, ↓evE.eq_28, ↓evE.eq_29, ↓evE.eq_30, ↓evE.eq_31, ↓evE.eq_32, ↓evE.eq_33, ↓evE.eq_34, ↓evE.eq_35, ↓evE.eq_36, ↓evE.eq_37, ↓evE.eq_38, ↓evS.eq_1, ↓evS_seq, ↓evS.eq_3, ↓evS.eq_4, ↓evS.eq_5, ↓evS.eq_6, ↓evS.eq_7, ↓evS.eq_8, ↓evS_ite, ↓iteS, ↓evS.eq_11, ↓evS.eq_12, ↓evS.eq_13, ↓evS.eq_14, ↓evS.eq_15, ↓evS.eq_16, ↓evS.eq_17, ↓evS_for, ↓evA.eq_1, ↓evA.eq_2, ↓evT.eq_1, ↓evT.eq_2, ↓evO.eq_1, ↓evO.eq_2, ↓evI.eq_1, ↓evI.eq_2, ↓evI.eq_3, ↓evI.eq_4, ↓evI.eq_5, ↓evF.eq_1, ↓evF.eq_2, ↓m_bind, ↓m_then, ↓m_opt, SRes.bind_nx, SRes.bind_rt, SRes.bind_bk, SRes.bind_ct, SRes.bind_ex, SRes.bind_bad, at_call, at_glo, at_fuel, SRes.back, List.getElem?_cons_zero, List.getElem?_cons_succ, List.set_cons_zero, List.set_cons_succ, asgT, asgTs, cmpV, truV, binV, bltV, tyN, tyLe, subV, Option.map_some, Option.map_none, List.any_cons, List.any_nil, if_true, if_false, ite_true, ite_false, String.reduceBEq, Nat.reduceAdd, Bool.or_false, Bool.false_or, Bool.or_true, Bool.true_or, Bool.and_true, Bool.true_and, Bool.and_false, Bool.false_and, Bool.not_true, Bool.not_false, beq_self_eq_true, decide_true, decide_false, reduceCtorEq, Bool.false_eq_true, Ev.keyOf, dctKeys, List.length_cons, List.length_nil, List.zip_cons_cons, List.zip_nil_left, List.zip_nil_right, List.foldl_cons, List.foldl_nil, methV, setV, isL, permL_cons, permL_nil, List.map_cons, List.map_nil, valP_cons, valP_nil, key_str, key_int, ofString_eq, String.reduceEq, putP, sizeLine_eq, Nat.reduceLT, Nat.reduceLeDiff, sto_self, mulOk, powOk, divOk, Int.reducePow, Nat.reducePow, Int.reduceNeg, Int.reduceLT, Int.reduceLE, natAbs64, natAbs30, Int.reduceToNat, Int.reduceEq, Int.reduceAdd, Int.reduceSub, Int.reduceMul, ne_eq, not_false_eq_true, Int.reduceNe, Ev.alloc, Ev.eq_ii, Ev.eq_ss, Ev.eq_bb, Ev.eq_nn, Ev.eq_ni, Ev.eq_in, Ev.eq_ns, Ev.eq_sn, Ev.eq_nb, Ev.eq_bn, Ev.eq_is, Ev.eq_si, and_self, true_and, and_true, fmod_lt64, fmod_gt64, atI_0, atI_1, atI_2, atI_3, atI_4, atI_5, atI_6, atI_7, atI_8, atI_9, itemsV, smV, fmtV, lenSetV, seqOf, lstOf, slcV, revV, srcOf, optI, List.nil_append, List.cons_append, sto_new, intsP, sortI, insI, compL, compG, wipeP, boolsP, List.all_cons, List.all_nil, id_eq, keep_nil, maxI, minI, intsP, cutf_1, cutf_2, cutf_3, cutf_4, cutt_1, cutt_2, cutt_3, cutt_4, List.drop_succ_cons, List.drop_zero, List.take_succ_cons, List.take_zero, Int.cast_ofNat_Int, false_and, and_false, or_self, or_false, false_or, true_or, or_true]
  by_cases h1 : b ≤ a <;> simp only [↓evE.eq_1, ↓evE.eq_2, ↓evE.eq_3, ↓evE.eq_4, ↓evE.eq_5, ↓evE.eq_6, ↓evE.eq_7, ↓evE.eq_8, ↓evE.eq_9, ↓evE.eq_10, ↓evE.eq_11, ↓evE.eq_12, ↓evE.eq_13, ↓evE.eq_14, ↓evE.eq_15, ↓evE.eq_16, ↓evE.eq_17, ↓evE.eq_18, ↓evE.eq_19, ↓evE.eq_20, ↓evE.eq_21, ↓evE.eq_22, ↓evE.eq_23, ↓evE.eq_24, ↓evE.eq_25, ↓evE.eq_26, ↓evE.eq_27, ↓evE.eq_28, ↓evE.eq_29, ↓evE.eq_30, ↓evE.eq_31, ↓evE.eq_32, ↓evE.eq_33, ↓evE.eq_34, ↓evE.eq_35, ↓evE.eq_36, ↓evE.eq_37, ↓evE.eq_38, ↓evS.eq_1, ↓evS_seq, ↓evS.eq_3, ↓evS.eq_4, ↓evS.eq_5, ↓evS.eq_6, ↓evS.eq_7, ↓evS.eq_8, ↓evS_ite, ↓iteS, ↓evS.eq_11, ↓evS.eq_12, ↓evS.eq_13, ↓evS.eq_14, ↓evS.eq_15, ↓evS.eq_16, ↓evS.eq_17, ↓evS_for, ↓evA.eq_1, ↓evA.eq_2, ↓evT.eq_1, ↓evT.eq_2, ↓evO.eq_1, ↓evO.eq_2, ↓evI.eq_1, ↓evI.eq_2, ↓evI.eq_3, ↓evI.eq_4, ↓evI.eq_5, ↓evF.eq_1, ↓evF.eq_2, ↓m_bind, ↓m_then, ↓m_opt, SRes.bind_nx, SRes.bind_rt, SRes.bind_bk, SRes.bind_ct, SRes.bind_ex, SRes.bind_bad, at_call, at_glo, at_fuel, SRes.back, List.getElem?_cons_zero, List.getElem?_cons_succ, List.set_cons_zero, List.set_cons_succ, asgT, asgTs, cmpV, truV, binV, bltV, tyN, tyLe, subV, Option.map_some, Option.map_none, List.any_cons, List.any_nil, if_true, if_false, ite_true, ite_false, String.reduceBEq, Nat.reduceAdd, Bool.or_false, Bool.false_or, Bool.or_true, Bool.true_or, Bool.and_true, Bool.true_and, Bool.and_false, Bool.false_and, Bool.not_true, Bool.not_false, beq_self_eq_true, decide_true, decide_false, reduceCtorEq, Bool.false_eq_true, Ev.keyOf, dctKeys, List.length_cons, List.length_nil, List.zip_cons_cons, List.zip_nil_left, List.zip_nil_right, List.foldl_cons, List.foldl_nil, methV, setV, isL, permL_cons, permL_nil, List.map_cons, List.map_nil, valP_cons, valP_nil, key_str, key_int, ofString_eq, String.reduceEq, putP, sizeLine_eq, Nat.reduceLT, Nat.reduceLeDiff, sto_self, mulOk, powOk, divOk, Int.reducePow, Nat.reducePow, Int.reduceNeg, Int.reduceLT, Int.reduceLE, natAbs64, natAbs30, Int.reduceToNat, Int.reduceEq, Int.reduceAdd, Int.reduceSub, Int.reduceMul, ne_eq, not_false_eq_true, Int.reduceNe, Ev.alloc, Ev.eq_ii, Ev.eq_ss, Ev.eq_bb, Ev.eq_nn, Ev.eq_ni, Ev.eq_in, Ev.eq_ns, Ev.eq_sn, Ev.eq_nb, Ev.eq_bn, Ev.eq_is, Ev.eq_si, and_self, true_and, and_true, fmod_lt64, fmod_gt64, atI_0, atI_1, atI_2, atI_3, atI_4, atI_5, atI_6, atI_7, atI_8, atI_9, itemsV, smV, fmtV, lenSetV, seqOf, lstOf, slcV, revV, srcOf, optI, List.nil_append, List.cons_append, sto_new, intsP, sortI, insI, compL, compG, wipeP, boolsP, List.all_cons, List.all_nil, id_eq, keep_nil, maxI, minI, intsP, cutf_1, cutf_2, cutf_3, cutf_4, cutt_1, cutt_2, cutt_3, cutt_4, List.drop_succ_cons, List.drop_zero, List.take_succ_cons, List.take_zero, Int.cast_ofNat_Int, false_and, and_false, or_self, or_false, false_or, true_or, or_true, h1]
theorem is_count_ok (n : Nat) (M : Sto) (a : Int) : callN T (n + 2) "is_count" [.int a] M = .ok (.bl (decide (0 ≤ a))) M := by
  rw [e_is_count]
  unfold c_is_count
  simp only [↓evE.eq_1, ↓evE.eq_2, ↓evE.eq_3, ↓evE.eq_4, ↓evE.eq_5, ↓evE.eq_6, ↓evE.eq_7, ↓evE.eq_8, ↓evE.eq_9, ↓evE.eq_10, ↓evE.eq_11, ↓evE.eq_12, ↓evE.eq_13, ↓evE.eq_14, ↓evE.eq_15, ↓evE.eq_16, ↓evE.eq_17, ↓evE.eq_18, ↓evE.eq_19, ↓evE.eq_20, ↓evE.eq_21, ↓evE.eq_22, ↓evE.eq_23, ↓evE.eq_24, ↓evE.eq_25, ↓evE.eq_26, ↓evE.eq_27, ↓evE.eq_28, ↓evE.eq_29, ↓evE.eq_30, ↓evE.eq_31, ↓evE.eq_32, ↓evE.eq_33, ↓evE.eq_34, ↓evE.eq_35, ↓evE.eq_36, ↓evE.eq_37, ↓evE.eq_38, ↓evS.eq_1, ↓evS_seq, ↓evS.eq_3, ↓evS.eq_4, ↓evS.eq_5, ↓evS.eq_6, ↓evS.eq_7, ↓evS.eq_8, ↓evS_ite, ↓iteS, ↓evS.eq_11, ↓evS.eq_12, ↓evS.eq_13, ↓evS.eq_14, ↓evS.eq_15, ↓evS.eq_16, ↓evS.eq_17, ↓evS_for, ↓evA.eq_1, ↓evA.eq_2, ↓evT.eq_1, ↓evT.eq_2, ↓evO.eq_1, ↓evO.eq_2, ↓evI.eq_1, ↓evI.eq_2, ↓evI.eq_3, ↓evI.eq_4, ↓evI.eq_5, ↓evF.eq_1, ↓evF.eq_2, ↓m_bind, ↓m_then, ↓m_opt, SRes.bind_nx, SRes.bind_rt, SRes.bind_bk, SRes.bind_ct, SRes.bind_ex, SRes.bind_bad, at_call, at_glo, at_fuel, SRes.back, List.getElem?_cons_zero, List.getElem?_cons_succ, List.set_cons_zero, List.set_cons_succ, asgT, asgTs, cmpV, truV, binV, bltV, tyN, tyLe, subV, Option.map_some, Option.map_none, List.any_cons, List.any_nil, if_true, if_false, ite_true, ite_false, String.reduceBEq, Nat.reduceAdd, Bool.or_false, Bool.false_or, Bool.or_true, Bool.true_or, Bool.and_true, Bool.true_and, Bool.and_false, Bool.false_and, Bool.not_true, Bool.not_false, beq_self_eq_true, decide_true, decide_false, reduceCtorEq, Bool.false_eq_true, Ev.keyOf, dctKeys, List.length_cons, List.length_nil, List.zip_cons_cons, List.zip_nil_left, List.zip_nil_right, List.foldl_cons, List.foldl_nil, methV, setV, isL, permL_cons, permL_nil, List.map_cons, List.map_nil, valP_cons, valP_nil, key_str, key_int, ofString_eq, String.reduceEq, putP, sizeLine_eq, Nat.reduceLT, Nat.reduceLeDiff, sto_self, mulOk, powOk, divOk, Int.reducePow, Nat.reducePow, Int.reduceNeg, Int.reduceLT, Int.reduceLE, natAbs64, natAbs30, Int.reduceToNat, Int.reduceEq, Int.reduceAdd, Int.reduceSub, Int.reduceMul, ne_eq, not_false_eq_true, Int.reduceNe, Ev.alloc, Ev.eq_ii, Ev.eq_ss, Ev.eq_bb, Ev.eq_nn, Ev.eq_ni, Ev.eq_in, Ev.eq_ns, Ev.eq_sn, Ev.eq_nb, Ev.eq_bn, Ev.eq_is, Ev.eq_si, and_self, true_and, and_true, fmod_lt64, fmod_gt64, atI_0, atI_1, atI_2, atI_3, atI_4, atI_5, atI_6, atI_7, atI_8, atI_9, itemsV, smV, fmtV, lenSetV, seqOf, lstOf, slcV, revV, srcOf, optI, List.nil_append, List.cons_append, sto_new, intsP, sortI, insI, compL, compG, wipeP, boolsP, List.all_cons, List.all_nil, id_eq, keep_nil, maxI, minI, intsP, cutf_1, cutf_2, cutf_3, cutf_4, cutt_1, cutt_2, cutt_3, cutt_4, List.drop_succ_cons, List.drop_zero, List.take_succ_cons, List.take_zero, Int.cast_ofNat_Int, false_and, and_false, or_self, or_false, false_or, true_or, or_true]
  rw [e_is_integer]
  unfold c_is_integer
  simp only [↓evE.eq_1, ↓evE.eq_2, ↓evE.eq_3, ↓evE.eq_4, ↓evE.eq_5, ↓evE.eq_6, ↓evE.eq_7, ↓evE.eq_8, ↓evE.eq_9, ↓evE.eq_10, ↓evE.eq_11, ↓evE.eq_12, ↓evE.eq_13, ↓evE.eq_14, ↓evE.eq_15, ↓evE.eq_16, ↓evE.eq_17, ↓evE.eq_18, ↓evE.eq_19, ↓evE.eq_20, ↓evE.eq_21, ↓evE.eq_22, ↓evE.eq_23, ↓evE.eq_24, ↓evE.eq_25, ↓evE.eq_26, ↓evE.eq_27, ↓evE.eq_28, ↓evE.eq_29, ↓evE.eq_30, ↓evE.eq_31, ↓evE.eq_32, ↓evE.eq_33, ↓evE.eq_34, ↓evE.eq_35, ↓evE.eq_36, ↓evE.eq_37, ↓evE.eq_38, ↓evS.eq_1, ↓evS_seq, ↓evS.eq_3, ↓evS.eq_4, ↓evS.eq_5, ↓evS.eq_6, ↓evS.eq_7, ↓evS.eq_8, ↓evS_ite, ↓iteS, ↓evS.eq_11, ↓evS.eq_12, ↓evS.eq_13, ↓evS.eq_14, ↓evS.eq_15, ↓evS.eq_16, ↓evS.eq_17, ↓evS_for, ↓evA.eq_1, ↓evA.eq_2, ↓evT.eq_1, ↓evT.eq_2, ↓evO.eq_1, ↓evO.eq_2, ↓evI.eq_1, ↓evI.eq_2, ↓evI.eq_3, ↓evI.eq_4, ↓evI.eq_5, ↓evF.eq_1, ↓evF.eq_2, ↓m_bind, ↓m_then, ↓m_opt, SRes.bind_nx, SRes.bind_rt, SRes.bind_bk, SRes.bind_ct, SRes.bind_ex, SRes.bind_bad, at_call, at_glo, at_fuel, SRes.back, List.getElem?_cons_zero, List.getElem?_cons_succ, List.set_cons_zero, List.set_cons_succ, asgT, asgTs, cmpV, truV, binV, bltV, tyN, tyLe, subV, Option.map_some, Option.map_none, List.any_cons, List.any_nil, if_true, if_false, ite_true, ite_false, String.reduceBEq, Nat.reduceAdd, Bool.or_false, Bool.false_or, Bool.or_true, Bool.true_or, Bool.and_true, Bool.true_and, Bool.and_false, Bool.false_and, Bool.not_true, Bool.not_false, beq_self_eq_true, decide_true, decide_false, reduceCtorEq, Bool.false_eq_true, Ev.keyOf, dctKeys, List.length_cons, List.length_nil, List.zip_cons_cons, List.zip_nil_left, List.zip_nil_right, List.foldl_cons, List.foldl_nil, methV, setV, isL, permL_cons, permL_nil, List.map_cons, List.map_nil, valP_cons, valP_nil, key_str, key_int, ofString_eq, String.reduceEq, putP, sizeLine_eq, Nat.reduceLT, Nat.reduceLeDiff, sto_self, mulOk, powOk, divOk, Int.reducePow, Nat.reducePow, Int.reduceNeg, Int.reduceLT, Int.reduceLE, natAbs64, natAbs30, Int.reduceToNat, Int.reduceEq, Int.reduceAdd, Int.reduceSub, Int.reduceMul, ne_eq, not_false_eq_true, Int.reduceNe, Ev.alloc, Ev.eq_ii, Ev.eq_ss, Ev.eq_bb, Ev.eq_nn, Ev.eq_ni, Ev.eq_in, Ev.eq_ns, Ev.eq_sn, Ev.eq_nb, Ev.eq_bn, Ev.eq_is, Ev.eq_si, and_self, true_and, and_true, fmod_lt64, fmod_gt64, atI_0, atI_1, atI_2, atI_3, atI_4, atI_5, atI_6, atI_7, atI_8, atI_9, itemsV, smV, fmtV, lenSetV, seqOf, lstOf, slcV, revV, srcOf, optI, List.nil_append, List.cons_append, sto_new, intsP, sortI, insI, compL, compG, wipeP, boolsP, List.all_cons, List.all_nil, id_eq, keep_nil, maxI, minI, intsP, cutf_1, cutf_2, cutf_3, cutf_4, cutt_1, cutt_2, cutt_3, cutt_4, List.drop_succ_cons, List.drop_zero, List.take_succ_cons, List.take_zero, Int.cast_ofNat_Int, false_and, and_false, or_self, or_false, false_or, true_or, or_true]
theorem is_row_ok (n : Nat) (M : Sto) (xs : List PV) (k : Int) : callN T (n + 1) "is_row" [.tup xs, .int k] M = .ok (.bl (decide ((xs.length : Int) = k))) M := by
  rw [e_is_row]
  unfold c_is_row
  simp only [↓evE.eq_1, ↓evE.eq_2, ↓evE.eq_3, ↓evE.eq_4, ↓evE.eq_5, ↓evE.eq_6, ↓evE.eq_7, ↓evE.eq_8, ↓evE.eq_9, ↓evE.eq_10, ↓evE.eq_11, ↓evE.eq_12, ↓evE.eq_13, ↓evE.eq_14, ↓evE.eq_15, ↓evE.eq_16, ↓evE.eq_17, ↓evE.eq_18, ↓evE.eq_19, ↓evE.eq_20, ↓evE.eq_21, ↓evE.eq_22, ↓evE.eq_23, ↓evE.eq_24, ↓evE.eq_25, ↓evE.eq_26, ↓evE.eq_27, ↓evE.eq_28, ↓evE.eq_29, ↓evE.eq_30, ↓evE.eq_31, ↓evE.eq_32, ↓evE.eq_33, ↓evE.eq_34, ↓evE.eq_35, ↓evE.eq_36, ↓evE.eq_37, ↓evE.eq_38, ↓evS.eq_1, ↓evS_seq, ↓evS.eq_3, ↓evS.eq_4, ↓evS.eq_5, ↓evS.eq_6, ↓evS.eq_7, ↓evS.eq_8, ↓evS_ite, ↓iteS, ↓evS.eq_11, ↓evS.eq_12, ↓evS.eq_13, ↓evS.eq_14, ↓evS.eq_15, ↓evS.eq_16, ↓evS.eq_17, ↓evS_for, ↓evA.eq_1, ↓evA.eq_2, ↓evT.eq_1, ↓evT.eq_2, ↓evO.eq_1, ↓evO.eq_2, ↓evI.eq_1, ↓evI.eq_2, ↓evI.eq_3, ↓evI.eq_4, ↓evI.eq_5, ↓evF.eq_1, ↓evF.eq_2, ↓m_bind, ↓m_then, ↓m_opt, SRes.bind_nx, SRes.bind_rt, SRes.bind_bk, SRes.bind_ct, SRes.bind_ex, SRes.bind_bad, at_call, at_glo, at_fuel, SRes.back, List.getElem?_cons_zero, List.getElem?_cons_succ, List.set_cons_zero, List.set_cons_succ, asgT, asgTs, cmpV, truV, binV, bltV, tyN, tyLe, subV, Option.map_some, Option.map_none, List.any_cons, List.any_nil, if_true, if_false, ite_true, ite_false, String.reduceBEq, Nat.reduceAdd, Bool.or_false, Bool.false_or, Bool.or_true, Bool.true_or, Bool.and_true, Bool.true_and, Bool.and_false, Bool.false_and, Bool.not_true, Bool.not_false, beq_self_eq_true, decide_true, decide_false, reduceCtorEq, Bool.false_eq_true, Ev.keyOf, dctKeys, List.length_cons, List.length_nil, List.zip_cons_cons, List.zip_nil_left, List.zip_nil_right, List.foldl_cons, List.foldl_nil, methV, setV, isL, permL_cons, permL_nil, List.map_cons, List.map_nil, valP_cons, valP_nil, key_str, key_int, ofString_eq, String.reduceEq, putP, sizeLine_eq, Nat.reduceLT, Nat.reduceLeDiff, sto_self, mulOk, powOk, divOk, Int.reducePow, Nat.reducePow, Int.reduceNeg, Int.reduceLT, Int.reduceLE, natAbs64, natAbs30, Int.reduceToNat, Int.reduceEq, Int.reduceAdd, Int.reduceSub, Int.reduceMul, ne_eq, not_false_eq_true, Int.reduceNe, Ev.alloc, Ev.eq_ii, Ev.eq_ss, Ev.eq_bb, Ev.eq_nn, Ev.eq_ni, Ev.eq_in, Ev.eq_ns, Ev.eq_sn, Ev.eq_nb, Ev.eq_bn, Ev.eq_is, Ev.eq_si, and_self, true_and, and_true, fmod_lt64, fmod_gt64, atI_0, atI_1, atI_2, atI_3, atI_4, atI_5, atI_6, atI_7, atI_8, atI_9, itemsV, smV, fmtV, lenSetV, seqOf, lstOf, slcV, revV, srcOf, optI, List.nil_append, List.cons_append, sto_new, intsP, sortI, insI, compL, compG, wipeP, boolsP, List.all_cons, List.all_nil, id_eq, keep_nil, maxI, minI, intsP, cutf_1, cutf_2, cutf_3, cutf_4, cutt_1, cutt_2, cutt_3, cutt_4, List.drop_succ_cons, List.drop_zero, List.take_succ_cons, List.take_zero, Int.cast_ofNat_Int, false_and, and_false, or_self, or_false, false_or, true_or, or_true]
/-! pools -/
abbrev Pool := List (List Nat × Nat)
abbrev eV (p : List Nat × Nat) : PV := .tup [tv p.1, .int (p.2 : Nat)]
abbrev pV (P : Pool) : PV := .tup (P.map eV)
structure IsPool (P : Pool) : Prop where
  pos : 1 ≤ P.length
  le : P.length ≤ 8
  w : ∀ p ∈ P, word p.1 ∧ 1 ≤ p.2 ∧ p.2 ≤ 100
  nd : (P.map (·.1)).Nodup
theorem all_const {α : Type} (xs : List α) : (xs.map fun _ => true).all id = true := by simp
theorem keys_tsv : ∀ ts : List (List Nat), keysP (tsv ts) = some (ts.map fun t => (.inr (tS t) : Key))
  | [] => rfl
  | t :: ts => by
    show (keysP (tsv ts)).map (.inr (tS t) :: ·) = _
    rw [keys_tsv ts]; rfl
theorem uniq_nodup {ks : List Key} (h : ks.Nodup) : uniq ks = ks := by
  have : ∀ (xs acc : List Key), (acc ++ xs).Nodup → xs.foldl (fun acc k => if memB k acc = true then acc else acc ++ [k]) acc = acc ++ xs := by
    intro xs
    induction xs with
    | nil => intro acc _; simp
    | cons x xs ih =>
      intro acc hn
      have hx : memB x acc = false := by
        unfold memB
        rw [List.any_eq_false]
        intro y hy e
        have : y = x := of_decide_eq_true e
        subst this
        exact (List.nodup_append.mp hn).2.2 _ hy _ List.mem_cons_self rfl
      rw [List.foldl_cons, hx]
      simp only [Bool.false_eq_true, if_false]
      rw [ih (acc ++ [x]) (by rw [List.append_assoc]; exact hn), List.append_assoc]
      rfl
  have := this ks [] (by simpa using h)
  rw [List.nil_append] at this
  exact this
theorem pool_ok (n : Nat) (M : Sto) {P : Pool} (h : IsPool P) : ∃ M', callN T (n + 3) "is_pool_value" [pV P] M = .ok (.bl true) M' ∧ Keep [] M M' := by
  obtain ⟨h1, h2, h3, h4⟩ := h
  have q1 : ((1 : Int) ≤ P.length) = True := eq_true (by omega)
  have q2 : ((P.length : Int) ≤ 8) = True := eq_true (by omega)
  rw [e_is_pool_value]
  unfold c_is_pool_value
  simp only [↓evE.eq_1, ↓evE.eq_2, ↓evE.eq_3, ↓evE.eq_4, ↓evE.eq_5, ↓evE.eq_6, ↓evE.eq_7, ↓evE.eq_8, ↓evE.eq_9, ↓evE.eq_10, ↓evE.eq_11, ↓evE.eq_12, ↓evE.eq_13, ↓evE.eq_14, ↓evE.eq_15, ↓evE.eq_16, ↓evE.eq_17, ↓evE.eq_18, ↓evE.eq_19, ↓evE.eq_20, ↓evE.eq_21, ↓evE.eq_22, ↓evE.eq_23, ↓evE.eq_24, ↓evE.eq_25, ↓evE.eq_26, ↓evE.eq_27, ↓evE.eq_28, ↓evE.eq_29, ↓evE.eq_30, ↓evE.eq_31, ↓evE.eq_32, ↓evE.eq_33, ↓evE.eq_34, ↓evE.eq_35, ↓evE.eq_36, ↓evE.eq_37, ↓evE.eq_38, ↓evS.eq_1, ↓evS_seq, ↓evS.eq_3, ↓evS.eq_4, ↓evS.eq_5, ↓evS.eq_6, ↓evS.eq_7, ↓evS.eq_8, ↓evS_ite, ↓iteS, ↓evS.eq_11, ↓evS.eq_12, ↓evS.eq_13, ↓evS.eq_14, ↓evS.eq_15, ↓evS.eq_16, ↓evS.eq_17, ↓evS_for, ↓evA.eq_1, ↓evA.eq_2, ↓evT.eq_1, ↓evT.eq_2, ↓evO.eq_1, ↓evO.eq_2, ↓evI.eq_1, ↓evI.eq_2, ↓evI.eq_3, ↓evI.eq_4, ↓evI.eq_5, ↓evF.eq_1, ↓evF.eq_2, ↓m_bind, ↓m_then, ↓m_opt, SRes.bind_nx, SRes.bind_rt, SRes.bind_bk, SRes.bind_ct, SRes.bind_ex, SRes.bind_bad, at_call, at_glo, at_fuel, SRes.back, List.getElem?_cons_zero, List.getElem?_cons_succ, List.set_cons_zero, List.set_cons_succ, asgT, asgTs, cmpV, truV, binV, bltV, tyN, tyLe, subV, Option.map_some, Option.map_none, List.any_cons, List.any_nil, if_true, if_false, ite_true, ite_false, String.reduceBEq, Nat.reduceAdd, Bool.or_false, Bool.false_or, Bool.or_true, Bool.true_or, Bool.and_true, Bool.true_and, Bool.and_false, Bool.false_and, Bool.not_true, Bool.not_false, beq_self_eq_true, decide_true, decide_false, reduceCtorEq, Bool.false_eq_true, Ev.keyOf, dctKeys, List.length_cons, List.length_nil, List.zip_cons_cons, List.zip_nil_left, List.zip_nil_right, List.foldl_cons, List.foldl_nil, methV, setV, isL, permL_cons, permL_nil, List.map_cons, List.map_nil, valP_cons, valP_nil, key_str, key_int, ofString_eq, String.reduceEq, putP, sizeLine_eq, Nat.reduceLT, Nat.reduceLeDiff, sto_self, mulOk, powOk, divOk, Int.reducePow, Nat.reducePow, Int.reduceNeg, Int.reduceLT, Int.reduceLE, natAbs64, natAbs30, Int.reduceToNat, Int.reduceEq, Int.reduceAdd, Int.reduceSub, Int.reduceMul, ne_eq, not_false_eq_true, Int.reduceNe, Ev.alloc, Ev.eq_ii, Ev.eq_ss, Ev.eq_bb, Ev.eq_nn, Ev.eq_ni, Ev.eq_in, Ev.eq_ns, Ev.eq_sn, Ev.eq_nb, Ev.eq_bn, Ev.eq_is, Ev.eq_si, and_self, true_and, and_true, fmod_lt64, fmod_gt64, atI_0, atI_1, atI_2, atI_3, atI_4, atI_5, atI_6, atI_7, atI_8, atI_9, itemsV, smV, fmtV, lenSetV, seqOf, lstOf, slcV, revV, srcOf, optI, List.nil_append, List.cons_append, sto_new, intsP, sortI, insI, compL, compG, wipeP, boolsP, List.all_cons, List.all_nil, id_eq, keep_nil, maxI, minI, intsP, cutf_1, cutf_2, cutf_3, cutf_4, cutt_1, cutt_2, cutt_3, cutt_4, List.drop_succ_cons, List.drop_zero, List.take_succ_cons, List.take_zero, Int.cast_ofNat_Int, false_and, and_false, or_self, or_false, false_or, true_or, or_true, lit_e, tS_len, tS_cat, tS_eq, tS_lt, List.toList_toArray, g_MOST_WORD, g_LETTERS, g_MOST_POOL, g_MOST_WEIGHT, g_BEGIN, g_FACTOR, g_MODULUS, GC.pv, List.length_map, q1, q2]
  generalize hz : compL _ _ _ _ _ = z
  have hc := comp_map P eV (fun _ => .bl true) hz (keep_nil _) (fun p hp => by simp only [↓evE.eq_1, ↓evE.eq_2, ↓evE.eq_3, ↓evE.eq_4, ↓evE.eq_5, ↓evE.eq_6, ↓evE.eq_7, ↓evE.eq_8, ↓evE.eq_9, ↓evE.eq_10, ↓evE.eq_11, ↓evE.eq_12, ↓evE.eq_13, ↓evE.eq_14, ↓evE.eq_15, ↓evE.eq_16, ↓evE.eq_17, ↓evE.eq_18, ↓evE.eq_19, ↓evE.eq_20, ↓evE.eq_21, ↓evE.eq_22, ↓evE.eq_23, ↓evE.eq_24, ↓evE.eq_25, ↓evE.eq_26, ↓evE.eq_27, ↓evE.eq_28, ↓evE.eq_29, ↓evE.eq_30, ↓evE.eq_31, ↓evE.eq_32, ↓evE.eq_33, ↓evE.eq_34, ↓evE.eq_35, ↓evE.eq_36, ↓evE.eq_37, ↓evE.eq_38, ↓evS.eq_1, ↓evS_seq, ↓evS.eq_3, ↓evS.eq_4, ↓evS.eq_5, ↓evS.eq_6, ↓evS.eq_7, ↓evS.eq_8, ↓evS_ite, ↓iteS, ↓evS.eq_11, ↓evS.eq_12, ↓evS.eq_13, ↓evS.eq_14, ↓evS.eq_15, ↓evS.eq_16, ↓evS.eq_17, ↓evS_for, ↓evA.eq_1, ↓evA.eq_2, ↓evT.eq_1, ↓evT.eq_2, ↓evO.eq_1, ↓evO.eq_2, ↓evI.eq_1, ↓evI.eq_2, ↓evI.eq_3, ↓evI.eq_4, ↓evI.eq_5, ↓evF.eq_1, ↓evF.eq_2, ↓m_bind, ↓m_then, ↓m_opt, SRes.bind_nx, SRes.bind_rt, SRes.bind_bk, SRes.bind_ct, SRes.bind_ex, SRes.bind_bad, at_call, at_glo, at_fuel, SRes.back, List.getElem?_cons_zero, List.getElem?_cons_succ, List.set_cons_zero, List.set_cons_succ, asgT, asgTs, cmpV, truV, binV, bltV, tyN, tyLe, subV, Option.map_some, Option.map_none, List.any_cons, List.any_nil, if_true, if_false, ite_true, ite_false, String.reduceBEq, Nat.reduceAdd, Bool.or_false, Bool.false_or, Bool.or_true, Bool.true_or, Bool.and_true, Bool.true_and, Bool.and_false, Bool.false_and, Bool.not_true, Bool.not_false, beq_self_eq_true, decide_true, decide_false, reduceCtorEq, Bool.false_eq_true, Ev.keyOf, dctKeys, List.length_cons, List.length_nil, List.zip_cons_cons, List.zip_nil_left, List.zip_nil_right, List.foldl_cons, List.foldl_nil, methV, setV, isL, permL_cons, permL_nil, List.map_cons, List.map_nil, valP_cons, valP_nil, key_str, key_int, ofString_eq, String.reduceEq, putP, sizeLine_eq, Nat.reduceLT, Nat.reduceLeDiff, sto_self, mulOk, powOk, divOk, Int.reducePow, Nat.reducePow, Int.reduceNeg, Int.reduceLT, Int.reduceLE, natAbs64, natAbs30, Int.reduceToNat, Int.reduceEq, Int.reduceAdd, Int.reduceSub, Int.reduceMul, ne_eq, not_false_eq_true, Int.reduceNe, Ev.alloc, Ev.eq_ii, Ev.eq_ss, Ev.eq_bb, Ev.eq_nn, Ev.eq_ni, Ev.eq_in, Ev.eq_ns, Ev.eq_sn, Ev.eq_nb, Ev.eq_bn, Ev.eq_is, Ev.eq_si, and_self, true_and, and_true, fmod_lt64, fmod_gt64, atI_0, atI_1, atI_2, atI_3, atI_4, atI_5, atI_6, atI_7, atI_8, atI_9, itemsV, smV, fmtV, lenSetV, seqOf, lstOf, slcV, revV, srcOf, optI, List.nil_append, List.cons_append, sto_new, intsP, sortI, insI, compL, compG, wipeP, boolsP, List.all_cons, List.all_nil, id_eq, keep_nil, maxI, minI, intsP, cutf_1, cutf_2, cutf_3, cutf_4, cutt_1, cutt_2, cutt_3, cutt_4, List.drop_succ_cons, List.drop_zero, List.take_succ_cons, List.take_zero, Int.cast_ofNat_Int, false_and, and_false, or_self, or_false, false_or, true_or, or_true, lit_e, tS_len, tS_cat, tS_eq, tS_lt, List.toList_toArray, g_MOST_WORD, g_LETTERS, g_MOST_POOL, g_MOST_WEIGHT, g_BEGIN, g_FACTOR, g_MODULUS, GC.pv, is_row_ok]) (by rw [sizeLine_eq]; omega)
  subst hc
  have e := bools_of (fun _ : List Nat × Nat => true) P
  simp only [↓evE.eq_1, ↓evE.eq_2, ↓evE.eq_3, ↓evE.eq_4, ↓evE.eq_5, ↓evE.eq_6, ↓evE.eq_7, ↓evE.eq_8, ↓evE.eq_9, ↓evE.eq_10, ↓evE.eq_11, ↓evE.eq_12, ↓evE.eq_13, ↓evE.eq_14, ↓evE.eq_15, ↓evE.eq_16, ↓evE.eq_17, ↓evE.eq_18, ↓evE.eq_19, ↓evE.eq_20, ↓evE.eq_21, ↓evE.eq_22, ↓evE.eq_23, ↓evE.eq_24, ↓evE.eq_25, ↓evE.eq_26, ↓evE.eq_27, ↓evE.eq_28, ↓evE.eq_29, ↓evE.eq_30, ↓evE.eq_31, ↓evE.eq_32, ↓evE.eq_33, ↓evE.eq_34, ↓evE.eq_35, ↓evE.eq_36, ↓evE.eq_37, ↓evE.eq_38, ↓evS.eq_1, ↓evS_seq, ↓evS.eq_3, ↓evS.eq_4, ↓evS.eq_5, ↓evS.eq_6, ↓evS.eq_7, ↓evS.eq_8, ↓evS_ite, ↓iteS, ↓evS.eq_11, ↓evS.eq_12, ↓evS.eq_13, ↓evS.eq_14, ↓evS.eq_15, ↓evS.eq_16, ↓evS.eq_17, ↓evS_for, ↓evA.eq_1, ↓evA.eq_2, ↓evT.eq_1, ↓evT.eq_2, ↓evO.eq_1, ↓evO.eq_2, ↓evI.eq_1, ↓evI.eq_2, ↓evI.eq_3, ↓evI.eq_4, ↓evI.eq_5, ↓evF.eq_1, ↓evF.eq_2, ↓m_bind, ↓m_then, ↓m_opt, SRes.bind_nx, SRes.bind_rt, SRes.bind_bk, SRes.bind_ct, SRes.bind_ex, SRes.bind_bad, at_call, at_glo, at_fuel, SRes.back, List.getElem?_cons_zero, List.getElem?_cons_succ, List.set_cons_zero, List.set_cons_succ, asgT, asgTs, cmpV, truV, binV, bltV, tyN, tyLe, subV, Option.map_some, Option.map_none, List.any_cons, List.any_nil, if_true, if_false, ite_true, ite_false, String.reduceBEq, Nat.reduceAdd, Bool.or_false, Bool.false_or, Bool.or_true, Bool.true_or, Bool.and_true, Bool.true_and, Bool.and_false, Bool.false_and, Bool.not_true, Bool.not_false, beq_self_eq_true, decide_true, decide_false, reduceCtorEq, Bool.false_eq_true, Ev.keyOf, dctKeys, List.length_cons, List.length_nil, List.zip_cons_cons, List.zip_nil_left, List.zip_nil_right, List.foldl_cons, List.foldl_nil, methV, setV, isL, permL_cons, permL_nil, List.map_cons, List.map_nil, valP_cons, valP_nil, key_str, key_int, ofString_eq, String.reduceEq, putP, sizeLine_eq, Nat.reduceLT, Nat.reduceLeDiff, sto_self, mulOk, powOk, divOk, Int.reducePow, Nat.reducePow, Int.reduceNeg, Int.reduceLT, Int.reduceLE, natAbs64, natAbs30, Int.reduceToNat, Int.reduceEq, Int.reduceAdd, Int.reduceSub, Int.reduceMul, ne_eq, not_false_eq_true, Int.reduceNe, Ev.alloc, Ev.eq_ii, Ev.eq_ss, Ev.eq_bb, Ev.eq_nn, Ev.eq_ni, Ev.eq_in, Ev.eq_ns, Ev.eq_sn, Ev.eq_nb, Ev.eq_bn, Ev.eq_is, Ev.eq_si, and_self, true_and, and_true, fmod_lt64, fmod_gt64, atI_0, atI_1, atI_2, atI_3, atI_4, atI_5, atI_6, atI_7, atI_8, atI_9, itemsV, smV, fmtV, lenSetV, seqOf, lstOf, slcV, revV, srcOf, optI, List.nil_append, List.cons_append, sto_new, intsP, sortI, insI, compL, compG, wipeP, boolsP, List.all_cons, List.all_nil, id_eq, keep_nil, maxI, minI, intsP, cutf_1, cutf_2, cutf_3, cutf_4, cutt_1, cutt_2, cutt_3, cutt_4, List.drop_succ_cons, List.drop_zero, List.take_succ_cons, List.take_zero, Int.cast_ofNat_Int, false_and, and_false, or_self, or_false, false_or, true_or, or_true, lit_e, tS_len, tS_cat, tS_eq, tS_lt, List.toList_toArray, g_MOST_WORD, g_LETTERS, g_MOST_POOL, g_MOST_WEIGHT, g_BEGIN, g_FACTOR, g_MODULUS, GC.pv, e, all_const]
  generalize hz2 : compL _ _ _ _ _ = z2
  obtain ⟨out, M2, rfl, hout, k2⟩ := comp_gen' hz2 (fun xs acc M2 => (∃ dn rt : Pool, dn ++ rt = P ∧ xs = rt.map eV ∧ acc = dn.map fun _ => PV.bl true) ∧ Keep [] M M2) ⟨⟨[], P, rfl, rfl, rfl⟩, Keep.app⟩ (fun _ _ _ _ => rfl) (fun x xs acc M2 ⟨⟨dn, rt, f1, f2, f3⟩, k⟩ => by
    cases rt with
    | nil => cases f2
    | cons p rt =>
      cases f2
      have hl : dn.length ≤ 8 := by rw [← f1] at h2; simp at h2; omega
      refine ⟨by rw [f3, sizeLine_eq]; simp; omega, ?_⟩
      obtain ⟨w1, w2, w3⟩ := h3 p (by rw [← f1]; simp)
      obtain ⟨M3, e3, k3⟩ := is_word_ok (n + 1) M2 w1
      have b : decide ((1 : Int) ≤ (p.2 : Nat) ∧ ((p.2 : Nat) : Int) ≤ 100) = true := decide_eq_true (by omega)
      refine ⟨M3, .inl ⟨.bl true, ?_, ⟨dn ++ [p], rt, by rw [← f1]; simp, rfl, by rw [f3]; simp⟩, k.trans k3⟩⟩
      simp only [↓evE.eq_1, ↓evE.eq_2, ↓evE.eq_3, ↓evE.eq_4, ↓evE.eq_5, ↓evE.eq_6, ↓evE.eq_7, ↓evE.eq_8, ↓evE.eq_9, ↓evE.eq_10, ↓evE.eq_11, ↓evE.eq_12, ↓evE.eq_13, ↓evE.eq_14, ↓evE.eq_15, ↓evE.eq_16, ↓evE.eq_17, ↓evE.eq_18, ↓evE.eq_19, ↓evE.eq_20, ↓evE.eq_21, ↓evE.eq_22, ↓evE.eq_23, ↓evE.eq_24, ↓evE.eq_25, ↓evE.eq_26, ↓evE.eq_27, ↓evE.eq_28, ↓evE.eq_29, ↓evE.eq_30, ↓evE.eq_31, ↓evE.eq_32, ↓evE.eq_33, ↓evE.eq_34, ↓evE.eq_35, ↓evE.eq_36, ↓evE.eq_37, ↓evE.eq_38, ↓evS.eq_1, ↓evS_seq, ↓evS.eq_3, ↓evS.eq_4, ↓evS.eq_5, ↓evS.eq_6, ↓evS.eq_7, ↓evS.eq_8, ↓evS_ite, ↓iteS, ↓evS.eq_11, ↓evS.eq_12, ↓evS.eq_13, ↓evS.eq_14, ↓evS.eq_15, ↓evS.eq_16, ↓evS.eq_17, ↓evS_for, ↓evA.eq_1, ↓evA.eq_2, ↓evT.eq_1, ↓evT.eq_2, ↓evO.eq_1, ↓evO.eq_2, ↓evI.eq_1, ↓evI.eq_2, ↓evI.eq_3, ↓evI.eq_4, ↓evI.eq_5, ↓evF.eq_1, ↓evF.eq_2, ↓m_bind, ↓m_then, ↓m_opt, SRes.bind_nx, SRes.bind_rt, SRes.bind_bk, SRes.bind_ct, SRes.bind_ex, SRes.bind_bad, at_call, at_glo, at_fuel, SRes.back, List.getElem?_cons_zero, List.getElem?_cons_succ, List.set_cons_zero, List.set_cons_succ, asgT, asgTs, cmpV, truV, binV, bltV, tyN, tyLe, subV, Option.map_some, Option.map_none, List.any_cons, List.any_nil, if_true, if_false, ite_true, ite_false, String.reduceBEq, Nat.reduceAdd, Bool.or_false, Bool.false_or, Bool.or_true, Bool.true_or, Bool.and_true, Bool.true_and, Bool.and_false, Bool.false_and, Bool.not_true, Bool.not_false, beq_self_eq_true, decide_true, decide_false, reduceCtorEq, Bool.false_eq_true, Ev.keyOf, dctKeys, List.length_cons, List.length_nil, List.zip_cons_cons, List.zip_nil_left, List.zip_nil_right, List.foldl_cons, List.foldl_nil, methV, setV, isL, permL_cons, permL_nil, List.map_cons, List.map_nil, valP_cons, valP_nil, key_str, key_int, ofString_eq, String.reduceEq, putP, sizeLine_eq, Nat.reduceLT, Nat.reduceLeDiff, sto_self, mulOk, powOk, divOk, Int.reducePow, Nat.reducePow, Int.reduceNeg, Int.reduceLT, Int.reduceLE, natAbs64, natAbs30, Int.reduceToNat, Int.reduceEq, Int.reduceAdd, Int.reduceSub, Int.reduceMul, ne_eq, not_false_eq_true, Int.reduceNe, Ev.alloc, Ev.eq_ii, Ev.eq_ss, Ev.eq_bb, Ev.eq_nn, Ev.eq_ni, Ev.eq_in, Ev.eq_ns, Ev.eq_sn, Ev.eq_nb, Ev.eq_bn, Ev.eq_is, Ev.eq_si, and_self, true_and, and_true, fmod_lt64, fmod_gt64, atI_0, atI_1, atI_2, atI_3, atI_4, atI_5, atI_6, atI_7, atI_8, atI_9, itemsV, smV, fmtV, lenSetV, seqOf, lstOf, slcV, revV, srcOf, optI, List.nil_append, List.cons_append, sto_new, intsP, sortI, insI, compL, compG, wipeP, boolsP, List.all_cons, List.all_nil, id_eq, keep_nil, maxI, minI, intsP, cutf_1, cutf_2, cutf_3, cutf_4, cutt_1, cutt_2, cutt_3, cutt_4, List.drop_succ_cons, List.drop_zero, List.take_succ_cons, List.take_zero, Int.cast_ofNat_Int, false_and, and_false, or_self, or_false, false_or, true_or, or_true, lit_e, tS_len, tS_cat, tS_eq, tS_lt, List.toList_toArray, g_MOST_WORD, g_LETTERS, g_MOST_POOL, g_MOST_WEIGHT, g_BEGIN, g_FACTOR, g_MODULUS, GC.pv, e3, is_between_ok, b])
  obtain ⟨dn, rt, f1, f2, f3⟩ := hout
  have : rt = [] := by cases rt with
    | nil => rfl
    | cons _ _ => cases f2
  subst this
  rw [List.append_nil] at f1
  subst f1 f3
  simp only [↓evE.eq_1, ↓evE.eq_2, ↓evE.eq_3, ↓evE.eq_4, ↓evE.eq_5, ↓evE.eq_6, ↓evE.eq_7, ↓evE.eq_8, ↓evE.eq_9, ↓evE.eq_10, ↓evE.eq_11, ↓evE.eq_12, ↓evE.eq_13, ↓evE.eq_14, ↓evE.eq_15, ↓evE.eq_16, ↓evE.eq_17, ↓evE.eq_18, ↓evE.eq_19, ↓evE.eq_20, ↓evE.eq_21, ↓evE.eq_22, ↓evE.eq_23, ↓evE.eq_24, ↓evE.eq_25, ↓evE.eq_26, ↓evE.eq_27, ↓evE.eq_28, ↓evE.eq_29, ↓evE.eq_30, ↓evE.eq_31, ↓evE.eq_32, ↓evE.eq_33, ↓evE.eq_34, ↓evE.eq_35, ↓evE.eq_36, ↓evE.eq_37, ↓evE.eq_38, ↓evS.eq_1, ↓evS_seq, ↓evS.eq_3, ↓evS.eq_4, ↓evS.eq_5, ↓evS.eq_6, ↓evS.eq_7, ↓evS.eq_8, ↓evS_ite, ↓iteS, ↓evS.eq_11, ↓evS.eq_12, ↓evS.eq_13, ↓evS.eq_14, ↓evS.eq_15, ↓evS.eq_16, ↓evS.eq_17, ↓evS_for, ↓evA.eq_1, ↓evA.eq_2, ↓evT.eq_1, ↓evT.eq_2, ↓evO.eq_1, ↓evO.eq_2, ↓evI.eq_1, ↓evI.eq_2, ↓evI.eq_3, ↓evI.eq_4, ↓evI.eq_5, ↓evF.eq_1, ↓evF.eq_2, ↓m_bind, ↓m_then, ↓m_opt, SRes.bind_nx, SRes.bind_rt, SRes.bind_bk, SRes.bind_ct, SRes.bind_ex, SRes.bind_bad, at_call, at_glo, at_fuel, SRes.back, List.getElem?_cons_zero, List.getElem?_cons_succ, List.set_cons_zero, List.set_cons_succ, asgT, asgTs, cmpV, truV, binV, bltV, tyN, tyLe, subV, Option.map_some, Option.map_none, List.any_cons, List.any_nil, if_true, if_false, ite_true, ite_false, String.reduceBEq, Nat.reduceAdd, Bool.or_false, Bool.false_or, Bool.or_true, Bool.true_or, Bool.and_true, Bool.true_and, Bool.and_false, Bool.false_and, Bool.not_true, Bool.not_false, beq_self_eq_true, decide_true, decide_false, reduceCtorEq, Bool.false_eq_true, Ev.keyOf, dctKeys, List.length_cons, List.length_nil, List.zip_cons_cons, List.zip_nil_left, List.zip_nil_right, List.foldl_cons, List.foldl_nil, methV, setV, isL, permL_cons, permL_nil, List.map_cons, List.map_nil, valP_cons, valP_nil, key_str, key_int, ofString_eq, String.reduceEq, putP, sizeLine_eq, Nat.reduceLT, Nat.reduceLeDiff, sto_self, mulOk, powOk, divOk, Int.reducePow, Nat.reducePow, Int.reduceNeg, Int.reduceLT, Int.reduceLE, natAbs64, natAbs30, Int.reduceToNat, Int.reduceEq, Int.reduceAdd, Int.reduceSub, Int.reduceMul, ne_eq, not_false_eq_true, Int.reduceNe, Ev.alloc, Ev.eq_ii, Ev.eq_ss, Ev.eq_bb, Ev.eq_nn, Ev.eq_ni, Ev.eq_in, Ev.eq_ns, Ev.eq_sn, Ev.eq_nb, Ev.eq_bn, Ev.eq_is, Ev.eq_si, and_self, true_and, and_true, fmod_lt64, fmod_gt64, atI_0, atI_1, atI_2, atI_3, atI_4, atI_5, atI_6, atI_7, atI_8, atI_9, itemsV, smV, fmtV, lenSetV, seqOf, lstOf, slcV, revV, srcOf, optI, List.nil_append, List.cons_append, sto_new, intsP, sortI, insI, compL, compG, wipeP, boolsP, List.all_cons, List.all_nil, id_eq, keep_nil, maxI, minI, intsP, cutf_1, cutf_2, cutf_3, cutf_4, cutt_1, cutt_2, cutt_3, cutt_4, List.drop_succ_cons, List.drop_zero, List.take_succ_cons, List.take_zero, Int.cast_ofNat_Int, false_and, and_false, or_self, or_false, false_or, true_or, or_true, lit_e, tS_len, tS_cat, tS_eq, tS_lt, List.toList_toArray, g_MOST_WORD, g_LETTERS, g_MOST_POOL, g_MOST_WEIGHT, g_BEGIN, g_FACTOR, g_MODULUS, GC.pv, e, all_const]
  generalize hz3 : compL _ _ _ _ _ = z3
  have hc3 := comp_map dn eV (fun p => tv p.1) hz3 (keep_nil _) (fun p hp => by simp only [↓evE.eq_1, ↓evE.eq_2, ↓evE.eq_3, ↓evE.eq_4, ↓evE.eq_5, ↓evE.eq_6, ↓evE.eq_7, ↓evE.eq_8, ↓evE.eq_9, ↓evE.eq_10, ↓evE.eq_11, ↓evE.eq_12, ↓evE.eq_13, ↓evE.eq_14, ↓evE.eq_15, ↓evE.eq_16, ↓evE.eq_17, ↓evE.eq_18, ↓evE.eq_19, ↓evE.eq_20, ↓evE.eq_21, ↓evE.eq_22, ↓evE.eq_23, ↓evE.eq_24, ↓evE.eq_25, ↓evE.eq_26, ↓evE.eq_27, ↓evE.eq_28, ↓evE.eq_29, ↓evE.eq_30, ↓evE.eq_31, ↓evE.eq_32, ↓evE.eq_33, ↓evE.eq_34, ↓evE.eq_35, ↓evE.eq_36, ↓evE.eq_37, ↓evE.eq_38, ↓evS.eq_1, ↓evS_seq, ↓evS.eq_3, ↓evS.eq_4, ↓evS.eq_5, ↓evS.eq_6, ↓evS.eq_7, ↓evS.eq_8, ↓evS_ite, ↓iteS, ↓evS.eq_11, ↓evS.eq_12, ↓evS.eq_13, ↓evS.eq_14, ↓evS.eq_15, ↓evS.eq_16, ↓evS.eq_17, ↓evS_for, ↓evA.eq_1, ↓evA.eq_2, ↓evT.eq_1, ↓evT.eq_2, ↓evO.eq_1, ↓evO.eq_2, ↓evI.eq_1, ↓evI.eq_2, ↓evI.eq_3, ↓evI.eq_4, ↓evI.eq_5, ↓evF.eq_1, ↓evF.eq_2, ↓m_bind, ↓m_then, ↓m_opt, SRes.bind_nx, SRes.bind_rt, SRes.bind_bk, SRes.bind_ct, SRes.bind_ex, SRes.bind_bad, at_call, at_glo, at_fuel, SRes.back, List.getElem?_cons_zero, List.getElem?_cons_succ, List.set_cons_zero, List.set_cons_succ, asgT, asgTs, cmpV, truV, binV, bltV, tyN, tyLe, subV, Option.map_some, Option.map_none, List.any_cons, List.any_nil, if_true, if_false, ite_true, ite_false, String.reduceBEq, Nat.reduceAdd, Bool.or_false, Bool.false_or, Bool.or_true, Bool.true_or, Bool.and_true, Bool.true_and, Bool.and_false, Bool.false_and, Bool.not_true, Bool.not_false, beq_self_eq_true, decide_true, decide_false, reduceCtorEq, Bool.false_eq_true, Ev.keyOf, dctKeys, List.length_cons, List.length_nil, List.zip_cons_cons, List.zip_nil_left, List.zip_nil_right, List.foldl_cons, List.foldl_nil, methV, setV, isL, permL_cons, permL_nil, List.map_cons, List.map_nil, valP_cons, valP_nil, key_str, key_int, ofString_eq, String.reduceEq, putP, sizeLine_eq, Nat.reduceLT, Nat.reduceLeDiff, sto_self, mulOk, powOk, divOk, Int.reducePow, Nat.reducePow, Int.reduceNeg, Int.reduceLT, Int.reduceLE, natAbs64, natAbs30, Int.reduceToNat, Int.reduceEq, Int.reduceAdd, Int.reduceSub, Int.reduceMul, ne_eq, not_false_eq_true, Int.reduceNe, Ev.alloc, Ev.eq_ii, Ev.eq_ss, Ev.eq_bb, Ev.eq_nn, Ev.eq_ni, Ev.eq_in, Ev.eq_ns, Ev.eq_sn, Ev.eq_nb, Ev.eq_bn, Ev.eq_is, Ev.eq_si, and_self, true_and, and_true, fmod_lt64, fmod_gt64, atI_0, atI_1, atI_2, atI_3, atI_4, atI_5, atI_6, atI_7, atI_8, atI_9, itemsV, smV, fmtV, lenSetV, seqOf, lstOf, slcV, revV, srcOf, optI, List.nil_append, List.cons_append, sto_new, intsP, sortI, insI, compL, compG, wipeP, boolsP, List.all_cons, List.all_nil, id_eq, keep_nil, maxI, minI, intsP, cutf_1, cutf_2, cutf_3, cutf_4, cutt_1, cutt_2, cutt_3, cutt_4, List.drop_succ_cons, List.drop_zero, List.take_succ_cons, List.take_zero, Int.cast_ofNat_Int, false_and, and_false, or_self, or_false, false_or, true_or, or_true, lit_e, tS_len, tS_cat, tS_eq, tS_lt, List.toList_toArray, g_MOST_WORD, g_LETTERS, g_MOST_POOL, g_MOST_WEIGHT, g_BEGIN, g_FACTOR, g_MODULUS, GC.pv]) (by rw [sizeLine_eq]; omega)
  subst hc3
  have ek : keysP (dn.map fun p => tv p.1) = some (dn.map fun p => (.inr (tS p.1) : Key)) := by
    have := keys_tsv (dn.map (·.1))
    simpa [tsv, List.map_map, Function.comp_def] using this
  have nd : (dn.map fun p => (.inr (tS p.1) : Key)).Nodup := by
    have := h4
    rw [List.nodup_iff_pairwise_ne, List.pairwise_map] at this ⊢
    refine this.imp fun {a b} hab e => hab ?_
    have e' : tS a.1 = tS b.1 := Sum.inr.inj e
    exact SX.S_inj e'
  have ul : (dn.length ≤ 4000) = True := eq_true (by omega)
  simp only [↓evE.eq_1, ↓evE.eq_2, ↓evE.eq_3, ↓evE.eq_4, ↓evE.eq_5, ↓evE.eq_6, ↓evE.eq_7, ↓evE.eq_8, ↓evE.eq_9, ↓evE.eq_10, ↓evE.eq_11, ↓evE.eq_12, ↓evE.eq_13, ↓evE.eq_14, ↓evE.eq_15, ↓evE.eq_16, ↓evE.eq_17, ↓evE.eq_18, ↓evE.eq_19, ↓evE.eq_20, ↓evE.eq_21, ↓evE.eq_22, ↓evE.eq_23, ↓evE.eq_24, ↓evE.eq_25, ↓evE.eq_26, ↓evE.eq_27, ↓evE.eq_28, ↓evE.eq_29, ↓evE.eq_30, ↓evE.eq_31, ↓evE.eq_32, ↓evE.eq_33, ↓evE.eq_34, ↓evE.eq_35, ↓evE.eq_36, ↓evE.eq_37, ↓evE.eq_38, ↓evS.eq_1, ↓evS_seq, ↓evS.eq_3, ↓evS.eq_4, ↓evS.eq_5, ↓evS.eq_6, ↓evS.eq_7, ↓evS.eq_8, ↓evS_ite, ↓iteS, ↓evS.eq_11, ↓evS.eq_12, ↓evS.eq_13, ↓evS.eq_14, ↓evS.eq_15, ↓evS.eq_16, ↓evS.eq_17, ↓evS_for, ↓evA.eq_1, ↓evA.eq_2, ↓evT.eq_1, ↓evT.eq_2, ↓evO.eq_1, ↓evO.eq_2, ↓evI.eq_1, ↓evI.eq_2, ↓evI.eq_3, ↓evI.eq_4, ↓evI.eq_5, ↓evF.eq_1, ↓evF.eq_2, ↓m_bind, ↓m_then, ↓m_opt, SRes.bind_nx, SRes.bind_rt, SRes.bind_bk, SRes.bind_ct, SRes.bind_ex, SRes.bind_bad, at_call, at_glo, at_fuel, SRes.back, List.getElem?_cons_zero, List.getElem?_cons_succ, List.set_cons_zero, List.set_cons_succ, asgT, asgTs, cmpV, truV, binV, bltV, tyN, tyLe, subV, Option.map_some, Option.map_none, List.any_cons, List.any_nil, if_true, if_false, ite_true, ite_false, String.reduceBEq, Nat.reduceAdd, Bool.or_false, Bool.false_or, Bool.or_true, Bool.true_or, Bool.and_true, Bool.true_and, Bool.and_false, Bool.false_and, Bool.not_true, Bool.not_false, beq_self_eq_true, decide_true, decide_false, reduceCtorEq, Bool.false_eq_true, Ev.keyOf, dctKeys, List.length_cons, List.length_nil, List.zip_cons_cons, List.zip_nil_left, List.zip_nil_right, List.foldl_cons, List.foldl_nil, methV, setV, isL, permL_cons, permL_nil, List.map_cons, List.map_nil, valP_cons, valP_nil, key_str, key_int, ofString_eq, String.reduceEq, putP, sizeLine_eq, Nat.reduceLT, Nat.reduceLeDiff, sto_self, mulOk, powOk, divOk, Int.reducePow, Nat.reducePow, Int.reduceNeg, Int.reduceLT, Int.reduceLE, natAbs64, natAbs30, Int.reduceToNat, Int.reduceEq, Int.reduceAdd, Int.reduceSub, Int.reduceMul, ne_eq, not_false_eq_true, Int.reduceNe, Ev.alloc, Ev.eq_ii, Ev.eq_ss, Ev.eq_bb, Ev.eq_nn, Ev.eq_ni, Ev.eq_in, Ev.eq_ns, Ev.eq_sn, Ev.eq_nb, Ev.eq_bn, Ev.eq_is, Ev.eq_si, and_self, true_and, and_true, fmod_lt64, fmod_gt64, atI_0, atI_1, atI_2, atI_3, atI_4, atI_5, atI_6, atI_7, atI_8, atI_9, itemsV, smV, fmtV, lenSetV, seqOf, lstOf, slcV, revV, srcOf, optI, List.nil_append, List.cons_append, sto_new, intsP, sortI, insI, compL, compG, wipeP, boolsP, List.all_cons, List.all_nil, id_eq, keep_nil, maxI, minI, intsP, cutf_1, cutf_2, cutf_3, cutf_4, cutt_1, cutt_2, cutt_3, cutt_4, List.drop_succ_cons, List.drop_zero, List.take_succ_cons, List.take_zero, Int.cast_ofNat_Int, false_and, and_false, or_self, or_false, false_or, true_or, or_true, lit_e, tS_len, tS_cat, tS_eq, tS_lt, List.toList_toArray, g_MOST_WORD, g_LETTERS, g_MOST_POOL, g_MOST_WEIGHT, g_BEGIN, g_FACTOR, g_MODULUS, GC.pv, ek, uniq_nodup nd, ul, List.length_map]
  exact ⟨_, rfl, k2.trans (Keep.app.trans Keep.app)⟩
theorem is_pool_ok (n : Nat) (M : Sto) {P : Pool} (h : IsPool P) : ∃ M', callN T (n + 4) "is_pool" [pV P] M = .ok (.bl true) M' ∧ Keep [] M M' := by
  obtain ⟨M', e, k⟩ := pool_ok n M h
  rw [e_is_pool]
  unfold c_is_pool
  simp only [↓evE.eq_1, ↓evE.eq_2, ↓evE.eq_3, ↓evE.eq_4, ↓evE.eq_5, ↓evE.eq_6, ↓evE.eq_7, ↓evE.eq_8, ↓evE.eq_9, ↓evE.eq_10, ↓evE.eq_11, ↓evE.eq_12, ↓evE.eq_13, ↓evE.eq_14, ↓evE.eq_15, ↓evE.eq_16, ↓evE.eq_17, ↓evE.eq_18, ↓evE.eq_19, ↓evE.eq_20, ↓evE.eq_21, ↓evE.eq_22, ↓evE.eq_23, ↓evE.eq_24, ↓evE.eq_25, ↓evE.eq_26, ↓evE.eq_27, ↓evE.eq_28, ↓evE.eq_29, ↓evE.eq_30, ↓evE.eq_31, ↓evE.eq_32, ↓evE.eq_33, ↓evE.eq_34, ↓evE.eq_35, ↓evE.eq_36, ↓evE.eq_37, ↓evE.eq_38, ↓evS.eq_1, ↓evS_seq, ↓evS.eq_3, ↓evS.eq_4, ↓evS.eq_5, ↓evS.eq_6, ↓evS.eq_7, ↓evS.eq_8, ↓evS_ite, ↓iteS, ↓evS.eq_11, ↓evS.eq_12, ↓evS.eq_13, ↓evS.eq_14, ↓evS.eq_15, ↓evS.eq_16, ↓evS.eq_17, ↓evS_for, ↓evA.eq_1, ↓evA.eq_2, ↓evT.eq_1, ↓evT.eq_2, ↓evO.eq_1, ↓evO.eq_2, ↓evI.eq_1, ↓evI.eq_2, ↓evI.eq_3, ↓evI.eq_4, ↓evI.eq_5, ↓evF.eq_1, ↓evF.eq_2, ↓m_bind, ↓m_then, ↓m_opt, SRes.bind_nx, SRes.bind_rt, SRes.bind_bk, SRes.bind_ct, SRes.bind_ex, SRes.bind_bad, at_call, at_glo, at_fuel, SRes.back, List.getElem?_cons_zero, List.getElem?_cons_succ, List.set_cons_zero, List.set_cons_succ, asgT, asgTs, cmpV, truV, binV, bltV, tyN, tyLe, subV, Option.map_some, Option.map_none, List.any_cons, List.any_nil, if_true, if_false, ite_true, ite_false, String.reduceBEq, Nat.reduceAdd, Bool.or_false, Bool.false_or, Bool.or_true, Bool.true_or, Bool.and_true, Bool.true_and, Bool.and_false, Bool.false_and, Bool.not_true, Bool.not_false, beq_self_eq_true, decide_true, decide_false, reduceCtorEq, Bool.false_eq_true, Ev.keyOf, dctKeys, List.length_cons, List.length_nil, List.zip_cons_cons, List.zip_nil_left, List.zip_nil_right, List.foldl_cons, List.foldl_nil, methV, setV, isL, permL_cons, permL_nil, List.map_cons, List.map_nil, valP_cons, valP_nil, key_str, key_int, ofString_eq, String.reduceEq, putP, sizeLine_eq, Nat.reduceLT, Nat.reduceLeDiff, sto_self, mulOk, powOk, divOk, Int.reducePow, Nat.reducePow, Int.reduceNeg, Int.reduceLT, Int.reduceLE, natAbs64, natAbs30, Int.reduceToNat, Int.reduceEq, Int.reduceAdd, Int.reduceSub, Int.reduceMul, ne_eq, not_false_eq_true, Int.reduceNe, Ev.alloc, Ev.eq_ii, Ev.eq_ss, Ev.eq_bb, Ev.eq_nn, Ev.eq_ni, Ev.eq_in, Ev.eq_ns, Ev.eq_sn, Ev.eq_nb, Ev.eq_bn, Ev.eq_is, Ev.eq_si, and_self, true_and, and_true, fmod_lt64, fmod_gt64, atI_0, atI_1, atI_2, atI_3, atI_4, atI_5, atI_6, atI_7, atI_8, atI_9, itemsV, smV, fmtV, lenSetV, seqOf, lstOf, slcV, revV, srcOf, optI, List.nil_append, List.cons_append, sto_new, intsP, sortI, insI, compL, compG, wipeP, boolsP, List.all_cons, List.all_nil, id_eq, keep_nil, maxI, minI, intsP, cutf_1, cutf_2, cutf_3, cutf_4, cutt_1, cutt_2, cutt_3, cutt_4, List.drop_succ_cons, List.drop_zero, List.take_succ_cons, List.take_zero, Int.cast_ofNat_Int, false_and, and_false, or_self, or_false, false_or, true_or, or_true, lit_e, tS_len, tS_cat, tS_eq, tS_lt, List.toList_toArray, g_MOST_WORD, g_LETTERS, g_MOST_POOL, g_MOST_WEIGHT, g_BEGIN, g_FACTOR, g_MODULUS, GC.pv, e]
  exact ⟨_, rfl, k⟩
theorem need_pool_ok (n : Nat) (M : Sto) {P : Pool} (h : IsPool P) : ∃ M', callN T (n + 4) "need_pool" [pV P] M = .ok .non M' ∧ Keep [] M M' := by
  obtain ⟨M', e, k⟩ := pool_ok n M h
  rw [e_need_pool]
  unfold c_need_pool
  simp only [↓evE.eq_1, ↓evE.eq_2, ↓evE.eq_3, ↓evE.eq_4, ↓evE.eq_5, ↓evE.eq_6, ↓evE.eq_7, ↓evE.eq_8, ↓evE.eq_9, ↓evE.eq_10, ↓evE.eq_11, ↓evE.eq_12, ↓evE.eq_13, ↓evE.eq_14, ↓evE.eq_15, ↓evE.eq_16, ↓evE.eq_17, ↓evE.eq_18, ↓evE.eq_19, ↓evE.eq_20, ↓evE.eq_21, ↓evE.eq_22, ↓evE.eq_23, ↓evE.eq_24, ↓evE.eq_25, ↓evE.eq_26, ↓evE.eq_27, ↓evE.eq_28, ↓evE.eq_29, ↓evE.eq_30, ↓evE.eq_31, ↓evE.eq_32, ↓evE.eq_33, ↓evE.eq_34, ↓evE.eq_35, ↓evE.eq_36, ↓evE.eq_37, ↓evE.eq_38, ↓evS.eq_1, ↓evS_seq, ↓evS.eq_3, ↓evS.eq_4, ↓evS.eq_5, ↓evS.eq_6, ↓evS.eq_7, ↓evS.eq_8, ↓evS_ite, ↓iteS, ↓evS.eq_11, ↓evS.eq_12, ↓evS.eq_13, ↓evS.eq_14, ↓evS.eq_15, ↓evS.eq_16, ↓evS.eq_17, ↓evS_for, ↓evA.eq_1, ↓evA.eq_2, ↓evT.eq_1, ↓evT.eq_2, ↓evO.eq_1, ↓evO.eq_2, ↓evI.eq_1, ↓evI.eq_2, ↓evI.eq_3, ↓evI.eq_4, ↓evI.eq_5, ↓evF.eq_1, ↓evF.eq_2, ↓m_bind, ↓m_then, ↓m_opt, SRes.bind_nx, SRes.bind_rt, SRes.bind_bk, SRes.bind_ct, SRes.bind_ex, SRes.bind_bad, at_call, at_glo, at_fuel, SRes.back, List.getElem?_cons_zero, List.getElem?_cons_succ, List.set_cons_zero, List.set_cons_succ, asgT, asgTs, cmpV, truV, binV, bltV, tyN, tyLe, subV, Option.map_some, Option.map_none, List.any_cons, List.any_nil, if_true, if_false, ite_true, ite_false, String.reduceBEq, Nat.reduceAdd, Bool.or_false, Bool.false_or, Bool.or_true, Bool.true_or, Bool.and_true, Bool.true_and, Bool.and_false, Bool.false_and, Bool.not_true, Bool.not_false, beq_self_eq_true, decide_true, decide_false, reduceCtorEq, Bool.false_eq_true, Ev.keyOf, dctKeys, List.length_cons, List.length_nil, List.zip_cons_cons, List.zip_nil_left, List.zip_nil_right, List.foldl_cons, List.foldl_nil, methV, setV, isL, permL_cons, permL_nil, List.map_cons, List.map_nil, valP_cons, valP_nil, key_str, key_int, ofString_eq, String.reduceEq, putP, sizeLine_eq, Nat.reduceLT, Nat.reduceLeDiff, sto_self, mulOk, powOk, divOk, Int.reducePow, Nat.reducePow, Int.reduceNeg, Int.reduceLT, Int.reduceLE, natAbs64, natAbs30, Int.reduceToNat, Int.reduceEq, Int.reduceAdd, Int.reduceSub, Int.reduceMul, ne_eq, not_false_eq_true, Int.reduceNe, Ev.alloc, Ev.eq_ii, Ev.eq_ss, Ev.eq_bb, Ev.eq_nn, Ev.eq_ni, Ev.eq_in, Ev.eq_ns, Ev.eq_sn, Ev.eq_nb, Ev.eq_bn, Ev.eq_is, Ev.eq_si, and_self, true_and, and_true, fmod_lt64, fmod_gt64, atI_0, atI_1, atI_2, atI_3, atI_4, atI_5, atI_6, atI_7, atI_8, atI_9, itemsV, smV, fmtV, lenSetV, seqOf, lstOf, slcV, revV, srcOf, optI, List.nil_append, List.cons_append, sto_new, intsP, sortI, insI, compL, compG, wipeP, boolsP, List.all_cons, List.all_nil, id_eq, keep_nil, maxI, minI, intsP, cutf_1, cutf_2, cutf_3, cutf_4, cutt_1, cutt_2, cutt_3, cutt_4, List.drop_succ_cons, List.drop_zero, List.take_succ_cons, List.take_zero, Int.cast_ofNat_Int, false_and, and_false, or_self, or_false, false_or, true_or, or_true, lit_e, tS_len, tS_cat, tS_eq, tS_lt, List.toList_toArray, g_MOST_WORD, g_LETTERS, g_MOST_POOL, g_MOST_WEIGHT, g_BEGIN, g_FACTOR, g_MODULUS, GC.pv, e]
  exact ⟨_, rfl, k⟩
/-! lots -/
abbrev iV (k : Nat) : PV := .int (k : Nat)
abbrev lV (l : List Nat) : PV := .tup (l.map iV)
structure IsLot (P : Pool) (l : List Nat) : Prop where
  ne : l ≠ []
  lt : ∀ a ∈ l, a < P.length
  up : l.Pairwise (· < ·)
theorem lot_len {P : Pool} {l : List Nat} (h : IsLot P l) (hP : IsPool P) : l.length ≤ 8 := by
  have h1 : ∀ (l : List Nat) (k : Nat), l.Pairwise (· < ·) → (∀ a ∈ l, k ≤ a ∧ a < P.length) → l.length + k ≤ P.length ∨ l = [] := by
    intro l
    induction l with
    | nil => intro k _ _; exact .inr rfl
    | cons a l ih =>
      intro k hp hb
      have hp' := List.pairwise_cons.mp hp
      have := hb a List.mem_cons_self
      rcases ih (a + 1) hp'.2 (fun b hb' => ⟨hp'.1 b hb', (hb b (List.mem_cons_of_mem _ hb')).2⟩) with h | h
      · left; simp; omega
      · left; subst h; simp; omega
  rcases h1 l 0 h.up (fun a ha => ⟨Nat.zero_le _, h.lt a ha⟩) with q | q
  · have := hP.le; omega
  · subst q; simp
theorem zip_tail : ∀ l : List Nat, l.Pairwise (· < ·) → ∀ p ∈ l.zip (l.drop 1), p.1 < p.2
  | [], _, p, hp => by simp at hp
  | [a], _, p, hp => by simp at hp
  | a :: b :: l, h, p, hp => by
    have h' := List.pairwise_cons.mp h
    simp only [List.drop_succ_cons, List.drop_zero, List.zip_cons_cons, List.mem_cons] at hp
    rcases hp with rfl | hp
    · exact h'.1 b List.mem_cons_self
    · have := zip_tail (b :: l) h'.2 p
      simp only [List.drop_succ_cons, List.drop_zero] at this
      exact this hp
theorem zipP_map (l m : List Nat) : zipP (l.map iV) (m.map iV) = (l.zip m).map fun p => .tup [iV p.1, iV p.2] := by
  unfold zipP
  induction l generalizing m with
  | nil => simp
  | cons a l ih =>
    cases m with
    | nil => simp
    | cons b m => simp [ih]
theorem is_lot_ok (n : Nat) (M : Sto) {P : Pool} (hP : IsPool P) {l : List Nat} (h : IsLot P l) : ∃ M', callN T (n + 3) "is_lot" [pV P, lV l] M = .ok (.bl true) M' ∧ Keep [] M M' := by
  have hl := lot_len h hP
  obtain ⟨h1, h2, h3⟩ := h
  have pl := hP.pos
  rw [e_is_lot]
  unfold c_is_lot
  simp only [↓evE.eq_1, ↓evE.eq_2, ↓evE.eq_3, ↓evE.eq_4, ↓evE.eq_5, ↓evE.eq_6, ↓evE.eq_7, ↓evE.eq_8, ↓evE.eq_9, ↓evE.eq_10, ↓evE.eq_11, ↓evE.eq_12, ↓evE.eq_13, ↓evE.eq_14, ↓evE.eq_15, ↓evE.eq_16, ↓evE.eq_17, ↓evE.eq_18, ↓evE.eq_19, ↓evE.eq_20, ↓evE.eq_21, ↓evE.eq_22, ↓evE.eq_23, ↓evE.eq_24, ↓evE.eq_25, ↓evE.eq_26, ↓evE.eq_27, ↓evE.eq_28, ↓evE.eq_29, ↓evE.eq_30, ↓evE.eq_31, ↓evE.eq_32, ↓evE.eq_33, ↓evE.eq_34, ↓evE.eq_35, ↓evE.eq_36, ↓evE.eq_37, ↓evE.eq_38, ↓evS.eq_1, ↓evS_seq, ↓evS.eq_3, ↓evS.eq_4, ↓evS.eq_5, ↓evS.eq_6, ↓evS.eq_7, ↓evS.eq_8, ↓evS_ite, ↓iteS, ↓evS.eq_11, ↓evS.eq_12, ↓evS.eq_13, ↓evS.eq_14, ↓evS.eq_15, ↓evS.eq_16, ↓evS.eq_17, ↓evS_for, ↓evA.eq_1, ↓evA.eq_2, ↓evT.eq_1, ↓evT.eq_2, ↓evO.eq_1, ↓evO.eq_2, ↓evI.eq_1, ↓evI.eq_2, ↓evI.eq_3, ↓evI.eq_4, ↓evI.eq_5, ↓evF.eq_1, ↓evF.eq_2, ↓m_bind, ↓m_then, ↓m_opt, SRes.bind_nx, SRes.bind_rt, SRes.bind_bk, SRes.bind_ct, SRes.bind_ex, SRes.bind_bad, at_call, at_glo, at_fuel, SRes.back, List.getElem?_cons_zero, List.getElem?_cons_succ, List.set_cons_zero, List.set_cons_succ, asgT, asgTs, cmpV, truV, binV, bltV, tyN, tyLe, subV, Option.map_some, Option.map_none, List.any_cons, List.any_nil, if_true, if_false, ite_true, ite_false, String.reduceBEq, Nat.reduceAdd, Bool.or_false, Bool.false_or, Bool.or_true, Bool.true_or, Bool.and_true, Bool.true_and, Bool.and_false, Bool.false_and, Bool.not_true, Bool.not_false, beq_self_eq_true, decide_true, decide_false, reduceCtorEq, Bool.false_eq_true, Ev.keyOf, dctKeys, List.length_cons, List.length_nil, List.zip_cons_cons, List.zip_nil_left, List.zip_nil_right, List.foldl_cons, List.foldl_nil, methV, setV, isL, permL_cons, permL_nil, List.map_cons, List.map_nil, valP_cons, valP_nil, key_str, key_int, ofString_eq, String.reduceEq, putP, sizeLine_eq, Nat.reduceLT, Nat.reduceLeDiff, sto_self, mulOk, powOk, divOk, Int.reducePow, Nat.reducePow, Int.reduceNeg, Int.reduceLT, Int.reduceLE, natAbs64, natAbs30, Int.reduceToNat, Int.reduceEq, Int.reduceAdd, Int.reduceSub, Int.reduceMul, ne_eq, not_false_eq_true, Int.reduceNe, Ev.alloc, Ev.eq_ii, Ev.eq_ss, Ev.eq_bb, Ev.eq_nn, Ev.eq_ni, Ev.eq_in, Ev.eq_ns, Ev.eq_sn, Ev.eq_nb, Ev.eq_bn, Ev.eq_is, Ev.eq_si, and_self, true_and, and_true, fmod_lt64, fmod_gt64, atI_0, atI_1, atI_2, atI_3, atI_4, atI_5, atI_6, atI_7, atI_8, atI_9, itemsV, smV, fmtV, lenSetV, seqOf, lstOf, slcV, revV, srcOf, optI, List.nil_append, List.cons_append, sto_new, intsP, sortI, insI, compL, compG, wipeP, boolsP, List.all_cons, List.all_nil, id_eq, keep_nil, maxI, minI, intsP, cutf_1, cutf_2, cutf_3, cutf_4, cutt_1, cutt_2, cutt_3, cutt_4, List.drop_succ_cons, List.drop_zero, List.take_succ_cons, List.take_zero, Int.cast_ofNat_Int, false_and, and_false, or_self, or_false, false_or, true_or, or_true, lit_e, tS_len, tS_cat, tS_eq, tS_lt, List.toList_toArray, g_MOST_WORD, g_LETTERS, g_MOST_POOL, g_MOST_WEIGHT, g_BEGIN, g_FACTOR, g_MODULUS, GC.pv]
  generalize hz : compL _ _ _ _ _ = z
  have hc := comp_map l iV (fun _ => .bl true) hz (keep_nil _) (fun a ha => by
    have := h2 a ha
    have b : decide ((0 : Int) ≤ (a : Nat) ∧ ((a : Nat) : Int) ≤ (P.length : Int) - 1) = true := decide_eq_true (by omega)
    simp only [↓evE.eq_1, ↓evE.eq_2, ↓evE.eq_3, ↓evE.eq_4, ↓evE.eq_5, ↓evE.eq_6, ↓evE.eq_7, ↓evE.eq_8, ↓evE.eq_9, ↓evE.eq_10, ↓evE.eq_11, ↓evE.eq_12, ↓evE.eq_13, ↓evE.eq_14, ↓evE.eq_15, ↓evE.eq_16, ↓evE.eq_17, ↓evE.eq_18, ↓evE.eq_19, ↓evE.eq_20, ↓evE.eq_21, ↓evE.eq_22, ↓evE.eq_23, ↓evE.eq_24, ↓evE.eq_25, ↓evE.eq_26, ↓evE.eq_27, ↓evE.eq_28, ↓evE.eq_29, ↓evE.eq_30, ↓evE.eq_31, ↓evE.eq_32, ↓evE.eq_33, ↓evE.eq_34, ↓evE.eq_35, ↓evE.eq_36, ↓evE.eq_37, ↓evE.eq_38, ↓evS.eq_1, ↓evS_seq, ↓evS.eq_3, ↓evS.eq_4, ↓evS.eq_5, ↓evS.eq_6, ↓evS.eq_7, ↓evS.eq_8, ↓evS_ite, ↓iteS, ↓evS.eq_11, ↓evS.eq_12, ↓evS.eq_13, ↓evS.eq_14, ↓evS.eq_15, ↓evS.eq_16, ↓evS.eq_17, ↓evS_for, ↓evA.eq_1, ↓evA.eq_2, ↓evT.eq_1, ↓evT.eq_2, ↓evO.eq_1, ↓evO.eq_2, ↓evI.eq_1, ↓evI.eq_2, ↓evI.eq_3, ↓evI.eq_4, ↓evI.eq_5, ↓evF.eq_1, ↓evF.eq_2, ↓m_bind, ↓m_then, ↓m_opt, SRes.bind_nx, SRes.bind_rt, SRes.bind_bk, SRes.bind_ct, SRes.bind_ex, SRes.bind_bad, at_call, at_glo, at_fuel, SRes.back, List.getElem?_cons_zero, List.getElem?_cons_succ, List.set_cons_zero, List.set_cons_succ, asgT, asgTs, cmpV, truV, binV, bltV, tyN, tyLe, subV, Option.map_some, Option.map_none, List.any_cons, List.any_nil, if_true, if_false, ite_true, ite_false, String.reduceBEq, Nat.reduceAdd, Bool.or_false, Bool.false_or, Bool.or_true, Bool.true_or, Bool.and_true, Bool.true_and, Bool.and_false, Bool.false_and, Bool.not_true, Bool.not_false, beq_self_eq_true, decide_true, decide_false, reduceCtorEq, Bool.false_eq_true, Ev.keyOf, dctKeys, List.length_cons, List.length_nil, List.zip_cons_cons, List.zip_nil_left, List.zip_nil_right, List.foldl_cons, List.foldl_nil, methV, setV, isL, permL_cons, permL_nil, List.map_cons, List.map_nil, valP_cons, valP_nil, key_str, key_int, ofString_eq, String.reduceEq, putP, sizeLine_eq, Nat.reduceLT, Nat.reduceLeDiff, sto_self, mulOk, powOk, divOk, Int.reducePow, Nat.reducePow, Int.reduceNeg, Int.reduceLT, Int.reduceLE, natAbs64, natAbs30, Int.reduceToNat, Int.reduceEq, Int.reduceAdd, Int.reduceSub, Int.reduceMul, ne_eq, not_false_eq_true, Int.reduceNe, Ev.alloc, Ev.eq_ii, Ev.eq_ss, Ev.eq_bb, Ev.eq_nn, Ev.eq_ni, Ev.eq_in, Ev.eq_ns, Ev.eq_sn, Ev.eq_nb, Ev.eq_bn, Ev.eq_is, Ev.eq_si, and_self, true_and, and_true, fmod_lt64, fmod_gt64, atI_0, atI_1, atI_2, atI_3, atI_4, atI_5, atI_6, atI_7, atI_8, atI_9, itemsV, smV, fmtV, lenSetV, seqOf, lstOf, slcV, revV, srcOf, optI, List.nil_append, List.cons_append, sto_new, intsP, sortI, insI, compL, compG, wipeP, boolsP, List.all_cons, List.all_nil, id_eq, keep_nil, maxI, minI, intsP, cutf_1, cutf_2, cutf_3, cutf_4, cutt_1, cutt_2, cutt_3, cutt_4, List.drop_succ_cons, List.drop_zero, List.take_succ_cons, List.take_zero, Int.cast_ofNat_Int, false_and, and_false, or_self, or_false, false_or, true_or, or_true, lit_e, tS_len, tS_cat, tS_eq, tS_lt, List.toList_toArray, g_MOST_WORD, g_LETTERS, g_MOST_POOL, g_MOST_WEIGHT, g_BEGIN, g_FACTOR, g_MODULUS, GC.pv, is_between_ok, List.length_map, b]) (by rw [sizeLine_eq]; omega)
  subst hc
  have e := bools_of (fun _ : Nat => true) l
  simp only [↓evE.eq_1, ↓evE.eq_2, ↓evE.eq_3, ↓evE.eq_4, ↓evE.eq_5, ↓evE.eq_6, ↓evE.eq_7, ↓evE.eq_8, ↓evE.eq_9, ↓evE.eq_10, ↓evE.eq_11, ↓evE.eq_12, ↓evE.eq_13, ↓evE.eq_14, ↓evE.eq_15, ↓evE.eq_16, ↓evE.eq_17, ↓evE.eq_18, ↓evE.eq_19, ↓evE.eq_20, ↓evE.eq_21, ↓evE.eq_22, ↓evE.eq_23, ↓evE.eq_24, ↓evE.eq_25, ↓evE.eq_26, ↓evE.eq_27, ↓evE.eq_28, ↓evE.eq_29, ↓evE.eq_30, ↓evE.eq_31, ↓evE.eq_32, ↓evE.eq_33, ↓evE.eq_34, ↓evE.eq_35, ↓evE.eq_36, ↓evE.eq_37, ↓evE.eq_38, ↓evS.eq_1, ↓evS_seq, ↓evS.eq_3, ↓evS.eq_4, ↓evS.eq_5, ↓evS.eq_6, ↓evS.eq_7, ↓evS.eq_8, ↓evS_ite, ↓iteS, ↓evS.eq_11, ↓evS.eq_12, ↓evS.eq_13, ↓evS.eq_14, ↓evS.eq_15, ↓evS.eq_16, ↓evS.eq_17, ↓evS_for, ↓evA.eq_1, ↓evA.eq_2, ↓evT.eq_1, ↓evT.eq_2, ↓evO.eq_1, ↓evO.eq_2, ↓evI.eq_1, ↓evI.eq_2, ↓evI.eq_3, ↓evI.eq_4, ↓evI.eq_5, ↓evF.eq_1, ↓evF.eq_2, ↓m_bind, ↓m_then, ↓m_opt, SRes.bind_nx, SRes.bind_rt, SRes.bind_bk, SRes.bind_ct, SRes.bind_ex, SRes.bind_bad, at_call, at_glo, at_fuel, SRes.back, List.getElem?_cons_zero, List.getElem?_cons_succ, List.set_cons_zero, List.set_cons_succ, asgT, asgTs, cmpV, truV, binV, bltV, tyN, tyLe, subV, Option.map_some, Option.map_none, List.any_cons, List.any_nil, if_true, if_false, ite_true, ite_false, String.reduceBEq, Nat.reduceAdd, Bool.or_false, Bool.false_or, Bool.or_true, Bool.true_or, Bool.and_true, Bool.true_and, Bool.and_false, Bool.false_and, Bool.not_true, Bool.not_false, beq_self_eq_true, decide_true, decide_false, reduceCtorEq, Bool.false_eq_true, Ev.keyOf, dctKeys, List.length_cons, List.length_nil, List.zip_cons_cons, List.zip_nil_left, List.zip_nil_right, List.foldl_cons, List.foldl_nil, methV, setV, isL, permL_cons, permL_nil, List.map_cons, List.map_nil, valP_cons, valP_nil, key_str, key_int, ofString_eq, String.reduceEq, putP, sizeLine_eq, Nat.reduceLT, Nat.reduceLeDiff, sto_self, mulOk, powOk, divOk, Int.reducePow, Nat.reducePow, Int.reduceNeg, Int.reduceLT, Int.reduceLE, natAbs64, natAbs30, Int.reduceToNat, Int.reduceEq, Int.reduceAdd, Int.reduceSub, Int.reduceMul, ne_eq, not_false_eq_true, Int.reduceNe, Ev.alloc, Ev.eq_ii, Ev.eq_ss, Ev.eq_bb, Ev.eq_nn, Ev.eq_ni, Ev.eq_in, Ev.eq_ns, Ev.eq_sn, Ev.eq_nb, Ev.eq_bn, Ev.eq_is, Ev.eq_si, and_self, true_and, and_true, fmod_lt64, fmod_gt64, atI_0, atI_1, atI_2, atI_3, atI_4, atI_5, atI_6, atI_7, atI_8, atI_9, itemsV, smV, fmtV, lenSetV, seqOf, lstOf, slcV, revV, srcOf, optI, List.nil_append, List.cons_append, sto_new, intsP, sortI, insI, compL, compG, wipeP, boolsP, List.all_cons, List.all_nil, id_eq, keep_nil, maxI, minI, intsP, cutf_1, cutf_2, cutf_3, cutf_4, cutt_1, cutt_2, cutt_3, cutt_4, List.drop_succ_cons, List.drop_zero, List.take_succ_cons, List.take_zero, Int.cast_ofNat_Int, false_and, and_false, or_self, or_false, false_or, true_or, or_true, lit_e, tS_len, tS_cat, tS_eq, tS_lt, List.toList_toArray, g_MOST_WORD, g_LETTERS, g_MOST_POOL, g_MOST_WEIGHT, g_BEGIN, g_FACTOR, g_MODULUS, GC.pv, e, all_const]
  rw [← List.map_drop, zipP_map]
  generalize hz2 : compL _ _ _ _ _ = z2
  have hc2 := comp_map (l.zip (l.drop 1)) (fun p => PV.tup [iV p.1, iV p.2]) (fun _ => .bl true) hz2 (keep_nil _) (fun p hp => by
    have := zip_tail l h3 p hp
    have b : ((p.1 : Int) < (p.2 : Int)) = True := eq_true (by omega)
    simp only [↓evE.eq_1, ↓evE.eq_2, ↓evE.eq_3, ↓evE.eq_4, ↓evE.eq_5, ↓evE.eq_6, ↓evE.eq_7, ↓evE.eq_8, ↓evE.eq_9, ↓evE.eq_10, ↓evE.eq_11, ↓evE.eq_12, ↓evE.eq_13, ↓evE.eq_14, ↓evE.eq_15, ↓evE.eq_16, ↓evE.eq_17, ↓evE.eq_18, ↓evE.eq_19, ↓evE.eq_20, ↓evE.eq_21, ↓evE.eq_22, ↓evE.eq_23, ↓evE.eq_24, ↓evE.eq_25, ↓evE.eq_26, ↓evE.eq_27, ↓evE.eq_28, ↓evE.eq_29, ↓evE.eq_30, ↓evE.eq_31, ↓evE.eq_32, ↓evE.eq_33, ↓evE.eq_34, ↓evE.eq_35, ↓evE.eq_36, ↓evE.eq_37, ↓evE.eq_38, ↓evS.eq_1, ↓evS_seq, ↓evS.eq_3, ↓evS.eq_4, ↓evS.eq_5, ↓evS.eq_6, ↓evS.eq_7, ↓evS.eq_8, ↓evS_ite, ↓iteS, ↓evS.eq_11, ↓evS.eq_12, ↓evS.eq_13, ↓evS.eq_14, ↓evS.eq_15, ↓evS.eq_16, ↓evS.eq_17, ↓evS_for, ↓evA.eq_1, ↓evA.eq_2, ↓evT.eq_1, ↓evT.eq_2, ↓evO.eq_1, ↓evO.eq_2, ↓evI.eq_1, ↓evI.eq_2, ↓evI.eq_3, ↓evI.eq_4, ↓evI.eq_5, ↓evF.eq_1, ↓evF.eq_2, ↓m_bind, ↓m_then, ↓m_opt, SRes.bind_nx, SRes.bind_rt, SRes.bind_bk, SRes.bind_ct, SRes.bind_ex, SRes.bind_bad, at_call, at_glo, at_fuel, SRes.back, List.getElem?_cons_zero, List.getElem?_cons_succ, List.set_cons_zero, List.set_cons_succ, asgT, asgTs, cmpV, truV, binV, bltV, tyN, tyLe, subV, Option.map_some, Option.map_none, List.any_cons, List.any_nil, if_true, if_false, ite_true, ite_false, String.reduceBEq, Nat.reduceAdd, Bool.or_false, Bool.false_or, Bool.or_true, Bool.true_or, Bool.and_true, Bool.true_and, Bool.and_false, Bool.false_and, Bool.not_true, Bool.not_false, beq_self_eq_true, decide_true, decide_false, reduceCtorEq, Bool.false_eq_true, Ev.keyOf, dctKeys, List.length_cons, List.length_nil, List.zip_cons_cons, List.zip_nil_left, List.zip_nil_right, List.foldl_cons, List.foldl_nil, methV, setV, isL, permL_cons, permL_nil, List.map_cons, List.map_nil, valP_cons, valP_nil, key_str, key_int, ofString_eq, String.reduceEq, putP, sizeLine_eq, Nat.reduceLT, Nat.reduceLeDiff, sto_self, mulOk, powOk, divOk, Int.reducePow, Nat.reducePow, Int.reduceNeg, Int.reduceLT, Int.reduceLE, natAbs64, natAbs30, Int.reduceToNat, Int.reduceEq, Int.reduceAdd, Int.reduceSub, Int.reduceMul, ne_eq, not_false_eq_true, Int.reduceNe, Ev.alloc, Ev.eq_ii, Ev.eq_ss, Ev.eq_bb, Ev.eq_nn, Ev.eq_ni, Ev.eq_in, Ev.eq_ns, Ev.eq_sn, Ev.eq_nb, Ev.eq_bn, Ev.eq_is, Ev.eq_si, and_self, true_and, and_true, fmod_lt64, fmod_gt64, atI_0, atI_1, atI_2, atI_3, atI_4, atI_5, atI_6, atI_7, atI_8, atI_9, itemsV, smV, fmtV, lenSetV, seqOf, lstOf, slcV, revV, srcOf, optI, List.nil_append, List.cons_append, sto_new, intsP, sortI, insI, compL, compG, wipeP, boolsP, List.all_cons, List.all_nil, id_eq, keep_nil, maxI, minI, intsP, cutf_1, cutf_2, cutf_3, cutf_4, cutt_1, cutt_2, cutt_3, cutt_4, List.drop_succ_cons, List.drop_zero, List.take_succ_cons, List.take_zero, Int.cast_ofNat_Int, false_and, and_false, or_self, or_false, false_or, true_or, or_true, lit_e, tS_len, tS_cat, tS_eq, tS_lt, List.toList_toArray, g_MOST_WORD, g_LETTERS, g_MOST_POOL, g_MOST_WEIGHT, g_BEGIN, g_FACTOR, g_MODULUS, GC.pv, b]) (by rw [sizeLine_eq, List.length_zip]; omega)
  subst hc2
  have e2 := bools_of (fun _ : Nat × Nat => true) (l.zip (l.drop 1))
  simp only [↓evE.eq_1, ↓evE.eq_2, ↓evE.eq_3, ↓evE.eq_4, ↓evE.eq_5, ↓evE.eq_6, ↓evE.eq_7, ↓evE.eq_8, ↓evE.eq_9, ↓evE.eq_10, ↓evE.eq_11, ↓evE.eq_12, ↓evE.eq_13, ↓evE.eq_14, ↓evE.eq_15, ↓evE.eq_16, ↓evE.eq_17, ↓evE.eq_18, ↓evE.eq_19, ↓evE.eq_20, ↓evE.eq_21, ↓evE.eq_22, ↓evE.eq_23, ↓evE.eq_24, ↓evE.eq_25, ↓evE.eq_26, ↓evE.eq_27, ↓evE.eq_28, ↓evE.eq_29, ↓evE.eq_30, ↓evE.eq_31, ↓evE.eq_32, ↓evE.eq_33, ↓evE.eq_34, ↓evE.eq_35, ↓evE.eq_36, ↓evE.eq_37, ↓evE.eq_38, ↓evS.eq_1, ↓evS_seq, ↓evS.eq_3, ↓evS.eq_4, ↓evS.eq_5, ↓evS.eq_6, ↓evS.eq_7, ↓evS.eq_8, ↓evS_ite, ↓iteS, ↓evS.eq_11, ↓evS.eq_12, ↓evS.eq_13, ↓evS.eq_14, ↓evS.eq_15, ↓evS.eq_16, ↓evS.eq_17, ↓evS_for, ↓evA.eq_1, ↓evA.eq_2, ↓evT.eq_1, ↓evT.eq_2, ↓evO.eq_1, ↓evO.eq_2, ↓evI.eq_1, ↓evI.eq_2, ↓evI.eq_3, ↓evI.eq_4, ↓evI.eq_5, ↓evF.eq_1, ↓evF.eq_2, ↓m_bind, ↓m_then, ↓m_opt, SRes.bind_nx, SRes.bind_rt, SRes.bind_bk, SRes.bind_ct, SRes.bind_ex, SRes.bind_bad, at_call, at_glo, at_fuel, SRes.back, List.getElem?_cons_zero, List.getElem?_cons_succ, List.set_cons_zero, List.set_cons_succ, asgT, asgTs, cmpV, truV, binV, bltV, tyN, tyLe, subV, Option.map_some, Option.map_none, List.any_cons, List.any_nil, if_true, if_false, ite_true, ite_false, String.reduceBEq, Nat.reduceAdd, Bool.or_false, Bool.false_or, Bool.or_true, Bool.true_or, Bool.and_true, Bool.true_and, Bool.and_false, Bool.false_and, Bool.not_true, Bool.not_false, beq_self_eq_true, decide_true, decide_false, reduceCtorEq, Bool.false_eq_true, Ev.keyOf, dctKeys, List.length_cons, List.length_nil, List.zip_cons_cons, List.zip_nil_left, List.zip_nil_right, List.foldl_cons, List.foldl_nil, methV, setV, isL, permL_cons, permL_nil, List.map_cons, List.map_nil, valP_cons, valP_nil, key_str, key_int, ofString_eq, String.reduceEq, putP, sizeLine_eq, Nat.reduceLT, Nat.reduceLeDiff, sto_self, mulOk, powOk, divOk, Int.reducePow, Nat.reducePow, Int.reduceNeg, Int.reduceLT, Int.reduceLE, natAbs64, natAbs30, Int.reduceToNat, Int.reduceEq, Int.reduceAdd, Int.reduceSub, Int.reduceMul, ne_eq, not_false_eq_true, Int.reduceNe, Ev.alloc, Ev.eq_ii, Ev.eq_ss, Ev.eq_bb, Ev.eq_nn, Ev.eq_ni, Ev.eq_in, Ev.eq_ns, Ev.eq_sn, Ev.eq_nb, Ev.eq_bn, Ev.eq_is, Ev.eq_si, and_self, true_and, and_true, fmod_lt64, fmod_gt64, atI_0, atI_1, atI_2, atI_3, atI_4, atI_5, atI_6, atI_7, atI_8, atI_9, itemsV, smV, fmtV, lenSetV, seqOf, lstOf, slcV, revV, srcOf, optI, List.nil_append, List.cons_append, sto_new, intsP, sortI, insI, compL, compG, wipeP, boolsP, List.all_cons, List.all_nil, id_eq, keep_nil, maxI, minI, intsP, cutf_1, cutf_2, cutf_3, cutf_4, cutt_1, cutt_2, cutt_3, cutt_4, List.drop_succ_cons, List.drop_zero, List.take_succ_cons, List.take_zero, Int.cast_ofNat_Int, false_and, and_false, or_self, or_false, false_or, true_or, or_true, lit_e, tS_len, tS_cat, tS_eq, tS_lt, List.toList_toArray, g_MOST_WORD, g_LETTERS, g_MOST_POOL, g_MOST_WEIGHT, g_BEGIN, g_FACTOR, g_MODULUS, GC.pv, e2, all_const]
  exact ⟨_, rfl, Keep.app.trans Keep.app⟩
theorem need_lot_ok (n : Nat) (M : Sto) {P : Pool} (hP : IsPool P) {l : List Nat} (h : IsLot P l) : ∃ M', callN T (n + 5) "need_lot" [pV P, lV l] M = .ok .non M' ∧ Keep [] M M' := by
  obtain ⟨M1, e1, k1⟩ := need_pool_ok n M hP
  obtain ⟨M2, e2, k2⟩ := is_lot_ok (n + 1) M1 hP h
  rw [e_need_lot]
  unfold c_need_lot
  have hne : eqV M2 (lV l) (.tup []) = some false := by
    have hf : fine (lV l) = true := by
      simp only [fine]
      refine fines_all fun x hx => ?_
      obtain ⟨a, ha, rfl⟩ := List.mem_map.mp hx
      have := h.lt a ha
      have := hP.le
      simp only [fine, decide_eq_true_eq]
      exact small (by omega) (by omega)
    have hd : (pd (lV l)).depth ≤ 64 := by
      have : PyData.depthAll (pds (l.map iV)) ≤ 63 := depths_all fun x hx => by
        obtain ⟨a, ha, rfl⟩ := List.mem_map.mp hx
        simp [pd, PyData.depth]
      simp only [pd, PyData.depth]
      omega
    have e : eqV M2 (lV l) (.tup []) = (match dat M2 (lV l), dat M2 (.tup []) with
      | some d, some e => if SeqAt.shaped d = true ∧ SeqAt.shaped e = true then some (PyData.eqv d e) else none
      | _, _ => none) := rfl
    rw [e, dat_of_fine hf, dat_of_fine (x := .tup []) rfl]
    show (if SeqAt.shaped (pd (lV l)) = true ∧ SeqAt.shaped (pd (.tup [])) = true then some (PyData.eqv (pd (lV l)) (pd (.tup []))) else none) = _
    rw [if_pos ⟨shaped_fine hf hd, shaped_fine (x := .tup []) rfl (by simp [pd, pds, PyData.depth, PyData.depthAll])⟩]
    have := h.ne
    cases l with
    | nil => exact absurd rfl this
    | cons a l => simp [pd, pds, PyData.eqv, PyData.eqvAll]
  simp only [↓evE.eq_1, ↓evE.eq_2, ↓evE.eq_3, ↓evE.eq_4, ↓evE.eq_5, ↓evE.eq_6, ↓evE.eq_7, ↓evE.eq_8, ↓evE.eq_9, ↓evE.eq_10, ↓evE.eq_11, ↓evE.eq_12, ↓evE.eq_13, ↓evE.eq_14, ↓evE.eq_15, ↓evE.eq_16, ↓evE.eq_17, ↓evE.eq_18, ↓evE.eq_19, ↓evE.eq_20, ↓evE.eq_21, ↓evE.eq_22, ↓evE.eq_23, ↓evE.eq_24, ↓evE.eq_25, ↓evE.eq_26, ↓evE.eq_27, ↓evE.eq_28, ↓evE.eq_29, ↓evE.eq_30, ↓evE.eq_31, ↓evE.eq_32, ↓evE.eq_33, ↓evE.eq_34, ↓evE.eq_35, ↓evE.eq_36, ↓evE.eq_37, ↓evE.eq_38, ↓evS.eq_1, ↓evS_seq, ↓evS.eq_3, ↓evS.eq_4, ↓evS.eq_5, ↓evS.eq_6, ↓evS.eq_7, ↓evS.eq_8, ↓evS_ite, ↓iteS, ↓evS.eq_11, ↓evS.eq_12, ↓evS.eq_13, ↓evS.eq_14, ↓evS.eq_15, ↓evS.eq_16, ↓evS.eq_17, ↓evS_for, ↓evA.eq_1, ↓evA.eq_2, ↓evT.eq_1, ↓evT.eq_2, ↓evO.eq_1, ↓evO.eq_2, ↓evI.eq_1, ↓evI.eq_2, ↓evI.eq_3, ↓evI.eq_4, ↓evI.eq_5, ↓evF.eq_1, ↓evF.eq_2, ↓m_bind, ↓m_then, ↓m_opt, SRes.bind_nx, SRes.bind_rt, SRes.bind_bk, SRes.bind_ct, SRes.bind_ex, SRes.bind_bad, at_call, at_glo, at_fuel, SRes.back, List.getElem?_cons_zero, List.getElem?_cons_succ, List.set_cons_zero, List.set_cons_succ, asgT, asgTs, cmpV, truV, binV, bltV, tyN, tyLe, subV, Option.map_some, Option.map_none, List.any_cons, List.any_nil, if_true, if_false, ite_true, ite_false, String.reduceBEq, Nat.reduceAdd, Bool.or_false, Bool.false_or, Bool.or_true, Bool.true_or, Bool.and_true, Bool.true_and, Bool.and_false, Bool.false_and, Bool.not_true, Bool.not_false, beq_self_eq_true, decide_true, decide_false, reduceCtorEq, Bool.false_eq_true, Ev.keyOf, dctKeys, List.length_cons, List.length_nil, List.zip_cons_cons, List.zip_nil_left, List.zip_nil_right, List.foldl_cons, List.foldl_nil, methV, setV, isL, permL_cons, permL_nil, List.map_cons, List.map_nil, valP_cons, valP_nil, key_str, key_int, ofString_eq, String.reduceEq, putP, sizeLine_eq, Nat.reduceLT, Nat.reduceLeDiff, sto_self, mulOk, powOk, divOk, Int.reducePow, Nat.reducePow, Int.reduceNeg, Int.reduceLT, Int.reduceLE, natAbs64, natAbs30, Int.reduceToNat, Int.reduceEq, Int.reduceAdd, Int.reduceSub, Int.reduceMul, ne_eq, not_false_eq_true, Int.reduceNe, Ev.alloc, Ev.eq_ii, Ev.eq_ss, Ev.eq_bb, Ev.eq_nn, Ev.eq_ni, Ev.eq_in, Ev.eq_ns, Ev.eq_sn, Ev.eq_nb, Ev.eq_bn, Ev.eq_is, Ev.eq_si, and_self, true_and, and_true, fmod_lt64, fmod_gt64, atI_0, atI_1, atI_2, atI_3, atI_4, atI_5, atI_6, atI_7, atI_8, atI_9, itemsV, smV, fmtV, lenSetV, seqOf, lstOf, slcV, revV, srcOf, optI, List.nil_append, List.cons_append, sto_new, intsP, sortI, insI, compL, compG, wipeP, boolsP, List.all_cons, List.all_nil, id_eq, keep_nil, maxI, minI, intsP, cutf_1, cutf_2, cutf_3, cutf_4, cutt_1, cutt_2, cutt_3, cutt_4, List.drop_succ_cons, List.drop_zero, List.take_succ_cons, List.take_zero, Int.cast_ofNat_Int, false_and, and_false, or_self, or_false, false_or, true_or, or_true, lit_e, tS_len, tS_cat, tS_eq, tS_lt, List.toList_toArray, g_MOST_WORD, g_LETTERS, g_MOST_POOL, g_MOST_WEIGHT, g_BEGIN, g_FACTOR, g_MODULUS, GC.pv, e1, e2, hne]
  exact ⟨_, rfl, k1.trans k2⟩
end K20

set_option Elab.async false
set_option linter.all false
set_option maxRecDepth 100000
set_option maxHeartbeats 4000000
/-! K20r: least busy, by key. -/
namespace K20
open PySem L2 Ev
/-! ### plain -/
def stp (a : Int) (c : Nat) : Int := (a * 251 + (c : Int)).fmod 65521
def sc (k l : List Nat) : Int := (k ++ [47] ++ l).foldl stp 7
def Best (f : Nat → Int) (l : List Nat) (a : Nat) : Prop := a ∈ l ∧ ∀ b ∈ l, f b < f a ∨ (f b = f a ∧ a ≤ b)
theorem Best.uniq {f : Nat → Int} {l l' : List Nat} {a b : Nat} (h : Best f l a) (h' : Best f l' b) (m : ∀ x, x ∈ l ↔ x ∈ l') : a = b := by
  have h1 := h.2 b ((m b).mpr h'.1)
  have h2 := h'.2 a ((m a).mp h.1)
  omega
def kF (f : Nat → Int) (a : Nat) (l : List Nat) : Nat := l.foldl (fun best at' => if f at' > f best then at' else best) a
theorem kF_best (f : Nat → Int) : ∀ (l : List Nat) (a : Nat) (dn : List Nat), Best f dn a → (∀ x ∈ l, ∀ y ∈ dn, y ≤ x) → l.Pairwise (· < ·) → Best f (dn ++ l) (kF f a l)
  | [], a, dn, h, _, _ => by simpa [kF] using h
  | b :: l, a, dn, h, hl, hp => by
    have hp' := List.pairwise_cons.mp hp
    have hb : Best f (dn ++ [b]) (if f b > f a then b else a) := by
      have hab := hl b List.mem_cons_self a h.1
      by_cases c : f b > f a
      · rw [if_pos c]
        refine ⟨by simp, fun x hx => ?_⟩
        rcases List.mem_append.mp hx with hx | hx
        · have := h.2 x hx; omega
        · rw [List.mem_singleton.mp hx]; omega
      · rw [if_neg c]
        refine ⟨List.mem_append_left _ h.1, fun x hx => ?_⟩
        rcases List.mem_append.mp hx with hx | hx
        · exact h.2 x hx
        · rw [List.mem_singleton.mp hx]; omega
    have := kF_best f l _ (dn ++ [b]) hb (fun x hx y hy => by
      rcases List.mem_append.mp hy with hy | hy
      · exact hl x (List.mem_cons_of_mem _ hx) y hy
      · rw [List.mem_singleton.mp hy]; have := hp'.1 x hx; omega) hp'.2
    rw [List.append_assoc] at this
    exact this
theorem kF_self (f : Nat → Int) (a : Nat) (l : List Nat) : kF f a (a :: l) = kF f a l := by simp [kF]
theorem kF_spec (f : Nat → Int) {a : Nat} {l : List Nat} (h : (a :: l).Pairwise (· < ·)) : Best f (a :: l) (kF f a (a :: l)) := by
  rw [kF_self]
  have h' := List.pairwise_cons.mp h
  have := kF_best f l a [a] ⟨List.mem_singleton_self _, fun b hb => by rw [List.mem_singleton.mp hb]; omega⟩ (fun x hx y hy => by rw [List.mem_singleton.mp hy]; have := h'.1 x hx; omega) h'.2
  exact this
theorem minP_spec {ps : List (Int × Int)} {m : Int × Int} (h : minP ps = some m) : m ∈ ps ∧ ∀ q ∈ ps, Ev.ltP q m = false := by
  cases ps with
  | nil => cases h
  | cons p ps =>
    have h' : ps.foldl (fun a y => if Ev.ltP y a = true then y else a) p = m := Option.some.inj h
    have key : ∀ (ps dn : List (Int × Int)) (p : Int × Int), (p ∈ dn ∧ ∀ q ∈ dn, Ev.ltP q p = false) → ps.foldl (fun a y => if Ev.ltP y a = true then y else a) p ∈ dn ++ ps ∧ ∀ q ∈ dn ++ ps, Ev.ltP q (ps.foldl (fun a y => if Ev.ltP y a = true then y else a) p) = false := by
      intro ps
      induction ps with
      | nil => intro dn p h; simpa using h
      | cons x ps ih =>
        intro dn p ⟨h1, h2⟩
        have hx : (if Ev.ltP x p = true then x else p) ∈ dn ++ [x] ∧ ∀ q ∈ dn ++ [x], Ev.ltP q (if Ev.ltP x p = true then x else p) = false := by
          by_cases c : Ev.ltP x p = true
          · rw [if_pos c]
            refine ⟨by simp, fun q hq => ?_⟩
            rcases List.mem_append.mp hq with hq | hq
            · have := h2 q hq
              simp only [Ev.ltP, decide_eq_false_iff_not, decide_eq_true_eq] at this c ⊢
              omega
            · rw [List.mem_singleton.mp hq]
              simp [Ev.ltP]
          · rw [if_neg c]
            refine ⟨List.mem_append_left _ h1, fun q hq => ?_⟩
            rcases List.mem_append.mp hq with hq | hq
            · exact h2 q hq
            · rw [List.mem_singleton.mp hq]; simpa using c
        have := ih (dn ++ [x]) _ hx
        rw [List.append_assoc] at this
        exact this
    have := key ps [p] p ⟨List.mem_singleton_self _, fun q hq => by rw [List.mem_singleton.mp hq]; simp [Ev.ltP]⟩
    rw [h'] at this
    exact this
theorem minP_some : ∀ {ps : List (Int × Int)}, ps ≠ [] → ∃ m, minP ps = some m
  | [], h => absurd rfl h
  | p :: ps, _ => ⟨_, rfl⟩
/-- what the law's own minimum tells -/
theorem minP_best {f : Nat → Int} {l : List Nat} {m : Int × Int} (h : minP (l.map fun a => (-f a, (a : Int))) = some m) : ∃ a : Nat, m = (-f a, (a : Int)) ∧ Best f l a := by
  obtain ⟨h1, h2⟩ := minP_spec h
  obtain ⟨a, ha, rfl⟩ := List.mem_map.mp h1
  refine ⟨a, rfl, ha, fun b hb => ?_⟩
  have := h2 _ (List.mem_map_of_mem hb)
  simp only [Ev.ltP, decide_eq_false_iff_not] at this
  omega
/-! ### the walk -/
theorem stp_ok (a : Int) (c : Nat) : 0 ≤ stp a c ∧ stp a c < 65521 := ⟨(fmod_ok (by omega)).1, (fmod_ok (by omega)).2⟩
theorem score_of_ok (n : Nat) (M : Sto) {k l : List Nat} (hk : word k) (hl : word l) : callN T (n + 1) "score_of" [tv k, tv l] M = .ok (.int (sc k l)) M := by
  rw [e_score_of]
  unfold c_score_of
  obtain ⟨q1, q2, q3⟩ := hk
  have l1 : (k.length + 1 ≤ 16777216) = True := eq_true (by omega)
  have l2 : ((k ++ [47]).length + l.length ≤ 16777216) = True := eq_true (by have := hl.2.1; simp; omega)
  have ls : Str.ofString "/" = tS [47] := by decide +kernel
  simp only [↓evE.eq_1, ↓evE.eq_2, ↓evE.eq_3, ↓evE.eq_4, ↓evE.eq_5, ↓evE.eq_6, ↓evE.eq_7, ↓evE.eq_8, ↓evE.eq_9, ↓evE.eq_10, ↓evE.eq_11, ↓evE.eq_12, ↓evE.eq_13, ↓evE.eq_14, ↓evE.eq_15, ↓evE.eq_16, ↓evE.eq_17, ↓evE.eq_18, ↓evE.eq_19, ↓evE.eq_20, ↓evE.eq_21, ↓evE.eq_22, ↓evE.eq_23, ↓evE.eq_24, ↓evE.eq_25, ↓evE.eq_26, ↓evE.eq_27, ↓evE.eq_28, ↓evE.eq_29, ↓evE.eq_30, ↓evE.eq_31, ↓evE.eq_32, ↓evE.eq_33, ↓evE.eq_34, ↓evE.eq_35, ↓evE.eq_36, ↓evE.eq_37, ↓evE.eq_38, ↓evS.eq_1, ↓evS_seq, ↓evS.eq_3, ↓evS.eq_4, ↓evS.eq_5, ↓evS.eq_6, ↓evS.eq_7, ↓evS.eq_8, ↓evS_ite, ↓iteS, ↓evS.eq_11, ↓evS.eq_12, ↓evS.eq_13, ↓evS.eq_14, ↓evS.eq_15, ↓evS.eq_16, ↓evS.eq_17, ↓evS_for, ↓evA.eq_1, ↓evA.eq_2, ↓evT.eq_1, ↓evT.eq_2, ↓evO.eq_1, ↓evO.eq_2, ↓evI.eq_1, ↓evI.eq_2, ↓evI.eq_3, ↓evI.eq_4, ↓evI.eq_5, ↓evF.eq_1, ↓evF.eq_2, ↓m_bind, ↓m_then, ↓m_opt, SRes.bind_nx, SRes.bind_rt, SRes.bind_bk, SRes.bind_ct, SRes.bind_ex, SRes.bind_bad, at_call, at_glo, at_fuel, SRes.back, List.getElem?_cons_zero, List.getElem?_cons_succ, List.set_cons_zero, List.set_cons_succ, asgT, asgTs, cmpV, truV, binV, bltV, tyN, tyLe, subV, Option.map_some, Option.map_none, List.any_cons, List.any_nil, if_true, if_false, ite_true, ite_false, String.reduceBEq, Nat.reduceAdd, Bool.or_false, Bool.false_or, Bool.or_true, Bool.true_or, Bool.and_true, Bool.true_and, Bool.and_false, Bool.false_and, Bool.not_true, Bool.not_false, beq_self_eq_true, decide_true, decide_false, reduceCtorEq, Bool.false_eq_true, Ev.keyOf, dctKeys, List.length_cons, List.length_nil, List.zip_cons_cons, List.zip_nil_left, List.zip_nil_right, List.foldl_cons, List.foldl_nil, methV, setV, isL, permL_cons, permL_nil, List.map_cons, List.map_nil, valP_cons, valP_nil, key_str, key_int, ofString_eq, String.reduceEq, putP, sizeLine_eq, Nat.reduceLT, Nat.reduceLeDiff, sto_self, mulOk, powOk, divOk, Int.reducePow, Nat.reducePow, Int.reduceNeg, Int.reduceLT, Int.reduceLE, natAbs64, natAbs30, Int.reduceToNat, Int.reduceEq, Int.reduceAdd, Int.reduceSub, Int.reduceMul, ne_eq, not_false_eq_true, Int.reduceNe, Ev.alloc, Ev.eq_ii, Ev.eq_ss, Ev.eq_bb, Ev.eq_nn, Ev.eq_ni, Ev.eq_in, Ev.eq_ns, Ev.eq_sn, Ev.eq_nb, Ev.eq_bn, Ev.eq_is, Ev.eq_si, and_self, true_and, and_true, fmod_lt64, fmod_gt64, atI_0, atI_1, atI_2, atI_3, atI_4, atI_5, atI_6, atI_7, atI_8, atI_9, itemsV, smV, fmtV, lenSetV, seqOf, lstOf, slcV, revV, srcOf, optI, List.nil_append, List.cons_append, sto_new, intsP, sortI, insI, compL, compG, wipeP, boolsP, List.all_cons, List.all_nil, id_eq, keep_nil, maxI, minI, intsP, cutf_1, cutf_2, cutf_3, cutf_4, cutt_1, cutt_2, cutt_3, cutt_4, List.drop_succ_cons, List.drop_zero, List.take_succ_cons, List.take_zero, Int.cast_ofNat_Int, false_and, and_false, or_self, or_false, false_or, true_or, or_true, lit_e, tS_len, tS_cat, tS_eq, tS_lt, List.toList_toArray, g_MOST_WORD, g_LETTERS, g_MOST_POOL, g_MOST_WEIGHT, g_BEGIN, g_FACTOR, g_MODULUS, GC.pv, ls, l1, l2, List.length_singleton]
  generalize hz : forL _ _ _ _ _ = z
  obtain ⟨env', M', rfl, dn, rt, a, x3, h1, h2, h3, h4, h5, rfl⟩ := for_of hz (fun xs env M' => ∃ dn rt a x3, dn ++ rt = k ++ [47] ++ l ∧ xs = rt.map (fun c => PV.str ⟨#[c]⟩) ∧ a = dn.foldl stp 7 ∧ (-18446744073709551616 < a ∧ a < 18446744073709551616) ∧ env = [some (tv k), some (tv l), some (.int a), x3] ∧ M' = M)
    ⟨[], k ++ [47] ++ l, 7, none, rfl, rfl, rfl, by omega, rfl, rfl⟩ (fun _ _ _ _ => rfl)
    (fun x xs env M' ⟨dn, rt, a, x3, h1, h2, h3, h4, h5, h6⟩ => by
      cases rt with
      | nil => cases h2
      | cons c rt =>
        cases h2
        subst h5 h6
        have b1 : (-18446744073709551616 < a) = True := eq_true h4.1
        have b2 : (a < 18446744073709551616) = True := eq_true h4.2
        have o1 : (({ cps := #[c] } : Str).length = 1) = True := eq_true rfl
        have o2 : (({ cps := #[c] } : Str).cps.getD 0 0) = c := rfl
        have so := stp_ok a c
        refine ⟨[some (tv k), some (tv l), some (.int (stp a c)), some (tv [c])], M', .inl ?_, dn ++ [c], rt, stp a c, some (tv [c]), by rw [← h1]; simp, rfl, by rw [List.foldl_append, ← h3]; rfl, by omega, rfl, rfl⟩
        unfold forB stp
        simp only [↓evE.eq_1, ↓evE.eq_2, ↓evE.eq_3, ↓evE.eq_4, ↓evE.eq_5, ↓evE.eq_6, ↓evE.eq_7, ↓evE.eq_8, ↓evE.eq_9, ↓evE.eq_10, ↓evE.eq_11, ↓evE.eq_12, ↓evE.eq_13, ↓evE.eq_14, ↓evE.eq_15, ↓evE.eq_16, ↓evE.eq_17, ↓evE.eq_18, ↓evE.eq_19, ↓evE.eq_20, ↓evE.eq_21, ↓evE.eq_22, ↓evE.eq_23, ↓evE.eq_24, ↓evE.eq_25, ↓evE.eq_26, ↓evE.eq_27, ↓evE.eq_28, ↓evE.eq_29, ↓evE.eq_30, ↓evE.eq_31, ↓evE.eq_32, ↓evE.eq_33, ↓evE.eq_34, ↓evE.eq_35, ↓evE.eq_36, ↓evE.eq_37, ↓evE.eq_38, ↓evS.eq_1, ↓evS_seq, ↓evS.eq_3, ↓evS.eq_4, ↓evS.eq_5, ↓evS.eq_6, ↓evS.eq_7, ↓evS.eq_8, ↓evS_ite, ↓iteS, ↓evS.eq_11, ↓evS.eq_12, ↓evS.eq_13, ↓evS.eq_14, ↓evS.eq_15, ↓evS.eq_16, ↓evS.eq_17, ↓evS_for, ↓evA.eq_1, ↓evA.eq_2, ↓evT.eq_1, ↓evT.eq_2, ↓evO.eq_1, ↓evO.eq_2, ↓evI.eq_1, ↓evI.eq_2, ↓evI.eq_3, ↓evI.eq_4, ↓evI.eq_5, ↓evF.eq_1, ↓evF.eq_2, ↓m_bind, ↓m_then, ↓m_opt, SRes.bind_nx, SRes.bind_rt, SRes.bind_bk, SRes.bind_ct, SRes.bind_ex, SRes.bind_bad, at_call, at_glo, at_fuel, SRes.back, List.getElem?_cons_zero, List.getElem?_cons_succ, List.set_cons_zero, List.set_cons_succ, asgT, asgTs, cmpV, truV, binV, bltV, tyN, tyLe, subV, Option.map_some, Option.map_none, List.any_cons, List.any_nil, if_true, if_false, ite_true, ite_false, String.reduceBEq, Nat.reduceAdd, Bool.or_false, Bool.false_or, Bool.or_true, Bool.true_or, Bool.and_true, Bool.true_and, Bool.and_false, Bool.false_and, Bool.not_true, Bool.not_false, beq_self_eq_true, decide_true, decide_false, reduceCtorEq, Bool.false_eq_true, Ev.keyOf, dctKeys, List.length_cons, List.length_nil, List.zip_cons_cons, List.zip_nil_left, List.zip_nil_right, List.foldl_cons, List.foldl_nil, methV, setV, isL, permL_cons, permL_nil, List.map_cons, List.map_nil, valP_cons, valP_nil, key_str, key_int, ofString_eq, String.reduceEq, putP, sizeLine_eq, Nat.reduceLT, Nat.reduceLeDiff, sto_self, mulOk, powOk, divOk, Int.reducePow, Nat.reducePow, Int.reduceNeg, Int.reduceLT, Int.reduceLE, natAbs64, natAbs30, Int.reduceToNat, Int.reduceEq, Int.reduceAdd, Int.reduceSub, Int.reduceMul, ne_eq, not_false_eq_true, Int.reduceNe, Ev.alloc, Ev.eq_ii, Ev.eq_ss, Ev.eq_bb, Ev.eq_nn, Ev.eq_ni, Ev.eq_in, Ev.eq_ns, Ev.eq_sn, Ev.eq_nb, Ev.eq_bn, Ev.eq_is, Ev.eq_si, and_self, true_and, and_true, fmod_lt64, fmod_gt64, atI_0, atI_1, atI_2, atI_3, atI_4, atI_5, atI_6, atI_7, atI_8, atI_9, itemsV, smV, fmtV, lenSetV, seqOf, lstOf, slcV, revV, srcOf, optI, List.nil_append, List.cons_append, sto_new, intsP, sortI, insI, compL, compG, wipeP, boolsP, List.all_cons, List.all_nil, id_eq, keep_nil, maxI, minI, intsP, cutf_1, cutf_2, cutf_3, cutf_4, cutt_1, cutt_2, cutt_3, cutt_4, List.drop_succ_cons, List.drop_zero, List.take_succ_cons, List.take_zero, Int.cast_ofNat_Int, false_and, and_false, or_self, or_false, false_or, true_or, or_true, lit_e, tS_len, tS_cat, tS_eq, tS_lt, List.toList_toArray, g_MOST_WORD, g_LETTERS, g_MOST_POOL, g_MOST_WEIGHT, g_BEGIN, g_FACTOR, g_MODULUS, GC.pv, b1, b2, o1, o2])
  have : rt = [] := by cases rt with
    | nil => rfl
    | cons _ _ => cases h2
  subst this
  rw [List.append_nil] at h1
  subst h5
  simp only [↓evE.eq_1, ↓evE.eq_2, ↓evE.eq_3, ↓evE.eq_4, ↓evE.eq_5, ↓evE.eq_6, ↓evE.eq_7, ↓evE.eq_8, ↓evE.eq_9, ↓evE.eq_10, ↓evE.eq_11, ↓evE.eq_12, ↓evE.eq_13, ↓evE.eq_14, ↓evE.eq_15, ↓evE.eq_16, ↓evE.eq_17, ↓evE.eq_18, ↓evE.eq_19, ↓evE.eq_20, ↓evE.eq_21, ↓evE.eq_22, ↓evE.eq_23, ↓evE.eq_24, ↓evE.eq_25, ↓evE.eq_26, ↓evE.eq_27, ↓evE.eq_28, ↓evE.eq_29, ↓evE.eq_30, ↓evE.eq_31, ↓evE.eq_32, ↓evE.eq_33, ↓evE.eq_34, ↓evE.eq_35, ↓evE.eq_36, ↓evE.eq_37, ↓evE.eq_38, ↓evS.eq_1, ↓evS_seq, ↓evS.eq_3, ↓evS.eq_4, ↓evS.eq_5, ↓evS.eq_6, ↓evS.eq_7, ↓evS.eq_8, ↓evS_ite, ↓iteS, ↓evS.eq_11, ↓evS.eq_12, ↓evS.eq_13, ↓evS.eq_14, ↓evS.eq_15, ↓evS.eq_16, ↓evS.eq_17, ↓evS_for, ↓evA.eq_1, ↓evA.eq_2, ↓evT.eq_1, ↓evT.eq_2, ↓evO.eq_1, ↓evO.eq_2, ↓evI.eq_1, ↓evI.eq_2, ↓evI.eq_3, ↓evI.eq_4, ↓evI.eq_5, ↓evF.eq_1, ↓evF.eq_2, ↓m_bind, ↓m_then, ↓m_opt, SRes.bind_nx, SRes.bind_rt, SRes.bind_bk, SRes.bind_ct, SRes.bind_ex, SRes.bind_bad, at_call, at_glo, at_fuel, SRes.back, List.getElem?_cons_zero, List.getElem?_cons_succ, List.set_cons_zero, List.set_cons_succ, asgT, asgTs, cmpV, truV, binV, bltV, tyN, tyLe, subV, Option.map_some, Option.map_none, List.any_cons, List.any_nil, if_true, if_false, ite_true, ite_false, String.reduceBEq, Nat.reduceAdd, Bool.or_false, Bool.false_or, Bool.or_true, Bool.true_or, Bool.and_true, Bool.true_and, Bool.and_false, Bool.false_and, Bool.not_true, Bool.not_false, beq_self_eq_true, decide_true, decide_false, reduceCtorEq, Bool.false_eq_true, Ev.keyOf, dctKeys, List.length_cons, List.length_nil, List.zip_cons_cons, List.zip_nil_left, List.zip_nil_right, List.foldl_cons, List.foldl_nil, methV, setV, isL, permL_cons, permL_nil, List.map_cons, List.map_nil, valP_cons, valP_nil, key_str, key_int, ofString_eq, String.reduceEq, putP, sizeLine_eq, Nat.reduceLT, Nat.reduceLeDiff, sto_self, mulOk, powOk, divOk, Int.reducePow, Nat.reducePow, Int.reduceNeg, Int.reduceLT, Int.reduceLE, natAbs64, natAbs30, Int.reduceToNat, Int.reduceEq, Int.reduceAdd, Int.reduceSub, Int.reduceMul, ne_eq, not_false_eq_true, Int.reduceNe, Ev.alloc, Ev.eq_ii, Ev.eq_ss, Ev.eq_bb, Ev.eq_nn, Ev.eq_ni, Ev.eq_in, Ev.eq_ns, Ev.eq_sn, Ev.eq_nb, Ev.eq_bn, Ev.eq_is, Ev.eq_si, and_self, true_and, and_true, fmod_lt64, fmod_gt64, atI_0, atI_1, atI_2, atI_3, atI_4, atI_5, atI_6, atI_7, atI_8, atI_9, itemsV, smV, fmtV, lenSetV, seqOf, lstOf, slcV, revV, srcOf, optI, List.nil_append, List.cons_append, sto_new, intsP, sortI, insI, compL, compG, wipeP, boolsP, List.all_cons, List.all_nil, id_eq, keep_nil, maxI, minI, intsP, cutf_1, cutf_2, cutf_3, cutf_4, cutt_1, cutt_2, cutt_3, cutt_4, List.drop_succ_cons, List.drop_zero, List.take_succ_cons, List.take_zero, Int.cast_ofNat_Int, false_and, and_false, or_self, or_false, false_or, true_or, or_true, lit_e, tS_len, tS_cat, tS_eq, tS_lt, List.toList_toArray, g_MOST_WORD, g_LETTERS, g_MOST_POOL, g_MOST_WEIGHT, g_BEGIN, g_FACTOR, g_MODULUS, GC.pv]
  unfold sc
  rw [h3, h1]
theorem law_score_ok (n : Nat) (M : Sto) {k l : List Nat} (hk : word k) (hl : word l) : callN T (n + 1) "_law_score" [tv k, tv l] M = .ok (.int (sc k l)) M := by
  rw [e__law_score]
  unfold c__law_score
  obtain ⟨q1, q2, q3⟩ := hk
  have l1 : (k.length + 1 ≤ 16777216) = True := eq_true (by omega)
  have l2 : ((k ++ [47]).length + l.length ≤ 16777216) = True := eq_true (by have := hl.2.1; simp; omega)
  have ls : Str.ofString "/" = tS [47] := by decide +kernel
  simp only [↓evE.eq_1, ↓evE.eq_2, ↓evE.eq_3, ↓evE.eq_4, ↓evE.eq_5, ↓evE.eq_6, ↓evE.eq_7, ↓evE.eq_8, ↓evE.eq_9, ↓evE.eq_10, ↓evE.eq_11, ↓evE.eq_12, ↓evE.eq_13, ↓evE.eq_14, ↓evE.eq_15, ↓evE.eq_16, ↓evE.eq_17, ↓evE.eq_18, ↓evE.eq_19, ↓evE.eq_20, ↓evE.eq_21, ↓evE.eq_22, ↓evE.eq_23, ↓evE.eq_24, ↓evE.eq_25, ↓evE.eq_26, ↓evE.eq_27, ↓evE.eq_28, ↓evE.eq_29, ↓evE.eq_30, ↓evE.eq_31, ↓evE.eq_32, ↓evE.eq_33, ↓evE.eq_34, ↓evE.eq_35, ↓evE.eq_36, ↓evE.eq_37, ↓evE.eq_38, ↓evS.eq_1, ↓evS_seq, ↓evS.eq_3, ↓evS.eq_4, ↓evS.eq_5, ↓evS.eq_6, ↓evS.eq_7, ↓evS.eq_8, ↓evS_ite, ↓iteS, ↓evS.eq_11, ↓evS.eq_12, ↓evS.eq_13, ↓evS.eq_14, ↓evS.eq_15, ↓evS.eq_16, ↓evS.eq_17, ↓evS_for, ↓evA.eq_1, ↓evA.eq_2, ↓evT.eq_1, ↓evT.eq_2, ↓evO.eq_1, ↓evO.eq_2, ↓evI.eq_1, ↓evI.eq_2, ↓evI.eq_3, ↓evI.eq_4, ↓evI.eq_5, ↓evF.eq_1, ↓evF.eq_2, ↓m_bind, ↓m_then, ↓m_opt, SRes.bind_nx, SRes.bind_rt, SRes.bind_bk, SRes.bind_ct, SRes.bind_ex, SRes.bind_bad, at_call, at_glo, at_fuel, SRes.back, List.getElem?_cons_zero, List.getElem?_cons_succ, List.set_cons_zero, List.set_cons_succ, asgT, asgTs, cmpV, truV, binV, bltV, tyN, tyLe, subV, Option.map_some, Option.map_none, List.any_cons, List.any_nil, if_true, if_false, ite_true, ite_false, String.reduceBEq, Nat.reduceAdd, Bool.or_false, Bool.false_or, Bool.or_true, Bool.true_or, Bool.and_true, Bool.true_and, Bool.and_false, Bool.false_and, Bool.not_true, Bool.not_false, beq_self_eq_true, decide_true, decide_false, reduceCtorEq, Bool.false_eq_true, Ev.keyOf, dctKeys, List.length_cons, List.length_nil, List.zip_cons_cons, List.zip_nil_left, List.zip_nil_right, List.foldl_cons, List.foldl_nil, methV, setV, isL, permL_cons, permL_nil, List.map_cons, List.map_nil, valP_cons, valP_nil, key_str, key_int, ofString_eq, String.reduceEq, putP, sizeLine_eq, Nat.reduceLT, Nat.reduceLeDiff, sto_self, mulOk, powOk, divOk, Int.reducePow, Nat.reducePow, Int.reduceNeg, Int.reduceLT, Int.reduceLE, natAbs64, natAbs30, Int.reduceToNat, Int.reduceEq, Int.reduceAdd, Int.reduceSub, Int.reduceMul, ne_eq, not_false_eq_true, Int.reduceNe, Ev.alloc, Ev.eq_ii, Ev.eq_ss, Ev.eq_bb, Ev.eq_nn, Ev.eq_ni, Ev.eq_in, Ev.eq_ns, Ev.eq_sn, Ev.eq_nb, Ev.eq_bn, Ev.eq_is, Ev.eq_si, and_self, true_and, and_true, fmod_lt64, fmod_gt64, atI_0, atI_1, atI_2, atI_3, atI_4, atI_5, atI_6, atI_7, atI_8, atI_9, itemsV, smV, fmtV, lenSetV, seqOf, lstOf, slcV, revV, srcOf, optI, List.nil_append, List.cons_append, sto_new, intsP, sortI, insI, compL, compG, wipeP, boolsP, List.all_cons, List.all_nil, id_eq, keep_nil, maxI, minI, intsP, cutf_1, cutf_2, cutf_3, cutf_4, cutt_1, cutt_2, cutt_3, cutt_4, List.drop_succ_cons, List.drop_zero, List.take_succ_cons, List.take_zero, Int.cast_ofNat_Int, false_and, and_false, or_self, or_false, false_or, true_or, or_true, lit_e, tS_len, tS_cat, tS_eq, tS_lt, List.toList_toArray, g_MOST_WORD, g_LETTERS, g_MOST_POOL, g_MOST_WEIGHT, g_BEGIN, g_FACTOR, g_MODULUS, GC.pv, ls, l1, l2, List.length_singleton]
  generalize hz : forL _ _ _ _ _ = z
  obtain ⟨env', M', rfl, dn, rt, a, x3, h1, h2, h3, h4, h5, rfl⟩ := for_of hz (fun xs env M' => ∃ dn rt a x3, dn ++ rt = k ++ [47] ++ l ∧ xs = rt.map (fun c => PV.str ⟨#[c]⟩) ∧ a = dn.foldl stp 7 ∧ (-18446744073709551616 < a ∧ a < 18446744073709551616) ∧ env = [some (tv k), some (tv l), some (.int a), x3] ∧ M' = M)
    ⟨[], k ++ [47] ++ l, 7, none, rfl, rfl, rfl, by omega, rfl, rfl⟩ (fun _ _ _ _ => rfl)
    (fun x xs env M' ⟨dn, rt, a, x3, h1, h2, h3, h4, h5, h6⟩ => by
      cases rt with
      | nil => cases h2
      | cons c rt =>
        cases h2
        subst h5 h6
        have b1 : (-18446744073709551616 < a) = True := eq_true h4.1
        have b2 : (a < 18446744073709551616) = True := eq_true h4.2
        have o1 : (({ cps := #[c] } : Str).length = 1) = True := eq_true rfl
        have o2 : (({ cps := #[c] } : Str).cps.getD 0 0) = c := rfl
        have so := stp_ok a c
        refine ⟨[some (tv k), some (tv l), some (.int (stp a c)), some (tv [c])], M', .inl ?_, dn ++ [c], rt, stp a c, some (tv [c]), by rw [← h1]; simp, rfl, by rw [List.foldl_append, ← h3]; rfl, by omega, rfl, rfl⟩
        unfold forB stp
        simp only [↓evE.eq_1, ↓evE.eq_2, ↓evE.eq_3, ↓evE.eq_4, ↓evE.eq_5, ↓evE.eq_6, ↓evE.eq_7, ↓evE.eq_8, ↓evE.eq_9, ↓evE.eq_10, ↓evE.eq_11, ↓evE.eq_12, ↓evE.eq_13, ↓evE.eq_14, ↓evE.eq_15, ↓evE.eq_16, ↓evE.eq_17, ↓evE.eq_18, ↓evE.eq_19, ↓evE.eq_20, ↓evE.eq_21, ↓evE.eq_22, ↓evE.eq_23, ↓evE.eq_24, ↓evE.eq_25, ↓evE.eq_26, ↓evE.eq_27, ↓evE.eq_28, ↓evE.eq_29, ↓evE.eq_30, ↓evE.eq_31, ↓evE.eq_32, ↓evE.eq_33, ↓evE.eq_34, ↓evE.eq_35, ↓evE.eq_36, ↓evE.eq_37, ↓evE.eq_38, ↓evS.eq_1, ↓evS_seq, ↓evS.eq_3, ↓evS.eq_4, ↓evS.eq_5, ↓evS.eq_6, ↓evS.eq_7, ↓evS.eq_8, ↓evS_ite, ↓iteS, ↓evS.eq_11, ↓evS.eq_12, ↓evS.eq_13, ↓evS.eq_14, ↓evS.eq_15, ↓evS.eq_16, ↓evS.eq_17, ↓evS_for, ↓evA.eq_1, ↓evA.eq_2, ↓evT.eq_1, ↓evT.eq_2, ↓evO.eq_1, ↓evO.eq_2, ↓evI.eq_1, ↓evI.eq_2, ↓evI.eq_3, ↓evI.eq_4, ↓evI.eq_5, ↓evF.eq_1, ↓evF.eq_2, ↓m_bind, ↓m_then, ↓m_opt, SRes.bind_nx, SRes.bind_rt, SRes.bind_bk, SRes.bind_ct, SRes.bind_ex, SRes.bind_bad, at_call, at_glo, at_fuel, SRes.back, List.getElem?_cons_zero, List.getElem?_cons_succ, List.set_cons_zero, List.set_cons_succ, asgT, asgTs, cmpV, truV, binV, bltV, tyN, tyLe, subV, Option.map_some, Option.map_none, List.any_cons, List.any_nil, if_true, if_false, ite_true, ite_false, String.reduceBEq, Nat.reduceAdd, Bool.or_false, Bool.false_or, Bool.or_true, Bool.true_or, Bool.and_true, Bool.true_and, Bool.and_false, Bool.false_and, Bool.not_true, Bool.not_false, beq_self_eq_true, decide_true, decide_false, reduceCtorEq, Bool.false_eq_true, Ev.keyOf, dctKeys, List.length_cons, List.length_nil, List.zip_cons_cons, List.zip_nil_left, List.zip_nil_right, List.foldl_cons, List.foldl_nil, methV, setV, isL, permL_cons, permL_nil, List.map_cons, List.map_nil, valP_cons, valP_nil, key_str, key_int, ofString_eq, String.reduceEq, putP, sizeLine_eq, Nat.reduceLT, Nat.reduceLeDiff, sto_self, mulOk, powOk, divOk, Int.reducePow, Nat.reducePow, Int.reduceNeg, Int.reduceLT, Int.reduceLE, natAbs64, natAbs30, Int.reduceToNat, Int.reduceEq, Int.reduceAdd, Int.reduceSub, Int.reduceMul, ne_eq, not_false_eq_true, Int.reduceNe, Ev.alloc, Ev.eq_ii, Ev.eq_ss, Ev.eq_bb, Ev.eq_nn, Ev.eq_ni, Ev.eq_in, Ev.eq_ns, Ev.eq_sn, Ev.eq_nb, Ev.eq_bn, Ev.eq_is, Ev.eq_si, and_self, true_and, and_true, fmod_lt64, fmod_gt64, atI_0, atI_1, atI_2, atI_3, atI_4, atI_5, atI_6, atI_7, atI_8, atI_9, itemsV, smV, fmtV, lenSetV, seqOf, lstOf, slcV, revV, srcOf, optI, List.nil_append, List.cons_append, sto_new, intsP, sortI, insI, compL, compG, wipeP, boolsP, List.all_cons, List.all_nil, id_eq, keep_nil, maxI, minI, intsP, cutf_1, cutf_2, cutf_3, cutf_4, cutt_1, cutt_2, cutt_3, cutt_4, List.drop_succ_cons, List.drop_zero, List.take_succ_cons, List.take_zero, Int.cast_ofNat_Int, false_and, and_false, or_self, or_false, false_or, true_or, or_true, lit_e, tS_len, tS_cat, tS_eq, tS_lt, List.toList_toArray, g_MOST_WORD, g_LETTERS, g_MOST_POOL, g_MOST_WEIGHT, g_BEGIN, g_FACTOR, g_MODULUS, GC.pv, b1, b2, o1, o2])
  have : rt = [] := by cases rt with
    | nil => rfl
    | cons _ _ => cases h2
  subst this
  rw [List.append_nil] at h1
  subst h5
  simp only [↓evE.eq_1, ↓evE.eq_2, ↓evE.eq_3, ↓evE.eq_4, ↓evE.eq_5, ↓evE.eq_6, ↓evE.eq_7, ↓evE.eq_8, ↓evE.eq_9, ↓evE.eq_10, ↓evE.eq_11, ↓evE.eq_12, ↓evE.eq_13, ↓evE.eq_14, ↓evE.eq_15, ↓evE.eq_16, ↓evE.eq_17, ↓evE.eq_18, ↓evE.eq_19, ↓evE.eq_20, ↓evE.eq_21, ↓evE.eq_22, ↓evE.eq_23, ↓evE.eq_24, ↓evE.eq_25, ↓evE.eq_26, ↓evE.eq_27, ↓evE.eq_28, ↓evE.eq_29, ↓evE.eq_30, ↓evE.eq_31, ↓evE.eq_32, ↓evE.eq_33, ↓evE.eq_34, ↓evE.eq_35, ↓evE.eq_36, ↓evE.eq_37, ↓evE.eq_38, ↓evS.eq_1, ↓evS_seq, ↓evS.eq_3, ↓evS.eq_4, ↓evS.eq_5, ↓evS.eq_6, ↓evS.eq_7, ↓evS.eq_8, ↓evS_ite, ↓iteS, ↓evS.eq_11, ↓evS.eq_12, ↓evS.eq_13, ↓evS.eq_14, ↓evS.eq_15, ↓evS.eq_16, ↓evS.eq_17, ↓evS_for, ↓evA.eq_1, ↓evA.eq_2, ↓evT.eq_1, ↓evT.eq_2, ↓evO.eq_1, ↓evO.eq_2, ↓evI.eq_1, ↓evI.eq_2, ↓evI.eq_3, ↓evI.eq_4, ↓evI.eq_5, ↓evF.eq_1, ↓evF.eq_2, ↓m_bind, ↓m_then, ↓m_opt, SRes.bind_nx, SRes.bind_rt, SRes.bind_bk, SRes.bind_ct, SRes.bind_ex, SRes.bind_bad, at_call, at_glo, at_fuel, SRes.back, List.getElem?_cons_zero, List.getElem?_cons_succ, List.set_cons_zero, List.set_cons_succ, asgT, asgTs, cmpV, truV, binV, bltV, tyN, tyLe, subV, Option.map_some, Option.map_none, List.any_cons, List.any_nil, if_true, if_false, ite_true, ite_false, String.reduceBEq, Nat.reduceAdd, Bool.or_false, Bool.false_or, Bool.or_true, Bool.true_or, Bool.and_true, Bool.true_and, Bool.and_false, Bool.false_and, Bool.not_true, Bool.not_false, beq_self_eq_true, decide_true, decide_false, reduceCtorEq, Bool.false_eq_true, Ev.keyOf, dctKeys, List.length_cons, List.length_nil, List.zip_cons_cons, List.zip_nil_left, List.zip_nil_right, List.foldl_cons, List.foldl_nil, methV, setV, isL, permL_cons, permL_nil, List.map_cons, List.map_nil, valP_cons, valP_nil, key_str, key_int, ofString_eq, String.reduceEq, putP, sizeLine_eq, Nat.reduceLT, Nat.reduceLeDiff, sto_self, mulOk, powOk, divOk, Int.reducePow, Nat.reducePow, Int.reduceNeg, Int.reduceLT, Int.reduceLE, natAbs64, natAbs30, Int.reduceToNat, Int.reduceEq, Int.reduceAdd, Int.reduceSub, Int.reduceMul, ne_eq, not_false_eq_true, Int.reduceNe, Ev.alloc, Ev.eq_ii, Ev.eq_ss, Ev.eq_bb, Ev.eq_nn, Ev.eq_ni, Ev.eq_in, Ev.eq_ns, Ev.eq_sn, Ev.eq_nb, Ev.eq_bn, Ev.eq_is, Ev.eq_si, and_self, true_and, and_true, fmod_lt64, fmod_gt64, atI_0, atI_1, atI_2, atI_3, atI_4, atI_5, atI_6, atI_7, atI_8, atI_9, itemsV, smV, fmtV, lenSetV, seqOf, lstOf, slcV, revV, srcOf, optI, List.nil_append, List.cons_append, sto_new, intsP, sortI, insI, compL, compG, wipeP, boolsP, List.all_cons, List.all_nil, id_eq, keep_nil, maxI, minI, intsP, cutf_1, cutf_2, cutf_3, cutf_4, cutt_1, cutt_2, cutt_3, cutt_4, List.drop_succ_cons, List.drop_zero, List.take_succ_cons, List.take_zero, Int.cast_ofNat_Int, false_and, and_false, or_self, or_false, false_or, true_or, or_true, lit_e, tS_len, tS_cat, tS_eq, tS_lt, List.toList_toArray, g_MOST_WORD, g_LETTERS, g_MOST_POOL, g_MOST_WEIGHT, g_BEGIN, g_FACTOR, g_MODULUS, GC.pv]
  unfold sc
  rw [h3, h1]
end K20

set_option Elab.async false
set_option linter.all false
set_option maxRecDepth 100000
set_option maxHeartbeats 4000000
/-! K20s: the picks, walked. -/
namespace K20
open PySem L2 Ev
def lab (P : Pool) (a : Nat) : List Nat := (P.getD a ([], 0)).1
def wt (P : Pool) (a : Nat) : Int := ((P.getD a ([], 0)).2 : Nat)
def bz (b : List Int) (a : Nat) : Int := b.getD a 0
structure IsBusy (P : Pool) (b : List Int) : Prop where
  len : b.length = P.length
  pos : ∀ x ∈ b, 0 ≤ x
abbrev bV (b : List Int) : PV := .tup (b.map .int)
theorem at_pool {P : Pool} {a : Nat} (h : a < P.length) : (P.map eV)[a]? = some (.tup [tv (lab P a), .int (wt P a)]) := by
  rw [List.getElem?_map, List.getElem?_eq_getElem h]
  simp only [lab, wt, List.getD_eq_getElem?_getD, List.getElem?_eq_getElem h]
  rfl
theorem at_busy {b : List Int} {a : Nat} (h : a < b.length) : (b.map PV.int)[a]? = some (.int (bz b a)) := by
  rw [List.getElem?_map, List.getElem?_eq_getElem h]
  simp only [bz, List.getD_eq_getElem?_getD, List.getElem?_eq_getElem h]
  rfl
theorem at_word {P : Pool} (hP : IsPool P) {a : Nat} (h : a < P.length) : word (lab P a) ∧ 1 ≤ wt P a ∧ wt P a ≤ 100 := by
  have e : P.getD a ([], 0) = P[a] := by rw [List.getD_eq_getElem?_getD, List.getElem?_eq_getElem h]; rfl
  have := hP.w P[a] (List.getElem_mem h)
  unfold lab wt
  rw [e]
  exact ⟨this.1, by omega, by omega⟩
def lbc (P : Pool) (b : List Int) (best a : Nat) : Nat := if (bz b a + 1) * wt P best < (bz b best + 1) * wt P a then a else best
def lbF (P : Pool) (b : List Int) (a : Nat) (l : List Nat) : Nat := l.foldl (lbc P b) a
theorem lbF_self (P : Pool) (b : List Int) (a : Nat) (l : List Nat) : lbF P b a (a :: l) = lbF P b a l := by simp [lbF, lbc]
theorem least_in_ok (n : Nat) (M : Sto) {P : Pool} (hP : IsPool P) {a : Nat} {l : List Nat} (hl : IsLot P (a :: l)) {b : List Int} (hb : IsBusy P b) : callN T (n + 1) "least_busy_in" [pV P, lV (a :: l), bV b] M = .ok (iV (lbF P b a l)) M := by
  have hal := hl.lt a List.mem_cons_self
  have hrt : ∀ x ∈ a :: l, x < P.length := hl.lt
  rw [e_least_busy_in]
  unfold c_least_busy_in
  simp only [↓evE.eq_1, ↓evE.eq_2, ↓evE.eq_3, ↓evE.eq_4, ↓evE.eq_5, ↓evE.eq_6, ↓evE.eq_7, ↓evE.eq_8, ↓evE.eq_9, ↓evE.eq_10, ↓evE.eq_11, ↓evE.eq_12, ↓evE.eq_13, ↓evE.eq_14, ↓evE.eq_15, ↓evE.eq_16, ↓evE.eq_17, ↓evE.eq_18, ↓evE.eq_19, ↓evE.eq_20, ↓evE.eq_21, ↓evE.eq_22, ↓evE.eq_23, ↓evE.eq_24, ↓evE.eq_25, ↓evE.eq_26, ↓evE.eq_27, ↓evE.eq_28, ↓evE.eq_29, ↓evE.eq_30, ↓evE.eq_31, ↓evE.eq_32, ↓evE.eq_33, ↓evE.eq_34, ↓evE.eq_35, ↓evE.eq_36, ↓evE.eq_37, ↓evE.eq_38, ↓evS.eq_1, ↓evS_seq, ↓evS.eq_3, ↓evS.eq_4, ↓evS.eq_5, ↓evS.eq_6, ↓evS.eq_7, ↓evS.eq_8, ↓evS_ite, ↓iteS, ↓evS.eq_11, ↓evS.eq_12, ↓evS.eq_13, ↓evS.eq_14, ↓evS.eq_15, ↓evS.eq_16, ↓evS.eq_17, ↓evS_for, ↓evA.eq_1, ↓evA.eq_2, ↓evT.eq_1, ↓evT.eq_2, ↓evO.eq_1, ↓evO.eq_2, ↓evI.eq_1, ↓evI.eq_2, ↓evI.eq_3, ↓evI.eq_4, ↓evI.eq_5, ↓evF.eq_1, ↓evF.eq_2, ↓m_bind, ↓m_then, ↓m_opt, SRes.bind_nx, SRes.bind_rt, SRes.bind_bk, SRes.bind_ct, SRes.bind_ex, SRes.bind_bad, at_call, at_glo, at_fuel, SRes.back, List.getElem?_cons_zero, List.getElem?_cons_succ, List.set_cons_zero, List.set_cons_succ, asgT, asgTs, cmpV, truV, binV, bltV, tyN, tyLe, subV, Option.map_some, Option.map_none, List.any_cons, List.any_nil, if_true, if_false, ite_true, ite_false, String.reduceBEq, Nat.reduceAdd, Bool.or_false, Bool.false_or, Bool.or_true, Bool.true_or, Bool.and_true, Bool.true_and, Bool.and_false, Bool.false_and, Bool.not_true, Bool.not_false, beq_self_eq_true, decide_true, decide_false, reduceCtorEq, Bool.false_eq_true, Ev.keyOf, dctKeys, List.length_cons, List.length_nil, List.zip_cons_cons, List.zip_nil_left, List.zip_nil_right, List.foldl_cons, List.foldl_nil, methV, setV, isL, permL_cons, permL_nil, List.map_cons, List.map_nil, valP_cons, valP_nil, key_str, key_int, ofString_eq, String.reduceEq, putP, sizeLine_eq, Nat.reduceLT, Nat.reduceLeDiff, sto_self, mulOk, powOk, divOk, Int.reducePow, Nat.reducePow, Int.reduceNeg, Int.reduceLT, Int.reduceLE, natAbs64, natAbs30, Int.reduceToNat, Int.reduceEq, Int.reduceAdd, Int.reduceSub, Int.reduceMul, ne_eq, not_false_eq_true, Int.reduceNe, Ev.alloc, Ev.eq_ii, Ev.eq_ss, Ev.eq_bb, Ev.eq_nn, Ev.eq_ni, Ev.eq_in, Ev.eq_ns, Ev.eq_sn, Ev.eq_nb, Ev.eq_bn, Ev.eq_is, Ev.eq_si, and_self, true_and, and_true, fmod_lt64, fmod_gt64, atI_0, atI_1, atI_2, atI_3, atI_4, atI_5, atI_6, atI_7, atI_8, atI_9, itemsV, smV, fmtV, lenSetV, seqOf, lstOf, slcV, revV, srcOf, optI, List.nil_append, List.cons_append, sto_new, intsP, sortI, insI, compL, compG, wipeP, boolsP, List.all_cons, List.all_nil, id_eq, keep_nil, maxI, minI, intsP, cutf_1, cutf_2, cutf_3, cutf_4, cutt_1, cutt_2, cutt_3, cutt_4, List.drop_succ_cons, List.drop_zero, List.take_succ_cons, List.take_zero, Int.cast_ofNat_Int, false_and, and_false, or_self, or_false, false_or, true_or, or_true, lit_e, tS_len, tS_cat, tS_eq, tS_lt, List.toList_toArray, g_MOST_WORD, g_LETTERS, g_MOST_POOL, g_MOST_WEIGHT, g_BEGIN, g_FACTOR, g_MODULUS, GC.pv, atI_lit]
  generalize hz : forL _ _ _ _ _ = z
  obtain ⟨env', M', rfl, best, rt, x4, h1, h2, h3, h4, rfl⟩ := for_of hz (fun xs env M' => ∃ best rt x4, xs = rt.map iV ∧ best < P.length ∧ ((∀ x ∈ rt, x < P.length) ∧ lbF P b best rt = lbF P b a l) ∧ env = [some (pV P), some (lV (a :: l)), some (bV b), some (iV best), x4] ∧ M' = M)
    ⟨a, a :: l, none, rfl, hal, ⟨hrt, by first | rfl | exact lbF_self P b a l⟩, rfl, rfl⟩ (fun _ _ _ _ => rfl)
    (fun x xs env M' ⟨best, rt, x4, h1, h2, h3, h4, h5⟩ => by
      cases rt with
      | nil => cases h1
      | cons c rt =>
        cases h1
        subst h4 h5
        have hc := h3.1 c List.mem_cons_self
        have p1 := at_pool hc
        have p2 := at_pool h2
        have p3 := at_busy (b := b) (a := c) (by rw [hb.len]; exact hc)
        have p4 := at_busy (b := b) (a := best) (by rw [hb.len]; exact h2)
        have w1 := (at_word hP hc).2
        have w2 := (at_word hP h2).2
        have m1 : (-18446744073709551616 < wt P best) = True := eq_true (by omega)
        have m2 : (wt P best < 18446744073709551616) = True := eq_true (by omega)
        have m3 : (-18446744073709551616 < wt P c) = True := eq_true (by omega)
        have m4 : (wt P c < 18446744073709551616) = True := eq_true (by omega)
        refine ⟨[some (pV P), some (lV (a :: l)), some (bV b), some (iV (lbc P b best c)), some (iV c)], M', .inl ?_, lbc P b best c, rt, _, rfl, by unfold lbc; split <;> assumption, ⟨fun x hx => h3.1 x (List.mem_cons_of_mem _ hx), h3.2⟩, rfl, rfl⟩
        unfold forB
        by_cases q : (bz b c + 1) * wt P best < (bz b best + 1) * wt P c
        · have e : lbc P b best c = c := if_pos q
          rw [e]
          simp only [↓evE.eq_1, ↓evE.eq_2, ↓evE.eq_3, ↓evE.eq_4, ↓evE.eq_5, ↓evE.eq_6, ↓evE.eq_7, ↓evE.eq_8, ↓evE.eq_9, ↓evE.eq_10, ↓evE.eq_11, ↓evE.eq_12, ↓evE.eq_13, ↓evE.eq_14, ↓evE.eq_15, ↓evE.eq_16, ↓evE.eq_17, ↓evE.eq_18, ↓evE.eq_19, ↓evE.eq_20, ↓evE.eq_21, ↓evE.eq_22, ↓evE.eq_23, ↓evE.eq_24, ↓evE.eq_25, ↓evE.eq_26, ↓evE.eq_27, ↓evE.eq_28, ↓evE.eq_29, ↓evE.eq_30, ↓evE.eq_31, ↓evE.eq_32, ↓evE.eq_33, ↓evE.eq_34, ↓evE.eq_35, ↓evE.eq_36, ↓evE.eq_37, ↓evE.eq_38, ↓evS.eq_1, ↓evS_seq, ↓evS.eq_3, ↓evS.eq_4, ↓evS.eq_5, ↓evS.eq_6, ↓evS.eq_7, ↓evS.eq_8, ↓evS_ite, ↓iteS, ↓evS.eq_11, ↓evS.eq_12, ↓evS.eq_13, ↓evS.eq_14, ↓evS.eq_15, ↓evS.eq_16, ↓evS.eq_17, ↓evS_for, ↓evA.eq_1, ↓evA.eq_2, ↓evT.eq_1, ↓evT.eq_2, ↓evO.eq_1, ↓evO.eq_2, ↓evI.eq_1, ↓evI.eq_2, ↓evI.eq_3, ↓evI.eq_4, ↓evI.eq_5, ↓evF.eq_1, ↓evF.eq_2, ↓m_bind, ↓m_then, ↓m_opt, SRes.bind_nx, SRes.bind_rt, SRes.bind_bk, SRes.bind_ct, SRes.bind_ex, SRes.bind_bad, at_call, at_glo, at_fuel, SRes.back, List.getElem?_cons_zero, List.getElem?_cons_succ, List.set_cons_zero, List.set_cons_succ, asgT, asgTs, cmpV, truV, binV, bltV, tyN, tyLe, subV, Option.map_some, Option.map_none, List.any_cons, List.any_nil, if_true, if_false, ite_true, ite_false, String.reduceBEq, Nat.reduceAdd, Bool.or_false, Bool.false_or, Bool.or_true, Bool.true_or, Bool.and_true, Bool.true_and, Bool.and_false, Bool.false_and, Bool.not_true, Bool.not_false, beq_self_eq_true, decide_true, decide_false, reduceCtorEq, Bool.false_eq_true, Ev.keyOf, dctKeys, List.length_cons, List.length_nil, List.zip_cons_cons, List.zip_nil_left, List.zip_nil_right, List.foldl_cons, List.foldl_nil, methV, setV, isL, permL_cons, permL_nil, List.map_cons, List.map_nil, valP_cons, valP_nil, key_str, key_int, ofString_eq, String.reduceEq, putP, sizeLine_eq, Nat.reduceLT, Nat.reduceLeDiff, sto_self, mulOk, powOk, divOk, Int.reducePow, Nat.reducePow, Int.reduceNeg, Int.reduceLT, Int.reduceLE, natAbs64, natAbs30, Int.reduceToNat, Int.reduceEq, Int.reduceAdd, Int.reduceSub, Int.reduceMul, ne_eq, not_false_eq_true, Int.reduceNe, Ev.alloc, Ev.eq_ii, Ev.eq_ss, Ev.eq_bb, Ev.eq_nn, Ev.eq_ni, Ev.eq_in, Ev.eq_ns, Ev.eq_sn, Ev.eq_nb, Ev.eq_bn, Ev.eq_is, Ev.eq_si, and_self, true_and, and_true, fmod_lt64, fmod_gt64, atI_0, atI_1, atI_2, atI_3, atI_4, atI_5, atI_6, atI_7, atI_8, atI_9, itemsV, smV, fmtV, lenSetV, seqOf, lstOf, slcV, revV, srcOf, optI, List.nil_append, List.cons_append, sto_new, intsP, sortI, insI, compL, compG, wipeP, boolsP, List.all_cons, List.all_nil, id_eq, keep_nil, maxI, minI, intsP, cutf_1, cutf_2, cutf_3, cutf_4, cutt_1, cutt_2, cutt_3, cutt_4, List.drop_succ_cons, List.drop_zero, List.take_succ_cons, List.take_zero, Int.cast_ofNat_Int, false_and, and_false, or_self, or_false, false_or, true_or, or_true, lit_e, tS_len, tS_cat, tS_eq, tS_lt, List.toList_toArray, g_MOST_WORD, g_LETTERS, g_MOST_POOL, g_MOST_WEIGHT, g_BEGIN, g_FACTOR, g_MODULUS, GC.pv, atI_lit, p1, p2, p3, p4, m1, m2, m3, m4, q]
        · have e : lbc P b best c = best := if_neg q
          rw [e]
          simp only [↓evE.eq_1, ↓evE.eq_2, ↓evE.eq_3, ↓evE.eq_4, ↓evE.eq_5, ↓evE.eq_6, ↓evE.eq_7, ↓evE.eq_8, ↓evE.eq_9, ↓evE.eq_10, ↓evE.eq_11, ↓evE.eq_12, ↓evE.eq_13, ↓evE.eq_14, ↓evE.eq_15, ↓evE.eq_16, ↓evE.eq_17, ↓evE.eq_18, ↓evE.eq_19, ↓evE.eq_20, ↓evE.eq_21, ↓evE.eq_22, ↓evE.eq_23, ↓evE.eq_24, ↓evE.eq_25, ↓evE.eq_26, ↓evE.eq_27, ↓evE.eq_28, ↓evE.eq_29, ↓evE.eq_30, ↓evE.eq_31, ↓evE.eq_32, ↓evE.eq_33, ↓evE.eq_34, ↓evE.eq_35, ↓evE.eq_36, ↓evE.eq_37, ↓evE.eq_38, ↓evS.eq_1, ↓evS_seq, ↓evS.eq_3, ↓evS.eq_4, ↓evS.eq_5, ↓evS.eq_6, ↓evS.eq_7, ↓evS.eq_8, ↓evS_ite, ↓iteS, ↓evS.eq_11, ↓evS.eq_12, ↓evS.eq_13, ↓evS.eq_14, ↓evS.eq_15, ↓evS.eq_16, ↓evS.eq_17, ↓evS_for, ↓evA.eq_1, ↓evA.eq_2, ↓evT.eq_1, ↓evT.eq_2, ↓evO.eq_1, ↓evO.eq_2, ↓evI.eq_1, ↓evI.eq_2, ↓evI.eq_3, ↓evI.eq_4, ↓evI.eq_5, ↓evF.eq_1, ↓evF.eq_2, ↓m_bind, ↓m_then, ↓m_opt, SRes.bind_nx, SRes.bind_rt, SRes.bind_bk, SRes.bind_ct, SRes.bind_ex, SRes.bind_bad, at_call, at_glo, at_fuel, SRes.back, List.getElem?_cons_zero, List.getElem?_cons_succ, List.set_cons_zero, List.set_cons_succ, asgT, asgTs, cmpV, truV, binV, bltV, tyN, tyLe, subV, Option.map_some, Option.map_none, List.any_cons, List.any_nil, if_true, if_false, ite_true, ite_false, String.reduceBEq, Nat.reduceAdd, Bool.or_false, Bool.false_or, Bool.or_true, Bool.true_or, Bool.and_true, Bool.true_and, Bool.and_false, Bool.false_and, Bool.not_true, Bool.not_false, beq_self_eq_true, decide_true, decide_false, reduceCtorEq, Bool.false_eq_true, Ev.keyOf, dctKeys, List.length_cons, List.length_nil, List.zip_cons_cons, List.zip_nil_left, List.zip_nil_right, List.foldl_cons, List.foldl_nil, methV, setV, isL, permL_cons, permL_nil, List.map_cons, List.map_nil, valP_cons, valP_nil, key_str, key_int, ofString_eq, String.reduceEq, putP, sizeLine_eq, Nat.reduceLT, Nat.reduceLeDiff, sto_self, mulOk, powOk, divOk, Int.reducePow, Nat.reducePow, Int.reduceNeg, Int.reduceLT, Int.reduceLE, natAbs64, natAbs30, Int.reduceToNat, Int.reduceEq, Int.reduceAdd, Int.reduceSub, Int.reduceMul, ne_eq, not_false_eq_true, Int.reduceNe, Ev.alloc, Ev.eq_ii, Ev.eq_ss, Ev.eq_bb, Ev.eq_nn, Ev.eq_ni, Ev.eq_in, Ev.eq_ns, Ev.eq_sn, Ev.eq_nb, Ev.eq_bn, Ev.eq_is, Ev.eq_si, and_self, true_and, and_true, fmod_lt64, fmod_gt64, atI_0, atI_1, atI_2, atI_3, atI_4, atI_5, atI_6, atI_7, atI_8, atI_9, itemsV, smV, fmtV, lenSetV, seqOf, lstOf, slcV, revV, srcOf, optI, List.nil_append, List.cons_append, sto_new, intsP, sortI, insI, compL, compG, wipeP, boolsP, List.all_cons, List.all_nil, id_eq, keep_nil, maxI, minI, intsP, cutf_1, cutf_2, cutf_3, cutf_4, cutt_1, cutt_2, cutt_3, cutt_4, List.drop_succ_cons, List.drop_zero, List.take_succ_cons, List.take_zero, Int.cast_ofNat_Int, false_and, and_false, or_self, or_false, false_or, true_or, or_true, lit_e, tS_len, tS_cat, tS_eq, tS_lt, List.toList_toArray, g_MOST_WORD, g_LETTERS, g_MOST_POOL, g_MOST_WEIGHT, g_BEGIN, g_FACTOR, g_MODULUS, GC.pv, atI_lit, p1, p2, p3, p4, m1, m2, m3, m4, q])
  have : rt = [] := by cases rt with
    | nil => rfl
    | cons _ _ => cases h1
  subst this
  have hbest : best = lbF P b a l := h3.2
  subst h4
  simp only [↓evE.eq_1, ↓evE.eq_2, ↓evE.eq_3, ↓evE.eq_4, ↓evE.eq_5, ↓evE.eq_6, ↓evE.eq_7, ↓evE.eq_8, ↓evE.eq_9, ↓evE.eq_10, ↓evE.eq_11, ↓evE.eq_12, ↓evE.eq_13, ↓evE.eq_14, ↓evE.eq_15, ↓evE.eq_16, ↓evE.eq_17, ↓evE.eq_18, ↓evE.eq_19, ↓evE.eq_20, ↓evE.eq_21, ↓evE.eq_22, ↓evE.eq_23, ↓evE.eq_24, ↓evE.eq_25, ↓evE.eq_26, ↓evE.eq_27, ↓evE.eq_28, ↓evE.eq_29, ↓evE.eq_30, ↓evE.eq_31, ↓evE.eq_32, ↓evE.eq_33, ↓evE.eq_34, ↓evE.eq_35, ↓evE.eq_36, ↓evE.eq_37, ↓evE.eq_38, ↓evS.eq_1, ↓evS_seq, ↓evS.eq_3, ↓evS.eq_4, ↓evS.eq_5, ↓evS.eq_6, ↓evS.eq_7, ↓evS.eq_8, ↓evS_ite, ↓iteS, ↓evS.eq_11, ↓evS.eq_12, ↓evS.eq_13, ↓evS.eq_14, ↓evS.eq_15, ↓evS.eq_16, ↓evS.eq_17, ↓evS_for, ↓evA.eq_1, ↓evA.eq_2, ↓evT.eq_1, ↓evT.eq_2, ↓evO.eq_1, ↓evO.eq_2, ↓evI.eq_1, ↓evI.eq_2, ↓evI.eq_3, ↓evI.eq_4, ↓evI.eq_5, ↓evF.eq_1, ↓evF.eq_2, ↓m_bind, ↓m_then, ↓m_opt, SRes.bind_nx, SRes.bind_rt, SRes.bind_bk, SRes.bind_ct, SRes.bind_ex, SRes.bind_bad, at_call, at_glo, at_fuel, SRes.back, List.getElem?_cons_zero, List.getElem?_cons_succ, List.set_cons_zero, List.set_cons_succ, asgT, asgTs, cmpV, truV, binV, bltV, tyN, tyLe, subV, Option.map_some, Option.map_none, List.any_cons, List.any_nil, if_true, if_false, ite_true, ite_false, String.reduceBEq, Nat.reduceAdd, Bool.or_false, Bool.false_or, Bool.or_true, Bool.true_or, Bool.and_true, Bool.true_and, Bool.and_false, Bool.false_and, Bool.not_true, Bool.not_false, beq_self_eq_true, decide_true, decide_false, reduceCtorEq, Bool.false_eq_true, Ev.keyOf, dctKeys, List.length_cons, List.length_nil, List.zip_cons_cons, List.zip_nil_left, List.zip_nil_right, List.foldl_cons, List.foldl_nil, methV, setV, isL, permL_cons, permL_nil, List.map_cons, List.map_nil, valP_cons, valP_nil, key_str, key_int, ofString_eq, String.reduceEq, putP, sizeLine_eq, Nat.reduceLT, Nat.reduceLeDiff, sto_self, mulOk, powOk, divOk, Int.reducePow, Nat.reducePow, Int.reduceNeg, Int.reduceLT, Int.reduceLE, natAbs64, natAbs30, Int.reduceToNat, Int.reduceEq, Int.reduceAdd, Int.reduceSub, Int.reduceMul, ne_eq, not_false_eq_true, Int.reduceNe, Ev.alloc, Ev.eq_ii, Ev.eq_ss, Ev.eq_bb, Ev.eq_nn, Ev.eq_ni, Ev.eq_in, Ev.eq_ns, Ev.eq_sn, Ev.eq_nb, Ev.eq_bn, Ev.eq_is, Ev.eq_si, and_self, true_and, and_true, fmod_lt64, fmod_gt64, atI_0, atI_1, atI_2, atI_3, atI_4, atI_5, atI_6, atI_7, atI_8, atI_9, itemsV, smV, fmtV, lenSetV, seqOf, lstOf, slcV, revV, srcOf, optI, List.nil_append, List.cons_append, sto_new, intsP, sortI, insI, compL, compG, wipeP, boolsP, List.all_cons, List.all_nil, id_eq, keep_nil, maxI, minI, intsP, cutf_1, cutf_2, cutf_3, cutf_4, cutt_1, cutt_2, cutt_3, cutt_4, List.drop_succ_cons, List.drop_zero, List.take_succ_cons, List.take_zero, Int.cast_ofNat_Int, false_and, and_false, or_self, or_false, false_or, true_or, or_true, lit_e, tS_len, tS_cat, tS_eq, tS_lt, List.toList_toArray, g_MOST_WORD, g_LETTERS, g_MOST_POOL, g_MOST_WEIGHT, g_BEGIN, g_FACTOR, g_MODULUS, GC.pv, atI_lit]
  rw [hbest]
theorem law_least_ok (n : Nat) (M : Sto) {P : Pool} (hP : IsPool P) {a : Nat} {l : List Nat} (hl : IsLot P (a :: l)) {b : List Int} (hb : IsBusy P b) : callN T (n + 1) "_law_least_busy" [pV P, lV (a :: l), bV b] M = .ok (iV (lbF P b a l)) M := by
  have hal := hl.lt a List.mem_cons_self
  have hrt : ∀ x ∈ l, x < P.length := fun x hx => hl.lt x (List.mem_cons_of_mem _ hx)
  rw [e__law_least_busy]
  unfold c__law_least_busy
  simp only [↓evE.eq_1, ↓evE.eq_2, ↓evE.eq_3, ↓evE.eq_4, ↓evE.eq_5, ↓evE.eq_6, ↓evE.eq_7, ↓evE.eq_8, ↓evE.eq_9, ↓evE.eq_10, ↓evE.eq_11, ↓evE.eq_12, ↓evE.eq_13, ↓evE.eq_14, ↓evE.eq_15, ↓evE.eq_16, ↓evE.eq_17, ↓evE.eq_18, ↓evE.eq_19, ↓evE.eq_20, ↓evE.eq_21, ↓evE.eq_22, ↓evE.eq_23, ↓evE.eq_24, ↓evE.eq_25, ↓evE.eq_26, ↓evE.eq_27, ↓evE.eq_28, ↓evE.eq_29, ↓evE.eq_30, ↓evE.eq_31, ↓evE.eq_32, ↓evE.eq_33, ↓evE.eq_34, ↓evE.eq_35, ↓evE.eq_36, ↓evE.eq_37, ↓evE.eq_38, ↓evS.eq_1, ↓evS_seq, ↓evS.eq_3, ↓evS.eq_4, ↓evS.eq_5, ↓evS.eq_6, ↓evS.eq_7, ↓evS.eq_8, ↓evS_ite, ↓iteS, ↓evS.eq_11, ↓evS.eq_12, ↓evS.eq_13, ↓evS.eq_14, ↓evS.eq_15, ↓evS.eq_16, ↓evS.eq_17, ↓evS_for, ↓evA.eq_1, ↓evA.eq_2, ↓evT.eq_1, ↓evT.eq_2, ↓evO.eq_1, ↓evO.eq_2, ↓evI.eq_1, ↓evI.eq_2, ↓evI.eq_3, ↓evI.eq_4, ↓evI.eq_5, ↓evF.eq_1, ↓evF.eq_2, ↓m_bind, ↓m_then, ↓m_opt, SRes.bind_nx, SRes.bind_rt, SRes.bind_bk, SRes.bind_ct, SRes.bind_ex, SRes.bind_bad, at_call, at_glo, at_fuel, SRes.back, List.getElem?_cons_zero, List.getElem?_cons_succ, List.set_cons_zero, List.set_cons_succ, asgT, asgTs, cmpV, truV, binV, bltV, tyN, tyLe, subV, Option.map_some, Option.map_none, List.any_cons, List.any_nil, if_true, if_false, ite_true, ite_false, String.reduceBEq, Nat.reduceAdd, Bool.or_false, Bool.false_or, Bool.or_true, Bool.true_or, Bool.and_true, Bool.true_and, Bool.and_false, Bool.false_and, Bool.not_true, Bool.not_false, beq_self_eq_true, decide_true, decide_false, reduceCtorEq, Bool.false_eq_true, Ev.keyOf, dctKeys, List.length_cons, List.length_nil, List.zip_cons_cons, List.zip_nil_left, List.zip_nil_right, List.foldl_cons, List.foldl_nil, methV, setV, isL, permL_cons, permL_nil, List.map_cons, List.map_nil, valP_cons, valP_nil, key_str, key_int, ofString_eq, String.reduceEq, putP, sizeLine_eq, Nat.reduceLT, Nat.reduceLeDiff, sto_self, mulOk, powOk, divOk, Int.reducePow, Nat.reducePow, Int.reduceNeg, Int.reduceLT, Int.reduceLE, natAbs64, natAbs30, Int.reduceToNat, Int.reduceEq, Int.reduceAdd, Int.reduceSub, Int.reduceMul, ne_eq, not_false_eq_true, Int.reduceNe, Ev.alloc, Ev.eq_ii, Ev.eq_ss, Ev.eq_bb, Ev.eq_nn, Ev.eq_ni, Ev.eq_in, Ev.eq_ns, Ev.eq_sn, Ev.eq_nb, Ev.eq_bn, Ev.eq_is, Ev.eq_si, and_self, true_and, and_true, fmod_lt64, fmod_gt64, atI_0, atI_1, atI_2, atI_3, atI_4, atI_5, atI_6, atI_7, atI_8, atI_9, itemsV, smV, fmtV, lenSetV, seqOf, lstOf, slcV, revV, srcOf, optI, List.nil_append, List.cons_append, sto_new, intsP, sortI, insI, compL, compG, wipeP, boolsP, List.all_cons, List.all_nil, id_eq, keep_nil, maxI, minI, intsP, cutf_1, cutf_2, cutf_3, cutf_4, cutt_1, cutt_2, cutt_3, cutt_4, List.drop_succ_cons, List.drop_zero, List.take_succ_cons, List.take_zero, Int.cast_ofNat_Int, false_and, and_false, or_self, or_false, false_or, true_or, or_true, lit_e, tS_len, tS_cat, tS_eq, tS_lt, List.toList_toArray, g_MOST_WORD, g_LETTERS, g_MOST_POOL, g_MOST_WEIGHT, g_BEGIN, g_FACTOR, g_MODULUS, GC.pv, atI_lit]
  generalize hz : forL _ _ _ _ _ = z
  obtain ⟨env', M', rfl, best, rt, x4, h1, h2, h3, h4, rfl⟩ := for_of hz (fun xs env M' => ∃ best rt x4, xs = rt.map iV ∧ best < P.length ∧ ((∀ x ∈ rt, x < P.length) ∧ lbF P b best rt = lbF P b a l) ∧ env = [some (pV P), some (lV (a :: l)), some (bV b), some (iV best), x4] ∧ M' = M)
    ⟨a, l, none, rfl, hal, ⟨hrt, by first | rfl | exact lbF_self P b a l⟩, rfl, rfl⟩ (fun _ _ _ _ => rfl)
    (fun x xs env M' ⟨best, rt, x4, h1, h2, h3, h4, h5⟩ => by
      cases rt with
      | nil => cases h1
      | cons c rt =>
        cases h1
        subst h4 h5
        have hc := h3.1 c List.mem_cons_self
        have p1 := at_pool hc
        have p2 := at_pool h2
        have p3 := at_busy (b := b) (a := c) (by rw [hb.len]; exact hc)
        have p4 := at_busy (b := b) (a := best) (by rw [hb.len]; exact h2)
        have w1 := (at_word hP hc).2
        have w2 := (at_word hP h2).2
        have m1 : (-18446744073709551616 < wt P best) = True := eq_true (by omega)
        have m2 : (wt P best < 18446744073709551616) = True := eq_true (by omega)
        have m3 : (-18446744073709551616 < wt P c) = True := eq_true (by omega)
        have m4 : (wt P c < 18446744073709551616) = True := eq_true (by omega)
        refine ⟨[some (pV P), some (lV (a :: l)), some (bV b), some (iV (lbc P b best c)), some (iV c)], M', .inl ?_, lbc P b best c, rt, _, rfl, by unfold lbc; split <;> assumption, ⟨fun x hx => h3.1 x (List.mem_cons_of_mem _ hx), h3.2⟩, rfl, rfl⟩
        unfold forB
        by_cases q : (bz b c + 1) * wt P best < (bz b best + 1) * wt P c
        · have e : lbc P b best c = c := if_pos q
          rw [e]
          simp only [↓evE.eq_1, ↓evE.eq_2, ↓evE.eq_3, ↓evE.eq_4, ↓evE.eq_5, ↓evE.eq_6, ↓evE.eq_7, ↓evE.eq_8, ↓evE.eq_9, ↓evE.eq_10, ↓evE.eq_11, ↓evE.eq_12, ↓evE.eq_13, ↓evE.eq_14, ↓evE.eq_15, ↓evE.eq_16, ↓evE.eq_17, ↓evE.eq_18, ↓evE.eq_19, ↓evE.eq_20, ↓evE.eq_21, ↓evE.eq_22, ↓evE.eq_23, ↓evE.eq_24, ↓evE.eq_25, ↓evE.eq_26, ↓evE.eq_27, ↓evE.eq_28, ↓evE.eq_29, ↓evE.eq_30, ↓evE.eq_31, ↓evE.eq_32, ↓evE.eq_33, ↓evE.eq_34, ↓evE.eq_35, ↓evE.eq_36, ↓evE.eq_37, ↓evE.eq_38, ↓evS.eq_1, ↓evS_seq, ↓evS.eq_3, ↓evS.eq_4, ↓evS.eq_5, ↓evS.eq_6, ↓evS.eq_7, ↓evS.eq_8, ↓evS_ite, ↓iteS, ↓evS.eq_11, ↓evS.eq_12, ↓evS.eq_13, ↓evS.eq_14, ↓evS.eq_15, ↓evS.eq_16, ↓evS.eq_17, ↓evS_for, ↓evA.eq_1, ↓evA.eq_2, ↓evT.eq_1, ↓evT.eq_2, ↓evO.eq_1, ↓evO.eq_2, ↓evI.eq_1, ↓evI.eq_2, ↓evI.eq_3, ↓evI.eq_4, ↓evI.eq_5, ↓evF.eq_1, ↓evF.eq_2, ↓m_bind, ↓m_then, ↓m_opt, SRes.bind_nx, SRes.bind_rt, SRes.bind_bk, SRes.bind_ct, SRes.bind_ex, SRes.bind_bad, at_call, at_glo, at_fuel, SRes.back, List.getElem?_cons_zero, List.getElem?_cons_succ, List.set_cons_zero, List.set_cons_succ, asgT, asgTs, cmpV, truV, binV, bltV, tyN, tyLe, subV, Option.map_some, Option.map_none, List.any_cons, List.any_nil, if_true, if_false, ite_true, ite_false, String.reduceBEq, Nat.reduceAdd, Bool.or_false, Bool.false_or, Bool.or_true, Bool.true_or, Bool.and_true, Bool.true_and, Bool.and_false, Bool.false_and, Bool.not_true, Bool.not_false, beq_self_eq_true, decide_true, decide_false, reduceCtorEq, Bool.false_eq_true, Ev.keyOf, dctKeys, List.length_cons, List.length_nil, List.zip_cons_cons, List.zip_nil_left, List.zip_nil_right, List.foldl_cons, List.foldl_nil, methV, setV, isL, permL_cons, permL_nil, List.map_cons, List.map_nil, valP_cons, valP_nil, key_str, key_int, ofString_eq, String.reduceEq, putP, sizeLine_eq, Nat.reduceLT, Nat.reduceLeDiff, sto_self, mulOk, powOk, divOk, Int.reducePow, Nat.reducePow, Int.reduceNeg, Int.reduceLT, Int.reduceLE, natAbs64, natAbs30, Int.reduceToNat, Int.reduceEq, Int.reduceAdd, Int.reduceSub, Int.reduceMul, ne_eq, not_false_eq_true, Int.reduceNe, Ev.alloc, Ev.eq_ii, Ev.eq_ss, Ev.eq_bb, Ev.eq_nn, Ev.eq_ni, Ev.eq_in, Ev.eq_ns, Ev.eq_sn, Ev.eq_nb, Ev.eq_bn, Ev.eq_is, Ev.eq_si, and_self, true_and, and_true, fmod_lt64, fmod_gt64, atI_0, atI_1, atI_2, atI_3, atI_4, atI_5, atI_6, atI_7, atI_8, atI_9, itemsV, smV, fmtV, lenSetV, seqOf, lstOf, slcV, revV, srcOf, optI, List.nil_append, List.cons_append, sto_new, intsP, sortI, insI, compL, compG, wipeP, boolsP, List.all_cons, List.all_nil, id_eq, keep_nil, maxI, minI, intsP, cutf_1, cutf_2, cutf_3, cutf_4, cutt_1, cutt_2, cutt_3, cutt_4, List.drop_succ_cons, List.drop_zero, List.take_succ_cons, List.take_zero, Int.cast_ofNat_Int, false_and, and_false, or_self, or_false, false_or, true_or, or_true, lit_e, tS_len, tS_cat, tS_eq, tS_lt, List.toList_toArray, g_MOST_WORD, g_LETTERS, g_MOST_POOL, g_MOST_WEIGHT, g_BEGIN, g_FACTOR, g_MODULUS, GC.pv, atI_lit, p1, p2, p3, p4, m1, m2, m3, m4, q]
        · have e : lbc P b best c = best := if_neg q
          rw [e]
          simp only [↓evE.eq_1, ↓evE.eq_2, ↓evE.eq_3, ↓evE.eq_4, ↓evE.eq_5, ↓evE.eq_6, ↓evE.eq_7, ↓evE.eq_8, ↓evE.eq_9, ↓evE.eq_10, ↓evE.eq_11, ↓evE.eq_12, ↓evE.eq_13, ↓evE.eq_14, ↓evE.eq_15, ↓evE.eq_16, ↓evE.eq_17, ↓evE.eq_18, ↓evE.eq_19, ↓evE.eq_20, ↓evE.eq_21, ↓evE.eq_22, ↓evE.eq_23, ↓evE.eq_24, ↓evE.eq_25, ↓evE.eq_26, ↓evE.eq_27, ↓evE.eq_28, ↓evE.eq_29, ↓evE.eq_30, ↓evE.eq_31, ↓evE.eq_32, ↓evE.eq_33, ↓evE.eq_34, ↓evE.eq_35, ↓evE.eq_36, ↓evE.eq_37, ↓evE.eq_38, ↓evS.eq_1, ↓evS_seq, ↓evS.eq_3, ↓evS.eq_4, ↓evS.eq_5, ↓evS.eq_6, ↓evS.eq_7, ↓evS.eq_8, ↓evS_ite, ↓iteS, ↓evS.eq_11, ↓evS.eq_12, ↓evS.eq_13, ↓evS.eq_14, ↓evS.eq_15, ↓evS.eq_16, ↓evS.eq_17, ↓evS_for, ↓evA.eq_1, ↓evA.eq_2, ↓evT.eq_1, ↓evT.eq_2, ↓evO.eq_1, ↓evO.eq_2, ↓evI.eq_1, ↓evI.eq_2, ↓evI.eq_3, ↓evI.eq_4, ↓evI.eq_5, ↓evF.eq_1, ↓evF.eq_2, ↓m_bind, ↓m_then, ↓m_opt, SRes.bind_nx, SRes.bind_rt, SRes.bind_bk, SRes.bind_ct, SRes.bind_ex, SRes.bind_bad, at_call, at_glo, at_fuel, SRes.back, List.getElem?_cons_zero, List.getElem?_cons_succ, List.set_cons_zero, List.set_cons_succ, asgT, asgTs, cmpV, truV, binV, bltV, tyN, tyLe, subV, Option.map_some, Option.map_none, List.any_cons, List.any_nil, if_true, if_false, ite_true, ite_false, String.reduceBEq, Nat.reduceAdd, Bool.or_false, Bool.false_or, Bool.or_true, Bool.true_or, Bool.and_true, Bool.true_and, Bool.and_false, Bool.false_and, Bool.not_true, Bool.not_false, beq_self_eq_true, decide_true, decide_false, reduceCtorEq, Bool.false_eq_true, Ev.keyOf, dctKeys, List.length_cons, List.length_nil, List.zip_cons_cons, List.zip_nil_left, List.zip_nil_right, List.foldl_cons, List.foldl_nil, methV, setV, isL, permL_cons, permL_nil, List.map_cons, List.map_nil, valP_cons, valP_nil, key_str, key_int, ofString_eq, String.reduceEq, putP, sizeLine_eq, Nat.reduceLT, Nat.reduceLeDiff, sto_self, mulOk, powOk, divOk, Int.reducePow, Nat.reducePow, Int.reduceNeg, Int.reduceLT, Int.reduceLE, natAbs64, natAbs30, Int.reduceToNat, Int.reduceEq, Int.reduceAdd, Int.reduceSub, Int.reduceMul, ne_eq, not_false_eq_true, Int.reduceNe, Ev.alloc, Ev.eq_ii, Ev.eq_ss, Ev.eq_bb, Ev.eq_nn, Ev.eq_ni, Ev.eq_in, Ev.eq_ns, Ev.eq_sn, Ev.eq_nb, Ev.eq_bn, Ev.eq_is, Ev.eq_si, and_self, true_and, and_true, fmod_lt64, fmod_gt64, atI_0, atI_1, atI_2, atI_3, atI_4, atI_5, atI_6, atI_7, atI_8, atI_9, itemsV, smV, fmtV, lenSetV, seqOf, lstOf, slcV, revV, srcOf, optI, List.nil_append, List.cons_append, sto_new, intsP, sortI, insI, compL, compG, wipeP, boolsP, List.all_cons, List.all_nil, id_eq, keep_nil, maxI, minI, intsP, cutf_1, cutf_2, cutf_3, cutf_4, cutt_1, cutt_2, cutt_3, cutt_4, List.drop_succ_cons, List.drop_zero, List.take_succ_cons, List.take_zero, Int.cast_ofNat_Int, false_and, and_false, or_self, or_false, false_or, true_or, or_true, lit_e, tS_len, tS_cat, tS_eq, tS_lt, List.toList_toArray, g_MOST_WORD, g_LETTERS, g_MOST_POOL, g_MOST_WEIGHT, g_BEGIN, g_FACTOR, g_MODULUS, GC.pv, atI_lit, p1, p2, p3, p4, m1, m2, m3, m4, q])
  have : rt = [] := by cases rt with
    | nil => rfl
    | cons _ _ => cases h1
  subst this
  have hbest : best = lbF P b a l := h3.2
  subst h4
  simp only [↓evE.eq_1, ↓evE.eq_2, ↓evE.eq_3, ↓evE.eq_4, ↓evE.eq_5, ↓evE.eq_6, ↓evE.eq_7, ↓evE.eq_8, ↓evE.eq_9, ↓evE.eq_10, ↓evE.eq_11, ↓evE.eq_12, ↓evE.eq_13, ↓evE.eq_14, ↓evE.eq_15, ↓evE.eq_16, ↓evE.eq_17, ↓evE.eq_18, ↓evE.eq_19, ↓evE.eq_20, ↓evE.eq_21, ↓evE.eq_22, ↓evE.eq_23, ↓evE.eq_24, ↓evE.eq_25, ↓evE.eq_26, ↓evE.eq_27, ↓evE.eq_28, ↓evE.eq_29, ↓evE.eq_30, ↓evE.eq_31, ↓evE.eq_32, ↓evE.eq_33, ↓evE.eq_34, ↓evE.eq_35, ↓evE.eq_36, ↓evE.eq_37, ↓evE.eq_38, ↓evS.eq_1, ↓evS_seq, ↓evS.eq_3, ↓evS.eq_4, ↓evS.eq_5, ↓evS.eq_6, ↓evS.eq_7, ↓evS.eq_8, ↓evS_ite, ↓iteS, ↓evS.eq_11, ↓evS.eq_12, ↓evS.eq_13, ↓evS.eq_14, ↓evS.eq_15, ↓evS.eq_16, ↓evS.eq_17, ↓evS_for, ↓evA.eq_1, ↓evA.eq_2, ↓evT.eq_1, ↓evT.eq_2, ↓evO.eq_1, ↓evO.eq_2, ↓evI.eq_1, ↓evI.eq_2, ↓evI.eq_3, ↓evI.eq_4, ↓evI.eq_5, ↓evF.eq_1, ↓evF.eq_2, ↓m_bind, ↓m_then, ↓m_opt, SRes.bind_nx, SRes.bind_rt, SRes.bind_bk, SRes.bind_ct, SRes.bind_ex, SRes.bind_bad, at_call, at_glo, at_fuel, SRes.back, List.getElem?_cons_zero, List.getElem?_cons_succ, List.set_cons_zero, List.set_cons_succ, asgT, asgTs, cmpV, truV, binV, bltV, tyN, tyLe, subV, Option.map_some, Option.map_none, List.any_cons, List.any_nil, if_true, if_false, ite_true, ite_false, String.reduceBEq, Nat.reduceAdd, Bool.or_false, Bool.false_or, Bool.or_true, Bool.true_or, Bool.and_true, Bool.true_and, Bool.and_false, Bool.false_and, Bool.not_true, Bool.not_false, beq_self_eq_true, decide_true, decide_false, reduceCtorEq, Bool.false_eq_true, Ev.keyOf, dctKeys, List.length_cons, List.length_nil, List.zip_cons_cons, List.zip_nil_left, List.zip_nil_right, List.foldl_cons, List.foldl_nil, methV, setV, isL, permL_cons, permL_nil, List.map_cons, List.map_nil, valP_cons, valP_nil, key_str, key_int, ofString_eq, String.reduceEq, putP, sizeLine_eq, Nat.reduceLT, Nat.reduceLeDiff, sto_self, mulOk, powOk, divOk, Int.reducePow, Nat.reducePow, Int.reduceNeg, Int.reduceLT, Int.reduceLE, natAbs64, natAbs30, Int.reduceToNat, Int.reduceEq, Int.reduceAdd, Int.reduceSub, Int.reduceMul, ne_eq, not_false_eq_true, Int.reduceNe, Ev.alloc, Ev.eq_ii, Ev.eq_ss, Ev.eq_bb, Ev.eq_nn, Ev.eq_ni, Ev.eq_in, Ev.eq_ns, Ev.eq_sn, Ev.eq_nb, Ev.eq_bn, Ev.eq_is, Ev.eq_si, and_self, true_and, and_true, fmod_lt64, fmod_gt64, atI_0, atI_1, atI_2, atI_3, atI_4, atI_5, atI_6, atI_7, atI_8, atI_9, itemsV, smV, fmtV, lenSetV, seqOf, lstOf, slcV, revV, srcOf, optI, List.nil_append, List.cons_append, sto_new, intsP, sortI, insI, compL, compG, wipeP, boolsP, List.all_cons, List.all_nil, id_eq, keep_nil, maxI, minI, intsP, cutf_1, cutf_2, cutf_3, cutf_4, cutt_1, cutt_2, cutt_3, cutt_4, List.drop_succ_cons, List.drop_zero, List.take_succ_cons, List.take_zero, Int.cast_ofNat_Int, false_and, and_false, or_self, or_false, false_or, true_or, or_true, lit_e, tS_len, tS_cat, tS_eq, tS_lt, List.toList_toArray, g_MOST_WORD, g_LETTERS, g_MOST_POOL, g_MOST_WEIGHT, g_BEGIN, g_FACTOR, g_MODULUS, GC.pv, atI_lit]
  rw [hbest]
theorem counts_ok (n : Nat) (M : Sto) {P : Pool} {b : List Int} (hb : IsBusy P b) (hP : IsPool P) : ∃ M', callN T (n + 3) "are_counts_like" [pV P, bV b] M = .ok (.bl true) M' ∧ Keep [] M M' := by
  have hl := hP.le
  have e0 := hb.len
  rw [e_are_counts_like]
  unfold c_are_counts_like
  have r : decide (((b.map PV.int).length : Int) = ((P.map eV).length : Nat)) = true := decide_eq_true (by simp [e0])
  simp only [↓evE.eq_1, ↓evE.eq_2, ↓evE.eq_3, ↓evE.eq_4, ↓evE.eq_5, ↓evE.eq_6, ↓evE.eq_7, ↓evE.eq_8, ↓evE.eq_9, ↓evE.eq_10, ↓evE.eq_11, ↓evE.eq_12, ↓evE.eq_13, ↓evE.eq_14, ↓evE.eq_15, ↓evE.eq_16, ↓evE.eq_17, ↓evE.eq_18, ↓evE.eq_19, ↓evE.eq_20, ↓evE.eq_21, ↓evE.eq_22, ↓evE.eq_23, ↓evE.eq_24, ↓evE.eq_25, ↓evE.eq_26, ↓evE.eq_27, ↓evE.eq_28, ↓evE.eq_29, ↓evE.eq_30, ↓evE.eq_31, ↓evE.eq_32, ↓evE.eq_33, ↓evE.eq_34, ↓evE.eq_35, ↓evE.eq_36, ↓evE.eq_37, ↓evE.eq_38, ↓evS.eq_1, ↓evS_seq, ↓evS.eq_3, ↓evS.eq_4, ↓evS.eq_5, ↓evS.eq_6, ↓evS.eq_7, ↓evS.eq_8, ↓evS_ite, ↓iteS, ↓evS.eq_11, ↓evS.eq_12, ↓evS.eq_13, ↓evS.eq_14, ↓evS.eq_15, ↓evS.eq_16, ↓evS.eq_17, ↓evS_for, ↓evA.eq_1, ↓evA.eq_2, ↓evT.eq_1, ↓evT.eq_2, ↓evO.eq_1, ↓evO.eq_2, ↓evI.eq_1, ↓evI.eq_2, ↓evI.eq_3, ↓evI.eq_4, ↓evI.eq_5, ↓evF.eq_1, ↓evF.eq_2, ↓m_bind, ↓m_then, ↓m_opt, SRes.bind_nx, SRes.bind_rt, SRes.bind_bk, SRes.bind_ct, SRes.bind_ex, SRes.bind_bad, at_call, at_glo, at_fuel, SRes.back, List.getElem?_cons_zero, List.getElem?_cons_succ, List.set_cons_zero, List.set_cons_succ, asgT, asgTs, cmpV, truV, binV, bltV, tyN, tyLe, subV, Option.map_some, Option.map_none, List.any_cons, List.any_nil, if_true, if_false, ite_true, ite_false, String.reduceBEq, Nat.reduceAdd, Bool.or_false, Bool.false_or, Bool.or_true, Bool.true_or, Bool.and_true, Bool.true_and, Bool.and_false, Bool.false_and, Bool.not_true, Bool.not_false, beq_self_eq_true, decide_true, decide_false, reduceCtorEq, Bool.false_eq_true, Ev.keyOf, dctKeys, List.length_cons, List.length_nil, List.zip_cons_cons, List.zip_nil_left, List.zip_nil_right, List.foldl_cons, List.foldl_nil, methV, setV, isL, permL_cons, permL_nil, List.map_cons, List.map_nil, valP_cons, valP_nil, key_str, key_int, ofString_eq, String.reduceEq, putP, sizeLine_eq, Nat.reduceLT, Nat.reduceLeDiff, sto_self, mulOk, powOk, divOk, Int.reducePow, Nat.reducePow, Int.reduceNeg, Int.reduceLT, Int.reduceLE, natAbs64, natAbs30, Int.reduceToNat, Int.reduceEq, Int.reduceAdd, Int.reduceSub, Int.reduceMul, ne_eq, not_false_eq_true, Int.reduceNe, Ev.alloc, Ev.eq_ii, Ev.eq_ss, Ev.eq_bb, Ev.eq_nn, Ev.eq_ni, Ev.eq_in, Ev.eq_ns, Ev.eq_sn, Ev.eq_nb, Ev.eq_bn, Ev.eq_is, Ev.eq_si, and_self, true_and, and_true, fmod_lt64, fmod_gt64, atI_0, atI_1, atI_2, atI_3, atI_4, atI_5, atI_6, atI_7, atI_8, atI_9, itemsV, smV, fmtV, lenSetV, seqOf, lstOf, slcV, revV, srcOf, optI, List.nil_append, List.cons_append, sto_new, intsP, sortI, insI, compL, compG, wipeP, boolsP, List.all_cons, List.all_nil, id_eq, keep_nil, maxI, minI, intsP, cutf_1, cutf_2, cutf_3, cutf_4, cutt_1, cutt_2, cutt_3, cutt_4, List.drop_succ_cons, List.drop_zero, List.take_succ_cons, List.take_zero, Int.cast_ofNat_Int, false_and, and_false, or_self, or_false, false_or, true_or, or_true, lit_e, tS_len, tS_cat, tS_eq, tS_lt, List.toList_toArray, g_MOST_WORD, g_LETTERS, g_MOST_POOL, g_MOST_WEIGHT, g_BEGIN, g_FACTOR, g_MODULUS, GC.pv, atI_lit, is_row_ok, r]
  generalize hz : compL _ _ _ _ _ = z
  have hc := comp_map b PV.int (fun _ => .bl true) hz (keep_nil _) (fun x hx => by
    have c : decide (0 ≤ x) = true := decide_eq_true (hb.pos x hx)
    simp only [↓evE.eq_1, ↓evE.eq_2, ↓evE.eq_3, ↓evE.eq_4, ↓evE.eq_5, ↓evE.eq_6, ↓evE.eq_7, ↓evE.eq_8, ↓evE.eq_9, ↓evE.eq_10, ↓evE.eq_11, ↓evE.eq_12, ↓evE.eq_13, ↓evE.eq_14, ↓evE.eq_15, ↓evE.eq_16, ↓evE.eq_17, ↓evE.eq_18, ↓evE.eq_19, ↓evE.eq_20, ↓evE.eq_21, ↓evE.eq_22, ↓evE.eq_23, ↓evE.eq_24, ↓evE.eq_25, ↓evE.eq_26, ↓evE.eq_27, ↓evE.eq_28, ↓evE.eq_29, ↓evE.eq_30, ↓evE.eq_31, ↓evE.eq_32, ↓evE.eq_33, ↓evE.eq_34, ↓evE.eq_35, ↓evE.eq_36, ↓evE.eq_37, ↓evE.eq_38, ↓evS.eq_1, ↓evS_seq, ↓evS.eq_3, ↓evS.eq_4, ↓evS.eq_5, ↓evS.eq_6, ↓evS.eq_7, ↓evS.eq_8, ↓evS_ite, ↓iteS, ↓evS.eq_11, ↓evS.eq_12, ↓evS.eq_13, ↓evS.eq_14, ↓evS.eq_15, ↓evS.eq_16, ↓evS.eq_17, ↓evS_for, ↓evA.eq_1, ↓evA.eq_2, ↓evT.eq_1, ↓evT.eq_2, ↓evO.eq_1, ↓evO.eq_2, ↓evI.eq_1, ↓evI.eq_2, ↓evI.eq_3, ↓evI.eq_4, ↓evI.eq_5, ↓evF.eq_1, ↓evF.eq_2, ↓m_bind, ↓m_then, ↓m_opt, SRes.bind_nx, SRes.bind_rt, SRes.bind_bk, SRes.bind_ct, SRes.bind_ex, SRes.bind_bad, at_call, at_glo, at_fuel, SRes.back, List.getElem?_cons_zero, List.getElem?_cons_succ, List.set_cons_zero, List.set_cons_succ, asgT, asgTs, cmpV, truV, binV, bltV, tyN, tyLe, subV, Option.map_some, Option.map_none, List.any_cons, List.any_nil, if_true, if_false, ite_true, ite_false, String.reduceBEq, Nat.reduceAdd, Bool.or_false, Bool.false_or, Bool.or_true, Bool.true_or, Bool.and_true, Bool.true_and, Bool.and_false, Bool.false_and, Bool.not_true, Bool.not_false, beq_self_eq_true, decide_true, decide_false, reduceCtorEq, Bool.false_eq_true, Ev.keyOf, dctKeys, List.length_cons, List.length_nil, List.zip_cons_cons, List.zip_nil_left, List.zip_nil_right, List.foldl_cons, List.foldl_nil, methV, setV, isL, permL_cons, permL_nil, List.map_cons, List.map_nil, valP_cons, valP_nil, key_str, key_int, ofString_eq, String.reduceEq, putP, sizeLine_eq, Nat.reduceLT, Nat.reduceLeDiff, sto_self, mulOk, powOk, divOk, Int.reducePow, Nat.reducePow, Int.reduceNeg, Int.reduceLT, Int.reduceLE, natAbs64, natAbs30, Int.reduceToNat, Int.reduceEq, Int.reduceAdd, Int.reduceSub, Int.reduceMul, ne_eq, not_false_eq_true, Int.reduceNe, Ev.alloc, Ev.eq_ii, Ev.eq_ss, Ev.eq_bb, Ev.eq_nn, Ev.eq_ni, Ev.eq_in, Ev.eq_ns, Ev.eq_sn, Ev.eq_nb, Ev.eq_bn, Ev.eq_is, Ev.eq_si, and_self, true_and, and_true, fmod_lt64, fmod_gt64, atI_0, atI_1, atI_2, atI_3, atI_4, atI_5, atI_6, atI_7, atI_8, atI_9, itemsV, smV, fmtV, lenSetV, seqOf, lstOf, slcV, revV, srcOf, optI, List.nil_append, List.cons_append, sto_new, intsP, sortI, insI, compL, compG, wipeP, boolsP, List.all_cons, List.all_nil, id_eq, keep_nil, maxI, minI, intsP, cutf_1, cutf_2, cutf_3, cutf_4, cutt_1, cutt_2, cutt_3, cutt_4, List.drop_succ_cons, List.drop_zero, List.take_succ_cons, List.take_zero, Int.cast_ofNat_Int, false_and, and_false, or_self, or_false, false_or, true_or, or_true, lit_e, tS_len, tS_cat, tS_eq, tS_lt, List.toList_toArray, g_MOST_WORD, g_LETTERS, g_MOST_POOL, g_MOST_WEIGHT, g_BEGIN, g_FACTOR, g_MODULUS, GC.pv, atI_lit, is_count_ok, c]) (by rw [sizeLine_eq]; omega)
  subst hc
  have e := bools_of (fun _ : Int => true) b
  simp only [↓evE.eq_1, ↓evE.eq_2, ↓evE.eq_3, ↓evE.eq_4, ↓evE.eq_5, ↓evE.eq_6, ↓evE.eq_7, ↓evE.eq_8, ↓evE.eq_9, ↓evE.eq_10, ↓evE.eq_11, ↓evE.eq_12, ↓evE.eq_13, ↓evE.eq_14, ↓evE.eq_15, ↓evE.eq_16, ↓evE.eq_17, ↓evE.eq_18, ↓evE.eq_19, ↓evE.eq_20, ↓evE.eq_21, ↓evE.eq_22, ↓evE.eq_23, ↓evE.eq_24, ↓evE.eq_25, ↓evE.eq_26, ↓evE.eq_27, ↓evE.eq_28, ↓evE.eq_29, ↓evE.eq_30, ↓evE.eq_31, ↓evE.eq_32, ↓evE.eq_33, ↓evE.eq_34, ↓evE.eq_35, ↓evE.eq_36, ↓evE.eq_37, ↓evE.eq_38, ↓evS.eq_1, ↓evS_seq, ↓evS.eq_3, ↓evS.eq_4, ↓evS.eq_5, ↓evS.eq_6, ↓evS.eq_7, ↓evS.eq_8, ↓evS_ite, ↓iteS, ↓evS.eq_11, ↓evS.eq_12, ↓evS.eq_13, ↓evS.eq_14, ↓evS.eq_15, ↓evS.eq_16, ↓evS.eq_17, ↓evS_for, ↓evA.eq_1, ↓evA.eq_2, ↓evT.eq_1, ↓evT.eq_2, ↓evO.eq_1, ↓evO.eq_2, ↓evI.eq_1, ↓evI.eq_2, ↓evI.eq_3, ↓evI.eq_4, ↓evI.eq_5, ↓evF.eq_1, ↓evF.eq_2, ↓m_bind, ↓m_then, ↓m_opt, SRes.bind_nx, SRes.bind_rt, SRes.bind_bk, SRes.bind_ct, SRes.bind_ex, SRes.bind_bad, at_call, at_glo, at_fuel, SRes.back, List.getElem?_cons_zero, List.getElem?_cons_succ, List.set_cons_zero, List.set_cons_succ, asgT, asgTs, cmpV, truV, binV, bltV, tyN, tyLe, subV, Option.map_some, Option.map_none, List.any_cons, List.any_nil, if_true, if_false, ite_true, ite_false, String.reduceBEq, Nat.reduceAdd, Bool.or_false, Bool.false_or, Bool.or_true, Bool.true_or, Bool.and_true, Bool.true_and, Bool.and_false, Bool.false_and, Bool.not_true, Bool.not_false, beq_self_eq_true, decide_true, decide_false, reduceCtorEq, Bool.false_eq_true, Ev.keyOf, dctKeys, List.length_cons, List.length_nil, List.zip_cons_cons, List.zip_nil_left, List.zip_nil_right, List.foldl_cons, List.foldl_nil, methV, setV, isL, permL_cons, permL_nil, List.map_cons, List.map_nil, valP_cons, valP_nil, key_str, key_int, ofString_eq, String.reduceEq, putP, sizeLine_eq, Nat.reduceLT, Nat.reduceLeDiff, sto_self, mulOk, powOk, divOk, Int.reducePow, Nat.reducePow, Int.reduceNeg, Int.reduceLT, Int.reduceLE, natAbs64, natAbs30, Int.reduceToNat, Int.reduceEq, Int.reduceAdd, Int.reduceSub, Int.reduceMul, ne_eq, not_false_eq_true, Int.reduceNe, Ev.alloc, Ev.eq_ii, Ev.eq_ss, Ev.eq_bb, Ev.eq_nn, Ev.eq_ni, Ev.eq_in, Ev.eq_ns, Ev.eq_sn, Ev.eq_nb, Ev.eq_bn, Ev.eq_is, Ev.eq_si, and_self, true_and, and_true, fmod_lt64, fmod_gt64, atI_0, atI_1, atI_2, atI_3, atI_4, atI_5, atI_6, atI_7, atI_8, atI_9, itemsV, smV, fmtV, lenSetV, seqOf, lstOf, slcV, revV, srcOf, optI, List.nil_append, List.cons_append, sto_new, intsP, sortI, insI, compL, compG, wipeP, boolsP, List.all_cons, List.all_nil, id_eq, keep_nil, maxI, minI, intsP, cutf_1, cutf_2, cutf_3, cutf_4, cutt_1, cutt_2, cutt_3, cutt_4, List.drop_succ_cons, List.drop_zero, List.take_succ_cons, List.take_zero, Int.cast_ofNat_Int, false_and, and_false, or_self, or_false, false_or, true_or, or_true, lit_e, tS_len, tS_cat, tS_eq, tS_lt, List.toList_toArray, g_MOST_WORD, g_LETTERS, g_MOST_POOL, g_MOST_WEIGHT, g_BEGIN, g_FACTOR, g_MODULUS, GC.pv, atI_lit, e, all_const]
  exact ⟨_, rfl, Keep.app⟩
theorem least_ok (n : Nat) (M : Sto) {P : Pool} (hP : IsPool P) {a : Nat} {l : List Nat} (hl : IsLot P (a :: l)) {b : List Int} (hb : IsBusy P b) : ∃ M', callN T (n + 6) "least_busy" [pV P, lV (a :: l), bV b] M = .ok (iV (lbF P b a l)) M' ∧ Keep [] M M' := by
  obtain ⟨M1, e1, k1⟩ := need_lot_ok n M hP hl
  obtain ⟨M2, e2, k2⟩ := counts_ok (n + 2) M1 hb hP
  rw [e_least_busy]
  unfold c_least_busy
  simp only [↓evE.eq_1, ↓evE.eq_2, ↓evE.eq_3, ↓evE.eq_4, ↓evE.eq_5, ↓evE.eq_6, ↓evE.eq_7, ↓evE.eq_8, ↓evE.eq_9, ↓evE.eq_10, ↓evE.eq_11, ↓evE.eq_12, ↓evE.eq_13, ↓evE.eq_14, ↓evE.eq_15, ↓evE.eq_16, ↓evE.eq_17, ↓evE.eq_18, ↓evE.eq_19, ↓evE.eq_20, ↓evE.eq_21, ↓evE.eq_22, ↓evE.eq_23, ↓evE.eq_24, ↓evE.eq_25, ↓evE.eq_26, ↓evE.eq_27, ↓evE.eq_28, ↓evE.eq_29, ↓evE.eq_30, ↓evE.eq_31, ↓evE.eq_32, ↓evE.eq_33, ↓evE.eq_34, ↓evE.eq_35, ↓evE.eq_36, ↓evE.eq_37, ↓evE.eq_38, ↓evS.eq_1, ↓evS_seq, ↓evS.eq_3, ↓evS.eq_4, ↓evS.eq_5, ↓evS.eq_6, ↓evS.eq_7, ↓evS.eq_8, ↓evS_ite, ↓iteS, ↓evS.eq_11, ↓evS.eq_12, ↓evS.eq_13, ↓evS.eq_14, ↓evS.eq_15, ↓evS.eq_16, ↓evS.eq_17, ↓evS_for, ↓evA.eq_1, ↓evA.eq_2, ↓evT.eq_1, ↓evT.eq_2, ↓evO.eq_1, ↓evO.eq_2, ↓evI.eq_1, ↓evI.eq_2, ↓evI.eq_3, ↓evI.eq_4, ↓evI.eq_5, ↓evF.eq_1, ↓evF.eq_2, ↓m_bind, ↓m_then, ↓m_opt, SRes.bind_nx, SRes.bind_rt, SRes.bind_bk, SRes.bind_ct, SRes.bind_ex, SRes.bind_bad, at_call, at_glo, at_fuel, SRes.back, List.getElem?_cons_zero, List.getElem?_cons_succ, List.set_cons_zero, List.set_cons_succ, asgT, asgTs, cmpV, truV, binV, bltV, tyN, tyLe, subV, Option.map_some, Option.map_none, List.any_cons, List.any_nil, if_true, if_false, ite_true, ite_false, String.reduceBEq, Nat.reduceAdd, Bool.or_false, Bool.false_or, Bool.or_true, Bool.true_or, Bool.and_true, Bool.true_and, Bool.and_false, Bool.false_and, Bool.not_true, Bool.not_false, beq_self_eq_true, decide_true, decide_false, reduceCtorEq, Bool.false_eq_true, Ev.keyOf, dctKeys, List.length_cons, List.length_nil, List.zip_cons_cons, List.zip_nil_left, List.zip_nil_right, List.foldl_cons, List.foldl_nil, methV, setV, isL, permL_cons, permL_nil, List.map_cons, List.map_nil, valP_cons, valP_nil, key_str, key_int, ofString_eq, String.reduceEq, putP, sizeLine_eq, Nat.reduceLT, Nat.reduceLeDiff, sto_self, mulOk, powOk, divOk, Int.reducePow, Nat.reducePow, Int.reduceNeg, Int.reduceLT, Int.reduceLE, natAbs64, natAbs30, Int.reduceToNat, Int.reduceEq, Int.reduceAdd, Int.reduceSub, Int.reduceMul, ne_eq, not_false_eq_true, Int.reduceNe, Ev.alloc, Ev.eq_ii, Ev.eq_ss, Ev.eq_bb, Ev.eq_nn, Ev.eq_ni, Ev.eq_in, Ev.eq_ns, Ev.eq_sn, Ev.eq_nb, Ev.eq_bn, Ev.eq_is, Ev.eq_si, and_self, true_and, and_true, fmod_lt64, fmod_gt64, atI_0, atI_1, atI_2, atI_3, atI_4, atI_5, atI_6, atI_7, atI_8, atI_9, itemsV, smV, fmtV, lenSetV, seqOf, lstOf, slcV, revV, srcOf, optI, List.nil_append, List.cons_append, sto_new, intsP, sortI, insI, compL, compG, wipeP, boolsP, List.all_cons, List.all_nil, id_eq, keep_nil, maxI, minI, intsP, cutf_1, cutf_2, cutf_3, cutf_4, cutt_1, cutt_2, cutt_3, cutt_4, List.drop_succ_cons, List.drop_zero, List.take_succ_cons, List.take_zero, Int.cast_ofNat_Int, false_and, and_false, or_self, or_false, false_or, true_or, or_true, lit_e, tS_len, tS_cat, tS_eq, tS_lt, List.toList_toArray, g_MOST_WORD, g_LETTERS, g_MOST_POOL, g_MOST_WEIGHT, g_BEGIN, g_FACTOR, g_MODULUS, GC.pv, atI_lit, e1, e2, least_in_ok (n + 4) _ hP hl hb]
  exact ⟨_, rfl, k1.trans k2⟩
theorem need_word_ok (n : Nat) (M : Sto) {w : List Nat} (h : word w) : ∃ M', callN T (n + 2) "need_word" [tv w] M = .ok .non M' ∧ Keep [] M M' := by
  obtain ⟨M', e, k⟩ := is_word_ok n M h
  rw [e_need_word]
  unfold c_need_word
  simp only [↓evE.eq_1, ↓evE.eq_2, ↓evE.eq_3, ↓evE.eq_4, ↓evE.eq_5, ↓evE.eq_6, ↓evE.eq_7, ↓evE.eq_8, ↓evE.eq_9, ↓evE.eq_10, ↓evE.eq_11, ↓evE.eq_12, ↓evE.eq_13, ↓evE.eq_14, ↓evE.eq_15, ↓evE.eq_16, ↓evE.eq_17, ↓evE.eq_18, ↓evE.eq_19, ↓evE.eq_20, ↓evE.eq_21, ↓evE.eq_22, ↓evE.eq_23, ↓evE.eq_24, ↓evE.eq_25, ↓evE.eq_26, ↓evE.eq_27, ↓evE.eq_28, ↓evE.eq_29, ↓evE.eq_30, ↓evE.eq_31, ↓evE.eq_32, ↓evE.eq_33, ↓evE.eq_34, ↓evE.eq_35, ↓evE.eq_36, ↓evE.eq_37, ↓evE.eq_38, ↓evS.eq_1, ↓evS_seq, ↓evS.eq_3, ↓evS.eq_4, ↓evS.eq_5, ↓evS.eq_6, ↓evS.eq_7, ↓evS.eq_8, ↓evS_ite, ↓iteS, ↓evS.eq_11, ↓evS.eq_12, ↓evS.eq_13, ↓evS.eq_14, ↓evS.eq_15, ↓evS.eq_16, ↓evS.eq_17, ↓evS_for, ↓evA.eq_1, ↓evA.eq_2, ↓evT.eq_1, ↓evT.eq_2, ↓evO.eq_1, ↓evO.eq_2, ↓evI.eq_1, ↓evI.eq_2, ↓evI.eq_3, ↓evI.eq_4, ↓evI.eq_5, ↓evF.eq_1, ↓evF.eq_2, ↓m_bind, ↓m_then, ↓m_opt, SRes.bind_nx, SRes.bind_rt, SRes.bind_bk, SRes.bind_ct, SRes.bind_ex, SRes.bind_bad, at_call, at_glo, at_fuel, SRes.back, List.getElem?_cons_zero, List.getElem?_cons_succ, List.set_cons_zero, List.set_cons_succ, asgT, asgTs, cmpV, truV, binV, bltV, tyN, tyLe, subV, Option.map_some, Option.map_none, List.any_cons, List.any_nil, if_true, if_false, ite_true, ite_false, String.reduceBEq, Nat.reduceAdd, Bool.or_false, Bool.false_or, Bool.or_true, Bool.true_or, Bool.and_true, Bool.true_and, Bool.and_false, Bool.false_and, Bool.not_true, Bool.not_false, beq_self_eq_true, decide_true, decide_false, reduceCtorEq, Bool.false_eq_true, Ev.keyOf, dctKeys, List.length_cons, List.length_nil, List.zip_cons_cons, List.zip_nil_left, List.zip_nil_right, List.foldl_cons, List.foldl_nil, methV, setV, isL, permL_cons, permL_nil, List.map_cons, List.map_nil, valP_cons, valP_nil, key_str, key_int, ofString_eq, String.reduceEq, putP, sizeLine_eq, Nat.reduceLT, Nat.reduceLeDiff, sto_self, mulOk, powOk, divOk, Int.reducePow, Nat.reducePow, Int.reduceNeg, Int.reduceLT, Int.reduceLE, natAbs64, natAbs30, Int.reduceToNat, Int.reduceEq, Int.reduceAdd, Int.reduceSub, Int.reduceMul, ne_eq, not_false_eq_true, Int.reduceNe, Ev.alloc, Ev.eq_ii, Ev.eq_ss, Ev.eq_bb, Ev.eq_nn, Ev.eq_ni, Ev.eq_in, Ev.eq_ns, Ev.eq_sn, Ev.eq_nb, Ev.eq_bn, Ev.eq_is, Ev.eq_si, and_self, true_and, and_true, fmod_lt64, fmod_gt64, atI_0, atI_1, atI_2, atI_3, atI_4, atI_5, atI_6, atI_7, atI_8, atI_9, itemsV, smV, fmtV, lenSetV, seqOf, lstOf, slcV, revV, srcOf, optI, List.nil_append, List.cons_append, sto_new, intsP, sortI, insI, compL, compG, wipeP, boolsP, List.all_cons, List.all_nil, id_eq, keep_nil, maxI, minI, intsP, cutf_1, cutf_2, cutf_3, cutf_4, cutt_1, cutt_2, cutt_3, cutt_4, List.drop_succ_cons, List.drop_zero, List.take_succ_cons, List.take_zero, Int.cast_ofNat_Int, false_and, and_false, or_self, or_false, false_or, true_or, or_true, lit_e, tS_len, tS_cat, tS_eq, tS_lt, List.toList_toArray, g_MOST_WORD, g_LETTERS, g_MOST_POOL, g_MOST_WEIGHT, g_BEGIN, g_FACTOR, g_MODULUS, GC.pv, atI_lit, e]
  exact ⟨_, rfl, k⟩
theorem score_ok (n : Nat) (M : Sto) {k l : List Nat} (hk : word k) (hl : word l) : ∃ M', callN T (n + 3) "score" [tv k, tv l] M = .ok (.int (sc k l)) M' ∧ Keep [] M M' := by
  obtain ⟨M1, e1, k1⟩ := need_word_ok n M hk
  obtain ⟨M2, e2, k2⟩ := need_word_ok n M1 hl
  rw [e_score]
  unfold c_score
  simp only [↓evE.eq_1, ↓evE.eq_2, ↓evE.eq_3, ↓evE.eq_4, ↓evE.eq_5, ↓evE.eq_6, ↓evE.eq_7, ↓evE.eq_8, ↓evE.eq_9, ↓evE.eq_10, ↓evE.eq_11, ↓evE.eq_12, ↓evE.eq_13, ↓evE.eq_14, ↓evE.eq_15, ↓evE.eq_16, ↓evE.eq_17, ↓evE.eq_18, ↓evE.eq_19, ↓evE.eq_20, ↓evE.eq_21, ↓evE.eq_22, ↓evE.eq_23, ↓evE.eq_24, ↓evE.eq_25, ↓evE.eq_26, ↓evE.eq_27, ↓evE.eq_28, ↓evE.eq_29, ↓evE.eq_30, ↓evE.eq_31, ↓evE.eq_32, ↓evE.eq_33, ↓evE.eq_34, ↓evE.eq_35, ↓evE.eq_36, ↓evE.eq_37, ↓evE.eq_38, ↓evS.eq_1, ↓evS_seq, ↓evS.eq_3, ↓evS.eq_4, ↓evS.eq_5, ↓evS.eq_6, ↓evS.eq_7, ↓evS.eq_8, ↓evS_ite, ↓iteS, ↓evS.eq_11, ↓evS.eq_12, ↓evS.eq_13, ↓evS.eq_14, ↓evS.eq_15, ↓evS.eq_16, ↓evS.eq_17, ↓evS_for, ↓evA.eq_1, ↓evA.eq_2, ↓evT.eq_1, ↓evT.eq_2, ↓evO.eq_1, ↓evO.eq_2, ↓evI.eq_1, ↓evI.eq_2, ↓evI.eq_3, ↓evI.eq_4, ↓evI.eq_5, ↓evF.eq_1, ↓evF.eq_2, ↓m_bind, ↓m_then, ↓m_opt, SRes.bind_nx, SRes.bind_rt, SRes.bind_bk, SRes.bind_ct, SRes.bind_ex, SRes.bind_bad, at_call, at_glo, at_fuel, SRes.back, List.getElem?_cons_zero, List.getElem?_cons_succ, List.set_cons_zero, List.set_cons_succ, asgT, asgTs, cmpV, truV, binV, bltV, tyN, tyLe, subV, Option.map_some, Option.map_none, List.any_cons, List.any_nil, if_true, if_false, ite_true, ite_false, String.reduceBEq, Nat.reduceAdd, Bool.or_false, Bool.false_or, Bool.or_true, Bool.true_or, Bool.and_true, Bool.true_and, Bool.and_false, Bool.false_and, Bool.not_true, Bool.not_false, beq_self_eq_true, decide_true, decide_false, reduceCtorEq, Bool.false_eq_true, Ev.keyOf, dctKeys, List.length_cons, List.length_nil, List.zip_cons_cons, List.zip_nil_left, List.zip_nil_right, List.foldl_cons, List.foldl_nil, methV, setV, isL, permL_cons, permL_nil, List.map_cons, List.map_nil, valP_cons, valP_nil, key_str, key_int, ofString_eq, String.reduceEq, putP, sizeLine_eq, Nat.reduceLT, Nat.reduceLeDiff, sto_self, mulOk, powOk, divOk, Int.reducePow, Nat.reducePow, Int.reduceNeg, Int.reduceLT, Int.reduceLE, natAbs64, natAbs30, Int.reduceToNat, Int.reduceEq, Int.reduceAdd, Int.reduceSub, Int.reduceMul, ne_eq, not_false_eq_true, Int.reduceNe, Ev.alloc, Ev.eq_ii, Ev.eq_ss, Ev.eq_bb, Ev.eq_nn, Ev.eq_ni, Ev.eq_in, Ev.eq_ns, Ev.eq_sn, Ev.eq_nb, Ev.eq_bn, Ev.eq_is, Ev.eq_si, and_self, true_and, and_true, fmod_lt64, fmod_gt64, atI_0, atI_1, atI_2, atI_3, atI_4, atI_5, atI_6, atI_7, atI_8, atI_9, itemsV, smV, fmtV, lenSetV, seqOf, lstOf, slcV, revV, srcOf, optI, List.nil_append, List.cons_append, sto_new, intsP, sortI, insI, compL, compG, wipeP, boolsP, List.all_cons, List.all_nil, id_eq, keep_nil, maxI, minI, intsP, cutf_1, cutf_2, cutf_3, cutf_4, cutt_1, cutt_2, cutt_3, cutt_4, List.drop_succ_cons, List.drop_zero, List.take_succ_cons, List.take_zero, Int.cast_ofNat_Int, false_and, and_false, or_self, or_false, false_or, true_or, or_true, lit_e, tS_len, tS_cat, tS_eq, tS_lt, List.toList_toArray, g_MOST_WORD, g_LETTERS, g_MOST_POOL, g_MOST_WEIGHT, g_BEGIN, g_FACTOR, g_MODULUS, GC.pv, atI_lit, e1, e2, score_of_ok (n + 1) _ hk hl]
  exact ⟨_, rfl, k1.trans k2⟩
theorem keyed_ok (n : Nat) (M : Sto) {P : Pool} (hP : IsPool P) {a : Nat} {l : List Nat} (hl : IsLot P (a :: l)) {k : List Nat} (hk : word k) : callN T (n + 2) "keyed_in" [pV P, lV (a :: l), tv k] M = .ok (iV (kF (fun x => sc k (lab P x)) a (a :: l))) M := by
  have hal := hl.lt a List.mem_cons_self
  rw [e_keyed_in]
  unfold c_keyed_in
  simp only [↓evE.eq_1, ↓evE.eq_2, ↓evE.eq_3, ↓evE.eq_4, ↓evE.eq_5, ↓evE.eq_6, ↓evE.eq_7, ↓evE.eq_8, ↓evE.eq_9, ↓evE.eq_10, ↓evE.eq_11, ↓evE.eq_12, ↓evE.eq_13, ↓evE.eq_14, ↓evE.eq_15, ↓evE.eq_16, ↓evE.eq_17, ↓evE.eq_18, ↓evE.eq_19, ↓evE.eq_20, ↓evE.eq_21, ↓evE.eq_22, ↓evE.eq_23, ↓evE.eq_24, ↓evE.eq_25, ↓evE.eq_26, ↓evE.eq_27, ↓evE.eq_28, ↓evE.eq_29, ↓evE.eq_30, ↓evE.eq_31, ↓evE.eq_32, ↓evE.eq_33, ↓evE.eq_34, ↓evE.eq_35, ↓evE.eq_36, ↓evE.eq_37, ↓evE.eq_38, ↓evS.eq_1, ↓evS_seq, ↓evS.eq_3, ↓evS.eq_4, ↓evS.eq_5, ↓evS.eq_6, ↓evS.eq_7, ↓evS.eq_8, ↓evS_ite, ↓iteS, ↓evS.eq_11, ↓evS.eq_12, ↓evS.eq_13, ↓evS.eq_14, ↓evS.eq_15, ↓evS.eq_16, ↓evS.eq_17, ↓evS_for, ↓evA.eq_1, ↓evA.eq_2, ↓evT.eq_1, ↓evT.eq_2, ↓evO.eq_1, ↓evO.eq_2, ↓evI.eq_1, ↓evI.eq_2, ↓evI.eq_3, ↓evI.eq_4, ↓evI.eq_5, ↓evF.eq_1, ↓evF.eq_2, ↓m_bind, ↓m_then, ↓m_opt, SRes.bind_nx, SRes.bind_rt, SRes.bind_bk, SRes.bind_ct, SRes.bind_ex, SRes.bind_bad, at_call, at_glo, at_fuel, SRes.back, List.getElem?_cons_zero, List.getElem?_cons_succ, List.set_cons_zero, List.set_cons_succ, asgT, asgTs, cmpV, truV, binV, bltV, tyN, tyLe, subV, Option.map_some, Option.map_none, List.any_cons, List.any_nil, if_true, if_false, ite_true, ite_false, String.reduceBEq, Nat.reduceAdd, Bool.or_false, Bool.false_or, Bool.or_true, Bool.true_or, Bool.and_true, Bool.true_and, Bool.and_false, Bool.false_and, Bool.not_true, Bool.not_false, beq_self_eq_true, decide_true, decide_false, reduceCtorEq, Bool.false_eq_true, Ev.keyOf, dctKeys, List.length_cons, List.length_nil, List.zip_cons_cons, List.zip_nil_left, List.zip_nil_right, List.foldl_cons, List.foldl_nil, methV, setV, isL, permL_cons, permL_nil, List.map_cons, List.map_nil, valP_cons, valP_nil, key_str, key_int, ofString_eq, String.reduceEq, putP, sizeLine_eq, Nat.reduceLT, Nat.reduceLeDiff, sto_self, mulOk, powOk, divOk, Int.reducePow, Nat.reducePow, Int.reduceNeg, Int.reduceLT, Int.reduceLE, natAbs64, natAbs30, Int.reduceToNat, Int.reduceEq, Int.reduceAdd, Int.reduceSub, Int.reduceMul, ne_eq, not_false_eq_true, Int.reduceNe, Ev.alloc, Ev.eq_ii, Ev.eq_ss, Ev.eq_bb, Ev.eq_nn, Ev.eq_ni, Ev.eq_in, Ev.eq_ns, Ev.eq_sn, Ev.eq_nb, Ev.eq_bn, Ev.eq_is, Ev.eq_si, and_self, true_and, and_true, fmod_lt64, fmod_gt64, atI_0, atI_1, atI_2, atI_3, atI_4, atI_5, atI_6, atI_7, atI_8, atI_9, itemsV, smV, fmtV, lenSetV, seqOf, lstOf, slcV, revV, srcOf, optI, List.nil_append, List.cons_append, sto_new, intsP, sortI, insI, compL, compG, wipeP, boolsP, List.all_cons, List.all_nil, id_eq, keep_nil, maxI, minI, intsP, cutf_1, cutf_2, cutf_3, cutf_4, cutt_1, cutt_2, cutt_3, cutt_4, List.drop_succ_cons, List.drop_zero, List.take_succ_cons, List.take_zero, Int.cast_ofNat_Int, false_and, and_false, or_self, or_false, false_or, true_or, or_true, lit_e, tS_len, tS_cat, tS_eq, tS_lt, List.toList_toArray, g_MOST_WORD, g_LETTERS, g_MOST_POOL, g_MOST_WEIGHT, g_BEGIN, g_FACTOR, g_MODULUS, GC.pv, atI_lit]
  generalize hz : forL _ _ _ _ _ = z
  obtain ⟨env', M', rfl, best, rt, x4, h1, h2, h3, h4, rfl⟩ := for_of hz (fun xs env M' => ∃ best rt x4, xs = rt.map iV ∧ best < P.length ∧ ((∀ x ∈ rt, x < P.length) ∧ kF (fun x => sc k (lab P x)) best rt = kF (fun x => sc k (lab P x)) a (a :: l)) ∧ env = [some (pV P), some (lV (a :: l)), some (tv k), some (iV best), x4] ∧ M' = M)
    ⟨a, a :: l, none, rfl, hal, ⟨hl.lt, rfl⟩, rfl, rfl⟩ (fun _ _ _ _ => rfl)
    (fun x xs env M' ⟨best, rt, x4, h1, h2, h3, h4, h5⟩ => by
      cases rt with
      | nil => cases h1
      | cons c rt =>
        cases h1
        subst h4 h5
        have hc := h3.1 c List.mem_cons_self
        have p1 := at_pool hc
        have p2 := at_pool h2
        have s1 := score_of_ok n M' hk (at_word hP hc).1
        have s2 := score_of_ok n M' hk (at_word hP h2).1
        refine ⟨[some (pV P), some (lV (a :: l)), some (tv k), some (iV (if sc k (lab P c) > sc k (lab P best) then c else best)), some (iV c)], M', .inl ?_, (if sc k (lab P c) > sc k (lab P best) then c else best), rt, _, rfl, by split <;> assumption, ⟨fun x hx => h3.1 x (List.mem_cons_of_mem _ hx), h3.2⟩, rfl, rfl⟩
        unfold forB
        by_cases q : sc k (lab P best) < sc k (lab P c)
        · rw [if_pos q]
          simp only [↓evE.eq_1, ↓evE.eq_2, ↓evE.eq_3, ↓evE.eq_4, ↓evE.eq_5, ↓evE.eq_6, ↓evE.eq_7, ↓evE.eq_8, ↓evE.eq_9, ↓evE.eq_10, ↓evE.eq_11, ↓evE.eq_12, ↓evE.eq_13, ↓evE.eq_14, ↓evE.eq_15, ↓evE.eq_16, ↓evE.eq_17, ↓evE.eq_18, ↓evE.eq_19, ↓evE.eq_20, ↓evE.eq_21, ↓evE.eq_22, ↓evE.eq_23, ↓evE.eq_24, ↓evE.eq_25, ↓evE.eq_26, ↓evE.eq_27, ↓evE.eq_28, ↓evE.eq_29, ↓evE.eq_30, ↓evE.eq_31, ↓evE.eq_32, ↓evE.eq_33, ↓evE.eq_34, ↓evE.eq_35, ↓evE.eq_36, ↓evE.eq_37, ↓evE.eq_38, ↓evS.eq_1, ↓evS_seq, ↓evS.eq_3, ↓evS.eq_4, ↓evS.eq_5, ↓evS.eq_6, ↓evS.eq_7, ↓evS.eq_8, ↓evS_ite, ↓iteS, ↓evS.eq_11, ↓evS.eq_12, ↓evS.eq_13, ↓evS.eq_14, ↓evS.eq_15, ↓evS.eq_16, ↓evS.eq_17, ↓evS_for, ↓evA.eq_1, ↓evA.eq_2, ↓evT.eq_1, ↓evT.eq_2, ↓evO.eq_1, ↓evO.eq_2, ↓evI.eq_1, ↓evI.eq_2, ↓evI.eq_3, ↓evI.eq_4, ↓evI.eq_5, ↓evF.eq_1, ↓evF.eq_2, ↓m_bind, ↓m_then, ↓m_opt, SRes.bind_nx, SRes.bind_rt, SRes.bind_bk, SRes.bind_ct, SRes.bind_ex, SRes.bind_bad, at_call, at_glo, at_fuel, SRes.back, List.getElem?_cons_zero, List.getElem?_cons_succ, List.set_cons_zero, List.set_cons_succ, asgT, asgTs, cmpV, truV, binV, bltV, tyN, tyLe, subV, Option.map_some, Option.map_none, List.any_cons, List.any_nil, if_true, if_false, ite_true, ite_false, String.reduceBEq, Nat.reduceAdd, Bool.or_false, Bool.false_or, Bool.or_true, Bool.true_or, Bool.and_true, Bool.true_and, Bool.and_false, Bool.false_and, Bool.not_true, Bool.not_false, beq_self_eq_true, decide_true, decide_false, reduceCtorEq, Bool.false_eq_true, Ev.keyOf, dctKeys, List.length_cons, List.length_nil, List.zip_cons_cons, List.zip_nil_left, List.zip_nil_right, List.foldl_cons, List.foldl_nil, methV, setV, isL, permL_cons, permL_nil, List.map_cons, List.map_nil, valP_cons, valP_nil, key_str, key_int, ofString_eq, String.reduceEq, putP, sizeLine_eq, Nat.reduceLT, Nat.reduceLeDiff, sto_self, mulOk, powOk, divOk, Int.reducePow, Nat.reducePow, Int.reduceNeg, Int.reduceLT, Int.reduceLE, natAbs64, natAbs30, Int.reduceToNat, Int.reduceEq, Int.reduceAdd, Int.reduceSub, Int.reduceMul, ne_eq, not_false_eq_true, Int.reduceNe, Ev.alloc, Ev.eq_ii, Ev.eq_ss, Ev.eq_bb, Ev.eq_nn, Ev.eq_ni, Ev.eq_in, Ev.eq_ns, Ev.eq_sn, Ev.eq_nb, Ev.eq_bn, Ev.eq_is, Ev.eq_si, and_self, true_and, and_true, fmod_lt64, fmod_gt64, atI_0, atI_1, atI_2, atI_3, atI_4, atI_5, atI_6, atI_7, atI_8, atI_9, itemsV, smV, fmtV, lenSetV, seqOf, lstOf, slcV, revV, srcOf, optI, List.nil_append, List.cons_append, sto_new, intsP, sortI, insI, compL, compG, wipeP, boolsP, List.all_cons, List.all_nil, id_eq, keep_nil, maxI, minI, intsP, cutf_1, cutf_2, cutf_3, cutf_4, cutt_1, cutt_2, cutt_3, cutt_4, List.drop_succ_cons, List.drop_zero, List.take_succ_cons, List.take_zero, Int.cast_ofNat_Int, false_and, and_false, or_self, or_false, false_or, true_or, or_true, lit_e, tS_len, tS_cat, tS_eq, tS_lt, List.toList_toArray, g_MOST_WORD, g_LETTERS, g_MOST_POOL, g_MOST_WEIGHT, g_BEGIN, g_FACTOR, g_MODULUS, GC.pv, atI_lit, p1, p2, s1, s2, q]
        · rw [if_neg q]
          simp only [↓evE.eq_1, ↓evE.eq_2, ↓evE.eq_3, ↓evE.eq_4, ↓evE.eq_5, ↓evE.eq_6, ↓evE.eq_7, ↓evE.eq_8, ↓evE.eq_9, ↓evE.eq_10, ↓evE.eq_11, ↓evE.eq_12, ↓evE.eq_13, ↓evE.eq_14, ↓evE.eq_15, ↓evE.eq_16, ↓evE.eq_17, ↓evE.eq_18, ↓evE.eq_19, ↓evE.eq_20, ↓evE.eq_21, ↓evE.eq_22, ↓evE.eq_23, ↓evE.eq_24, ↓evE.eq_25, ↓evE.eq_26, ↓evE.eq_27, ↓evE.eq_28, ↓evE.eq_29, ↓evE.eq_30, ↓evE.eq_31, ↓evE.eq_32, ↓evE.eq_33, ↓evE.eq_34, ↓evE.eq_35, ↓evE.eq_36, ↓evE.eq_37, ↓evE.eq_38, ↓evS.eq_1, ↓evS_seq, ↓evS.eq_3, ↓evS.eq_4, ↓evS.eq_5, ↓evS.eq_6, ↓evS.eq_7, ↓evS.eq_8, ↓evS_ite, ↓iteS, ↓evS.eq_11, ↓evS.eq_12, ↓evS.eq_13, ↓evS.eq_14, ↓evS.eq_15, ↓evS.eq_16, ↓evS.eq_17, ↓evS_for, ↓evA.eq_1, ↓evA.eq_2, ↓evT.eq_1, ↓evT.eq_2, ↓evO.eq_1, ↓evO.eq_2, ↓evI.eq_1, ↓evI.eq_2, ↓evI.eq_3, ↓evI.eq_4, ↓evI.eq_5, ↓evF.eq_1, ↓evF.eq_2, ↓m_bind, ↓m_then, ↓m_opt, SRes.bind_nx, SRes.bind_rt, SRes.bind_bk, SRes.bind_ct, SRes.bind_ex, SRes.bind_bad, at_call, at_glo, at_fuel, SRes.back, List.getElem?_cons_zero, List.getElem?_cons_succ, List.set_cons_zero, List.set_cons_succ, asgT, asgTs, cmpV, truV, binV, bltV, tyN, tyLe, subV, Option.map_some, Option.map_none, List.any_cons, List.any_nil, if_true, if_false, ite_true, ite_false, String.reduceBEq, Nat.reduceAdd, Bool.or_false, Bool.false_or, Bool.or_true, Bool.true_or, Bool.and_true, Bool.true_and, Bool.and_false, Bool.false_and, Bool.not_true, Bool.not_false, beq_self_eq_true, decide_true, decide_false, reduceCtorEq, Bool.false_eq_true, Ev.keyOf, dctKeys, List.length_cons, List.length_nil, List.zip_cons_cons, List.zip_nil_left, List.zip_nil_right, List.foldl_cons, List.foldl_nil, methV, setV, isL, permL_cons, permL_nil, List.map_cons, List.map_nil, valP_cons, valP_nil, key_str, key_int, ofString_eq, String.reduceEq, putP, sizeLine_eq, Nat.reduceLT, Nat.reduceLeDiff, sto_self, mulOk, powOk, divOk, Int.reducePow, Nat.reducePow, Int.reduceNeg, Int.reduceLT, Int.reduceLE, natAbs64, natAbs30, Int.reduceToNat, Int.reduceEq, Int.reduceAdd, Int.reduceSub, Int.reduceMul, ne_eq, not_false_eq_true, Int.reduceNe, Ev.alloc, Ev.eq_ii, Ev.eq_ss, Ev.eq_bb, Ev.eq_nn, Ev.eq_ni, Ev.eq_in, Ev.eq_ns, Ev.eq_sn, Ev.eq_nb, Ev.eq_bn, Ev.eq_is, Ev.eq_si, and_self, true_and, and_true, fmod_lt64, fmod_gt64, atI_0, atI_1, atI_2, atI_3, atI_4, atI_5, atI_6, atI_7, atI_8, atI_9, itemsV, smV, fmtV, lenSetV, seqOf, lstOf, slcV, revV, srcOf, optI, List.nil_append, List.cons_append, sto_new, intsP, sortI, insI, compL, compG, wipeP, boolsP, List.all_cons, List.all_nil, id_eq, keep_nil, maxI, minI, intsP, cutf_1, cutf_2, cutf_3, cutf_4, cutt_1, cutt_2, cutt_3, cutt_4, List.drop_succ_cons, List.drop_zero, List.take_succ_cons, List.take_zero, Int.cast_ofNat_Int, false_and, and_false, or_self, or_false, false_or, true_or, or_true, lit_e, tS_len, tS_cat, tS_eq, tS_lt, List.toList_toArray, g_MOST_WORD, g_LETTERS, g_MOST_POOL, g_MOST_WEIGHT, g_BEGIN, g_FACTOR, g_MODULUS, GC.pv, atI_lit, p1, p2, s1, s2, q])
  have : rt = [] := by cases rt with
    | nil => rfl
    | cons _ _ => cases h1
  subst this
  have hbest : best = kF (fun x => sc k (lab P x)) a (a :: l) := h3.2
  subst h4
  simp only [↓evE.eq_1, ↓evE.eq_2, ↓evE.eq_3, ↓evE.eq_4, ↓evE.eq_5, ↓evE.eq_6, ↓evE.eq_7, ↓evE.eq_8, ↓evE.eq_9, ↓evE.eq_10, ↓evE.eq_11, ↓evE.eq_12, ↓evE.eq_13, ↓evE.eq_14, ↓evE.eq_15, ↓evE.eq_16, ↓evE.eq_17, ↓evE.eq_18, ↓evE.eq_19, ↓evE.eq_20, ↓evE.eq_21, ↓evE.eq_22, ↓evE.eq_23, ↓evE.eq_24, ↓evE.eq_25, ↓evE.eq_26, ↓evE.eq_27, ↓evE.eq_28, ↓evE.eq_29, ↓evE.eq_30, ↓evE.eq_31, ↓evE.eq_32, ↓evE.eq_33, ↓evE.eq_34, ↓evE.eq_35, ↓evE.eq_36, ↓evE.eq_37, ↓evE.eq_38, ↓evS.eq_1, ↓evS_seq, ↓evS.eq_3, ↓evS.eq_4, ↓evS.eq_5, ↓evS.eq_6, ↓evS.eq_7, ↓evS.eq_8, ↓evS_ite, ↓iteS, ↓evS.eq_11, ↓evS.eq_12, ↓evS.eq_13, ↓evS.eq_14, ↓evS.eq_15, ↓evS.eq_16, ↓evS.eq_17, ↓evS_for, ↓evA.eq_1, ↓evA.eq_2, ↓evT.eq_1, ↓evT.eq_2, ↓evO.eq_1, ↓evO.eq_2, ↓evI.eq_1, ↓evI.eq_2, ↓evI.eq_3, ↓evI.eq_4, ↓evI.eq_5, ↓evF.eq_1, ↓evF.eq_2, ↓m_bind, ↓m_then, ↓m_opt, SRes.bind_nx, SRes.bind_rt, SRes.bind_bk, SRes.bind_ct, SRes.bind_ex, SRes.bind_bad, at_call, at_glo, at_fuel, SRes.back, List.getElem?_cons_zero, List.getElem?_cons_succ, List.set_cons_zero, List.set_cons_succ, asgT, asgTs, cmpV, truV, binV, bltV, tyN, tyLe, subV, Option.map_some, Option.map_none, List.any_cons, List.any_nil, if_true, if_false, ite_true, ite_false, String.reduceBEq, Nat.reduceAdd, Bool.or_false, Bool.false_or, Bool.or_true, Bool.true_or, Bool.and_true, Bool.true_and, Bool.and_false, Bool.false_and, Bool.not_true, Bool.not_false, beq_self_eq_true, decide_true, decide_false, reduceCtorEq, Bool.false_eq_true, Ev.keyOf, dctKeys, List.length_cons, List.length_nil, List.zip_cons_cons, List.zip_nil_left, List.zip_nil_right, List.foldl_cons, List.foldl_nil, methV, setV, isL, permL_cons, permL_nil, List.map_cons, List.map_nil, valP_cons, valP_nil, key_str, key_int, ofString_eq, String.reduceEq, putP, sizeLine_eq, Nat.reduceLT, Nat.reduceLeDiff, sto_self, mulOk, powOk, divOk, Int.reducePow, Nat.reducePow, Int.reduceNeg, Int.reduceLT, Int.reduceLE, natAbs64, natAbs30, Int.reduceToNat, Int.reduceEq, Int.reduceAdd, Int.reduceSub, Int.reduceMul, ne_eq, not_false_eq_true, Int.reduceNe, Ev.alloc, Ev.eq_ii, Ev.eq_ss, Ev.eq_bb, Ev.eq_nn, Ev.eq_ni, Ev.eq_in, Ev.eq_ns, Ev.eq_sn, Ev.eq_nb, Ev.eq_bn, Ev.eq_is, Ev.eq_si, and_self, true_and, and_true, fmod_lt64, fmod_gt64, atI_0, atI_1, atI_2, atI_3, atI_4, atI_5, atI_6, atI_7, atI_8, atI_9, itemsV, smV, fmtV, lenSetV, seqOf, lstOf, slcV, revV, srcOf, optI, List.nil_append, List.cons_append, sto_new, intsP, sortI, insI, compL, compG, wipeP, boolsP, List.all_cons, List.all_nil, id_eq, keep_nil, maxI, minI, intsP, cutf_1, cutf_2, cutf_3, cutf_4, cutt_1, cutt_2, cutt_3, cutt_4, List.drop_succ_cons, List.drop_zero, List.take_succ_cons, List.take_zero, Int.cast_ofNat_Int, false_and, and_false, or_self, or_false, false_or, true_or, or_true, lit_e, tS_len, tS_cat, tS_eq, tS_lt, List.toList_toArray, g_MOST_WORD, g_LETTERS, g_MOST_POOL, g_MOST_WEIGHT, g_BEGIN, g_FACTOR, g_MODULUS, GC.pv, atI_lit]
  rw [hbest]
theorem pairs_map (f : Nat → Int) : ∀ l : List Nat, pairsP (l.map fun a => PV.tup [.int (-f a), iV a]) = some (l.map fun a => (-f a, (a : Int)))
  | [] => rfl
  | a :: l => by
    show (pairsP (l.map fun a => PV.tup [.int (-f a), iV a])).map ((-f a, (a : Int)) :: ·) = _
    rw [pairs_map f l]; rfl
theorem law_keyed_ok (n : Nat) (M : Sto) {P : Pool} (hP : IsPool P) {a : Nat} {l : List Nat} (hl : IsLot P (a :: l)) {k : List Nat} (hk : word k) : ∃ M', callN T (n + 2) "_law_by_key" [pV P, lV (a :: l), tv k] M = .ok (iV (kF (fun x => sc k (lab P x)) a (a :: l))) M' ∧ Keep [] M M' := by
  have ll := lot_len hl hP
  rw [e__law_by_key]
  unfold c__law_by_key
  unfold lV
  generalize hX : (a :: l).map iV = X
  simp only [↓evE.eq_1, ↓evE.eq_2, ↓evE.eq_3, ↓evE.eq_4, ↓evE.eq_5, ↓evE.eq_6, ↓evE.eq_7, ↓evE.eq_8, ↓evE.eq_9, ↓evE.eq_10, ↓evE.eq_11, ↓evE.eq_12, ↓evE.eq_13, ↓evE.eq_14, ↓evE.eq_15, ↓evE.eq_16, ↓evE.eq_17, ↓evE.eq_18, ↓evE.eq_19, ↓evE.eq_20, ↓evE.eq_21, ↓evE.eq_22, ↓evE.eq_23, ↓evE.eq_24, ↓evE.eq_25, ↓evE.eq_26, ↓evE.eq_27, ↓evE.eq_28, ↓evE.eq_29, ↓evE.eq_30, ↓evE.eq_31, ↓evE.eq_32, ↓evE.eq_33, ↓evE.eq_34, ↓evE.eq_35, ↓evE.eq_36, ↓evE.eq_37, ↓evE.eq_38, ↓evS.eq_1, ↓evS_seq, ↓evS.eq_3, ↓evS.eq_4, ↓evS.eq_5, ↓evS.eq_6, ↓evS.eq_7, ↓evS.eq_8, ↓evS_ite, ↓iteS, ↓evS.eq_11, ↓evS.eq_12, ↓evS.eq_13, ↓evS.eq_14, ↓evS.eq_15, ↓evS.eq_16, ↓evS.eq_17, ↓evS_for, ↓evA.eq_1, ↓evA.eq_2, ↓evT.eq_1, ↓evT.eq_2, ↓evO.eq_1, ↓evO.eq_2, ↓evI.eq_1, ↓evI.eq_2, ↓evI.eq_3, ↓evI.eq_4, ↓evI.eq_5, ↓evF.eq_1, ↓evF.eq_2, ↓m_bind, ↓m_then, ↓m_opt, SRes.bind_nx, SRes.bind_rt, SRes.bind_bk, SRes.bind_ct, SRes.bind_ex, SRes.bind_bad, at_call, at_glo, at_fuel, SRes.back, List.getElem?_cons_zero, List.getElem?_cons_succ, List.set_cons_zero, List.set_cons_succ, asgT, asgTs, cmpV, truV, binV, bltV, tyN, tyLe, subV, Option.map_some, Option.map_none, List.any_cons, List.any_nil, if_true, if_false, ite_true, ite_false, String.reduceBEq, Nat.reduceAdd, Bool.or_false, Bool.false_or, Bool.or_true, Bool.true_or, Bool.and_true, Bool.true_and, Bool.and_false, Bool.false_and, Bool.not_true, Bool.not_false, beq_self_eq_true, decide_true, decide_false, reduceCtorEq, Bool.false_eq_true, Ev.keyOf, dctKeys, List.length_cons, List.length_nil, List.zip_cons_cons, List.zip_nil_left, List.zip_nil_right, List.foldl_cons, List.foldl_nil, methV, setV, isL, permL_cons, permL_nil, List.map_cons, List.map_nil, valP_cons, valP_nil, key_str, key_int, ofString_eq, String.reduceEq, putP, sizeLine_eq, Nat.reduceLT, Nat.reduceLeDiff, sto_self, mulOk, powOk, divOk, Int.reducePow, Nat.reducePow, Int.reduceNeg, Int.reduceLT, Int.reduceLE, natAbs64, natAbs30, Int.reduceToNat, Int.reduceEq, Int.reduceAdd, Int.reduceSub, Int.reduceMul, ne_eq, not_false_eq_true, Int.reduceNe, Ev.alloc, Ev.eq_ii, Ev.eq_ss, Ev.eq_bb, Ev.eq_nn, Ev.eq_ni, Ev.eq_in, Ev.eq_ns, Ev.eq_sn, Ev.eq_nb, Ev.eq_bn, Ev.eq_is, Ev.eq_si, and_self, true_and, and_true, fmod_lt64, fmod_gt64, atI_0, atI_1, atI_2, atI_3, atI_4, atI_5, atI_6, atI_7, atI_8, atI_9, itemsV, smV, fmtV, lenSetV, seqOf, lstOf, slcV, revV, srcOf, optI, List.nil_append, List.cons_append, sto_new, intsP, sortI, insI, compL, compG, wipeP, boolsP, List.all_cons, List.all_nil, id_eq, keep_nil, maxI, minI, intsP, cutf_1, cutf_2, cutf_3, cutf_4, cutt_1, cutt_2, cutt_3, cutt_4, List.drop_succ_cons, List.drop_zero, List.take_succ_cons, List.take_zero, Int.cast_ofNat_Int, false_and, and_false, or_self, or_false, false_or, true_or, or_true, lit_e, tS_len, tS_cat, tS_eq, tS_lt, List.toList_toArray, g_MOST_WORD, g_LETTERS, g_MOST_POOL, g_MOST_WEIGHT, g_BEGIN, g_FACTOR, g_MODULUS, GC.pv, atI_lit]
  subst hX
  generalize hz : compL _ _ _ _ _ = z
  have hc := comp_map (a :: l) iV (fun x => .tup [.int (-sc k (lab P x)), iV x]) hz (keep_nil _) (fun x hx => by
    have hx' := hl.lt x hx
    have p1 := at_pool hx'
    have s1 := law_score_ok n M hk (at_word hP hx').1
    simp only [↓evE.eq_1, ↓evE.eq_2, ↓evE.eq_3, ↓evE.eq_4, ↓evE.eq_5, ↓evE.eq_6, ↓evE.eq_7, ↓evE.eq_8, ↓evE.eq_9, ↓evE.eq_10, ↓evE.eq_11, ↓evE.eq_12, ↓evE.eq_13, ↓evE.eq_14, ↓evE.eq_15, ↓evE.eq_16, ↓evE.eq_17, ↓evE.eq_18, ↓evE.eq_19, ↓evE.eq_20, ↓evE.eq_21, ↓evE.eq_22, ↓evE.eq_23, ↓evE.eq_24, ↓evE.eq_25, ↓evE.eq_26, ↓evE.eq_27, ↓evE.eq_28, ↓evE.eq_29, ↓evE.eq_30, ↓evE.eq_31, ↓evE.eq_32, ↓evE.eq_33, ↓evE.eq_34, ↓evE.eq_35, ↓evE.eq_36, ↓evE.eq_37, ↓evE.eq_38, ↓evS.eq_1, ↓evS_seq, ↓evS.eq_3, ↓evS.eq_4, ↓evS.eq_5, ↓evS.eq_6, ↓evS.eq_7, ↓evS.eq_8, ↓evS_ite, ↓iteS, ↓evS.eq_11, ↓evS.eq_12, ↓evS.eq_13, ↓evS.eq_14, ↓evS.eq_15, ↓evS.eq_16, ↓evS.eq_17, ↓evS_for, ↓evA.eq_1, ↓evA.eq_2, ↓evT.eq_1, ↓evT.eq_2, ↓evO.eq_1, ↓evO.eq_2, ↓evI.eq_1, ↓evI.eq_2, ↓evI.eq_3, ↓evI.eq_4, ↓evI.eq_5, ↓evF.eq_1, ↓evF.eq_2, ↓m_bind, ↓m_then, ↓m_opt, SRes.bind_nx, SRes.bind_rt, SRes.bind_bk, SRes.bind_ct, SRes.bind_ex, SRes.bind_bad, at_call, at_glo, at_fuel, SRes.back, List.getElem?_cons_zero, List.getElem?_cons_succ, List.set_cons_zero, List.set_cons_succ, asgT, asgTs, cmpV, truV, binV, bltV, tyN, tyLe, subV, Option.map_some, Option.map_none, List.any_cons, List.any_nil, if_true, if_false, ite_true, ite_false, String.reduceBEq, Nat.reduceAdd, Bool.or_false, Bool.false_or, Bool.or_true, Bool.true_or, Bool.and_true, Bool.true_and, Bool.and_false, Bool.false_and, Bool.not_true, Bool.not_false, beq_self_eq_true, decide_true, decide_false, reduceCtorEq, Bool.false_eq_true, Ev.keyOf, dctKeys, List.length_cons, List.length_nil, List.zip_cons_cons, List.zip_nil_left, List.zip_nil_right, List.foldl_cons, List.foldl_nil, methV, setV, isL, permL_cons, permL_nil, List.map_cons, List.map_nil, valP_cons, valP_nil, key_str, key_int, ofString_eq, String.reduceEq, putP, sizeLine_eq, Nat.reduceLT, Nat.reduceLeDiff, sto_self, mulOk, powOk, divOk, Int.reducePow, Nat.reducePow, Int.reduceNeg, Int.reduceLT, Int.reduceLE, natAbs64, natAbs30, Int.reduceToNat, Int.reduceEq, Int.reduceAdd, Int.reduceSub, Int.reduceMul, ne_eq, not_false_eq_true, Int.reduceNe, Ev.alloc, Ev.eq_ii, Ev.eq_ss, Ev.eq_bb, Ev.eq_nn, Ev.eq_ni, Ev.eq_in, Ev.eq_ns, Ev.eq_sn, Ev.eq_nb, Ev.eq_bn, Ev.eq_is, Ev.eq_si, and_self, true_and, and_true, fmod_lt64, fmod_gt64, atI_0, atI_1, atI_2, atI_3, atI_4, atI_5, atI_6, atI_7, atI_8, atI_9, itemsV, smV, fmtV, lenSetV, seqOf, lstOf, slcV, revV, srcOf, optI, List.nil_append, List.cons_append, sto_new, intsP, sortI, insI, compL, compG, wipeP, boolsP, List.all_cons, List.all_nil, id_eq, keep_nil, maxI, minI, intsP, cutf_1, cutf_2, cutf_3, cutf_4, cutt_1, cutt_2, cutt_3, cutt_4, List.drop_succ_cons, List.drop_zero, List.take_succ_cons, List.take_zero, Int.cast_ofNat_Int, false_and, and_false, or_self, or_false, false_or, true_or, or_true, lit_e, tS_len, tS_cat, tS_eq, tS_lt, List.toList_toArray, g_MOST_WORD, g_LETTERS, g_MOST_POOL, g_MOST_WEIGHT, g_BEGIN, g_FACTOR, g_MODULUS, GC.pv, atI_lit, p1, s1]) (by rw [sizeLine_eq]; omega)
  subst hc
  have pm := pairs_map (fun x => sc k (lab P x)) (a :: l)
  obtain ⟨m, hm⟩ := minP_some (ps := (a :: l).map fun x => (-sc k (lab P x), (x : Int))) (by simp)
  obtain ⟨b, rfl, hb⟩ := minP_best (f := fun x => sc k (lab P x)) hm
  have e := hb.uniq (kF_spec (fun x => sc k (lab P x)) hl.up) (fun _ => Iff.rfl)
  have ni : intsP ((a :: l).map fun x => PV.tup [.int (-sc k (lab P x)), iV x]) = none := rfl
  generalize ((a :: l).map fun x => PV.tup [.int (-sc k (lab P x)), iV x]) = W at *
  generalize ((a :: l).map fun x => (-sc k (lab P x), (x : Int))) = ps at *
  simp only [↓evE.eq_1, ↓evE.eq_2, ↓evE.eq_3, ↓evE.eq_4, ↓evE.eq_5, ↓evE.eq_6, ↓evE.eq_7, ↓evE.eq_8, ↓evE.eq_9, ↓evE.eq_10, ↓evE.eq_11, ↓evE.eq_12, ↓evE.eq_13, ↓evE.eq_14, ↓evE.eq_15, ↓evE.eq_16, ↓evE.eq_17, ↓evE.eq_18, ↓evE.eq_19, ↓evE.eq_20, ↓evE.eq_21, ↓evE.eq_22, ↓evE.eq_23, ↓evE.eq_24, ↓evE.eq_25, ↓evE.eq_26, ↓evE.eq_27, ↓evE.eq_28, ↓evE.eq_29, ↓evE.eq_30, ↓evE.eq_31, ↓evE.eq_32, ↓evE.eq_33, ↓evE.eq_34, ↓evE.eq_35, ↓evE.eq_36, ↓evE.eq_37, ↓evE.eq_38, ↓evS.eq_1, ↓evS_seq, ↓evS.eq_3, ↓evS.eq_4, ↓evS.eq_5, ↓evS.eq_6, ↓evS.eq_7, ↓evS.eq_8, ↓evS_ite, ↓iteS, ↓evS.eq_11, ↓evS.eq_12, ↓evS.eq_13, ↓evS.eq_14, ↓evS.eq_15, ↓evS.eq_16, ↓evS.eq_17, ↓evS_for, ↓evA.eq_1, ↓evA.eq_2, ↓evT.eq_1, ↓evT.eq_2, ↓evO.eq_1, ↓evO.eq_2, ↓evI.eq_1, ↓evI.eq_2, ↓evI.eq_3, ↓evI.eq_4, ↓evI.eq_5, ↓evF.eq_1, ↓evF.eq_2, ↓m_bind, ↓m_then, ↓m_opt, SRes.bind_nx, SRes.bind_rt, SRes.bind_bk, SRes.bind_ct, SRes.bind_ex, SRes.bind_bad, at_call, at_glo, at_fuel, SRes.back, List.getElem?_cons_zero, List.getElem?_cons_succ, List.set_cons_zero, List.set_cons_succ, asgT, asgTs, cmpV, truV, binV, bltV, tyN, tyLe, subV, Option.map_some, Option.map_none, List.any_cons, List.any_nil, if_true, if_false, ite_true, ite_false, String.reduceBEq, Nat.reduceAdd, Bool.or_false, Bool.false_or, Bool.or_true, Bool.true_or, Bool.and_true, Bool.true_and, Bool.and_false, Bool.false_and, Bool.not_true, Bool.not_false, beq_self_eq_true, decide_true, decide_false, reduceCtorEq, Bool.false_eq_true, Ev.keyOf, dctKeys, List.length_cons, List.length_nil, List.zip_cons_cons, List.zip_nil_left, List.zip_nil_right, List.foldl_cons, List.foldl_nil, methV, setV, isL, permL_cons, permL_nil, List.map_cons, List.map_nil, valP_cons, valP_nil, key_str, key_int, ofString_eq, String.reduceEq, putP, sizeLine_eq, Nat.reduceLT, Nat.reduceLeDiff, sto_self, mulOk, powOk, divOk, Int.reducePow, Nat.reducePow, Int.reduceNeg, Int.reduceLT, Int.reduceLE, natAbs64, natAbs30, Int.reduceToNat, Int.reduceEq, Int.reduceAdd, Int.reduceSub, Int.reduceMul, ne_eq, not_false_eq_true, Int.reduceNe, Ev.alloc, Ev.eq_ii, Ev.eq_ss, Ev.eq_bb, Ev.eq_nn, Ev.eq_ni, Ev.eq_in, Ev.eq_ns, Ev.eq_sn, Ev.eq_nb, Ev.eq_bn, Ev.eq_is, Ev.eq_si, and_self, true_and, and_true, fmod_lt64, fmod_gt64, atI_0, atI_1, atI_2, atI_3, atI_4, atI_5, atI_6, atI_7, atI_8, atI_9, itemsV, smV, fmtV, lenSetV, seqOf, lstOf, slcV, revV, srcOf, optI, List.nil_append, List.cons_append, sto_new, intsP, sortI, insI, compL, compG, wipeP, boolsP, List.all_cons, List.all_nil, id_eq, keep_nil, maxI, minI, intsP, cutf_1, cutf_2, cutf_3, cutf_4, cutt_1, cutt_2, cutt_3, cutt_4, List.drop_succ_cons, List.drop_zero, List.take_succ_cons, List.take_zero, Int.cast_ofNat_Int, false_and, and_false, or_self, or_false, false_or, true_or, or_true, lit_e, tS_len, tS_cat, tS_eq, tS_lt, List.toList_toArray, g_MOST_WORD, g_LETTERS, g_MOST_POOL, g_MOST_WEIGHT, g_BEGIN, g_FACTOR, g_MODULUS, GC.pv, atI_lit, ni, pm, hm]
  rw [e]
  exact ⟨_, rfl, Keep.app⟩
theorem by_key_ok (n : Nat) (M : Sto) {P : Pool} (hP : IsPool P) {a : Nat} {l : List Nat} (hl : IsLot P (a :: l)) {k : List Nat} (hk : word k) : ∃ M', callN T (n + 6) "by_key" [pV P, lV (a :: l), tv k] M = .ok (iV (kF (fun x => sc k (lab P x)) a (a :: l))) M' ∧ Keep [] M M' := by
  obtain ⟨M1, e1, k1⟩ := need_lot_ok n M hP hl
  obtain ⟨M2, e2, k2⟩ := need_word_ok (n + 3) M1 hk
  rw [e_by_key]
  unfold c_by_key
  simp only [↓evE.eq_1, ↓evE.eq_2, ↓evE.eq_3, ↓evE.eq_4, ↓evE.eq_5, ↓evE.eq_6, ↓evE.eq_7, ↓evE.eq_8, ↓evE.eq_9, ↓evE.eq_10, ↓evE.eq_11, ↓evE.eq_12, ↓evE.eq_13, ↓evE.eq_14, ↓evE.eq_15, ↓evE.eq_16, ↓evE.eq_17, ↓evE.eq_18, ↓evE.eq_19, ↓evE.eq_20, ↓evE.eq_21, ↓evE.eq_22, ↓evE.eq_23, ↓evE.eq_24, ↓evE.eq_25, ↓evE.eq_26, ↓evE.eq_27, ↓evE.eq_28, ↓evE.eq_29, ↓evE.eq_30, ↓evE.eq_31, ↓evE.eq_32, ↓evE.eq_33, ↓evE.eq_34, ↓evE.eq_35, ↓evE.eq_36, ↓evE.eq_37, ↓evE.eq_38, ↓evS.eq_1, ↓evS_seq, ↓evS.eq_3, ↓evS.eq_4, ↓evS.eq_5, ↓evS.eq_6, ↓evS.eq_7, ↓evS.eq_8, ↓evS_ite, ↓iteS, ↓evS.eq_11, ↓evS.eq_12, ↓evS.eq_13, ↓evS.eq_14, ↓evS.eq_15, ↓evS.eq_16, ↓evS.eq_17, ↓evS_for, ↓evA.eq_1, ↓evA.eq_2, ↓evT.eq_1, ↓evT.eq_2, ↓evO.eq_1, ↓evO.eq_2, ↓evI.eq_1, ↓evI.eq_2, ↓evI.eq_3, ↓evI.eq_4, ↓evI.eq_5, ↓evF.eq_1, ↓evF.eq_2, ↓m_bind, ↓m_then, ↓m_opt, SRes.bind_nx, SRes.bind_rt, SRes.bind_bk, SRes.bind_ct, SRes.bind_ex, SRes.bind_bad, at_call, at_glo, at_fuel, SRes.back, List.getElem?_cons_zero, List.getElem?_cons_succ, List.set_cons_zero, List.set_cons_succ, asgT, asgTs, cmpV, truV, binV, bltV, tyN, tyLe, subV, Option.map_some, Option.map_none, List.any_cons, List.any_nil, if_true, if_false, ite_true, ite_false, String.reduceBEq, Nat.reduceAdd, Bool.or_false, Bool.false_or, Bool.or_true, Bool.true_or, Bool.and_true, Bool.true_and, Bool.and_false, Bool.false_and, Bool.not_true, Bool.not_false, beq_self_eq_true, decide_true, decide_false, reduceCtorEq, Bool.false_eq_true, Ev.keyOf, dctKeys, List.length_cons, List.length_nil, List.zip_cons_cons, List.zip_nil_left, List.zip_nil_right, List.foldl_cons, List.foldl_nil, methV, setV, isL, permL_cons, permL_nil, List.map_cons, List.map_nil, valP_cons, valP_nil, key_str, key_int, ofString_eq, String.reduceEq, putP, sizeLine_eq, Nat.reduceLT, Nat.reduceLeDiff, sto_self, mulOk, powOk, divOk, Int.reducePow, Nat.reducePow, Int.reduceNeg, Int.reduceLT, Int.reduceLE, natAbs64, natAbs30, Int.reduceToNat, Int.reduceEq, Int.reduceAdd, Int.reduceSub, Int.reduceMul, ne_eq, not_false_eq_true, Int.reduceNe, Ev.alloc, Ev.eq_ii, Ev.eq_ss, Ev.eq_bb, Ev.eq_nn, Ev.eq_ni, Ev.eq_in, Ev.eq_ns, Ev.eq_sn, Ev.eq_nb, Ev.eq_bn, Ev.eq_is, Ev.eq_si, and_self, true_and, and_true, fmod_lt64, fmod_gt64, atI_0, atI_1, atI_2, atI_3, atI_4, atI_5, atI_6, atI_7, atI_8, atI_9, itemsV, smV, fmtV, lenSetV, seqOf, lstOf, slcV, revV, srcOf, optI, List.nil_append, List.cons_append, sto_new, intsP, sortI, insI, compL, compG, wipeP, boolsP, List.all_cons, List.all_nil, id_eq, keep_nil, maxI, minI, intsP, cutf_1, cutf_2, cutf_3, cutf_4, cutt_1, cutt_2, cutt_3, cutt_4, List.drop_succ_cons, List.drop_zero, List.take_succ_cons, List.take_zero, Int.cast_ofNat_Int, false_and, and_false, or_self, or_false, false_or, true_or, or_true, lit_e, tS_len, tS_cat, tS_eq, tS_lt, List.toList_toArray, g_MOST_WORD, g_LETTERS, g_MOST_POOL, g_MOST_WEIGHT, g_BEGIN, g_FACTOR, g_MODULUS, GC.pv, atI_lit, e1, e2, keyed_ok (n + 3) _ hP hl hk]
  exact ⟨_, rfl, k1.trans k2⟩
end K20

set_option Elab.async false
set_option linter.all false
set_option maxRecDepth 100000
set_option maxHeartbeats 4000000
/-! K20t: words, twins. -/
namespace K20
open PySem L2 Ev
theorem word_ok (n : Nat) {i j : Nat} {M : Sto} (h : Dk i j M) : ∃ w M', callN T (n + 3) "_law_word" [.ref i] M = .ok (tv w) M' ∧ word w ∧ Dk i j M' ∧ Keep [i, j] M M' := by
  rw [e__law_word]
  unfold c__law_word
  obtain ⟨x, M1, e1, hx, d1, k1⟩ := picks n h [.int 1, .int 2, .int 3, .int 5, .int 10, .int 4] (by decide) (by decide)
  have hz : ∃ z : Int, x = .int z ∧ 1 ≤ z ∧ z ≤ 10 := by
    simp only [List.mem_cons, List.not_mem_nil, or_false] at hx
    rcases hx with rfl | rfl | rfl | rfl | rfl | rfl <;> exact ⟨_, rfl, by decide, by decide⟩
  obtain ⟨z, rfl, z1, z2⟩ := hz
  have rg : rgOk 0 z = true := rgOk_nat (by omega) (by omega) (by omega) (by omega)
  simp only [↓evE.eq_1, ↓evE.eq_2, ↓evE.eq_3, ↓evE.eq_4, ↓evE.eq_5, ↓evE.eq_6, ↓evE.eq_7, ↓evE.eq_8, ↓evE.eq_9, ↓evE.eq_10, ↓evE.eq_11, ↓evE.eq_12, ↓evE.eq_13, ↓evE.eq_14, ↓evE.eq_15, ↓evE.eq_16, ↓evE.eq_17, ↓evE.eq_18, ↓evE.eq_19, ↓evE.eq_20, ↓evE.eq_21, ↓evE.eq_22, ↓evE.eq_23, ↓evE.eq_24, ↓evE.eq_25, ↓evE.eq_26, ↓evE.eq_27, ↓evE.eq_28, ↓evE.eq_29, ↓evE.eq_30, ↓evE.eq_31, ↓evE.eq_32, ↓evE.eq_33, ↓evE.eq_34, ↓evE.eq_35, ↓evE.eq_36, ↓evE.eq_37, ↓evE.eq_38, ↓evS.eq_1, ↓evS_seq, ↓evS.eq_3, ↓evS.eq_4, ↓evS.eq_5, ↓evS.eq_6, ↓evS.eq_7, ↓evS.eq_8, ↓evS_ite, ↓iteS, ↓evS.eq_11, ↓evS.eq_12, ↓evS.eq_13, ↓evS.eq_14, ↓evS.eq_15, ↓evS.eq_16, ↓evS.eq_17, ↓evS_for, ↓evA.eq_1, ↓evA.eq_2, ↓evT.eq_1, ↓evT.eq_2, ↓evO.eq_1, ↓evO.eq_2, ↓evI.eq_1, ↓evI.eq_2, ↓evI.eq_3, ↓evI.eq_4, ↓evI.eq_5, ↓evF.eq_1, ↓evF.eq_2, ↓m_bind, ↓m_then, ↓m_opt, SRes.bind_nx, SRes.bind_rt, SRes.bind_bk, SRes.bind_ct, SRes.bind_ex, SRes.bind_bad, at_call, at_glo, at_fuel, SRes.back, List.getElem?_cons_zero, List.getElem?_cons_succ, List.set_cons_zero, List.set_cons_succ, asgT, asgTs, cmpV, truV, binV, bltV, tyN, tyLe, subV, Option.map_some, Option.map_none, List.any_cons, List.any_nil, if_true, if_false, ite_true, ite_false, String.reduceBEq, Nat.reduceAdd, Bool.or_false, Bool.false_or, Bool.or_true, Bool.true_or, Bool.and_true, Bool.true_and, Bool.and_false, Bool.false_and, Bool.not_true, Bool.not_false, beq_self_eq_true, decide_true, decide_false, reduceCtorEq, Bool.false_eq_true, Ev.keyOf, dctKeys, List.length_cons, List.length_nil, List.zip_cons_cons, List.zip_nil_left, List.zip_nil_right, List.foldl_cons, List.foldl_nil, methV, setV, isL, permL_cons, permL_nil, List.map_cons, List.map_nil, valP_cons, valP_nil, key_str, key_int, ofString_eq, String.reduceEq, putP, sizeLine_eq, Nat.reduceLT, Nat.reduceLeDiff, sto_self, mulOk, powOk, divOk, Int.reducePow, Nat.reducePow, Int.reduceNeg, Int.reduceLT, Int.reduceLE, natAbs64, natAbs30, Int.reduceToNat, Int.reduceEq, Int.reduceAdd, Int.reduceSub, Int.reduceMul, ne_eq, not_false_eq_true, Int.reduceNe, Ev.alloc, Ev.eq_ii, Ev.eq_ss, Ev.eq_bb, Ev.eq_nn, Ev.eq_ni, Ev.eq_in, Ev.eq_ns, Ev.eq_sn, Ev.eq_nb, Ev.eq_bn, Ev.eq_is, Ev.eq_si, and_self, true_and, and_true, fmod_lt64, fmod_gt64, atI_0, atI_1, atI_2, atI_3, atI_4, atI_5, atI_6, atI_7, atI_8, atI_9, itemsV, smV, fmtV, lenSetV, seqOf, lstOf, slcV, revV, srcOf, optI, List.nil_append, List.cons_append, sto_new, intsP, sortI, insI, compL, compG, wipeP, boolsP, List.all_cons, List.all_nil, id_eq, keep_nil, maxI, minI, intsP, cutf_1, cutf_2, cutf_3, cutf_4, cutt_1, cutt_2, cutt_3, cutt_4, List.drop_succ_cons, List.drop_zero, List.take_succ_cons, List.take_zero, Int.cast_ofNat_Int, false_and, and_false, or_self, or_false, false_or, true_or, or_true, lit_e, tS_len, tS_cat, tS_eq, tS_lt, List.toList_toArray, g_MOST_WORD, g_LETTERS, g_MOST_POOL, g_MOST_WEIGHT, g_BEGIN, g_FACTOR, g_MODULUS, GC.pv, e1, rg]
  generalize hq : compL _ _ _ _ _ = q
  obtain ⟨out, M2, rfl, us, hu1, hu2, hu3, d2, k2⟩ := comp_gen' hq (fun xs acc M2 => ∃ us : List (List Nat), acc = tsv us ∧ us.length + xs.length = z.toNat ∧ (∀ u ∈ us, u.length ≤ 1 ∧ u.length = 1 ∧ ∀ c ∈ u, low c) ∧ Dk i j M2 ∧ Keep [i, j] M1 M2)
    ⟨[], rfl, by simp [rgP], (fun _ z => by cases z), d1, Keep.refl _⟩ (fun _ _ _ _ => rfl)
    (fun x xs acc M2 ⟨us, f1, f2, f3, f4, f5⟩ => by
      simp only [List.length_cons] at f2
      refine ⟨by rw [f1, sizeLine_eq]; simp; omega, ?_⟩
      obtain ⟨c, M3, e3, hc, d3, k3⟩ := pick_str n f4 (l := abc) (by rw [abc_len]; decide) (by rw [abc_len]; decide)
      refine ⟨M3, .inl ⟨tv [c], ?_, us ++ [[c]], by rw [f1]; simp, by simp; omega, ?_, d3, f5.trans k3⟩⟩
      · simp only [↓evE.eq_1, ↓evE.eq_2, ↓evE.eq_3, ↓evE.eq_4, ↓evE.eq_5, ↓evE.eq_6, ↓evE.eq_7, ↓evE.eq_8, ↓evE.eq_9, ↓evE.eq_10, ↓evE.eq_11, ↓evE.eq_12, ↓evE.eq_13, ↓evE.eq_14, ↓evE.eq_15, ↓evE.eq_16, ↓evE.eq_17, ↓evE.eq_18, ↓evE.eq_19, ↓evE.eq_20, ↓evE.eq_21, ↓evE.eq_22, ↓evE.eq_23, ↓evE.eq_24, ↓evE.eq_25, ↓evE.eq_26, ↓evE.eq_27, ↓evE.eq_28, ↓evE.eq_29, ↓evE.eq_30, ↓evE.eq_31, ↓evE.eq_32, ↓evE.eq_33, ↓evE.eq_34, ↓evE.eq_35, ↓evE.eq_36, ↓evE.eq_37, ↓evE.eq_38, ↓evS.eq_1, ↓evS_seq, ↓evS.eq_3, ↓evS.eq_4, ↓evS.eq_5, ↓evS.eq_6, ↓evS.eq_7, ↓evS.eq_8, ↓evS_ite, ↓iteS, ↓evS.eq_11, ↓evS.eq_12, ↓evS.eq_13, ↓evS.eq_14, ↓evS.eq_15, ↓evS.eq_16, ↓evS.eq_17, ↓evS_for, ↓evA.eq_1, ↓evA.eq_2, ↓evT.eq_1, ↓evT.eq_2, ↓evO.eq_1, ↓evO.eq_2, ↓evI.eq_1, ↓evI.eq_2, ↓evI.eq_3, ↓evI.eq_4, ↓evI.eq_5, ↓evF.eq_1, ↓evF.eq_2, ↓m_bind, ↓m_then, ↓m_opt, SRes.bind_nx, SRes.bind_rt, SRes.bind_bk, SRes.bind_ct, SRes.bind_ex, SRes.bind_bad, at_call, at_glo, at_fuel, SRes.back, List.getElem?_cons_zero, List.getElem?_cons_succ, List.set_cons_zero, List.set_cons_succ, asgT, asgTs, cmpV, truV, binV, bltV, tyN, tyLe, subV, Option.map_some, Option.map_none, List.any_cons, List.any_nil, if_true, if_false, ite_true, ite_false, String.reduceBEq, Nat.reduceAdd, Bool.or_false, Bool.false_or, Bool.or_true, Bool.true_or, Bool.and_true, Bool.true_and, Bool.and_false, Bool.false_and, Bool.not_true, Bool.not_false, beq_self_eq_true, decide_true, decide_false, reduceCtorEq, Bool.false_eq_true, Ev.keyOf, dctKeys, List.length_cons, List.length_nil, List.zip_cons_cons, List.zip_nil_left, List.zip_nil_right, List.foldl_cons, List.foldl_nil, methV, setV, isL, permL_cons, permL_nil, List.map_cons, List.map_nil, valP_cons, valP_nil, key_str, key_int, ofString_eq, String.reduceEq, putP, sizeLine_eq, Nat.reduceLT, Nat.reduceLeDiff, sto_self, mulOk, powOk, divOk, Int.reducePow, Nat.reducePow, Int.reduceNeg, Int.reduceLT, Int.reduceLE, natAbs64, natAbs30, Int.reduceToNat, Int.reduceEq, Int.reduceAdd, Int.reduceSub, Int.reduceMul, ne_eq, not_false_eq_true, Int.reduceNe, Ev.alloc, Ev.eq_ii, Ev.eq_ss, Ev.eq_bb, Ev.eq_nn, Ev.eq_ni, Ev.eq_in, Ev.eq_ns, Ev.eq_sn, Ev.eq_nb, Ev.eq_bn, Ev.eq_is, Ev.eq_si, and_self, true_and, and_true, fmod_lt64, fmod_gt64, atI_0, atI_1, atI_2, atI_3, atI_4, atI_5, atI_6, atI_7, atI_8, atI_9, itemsV, smV, fmtV, lenSetV, seqOf, lstOf, slcV, revV, srcOf, optI, List.nil_append, List.cons_append, sto_new, intsP, sortI, insI, compL, compG, wipeP, boolsP, List.all_cons, List.all_nil, id_eq, keep_nil, maxI, minI, intsP, cutf_1, cutf_2, cutf_3, cutf_4, cutt_1, cutt_2, cutt_3, cutt_4, List.drop_succ_cons, List.drop_zero, List.take_succ_cons, List.take_zero, Int.cast_ofNat_Int, false_and, and_false, or_self, or_false, false_or, true_or, or_true, lit_e, tS_len, tS_cat, tS_eq, tS_lt, List.toList_toArray, g_MOST_WORD, g_LETTERS, g_MOST_POOL, g_MOST_WEIGHT, g_BEGIN, g_FACTOR, g_MODULUS, GC.pv, lit_abc, e3]
      · intro u hu
        rcases List.mem_append.mp hu with hu | hu
        · exact f3 u hu
        · rw [List.mem_singleton.mp hu]
          refine ⟨by simp, rfl, fun d hd => ?_⟩
          rw [List.mem_singleton.mp hd]; exact (abc_mem c).mp hc)
  subst hu1
  have ul : us.length = z.toNat := by simpa using hu2
  have fl : us.flatten.length = us.length := by
    have : ∀ us : List (List Nat), (∀ u ∈ us, u.length ≤ 1 ∧ u.length = 1 ∧ ∀ c ∈ u, low c) → us.flatten.length = us.length := by
      intro us
      induction us with
      | nil => intro _; rfl
      | cons u us ih =>
        intro hh
        have := ih fun v hv => hh v (List.mem_cons_of_mem _ hv)
        have := (hh u List.mem_cons_self).2.1
        simp only [List.flatten_cons, List.length_append, List.length_cons]
        omega
    exact this us hu3
  have jo := jo_ok (us := us) (by omega)
  simp only [↓evE.eq_1, ↓evE.eq_2, ↓evE.eq_3, ↓evE.eq_4, ↓evE.eq_5, ↓evE.eq_6, ↓evE.eq_7, ↓evE.eq_8, ↓evE.eq_9, ↓evE.eq_10, ↓evE.eq_11, ↓evE.eq_12, ↓evE.eq_13, ↓evE.eq_14, ↓evE.eq_15, ↓evE.eq_16, ↓evE.eq_17, ↓evE.eq_18, ↓evE.eq_19, ↓evE.eq_20, ↓evE.eq_21, ↓evE.eq_22, ↓evE.eq_23, ↓evE.eq_24, ↓evE.eq_25, ↓evE.eq_26, ↓evE.eq_27, ↓evE.eq_28, ↓evE.eq_29, ↓evE.eq_30, ↓evE.eq_31, ↓evE.eq_32, ↓evE.eq_33, ↓evE.eq_34, ↓evE.eq_35, ↓evE.eq_36, ↓evE.eq_37, ↓evE.eq_38, ↓evS.eq_1, ↓evS_seq, ↓evS.eq_3, ↓evS.eq_4, ↓evS.eq_5, ↓evS.eq_6, ↓evS.eq_7, ↓evS.eq_8, ↓evS_ite, ↓iteS, ↓evS.eq_11, ↓evS.eq_12, ↓evS.eq_13, ↓evS.eq_14, ↓evS.eq_15, ↓evS.eq_16, ↓evS.eq_17, ↓evS_for, ↓evA.eq_1, ↓evA.eq_2, ↓evT.eq_1, ↓evT.eq_2, ↓evO.eq_1, ↓evO.eq_2, ↓evI.eq_1, ↓evI.eq_2, ↓evI.eq_3, ↓evI.eq_4, ↓evI.eq_5, ↓evF.eq_1, ↓evF.eq_2, ↓m_bind, ↓m_then, ↓m_opt, SRes.bind_nx, SRes.bind_rt, SRes.bind_bk, SRes.bind_ct, SRes.bind_ex, SRes.bind_bad, at_call, at_glo, at_fuel, SRes.back, List.getElem?_cons_zero, List.getElem?_cons_succ, List.set_cons_zero, List.set_cons_succ, asgT, asgTs, cmpV, truV, binV, bltV, tyN, tyLe, subV, Option.map_some, Option.map_none, List.any_cons, List.any_nil, if_true, if_false, ite_true, ite_false, String.reduceBEq, Nat.reduceAdd, Bool.or_false, Bool.false_or, Bool.or_true, Bool.true_or, Bool.and_true, Bool.true_and, Bool.and_false, Bool.false_and, Bool.not_true, Bool.not_false, beq_self_eq_true, decide_true, decide_false, reduceCtorEq, Bool.false_eq_true, Ev.keyOf, dctKeys, List.length_cons, List.length_nil, List.zip_cons_cons, List.zip_nil_left, List.zip_nil_right, List.foldl_cons, List.foldl_nil, methV, setV, isL, permL_cons, permL_nil, List.map_cons, List.map_nil, valP_cons, valP_nil, key_str, key_int, ofString_eq, String.reduceEq, putP, sizeLine_eq, Nat.reduceLT, Nat.reduceLeDiff, sto_self, mulOk, powOk, divOk, Int.reducePow, Nat.reducePow, Int.reduceNeg, Int.reduceLT, Int.reduceLE, natAbs64, natAbs30, Int.reduceToNat, Int.reduceEq, Int.reduceAdd, Int.reduceSub, Int.reduceMul, ne_eq, not_false_eq_true, Int.reduceNe, Ev.alloc, Ev.eq_ii, Ev.eq_ss, Ev.eq_bb, Ev.eq_nn, Ev.eq_ni, Ev.eq_in, Ev.eq_ns, Ev.eq_sn, Ev.eq_nb, Ev.eq_bn, Ev.eq_is, Ev.eq_si, and_self, true_and, and_true, fmod_lt64, fmod_gt64, atI_0, atI_1, atI_2, atI_3, atI_4, atI_5, atI_6, atI_7, atI_8, atI_9, itemsV, smV, fmtV, lenSetV, seqOf, lstOf, slcV, revV, srcOf, optI, List.nil_append, List.cons_append, sto_new, intsP, sortI, insI, compL, compG, wipeP, boolsP, List.all_cons, List.all_nil, id_eq, keep_nil, maxI, minI, intsP, cutf_1, cutf_2, cutf_3, cutf_4, cutt_1, cutt_2, cutt_3, cutt_4, List.drop_succ_cons, List.drop_zero, List.take_succ_cons, List.take_zero, Int.cast_ofNat_Int, false_and, and_false, or_self, or_false, false_or, true_or, or_true, lit_e, tS_len, tS_cat, tS_eq, tS_lt, List.toList_toArray, g_MOST_WORD, g_LETTERS, g_MOST_POOL, g_MOST_WEIGHT, g_BEGIN, g_FACTOR, g_MODULUS, GC.pv, strs_tsv, jo, join_tsv]
  refine ⟨us.flatten, _, rfl, ⟨by omega, by omega, fun c hc => ?_⟩, d2.app _, k1.trans (k2.trans Keep.app)⟩
  obtain ⟨u, hu, hcu⟩ := List.mem_flatten.mp hc
  exact (hu3 u hu).2.2 c hcu
theorem nodup_sub : ∀ (l m : List (List Nat)), l.Nodup → (∀ x ∈ l, x ∈ m) → l.length ≤ m.length
  | [], m, _, _ => by simp
  | x :: l, m, h, hs => by
    have h' := List.nodup_cons.mp h
    have := nodup_sub l (m.erase x) h'.2 (fun y hy => by
      have ne : y ≠ x := fun z => h'.1 (z ▸ hy)
      exact (List.mem_erase_of_ne ne).mpr (hs y (List.mem_cons_of_mem _ hy)))
    have hl := List.length_erase_of_mem (hs x List.mem_cons_self)
    have pos : 0 < m.length := List.length_pos_of_mem (hs x List.mem_cons_self)
    simp only [List.length_cons]
    omega
def ten (c : Nat) : List Nat := List.replicate 10 c
def dozen : List Nat := wd "abcdefghijkl"
theorem dozen_eq : dozen = (List.range 12).map (97 + ·) := by decide +kernel
theorem ten_word {c : Nat} (h : c ∈ dozen) : word (ten c) := by
  rw [dozen_eq] at h
  obtain ⟨k, hk, rfl⟩ := List.mem_map.mp h
  have := List.mem_range.mp hk
  refine ⟨by simp [ten], by simp [ten], fun d hd => ?_⟩
  rw [List.eq_of_mem_replicate hd]
  exact ⟨by omega, by omega⟩
theorem dozen_free {ws : List (List Nat)} (h : ws.length < 12) : dozen.filter (fun c => decide (ten c ∉ ws)) ≠ [] := by
  intro z
  have all : ∀ x ∈ dozen.map ten, x ∈ ws := fun x hx => by
    obtain ⟨c, hc, rfl⟩ := List.mem_map.mp hx
    have := List.filter_eq_nil_iff.mp z c hc
    simpa using this
  have nd : (dozen.map ten).Nodup := by rw [dozen_eq]; decide +kernel
  have := nodup_sub _ ws nd all
  have l12 : (dozen.map ten).length = 12 := by rw [dozen_eq]; rfl
  omega
theorem words_ok (n : Nat) {i j : Nat} {M : Sto} (h : Dk i j M) {m : Int} (h0 : 1 ≤ m) (h1 : m ≤ 8) : ∃ k ws M', callN T (n + 4) "_law_words" [.ref i, .int m] M = .ok (.ref k) M' ∧ M'[k]? = some (.lst (tsv ws)) ∧ ws.length = m.toNat ∧ (∀ w ∈ ws, word w) ∧ ws.Nodup ∧ M.length ≤ k ∧ Dk i j M' ∧ Keep [i, j] M M' := by
  have rg : rgOk 0 m = true := rgOk_nat (by omega) (by omega) (by omega) (by omega)
  have lt := h.lt
  rw [e__law_words]
  unfold c__law_words
  simp only [↓evE.eq_1, ↓evE.eq_2, ↓evE.eq_3, ↓evE.eq_4, ↓evE.eq_5, ↓evE.eq_6, ↓evE.eq_7, ↓evE.eq_8, ↓evE.eq_9, ↓evE.eq_10, ↓evE.eq_11, ↓evE.eq_12, ↓evE.eq_13, ↓evE.eq_14, ↓evE.eq_15, ↓evE.eq_16, ↓evE.eq_17, ↓evE.eq_18, ↓evE.eq_19, ↓evE.eq_20, ↓evE.eq_21, ↓evE.eq_22, ↓evE.eq_23, ↓evE.eq_24, ↓evE.eq_25, ↓evE.eq_26, ↓evE.eq_27, ↓evE.eq_28, ↓evE.eq_29, ↓evE.eq_30, ↓evE.eq_31, ↓evE.eq_32, ↓evE.eq_33, ↓evE.eq_34, ↓evE.eq_35, ↓evE.eq_36, ↓evE.eq_37, ↓evE.eq_38, ↓evS.eq_1, ↓evS_seq, ↓evS.eq_3, ↓evS.eq_4, ↓evS.eq_5, ↓evS.eq_6, ↓evS.eq_7, ↓evS.eq_8, ↓evS_ite, ↓iteS, ↓evS.eq_11, ↓evS.eq_12, ↓evS.eq_13, ↓evS.eq_14, ↓evS.eq_15, ↓evS.eq_16, ↓evS.eq_17, ↓evS_for, ↓evA.eq_1, ↓evA.eq_2, ↓evT.eq_1, ↓evT.eq_2, ↓evO.eq_1, ↓evO.eq_2, ↓evI.eq_1, ↓evI.eq_2, ↓evI.eq_3, ↓evI.eq_4, ↓evI.eq_5, ↓evF.eq_1, ↓evF.eq_2, ↓m_bind, ↓m_then, ↓m_opt, SRes.bind_nx, SRes.bind_rt, SRes.bind_bk, SRes.bind_ct, SRes.bind_ex, SRes.bind_bad, at_call, at_glo, at_fuel, SRes.back, List.getElem?_cons_zero, List.getElem?_cons_succ, List.set_cons_zero, List.set_cons_succ, asgT, asgTs, cmpV, truV, binV, bltV, tyN, tyLe, subV, Option.map_some, Option.map_none, List.any_cons, List.any_nil, if_true, if_false, ite_true, ite_false, String.reduceBEq, Nat.reduceAdd, Bool.or_false, Bool.false_or, Bool.or_true, Bool.true_or, Bool.and_true, Bool.true_and, Bool.and_false, Bool.false_and, Bool.not_true, Bool.not_false, beq_self_eq_true, decide_true, decide_false, reduceCtorEq, Bool.false_eq_true, Ev.keyOf, dctKeys, List.length_cons, List.length_nil, List.zip_cons_cons, List.zip_nil_left, List.zip_nil_right, List.foldl_cons, List.foldl_nil, methV, setV, isL, permL_cons, permL_nil, List.map_cons, List.map_nil, valP_cons, valP_nil, key_str, key_int, ofString_eq, String.reduceEq, putP, sizeLine_eq, Nat.reduceLT, Nat.reduceLeDiff, sto_self, mulOk, powOk, divOk, Int.reducePow, Nat.reducePow, Int.reduceNeg, Int.reduceLT, Int.reduceLE, natAbs64, natAbs30, Int.reduceToNat, Int.reduceEq, Int.reduceAdd, Int.reduceSub, Int.reduceMul, ne_eq, not_false_eq_true, Int.reduceNe, Ev.alloc, Ev.eq_ii, Ev.eq_ss, Ev.eq_bb, Ev.eq_nn, Ev.eq_ni, Ev.eq_in, Ev.eq_ns, Ev.eq_sn, Ev.eq_nb, Ev.eq_bn, Ev.eq_is, Ev.eq_si, and_self, true_and, and_true, fmod_lt64, fmod_gt64, atI_0, atI_1, atI_2, atI_3, atI_4, atI_5, atI_6, atI_7, atI_8, atI_9, itemsV, smV, fmtV, lenSetV, seqOf, lstOf, slcV, revV, srcOf, optI, List.nil_append, List.cons_append, sto_new, intsP, sortI, insI, compL, compG, wipeP, boolsP, List.all_cons, List.all_nil, id_eq, keep_nil, maxI, minI, intsP, cutf_1, cutf_2, cutf_3, cutf_4, cutt_1, cutt_2, cutt_3, cutt_4, List.drop_succ_cons, List.drop_zero, List.take_succ_cons, List.take_zero, Int.cast_ofNat_Int, false_and, and_false, or_self, or_false, false_or, true_or, or_true, lit_e, tS_len, tS_cat, tS_eq, tS_lt, List.toList_toArray, g_MOST_WORD, g_LETTERS, g_MOST_POOL, g_MOST_WEIGHT, g_BEGIN, g_FACTOR, g_MODULUS, GC.pv, rg]
  generalize hz : forL _ _ _ _ _ = z
  obtain ⟨env', M', rfl, ws, x3, x4, x5, f1, f2, f3, f4, d', k', rfl⟩ := for_of hz (fun xs env M' => ∃ ws x3 x4 x5, ws.length + xs.length = m.toNat ∧ (∀ w ∈ ws, word w) ∧ ws.Nodup ∧ M'[M.length]? = some (.lst (tsv ws)) ∧ Dk i j M' ∧ Keep [i, j] M M' ∧ env = [some (.ref i), some (.int m), some (.ref M.length), x3, x4, x5])
    ⟨[], none, none, none, by simp [rgP], (fun _ z => by cases z), List.nodup_nil, sto_new _ _, h.app _, Keep.app, rfl⟩ (fun _ _ _ _ => rfl)
    (fun x xs env M' ⟨ws, x3, x4, x5, f1, f2, f3, f4, d', k', he⟩ => by
      subst he
      simp only [List.length_cons] at f1
      obtain ⟨w, M2, e2, hw, d2, k2⟩ := word_ok n d'
      have g2 := k2.get f4 (by simp; omega)
      have l7 : ((tsv ws).length < 16777216) = True := eq_true (by simp; omega)
      by_cases hm : w ∈ ws
      · have hmd : decide (w ∈ ws) = true := decide_eq_true hm
        have fr := dozen_free (ws := ws) (by omega)
        obtain ⟨c, r, hr⟩ := List.exists_cons_of_ne_nil fr
        have cm : c ∈ dozen.filter (fun c => decide (ten c ∉ ws)) := by rw [hr]; exact List.mem_cons_self
        obtain ⟨c1, c2⟩ := List.mem_filter.mp cm
        have c2 : ten c ∉ ws := by simpa using c2
        have ro : repOk 1 10 = true := repOk_nat (by decide) (by decide) (by decide)
        have i10 : Int.toNat 10 = 10 := rfl
        refine ⟨[some (.ref i), some (.int m), some (.ref M.length), some x, some (tv (ten c)), x5], (M2 ++ [MO.lst (tsv ((dozen.filter (fun c => decide (ten c ∉ ws))).map ten))]).set M.length (.lst (tsv (ws ++ [ten c]))), .inl ?_, ws ++ [ten c], _, _, _, by simp; omega, ?_, ?_, sto_set (sto_app g2), ?_, ?_, rfl⟩
        · unfold forB
          have lw : Str.ofString "abcdefghijkl" = tS dozen := lit_w _
          simp only [↓evE.eq_1, ↓evE.eq_2, ↓evE.eq_3, ↓evE.eq_4, ↓evE.eq_5, ↓evE.eq_6, ↓evE.eq_7, ↓evE.eq_8, ↓evE.eq_9, ↓evE.eq_10, ↓evE.eq_11, ↓evE.eq_12, ↓evE.eq_13, ↓evE.eq_14, ↓evE.eq_15, ↓evE.eq_16, ↓evE.eq_17, ↓evE.eq_18, ↓evE.eq_19, ↓evE.eq_20, ↓evE.eq_21, ↓evE.eq_22, ↓evE.eq_23, ↓evE.eq_24, ↓evE.eq_25, ↓evE.eq_26, ↓evE.eq_27, ↓evE.eq_28, ↓evE.eq_29, ↓evE.eq_30, ↓evE.eq_31, ↓evE.eq_32, ↓evE.eq_33, ↓evE.eq_34, ↓evE.eq_35, ↓evE.eq_36, ↓evE.eq_37, ↓evE.eq_38, ↓evS.eq_1, ↓evS_seq, ↓evS.eq_3, ↓evS.eq_4, ↓evS.eq_5, ↓evS.eq_6, ↓evS.eq_7, ↓evS.eq_8, ↓evS_ite, ↓iteS, ↓evS.eq_11, ↓evS.eq_12, ↓evS.eq_13, ↓evS.eq_14, ↓evS.eq_15, ↓evS.eq_16, ↓evS.eq_17, ↓evS_for, ↓evA.eq_1, ↓evA.eq_2, ↓evT.eq_1, ↓evT.eq_2, ↓evO.eq_1, ↓evO.eq_2, ↓evI.eq_1, ↓evI.eq_2, ↓evI.eq_3, ↓evI.eq_4, ↓evI.eq_5, ↓evF.eq_1, ↓evF.eq_2, ↓m_bind, ↓m_then, ↓m_opt, SRes.bind_nx, SRes.bind_rt, SRes.bind_bk, SRes.bind_ct, SRes.bind_ex, SRes.bind_bad, at_call, at_glo, at_fuel, SRes.back, List.getElem?_cons_zero, List.getElem?_cons_succ, List.set_cons_zero, List.set_cons_succ, asgT, asgTs, cmpV, truV, binV, bltV, tyN, tyLe, subV, Option.map_some, Option.map_none, List.any_cons, List.any_nil, if_true, if_false, ite_true, ite_false, String.reduceBEq, Nat.reduceAdd, Bool.or_false, Bool.false_or, Bool.or_true, Bool.true_or, Bool.and_true, Bool.true_and, Bool.and_false, Bool.false_and, Bool.not_true, Bool.not_false, beq_self_eq_true, decide_true, decide_false, reduceCtorEq, Bool.false_eq_true, Ev.keyOf, dctKeys, List.length_cons, List.length_nil, List.zip_cons_cons, List.zip_nil_left, List.zip_nil_right, List.foldl_cons, List.foldl_nil, methV, setV, isL, permL_cons, permL_nil, List.map_cons, List.map_nil, valP_cons, valP_nil, key_str, key_int, ofString_eq, String.reduceEq, putP, sizeLine_eq, Nat.reduceLT, Nat.reduceLeDiff, sto_self, mulOk, powOk, divOk, Int.reducePow, Nat.reducePow, Int.reduceNeg, Int.reduceLT, Int.reduceLE, natAbs64, natAbs30, Int.reduceToNat, Int.reduceEq, Int.reduceAdd, Int.reduceSub, Int.reduceMul, ne_eq, not_false_eq_true, Int.reduceNe, Ev.alloc, Ev.eq_ii, Ev.eq_ss, Ev.eq_bb, Ev.eq_nn, Ev.eq_ni, Ev.eq_in, Ev.eq_ns, Ev.eq_sn, Ev.eq_nb, Ev.eq_bn, Ev.eq_is, Ev.eq_si, and_self, true_and, and_true, fmod_lt64, fmod_gt64, atI_0, atI_1, atI_2, atI_3, atI_4, atI_5, atI_6, atI_7, atI_8, atI_9, itemsV, smV, fmtV, lenSetV, seqOf, lstOf, slcV, revV, srcOf, optI, List.nil_append, List.cons_append, sto_new, intsP, sortI, insI, compL, compG, wipeP, boolsP, List.all_cons, List.all_nil, id_eq, keep_nil, maxI, minI, intsP, cutf_1, cutf_2, cutf_3, cutf_4, cutt_1, cutt_2, cutt_3, cutt_4, List.drop_succ_cons, List.drop_zero, List.take_succ_cons, List.take_zero, Int.cast_ofNat_Int, false_and, and_false, or_self, or_false, false_or, true_or, or_true, lit_e, tS_len, tS_cat, tS_eq, tS_lt, List.toList_toArray, g_MOST_WORD, g_LETTERS, g_MOST_POOL, g_MOST_WEIGHT, g_BEGIN, g_FACTOR, g_MODULUS, GC.pv, e2, in_tsv g2, hmd, lw]
          rw [signs_tsv]
          generalize hq : compL _ _ _ _ _ = q
          obtain ⟨out, M3, rfl, hM, dn, rt, o1, o2, o3⟩ := comp_gen' hq (fun xs acc M3 => M3 = M2 ∧ ∃ dn rt : List Nat, dn ++ rt = dozen ∧ xs = tsv (rt.map fun c => [c]) ∧ acc = tsv ((dn.filter (fun c => decide (ten c ∉ ws))).map ten))
            ⟨rfl, [], dozen, rfl, rfl, rfl⟩ (fun _ _ _ _ => rfl)
            (fun y ys acc M3 ⟨hM, dn, rt, o1, o2, o3⟩ => by
              cases rt with
              | nil => cases o2
              | cons b rt =>
                cases o2
                subst hM
                have dl : dn.length ≤ 12 := by
                  have : dozen.length = 12 := by rw [dozen_eq]; rfl
                  rw [← this, ← o1]; simp
                have fl : (dn.filter (fun c => decide (ten c ∉ ws))).length ≤ 12 := Nat.le_trans (List.length_filter_le _ _) dl
                refine ⟨by rw [o3, sizeLine_eq]; simp only [List.length_map]; omega, M3, ?_⟩
                have rt10 : (List.replicate 10 [b]).flatten = ten b := by simp [ten]
                by_cases hb : ten b ∈ ws
                · have hbd : decide (ten b ∈ ws) = true := decide_eq_true hb
                  refine .inr ⟨?_, rfl, dn ++ [b], rt, by rw [← o1]; simp, rfl, by rw [o3, List.filter_append]; simp [hb]⟩
                  simp only [↓evE.eq_1, ↓evE.eq_2, ↓evE.eq_3, ↓evE.eq_4, ↓evE.eq_5, ↓evE.eq_6, ↓evE.eq_7, ↓evE.eq_8, ↓evE.eq_9, ↓evE.eq_10, ↓evE.eq_11, ↓evE.eq_12, ↓evE.eq_13, ↓evE.eq_14, ↓evE.eq_15, ↓evE.eq_16, ↓evE.eq_17, ↓evE.eq_18, ↓evE.eq_19, ↓evE.eq_20, ↓evE.eq_21, ↓evE.eq_22, ↓evE.eq_23, ↓evE.eq_24, ↓evE.eq_25, ↓evE.eq_26, ↓evE.eq_27, ↓evE.eq_28, ↓evE.eq_29, ↓evE.eq_30, ↓evE.eq_31, ↓evE.eq_32, ↓evE.eq_33, ↓evE.eq_34, ↓evE.eq_35, ↓evE.eq_36, ↓evE.eq_37, ↓evE.eq_38, ↓evS.eq_1, ↓evS_seq, ↓evS.eq_3, ↓evS.eq_4, ↓evS.eq_5, ↓evS.eq_6, ↓evS.eq_7, ↓evS.eq_8, ↓evS_ite, ↓iteS, ↓evS.eq_11, ↓evS.eq_12, ↓evS.eq_13, ↓evS.eq_14, ↓evS.eq_15, ↓evS.eq_16, ↓evS.eq_17, ↓evS_for, ↓evA.eq_1, ↓evA.eq_2, ↓evT.eq_1, ↓evT.eq_2, ↓evO.eq_1, ↓evO.eq_2, ↓evI.eq_1, ↓evI.eq_2, ↓evI.eq_3, ↓evI.eq_4, ↓evI.eq_5, ↓evF.eq_1, ↓evF.eq_2, ↓m_bind, ↓m_then, ↓m_opt, SRes.bind_nx, SRes.bind_rt, SRes.bind_bk, SRes.bind_ct, SRes.bind_ex, SRes.bind_bad, at_call, at_glo, at_fuel, SRes.back, List.getElem?_cons_zero, List.getElem?_cons_succ, List.set_cons_zero, List.set_cons_succ, asgT, asgTs, cmpV, truV, binV, bltV, tyN, tyLe, subV, Option.map_some, Option.map_none, List.any_cons, List.any_nil, if_true, if_false, ite_true, ite_false, String.reduceBEq, Nat.reduceAdd, Bool.or_false, Bool.false_or, Bool.or_true, Bool.true_or, Bool.and_true, Bool.true_and, Bool.and_false, Bool.false_and, Bool.not_true, Bool.not_false, beq_self_eq_true, decide_true, decide_false, reduceCtorEq, Bool.false_eq_true, Ev.keyOf, dctKeys, List.length_cons, List.length_nil, List.zip_cons_cons, List.zip_nil_left, List.zip_nil_right, List.foldl_cons, List.foldl_nil, methV, setV, isL, permL_cons, permL_nil, List.map_cons, List.map_nil, valP_cons, valP_nil, key_str, key_int, ofString_eq, String.reduceEq, putP, sizeLine_eq, Nat.reduceLT, Nat.reduceLeDiff, sto_self, mulOk, powOk, divOk, Int.reducePow, Nat.reducePow, Int.reduceNeg, Int.reduceLT, Int.reduceLE, natAbs64, natAbs30, Int.reduceToNat, Int.reduceEq, Int.reduceAdd, Int.reduceSub, Int.reduceMul, ne_eq, not_false_eq_true, Int.reduceNe, Ev.alloc, Ev.eq_ii, Ev.eq_ss, Ev.eq_bb, Ev.eq_nn, Ev.eq_ni, Ev.eq_in, Ev.eq_ns, Ev.eq_sn, Ev.eq_nb, Ev.eq_bn, Ev.eq_is, Ev.eq_si, and_self, true_and, and_true, fmod_lt64, fmod_gt64, atI_0, atI_1, atI_2, atI_3, atI_4, atI_5, atI_6, atI_7, atI_8, atI_9, itemsV, smV, fmtV, lenSetV, seqOf, lstOf, slcV, revV, srcOf, optI, List.nil_append, List.cons_append, sto_new, intsP, sortI, insI, compL, compG, wipeP, boolsP, List.all_cons, List.all_nil, id_eq, keep_nil, maxI, minI, intsP, cutf_1, cutf_2, cutf_3, cutf_4, cutt_1, cutt_2, cutt_3, cutt_4, List.drop_succ_cons, List.drop_zero, List.take_succ_cons, List.take_zero, Int.cast_ofNat_Int, false_and, and_false, or_self, or_false, false_or, true_or, or_true, lit_e, tS_len, tS_cat, tS_eq, tS_lt, List.toList_toArray, g_MOST_WORD, g_LETTERS, g_MOST_POOL, g_MOST_WEIGHT, g_BEGIN, g_FACTOR, g_MODULUS, GC.pv, List.length_singleton, ro, repS_tS, i10, rt10, in_tsv g2, hbd]
                · have hbd : decide (ten b ∈ ws) = false := decide_eq_false hb
                  refine .inl ⟨tv (ten b), ?_, rfl, dn ++ [b], rt, by rw [← o1]; simp, rfl, by rw [o3, List.filter_append]; simp [hb]⟩
                  simp only [↓evE.eq_1, ↓evE.eq_2, ↓evE.eq_3, ↓evE.eq_4, ↓evE.eq_5, ↓evE.eq_6, ↓evE.eq_7, ↓evE.eq_8, ↓evE.eq_9, ↓evE.eq_10, ↓evE.eq_11, ↓evE.eq_12, ↓evE.eq_13, ↓evE.eq_14, ↓evE.eq_15, ↓evE.eq_16, ↓evE.eq_17, ↓evE.eq_18, ↓evE.eq_19, ↓evE.eq_20, ↓evE.eq_21, ↓evE.eq_22, ↓evE.eq_23, ↓evE.eq_24, ↓evE.eq_25, ↓evE.eq_26, ↓evE.eq_27, ↓evE.eq_28, ↓evE.eq_29, ↓evE.eq_30, ↓evE.eq_31, ↓evE.eq_32, ↓evE.eq_33, ↓evE.eq_34, ↓evE.eq_35, ↓evE.eq_36, ↓evE.eq_37, ↓evE.eq_38, ↓evS.eq_1, ↓evS_seq, ↓evS.eq_3, ↓evS.eq_4, ↓evS.eq_5, ↓evS.eq_6, ↓evS.eq_7, ↓evS.eq_8, ↓evS_ite, ↓iteS, ↓evS.eq_11, ↓evS.eq_12, ↓evS.eq_13, ↓evS.eq_14, ↓evS.eq_15, ↓evS.eq_16, ↓evS.eq_17, ↓evS_for, ↓evA.eq_1, ↓evA.eq_2, ↓evT.eq_1, ↓evT.eq_2, ↓evO.eq_1, ↓evO.eq_2, ↓evI.eq_1, ↓evI.eq_2, ↓evI.eq_3, ↓evI.eq_4, ↓evI.eq_5, ↓evF.eq_1, ↓evF.eq_2, ↓m_bind, ↓m_then, ↓m_opt, SRes.bind_nx, SRes.bind_rt, SRes.bind_bk, SRes.bind_ct, SRes.bind_ex, SRes.bind_bad, at_call, at_glo, at_fuel, SRes.back, List.getElem?_cons_zero, List.getElem?_cons_succ, List.set_cons_zero, List.set_cons_succ, asgT, asgTs, cmpV, truV, binV, bltV, tyN, tyLe, subV, Option.map_some, Option.map_none, List.any_cons, List.any_nil, if_true, if_false, ite_true, ite_false, String.reduceBEq, Nat.reduceAdd, Bool.or_false, Bool.false_or, Bool.or_true, Bool.true_or, Bool.and_true, Bool.true_and, Bool.and_false, Bool.false_and, Bool.not_true, Bool.not_false, beq_self_eq_true, decide_true, decide_false, reduceCtorEq, Bool.false_eq_true, Ev.keyOf, dctKeys, List.length_cons, List.length_nil, List.zip_cons_cons, List.zip_nil_left, List.zip_nil_right, List.foldl_cons, List.foldl_nil, methV, setV, isL, permL_cons, permL_nil, List.map_cons, List.map_nil, valP_cons, valP_nil, key_str, key_int, ofString_eq, String.reduceEq, putP, sizeLine_eq, Nat.reduceLT, Nat.reduceLeDiff, sto_self, mulOk, powOk, divOk, Int.reducePow, Nat.reducePow, Int.reduceNeg, Int.reduceLT, Int.reduceLE, natAbs64, natAbs30, Int.reduceToNat, Int.reduceEq, Int.reduceAdd, Int.reduceSub, Int.reduceMul, ne_eq, not_false_eq_true, Int.reduceNe, Ev.alloc, Ev.eq_ii, Ev.eq_ss, Ev.eq_bb, Ev.eq_nn, Ev.eq_ni, Ev.eq_in, Ev.eq_ns, Ev.eq_sn, Ev.eq_nb, Ev.eq_bn, Ev.eq_is, Ev.eq_si, and_self, true_and, and_true, fmod_lt64, fmod_gt64, atI_0, atI_1, atI_2, atI_3, atI_4, atI_5, atI_6, atI_7, atI_8, atI_9, itemsV, smV, fmtV, lenSetV, seqOf, lstOf, slcV, revV, srcOf, optI, List.nil_append, List.cons_append, sto_new, intsP, sortI, insI, compL, compG, wipeP, boolsP, List.all_cons, List.all_nil, id_eq, keep_nil, maxI, minI, intsP, cutf_1, cutf_2, cutf_3, cutf_4, cutt_1, cutt_2, cutt_3, cutt_4, List.drop_succ_cons, List.drop_zero, List.take_succ_cons, List.take_zero, Int.cast_ofNat_Int, false_and, and_false, or_self, or_false, false_or, true_or, or_true, lit_e, tS_len, tS_cat, tS_eq, tS_lt, List.toList_toArray, g_MOST_WORD, g_LETTERS, g_MOST_POOL, g_MOST_WEIGHT, g_BEGIN, g_FACTOR, g_MODULUS, GC.pv, List.length_singleton, ro, repS_tS, i10, rt10, in_tsv g2, hbd])
          have : rt = [] := by cases rt with
            | nil => rfl
            | cons _ _ => cases o2
          subst this
          rw [List.append_nil] at o1
          subst o1 hM o3
          rw [hr]
          have g3 : (M3 ++ [MO.lst (tsv ((c :: r).map ten))])[M.length]? = some (.lst (tsv ws)) := sto_app g2
          simp only [List.map_cons] at g3
          simp only [↓evE.eq_1, ↓evE.eq_2, ↓evE.eq_3, ↓evE.eq_4, ↓evE.eq_5, ↓evE.eq_6, ↓evE.eq_7, ↓evE.eq_8, ↓evE.eq_9, ↓evE.eq_10, ↓evE.eq_11, ↓evE.eq_12, ↓evE.eq_13, ↓evE.eq_14, ↓evE.eq_15, ↓evE.eq_16, ↓evE.eq_17, ↓evE.eq_18, ↓evE.eq_19, ↓evE.eq_20, ↓evE.eq_21, ↓evE.eq_22, ↓evE.eq_23, ↓evE.eq_24, ↓evE.eq_25, ↓evE.eq_26, ↓evE.eq_27, ↓evE.eq_28, ↓evE.eq_29, ↓evE.eq_30, ↓evE.eq_31, ↓evE.eq_32, ↓evE.eq_33, ↓evE.eq_34, ↓evE.eq_35, ↓evE.eq_36, ↓evE.eq_37, ↓evE.eq_38, ↓evS.eq_1, ↓evS_seq, ↓evS.eq_3, ↓evS.eq_4, ↓evS.eq_5, ↓evS.eq_6, ↓evS.eq_7, ↓evS.eq_8, ↓evS_ite, ↓iteS, ↓evS.eq_11, ↓evS.eq_12, ↓evS.eq_13, ↓evS.eq_14, ↓evS.eq_15, ↓evS.eq_16, ↓evS.eq_17, ↓evS_for, ↓evA.eq_1, ↓evA.eq_2, ↓evT.eq_1, ↓evT.eq_2, ↓evO.eq_1, ↓evO.eq_2, ↓evI.eq_1, ↓evI.eq_2, ↓evI.eq_3, ↓evI.eq_4, ↓evI.eq_5, ↓evF.eq_1, ↓evF.eq_2, ↓m_bind, ↓m_then, ↓m_opt, SRes.bind_nx, SRes.bind_rt, SRes.bind_bk, SRes.bind_ct, SRes.bind_ex, SRes.bind_bad, at_call, at_glo, at_fuel, SRes.back, List.getElem?_cons_zero, List.getElem?_cons_succ, List.set_cons_zero, List.set_cons_succ, asgT, asgTs, cmpV, truV, binV, bltV, tyN, tyLe, subV, Option.map_some, Option.map_none, List.any_cons, List.any_nil, if_true, if_false, ite_true, ite_false, String.reduceBEq, Nat.reduceAdd, Bool.or_false, Bool.false_or, Bool.or_true, Bool.true_or, Bool.and_true, Bool.true_and, Bool.and_false, Bool.false_and, Bool.not_true, Bool.not_false, beq_self_eq_true, decide_true, decide_false, reduceCtorEq, Bool.false_eq_true, Ev.keyOf, dctKeys, List.length_cons, List.length_nil, List.zip_cons_cons, List.zip_nil_left, List.zip_nil_right, List.foldl_cons, List.foldl_nil, methV, setV, isL, permL_cons, permL_nil, List.map_cons, List.map_nil, valP_cons, valP_nil, key_str, key_int, ofString_eq, String.reduceEq, putP, sizeLine_eq, Nat.reduceLT, Nat.reduceLeDiff, sto_self, mulOk, powOk, divOk, Int.reducePow, Nat.reducePow, Int.reduceNeg, Int.reduceLT, Int.reduceLE, natAbs64, natAbs30, Int.reduceToNat, Int.reduceEq, Int.reduceAdd, Int.reduceSub, Int.reduceMul, ne_eq, not_false_eq_true, Int.reduceNe, Ev.alloc, Ev.eq_ii, Ev.eq_ss, Ev.eq_bb, Ev.eq_nn, Ev.eq_ni, Ev.eq_in, Ev.eq_ns, Ev.eq_sn, Ev.eq_nb, Ev.eq_bn, Ev.eq_is, Ev.eq_si, and_self, true_and, and_true, fmod_lt64, fmod_gt64, atI_0, atI_1, atI_2, atI_3, atI_4, atI_5, atI_6, atI_7, atI_8, atI_9, itemsV, smV, fmtV, lenSetV, seqOf, lstOf, slcV, revV, srcOf, optI, List.nil_append, List.cons_append, sto_new, intsP, sortI, insI, compL, compG, wipeP, boolsP, List.all_cons, List.all_nil, id_eq, keep_nil, maxI, minI, intsP, cutf_1, cutf_2, cutf_3, cutf_4, cutt_1, cutt_2, cutt_3, cutt_4, List.drop_succ_cons, List.drop_zero, List.take_succ_cons, List.take_zero, Int.cast_ofNat_Int, false_and, and_false, or_self, or_false, false_or, true_or, or_true, lit_e, tS_len, tS_cat, tS_eq, tS_lt, List.toList_toArray, g_MOST_WORD, g_LETTERS, g_MOST_POOL, g_MOST_WEIGHT, g_BEGIN, g_FACTOR, g_MODULUS, GC.pv, g3, List.getElem?_cons_zero, l7, List.map_append]
        · intro y hy
          rcases List.mem_append.mp hy with hy | hy
          · exact f2 y hy
          · rw [List.mem_singleton.mp hy]; exact ten_word c1
        · rw [List.nodup_append]
          exact ⟨f3, by simp, fun a ha b hb e => c2 (by rw [List.mem_singleton.mp hb] at e; rw [← e]; exact ha)⟩
        · exact (d2.app _).set' (by omega) (by omega)
        · exact keep_set ((k'.trans k2).trans Keep.app) (Nat.le_refl _)
      · have hmd : decide (w ∈ ws) = false := decide_eq_false hm
        refine ⟨[some (.ref i), some (.int m), some (.ref M.length), some x, some (tv w), x5], M2.set M.length (.lst (tsv (ws ++ [w]))), .inl ?_, ws ++ [w], _, _, _, by simp; omega, ?_, ?_, sto_set g2, d2.set' (by omega) (by omega), keep_set (k'.trans k2) (Nat.le_refl _), rfl⟩
        · unfold forB
          simp only [↓evE.eq_1, ↓evE.eq_2, ↓evE.eq_3, ↓evE.eq_4, ↓evE.eq_5, ↓evE.eq_6, ↓evE.eq_7, ↓evE.eq_8, ↓evE.eq_9, ↓evE.eq_10, ↓evE.eq_11, ↓evE.eq_12, ↓evE.eq_13, ↓evE.eq_14, ↓evE.eq_15, ↓evE.eq_16, ↓evE.eq_17, ↓evE.eq_18, ↓evE.eq_19, ↓evE.eq_20, ↓evE.eq_21, ↓evE.eq_22, ↓evE.eq_23, ↓evE.eq_24, ↓evE.eq_25, ↓evE.eq_26, ↓evE.eq_27, ↓evE.eq_28, ↓evE.eq_29, ↓evE.eq_30, ↓evE.eq_31, ↓evE.eq_32, ↓evE.eq_33, ↓evE.eq_34, ↓evE.eq_35, ↓evE.eq_36, ↓evE.eq_37, ↓evE.eq_38, ↓evS.eq_1, ↓evS_seq, ↓evS.eq_3, ↓evS.eq_4, ↓evS.eq_5, ↓evS.eq_6, ↓evS.eq_7, ↓evS.eq_8, ↓evS_ite, ↓iteS, ↓evS.eq_11, ↓evS.eq_12, ↓evS.eq_13, ↓evS.eq_14, ↓evS.eq_15, ↓evS.eq_16, ↓evS.eq_17, ↓evS_for, ↓evA.eq_1, ↓evA.eq_2, ↓evT.eq_1, ↓evT.eq_2, ↓evO.eq_1, ↓evO.eq_2, ↓evI.eq_1, ↓evI.eq_2, ↓evI.eq_3, ↓evI.eq_4, ↓evI.eq_5, ↓evF.eq_1, ↓evF.eq_2, ↓m_bind, ↓m_then, ↓m_opt, SRes.bind_nx, SRes.bind_rt, SRes.bind_bk, SRes.bind_ct, SRes.bind_ex, SRes.bind_bad, at_call, at_glo, at_fuel, SRes.back, List.getElem?_cons_zero, List.getElem?_cons_succ, List.set_cons_zero, List.set_cons_succ, asgT, asgTs, cmpV, truV, binV, bltV, tyN, tyLe, subV, Option.map_some, Option.map_none, List.any_cons, List.any_nil, if_true, if_false, ite_true, ite_false, String.reduceBEq, Nat.reduceAdd, Bool.or_false, Bool.false_or, Bool.or_true, Bool.true_or, Bool.and_true, Bool.true_and, Bool.and_false, Bool.false_and, Bool.not_true, Bool.not_false, beq_self_eq_true, decide_true, decide_false, reduceCtorEq, Bool.false_eq_true, Ev.keyOf, dctKeys, List.length_cons, List.length_nil, List.zip_cons_cons, List.zip_nil_left, List.zip_nil_right, List.foldl_cons, List.foldl_nil, methV, setV, isL, permL_cons, permL_nil, List.map_cons, List.map_nil, valP_cons, valP_nil, key_str, key_int, ofString_eq, String.reduceEq, putP, sizeLine_eq, Nat.reduceLT, Nat.reduceLeDiff, sto_self, mulOk, powOk, divOk, Int.reducePow, Nat.reducePow, Int.reduceNeg, Int.reduceLT, Int.reduceLE, natAbs64, natAbs30, Int.reduceToNat, Int.reduceEq, Int.reduceAdd, Int.reduceSub, Int.reduceMul, ne_eq, not_false_eq_true, Int.reduceNe, Ev.alloc, Ev.eq_ii, Ev.eq_ss, Ev.eq_bb, Ev.eq_nn, Ev.eq_ni, Ev.eq_in, Ev.eq_ns, Ev.eq_sn, Ev.eq_nb, Ev.eq_bn, Ev.eq_is, Ev.eq_si, and_self, true_and, and_true, fmod_lt64, fmod_gt64, atI_0, atI_1, atI_2, atI_3, atI_4, atI_5, atI_6, atI_7, atI_8, atI_9, itemsV, smV, fmtV, lenSetV, seqOf, lstOf, slcV, revV, srcOf, optI, List.nil_append, List.cons_append, sto_new, intsP, sortI, insI, compL, compG, wipeP, boolsP, List.all_cons, List.all_nil, id_eq, keep_nil, maxI, minI, intsP, cutf_1, cutf_2, cutf_3, cutf_4, cutt_1, cutt_2, cutt_3, cutt_4, List.drop_succ_cons, List.drop_zero, List.take_succ_cons, List.take_zero, Int.cast_ofNat_Int, false_and, and_false, or_self, or_false, false_or, true_or, or_true, lit_e, tS_len, tS_cat, tS_eq, tS_lt, List.toList_toArray, g_MOST_WORD, g_LETTERS, g_MOST_POOL, g_MOST_WEIGHT, g_BEGIN, g_FACTOR, g_MODULUS, GC.pv, e2, in_tsv g2, hmd, g2, l7, List.map_append]
        · intro y hy
          rcases List.mem_append.mp hy with hy | hy
          · exact f2 y hy
          · rw [List.mem_singleton.mp hy]; exact hw
        · rw [List.nodup_append]
          exact ⟨f3, by simp, fun a ha b hb e => hm (by rw [List.mem_singleton.mp hb] at e; rw [← e]; exact ha)⟩)
  simp only [↓evE.eq_1, ↓evE.eq_2, ↓evE.eq_3, ↓evE.eq_4, ↓evE.eq_5, ↓evE.eq_6, ↓evE.eq_7, ↓evE.eq_8, ↓evE.eq_9, ↓evE.eq_10, ↓evE.eq_11, ↓evE.eq_12, ↓evE.eq_13, ↓evE.eq_14, ↓evE.eq_15, ↓evE.eq_16, ↓evE.eq_17, ↓evE.eq_18, ↓evE.eq_19, ↓evE.eq_20, ↓evE.eq_21, ↓evE.eq_22, ↓evE.eq_23, ↓evE.eq_24, ↓evE.eq_25, ↓evE.eq_26, ↓evE.eq_27, ↓evE.eq_28, ↓evE.eq_29, ↓evE.eq_30, ↓evE.eq_31, ↓evE.eq_32, ↓evE.eq_33, ↓evE.eq_34, ↓evE.eq_35, ↓evE.eq_36, ↓evE.eq_37, ↓evE.eq_38, ↓evS.eq_1, ↓evS_seq, ↓evS.eq_3, ↓evS.eq_4, ↓evS.eq_5, ↓evS.eq_6, ↓evS.eq_7, ↓evS.eq_8, ↓evS_ite, ↓iteS, ↓evS.eq_11, ↓evS.eq_12, ↓evS.eq_13, ↓evS.eq_14, ↓evS.eq_15, ↓evS.eq_16, ↓evS.eq_17, ↓evS_for, ↓evA.eq_1, ↓evA.eq_2, ↓evT.eq_1, ↓evT.eq_2, ↓evO.eq_1, ↓evO.eq_2, ↓evI.eq_1, ↓evI.eq_2, ↓evI.eq_3, ↓evI.eq_4, ↓evI.eq_5, ↓evF.eq_1, ↓evF.eq_2, ↓m_bind, ↓m_then, ↓m_opt, SRes.bind_nx, SRes.bind_rt, SRes.bind_bk, SRes.bind_ct, SRes.bind_ex, SRes.bind_bad, at_call, at_glo, at_fuel, SRes.back, List.getElem?_cons_zero, List.getElem?_cons_succ, List.set_cons_zero, List.set_cons_succ, asgT, asgTs, cmpV, truV, binV, bltV, tyN, tyLe, subV, Option.map_some, Option.map_none, List.any_cons, List.any_nil, if_true, if_false, ite_true, ite_false, String.reduceBEq, Nat.reduceAdd, Bool.or_false, Bool.false_or, Bool.or_true, Bool.true_or, Bool.and_true, Bool.true_and, Bool.and_false, Bool.false_and, Bool.not_true, Bool.not_false, beq_self_eq_true, decide_true, decide_false, reduceCtorEq, Bool.false_eq_true, Ev.keyOf, dctKeys, List.length_cons, List.length_nil, List.zip_cons_cons, List.zip_nil_left, List.zip_nil_right, List.foldl_cons, List.foldl_nil, methV, setV, isL, permL_cons, permL_nil, List.map_cons, List.map_nil, valP_cons, valP_nil, key_str, key_int, ofString_eq, String.reduceEq, putP, sizeLine_eq, Nat.reduceLT, Nat.reduceLeDiff, sto_self, mulOk, powOk, divOk, Int.reducePow, Nat.reducePow, Int.reduceNeg, Int.reduceLT, Int.reduceLE, natAbs64, natAbs30, Int.reduceToNat, Int.reduceEq, Int.reduceAdd, Int.reduceSub, Int.reduceMul, ne_eq, not_false_eq_true, Int.reduceNe, Ev.alloc, Ev.eq_ii, Ev.eq_ss, Ev.eq_bb, Ev.eq_nn, Ev.eq_ni, Ev.eq_in, Ev.eq_ns, Ev.eq_sn, Ev.eq_nb, Ev.eq_bn, Ev.eq_is, Ev.eq_si, and_self, true_and, and_true, fmod_lt64, fmod_gt64, atI_0, atI_1, atI_2, atI_3, atI_4, atI_5, atI_6, atI_7, atI_8, atI_9, itemsV, smV, fmtV, lenSetV, seqOf, lstOf, slcV, revV, srcOf, optI, List.nil_append, List.cons_append, sto_new, intsP, sortI, insI, compL, compG, wipeP, boolsP, List.all_cons, List.all_nil, id_eq, keep_nil, maxI, minI, intsP, cutf_1, cutf_2, cutf_3, cutf_4, cutt_1, cutt_2, cutt_3, cutt_4, List.drop_succ_cons, List.drop_zero, List.take_succ_cons, List.take_zero, Int.cast_ofNat_Int, false_and, and_false, or_self, or_false, false_or, true_or, or_true, lit_e, tS_len, tS_cat, tS_eq, tS_lt, List.toList_toArray, g_MOST_WORD, g_LETTERS, g_MOST_POOL, g_MOST_WEIGHT, g_BEGIN, g_FACTOR, g_MODULUS, GC.pv]
  exact ⟨_, ws, _, rfl, f4, by simpa using f1, f2, f3, Nat.le_refl _, d', k'⟩
end K20

set_option Elab.async false
set_option linter.all false
set_option maxRecDepth 100000
set_option maxHeartbeats 4000000
/-! K20u: drawn pools, lots, busy numbers. -/
namespace K20
open PySem L2 Ev
theorem letter_at {x : Int} (h0 : 0 ≤ x) (h1 : x < 26) : ∃ c, low c ∧ (c : Int) = 97 + x ∧ atI abc x = some c := by
  obtain ⟨n, rfl⟩ : ∃ n : Nat, x = n := ⟨x.toNat, by omega⟩
  refine ⟨97 + n, ⟨by omega, by omega⟩, by omega, ?_⟩
  rw [atI_lit, abc_eq, List.getElem?_map, List.getElem?_range (by omega)]
  rfl
theorem word_three {u v : List Nat} {x y z x' y' z' : Nat} (h : word (u ++ (x :: y :: z :: v))) (hx : low x') (hy : low y') (hz : low z') : word (u ++ [x', y', z'] ++ v) := by
  obtain ⟨h1, h2, h3⟩ := h
  refine ⟨by simp at h1 ⊢; omega, by simp at h2 ⊢; omega, fun c hc => ?_⟩
  simp only [List.mem_append, List.mem_cons, List.not_mem_nil, or_false] at hc
  rcases hc with (hc | rfl | rfl | rfl) | hc
  · exact h3 c (List.mem_append_left _ hc)
  · exact hx
  · exact hy
  · exact hz
  · exact h3 c (by simp [hc])
theorem three_of (w : List Nat) {a : Nat} (h : a + 3 ≤ w.length) : ∃ u x y z v, w = u ++ (x :: y :: z :: v) ∧ u.length = a := by
  refine ⟨w.take a, w[a], w[a + 1], w[a + 2], w.drop (a + 3), ?_, by simp; omega⟩
  have e1 := List.take_append_drop a w
  have e2 : w.drop a = w[a] :: w[a + 1] :: w[a + 2] :: w.drop (a + 3) := by
    rw [List.drop_eq_getElem_cons (by omega), List.drop_eq_getElem_cons (i := a + 1) (by omega), List.drop_eq_getElem_cons (i := a + 2) (by omega)]
  rw [← e2, e1]
theorem twin_ok (n : Nat) {i j : Nat} {M : Sto} (h : Dk i j M) {w : List Nat} (hw : word w) (hl : 2 < w.length) : ∃ p q M', callN T (n + 3) "_law_twin_label" [.ref i, tv w] M = .ok (.tup [tv p, tv q]) M' ∧ word p ∧ word q ∧ p ≠ q ∧ Dk i j M' ∧ Keep [i, j] M M' := by
  have w10 := hw.2.1
  have l1 : (w.length ≤ 16777216) = True := eq_true (by omega)
  rw [e__law_twin_label]
  unfold c__law_twin_label
  obtain ⟨at', M1, e1, a1, a2, d1, k1⟩ := draw_ok (n + 1) h (many := (w.length : Int) - 2) (by omega) (by omega)
  obtain ⟨a, rfl⟩ : ∃ a : Nat, at' = a := ⟨at'.toNat, by omega⟩
  obtain ⟨u, x, y, z, v, rfl, hu⟩ := three_of w (a := a) (by omega)
  subst hu
  have hx : low x := hw.2.2 x (by simp)
  have hy : low y := hw.2.2 y (by simp)
  have hz : low z := hw.2.2 z (by simp)
  have a3 : ((u.length : Nat) : Int) + 3 = ((u.length + 3 : Nat) : Int) := by omega
  have c1 : cutS (tS (u ++ (x :: y :: z :: v))) (some ((u.length : Nat) : Int)) (some ((u.length + 3 : Nat) : Int)) = tS [x, y, z] := by
    rw [cut_mid_S _ (by simp) (by omega)]
    congr 1
    rw [List.take_append, List.take_of_length_le (by omega)]
    rw [show u.length + 3 - u.length = 3 by omega]
    simp
  have c2 : cutS (tS (u ++ (x :: y :: z :: v))) none (some ((u.length : Nat) : Int)) = tS u := by
    rw [cut_to_S]; simp
  have c3 : cutS (tS (u ++ (x :: y :: z :: v))) (some ((u.length + 3 : Nat) : Int)) none = tS v := by
    rw [cut_from_S]
    congr 1
    rw [List.drop_append, List.drop_of_length_le (by omega)]
    rw [show u.length + 3 - u.length = 3 by omega]
    simp
  have ul : u.length + v.length + 3 ≤ 10 := by simp at w10; omega
  have o : ∀ c : Nat, (({ cps := #[c] } : Str).cps.getD 0 0) = c := fun _ => rfl
  have o1 : ∀ c : Nat, (({ cps := #[c] } : Str).length = 1) = True := fun _ => eq_true rfl
  have lad : Str.ofString "adf" = tS [97, 100, 102] := by decide +kernel
  have abl : (abc.length ≤ 16777216) = True := eq_true (by rw [abc_len]; decide)
  have m0 : (3 : Nat) ≤ 16777216 := by decide
  have s1 : (u.length + 3 ≤ 16777216) = True := eq_true (by omega)
  have s2 : ((u ++ [97, 100, 102]).length + v.length ≤ 16777216) = True := eq_true (by simp; omega)
  have s3 : ∀ p q r : Nat, ((u ++ [p, q, r]).length + v.length ≤ 16777216) = True := fun p q r => eq_true (by simp; omega)
  have lz : [97, 100, 102].length = 3 := rfl
  by_cases hc : 24 < (x : Int) - 97 ∨ 15 < (y : Int) - 97 ∨ 15 < (z : Int) - 97
  · have nw : word (u ++ [97, 100, 102] ++ v) := word_three hw ⟨by omega, by omega⟩ ⟨by omega, by omega⟩ ⟨by omega, by omega⟩
    have nw2 : word (u ++ [98, 110, 112] ++ v) := word_three hw ⟨by omega, by omega⟩ ⟨by omega, by omega⟩ ⟨by omega, by omega⟩
    have wl : ((u ++ [97, 100, 102] ++ v).length ≤ 16777216) = True := eq_true (by simp; omega)
    have d2 : cutS (tS (u ++ [97, 100, 102] ++ v)) none (some ((u.length : Nat) : Int)) = tS u := by
      rw [cut_to_S, List.append_assoc]; simp
    have d3 : cutS (tS (u ++ [97, 100, 102] ++ v)) (some ((u.length + 3 : Nat) : Int)) none = tS v := by
      rw [cut_from_S, List.append_assoc]
      congr 1
      rw [List.drop_append, List.drop_of_length_le (by omega)]
      rw [show u.length + 3 - u.length = 3 by omega]
      simp
    have t1 : atI abc 1 = some 98 := by decide +kernel
    have t2 : atI abc 13 = some 110 := by decide +kernel
    have t3 : atI abc 15 = some 112 := by decide +kernel
    have fin : ∃ p q M', (Res.ok (PV.tup [tv (u ++ [97, 100, 102] ++ v), tv (u ++ [98, 110, 112] ++ v)]) (M1 ++ [MO.lst [.int ((x : Int) - 97), .int ((y : Int) - 97), .int ((z : Int) - 97)]] ++ [MO.lst [.int 0, .int 3, .int 5]])) = Res.ok (.tup [tv p, tv q]) M' ∧ word p ∧ word q ∧ p ≠ q ∧ Dk i j M' ∧ Keep [i, j] M M' :=
      ⟨_, _, _, rfl, nw, nw2, fun e => by
        have e := congrArg (fun l => l[u.length]?) e
        simp at e, (d1.app _).app _, k1.trans (Keep.app.trans Keep.app)⟩
    by_cases h1 : 24 < (x : Int) - 97
    · simp only [↓evE.eq_1, ↓evE.eq_2, ↓evE.eq_3, ↓evE.eq_4, ↓evE.eq_5, ↓evE.eq_6, ↓evE.eq_7, ↓evE.eq_8, ↓evE.eq_9, ↓evE.eq_10, ↓evE.eq_11, ↓evE.eq_12, ↓evE.eq_13, ↓evE.eq_14, ↓evE.eq_15, ↓evE.eq_16, ↓evE.eq_17, ↓evE.eq_18, ↓evE.eq_19, ↓evE.eq_20, ↓evE.eq_21, ↓evE.eq_22, ↓evE.eq_23, ↓evE.eq_24, ↓evE.eq_25, ↓evE.eq_26, ↓evE.eq_27, ↓evE.eq_28, ↓evE.eq_29, ↓evE.eq_30, ↓evE.eq_31, ↓evE.eq_32, ↓evE.eq_33, ↓evE.eq_34, ↓evE.eq_35, ↓evE.eq_36, ↓evE.eq_37, ↓evE.eq_38, ↓evS.eq_1, ↓evS_seq, ↓evS.eq_3, ↓evS.eq_4, ↓evS.eq_5, ↓evS.eq_6, ↓evS.eq_7, ↓evS.eq_8, ↓evS_ite, ↓iteS, ↓evS.eq_11, ↓evS.eq_12, ↓evS.eq_13, ↓evS.eq_14, ↓evS.eq_15, ↓evS.eq_16, ↓evS.eq_17, ↓evS_for, ↓evA.eq_1, ↓evA.eq_2, ↓evT.eq_1, ↓evT.eq_2, ↓evO.eq_1, ↓evO.eq_2, ↓evI.eq_1, ↓evI.eq_2, ↓evI.eq_3, ↓evI.eq_4, ↓evI.eq_5, ↓evF.eq_1, ↓evF.eq_2, ↓m_bind, ↓m_then, ↓m_opt, SRes.bind_nx, SRes.bind_rt, SRes.bind_bk, SRes.bind_ct, SRes.bind_ex, SRes.bind_bad, at_call, at_glo, at_fuel, SRes.back, List.getElem?_cons_zero, List.getElem?_cons_succ, List.set_cons_zero, List.set_cons_succ, asgT, asgTs, cmpV, truV, binV, bltV, tyN, tyLe, subV, Option.map_some, Option.map_none, List.any_cons, List.any_nil, if_true, if_false, ite_true, ite_false, String.reduceBEq, Nat.reduceAdd, Bool.or_false, Bool.false_or, Bool.or_true, Bool.true_or, Bool.and_true, Bool.true_and, Bool.and_false, Bool.false_and, Bool.not_true, Bool.not_false, beq_self_eq_true, decide_true, decide_false, reduceCtorEq, Bool.false_eq_true, Ev.keyOf, dctKeys, List.length_cons, List.length_nil, List.zip_cons_cons, List.zip_nil_left, List.zip_nil_right, List.foldl_cons, List.foldl_nil, methV, setV, isL, permL_cons, permL_nil, List.map_cons, List.map_nil, valP_cons, valP_nil, key_str, key_int, ofString_eq, String.reduceEq, putP, sizeLine_eq, Nat.reduceLT, Nat.reduceLeDiff, sto_self, mulOk, powOk, divOk, Int.reducePow, Nat.reducePow, Int.reduceNeg, Int.reduceLT, Int.reduceLE, natAbs64, natAbs30, Int.reduceToNat, Int.reduceEq, Int.reduceAdd, Int.reduceSub, Int.reduceMul, ne_eq, not_false_eq_true, Int.reduceNe, Ev.alloc, Ev.eq_ii, Ev.eq_ss, Ev.eq_bb, Ev.eq_nn, Ev.eq_ni, Ev.eq_in, Ev.eq_ns, Ev.eq_sn, Ev.eq_nb, Ev.eq_bn, Ev.eq_is, Ev.eq_si, and_self, true_and, and_true, fmod_lt64, fmod_gt64, atI_0, atI_1, atI_2, atI_3, atI_4, atI_5, atI_6, atI_7, atI_8, atI_9, itemsV, smV, fmtV, lenSetV, seqOf, lstOf, slcV, revV, srcOf, optI, List.nil_append, List.cons_append, sto_new, intsP, sortI, insI, compL, compG, wipeP, boolsP, List.all_cons, List.all_nil, id_eq, keep_nil, maxI, minI, intsP, cutf_1, cutf_2, cutf_3, cutf_4, cutt_1, cutt_2, cutt_3, cutt_4, List.drop_succ_cons, List.drop_zero, List.take_succ_cons, List.take_zero, Int.cast_ofNat_Int, false_and, and_false, or_self, or_false, false_or, true_or, or_true, lit_e, tS_len, tS_cat, tS_eq, tS_lt, List.toList_toArray, g_MOST_WORD, g_LETTERS, g_MOST_POOL, g_MOST_WEIGHT, g_BEGIN, g_FACTOR, g_MODULUS, GC.pv, l1, e1, a3, c1, o, o1, h1, lad, c2, c3, List.length_cons, s1, s2, lit_abc, abl, t1, t2, t3, wl, d2, d3, s3, m0]
      exact fin
    · by_cases h2 : 15 < (y : Int) - 97
      · simp only [↓evE.eq_1, ↓evE.eq_2, ↓evE.eq_3, ↓evE.eq_4, ↓evE.eq_5, ↓evE.eq_6, ↓evE.eq_7, ↓evE.eq_8, ↓evE.eq_9, ↓evE.eq_10, ↓evE.eq_11, ↓evE.eq_12, ↓evE.eq_13, ↓evE.eq_14, ↓evE.eq_15, ↓evE.eq_16, ↓evE.eq_17, ↓evE.eq_18, ↓evE.eq_19, ↓evE.eq_20, ↓evE.eq_21, ↓evE.eq_22, ↓evE.eq_23, ↓evE.eq_24, ↓evE.eq_25, ↓evE.eq_26, ↓evE.eq_27, ↓evE.eq_28, ↓evE.eq_29, ↓evE.eq_30, ↓evE.eq_31, ↓evE.eq_32, ↓evE.eq_33, ↓evE.eq_34, ↓evE.eq_35, ↓evE.eq_36, ↓evE.eq_37, ↓evE.eq_38, ↓evS.eq_1, ↓evS_seq, ↓evS.eq_3, ↓evS.eq_4, ↓evS.eq_5, ↓evS.eq_6, ↓evS.eq_7, ↓evS.eq_8, ↓evS_ite, ↓iteS, ↓evS.eq_11, ↓evS.eq_12, ↓evS.eq_13, ↓evS.eq_14, ↓evS.eq_15, ↓evS.eq_16, ↓evS.eq_17, ↓evS_for, ↓evA.eq_1, ↓evA.eq_2, ↓evT.eq_1, ↓evT.eq_2, ↓evO.eq_1, ↓evO.eq_2, ↓evI.eq_1, ↓evI.eq_2, ↓evI.eq_3, ↓evI.eq_4, ↓evI.eq_5, ↓evF.eq_1, ↓evF.eq_2, ↓m_bind, ↓m_then, ↓m_opt, SRes.bind_nx, SRes.bind_rt, SRes.bind_bk, SRes.bind_ct, SRes.bind_ex, SRes.bind_bad, at_call, at_glo, at_fuel, SRes.back, List.getElem?_cons_zero, List.getElem?_cons_succ, List.set_cons_zero, List.set_cons_succ, asgT, asgTs, cmpV, truV, binV, bltV, tyN, tyLe, subV, Option.map_some, Option.map_none, List.any_cons, List.any_nil, if_true, if_false, ite_true, ite_false, String.reduceBEq, Nat.reduceAdd, Bool.or_false, Bool.false_or, Bool.or_true, Bool.true_or, Bool.and_true, Bool.true_and, Bool.and_false, Bool.false_and, Bool.not_true, Bool.not_false, beq_self_eq_true, decide_true, decide_false, reduceCtorEq, Bool.false_eq_true, Ev.keyOf, dctKeys, List.length_cons, List.length_nil, List.zip_cons_cons, List.zip_nil_left, List.zip_nil_right, List.foldl_cons, List.foldl_nil, methV, setV, isL, permL_cons, permL_nil, List.map_cons, List.map_nil, valP_cons, valP_nil, key_str, key_int, ofString_eq, String.reduceEq, putP, sizeLine_eq, Nat.reduceLT, Nat.reduceLeDiff, sto_self, mulOk, powOk, divOk, Int.reducePow, Nat.reducePow, Int.reduceNeg, Int.reduceLT, Int.reduceLE, natAbs64, natAbs30, Int.reduceToNat, Int.reduceEq, Int.reduceAdd, Int.reduceSub, Int.reduceMul, ne_eq, not_false_eq_true, Int.reduceNe, Ev.alloc, Ev.eq_ii, Ev.eq_ss, Ev.eq_bb, Ev.eq_nn, Ev.eq_ni, Ev.eq_in, Ev.eq_ns, Ev.eq_sn, Ev.eq_nb, Ev.eq_bn, Ev.eq_is, Ev.eq_si, and_self, true_and, and_true, fmod_lt64, fmod_gt64, atI_0, atI_1, atI_2, atI_3, atI_4, atI_5, atI_6, atI_7, atI_8, atI_9, itemsV, smV, fmtV, lenSetV, seqOf, lstOf, slcV, revV, srcOf, optI, List.nil_append, List.cons_append, sto_new, intsP, sortI, insI, compL, compG, wipeP, boolsP, List.all_cons, List.all_nil, id_eq, keep_nil, maxI, minI, intsP, cutf_1, cutf_2, cutf_3, cutf_4, cutt_1, cutt_2, cutt_3, cutt_4, List.drop_succ_cons, List.drop_zero, List.take_succ_cons, List.take_zero, Int.cast_ofNat_Int, false_and, and_false, or_self, or_false, false_or, true_or, or_true, lit_e, tS_len, tS_cat, tS_eq, tS_lt, List.toList_toArray, g_MOST_WORD, g_LETTERS, g_MOST_POOL, g_MOST_WEIGHT, g_BEGIN, g_FACTOR, g_MODULUS, GC.pv, l1, e1, a3, c1, o, o1, h1, h2, lad, c2, c3, List.length_cons, s1, s2, lit_abc, abl, t1, t2, t3, wl, d2, d3, s3, m0]
        exact fin
      · have h3 : 15 < (z : Int) - 97 := by omega
        simp only [↓evE.eq_1, ↓evE.eq_2, ↓evE.eq_3, ↓evE.eq_4, ↓evE.eq_5, ↓evE.eq_6, ↓evE.eq_7, ↓evE.eq_8, ↓evE.eq_9, ↓evE.eq_10, ↓evE.eq_11, ↓evE.eq_12, ↓evE.eq_13, ↓evE.eq_14, ↓evE.eq_15, ↓evE.eq_16, ↓evE.eq_17, ↓evE.eq_18, ↓evE.eq_19, ↓evE.eq_20, ↓evE.eq_21, ↓evE.eq_22, ↓evE.eq_23, ↓evE.eq_24, ↓evE.eq_25, ↓evE.eq_26, ↓evE.eq_27, ↓evE.eq_28, ↓evE.eq_29, ↓evE.eq_30, ↓evE.eq_31, ↓evE.eq_32, ↓evE.eq_33, ↓evE.eq_34, ↓evE.eq_35, ↓evE.eq_36, ↓evE.eq_37, ↓evE.eq_38, ↓evS.eq_1, ↓evS_seq, ↓evS.eq_3, ↓evS.eq_4, ↓evS.eq_5, ↓evS.eq_6, ↓evS.eq_7, ↓evS.eq_8, ↓evS_ite, ↓iteS, ↓evS.eq_11, ↓evS.eq_12, ↓evS.eq_13, ↓evS.eq_14, ↓evS.eq_15, ↓evS.eq_16, ↓evS.eq_17, ↓evS_for, ↓evA.eq_1, ↓evA.eq_2, ↓evT.eq_1, ↓evT.eq_2, ↓evO.eq_1, ↓evO.eq_2, ↓evI.eq_1, ↓evI.eq_2, ↓evI.eq_3, ↓evI.eq_4, ↓evI.eq_5, ↓evF.eq_1, ↓evF.eq_2, ↓m_bind, ↓m_then, ↓m_opt, SRes.bind_nx, SRes.bind_rt, SRes.bind_bk, SRes.bind_ct, SRes.bind_ex, SRes.bind_bad, at_call, at_glo, at_fuel, SRes.back, List.getElem?_cons_zero, List.getElem?_cons_succ, List.set_cons_zero, List.set_cons_succ, asgT, asgTs, cmpV, truV, binV, bltV, tyN, tyLe, subV, Option.map_some, Option.map_none, List.any_cons, List.any_nil, if_true, if_false, ite_true, ite_false, String.reduceBEq, Nat.reduceAdd, Bool.or_false, Bool.false_or, Bool.or_true, Bool.true_or, Bool.and_true, Bool.true_and, Bool.and_false, Bool.false_and, Bool.not_true, Bool.not_false, beq_self_eq_true, decide_true, decide_false, reduceCtorEq, Bool.false_eq_true, Ev.keyOf, dctKeys, List.length_cons, List.length_nil, List.zip_cons_cons, List.zip_nil_left, List.zip_nil_right, List.foldl_cons, List.foldl_nil, methV, setV, isL, permL_cons, permL_nil, List.map_cons, List.map_nil, valP_cons, valP_nil, key_str, key_int, ofString_eq, String.reduceEq, putP, sizeLine_eq, Nat.reduceLT, Nat.reduceLeDiff, sto_self, mulOk, powOk, divOk, Int.reducePow, Nat.reducePow, Int.reduceNeg, Int.reduceLT, Int.reduceLE, natAbs64, natAbs30, Int.reduceToNat, Int.reduceEq, Int.reduceAdd, Int.reduceSub, Int.reduceMul, ne_eq, not_false_eq_true, Int.reduceNe, Ev.alloc, Ev.eq_ii, Ev.eq_ss, Ev.eq_bb, Ev.eq_nn, Ev.eq_ni, Ev.eq_in, Ev.eq_ns, Ev.eq_sn, Ev.eq_nb, Ev.eq_bn, Ev.eq_is, Ev.eq_si, and_self, true_and, and_true, fmod_lt64, fmod_gt64, atI_0, atI_1, atI_2, atI_3, atI_4, atI_5, atI_6, atI_7, atI_8, atI_9, itemsV, smV, fmtV, lenSetV, seqOf, lstOf, slcV, revV, srcOf, optI, List.nil_append, List.cons_append, sto_new, intsP, sortI, insI, compL, compG, wipeP, boolsP, List.all_cons, List.all_nil, id_eq, keep_nil, maxI, minI, intsP, cutf_1, cutf_2, cutf_3, cutf_4, cutt_1, cutt_2, cutt_3, cutt_4, List.drop_succ_cons, List.drop_zero, List.take_succ_cons, List.take_zero, Int.cast_ofNat_Int, false_and, and_false, or_self, or_false, false_or, true_or, or_true, lit_e, tS_len, tS_cat, tS_eq, tS_lt, List.toList_toArray, g_MOST_WORD, g_LETTERS, g_MOST_POOL, g_MOST_WEIGHT, g_BEGIN, g_FACTOR, g_MODULUS, GC.pv, l1, e1, a3, c1, o, o1, h1, h2, h3, lad, c2, c3, List.length_cons, s1, s2, lit_abc, abl, t1, t2, t3, wl, d2, d3, s3, m0]
        exact fin
  · have h1 : ¬ 24 < (x : Int) - 97 := fun z' => hc (.inl z')
    have h2 : ¬ 15 < (y : Int) - 97 := fun z' => hc (.inr (.inl z'))
    have h3 : ¬ 15 < (z : Int) - 97 := fun z' => hc (.inr (.inr z'))
    unfold low at hx hy hz
    obtain ⟨x', lx, ex, ax⟩ := letter_at (x := (x : Int) - 97 + 1) (by omega) (by omega)
    obtain ⟨y', ly, ey, ay⟩ := letter_at (x := (y : Int) - 97 + 10) (by omega) (by omega)
    obtain ⟨z', lz', ez, az⟩ := letter_at (x := (z : Int) - 97 + 10) (by omega) (by omega)
    have nw2 : word (u ++ [x', y', z'] ++ v) := word_three hw lx ly lz'
    have s4 : (1 + 1 ≤ 16777216) = True := eq_true (by omega)
    simp only [↓evE.eq_1, ↓evE.eq_2, ↓evE.eq_3, ↓evE.eq_4, ↓evE.eq_5, ↓evE.eq_6, ↓evE.eq_7, ↓evE.eq_8, ↓evE.eq_9, ↓evE.eq_10, ↓evE.eq_11, ↓evE.eq_12, ↓evE.eq_13, ↓evE.eq_14, ↓evE.eq_15, ↓evE.eq_16, ↓evE.eq_17, ↓evE.eq_18, ↓evE.eq_19, ↓evE.eq_20, ↓evE.eq_21, ↓evE.eq_22, ↓evE.eq_23, ↓evE.eq_24, ↓evE.eq_25, ↓evE.eq_26, ↓evE.eq_27, ↓evE.eq_28, ↓evE.eq_29, ↓evE.eq_30, ↓evE.eq_31, ↓evE.eq_32, ↓evE.eq_33, ↓evE.eq_34, ↓evE.eq_35, ↓evE.eq_36, ↓evE.eq_37, ↓evE.eq_38, ↓evS.eq_1, ↓evS_seq, ↓evS.eq_3, ↓evS.eq_4, ↓evS.eq_5, ↓evS.eq_6, ↓evS.eq_7, ↓evS.eq_8, ↓evS_ite, ↓iteS, ↓evS.eq_11, ↓evS.eq_12, ↓evS.eq_13, ↓evS.eq_14, ↓evS.eq_15, ↓evS.eq_16, ↓evS.eq_17, ↓evS_for, ↓evA.eq_1, ↓evA.eq_2, ↓evT.eq_1, ↓evT.eq_2, ↓evO.eq_1, ↓evO.eq_2, ↓evI.eq_1, ↓evI.eq_2, ↓evI.eq_3, ↓evI.eq_4, ↓evI.eq_5, ↓evF.eq_1, ↓evF.eq_2, ↓m_bind, ↓m_then, ↓m_opt, SRes.bind_nx, SRes.bind_rt, SRes.bind_bk, SRes.bind_ct, SRes.bind_ex, SRes.bind_bad, at_call, at_glo, at_fuel, SRes.back, List.getElem?_cons_zero, List.getElem?_cons_succ, List.set_cons_zero, List.set_cons_succ, asgT, asgTs, cmpV, truV, binV, bltV, tyN, tyLe, subV, Option.map_some, Option.map_none, List.any_cons, List.any_nil, if_true, if_false, ite_true, ite_false, String.reduceBEq, Nat.reduceAdd, Bool.or_false, Bool.false_or, Bool.or_true, Bool.true_or, Bool.and_true, Bool.true_and, Bool.and_false, Bool.false_and, Bool.not_true, Bool.not_false, beq_self_eq_true, decide_true, decide_false, reduceCtorEq, Bool.false_eq_true, Ev.keyOf, dctKeys, List.length_cons, List.length_nil, List.zip_cons_cons, List.zip_nil_left, List.zip_nil_right, List.foldl_cons, List.foldl_nil, methV, setV, isL, permL_cons, permL_nil, List.map_cons, List.map_nil, valP_cons, valP_nil, key_str, key_int, ofString_eq, String.reduceEq, putP, sizeLine_eq, Nat.reduceLT, Nat.reduceLeDiff, sto_self, mulOk, powOk, divOk, Int.reducePow, Nat.reducePow, Int.reduceNeg, Int.reduceLT, Int.reduceLE, natAbs64, natAbs30, Int.reduceToNat, Int.reduceEq, Int.reduceAdd, Int.reduceSub, Int.reduceMul, ne_eq, not_false_eq_true, Int.reduceNe, Ev.alloc, Ev.eq_ii, Ev.eq_ss, Ev.eq_bb, Ev.eq_nn, Ev.eq_ni, Ev.eq_in, Ev.eq_ns, Ev.eq_sn, Ev.eq_nb, Ev.eq_bn, Ev.eq_is, Ev.eq_si, and_self, true_and, and_true, fmod_lt64, fmod_gt64, atI_0, atI_1, atI_2, atI_3, atI_4, atI_5, atI_6, atI_7, atI_8, atI_9, itemsV, smV, fmtV, lenSetV, seqOf, lstOf, slcV, revV, srcOf, optI, List.nil_append, List.cons_append, sto_new, intsP, sortI, insI, compL, compG, wipeP, boolsP, List.all_cons, List.all_nil, id_eq, keep_nil, maxI, minI, intsP, cutf_1, cutf_2, cutf_3, cutf_4, cutt_1, cutt_2, cutt_3, cutt_4, List.drop_succ_cons, List.drop_zero, List.take_succ_cons, List.take_zero, Int.cast_ofNat_Int, false_and, and_false, or_self, or_false, false_or, true_or, or_true, lit_e, tS_len, tS_cat, tS_eq, tS_lt, List.toList_toArray, g_MOST_WORD, g_LETTERS, g_MOST_POOL, g_MOST_WEIGHT, g_BEGIN, g_FACTOR, g_MODULUS, GC.pv, l1, e1, a3, c1, o, o1, h1, h2, h3, c2, c3, List.length_cons, s1, lit_abc, abl, ax, ay, az, s3, m0, s4]
    refine ⟨_, _, _, rfl, hw, nw2, fun e => ?_, d1.app _, k1.trans Keep.app⟩
    have e := congrArg (fun l => l[u.length]?) e
    simp at e
    omega
end K20

set_option Elab.async false
set_option linter.all false
set_option maxRecDepth 100000
set_option maxHeartbeats 4000000
/-! K20v: drawn pools, lots, busy numbers. -/
namespace K20
open PySem L2 Ev
def t_pool1 : CS := Q (.ite (.cmp .Eq (.call "_law_draw" (A (V 0) (A (I 2) (E_)))) (I 0)) (Q (.asg (.nm 2) (.rev (V 2))) (N_)) (N_)) (Q (.asg (.nm 4) (.call "_law_pick" (A (V 0) (A (.lst (A (I 3) (A (I 100) (A (I 8) (E_))))) (E_))))) (Q (.ret (.blt .tuple (A (.comp (.nm 5) (.iv (V 2)) (E_) (.tup (A (V 5) (A (.bin .Add (I 1) (.call "_law_draw" (A (V 0) (A (V 4) (E_))))) (E_)))) [5]) (E_)))) (N_)))
def t_pool2 : CS := Q (.asg (.nm 4) (.call "_law_pick" (A (V 0) (A (.lst (A (I 3) (A (I 100) (A (I 8) (E_))))) (E_))))) (Q (.ret (.blt .tuple (A (.comp (.nm 5) (.iv (V 2)) (E_) (.tup (A (V 5) (A (.bin .Add (I 1) (.call "_law_draw" (A (V 0) (A (V 4) (E_))))) (E_)))) [5]) (E_)))) (N_))
structure Labs (ws : List (List Nat)) : Prop where
  pos : 1 ≤ ws.length
  le : ws.length ≤ 8
  w : ∀ w ∈ ws, word w
  nd : ws.Nodup
theorem pool2_ok (n : Nat) {i j k : Nat} {M : Sto} (h : Dk i j M) {ws : List (List Nat)} (hw : Labs ws) (hk : M[k]? = some (.lst (tsv ws))) (ki : k ≠ i) (kj : k ≠ j) (v1 v3 v4 v5 : Option PV) :
    ∃ P M', (evS (T.at (n + 2)) t_pool2 [some (.ref i), v1, some (.ref k), v3, v4, v5] M).back = .ok (pV P) M' ∧ IsPool P ∧ Dk i j M' ∧ Keep [i, j] M M' := by
  unfold t_pool2
  have hl := hw.le
  obtain ⟨x, M1, e1, hx, d1, k1⟩ := picks n h [.int 3, .int 100, .int 8] (by decide) (by decide)
  have hz : ∃ z : Int, x = .int z ∧ 1 ≤ z ∧ z ≤ 100 := by
    simp only [List.mem_cons, List.not_mem_nil, or_false] at hx
    rcases hx with rfl | rfl | rfl <;> exact ⟨_, rfl, by decide, by decide⟩
  obtain ⟨z, rfl, z1, z2⟩ := hz
  have g1 := k1.get hk (by simp [ki, kj])
  simp only [↓evE.eq_1, ↓evE.eq_2, ↓evE.eq_3, ↓evE.eq_4, ↓evE.eq_5, ↓evE.eq_6, ↓evE.eq_7, ↓evE.eq_8, ↓evE.eq_9, ↓evE.eq_10, ↓evE.eq_11, ↓evE.eq_12, ↓evE.eq_13, ↓evE.eq_14, ↓evE.eq_15, ↓evE.eq_16, ↓evE.eq_17, ↓evE.eq_18, ↓evE.eq_19, ↓evE.eq_20, ↓evE.eq_21, ↓evE.eq_22, ↓evE.eq_23, ↓evE.eq_24, ↓evE.eq_25, ↓evE.eq_26, ↓evE.eq_27, ↓evE.eq_28, ↓evE.eq_29, ↓evE.eq_30, ↓evE.eq_31, ↓evE.eq_32, ↓evE.eq_33, ↓evE.eq_34, ↓evE.eq_35, ↓evE.eq_36, ↓evE.eq_37, ↓evE.eq_38, ↓evS.eq_1, ↓evS_seq, ↓evS.eq_3, ↓evS.eq_4, ↓evS.eq_5, ↓evS.eq_6, ↓evS.eq_7, ↓evS.eq_8, ↓evS_ite, ↓iteS, ↓evS.eq_11, ↓evS.eq_12, ↓evS.eq_13, ↓evS.eq_14, ↓evS.eq_15, ↓evS.eq_16, ↓evS.eq_17, ↓evS_for, ↓evA.eq_1, ↓evA.eq_2, ↓evT.eq_1, ↓evT.eq_2, ↓evO.eq_1, ↓evO.eq_2, ↓evI.eq_1, ↓evI.eq_2, ↓evI.eq_3, ↓evI.eq_4, ↓evI.eq_5, ↓evF.eq_1, ↓evF.eq_2, ↓m_bind, ↓m_then, ↓m_opt, SRes.bind_nx, SRes.bind_rt, SRes.bind_bk, SRes.bind_ct, SRes.bind_ex, SRes.bind_bad, at_call, at_glo, at_fuel, SRes.back, List.getElem?_cons_zero, List.getElem?_cons_succ, List.set_cons_zero, List.set_cons_succ, asgT, asgTs, cmpV, truV, binV, bltV, tyN, tyLe, subV, Option.map_some, Option.map_none, List.any_cons, List.any_nil, if_true, if_false, ite_true, ite_false, String.reduceBEq, Nat.reduceAdd, Bool.or_false, Bool.false_or, Bool.or_true, Bool.true_or, Bool.and_true, Bool.true_and, Bool.and_false, Bool.false_and, Bool.not_true, Bool.not_false, beq_self_eq_true, decide_true, decide_false, reduceCtorEq, Bool.false_eq_true, Ev.keyOf, dctKeys, List.length_cons, List.length_nil, List.zip_cons_cons, List.zip_nil_left, List.zip_nil_right, List.foldl_cons, List.foldl_nil, methV, setV, isL, permL_cons, permL_nil, List.map_cons, List.map_nil, valP_cons, valP_nil, key_str, key_int, ofString_eq, String.reduceEq, putP, sizeLine_eq, Nat.reduceLT, Nat.reduceLeDiff, sto_self, mulOk, powOk, divOk, Int.reducePow, Nat.reducePow, Int.reduceNeg, Int.reduceLT, Int.reduceLE, natAbs64, natAbs30, Int.reduceToNat, Int.reduceEq, Int.reduceAdd, Int.reduceSub, Int.reduceMul, ne_eq, not_false_eq_true, Int.reduceNe, Ev.alloc, Ev.eq_ii, Ev.eq_ss, Ev.eq_bb, Ev.eq_nn, Ev.eq_ni, Ev.eq_in, Ev.eq_ns, Ev.eq_sn, Ev.eq_nb, Ev.eq_bn, Ev.eq_is, Ev.eq_si, and_self, true_and, and_true, fmod_lt64, fmod_gt64, atI_0, atI_1, atI_2, atI_3, atI_4, atI_5, atI_6, atI_7, atI_8, atI_9, itemsV, smV, fmtV, lenSetV, seqOf, lstOf, slcV, revV, srcOf, optI, List.nil_append, List.cons_append, sto_new, intsP, sortI, insI, compL, compG, wipeP, boolsP, List.all_cons, List.all_nil, id_eq, keep_nil, maxI, minI, intsP, cutf_1, cutf_2, cutf_3, cutf_4, cutt_1, cutt_2, cutt_3, cutt_4, List.drop_succ_cons, List.drop_zero, List.take_succ_cons, List.take_zero, Int.cast_ofNat_Int, false_and, and_false, or_self, or_false, false_or, true_or, or_true, lit_e, tS_len, tS_cat, tS_eq, tS_lt, List.toList_toArray, g_MOST_WORD, g_LETTERS, g_MOST_POOL, g_MOST_WEIGHT, g_BEGIN, g_FACTOR, g_MODULUS, GC.pv, e1, g1]
  generalize hq : compL _ _ _ _ _ = q
  obtain ⟨out, M2, rfl, P, rt, h1, h2, h3, h4, d2, k2⟩ := comp_gen' hq (fun xs acc M2 => ∃ P : Pool, ∃ rt, P.map (·.1) ++ rt = ws ∧ xs = tsv rt ∧ acc = P.map eV ∧ (∀ p ∈ P, 1 ≤ p.2 ∧ p.2 ≤ 100) ∧ Dk i j M2 ∧ Keep [i, j] M1 M2)
    ⟨[], ws, rfl, rfl, rfl, (fun _ z => by cases z), d1, Keep.refl _⟩ (fun xs acc M2 ⟨_, _, _, _, _, _, _, k⟩ => keep_one (k.get g1 (by simp [ki, kj])))
    (fun x xs acc M2 ⟨P, rt, h1, h2, h3, h4, d2, k2⟩ => by
      cases rt with
      | nil => cases h2
      | cons w rt =>
        cases h2
        have pl : P.length ≤ 8 := by
          have := congrArg List.length h1
          simp at this; omega
        refine ⟨by rw [h3, sizeLine_eq]; simp only [List.length_map]; omega, ?_⟩
        obtain ⟨r, M3, e3, r1, r2, d3, k3⟩ := draw_ok (n + 1) d2 (many := z) (by omega) (by omega)
        obtain ⟨m, hm⟩ : ∃ m : Nat, (1 + r : Int) = (m : Nat) := ⟨(1 + r).toNat, by omega⟩
        refine ⟨M3, .inl ⟨eV (w, m), ?_, P ++ [(w, m)], rt, by rw [← h1]; simp, rfl, by rw [h3]; simp, ?_, d3, k2.trans k3⟩⟩
        · simp only [↓evE.eq_1, ↓evE.eq_2, ↓evE.eq_3, ↓evE.eq_4, ↓evE.eq_5, ↓evE.eq_6, ↓evE.eq_7, ↓evE.eq_8, ↓evE.eq_9, ↓evE.eq_10, ↓evE.eq_11, ↓evE.eq_12, ↓evE.eq_13, ↓evE.eq_14, ↓evE.eq_15, ↓evE.eq_16, ↓evE.eq_17, ↓evE.eq_18, ↓evE.eq_19, ↓evE.eq_20, ↓evE.eq_21, ↓evE.eq_22, ↓evE.eq_23, ↓evE.eq_24, ↓evE.eq_25, ↓evE.eq_26, ↓evE.eq_27, ↓evE.eq_28, ↓evE.eq_29, ↓evE.eq_30, ↓evE.eq_31, ↓evE.eq_32, ↓evE.eq_33, ↓evE.eq_34, ↓evE.eq_35, ↓evE.eq_36, ↓evE.eq_37, ↓evE.eq_38, ↓evS.eq_1, ↓evS_seq, ↓evS.eq_3, ↓evS.eq_4, ↓evS.eq_5, ↓evS.eq_6, ↓evS.eq_7, ↓evS.eq_8, ↓evS_ite, ↓iteS, ↓evS.eq_11, ↓evS.eq_12, ↓evS.eq_13, ↓evS.eq_14, ↓evS.eq_15, ↓evS.eq_16, ↓evS.eq_17, ↓evS_for, ↓evA.eq_1, ↓evA.eq_2, ↓evT.eq_1, ↓evT.eq_2, ↓evO.eq_1, ↓evO.eq_2, ↓evI.eq_1, ↓evI.eq_2, ↓evI.eq_3, ↓evI.eq_4, ↓evI.eq_5, ↓evF.eq_1, ↓evF.eq_2, ↓m_bind, ↓m_then, ↓m_opt, SRes.bind_nx, SRes.bind_rt, SRes.bind_bk, SRes.bind_ct, SRes.bind_ex, SRes.bind_bad, at_call, at_glo, at_fuel, SRes.back, List.getElem?_cons_zero, List.getElem?_cons_succ, List.set_cons_zero, List.set_cons_succ, asgT, asgTs, cmpV, truV, binV, bltV, tyN, tyLe, subV, Option.map_some, Option.map_none, List.any_cons, List.any_nil, if_true, if_false, ite_true, ite_false, String.reduceBEq, Nat.reduceAdd, Bool.or_false, Bool.false_or, Bool.or_true, Bool.true_or, Bool.and_true, Bool.true_and, Bool.and_false, Bool.false_and, Bool.not_true, Bool.not_false, beq_self_eq_true, decide_true, decide_false, reduceCtorEq, Bool.false_eq_true, Ev.keyOf, dctKeys, List.length_cons, List.length_nil, List.zip_cons_cons, List.zip_nil_left, List.zip_nil_right, List.foldl_cons, List.foldl_nil, methV, setV, isL, permL_cons, permL_nil, List.map_cons, List.map_nil, valP_cons, valP_nil, key_str, key_int, ofString_eq, String.reduceEq, putP, sizeLine_eq, Nat.reduceLT, Nat.reduceLeDiff, sto_self, mulOk, powOk, divOk, Int.reducePow, Nat.reducePow, Int.reduceNeg, Int.reduceLT, Int.reduceLE, natAbs64, natAbs30, Int.reduceToNat, Int.reduceEq, Int.reduceAdd, Int.reduceSub, Int.reduceMul, ne_eq, not_false_eq_true, Int.reduceNe, Ev.alloc, Ev.eq_ii, Ev.eq_ss, Ev.eq_bb, Ev.eq_nn, Ev.eq_ni, Ev.eq_in, Ev.eq_ns, Ev.eq_sn, Ev.eq_nb, Ev.eq_bn, Ev.eq_is, Ev.eq_si, and_self, true_and, and_true, fmod_lt64, fmod_gt64, atI_0, atI_1, atI_2, atI_3, atI_4, atI_5, atI_6, atI_7, atI_8, atI_9, itemsV, smV, fmtV, lenSetV, seqOf, lstOf, slcV, revV, srcOf, optI, List.nil_append, List.cons_append, sto_new, intsP, sortI, insI, compL, compG, wipeP, boolsP, List.all_cons, List.all_nil, id_eq, keep_nil, maxI, minI, intsP, cutf_1, cutf_2, cutf_3, cutf_4, cutt_1, cutt_2, cutt_3, cutt_4, List.drop_succ_cons, List.drop_zero, List.take_succ_cons, List.take_zero, Int.cast_ofNat_Int, false_and, and_false, or_self, or_false, false_or, true_or, or_true, lit_e, tS_len, tS_cat, tS_eq, tS_lt, List.toList_toArray, g_MOST_WORD, g_LETTERS, g_MOST_POOL, g_MOST_WEIGHT, g_BEGIN, g_FACTOR, g_MODULUS, GC.pv, e3, hm]
        · intro p hp
          rcases List.mem_append.mp hp with hp | hp
          · exact h4 p hp
          · rw [List.mem_singleton.mp hp]; show 1 ≤ m ∧ m ≤ 100; omega)
  have : rt = [] := by cases rt with
    | nil => rfl
    | cons _ _ => cases h2
  subst this
  rw [List.append_nil] at h1
  subst h3
  have pl : P.length = ws.length := by rw [← h1]; simp
  simp only [↓evE.eq_1, ↓evE.eq_2, ↓evE.eq_3, ↓evE.eq_4, ↓evE.eq_5, ↓evE.eq_6, ↓evE.eq_7, ↓evE.eq_8, ↓evE.eq_9, ↓evE.eq_10, ↓evE.eq_11, ↓evE.eq_12, ↓evE.eq_13, ↓evE.eq_14, ↓evE.eq_15, ↓evE.eq_16, ↓evE.eq_17, ↓evE.eq_18, ↓evE.eq_19, ↓evE.eq_20, ↓evE.eq_21, ↓evE.eq_22, ↓evE.eq_23, ↓evE.eq_24, ↓evE.eq_25, ↓evE.eq_26, ↓evE.eq_27, ↓evE.eq_28, ↓evE.eq_29, ↓evE.eq_30, ↓evE.eq_31, ↓evE.eq_32, ↓evE.eq_33, ↓evE.eq_34, ↓evE.eq_35, ↓evE.eq_36, ↓evE.eq_37, ↓evE.eq_38, ↓evS.eq_1, ↓evS_seq, ↓evS.eq_3, ↓evS.eq_4, ↓evS.eq_5, ↓evS.eq_6, ↓evS.eq_7, ↓evS.eq_8, ↓evS_ite, ↓iteS, ↓evS.eq_11, ↓evS.eq_12, ↓evS.eq_13, ↓evS.eq_14, ↓evS.eq_15, ↓evS.eq_16, ↓evS.eq_17, ↓evS_for, ↓evA.eq_1, ↓evA.eq_2, ↓evT.eq_1, ↓evT.eq_2, ↓evO.eq_1, ↓evO.eq_2, ↓evI.eq_1, ↓evI.eq_2, ↓evI.eq_3, ↓evI.eq_4, ↓evI.eq_5, ↓evF.eq_1, ↓evF.eq_2, ↓m_bind, ↓m_then, ↓m_opt, SRes.bind_nx, SRes.bind_rt, SRes.bind_bk, SRes.bind_ct, SRes.bind_ex, SRes.bind_bad, at_call, at_glo, at_fuel, SRes.back, List.getElem?_cons_zero, List.getElem?_cons_succ, List.set_cons_zero, List.set_cons_succ, asgT, asgTs, cmpV, truV, binV, bltV, tyN, tyLe, subV, Option.map_some, Option.map_none, List.any_cons, List.any_nil, if_true, if_false, ite_true, ite_false, String.reduceBEq, Nat.reduceAdd, Bool.or_false, Bool.false_or, Bool.or_true, Bool.true_or, Bool.and_true, Bool.true_and, Bool.and_false, Bool.false_and, Bool.not_true, Bool.not_false, beq_self_eq_true, decide_true, decide_false, reduceCtorEq, Bool.false_eq_true, Ev.keyOf, dctKeys, List.length_cons, List.length_nil, List.zip_cons_cons, List.zip_nil_left, List.zip_nil_right, List.foldl_cons, List.foldl_nil, methV, setV, isL, permL_cons, permL_nil, List.map_cons, List.map_nil, valP_cons, valP_nil, key_str, key_int, ofString_eq, String.reduceEq, putP, sizeLine_eq, Nat.reduceLT, Nat.reduceLeDiff, sto_self, mulOk, powOk, divOk, Int.reducePow, Nat.reducePow, Int.reduceNeg, Int.reduceLT, Int.reduceLE, natAbs64, natAbs30, Int.reduceToNat, Int.reduceEq, Int.reduceAdd, Int.reduceSub, Int.reduceMul, ne_eq, not_false_eq_true, Int.reduceNe, Ev.alloc, Ev.eq_ii, Ev.eq_ss, Ev.eq_bb, Ev.eq_nn, Ev.eq_ni, Ev.eq_in, Ev.eq_ns, Ev.eq_sn, Ev.eq_nb, Ev.eq_bn, Ev.eq_is, Ev.eq_si, and_self, true_and, and_true, fmod_lt64, fmod_gt64, atI_0, atI_1, atI_2, atI_3, atI_4, atI_5, atI_6, atI_7, atI_8, atI_9, itemsV, smV, fmtV, lenSetV, seqOf, lstOf, slcV, revV, srcOf, optI, List.nil_append, List.cons_append, sto_new, intsP, sortI, insI, compL, compG, wipeP, boolsP, List.all_cons, List.all_nil, id_eq, keep_nil, maxI, minI, intsP, cutf_1, cutf_2, cutf_3, cutf_4, cutt_1, cutt_2, cutt_3, cutt_4, List.drop_succ_cons, List.drop_zero, List.take_succ_cons, List.take_zero, Int.cast_ofNat_Int, false_and, and_false, or_self, or_false, false_or, true_or, or_true, lit_e, tS_len, tS_cat, tS_eq, tS_lt, List.toList_toArray, g_MOST_WORD, g_LETTERS, g_MOST_POOL, g_MOST_WEIGHT, g_BEGIN, g_FACTOR, g_MODULUS, GC.pv, sto_new]
  refine ⟨P, _, rfl, ⟨by have := hw.pos; omega, by omega, fun p hp => ⟨hw.w _ (by rw [← h1]; exact List.mem_map_of_mem hp), h4 p hp⟩, by rw [h1]; exact hw.nd⟩, d2.app _, k1.trans (k2.trans Keep.app)⟩
theorem pool1_ok (n : Nat) {i j k : Nat} {M : Sto} (h : Dk i j M) {ws : List (List Nat)} (hw : Labs ws) (hk : M[k]? = some (.lst (tsv ws))) (ki : k ≠ i) (kj : k ≠ j) (v1 v3 v4 v5 : Option PV) :
    ∃ P M', (evS (T.at (n + 2)) t_pool1 [some (.ref i), v1, some (.ref k), v3, v4, v5] M).back = .ok (pV P) M' ∧ IsPool P ∧ Dk i j M' ∧ Keep [i, j] M M' := by
  unfold t_pool1
  obtain ⟨tl, hT⟩ : ∃ tl, tl = t_pool2 := ⟨_, rfl⟩
  have hT' := hT
  unfold t_pool2 at hT
  rw [← hT]
  obtain ⟨r, M1, e1, r1, r2, d1, k1⟩ := draw_ok (n + 1) h (many := 2) (by omega) (by omega)
  have g1 := k1.get hk (by simp [ki, kj])
  by_cases hr : r = 0
  · simp only [↓evE.eq_1, ↓evE.eq_2, ↓evE.eq_3, ↓evE.eq_4, ↓evE.eq_5, ↓evE.eq_6, ↓evE.eq_7, ↓evE.eq_8, ↓evE.eq_9, ↓evE.eq_10, ↓evE.eq_11, ↓evE.eq_12, ↓evE.eq_13, ↓evE.eq_14, ↓evE.eq_15, ↓evE.eq_16, ↓evE.eq_17, ↓evE.eq_18, ↓evE.eq_19, ↓evE.eq_20, ↓evE.eq_21, ↓evE.eq_22, ↓evE.eq_23, ↓evE.eq_24, ↓evE.eq_25, ↓evE.eq_26, ↓evE.eq_27, ↓evE.eq_28, ↓evE.eq_29, ↓evE.eq_30, ↓evE.eq_31, ↓evE.eq_32, ↓evE.eq_33, ↓evE.eq_34, ↓evE.eq_35, ↓evE.eq_36, ↓evE.eq_37, ↓evE.eq_38, ↓evS.eq_1, ↓evS_seq, ↓evS.eq_3, ↓evS.eq_4, ↓evS.eq_5, ↓evS.eq_6, ↓evS.eq_7, ↓evS.eq_8, ↓evS_ite, ↓iteS, ↓evS.eq_11, ↓evS.eq_12, ↓evS.eq_13, ↓evS.eq_14, ↓evS.eq_15, ↓evS.eq_16, ↓evS.eq_17, ↓evS_for, ↓evA.eq_1, ↓evA.eq_2, ↓evT.eq_1, ↓evT.eq_2, ↓evO.eq_1, ↓evO.eq_2, ↓evI.eq_1, ↓evI.eq_2, ↓evI.eq_3, ↓evI.eq_4, ↓evI.eq_5, ↓evF.eq_1, ↓evF.eq_2, ↓m_bind, ↓m_then, ↓m_opt, SRes.bind_nx, SRes.bind_rt, SRes.bind_bk, SRes.bind_ct, SRes.bind_ex, SRes.bind_bad, at_call, at_glo, at_fuel, SRes.back, List.getElem?_cons_zero, List.getElem?_cons_succ, List.set_cons_zero, List.set_cons_succ, asgT, asgTs, cmpV, truV, binV, bltV, tyN, tyLe, subV, Option.map_some, Option.map_none, List.any_cons, List.any_nil, if_true, if_false, ite_true, ite_false, String.reduceBEq, Nat.reduceAdd, Bool.or_false, Bool.false_or, Bool.or_true, Bool.true_or, Bool.and_true, Bool.true_and, Bool.and_false, Bool.false_and, Bool.not_true, Bool.not_false, beq_self_eq_true, decide_true, decide_false, reduceCtorEq, Bool.false_eq_true, Ev.keyOf, dctKeys, List.length_cons, List.length_nil, List.zip_cons_cons, List.zip_nil_left, List.zip_nil_right, List.foldl_cons, List.foldl_nil, methV, setV, isL, permL_cons, permL_nil, List.map_cons, List.map_nil, valP_cons, valP_nil, key_str, key_int, ofString_eq, String.reduceEq, putP, sizeLine_eq, Nat.reduceLT, Nat.reduceLeDiff, sto_self, mulOk, powOk, divOk, Int.reducePow, Nat.reducePow, Int.reduceNeg, Int.reduceLT, Int.reduceLE, natAbs64, natAbs30, Int.reduceToNat, Int.reduceEq, Int.reduceAdd, Int.reduceSub, Int.reduceMul, ne_eq, not_false_eq_true, Int.reduceNe, Ev.alloc, Ev.eq_ii, Ev.eq_ss, Ev.eq_bb, Ev.eq_nn, Ev.eq_ni, Ev.eq_in, Ev.eq_ns, Ev.eq_sn, Ev.eq_nb, Ev.eq_bn, Ev.eq_is, Ev.eq_si, and_self, true_and, and_true, fmod_lt64, fmod_gt64, atI_0, atI_1, atI_2, atI_3, atI_4, atI_5, atI_6, atI_7, atI_8, atI_9, itemsV, smV, fmtV, lenSetV, seqOf, lstOf, slcV, revV, srcOf, optI, List.nil_append, List.cons_append, sto_new, intsP, sortI, insI, compL, compG, wipeP, boolsP, List.all_cons, List.all_nil, id_eq, keep_nil, maxI, minI, intsP, cutf_1, cutf_2, cutf_3, cutf_4, cutt_1, cutt_2, cutt_3, cutt_4, List.drop_succ_cons, List.drop_zero, List.take_succ_cons, List.take_zero, Int.cast_ofNat_Int, false_and, and_false, or_self, or_false, false_or, true_or, or_true, lit_e, tS_len, tS_cat, tS_eq, tS_lt, List.toList_toArray, g_MOST_WORD, g_LETTERS, g_MOST_POOL, g_MOST_WEIGHT, g_BEGIN, g_FACTOR, g_MODULUS, GC.pv, e1, hr, g1]
    rw [hT']
    have lt := d1.lt
    obtain ⟨P, M', e, p, d, kk⟩ := pool2_ok n (k := M1.length) (d1.app [.lst (tsv ws.reverse)]) (ws := ws.reverse) ⟨by simpa using hw.pos, by simpa using hw.le, fun w h => hw.w w (by simpa using h), by rw [List.nodup_iff_pairwise_ne, List.pairwise_reverse]; exact (List.nodup_iff_pairwise_ne.mp hw.nd).imp fun h => h.symm⟩ (sto_new _ _) (by omega) (by omega) v1 v3 v4 v5
    have rv : (tsv ws).reverse = tsv ws.reverse := by simp [tsv, List.map_reverse]
    rw [rv]
    exact ⟨P, M', e, p, d, k1.trans (Keep.app.trans kk)⟩
  · simp only [↓evE.eq_1, ↓evE.eq_2, ↓evE.eq_3, ↓evE.eq_4, ↓evE.eq_5, ↓evE.eq_6, ↓evE.eq_7, ↓evE.eq_8, ↓evE.eq_9, ↓evE.eq_10, ↓evE.eq_11, ↓evE.eq_12, ↓evE.eq_13, ↓evE.eq_14, ↓evE.eq_15, ↓evE.eq_16, ↓evE.eq_17, ↓evE.eq_18, ↓evE.eq_19, ↓evE.eq_20, ↓evE.eq_21, ↓evE.eq_22, ↓evE.eq_23, ↓evE.eq_24, ↓evE.eq_25, ↓evE.eq_26, ↓evE.eq_27, ↓evE.eq_28, ↓evE.eq_29, ↓evE.eq_30, ↓evE.eq_31, ↓evE.eq_32, ↓evE.eq_33, ↓evE.eq_34, ↓evE.eq_35, ↓evE.eq_36, ↓evE.eq_37, ↓evE.eq_38, ↓evS.eq_1, ↓evS_seq, ↓evS.eq_3, ↓evS.eq_4, ↓evS.eq_5, ↓evS.eq_6, ↓evS.eq_7, ↓evS.eq_8, ↓evS_ite, ↓iteS, ↓evS.eq_11, ↓evS.eq_12, ↓evS.eq_13, ↓evS.eq_14, ↓evS.eq_15, ↓evS.eq_16, ↓evS.eq_17, ↓evS_for, ↓evA.eq_1, ↓evA.eq_2, ↓evT.eq_1, ↓evT.eq_2, ↓evO.eq_1, ↓evO.eq_2, ↓evI.eq_1, ↓evI.eq_2, ↓evI.eq_3, ↓evI.eq_4, ↓evI.eq_5, ↓evF.eq_1, ↓evF.eq_2, ↓m_bind, ↓m_then, ↓m_opt, SRes.bind_nx, SRes.bind_rt, SRes.bind_bk, SRes.bind_ct, SRes.bind_ex, SRes.bind_bad, at_call, at_glo, at_fuel, SRes.back, List.getElem?_cons_zero, List.getElem?_cons_succ, List.set_cons_zero, List.set_cons_succ, asgT, asgTs, cmpV, truV, binV, bltV, tyN, tyLe, subV, Option.map_some, Option.map_none, List.any_cons, List.any_nil, if_true, if_false, ite_true, ite_false, String.reduceBEq, Nat.reduceAdd, Bool.or_false, Bool.false_or, Bool.or_true, Bool.true_or, Bool.and_true, Bool.true_and, Bool.and_false, Bool.false_and, Bool.not_true, Bool.not_false, beq_self_eq_true, decide_true, decide_false, reduceCtorEq, Bool.false_eq_true, Ev.keyOf, dctKeys, List.length_cons, List.length_nil, List.zip_cons_cons, List.zip_nil_left, List.zip_nil_right, List.foldl_cons, List.foldl_nil, methV, setV, isL, permL_cons, permL_nil, List.map_cons, List.map_nil, valP_cons, valP_nil, key_str, key_int, ofString_eq, String.reduceEq, putP, sizeLine_eq, Nat.reduceLT, Nat.reduceLeDiff, sto_self, mulOk, powOk, divOk, Int.reducePow, Nat.reducePow, Int.reduceNeg, Int.reduceLT, Int.reduceLE, natAbs64, natAbs30, Int.reduceToNat, Int.reduceEq, Int.reduceAdd, Int.reduceSub, Int.reduceMul, ne_eq, not_false_eq_true, Int.reduceNe, Ev.alloc, Ev.eq_ii, Ev.eq_ss, Ev.eq_bb, Ev.eq_nn, Ev.eq_ni, Ev.eq_in, Ev.eq_ns, Ev.eq_sn, Ev.eq_nb, Ev.eq_bn, Ev.eq_is, Ev.eq_si, and_self, true_and, and_true, fmod_lt64, fmod_gt64, atI_0, atI_1, atI_2, atI_3, atI_4, atI_5, atI_6, atI_7, atI_8, atI_9, itemsV, smV, fmtV, lenSetV, seqOf, lstOf, slcV, revV, srcOf, optI, List.nil_append, List.cons_append, sto_new, intsP, sortI, insI, compL, compG, wipeP, boolsP, List.all_cons, List.all_nil, id_eq, keep_nil, maxI, minI, intsP, cutf_1, cutf_2, cutf_3, cutf_4, cutt_1, cutt_2, cutt_3, cutt_4, List.drop_succ_cons, List.drop_zero, List.take_succ_cons, List.take_zero, Int.cast_ofNat_Int, false_and, and_false, or_self, or_false, false_or, true_or, or_true, lit_e, tS_len, tS_cat, tS_eq, tS_lt, List.toList_toArray, g_MOST_WORD, g_LETTERS, g_MOST_POOL, g_MOST_WEIGHT, g_BEGIN, g_FACTOR, g_MODULUS, GC.pv, e1, hr]
    rw [hT']
    obtain ⟨P, M', e, p, d, kk⟩ := pool2_ok n d1 hw g1 ki kj v1 v3 v4 v5
    exact ⟨P, M', e, p, d, k1.trans kk⟩
theorem cut_inner (x : PV) (mid : List PV) (y : PV) : cutP (x :: (mid ++ [y])) (some 1) (some (-1)) = mid := by
  unfold cutP
  have e1 : HT.sIx (x :: (mid ++ [y])).length 0 (some 1) = 1 := by
    have := HT.sIx_nat (x :: (mid ++ [y])).length 0 1
    rw [show ((1 : Nat) : Int) = 1 from rfl] at this
    rw [this]; simp
  have e2 : HT.sIx (x :: (mid ++ [y])).length (x :: (mid ++ [y])).length (some (-1)) = mid.length + 1 := by
    show (if (-1 : Int) < 0 then ((-1 : Int) + ((x :: (mid ++ [y])).length : Int)).toNat else min (-1 : Int).toNat (x :: (mid ++ [y])).length) = _
    rw [if_pos (by decide)]
    simp
    omega
  rw [e1, e2]
  simp
theorem pool_drawn (n : Nat) {i j : Nat} {M : Sto} (h : Dk i j M) : ∃ P M', callN T (n + 5) "_law_drawn_pool" [.ref i] M = .ok (pV P) M' ∧ IsPool P ∧ Dk i j M' ∧ Keep [i, j] M M' := by
  rw [e__law_drawn_pool]
  unfold c__law_drawn_pool
  obtain ⟨tl, hT⟩ : ∃ tl, tl = t_pool1 := ⟨_, rfl⟩
  have hT' := hT
  unfold t_pool1 at hT
  rw [← hT]
  obtain ⟨x, M1, e1, hx, d1, k1⟩ := picks (n + 2) h [.int 3, .int 2, .int 1, .int 4, .int 8, .int 5] (by decide) (by decide)
  have hz : ∃ z : Int, x = .int z ∧ 1 ≤ z ∧ z ≤ 8 := by
    simp only [List.mem_cons, List.not_mem_nil, or_false] at hx
    rcases hx with rfl | rfl | rfl | rfl | rfl | rfl <;> exact ⟨_, rfl, by decide, by decide⟩
  obtain ⟨m, rfl, m1, m2⟩ := hz
  obtain ⟨k, ws, M2, e2, g2, wl, ww, wn, kl, d2, k2⟩ := words_ok n d1 m1 m2
  have lt1 := d1.lt
  have ki : k ≠ i := by omega
  have kj : k ≠ j := by omega
  have kk := k1.trans k2
  have hw : Labs ws := ⟨by omega, by omega, ww, wn⟩
  obtain ⟨w0, r0, rfl⟩ : ∃ w0 r0, ws = w0 :: r0 := List.exists_cons_of_ne_nil (by intro z; subst z; simp at wl; omega)
  have w0w := ww w0 List.mem_cons_self
  have w0l : (w0.length ≤ 16777216) = True := eq_true (by have := w0w.2.1; omega)
  have g2' : M2[k]? = some (.lst (tv w0 :: tsv r0)) := g2
  by_cases c1 : 1 < m
  · by_cases c2 : 2 < (w0.length : Int)
    · obtain ⟨r, M3, e3, r1, r2, d3, k3⟩ := draw_ok (n + 3) d2 (many := 2) (by omega) (by omega)
      have g3 : M3[k]? = some (.lst (tv w0 :: tsv r0)) := k3.get g2' (by simp [ki, kj])
      by_cases hr : r = 0
      · obtain ⟨p, q, M4, e4, wp, wq, pq, d4, k4⟩ := twin_ok (n + 1) d3 w0w (by omega)
        have g4 : M4[k]? = some (.lst (tv w0 :: tsv r0)) := k4.get g3 (by simp [ki, kj])
        have i1 := in_tsv (sto_new M4 (.lst (tsv r0))) p
        have kk4 := kk.trans (k3.trans k4)
        by_cases hp : p ∈ r0
        · have hpd : decide (p ∈ r0) = true := decide_eq_true hp
          simp only [↓evE.eq_1, ↓evE.eq_2, ↓evE.eq_3, ↓evE.eq_4, ↓evE.eq_5, ↓evE.eq_6, ↓evE.eq_7, ↓evE.eq_8, ↓evE.eq_9, ↓evE.eq_10, ↓evE.eq_11, ↓evE.eq_12, ↓evE.eq_13, ↓evE.eq_14, ↓evE.eq_15, ↓evE.eq_16, ↓evE.eq_17, ↓evE.eq_18, ↓evE.eq_19, ↓evE.eq_20, ↓evE.eq_21, ↓evE.eq_22, ↓evE.eq_23, ↓evE.eq_24, ↓evE.eq_25, ↓evE.eq_26, ↓evE.eq_27, ↓evE.eq_28, ↓evE.eq_29, ↓evE.eq_30, ↓evE.eq_31, ↓evE.eq_32, ↓evE.eq_33, ↓evE.eq_34, ↓evE.eq_35, ↓evE.eq_36, ↓evE.eq_37, ↓evE.eq_38, ↓evS.eq_1, ↓evS_seq, ↓evS.eq_3, ↓evS.eq_4, ↓evS.eq_5, ↓evS.eq_6, ↓evS.eq_7, ↓evS.eq_8, ↓evS_ite, ↓iteS, ↓evS.eq_11, ↓evS.eq_12, ↓evS.eq_13, ↓evS.eq_14, ↓evS.eq_15, ↓evS.eq_16, ↓evS.eq_17, ↓evS_for, ↓evA.eq_1, ↓evA.eq_2, ↓evT.eq_1, ↓evT.eq_2, ↓evO.eq_1, ↓evO.eq_2, ↓evI.eq_1, ↓evI.eq_2, ↓evI.eq_3, ↓evI.eq_4, ↓evI.eq_5, ↓evF.eq_1, ↓evF.eq_2, ↓m_bind, ↓m_then, ↓m_opt, SRes.bind_nx, SRes.bind_rt, SRes.bind_bk, SRes.bind_ct, SRes.bind_ex, SRes.bind_bad, at_call, at_glo, at_fuel, SRes.back, List.getElem?_cons_zero, List.getElem?_cons_succ, List.set_cons_zero, List.set_cons_succ, asgT, asgTs, cmpV, truV, binV, bltV, tyN, tyLe, subV, Option.map_some, Option.map_none, List.any_cons, List.any_nil, if_true, if_false, ite_true, ite_false, String.reduceBEq, Nat.reduceAdd, Bool.or_false, Bool.false_or, Bool.or_true, Bool.true_or, Bool.and_true, Bool.true_and, Bool.and_false, Bool.false_and, Bool.not_true, Bool.not_false, beq_self_eq_true, decide_true, decide_false, reduceCtorEq, Bool.false_eq_true, Ev.keyOf, dctKeys, List.length_cons, List.length_nil, List.zip_cons_cons, List.zip_nil_left, List.zip_nil_right, List.foldl_cons, List.foldl_nil, methV, setV, isL, permL_cons, permL_nil, List.map_cons, List.map_nil, valP_cons, valP_nil, key_str, key_int, ofString_eq, String.reduceEq, putP, sizeLine_eq, Nat.reduceLT, Nat.reduceLeDiff, sto_self, mulOk, powOk, divOk, Int.reducePow, Nat.reducePow, Int.reduceNeg, Int.reduceLT, Int.reduceLE, natAbs64, natAbs30, Int.reduceToNat, Int.reduceEq, Int.reduceAdd, Int.reduceSub, Int.reduceMul, ne_eq, not_false_eq_true, Int.reduceNe, Ev.alloc, Ev.eq_ii, Ev.eq_ss, Ev.eq_bb, Ev.eq_nn, Ev.eq_ni, Ev.eq_in, Ev.eq_ns, Ev.eq_sn, Ev.eq_nb, Ev.eq_bn, Ev.eq_is, Ev.eq_si, and_self, true_and, and_true, fmod_lt64, fmod_gt64, atI_0, atI_1, atI_2, atI_3, atI_4, atI_5, atI_6, atI_7, atI_8, atI_9, itemsV, smV, fmtV, lenSetV, seqOf, lstOf, slcV, revV, srcOf, optI, List.nil_append, List.cons_append, sto_new, intsP, sortI, insI, compL, compG, wipeP, boolsP, List.all_cons, List.all_nil, id_eq, keep_nil, maxI, minI, intsP, cutf_1, cutf_2, cutf_3, cutf_4, cutt_1, cutt_2, cutt_3, cutt_4, List.drop_succ_cons, List.drop_zero, List.take_succ_cons, List.take_zero, Int.cast_ofNat_Int, false_and, and_false, or_self, or_false, false_or, true_or, or_true, lit_e, tS_len, tS_cat, tS_eq, tS_lt, List.toList_toArray, g_MOST_WORD, g_LETTERS, g_MOST_POOL, g_MOST_WEIGHT, g_BEGIN, g_FACTOR, g_MODULUS, GC.pv, e1, e2, c1, g2', w0l, c2, e3, hr, g3, e4, g4, i1, hpd]
          rw [hT']
          obtain ⟨P, M', e, pp, d, k'⟩ := pool1_ok (n + 2) (d4.app [.lst (tsv r0)]) hw (sto_app g4) ki kj (some (.int m)) (some (.tup [tv p, tv q])) none none
          exact ⟨P, M', e, pp, d, kk4.trans (Keep.app.trans k')⟩
        · have hpd : decide (p ∈ r0) = false := decide_eq_false hp
          have g5 : (M4 ++ [MO.lst (tsv r0)])[k]? = some (.lst (tv w0 :: tsv r0)) := sto_app g4
          have i2 := in_tsv (sto_new (M4 ++ [MO.lst (tsv r0)]) (.lst (tsv r0))) q
          by_cases hq : q ∈ r0
          · have hqd : decide (q ∈ r0) = true := decide_eq_true hq
            simp only [↓evE.eq_1, ↓evE.eq_2, ↓evE.eq_3, ↓evE.eq_4, ↓evE.eq_5, ↓evE.eq_6, ↓evE.eq_7, ↓evE.eq_8, ↓evE.eq_9, ↓evE.eq_10, ↓evE.eq_11, ↓evE.eq_12, ↓evE.eq_13, ↓evE.eq_14, ↓evE.eq_15, ↓evE.eq_16, ↓evE.eq_17, ↓evE.eq_18, ↓evE.eq_19, ↓evE.eq_20, ↓evE.eq_21, ↓evE.eq_22, ↓evE.eq_23, ↓evE.eq_24, ↓evE.eq_25, ↓evE.eq_26, ↓evE.eq_27, ↓evE.eq_28, ↓evE.eq_29, ↓evE.eq_30, ↓evE.eq_31, ↓evE.eq_32, ↓evE.eq_33, ↓evE.eq_34, ↓evE.eq_35, ↓evE.eq_36, ↓evE.eq_37, ↓evE.eq_38, ↓evS.eq_1, ↓evS_seq, ↓evS.eq_3, ↓evS.eq_4, ↓evS.eq_5, ↓evS.eq_6, ↓evS.eq_7, ↓evS.eq_8, ↓evS_ite, ↓iteS, ↓evS.eq_11, ↓evS.eq_12, ↓evS.eq_13, ↓evS.eq_14, ↓evS.eq_15, ↓evS.eq_16, ↓evS.eq_17, ↓evS_for, ↓evA.eq_1, ↓evA.eq_2, ↓evT.eq_1, ↓evT.eq_2, ↓evO.eq_1, ↓evO.eq_2, ↓evI.eq_1, ↓evI.eq_2, ↓evI.eq_3, ↓evI.eq_4, ↓evI.eq_5, ↓evF.eq_1, ↓evF.eq_2, ↓m_bind, ↓m_then, ↓m_opt, SRes.bind_nx, SRes.bind_rt, SRes.bind_bk, SRes.bind_ct, SRes.bind_ex, SRes.bind_bad, at_call, at_glo, at_fuel, SRes.back, List.getElem?_cons_zero, List.getElem?_cons_succ, List.set_cons_zero, List.set_cons_succ, asgT, asgTs, cmpV, truV, binV, bltV, tyN, tyLe, subV, Option.map_some, Option.map_none, List.any_cons, List.any_nil, if_true, if_false, ite_true, ite_false, String.reduceBEq, Nat.reduceAdd, Bool.or_false, Bool.false_or, Bool.or_true, Bool.true_or, Bool.and_true, Bool.true_and, Bool.and_false, Bool.false_and, Bool.not_true, Bool.not_false, beq_self_eq_true, decide_true, decide_false, reduceCtorEq, Bool.false_eq_true, Ev.keyOf, dctKeys, List.length_cons, List.length_nil, List.zip_cons_cons, List.zip_nil_left, List.zip_nil_right, List.foldl_cons, List.foldl_nil, methV, setV, isL, permL_cons, permL_nil, List.map_cons, List.map_nil, valP_cons, valP_nil, key_str, key_int, ofString_eq, String.reduceEq, putP, sizeLine_eq, Nat.reduceLT, Nat.reduceLeDiff, sto_self, mulOk, powOk, divOk, Int.reducePow, Nat.reducePow, Int.reduceNeg, Int.reduceLT, Int.reduceLE, natAbs64, natAbs30, Int.reduceToNat, Int.reduceEq, Int.reduceAdd, Int.reduceSub, Int.reduceMul, ne_eq, not_false_eq_true, Int.reduceNe, Ev.alloc, Ev.eq_ii, Ev.eq_ss, Ev.eq_bb, Ev.eq_nn, Ev.eq_ni, Ev.eq_in, Ev.eq_ns, Ev.eq_sn, Ev.eq_nb, Ev.eq_bn, Ev.eq_is, Ev.eq_si, and_self, true_and, and_true, fmod_lt64, fmod_gt64, atI_0, atI_1, atI_2, atI_3, atI_4, atI_5, atI_6, atI_7, atI_8, atI_9, itemsV, smV, fmtV, lenSetV, seqOf, lstOf, slcV, revV, srcOf, optI, List.nil_append, List.cons_append, sto_new, intsP, sortI, insI, compL, compG, wipeP, boolsP, List.all_cons, List.all_nil, id_eq, keep_nil, maxI, minI, intsP, cutf_1, cutf_2, cutf_3, cutf_4, cutt_1, cutt_2, cutt_3, cutt_4, List.drop_succ_cons, List.drop_zero, List.take_succ_cons, List.take_zero, Int.cast_ofNat_Int, false_and, and_false, or_self, or_false, false_or, true_or, or_true, lit_e, tS_len, tS_cat, tS_eq, tS_lt, List.toList_toArray, g_MOST_WORD, g_LETTERS, g_MOST_POOL, g_MOST_WEIGHT, g_BEGIN, g_FACTOR, g_MODULUS, GC.pv, e1, e2, c1, g2', w0l, c2, e3, hr, g3, e4, g4, i1, hpd, g5, i2, hqd]
            rw [hT']
            obtain ⟨P, M', e, pp, d, k'⟩ := pool1_ok (n + 2) ((d4.app [.lst (tsv r0)]).app [.lst (tsv r0)]) hw (sto_app g5) ki kj (some (.int m)) (some (.tup [tv p, tv q])) none none
            exact ⟨P, M', e, pp, d, kk4.trans (Keep.app.trans (Keep.app.trans k'))⟩
          · have hqd : decide (q ∈ r0) = false := decide_eq_false hq
            have r0ne : r0 ≠ [] := by intro z; subst z; simp at wl; omega
            obtain ⟨mid, last, rfl⟩ : ∃ mid last, r0 = mid ++ [last] := by
              rcases List.eq_nil_or_concat r0 with z | ⟨mid, last, z⟩
              · exact absurd z r0ne
              · exact ⟨mid, last, by rw [z, List.concat_eq_append]⟩
            have ml : mid.length ≤ 6 := by simp at wl; omega
            obtain ⟨N, hN⟩ : ∃ N, N = M4 ++ [MO.lst (tsv (mid ++ [last]))] ++ [MO.lst (tsv (mid ++ [last]))] := ⟨_, rfl⟩
            have dN : Dk i j N := by rw [hN]; exact (d4.app _).app _
            have kN : Keep [i, j] M N := by rw [hN]; exact kk4.trans (Keep.app.trans Keep.app)
            rw [← hN] at i2
            have gN : N[k]? = some (.lst (tv w0 :: tsv (mid ++ [last]))) := by rw [hN]; exact sto_app g5
            have g6 : (N ++ [MO.lst [tv p]])[k]? = some (.lst (tv w0 :: tsv (mid ++ [last]))) := sto_app gN
            have ci : cutP (tv w0 :: tsv (mid ++ [last])) (some 1) (some (-1)) = tsv mid := by
              have := cut_inner (tv w0) (tsv mid) (tv last)
              rw [← this]; simp [tsv]
            have f1 : (N ++ [MO.lst [tv p]] ++ [MO.lst (tsv mid)])[N.length]? = some (.lst [tv p]) := sto_app (sto_new _ _)
            have f2 : (N ++ [MO.lst [tv p]] ++ [MO.lst (tsv mid)] ++ [MO.lst (tv p :: tsv mid)] ++ [MO.lst [tv q]])[(N ++ [MO.lst [tv p]] ++ [MO.lst (tsv mid)]).length]? = some (.lst (tv p :: tsv mid)) := sto_app (sto_new _ _)
            have s1 : (1 + (tsv mid).length ≤ 16777216) = True := eq_true (by simp; omega)
            have s2 : ((tsv mid).length + 1 + 1 ≤ 16777216) = True := eq_true (by simp; omega)
            have nl : Labs (p :: (mid ++ [q])) := by
              have nd := (List.nodup_cons.mp wn).2
              have nm : mid.Nodup := (List.nodup_append.mp nd).1
              have pm : p ∉ mid := fun z => hp (List.mem_append_left _ z)
              have qm : q ∉ mid := fun z => hq (List.mem_append_left _ z)
              refine ⟨by simp, by simp; omega, fun w hw' => ?_, ?_⟩
              · simp only [List.mem_cons, List.mem_append, List.not_mem_nil, or_false] at hw'
                rcases hw' with rfl | hw' | rfl
                · exact wp
                · exact ww w (by simp [hw'])
                · exact wq
              · rw [List.nodup_cons, List.nodup_append]
                exact ⟨by simp [pm, pq], nm, by simp, fun a ha b hb e => qm (by rw [List.mem_singleton.mp hb] at e; rw [← e]; exact ha)⟩
            simp only [↓evE.eq_1, ↓evE.eq_2, ↓evE.eq_3, ↓evE.eq_4, ↓evE.eq_5, ↓evE.eq_6, ↓evE.eq_7, ↓evE.eq_8, ↓evE.eq_9, ↓evE.eq_10, ↓evE.eq_11, ↓evE.eq_12, ↓evE.eq_13, ↓evE.eq_14, ↓evE.eq_15, ↓evE.eq_16, ↓evE.eq_17, ↓evE.eq_18, ↓evE.eq_19, ↓evE.eq_20, ↓evE.eq_21, ↓evE.eq_22, ↓evE.eq_23, ↓evE.eq_24, ↓evE.eq_25, ↓evE.eq_26, ↓evE.eq_27, ↓evE.eq_28, ↓evE.eq_29, ↓evE.eq_30, ↓evE.eq_31, ↓evE.eq_32, ↓evE.eq_33, ↓evE.eq_34, ↓evE.eq_35, ↓evE.eq_36, ↓evE.eq_37, ↓evE.eq_38, ↓evS.eq_1, ↓evS_seq, ↓evS.eq_3, ↓evS.eq_4, ↓evS.eq_5, ↓evS.eq_6, ↓evS.eq_7, ↓evS.eq_8, ↓evS_ite, ↓iteS, ↓evS.eq_11, ↓evS.eq_12, ↓evS.eq_13, ↓evS.eq_14, ↓evS.eq_15, ↓evS.eq_16, ↓evS.eq_17, ↓evS_for, ↓evA.eq_1, ↓evA.eq_2, ↓evT.eq_1, ↓evT.eq_2, ↓evO.eq_1, ↓evO.eq_2, ↓evI.eq_1, ↓evI.eq_2, ↓evI.eq_3, ↓evI.eq_4, ↓evI.eq_5, ↓evF.eq_1, ↓evF.eq_2, ↓m_bind, ↓m_then, ↓m_opt, SRes.bind_nx, SRes.bind_rt, SRes.bind_bk, SRes.bind_ct, SRes.bind_ex, SRes.bind_bad, at_call, at_glo, at_fuel, SRes.back, List.getElem?_cons_zero, List.getElem?_cons_succ, List.set_cons_zero, List.set_cons_succ, asgT, asgTs, cmpV, truV, binV, bltV, tyN, tyLe, subV, Option.map_some, Option.map_none, List.any_cons, List.any_nil, if_true, if_false, ite_true, ite_false, String.reduceBEq, Nat.reduceAdd, Bool.or_false, Bool.false_or, Bool.or_true, Bool.true_or, Bool.and_true, Bool.true_and, Bool.and_false, Bool.false_and, Bool.not_true, Bool.not_false, beq_self_eq_true, decide_true, decide_false, reduceCtorEq, Bool.false_eq_true, Ev.keyOf, dctKeys, List.length_cons, List.length_nil, List.zip_cons_cons, List.zip_nil_left, List.zip_nil_right, List.foldl_cons, List.foldl_nil, methV, setV, isL, permL_cons, permL_nil, List.map_cons, List.map_nil, valP_cons, valP_nil, key_str, key_int, ofString_eq, String.reduceEq, putP, sizeLine_eq, Nat.reduceLT, Nat.reduceLeDiff, sto_self, mulOk, powOk, divOk, Int.reducePow, Nat.reducePow, Int.reduceNeg, Int.reduceLT, Int.reduceLE, natAbs64, natAbs30, Int.reduceToNat, Int.reduceEq, Int.reduceAdd, Int.reduceSub, Int.reduceMul, ne_eq, not_false_eq_true, Int.reduceNe, Ev.alloc, Ev.eq_ii, Ev.eq_ss, Ev.eq_bb, Ev.eq_nn, Ev.eq_ni, Ev.eq_in, Ev.eq_ns, Ev.eq_sn, Ev.eq_nb, Ev.eq_bn, Ev.eq_is, Ev.eq_si, and_self, true_and, and_true, fmod_lt64, fmod_gt64, atI_0, atI_1, atI_2, atI_3, atI_4, atI_5, atI_6, atI_7, atI_8, atI_9, itemsV, smV, fmtV, lenSetV, seqOf, lstOf, slcV, revV, srcOf, optI, List.nil_append, List.cons_append, sto_new, intsP, sortI, insI, compL, compG, wipeP, boolsP, List.all_cons, List.all_nil, id_eq, keep_nil, maxI, minI, intsP, cutf_1, cutf_2, cutf_3, cutf_4, cutt_1, cutt_2, cutt_3, cutt_4, List.drop_succ_cons, List.drop_zero, List.take_succ_cons, List.take_zero, Int.cast_ofNat_Int, false_and, and_false, or_self, or_false, false_or, true_or, or_true, lit_e, tS_len, tS_cat, tS_eq, tS_lt, List.toList_toArray, g_MOST_WORD, g_LETTERS, g_MOST_POOL, g_MOST_WEIGHT, g_BEGIN, g_FACTOR, g_MODULUS, GC.pv, e1, e2, c1, g2', w0l, c2, e3, hr, g3, e4, g4, i1, hpd, g5, i2, hqd, ← hN, g6, ci, f1, s1, f2, s2]
            rw [hT']
            have fe : tv p :: (tsv mid ++ [tv q]) = tsv (p :: (mid ++ [q])) := by simp [tsv]
            rw [fe]
            obtain ⟨P, M', e, pp, d, k'⟩ := pool1_ok (n + 2) (((((dN.app [.lst [tv p]]).app [.lst (tsv mid)]).app [.lst (tv p :: tsv mid)]).app [.lst [tv q]]).app [.lst (tsv (p :: (mid ++ [q])))]) nl (sto_new _ _) (by have := dN.lt; simp; omega) (by have := dN.lt; simp; omega) (some (.int m)) (some (.tup [tv p, tv q])) none none
            exact ⟨P, M', e, pp, d, kN.trans (Keep.app.trans (Keep.app.trans (Keep.app.trans (Keep.app.trans (Keep.app.trans k')))))⟩
      · simp only [↓evE.eq_1, ↓evE.eq_2, ↓evE.eq_3, ↓evE.eq_4, ↓evE.eq_5, ↓evE.eq_6, ↓evE.eq_7, ↓evE.eq_8, ↓evE.eq_9, ↓evE.eq_10, ↓evE.eq_11, ↓evE.eq_12, ↓evE.eq_13, ↓evE.eq_14, ↓evE.eq_15, ↓evE.eq_16, ↓evE.eq_17, ↓evE.eq_18, ↓evE.eq_19, ↓evE.eq_20, ↓evE.eq_21, ↓evE.eq_22, ↓evE.eq_23, ↓evE.eq_24, ↓evE.eq_25, ↓evE.eq_26, ↓evE.eq_27, ↓evE.eq_28, ↓evE.eq_29, ↓evE.eq_30, ↓evE.eq_31, ↓evE.eq_32, ↓evE.eq_33, ↓evE.eq_34, ↓evE.eq_35, ↓evE.eq_36, ↓evE.eq_37, ↓evE.eq_38, ↓evS.eq_1, ↓evS_seq, ↓evS.eq_3, ↓evS.eq_4, ↓evS.eq_5, ↓evS.eq_6, ↓evS.eq_7, ↓evS.eq_8, ↓evS_ite, ↓iteS, ↓evS.eq_11, ↓evS.eq_12, ↓evS.eq_13, ↓evS.eq_14, ↓evS.eq_15, ↓evS.eq_16, ↓evS.eq_17, ↓evS_for, ↓evA.eq_1, ↓evA.eq_2, ↓evT.eq_1, ↓evT.eq_2, ↓evO.eq_1, ↓evO.eq_2, ↓evI.eq_1, ↓evI.eq_2, ↓evI.eq_3, ↓evI.eq_4, ↓evI.eq_5, ↓evF.eq_1, ↓evF.eq_2, ↓m_bind, ↓m_then, ↓m_opt, SRes.bind_nx, SRes.bind_rt, SRes.bind_bk, SRes.bind_ct, SRes.bind_ex, SRes.bind_bad, at_call, at_glo, at_fuel, SRes.back, List.getElem?_cons_zero, List.getElem?_cons_succ, List.set_cons_zero, List.set_cons_succ, asgT, asgTs, cmpV, truV, binV, bltV, tyN, tyLe, subV, Option.map_some, Option.map_none, List.any_cons, List.any_nil, if_true, if_false, ite_true, ite_false, String.reduceBEq, Nat.reduceAdd, Bool.or_false, Bool.false_or, Bool.or_true, Bool.true_or, Bool.and_true, Bool.true_and, Bool.and_false, Bool.false_and, Bool.not_true, Bool.not_false, beq_self_eq_true, decide_true, decide_false, reduceCtorEq, Bool.false_eq_true, Ev.keyOf, dctKeys, List.length_cons, List.length_nil, List.zip_cons_cons, List.zip_nil_left, List.zip_nil_right, List.foldl_cons, List.foldl_nil, methV, setV, isL, permL_cons, permL_nil, List.map_cons, List.map_nil, valP_cons, valP_nil, key_str, key_int, ofString_eq, String.reduceEq, putP, sizeLine_eq, Nat.reduceLT, Nat.reduceLeDiff, sto_self, mulOk, powOk, divOk, Int.reducePow, Nat.reducePow, Int.reduceNeg, Int.reduceLT, Int.reduceLE, natAbs64, natAbs30, Int.reduceToNat, Int.reduceEq, Int.reduceAdd, Int.reduceSub, Int.reduceMul, ne_eq, not_false_eq_true, Int.reduceNe, Ev.alloc, Ev.eq_ii, Ev.eq_ss, Ev.eq_bb, Ev.eq_nn, Ev.eq_ni, Ev.eq_in, Ev.eq_ns, Ev.eq_sn, Ev.eq_nb, Ev.eq_bn, Ev.eq_is, Ev.eq_si, and_self, true_and, and_true, fmod_lt64, fmod_gt64, atI_0, atI_1, atI_2, atI_3, atI_4, atI_5, atI_6, atI_7, atI_8, atI_9, itemsV, smV, fmtV, lenSetV, seqOf, lstOf, slcV, revV, srcOf, optI, List.nil_append, List.cons_append, sto_new, intsP, sortI, insI, compL, compG, wipeP, boolsP, List.all_cons, List.all_nil, id_eq, keep_nil, maxI, minI, intsP, cutf_1, cutf_2, cutf_3, cutf_4, cutt_1, cutt_2, cutt_3, cutt_4, List.drop_succ_cons, List.drop_zero, List.take_succ_cons, List.take_zero, Int.cast_ofNat_Int, false_and, and_false, or_self, or_false, false_or, true_or, or_true, lit_e, tS_len, tS_cat, tS_eq, tS_lt, List.toList_toArray, g_MOST_WORD, g_LETTERS, g_MOST_POOL, g_MOST_WEIGHT, g_BEGIN, g_FACTOR, g_MODULUS, GC.pv, e1, e2, c1, g2', w0l, c2, e3, hr]
        rw [hT']
        obtain ⟨P, M', e, pp, d, k'⟩ := pool1_ok (n + 2) d3 hw g3 ki kj (some (.int m)) none none none
        exact ⟨P, M', e, pp, d, kk.trans (k3.trans k')⟩
    · simp only [↓evE.eq_1, ↓evE.eq_2, ↓evE.eq_3, ↓evE.eq_4, ↓evE.eq_5, ↓evE.eq_6, ↓evE.eq_7, ↓evE.eq_8, ↓evE.eq_9, ↓evE.eq_10, ↓evE.eq_11, ↓evE.eq_12, ↓evE.eq_13, ↓evE.eq_14, ↓evE.eq_15, ↓evE.eq_16, ↓evE.eq_17, ↓evE.eq_18, ↓evE.eq_19, ↓evE.eq_20, ↓evE.eq_21, ↓evE.eq_22, ↓evE.eq_23, ↓evE.eq_24, ↓evE.eq_25, ↓evE.eq_26, ↓evE.eq_27, ↓evE.eq_28, ↓evE.eq_29, ↓evE.eq_30, ↓evE.eq_31, ↓evE.eq_32, ↓evE.eq_33, ↓evE.eq_34, ↓evE.eq_35, ↓evE.eq_36, ↓evE.eq_37, ↓evE.eq_38, ↓evS.eq_1, ↓evS_seq, ↓evS.eq_3, ↓evS.eq_4, ↓evS.eq_5, ↓evS.eq_6, ↓evS.eq_7, ↓evS.eq_8, ↓evS_ite, ↓iteS, ↓evS.eq_11, ↓evS.eq_12, ↓evS.eq_13, ↓evS.eq_14, ↓evS.eq_15, ↓evS.eq_16, ↓evS.eq_17, ↓evS_for, ↓evA.eq_1, ↓evA.eq_2, ↓evT.eq_1, ↓evT.eq_2, ↓evO.eq_1, ↓evO.eq_2, ↓evI.eq_1, ↓evI.eq_2, ↓evI.eq_3, ↓evI.eq_4, ↓evI.eq_5, ↓evF.eq_1, ↓evF.eq_2, ↓m_bind, ↓m_then, ↓m_opt, SRes.bind_nx, SRes.bind_rt, SRes.bind_bk, SRes.bind_ct, SRes.bind_ex, SRes.bind_bad, at_call, at_glo, at_fuel, SRes.back, List.getElem?_cons_zero, List.getElem?_cons_succ, List.set_cons_zero, List.set_cons_succ, asgT, asgTs, cmpV, truV, binV, bltV, tyN, tyLe, subV, Option.map_some, Option.map_none, List.any_cons, List.any_nil, if_true, if_false, ite_true, ite_false, String.reduceBEq, Nat.reduceAdd, Bool.or_false, Bool.false_or, Bool.or_true, Bool.true_or, Bool.and_true, Bool.true_and, Bool.and_false, Bool.false_and, Bool.not_true, Bool.not_false, beq_self_eq_true, decide_true, decide_false, reduceCtorEq, Bool.false_eq_true, Ev.keyOf, dctKeys, List.length_cons, List.length_nil, List.zip_cons_cons, List.zip_nil_left, List.zip_nil_right, List.foldl_cons, List.foldl_nil, methV, setV, isL, permL_cons, permL_nil, List.map_cons, List.map_nil, valP_cons, valP_nil, key_str, key_int, ofString_eq, String.reduceEq, putP, sizeLine_eq, Nat.reduceLT, Nat.reduceLeDiff, sto_self, mulOk, powOk, divOk, Int.reducePow, Nat.reducePow, Int.reduceNeg, Int.reduceLT, Int.reduceLE, natAbs64, natAbs30, Int.reduceToNat, Int.reduceEq, Int.reduceAdd, Int.reduceSub, Int.reduceMul, ne_eq, not_false_eq_true, Int.reduceNe, Ev.alloc, Ev.eq_ii, Ev.eq_ss, Ev.eq_bb, Ev.eq_nn, Ev.eq_ni, Ev.eq_in, Ev.eq_ns, Ev.eq_sn, Ev.eq_nb, Ev.eq_bn, Ev.eq_is, Ev.eq_si, and_self, true_and, and_true, fmod_lt64, fmod_gt64, atI_0, atI_1, atI_2, atI_3, atI_4, atI_5, atI_6, atI_7, atI_8, atI_9, itemsV, smV, fmtV, lenSetV, seqOf, lstOf, slcV, revV, srcOf, optI, List.nil_append, List.cons_append, sto_new, intsP, sortI, insI, compL, compG, wipeP, boolsP, List.all_cons, List.all_nil, id_eq, keep_nil, maxI, minI, intsP, cutf_1, cutf_2, cutf_3, cutf_4, cutt_1, cutt_2, cutt_3, cutt_4, List.drop_succ_cons, List.drop_zero, List.take_succ_cons, List.take_zero, Int.cast_ofNat_Int, false_and, and_false, or_self, or_false, false_or, true_or, or_true, lit_e, tS_len, tS_cat, tS_eq, tS_lt, List.toList_toArray, g_MOST_WORD, g_LETTERS, g_MOST_POOL, g_MOST_WEIGHT, g_BEGIN, g_FACTOR, g_MODULUS, GC.pv, e1, e2, c1, g2', w0l, c2]
      rw [hT']
      obtain ⟨P, M', e, pp, d, k'⟩ := pool1_ok (n + 2) d2 hw g2 ki kj (some (.int m)) none none none
      exact ⟨P, M', e, pp, d, kk.trans k'⟩
  · simp only [↓evE.eq_1, ↓evE.eq_2, ↓evE.eq_3, ↓evE.eq_4, ↓evE.eq_5, ↓evE.eq_6, ↓evE.eq_7, ↓evE.eq_8, ↓evE.eq_9, ↓evE.eq_10, ↓evE.eq_11, ↓evE.eq_12, ↓evE.eq_13, ↓evE.eq_14, ↓evE.eq_15, ↓evE.eq_16, ↓evE.eq_17, ↓evE.eq_18, ↓evE.eq_19, ↓evE.eq_20, ↓evE.eq_21, ↓evE.eq_22, ↓evE.eq_23, ↓evE.eq_24, ↓evE.eq_25, ↓evE.eq_26, ↓evE.eq_27, ↓evE.eq_28, ↓evE.eq_29, ↓evE.eq_30, ↓evE.eq_31, ↓evE.eq_32, ↓evE.eq_33, ↓evE.eq_34, ↓evE.eq_35, ↓evE.eq_36, ↓evE.eq_37, ↓evE.eq_38, ↓evS.eq_1, ↓evS_seq, ↓evS.eq_3, ↓evS.eq_4, ↓evS.eq_5, ↓evS.eq_6, ↓evS.eq_7, ↓evS.eq_8, ↓evS_ite, ↓iteS, ↓evS.eq_11, ↓evS.eq_12, ↓evS.eq_13, ↓evS.eq_14, ↓evS.eq_15, ↓evS.eq_16, ↓evS.eq_17, ↓evS_for, ↓evA.eq_1, ↓evA.eq_2, ↓evT.eq_1, ↓evT.eq_2, ↓evO.eq_1, ↓evO.eq_2, ↓evI.eq_1, ↓evI.eq_2, ↓evI.eq_3, ↓evI.eq_4, ↓evI.eq_5, ↓evF.eq_1, ↓evF.eq_2, ↓m_bind, ↓m_then, ↓m_opt, SRes.bind_nx, SRes.bind_rt, SRes.bind_bk, SRes.bind_ct, SRes.bind_ex, SRes.bind_bad, at_call, at_glo, at_fuel, SRes.back, List.getElem?_cons_zero, List.getElem?_cons_succ, List.set_cons_zero, List.set_cons_succ, asgT, asgTs, cmpV, truV, binV, bltV, tyN, tyLe, subV, Option.map_some, Option.map_none, List.any_cons, List.any_nil, if_true, if_false, ite_true, ite_false, String.reduceBEq, Nat.reduceAdd, Bool.or_false, Bool.false_or, Bool.or_true, Bool.true_or, Bool.and_true, Bool.true_and, Bool.and_false, Bool.false_and, Bool.not_true, Bool.not_false, beq_self_eq_true, decide_true, decide_false, reduceCtorEq, Bool.false_eq_true, Ev.keyOf, dctKeys, List.length_cons, List.length_nil, List.zip_cons_cons, List.zip_nil_left, List.zip_nil_right, List.foldl_cons, List.foldl_nil, methV, setV, isL, permL_cons, permL_nil, List.map_cons, List.map_nil, valP_cons, valP_nil, key_str, key_int, ofString_eq, String.reduceEq, putP, sizeLine_eq, Nat.reduceLT, Nat.reduceLeDiff, sto_self, mulOk, powOk, divOk, Int.reducePow, Nat.reducePow, Int.reduceNeg, Int.reduceLT, Int.reduceLE, natAbs64, natAbs30, Int.reduceToNat, Int.reduceEq, Int.reduceAdd, Int.reduceSub, Int.reduceMul, ne_eq, not_false_eq_true, Int.reduceNe, Ev.alloc, Ev.eq_ii, Ev.eq_ss, Ev.eq_bb, Ev.eq_nn, Ev.eq_ni, Ev.eq_in, Ev.eq_ns, Ev.eq_sn, Ev.eq_nb, Ev.eq_bn, Ev.eq_is, Ev.eq_si, and_self, true_and, and_true, fmod_lt64, fmod_gt64, atI_0, atI_1, atI_2, atI_3, atI_4, atI_5, atI_6, atI_7, atI_8, atI_9, itemsV, smV, fmtV, lenSetV, seqOf, lstOf, slcV, revV, srcOf, optI, List.nil_append, List.cons_append, sto_new, intsP, sortI, insI, compL, compG, wipeP, boolsP, List.all_cons, List.all_nil, id_eq, keep_nil, maxI, minI, intsP, cutf_1, cutf_2, cutf_3, cutf_4, cutt_1, cutt_2, cutt_3, cutt_4, List.drop_succ_cons, List.drop_zero, List.take_succ_cons, List.take_zero, Int.cast_ofNat_Int, false_and, and_false, or_self, or_false, false_or, true_or, or_true, lit_e, tS_len, tS_cat, tS_eq, tS_lt, List.toList_toArray, g_MOST_WORD, g_LETTERS, g_MOST_POOL, g_MOST_WEIGHT, g_BEGIN, g_FACTOR, g_MODULUS, GC.pv, e1, e2, c1]
    rw [hT']
    obtain ⟨P, M', e, pp, d, k'⟩ := pool1_ok (n + 2) d2 hw g2 ki kj (some (.int m)) none none none
    exact ⟨P, M', e, pp, d, kk.trans k'⟩
end K20

set_option Elab.async false
set_option linter.all false
set_option maxRecDepth 100000
set_option maxHeartbeats 4000000
/-! K20w: drawn lots, busy numbers, changes. -/
namespace K20
open PySem L2 Ev
theorem iV_fine {l : List Nat} (h : ∀ a ∈ l, a < 1000) : fines (l.map iV) = true ∧ PyData.depthAll (pds (l.map iV)) ≤ 63 := by
  constructor
  · refine fines_all fun x hx => ?_
    obtain ⟨a, ha, rfl⟩ := List.mem_map.mp hx
    have := h a ha
    simp only [fine, decide_eq_true_eq]
    exact small (by omega) (by omega)
  · refine depths_all fun x hx => ?_
    obtain ⟨a, ha, rfl⟩ := List.mem_map.mp hx
    simp [pd, PyData.depth]
theorem lot_drawn (n : Nat) {i j : Nat} {M : Sto} (h : Dk i j M) {P : Pool} (hP : IsPool P) {m : Int} (hm : m = (P.length : Nat)) : ∃ l M', callN T (n + 2) "_law_drawn_lot" [.ref i, .int m] M = .ok (lV l) M' ∧ IsLot P l ∧ Dk i j M' ∧ Keep [i, j] M M' := by
  have p1 := hP.pos
  have p2 := hP.le
  have rg : rgOk 0 m = true := rgOk_nat (by omega) (by omega) (by omega) (by omega)
  have hr : rgP 0 m = (List.range' 0 P.length).map iV := by rw [hm, rg_zero, List.range_eq_range']
  rw [e__law_drawn_lot]
  unfold c__law_drawn_lot
  simp only [↓evE.eq_1, ↓evE.eq_2, ↓evE.eq_3, ↓evE.eq_4, ↓evE.eq_5, ↓evE.eq_6, ↓evE.eq_7, ↓evE.eq_8, ↓evE.eq_9, ↓evE.eq_10, ↓evE.eq_11, ↓evE.eq_12, ↓evE.eq_13, ↓evE.eq_14, ↓evE.eq_15, ↓evE.eq_16, ↓evE.eq_17, ↓evE.eq_18, ↓evE.eq_19, ↓evE.eq_20, ↓evE.eq_21, ↓evE.eq_22, ↓evE.eq_23, ↓evE.eq_24, ↓evE.eq_25, ↓evE.eq_26, ↓evE.eq_27, ↓evE.eq_28, ↓evE.eq_29, ↓evE.eq_30, ↓evE.eq_31, ↓evE.eq_32, ↓evE.eq_33, ↓evE.eq_34, ↓evE.eq_35, ↓evE.eq_36, ↓evE.eq_37, ↓evE.eq_38, ↓evS.eq_1, ↓evS_seq, ↓evS.eq_3, ↓evS.eq_4, ↓evS.eq_5, ↓evS.eq_6, ↓evS.eq_7, ↓evS.eq_8, ↓evS_ite, ↓iteS, ↓evS.eq_11, ↓evS.eq_12, ↓evS.eq_13, ↓evS.eq_14, ↓evS.eq_15, ↓evS.eq_16, ↓evS.eq_17, ↓evS_for, ↓evA.eq_1, ↓evA.eq_2, ↓evT.eq_1, ↓evT.eq_2, ↓evO.eq_1, ↓evO.eq_2, ↓evI.eq_1, ↓evI.eq_2, ↓evI.eq_3, ↓evI.eq_4, ↓evI.eq_5, ↓evF.eq_1, ↓evF.eq_2, ↓m_bind, ↓m_then, ↓m_opt, SRes.bind_nx, SRes.bind_rt, SRes.bind_bk, SRes.bind_ct, SRes.bind_ex, SRes.bind_bad, at_call, at_glo, at_fuel, SRes.back, List.getElem?_cons_zero, List.getElem?_cons_succ, List.set_cons_zero, List.set_cons_succ, asgT, asgTs, cmpV, truV, binV, bltV, tyN, tyLe, subV, Option.map_some, Option.map_none, List.any_cons, List.any_nil, if_true, if_false, ite_true, ite_false, String.reduceBEq, Nat.reduceAdd, Bool.or_false, Bool.false_or, Bool.or_true, Bool.true_or, Bool.and_true, Bool.true_and, Bool.and_false, Bool.false_and, Bool.not_true, Bool.not_false, beq_self_eq_true, decide_true, decide_false, reduceCtorEq, Bool.false_eq_true, Ev.keyOf, dctKeys, List.length_cons, List.length_nil, List.zip_cons_cons, List.zip_nil_left, List.zip_nil_right, List.foldl_cons, List.foldl_nil, methV, setV, isL, permL_cons, permL_nil, List.map_cons, List.map_nil, valP_cons, valP_nil, key_str, key_int, ofString_eq, String.reduceEq, putP, sizeLine_eq, Nat.reduceLT, Nat.reduceLeDiff, sto_self, mulOk, powOk, divOk, Int.reducePow, Nat.reducePow, Int.reduceNeg, Int.reduceLT, Int.reduceLE, natAbs64, natAbs30, Int.reduceToNat, Int.reduceEq, Int.reduceAdd, Int.reduceSub, Int.reduceMul, ne_eq, not_false_eq_true, Int.reduceNe, Ev.alloc, Ev.eq_ii, Ev.eq_ss, Ev.eq_bb, Ev.eq_nn, Ev.eq_ni, Ev.eq_in, Ev.eq_ns, Ev.eq_sn, Ev.eq_nb, Ev.eq_bn, Ev.eq_is, Ev.eq_si, and_self, true_and, and_true, fmod_lt64, fmod_gt64, atI_0, atI_1, atI_2, atI_3, atI_4, atI_5, atI_6, atI_7, atI_8, atI_9, itemsV, smV, fmtV, lenSetV, seqOf, lstOf, slcV, revV, srcOf, optI, List.nil_append, List.cons_append, sto_new, intsP, sortI, insI, compL, compG, wipeP, boolsP, List.all_cons, List.all_nil, id_eq, keep_nil, maxI, minI, intsP, cutf_1, cutf_2, cutf_3, cutf_4, cutt_1, cutt_2, cutt_3, cutt_4, List.drop_succ_cons, List.drop_zero, List.take_succ_cons, List.take_zero, Int.cast_ofNat_Int, false_and, and_false, or_self, or_false, false_or, true_or, or_true, lit_e, tS_len, tS_cat, tS_eq, tS_lt, List.toList_toArray, g_MOST_WORD, g_LETTERS, g_MOST_POOL, g_MOST_WEIGHT, g_BEGIN, g_FACTOR, g_MODULUS, GC.pv, rg, hr]
  generalize hq : compL _ _ _ _ _ = q
  obtain ⟨out, M1, rfl, l, a, h1, h2, h3, h4, h5, d1, k1⟩ := comp_gen' hq (fun xs acc M1 => ∃ l a, xs = (List.range' a (P.length - a)).map iV ∧ acc = l.map iV ∧ (∀ x ∈ l, x < a) ∧ l.Pairwise (· < ·) ∧ (a ≤ P.length ∧ l.length ≤ a) ∧ Dk i j M1 ∧ Keep [i, j] M M1)
    ⟨[], 0, by simp, rfl, (fun _ z => by cases z), .nil, ⟨by omega, by simp⟩, h, Keep.refl _⟩ (fun _ _ _ _ => rfl)
    (fun x xs acc M1 ⟨l, a, h1, h2, h3, h4, h5, d1, k1⟩ => by
      have ha : a < P.length := by
        rcases Nat.lt_or_ge a P.length with q | q
        · exact q
        · rw [show P.length - a = 0 by omega] at h1; cases h1
      rw [show P.length - a = (P.length - (a + 1)) + 1 by omega, List.range'_succ] at h1
      cases h1
      refine ⟨by rw [h2, sizeLine_eq]; simp only [List.length_map]; omega, ?_⟩
      obtain ⟨r, M2, e2, r1, r2, d2, k2⟩ := draw_ok n d1 (many := 3) (by omega) (by omega)
      refine ⟨M2, ?_⟩
      by_cases hr : 0 < r
      · refine .inl ⟨iV a, ?_, l ++ [a], a + 1, rfl, by rw [h2]; simp, fun x hx => ?_, ?_, ⟨by omega, by simp; omega⟩, d2, k1.trans k2⟩
        · simp only [↓evE.eq_1, ↓evE.eq_2, ↓evE.eq_3, ↓evE.eq_4, ↓evE.eq_5, ↓evE.eq_6, ↓evE.eq_7, ↓evE.eq_8, ↓evE.eq_9, ↓evE.eq_10, ↓evE.eq_11, ↓evE.eq_12, ↓evE.eq_13, ↓evE.eq_14, ↓evE.eq_15, ↓evE.eq_16, ↓evE.eq_17, ↓evE.eq_18, ↓evE.eq_19, ↓evE.eq_20, ↓evE.eq_21, ↓evE.eq_22, ↓evE.eq_23, ↓evE.eq_24, ↓evE.eq_25, ↓evE.eq_26, ↓evE.eq_27, ↓evE.eq_28, ↓evE.eq_29, ↓evE.eq_30, ↓evE.eq_31, ↓evE.eq_32, ↓evE.eq_33, ↓evE.eq_34, ↓evE.eq_35, ↓evE.eq_36, ↓evE.eq_37, ↓evE.eq_38, ↓evS.eq_1, ↓evS_seq, ↓evS.eq_3, ↓evS.eq_4, ↓evS.eq_5, ↓evS.eq_6, ↓evS.eq_7, ↓evS.eq_8, ↓evS_ite, ↓iteS, ↓evS.eq_11, ↓evS.eq_12, ↓evS.eq_13, ↓evS.eq_14, ↓evS.eq_15, ↓evS.eq_16, ↓evS.eq_17, ↓evS_for, ↓evA.eq_1, ↓evA.eq_2, ↓evT.eq_1, ↓evT.eq_2, ↓evO.eq_1, ↓evO.eq_2, ↓evI.eq_1, ↓evI.eq_2, ↓evI.eq_3, ↓evI.eq_4, ↓evI.eq_5, ↓evF.eq_1, ↓evF.eq_2, ↓m_bind, ↓m_then, ↓m_opt, SRes.bind_nx, SRes.bind_rt, SRes.bind_bk, SRes.bind_ct, SRes.bind_ex, SRes.bind_bad, at_call, at_glo, at_fuel, SRes.back, List.getElem?_cons_zero, List.getElem?_cons_succ, List.set_cons_zero, List.set_cons_succ, asgT, asgTs, cmpV, truV, binV, bltV, tyN, tyLe, subV, Option.map_some, Option.map_none, List.any_cons, List.any_nil, if_true, if_false, ite_true, ite_false, String.reduceBEq, Nat.reduceAdd, Bool.or_false, Bool.false_or, Bool.or_true, Bool.true_or, Bool.and_true, Bool.true_and, Bool.and_false, Bool.false_and, Bool.not_true, Bool.not_false, beq_self_eq_true, decide_true, decide_false, reduceCtorEq, Bool.false_eq_true, Ev.keyOf, dctKeys, List.length_cons, List.length_nil, List.zip_cons_cons, List.zip_nil_left, List.zip_nil_right, List.foldl_cons, List.foldl_nil, methV, setV, isL, permL_cons, permL_nil, List.map_cons, List.map_nil, valP_cons, valP_nil, key_str, key_int, ofString_eq, String.reduceEq, putP, sizeLine_eq, Nat.reduceLT, Nat.reduceLeDiff, sto_self, mulOk, powOk, divOk, Int.reducePow, Nat.reducePow, Int.reduceNeg, Int.reduceLT, Int.reduceLE, natAbs64, natAbs30, Int.reduceToNat, Int.reduceEq, Int.reduceAdd, Int.reduceSub, Int.reduceMul, ne_eq, not_false_eq_true, Int.reduceNe, Ev.alloc, Ev.eq_ii, Ev.eq_ss, Ev.eq_bb, Ev.eq_nn, Ev.eq_ni, Ev.eq_in, Ev.eq_ns, Ev.eq_sn, Ev.eq_nb, Ev.eq_bn, Ev.eq_is, Ev.eq_si, and_self, true_and, and_true, fmod_lt64, fmod_gt64, atI_0, atI_1, atI_2, atI_3, atI_4, atI_5, atI_6, atI_7, atI_8, atI_9, itemsV, smV, fmtV, lenSetV, seqOf, lstOf, slcV, revV, srcOf, optI, List.nil_append, List.cons_append, sto_new, intsP, sortI, insI, compL, compG, wipeP, boolsP, List.all_cons, List.all_nil, id_eq, keep_nil, maxI, minI, intsP, cutf_1, cutf_2, cutf_3, cutf_4, cutt_1, cutt_2, cutt_3, cutt_4, List.drop_succ_cons, List.drop_zero, List.take_succ_cons, List.take_zero, Int.cast_ofNat_Int, false_and, and_false, or_self, or_false, false_or, true_or, or_true, lit_e, tS_len, tS_cat, tS_eq, tS_lt, List.toList_toArray, g_MOST_WORD, g_LETTERS, g_MOST_POOL, g_MOST_WEIGHT, g_BEGIN, g_FACTOR, g_MODULUS, GC.pv, e2, hr]
        · rcases List.mem_append.mp hx with hx | hx
          · have := h3 x hx; omega
          · rw [List.mem_singleton.mp hx]; omega
        · rw [List.pairwise_append]
          exact ⟨h4, by simp, fun x hx y hy => by rw [List.mem_singleton.mp hy]; exact h3 x hx⟩
      · refine .inr ⟨?_, l, a + 1, rfl, h2, fun x hx => Nat.lt_succ_of_lt (h3 x hx), h4, ⟨by omega, by omega⟩, d2, k1.trans k2⟩
        simp only [↓evE.eq_1, ↓evE.eq_2, ↓evE.eq_3, ↓evE.eq_4, ↓evE.eq_5, ↓evE.eq_6, ↓evE.eq_7, ↓evE.eq_8, ↓evE.eq_9, ↓evE.eq_10, ↓evE.eq_11, ↓evE.eq_12, ↓evE.eq_13, ↓evE.eq_14, ↓evE.eq_15, ↓evE.eq_16, ↓evE.eq_17, ↓evE.eq_18, ↓evE.eq_19, ↓evE.eq_20, ↓evE.eq_21, ↓evE.eq_22, ↓evE.eq_23, ↓evE.eq_24, ↓evE.eq_25, ↓evE.eq_26, ↓evE.eq_27, ↓evE.eq_28, ↓evE.eq_29, ↓evE.eq_30, ↓evE.eq_31, ↓evE.eq_32, ↓evE.eq_33, ↓evE.eq_34, ↓evE.eq_35, ↓evE.eq_36, ↓evE.eq_37, ↓evE.eq_38, ↓evS.eq_1, ↓evS_seq, ↓evS.eq_3, ↓evS.eq_4, ↓evS.eq_5, ↓evS.eq_6, ↓evS.eq_7, ↓evS.eq_8, ↓evS_ite, ↓iteS, ↓evS.eq_11, ↓evS.eq_12, ↓evS.eq_13, ↓evS.eq_14, ↓evS.eq_15, ↓evS.eq_16, ↓evS.eq_17, ↓evS_for, ↓evA.eq_1, ↓evA.eq_2, ↓evT.eq_1, ↓evT.eq_2, ↓evO.eq_1, ↓evO.eq_2, ↓evI.eq_1, ↓evI.eq_2, ↓evI.eq_3, ↓evI.eq_4, ↓evI.eq_5, ↓evF.eq_1, ↓evF.eq_2, ↓m_bind, ↓m_then, ↓m_opt, SRes.bind_nx, SRes.bind_rt, SRes.bind_bk, SRes.bind_ct, SRes.bind_ex, SRes.bind_bad, at_call, at_glo, at_fuel, SRes.back, List.getElem?_cons_zero, List.getElem?_cons_succ, List.set_cons_zero, List.set_cons_succ, asgT, asgTs, cmpV, truV, binV, bltV, tyN, tyLe, subV, Option.map_some, Option.map_none, List.any_cons, List.any_nil, if_true, if_false, ite_true, ite_false, String.reduceBEq, Nat.reduceAdd, Bool.or_false, Bool.false_or, Bool.or_true, Bool.true_or, Bool.and_true, Bool.true_and, Bool.and_false, Bool.false_and, Bool.not_true, Bool.not_false, beq_self_eq_true, decide_true, decide_false, reduceCtorEq, Bool.false_eq_true, Ev.keyOf, dctKeys, List.length_cons, List.length_nil, List.zip_cons_cons, List.zip_nil_left, List.zip_nil_right, List.foldl_cons, List.foldl_nil, methV, setV, isL, permL_cons, permL_nil, List.map_cons, List.map_nil, valP_cons, valP_nil, key_str, key_int, ofString_eq, String.reduceEq, putP, sizeLine_eq, Nat.reduceLT, Nat.reduceLeDiff, sto_self, mulOk, powOk, divOk, Int.reducePow, Nat.reducePow, Int.reduceNeg, Int.reduceLT, Int.reduceLE, natAbs64, natAbs30, Int.reduceToNat, Int.reduceEq, Int.reduceAdd, Int.reduceSub, Int.reduceMul, ne_eq, not_false_eq_true, Int.reduceNe, Ev.alloc, Ev.eq_ii, Ev.eq_ss, Ev.eq_bb, Ev.eq_nn, Ev.eq_ni, Ev.eq_in, Ev.eq_ns, Ev.eq_sn, Ev.eq_nb, Ev.eq_bn, Ev.eq_is, Ev.eq_si, and_self, true_and, and_true, fmod_lt64, fmod_gt64, atI_0, atI_1, atI_2, atI_3, atI_4, atI_5, atI_6, atI_7, atI_8, atI_9, itemsV, smV, fmtV, lenSetV, seqOf, lstOf, slcV, revV, srcOf, optI, List.nil_append, List.cons_append, sto_new, intsP, sortI, insI, compL, compG, wipeP, boolsP, List.all_cons, List.all_nil, id_eq, keep_nil, maxI, minI, intsP, cutf_1, cutf_2, cutf_3, cutf_4, cutt_1, cutt_2, cutt_3, cutt_4, List.drop_succ_cons, List.drop_zero, List.take_succ_cons, List.take_zero, Int.cast_ofNat_Int, false_and, and_false, or_self, or_false, false_or, true_or, or_true, lit_e, tS_len, tS_cat, tS_eq, tS_lt, List.toList_toArray, g_MOST_WORD, g_LETTERS, g_MOST_POOL, g_MOST_WEIGHT, g_BEGIN, g_FACTOR, g_MODULUS, GC.pv, e2, hr])
  subst h2
  obtain ⟨f1, f2⟩ := iV_fine (l := l) (fun x hx => by have := h3 x hx; omega)
  have g1 : (M1 ++ [MO.lst (l.map iV)] ++ [MO.lst []])[M1.length]? = some (.lst (l.map iV)) := sto_app (sto_new _ _)
  cases l with
  | nil =>
    obtain ⟨r, M2, e2, r1, r2, d2, k2⟩ := draw_ok n ((d1.app [.lst []]).app [.lst []]) (many := m) (by omega) (by omega)
    obtain ⟨b, rfl⟩ : ∃ b : Nat, r = b := ⟨r.toNat, by omega⟩
    have en : eqV (M1 ++ [MO.lst []] ++ [MO.lst []]) (.ref M1.length) (.ref (M1 ++ [MO.lst []]).length) = some true := eq_new_empty (xs := []) rfl (by simp [pds, PyData.depthAll]) M1
    simp only [↓evE.eq_1, ↓evE.eq_2, ↓evE.eq_3, ↓evE.eq_4, ↓evE.eq_5, ↓evE.eq_6, ↓evE.eq_7, ↓evE.eq_8, ↓evE.eq_9, ↓evE.eq_10, ↓evE.eq_11, ↓evE.eq_12, ↓evE.eq_13, ↓evE.eq_14, ↓evE.eq_15, ↓evE.eq_16, ↓evE.eq_17, ↓evE.eq_18, ↓evE.eq_19, ↓evE.eq_20, ↓evE.eq_21, ↓evE.eq_22, ↓evE.eq_23, ↓evE.eq_24, ↓evE.eq_25, ↓evE.eq_26, ↓evE.eq_27, ↓evE.eq_28, ↓evE.eq_29, ↓evE.eq_30, ↓evE.eq_31, ↓evE.eq_32, ↓evE.eq_33, ↓evE.eq_34, ↓evE.eq_35, ↓evE.eq_36, ↓evE.eq_37, ↓evE.eq_38, ↓evS.eq_1, ↓evS_seq, ↓evS.eq_3, ↓evS.eq_4, ↓evS.eq_5, ↓evS.eq_6, ↓evS.eq_7, ↓evS.eq_8, ↓evS_ite, ↓iteS, ↓evS.eq_11, ↓evS.eq_12, ↓evS.eq_13, ↓evS.eq_14, ↓evS.eq_15, ↓evS.eq_16, ↓evS.eq_17, ↓evS_for, ↓evA.eq_1, ↓evA.eq_2, ↓evT.eq_1, ↓evT.eq_2, ↓evO.eq_1, ↓evO.eq_2, ↓evI.eq_1, ↓evI.eq_2, ↓evI.eq_3, ↓evI.eq_4, ↓evI.eq_5, ↓evF.eq_1, ↓evF.eq_2, ↓m_bind, ↓m_then, ↓m_opt, SRes.bind_nx, SRes.bind_rt, SRes.bind_bk, SRes.bind_ct, SRes.bind_ex, SRes.bind_bad, at_call, at_glo, at_fuel, SRes.back, List.getElem?_cons_zero, List.getElem?_cons_succ, List.set_cons_zero, List.set_cons_succ, asgT, asgTs, cmpV, truV, binV, bltV, tyN, tyLe, subV, Option.map_some, Option.map_none, List.any_cons, List.any_nil, if_true, if_false, ite_true, ite_false, String.reduceBEq, Nat.reduceAdd, Bool.or_false, Bool.false_or, Bool.or_true, Bool.true_or, Bool.and_true, Bool.true_and, Bool.and_false, Bool.false_and, Bool.not_true, Bool.not_false, beq_self_eq_true, decide_true, decide_false, reduceCtorEq, Bool.false_eq_true, Ev.keyOf, dctKeys, List.length_cons, List.length_nil, List.zip_cons_cons, List.zip_nil_left, List.zip_nil_right, List.foldl_cons, List.foldl_nil, methV, setV, isL, permL_cons, permL_nil, List.map_cons, List.map_nil, valP_cons, valP_nil, key_str, key_int, ofString_eq, String.reduceEq, putP, sizeLine_eq, Nat.reduceLT, Nat.reduceLeDiff, sto_self, mulOk, powOk, divOk, Int.reducePow, Nat.reducePow, Int.reduceNeg, Int.reduceLT, Int.reduceLE, natAbs64, natAbs30, Int.reduceToNat, Int.reduceEq, Int.reduceAdd, Int.reduceSub, Int.reduceMul, ne_eq, not_false_eq_true, Int.reduceNe, Ev.alloc, Ev.eq_ii, Ev.eq_ss, Ev.eq_bb, Ev.eq_nn, Ev.eq_ni, Ev.eq_in, Ev.eq_ns, Ev.eq_sn, Ev.eq_nb, Ev.eq_bn, Ev.eq_is, Ev.eq_si, and_self, true_and, and_true, fmod_lt64, fmod_gt64, atI_0, atI_1, atI_2, atI_3, atI_4, atI_5, atI_6, atI_7, atI_8, atI_9, itemsV, smV, fmtV, lenSetV, seqOf, lstOf, slcV, revV, srcOf, optI, List.nil_append, List.cons_append, sto_new, intsP, sortI, insI, compL, compG, wipeP, boolsP, List.all_cons, List.all_nil, id_eq, keep_nil, maxI, minI, intsP, cutf_1, cutf_2, cutf_3, cutf_4, cutt_1, cutt_2, cutt_3, cutt_4, List.drop_succ_cons, List.drop_zero, List.take_succ_cons, List.take_zero, Int.cast_ofNat_Int, false_and, and_false, or_self, or_false, false_or, true_or, or_true, lit_e, tS_len, tS_cat, tS_eq, tS_lt, List.toList_toArray, g_MOST_WORD, g_LETTERS, g_MOST_POOL, g_MOST_WEIGHT, g_BEGIN, g_FACTOR, g_MODULUS, GC.pv, en, e2]
    exact ⟨[b], M2, rfl, ⟨by simp, fun x hx => by rw [List.mem_singleton.mp hx]; omega, by simp⟩, d2, k1.trans (Keep.app.trans (Keep.app.trans k2))⟩
  | cons a0 l =>
    have ie : ((a0 :: l).map iV).isEmpty = false := rfl
    generalize hX : (a0 :: l).map iV = X at *
    simp only [↓evE.eq_1, ↓evE.eq_2, ↓evE.eq_3, ↓evE.eq_4, ↓evE.eq_5, ↓evE.eq_6, ↓evE.eq_7, ↓evE.eq_8, ↓evE.eq_9, ↓evE.eq_10, ↓evE.eq_11, ↓evE.eq_12, ↓evE.eq_13, ↓evE.eq_14, ↓evE.eq_15, ↓evE.eq_16, ↓evE.eq_17, ↓evE.eq_18, ↓evE.eq_19, ↓evE.eq_20, ↓evE.eq_21, ↓evE.eq_22, ↓evE.eq_23, ↓evE.eq_24, ↓evE.eq_25, ↓evE.eq_26, ↓evE.eq_27, ↓evE.eq_28, ↓evE.eq_29, ↓evE.eq_30, ↓evE.eq_31, ↓evE.eq_32, ↓evE.eq_33, ↓evE.eq_34, ↓evE.eq_35, ↓evE.eq_36, ↓evE.eq_37, ↓evE.eq_38, ↓evS.eq_1, ↓evS_seq, ↓evS.eq_3, ↓evS.eq_4, ↓evS.eq_5, ↓evS.eq_6, ↓evS.eq_7, ↓evS.eq_8, ↓evS_ite, ↓iteS, ↓evS.eq_11, ↓evS.eq_12, ↓evS.eq_13, ↓evS.eq_14, ↓evS.eq_15, ↓evS.eq_16, ↓evS.eq_17, ↓evS_for, ↓evA.eq_1, ↓evA.eq_2, ↓evT.eq_1, ↓evT.eq_2, ↓evO.eq_1, ↓evO.eq_2, ↓evI.eq_1, ↓evI.eq_2, ↓evI.eq_3, ↓evI.eq_4, ↓evI.eq_5, ↓evF.eq_1, ↓evF.eq_2, ↓m_bind, ↓m_then, ↓m_opt, SRes.bind_nx, SRes.bind_rt, SRes.bind_bk, SRes.bind_ct, SRes.bind_ex, SRes.bind_bad, at_call, at_glo, at_fuel, SRes.back, List.getElem?_cons_zero, List.getElem?_cons_succ, List.set_cons_zero, List.set_cons_succ, asgT, asgTs, cmpV, truV, binV, bltV, tyN, tyLe, subV, Option.map_some, Option.map_none, List.any_cons, List.any_nil, if_true, if_false, ite_true, ite_false, String.reduceBEq, Nat.reduceAdd, Bool.or_false, Bool.false_or, Bool.or_true, Bool.true_or, Bool.and_true, Bool.true_and, Bool.and_false, Bool.false_and, Bool.not_true, Bool.not_false, beq_self_eq_true, decide_true, decide_false, reduceCtorEq, Bool.false_eq_true, Ev.keyOf, dctKeys, List.length_cons, List.length_nil, List.zip_cons_cons, List.zip_nil_left, List.zip_nil_right, List.foldl_cons, List.foldl_nil, methV, setV, isL, permL_cons, permL_nil, List.map_cons, List.map_nil, valP_cons, valP_nil, key_str, key_int, ofString_eq, String.reduceEq, putP, sizeLine_eq, Nat.reduceLT, Nat.reduceLeDiff, sto_self, mulOk, powOk, divOk, Int.reducePow, Nat.reducePow, Int.reduceNeg, Int.reduceLT, Int.reduceLE, natAbs64, natAbs30, Int.reduceToNat, Int.reduceEq, Int.reduceAdd, Int.reduceSub, Int.reduceMul, ne_eq, not_false_eq_true, Int.reduceNe, Ev.alloc, Ev.eq_ii, Ev.eq_ss, Ev.eq_bb, Ev.eq_nn, Ev.eq_ni, Ev.eq_in, Ev.eq_ns, Ev.eq_sn, Ev.eq_nb, Ev.eq_bn, Ev.eq_is, Ev.eq_si, and_self, true_and, and_true, fmod_lt64, fmod_gt64, atI_0, atI_1, atI_2, atI_3, atI_4, atI_5, atI_6, atI_7, atI_8, atI_9, itemsV, smV, fmtV, lenSetV, seqOf, lstOf, slcV, revV, srcOf, optI, List.nil_append, List.cons_append, sto_new, intsP, sortI, insI, compL, compG, wipeP, boolsP, List.all_cons, List.all_nil, id_eq, keep_nil, maxI, minI, intsP, cutf_1, cutf_2, cutf_3, cutf_4, cutt_1, cutt_2, cutt_3, cutt_4, List.drop_succ_cons, List.drop_zero, List.take_succ_cons, List.take_zero, Int.cast_ofNat_Int, false_and, and_false, or_self, or_false, false_or, true_or, or_true, lit_e, tS_len, tS_cat, tS_eq, tS_lt, List.toList_toArray, g_MOST_WORD, g_LETTERS, g_MOST_POOL, g_MOST_WEIGHT, g_BEGIN, g_FACTOR, g_MODULUS, GC.pv, eq_new_empty f1 f2, ie, g1]
    rw [← hX]
    exact ⟨a0 :: l, _, rfl, ⟨by simp, fun x hx => by have := h3 x hx; omega, h4⟩, (d1.app _).app _, k1.trans (Keep.app.trans Keep.app)⟩
theorem app_int {b : List Int} (h : ∀ x ∈ b, 0 ≤ x) {v : Int} (hv : 0 ≤ v) : ∀ x ∈ b ++ [v], 0 ≤ x := fun x hx => by
  rcases List.mem_append.mp hx with hx | hx
  · exact h x hx
  · rw [List.mem_singleton.mp hx]; exact hv
/-- (a cast in the place of pi is too much for the kernel) -/
theorem weight_turn (n : Nat) (M : Sto) (w : List Nat) {ti pi : Int} (t1 : -18446744073709551616 < ti) (t2 : ti < 18446744073709551616) (a b c d e f : Option PV) :
    compG ((CT.nm 5).cons ((CT.nm 6).cons CT.nil)).tp [a, b, c, d, some (.int ti), e, f] (evT (T.at (n + 1)) E_)
        (evE (T.at (n + 1)) (CE.bin Operator.Sub (CE.bin Operator.Mult (V 6) (V 4)) (I 1))) (.tup [tv w, .int pi]) M = .ok (some (.int (pi * ti - 1))) M := by
  have b1 := eq_true t1
  have b2 := eq_true t2
  simp only [↓evE.eq_1, ↓evE.eq_2, ↓evE.eq_3, ↓evE.eq_4, ↓evE.eq_5, ↓evE.eq_6, ↓evE.eq_7, ↓evE.eq_8, ↓evE.eq_9, ↓evE.eq_10, ↓evE.eq_11, ↓evE.eq_12, ↓evE.eq_13, ↓evE.eq_14, ↓evE.eq_15, ↓evE.eq_16, ↓evE.eq_17, ↓evE.eq_18, ↓evE.eq_19, ↓evE.eq_20, ↓evE.eq_21, ↓evE.eq_22, ↓evE.eq_23, ↓evE.eq_24, ↓evE.eq_25, ↓evE.eq_26, ↓evE.eq_27, ↓evE.eq_28, ↓evE.eq_29, ↓evE.eq_30, ↓evE.eq_31, ↓evE.eq_32, ↓evE.eq_33, ↓evE.eq_34, ↓evE.eq_35, ↓evE.eq_36, ↓evE.eq_37, ↓evE.eq_38, ↓evS.eq_1, ↓evS_seq, ↓evS.eq_3, ↓evS.eq_4, ↓evS.eq_5, ↓evS.eq_6, ↓evS.eq_7, ↓evS.eq_8, ↓evS_ite, ↓iteS, ↓evS.eq_11, ↓evS.eq_12, ↓evS.eq_13, ↓evS.eq_14, ↓evS.eq_15, ↓evS.eq_16, ↓evS.eq_17, ↓evS_for, ↓evA.eq_1, ↓evA.eq_2, ↓evT.eq_1, ↓evT.eq_2, ↓evO.eq_1, ↓evO.eq_2, ↓evI.eq_1, ↓evI.eq_2, ↓evI.eq_3, ↓evI.eq_4, ↓evI.eq_5, ↓evF.eq_1, ↓evF.eq_2, ↓m_bind, ↓m_then, ↓m_opt, SRes.bind_nx, SRes.bind_rt, SRes.bind_bk, SRes.bind_ct, SRes.bind_ex, SRes.bind_bad, at_call, at_glo, at_fuel, SRes.back, List.getElem?_cons_zero, List.getElem?_cons_succ, List.set_cons_zero, List.set_cons_succ, asgT, asgTs, cmpV, truV, binV, bltV, tyN, tyLe, subV, Option.map_some, Option.map_none, List.any_cons, List.any_nil, if_true, if_false, ite_true, ite_false, String.reduceBEq, Nat.reduceAdd, Bool.or_false, Bool.false_or, Bool.or_true, Bool.true_or, Bool.and_true, Bool.true_and, Bool.and_false, Bool.false_and, Bool.not_true, Bool.not_false, beq_self_eq_true, decide_true, decide_false, reduceCtorEq, Bool.false_eq_true, Ev.keyOf, dctKeys, List.length_cons, List.length_nil, List.zip_cons_cons, List.zip_nil_left, List.zip_nil_right, List.foldl_cons, List.foldl_nil, methV, setV, isL, permL_cons, permL_nil, List.map_cons, List.map_nil, valP_cons, valP_nil, key_str, key_int, ofString_eq, String.reduceEq, putP, sizeLine_eq, Nat.reduceLT, Nat.reduceLeDiff, sto_self, mulOk, powOk, divOk, Int.reducePow, Nat.reducePow, Int.reduceNeg, Int.reduceLT, Int.reduceLE, natAbs64, natAbs30, Int.reduceToNat, Int.reduceEq, Int.reduceAdd, Int.reduceSub, Int.reduceMul, ne_eq, not_false_eq_true, Int.reduceNe, Ev.alloc, Ev.eq_ii, Ev.eq_ss, Ev.eq_bb, Ev.eq_nn, Ev.eq_ni, Ev.eq_in, Ev.eq_ns, Ev.eq_sn, Ev.eq_nb, Ev.eq_bn, Ev.eq_is, Ev.eq_si, and_self, true_and, and_true, fmod_lt64, fmod_gt64, atI_0, atI_1, atI_2, atI_3, atI_4, atI_5, atI_6, atI_7, atI_8, atI_9, itemsV, smV, fmtV, lenSetV, seqOf, lstOf, slcV, revV, srcOf, optI, List.nil_append, List.cons_append, sto_new, intsP, sortI, insI, compL, compG, wipeP, boolsP, List.all_cons, List.all_nil, id_eq, keep_nil, maxI, minI, intsP, cutf_1, cutf_2, cutf_3, cutf_4, cutt_1, cutt_2, cutt_3, cutt_4, List.drop_succ_cons, List.drop_zero, List.take_succ_cons, List.take_zero, Int.cast_ofNat_Int, false_and, and_false, or_self, or_false, false_or, true_or, or_true, lit_e, tS_len, tS_cat, tS_eq, tS_lt, List.toList_toArray, g_MOST_WORD, g_LETTERS, g_MOST_POOL, g_MOST_WEIGHT, g_BEGIN, g_FACTOR, g_MODULUS, GC.pv, b1, b2]
theorem busy_drawn (n : Nat) {i j : Nat} {M : Sto} (h : Dk i j M) {P : Pool} (hP : IsPool P) : ∃ b M', callN T (n + 2) "_law_drawn_busy" [.ref i, pV P] M = .ok (bV b) M' ∧ IsBusy P b ∧ Dk i j M' ∧ Keep [i, j] M M' := by
  have p2 := hP.le
  rw [e__law_drawn_busy]
  unfold c__law_drawn_busy
  obtain ⟨way, M1, e1, w1, w2, d1, k1⟩ := draw_ok n h (many := 4) (by omega) (by omega)
  by_cases c0 : way = 0
  · simp only [↓evE.eq_1, ↓evE.eq_2, ↓evE.eq_3, ↓evE.eq_4, ↓evE.eq_5, ↓evE.eq_6, ↓evE.eq_7, ↓evE.eq_8, ↓evE.eq_9, ↓evE.eq_10, ↓evE.eq_11, ↓evE.eq_12, ↓evE.eq_13, ↓evE.eq_14, ↓evE.eq_15, ↓evE.eq_16, ↓evE.eq_17, ↓evE.eq_18, ↓evE.eq_19, ↓evE.eq_20, ↓evE.eq_21, ↓evE.eq_22, ↓evE.eq_23, ↓evE.eq_24, ↓evE.eq_25, ↓evE.eq_26, ↓evE.eq_27, ↓evE.eq_28, ↓evE.eq_29, ↓evE.eq_30, ↓evE.eq_31, ↓evE.eq_32, ↓evE.eq_33, ↓evE.eq_34, ↓evE.eq_35, ↓evE.eq_36, ↓evE.eq_37, ↓evE.eq_38, ↓evS.eq_1, ↓evS_seq, ↓evS.eq_3, ↓evS.eq_4, ↓evS.eq_5, ↓evS.eq_6, ↓evS.eq_7, ↓evS.eq_8, ↓evS_ite, ↓iteS, ↓evS.eq_11, ↓evS.eq_12, ↓evS.eq_13, ↓evS.eq_14, ↓evS.eq_15, ↓evS.eq_16, ↓evS.eq_17, ↓evS_for, ↓evA.eq_1, ↓evA.eq_2, ↓evT.eq_1, ↓evT.eq_2, ↓evO.eq_1, ↓evO.eq_2, ↓evI.eq_1, ↓evI.eq_2, ↓evI.eq_3, ↓evI.eq_4, ↓evI.eq_5, ↓evF.eq_1, ↓evF.eq_2, ↓m_bind, ↓m_then, ↓m_opt, SRes.bind_nx, SRes.bind_rt, SRes.bind_bk, SRes.bind_ct, SRes.bind_ex, SRes.bind_bad, at_call, at_glo, at_fuel, SRes.back, List.getElem?_cons_zero, List.getElem?_cons_succ, List.set_cons_zero, List.set_cons_succ, asgT, asgTs, cmpV, truV, binV, bltV, tyN, tyLe, subV, Option.map_some, Option.map_none, List.any_cons, List.any_nil, if_true, if_false, ite_true, ite_false, String.reduceBEq, Nat.reduceAdd, Bool.or_false, Bool.false_or, Bool.or_true, Bool.true_or, Bool.and_true, Bool.true_and, Bool.and_false, Bool.false_and, Bool.not_true, Bool.not_false, beq_self_eq_true, decide_true, decide_false, reduceCtorEq, Bool.false_eq_true, Ev.keyOf, dctKeys, List.length_cons, List.length_nil, List.zip_cons_cons, List.zip_nil_left, List.zip_nil_right, List.foldl_cons, List.foldl_nil, methV, setV, isL, permL_cons, permL_nil, List.map_cons, List.map_nil, valP_cons, valP_nil, key_str, key_int, ofString_eq, String.reduceEq, putP, sizeLine_eq, Nat.reduceLT, Nat.reduceLeDiff, sto_self, mulOk, powOk, divOk, Int.reducePow, Nat.reducePow, Int.reduceNeg, Int.reduceLT, Int.reduceLE, natAbs64, natAbs30, Int.reduceToNat, Int.reduceEq, Int.reduceAdd, Int.reduceSub, Int.reduceMul, ne_eq, not_false_eq_true, Int.reduceNe, Ev.alloc, Ev.eq_ii, Ev.eq_ss, Ev.eq_bb, Ev.eq_nn, Ev.eq_ni, Ev.eq_in, Ev.eq_ns, Ev.eq_sn, Ev.eq_nb, Ev.eq_bn, Ev.eq_is, Ev.eq_si, and_self, true_and, and_true, fmod_lt64, fmod_gt64, atI_0, atI_1, atI_2, atI_3, atI_4, atI_5, atI_6, atI_7, atI_8, atI_9, itemsV, smV, fmtV, lenSetV, seqOf, lstOf, slcV, revV, srcOf, optI, List.nil_append, List.cons_append, sto_new, intsP, sortI, insI, compL, compG, wipeP, boolsP, List.all_cons, List.all_nil, id_eq, keep_nil, maxI, minI, intsP, cutf_1, cutf_2, cutf_3, cutf_4, cutt_1, cutt_2, cutt_3, cutt_4, List.drop_succ_cons, List.drop_zero, List.take_succ_cons, List.take_zero, Int.cast_ofNat_Int, false_and, and_false, or_self, or_false, false_or, true_or, or_true, lit_e, tS_len, tS_cat, tS_eq, tS_lt, List.toList_toArray, g_MOST_WORD, g_LETTERS, g_MOST_POOL, g_MOST_WEIGHT, g_BEGIN, g_FACTOR, g_MODULUS, GC.pv, e1, c0]
    generalize hq : compL _ _ _ _ _ = q
    obtain ⟨out, M2, rfl, b, rt, h1, h2, h3, h4, d2, k2⟩ := comp_gen' hq (fun xs acc M2 => ∃ b : List Int, ∃ rt : Pool, xs = rt.map eV ∧ acc = b.map .int ∧ b.length + rt.length = P.length ∧ (∀ x ∈ b, 0 ≤ x) ∧ Dk i j M2 ∧ Keep [i, j] M1 M2)
      ⟨[], P, rfl, rfl, by simp, (fun _ z => by cases z), d1, Keep.refl _⟩ (fun _ _ _ _ => rfl)
      (fun x xs acc M2 ⟨b, rt, h1, h2, h3, h4, d2, k2⟩ => by
        cases rt with
        | nil => cases h1
        | cons p rt =>
          cases h1
          simp only [List.length_cons] at h3
          refine ⟨by rw [h2, sizeLine_eq]; simp only [List.length_map]; omega, ?_⟩
          obtain ⟨v, M3, e3, v1, v2, d3, k3⟩ := draw_ok n d2 (many := 999999999) (by omega) (by omega); refine ⟨M3, .inl ⟨.int v, ?_, b ++ [v], rt, rfl, by rw [h2]; simp, by simp; omega, app_int h4 v1, d3, k2.trans k3⟩⟩; simp only [↓evE.eq_1, ↓evE.eq_2, ↓evE.eq_3, ↓evE.eq_4, ↓evE.eq_5, ↓evE.eq_6, ↓evE.eq_7, ↓evE.eq_8, ↓evE.eq_9, ↓evE.eq_10, ↓evE.eq_11, ↓evE.eq_12, ↓evE.eq_13, ↓evE.eq_14, ↓evE.eq_15, ↓evE.eq_16, ↓evE.eq_17, ↓evE.eq_18, ↓evE.eq_19, ↓evE.eq_20, ↓evE.eq_21, ↓evE.eq_22, ↓evE.eq_23, ↓evE.eq_24, ↓evE.eq_25, ↓evE.eq_26, ↓evE.eq_27, ↓evE.eq_28, ↓evE.eq_29, ↓evE.eq_30, ↓evE.eq_31, ↓evE.eq_32, ↓evE.eq_33, ↓evE.eq_34, ↓evE.eq_35, ↓evE.eq_36, ↓evE.eq_37, ↓evE.eq_38, ↓evS.eq_1, ↓evS_seq, ↓evS.eq_3, ↓evS.eq_4, ↓evS.eq_5, ↓evS.eq_6, ↓evS.eq_7, ↓evS.eq_8, ↓evS_ite, ↓iteS, ↓evS.eq_11, ↓evS.eq_12, ↓evS.eq_13, ↓evS.eq_14, ↓evS.eq_15, ↓evS.eq_16, ↓evS.eq_17, ↓evS_for, ↓evA.eq_1, ↓evA.eq_2, ↓evT.eq_1, ↓evT.eq_2, ↓evO.eq_1, ↓evO.eq_2, ↓evI.eq_1, ↓evI.eq_2, ↓evI.eq_3, ↓evI.eq_4, ↓evI.eq_5, ↓evF.eq_1, ↓evF.eq_2, ↓m_bind, ↓m_then, ↓m_opt, SRes.bind_nx, SRes.bind_rt, SRes.bind_bk, SRes.bind_ct, SRes.bind_ex, SRes.bind_bad, at_call, at_glo, at_fuel, SRes.back, List.getElem?_cons_zero, List.getElem?_cons_succ, List.set_cons_zero, List.set_cons_succ, asgT, asgTs, cmpV, truV, binV, bltV, tyN, tyLe, subV, Option.map_some, Option.map_none, List.any_cons, List.any_nil, if_true, if_false, ite_true, ite_false, String.reduceBEq, Nat.reduceAdd, Bool.or_false, Bool.false_or, Bool.or_true, Bool.true_or, Bool.and_true, Bool.true_and, Bool.and_false, Bool.false_and, Bool.not_true, Bool.not_false, beq_self_eq_true, decide_true, decide_false, reduceCtorEq, Bool.false_eq_true, Ev.keyOf, dctKeys, List.length_cons, List.length_nil, List.zip_cons_cons, List.zip_nil_left, List.zip_nil_right, List.foldl_cons, List.foldl_nil, methV, setV, isL, permL_cons, permL_nil, List.map_cons, List.map_nil, valP_cons, valP_nil, key_str, key_int, ofString_eq, String.reduceEq, putP, sizeLine_eq, Nat.reduceLT, Nat.reduceLeDiff, sto_self, mulOk, powOk, divOk, Int.reducePow, Nat.reducePow, Int.reduceNeg, Int.reduceLT, Int.reduceLE, natAbs64, natAbs30, Int.reduceToNat, Int.reduceEq, Int.reduceAdd, Int.reduceSub, Int.reduceMul, ne_eq, not_false_eq_true, Int.reduceNe, Ev.alloc, Ev.eq_ii, Ev.eq_ss, Ev.eq_bb, Ev.eq_nn, Ev.eq_ni, Ev.eq_in, Ev.eq_ns, Ev.eq_sn, Ev.eq_nb, Ev.eq_bn, Ev.eq_is, Ev.eq_si, and_self, true_and, and_true, fmod_lt64, fmod_gt64, atI_0, atI_1, atI_2, atI_3, atI_4, atI_5, atI_6, atI_7, atI_8, atI_9, itemsV, smV, fmtV, lenSetV, seqOf, lstOf, slcV, revV, srcOf, optI, List.nil_append, List.cons_append, sto_new, intsP, sortI, insI, compL, compG, wipeP, boolsP, List.all_cons, List.all_nil, id_eq, keep_nil, maxI, minI, intsP, cutf_1, cutf_2, cutf_3, cutf_4, cutt_1, cutt_2, cutt_3, cutt_4, List.drop_succ_cons, List.drop_zero, List.take_succ_cons, List.take_zero, Int.cast_ofNat_Int, false_and, and_false, or_self, or_false, false_or, true_or, or_true, lit_e, tS_len, tS_cat, tS_eq, tS_lt, List.toList_toArray, g_MOST_WORD, g_LETTERS, g_MOST_POOL, g_MOST_WEIGHT, g_BEGIN, g_FACTOR, g_MODULUS, GC.pv, e3])
    have : rt = [] := by cases rt with
      | nil => rfl
      | cons _ _ => cases h1
    subst this
    subst h2
    simp only [↓evE.eq_1, ↓evE.eq_2, ↓evE.eq_3, ↓evE.eq_4, ↓evE.eq_5, ↓evE.eq_6, ↓evE.eq_7, ↓evE.eq_8, ↓evE.eq_9, ↓evE.eq_10, ↓evE.eq_11, ↓evE.eq_12, ↓evE.eq_13, ↓evE.eq_14, ↓evE.eq_15, ↓evE.eq_16, ↓evE.eq_17, ↓evE.eq_18, ↓evE.eq_19, ↓evE.eq_20, ↓evE.eq_21, ↓evE.eq_22, ↓evE.eq_23, ↓evE.eq_24, ↓evE.eq_25, ↓evE.eq_26, ↓evE.eq_27, ↓evE.eq_28, ↓evE.eq_29, ↓evE.eq_30, ↓evE.eq_31, ↓evE.eq_32, ↓evE.eq_33, ↓evE.eq_34, ↓evE.eq_35, ↓evE.eq_36, ↓evE.eq_37, ↓evE.eq_38, ↓evS.eq_1, ↓evS_seq, ↓evS.eq_3, ↓evS.eq_4, ↓evS.eq_5, ↓evS.eq_6, ↓evS.eq_7, ↓evS.eq_8, ↓evS_ite, ↓iteS, ↓evS.eq_11, ↓evS.eq_12, ↓evS.eq_13, ↓evS.eq_14, ↓evS.eq_15, ↓evS.eq_16, ↓evS.eq_17, ↓evS_for, ↓evA.eq_1, ↓evA.eq_2, ↓evT.eq_1, ↓evT.eq_2, ↓evO.eq_1, ↓evO.eq_2, ↓evI.eq_1, ↓evI.eq_2, ↓evI.eq_3, ↓evI.eq_4, ↓evI.eq_5, ↓evF.eq_1, ↓evF.eq_2, ↓m_bind, ↓m_then, ↓m_opt, SRes.bind_nx, SRes.bind_rt, SRes.bind_bk, SRes.bind_ct, SRes.bind_ex, SRes.bind_bad, at_call, at_glo, at_fuel, SRes.back, List.getElem?_cons_zero, List.getElem?_cons_succ, List.set_cons_zero, List.set_cons_succ, asgT, asgTs, cmpV, truV, binV, bltV, tyN, tyLe, subV, Option.map_some, Option.map_none, List.any_cons, List.any_nil, if_true, if_false, ite_true, ite_false, String.reduceBEq, Nat.reduceAdd, Bool.or_false, Bool.false_or, Bool.or_true, Bool.true_or, Bool.and_true, Bool.true_and, Bool.and_false, Bool.false_and, Bool.not_true, Bool.not_false, beq_self_eq_true, decide_true, decide_false, reduceCtorEq, Bool.false_eq_true, Ev.keyOf, dctKeys, List.length_cons, List.length_nil, List.zip_cons_cons, List.zip_nil_left, List.zip_nil_right, List.foldl_cons, List.foldl_nil, methV, setV, isL, permL_cons, permL_nil, List.map_cons, List.map_nil, valP_cons, valP_nil, key_str, key_int, ofString_eq, String.reduceEq, putP, sizeLine_eq, Nat.reduceLT, Nat.reduceLeDiff, sto_self, mulOk, powOk, divOk, Int.reducePow, Nat.reducePow, Int.reduceNeg, Int.reduceLT, Int.reduceLE, natAbs64, natAbs30, Int.reduceToNat, Int.reduceEq, Int.reduceAdd, Int.reduceSub, Int.reduceMul, ne_eq, not_false_eq_true, Int.reduceNe, Ev.alloc, Ev.eq_ii, Ev.eq_ss, Ev.eq_bb, Ev.eq_nn, Ev.eq_ni, Ev.eq_in, Ev.eq_ns, Ev.eq_sn, Ev.eq_nb, Ev.eq_bn, Ev.eq_is, Ev.eq_si, and_self, true_and, and_true, fmod_lt64, fmod_gt64, atI_0, atI_1, atI_2, atI_3, atI_4, atI_5, atI_6, atI_7, atI_8, atI_9, itemsV, smV, fmtV, lenSetV, seqOf, lstOf, slcV, revV, srcOf, optI, List.nil_append, List.cons_append, sto_new, intsP, sortI, insI, compL, compG, wipeP, boolsP, List.all_cons, List.all_nil, id_eq, keep_nil, maxI, minI, intsP, cutf_1, cutf_2, cutf_3, cutf_4, cutt_1, cutt_2, cutt_3, cutt_4, List.drop_succ_cons, List.drop_zero, List.take_succ_cons, List.take_zero, Int.cast_ofNat_Int, false_and, and_false, or_self, or_false, false_or, true_or, or_true, lit_e, tS_len, tS_cat, tS_eq, tS_lt, List.toList_toArray, g_MOST_WORD, g_LETTERS, g_MOST_POOL, g_MOST_WEIGHT, g_BEGIN, g_FACTOR, g_MODULUS, GC.pv, sto_new]
    exact ⟨b, _, rfl, ⟨by simpa using h3, h4⟩, d2.app _, k1.trans (k2.trans Keep.app)⟩
  · by_cases c1 : way = 1
    · subst c1
      obtain ⟨r, M1', e1', r1, r2, d1', k1'⟩ := draw_ok n d1 (many := 5) (by omega) (by omega)
      simp only [↓evE.eq_1, ↓evE.eq_2, ↓evE.eq_3, ↓evE.eq_4, ↓evE.eq_5, ↓evE.eq_6, ↓evE.eq_7, ↓evE.eq_8, ↓evE.eq_9, ↓evE.eq_10, ↓evE.eq_11, ↓evE.eq_12, ↓evE.eq_13, ↓evE.eq_14, ↓evE.eq_15, ↓evE.eq_16, ↓evE.eq_17, ↓evE.eq_18, ↓evE.eq_19, ↓evE.eq_20, ↓evE.eq_21, ↓evE.eq_22, ↓evE.eq_23, ↓evE.eq_24, ↓evE.eq_25, ↓evE.eq_26, ↓evE.eq_27, ↓evE.eq_28, ↓evE.eq_29, ↓evE.eq_30, ↓evE.eq_31, ↓evE.eq_32, ↓evE.eq_33, ↓evE.eq_34, ↓evE.eq_35, ↓evE.eq_36, ↓evE.eq_37, ↓evE.eq_38, ↓evS.eq_1, ↓evS_seq, ↓evS.eq_3, ↓evS.eq_4, ↓evS.eq_5, ↓evS.eq_6, ↓evS.eq_7, ↓evS.eq_8, ↓evS_ite, ↓iteS, ↓evS.eq_11, ↓evS.eq_12, ↓evS.eq_13, ↓evS.eq_14, ↓evS.eq_15, ↓evS.eq_16, ↓evS.eq_17, ↓evS_for, ↓evA.eq_1, ↓evA.eq_2, ↓evT.eq_1, ↓evT.eq_2, ↓evO.eq_1, ↓evO.eq_2, ↓evI.eq_1, ↓evI.eq_2, ↓evI.eq_3, ↓evI.eq_4, ↓evI.eq_5, ↓evF.eq_1, ↓evF.eq_2, ↓m_bind, ↓m_then, ↓m_opt, SRes.bind_nx, SRes.bind_rt, SRes.bind_bk, SRes.bind_ct, SRes.bind_ex, SRes.bind_bad, at_call, at_glo, at_fuel, SRes.back, List.getElem?_cons_zero, List.getElem?_cons_succ, List.set_cons_zero, List.set_cons_succ, asgT, asgTs, cmpV, truV, binV, bltV, tyN, tyLe, subV, Option.map_some, Option.map_none, List.any_cons, List.any_nil, if_true, if_false, ite_true, ite_false, String.reduceBEq, Nat.reduceAdd, Bool.or_false, Bool.false_or, Bool.or_true, Bool.true_or, Bool.and_true, Bool.true_and, Bool.and_false, Bool.false_and, Bool.not_true, Bool.not_false, beq_self_eq_true, decide_true, decide_false, reduceCtorEq, Bool.false_eq_true, Ev.keyOf, dctKeys, List.length_cons, List.length_nil, List.zip_cons_cons, List.zip_nil_left, List.zip_nil_right, List.foldl_cons, List.foldl_nil, methV, setV, isL, permL_cons, permL_nil, List.map_cons, List.map_nil, valP_cons, valP_nil, key_str, key_int, ofString_eq, String.reduceEq, putP, sizeLine_eq, Nat.reduceLT, Nat.reduceLeDiff, sto_self, mulOk, powOk, divOk, Int.reducePow, Nat.reducePow, Int.reduceNeg, Int.reduceLT, Int.reduceLE, natAbs64, natAbs30, Int.reduceToNat, Int.reduceEq, Int.reduceAdd, Int.reduceSub, Int.reduceMul, ne_eq, not_false_eq_true, Int.reduceNe, Ev.alloc, Ev.eq_ii, Ev.eq_ss, Ev.eq_bb, Ev.eq_nn, Ev.eq_ni, Ev.eq_in, Ev.eq_ns, Ev.eq_sn, Ev.eq_nb, Ev.eq_bn, Ev.eq_is, Ev.eq_si, and_self, true_and, and_true, fmod_lt64, fmod_gt64, atI_0, atI_1, atI_2, atI_3, atI_4, atI_5, atI_6, atI_7, atI_8, atI_9, itemsV, smV, fmtV, lenSetV, seqOf, lstOf, slcV, revV, srcOf, optI, List.nil_append, List.cons_append, sto_new, intsP, sortI, insI, compL, compG, wipeP, boolsP, List.all_cons, List.all_nil, id_eq, keep_nil, maxI, minI, intsP, cutf_1, cutf_2, cutf_3, cutf_4, cutt_1, cutt_2, cutt_3, cutt_4, List.drop_succ_cons, List.drop_zero, List.take_succ_cons, List.take_zero, Int.cast_ofNat_Int, false_and, and_false, or_self, or_false, false_or, true_or, or_true, lit_e, tS_len, tS_cat, tS_eq, tS_lt, List.toList_toArray, g_MOST_WORD, g_LETTERS, g_MOST_POOL, g_MOST_WEIGHT, g_BEGIN, g_FACTOR, g_MODULUS, GC.pv, e1, c0, e1']
      generalize hq : compL _ _ _ _ _ = q
      have hc := comp_map P eV (fun p => .int ((p.2 : Nat) * (1 + r) - 1)) hq (keep_nil _) (fun p hp => by
        exact weight_turn n M1' p.1 (by omega) (by omega) _ _ _ _ _ _) (by rw [sizeLine_eq]; omega)
      subst hc
      have eb : (P.map fun p => PV.int ((p.2 : Nat) * (1 + r) - 1)) = (P.map fun p => (p.2 : Int) * (1 + r) - 1).map .int := by simp [List.map_map, Function.comp_def]
      rw [eb]
      simp only [↓evE.eq_1, ↓evE.eq_2, ↓evE.eq_3, ↓evE.eq_4, ↓evE.eq_5, ↓evE.eq_6, ↓evE.eq_7, ↓evE.eq_8, ↓evE.eq_9, ↓evE.eq_10, ↓evE.eq_11, ↓evE.eq_12, ↓evE.eq_13, ↓evE.eq_14, ↓evE.eq_15, ↓evE.eq_16, ↓evE.eq_17, ↓evE.eq_18, ↓evE.eq_19, ↓evE.eq_20, ↓evE.eq_21, ↓evE.eq_22, ↓evE.eq_23, ↓evE.eq_24, ↓evE.eq_25, ↓evE.eq_26, ↓evE.eq_27, ↓evE.eq_28, ↓evE.eq_29, ↓evE.eq_30, ↓evE.eq_31, ↓evE.eq_32, ↓evE.eq_33, ↓evE.eq_34, ↓evE.eq_35, ↓evE.eq_36, ↓evE.eq_37, ↓evE.eq_38, ↓evS.eq_1, ↓evS_seq, ↓evS.eq_3, ↓evS.eq_4, ↓evS.eq_5, ↓evS.eq_6, ↓evS.eq_7, ↓evS.eq_8, ↓evS_ite, ↓iteS, ↓evS.eq_11, ↓evS.eq_12, ↓evS.eq_13, ↓evS.eq_14, ↓evS.eq_15, ↓evS.eq_16, ↓evS.eq_17, ↓evS_for, ↓evA.eq_1, ↓evA.eq_2, ↓evT.eq_1, ↓evT.eq_2, ↓evO.eq_1, ↓evO.eq_2, ↓evI.eq_1, ↓evI.eq_2, ↓evI.eq_3, ↓evI.eq_4, ↓evI.eq_5, ↓evF.eq_1, ↓evF.eq_2, ↓m_bind, ↓m_then, ↓m_opt, SRes.bind_nx, SRes.bind_rt, SRes.bind_bk, SRes.bind_ct, SRes.bind_ex, SRes.bind_bad, at_call, at_glo, at_fuel, SRes.back, List.getElem?_cons_zero, List.getElem?_cons_succ, List.set_cons_zero, List.set_cons_succ, asgT, asgTs, cmpV, truV, binV, bltV, tyN, tyLe, subV, Option.map_some, Option.map_none, List.any_cons, List.any_nil, if_true, if_false, ite_true, ite_false, String.reduceBEq, Nat.reduceAdd, Bool.or_false, Bool.false_or, Bool.or_true, Bool.true_or, Bool.and_true, Bool.true_and, Bool.and_false, Bool.false_and, Bool.not_true, Bool.not_false, beq_self_eq_true, decide_true, decide_false, reduceCtorEq, Bool.false_eq_true, Ev.keyOf, dctKeys, List.length_cons, List.length_nil, List.zip_cons_cons, List.zip_nil_left, List.zip_nil_right, List.foldl_cons, List.foldl_nil, methV, setV, isL, permL_cons, permL_nil, List.map_cons, List.map_nil, valP_cons, valP_nil, key_str, key_int, ofString_eq, String.reduceEq, putP, sizeLine_eq, Nat.reduceLT, Nat.reduceLeDiff, sto_self, mulOk, powOk, divOk, Int.reducePow, Nat.reducePow, Int.reduceNeg, Int.reduceLT, Int.reduceLE, natAbs64, natAbs30, Int.reduceToNat, Int.reduceEq, Int.reduceAdd, Int.reduceSub, Int.reduceMul, ne_eq, not_false_eq_true, Int.reduceNe, Ev.alloc, Ev.eq_ii, Ev.eq_ss, Ev.eq_bb, Ev.eq_nn, Ev.eq_ni, Ev.eq_in, Ev.eq_ns, Ev.eq_sn, Ev.eq_nb, Ev.eq_bn, Ev.eq_is, Ev.eq_si, and_self, true_and, and_true, fmod_lt64, fmod_gt64, atI_0, atI_1, atI_2, atI_3, atI_4, atI_5, atI_6, atI_7, atI_8, atI_9, itemsV, smV, fmtV, lenSetV, seqOf, lstOf, slcV, revV, srcOf, optI, List.nil_append, List.cons_append, sto_new, intsP, sortI, insI, compL, compG, wipeP, boolsP, List.all_cons, List.all_nil, id_eq, keep_nil, maxI, minI, intsP, cutf_1, cutf_2, cutf_3, cutf_4, cutt_1, cutt_2, cutt_3, cutt_4, List.drop_succ_cons, List.drop_zero, List.take_succ_cons, List.take_zero, Int.cast_ofNat_Int, false_and, and_false, or_self, or_false, false_or, true_or, or_true, lit_e, tS_len, tS_cat, tS_eq, tS_lt, List.toList_toArray, g_MOST_WORD, g_LETTERS, g_MOST_POOL, g_MOST_WEIGHT, g_BEGIN, g_FACTOR, g_MODULUS, GC.pv, sto_new]
      refine ⟨P.map fun p => (p.2 : Int) * (1 + r) - 1, _, rfl, ⟨by simp, fun x hx => ?_⟩, d1'.app _, k1.trans (k1'.trans Keep.app)⟩
      obtain ⟨p, hp, rfl⟩ := List.mem_map.mp hx
      have := (hP.w p hp).2.1
      have : (1 : Int) * 1 ≤ (p.2 : Int) * (1 + r) := Int.mul_le_mul (by omega) (by omega) (by omega) (by omega)
      omega
    · have c23 : way = 2 ∨ way = 3 := by omega
      rcases c23 with rfl | rfl
      · simp only [↓evE.eq_1, ↓evE.eq_2, ↓evE.eq_3, ↓evE.eq_4, ↓evE.eq_5, ↓evE.eq_6, ↓evE.eq_7, ↓evE.eq_8, ↓evE.eq_9, ↓evE.eq_10, ↓evE.eq_11, ↓evE.eq_12, ↓evE.eq_13, ↓evE.eq_14, ↓evE.eq_15, ↓evE.eq_16, ↓evE.eq_17, ↓evE.eq_18, ↓evE.eq_19, ↓evE.eq_20, ↓evE.eq_21, ↓evE.eq_22, ↓evE.eq_23, ↓evE.eq_24, ↓evE.eq_25, ↓evE.eq_26, ↓evE.eq_27, ↓evE.eq_28, ↓evE.eq_29, ↓evE.eq_30, ↓evE.eq_31, ↓evE.eq_32, ↓evE.eq_33, ↓evE.eq_34, ↓evE.eq_35, ↓evE.eq_36, ↓evE.eq_37, ↓evE.eq_38, ↓evS.eq_1, ↓evS_seq, ↓evS.eq_3, ↓evS.eq_4, ↓evS.eq_5, ↓evS.eq_6, ↓evS.eq_7, ↓evS.eq_8, ↓evS_ite, ↓iteS, ↓evS.eq_11, ↓evS.eq_12, ↓evS.eq_13, ↓evS.eq_14, ↓evS.eq_15, ↓evS.eq_16, ↓evS.eq_17, ↓evS_for, ↓evA.eq_1, ↓evA.eq_2, ↓evT.eq_1, ↓evT.eq_2, ↓evO.eq_1, ↓evO.eq_2, ↓evI.eq_1, ↓evI.eq_2, ↓evI.eq_3, ↓evI.eq_4, ↓evI.eq_5, ↓evF.eq_1, ↓evF.eq_2, ↓m_bind, ↓m_then, ↓m_opt, SRes.bind_nx, SRes.bind_rt, SRes.bind_bk, SRes.bind_ct, SRes.bind_ex, SRes.bind_bad, at_call, at_glo, at_fuel, SRes.back, List.getElem?_cons_zero, List.getElem?_cons_succ, List.set_cons_zero, List.set_cons_succ, asgT, asgTs, cmpV, truV, binV, bltV, tyN, tyLe, subV, Option.map_some, Option.map_none, List.any_cons, List.any_nil, if_true, if_false, ite_true, ite_false, String.reduceBEq, Nat.reduceAdd, Bool.or_false, Bool.false_or, Bool.or_true, Bool.true_or, Bool.and_true, Bool.true_and, Bool.and_false, Bool.false_and, Bool.not_true, Bool.not_false, beq_self_eq_true, decide_true, decide_false, reduceCtorEq, Bool.false_eq_true, Ev.keyOf, dctKeys, List.length_cons, List.length_nil, List.zip_cons_cons, List.zip_nil_left, List.zip_nil_right, List.foldl_cons, List.foldl_nil, methV, setV, isL, permL_cons, permL_nil, List.map_cons, List.map_nil, valP_cons, valP_nil, key_str, key_int, ofString_eq, String.reduceEq, putP, sizeLine_eq, Nat.reduceLT, Nat.reduceLeDiff, sto_self, mulOk, powOk, divOk, Int.reducePow, Nat.reducePow, Int.reduceNeg, Int.reduceLT, Int.reduceLE, natAbs64, natAbs30, Int.reduceToNat, Int.reduceEq, Int.reduceAdd, Int.reduceSub, Int.reduceMul, ne_eq, not_false_eq_true, Int.reduceNe, Ev.alloc, Ev.eq_ii, Ev.eq_ss, Ev.eq_bb, Ev.eq_nn, Ev.eq_ni, Ev.eq_in, Ev.eq_ns, Ev.eq_sn, Ev.eq_nb, Ev.eq_bn, Ev.eq_is, Ev.eq_si, and_self, true_and, and_true, fmod_lt64, fmod_gt64, atI_0, atI_1, atI_2, atI_3, atI_4, atI_5, atI_6, atI_7, atI_8, atI_9, itemsV, smV, fmtV, lenSetV, seqOf, lstOf, slcV, revV, srcOf, optI, List.nil_append, List.cons_append, sto_new, intsP, sortI, insI, compL, compG, wipeP, boolsP, List.all_cons, List.all_nil, id_eq, keep_nil, maxI, minI, intsP, cutf_1, cutf_2, cutf_3, cutf_4, cutt_1, cutt_2, cutt_3, cutt_4, List.drop_succ_cons, List.drop_zero, List.take_succ_cons, List.take_zero, Int.cast_ofNat_Int, false_and, and_false, or_self, or_false, false_or, true_or, or_true, lit_e, tS_len, tS_cat, tS_eq, tS_lt, List.toList_toArray, g_MOST_WORD, g_LETTERS, g_MOST_POOL, g_MOST_WEIGHT, g_BEGIN, g_FACTOR, g_MODULUS, GC.pv, e1, c0, c1]
        generalize hq : compL _ _ _ _ _ = q
        obtain ⟨out, M2, rfl, b, rt, h1, h2, h3, h4, d2, k2⟩ := comp_gen' hq (fun xs acc M2 => ∃ b : List Int, ∃ rt : Pool, xs = rt.map eV ∧ acc = b.map .int ∧ b.length + rt.length = P.length ∧ (∀ x ∈ b, 0 ≤ x) ∧ Dk i j M2 ∧ Keep [i, j] M1 M2)
          ⟨[], P, rfl, rfl, by simp, (fun _ z => by cases z), d1, Keep.refl _⟩ (fun _ _ _ _ => rfl)
          (fun x xs acc M2 ⟨b, rt, h1, h2, h3, h4, d2, k2⟩ => by
            cases rt with
            | nil => cases h1
            | cons p rt =>
              cases h1
              simp only [List.length_cons] at h3
              refine ⟨by rw [h2, sizeLine_eq]; simp only [List.length_map]; omega, ?_⟩
              obtain ⟨v, M3, e3, v1, v2, d3, k3⟩ := draw_ok n (d2.app [.lst [.int 4, .int 40]]) (many := 4) (by omega) (by omega); refine ⟨M3, .inl ⟨.int v, ?_, b ++ [v], rt, rfl, by rw [h2]; simp, by simp; omega, app_int h4 v1, d3, k2.trans (Keep.app.trans k3)⟩⟩; simp only [↓evE.eq_1, ↓evE.eq_2, ↓evE.eq_3, ↓evE.eq_4, ↓evE.eq_5, ↓evE.eq_6, ↓evE.eq_7, ↓evE.eq_8, ↓evE.eq_9, ↓evE.eq_10, ↓evE.eq_11, ↓evE.eq_12, ↓evE.eq_13, ↓evE.eq_14, ↓evE.eq_15, ↓evE.eq_16, ↓evE.eq_17, ↓evE.eq_18, ↓evE.eq_19, ↓evE.eq_20, ↓evE.eq_21, ↓evE.eq_22, ↓evE.eq_23, ↓evE.eq_24, ↓evE.eq_25, ↓evE.eq_26, ↓evE.eq_27, ↓evE.eq_28, ↓evE.eq_29, ↓evE.eq_30, ↓evE.eq_31, ↓evE.eq_32, ↓evE.eq_33, ↓evE.eq_34, ↓evE.eq_35, ↓evE.eq_36, ↓evE.eq_37, ↓evE.eq_38, ↓evS.eq_1, ↓evS_seq, ↓evS.eq_3, ↓evS.eq_4, ↓evS.eq_5, ↓evS.eq_6, ↓evS.eq_7, ↓evS.eq_8, ↓evS_ite, ↓iteS, ↓evS.eq_11, ↓evS.eq_12, ↓evS.eq_13, ↓evS.eq_14, ↓evS.eq_15, ↓evS.eq_16, ↓evS.eq_17, ↓evS_for, ↓evA.eq_1, ↓evA.eq_2, ↓evT.eq_1, ↓evT.eq_2, ↓evO.eq_1, ↓evO.eq_2, ↓evI.eq_1, ↓evI.eq_2, ↓evI.eq_3, ↓evI.eq_4, ↓evI.eq_5, ↓evF.eq_1, ↓evF.eq_2, ↓m_bind, ↓m_then, ↓m_opt, SRes.bind_nx, SRes.bind_rt, SRes.bind_bk, SRes.bind_ct, SRes.bind_ex, SRes.bind_bad, at_call, at_glo, at_fuel, SRes.back, List.getElem?_cons_zero, List.getElem?_cons_succ, List.set_cons_zero, List.set_cons_succ, asgT, asgTs, cmpV, truV, binV, bltV, tyN, tyLe, subV, Option.map_some, Option.map_none, List.any_cons, List.any_nil, if_true, if_false, ite_true, ite_false, String.reduceBEq, Nat.reduceAdd, Bool.or_false, Bool.false_or, Bool.or_true, Bool.true_or, Bool.and_true, Bool.true_and, Bool.and_false, Bool.false_and, Bool.not_true, Bool.not_false, beq_self_eq_true, decide_true, decide_false, reduceCtorEq, Bool.false_eq_true, Ev.keyOf, dctKeys, List.length_cons, List.length_nil, List.zip_cons_cons, List.zip_nil_left, List.zip_nil_right, List.foldl_cons, List.foldl_nil, methV, setV, isL, permL_cons, permL_nil, List.map_cons, List.map_nil, valP_cons, valP_nil, key_str, key_int, ofString_eq, String.reduceEq, putP, sizeLine_eq, Nat.reduceLT, Nat.reduceLeDiff, sto_self, mulOk, powOk, divOk, Int.reducePow, Nat.reducePow, Int.reduceNeg, Int.reduceLT, Int.reduceLE, natAbs64, natAbs30, Int.reduceToNat, Int.reduceEq, Int.reduceAdd, Int.reduceSub, Int.reduceMul, ne_eq, not_false_eq_true, Int.reduceNe, Ev.alloc, Ev.eq_ii, Ev.eq_ss, Ev.eq_bb, Ev.eq_nn, Ev.eq_ni, Ev.eq_in, Ev.eq_ns, Ev.eq_sn, Ev.eq_nb, Ev.eq_bn, Ev.eq_is, Ev.eq_si, and_self, true_and, and_true, fmod_lt64, fmod_gt64, atI_0, atI_1, atI_2, atI_3, atI_4, atI_5, atI_6, atI_7, atI_8, atI_9, itemsV, smV, fmtV, lenSetV, seqOf, lstOf, slcV, revV, srcOf, optI, List.nil_append, List.cons_append, sto_new, intsP, sortI, insI, compL, compG, wipeP, boolsP, List.all_cons, List.all_nil, id_eq, keep_nil, maxI, minI, intsP, cutf_1, cutf_2, cutf_3, cutf_4, cutt_1, cutt_2, cutt_3, cutt_4, List.drop_succ_cons, List.drop_zero, List.take_succ_cons, List.take_zero, Int.cast_ofNat_Int, false_and, and_false, or_self, or_false, false_or, true_or, or_true, lit_e, tS_len, tS_cat, tS_eq, tS_lt, List.toList_toArray, g_MOST_WORD, g_LETTERS, g_MOST_POOL, g_MOST_WEIGHT, g_BEGIN, g_FACTOR, g_MODULUS, GC.pv, e3])
        have : rt = [] := by cases rt with
          | nil => rfl
          | cons _ _ => cases h1
        subst this
        subst h2
        simp only [↓evE.eq_1, ↓evE.eq_2, ↓evE.eq_3, ↓evE.eq_4, ↓evE.eq_5, ↓evE.eq_6, ↓evE.eq_7, ↓evE.eq_8, ↓evE.eq_9, ↓evE.eq_10, ↓evE.eq_11, ↓evE.eq_12, ↓evE.eq_13, ↓evE.eq_14, ↓evE.eq_15, ↓evE.eq_16, ↓evE.eq_17, ↓evE.eq_18, ↓evE.eq_19, ↓evE.eq_20, ↓evE.eq_21, ↓evE.eq_22, ↓evE.eq_23, ↓evE.eq_24, ↓evE.eq_25, ↓evE.eq_26, ↓evE.eq_27, ↓evE.eq_28, ↓evE.eq_29, ↓evE.eq_30, ↓evE.eq_31, ↓evE.eq_32, ↓evE.eq_33, ↓evE.eq_34, ↓evE.eq_35, ↓evE.eq_36, ↓evE.eq_37, ↓evE.eq_38, ↓evS.eq_1, ↓evS_seq, ↓evS.eq_3, ↓evS.eq_4, ↓evS.eq_5, ↓evS.eq_6, ↓evS.eq_7, ↓evS.eq_8, ↓evS_ite, ↓iteS, ↓evS.eq_11, ↓evS.eq_12, ↓evS.eq_13, ↓evS.eq_14, ↓evS.eq_15, ↓evS.eq_16, ↓evS.eq_17, ↓evS_for, ↓evA.eq_1, ↓evA.eq_2, ↓evT.eq_1, ↓evT.eq_2, ↓evO.eq_1, ↓evO.eq_2, ↓evI.eq_1, ↓evI.eq_2, ↓evI.eq_3, ↓evI.eq_4, ↓evI.eq_5, ↓evF.eq_1, ↓evF.eq_2, ↓m_bind, ↓m_then, ↓m_opt, SRes.bind_nx, SRes.bind_rt, SRes.bind_bk, SRes.bind_ct, SRes.bind_ex, SRes.bind_bad, at_call, at_glo, at_fuel, SRes.back, List.getElem?_cons_zero, List.getElem?_cons_succ, List.set_cons_zero, List.set_cons_succ, asgT, asgTs, cmpV, truV, binV, bltV, tyN, tyLe, subV, Option.map_some, Option.map_none, List.any_cons, List.any_nil, if_true, if_false, ite_true, ite_false, String.reduceBEq, Nat.reduceAdd, Bool.or_false, Bool.false_or, Bool.or_true, Bool.true_or, Bool.and_true, Bool.true_and, Bool.and_false, Bool.false_and, Bool.not_true, Bool.not_false, beq_self_eq_true, decide_true, decide_false, reduceCtorEq, Bool.false_eq_true, Ev.keyOf, dctKeys, List.length_cons, List.length_nil, List.zip_cons_cons, List.zip_nil_left, List.zip_nil_right, List.foldl_cons, List.foldl_nil, methV, setV, isL, permL_cons, permL_nil, List.map_cons, List.map_nil, valP_cons, valP_nil, key_str, key_int, ofString_eq, String.reduceEq, putP, sizeLine_eq, Nat.reduceLT, Nat.reduceLeDiff, sto_self, mulOk, powOk, divOk, Int.reducePow, Nat.reducePow, Int.reduceNeg, Int.reduceLT, Int.reduceLE, natAbs64, natAbs30, Int.reduceToNat, Int.reduceEq, Int.reduceAdd, Int.reduceSub, Int.reduceMul, ne_eq, not_false_eq_true, Int.reduceNe, Ev.alloc, Ev.eq_ii, Ev.eq_ss, Ev.eq_bb, Ev.eq_nn, Ev.eq_ni, Ev.eq_in, Ev.eq_ns, Ev.eq_sn, Ev.eq_nb, Ev.eq_bn, Ev.eq_is, Ev.eq_si, and_self, true_and, and_true, fmod_lt64, fmod_gt64, atI_0, atI_1, atI_2, atI_3, atI_4, atI_5, atI_6, atI_7, atI_8, atI_9, itemsV, smV, fmtV, lenSetV, seqOf, lstOf, slcV, revV, srcOf, optI, List.nil_append, List.cons_append, sto_new, intsP, sortI, insI, compL, compG, wipeP, boolsP, List.all_cons, List.all_nil, id_eq, keep_nil, maxI, minI, intsP, cutf_1, cutf_2, cutf_3, cutf_4, cutt_1, cutt_2, cutt_3, cutt_4, List.drop_succ_cons, List.drop_zero, List.take_succ_cons, List.take_zero, Int.cast_ofNat_Int, false_and, and_false, or_self, or_false, false_or, true_or, or_true, lit_e, tS_len, tS_cat, tS_eq, tS_lt, List.toList_toArray, g_MOST_WORD, g_LETTERS, g_MOST_POOL, g_MOST_WEIGHT, g_BEGIN, g_FACTOR, g_MODULUS, GC.pv, sto_new]
        exact ⟨b, _, rfl, ⟨by simpa using h3, h4⟩, d2.app _, k1.trans (k2.trans Keep.app)⟩
      · simp only [↓evE.eq_1, ↓evE.eq_2, ↓evE.eq_3, ↓evE.eq_4, ↓evE.eq_5, ↓evE.eq_6, ↓evE.eq_7, ↓evE.eq_8, ↓evE.eq_9, ↓evE.eq_10, ↓evE.eq_11, ↓evE.eq_12, ↓evE.eq_13, ↓evE.eq_14, ↓evE.eq_15, ↓evE.eq_16, ↓evE.eq_17, ↓evE.eq_18, ↓evE.eq_19, ↓evE.eq_20, ↓evE.eq_21, ↓evE.eq_22, ↓evE.eq_23, ↓evE.eq_24, ↓evE.eq_25, ↓evE.eq_26, ↓evE.eq_27, ↓evE.eq_28, ↓evE.eq_29, ↓evE.eq_30, ↓evE.eq_31, ↓evE.eq_32, ↓evE.eq_33, ↓evE.eq_34, ↓evE.eq_35, ↓evE.eq_36, ↓evE.eq_37, ↓evE.eq_38, ↓evS.eq_1, ↓evS_seq, ↓evS.eq_3, ↓evS.eq_4, ↓evS.eq_5, ↓evS.eq_6, ↓evS.eq_7, ↓evS.eq_8, ↓evS_ite, ↓iteS, ↓evS.eq_11, ↓evS.eq_12, ↓evS.eq_13, ↓evS.eq_14, ↓evS.eq_15, ↓evS.eq_16, ↓evS.eq_17, ↓evS_for, ↓evA.eq_1, ↓evA.eq_2, ↓evT.eq_1, ↓evT.eq_2, ↓evO.eq_1, ↓evO.eq_2, ↓evI.eq_1, ↓evI.eq_2, ↓evI.eq_3, ↓evI.eq_4, ↓evI.eq_5, ↓evF.eq_1, ↓evF.eq_2, ↓m_bind, ↓m_then, ↓m_opt, SRes.bind_nx, SRes.bind_rt, SRes.bind_bk, SRes.bind_ct, SRes.bind_ex, SRes.bind_bad, at_call, at_glo, at_fuel, SRes.back, List.getElem?_cons_zero, List.getElem?_cons_succ, List.set_cons_zero, List.set_cons_succ, asgT, asgTs, cmpV, truV, binV, bltV, tyN, tyLe, subV, Option.map_some, Option.map_none, List.any_cons, List.any_nil, if_true, if_false, ite_true, ite_false, String.reduceBEq, Nat.reduceAdd, Bool.or_false, Bool.false_or, Bool.or_true, Bool.true_or, Bool.and_true, Bool.true_and, Bool.and_false, Bool.false_and, Bool.not_true, Bool.not_false, beq_self_eq_true, decide_true, decide_false, reduceCtorEq, Bool.false_eq_true, Ev.keyOf, dctKeys, List.length_cons, List.length_nil, List.zip_cons_cons, List.zip_nil_left, List.zip_nil_right, List.foldl_cons, List.foldl_nil, methV, setV, isL, permL_cons, permL_nil, List.map_cons, List.map_nil, valP_cons, valP_nil, key_str, key_int, ofString_eq, String.reduceEq, putP, sizeLine_eq, Nat.reduceLT, Nat.reduceLeDiff, sto_self, mulOk, powOk, divOk, Int.reducePow, Nat.reducePow, Int.reduceNeg, Int.reduceLT, Int.reduceLE, natAbs64, natAbs30, Int.reduceToNat, Int.reduceEq, Int.reduceAdd, Int.reduceSub, Int.reduceMul, ne_eq, not_false_eq_true, Int.reduceNe, Ev.alloc, Ev.eq_ii, Ev.eq_ss, Ev.eq_bb, Ev.eq_nn, Ev.eq_ni, Ev.eq_in, Ev.eq_ns, Ev.eq_sn, Ev.eq_nb, Ev.eq_bn, Ev.eq_is, Ev.eq_si, and_self, true_and, and_true, fmod_lt64, fmod_gt64, atI_0, atI_1, atI_2, atI_3, atI_4, atI_5, atI_6, atI_7, atI_8, atI_9, itemsV, smV, fmtV, lenSetV, seqOf, lstOf, slcV, revV, srcOf, optI, List.nil_append, List.cons_append, sto_new, intsP, sortI, insI, compL, compG, wipeP, boolsP, List.all_cons, List.all_nil, id_eq, keep_nil, maxI, minI, intsP, cutf_1, cutf_2, cutf_3, cutf_4, cutt_1, cutt_2, cutt_3, cutt_4, List.drop_succ_cons, List.drop_zero, List.take_succ_cons, List.take_zero, Int.cast_ofNat_Int, false_and, and_false, or_self, or_false, false_or, true_or, or_true, lit_e, tS_len, tS_cat, tS_eq, tS_lt, List.toList_toArray, g_MOST_WORD, g_LETTERS, g_MOST_POOL, g_MOST_WEIGHT, g_BEGIN, g_FACTOR, g_MODULUS, GC.pv, e1, c0, c1]
        generalize hq : compL _ _ _ _ _ = q
        obtain ⟨out, M2, rfl, b, rt, h1, h2, h3, h4, d2, k2⟩ := comp_gen' hq (fun xs acc M2 => ∃ b : List Int, ∃ rt : Pool, xs = rt.map eV ∧ acc = b.map .int ∧ b.length + rt.length = P.length ∧ (∀ x ∈ b, 0 ≤ x) ∧ Dk i j M2 ∧ Keep [i, j] M1 M2)
          ⟨[], P, rfl, rfl, by simp, (fun _ z => by cases z), d1, Keep.refl _⟩ (fun _ _ _ _ => rfl)
          (fun x xs acc M2 ⟨b, rt, h1, h2, h3, h4, d2, k2⟩ => by
            cases rt with
            | nil => cases h1
            | cons p rt =>
              cases h1
              simp only [List.length_cons] at h3
              refine ⟨by rw [h2, sizeLine_eq]; simp only [List.length_map]; omega, ?_⟩
              obtain ⟨v, M3, e3, v1, v2, d3, k3⟩ := draw_ok n (d2.app [.lst [.int 4, .int 40]]) (many := 40) (by omega) (by omega); refine ⟨M3, .inl ⟨.int v, ?_, b ++ [v], rt, rfl, by rw [h2]; simp, by simp; omega, app_int h4 v1, d3, k2.trans (Keep.app.trans k3)⟩⟩; simp only [↓evE.eq_1, ↓evE.eq_2, ↓evE.eq_3, ↓evE.eq_4, ↓evE.eq_5, ↓evE.eq_6, ↓evE.eq_7, ↓evE.eq_8, ↓evE.eq_9, ↓evE.eq_10, ↓evE.eq_11, ↓evE.eq_12, ↓evE.eq_13, ↓evE.eq_14, ↓evE.eq_15, ↓evE.eq_16, ↓evE.eq_17, ↓evE.eq_18, ↓evE.eq_19, ↓evE.eq_20, ↓evE.eq_21, ↓evE.eq_22, ↓evE.eq_23, ↓evE.eq_24, ↓evE.eq_25, ↓evE.eq_26, ↓evE.eq_27, ↓evE.eq_28, ↓evE.eq_29, ↓evE.eq_30, ↓evE.eq_31, ↓evE.eq_32, ↓evE.eq_33, ↓evE.eq_34, ↓evE.eq_35, ↓evE.eq_36, ↓evE.eq_37, ↓evE.eq_38, ↓evS.eq_1, ↓evS_seq, ↓evS.eq_3, ↓evS.eq_4, ↓evS.eq_5, ↓evS.eq_6, ↓evS.eq_7, ↓evS.eq_8, ↓evS_ite, ↓iteS, ↓evS.eq_11, ↓evS.eq_12, ↓evS.eq_13, ↓evS.eq_14, ↓evS.eq_15, ↓evS.eq_16, ↓evS.eq_17, ↓evS_for, ↓evA.eq_1, ↓evA.eq_2, ↓evT.eq_1, ↓evT.eq_2, ↓evO.eq_1, ↓evO.eq_2, ↓evI.eq_1, ↓evI.eq_2, ↓evI.eq_3, ↓evI.eq_4, ↓evI.eq_5, ↓evF.eq_1, ↓evF.eq_2, ↓m_bind, ↓m_then, ↓m_opt, SRes.bind_nx, SRes.bind_rt, SRes.bind_bk, SRes.bind_ct, SRes.bind_ex, SRes.bind_bad, at_call, at_glo, at_fuel, SRes.back, List.getElem?_cons_zero, List.getElem?_cons_succ, List.set_cons_zero, List.set_cons_succ, asgT, asgTs, cmpV, truV, binV, bltV, tyN, tyLe, subV, Option.map_some, Option.map_none, List.any_cons, List.any_nil, if_true, if_false, ite_true, ite_false, String.reduceBEq, Nat.reduceAdd, Bool.or_false, Bool.false_or, Bool.or_true, Bool.true_or, Bool.and_true, Bool.true_and, Bool.and_false, Bool.false_and, Bool.not_true, Bool.not_false, beq_self_eq_true, decide_true, decide_false, reduceCtorEq, Bool.false_eq_true, Ev.keyOf, dctKeys, List.length_cons, List.length_nil, List.zip_cons_cons, List.zip_nil_left, List.zip_nil_right, List.foldl_cons, List.foldl_nil, methV, setV, isL, permL_cons, permL_nil, List.map_cons, List.map_nil, valP_cons, valP_nil, key_str, key_int, ofString_eq, String.reduceEq, putP, sizeLine_eq, Nat.reduceLT, Nat.reduceLeDiff, sto_self, mulOk, powOk, divOk, Int.reducePow, Nat.reducePow, Int.reduceNeg, Int.reduceLT, Int.reduceLE, natAbs64, natAbs30, Int.reduceToNat, Int.reduceEq, Int.reduceAdd, Int.reduceSub, Int.reduceMul, ne_eq, not_false_eq_true, Int.reduceNe, Ev.alloc, Ev.eq_ii, Ev.eq_ss, Ev.eq_bb, Ev.eq_nn, Ev.eq_ni, Ev.eq_in, Ev.eq_ns, Ev.eq_sn, Ev.eq_nb, Ev.eq_bn, Ev.eq_is, Ev.eq_si, and_self, true_and, and_true, fmod_lt64, fmod_gt64, atI_0, atI_1, atI_2, atI_3, atI_4, atI_5, atI_6, atI_7, atI_8, atI_9, itemsV, smV, fmtV, lenSetV, seqOf, lstOf, slcV, revV, srcOf, optI, List.nil_append, List.cons_append, sto_new, intsP, sortI, insI, compL, compG, wipeP, boolsP, List.all_cons, List.all_nil, id_eq, keep_nil, maxI, minI, intsP, cutf_1, cutf_2, cutf_3, cutf_4, cutt_1, cutt_2, cutt_3, cutt_4, List.drop_succ_cons, List.drop_zero, List.take_succ_cons, List.take_zero, Int.cast_ofNat_Int, false_and, and_false, or_self, or_false, false_or, true_or, or_true, lit_e, tS_len, tS_cat, tS_eq, tS_lt, List.toList_toArray, g_MOST_WORD, g_LETTERS, g_MOST_POOL, g_MOST_WEIGHT, g_BEGIN, g_FACTOR, g_MODULUS, GC.pv, e3])
        have : rt = [] := by cases rt with
          | nil => rfl
          | cons _ _ => cases h1
        subst this
        subst h2
        simp only [↓evE.eq_1, ↓evE.eq_2, ↓evE.eq_3, ↓evE.eq_4, ↓evE.eq_5, ↓evE.eq_6, ↓evE.eq_7, ↓evE.eq_8, ↓evE.eq_9, ↓evE.eq_10, ↓evE.eq_11, ↓evE.eq_12, ↓evE.eq_13, ↓evE.eq_14, ↓evE.eq_15, ↓evE.eq_16, ↓evE.eq_17, ↓evE.eq_18, ↓evE.eq_19, ↓evE.eq_20, ↓evE.eq_21, ↓evE.eq_22, ↓evE.eq_23, ↓evE.eq_24, ↓evE.eq_25, ↓evE.eq_26, ↓evE.eq_27, ↓evE.eq_28, ↓evE.eq_29, ↓evE.eq_30, ↓evE.eq_31, ↓evE.eq_32, ↓evE.eq_33, ↓evE.eq_34, ↓evE.eq_35, ↓evE.eq_36, ↓evE.eq_37, ↓evE.eq_38, ↓evS.eq_1, ↓evS_seq, ↓evS.eq_3, ↓evS.eq_4, ↓evS.eq_5, ↓evS.eq_6, ↓evS.eq_7, ↓evS.eq_8, ↓evS_ite, ↓iteS, ↓evS.eq_11, ↓evS.eq_12, ↓evS.eq_13, ↓evS.eq_14, ↓evS.eq_15, ↓evS.eq_16, ↓evS.eq_17, ↓evS_for, ↓evA.eq_1, ↓evA.eq_2, ↓evT.eq_1, ↓evT.eq_2, ↓evO.eq_1, ↓evO.eq_2, ↓evI.eq_1, ↓evI.eq_2, ↓evI.eq_3, ↓evI.eq_4, ↓evI.eq_5, ↓evF.eq_1, ↓evF.eq_2, ↓m_bind, ↓m_then, ↓m_opt, SRes.bind_nx, SRes.bind_rt, SRes.bind_bk, SRes.bind_ct, SRes.bind_ex, SRes.bind_bad, at_call, at_glo, at_fuel, SRes.back, List.getElem?_cons_zero, List.getElem?_cons_succ, List.set_cons_zero, List.set_cons_succ, asgT, asgTs, cmpV, truV, binV, bltV, tyN, tyLe, subV, Option.map_some, Option.map_none, List.any_cons, List.any_nil, if_true, if_false, ite_true, ite_false, String.reduceBEq, Nat.reduceAdd, Bool.or_false, Bool.false_or, Bool.or_true, Bool.true_or, Bool.and_true, Bool.true_and, Bool.and_false, Bool.false_and, Bool.not_true, Bool.not_false, beq_self_eq_true, decide_true, decide_false, reduceCtorEq, Bool.false_eq_true, Ev.keyOf, dctKeys, List.length_cons, List.length_nil, List.zip_cons_cons, List.zip_nil_left, List.zip_nil_right, List.foldl_cons, List.foldl_nil, methV, setV, isL, permL_cons, permL_nil, List.map_cons, List.map_nil, valP_cons, valP_nil, key_str, key_int, ofString_eq, String.reduceEq, putP, sizeLine_eq, Nat.reduceLT, Nat.reduceLeDiff, sto_self, mulOk, powOk, divOk, Int.reducePow, Nat.reducePow, Int.reduceNeg, Int.reduceLT, Int.reduceLE, natAbs64, natAbs30, Int.reduceToNat, Int.reduceEq, Int.reduceAdd, Int.reduceSub, Int.reduceMul, ne_eq, not_false_eq_true, Int.reduceNe, Ev.alloc, Ev.eq_ii, Ev.eq_ss, Ev.eq_bb, Ev.eq_nn, Ev.eq_ni, Ev.eq_in, Ev.eq_ns, Ev.eq_sn, Ev.eq_nb, Ev.eq_bn, Ev.eq_is, Ev.eq_si, and_self, true_and, and_true, fmod_lt64, fmod_gt64, atI_0, atI_1, atI_2, atI_3, atI_4, atI_5, atI_6, atI_7, atI_8, atI_9, itemsV, smV, fmtV, lenSetV, seqOf, lstOf, slcV, revV, srcOf, optI, List.nil_append, List.cons_append, sto_new, intsP, sortI, insI, compL, compG, wipeP, boolsP, List.all_cons, List.all_nil, id_eq, keep_nil, maxI, minI, intsP, cutf_1, cutf_2, cutf_3, cutf_4, cutt_1, cutt_2, cutt_3, cutt_4, List.drop_succ_cons, List.drop_zero, List.take_succ_cons, List.take_zero, Int.cast_ofNat_Int, false_and, and_false, or_self, or_false, false_or, true_or, or_true, lit_e, tS_len, tS_cat, tS_eq, tS_lt, List.toList_toArray, g_MOST_WORD, g_LETTERS, g_MOST_POOL, g_MOST_WEIGHT, g_BEGIN, g_FACTOR, g_MODULUS, GC.pv, sto_new]
        exact ⟨b, _, rfl, ⟨by simpa using h3, h4⟩, d2.app _, k1.trans (k2.trans Keep.app)⟩
/-! a position more -/
theorem in_lot (M : Sto) (a : Nat) (l : List Nat) : Ev.inV M (iV a) (lV l) = some (decide (a ∈ l)) := by
  have := in_tup M (a : Int) (l.map fun x : Nat => (x : Int))
  rw [List.map_map] at this
  rw [show lV l = .tup (l.map (PV.int ∘ fun x : Nat => (x : Int))) from rfl, this]
  congr 1
  by_cases h : a ∈ l
  · rw [decide_eq_true h, decide_eq_true (List.mem_map_of_mem h)]
  · rw [decide_eq_false h, decide_eq_false]
    intro z
    obtain ⟨b, hb, e⟩ := List.mem_map.mp z
    have : b = a := by omega
    exact h (this ▸ hb)
theorem more_lot {P : Pool} {l : List Nat} (h : IsLot P l) {a : Nat} (ha : a < P.length) (hn : a ∉ l) : ∃ l', sortI ((l ++ [a]).map fun x : Nat => (x : Int)) = l'.map (fun x : Nat => (x : Int)) ∧ (∀ x, x ∈ l' ↔ x ∈ l ∨ x = a) ∧ IsLot P l' := by
  have sp := sortI_perm ((l ++ [a]).map fun x : Nat => (x : Int))
  have ss := sortI_sorted ((l ++ [a]).map fun x : Nat => (x : Int))
  have nd : (l ++ [a]).Nodup := by
    rw [List.nodup_append]
    exact ⟨List.nodup_iff_pairwise_ne.mpr (h.up.imp fun h => Nat.ne_of_lt h), by simp, fun x hx y hy e => hn (by rw [List.mem_singleton.mp hy] at e; rw [← e]; exact hx)⟩
  obtain ⟨s, hs⟩ : ∃ s, s = sortI ((l ++ [a]).map fun x : Nat => (x : Int)) := ⟨_, rfl⟩
  rw [← hs] at sp ss ⊢
  have e : s = (s.map Int.toNat).map fun x : Nat => (x : Int) := by
    rw [List.map_map]
    have : ∀ x ∈ s, ((fun x : Nat => (x : Int)) ∘ Int.toNat) x = x := fun x hx => by
      obtain ⟨b, _, e⟩ := List.mem_map.mp (sp.mem_iff.mp hx)
      show ((x.toNat : Nat) : Int) = x
      omega
    rw [List.map_congr_left this, List.map_id']
  have mem : ∀ x : Nat, x ∈ s.map Int.toNat ↔ x ∈ l ∨ x = a := fun x => by
    constructor
    · intro hx
      obtain ⟨y, hy, rfl⟩ := List.mem_map.mp hx
      obtain ⟨b, hb, rfl⟩ := List.mem_map.mp (sp.mem_iff.mp hy)
      simpa using hb
    · intro hx
      have : x ∈ l ++ [a] := by simpa using hx
      exact List.mem_map.mpr ⟨(x : Int), sp.mem_iff.mpr (List.mem_map_of_mem this), by simp⟩
  refine ⟨s.map Int.toNat, e, mem, ⟨?_, fun x hx => ?_, ?_⟩⟩
  · intro z
    have := (mem a).mpr (.inr rfl)
    rw [z] at this; cases this
  · rcases (mem x).mp hx with hx | rfl
    · exact h.lt x hx
    · exact ha
  · have nds : s.Nodup := sp.nodup_iff.mpr (by
      rw [List.nodup_iff_pairwise_ne, List.pairwise_map]
      exact (List.nodup_iff_pairwise_ne.mp nd).imp fun {a b} hab e => hab (by omega))
    have lt : s.Pairwise (· < ·) := by
      have := ss.and (List.nodup_iff_pairwise_ne.mp nds)
      exact this.imp fun {a b} ⟨h1, h2⟩ => by omega
    rw [List.pairwise_map]
    have pos : ∀ x ∈ s, 0 ≤ x := fun x hx => by
      obtain ⟨b, _, e⟩ := List.mem_map.mp (sp.mem_iff.mp hx)
      omega
    exact lt.imp_of_mem fun {a b} ha hb hab => by have := pos a ha; omega
theorem int_repr {a : Nat} (h : a < 1000) : ∃ t, ∀ M, reprV M (iV a) = some t :=
  repr_one (by simp only [fine, decide_eq_true_eq]; exact small (by omega) (by omega)) (by simp [pd, PyData.bulk]) (by simp [pd, PyData.depth])
end K20

set_option Elab.async false
set_option linter.all false
set_option maxRecDepth 100000
set_option maxHeartbeats 4000000
/-! K20x: changes; one turn of the law. -/
namespace K20
open PySem L2 Ev
def fS (P : Pool) (k : List Nat) (x : Nat) : Int := sc k (lab P x)
def bk (P : Pool) (k : List Nat) (l : List Nat) : Nat := kF (fS P k) (l.headD 0) l
theorem bk_best {P : Pool} {k l : List Nat} (h : IsLot P l) : Best (fS P k) l (bk P k l) := by
  cases l with
  | nil => exact absurd rfl h.ne
  | cons a l => exact kF_spec (fS P k) h.up
theorem by_key_l (n : Nat) (M : Sto) {P : Pool} (hP : IsPool P) {l : List Nat} (hl : IsLot P l) {k : List Nat} (hk : word k) : ∃ M', callN T (n + 6) "by_key" [pV P, lV l, tv k] M = .ok (iV (bk P k l)) M' ∧ Keep [] M M' := by
  cases l with
  | nil => exact absurd rfl hl.ne
  | cons a l => exact by_key_ok n M hP hl hk
theorem law_keyed_l (n : Nat) (M : Sto) {P : Pool} (hP : IsPool P) {l : List Nat} (hl : IsLot P l) {k : List Nat} (hk : word k) : ∃ M', callN T (n + 2) "_law_by_key" [pV P, lV l, tv k] M = .ok (iV (bk P k l)) M' ∧ Keep [] M M' := by
  cases l with
  | nil => exact absurd rfl hl.ne
  | cons a l => exact law_keyed_ok n M hP hl hk
def lbz (P : Pool) (b : List Int) (l : List Nat) : Nat := lbF P b (l.headD 0) (l.drop 1)
theorem least_l (n : Nat) (M : Sto) {P : Pool} (hP : IsPool P) {l : List Nat} (hl : IsLot P l) {b : List Int} (hb : IsBusy P b) : ∃ M', callN T (n + 6) "least_busy" [pV P, lV l, bV b] M = .ok (iV (lbz P b l)) M' ∧ Keep [] M M' := by
  cases l with
  | nil => exact absurd rfl hl.ne
  | cons a l => exact least_ok n M hP hl hb
theorem law_least_l (n : Nat) (M : Sto) {P : Pool} (hP : IsPool P) {l : List Nat} (hl : IsLot P l) {b : List Int} (hb : IsBusy P b) : callN T (n + 1) "_law_least_busy" [pV P, lV l, bV b] M = .ok (iV (lbz P b l)) M := by
  cases l with
  | nil => exact absurd rfl hl.ne
  | cons a l => exact law_least_ok n M hP hl hb
theorem lbF_lt {P : Pool} {b : List Int} : ∀ (l : List Nat) (a : Nat), a < P.length → (∀ x ∈ l, x < P.length) → lbF P b a l < P.length
  | [], a, h, _ => h
  | c :: l, a, h, hl => by
    have : lbF P b a (c :: l) = lbF P b (lbc P b a c) l := rfl
    rw [this]
    refine lbF_lt l _ ?_ fun x hx => hl x (List.mem_cons_of_mem _ hx)
    unfold lbc
    split
    · exact hl c List.mem_cons_self
    · exact h
theorem lbz_lt {P : Pool} {b : List Int} {l : List Nat} (h : IsLot P l) : lbz P b l < P.length := by
  cases l with
  | nil => exact absurd rfl h.ne
  | cons a l => exact lbF_lt l a (h.lt a List.mem_cons_self) fun x hx => h.lt x (List.mem_cons_of_mem _ hx)
theorem ints_iV : ∀ l : List Nat, intsP (l.map iV) = some (l.map fun x : Nat => (x : Int))
  | [] => rfl
  | a :: l => by
    show (intsP (l.map iV)).map ((a : Int) :: ·) = _
    rw [ints_iV l]; rfl
theorem in_two (M : Sto) (w a b : Nat) : Ev.inV M (iV w) (.tup [iV a, iV b]) = some (decide (w = a ∨ w = b)) := by
  have e : Ev.inV M (iV w) (.tup [iV a, iV b]) = some (decide (w ∈ [a, b])) := in_lot M w [a, b]
  rw [e]
  simp
/-- a range up to a length: (the cast is kept out of the simp runs) -/
theorem rng_ok {G : Glob} {env : Ev.Env} {M : Sto} {e : CE} {m : Int} (h : evE G e env M = .ok (.int m) M) (rg : rgOk 0 m = true) : evI G (.irg1 e) env M = .ok ⟨rgP 0 m, []⟩ M := by
  unfold evI
  rw [h]
  simp only [Res.bind_ok, rg, if_true]
theorem less_lot {P : Pool} {l : List Nat} (h : IsLot P l) {a : Nat} (ha : a ∈ l) (h1 : 1 < l.length) : IsLot P (l.filter fun x => decide (x ≠ a)) := by
  refine ⟨?_, fun x hx => h.lt x (List.mem_filter.mp hx).1, h.up.filter _⟩
  intro z
  have all : ∀ x ∈ l, x = a := fun x hx => by
    have := List.filter_eq_nil_iff.mp z x hx
    simpa using this
  match l, h1, h.up, all with
  | x :: y :: r, _, up, all =>
    have := (List.pairwise_cons.mp up).1 y List.mem_cons_self
    have := all x List.mem_cons_self
    have := all y (List.mem_cons_of_mem _ List.mem_cons_self)
    omega
theorem lot_repr {P : Pool} (hP : IsPool P) {a : Nat} (h : a < P.length) : ∃ t, ∀ M, reprV M (iV a) = some t := int_repr (by have := hP.le; omega)
theorem changes_ok (n : Nat) (M : Sto) {P : Pool} (hP : IsPool P) {l : List Nat} (hl : IsLot P l) {k : List Nat} (hk : word k) : ∃ M', callN T (n + 7) "_law_are_changes_right" [pV P, lV l, tv k, iV (bk P k l)] M = .ok (.bl true) M' ∧ Keep [] M M' := by
  have ll : l.length ≤ 8 := by
    obtain ⟨a, l', rfl⟩ := List.exists_cons_of_ne_nil hl.ne
    exact lot_len hl hP
  have p2 := hP.le
  have bB := bk_best (k := k) hl
  have bL := hl.lt _ bB.1
  rw [e__law_are_changes_right]
  unfold c__law_are_changes_right
  obtain ⟨mi, hmi⟩ : ∃ mi : Int, mi = ((P.map eV).length : Nat) := ⟨_, rfl⟩
  have hml : (((P.map eV).length : Nat) : Int) = mi := hmi.symm
  have rg : rgOk 0 mi = true := rgOk_nat (by omega) (by omega) (by omega) (by rw [hmi]; simp; omega)
  have hE : evE (T.at (n + 6)) (.blt .len (A (V 0) (E_))) [some (pV P), some (lV l), some (tv k), some (iV (bk P k l)), none, none, none, none, none] M = .ok (.int mi) M := by simp only [↓evE.eq_1, ↓evE.eq_2, ↓evE.eq_3, ↓evE.eq_4, ↓evE.eq_5, ↓evE.eq_6, ↓evE.eq_7, ↓evE.eq_8, ↓evE.eq_9, ↓evE.eq_10, ↓evE.eq_11, ↓evE.eq_12, ↓evE.eq_13, ↓evE.eq_14, ↓evE.eq_15, ↓evE.eq_16, ↓evE.eq_17, ↓evE.eq_18, ↓evE.eq_19, ↓evE.eq_20, ↓evE.eq_21, ↓evE.eq_22, ↓evE.eq_23, ↓evE.eq_24, ↓evE.eq_25, ↓evE.eq_26, ↓evE.eq_27, ↓evE.eq_28, ↓evE.eq_29, ↓evE.eq_30, ↓evE.eq_31, ↓evE.eq_32, ↓evE.eq_33, ↓evE.eq_34, ↓evE.eq_35, ↓evE.eq_36, ↓evE.eq_37, ↓evE.eq_38, ↓evS.eq_1, ↓evS_seq, ↓evS.eq_3, ↓evS.eq_4, ↓evS.eq_5, ↓evS.eq_6, ↓evS.eq_7, ↓evS.eq_8, ↓evS_ite, ↓iteS, ↓evS.eq_11, ↓evS.eq_12, ↓evS.eq_13, ↓evS.eq_14, ↓evS.eq_15, ↓evS.eq_16, ↓evS.eq_17, ↓evS_for, ↓evA.eq_1, ↓evA.eq_2, ↓evT.eq_1, ↓evT.eq_2, ↓evO.eq_1, ↓evO.eq_2, ↓evI.eq_1, ↓evI.eq_2, ↓evI.eq_3, ↓evI.eq_4, ↓evI.eq_5, ↓evF.eq_1, ↓evF.eq_2, ↓m_bind, ↓m_then, ↓m_opt, SRes.bind_nx, SRes.bind_rt, SRes.bind_bk, SRes.bind_ct, SRes.bind_ex, SRes.bind_bad, at_call, at_glo, at_fuel, SRes.back, List.getElem?_cons_zero, List.getElem?_cons_succ, List.set_cons_zero, List.set_cons_succ, asgT, asgTs, cmpV, truV, binV, bltV, tyN, tyLe, subV, Option.map_some, Option.map_none, List.any_cons, List.any_nil, if_true, if_false, ite_true, ite_false, String.reduceBEq, Nat.reduceAdd, Bool.or_false, Bool.false_or, Bool.or_true, Bool.true_or, Bool.and_true, Bool.true_and, Bool.and_false, Bool.false_and, Bool.not_true, Bool.not_false, beq_self_eq_true, decide_true, decide_false, reduceCtorEq, Bool.false_eq_true, Ev.keyOf, dctKeys, List.length_cons, List.length_nil, List.zip_cons_cons, List.zip_nil_left, List.zip_nil_right, List.foldl_cons, List.foldl_nil, methV, setV, isL, permL_cons, permL_nil, List.map_cons, List.map_nil, valP_cons, valP_nil, key_str, key_int, ofString_eq, String.reduceEq, putP, sizeLine_eq, Nat.reduceLT, Nat.reduceLeDiff, sto_self, mulOk, powOk, divOk, Int.reducePow, Nat.reducePow, Int.reduceNeg, Int.reduceLT, Int.reduceLE, natAbs64, natAbs30, Int.reduceToNat, Int.reduceEq, Int.reduceAdd, Int.reduceSub, Int.reduceMul, ne_eq, not_false_eq_true, Int.reduceNe, Ev.alloc, Ev.eq_ii, Ev.eq_ss, Ev.eq_bb, Ev.eq_nn, Ev.eq_ni, Ev.eq_in, Ev.eq_ns, Ev.eq_sn, Ev.eq_nb, Ev.eq_bn, Ev.eq_is, Ev.eq_si, and_self, true_and, and_true, fmod_lt64, fmod_gt64, atI_0, atI_1, atI_2, atI_3, atI_4, atI_5, atI_6, atI_7, atI_8, atI_9, itemsV, smV, fmtV, lenSetV, seqOf, lstOf, slcV, revV, srcOf, optI, List.nil_append, List.cons_append, sto_new, intsP, sortI, insI, compL, compG, wipeP, boolsP, List.all_cons, List.all_nil, id_eq, keep_nil, maxI, minI, intsP, cutf_1, cutf_2, cutf_3, cutf_4, cutt_1, cutt_2, cutt_3, cutt_4, List.drop_succ_cons, List.drop_zero, List.take_succ_cons, List.take_zero, Int.cast_ofNat_Int, false_and, and_false, or_self, or_false, false_or, true_or, or_true, lit_e, tS_len, tS_cat, tS_eq, tS_lt, List.toList_toArray, g_MOST_WORD, g_LETTERS, g_MOST_POOL, g_MOST_WEIGHT, g_BEGIN, g_FACTOR, g_MODULUS, GC.pv, hml]
  rw [evS_seq, evS_for, rng_ok hE rg]
  simp only [↓evE.eq_1, ↓evE.eq_2, ↓evE.eq_3, ↓evE.eq_4, ↓evE.eq_5, ↓evE.eq_6, ↓evE.eq_7, ↓evE.eq_8, ↓evE.eq_9, ↓evE.eq_10, ↓evE.eq_11, ↓evE.eq_12, ↓evE.eq_13, ↓evE.eq_14, ↓evE.eq_15, ↓evE.eq_16, ↓evE.eq_17, ↓evE.eq_18, ↓evE.eq_19, ↓evE.eq_20, ↓evE.eq_21, ↓evE.eq_22, ↓evE.eq_23, ↓evE.eq_24, ↓evE.eq_25, ↓evE.eq_26, ↓evE.eq_27, ↓evE.eq_28, ↓evE.eq_29, ↓evE.eq_30, ↓evE.eq_31, ↓evE.eq_32, ↓evE.eq_33, ↓evE.eq_34, ↓evE.eq_35, ↓evE.eq_36, ↓evE.eq_37, ↓evE.eq_38, ↓evS.eq_1, ↓evS_seq, ↓evS.eq_3, ↓evS.eq_4, ↓evS.eq_5, ↓evS.eq_6, ↓evS.eq_7, ↓evS.eq_8, ↓evS_ite, ↓iteS, ↓evS.eq_11, ↓evS.eq_12, ↓evS.eq_13, ↓evS.eq_14, ↓evS.eq_15, ↓evS.eq_16, ↓evS.eq_17, ↓evS_for, ↓evA.eq_1, ↓evA.eq_2, ↓evT.eq_1, ↓evT.eq_2, ↓evO.eq_1, ↓evO.eq_2, ↓evI.eq_1, ↓evI.eq_2, ↓evI.eq_3, ↓evI.eq_4, ↓evI.eq_5, ↓evF.eq_1, ↓evF.eq_2, ↓m_bind, ↓m_then, ↓m_opt, SRes.bind_nx, SRes.bind_rt, SRes.bind_bk, SRes.bind_ct, SRes.bind_ex, SRes.bind_bad, at_call, at_glo, at_fuel, SRes.back, List.getElem?_cons_zero, List.getElem?_cons_succ, List.set_cons_zero, List.set_cons_succ, asgT, asgTs, cmpV, truV, binV, bltV, tyN, tyLe, subV, Option.map_some, Option.map_none, List.any_cons, List.any_nil, if_true, if_false, ite_true, ite_false, String.reduceBEq, Nat.reduceAdd, Bool.or_false, Bool.false_or, Bool.or_true, Bool.true_or, Bool.and_true, Bool.true_and, Bool.and_false, Bool.false_and, Bool.not_true, Bool.not_false, beq_self_eq_true, decide_true, decide_false, reduceCtorEq, Bool.false_eq_true, Ev.keyOf, dctKeys, List.length_cons, List.length_nil, List.zip_cons_cons, List.zip_nil_left, List.zip_nil_right, List.foldl_cons, List.foldl_nil, methV, setV, isL, permL_cons, permL_nil, List.map_cons, List.map_nil, valP_cons, valP_nil, key_str, key_int, ofString_eq, String.reduceEq, putP, sizeLine_eq, Nat.reduceLT, Nat.reduceLeDiff, sto_self, mulOk, powOk, divOk, Int.reducePow, Nat.reducePow, Int.reduceNeg, Int.reduceLT, Int.reduceLE, natAbs64, natAbs30, Int.reduceToNat, Int.reduceEq, Int.reduceAdd, Int.reduceSub, Int.reduceMul, ne_eq, not_false_eq_true, Int.reduceNe, Ev.alloc, Ev.eq_ii, Ev.eq_ss, Ev.eq_bb, Ev.eq_nn, Ev.eq_ni, Ev.eq_in, Ev.eq_ns, Ev.eq_sn, Ev.eq_nb, Ev.eq_bn, Ev.eq_is, Ev.eq_si, and_self, true_and, and_true, fmod_lt64, fmod_gt64, atI_0, atI_1, atI_2, atI_3, atI_4, atI_5, atI_6, atI_7, atI_8, atI_9, itemsV, smV, fmtV, lenSetV, seqOf, lstOf, slcV, revV, srcOf, optI, List.nil_append, List.cons_append, sto_new, intsP, sortI, insI, compL, compG, wipeP, boolsP, List.all_cons, List.all_nil, id_eq, keep_nil, maxI, minI, intsP, cutf_1, cutf_2, cutf_3, cutf_4, cutt_1, cutt_2, cutt_3, cutt_4, List.drop_succ_cons, List.drop_zero, List.take_succ_cons, List.take_zero, Int.cast_ofNat_Int, false_and, and_false, or_self, or_false, false_or, true_or, or_true, lit_e, tS_len, tS_cat, tS_eq, tS_lt, List.toList_toArray, g_MOST_WORD, g_LETTERS, g_MOST_POOL, g_MOST_WEIGHT, g_BEGIN, g_FACTOR, g_MODULUS, GC.pv]
  generalize hz : forL _ _ _ _ _ = z
  have J := for_gen' hz (fun xs env M1 => (∀ x ∈ xs, ∃ a : Nat, a < P.length ∧ x = iV a) ∧ (∃ x4 x5 x6 x7 x8, env = [some (pV P), some (lV l), some (tv k), some (iV (bk P k l)), x4, x5, x6, x7, x8]) ∧ Keep [] M M1)
    (fun z => ∃ M1 x4 x5 x6 x7 x8, Keep [] M M1 ∧ z = .nx [some (pV P), some (lV l), some (tv k), some (iV (bk P k l)), x4, x5, x6, x7, x8] M1)
    ⟨fun x hx => by
      rw [hmi] at hx
      rw [rg_zero] at hx
      obtain ⟨a, ha, rfl⟩ := List.mem_map.mp hx
      exact ⟨a, by simpa using ha, rfl⟩, ⟨none, none, none, none, none, rfl⟩, Keep.refl _⟩ (fun _ _ _ _ => rfl)
    (fun env M1 ⟨_, ⟨x4, x5, x6, x7, x8, e⟩, kp⟩ => ⟨M1, x4, x5, x6, x7, x8, kp, by rw [e]⟩)
    (fun x xs env M1 ⟨f1, ⟨x4, x5, x6, x7, x8, e⟩, kp⟩ => by
      subst e
      obtain ⟨a, ha, rfl⟩ := f1 x List.mem_cons_self
      have f1' : ∀ y ∈ xs, ∃ a : Nat, a < P.length ∧ y = iV a := fun y hy => f1 y (List.mem_cons_of_mem _ hy)
      by_cases hm : a ∈ l
      · have hmd : decide (a ∈ l) = true := decide_eq_true hm
        by_cases h1 : 1 < l.length
        · have h1' : (1 : Int) < ((l.map iV).length : Nat) := by simp; omega
          have rl := less_lot hl hm h1
          have rB := bk_best (k := k) rl
          obtain ⟨t, ht⟩ := lot_repr hP (rl.lt _ rB.1)
          have hc : a ≠ bk P k l → bk P k (l.filter fun x => decide (x ≠ a)) = bk P k l := fun ne => by
            have r1 := (List.mem_filter.mp rB.1).1
            have q1 := bB.2 _ r1
            have q2 := rB.2 (bk P k l) (List.mem_filter.mpr ⟨bB.1, by simpa using fun z => ne z.symm⟩)
            omega
          obtain ⟨X, hX⟩ : ∃ X, X = (l.filter fun x => decide (x ≠ a)).map iV := ⟨_, rfl⟩
          obtain ⟨M2, e2, k2⟩ := by_key_l n (M1 ++ [.lst X]) hP rl hk
          obtain ⟨M3, e3, k3⟩ := law_keyed_l (n + 4) M2 hP rl hk
          have kp3 : Keep [] M M3 := kp.trans (Keep.app.trans (k2.trans k3))
          refine .inl ⟨[some (pV P), some (lV l), some (tv k), some (iV (bk P k l)), some (iV a), x5, some (iV (bk P k (l.filter fun x => decide (x ≠ a)))), some (lV (l.filter fun x => decide (x ≠ a))), x8], M3, .inl ?_, f1', ⟨_, _, _, _, _, rfl⟩, kp3⟩
          unfold forB
          simp only [↓evE.eq_1, ↓evE.eq_2, ↓evE.eq_3, ↓evE.eq_4, ↓evE.eq_5, ↓evE.eq_6, ↓evE.eq_7, ↓evE.eq_8, ↓evE.eq_9, ↓evE.eq_10, ↓evE.eq_11, ↓evE.eq_12, ↓evE.eq_13, ↓evE.eq_14, ↓evE.eq_15, ↓evE.eq_16, ↓evE.eq_17, ↓evE.eq_18, ↓evE.eq_19, ↓evE.eq_20, ↓evE.eq_21, ↓evE.eq_22, ↓evE.eq_23, ↓evE.eq_24, ↓evE.eq_25, ↓evE.eq_26, ↓evE.eq_27, ↓evE.eq_28, ↓evE.eq_29, ↓evE.eq_30, ↓evE.eq_31, ↓evE.eq_32, ↓evE.eq_33, ↓evE.eq_34, ↓evE.eq_35, ↓evE.eq_36, ↓evE.eq_37, ↓evE.eq_38, ↓evS.eq_1, ↓evS_seq, ↓evS.eq_3, ↓evS.eq_4, ↓evS.eq_5, ↓evS.eq_6, ↓evS.eq_7, ↓evS.eq_8, ↓evS_ite, ↓iteS, ↓evS.eq_11, ↓evS.eq_12, ↓evS.eq_13, ↓evS.eq_14, ↓evS.eq_15, ↓evS.eq_16, ↓evS.eq_17, ↓evS_for, ↓evA.eq_1, ↓evA.eq_2, ↓evT.eq_1, ↓evT.eq_2, ↓evO.eq_1, ↓evO.eq_2, ↓evI.eq_1, ↓evI.eq_2, ↓evI.eq_3, ↓evI.eq_4, ↓evI.eq_5, ↓evF.eq_1, ↓evF.eq_2, ↓m_bind, ↓m_then, ↓m_opt, SRes.bind_nx, SRes.bind_rt, SRes.bind_bk, SRes.bind_ct, SRes.bind_ex, SRes.bind_bad, at_call, at_glo, at_fuel, SRes.back, List.getElem?_cons_zero, List.getElem?_cons_succ, List.set_cons_zero, List.set_cons_succ, asgT, asgTs, cmpV, truV, binV, bltV, tyN, tyLe, subV, Option.map_some, Option.map_none, List.any_cons, List.any_nil, if_true, if_false, ite_true, ite_false, String.reduceBEq, Nat.reduceAdd, Bool.or_false, Bool.false_or, Bool.or_true, Bool.true_or, Bool.and_true, Bool.true_and, Bool.and_false, Bool.false_and, Bool.not_true, Bool.not_false, beq_self_eq_true, decide_true, decide_false, reduceCtorEq, Bool.false_eq_true, Ev.keyOf, dctKeys, List.length_cons, List.length_nil, List.zip_cons_cons, List.zip_nil_left, List.zip_nil_right, List.foldl_cons, List.foldl_nil, methV, setV, isL, permL_cons, permL_nil, List.map_cons, List.map_nil, valP_cons, valP_nil, key_str, key_int, ofString_eq, String.reduceEq, putP, sizeLine_eq, Nat.reduceLT, Nat.reduceLeDiff, sto_self, mulOk, powOk, divOk, Int.reducePow, Nat.reducePow, Int.reduceNeg, Int.reduceLT, Int.reduceLE, natAbs64, natAbs30, Int.reduceToNat, Int.reduceEq, Int.reduceAdd, Int.reduceSub, Int.reduceMul, ne_eq, not_false_eq_true, Int.reduceNe, Ev.alloc, Ev.eq_ii, Ev.eq_ss, Ev.eq_bb, Ev.eq_nn, Ev.eq_ni, Ev.eq_in, Ev.eq_ns, Ev.eq_sn, Ev.eq_nb, Ev.eq_bn, Ev.eq_is, Ev.eq_si, and_self, true_and, and_true, fmod_lt64, fmod_gt64, atI_0, atI_1, atI_2, atI_3, atI_4, atI_5, atI_6, atI_7, atI_8, atI_9, itemsV, smV, fmtV, lenSetV, seqOf, lstOf, slcV, revV, srcOf, optI, List.nil_append, List.cons_append, sto_new, intsP, sortI, insI, compL, compG, wipeP, boolsP, List.all_cons, List.all_nil, id_eq, keep_nil, maxI, minI, intsP, cutf_1, cutf_2, cutf_3, cutf_4, cutt_1, cutt_2, cutt_3, cutt_4, List.drop_succ_cons, List.drop_zero, List.take_succ_cons, List.take_zero, Int.cast_ofNat_Int, false_and, and_false, or_self, or_false, false_or, true_or, or_true, lit_e, tS_len, tS_cat, tS_eq, tS_lt, List.toList_toArray, g_MOST_WORD, g_LETTERS, g_MOST_POOL, g_MOST_WEIGHT, g_BEGIN, g_FACTOR, g_MODULUS, GC.pv, in_lot, hmd, h1']
          generalize hq : compL _ _ _ _ _ = q
          obtain ⟨out, M4, rfl, hM, dn, rt, o1, o2, o3⟩ := comp_gen' hq (fun xs acc M4 => M4 = M1 ∧ ∃ dn rt : List Nat, dn ++ rt = l ∧ xs = rt.map iV ∧ acc = (dn.filter fun x => decide (x ≠ a)).map iV)
            ⟨rfl, [], l, rfl, rfl, rfl⟩ (fun _ _ _ _ => rfl)
            (fun y ys acc M4 ⟨hM, dn, rt, o1, o2, o3⟩ => by
              cases rt with
              | nil => cases o2
              | cons b rt =>
                cases o2
                subst hM
                have dl : dn.length ≤ 8 := by rw [← o1] at ll; simp at ll; omega
                have fl : (dn.filter fun x => decide (x ≠ a)).length ≤ 8 := Nat.le_trans (List.length_filter_le _ _) dl
                refine ⟨by rw [o3, sizeLine_eq]; simp only [List.length_map]; omega, M4, ?_⟩
                by_cases hb : b = a
                · have hb' : ((b : Int) = (a : Int)) = True := eq_true (by omega)
                  refine .inr ⟨?_, rfl, dn ++ [b], rt, by rw [← o1]; simp, rfl, by rw [o3, List.filter_append]; simp [hb]⟩
                  simp only [↓evE.eq_1, ↓evE.eq_2, ↓evE.eq_3, ↓evE.eq_4, ↓evE.eq_5, ↓evE.eq_6, ↓evE.eq_7, ↓evE.eq_8, ↓evE.eq_9, ↓evE.eq_10, ↓evE.eq_11, ↓evE.eq_12, ↓evE.eq_13, ↓evE.eq_14, ↓evE.eq_15, ↓evE.eq_16, ↓evE.eq_17, ↓evE.eq_18, ↓evE.eq_19, ↓evE.eq_20, ↓evE.eq_21, ↓evE.eq_22, ↓evE.eq_23, ↓evE.eq_24, ↓evE.eq_25, ↓evE.eq_26, ↓evE.eq_27, ↓evE.eq_28, ↓evE.eq_29, ↓evE.eq_30, ↓evE.eq_31, ↓evE.eq_32, ↓evE.eq_33, ↓evE.eq_34, ↓evE.eq_35, ↓evE.eq_36, ↓evE.eq_37, ↓evE.eq_38, ↓evS.eq_1, ↓evS_seq, ↓evS.eq_3, ↓evS.eq_4, ↓evS.eq_5, ↓evS.eq_6, ↓evS.eq_7, ↓evS.eq_8, ↓evS_ite, ↓iteS, ↓evS.eq_11, ↓evS.eq_12, ↓evS.eq_13, ↓evS.eq_14, ↓evS.eq_15, ↓evS.eq_16, ↓evS.eq_17, ↓evS_for, ↓evA.eq_1, ↓evA.eq_2, ↓evT.eq_1, ↓evT.eq_2, ↓evO.eq_1, ↓evO.eq_2, ↓evI.eq_1, ↓evI.eq_2, ↓evI.eq_3, ↓evI.eq_4, ↓evI.eq_5, ↓evF.eq_1, ↓evF.eq_2, ↓m_bind, ↓m_then, ↓m_opt, SRes.bind_nx, SRes.bind_rt, SRes.bind_bk, SRes.bind_ct, SRes.bind_ex, SRes.bind_bad, at_call, at_glo, at_fuel, SRes.back, List.getElem?_cons_zero, List.getElem?_cons_succ, List.set_cons_zero, List.set_cons_succ, asgT, asgTs, cmpV, truV, binV, bltV, tyN, tyLe, subV, Option.map_some, Option.map_none, List.any_cons, List.any_nil, if_true, if_false, ite_true, ite_false, String.reduceBEq, Nat.reduceAdd, Bool.or_false, Bool.false_or, Bool.or_true, Bool.true_or, Bool.and_true, Bool.true_and, Bool.and_false, Bool.false_and, Bool.not_true, Bool.not_false, beq_self_eq_true, decide_true, decide_false, reduceCtorEq, Bool.false_eq_true, Ev.keyOf, dctKeys, List.length_cons, List.length_nil, List.zip_cons_cons, List.zip_nil_left, List.zip_nil_right, List.foldl_cons, List.foldl_nil, methV, setV, isL, permL_cons, permL_nil, List.map_cons, List.map_nil, valP_cons, valP_nil, key_str, key_int, ofString_eq, String.reduceEq, putP, sizeLine_eq, Nat.reduceLT, Nat.reduceLeDiff, sto_self, mulOk, powOk, divOk, Int.reducePow, Nat.reducePow, Int.reduceNeg, Int.reduceLT, Int.reduceLE, natAbs64, natAbs30, Int.reduceToNat, Int.reduceEq, Int.reduceAdd, Int.reduceSub, Int.reduceMul, ne_eq, not_false_eq_true, Int.reduceNe, Ev.alloc, Ev.eq_ii, Ev.eq_ss, Ev.eq_bb, Ev.eq_nn, Ev.eq_ni, Ev.eq_in, Ev.eq_ns, Ev.eq_sn, Ev.eq_nb, Ev.eq_bn, Ev.eq_is, Ev.eq_si, and_self, true_and, and_true, fmod_lt64, fmod_gt64, atI_0, atI_1, atI_2, atI_3, atI_4, atI_5, atI_6, atI_7, atI_8, atI_9, itemsV, smV, fmtV, lenSetV, seqOf, lstOf, slcV, revV, srcOf, optI, List.nil_append, List.cons_append, sto_new, intsP, sortI, insI, compL, compG, wipeP, boolsP, List.all_cons, List.all_nil, id_eq, keep_nil, maxI, minI, intsP, cutf_1, cutf_2, cutf_3, cutf_4, cutt_1, cutt_2, cutt_3, cutt_4, List.drop_succ_cons, List.drop_zero, List.take_succ_cons, List.take_zero, Int.cast_ofNat_Int, false_and, and_false, or_self, or_false, false_or, true_or, or_true, lit_e, tS_len, tS_cat, tS_eq, tS_lt, List.toList_toArray, g_MOST_WORD, g_LETTERS, g_MOST_POOL, g_MOST_WEIGHT, g_BEGIN, g_FACTOR, g_MODULUS, GC.pv, hb']
                · have hb' : ((b : Int) = (a : Int)) = False := eq_false (by omega)
                  refine .inl ⟨iV b, ?_, rfl, dn ++ [b], rt, by rw [← o1]; simp, rfl, by rw [o3, List.filter_append]; simp [hb]⟩
                  simp only [↓evE.eq_1, ↓evE.eq_2, ↓evE.eq_3, ↓evE.eq_4, ↓evE.eq_5, ↓evE.eq_6, ↓evE.eq_7, ↓evE.eq_8, ↓evE.eq_9, ↓evE.eq_10, ↓evE.eq_11, ↓evE.eq_12, ↓evE.eq_13, ↓evE.eq_14, ↓evE.eq_15, ↓evE.eq_16, ↓evE.eq_17, ↓evE.eq_18, ↓evE.eq_19, ↓evE.eq_20, ↓evE.eq_21, ↓evE.eq_22, ↓evE.eq_23, ↓evE.eq_24, ↓evE.eq_25, ↓evE.eq_26, ↓evE.eq_27, ↓evE.eq_28, ↓evE.eq_29, ↓evE.eq_30, ↓evE.eq_31, ↓evE.eq_32, ↓evE.eq_33, ↓evE.eq_34, ↓evE.eq_35, ↓evE.eq_36, ↓evE.eq_37, ↓evE.eq_38, ↓evS.eq_1, ↓evS_seq, ↓evS.eq_3, ↓evS.eq_4, ↓evS.eq_5, ↓evS.eq_6, ↓evS.eq_7, ↓evS.eq_8, ↓evS_ite, ↓iteS, ↓evS.eq_11, ↓evS.eq_12, ↓evS.eq_13, ↓evS.eq_14, ↓evS.eq_15, ↓evS.eq_16, ↓evS.eq_17, ↓evS_for, ↓evA.eq_1, ↓evA.eq_2, ↓evT.eq_1, ↓evT.eq_2, ↓evO.eq_1, ↓evO.eq_2, ↓evI.eq_1, ↓evI.eq_2, ↓evI.eq_3, ↓evI.eq_4, ↓evI.eq_5, ↓evF.eq_1, ↓evF.eq_2, ↓m_bind, ↓m_then, ↓m_opt, SRes.bind_nx, SRes.bind_rt, SRes.bind_bk, SRes.bind_ct, SRes.bind_ex, SRes.bind_bad, at_call, at_glo, at_fuel, SRes.back, List.getElem?_cons_zero, List.getElem?_cons_succ, List.set_cons_zero, List.set_cons_succ, asgT, asgTs, cmpV, truV, binV, bltV, tyN, tyLe, subV, Option.map_some, Option.map_none, List.any_cons, List.any_nil, if_true, if_false, ite_true, ite_false, String.reduceBEq, Nat.reduceAdd, Bool.or_false, Bool.false_or, Bool.or_true, Bool.true_or, Bool.and_true, Bool.true_and, Bool.and_false, Bool.false_and, Bool.not_true, Bool.not_false, beq_self_eq_true, decide_true, decide_false, reduceCtorEq, Bool.false_eq_true, Ev.keyOf, dctKeys, List.length_cons, List.length_nil, List.zip_cons_cons, List.zip_nil_left, List.zip_nil_right, List.foldl_cons, List.foldl_nil, methV, setV, isL, permL_cons, permL_nil, List.map_cons, List.map_nil, valP_cons, valP_nil, key_str, key_int, ofString_eq, String.reduceEq, putP, sizeLine_eq, Nat.reduceLT, Nat.reduceLeDiff, sto_self, mulOk, powOk, divOk, Int.reducePow, Nat.reducePow, Int.reduceNeg, Int.reduceLT, Int.reduceLE, natAbs64, natAbs30, Int.reduceToNat, Int.reduceEq, Int.reduceAdd, Int.reduceSub, Int.reduceMul, ne_eq, not_false_eq_true, Int.reduceNe, Ev.alloc, Ev.eq_ii, Ev.eq_ss, Ev.eq_bb, Ev.eq_nn, Ev.eq_ni, Ev.eq_in, Ev.eq_ns, Ev.eq_sn, Ev.eq_nb, Ev.eq_bn, Ev.eq_is, Ev.eq_si, and_self, true_and, and_true, fmod_lt64, fmod_gt64, atI_0, atI_1, atI_2, atI_3, atI_4, atI_5, atI_6, atI_7, atI_8, atI_9, itemsV, smV, fmtV, lenSetV, seqOf, lstOf, slcV, revV, srcOf, optI, List.nil_append, List.cons_append, sto_new, intsP, sortI, insI, compL, compG, wipeP, boolsP, List.all_cons, List.all_nil, id_eq, keep_nil, maxI, minI, intsP, cutf_1, cutf_2, cutf_3, cutf_4, cutt_1, cutt_2, cutt_3, cutt_4, List.drop_succ_cons, List.drop_zero, List.take_succ_cons, List.take_zero, Int.cast_ofNat_Int, false_and, and_false, or_self, or_false, false_or, true_or, or_true, lit_e, tS_len, tS_cat, tS_eq, tS_lt, List.toList_toArray, g_MOST_WORD, g_LETTERS, g_MOST_POOL, g_MOST_WEIGHT, g_BEGIN, g_FACTOR, g_MODULUS, GC.pv, hb'])
          have : rt = [] := by cases rt with
            | nil => rfl
            | cons _ _ => cases o2
          subst this
          rw [List.append_nil] at o1
          subst o1 hM o3
          unfold lV at e2 e3
          rw [← hX] at e2 e3
          by_cases ne : a = bk P k dn
          · have nd : ((a : Int) = ((bk P k dn : Nat) : Int)) = True := eq_true (by omega)
            unfold lV
            rw [← hX]
            simp only [↓evE.eq_1, ↓evE.eq_2, ↓evE.eq_3, ↓evE.eq_4, ↓evE.eq_5, ↓evE.eq_6, ↓evE.eq_7, ↓evE.eq_8, ↓evE.eq_9, ↓evE.eq_10, ↓evE.eq_11, ↓evE.eq_12, ↓evE.eq_13, ↓evE.eq_14, ↓evE.eq_15, ↓evE.eq_16, ↓evE.eq_17, ↓evE.eq_18, ↓evE.eq_19, ↓evE.eq_20, ↓evE.eq_21, ↓evE.eq_22, ↓evE.eq_23, ↓evE.eq_24, ↓evE.eq_25, ↓evE.eq_26, ↓evE.eq_27, ↓evE.eq_28, ↓evE.eq_29, ↓evE.eq_30, ↓evE.eq_31, ↓evE.eq_32, ↓evE.eq_33, ↓evE.eq_34, ↓evE.eq_35, ↓evE.eq_36, ↓evE.eq_37, ↓evE.eq_38, ↓evS.eq_1, ↓evS_seq, ↓evS.eq_3, ↓evS.eq_4, ↓evS.eq_5, ↓evS.eq_6, ↓evS.eq_7, ↓evS.eq_8, ↓evS_ite, ↓iteS, ↓evS.eq_11, ↓evS.eq_12, ↓evS.eq_13, ↓evS.eq_14, ↓evS.eq_15, ↓evS.eq_16, ↓evS.eq_17, ↓evS_for, ↓evA.eq_1, ↓evA.eq_2, ↓evT.eq_1, ↓evT.eq_2, ↓evO.eq_1, ↓evO.eq_2, ↓evI.eq_1, ↓evI.eq_2, ↓evI.eq_3, ↓evI.eq_4, ↓evI.eq_5, ↓evF.eq_1, ↓evF.eq_2, ↓m_bind, ↓m_then, ↓m_opt, SRes.bind_nx, SRes.bind_rt, SRes.bind_bk, SRes.bind_ct, SRes.bind_ex, SRes.bind_bad, at_call, at_glo, at_fuel, SRes.back, List.getElem?_cons_zero, List.getElem?_cons_succ, List.set_cons_zero, List.set_cons_succ, asgT, asgTs, cmpV, truV, binV, bltV, tyN, tyLe, subV, Option.map_some, Option.map_none, List.any_cons, List.any_nil, if_true, if_false, ite_true, ite_false, String.reduceBEq, Nat.reduceAdd, Bool.or_false, Bool.false_or, Bool.or_true, Bool.true_or, Bool.and_true, Bool.true_and, Bool.and_false, Bool.false_and, Bool.not_true, Bool.not_false, beq_self_eq_true, decide_true, decide_false, reduceCtorEq, Bool.false_eq_true, Ev.keyOf, dctKeys, List.length_cons, List.length_nil, List.zip_cons_cons, List.zip_nil_left, List.zip_nil_right, List.foldl_cons, List.foldl_nil, methV, setV, isL, permL_cons, permL_nil, List.map_cons, List.map_nil, valP_cons, valP_nil, key_str, key_int, ofString_eq, String.reduceEq, putP, sizeLine_eq, Nat.reduceLT, Nat.reduceLeDiff, sto_self, mulOk, powOk, divOk, Int.reducePow, Nat.reducePow, Int.reduceNeg, Int.reduceLT, Int.reduceLE, natAbs64, natAbs30, Int.reduceToNat, Int.reduceEq, Int.reduceAdd, Int.reduceSub, Int.reduceMul, ne_eq, not_false_eq_true, Int.reduceNe, Ev.alloc, Ev.eq_ii, Ev.eq_ss, Ev.eq_bb, Ev.eq_nn, Ev.eq_ni, Ev.eq_in, Ev.eq_ns, Ev.eq_sn, Ev.eq_nb, Ev.eq_bn, Ev.eq_is, Ev.eq_si, and_self, true_and, and_true, fmod_lt64, fmod_gt64, atI_0, atI_1, atI_2, atI_3, atI_4, atI_5, atI_6, atI_7, atI_8, atI_9, itemsV, smV, fmtV, lenSetV, seqOf, lstOf, slcV, revV, srcOf, optI, List.nil_append, List.cons_append, sto_new, intsP, sortI, insI, compL, compG, wipeP, boolsP, List.all_cons, List.all_nil, id_eq, keep_nil, maxI, minI, intsP, cutf_1, cutf_2, cutf_3, cutf_4, cutt_1, cutt_2, cutt_3, cutt_4, List.drop_succ_cons, List.drop_zero, List.take_succ_cons, List.take_zero, Int.cast_ofNat_Int, false_and, and_false, or_self, or_false, false_or, true_or, or_true, lit_e, tS_len, tS_cat, tS_eq, tS_lt, List.toList_toArray, g_MOST_WORD, g_LETTERS, g_MOST_POOL, g_MOST_WEIGHT, g_BEGIN, g_FACTOR, g_MODULUS, GC.pv, sto_new, e2, nd, e3, ht]
          · have nd : ((a : Int) = ((bk P k dn : Nat) : Int)) = False := eq_false (by omega)
            have q := hc ne
            have nd2 : (((bk P k (dn.filter fun x => decide (x ≠ a)) : Nat) : Int) = ((bk P k dn : Nat) : Int)) = True := eq_true (by rw [q])
            unfold lV
            rw [← hX]
            simp only [↓evE.eq_1, ↓evE.eq_2, ↓evE.eq_3, ↓evE.eq_4, ↓evE.eq_5, ↓evE.eq_6, ↓evE.eq_7, ↓evE.eq_8, ↓evE.eq_9, ↓evE.eq_10, ↓evE.eq_11, ↓evE.eq_12, ↓evE.eq_13, ↓evE.eq_14, ↓evE.eq_15, ↓evE.eq_16, ↓evE.eq_17, ↓evE.eq_18, ↓evE.eq_19, ↓evE.eq_20, ↓evE.eq_21, ↓evE.eq_22, ↓evE.eq_23, ↓evE.eq_24, ↓evE.eq_25, ↓evE.eq_26, ↓evE.eq_27, ↓evE.eq_28, ↓evE.eq_29, ↓evE.eq_30, ↓evE.eq_31, ↓evE.eq_32, ↓evE.eq_33, ↓evE.eq_34, ↓evE.eq_35, ↓evE.eq_36, ↓evE.eq_37, ↓evE.eq_38, ↓evS.eq_1, ↓evS_seq, ↓evS.eq_3, ↓evS.eq_4, ↓evS.eq_5, ↓evS.eq_6, ↓evS.eq_7, ↓evS.eq_8, ↓evS_ite, ↓iteS, ↓evS.eq_11, ↓evS.eq_12, ↓evS.eq_13, ↓evS.eq_14, ↓evS.eq_15, ↓evS.eq_16, ↓evS.eq_17, ↓evS_for, ↓evA.eq_1, ↓evA.eq_2, ↓evT.eq_1, ↓evT.eq_2, ↓evO.eq_1, ↓evO.eq_2, ↓evI.eq_1, ↓evI.eq_2, ↓evI.eq_3, ↓evI.eq_4, ↓evI.eq_5, ↓evF.eq_1, ↓evF.eq_2, ↓m_bind, ↓m_then, ↓m_opt, SRes.bind_nx, SRes.bind_rt, SRes.bind_bk, SRes.bind_ct, SRes.bind_ex, SRes.bind_bad, at_call, at_glo, at_fuel, SRes.back, List.getElem?_cons_zero, List.getElem?_cons_succ, List.set_cons_zero, List.set_cons_succ, asgT, asgTs, cmpV, truV, binV, bltV, tyN, tyLe, subV, Option.map_some, Option.map_none, List.any_cons, List.any_nil, if_true, if_false, ite_true, ite_false, String.reduceBEq, Nat.reduceAdd, Bool.or_false, Bool.false_or, Bool.or_true, Bool.true_or, Bool.and_true, Bool.true_and, Bool.and_false, Bool.false_and, Bool.not_true, Bool.not_false, beq_self_eq_true, decide_true, decide_false, reduceCtorEq, Bool.false_eq_true, Ev.keyOf, dctKeys, List.length_cons, List.length_nil, List.zip_cons_cons, List.zip_nil_left, List.zip_nil_right, List.foldl_cons, List.foldl_nil, methV, setV, isL, permL_cons, permL_nil, List.map_cons, List.map_nil, valP_cons, valP_nil, key_str, key_int, ofString_eq, String.reduceEq, putP, sizeLine_eq, Nat.reduceLT, Nat.reduceLeDiff, sto_self, mulOk, powOk, divOk, Int.reducePow, Nat.reducePow, Int.reduceNeg, Int.reduceLT, Int.reduceLE, natAbs64, natAbs30, Int.reduceToNat, Int.reduceEq, Int.reduceAdd, Int.reduceSub, Int.reduceMul, ne_eq, not_false_eq_true, Int.reduceNe, Ev.alloc, Ev.eq_ii, Ev.eq_ss, Ev.eq_bb, Ev.eq_nn, Ev.eq_ni, Ev.eq_in, Ev.eq_ns, Ev.eq_sn, Ev.eq_nb, Ev.eq_bn, Ev.eq_is, Ev.eq_si, and_self, true_and, and_true, fmod_lt64, fmod_gt64, atI_0, atI_1, atI_2, atI_3, atI_4, atI_5, atI_6, atI_7, atI_8, atI_9, itemsV, smV, fmtV, lenSetV, seqOf, lstOf, slcV, revV, srcOf, optI, List.nil_append, List.cons_append, sto_new, intsP, sortI, insI, compL, compG, wipeP, boolsP, List.all_cons, List.all_nil, id_eq, keep_nil, maxI, minI, intsP, cutf_1, cutf_2, cutf_3, cutf_4, cutt_1, cutt_2, cutt_3, cutt_4, List.drop_succ_cons, List.drop_zero, List.take_succ_cons, List.take_zero, Int.cast_ofNat_Int, false_and, and_false, or_self, or_false, false_or, true_or, or_true, lit_e, tS_len, tS_cat, tS_eq, tS_lt, List.toList_toArray, g_MOST_WORD, g_LETTERS, g_MOST_POOL, g_MOST_WEIGHT, g_BEGIN, g_FACTOR, g_MODULUS, GC.pv, sto_new, e2, nd, nd2, e3, ht]
        · have h1' : ¬ (1 : Int) < ((l.map iV).length : Nat) := by simp; omega
          refine .inl ⟨[some (pV P), some (lV l), some (tv k), some (iV (bk P k l)), some (iV a), x5, x6, x7, x8], M1, .inl ?_, f1', ⟨_, _, _, _, _, rfl⟩, kp⟩
          unfold forB
          simp only [↓evE.eq_1, ↓evE.eq_2, ↓evE.eq_3, ↓evE.eq_4, ↓evE.eq_5, ↓evE.eq_6, ↓evE.eq_7, ↓evE.eq_8, ↓evE.eq_9, ↓evE.eq_10, ↓evE.eq_11, ↓evE.eq_12, ↓evE.eq_13, ↓evE.eq_14, ↓evE.eq_15, ↓evE.eq_16, ↓evE.eq_17, ↓evE.eq_18, ↓evE.eq_19, ↓evE.eq_20, ↓evE.eq_21, ↓evE.eq_22, ↓evE.eq_23, ↓evE.eq_24, ↓evE.eq_25, ↓evE.eq_26, ↓evE.eq_27, ↓evE.eq_28, ↓evE.eq_29, ↓evE.eq_30, ↓evE.eq_31, ↓evE.eq_32, ↓evE.eq_33, ↓evE.eq_34, ↓evE.eq_35, ↓evE.eq_36, ↓evE.eq_37, ↓evE.eq_38, ↓evS.eq_1, ↓evS_seq, ↓evS.eq_3, ↓evS.eq_4, ↓evS.eq_5, ↓evS.eq_6, ↓evS.eq_7, ↓evS.eq_8, ↓evS_ite, ↓iteS, ↓evS.eq_11, ↓evS.eq_12, ↓evS.eq_13, ↓evS.eq_14, ↓evS.eq_15, ↓evS.eq_16, ↓evS.eq_17, ↓evS_for, ↓evA.eq_1, ↓evA.eq_2, ↓evT.eq_1, ↓evT.eq_2, ↓evO.eq_1, ↓evO.eq_2, ↓evI.eq_1, ↓evI.eq_2, ↓evI.eq_3, ↓evI.eq_4, ↓evI.eq_5, ↓evF.eq_1, ↓evF.eq_2, ↓m_bind, ↓m_then, ↓m_opt, SRes.bind_nx, SRes.bind_rt, SRes.bind_bk, SRes.bind_ct, SRes.bind_ex, SRes.bind_bad, at_call, at_glo, at_fuel, SRes.back, List.getElem?_cons_zero, List.getElem?_cons_succ, List.set_cons_zero, List.set_cons_succ, asgT, asgTs, cmpV, truV, binV, bltV, tyN, tyLe, subV, Option.map_some, Option.map_none, List.any_cons, List.any_nil, if_true, if_false, ite_true, ite_false, String.reduceBEq, Nat.reduceAdd, Bool.or_false, Bool.false_or, Bool.or_true, Bool.true_or, Bool.and_true, Bool.true_and, Bool.and_false, Bool.false_and, Bool.not_true, Bool.not_false, beq_self_eq_true, decide_true, decide_false, reduceCtorEq, Bool.false_eq_true, Ev.keyOf, dctKeys, List.length_cons, List.length_nil, List.zip_cons_cons, List.zip_nil_left, List.zip_nil_right, List.foldl_cons, List.foldl_nil, methV, setV, isL, permL_cons, permL_nil, List.map_cons, List.map_nil, valP_cons, valP_nil, key_str, key_int, ofString_eq, String.reduceEq, putP, sizeLine_eq, Nat.reduceLT, Nat.reduceLeDiff, sto_self, mulOk, powOk, divOk, Int.reducePow, Nat.reducePow, Int.reduceNeg, Int.reduceLT, Int.reduceLE, natAbs64, natAbs30, Int.reduceToNat, Int.reduceEq, Int.reduceAdd, Int.reduceSub, Int.reduceMul, ne_eq, not_false_eq_true, Int.reduceNe, Ev.alloc, Ev.eq_ii, Ev.eq_ss, Ev.eq_bb, Ev.eq_nn, Ev.eq_ni, Ev.eq_in, Ev.eq_ns, Ev.eq_sn, Ev.eq_nb, Ev.eq_bn, Ev.eq_is, Ev.eq_si, and_self, true_and, and_true, fmod_lt64, fmod_gt64, atI_0, atI_1, atI_2, atI_3, atI_4, atI_5, atI_6, atI_7, atI_8, atI_9, itemsV, smV, fmtV, lenSetV, seqOf, lstOf, slcV, revV, srcOf, optI, List.nil_append, List.cons_append, sto_new, intsP, sortI, insI, compL, compG, wipeP, boolsP, List.all_cons, List.all_nil, id_eq, keep_nil, maxI, minI, intsP, cutf_1, cutf_2, cutf_3, cutf_4, cutt_1, cutt_2, cutt_3, cutt_4, List.drop_succ_cons, List.drop_zero, List.take_succ_cons, List.take_zero, Int.cast_ofNat_Int, false_and, and_false, or_self, or_false, false_or, true_or, or_true, lit_e, tS_len, tS_cat, tS_eq, tS_lt, List.toList_toArray, g_MOST_WORD, g_LETTERS, g_MOST_POOL, g_MOST_WEIGHT, g_BEGIN, g_FACTOR, g_MODULUS, GC.pv, in_lot, hmd, h1']
      · have hmd : decide (a ∈ l) = false := decide_eq_false hm
        obtain ⟨l', s1, s2, ml⟩ := more_lot hl ha hm
        have mB := bk_best (k := k) ml
        obtain ⟨t, ht⟩ := lot_repr hP (ml.lt _ mB.1)
        have hc : bk P k l' = bk P k l ∨ bk P k l' = a := by
          rcases (s2 _).mp mB.1 with h | h
          · left
            have q1 := bB.2 _ h
            have q2 := mB.2 _ ((s2 _).mpr (.inl bB.1))
            omega
          · exact .inr h
        have hcd : decide (bk P k l' = bk P k l ∨ bk P k l' = a) = true := decide_eq_true hc
        have pi : intsP (l.map iV ++ [iV a]) = some ((l ++ [a]).map fun x : Nat => (x : Int)) := by
          have := ints_iV (l ++ [a])
          simpa using this
        have ms : ((l'.map fun x : Nat => (x : Int)).map PV.int) = l'.map iV := by rw [List.map_map]; rfl
        have s0 : ((l.map iV).length + 1 ≤ 16777216) = True := eq_true (by simp; omega)
        obtain ⟨X, hX⟩ : ∃ X, X = l'.map iV := ⟨_, rfl⟩
        obtain ⟨M2, e2, k2⟩ := by_key_l n (M1 ++ [.lst X]) hP ml hk
        obtain ⟨M3, e3, k3⟩ := law_keyed_l (n + 4) M2 hP ml hk
        have kp3 : Keep [] M M3 := kp.trans (Keep.app.trans (k2.trans k3))
        refine .inl ⟨[some (pV P), some (lV l), some (tv k), some (iV (bk P k l)), some (iV a), some (lV l'), some (iV (bk P k l')), x7, x8], M3, .inl ?_, f1', ⟨_, _, _, _, _, rfl⟩, kp3⟩
        unfold lV at e2 e3
        rw [← hX] at e2 e3
        unfold forB
        rw [hX] at e2 e3
        simp only [↓evE.eq_1, ↓evE.eq_2, ↓evE.eq_3, ↓evE.eq_4, ↓evE.eq_5, ↓evE.eq_6, ↓evE.eq_7, ↓evE.eq_8, ↓evE.eq_9, ↓evE.eq_10, ↓evE.eq_11, ↓evE.eq_12, ↓evE.eq_13, ↓evE.eq_14, ↓evE.eq_15, ↓evE.eq_16, ↓evE.eq_17, ↓evE.eq_18, ↓evE.eq_19, ↓evE.eq_20, ↓evE.eq_21, ↓evE.eq_22, ↓evE.eq_23, ↓evE.eq_24, ↓evE.eq_25, ↓evE.eq_26, ↓evE.eq_27, ↓evE.eq_28, ↓evE.eq_29, ↓evE.eq_30, ↓evE.eq_31, ↓evE.eq_32, ↓evE.eq_33, ↓evE.eq_34, ↓evE.eq_35, ↓evE.eq_36, ↓evE.eq_37, ↓evE.eq_38, ↓evS.eq_1, ↓evS_seq, ↓evS.eq_3, ↓evS.eq_4, ↓evS.eq_5, ↓evS.eq_6, ↓evS.eq_7, ↓evS.eq_8, ↓evS_ite, ↓iteS, ↓evS.eq_11, ↓evS.eq_12, ↓evS.eq_13, ↓evS.eq_14, ↓evS.eq_15, ↓evS.eq_16, ↓evS.eq_17, ↓evS_for, ↓evA.eq_1, ↓evA.eq_2, ↓evT.eq_1, ↓evT.eq_2, ↓evO.eq_1, ↓evO.eq_2, ↓evI.eq_1, ↓evI.eq_2, ↓evI.eq_3, ↓evI.eq_4, ↓evI.eq_5, ↓evF.eq_1, ↓evF.eq_2, ↓m_bind, ↓m_then, ↓m_opt, SRes.bind_nx, SRes.bind_rt, SRes.bind_bk, SRes.bind_ct, SRes.bind_ex, SRes.bind_bad, at_call, at_glo, at_fuel, SRes.back, List.getElem?_cons_zero, List.getElem?_cons_succ, List.set_cons_zero, List.set_cons_succ, asgT, asgTs, cmpV, truV, binV, bltV, tyN, tyLe, subV, Option.map_some, Option.map_none, List.any_cons, List.any_nil, if_true, if_false, ite_true, ite_false, String.reduceBEq, Nat.reduceAdd, Bool.or_false, Bool.false_or, Bool.or_true, Bool.true_or, Bool.and_true, Bool.true_and, Bool.and_false, Bool.false_and, Bool.not_true, Bool.not_false, beq_self_eq_true, decide_true, decide_false, reduceCtorEq, Bool.false_eq_true, Ev.keyOf, dctKeys, List.length_cons, List.length_nil, List.zip_cons_cons, List.zip_nil_left, List.zip_nil_right, List.foldl_cons, List.foldl_nil, methV, setV, isL, permL_cons, permL_nil, List.map_cons, List.map_nil, valP_cons, valP_nil, key_str, key_int, ofString_eq, String.reduceEq, putP, sizeLine_eq, Nat.reduceLT, Nat.reduceLeDiff, sto_self, mulOk, powOk, divOk, Int.reducePow, Nat.reducePow, Int.reduceNeg, Int.reduceLT, Int.reduceLE, natAbs64, natAbs30, Int.reduceToNat, Int.reduceEq, Int.reduceAdd, Int.reduceSub, Int.reduceMul, ne_eq, not_false_eq_true, Int.reduceNe, Ev.alloc, Ev.eq_ii, Ev.eq_ss, Ev.eq_bb, Ev.eq_nn, Ev.eq_ni, Ev.eq_in, Ev.eq_ns, Ev.eq_sn, Ev.eq_nb, Ev.eq_bn, Ev.eq_is, Ev.eq_si, and_self, true_and, and_true, fmod_lt64, fmod_gt64, atI_0, atI_1, atI_2, atI_3, atI_4, atI_5, atI_6, atI_7, atI_8, atI_9, itemsV, smV, fmtV, lenSetV, seqOf, lstOf, slcV, revV, srcOf, optI, List.nil_append, List.cons_append, sto_new, intsP, sortI, insI, compL, compG, wipeP, boolsP, List.all_cons, List.all_nil, id_eq, keep_nil, maxI, minI, intsP, cutf_1, cutf_2, cutf_3, cutf_4, cutt_1, cutt_2, cutt_3, cutt_4, List.drop_succ_cons, List.drop_zero, List.take_succ_cons, List.take_zero, Int.cast_ofNat_Int, false_and, and_false, or_self, or_false, false_or, true_or, or_true, lit_e, tS_len, tS_cat, tS_eq, tS_lt, List.toList_toArray, g_MOST_WORD, g_LETTERS, g_MOST_POOL, g_MOST_WEIGHT, g_BEGIN, g_FACTOR, g_MODULUS, GC.pv, in_lot, hmd, s0, pi, s1, ms, sto_new]
        rw [← hX] at e2 e3 ⊢
        simp only [↓evE.eq_1, ↓evE.eq_2, ↓evE.eq_3, ↓evE.eq_4, ↓evE.eq_5, ↓evE.eq_6, ↓evE.eq_7, ↓evE.eq_8, ↓evE.eq_9, ↓evE.eq_10, ↓evE.eq_11, ↓evE.eq_12, ↓evE.eq_13, ↓evE.eq_14, ↓evE.eq_15, ↓evE.eq_16, ↓evE.eq_17, ↓evE.eq_18, ↓evE.eq_19, ↓evE.eq_20, ↓evE.eq_21, ↓evE.eq_22, ↓evE.eq_23, ↓evE.eq_24, ↓evE.eq_25, ↓evE.eq_26, ↓evE.eq_27, ↓evE.eq_28, ↓evE.eq_29, ↓evE.eq_30, ↓evE.eq_31, ↓evE.eq_32, ↓evE.eq_33, ↓evE.eq_34, ↓evE.eq_35, ↓evE.eq_36, ↓evE.eq_37, ↓evE.eq_38, ↓evS.eq_1, ↓evS_seq, ↓evS.eq_3, ↓evS.eq_4, ↓evS.eq_5, ↓evS.eq_6, ↓evS.eq_7, ↓evS.eq_8, ↓evS_ite, ↓iteS, ↓evS.eq_11, ↓evS.eq_12, ↓evS.eq_13, ↓evS.eq_14, ↓evS.eq_15, ↓evS.eq_16, ↓evS.eq_17, ↓evS_for, ↓evA.eq_1, ↓evA.eq_2, ↓evT.eq_1, ↓evT.eq_2, ↓evO.eq_1, ↓evO.eq_2, ↓evI.eq_1, ↓evI.eq_2, ↓evI.eq_3, ↓evI.eq_4, ↓evI.eq_5, ↓evF.eq_1, ↓evF.eq_2, ↓m_bind, ↓m_then, ↓m_opt, SRes.bind_nx, SRes.bind_rt, SRes.bind_bk, SRes.bind_ct, SRes.bind_ex, SRes.bind_bad, at_call, at_glo, at_fuel, SRes.back, List.getElem?_cons_zero, List.getElem?_cons_succ, List.set_cons_zero, List.set_cons_succ, asgT, asgTs, cmpV, truV, binV, bltV, tyN, tyLe, subV, Option.map_some, Option.map_none, List.any_cons, List.any_nil, if_true, if_false, ite_true, ite_false, String.reduceBEq, Nat.reduceAdd, Bool.or_false, Bool.false_or, Bool.or_true, Bool.true_or, Bool.and_true, Bool.true_and, Bool.and_false, Bool.false_and, Bool.not_true, Bool.not_false, beq_self_eq_true, decide_true, decide_false, reduceCtorEq, Bool.false_eq_true, Ev.keyOf, dctKeys, List.length_cons, List.length_nil, List.zip_cons_cons, List.zip_nil_left, List.zip_nil_right, List.foldl_cons, List.foldl_nil, methV, setV, isL, permL_cons, permL_nil, List.map_cons, List.map_nil, valP_cons, valP_nil, key_str, key_int, ofString_eq, String.reduceEq, putP, sizeLine_eq, Nat.reduceLT, Nat.reduceLeDiff, sto_self, mulOk, powOk, divOk, Int.reducePow, Nat.reducePow, Int.reduceNeg, Int.reduceLT, Int.reduceLE, natAbs64, natAbs30, Int.reduceToNat, Int.reduceEq, Int.reduceAdd, Int.reduceSub, Int.reduceMul, ne_eq, not_false_eq_true, Int.reduceNe, Ev.alloc, Ev.eq_ii, Ev.eq_ss, Ev.eq_bb, Ev.eq_nn, Ev.eq_ni, Ev.eq_in, Ev.eq_ns, Ev.eq_sn, Ev.eq_nb, Ev.eq_bn, Ev.eq_is, Ev.eq_si, and_self, true_and, and_true, fmod_lt64, fmod_gt64, atI_0, atI_1, atI_2, atI_3, atI_4, atI_5, atI_6, atI_7, atI_8, atI_9, itemsV, smV, fmtV, lenSetV, seqOf, lstOf, slcV, revV, srcOf, optI, List.nil_append, List.cons_append, sto_new, intsP, sortI, insI, compL, compG, wipeP, boolsP, List.all_cons, List.all_nil, id_eq, keep_nil, maxI, minI, intsP, cutf_1, cutf_2, cutf_3, cutf_4, cutt_1, cutt_2, cutt_3, cutt_4, List.drop_succ_cons, List.drop_zero, List.take_succ_cons, List.take_zero, Int.cast_ofNat_Int, false_and, and_false, or_self, or_false, false_or, true_or, or_true, lit_e, tS_len, tS_cat, tS_eq, tS_lt, List.toList_toArray, g_MOST_WORD, g_LETTERS, g_MOST_POOL, g_MOST_WEIGHT, g_BEGIN, g_FACTOR, g_MODULUS, GC.pv, e2, in_two, hcd, e3, ht]
        rw [hX])
  obtain ⟨M1, x4, x5, x6, x7, x8, kp, rfl⟩ := J
  simp only [↓evE.eq_1, ↓evE.eq_2, ↓evE.eq_3, ↓evE.eq_4, ↓evE.eq_5, ↓evE.eq_6, ↓evE.eq_7, ↓evE.eq_8, ↓evE.eq_9, ↓evE.eq_10, ↓evE.eq_11, ↓evE.eq_12, ↓evE.eq_13, ↓evE.eq_14, ↓evE.eq_15, ↓evE.eq_16, ↓evE.eq_17, ↓evE.eq_18, ↓evE.eq_19, ↓evE.eq_20, ↓evE.eq_21, ↓evE.eq_22, ↓evE.eq_23, ↓evE.eq_24, ↓evE.eq_25, ↓evE.eq_26, ↓evE.eq_27, ↓evE.eq_28, ↓evE.eq_29, ↓evE.eq_30, ↓evE.eq_31, ↓evE.eq_32, ↓evE.eq_33, ↓evE.eq_34, ↓evE.eq_35, ↓evE.eq_36, ↓evE.eq_37, ↓evE.eq_38, ↓evS.eq_1, ↓evS_seq, ↓evS.eq_3, ↓evS.eq_4, ↓evS.eq_5, ↓evS.eq_6, ↓evS.eq_7, ↓evS.eq_8, ↓evS_ite, ↓iteS, ↓evS.eq_11, ↓evS.eq_12, ↓evS.eq_13, ↓evS.eq_14, ↓evS.eq_15, ↓evS.eq_16, ↓evS.eq_17, ↓evS_for, ↓evA.eq_1, ↓evA.eq_2, ↓evT.eq_1, ↓evT.eq_2, ↓evO.eq_1, ↓evO.eq_2, ↓evI.eq_1, ↓evI.eq_2, ↓evI.eq_3, ↓evI.eq_4, ↓evI.eq_5, ↓evF.eq_1, ↓evF.eq_2, ↓m_bind, ↓m_then, ↓m_opt, SRes.bind_nx, SRes.bind_rt, SRes.bind_bk, SRes.bind_ct, SRes.bind_ex, SRes.bind_bad, at_call, at_glo, at_fuel, SRes.back, List.getElem?_cons_zero, List.getElem?_cons_succ, List.set_cons_zero, List.set_cons_succ, asgT, asgTs, cmpV, truV, binV, bltV, tyN, tyLe, subV, Option.map_some, Option.map_none, List.any_cons, List.any_nil, if_true, if_false, ite_true, ite_false, String.reduceBEq, Nat.reduceAdd, Bool.or_false, Bool.false_or, Bool.or_true, Bool.true_or, Bool.and_true, Bool.true_and, Bool.and_false, Bool.false_and, Bool.not_true, Bool.not_false, beq_self_eq_true, decide_true, decide_false, reduceCtorEq, Bool.false_eq_true, Ev.keyOf, dctKeys, List.length_cons, List.length_nil, List.zip_cons_cons, List.zip_nil_left, List.zip_nil_right, List.foldl_cons, List.foldl_nil, methV, setV, isL, permL_cons, permL_nil, List.map_cons, List.map_nil, valP_cons, valP_nil, key_str, key_int, ofString_eq, String.reduceEq, putP, sizeLine_eq, Nat.reduceLT, Nat.reduceLeDiff, sto_self, mulOk, powOk, divOk, Int.reducePow, Nat.reducePow, Int.reduceNeg, Int.reduceLT, Int.reduceLE, natAbs64, natAbs30, Int.reduceToNat, Int.reduceEq, Int.reduceAdd, Int.reduceSub, Int.reduceMul, ne_eq, not_false_eq_true, Int.reduceNe, Ev.alloc, Ev.eq_ii, Ev.eq_ss, Ev.eq_bb, Ev.eq_nn, Ev.eq_ni, Ev.eq_in, Ev.eq_ns, Ev.eq_sn, Ev.eq_nb, Ev.eq_bn, Ev.eq_is, Ev.eq_si, and_self, true_and, and_true, fmod_lt64, fmod_gt64, atI_0, atI_1, atI_2, atI_3, atI_4, atI_5, atI_6, atI_7, atI_8, atI_9, itemsV, smV, fmtV, lenSetV, seqOf, lstOf, slcV, revV, srcOf, optI, List.nil_append, List.cons_append, sto_new, intsP, sortI, insI, compL, compG, wipeP, boolsP, List.all_cons, List.all_nil, id_eq, keep_nil, maxI, minI, intsP, cutf_1, cutf_2, cutf_3, cutf_4, cutt_1, cutt_2, cutt_3, cutt_4, List.drop_succ_cons, List.drop_zero, List.take_succ_cons, List.take_zero, Int.cast_ofNat_Int, false_and, and_false, or_self, or_false, false_or, true_or, or_true, lit_e, tS_len, tS_cat, tS_eq, tS_lt, List.toList_toArray, g_MOST_WORD, g_LETTERS, g_MOST_POOL, g_MOST_WEIGHT, g_BEGIN, g_FACTOR, g_MODULUS, GC.pv]
  exact ⟨_, rfl, kp⟩
end K20

set_option Elab.async false
set_option linter.all false
set_option maxRecDepth 100000
set_option maxHeartbeats 4000000
/-! K20y: the law. -/
namespace K20
open PySem L2 Ev
def b_score : CS := Q (.ite (.cmp .NotEq (.blt .repr (A (.tup (A (.call "score" (A (V 6) (A (V 8) (E_)))) (A (.callk "score" 0 (E_) ["label", "key"] (A (V 8) (A (V 6) (E_))) [1, 0]) (E_)))) (E_))) (.blt .repr (A (.bin .Mult (.tup (A (.call "_law_score" (A (V 6) (A (V 8) (E_)))) (E_))) (I 2)) (E_)))) (Q (.ret (.bl false)) (N_)) (N_)) (Q (.par [10, 11] (A (.bin .Add (V 6) (.slc (V 8) (.no) (A (I 1) E_))) (A (.slc (V 8) (A (I 1) E_) (.no)) (E_)))) (Q (.ite (.and (.cmp .Eq (V 3) (I 2)) (.and (.cmp .Lt (.blt .len (A (V 10) (E_))) (I 11)) (.and (.cmp .NotEq (V 11) (S "")) (.cmp .NotEq (.blt .repr (A (.call "score" (A (V 10) (A (V 11) (E_)))) (E_))) (.blt .repr (A (.call "_law_score" (A (V 10) (A (V 11) (E_)))) (E_))))))) (Q (.ret (.bl false)) (N_)) (N_)) (N_)))
def p0_ : CS := .par [4, 5, 6] (A (.call "_law_drawn_lot" (A (V 1) (A (.blt .len (A (V 2) (E_))) (E_)))) (A (.call "_law_drawn_busy" (A (V 1) (A (V 2) (E_)))) (A (.call "_law_word" (A (V 1) (E_))) (E_))))
def p1_ : CS := .ite (.cmp .NotEq (.blt .repr (A (.call "least_busy" (A (V 2) (A (V 4) (A (V 5) (E_))))) (E_))) (.blt .repr (A (.call "_law_least_busy" (A (V 2) (A (V 4) (A (V 5) (E_))))) (E_)))) (Q (.ret (.bl false)) (N_)) (N_)
def p2_ : CS := .asg (.nm 7) (.ife (.cmp .Eq (V 3) (I 0)) (.callk "by_key" 0 (E_) ["key", "lot", "pool"] (A (V 6) (A (V 4) (A (V 2) (E_)))) [2, 1, 0]) (.call "by_key" (A (V 2) (A (V 4) (A (V 6) (E_))))))
def p3_ : CS := .ite (.or (.cmp .NotEq (.blt .repr (A (V 7) (E_))) (.blt .repr (A (.call "_law_by_key" (A (V 2) (A (V 4) (A (V 6) (E_))))) (E_)))) (.not (.call "_law_are_changes_right" (A (V 2) (A (V 4) (A (V 6) (A (V 7) (E_)))))))) (Q (.ret (.bl false)) (N_)) (N_)
def p4_ : CS := .for_ (.tp (.cons (.nm 8) (.cons (.nm 9) (.nil)))) (.iv (V 2)) (Q (.ite (.cmp .NotEq (.blt .repr (A (.tup (A (.call "score" (A (V 6) (A (V 8) (E_)))) (A (.callk "score" 0 (E_) ["label", "key"] (A (V 8) (A (V 6) (E_))) [1, 0]) (E_)))) (E_))) (.blt .repr (A (.bin .Mult (.tup (A (.call "_law_score" (A (V 6) (A (V 8) (E_)))) (E_))) (I 2)) (E_)))) (Q (.ret (.bl false)) (N_)) (N_)) (Q (.par [10, 11] (A (.bin .Add (V 6) (.slc (V 8) (.no) (A (I 1) E_))) (A (.slc (V 8) (A (I 1) E_) (.no)) (E_)))) (Q (.ite (.and (.cmp .Eq (V 3) (I 2)) (.and (.cmp .Lt (.blt .len (A (V 10) (E_))) (I 11)) (.and (.cmp .NotEq (V 11) (S "")) (.cmp .NotEq (.blt .repr (A (.call "score" (A (V 10) (A (V 11) (E_)))) (E_))) (.blt .repr (A (.call "_law_score" (A (V 10) (A (V 11) (E_)))) (E_))))))) (Q (.ret (.bl false)) (N_)) (N_)) (N_))))
def b_law : CS := Q p0_ (Q p1_ (Q p2_ (Q p3_ (Q p4_ N_))))
theorem sc_ok (k l : List Nat) : 0 ≤ sc k l ∧ sc k l < 65521 := by
  have : ∀ (xs : List Nat) (a : Int), 0 ≤ a → a < 65521 → 0 ≤ xs.foldl stp a ∧ xs.foldl stp a < 65521 := by
    intro xs
    induction xs with
    | nil => intro a h1 h2; exact ⟨h1, h2⟩
    | cons x xs ih => intro a _ _; exact ih _ (stp_ok a x).1 (stp_ok a x).2
  exact this _ 7 (by omega) (by omega)
theorem sc_repr (k l : List Nat) : ∃ t, ∀ M, reprV M (.int (sc k l)) = some t :=
  repr_one (by simp only [fine, decide_eq_true_eq]; have := sc_ok k l; exact small (by omega) (by omega)) (by simp [pd, PyData.bulk]) (by simp [pd, PyData.depth])
theorem sc_repr2 (k l : List Nat) : ∃ t, ∀ M, reprV M (.tup [.int (sc k l), .int (sc k l)]) = some t :=
  repr_two (by simp only [fine, decide_eq_true_eq]; have := sc_ok k l; exact small (by omega) (by omega)) (by simp [pd, PyData.bulk]) (by simp [pd, PyData.depth])
theorem score_turn (n : Nat) (M : Sto) {k : List Nat} (hk : word k) {w : List Nat} (hw : word w) {m g : Int} (v0 v1 v2 v4 v5 v7 x8 x9 x10 x11 : Option PV) :
    ∃ e10 e11 M', forB (.tp (.cons (.nm 8) (.cons (.nm 9) .nil))) (evS (T.at (n + 3)) b_score) (.tup [tv w, .int m]) [v0, v1, v2, some (.int g), v4, v5, some (tv k), v7, x8, x9, x10, x11] M = .nx [v0, v1, v2, some (.int g), v4, v5, some (tv k), v7, some (tv w), some (.int m), e10, e11] M' ∧ Keep [] M M' := by
  obtain ⟨M1, e1, k1⟩ := score_ok n M hk hw
  obtain ⟨M2, e2, k2⟩ := score_ok n M1 hk hw
  have e3 := law_score_ok (n + 2) M2 hk hw
  obtain ⟨t, ht⟩ := sc_repr2 k w
  have ro : repOk 1 2 = true := repOk_nat (by decide) (by decide) (by decide)
  have i2 : Int.toNat 2 = 2 := rfl
  have w10 := hw.2.1
  have k10 := hk.2.1
  have l1 : (w.length ≤ 16777216) = True := eq_true (by omega)
  have c1 : cutS (tS w) none (some 1) = tS (w.take 1) := cut_to_S w 1
  have c2 : cutS (tS w) (some 1) none = tS (w.drop 1) := cut_from_S w 1
  have l2 : (k.length + (w.take 1).length ≤ 16777216) = True := eq_true (by rw [List.length_take]; omega)
  have l3 : ((k ++ w.take 1).length ≤ 16777216) = True := eq_true (by simp; omega)
  unfold forB b_score
  by_cases hg : g = 2
  · by_cases h11 : ((k ++ w.take 1).length : Int) < 11
    · by_cases hd : w.drop 1 = []
      · simp only [↓evE.eq_1, ↓evE.eq_2, ↓evE.eq_3, ↓evE.eq_4, ↓evE.eq_5, ↓evE.eq_6, ↓evE.eq_7, ↓evE.eq_8, ↓evE.eq_9, ↓evE.eq_10, ↓evE.eq_11, ↓evE.eq_12, ↓evE.eq_13, ↓evE.eq_14, ↓evE.eq_15, ↓evE.eq_16, ↓evE.eq_17, ↓evE.eq_18, ↓evE.eq_19, ↓evE.eq_20, ↓evE.eq_21, ↓evE.eq_22, ↓evE.eq_23, ↓evE.eq_24, ↓evE.eq_25, ↓evE.eq_26, ↓evE.eq_27, ↓evE.eq_28, ↓evE.eq_29, ↓evE.eq_30, ↓evE.eq_31, ↓evE.eq_32, ↓evE.eq_33, ↓evE.eq_34, ↓evE.eq_35, ↓evE.eq_36, ↓evE.eq_37, ↓evE.eq_38, ↓evS.eq_1, ↓evS_seq, ↓evS.eq_3, ↓evS.eq_4, ↓evS.eq_5, ↓evS.eq_6, ↓evS.eq_7, ↓evS.eq_8, ↓evS_ite, ↓iteS, ↓evS.eq_11, ↓evS.eq_12, ↓evS.eq_13, ↓evS.eq_14, ↓evS.eq_15, ↓evS.eq_16, ↓evS.eq_17, ↓evS_for, ↓evA.eq_1, ↓evA.eq_2, ↓evT.eq_1, ↓evT.eq_2, ↓evO.eq_1, ↓evO.eq_2, ↓evI.eq_1, ↓evI.eq_2, ↓evI.eq_3, ↓evI.eq_4, ↓evI.eq_5, ↓evF.eq_1, ↓evF.eq_2, ↓m_bind, ↓m_then, ↓m_opt, SRes.bind_nx, SRes.bind_rt, SRes.bind_bk, SRes.bind_ct, SRes.bind_ex, SRes.bind_bad, at_call, at_glo, at_fuel, SRes.back, List.getElem?_cons_zero, List.getElem?_cons_succ, List.set_cons_zero, List.set_cons_succ, asgT, asgTs, cmpV, truV, binV, bltV, tyN, tyLe, subV, Option.map_some, Option.map_none, List.any_cons, List.any_nil, if_true, if_false, ite_true, ite_false, String.reduceBEq, Nat.reduceAdd, Bool.or_false, Bool.false_or, Bool.or_true, Bool.true_or, Bool.and_true, Bool.true_and, Bool.and_false, Bool.false_and, Bool.not_true, Bool.not_false, beq_self_eq_true, decide_true, decide_false, reduceCtorEq, Bool.false_eq_true, Ev.keyOf, dctKeys, List.length_cons, List.length_nil, List.zip_cons_cons, List.zip_nil_left, List.zip_nil_right, List.foldl_cons, List.foldl_nil, methV, setV, isL, permL_cons, permL_nil, List.map_cons, List.map_nil, valP_cons, valP_nil, key_str, key_int, ofString_eq, String.reduceEq, putP, sizeLine_eq, Nat.reduceLT, Nat.reduceLeDiff, sto_self, mulOk, powOk, divOk, Int.reducePow, Nat.reducePow, Int.reduceNeg, Int.reduceLT, Int.reduceLE, natAbs64, natAbs30, Int.reduceToNat, Int.reduceEq, Int.reduceAdd, Int.reduceSub, Int.reduceMul, ne_eq, not_false_eq_true, Int.reduceNe, Ev.alloc, Ev.eq_ii, Ev.eq_ss, Ev.eq_bb, Ev.eq_nn, Ev.eq_ni, Ev.eq_in, Ev.eq_ns, Ev.eq_sn, Ev.eq_nb, Ev.eq_bn, Ev.eq_is, Ev.eq_si, and_self, true_and, and_true, fmod_lt64, fmod_gt64, atI_0, atI_1, atI_2, atI_3, atI_4, atI_5, atI_6, atI_7, atI_8, atI_9, itemsV, smV, fmtV, lenSetV, seqOf, lstOf, slcV, revV, srcOf, optI, List.nil_append, List.cons_append, sto_new, intsP, sortI, insI, compL, compG, wipeP, boolsP, List.all_cons, List.all_nil, id_eq, keep_nil, maxI, minI, intsP, cutf_1, cutf_2, cutf_3, cutf_4, cutt_1, cutt_2, cutt_3, cutt_4, List.drop_succ_cons, List.drop_zero, List.take_succ_cons, List.take_zero, Int.cast_ofNat_Int, false_and, and_false, or_self, or_false, false_or, true_or, or_true, lit_e, tS_len, tS_cat, tS_eq, tS_lt, List.toList_toArray, g_MOST_WORD, g_LETTERS, g_MOST_POOL, g_MOST_WEIGHT, g_BEGIN, g_FACTOR, g_MODULUS, GC.pv, e1, e2, e3, ro, i2, rep2, ht, l1, c1, c2, l2, l3, hg, h11, hd]
        exact ⟨_, _, _, rfl, k1.trans k2⟩
      · have wm : word (k ++ w.take 1) := ⟨by have := hk.1; simp; omega, by omega, fun c hc => by
          rcases List.mem_append.mp hc with hc | hc
          · exact hk.2.2 c hc
          · exact hw.2.2 c (List.mem_of_mem_take hc)⟩
        have wl : word (w.drop 1) := ⟨by have := List.length_pos_iff.mpr hd; omega, by rw [List.length_drop]; omega, fun c hc => hw.2.2 c (List.mem_of_mem_drop hc)⟩
        obtain ⟨M3, e4, k3⟩ := score_ok n M2 wm wl
        have e5 := law_score_ok (n + 2) M3 wm wl
        obtain ⟨t2, ht2⟩ := sc_repr (k ++ w.take 1) (w.drop 1)
        simp only [↓evE.eq_1, ↓evE.eq_2, ↓evE.eq_3, ↓evE.eq_4, ↓evE.eq_5, ↓evE.eq_6, ↓evE.eq_7, ↓evE.eq_8, ↓evE.eq_9, ↓evE.eq_10, ↓evE.eq_11, ↓evE.eq_12, ↓evE.eq_13, ↓evE.eq_14, ↓evE.eq_15, ↓evE.eq_16, ↓evE.eq_17, ↓evE.eq_18, ↓evE.eq_19, ↓evE.eq_20, ↓evE.eq_21, ↓evE.eq_22, ↓evE.eq_23, ↓evE.eq_24, ↓evE.eq_25, ↓evE.eq_26, ↓evE.eq_27, ↓evE.eq_28, ↓evE.eq_29, ↓evE.eq_30, ↓evE.eq_31, ↓evE.eq_32, ↓evE.eq_33, ↓evE.eq_34, ↓evE.eq_35, ↓evE.eq_36, ↓evE.eq_37, ↓evE.eq_38, ↓evS.eq_1, ↓evS_seq, ↓evS.eq_3, ↓evS.eq_4, ↓evS.eq_5, ↓evS.eq_6, ↓evS.eq_7, ↓evS.eq_8, ↓evS_ite, ↓iteS, ↓evS.eq_11, ↓evS.eq_12, ↓evS.eq_13, ↓evS.eq_14, ↓evS.eq_15, ↓evS.eq_16, ↓evS.eq_17, ↓evS_for, ↓evA.eq_1, ↓evA.eq_2, ↓evT.eq_1, ↓evT.eq_2, ↓evO.eq_1, ↓evO.eq_2, ↓evI.eq_1, ↓evI.eq_2, ↓evI.eq_3, ↓evI.eq_4, ↓evI.eq_5, ↓evF.eq_1, ↓evF.eq_2, ↓m_bind, ↓m_then, ↓m_opt, SRes.bind_nx, SRes.bind_rt, SRes.bind_bk, SRes.bind_ct, SRes.bind_ex, SRes.bind_bad, at_call, at_glo, at_fuel, SRes.back, List.getElem?_cons_zero, List.getElem?_cons_succ, List.set_cons_zero, List.set_cons_succ, asgT, asgTs, cmpV, truV, binV, bltV, tyN, tyLe, subV, Option.map_some, Option.map_none, List.any_cons, List.any_nil, if_true, if_false, ite_true, ite_false, String.reduceBEq, Nat.reduceAdd, Bool.or_false, Bool.false_or, Bool.or_true, Bool.true_or, Bool.and_true, Bool.true_and, Bool.and_false, Bool.false_and, Bool.not_true, Bool.not_false, beq_self_eq_true, decide_true, decide_false, reduceCtorEq, Bool.false_eq_true, Ev.keyOf, dctKeys, List.length_cons, List.length_nil, List.zip_cons_cons, List.zip_nil_left, List.zip_nil_right, List.foldl_cons, List.foldl_nil, methV, setV, isL, permL_cons, permL_nil, List.map_cons, List.map_nil, valP_cons, valP_nil, key_str, key_int, ofString_eq, String.reduceEq, putP, sizeLine_eq, Nat.reduceLT, Nat.reduceLeDiff, sto_self, mulOk, powOk, divOk, Int.reducePow, Nat.reducePow, Int.reduceNeg, Int.reduceLT, Int.reduceLE, natAbs64, natAbs30, Int.reduceToNat, Int.reduceEq, Int.reduceAdd, Int.reduceSub, Int.reduceMul, ne_eq, not_false_eq_true, Int.reduceNe, Ev.alloc, Ev.eq_ii, Ev.eq_ss, Ev.eq_bb, Ev.eq_nn, Ev.eq_ni, Ev.eq_in, Ev.eq_ns, Ev.eq_sn, Ev.eq_nb, Ev.eq_bn, Ev.eq_is, Ev.eq_si, and_self, true_and, and_true, fmod_lt64, fmod_gt64, atI_0, atI_1, atI_2, atI_3, atI_4, atI_5, atI_6, atI_7, atI_8, atI_9, itemsV, smV, fmtV, lenSetV, seqOf, lstOf, slcV, revV, srcOf, optI, List.nil_append, List.cons_append, sto_new, intsP, sortI, insI, compL, compG, wipeP, boolsP, List.all_cons, List.all_nil, id_eq, keep_nil, maxI, minI, intsP, cutf_1, cutf_2, cutf_3, cutf_4, cutt_1, cutt_2, cutt_3, cutt_4, List.drop_succ_cons, List.drop_zero, List.take_succ_cons, List.take_zero, Int.cast_ofNat_Int, false_and, and_false, or_self, or_false, false_or, true_or, or_true, lit_e, tS_len, tS_cat, tS_eq, tS_lt, List.toList_toArray, g_MOST_WORD, g_LETTERS, g_MOST_POOL, g_MOST_WEIGHT, g_BEGIN, g_FACTOR, g_MODULUS, GC.pv, e1, e2, e3, ro, i2, rep2, ht, l1, c1, c2, l2, l3, hg, h11, hd, e4, e5, ht2]
        exact ⟨_, _, _, rfl, k1.trans (k2.trans k3)⟩
    · simp only [↓evE.eq_1, ↓evE.eq_2, ↓evE.eq_3, ↓evE.eq_4, ↓evE.eq_5, ↓evE.eq_6, ↓evE.eq_7, ↓evE.eq_8, ↓evE.eq_9, ↓evE.eq_10, ↓evE.eq_11, ↓evE.eq_12, ↓evE.eq_13, ↓evE.eq_14, ↓evE.eq_15, ↓evE.eq_16, ↓evE.eq_17, ↓evE.eq_18, ↓evE.eq_19, ↓evE.eq_20, ↓evE.eq_21, ↓evE.eq_22, ↓evE.eq_23, ↓evE.eq_24, ↓evE.eq_25, ↓evE.eq_26, ↓evE.eq_27, ↓evE.eq_28, ↓evE.eq_29, ↓evE.eq_30, ↓evE.eq_31, ↓evE.eq_32, ↓evE.eq_33, ↓evE.eq_34, ↓evE.eq_35, ↓evE.eq_36, ↓evE.eq_37, ↓evE.eq_38, ↓evS.eq_1, ↓evS_seq, ↓evS.eq_3, ↓evS.eq_4, ↓evS.eq_5, ↓evS.eq_6, ↓evS.eq_7, ↓evS.eq_8, ↓evS_ite, ↓iteS, ↓evS.eq_11, ↓evS.eq_12, ↓evS.eq_13, ↓evS.eq_14, ↓evS.eq_15, ↓evS.eq_16, ↓evS.eq_17, ↓evS_for, ↓evA.eq_1, ↓evA.eq_2, ↓evT.eq_1, ↓evT.eq_2, ↓evO.eq_1, ↓evO.eq_2, ↓evI.eq_1, ↓evI.eq_2, ↓evI.eq_3, ↓evI.eq_4, ↓evI.eq_5, ↓evF.eq_1, ↓evF.eq_2, ↓m_bind, ↓m_then, ↓m_opt, SRes.bind_nx, SRes.bind_rt, SRes.bind_bk, SRes.bind_ct, SRes.bind_ex, SRes.bind_bad, at_call, at_glo, at_fuel, SRes.back, List.getElem?_cons_zero, List.getElem?_cons_succ, List.set_cons_zero, List.set_cons_succ, asgT, asgTs, cmpV, truV, binV, bltV, tyN, tyLe, subV, Option.map_some, Option.map_none, List.any_cons, List.any_nil, if_true, if_false, ite_true, ite_false, String.reduceBEq, Nat.reduceAdd, Bool.or_false, Bool.false_or, Bool.or_true, Bool.true_or, Bool.and_true, Bool.true_and, Bool.and_false, Bool.false_and, Bool.not_true, Bool.not_false, beq_self_eq_true, decide_true, decide_false, reduceCtorEq, Bool.false_eq_true, Ev.keyOf, dctKeys, List.length_cons, List.length_nil, List.zip_cons_cons, List.zip_nil_left, List.zip_nil_right, List.foldl_cons, List.foldl_nil, methV, setV, isL, permL_cons, permL_nil, List.map_cons, List.map_nil, valP_cons, valP_nil, key_str, key_int, ofString_eq, String.reduceEq, putP, sizeLine_eq, Nat.reduceLT, Nat.reduceLeDiff, sto_self, mulOk, powOk, divOk, Int.reducePow, Nat.reducePow, Int.reduceNeg, Int.reduceLT, Int.reduceLE, natAbs64, natAbs30, Int.reduceToNat, Int.reduceEq, Int.reduceAdd, Int.reduceSub, Int.reduceMul, ne_eq, not_false_eq_true, Int.reduceNe, Ev.alloc, Ev.eq_ii, Ev.eq_ss, Ev.eq_bb, Ev.eq_nn, Ev.eq_ni, Ev.eq_in, Ev.eq_ns, Ev.eq_sn, Ev.eq_nb, Ev.eq_bn, Ev.eq_is, Ev.eq_si, and_self, true_and, and_true, fmod_lt64, fmod_gt64, atI_0, atI_1, atI_2, atI_3, atI_4, atI_5, atI_6, atI_7, atI_8, atI_9, itemsV, smV, fmtV, lenSetV, seqOf, lstOf, slcV, revV, srcOf, optI, List.nil_append, List.cons_append, sto_new, intsP, sortI, insI, compL, compG, wipeP, boolsP, List.all_cons, List.all_nil, id_eq, keep_nil, maxI, minI, intsP, cutf_1, cutf_2, cutf_3, cutf_4, cutt_1, cutt_2, cutt_3, cutt_4, List.drop_succ_cons, List.drop_zero, List.take_succ_cons, List.take_zero, Int.cast_ofNat_Int, false_and, and_false, or_self, or_false, false_or, true_or, or_true, lit_e, tS_len, tS_cat, tS_eq, tS_lt, List.toList_toArray, g_MOST_WORD, g_LETTERS, g_MOST_POOL, g_MOST_WEIGHT, g_BEGIN, g_FACTOR, g_MODULUS, GC.pv, e1, e2, e3, ro, i2, rep2, ht, l1, c1, c2, l2, l3, hg, h11]
      exact ⟨_, _, _, rfl, k1.trans k2⟩
  · simp only [↓evE.eq_1, ↓evE.eq_2, ↓evE.eq_3, ↓evE.eq_4, ↓evE.eq_5, ↓evE.eq_6, ↓evE.eq_7, ↓evE.eq_8, ↓evE.eq_9, ↓evE.eq_10, ↓evE.eq_11, ↓evE.eq_12, ↓evE.eq_13, ↓evE.eq_14, ↓evE.eq_15, ↓evE.eq_16, ↓evE.eq_17, ↓evE.eq_18, ↓evE.eq_19, ↓evE.eq_20, ↓evE.eq_21, ↓evE.eq_22, ↓evE.eq_23, ↓evE.eq_24, ↓evE.eq_25, ↓evE.eq_26, ↓evE.eq_27, ↓evE.eq_28, ↓evE.eq_29, ↓evE.eq_30, ↓evE.eq_31, ↓evE.eq_32, ↓evE.eq_33, ↓evE.eq_34, ↓evE.eq_35, ↓evE.eq_36, ↓evE.eq_37, ↓evE.eq_38, ↓evS.eq_1, ↓evS_seq, ↓evS.eq_3, ↓evS.eq_4, ↓evS.eq_5, ↓evS.eq_6, ↓evS.eq_7, ↓evS.eq_8, ↓evS_ite, ↓iteS, ↓evS.eq_11, ↓evS.eq_12, ↓evS.eq_13, ↓evS.eq_14, ↓evS.eq_15, ↓evS.eq_16, ↓evS.eq_17, ↓evS_for, ↓evA.eq_1, ↓evA.eq_2, ↓evT.eq_1, ↓evT.eq_2, ↓evO.eq_1, ↓evO.eq_2, ↓evI.eq_1, ↓evI.eq_2, ↓evI.eq_3, ↓evI.eq_4, ↓evI.eq_5, ↓evF.eq_1, ↓evF.eq_2, ↓m_bind, ↓m_then, ↓m_opt, SRes.bind_nx, SRes.bind_rt, SRes.bind_bk, SRes.bind_ct, SRes.bind_ex, SRes.bind_bad, at_call, at_glo, at_fuel, SRes.back, List.getElem?_cons_zero, List.getElem?_cons_succ, List.set_cons_zero, List.set_cons_succ, asgT, asgTs, cmpV, truV, binV, bltV, tyN, tyLe, subV, Option.map_some, Option.map_none, List.any_cons, List.any_nil, if_true, if_false, ite_true, ite_false, String.reduceBEq, Nat.reduceAdd, Bool.or_false, Bool.false_or, Bool.or_true, Bool.true_or, Bool.and_true, Bool.true_and, Bool.and_false, Bool.false_and, Bool.not_true, Bool.not_false, beq_self_eq_true, decide_true, decide_false, reduceCtorEq, Bool.false_eq_true, Ev.keyOf, dctKeys, List.length_cons, List.length_nil, List.zip_cons_cons, List.zip_nil_left, List.zip_nil_right, List.foldl_cons, List.foldl_nil, methV, setV, isL, permL_cons, permL_nil, List.map_cons, List.map_nil, valP_cons, valP_nil, key_str, key_int, ofString_eq, String.reduceEq, putP, sizeLine_eq, Nat.reduceLT, Nat.reduceLeDiff, sto_self, mulOk, powOk, divOk, Int.reducePow, Nat.reducePow, Int.reduceNeg, Int.reduceLT, Int.reduceLE, natAbs64, natAbs30, Int.reduceToNat, Int.reduceEq, Int.reduceAdd, Int.reduceSub, Int.reduceMul, ne_eq, not_false_eq_true, Int.reduceNe, Ev.alloc, Ev.eq_ii, Ev.eq_ss, Ev.eq_bb, Ev.eq_nn, Ev.eq_ni, Ev.eq_in, Ev.eq_ns, Ev.eq_sn, Ev.eq_nb, Ev.eq_bn, Ev.eq_is, Ev.eq_si, and_self, true_and, and_true, fmod_lt64, fmod_gt64, atI_0, atI_1, atI_2, atI_3, atI_4, atI_5, atI_6, atI_7, atI_8, atI_9, itemsV, smV, fmtV, lenSetV, seqOf, lstOf, slcV, revV, srcOf, optI, List.nil_append, List.cons_append, sto_new, intsP, sortI, insI, compL, compG, wipeP, boolsP, List.all_cons, List.all_nil, id_eq, keep_nil, maxI, minI, intsP, cutf_1, cutf_2, cutf_3, cutf_4, cutt_1, cutt_2, cutt_3, cutt_4, List.drop_succ_cons, List.drop_zero, List.take_succ_cons, List.take_zero, Int.cast_ofNat_Int, false_and, and_false, or_self, or_false, false_or, true_or, or_true, lit_e, tS_len, tS_cat, tS_eq, tS_lt, List.toList_toArray, g_MOST_WORD, g_LETTERS, g_MOST_POOL, g_MOST_WEIGHT, g_BEGIN, g_FACTOR, g_MODULUS, GC.pv, e1, e2, e3, ro, i2, rep2, ht, l1, c1, c2, l2, hg]
    exact ⟨_, _, _, rfl, k1.trans k2⟩
theorem turn_ok (n : Nat) {i j : Nat} {M : Sto} (h : Dk i j M) {P : Pool} (hP : IsPool P) {g : Int} (v0 x4 x5 x6 x7 x8 x9 x10 x11 : Option PV) :
    ∃ l b e6 e7 e8 e9 e10 e11 M', evS (T.at (n + 7)) b_law [v0, some (.ref i), some (pV P), some (.int g), x4, x5, x6, x7, x8, x9, x10, x11] M = .nx [v0, some (.ref i), some (pV P), some (.int g), some (lV l), some (bV b), e6, e7, e8, e9, e10, e11] M' ∧ IsLot P l ∧ IsBusy P b ∧ Dk i j M' ∧ Keep [i, j] M M' := by
  obtain ⟨l, M1, e1, hl, d1, k1⟩ := lot_drawn (n + 5) h hP (m := ((P.map eV).length : Nat)) (by simp)
  obtain ⟨b, M2, e2, hb, d2, k2⟩ := busy_drawn (n + 5) d1 hP
  obtain ⟨k, M3, e3, hk, d3, k3⟩ := word_ok (n + 4) d2
  obtain ⟨M4, e4, k4⟩ := least_l (n + 1) M3 hP hl hb
  have e5 := law_least_l (n + 6) M4 hP hl hb
  obtain ⟨t, ht⟩ := lot_repr hP (lbz_lt (b := b) hl)
  obtain ⟨M5, e6, k5⟩ := by_key_l (n + 1) M4 hP hl hk
  obtain ⟨M6, e7, k6⟩ := law_keyed_l (n + 5) M5 hP hl hk
  obtain ⟨M7, e8, k7⟩ := changes_ok n M6 hP hl hk
  have bB := bk_best (k := k) hl
  obtain ⟨t2, ht2⟩ := lot_repr hP (hl.lt _ bB.1)
  have kk : Keep [i, j] M M7 := k1.trans (k2.trans (k3.trans ((k4.trans (k5.trans (k6.trans k7))).imp (fun _ z => by cases z))))
  have d7 : Dk i j M7 := d3.keep (k4.trans (k5.trans (k6.trans k7))) (by simp) (by simp)
  -- the depth is hidden: else the kernel unfolds callN at all its levels
  obtain ⟨N, hN⟩ : ∃ N, N = n + 7 := ⟨_, rfl⟩
  have e1 : callN T N "_law_drawn_lot" [.ref i, .int ((P.map eV).length : Nat)] M = .ok (lV l) M1 := by rw [hN]; exact e1
  have e2 : callN T N "_law_drawn_busy" [.ref i, pV P] M1 = .ok (bV b) M2 := by rw [hN]; exact e2
  have e3 : callN T N "_law_word" [.ref i] M2 = .ok (tv k) M3 := by rw [hN]; exact e3
  have e4 : callN T N "least_busy" [pV P, lV l, bV b] M3 = .ok (iV (lbz P b l)) M4 := by rw [hN]; exact e4
  have e5 : callN T N "_law_least_busy" [pV P, lV l, bV b] M4 = .ok (iV (lbz P b l)) M4 := by rw [hN]; exact e5
  have e6 : callN T N "by_key" [pV P, lV l, tv k] M4 = .ok (iV (bk P k l)) M5 := by rw [hN]; exact e6
  have e7 : callN T N "_law_by_key" [pV P, lV l, tv k] M5 = .ok (iV (bk P k l)) M6 := by rw [hN]; exact e7
  have e8 : callN T N "_law_are_changes_right" [pV P, lV l, tv k, iV (bk P k l)] M6 = .ok (.bl true) M7 := by rw [hN]; exact e8
  rw [← hN]
  have s0 : evS (T.at N) p0_ [v0, some (.ref i), some (pV P), some (.int g), x4, x5, x6, x7, x8, x9, x10, x11] M = .nx [v0, some (.ref i), some (pV P), some (.int g), some (lV l), some (bV b), some (tv k), x7, x8, x9, x10, x11] M3 := by
    unfold p0_
    simp only [↓evE.eq_1, ↓evE.eq_2, ↓evE.eq_3, ↓evE.eq_4, ↓evE.eq_5, ↓evE.eq_6, ↓evE.eq_7, ↓evE.eq_8, ↓evE.eq_9, ↓evE.eq_10, ↓evE.eq_11, ↓evE.eq_12, ↓evE.eq_13, ↓evE.eq_14, ↓evE.eq_15, ↓evE.eq_16, ↓evE.eq_17, ↓evE.eq_18, ↓evE.eq_19, ↓evE.eq_20, ↓evE.eq_21, ↓evE.eq_22, ↓evE.eq_23, ↓evE.eq_24, ↓evE.eq_25, ↓evE.eq_26, ↓evE.eq_27, ↓evE.eq_28, ↓evE.eq_29, ↓evE.eq_30, ↓evE.eq_31, ↓evE.eq_32, ↓evE.eq_33, ↓evE.eq_34, ↓evE.eq_35, ↓evE.eq_36, ↓evE.eq_37, ↓evE.eq_38, ↓evS.eq_1, ↓evS_seq, ↓evS.eq_3, ↓evS.eq_4, ↓evS.eq_5, ↓evS.eq_6, ↓evS.eq_7, ↓evS.eq_8, ↓evS_ite, ↓iteS, ↓evS.eq_11, ↓evS.eq_12, ↓evS.eq_13, ↓evS.eq_14, ↓evS.eq_15, ↓evS.eq_16, ↓evS.eq_17, ↓evS_for, ↓evA.eq_1, ↓evA.eq_2, ↓evT.eq_1, ↓evT.eq_2, ↓evO.eq_1, ↓evO.eq_2, ↓evI.eq_1, ↓evI.eq_2, ↓evI.eq_3, ↓evI.eq_4, ↓evI.eq_5, ↓evF.eq_1, ↓evF.eq_2, ↓m_bind, ↓m_then, ↓m_opt, SRes.bind_nx, SRes.bind_rt, SRes.bind_bk, SRes.bind_ct, SRes.bind_ex, SRes.bind_bad, at_call, at_glo, at_fuel, SRes.back, List.getElem?_cons_zero, List.getElem?_cons_succ, List.set_cons_zero, List.set_cons_succ, asgT, asgTs, cmpV, truV, binV, bltV, tyN, tyLe, subV, Option.map_some, Option.map_none, List.any_cons, List.any_nil, if_true, if_false, ite_true, ite_false, String.reduceBEq, Nat.reduceAdd, Bool.or_false, Bool.false_or, Bool.or_true, Bool.true_or, Bool.and_true, Bool.true_and, Bool.and_false, Bool.false_and, Bool.not_true, Bool.not_false, beq_self_eq_true, decide_true, decide_false, reduceCtorEq, Bool.false_eq_true, Ev.keyOf, dctKeys, List.length_cons, List.length_nil, List.zip_cons_cons, List.zip_nil_left, List.zip_nil_right, List.foldl_cons, List.foldl_nil, methV, setV, isL, permL_cons, permL_nil, List.map_cons, List.map_nil, valP_cons, valP_nil, key_str, key_int, ofString_eq, String.reduceEq, putP, sizeLine_eq, Nat.reduceLT, Nat.reduceLeDiff, sto_self, mulOk, powOk, divOk, Int.reducePow, Nat.reducePow, Int.reduceNeg, Int.reduceLT, Int.reduceLE, natAbs64, natAbs30, Int.reduceToNat, Int.reduceEq, Int.reduceAdd, Int.reduceSub, Int.reduceMul, ne_eq, not_false_eq_true, Int.reduceNe, Ev.alloc, Ev.eq_ii, Ev.eq_ss, Ev.eq_bb, Ev.eq_nn, Ev.eq_ni, Ev.eq_in, Ev.eq_ns, Ev.eq_sn, Ev.eq_nb, Ev.eq_bn, Ev.eq_is, Ev.eq_si, and_self, true_and, and_true, fmod_lt64, fmod_gt64, atI_0, atI_1, atI_2, atI_3, atI_4, atI_5, atI_6, atI_7, atI_8, atI_9, itemsV, smV, fmtV, lenSetV, seqOf, lstOf, slcV, revV, srcOf, optI, List.nil_append, List.cons_append, sto_new, intsP, sortI, insI, compL, compG, wipeP, boolsP, List.all_cons, List.all_nil, id_eq, keep_nil, maxI, minI, intsP, cutf_1, cutf_2, cutf_3, cutf_4, cutt_1, cutt_2, cutt_3, cutt_4, List.drop_succ_cons, List.drop_zero, List.take_succ_cons, List.take_zero, Int.cast_ofNat_Int, false_and, and_false, or_self, or_false, false_or, true_or, or_true, lit_e, tS_len, tS_cat, tS_eq, tS_lt, List.toList_toArray, g_MOST_WORD, g_LETTERS, g_MOST_POOL, g_MOST_WEIGHT, g_BEGIN, g_FACTOR, g_MODULUS, GC.pv, e1, e2, e3]
  have s1 : evS (T.at N) p1_ [v0, some (.ref i), some (pV P), some (.int g), some (lV l), some (bV b), some (tv k), x7, x8, x9, x10, x11] M3 = .nx [v0, some (.ref i), some (pV P), some (.int g), some (lV l), some (bV b), some (tv k), x7, x8, x9, x10, x11] M4 := by
    unfold p1_
    simp only [↓evE.eq_1, ↓evE.eq_2, ↓evE.eq_3, ↓evE.eq_4, ↓evE.eq_5, ↓evE.eq_6, ↓evE.eq_7, ↓evE.eq_8, ↓evE.eq_9, ↓evE.eq_10, ↓evE.eq_11, ↓evE.eq_12, ↓evE.eq_13, ↓evE.eq_14, ↓evE.eq_15, ↓evE.eq_16, ↓evE.eq_17, ↓evE.eq_18, ↓evE.eq_19, ↓evE.eq_20, ↓evE.eq_21, ↓evE.eq_22, ↓evE.eq_23, ↓evE.eq_24, ↓evE.eq_25, ↓evE.eq_26, ↓evE.eq_27, ↓evE.eq_28, ↓evE.eq_29, ↓evE.eq_30, ↓evE.eq_31, ↓evE.eq_32, ↓evE.eq_33, ↓evE.eq_34, ↓evE.eq_35, ↓evE.eq_36, ↓evE.eq_37, ↓evE.eq_38, ↓evS.eq_1, ↓evS_seq, ↓evS.eq_3, ↓evS.eq_4, ↓evS.eq_5, ↓evS.eq_6, ↓evS.eq_7, ↓evS.eq_8, ↓evS_ite, ↓iteS, ↓evS.eq_11, ↓evS.eq_12, ↓evS.eq_13, ↓evS.eq_14, ↓evS.eq_15, ↓evS.eq_16, ↓evS.eq_17, ↓evS_for, ↓evA.eq_1, ↓evA.eq_2, ↓evT.eq_1, ↓evT.eq_2, ↓evO.eq_1, ↓evO.eq_2, ↓evI.eq_1, ↓evI.eq_2, ↓evI.eq_3, ↓evI.eq_4, ↓evI.eq_5, ↓evF.eq_1, ↓evF.eq_2, ↓m_bind, ↓m_then, ↓m_opt, SRes.bind_nx, SRes.bind_rt, SRes.bind_bk, SRes.bind_ct, SRes.bind_ex, SRes.bind_bad, at_call, at_glo, at_fuel, SRes.back, List.getElem?_cons_zero, List.getElem?_cons_succ, List.set_cons_zero, List.set_cons_succ, asgT, asgTs, cmpV, truV, binV, bltV, tyN, tyLe, subV, Option.map_some, Option.map_none, List.any_cons, List.any_nil, if_true, if_false, ite_true, ite_false, String.reduceBEq, Nat.reduceAdd, Bool.or_false, Bool.false_or, Bool.or_true, Bool.true_or, Bool.and_true, Bool.true_and, Bool.and_false, Bool.false_and, Bool.not_true, Bool.not_false, beq_self_eq_true, decide_true, decide_false, reduceCtorEq, Bool.false_eq_true, Ev.keyOf, dctKeys, List.length_cons, List.length_nil, List.zip_cons_cons, List.zip_nil_left, List.zip_nil_right, List.foldl_cons, List.foldl_nil, methV, setV, isL, permL_cons, permL_nil, List.map_cons, List.map_nil, valP_cons, valP_nil, key_str, key_int, ofString_eq, String.reduceEq, putP, sizeLine_eq, Nat.reduceLT, Nat.reduceLeDiff, sto_self, mulOk, powOk, divOk, Int.reducePow, Nat.reducePow, Int.reduceNeg, Int.reduceLT, Int.reduceLE, natAbs64, natAbs30, Int.reduceToNat, Int.reduceEq, Int.reduceAdd, Int.reduceSub, Int.reduceMul, ne_eq, not_false_eq_true, Int.reduceNe, Ev.alloc, Ev.eq_ii, Ev.eq_ss, Ev.eq_bb, Ev.eq_nn, Ev.eq_ni, Ev.eq_in, Ev.eq_ns, Ev.eq_sn, Ev.eq_nb, Ev.eq_bn, Ev.eq_is, Ev.eq_si, and_self, true_and, and_true, fmod_lt64, fmod_gt64, atI_0, atI_1, atI_2, atI_3, atI_4, atI_5, atI_6, atI_7, atI_8, atI_9, itemsV, smV, fmtV, lenSetV, seqOf, lstOf, slcV, revV, srcOf, optI, List.nil_append, List.cons_append, sto_new, intsP, sortI, insI, compL, compG, wipeP, boolsP, List.all_cons, List.all_nil, id_eq, keep_nil, maxI, minI, intsP, cutf_1, cutf_2, cutf_3, cutf_4, cutt_1, cutt_2, cutt_3, cutt_4, List.drop_succ_cons, List.drop_zero, List.take_succ_cons, List.take_zero, Int.cast_ofNat_Int, false_and, and_false, or_self, or_false, false_or, true_or, or_true, lit_e, tS_len, tS_cat, tS_eq, tS_lt, List.toList_toArray, g_MOST_WORD, g_LETTERS, g_MOST_POOL, g_MOST_WEIGHT, g_BEGIN, g_FACTOR, g_MODULUS, GC.pv, e4, e5, ht]
  have s2 : evS (T.at N) p2_ [v0, some (.ref i), some (pV P), some (.int g), some (lV l), some (bV b), some (tv k), x7, x8, x9, x10, x11] M4 = .nx [v0, some (.ref i), some (pV P), some (.int g), some (lV l), some (bV b), some (tv k), some (iV (bk P k l)), x8, x9, x10, x11] M5 := by
    unfold p2_
    by_cases hg : g = 0
    · simp only [↓evE.eq_1, ↓evE.eq_2, ↓evE.eq_3, ↓evE.eq_4, ↓evE.eq_5, ↓evE.eq_6, ↓evE.eq_7, ↓evE.eq_8, ↓evE.eq_9, ↓evE.eq_10, ↓evE.eq_11, ↓evE.eq_12, ↓evE.eq_13, ↓evE.eq_14, ↓evE.eq_15, ↓evE.eq_16, ↓evE.eq_17, ↓evE.eq_18, ↓evE.eq_19, ↓evE.eq_20, ↓evE.eq_21, ↓evE.eq_22, ↓evE.eq_23, ↓evE.eq_24, ↓evE.eq_25, ↓evE.eq_26, ↓evE.eq_27, ↓evE.eq_28, ↓evE.eq_29, ↓evE.eq_30, ↓evE.eq_31, ↓evE.eq_32, ↓evE.eq_33, ↓evE.eq_34, ↓evE.eq_35, ↓evE.eq_36, ↓evE.eq_37, ↓evE.eq_38, ↓evS.eq_1, ↓evS_seq, ↓evS.eq_3, ↓evS.eq_4, ↓evS.eq_5, ↓evS.eq_6, ↓evS.eq_7, ↓evS.eq_8, ↓evS_ite, ↓iteS, ↓evS.eq_11, ↓evS.eq_12, ↓evS.eq_13, ↓evS.eq_14, ↓evS.eq_15, ↓evS.eq_16, ↓evS.eq_17, ↓evS_for, ↓evA.eq_1, ↓evA.eq_2, ↓evT.eq_1, ↓evT.eq_2, ↓evO.eq_1, ↓evO.eq_2, ↓evI.eq_1, ↓evI.eq_2, ↓evI.eq_3, ↓evI.eq_4, ↓evI.eq_5, ↓evF.eq_1, ↓evF.eq_2, ↓m_bind, ↓m_then, ↓m_opt, SRes.bind_nx, SRes.bind_rt, SRes.bind_bk, SRes.bind_ct, SRes.bind_ex, SRes.bind_bad, at_call, at_glo, at_fuel, SRes.back, List.getElem?_cons_zero, List.getElem?_cons_succ, List.set_cons_zero, List.set_cons_succ, asgT, asgTs, cmpV, truV, binV, bltV, tyN, tyLe, subV, Option.map_some, Option.map_none, List.any_cons, List.any_nil, if_true, if_false, ite_true, ite_false, String.reduceBEq, Nat.reduceAdd, Bool.or_false, Bool.false_or, Bool.or_true, Bool.true_or, Bool.and_true, Bool.true_and, Bool.and_false, Bool.false_and, Bool.not_true, Bool.not_false, beq_self_eq_true, decide_true, decide_false, reduceCtorEq, Bool.false_eq_true, Ev.keyOf, dctKeys, List.length_cons, List.length_nil, List.zip_cons_cons, List.zip_nil_left, List.zip_nil_right, List.foldl_cons, List.foldl_nil, methV, setV, isL, permL_cons, permL_nil, List.map_cons, List.map_nil, valP_cons, valP_nil, key_str, key_int, ofString_eq, String.reduceEq, putP, sizeLine_eq, Nat.reduceLT, Nat.reduceLeDiff, sto_self, mulOk, powOk, divOk, Int.reducePow, Nat.reducePow, Int.reduceNeg, Int.reduceLT, Int.reduceLE, natAbs64, natAbs30, Int.reduceToNat, Int.reduceEq, Int.reduceAdd, Int.reduceSub, Int.reduceMul, ne_eq, not_false_eq_true, Int.reduceNe, Ev.alloc, Ev.eq_ii, Ev.eq_ss, Ev.eq_bb, Ev.eq_nn, Ev.eq_ni, Ev.eq_in, Ev.eq_ns, Ev.eq_sn, Ev.eq_nb, Ev.eq_bn, Ev.eq_is, Ev.eq_si, and_self, true_and, and_true, fmod_lt64, fmod_gt64, atI_0, atI_1, atI_2, atI_3, atI_4, atI_5, atI_6, atI_7, atI_8, atI_9, itemsV, smV, fmtV, lenSetV, seqOf, lstOf, slcV, revV, srcOf, optI, List.nil_append, List.cons_append, sto_new, intsP, sortI, insI, compL, compG, wipeP, boolsP, List.all_cons, List.all_nil, id_eq, keep_nil, maxI, minI, intsP, cutf_1, cutf_2, cutf_3, cutf_4, cutt_1, cutt_2, cutt_3, cutt_4, List.drop_succ_cons, List.drop_zero, List.take_succ_cons, List.take_zero, Int.cast_ofNat_Int, false_and, and_false, or_self, or_false, false_or, true_or, or_true, lit_e, tS_len, tS_cat, tS_eq, tS_lt, List.toList_toArray, g_MOST_WORD, g_LETTERS, g_MOST_POOL, g_MOST_WEIGHT, g_BEGIN, g_FACTOR, g_MODULUS, GC.pv, hg, e6]
    · simp only [↓evE.eq_1, ↓evE.eq_2, ↓evE.eq_3, ↓evE.eq_4, ↓evE.eq_5, ↓evE.eq_6, ↓evE.eq_7, ↓evE.eq_8, ↓evE.eq_9, ↓evE.eq_10, ↓evE.eq_11, ↓evE.eq_12, ↓evE.eq_13, ↓evE.eq_14, ↓evE.eq_15, ↓evE.eq_16, ↓evE.eq_17, ↓evE.eq_18, ↓evE.eq_19, ↓evE.eq_20, ↓evE.eq_21, ↓evE.eq_22, ↓evE.eq_23, ↓evE.eq_24, ↓evE.eq_25, ↓evE.eq_26, ↓evE.eq_27, ↓evE.eq_28, ↓evE.eq_29, ↓evE.eq_30, ↓evE.eq_31, ↓evE.eq_32, ↓evE.eq_33, ↓evE.eq_34, ↓evE.eq_35, ↓evE.eq_36, ↓evE.eq_37, ↓evE.eq_38, ↓evS.eq_1, ↓evS_seq, ↓evS.eq_3, ↓evS.eq_4, ↓evS.eq_5, ↓evS.eq_6, ↓evS.eq_7, ↓evS.eq_8, ↓evS_ite, ↓iteS, ↓evS.eq_11, ↓evS.eq_12, ↓evS.eq_13, ↓evS.eq_14, ↓evS.eq_15, ↓evS.eq_16, ↓evS.eq_17, ↓evS_for, ↓evA.eq_1, ↓evA.eq_2, ↓evT.eq_1, ↓evT.eq_2, ↓evO.eq_1, ↓evO.eq_2, ↓evI.eq_1, ↓evI.eq_2, ↓evI.eq_3, ↓evI.eq_4, ↓evI.eq_5, ↓evF.eq_1, ↓evF.eq_2, ↓m_bind, ↓m_then, ↓m_opt, SRes.bind_nx, SRes.bind_rt, SRes.bind_bk, SRes.bind_ct, SRes.bind_ex, SRes.bind_bad, at_call, at_glo, at_fuel, SRes.back, List.getElem?_cons_zero, List.getElem?_cons_succ, List.set_cons_zero, List.set_cons_succ, asgT, asgTs, cmpV, truV, binV, bltV, tyN, tyLe, subV, Option.map_some, Option.map_none, List.any_cons, List.any_nil, if_true, if_false, ite_true, ite_false, String.reduceBEq, Nat.reduceAdd, Bool.or_false, Bool.false_or, Bool.or_true, Bool.true_or, Bool.and_true, Bool.true_and, Bool.and_false, Bool.false_and, Bool.not_true, Bool.not_false, beq_self_eq_true, decide_true, decide_false, reduceCtorEq, Bool.false_eq_true, Ev.keyOf, dctKeys, List.length_cons, List.length_nil, List.zip_cons_cons, List.zip_nil_left, List.zip_nil_right, List.foldl_cons, List.foldl_nil, methV, setV, isL, permL_cons, permL_nil, List.map_cons, List.map_nil, valP_cons, valP_nil, key_str, key_int, ofString_eq, String.reduceEq, putP, sizeLine_eq, Nat.reduceLT, Nat.reduceLeDiff, sto_self, mulOk, powOk, divOk, Int.reducePow, Nat.reducePow, Int.reduceNeg, Int.reduceLT, Int.reduceLE, natAbs64, natAbs30, Int.reduceToNat, Int.reduceEq, Int.reduceAdd, Int.reduceSub, Int.reduceMul, ne_eq, not_false_eq_true, Int.reduceNe, Ev.alloc, Ev.eq_ii, Ev.eq_ss, Ev.eq_bb, Ev.eq_nn, Ev.eq_ni, Ev.eq_in, Ev.eq_ns, Ev.eq_sn, Ev.eq_nb, Ev.eq_bn, Ev.eq_is, Ev.eq_si, and_self, true_and, and_true, fmod_lt64, fmod_gt64, atI_0, atI_1, atI_2, atI_3, atI_4, atI_5, atI_6, atI_7, atI_8, atI_9, itemsV, smV, fmtV, lenSetV, seqOf, lstOf, slcV, revV, srcOf, optI, List.nil_append, List.cons_append, sto_new, intsP, sortI, insI, compL, compG, wipeP, boolsP, List.all_cons, List.all_nil, id_eq, keep_nil, maxI, minI, intsP, cutf_1, cutf_2, cutf_3, cutf_4, cutt_1, cutt_2, cutt_3, cutt_4, List.drop_succ_cons, List.drop_zero, List.take_succ_cons, List.take_zero, Int.cast_ofNat_Int, false_and, and_false, or_self, or_false, false_or, true_or, or_true, lit_e, tS_len, tS_cat, tS_eq, tS_lt, List.toList_toArray, g_MOST_WORD, g_LETTERS, g_MOST_POOL, g_MOST_WEIGHT, g_BEGIN, g_FACTOR, g_MODULUS, GC.pv, hg, e6]
  have s3 : evS (T.at N) p3_ [v0, some (.ref i), some (pV P), some (.int g), some (lV l), some (bV b), some (tv k), some (iV (bk P k l)), x8, x9, x10, x11] M5 = .nx [v0, some (.ref i), some (pV P), some (.int g), some (lV l), some (bV b), some (tv k), some (iV (bk P k l)), x8, x9, x10, x11] M7 := by
    unfold p3_
    simp only [↓evE.eq_1, ↓evE.eq_2, ↓evE.eq_3, ↓evE.eq_4, ↓evE.eq_5, ↓evE.eq_6, ↓evE.eq_7, ↓evE.eq_8, ↓evE.eq_9, ↓evE.eq_10, ↓evE.eq_11, ↓evE.eq_12, ↓evE.eq_13, ↓evE.eq_14, ↓evE.eq_15, ↓evE.eq_16, ↓evE.eq_17, ↓evE.eq_18, ↓evE.eq_19, ↓evE.eq_20, ↓evE.eq_21, ↓evE.eq_22, ↓evE.eq_23, ↓evE.eq_24, ↓evE.eq_25, ↓evE.eq_26, ↓evE.eq_27, ↓evE.eq_28, ↓evE.eq_29, ↓evE.eq_30, ↓evE.eq_31, ↓evE.eq_32, ↓evE.eq_33, ↓evE.eq_34, ↓evE.eq_35, ↓evE.eq_36, ↓evE.eq_37, ↓evE.eq_38, ↓evS.eq_1, ↓evS_seq, ↓evS.eq_3, ↓evS.eq_4, ↓evS.eq_5, ↓evS.eq_6, ↓evS.eq_7, ↓evS.eq_8, ↓evS_ite, ↓iteS, ↓evS.eq_11, ↓evS.eq_12, ↓evS.eq_13, ↓evS.eq_14, ↓evS.eq_15, ↓evS.eq_16, ↓evS.eq_17, ↓evS_for, ↓evA.eq_1, ↓evA.eq_2, ↓evT.eq_1, ↓evT.eq_2, ↓evO.eq_1, ↓evO.eq_2, ↓evI.eq_1, ↓evI.eq_2, ↓evI.eq_3, ↓evI.eq_4, ↓evI.eq_5, ↓evF.eq_1, ↓evF.eq_2, ↓m_bind, ↓m_then, ↓m_opt, SRes.bind_nx, SRes.bind_rt, SRes.bind_bk, SRes.bind_ct, SRes.bind_ex, SRes.bind_bad, at_call, at_glo, at_fuel, SRes.back, List.getElem?_cons_zero, List.getElem?_cons_succ, List.set_cons_zero, List.set_cons_succ, asgT, asgTs, cmpV, truV, binV, bltV, tyN, tyLe, subV, Option.map_some, Option.map_none, List.any_cons, List.any_nil, if_true, if_false, ite_true, ite_false, String.reduceBEq, Nat.reduceAdd, Bool.or_false, Bool.false_or, Bool.or_true, Bool.true_or, Bool.and_true, Bool.true_and, Bool.and_false, Bool.false_and, Bool.not_true, Bool.not_false, beq_self_eq_true, decide_true, decide_false, reduceCtorEq, Bool.false_eq_true, Ev.keyOf, dctKeys, List.length_cons, List.length_nil, List.zip_cons_cons, List.zip_nil_left, List.zip_nil_right, List.foldl_cons, List.foldl_nil, methV, setV, isL, permL_cons, permL_nil, List.map_cons, List.map_nil, valP_cons, valP_nil, key_str, key_int, ofString_eq, String.reduceEq, putP, sizeLine_eq, Nat.reduceLT, Nat.reduceLeDiff, sto_self, mulOk, powOk, divOk, Int.reducePow, Nat.reducePow, Int.reduceNeg, Int.reduceLT, Int.reduceLE, natAbs64, natAbs30, Int.reduceToNat, Int.reduceEq, Int.reduceAdd, Int.reduceSub, Int.reduceMul, ne_eq, not_false_eq_true, Int.reduceNe, Ev.alloc, Ev.eq_ii, Ev.eq_ss, Ev.eq_bb, Ev.eq_nn, Ev.eq_ni, Ev.eq_in, Ev.eq_ns, Ev.eq_sn, Ev.eq_nb, Ev.eq_bn, Ev.eq_is, Ev.eq_si, and_self, true_and, and_true, fmod_lt64, fmod_gt64, atI_0, atI_1, atI_2, atI_3, atI_4, atI_5, atI_6, atI_7, atI_8, atI_9, itemsV, smV, fmtV, lenSetV, seqOf, lstOf, slcV, revV, srcOf, optI, List.nil_append, List.cons_append, sto_new, intsP, sortI, insI, compL, compG, wipeP, boolsP, List.all_cons, List.all_nil, id_eq, keep_nil, maxI, minI, intsP, cutf_1, cutf_2, cutf_3, cutf_4, cutt_1, cutt_2, cutt_3, cutt_4, List.drop_succ_cons, List.drop_zero, List.take_succ_cons, List.take_zero, Int.cast_ofNat_Int, false_and, and_false, or_self, or_false, false_or, true_or, or_true, lit_e, tS_len, tS_cat, tS_eq, tS_lt, List.toList_toArray, g_MOST_WORD, g_LETTERS, g_MOST_POOL, g_MOST_WEIGHT, g_BEGIN, g_FACTOR, g_MODULUS, GC.pv, e7, ht2, e8]
  have s4 : ∃ e8 e9 e10 e11 M8, evS (T.at N) p4_ [v0, some (.ref i), some (pV P), some (.int g), some (lV l), some (bV b), some (tv k), some (iV (bk P k l)), x8, x9, x10, x11] M7 = .nx [v0, some (.ref i), some (pV P), some (.int g), some (lV l), some (bV b), some (tv k), some (iV (bk P k l)), e8, e9, e10, e11] M8 ∧ Keep [] M7 M8 := by
    unfold p4_
    obtain ⟨tl, hT⟩ : ∃ tl, tl = b_score := ⟨_, rfl⟩
    have hT' := hT
    unfold b_score at hT
    rw [← hT]
    simp only [↓evE.eq_1, ↓evE.eq_2, ↓evE.eq_3, ↓evE.eq_4, ↓evE.eq_5, ↓evE.eq_6, ↓evE.eq_7, ↓evE.eq_8, ↓evE.eq_9, ↓evE.eq_10, ↓evE.eq_11, ↓evE.eq_12, ↓evE.eq_13, ↓evE.eq_14, ↓evE.eq_15, ↓evE.eq_16, ↓evE.eq_17, ↓evE.eq_18, ↓evE.eq_19, ↓evE.eq_20, ↓evE.eq_21, ↓evE.eq_22, ↓evE.eq_23, ↓evE.eq_24, ↓evE.eq_25, ↓evE.eq_26, ↓evE.eq_27, ↓evE.eq_28, ↓evE.eq_29, ↓evE.eq_30, ↓evE.eq_31, ↓evE.eq_32, ↓evE.eq_33, ↓evE.eq_34, ↓evE.eq_35, ↓evE.eq_36, ↓evE.eq_37, ↓evE.eq_38, ↓evS.eq_1, ↓evS_seq, ↓evS.eq_3, ↓evS.eq_4, ↓evS.eq_5, ↓evS.eq_6, ↓evS.eq_7, ↓evS.eq_8, ↓evS_ite, ↓iteS, ↓evS.eq_11, ↓evS.eq_12, ↓evS.eq_13, ↓evS.eq_14, ↓evS.eq_15, ↓evS.eq_16, ↓evS.eq_17, ↓evS_for, ↓evA.eq_1, ↓evA.eq_2, ↓evT.eq_1, ↓evT.eq_2, ↓evO.eq_1, ↓evO.eq_2, ↓evI.eq_1, ↓evI.eq_2, ↓evI.eq_3, ↓evI.eq_4, ↓evI.eq_5, ↓evF.eq_1, ↓evF.eq_2, ↓m_bind, ↓m_then, ↓m_opt, SRes.bind_nx, SRes.bind_rt, SRes.bind_bk, SRes.bind_ct, SRes.bind_ex, SRes.bind_bad, at_call, at_glo, at_fuel, SRes.back, List.getElem?_cons_zero, List.getElem?_cons_succ, List.set_cons_zero, List.set_cons_succ, asgT, asgTs, cmpV, truV, binV, bltV, tyN, tyLe, subV, Option.map_some, Option.map_none, List.any_cons, List.any_nil, if_true, if_false, ite_true, ite_false, String.reduceBEq, Nat.reduceAdd, Bool.or_false, Bool.false_or, Bool.or_true, Bool.true_or, Bool.and_true, Bool.true_and, Bool.and_false, Bool.false_and, Bool.not_true, Bool.not_false, beq_self_eq_true, decide_true, decide_false, reduceCtorEq, Bool.false_eq_true, Ev.keyOf, dctKeys, List.length_cons, List.length_nil, List.zip_cons_cons, List.zip_nil_left, List.zip_nil_right, List.foldl_cons, List.foldl_nil, methV, setV, isL, permL_cons, permL_nil, List.map_cons, List.map_nil, valP_cons, valP_nil, key_str, key_int, ofString_eq, String.reduceEq, putP, sizeLine_eq, Nat.reduceLT, Nat.reduceLeDiff, sto_self, mulOk, powOk, divOk, Int.reducePow, Nat.reducePow, Int.reduceNeg, Int.reduceLT, Int.reduceLE, natAbs64, natAbs30, Int.reduceToNat, Int.reduceEq, Int.reduceAdd, Int.reduceSub, Int.reduceMul, ne_eq, not_false_eq_true, Int.reduceNe, Ev.alloc, Ev.eq_ii, Ev.eq_ss, Ev.eq_bb, Ev.eq_nn, Ev.eq_ni, Ev.eq_in, Ev.eq_ns, Ev.eq_sn, Ev.eq_nb, Ev.eq_bn, Ev.eq_is, Ev.eq_si, and_self, true_and, and_true, fmod_lt64, fmod_gt64, atI_0, atI_1, atI_2, atI_3, atI_4, atI_5, atI_6, atI_7, atI_8, atI_9, itemsV, smV, fmtV, lenSetV, seqOf, lstOf, slcV, revV, srcOf, optI, List.nil_append, List.cons_append, sto_new, intsP, sortI, insI, compL, compG, wipeP, boolsP, List.all_cons, List.all_nil, id_eq, keep_nil, maxI, minI, intsP, cutf_1, cutf_2, cutf_3, cutf_4, cutt_1, cutt_2, cutt_3, cutt_4, List.drop_succ_cons, List.drop_zero, List.take_succ_cons, List.take_zero, Int.cast_ofNat_Int, false_and, and_false, or_self, or_false, false_or, true_or, or_true, lit_e, tS_len, tS_cat, tS_eq, tS_lt, List.toList_toArray, g_MOST_WORD, g_LETTERS, g_MOST_POOL, g_MOST_WEIGHT, g_BEGIN, g_FACTOR, g_MODULUS, GC.pv]
    generalize hz : forL _ _ _ _ _ = z
    obtain ⟨env', M8, rfl, rt, f1, f2, e8, e9, e10, e11, f3, k8⟩ := for_of hz (fun xs env M8 => ∃ rt : Pool, xs = rt.map eV ∧ (∀ p ∈ rt, p ∈ P) ∧ ∃ e8 e9 e10 e11, env = [v0, some (.ref i), some (pV P), some (.int g), some (lV l), some (bV b), some (tv k), some (iV (bk P k l)), e8, e9, e10, e11] ∧ Keep [] M7 M8)
      ⟨P, rfl, fun p hp => hp, _, _, _, _, rfl, Keep.refl _⟩ (fun _ _ _ _ => rfl)
      (fun x xs env M8 ⟨rt, f1, f2, e8, e9, e10, e11, f3, k8⟩ => by
        cases rt with
        | nil => cases f1
        | cons p rt =>
          cases f1
          subst f3
          have pw := (hP.w p (f2 p List.mem_cons_self)).1
          obtain ⟨e10', e11', M9, e, k9⟩ := score_turn (n + 4) M8 hk pw (m := (p.2 : Nat)) (g := g) v0 (some (.ref i)) (some (pV P)) (some (lV l)) (some (bV b)) (some (iV (bk P k l))) e8 e9 e10 e11
          rw [show n + 4 + 3 = N from hN.symm] at e
          exact ⟨_, M9, .inl (by rw [hT']; exact e), rt, rfl, fun q hq => f2 q (List.mem_cons_of_mem _ hq), _, _, _, _, rfl, k8.trans k9⟩)
    exact ⟨e8, e9, e10, e11, M8, by rw [f3], k8⟩
  obtain ⟨e8', e9', e10', e11', M8, s4, k8⟩ := s4
  unfold b_law
  refine ⟨l, b, some (tv k), some (iV (bk P k l)), e8', e9', e10', e11', M8, ?_, hl, hb, d7.keep k8 (by simp) (by simp), kk.trans (k8.imp (fun _ z => by cases z))⟩
  rw [evS_seq, s0, SRes.bind_nx, evS_seq, s1, SRes.bind_nx, evS_seq, s2, SRes.bind_nx, evS_seq, s3, SRes.bind_nx, evS_seq, s4, SRes.bind_nx]
  rfl
theorem law_ok (n : Nat) (ns : List Int) (hn : ns.length ≤ 63) : ∃ M, callN T (n + 8) "law" [.rol (ns.map .int)] [] = .ok (.bl true) M := by
  obtain ⟨i, j, M1, e1, d1, hi, hj, k1⟩ := deck_ok (n + 6) [] ns hn
  obtain ⟨P, M2, e2, hP, d2, k2⟩ := pool_drawn (n + 2) d1
  obtain ⟨M3, e3, k3⟩ := is_pool_ok (n + 3) M2 hP
  have d3 : Dk i j M3 := d2.keep k3 (by simp) (by simp)
  rw [e_law]
  obtain ⟨N, hN⟩ : ∃ N, N = n + 7 := ⟨_, rfl⟩
  have e1 : callN T N "_law_deck" [.rol (ns.map .int)] [] = .ok (.ref i) M1 := by rw [hN]; exact e1
  have e2 : callN T N "_law_drawn_pool" [.ref i] M1 = .ok (pV P) M2 := by rw [hN]; exact e2
  have e3 : callN T N "is_pool" [pV P] M2 = .ok (.bl true) M3 := by rw [hN]; exact e3
  rw [← hN]
  unfold c_law
  obtain ⟨tl, hT⟩ : ∃ tl, tl = b_law := ⟨_, rfl⟩
  have hT' := hT
  unfold b_law p0_ p1_ p2_ p3_ p4_ at hT
  rw [← hT]
  have rg : rgOk 0 3 = true := rgOk_nat (by decide) (by decide) (by decide) (by decide)
  simp only [↓evE.eq_1, ↓evE.eq_2, ↓evE.eq_3, ↓evE.eq_4, ↓evE.eq_5, ↓evE.eq_6, ↓evE.eq_7, ↓evE.eq_8, ↓evE.eq_9, ↓evE.eq_10, ↓evE.eq_11, ↓evE.eq_12, ↓evE.eq_13, ↓evE.eq_14, ↓evE.eq_15, ↓evE.eq_16, ↓evE.eq_17, ↓evE.eq_18, ↓evE.eq_19, ↓evE.eq_20, ↓evE.eq_21, ↓evE.eq_22, ↓evE.eq_23, ↓evE.eq_24, ↓evE.eq_25, ↓evE.eq_26, ↓evE.eq_27, ↓evE.eq_28, ↓evE.eq_29, ↓evE.eq_30, ↓evE.eq_31, ↓evE.eq_32, ↓evE.eq_33, ↓evE.eq_34, ↓evE.eq_35, ↓evE.eq_36, ↓evE.eq_37, ↓evE.eq_38, ↓evS.eq_1, ↓evS_seq, ↓evS.eq_3, ↓evS.eq_4, ↓evS.eq_5, ↓evS.eq_6, ↓evS.eq_7, ↓evS.eq_8, ↓evS_ite, ↓iteS, ↓evS.eq_11, ↓evS.eq_12, ↓evS.eq_13, ↓evS.eq_14, ↓evS.eq_15, ↓evS.eq_16, ↓evS.eq_17, ↓evS_for, ↓evA.eq_1, ↓evA.eq_2, ↓evT.eq_1, ↓evT.eq_2, ↓evO.eq_1, ↓evO.eq_2, ↓evI.eq_1, ↓evI.eq_2, ↓evI.eq_3, ↓evI.eq_4, ↓evI.eq_5, ↓evF.eq_1, ↓evF.eq_2, ↓m_bind, ↓m_then, ↓m_opt, SRes.bind_nx, SRes.bind_rt, SRes.bind_bk, SRes.bind_ct, SRes.bind_ex, SRes.bind_bad, at_call, at_glo, at_fuel, SRes.back, List.getElem?_cons_zero, List.getElem?_cons_succ, List.set_cons_zero, List.set_cons_succ, asgT, asgTs, cmpV, truV, binV, bltV, tyN, tyLe, subV, Option.map_some, Option.map_none, List.any_cons, List.any_nil, if_true, if_false, ite_true, ite_false, String.reduceBEq, Nat.reduceAdd, Bool.or_false, Bool.false_or, Bool.or_true, Bool.true_or, Bool.and_true, Bool.true_and, Bool.and_false, Bool.false_and, Bool.not_true, Bool.not_false, beq_self_eq_true, decide_true, decide_false, reduceCtorEq, Bool.false_eq_true, Ev.keyOf, dctKeys, List.length_cons, List.length_nil, List.zip_cons_cons, List.zip_nil_left, List.zip_nil_right, List.foldl_cons, List.foldl_nil, methV, setV, isL, permL_cons, permL_nil, List.map_cons, List.map_nil, valP_cons, valP_nil, key_str, key_int, ofString_eq, String.reduceEq, putP, sizeLine_eq, Nat.reduceLT, Nat.reduceLeDiff, sto_self, mulOk, powOk, divOk, Int.reducePow, Nat.reducePow, Int.reduceNeg, Int.reduceLT, Int.reduceLE, natAbs64, natAbs30, Int.reduceToNat, Int.reduceEq, Int.reduceAdd, Int.reduceSub, Int.reduceMul, ne_eq, not_false_eq_true, Int.reduceNe, Ev.alloc, Ev.eq_ii, Ev.eq_ss, Ev.eq_bb, Ev.eq_nn, Ev.eq_ni, Ev.eq_in, Ev.eq_ns, Ev.eq_sn, Ev.eq_nb, Ev.eq_bn, Ev.eq_is, Ev.eq_si, and_self, true_and, and_true, fmod_lt64, fmod_gt64, atI_0, atI_1, atI_2, atI_3, atI_4, atI_5, atI_6, atI_7, atI_8, atI_9, itemsV, smV, fmtV, lenSetV, seqOf, lstOf, slcV, revV, srcOf, optI, List.nil_append, List.cons_append, sto_new, intsP, sortI, insI, compL, compG, wipeP, boolsP, List.all_cons, List.all_nil, id_eq, keep_nil, maxI, minI, intsP, cutf_1, cutf_2, cutf_3, cutf_4, cutt_1, cutt_2, cutt_3, cutt_4, List.drop_succ_cons, List.drop_zero, List.take_succ_cons, List.take_zero, Int.cast_ofNat_Int, false_and, and_false, or_self, or_false, false_or, true_or, or_true, lit_e, tS_len, tS_cat, tS_eq, tS_lt, List.toList_toArray, g_MOST_WORD, g_LETTERS, g_MOST_POOL, g_MOST_WEIGHT, g_BEGIN, g_FACTOR, g_MODULUS, GC.pv, e1, e2, e3, repr_true, rg]
  generalize hz : forL _ _ _ _ _ = z
  obtain ⟨env', M4, rfl, f1, ⟨x3, x4, x5, x6, x7, x8, x9, x10, x11, f2, f3⟩, d4, k4⟩ := for_of hz (fun xs env M4 => (∀ x ∈ xs, ∃ g : Int, x = .int g) ∧ (∃ x3 x4 x5 x6 x7 x8 x9 x10 x11, env = [some (.rol (ns.map .int)), some (.ref i), some (pV P), x3, x4, x5, x6, x7, x8, x9, x10, x11] ∧ (xs = rgP 0 3 ∨ ∃ l b, x4 = some (lV l) ∧ x5 = some (bV b) ∧ IsLot P l ∧ IsBusy P b)) ∧ Dk i j M4 ∧ Keep [i, j] M3 M4)
    ⟨fun x hx => by
      have : x ∈ [PV.int 0, .int 1, .int 2] := hx
      simp only [List.mem_cons, List.not_mem_nil, or_false] at this
      rcases this with rfl | rfl | rfl <;> exact ⟨_, rfl⟩, ⟨none, none, none, none, none, none, none, none, none, rfl, .inl rfl⟩, d3, Keep.refl _⟩ (fun _ _ _ _ => rfl)
    (fun x xs env M4 ⟨f1, ⟨x3, x4, x5, x6, x7, x8, x9, x10, x11, f2, f3⟩, d4, k4⟩ => by
      subst f2
      obtain ⟨g, rfl⟩ := f1 x List.mem_cons_self
      obtain ⟨l, b, e6, e7, e8, e9, e10, e11, M5, e, hl, hb, d5, k5⟩ := turn_ok n d4 hP (g := g) (some (.rol (ns.map .int))) x4 x5 x6 x7 x8 x9 x10 x11
      refine ⟨[some (.rol (ns.map .int)), some (.ref i), some (pV P), some (.int g), some (lV l), some (bV b), e6, e7, e8, e9, e10, e11], M5, .inl ?_, fun y hy => f1 y (List.mem_cons_of_mem _ hy), ⟨_, _, _, _, _, _, _, _, _, rfl, .inr ⟨l, b, rfl, rfl, hl, hb⟩⟩, d5, k4.trans k5⟩
      rw [← hN] at e
      unfold forB
      simp only [↓evE.eq_1, ↓evE.eq_2, ↓evE.eq_3, ↓evE.eq_4, ↓evE.eq_5, ↓evE.eq_6, ↓evE.eq_7, ↓evE.eq_8, ↓evE.eq_9, ↓evE.eq_10, ↓evE.eq_11, ↓evE.eq_12, ↓evE.eq_13, ↓evE.eq_14, ↓evE.eq_15, ↓evE.eq_16, ↓evE.eq_17, ↓evE.eq_18, ↓evE.eq_19, ↓evE.eq_20, ↓evE.eq_21, ↓evE.eq_22, ↓evE.eq_23, ↓evE.eq_24, ↓evE.eq_25, ↓evE.eq_26, ↓evE.eq_27, ↓evE.eq_28, ↓evE.eq_29, ↓evE.eq_30, ↓evE.eq_31, ↓evE.eq_32, ↓evE.eq_33, ↓evE.eq_34, ↓evE.eq_35, ↓evE.eq_36, ↓evE.eq_37, ↓evE.eq_38, ↓evS.eq_1, ↓evS_seq, ↓evS.eq_3, ↓evS.eq_4, ↓evS.eq_5, ↓evS.eq_6, ↓evS.eq_7, ↓evS.eq_8, ↓evS_ite, ↓iteS, ↓evS.eq_11, ↓evS.eq_12, ↓evS.eq_13, ↓evS.eq_14, ↓evS.eq_15, ↓evS.eq_16, ↓evS.eq_17, ↓evS_for, ↓evA.eq_1, ↓evA.eq_2, ↓evT.eq_1, ↓evT.eq_2, ↓evO.eq_1, ↓evO.eq_2, ↓evI.eq_1, ↓evI.eq_2, ↓evI.eq_3, ↓evI.eq_4, ↓evI.eq_5, ↓evF.eq_1, ↓evF.eq_2, ↓m_bind, ↓m_then, ↓m_opt, SRes.bind_nx, SRes.bind_rt, SRes.bind_bk, SRes.bind_ct, SRes.bind_ex, SRes.bind_bad, at_call, at_glo, at_fuel, SRes.back, List.getElem?_cons_zero, List.getElem?_cons_succ, List.set_cons_zero, List.set_cons_succ, asgT, asgTs, cmpV, truV, binV, bltV, tyN, tyLe, subV, Option.map_some, Option.map_none, List.any_cons, List.any_nil, if_true, if_false, ite_true, ite_false, String.reduceBEq, Nat.reduceAdd, Bool.or_false, Bool.false_or, Bool.or_true, Bool.true_or, Bool.and_true, Bool.true_and, Bool.and_false, Bool.false_and, Bool.not_true, Bool.not_false, beq_self_eq_true, decide_true, decide_false, reduceCtorEq, Bool.false_eq_true, Ev.keyOf, dctKeys, List.length_cons, List.length_nil, List.zip_cons_cons, List.zip_nil_left, List.zip_nil_right, List.foldl_cons, List.foldl_nil, methV, setV, isL, permL_cons, permL_nil, List.map_cons, List.map_nil, valP_cons, valP_nil, key_str, key_int, ofString_eq, String.reduceEq, putP, sizeLine_eq, Nat.reduceLT, Nat.reduceLeDiff, sto_self, mulOk, powOk, divOk, Int.reducePow, Nat.reducePow, Int.reduceNeg, Int.reduceLT, Int.reduceLE, natAbs64, natAbs30, Int.reduceToNat, Int.reduceEq, Int.reduceAdd, Int.reduceSub, Int.reduceMul, ne_eq, not_false_eq_true, Int.reduceNe, Ev.alloc, Ev.eq_ii, Ev.eq_ss, Ev.eq_bb, Ev.eq_nn, Ev.eq_ni, Ev.eq_in, Ev.eq_ns, Ev.eq_sn, Ev.eq_nb, Ev.eq_bn, Ev.eq_is, Ev.eq_si, and_self, true_and, and_true, fmod_lt64, fmod_gt64, atI_0, atI_1, atI_2, atI_3, atI_4, atI_5, atI_6, atI_7, atI_8, atI_9, itemsV, smV, fmtV, lenSetV, seqOf, lstOf, slcV, revV, srcOf, optI, List.nil_append, List.cons_append, sto_new, intsP, sortI, insI, compL, compG, wipeP, boolsP, List.all_cons, List.all_nil, id_eq, keep_nil, maxI, minI, intsP, cutf_1, cutf_2, cutf_3, cutf_4, cutt_1, cutt_2, cutt_3, cutt_4, List.drop_succ_cons, List.drop_zero, List.take_succ_cons, List.take_zero, Int.cast_ofNat_Int, false_and, and_false, or_self, or_false, false_or, true_or, or_true, lit_e, tS_len, tS_cat, tS_eq, tS_lt, List.toList_toArray, g_MOST_WORD, g_LETTERS, g_MOST_POOL, g_MOST_WEIGHT, g_BEGIN, g_FACTOR, g_MODULUS, GC.pv, hT']
      exact e)
  rcases f3 with f3 | ⟨l, b, rfl, rfl, hl, hb⟩
  · cases f3
  · subst f2
    obtain ⟨M5, e5, k5⟩ := least_l (n + 1) M4 hP hl hb
    have e6 := law_least_l (n + 6) M5 hP hl hb
    obtain ⟨t, ht⟩ := lot_repr hP (lbz_lt (b := b) hl)
    have e5 : callN T N "least_busy" [pV P, lV l, bV b] M4 = .ok (iV (lbz P b l)) M5 := by rw [hN]; exact e5
    have e6 : callN T N "_law_least_busy" [pV P, lV l, bV b] M5 = .ok (iV (lbz P b l)) M5 := by rw [hN]; exact e6
    simp only [↓evE.eq_1, ↓evE.eq_2, ↓evE.eq_3, ↓evE.eq_4, ↓evE.eq_5, ↓evE.eq_6, ↓evE.eq_7, ↓evE.eq_8, ↓evE.eq_9, ↓evE.eq_10, ↓evE.eq_11, ↓evE.eq_12, ↓evE.eq_13, ↓evE.eq_14, ↓evE.eq_15, ↓evE.eq_16, ↓evE.eq_17, ↓evE.eq_18, ↓evE.eq_19, ↓evE.eq_20, ↓evE.eq_21, ↓evE.eq_22, ↓evE.eq_23, ↓evE.eq_24, ↓evE.eq_25, ↓evE.eq_26, ↓evE.eq_27, ↓evE.eq_28, ↓evE.eq_29, ↓evE.eq_30, ↓evE.eq_31, ↓evE.eq_32, ↓evE.eq_33, ↓evE.eq_34, ↓evE.eq_35, ↓evE.eq_36, ↓evE.eq_37, ↓evE.eq_38, ↓evS.eq_1, ↓evS_seq, ↓evS.eq_3, ↓evS.eq_4, ↓evS.eq_5, ↓evS.eq_6, ↓evS.eq_7, ↓evS.eq_8, ↓evS_ite, ↓iteS, ↓evS.eq_11, ↓evS.eq_12, ↓evS.eq_13, ↓evS.eq_14, ↓evS.eq_15, ↓evS.eq_16, ↓evS.eq_17, ↓evS_for, ↓evA.eq_1, ↓evA.eq_2, ↓evT.eq_1, ↓evT.eq_2, ↓evO.eq_1, ↓evO.eq_2, ↓evI.eq_1, ↓evI.eq_2, ↓evI.eq_3, ↓evI.eq_4, ↓evI.eq_5, ↓evF.eq_1, ↓evF.eq_2, ↓m_bind, ↓m_then, ↓m_opt, SRes.bind_nx, SRes.bind_rt, SRes.bind_bk, SRes.bind_ct, SRes.bind_ex, SRes.bind_bad, at_call, at_glo, at_fuel, SRes.back, List.getElem?_cons_zero, List.getElem?_cons_succ, List.set_cons_zero, List.set_cons_succ, asgT, asgTs, cmpV, truV, binV, bltV, tyN, tyLe, subV, Option.map_some, Option.map_none, List.any_cons, List.any_nil, if_true, if_false, ite_true, ite_false, String.reduceBEq, Nat.reduceAdd, Bool.or_false, Bool.false_or, Bool.or_true, Bool.true_or, Bool.and_true, Bool.true_and, Bool.and_false, Bool.false_and, Bool.not_true, Bool.not_false, beq_self_eq_true, decide_true, decide_false, reduceCtorEq, Bool.false_eq_true, Ev.keyOf, dctKeys, List.length_cons, List.length_nil, List.zip_cons_cons, List.zip_nil_left, List.zip_nil_right, List.foldl_cons, List.foldl_nil, methV, setV, isL, permL_cons, permL_nil, List.map_cons, List.map_nil, valP_cons, valP_nil, key_str, key_int, ofString_eq, String.reduceEq, putP, sizeLine_eq, Nat.reduceLT, Nat.reduceLeDiff, sto_self, mulOk, powOk, divOk, Int.reducePow, Nat.reducePow, Int.reduceNeg, Int.reduceLT, Int.reduceLE, natAbs64, natAbs30, Int.reduceToNat, Int.reduceEq, Int.reduceAdd, Int.reduceSub, Int.reduceMul, ne_eq, not_false_eq_true, Int.reduceNe, Ev.alloc, Ev.eq_ii, Ev.eq_ss, Ev.eq_bb, Ev.eq_nn, Ev.eq_ni, Ev.eq_in, Ev.eq_ns, Ev.eq_sn, Ev.eq_nb, Ev.eq_bn, Ev.eq_is, Ev.eq_si, and_self, true_and, and_true, fmod_lt64, fmod_gt64, atI_0, atI_1, atI_2, atI_3, atI_4, atI_5, atI_6, atI_7, atI_8, atI_9, itemsV, smV, fmtV, lenSetV, seqOf, lstOf, slcV, revV, srcOf, optI, List.nil_append, List.cons_append, sto_new, intsP, sortI, insI, compL, compG, wipeP, boolsP, List.all_cons, List.all_nil, id_eq, keep_nil, maxI, minI, intsP, cutf_1, cutf_2, cutf_3, cutf_4, cutt_1, cutt_2, cutt_3, cutt_4, List.drop_succ_cons, List.drop_zero, List.take_succ_cons, List.take_zero, Int.cast_ofNat_Int, false_and, and_false, or_self, or_false, false_or, true_or, or_true, lit_e, tS_len, tS_cat, tS_eq, tS_lt, List.toList_toArray, g_MOST_WORD, g_LETTERS, g_MOST_POOL, g_MOST_WEIGHT, g_BEGIN, g_FACTOR, g_MODULUS, GC.pv, e5, e6, ht]
    exact ⟨_, rfl⟩
end K20

set_option Elab.async false
set_option linter.all false
set_option maxRecDepth 100000
set_option maxHeartbeats 0
open PySem PySem.W PySem.Calls PyProof.Rows
theorem PySem.Challenge.cw_answergate_k20_whole_least_busy_and_by_k_holds : PySem.Challenge.rw_answergate_k20_whole_least_busy_and_by_k.Holds := by
  w_on; o_law
  refine HandSHeadRun.head_any (r := OpenLaw.row PySem.Challenge.rw_answergate_k20_whole_least_busy_and_by_k) (q := view (OpenLaw.row PySem.Challenge.rw_answergate_k20_whole_least_busy_and_by_k).prog [K20.lawAt]) (H := K20.hk) (ob := K20.ob) (M := 4000) (loose := K20.names) (d := HandSHeadRun.topDef (OpenLaw.row PySem.Challenge.rw_answergate_k20_whole_least_busy_and_by_k).prog K20.lawAt) (kwd := []) K20.ob_eq
    (by kernel_rfl) (fun s => by kernel_rfl) K20.run (by kernel_rfl) (by kernel_rfl) (by kernel_rfl) (by rfl) (by first | assumption | decide +kernel) (by decide +kernel) ⟨rfl, rfl, rfl, rfl, rfl, by decide +kernel⟩ ?hw ?hc
  case hw => w_witness2
  case hc =>
    refine Ev.walk_ev (l := PySem.Challenge.rw_answergate_k20_whole_least_busy_and_by_k) (n := 63) (k := 12) (tab := K20.tab) (gl := K20.gcs.glo) (exc := fun _ => none) (fuel := 100000) (D := K20.d_law) rfl (by decide) (by kernel_rfl) ⟨rfl, by decide, by decide⟩ (by kernel_rfl) rfl ?F ?L
    case F =>
      intro w mg fa h Y G hmg0
      obtain ⟨K, KX, c⟩ := Y
      have e : (HandSHeadRun.topDef (OpenLaw.row PySem.Challenge.rw_answergate_k20_whole_least_busy_and_by_k).prog K20.lawAt).name = K20.d_law.x := by kernel_rfl
      refine ⟨K, KX, Ev.wor_of KX G c K20.ok, ?_⟩
      rw [← e]
      exact hmg0
    case L => exact fun ns hn _ => K20.law_ok 4 ns hn
