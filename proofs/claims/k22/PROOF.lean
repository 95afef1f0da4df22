import PyProof.Rows.All
import HandS.ForMost
import HandS.Conv
import HandS.ForExc
import HandS.CallSlots
import HandS.TupAny
import HandS.TupMul
import HandS.Flow
import HandS.Style
import HandS.IsInst
import HandS.RaiseMore
import HandS.SortInts
import PyProof.ReprRoads
import HandS.WordsList
import HandS.Defaults
import HandS.Ends
import HandS.EndBits
import HandS.Head0
import HandS.Head1
import HandS.Head2
import HandS.HeadEnd
import HandS.HeadHook1
import HandS.HeadHook2
import PyProof.ReprBulk
import PySem.Challenge.RW_answergate_k22_whole_marks_under_any_loo
set_option Elab.async false
set_option linter.all false
set_option maxRecDepth 100000
/-! Ev1: pure values, an own store, an own code, and what the code does. -/
namespace Ev
open PySem L2

inductive PV where
  | non | bl (b : Bool) | int (i : Int) | str (s : Str)
  | tup (xs : List PV)
  | rol (xs : List PV)      -- a list that is never written: the script, a list of the module's
  | ref (i : Nat)
  | glo (x : Str)
  | ty (n : String)
  deriving Inhabited

mutual
def PV.beq : PV → PV → Bool
  | .non, .non => true
  | .bl a, .bl b => a == b
  | .int a, .int b => a == b
  | .str a, .str b => decide (a = b)
  | .tup a, .tup b => PV.beqs a b
  | .rol a, .rol b => PV.beqs a b
  | .ref a, .ref b => a == b
  | .glo a, .glo b => decide (a = b)
  | .ty a, .ty b => a == b
  | _, _ => false
def PV.beqs : List PV → List PV → Bool
  | [], [] => true
  | x :: xs, y :: ys => PV.beq x y && PV.beqs xs ys
  | _, _ => false
end
mutual
theorem PV.beq_iff : ∀ a b : PV, PV.beq a b = true ↔ a = b
  | .non, b => by cases b <;> simp [PV.beq]
  | .bl a, b => by cases b <;> simp [PV.beq]
  | .int a, b => by cases b <;> simp [PV.beq]
  | .str a, b => by cases b <;> simp [PV.beq]
  | .tup a, b => by
    cases b with
    | tup b => simp only [PV.beq, PV.tup.injEq]; exact PV.beqs_iff a b
    | _ => simp [PV.beq]
  | .rol a, b => by
    cases b with
    | rol b => simp only [PV.beq, PV.rol.injEq]; exact PV.beqs_iff a b
    | _ => simp [PV.beq]
  | .ref a, b => by cases b <;> simp [PV.beq]
  | .glo a, b => by cases b <;> simp [PV.beq]
  | .ty a, b => by cases b <;> simp [PV.beq]
theorem PV.beqs_iff : ∀ a b : List PV, PV.beqs a b = true ↔ a = b
  | [], b => by cases b <;> simp [PV.beqs]
  | x :: xs, b => by
    cases b with
    | nil => simp [PV.beqs]
    | cons y ys => simp only [PV.beqs, Bool.and_eq_true, List.cons.injEq, PV.beq_iff x y, PV.beqs_iff xs ys]
end
instance : DecidableEq PV := fun a b => decidable_of_iff _ (PV.beq_iff a b)

/-- what stands in the own store -/
inductive MO where
  | lst (xs : List PV)
  | dct (kvs : List (Key × PV))
  deriving DecidableEq
abbrev Sto := List MO
abbrev Env := List (Option PV)

/-- an error of an own class: its class, its fields -/
structure Exc where
  cls : Str
  fs : List (Str × PV)
  deriving DecidableEq

inductive Res (α : Type) where
  | ok (a : α) (M : Sto)
  | exc (x : Exc) (M : Sto)
  | bad
def Res.bind {α β : Type} (r : Res α) (f : α → Sto → Res β) : Res β := match r with
  | .ok a M => f a M
  | .exc x M => .exc x M
  | .bad => .bad
@[simp] theorem Res.bind_ok {α β : Type} (a : α) (M : Sto) (f : α → Sto → Res β) : (Res.ok a M).bind f = f a M := rfl
@[simp] theorem Res.bind_exc {α β : Type} (x : Exc) (M : Sto) (f : α → Sto → Res β) : (Res.exc x M : Res α).bind f = .exc x M := rfl
@[simp] theorem Res.bind_bad {α β : Type} (f : α → Sto → Res β) : (Res.bad : Res α).bind f = .bad := rfl
def Res.of {α : Type} (o : Option α) (M : Sto) : Res α := match o with
  | some a => .ok a M
  | none => .bad
@[simp] theorem Res.of_some {α : Type} (a : α) (M : Sto) : Res.of (some a) M = .ok a M := rfl
@[simp] theorem Res.of_none {α : Type} (M : Sto) : Res.of (none : Option α) M = .bad := rfl

inductive SRes where
  | nx (env : Env) (M : Sto)
  | rt (v : PV) (M : Sto)
  | bk (env : Env) (M : Sto)
  | ct (env : Env) (M : Sto)
  | ex (x : Exc) (env : Env) (M : Sto)
  | bad
def SRes.bind (r : SRes) (f : Env → Sto → SRes) : SRes := match r with
  | .nx env M => f env M
  | r => r
@[simp] theorem SRes.bind_nx (e : Env) (M : Sto) (f : Env → Sto → SRes) : (SRes.nx e M).bind f = f e M := rfl
@[simp] theorem SRes.bind_rt (v : PV) (M : Sto) (f : Env → Sto → SRes) : (SRes.rt v M).bind f = .rt v M := rfl
@[simp] theorem SRes.bind_bk (e : Env) (M : Sto) (f : Env → Sto → SRes) : (SRes.bk e M).bind f = .bk e M := rfl
@[simp] theorem SRes.bind_ct (e : Env) (M : Sto) (f : Env → Sto → SRes) : (SRes.ct e M).bind f = .ct e M := rfl
@[simp] theorem SRes.bind_ex (x : Exc) (e : Env) (M : Sto) (f : Env → Sto → SRes) : (SRes.ex x e M).bind f = .ex x e M := rfl
@[simp] theorem SRes.bind_bad (f : Env → Sto → SRes) : SRes.bad.bind f = .bad := rfl
/-- an expression's value is used -/
def Res.then {α : Type} (r : Res α) (env : Env) (f : α → Sto → SRes) : SRes := match r with
  | .ok a M => f a M
  | .exc x M => .ex x env M
  | .bad => .bad
@[simp] theorem Res.then_ok {α : Type} (a : α) (M : Sto) (env : Env) (f : α → Sto → SRes) : (Res.ok a M).then env f = f a M := rfl
@[simp] theorem Res.then_exc {α : Type} (x : Exc) (M : Sto) (env : Env) (f : α → Sto → SRes) : (Res.exc x M : Res α).then env f = .ex x env M := rfl
@[simp] theorem Res.then_bad {α : Type} (env : Env) (f : α → Sto → SRes) : (Res.bad : Res α).then env f = .bad := rfl

/-! ### data -/
mutual
def datR (lk : Nat → Option PyData) : PV → Option PyData
  | .non => some .none
  | .bl b => some (.bool b)
  | .int i => some (.int i)
  | .str s => some (.str s)
  | .tup xs => (datRs lk xs).map .tuple
  | .rol xs => (datRs lk xs).map .list
  | .ref i => lk i
  | .glo _ => none
  | .ty _ => none
def datRs (lk : Nat → Option PyData) : List PV → Option (List PyData)
  | [] => some []
  | x :: xs => match datR lk x, datRs lk xs with
    | some d, some ds => some (d :: ds)
    | _, _ => none
end
def lkN (M : Sto) : Nat → Nat → Option PyData
  | 0, _ => none
  | n + 1, i => match M[i]? with
    | some (.lst xs) => (datRs (lkN M n) xs).map .list
    | _ => none
def dat (M : Sto) (x : PV) : Option PyData := datR (lkN M 8) x

/-- the value as the layer has it, where it hangs on no heap -/
def PV.atom : PV → Option V
  | .non => some .non
  | .bl b => some (.bl b)
  | .int i => some (.int i)
  | .str s => some (.str s)
  | .ty n => some (.ty n)
  | _ => none
def atoms : List PV → Option (List V)
  | [] => some []
  | x :: xs => match x.atom, atoms xs with
    | some v, some vs => some (v :: vs)
    | _, _ => none

def eqV (M : Sto) (x y : PV) : Option Bool := match x, y with
  | .int i, .int j => some (decide (i = j))
  | .str s, .str t => some (decide (s = t))
  | .bl a, .bl b => some (decide (a = b))
  | .non, .non => some true
  | .non, .int _ => some false
  | .int _, .non => some false
  | .non, .str _ => some false
  | .str _, .non => some false
  | .non, .bl _ => some false
  | .bl _, .non => some false
  | .int _, .str _ => some false
  | .str _, .int _ => some false
  | .bl _, .str _ => some false
  | .str _, .bl _ => some false
  | x, y => match dat M x, dat M y with
    | some d, some e => if SeqAt.shaped d = true ∧ SeqAt.shaped e = true then some (PyData.eqv d e) else none
    | _, _ => none

/-- a list's items -/
def lstOf (M : Sto) (i : Nat) : Option (List PV) := match M[i]? with
  | some (.lst xs) => some xs
  | _ => none
/-- the items of a list or a tuple -/
def seqOf (M : Sto) : PV → Option (List PV)
  | .tup xs => some xs
  | .rol xs => some xs
  | .ref i => lstOf M i
  | _ => none

def truV (M : Sto) : PV → Option Bool
  | .non => some false
  | .bl b => some b
  | .int i => some (i != 0)
  | .str s => if s.length ≤ sizeLine then some ((s.length : Int) != 0) else none
  | .tup xs => some (!xs.isEmpty)
  | .rol xs => some (!xs.isEmpty)
  | .ref i => match M[i]? with
    | some (.lst xs) => some (!xs.isEmpty)
    | some (.dct kvs) => some (!kvs.isEmpty)
    | none => none
  | _ => none

def alloc (o : MO) (M : Sto) : Res PV := .ok (.ref M.length) (M ++ [o])

def mulOk (i j : Int) : Bool := (decide (-(2 ^ 64) < i) && decide (i < 2 ^ 64)) || (decide (-(2 ^ 64) < j) && decide (j < 2 ^ 64))
def powOk (i j : Int) : Bool := decide (0 ≤ j) && decide (j ≤ 1000000) && decide (i.natAbs < 2 ^ 64)
def divOk (j : Int) : Bool := decide (j ≠ 0) && decide (j.natAbs < 1073741824)

def binV (op : Operator) (x y : PV) (M : Sto) : Res PV := match x, y with
  | .int i, .int j => match op with
    | .Add => .ok (.int (i + j)) M
    | .Sub => .ok (.int (i - j)) M
    | .Mult => if mulOk i j then .ok (.int (i * j)) M else .bad
    | .FloorDiv => if divOk j then .ok (.int (i.fdiv j)) M else .bad
    | .Mod => if decide (j ≠ 0) then .ok (.int (i.fmod j)) M else .bad
    | .Pow => if powOk i j then .ok (.int (i ^ j.toNat)) M else .bad
    | _ => .bad
  | .str s, .str t => match op with
    | .Add => if s.length + t.length ≤ sizeLine then .ok (.str (s ++ t)) M else .bad
    | _ => .bad
  | .tup xs, .tup ys => match op with
    | .Add => if xs.length + ys.length ≤ sizeLine then .ok (.tup (xs ++ ys)) M else .bad
    | _ => .bad
  | .tup xs, .int k => match op with
    | .Mult => if xs ≠ [] ∧ 2 ≤ k ∧ k ≤ 1000 ∧ xs.length ≤ 1000 then .ok (.tup (List.replicate k.toNat xs).flatten) M else .bad
    | _ => .bad
  | .ref a, .ref b => match op with
    | .Add => match M[a]?, M[b]? with
      | some (.lst xs), some (.lst ys) => if xs.length + ys.length ≤ sizeLine then alloc (.lst (xs ++ ys)) M else .bad
      | _, _ => .bad
    | _ => .bad
  | _, _ => .bad

def inV (M : Sto) (x y : PV) : Option Bool := match y with
  | .str t => match x with
    | .str s => some (!(Builtin.Str.occurrences t s 0 t.length 1).isEmpty)
    | _ => none
  | y => match seqOf M y with
    | some ys => match x.atom, atoms ys with
      | some v, some vs => if flatV v = true ∧ vs.all flatV = true then some (L2.inV v vs) else none
      | _, _ => none
    | none => none

def cmpV (op : CmpOp) (x y : PV) (M : Sto) : Option Bool := match op with
  | .Eq => eqV M x y
  | .NotEq => (eqV M x y).map (!·)
  | .Lt => match x, y with | .int i, .int j => some (decide (i < j)) | _, _ => none
  | .LtE => match x, y with | .int i, .int j => some (decide (i ≤ j)) | _, _ => none
  | .Gt => match x, y with | .int i, .int j => some (decide (j < i)) | _, _ => none
  | .GtE => match x, y with | .int i, .int j => some (decide (j ≤ i)) | _, _ => none
  | .Is => match x, y with | x, .non => (match x with | .glo _ => none | x => some (decide (x = .non))) | .bl a, .bl b => some (decide (a = b)) | _, _ => none
  | .IsNot => match x, y with | x, .non => (match x with | .glo _ => none | x => some (!decide (x = .non))) | .bl a, .bl b => some (!decide (a = b)) | _, _ => none
  | .In => inV M x y
  | .NotIn => (inV M x y).map (!·)

def keyOf : PV → Option Key
  | .int i => some (.inl i)
  | .str s => some (.inr s)
  | _ => none
def valP (kvs : List (Key × PV)) (k : Key) : Option PV := (kvs.find? fun kv => decide (kv.1 = k)).map (·.2)
def putP (kvs : List (Key × PV)) (k : Key) (v : PV) : List (Key × PV) :=
  if (kvs.any fun kv => decide (kv.1 = k)) = true then kvs.map (fun kv => if kv.1 = k then (kv.1, v) else kv) else kvs ++ [(k, v)]

/-- x[i] -/
def subV (x i : PV) (M : Sto) : Option PV := match x, i with
  | .tup xs, .int k => atI xs k
  | .rol xs, .int k => atI xs k
  | .str s, .int k => if s.length ≤ sizeLine then (atI s.cps.toList k).map fun c => .str ⟨#[c]⟩ else none
  | .ref a, i => match M[a]? with
    | some (.lst xs) => match i with | .int k => atI xs k | _ => none
    | some (.dct kvs) => match keyOf i with | some k => valP kvs k | none => none
    | none => none
  | _, _ => none

def cutP (xs : List PV) (lo hi : Option Int) : List PV := (xs.drop (HT.sIx xs.length 0 lo)).take (HT.sIx xs.length xs.length hi - HT.sIx xs.length 0 lo)
/-- x[lo:hi] -/
def slcV (x : PV) (lo hi : Option Int) (M : Sto) : Res PV := match x with
  | .tup xs => .ok (.tup (cutP xs lo hi)) M
  | .rol xs => alloc (.lst (cutP xs lo hi)) M
  | .str s => if s.length ≤ sizeLine then .ok (.str (cutS s lo hi)) M else .bad
  | .ref a => match lstOf M a with
    | some xs => alloc (.lst (cutP xs lo hi)) M
    | none => .bad
  | _ => .bad
/-- x[::-1] of a list -/
def revV (x : PV) (M : Sto) : Res PV := match x with
  | .rol xs => alloc (.lst xs.reverse) M
  | .ref a => match lstOf M a with
    | some xs => alloc (.lst xs.reverse) M
    | none => .bad
  | _ => .bad

/-- o[i] = v -/
def setV (o i v : PV) (M : Sto) : Option Sto := match o with
  | .ref a => match M[a]? with
    | some (.lst xs) => match i with
      | .int k => (ixN xs.length k).map fun j => M.set a (.lst (xs.set j v))
      | _ => none
    | some (.dct kvs) => match keyOf i with
      | some k => if kvs.length < sizeLine then some (M.set a (.dct (putP kvs k v))) else none
      | none => none
    | _ => none
  | _ => none

/-- the name of a value's built-in class -/
def tyN (M : Sto) : PV → Option String
  | .non => some "NoneType"
  | .bl _ => some "bool"
  | .int _ => some "int"
  | .str _ => some "str"
  | .tup _ => some "tuple"
  | .rol _ => some "list"
  | .ref i => match M[i]? with
    | some (.lst _) => some "list"
    | some (.dct _) => some "dict"
    | none => none
  | _ => none
/-- is a built-in class below another? -/
def tyLe (t c : String) : Bool := t == c || (t == "bool" && c == "int")

/-- built-in functions and classes that are called -/
inductive BI where
  | len | int | tuple | list | repr | str | sorted | max | min | all | any | sum | abs
  deriving DecidableEq

def intsP : List PV → Option (List Int)
  | [] => some []
  | .int i :: xs => (intsP xs).map (i :: ·)
  | _ => none
def boolsP : List PV → Option (List Bool)
  | [] => some []
  | .bl b :: xs => (boolsP xs).map (b :: ·)
  | _ => none
def insI (x : Int) : List Int → List Int
  | [] => [x]
  | y :: ys => if x ≤ y then x :: y :: ys else y :: insI x ys
def sortI : List Int → List Int
  | [] => []
  | x :: xs => insI x (sortI xs)
def maxI : List Int → Option Int
  | [] => none
  | [x] => some x
  | x :: xs => (maxI xs).map fun m => if m > x then m else x
def minI : List Int → Option Int
  | [] => none
  | [x] => some x
  | x :: xs => (minI xs).map fun m => if m < x then m else x

def reprV (M : Sto) (x : PV) : Option Str := match dat M x with
  | some d => if d.showable = true ∧ d.shown.length ≤ sizeLine ∧ d.depth ≤ 64 ∧ d.hasDict = false then some d.shown else none
  | none => none

def bltV (f : BI) (xs : List PV) (M : Sto) : Res PV := match f, xs with
  | .len, [.str s] => if s.length ≤ sizeLine then .ok (.int s.length) M else .bad
  | .len, [.ref a] => match M[a]? with
    | some (.lst ys) => .ok (.int ys.length) M
    | _ => .bad
  | .len, [.tup ys] => .ok (.int ys.length) M
  | .len, [.rol ys] => .ok (.int ys.length) M
  | .int, [.int i] => .ok (.int i) M
  | .int, [.bl b] => .ok (.int (if b then 1 else 0)) M
  | .tuple, [.tup ys] => .ok (.tup ys) M
  | .tuple, [.rol ys] => .ok (.tup ys) M
  | .tuple, [.ref a] => match lstOf M a with
    | some ys => .ok (.tup ys) M
    | none => .bad
  | .list, [x] => match seqOf M x with
    | some ys => alloc (.lst ys) M
    | none => .bad
  | .repr, [x] => match reprV M x with
    | some s => .ok (.str s) M
    | none => .bad
  | .str, [.str s] => .ok (.str s) M
  | .str, [.int i] => if i.natAbs.log2 < 1920 then .ok (.str (toString i)) M else .bad
  | .sorted, [.ref a] => match lstOf M a with
    | some ys => match intsP ys with
      | some ns => alloc (.lst ((sortI ns).map .int)) M
      | none => .bad
    | none => .bad
  | .max, [.int i, .int j] => .ok (.int (if j > i then j else i)) M
  | .min, [.int i, .int j] => .ok (.int (if j < i then j else i)) M
  | .max, [.ref a] => match lstOf M a with
    | some ys => match intsP ys with
      | some ns => match maxI ns with
        | some m => .ok (.int m) M
        | none => .bad
      | none => .bad
    | none => .bad
  | .min, [.ref a] => match lstOf M a with
    | some ys => match intsP ys with
      | some ns => match minI ns with
        | some m => .ok (.int m) M
        | none => .bad
      | none => .bad
    | none => .bad
  | .all, [.ref a] => match lstOf M a with
    | some ys => match boolsP ys with
      | some bs => .ok (.bl (bs.all id)) M
      | none => .bad
    | none => .bad
  | .any, [.ref a] => match lstOf M a with
    | some ys => match boolsP ys with
      | some bs => .ok (.bl (bs.any id)) M
      | none => .bad
    | none => .bad
  | .sum, [.ref a] => match lstOf M a with
    | some ys => match intsP ys with
      | some ns => .ok (.int ns.sum) M
      | none => .bad
    | none => .bad
  | .abs, [.int i] => .ok (.int (if i < 0 then -i else i)) M
  | _, _ => .bad

/-- methods of built-in classes -/
inductive MI where
  | append | pop | popAt | extend
  deriving DecidableEq
def methV (m : MI) (o : PV) (xs : List PV) (M : Sto) : Res PV := match o with
  | .ref a => match M[a]? with
    | some (.lst ys) => match m, xs with
      | .append, [y] => if ys.length < sizeLine then .ok .non (M.set a (.lst (ys ++ [y]))) else .bad
      | .pop, [] => match ys[ys.length - 1]? with
        | some y => .ok y (M.set a (.lst ys.dropLast))
        | none => .bad
      | .popAt, [.int i] => if -(2 ^ 63) ≤ i ∧ i < 2 ^ 63 then (match seqIndex? i ys.length with
          | some k => match ys[k]? with
            | some y => .ok y (M.set a (.lst (ys.eraseIdx k)))
            | none => .bad
          | none => .bad) else .bad
      | .extend, [.ref b] => match M[b]? with
        | some (.lst zs) => if ys.length + zs.length ≤ sizeLine then .ok .non (M.set a (.lst (ys ++ zs))) else .bad
        | _ => .bad
      | _, _ => .bad
    | _ => .bad
  | _ => .bad

/-- is it a list of the store? a dict? -/
def isL (M : Sto) : PV → Bool
  | .ref a => match M[a]? with
    | some (.lst _) => true
    | _ => false
  | _ => false
def isD (M : Sto) : PV → Bool
  | .ref a => match M[a]? with
    | some (.dct _) => true
    | _ => false
  | _ => false
/-! ### the code -/
/-- what is assigned to -/
inductive CT where
  | nm (i : Nat)
  | tp (ts : CT)      -- a tuple of targets, by nil and cons
  | nil
  | cons (a r : CT)
  deriving DecidableEq, Inhabited

inductive CE where
  | var (i : Nat)
  | non | bl (b : Bool) | int (i : Int) | str (s : Str)
  | glo (x : Str)
  | bin (op : Operator) (a b : CE)
  | neg (a : CE)
  | not (a : CE)
  | cmp (op : CmpOp) (a b : CE)
  | chain (op op' : CmpOp) (a b c : CE)
  | and (a b : CE) | or (a b : CE)
  | ife (t a b : CE)
  | tup (as : CE) | lst (as : CE)
  | dct (ks vs : CE)
  | nil | cons (a r : CE)
  | sub (a i : CE)
  | no
  | slc (a lo hi : CE)
  | rev (a : CE)
  | isi (a : CE) (ts : List String) (many : Bool)
  | call (f : Str) (as : CE)
  | callk (f : Str) (n : Nat) (as : CE) (ks : List Str) (kws : CE) (perm : List Nat)
  | blt (f : BI) (as : CE)
  | meth (m : MI) (o as : CE)
  | comp (t : CT) (it : CE) (ifs : CE) (elt : CE) (own : List Nat)
  | iv (e : CE)
  | irg1 (a : CE)
  | irg2 (a b : CE)
  deriving DecidableEq, Inhabited

inductive CS where
  | nil
  | seq (a r : CS)
  | asg (t : CT) (e : CE)
  | par (is : List Nat) (as : CE)
  | never
  | asgS (o i e : CE)
  | aug (i : Nat) (op : Operator) (e : CE)
  | expr (e : CE)
  | ite (c : CE) (a b : CS)
  | for_ (t : CT) (it : CE) (b : CS)
  | while_ (c : CE) (b : CS)
  | ret (e : CE)
  | retN
  | pass | brk | cnt
  | raise (c : Str) (as : CE)
  deriving DecidableEq, Inhabited

/-! ### what it does -/
structure Glob where
  call : Str → List PV → Sto → Res PV
  glo : Str → Option PV
  exc : Str → Option (List Str)
  fuel : Nat

mutual
def asgT : CT → PV → Env → Option Env
  | .nm i, v, env => some (env.set i (some v))
  | .tp ts, v, env => match v with
    | .tup vs => asgTs ts vs env
    | _ => none
  | .nil, _, _ => none
  | .cons _ _, _, _ => none
def asgTs : CT → List PV → Env → Option Env
  | .nil, [], env => some env
  | .cons a r, v :: vs, env => match asgT a v env with
    | some env' => asgTs r vs env'
    | none => none
  | _, _, _ => none
end

def wipeP (env : Env) : List Nat → Env
  | [] => env
  | v :: vs => (wipeP env vs).set v none

/-- the turns of a comprehension: g makes the item's value, or none where it is left out; nothing is raised in it -/
def compL (g : PV → Sto → Res (Option PV)) (keep : Sto → Bool) : List PV → Sto → List PV → Res (List PV)
  | [], M, acc => if keep M = true then .ok acc M else .bad
  | x :: xs, M, acc => if keep M = true then (match g x M with
    | .ok (some y) M1 => if acc.length < sizeLine then compL g keep xs M1 (acc ++ [y]) else .bad
    | .ok none M1 => compL g keep xs M1 acc
    | _ => .bad) else .bad

/-- what an iteration walks: its items; the lists that must stand still -/
structure Src where
  items : List PV
  src : List (Nat × MO)
def keepB (src : List (Nat × MO)) (M : Sto) : Bool := src.all fun p => decide (M[p.1]? = some p.2)
def srcOf (M : Sto) (x : PV) : List (Nat × MO) := match x with
  | .ref i => match M[i]? with
    | some o => [(i, o)]
    | none => []
  | _ => []
/-- one turn's value -/
def compG (t : CT) (env : Env) (test : Env → Sto → Res Bool) (elt : Env → Sto → Res PV) (x : PV) (M : Sto) : Res (Option PV) := match asgT t x env with
  | some env1 => (test env1 M).bind fun b M1 => match b with
    | true => (elt env1 M1).bind fun y M2 => .ok (some y) M2
    | false => .ok none M1
  | none => .bad

def rgOk (a b : Int) : Bool := decide (-(2 ^ 62) ≤ a) && decide (a < 2 ^ 62) && decide (-(2 ^ 62) ≤ b) && decide (b < 2 ^ 62)
def rgP (a b : Int) : List PV := (List.range (b - a).toNat).map fun i => .int (a + (i : Nat))

/-- the arguments in the parameters' order -/
def permL {α : Type} (perm : List Nat) (l : List α) : List α := perm.filterMap (l[·]?)
def optI (r : Res PV) : Res (Option Int) := r.bind fun v M => match v with
  | .int i => .ok (some i) M
  | _ => .bad

/-- written keys -/
def dctKeys : CE → Option (List Key)
  | .nil => some []
  | .cons (.str s) r => (dctKeys r).map (.inr s :: ·)
  | .cons (.int i) r => (dctKeys r).map (.inl i :: ·)
  | _ => none
mutual
def evE (G : Glob) : CE → Env → Sto → Res PV
  | .var i, env, M => match env[i]? with
    | some (some v) => .ok v M
    | _ => .bad
  | .non, _, M => .ok .non M
  | .bl b, _, M => .ok (.bl b) M
  | .int i, _, M => .ok (.int i) M
  | .str s, _, M => .ok (.str s) M
  | .glo x, _, M => Res.of (G.glo x) M
  | .bin op a b, env, M => (evE G a env M).bind fun x M1 => (evE G b env M1).bind fun y M2 => binV op x y M2
  | .neg a, env, M => (evE G a env M).bind fun x M1 => match x with
    | .int i => .ok (.int (-i)) M1
    | _ => .bad
  | .not a, env, M => (evE G a env M).bind fun x M1 => Res.of ((truV M1 x).map fun b => .bl (!b)) M1
  | .cmp op a b, env, M => (evE G a env M).bind fun x M1 => (evE G b env M1).bind fun y M2 => Res.of ((cmpV op x y M2).map .bl) M2
  | .chain op op' a b c, env, M => (evE G a env M).bind fun x M1 => (evE G b env M1).bind fun y M2 => match cmpV op x y M2 with
    | some true => (evE G c env M2).bind fun z M3 => Res.of ((cmpV op' y z M3).map .bl) M3
    | some false => .ok (.bl false) M2
    | none => .bad
  | .and a b, env, M => (evE G a env M).bind fun x M1 => match truV M1 x with
    | some true => evE G b env M1
    | some false => .ok x M1
    | none => .bad
  | .or a b, env, M => (evE G a env M).bind fun x M1 => match truV M1 x with
    | some true => .ok x M1
    | some false => evE G b env M1
    | none => .bad
  | .ife t a b, env, M => (evE G t env M).bind fun x M1 => match truV M1 x with
    | some true => evE G a env M1
    | some false => evE G b env M1
    | none => .bad
  | .tup as, env, M => (evA G as env M).bind fun xs M1 => if xs.length ≤ sizeLine then .ok (.tup xs) M1 else .bad
  | .lst as, env, M => (evA G as env M).bind fun xs M1 => if xs.length ≤ sizeLine then alloc (.lst xs) M1 else .bad
  | .dct ks vs, env, M => (evA G vs env M).bind fun xs M1 => match dctKeys ks with
    | some js => if js.length = xs.length then alloc (.dct ((js.zip xs).foldl (fun acc kv => putP acc kv.1 kv.2) [])) M1 else .bad
    | none => .bad
  | .nil, _, _ => .bad
  | .cons _ _, _, _ => .bad
  | .sub a i, env, M => (evE G a env M).bind fun x M1 => (evE G i env M1).bind fun y M2 => Res.of (subV x y M2) M2
  | .no, _, _ => .bad
  | .slc a lo hi, env, M => (evE G a env M).bind fun x M1 => (evO G lo env M1).bind fun l M2 => (evO G hi env M2).bind fun h M3 => slcV x l h M3
  | .rev a, env, M => (evE G a env M).bind fun x M1 => revV x M1
  | .isi a ts _, env, M => (evE G a env M).bind fun x M1 => match tyN M1 x with
    | some t => .ok (.bl (ts.any fun c => tyLe t c)) M1
    | none => .bad
  | .call f as, env, M => (evA G as env M).bind fun xs M1 => G.call f xs M1
  | .callk f n as ks kws perm, env, M => (evA G as env M).bind fun xs M1 => (evA G kws env M1).bind fun ys M2 =>
    if xs.length = n ∧ ys.length = ks.length then G.call f (permL perm (xs ++ ys)) M2 else .bad
  | .blt f as, env, M => (evA G as env M).bind fun xs M1 => bltV f xs M1
  | .meth m o as, env, M => (evE G o env M).bind fun x M1 => if isL M1 x = true then (evA G as env M1).bind fun xs M2 => methV m x xs M2 else .bad
  | .comp t it ifs elt own, env, M => (evI G it env M).bind fun s M1 =>
    (compL (compG t (wipeP env own) (evT G ifs) (evE G elt)) (keepB s.src) s.items M1 []).bind fun ys M2 => alloc (.lst ys) M2
  | .iv _, _, _ => .bad
  | .irg1 _, _, _ => .bad
  | .irg2 _ _, _, _ => .bad
/-- arguments, from the left -/
def evA (G : Glob) : CE → Env → Sto → Res (List PV)
  | .nil, _, M => .ok [] M
  | .cons a r, env, M => (evE G a env M).bind fun x M1 => (evA G r env M1).bind fun xs M2 => .ok (x :: xs) M2
  | _, _, _ => .bad
/-- tests, all of them -/
def evT (G : Glob) : CE → Env → Sto → Res Bool
  | .nil, _, M => .ok true M
  | .cons a r, env, M => (evE G a env M).bind fun x M1 => match truV M1 x with
    | some true => evT G r env M1
    | some false => .ok false M1
    | none => .bad
  | _, _, _ => .bad
/-- a slice's part -/
def evO (G : Glob) : CE → Env → Sto → Res (Option Int)
  | .no, _, M => .ok none M
  | .cons a .nil, env, M => optI (evE G a env M)
  | _, _, _ => .bad
/-- what is walked -/
def evI (G : Glob) : CE → Env → Sto → Res Src
  | .iv e, env, M => (evE G e env M).bind fun x M1 => match seqOf M1 x with
    | some xs => .ok ⟨xs, srcOf M1 x⟩ M1
    | none => .bad
  | .irg1 a, env, M => (evE G a env M).bind fun x M1 => match x with
    | .int n => if rgOk 0 n = true then .ok ⟨rgP 0 n, []⟩ M1 else .bad
    | _ => .bad
  | .irg2 a b, env, M => (evE G a env M).bind fun x M1 => (evE G b env M1).bind fun y M2 => match x, y with
    | .int i, .int j => if rgOk i j = true then .ok ⟨rgP i j, []⟩ M2 else .bad
    | _, _ => .bad
  | _, _, _ => .bad
end

/-- the turns of a for -/
def forL (body : PV → Env → Sto → SRes) (keep : Sto → Bool) : List PV → Env → Sto → SRes
  | [], env, M => if keep M = true then .nx env M else .bad
  | x :: xs, env, M => if keep M = true then (match body x env M with
    | .nx env1 M1 => forL body keep xs env1 M1
    | .ct env1 M1 => forL body keep xs env1 M1
    | .bk env1 M1 => .nx env1 M1
    | .rt v M1 => .rt v M1
    | .ex x env1 M1 => .ex x env1 M1
    | .bad => .bad) else .bad
/-- the turns of a while, at most so many -/
def whL (c : Env → Sto → Res PV) (b : Env → Sto → SRes) : Nat → Env → Sto → SRes
  | 0, _, _ => .bad
  | n + 1, env, M => (c env M).then env fun x M1 => match truV M1 x with
    | some true => match b env M1 with
      | .nx env1 M2 => whL c b n env1 M2
      | .ct env1 M2 => whL c b n env1 M2
      | .bk env1 M2 => .nx env1 M2
      | .rt v M2 => .rt v M2
      | .ex x env1 M2 => .ex x env1 M2
      | .bad => .bad
    | some false => .nx env M1
    | none => .bad

def evS (G : Glob) : CS → Env → Sto → SRes
  | .nil, env, M => .nx env M
  | .seq a r, env, M => (evS G a env M).bind fun env1 M1 => evS G r env1 M1
  | .asg t e, env, M => (evE G e env M).then env fun x M1 => match asgT t x env with
    | some env1 => .nx env1 M1
    | none => .bad
  | .par is as, env, M => (evA G as env M).then env fun xs M1 => if is.length = xs.length then .nx ((is.zip xs).foldl (fun env p => env.set p.1 (some p.2)) env) M1 else .bad
  | .never, _, _ => .bad
  | .asgS o i e, env, M => (evE G e env M).then env fun x M1 => (evE G o env M1).then env fun y M2 => (evE G i env M2).then env fun z M3 => match setV y z x M3 with
    | some M4 => .nx env M4
    | none => .bad
  | .aug i op e, env, M => match env[i]? with
    | some (some x) => (evE G e env M).then env fun y M1 => match x, y, op with
      | .int a, .int b, .Add => .nx (env.set i (some (.int (a + b)))) M1
      | .int a, .int b, .Sub => .nx (env.set i (some (.int (a - b)))) M1
      | .str a, .str b, .Add => if a.length + b.length ≤ sizeLine then .nx (env.set i (some (.str (a ++ b)))) M1 else .bad
      | _, _, _ => .bad
    | _ => .bad
  | .expr e, env, M => (evE G e env M).then env fun _ M1 => .nx env M1
  | .ite c a b, env, M => (evE G c env M).then env fun x M1 => match truV M1 x with
    | some true => evS G a env M1
    | some false => evS G b env M1
    | none => .bad
  | .for_ t it b, env, M => (evI G it env M).then env fun s M1 => forL (fun x env M => match asgT t x env with
      | some env1 => evS G b env1 M
      | none => .bad) (keepB s.src) s.items env M1
  | .while_ c b, env, M => whL (evE G c) (evS G b) G.fuel env M
  | .ret e, env, M => (evE G e env M).then env fun x M1 => .rt x M1
  | .retN, _, M => .rt .non M
  | .pass, env, M => .nx env M
  | .brk, env, M => .bk env M
  | .cnt, env, M => .ct env M
  | .raise c as, env, M => (evA G as env M).then env fun xs M1 => match G.exc c with
    | some fs => if fs.length = xs.length then .ex ⟨c, fs.zip xs⟩ env M1 else .bad
    | none => .bad

/-- a def: its parameters, its slots, its body -/
structure FD where
  ps : List Str
  N : List Str
  body : CS
def SRes.back : SRes → Res PV
  | .nx _ M => .ok .non M
  | .rt v M => .ok v M
  | .ex x _ M => .exc x M
  | _ => .bad
def runF (G : Glob) (d : FD) (xs : List PV) (M : Sto) : Res PV :=
  if xs.length = d.ps.length then (evS G d.body (xs.map some ++ List.replicate (d.N.length - xs.length) none) M).back else .bad
/-- the text: its defs, its values, its own classes of errors -/
structure Txt where
  fn : Str → Option FD
  glo : Str → Option PV
  exc : Str → Option (List Str)
  fuel : Nat
def callN (T : Txt) : Nat → Str → List PV → Sto → Res PV
  | 0, _, _, _ => .bad
  | n + 1, f, xs, M => match T.fn f with
    | some d => runF ⟨callN T n, T.glo, T.exc, T.fuel⟩ d xs M
    | none => .bad
abbrev Txt.at (T : Txt) (n : Nat) : Glob := ⟨callN T n, T.glo, T.exc, T.fuel⟩
theorem callN_def {T : Txt} {n : Nat} {f : Str} {d : FD} (h : T.fn f = some d) (xs : List PV) (M : Sto) : callN T (n + 1) f xs M = runF (T.at n) d xs M := by
  show (match T.fn f with | some d => _ | none => _) = _
  rw [h]
end Ev

set_option Elab.async false
set_option linter.all false
set_option maxRecDepth 100000
set_option maxHeartbeats 4000000
/-! Ev2: how the pure values stand in the layer's heap. -/
namespace Ev
open PySem L2

section
variable (K : PySem.W.Frag) (mg : Str → Option Value) (ρ : List Addr) (H : Hp)
/-- a list that nobody writes -/
def Fzl (a : Addr) (vs : List V) : Prop := (∃ o, H a = some (.frz o (.lst vs))) ∨
  ∃ (o : Obj) (its : Array Value) (n : Nat), K.lookup a = some o ∧ o.cls = .type "list" ∧ o.dict = none ∧ o.data = .seq its n ∧ its.size ≤ sizeLine ∧ Vals vs its.toList
mutual
inductive RV : PV → V → Prop
  | non : RV .non .non
  | bl (b : Bool) : RV (.bl b) (.bl b)
  | int (i : Int) : RV (.int i) (.int i)
  | str (s : Str) : RV (.str s) (.str s)
  | ty (n : String) : RV (.ty n) (.ty n)
  | tup {a : Addr} {xs : List PV} {vs : List V} : SqT K H a vs → RVs xs vs → RV (.tup xs) (.ref a)
  | rol {a : Addr} {xs : List PV} {vs : List V} : Fzl K H a vs → RVs xs vs → RV (.rol xs) (.ref a)
  | ref {i : Nat} {a : Addr} : ρ[i]? = some a → RV (.ref i) (.ref a)
  | glo {x : Str} {u : Value} {v : V} : mg x = some u → RelV v u → RV (.glo x) v
inductive RVs : List PV → List V → Prop
  | nil : RVs [] []
  | cons {x : PV} {v : V} {xs : List PV} {vs : List V} : RV x v → RVs xs vs → RVs (x :: xs) (v :: vs)
end
def RKs (kvs : List (Key × PV)) (ws : List (Key × V)) : Prop := Paired (fun (p : Key × PV) (q : Key × V) => p.1 = q.1 ∧ RV K mg ρ H p.2 q.2) kvs ws
/-- an object of the own store, as it is tracked -/
def RO : MO → HO → Prop
  | .lst xs, .lst vs => RVs K mg ρ H xs vs
  | .dct kvs, .dK ws => RKs K mg ρ H kvs ws
  | _, _ => False
structure SM (M : Sto) : Prop where
  len : M.length = ρ.length
  nd : ρ.Nodup
  at' : ∀ (i : Nat) (a : Addr) (o : MO), ρ[i]? = some a → M[i]? = some o → ∃ ho, H a = some ho ∧ RO K mg ρ H o ho
def RVo : Option PV → Option V → Prop
  | none, _ => True
  | some x, some v => RV K mg ρ H x v
  | some _, none => False
def RE (env : Env) (σ : St) : Prop := Paired (RVo K mg ρ H) env σ
end
/-- what stands behind a step -/
structure Ext (ρ : List Addr) (H : Hp) (ρ' : List Addr) (H' : Hp) : Prop where
  pre : ∃ more, ρ' = ρ ++ more
  keep : ∀ b o, H b = some o → b ∉ ρ → H' b = some o
  new : ∀ b, b ∈ ρ' → b ∉ ρ → H b = none
theorem Ext.refl (ρ : List Addr) (H : Hp) : Ext ρ H ρ H := ⟨⟨[], by simp⟩, fun _ _ h _ => h, fun _ h n => absurd h n⟩
theorem Ext.trans {ρ ρ1 ρ2 : List Addr} {H H1 H2 : Hp} (a : Ext ρ H ρ1 H1) (b : Ext ρ1 H1 ρ2 H2) : Ext ρ H ρ2 H2 := by
  obtain ⟨m1, e1⟩ := a.pre
  obtain ⟨m2, e2⟩ := b.pre
  refine ⟨⟨m1 ++ m2, by rw [e2, e1, List.append_assoc]⟩, fun c o h n => ?_, fun c h n => ?_⟩
  · refine b.keep c o (a.keep c o h n) fun z => ?_
    have q := a.new c z n
    rw [q] at h
    cases h
  · by_cases z : c ∈ ρ1
    · exact a.new c z n
    · have q := b.new c h z
      cases e : H c with
      | none => rfl
      | some o =>
        rw [a.keep c o e n] at q
        cases q

section
variable {K : PySem.W.Frag} {mg : Str → Option Value} {ρ ρ' : List Addr} {H H' : Hp} {M : Sto}
theorem SM.mut (S : SM K mg ρ H M) {a : Addr} (h : a ∈ ρ) : ∃ ho, H a = some ho ∧ ((∃ vs, ho = .lst vs) ∨ ∃ ws, ho = .dK ws) := by
  obtain ⟨i, hi, e⟩ := List.getElem_of_mem h
  have hM : i < M.length := by rw [S.len]; exact hi
  obtain ⟨ho, e1, e2⟩ := S.at' i a M[i] (by rw [List.getElem?_eq_getElem hi, e]) (List.getElem?_eq_getElem hM)
  refine ⟨ho, e1, ?_⟩
  generalize M[i] = o at e2
  cases o <;> cases ho <;> first | exact e2.elim | exact .inl ⟨_, rfl⟩ | exact .inr ⟨_, rfl⟩
theorem SM.tup_out (S : SM K mg ρ H M) {a : Addr} {vs : List V} (h : Rd H a (.tup vs)) : a ∉ ρ := fun z => by
  obtain ⟨ho, e, q⟩ := S.mut z
  rcases h with h | ⟨o, h⟩ <;> (rw [h] at e; cases e; rcases q with ⟨_, q⟩ | ⟨_, q⟩ <;> cases q)
theorem SM.frz_out (S : SM K mg ρ H M) {a : Addr} {o : Obj} {u : HO} (h : H a = some (.frz o u)) : a ∉ ρ := fun z => by
  obtain ⟨ho, e, q⟩ := S.mut z
  rw [h] at e; cases e; rcases q with ⟨_, q⟩ | ⟨_, q⟩ <;> cases q
/-- tuples and locked things stay, the store's addresses grow -/
structure Kp (ρ : List Addr) (H : Hp) (ρ' : List Addr) (H' : Hp) : Prop where
  pre : ∃ more, ρ' = ρ ++ more
  tup : ∀ a vs, H a = some (.tup vs) → H' a = some (.tup vs)
  frz : ∀ a o u, H a = some (.frz o u) → H' a = some (.frz o u)
theorem Kp.of (S : SM K mg ρ H M) (E : Ext ρ H ρ' H') : Kp ρ H ρ' H' :=
  ⟨E.pre, fun a vs h => E.keep _ _ h (S.tup_out (.inl h)), fun a o u h => E.keep _ _ h (S.frz_out h)⟩
/-- another object is written at an address that the store doesn't hold -/
theorem Kp.side {p : Addr} {ho u : HO} (hu : H p = some u) (h1 : ∀ vs, u ≠ .tup vs) (h2 : ∀ o v, u ≠ .frz o v) : Kp ρ H ρ (upd H p ho) := by
  refine ⟨⟨[], by simp⟩, fun a vs h => ?_, fun a o v h => ?_⟩
  · have n : a ≠ p := fun z => by rw [z, hu] at h; cases h; exact h1 vs rfl
    rw [upd_ne n]; exact h
  · have n : a ≠ p := fun z => by rw [z, hu] at h; cases h; exact h2 o v rfl
    rw [upd_ne n]; exact h
theorem Kp.grow {p : Addr} (k : Kp ρ H ρ' H') : Kp ρ H (ρ' ++ [p]) H' := ⟨by obtain ⟨m, e⟩ := k.pre; exact ⟨m ++ [p], by rw [e, List.append_assoc]⟩, k.tup, k.frz⟩
theorem SqT.kp (k : Kp ρ H ρ' H') {a : Addr} {vs : List V} (h : SqT K H a vs) : SqT K H' a vs := by
  rcases h with h | h
  · rcases h with h | ⟨o, h⟩
    · exact .inl (.inl (k.tup _ _ h))
    · exact .inl (.inr ⟨o, k.frz _ _ _ h⟩)
  · exact .inr h
theorem Fzl.kp (k : Kp ρ H ρ' H') {a : Addr} {vs : List V} (h : Fzl K H a vs) : Fzl K H' a vs := by
  rcases h with ⟨o, h⟩ | h
  · exact .inl ⟨o, k.frz _ _ _ h⟩
  · exact .inr h
mutual
theorem RV.kp (k : Kp ρ H ρ' H') : ∀ {x : PV} {v : V}, RV K mg ρ H x v → RV K mg ρ' H' x v
  | _, _, .non => .non
  | _, _, .bl b => .bl b
  | _, _, .int i => .int i
  | _, _, .str s => .str s
  | _, _, .ty n => .ty n
  | _, _, .tup h r => .tup (SqT.kp k h) (RVs.kp k r)
  | _, _, .rol h r => .rol (Fzl.kp k h) (RVs.kp k r)
  | _, _, .ref (i := i) (a := a) h => .ref (by
    obtain ⟨m, e⟩ := k.pre
    have hi : i < ρ.length := (List.getElem?_eq_some_iff.mp h).1
    rw [e, List.getElem?_append_left hi]
    exact h)
  | _, _, .glo h r => .glo h r
theorem RVs.kp (k : Kp ρ H ρ' H') : ∀ {xs : List PV} {vs : List V}, RVs K mg ρ H xs vs → RVs K mg ρ' H' xs vs
  | _, _, .nil => .nil
  | _, _, .cons a b => .cons (RV.kp k a) (RVs.kp k b)
end
theorem RKs.kp (k : Kp ρ H ρ' H') {kvs : List (Key × PV)} {ws : List (Key × V)} (h : RKs K mg ρ H kvs ws) : RKs K mg ρ' H' kvs ws :=
  Paired.mapP h fun _ _ z => ⟨z.1, RV.kp k z.2⟩
theorem RO.kp (k : Kp ρ H ρ' H') {o : MO} {ho : HO} (h : RO K mg ρ H o ho) : RO K mg ρ' H' o ho := by
  cases o <;> cases ho <;> first | exact False.elim h | exact RVs.kp k h | exact RKs.kp k h
theorem RVo.kp (k : Kp ρ H ρ' H') : ∀ {x : Option PV} {v : Option V}, RVo K mg ρ H x v → RVo K mg ρ' H' x v
  | none, _, _ => trivial
  | some _, some _, h => RV.kp k h
  | some _, none, h => h
theorem RE.kp (k : Kp ρ H ρ' H') {env : Env} {σ : St} (h : RE K mg ρ H env σ) : RE K mg ρ' H' env σ := Paired.mapP h fun _ _ z => RVo.kp k z
theorem RV.mono (S : SM K mg ρ H M) (E : Ext ρ H ρ' H') {x : PV} {v : V} (h : RV K mg ρ H x v) : RV K mg ρ' H' x v := h.kp (.of S E)
theorem RVs.mono (S : SM K mg ρ H M) (E : Ext ρ H ρ' H') {xs : List PV} {vs : List V} (h : RVs K mg ρ H xs vs) : RVs K mg ρ' H' xs vs := h.kp (.of S E)
theorem RKs.mono (S : SM K mg ρ H M) (E : Ext ρ H ρ' H') {kvs : List (Key × PV)} {ws : List (Key × V)} (h : RKs K mg ρ H kvs ws) : RKs K mg ρ' H' kvs ws := h.kp (.of S E)
theorem RO.mono (S : SM K mg ρ H M) (E : Ext ρ H ρ' H') {o : MO} {ho : HO} (h : RO K mg ρ H o ho) : RO K mg ρ' H' o ho := h.kp (.of S E)
theorem RE.mono (S : SM K mg ρ H M) (E : Ext ρ H ρ' H') {env : Env} {σ : St} (h : RE K mg ρ H env σ) : RE K mg ρ' H' env σ := h.kp (.of S E)

/-! ### lists of values -/
theorem RVs.length : ∀ {xs : List PV} {vs : List V}, RVs K mg ρ H xs vs → xs.length = vs.length
  | _, _, .nil => rfl
  | _, _, .cons _ b => by rw [List.length_cons, List.length_cons, RVs.length b]
theorem RVs.get : ∀ {xs : List PV} {vs : List V} {i : Nat} {x : PV}, RVs K mg ρ H xs vs → xs[i]? = some x → ∃ v, vs[i]? = some v ∧ RV K mg ρ H x v
  | _, _, _, _, .nil, e => by simp at e
  | _, _, 0, _, .cons a _, e => by simp at e; subst e; exact ⟨_, rfl, a⟩
  | _, _, i + 1, x, .cons _ b, e => by
    obtain ⟨v, h1, h2⟩ := RVs.get (i := i) (x := x) b (by simpa using e)
    exact ⟨v, by simpa using h1, h2⟩
theorem RVs.append : ∀ {xs ys : List PV} {vs ws : List V}, RVs K mg ρ H xs vs → RVs K mg ρ H ys ws → RVs K mg ρ H (xs ++ ys) (vs ++ ws)
  | _, _, _, _, .nil, s => s
  | _, _, _, _, .cons a b, s => .cons a (RVs.append b s)
theorem RVs.take : ∀ {xs : List PV} {vs : List V} (n : Nat), RVs K mg ρ H xs vs → RVs K mg ρ H (xs.take n) (vs.take n)
  | _, _, 0, _ => .nil
  | _, _, _ + 1, .nil => .nil
  | _, _, n + 1, .cons a b => .cons a (RVs.take n b)
theorem RVs.drop : ∀ {xs : List PV} {vs : List V} (n : Nat), RVs K mg ρ H xs vs → RVs K mg ρ H (xs.drop n) (vs.drop n)
  | _, _, 0, r => r
  | _, _, _ + 1, .nil => .nil
  | _, _, n + 1, .cons _ b => RVs.drop n b
theorem RVs.set {x : PV} {v : V} (r : RV K mg ρ H x v) : ∀ {xs : List PV} {vs : List V} (i : Nat), RVs K mg ρ H xs vs → RVs K mg ρ H (xs.set i x) (vs.set i v)
  | _, _, _, .nil => .nil
  | _, _, 0, .cons _ b => .cons r b
  | _, _, i + 1, .cons a b => .cons a (RVs.set r i b)
theorem RVs.reverse {xs : List PV} {vs : List V} (h : RVs K mg ρ H xs vs) : RVs K mg ρ H xs.reverse vs.reverse := by
  have go : ∀ {xs : List PV} {vs : List V}, RVs K mg ρ H xs vs → RVs K mg ρ H xs.reverse vs.reverse := by
    intro xs vs h
    induction h using RVs.rec (motive_1 := fun _ _ _ => True) with
    | nil => exact .nil
    | cons a b _ ih => rw [List.reverse_cons, List.reverse_cons]; exact RVs.append ih (.cons a .nil)
    | _ => trivial
  exact go h
theorem RVs.dropLast {xs : List PV} {vs : List V} (h : RVs K mg ρ H xs vs) : RVs K mg ρ H xs.dropLast vs.dropLast := by
  rw [List.dropLast_eq_take, List.dropLast_eq_take, h.length]
  exact h.take _
theorem RVs.eraseIdx : ∀ {xs : List PV} {vs : List V} (i : Nat), RVs K mg ρ H xs vs → RVs K mg ρ H (xs.eraseIdx i) (vs.eraseIdx i)
  | _, _, _, .nil => .nil
  | _, _, 0, .cons _ b => b
  | _, _, i + 1, .cons a b => .cons a (RVs.eraseIdx i b)
theorem RVs.cut {xs : List PV} {vs : List V} (lo hi : Option Int) (h : RVs K mg ρ H xs vs) : RVs K mg ρ H (cutP xs lo hi) (cutV vs lo hi) := by
  unfold cutP cutV
  rw [h.length]
  exact (h.drop _).take _
theorem RVs.rep {xs : List PV} {vs : List V} (h : RVs K mg ρ H xs vs) : ∀ k : Nat, RVs K mg ρ H (List.replicate k xs).flatten (List.replicate k vs).flatten
  | 0 => .nil
  | k + 1 => by rw [List.replicate_succ, List.replicate_succ, List.flatten_cons, List.flatten_cons]; exact h.append (RVs.rep h k)
theorem RVs.atI {xs : List PV} {vs : List V} {i : Int} {x : PV} (h : RVs K mg ρ H xs vs) (e : L2.atI xs i = some x) : ∃ v, L2.atI vs i = some v ∧ RV K mg ρ H x v := by
  unfold L2.atI at e ⊢
  rw [← h.length]
  cases q : ixN xs.length i with
  | none => rw [q] at e; cases e
  | some j =>
    rw [q] at e
    exact h.get e
theorem RVs.nil_iff {xs : List PV} {vs : List V} (h : RVs K mg ρ H xs vs) : xs.isEmpty = vs.isEmpty := by
  cases h <;> rfl

/-! ### the store -/
theorem SM.get (S : SM K mg ρ H M) {i : Nat} {a : Addr} {xs : List PV} (h : ρ[i]? = some a) (e : M[i]? = some (.lst xs)) : ∃ vs, H a = some (.lst vs) ∧ RVs K mg ρ H xs vs := by
  obtain ⟨ho, e1, e2⟩ := S.at' i a _ h e
  cases ho <;> first | exact e2.elim | exact ⟨_, e1, e2⟩
theorem SM.getD (S : SM K mg ρ H M) {i : Nat} {a : Addr} {kvs : List (Key × PV)} (h : ρ[i]? = some a) (e : M[i]? = some (.dct kvs)) : ∃ ws, H a = some (.dK ws) ∧ RKs K mg ρ H kvs ws := by
  obtain ⟨ho, e1, e2⟩ := S.at' i a _ h e
  cases ho <;> first | exact e2.elim | exact ⟨_, e1, e2⟩
/-- a new tuple, or any other thing that the store does not hold -/
theorem Ext.upd {p : Addr} {o : HO} (h : H p = none) : Ext ρ H ρ (upd H p o) :=
  ⟨⟨[], by simp⟩, fun b u e _ => by rw [upd_ne (ne_of_none e h)]; exact e, fun _ a b => absurd a b⟩
theorem SM.ext (S : SM K mg ρ H M) (E : Ext ρ H ρ H') (k : ∀ b ∈ ρ, H' b = H b) : SM K mg ρ H' M :=
  ⟨S.len, S.nd, fun i a o h e => by
    obtain ⟨ho, e1, e2⟩ := S.at' i a o h e
    exact ⟨ho, by rw [k a (List.mem_of_getElem? h)]; exact e1, RO.mono S E e2⟩⟩
theorem SM.upd (S : SM K mg ρ H M) {p : Addr} {o : HO} (h : H p = none) : SM K mg ρ (upd H p o) M :=
  S.ext (Ext.upd h) fun b hb => by
    obtain ⟨ho, e, _⟩ := S.mut hb
    exact upd_ne (ne_of_none e h)
/-- a new object of the store -/
theorem Ext.alloc {p : Addr} {o : HO} (h : H p = none) : Ext ρ H (ρ ++ [p]) (L2.upd H p o) :=
  ⟨⟨[p], rfl⟩, fun b u e _ => by rw [upd_ne (ne_of_none e h)]; exact e, fun b a n => by
    rcases List.mem_append.mp a with a | a
    · exact absurd a n
    · rw [List.mem_singleton.mp a]; exact h⟩
theorem SM.alloc (S : SM K mg ρ H M) {p : Addr} {o : MO} {ho : HO} (h : H p = none) (r : RO K mg ρ H o ho) : SM K mg (ρ ++ [p]) (L2.upd H p ho) (M ++ [o]) := by
  have E : Ext ρ H (ρ ++ [p]) (L2.upd H p ho) := Ext.alloc h
  have hp : p ∉ ρ := fun z => by
    obtain ⟨u, e, _⟩ := S.mut z
    rw [h] at e; cases e
  refine ⟨by rw [List.length_append, List.length_append, S.len]; rfl, ?_, fun i a o' h1 h2 => ?_⟩
  · rw [List.nodup_append]
    refine ⟨S.nd, by simp, fun a ha b hb e => ?_⟩
    rw [List.mem_singleton.mp hb] at e
    exact hp (e ▸ ha)
  · by_cases hi : i < ρ.length
    · rw [List.getElem?_append_left hi] at h1
      rw [List.getElem?_append_left (by rw [S.len]; exact hi)] at h2
      obtain ⟨u, e1, e2⟩ := S.at' i a o' h1 h2
      exact ⟨u, by rw [upd_ne (ne_of_none e1 h)]; exact e1, RO.mono S E e2⟩
    · have hl : i = ρ.length := by
        have := (List.getElem?_eq_some_iff.mp h1).1
        rw [List.length_append, List.length_singleton] at this
        omega
      subst hl
      rw [List.getElem?_append_right (Nat.le_refl _), Nat.sub_self] at h1
      rw [List.getElem?_append_right (by rw [S.len]; exact Nat.le_refl _), S.len, Nat.sub_self] at h2
      cases h1; cases h2
      exact ⟨ho, upd_same, RO.mono S E r⟩
theorem RV.new (S : SM K mg ρ H M) {p : Addr} {H' : Hp} : RV K mg (ρ ++ [p]) H' (.ref M.length) (.ref p) := .ref (by
  rw [S.len, List.getElem?_append_right (Nat.le_refl _), Nat.sub_self]; rfl)
/-- an object is written -/
theorem Ext.set {a : Addr} {o : HO} (h : a ∈ ρ) : Ext ρ H ρ (L2.upd H a o) :=
  ⟨⟨[], by simp⟩, fun b u e n => by
    have nb : b ≠ a := fun z => n (by rw [z]; exact h)
    rw [upd_ne nb]; exact e, fun _ a b => absurd a b⟩
theorem SM.set (S : SM K mg ρ H M) {i : Nat} {a : Addr} {o : MO} {ho : HO} (h : ρ[i]? = some a) (r : RO K mg ρ H o ho) : SM K mg ρ (L2.upd H a ho) (M.set i o) := by
  have E : Ext ρ H ρ (L2.upd H a ho) := Ext.set (List.mem_of_getElem? h)
  refine ⟨by rw [List.length_set]; exact S.len, S.nd, fun j b o' h1 h2 => ?_⟩
  by_cases e : j = i
  · subst e
    rw [h] at h1; cases h1
    have hj : j < M.length := by rw [S.len]; exact (List.getElem?_eq_some_iff.mp h).1
    rw [List.getElem?_set_self hj] at h2
    cases h2
    exact ⟨ho, upd_same, RO.mono S E r⟩
  · rw [List.getElem?_set_ne (Ne.symm e)] at h2
    obtain ⟨u, e1, e2⟩ := S.at' j b o' h1 h2
    have nb : b ≠ a := fun z => by
      subst z
      obtain ⟨h1', e1'⟩ := List.getElem?_eq_some_iff.mp h1
      obtain ⟨h2', e2'⟩ := List.getElem?_eq_some_iff.mp h
      exact e ((List.getElem_inj S.nd).mp (e1'.trans e2'.symm))
    exact ⟨u, by rw [upd_ne nb]; exact e1, RO.mono S E e2⟩
/-! ### the slots -/
theorem RE.length {env : Env} {σ : St} (h : RE K mg ρ H env σ) : env.length = σ.length := Paired.length h
theorem RE.get : ∀ {env : Env} {σ : St} {i : Nat} {x : PV}, RE K mg ρ H env σ → env[i]? = some (some x) → ∃ v, σ[i]? = some (some v) ∧ RV K mg ρ H x v
  | _, _, _, _, .nil, e => by simp at e
  | _, v :: _, 0, x, .cons a _, e => by
    simp at e; subst e
    cases v with
    | none => exact a.elim
    | some v => exact ⟨v, rfl, a⟩
  | _, _, i + 1, x, .cons _ b, e => by
    obtain ⟨v, h1, h2⟩ := RE.get (i := i) (x := x) b (by simpa using e)
    exact ⟨v, by simpa using h1, h2⟩
theorem RE.set {x : PV} {v : V} (r : RV K mg ρ H x v) : ∀ {env : Env} {σ : St} (i : Nat), RE K mg ρ H env σ → RE K mg ρ H (env.set i (some x)) (σ.set i (some v))
  | _, _, _, .nil => .nil
  | _, _, 0, .cons _ b => .cons r b
  | _, _, i + 1, .cons a b => .cons a (RE.set r i b)
theorem RE.unset : ∀ {env : Env} {σ : St} (i : Nat), RE K mg ρ H env σ → RE K mg ρ H (env.set i none) (σ.set i none)
  | _, _, _, .nil => .nil
  | _, _, 0, .cons _ b => .cons trivial b
  | _, _, i + 1, .cons a b => .cons a (RE.unset i b)
theorem RE.wipe {env : Env} {σ : St} (h : RE K mg ρ H env σ) : ∀ own : List Nat, RE K mg ρ H (wipeP env own) (L2.wipe σ own)
  | [] => h
  | i :: r => RE.unset i (RE.wipe h r)
/-- an object beside the store is written -/
theorem SM.side (S : SM K mg ρ H M) {p : Addr} {ho u : HO} (hp : p ∉ ρ) (hu : H p = some u) (h1 : ∀ vs, u ≠ .tup vs) (h2 : ∀ o v, u ≠ .frz o v) : SM K mg ρ (L2.upd H p ho) M :=
  ⟨S.len, S.nd, fun i a o h e => by
    obtain ⟨x, e1, e2⟩ := S.at' i a o h e
    have n : a ≠ p := fun z => hp (z ▸ List.mem_of_getElem? h)
    exact ⟨x, by rw [upd_ne n]; exact e1, RO.kp (Kp.side hu h1 h2) e2⟩⟩
/-- .. and becomes the store's -/
theorem SM.adopt (S : SM K mg ρ H M) {p : Addr} {o : MO} {ho : HO} (hp : p ∉ ρ) (hu : H p = some ho) (r : RO K mg ρ H o ho) : SM K mg (ρ ++ [p]) H (M ++ [o]) := by
  have k : Kp ρ H (ρ ++ [p]) H := ⟨⟨[p], rfl⟩, fun _ _ h => h, fun _ _ _ h => h⟩
  refine ⟨by rw [List.length_append, List.length_append, S.len]; rfl, ?_, fun i a o' h1 h2 => ?_⟩
  · rw [List.nodup_append]
    refine ⟨S.nd, by simp, fun a ha b hb e => ?_⟩
    rw [List.mem_singleton.mp hb] at e
    exact hp (e ▸ ha)
  · by_cases hi : i < ρ.length
    · rw [List.getElem?_append_left hi] at h1
      rw [List.getElem?_append_left (by rw [S.len]; exact hi)] at h2
      obtain ⟨u, e1, e2⟩ := S.at' i a o' h1 h2
      exact ⟨u, e1, e2.kp k⟩
    · have hl : i = ρ.length := by
        have := (List.getElem?_eq_some_iff.mp h1).1
        rw [List.length_append, List.length_singleton] at this
        omega
      subst hl
      rw [List.getElem?_append_right (Nat.le_refl _), Nat.sub_self] at h1
      rw [List.getElem?_append_right (by rw [S.len]; exact Nat.le_refl _), S.len, Nat.sub_self] at h2
      cases h1; cases h2
      exact ⟨ho, hu, r.kp k⟩
/-- beside a fresh address -/
theorem Ext.beside {ρ1 : List Addr} {H1 : Hp} {p : Addr} {u : HO} (hp : H p = none) (E : Ext ρ (L2.upd H p u) ρ1 H1) : Ext ρ H ρ1 H1 ∧ (p ∉ ρ → p ∉ ρ1 ∧ H1 p = some u) := by
  have out : p ∉ ρ → p ∉ ρ1 := fun n z => by
    have q := E.new p z n
    rw [upd_same] at q; cases q
  refine ⟨⟨E.pre, fun b o e n => E.keep b o (by rw [upd_ne (ne_of_none e hp)]; exact e) n, fun b h n => ?_⟩, fun n => ⟨out n, E.keep p u upd_same n⟩⟩
  have q := E.new b h n
  by_cases z : b = p
  · rw [z]; exact hp
  · rw [upd_ne z] at q; exact q
theorem Ext.also {ρ1 : List Addr} {H1 : Hp} {p : Addr} {u : HO} (hp : H p = none) (E : Ext ρ H ρ1 H1) : Ext ρ H ρ1 (L2.upd H1 p u) :=
  ⟨E.pre, fun b o e n => by rw [upd_ne (ne_of_none e hp)]; exact E.keep b o e n, E.new⟩
theorem Ext.join {ρ1 : List Addr} {H1 : Hp} {p : Addr} (hp : H p = none) (E : Ext ρ H ρ1 H1) : Ext ρ H (ρ1 ++ [p]) H1 :=
  ⟨by obtain ⟨m, e⟩ := E.pre; exact ⟨m ++ [p], by rw [e, List.append_assoc]⟩, E.keep, fun b h n => by
    rcases List.mem_append.mp h with h | h
    · exact E.new b h n
    · rw [List.mem_singleton.mp h]; exact hp⟩
theorem SM.out (S : SM K mg ρ H M) {p : Addr} (hp : H p = none) : p ∉ ρ := fun z => by
  obtain ⟨u, e, _⟩ := S.mut z
  rw [hp] at e; cases e
end
end Ev

set_option Elab.async false
set_option linter.all false
set_option maxRecDepth 100000
set_option maxHeartbeats 4000000
/-! Ev3: what the operations do to values, by the layer's rules. -/
namespace Ev
open PySem L2

/-- how an error lies in the heap -/
def EV (K : PySem.W.Frag) (mg : Str → Option Value) (ρ : List Addr) (H : Hp) (e : Exc) (cls : Value) (d : Option Addr) : Prop :=
  mg e.cls = some cls ∧ ∃ dd ws, d = some dd ∧ H dd = some (.xd ws) ∧ Paired (fun (p : Str × PV) (q : Str × V) => p.1 = q.1 ∧ RV K mg ρ H p.2 q.2) e.fs ws

/-- what is wanted behind a step, by its outcome -/
def Post {α β : Type} (K : PySem.W.Frag) (mg : Str → Option Value) (R : List Addr → Hp → α → β → Prop) (W : XK) (ρ : List Addr) (H : Hp) (r : Res α) (Q : β → Hp → Prop) : Prop := match r with
  | .ok x M => ∀ ρ' v H', Ext ρ H ρ' H' → SM K mg ρ' H' M → R ρ' H' x v → Q v H'
  | .exc e M => ∀ ρ' H' cls d, Ext ρ H ρ' H' → SM K mg ρ' H' M → EV K mg ρ' H' e cls d → W cls d H'
  | .bad => False
section
variable {K : PySem.W.Frag} {mg : Str → Option Value} {ρ ρ1 : List Addr} {H H1 : Hp} {α β γ δ : Type} {R : List Addr → Hp → α → β → Prop} {R1 : List Addr → Hp → γ → δ → Prop} {W : XK} {M : Sto} {Q : β → Hp → Prop}
theorem Post.chain {r : Res γ} {f : γ → Sto → Res α} {Q1 : δ → Hp → Prop} (h : Post K mg R W ρ H (r.bind f) Q)
    (k : ∀ x M1 ρ1 v H1, Ext ρ H ρ1 H1 → SM K mg ρ1 H1 M1 → R1 ρ1 H1 x v → Post K mg R W ρ1 H1 (f x M1) Q → Q1 v H1) : Post K mg R1 W ρ H r Q1 := by
  cases r with
  | ok x M =>
    intro ρ' v H' E S r1
    refine k x M ρ' v H' E S r1 ?_
    have h' : Post K mg R W ρ H (f x M) Q := h
    revert h'
    cases f x M with
    | ok y N => exact fun h ρ2 w H2 E2 => h ρ2 w H2 (E.trans E2)
    | exc e N => exact fun h ρ2 H2 c d E2 => h ρ2 H2 c d (E.trans E2)
    | bad => exact fun h => h
  | exc e M => exact h
  | bad => exact h
theorem Post.here {x : α} {v : β} (S : SM K mg ρ H M) (r : R ρ H x v) (h : Post K mg R W ρ H (.ok x M) Q) : Q v H := h ρ v H (Ext.refl _ _) S r
theorem Post.ext {x : α} {v : β} {M1 : Sto} (h : Post K mg R W ρ H (.ok x M1) Q) (E : Ext ρ H ρ1 H1) (S : SM K mg ρ1 H1 M1) (r : R ρ1 H1 x v) : Q v H1 := h ρ1 v H1 E S r
end

section
variable {K : PySem.W.Frag} {mg : Str → Option Value} {ρ : List Addr} {H : Hp} {W : XK} {M : Sto} {Q : VK}
abbrev PostV (K : PySem.W.Frag) (mg : Str → Option Value) (W : XK) (ρ : List Addr) (H : Hp) (r : Res PV) (Q : VK) : Prop := Post K mg (RV K mg) W ρ H r Q

/-! ### reading values -/
theorem RV.int_inv {i : Int} {v : V} (h : RV K mg ρ H (.int i) v) : v = .int i := by cases h; rfl
theorem RV.str_inv {s : Str} {v : V} (h : RV K mg ρ H (.str s) v) : v = .str s := by cases h; rfl
theorem RV.bl_inv {b : Bool} {v : V} (h : RV K mg ρ H (.bl b) v) : v = .bl b := by cases h; rfl
theorem RV.non_inv {v : V} (h : RV K mg ρ H .non v) : v = .non := by cases h; rfl
theorem RV.tup_inv {xs : List PV} {v : V} (h : RV K mg ρ H (.tup xs) v) : ∃ a vs, v = .ref a ∧ SqT K H a vs ∧ RVs K mg ρ H xs vs := by cases h with | tup a b => exact ⟨_, _, rfl, a, b⟩
theorem RV.rol_inv {xs : List PV} {v : V} (h : RV K mg ρ H (.rol xs) v) : ∃ a vs, v = .ref a ∧ Fzl K H a vs ∧ RVs K mg ρ H xs vs := by cases h with | rol a b => exact ⟨_, _, rfl, a, b⟩
theorem RV.ref_inv {i : Nat} {v : V} (h : RV K mg ρ H (.ref i) v) : ∃ a, v = .ref a ∧ ρ[i]? = some a := by cases h with | ref a => exact ⟨_, rfl, a⟩
theorem Fzl.sq {a : Addr} {vs : List V} (h : Fzl K H a vs) : SqL K H a vs := by
  rcases h with ⟨o, h⟩ | h
  · exact .inl (.inr ⟨o, h⟩)
  · exact .inr h
theorem RV.atom {x : PV} {v w : V} (h : RV K mg ρ H x v) (e : x.atom = some w) : v = w := by
  cases h <;> first | (cases e; rfl) | cases e
theorem RVs.atoms : ∀ {xs : List PV} {vs ws : List V}, RVs K mg ρ H xs vs → Ev.atoms xs = some ws → vs = ws
  | _, _, _, .nil, e => by cases e; rfl
  | x :: xs, _, _, .cons a b, e => by
    have e' : (match x.atom, Ev.atoms xs with | some v, some vs => some (v :: vs) | _, _ => none) = some _ := e
    cases h1 : x.atom with
    | none => rw [h1] at e'; cases e'
    | some v =>
      cases h2 : Ev.atoms xs with
      | none => rw [h1, h2] at e'; cases e'
      | some vs =>
        rw [h1, h2] at e'
        cases e'
        rw [RV.atom a h1, RVs.atoms b h2]
/-- a list or a tuple, as it is read -/
theorem seq_read (S : SM K mg ρ H M) {x : PV} {v : V} {xs : List PV} (h : RV K mg ρ H x v) (e : seqOf M x = some xs) : ∃ a vs, v = .ref a ∧ (SqL K H a vs ∨ SqT K H a vs) ∧ RVs K mg ρ H xs vs := by
  cases h with
  | tup a b => cases e; exact ⟨_, _, rfl, .inr a, b⟩
  | rol a b => cases e; exact ⟨_, _, rfl, .inl a.sq, b⟩
  | ref h =>
    rename_i i a
    have e' : lstOf M i = some xs := e
    unfold lstOf at e'
    cases q : M[i]? with
    | none => rw [q] at e'; cases e'
    | some o =>
      rw [q] at e'
      cases o with
      | dct _ => cases e'
      | lst ys =>
        cases e'
        obtain ⟨vs, h1, h2⟩ := S.get h q
        exact ⟨_, _, rfl, .inl (.inl (.inl h1)), h2⟩
  | _ => cases e
theorem lst_read (S : SM K mg ρ H M) {i : Nat} {v : V} {xs : List PV} (h : RV K mg ρ H (.ref i) v) (e : lstOf M i = some xs) : ∃ a vs, v = .ref a ∧ ρ[i]? = some a ∧ H a = some (.lst vs) ∧ RVs K mg ρ H xs vs := by
  obtain ⟨a, rfl, hi⟩ := h.ref_inv
  unfold lstOf at e
  cases q : M[i]? with
  | none => rw [q] at e; cases e
  | some o =>
    rw [q] at e
    cases o with
    | dct _ => cases e
    | lst ys =>
      cases e
      obtain ⟨vs, h1, h2⟩ := S.get hi q
      exact ⟨_, _, rfl, hi, h1, h2⟩
theorem Post.alloc {o : MO} {ho : HO} (S : SM K mg ρ H M) (r : RO K mg ρ H o ho) (h : PostV K mg W ρ H (Ev.alloc o M) Q) : ∀ p, H p = none → Q (.ref p) (upd H p ho) := fun p hp =>
  h (ρ ++ [p]) (.ref p) _ (Ext.alloc hp) (S.alloc hp r) (RV.new S)
theorem Post.tup {xs : List PV} {vs : List V} (S : SM K mg ρ H M) (r : RVs K mg ρ H xs vs) (h : PostV K mg W ρ H (.ok (.tup xs) M) Q) : ∀ p, H p = none → Q (.ref p) (upd H p (.tup vs)) := fun p hp =>
  h ρ (.ref p) _ (Ext.upd hp) (S.upd hp) (.tup (.inl (.inl upd_same)) (RVs.mono S (Ext.upd hp) r))

/-! ### data -/
mutual
theorem dp_of (S : SM K mg ρ H M) {lk : Nat → Option PyData} (hl : ∀ i a d, ρ[i]? = some a → lk i = some d → Dp K H (.ref a) d) : ∀ (x : PV) (v : V) (d : PyData), RV K mg ρ H x v → datR lk x = some d → Dp K H v d
  | .non, _, _, .non, e => by cases e; exact .non
  | .bl b, _, _, .bl _, e => by cases e; exact .bl b
  | .int i, _, _, .int _, e => by cases e; exact .int i
  | .str s, _, _, .str _, e => by cases e; exact .str s
  | .tup xs, _, d, .tup (vs := vs) h r, e => by
    have e' : (datRs lk xs).map PyData.tuple = some d := e
    cases q : datRs lk xs with
    | none => rw [q] at e'; cases e'
    | some ds => rw [q] at e'; cases e'; exact .tup h (dps_of S hl xs vs ds r q)
  | .rol xs, _, d, .rol (vs := vs) h r, e => by
    have e' : (datRs lk xs).map PyData.list = some d := e
    cases q : datRs lk xs with
    | none => rw [q] at e'; cases e'
    | some ds => rw [q] at e'; cases e'; exact .lst h.sq (dps_of S hl xs vs ds r q)
  | .ref i, _, d, .ref h, e => hl i _ d h e
theorem dps_of (S : SM K mg ρ H M) {lk : Nat → Option PyData} (hl : ∀ i a d, ρ[i]? = some a → lk i = some d → Dp K H (.ref a) d) : ∀ (xs : List PV) (vs : List V) (ds : List PyData), RVs K mg ρ H xs vs → datRs lk xs = some ds → DpAll K H vs ds
  | [], _, _, .nil, e => by cases e; exact .nil
  | x :: xs, _, ds, .cons (v := v) (vs := vs) a b, e => by
    have e' : (match datR lk x, datRs lk xs with | some d, some ds => some (d :: ds) | _, _ => none) = some ds := e
    cases h1 : datR lk x with
    | none => rw [h1] at e'; cases e'
    | some d =>
      cases h2 : datRs lk xs with
      | none => rw [h1, h2] at e'; cases e'
      | some ds' => rw [h1, h2] at e'; cases e'; exact .cons (dp_of S hl x v d a h1) (dps_of S hl xs vs ds' b h2)
end
theorem lk_of (S : SM K mg ρ H M) : ∀ (n i : Nat) (a : Addr) (d : PyData), ρ[i]? = some a → lkN M n i = some d → Dp K H (.ref a) d
  | 0, _, _, _, _, e => by cases e
  | n + 1, i, a, d, h, e => by
    have e' : (match M[i]? with | some (.lst xs) => (datRs (lkN M n) xs).map PyData.list | _ => none) = some d := e
    cases q : M[i]? with
    | none => rw [q] at e'; cases e'
    | some o =>
      rw [q] at e'
      cases o with
      | dct _ => cases e'
      | lst xs =>
        have e2 : (datRs (lkN M n) xs).map PyData.list = some d := e'
        cases h2 : datRs (lkN M n) xs with
        | none => rw [h2] at e2; cases e2
        | some ds =>
          rw [h2] at e2; cases e2
          obtain ⟨vs, h3, h4⟩ := S.get h q
          exact .lst (.inl (.inl h3)) (dps_of S (lk_of S n) xs vs ds h4 h2)
theorem dat_of (S : SM K mg ρ H M) {x : PV} {v : V} {d : PyData} (r : RV K mg ρ H x v) (e : dat M x = some d) : Dp K H v d := dp_of S (lk_of S 8) x v d r e
end

/-! ### operators -/
section
variable {X : Cx}
def rNo : R2 := fun _ _ _ _ => False
theorem op_no {f : Value → Value → Sem Value} : OpR X f rNo := fun _ _ _ _ _ _ _ _ _ _ _ _ h => h.elim
abbrev rStrAdd : R2 := fun x y H Q => ∃ i j, x = .str i ∧ y = .str j ∧ i.length + j.length ≤ sizeLine ∧ Q (.str (i ++ j)) H
def rBin (K : PySem.W.Frag) : Operator → R2
  | .Add => fun x y H Q => rI0 (fun i j => .int (i + j)) x y H Q ∨ (rStrAdd x y H Q ∨ (rCatA K x y H Q ∨ rCat x y H Q))
  | .Sub => rI0 fun i j => .int (i - j)
  | .Mult => fun x y H Q => rI CMul (fun i j => .int (i * j)) x y H Q ∨ rRepT K x y H Q
  | .FloorDiv => rI CDivN fun i j => .int (i.fdiv j)
  | .Mod => rI (fun _ j => j ≠ 0) fun i j => .int (i.fmod j)
  | .Pow => rI CPow fun i j => .int (i ^ j.toNat)
  | _ => rNo
theorem op_bin (op : Operator) : OpR X (binaryOp op) (rBin X.K op) := by
  cases op <;> first
    | exact op_add.or (op_add_str.or (op_catA.or op_cat))
    | exact op_sub
    | exact op_mul.or op_repT
    | exact op_fdivN
    | exact op_modN
    | exact op_pow
    | exact op_no
end
section
variable {K : PySem.W.Frag} {mg : Str → Option Value} {ρ : List Addr} {H : Hp} {W : XK} {M : Sto} {Q : VK}
theorem mulOk_iff {i j : Int} (h : mulOk i j = true) : CMul i j := by
  unfold mulOk at h
  simp only [Bool.or_eq_true, Bool.and_eq_true, decide_eq_true_eq] at h
  exact h
theorem divOk_iff {i j : Int} (h : divOk j = true) : CDivN i j := by
  unfold divOk at h
  simp only [Bool.and_eq_true, decide_eq_true_eq] at h
  exact h
theorem powOk_iff {i j : Int} (h : powOk i j = true) : CPow i j := by
  unfold powOk at h
  simp only [Bool.and_eq_true, decide_eq_true_eq] at h
  exact ⟨h.1.1, h.1.2, h.2⟩
theorem binV_ok (op : Operator) {x y : PV} {v w : V} (S : SM K mg ρ H M) (rx : RV K mg ρ H x v) (ry : RV K mg ρ H y w) (h : PostV K mg W ρ H (binV op x y M) Q) : rBin K op v w H Q := by
  unfold binV at h
  split at h
  · -- two ints
    cases rx.int_inv; cases ry.int_inv
    cases op <;> simp only at h <;> first
      | exact h.elim
      | exact .inl ⟨_, _, rfl, rfl, h.here S (.int _)⟩
      | exact ⟨_, _, rfl, rfl, h.here S (.int _)⟩
      | (split at h
         · rename_i c
           first
             | exact .inl ⟨_, _, rfl, rfl, mulOk_iff c, h.here S (.int _)⟩
             | exact ⟨_, _, rfl, rfl, divOk_iff c, h.here S (.int _)⟩
             | exact ⟨_, _, rfl, rfl, of_decide_eq_true c, h.here S (.int _)⟩
             | exact ⟨_, _, rfl, rfl, powOk_iff c, h.here S (.int _)⟩
         · exact h.elim)
  · cases rx.str_inv; cases ry.str_inv
    cases op <;> simp only at h <;> first
      | exact h.elim
      | (split at h
         · rename_i c
           exact .inr (.inl ⟨_, _, rfl, rfl, c, h.here S (.str _)⟩)
         · exact h.elim)
  · obtain ⟨a, vs, rfl, ha, ra⟩ := rx.tup_inv
    obtain ⟨b, ws, rfl, hb, rb⟩ := ry.tup_inv
    cases op <;> simp only at h <;> first
      | exact h.elim
      | (split at h
         · rename_i xs ys c
           refine .inr (.inr (.inl ⟨a, b, vs, ws, rfl, rfl, ha, hb, by rw [← ra.length, ← rb.length]; exact c, fun e => ?_, fun _ e => ?_, fun _ _ => ?_⟩))
           · refine h.here S (.tup hb ?_)
             have e1 : xs = [] := by
               have := ra.length
               rw [e] at this
               exact List.eq_nil_of_length_eq_zero this
             rw [e1]; exact rb
           · refine h.here S (.tup ha ?_)
             have e1 : ys = [] := by
               have := rb.length
               rw [e] at this
               exact List.eq_nil_of_length_eq_zero this
             rw [e1, List.append_nil]; exact ra
           · exact Post.tup S (ra.append rb) h
         · exact h.elim)
  · obtain ⟨a, vs, rfl, ha, ra⟩ := rx.tup_inv
    cases ry.int_inv
    cases op <;> simp only at h <;> first
      | exact h.elim
      | (split at h
         · rename_i xs k c
           obtain ⟨c1, c2, c3, c4⟩ := c
           refine .inr ⟨a, _, vs, rfl, rfl, ha, fun e => c1 ?_, c2, c3, by rw [← ra.length]; exact c4, Post.tup S (ra.rep _) h⟩
           have := ra.length
           rw [e] at this
           exact List.eq_nil_of_length_eq_zero this
         · exact h.elim)
  · cases op <;> simp only at h <;> first
      | exact h.elim
      | (split at h
         · rename_i i j xs ys e1 e2
           split at h
           · rename_i c
             obtain ⟨a, rfl, hi⟩ := rx.ref_inv
             obtain ⟨b, rfl, hj⟩ := ry.ref_inv
             obtain ⟨vs, h1, h2⟩ := S.get hi e1
             obtain ⟨ws, h3, h4⟩ := S.get hj e2
             exact .inr (.inr (.inr ⟨a, b, vs, ws, rfl, rfl, h1, h3, by rw [← h2.length, ← h4.length]; exact c, Post.alloc (o := .lst (xs ++ ys)) (ho := .lst (vs ++ ws)) S (h2.append h4) h⟩))
           · exact h.elim
         · exact h.elim)
  · exact h.elim
end
end Ev

set_option Elab.async false
set_option linter.all false
set_option maxRecDepth 100000
set_option maxHeartbeats 4000000
/-! Ev4: comparisons, truth, items, slices, by the layer's rules. -/
namespace Ev
open PySem L2
section
variable {X : Cx}
abbrev rIsN : R2 := fun x y H Q => y = .non ∧ Q (.bl (decide (x = .non))) H
abbrev rIsNotN : R2 := fun x y H Q => y = .non ∧ Q (.bl (!decide (x = .non))) H
abbrev rInStr : R2 := fun x y H Q => ∃ i j, x = .str i ∧ y = .str j ∧ Q (.bl (!(Builtin.Str.occurrences j i 0 j.length 1).isEmpty)) H
abbrev rNotInStr : R2 := fun x y H Q => ∃ i j, x = .str i ∧ y = .str j ∧ Q (.bl (!(!(Builtin.Str.occurrences j i 0 j.length 1).isEmpty))) H
def rCmp (K : PySem.W.Frag) : CmpOp → R2
  | .Eq => fun x y H Q => rEq x y H Q ∨ rEqD K x y H Q
  | .NotEq => fun x y H Q => rNe x y H Q ∨ rNeD K x y H Q
  | .Lt => rI0 fun i j => .bl (decide (i < j))
  | .LtE => rI0 fun i j => .bl (decide (i ≤ j))
  | .Gt => rI0 fun i j => .bl (decide (j < i))
  | .GtE => rI0 fun i j => .bl (decide (j ≤ i))
  | .Is => fun x y H Q => rIsN x y H Q ∨ rIsB x y H Q
  | .IsNot => fun x y H Q => rIsNotN x y H Q ∨ rNotB x y H Q
  | .In => fun x y H Q => rInStr x y H Q ∨ rIn K false x y H Q
  | .NotIn => fun x y H Q => rNotInStr x y H Q ∨ rIn K true x y H Q
theorem op_cmp (hu : X.A.units + 64 < cLine) (op : CmpOp) : OpR X (compareOp op) (rCmp X.K op) := by
  cases op with
  | Eq => exact op_eq.or (op_eqD hu)
  | NotEq => exact op_ne.or (op_neD hu)
  | Lt => exact op_lt
  | LtE => exact op_le
  | Gt => exact op_gt
  | GtE => exact op_ge
  | Is => exact op_isN.or op_isBl
  | IsNot => exact op_notN.or op_notBl
  | In => exact op_in_str.or op_in_seq
  | NotIn => exact op_notin_str.or op_notIn_seq
end
section
variable {K : PySem.W.Frag} {mg : Str → Option Value} {ρ : List Addr} {H : Hp} {W : XK} {M : Sto} {Q : VK}
theorem eqV_ok {x y : PV} {v w : V} {k : Bool} (S : SM K mg ρ H M) (rx : RV K mg ρ H x v) (ry : RV K mg ρ H y w) (e : eqV M x y = some k) :
    (scal v w = true ∧ decide (v = w) = k) ∨ ∃ d d', Dp K H v d ∧ Dp K H w d' ∧ SeqAt.shaped d = true ∧ SeqAt.shaped d' = true ∧ PyData.eqv d d' = k := by
  unfold eqV at e
  split at e
  all_goals first
    | (cases rx.int_inv; cases ry.int_inv; cases e; exact .inl ⟨rfl, by simp⟩)
    | (cases rx.str_inv; cases ry.str_inv; cases e; exact .inl ⟨rfl, by simp⟩)
    | (cases rx.bl_inv; cases ry.bl_inv; cases e; exact .inl ⟨rfl, by simp⟩)
    | (cases rx.non_inv; cases ry.non_inv; cases e; exact .inl ⟨rfl, by simp⟩)
    | (cases rx.non_inv; cases ry.int_inv; cases e; exact .inl ⟨rfl, by simp⟩)
    | (cases rx.int_inv; cases ry.non_inv; cases e; exact .inl ⟨rfl, by simp⟩)
    | (cases rx.non_inv; cases ry.str_inv; cases e; exact .inl ⟨rfl, by simp⟩)
    | (cases rx.str_inv; cases ry.non_inv; cases e; exact .inl ⟨rfl, by simp⟩)
    | (cases rx.non_inv; cases ry.bl_inv; cases e; exact .inl ⟨rfl, by simp⟩)
    | (cases rx.bl_inv; cases ry.non_inv; cases e; exact .inl ⟨rfl, by simp⟩)
    | (cases rx.int_inv; cases ry.str_inv; cases e; exact .inl ⟨rfl, by simp⟩)
    | (cases rx.str_inv; cases ry.int_inv; cases e; exact .inl ⟨rfl, by simp⟩)
    | (cases rx.bl_inv; cases ry.str_inv; cases e; exact .inl ⟨rfl, by simp⟩)
    | (cases rx.str_inv; cases ry.bl_inv; cases e; exact .inl ⟨rfl, by simp⟩)
    | skip
  split at e
  · rename_i d d' h1 h2
    split at e
    · rename_i c
      cases e
      exact .inr ⟨d, d', dat_of S rx h1, dat_of S ry h2, c.1, c.2, rfl⟩
    · cases e
  · cases e
theorem inV_ok {x y : PV} {v w : V} {k : Bool} (S : SM K mg ρ H M) (rx : RV K mg ρ H x v) (ry : RV K mg ρ H y w) (e : inV M x y = some k) :
    (∃ i j, v = .str i ∧ w = .str j ∧ (!(Builtin.Str.occurrences j i 0 j.length 1).isEmpty) = k) ∨
    ∃ p xs, w = .ref p ∧ (SqL K H p xs ∨ SqT K H p xs) ∧ flatV v = true ∧ xs.all flatV = true ∧ L2.inV v xs = k := by
  unfold inV at e
  split at e
  · split at e
    · cases rx.str_inv; cases ry.str_inv; cases e
      exact .inl ⟨_, _, rfl, rfl, rfl⟩
    · cases e
  · split at e
    · rename_i ys hs
      split at e
      · rename_i vx vs h1 h2
        split at e
        · rename_i c
          cases e
          obtain ⟨a, us, rfl, hq, ru⟩ := seq_read S ry hs
          have e1 := rx.atom h1
          have e2 := ru.atoms h2
          subst e1; subst e2
          exact .inr ⟨a, _, rfl, hq, c.1, c.2, rfl⟩
        · cases e
      · cases e
    · cases e
theorem none_iff {x : PV} {v : V} (r : RV K mg ρ H x v) (hx : ∀ y, x ≠ .glo y) : decide (v = V.non) = decide (x = PV.non) := by
  cases r with
  | glo _ _ => exact absurd rfl (hx _)
  | _ => simp
theorem cmpV_ok (op : CmpOp) {x y : PV} {v w : V} {k : Bool} (S : SM K mg ρ H M) (rx : RV K mg ρ H x v) (ry : RV K mg ρ H y w) (e : cmpV op x y M = some k) (h : Q (.bl k) H) : rCmp K op v w H Q := by
  cases op with
  | Eq =>
    rcases eqV_ok S rx ry e with ⟨s, e⟩ | ⟨d, d', h1, h2, h3, h4, e⟩
    · exact .inl ⟨s, by rw [e]; exact h⟩
    · exact .inr ⟨d, d', h1, h2, h3, h4, by rw [e]; exact h⟩
  | NotEq =>
    have e' : (eqV M x y).map (!·) = some k := e
    cases q : eqV M x y with
    | none => rw [q] at e'; cases e'
    | some b =>
      rw [q] at e'; cases e'
      rcases eqV_ok S rx ry q with ⟨s, e⟩ | ⟨d, d', h1, h2, h3, h4, e⟩
      · exact .inl ⟨s, by rw [e]; exact h⟩
      · exact .inr ⟨d, d', h1, h2, h3, h4, by rw [e]; exact h⟩
  | Lt | LtE | Gt | GtE =>
    simp only [cmpV] at e
    split at e
    · cases rx.int_inv; cases ry.int_inv; cases e
      exact ⟨_, _, rfl, rfl, h⟩
    · cases e
  | Is | IsNot =>
    simp only [cmpV] at e
    split at e
    · cases ry.non_inv
      split at e
      · cases e
      · rename_i hx
        cases e
        exact .inl ⟨rfl, by rw [none_iff rx hx]; exact h⟩
    · cases rx.bl_inv; cases ry.bl_inv; cases e
      exact .inr ⟨_, _, rfl, rfl, h⟩
    · cases e
  | In =>
    rcases inV_ok S rx ry e with ⟨i, j, rfl, rfl, e⟩ | ⟨p, xs, rfl, h1, h2, h3, e⟩
    · exact .inl ⟨_, _, rfl, rfl, by rw [e]; exact h⟩
    · exact .inr ⟨p, xs, rfl, h1, h2, h3, by rw [if_neg Bool.false_ne_true, e]; exact h⟩
  | NotIn =>
    have e' : (inV M x y).map (!·) = some k := e
    cases q : inV M x y with
    | none => rw [q] at e'; cases e'
    | some b =>
      rw [q] at e'; cases e'
      rcases inV_ok S rx ry q with ⟨i, j, rfl, rfl, e⟩ | ⟨p, xs, rfl, h1, h2, h3, e⟩
      · exact .inl ⟨_, _, rfl, rfl, by rw [e]; exact h⟩
      · exact .inr ⟨p, xs, rfl, h1, h2, h3, by rw [if_pos rfl, e]; exact h⟩
theorem truV_ok {x : PV} {v : V} {k : Bool} (S : SM K mg ρ H M) (rx : RV K mg ρ H x v) (e : truV M x = some k) : TruV K v H k := by
  unfold truV at e
  split at e
  · cases rx.non_inv; cases e; exact rfl
  · cases rx.bl_inv; cases e; exact rfl
  · cases rx.int_inv; cases e; exact rfl
  · cases rx.str_inv
    split at e
    · rename_i c
      cases e
      exact ⟨c, rfl⟩
    · cases e
  · obtain ⟨a, vs, rfl, h, r⟩ := rx.tup_inv
    cases e
    exact .inr (.inl ⟨vs, h, by rw [r.nil_iff]⟩)
  · obtain ⟨a, vs, rfl, h, r⟩ := rx.rol_inv
    cases e
    exact .inl ⟨vs, h.sq, by rw [r.nil_iff]⟩
  · obtain ⟨a, rfl, hi⟩ := rx.ref_inv
    split at e
    · rename_i q
      cases e
      obtain ⟨vs, h1, h2⟩ := S.get hi q
      exact .inl ⟨vs, .inl (.inl h1), by rw [h2.nil_iff]⟩
    · rename_i q
      cases e
      obtain ⟨ws, h1, h2⟩ := S.getD hi q
      exact .inr (.inr ⟨ws, h1, by cases h2 <;> rfl⟩)
    · cases e
  · cases e

/-! ### items -/
theorem keyOf_ok {i : PV} {w : V} {k : Key} (r : RV K mg ρ H i w) (e : keyOf i = some k) : w = kV k := by
  cases r <;> first | (cases e; rfl) | cases e
theorem RKs.val {kvs : List (Key × PV)} {ws : List (Key × V)} (r : RKs K mg ρ H kvs ws) {k : Key} : (∀ x, valP kvs k = some x → ∃ v, valV ws k = some v ∧ RV K mg ρ H x v) ∧ (valP kvs k = none → valV ws k = none) := by
  induction r with
  | nil => exact ⟨fun _ h => (nomatch h), fun _ => rfl⟩
  | @cons p q ps qs h t ih =>
    by_cases e : p.1 = k
    · have e2 : q.1 = k := h.1 ▸ e
      have v1 : valP (p :: ps) k = some p.2 := by simp [valP, List.find?_cons, e]
      rw [v1, valV_pos e2]
      exact ⟨fun x hx => ⟨_, rfl, by cases hx; exact h.2⟩, fun z => nomatch z⟩
    · have e2 : ¬ q.1 = k := fun z => e (h.1.trans z)
      have v1 : valP (p :: ps) k = valP ps k := by simp [valP, List.find?_cons, e]
      rw [v1, valV_neg e2]
      exact ih
theorem subV_ok {x i y : PV} {v w : V} (S : SM K mg ρ H M) (rx : RV K mg ρ H x v) (ri : RV K mg ρ H i w) (e : subV x i M = some y) (h : ∀ z, RV K mg ρ H y z → Q z H) :
    (isD M x = false ∧ rIx K v w H Q) ∨ (isD M x = true ∧ ∃ a z, v = .ref a ∧ DGet H a w (some z) ∧ Q z H) := by
  unfold subV at e
  split at e
  · obtain ⟨a, vs, rfl, ha, r⟩ := rx.tup_inv
    cases ri.int_inv
    obtain ⟨z, h1, h2⟩ := r.atI e
    exact .inl ⟨rfl, .inr (.inl ⟨a, vs, _, z, rfl, rfl, ha, h1, h z h2⟩)⟩
  · obtain ⟨a, vs, rfl, ha, r⟩ := rx.rol_inv
    cases ri.int_inv
    obtain ⟨z, h1, h2⟩ := r.atI e
    exact .inl ⟨rfl, .inl ⟨a, vs, _, z, rfl, rfl, ha.sq, h1, h z h2⟩⟩
  · cases rx.str_inv; cases ri.int_inv
    split at e
    · rename_i s k c
      cases q : L2.atI s.cps.toList k with
      | none => rw [q] at e; cases e
      | some d =>
        rw [q] at e; cases e
        exact .inl ⟨rfl, .inr (.inr ⟨_, _, d, rfl, rfl, c, q, h _ (.str _)⟩)⟩
    · cases e
  · obtain ⟨a, rfl, hi⟩ := rx.ref_inv
    split at e
    · rename_i q
      split at e
      · cases ri.int_inv
        obtain ⟨vs, h1, h2⟩ := S.get hi q
        obtain ⟨z, h3, h4⟩ := h2.atI e
        exact .inl ⟨by simp only [isD, q], .inl ⟨a, vs, _, z, rfl, rfl, .inl (.inl h1), h3, h z h4⟩⟩
      · cases e
    · rename_i q
      split at e
      · rename_i k hk
        obtain ⟨ws, h1, h2⟩ := S.getD hi q
        obtain ⟨z, h3, h4⟩ := h2.val.1 _ e
        rw [keyOf_ok ri hk]
        refine .inr ⟨by simp only [isD, q], a, z, rfl, ?_, h z h4⟩
        rw [← h3]
        exact .k h1
      · cases e
    · cases e
  · cases e
def rSlice (K : PySem.W.Frag) : V → Option Int → Option Int → Hp → VK → Prop := fun x lo hi H Q => rSlL K x lo hi H Q ∨ (rSlA K x lo hi H Q ∨ rSlS x lo hi H Q)
theorem sl_any {X : Cx} : SlR X (rSlice X.K) := sl_list.or (sl_tupA.or sl_str)
theorem cutP_whole {xs : List PV} {lo hi : Option Int} (h : HT.sIx xs.length 0 lo = 0 ∧ HT.sIx xs.length xs.length hi = xs.length) : cutP xs lo hi = xs := by
  unfold cutP
  rw [h.1, h.2, List.drop_zero, Nat.sub_zero, List.take_length]
theorem slcV_ok {x : PV} {v : V} {lo hi : Option Int} (S : SM K mg ρ H M) (rx : RV K mg ρ H x v) (h : PostV K mg W ρ H (slcV x lo hi M) Q) : rSlice K v lo hi H Q := by
  unfold slcV at h
  split at h
  · obtain ⟨a, vs, rfl, ha, r⟩ := rx.tup_inv
    refine .inr (.inl ⟨a, vs, rfl, ha, fun c => ?_, fun _ => Post.tup S (r.cut lo hi) h⟩)
    refine h.here S (.tup ha ?_)
    rw [cutP_whole (by rw [r.length]; exact c)]
    exact r
  · obtain ⟨a, vs, rfl, ha, r⟩ := rx.rol_inv
    exact .inl ⟨a, vs, rfl, ha.sq, Post.alloc (o := .lst _) (ho := .lst _) S (r.cut lo hi) h⟩
  · cases rx.str_inv
    split at h
    · rename_i c
      exact .inr (.inr ⟨_, rfl, c, h.here S (.str _)⟩)
    · exact h.elim
  · split at h
    · rename_i q
      obtain ⟨a, vs, rfl, hi, h1, h2⟩ := lst_read S rx q
      exact .inl ⟨a, vs, rfl, .inl (.inl h1), Post.alloc (o := .lst _) (ho := .lst _) S (h2.cut _ _) h⟩
    · exact h.elim
  · exact h.elim
theorem revV_ok {x : PV} {v : V} (S : SM K mg ρ H M) (rx : RV K mg ρ H x v) (h : PostV K mg W ρ H (revV x M) Q) : ∃ a xs, v = .ref a ∧ SqL K H a xs ∧ ∀ p, H p = none → Q (.ref p) (upd H p (.lst xs.reverse)) := by
  unfold revV at h
  split at h
  · obtain ⟨a, vs, rfl, ha, r⟩ := rx.rol_inv
    exact ⟨a, vs, rfl, ha.sq, Post.alloc (o := .lst _) (ho := .lst _) S r.reverse h⟩
  · split at h
    · rename_i q
      obtain ⟨a, vs, rfl, hi, h1, h2⟩ := lst_read S rx q
      exact ⟨a, vs, rfl, .inl (.inl h1), Post.alloc (o := .lst _) (ho := .lst _) S h2.reverse h⟩
    · exact h.elim
  · exact h.elim
end
end Ev

set_option Elab.async false
set_option linter.all false
set_option maxRecDepth 100000
set_option maxHeartbeats 4000000
/-! Ev5: built-in functions, methods, isinstance, stores, by the layer's rules. -/
namespace Ev
open PySem L2
section
variable {X : Cx}
def rRepr (K : PySem.W.Frag) : List V → Hp → VK → Prop := fun xs H Q => ∃ x d, xs = [x] ∧ Dp K H x d ∧ d.showable = true ∧ d.hasDict = false ∧ d.depth ≤ 64 ∧ d.shown.length ≤ sizeLine ∧ Q (.str d.shown) H
theorem cr_repr (hg : X.A.guards = some []) (hu : X.A.units + 66 < cLine) : CallR X (.builtin "repr") (rRepr X.K) := by
  intro pins s σ H xs us Q I r h
  obtain ⟨x, d, rfl, hd, hs, hn, hz, hl, q⟩ := h
  obtain ⟨u, rfl, ru⟩ := vals1 r
  obtain ⟨as, R⟩ := Dp.reads I d x u hd ru
  have fin : ∀ (h' : Heap) (tk : Tok) (t : Nat), (∀ b o, s.heap.get? b = some o → h'.get? b = some o) → EP X pins σ Q (.str d.shown tk) { s with heap := h', toks := t } := fun h' tk t k =>
    ⟨.str d.shown, H, I.kept (t' := t) k, ⟨tk, rfl⟩, q⟩
  have fin0 : ∀ (tk : Tok) (t : Nat), EP X pins σ Q (.str d.shown tk) { s with toks := t } := fun tk t => fin s.heap tk t fun _ _ e => e
  cases R with
  | none => exact PySem.P.repr_of_none (by simpa only [PyData.shown] using fin0 _ _)
  | bool b => exact PySem.P.repr_of_bool (by simpa only [PyData.shown] using fin0 _ _)
  | int i t => exact PySem.P.repr_of_int (by simpa [PyData.showable] using hs) (by simpa only [PyData.shown] using fin0 _ _)
  | str y t => exact PySem.P.repr_of_str (by simpa only [PyData.shown] using fin0 _ _) (by simpa only [PyData.shown] using hl)
  | list h1 h2 h3 h4 =>
    exact repr_of_reads' (.list h1 h2 h3 h4) hs (fun z => by rw [hn] at z; cases z) hg (by omega) (fun _ _ e => e) (fun h' u tk k => fin h' u tk k) hl
  | tuple h1 h2 h3 h4 =>
    exact repr_of_reads' (.tuple h1 h2 h3 h4) hs (fun z => by rw [hn] at z; cases z) hg (by omega) (fun _ _ e => e) (fun h' u tk k => fin h' u tk k) hl
  | dict h1 h2 h3 h4 h5 => exact repr_of_reads' (.dict h1 h2 h3 h4 h5) hs (fun z => by rw [hn] at z; cases z) hg (by omega) (fun _ _ e => e) (fun h' u tk k => fin h' u tk k) hl
/-- a built-in function's or class's value -/
def BI.val : BI → Value
  | .len => .builtin "len" | .int => .type "int" | .tuple => .type "tuple" | .list => .type "list" | .repr => .builtin "repr" | .str => .type "str"
  | .sorted => .builtin "sorted" | .max => .builtin "max" | .min => .builtin "min" | .all => .builtin "all" | .any => .builtin "any" | .sum => .builtin "sum" | .abs => .builtin "abs"
def BI.name : BI → Str
  | .len => "len" | .int => "int" | .tuple => "tuple" | .list => "list" | .repr => "repr" | .str => "str"
  | .sorted => "sorted" | .max => "max" | .min => "min" | .all => "all" | .any => "any" | .sum => "sum" | .abs => "abs"
abbrev RC := List V → Hp → VK → Prop
def rBlt (K : PySem.W.Frag) : BI → RC
  | .len => fun xs H Q => (∃ p ys, xs = [.ref p] ∧ (SqL K H p ys ∨ SqT K H p ys) ∧ Q (.int ys.length) H) ∨ ∃ z, xs = [.str z] ∧ z.length ≤ sizeLine ∧ Q (.int z.length) H
  | .int => fun xs H Q => (∃ i, xs = [.int i] ∧ Q (.int i) H) ∨ ∃ k, xs = [.bl k] ∧ Q (.int (if k then 1 else 0)) H
  | .tuple => fun xs H Q => ∃ p ys, xs = [.ref p] ∧ ((SqL K H p ys ∧ ∀ l, H l = none → Q (.ref l) (upd H l (.tup ys))) ∨ (SqT K H p ys ∧ Q (.ref p) H))
  | .list => fun xs H Q => ∃ p ys, xs = [.ref p] ∧ (SqL K H p ys ∨ SqT K H p ys) ∧ ∀ l, H l = none → Q (.ref l) (upd H l (.lst ys))
  | .repr => rRepr K
  | .str => fun xs H Q => (∃ a, xs = [.str a] ∧ Q (.str a) H) ∨ ∃ i, xs = [.int i] ∧ i.natAbs.log2 < 1920 ∧ Q (.str (toString i)) H
  | .sorted => rSortedI K
  | .max => fun xs H Q => (∃ i j, xs = [.int i, .int j] ∧ Q (.int (if j > i then j else i)) H) ∨ rMax K xs H Q
  | .min => fun xs H Q => (∃ i j, xs = [.int i, .int j] ∧ Q (.int (if j < i then j else i)) H) ∨ rMin K xs H Q
  | .all => rAll K
  | .any => rAny K
  | .sum => rSum K
  | .abs => fun xs H Q => ∃ i, xs = [.int i] ∧ Q (.int (if i < 0 then -i else i)) H
theorem cr_blt (hc : X.calm = true) (hg : X.A.guards = some []) (hu : X.A.units + 66 < cLine) (f : BI) : CallR X f.val (rBlt X.K f) := by
  cases f with
  | len => exact call_len_seq.or call_len_str
  | int => exact call_int1
  | tuple => exact call_tuple_of
  | list => exact call_list_of
  | repr => exact cr_repr hg hu
  | str => exact (L2.CallR.or SkE.call_str_str call_str_int)
  | sorted => exact cr_sortedI
  | max => exact (call_max2 hc).or (cr_max hc)
  | min => exact (call_min2 hc).or (cr_min hc)
  | all => exact cr_all hc
  | any => exact cr_any hc
  | sum => exact cr_sum hc
  | abs => exact call_abs
end
section
variable {K : PySem.W.Frag} {mg : Str → Option Value} {ρ : List Addr} {H : Hp} {W : XK} {M : Sto} {Q : VK}
theorem RVs.one_inv {x : PV} {vs : List V} (h : RVs K mg ρ H [x] vs) : ∃ v, vs = [v] ∧ RV K mg ρ H x v := by
  cases h with
  | cons a b => cases b; exact ⟨_, rfl, a⟩
theorem RVs.two_inv {x y : PV} {vs : List V} (h : RVs K mg ρ H [x, y] vs) : ∃ v w, vs = [v, w] ∧ RV K mg ρ H x v ∧ RV K mg ρ H y w := by
  cases h with
  | cons a b =>
    cases b with
    | cons b c => cases c; exact ⟨_, _, rfl, a, b⟩
theorem RVs.nil_inv {vs : List V} (h : RVs K mg ρ H [] vs) : vs = [] := by cases h; rfl
theorem RVs.ints_inv : ∀ {xs : List PV} {vs : List V} {ns : List Int}, RVs K mg ρ H xs vs → intsP xs = some ns → vs = ns.map V.int
  | _, _, _, .nil, e => by cases e; rfl
  | x :: xs, _, ns, .cons a b, e => by
    cases x <;> try (cases e)
    rename_i i
    have e' : (intsP xs).map (i :: ·) = some ns := e
    cases q : intsP xs with
    | none => rw [q] at e'; cases e'
    | some ms =>
      rw [q] at e'; cases e'
      rw [a.int_inv, RVs.ints_inv b q]; rfl
theorem RVs.bools_inv : ∀ {xs : List PV} {vs : List V} {bs : List Bool}, RVs K mg ρ H xs vs → boolsP xs = some bs → vs = bs.map V.bl
  | _, _, _, .nil, e => by cases e; rfl
  | x :: xs, _, ns, .cons a b, e => by
    cases x <;> try (cases e)
    rename_i i
    have e' : (boolsP xs).map (i :: ·) = some ns := e
    cases q : boolsP xs with
    | none => rw [q] at e'; cases e'
    | some ms =>
      rw [q] at e'; cases e'
      rw [a.bl_inv, RVs.bools_inv b q]; rfl
theorem RVs.of_ints : ∀ ns : List Int, RVs K mg ρ H (ns.map PV.int) (ns.map V.int)
  | [] => .nil
  | n :: ns => .cons (.int n) (RVs.of_ints ns)
/-! sorting -/
theorem insI_perm (x : Int) : ∀ ys : List Int, (insI x ys).Perm (x :: ys)
  | [] => .refl _
  | y :: ys => by
    unfold insI
    split
    · exact .refl _
    · exact ((insI_perm x ys).cons y).trans (.swap x y ys)
theorem sortI_perm : ∀ xs : List Int, (sortI xs).Perm xs
  | [] => .refl _
  | x :: xs => (insI_perm x _).trans ((sortI_perm xs).cons x)
theorem insI_sorted (x : Int) : ∀ ys : List Int, ys.Pairwise (· ≤ ·) → (insI x ys).Pairwise (· ≤ ·)
  | [], _ => by simp [insI]
  | y :: ys, h => by
    unfold insI
    have hp := List.pairwise_cons.mp h
    split
    · rename_i c
      refine List.pairwise_cons.mpr ⟨fun z hz => ?_, h⟩
      rcases List.mem_cons.mp hz with rfl | hz
      · exact c
      · exact Int.le_trans c (hp.1 z hz)
    · rename_i c
      refine List.pairwise_cons.mpr ⟨fun z hz => ?_, insI_sorted x ys hp.2⟩
      rcases List.mem_cons.mp ((insI_perm x ys).mem_iff.mp hz) with rfl | hz
      · omega
      · exact hp.1 z hz
theorem sortI_sorted : ∀ xs : List Int, (sortI xs).Pairwise (· ≤ ·)
  | [] => .nil
  | x :: xs => insI_sorted x _ (sortI_sorted xs)
theorem sortI_unique {xs ys : List Int} (h : ys.Perm xs) (s : ys.Pairwise (· ≤ ·)) : ys = sortI xs :=
  (h.trans (sortI_perm xs).symm).eq_of_pairwise (fun a b _ _ h1 h2 => Int.le_antisymm h1 h2) s (sortI_sorted xs)
theorem maxI_spec : ∀ {xs : List Int} {m : Int}, maxI xs = some m → m ∈ xs ∧ ∀ y ∈ xs, y ≤ m
  | [x], m, e => by cases e; simp
  | x :: y :: r, m, e => by
    have e' : (maxI (y :: r)).map (fun m => if m > x then m else x) = some m := e
    cases q : maxI (y :: r) with
    | none => rw [q] at e'; cases e'
    | some k =>
      rw [q] at e'; cases e'
      obtain ⟨h1, h2⟩ := maxI_spec q
      refine ⟨?_, fun z hz => ?_⟩
      · show (if k > x then k else x) ∈ _
        split
        · exact List.mem_cons_of_mem _ h1
        · exact List.mem_cons_self
      · show z ≤ if k > x then k else x
        rcases List.mem_cons.mp hz with rfl | hz
        · split <;> omega
        · have := h2 z hz
          split <;> omega
theorem minI_spec : ∀ {xs : List Int} {m : Int}, minI xs = some m → m ∈ xs ∧ ∀ y ∈ xs, m ≤ y
  | [x], m, e => by cases e; simp
  | x :: y :: r, m, e => by
    have e' : (minI (y :: r)).map (fun m => if m < x then m else x) = some m := e
    cases q : minI (y :: r) with
    | none => rw [q] at e'; cases e'
    | some k =>
      rw [q] at e'; cases e'
      obtain ⟨h1, h2⟩ := minI_spec q
      refine ⟨?_, fun z hz => ?_⟩
      · show (if k < x then k else x) ∈ _
        split
        · exact List.mem_cons_of_mem _ h1
        · exact List.mem_cons_self
      · show (if k < x then k else x) ≤ z
        rcases List.mem_cons.mp hz with rfl | hz
        · split <;> omega
        · have := h2 z hz
          split <;> omega
theorem bltV_ok (f : BI) {xs : List PV} {vs : List V} (S : SM K mg ρ H M) (rx : RVs K mg ρ H xs vs) (h : PostV K mg W ρ H (bltV f xs M) Q) : rBlt K f vs H Q := by
  unfold bltV at h
  split at h
  · obtain ⟨v, rfl, r⟩ := rx.one_inv
    cases r.str_inv
    split at h
    · rename_i c
      exact .inr ⟨_, rfl, c, h.here S (.int _)⟩
    · exact h.elim
  · obtain ⟨v, rfl, r⟩ := rx.one_inv
    obtain ⟨a, rfl, hi⟩ := r.ref_inv
    split at h
    · rename_i q
      obtain ⟨us, h1, h2⟩ := S.get hi q
      exact .inl ⟨a, us, rfl, .inl (.inl (.inl h1)), by rw [← h2.length]; exact h.here S (.int _)⟩
    · exact h.elim
  · obtain ⟨v, rfl, r⟩ := rx.one_inv
    obtain ⟨a, us, rfl, ha, hr⟩ := r.tup_inv
    exact .inl ⟨a, us, rfl, .inr ha, by rw [← hr.length]; exact h.here S (.int _)⟩
  · obtain ⟨v, rfl, r⟩ := rx.one_inv
    obtain ⟨a, us, rfl, ha, hr⟩ := r.rol_inv
    exact .inl ⟨a, us, rfl, .inl ha.sq, by rw [← hr.length]; exact h.here S (.int _)⟩
  · obtain ⟨v, rfl, r⟩ := rx.one_inv
    cases r.int_inv
    exact .inl ⟨_, rfl, h.here S (.int _)⟩
  · obtain ⟨v, rfl, r⟩ := rx.one_inv
    cases r.bl_inv
    exact .inr ⟨_, rfl, h.here S (.int _)⟩
  · obtain ⟨v, rfl, r⟩ := rx.one_inv
    obtain ⟨a, us, rfl, ha, hr⟩ := r.tup_inv
    exact ⟨a, us, rfl, .inr ⟨ha, h.here S (.tup ha hr)⟩⟩
  · obtain ⟨v, rfl, r⟩ := rx.one_inv
    obtain ⟨a, us, rfl, ha, hr⟩ := r.rol_inv
    exact ⟨a, us, rfl, .inl ⟨ha.sq, Post.tup S hr h⟩⟩
  · obtain ⟨v, rfl, r⟩ := rx.one_inv
    split at h
    · rename_i q
      obtain ⟨a, us, rfl, hi, h1, h2⟩ := lst_read S r q
      exact ⟨a, us, rfl, .inl ⟨.inl (.inl h1), Post.tup S h2 h⟩⟩
    · exact h.elim
  · obtain ⟨v, rfl, r⟩ := rx.one_inv
    split at h
    · rename_i q
      obtain ⟨a, us, rfl, hq, hr⟩ := seq_read S r q
      exact ⟨a, us, rfl, hq, Post.alloc (o := .lst _) (ho := .lst _) S hr h⟩
    · exact h.elim
  · obtain ⟨v, rfl, r⟩ := rx.one_inv
    split at h
    · rename_i z q
      unfold reprV at q
      split at q
      · rename_i d hd
        split at q
        · rename_i c
          cases q
          exact ⟨v, d, rfl, dat_of S r hd, c.1, c.2.2.2, c.2.2.1, c.2.1, h.here S (.str _)⟩
        · cases q
      · cases q
    · exact h.elim
  · obtain ⟨v, rfl, r⟩ := rx.one_inv
    cases r.str_inv
    exact .inl ⟨_, rfl, h.here S (.str _)⟩
  · obtain ⟨v, rfl, r⟩ := rx.one_inv
    cases r.int_inv
    split at h
    · rename_i c
      exact .inr ⟨_, rfl, c, h.here S (.str _)⟩
    · exact h.elim
  · obtain ⟨v, rfl, r⟩ := rx.one_inv
    split at h
    · rename_i q
      split at h
      · rename_i q2
        obtain ⟨a, us, rfl, hi, h1, h2⟩ := lst_read S r q
        have e := h2.ints_inv q2
        subst e
        refine ⟨a, _, rfl, .inl (.inl h1), fun ns' p hp hs hn => ?_⟩
        rw [sortI_unique hp hs]
        exact Post.alloc (o := .lst _) (ho := .lst _) S (RVs.of_ints _) h p hn
      · exact h.elim
    · exact h.elim
  · obtain ⟨v, w, rfl, r1, r2⟩ := rx.two_inv
    cases r1.int_inv; cases r2.int_inv
    exact .inl ⟨_, _, rfl, h.here S (.int _)⟩
  · obtain ⟨v, w, rfl, r1, r2⟩ := rx.two_inv
    cases r1.int_inv; cases r2.int_inv
    exact .inl ⟨_, _, rfl, h.here S (.int _)⟩
  · obtain ⟨v, rfl, r⟩ := rx.one_inv
    split at h
    · rename_i q
      split at h
      · rename_i q2
        split at h
        · rename_i m q3
          obtain ⟨a, us, rfl, hi, h1, h2⟩ := lst_read S r q
          have e := h2.ints_inv q2
          subst e
          obtain ⟨m1, m2⟩ := maxI_spec q3
          refine .inr ⟨a, _, rfl, .inl (.inl h1), List.length_pos_of_mem m1, fun k k1 k2 => ?_⟩
          have : k = m := Int.le_antisymm (m2 k k1) (k2 m m1)
          rw [this]
          exact h.here S (.int _)
        · exact h.elim
      · exact h.elim
    · exact h.elim
  · obtain ⟨v, rfl, r⟩ := rx.one_inv
    split at h
    · rename_i q
      split at h
      · rename_i q2
        split at h
        · rename_i m q3
          obtain ⟨a, us, rfl, hi, h1, h2⟩ := lst_read S r q
          have e := h2.ints_inv q2
          subst e
          obtain ⟨m1, m2⟩ := minI_spec q3
          refine .inr ⟨a, _, rfl, .inl (.inl h1), List.length_pos_of_mem m1, fun k k1 k2 => ?_⟩
          have : k = m := Int.le_antisymm (k2 m m1) (m2 k k1)
          rw [this]
          exact h.here S (.int _)
        · exact h.elim
      · exact h.elim
    · exact h.elim
  · obtain ⟨v, rfl, r⟩ := rx.one_inv
    split at h
    · rename_i q
      split at h
      · rename_i q2
        obtain ⟨a, us, rfl, hi, h1, h2⟩ := lst_read S r q
        have e := h2.bools_inv q2
        subst e
        exact ⟨a, _, rfl, .inl (.inl h1), h.here S (.bl _)⟩
      · exact h.elim
    · exact h.elim
  · obtain ⟨v, rfl, r⟩ := rx.one_inv
    split at h
    · rename_i q
      split at h
      · rename_i q2
        obtain ⟨a, us, rfl, hi, h1, h2⟩ := lst_read S r q
        have e := h2.bools_inv q2
        subst e
        exact ⟨a, _, rfl, .inl (.inl h1), h.here S (.bl _)⟩
      · exact h.elim
    · exact h.elim
  · obtain ⟨v, rfl, r⟩ := rx.one_inv
    split at h
    · rename_i q
      split at h
      · rename_i q2
        obtain ⟨a, us, rfl, hi, h1, h2⟩ := lst_read S r q
        have e := h2.ints_inv q2
        subst e
        exact ⟨a, _, rfl, .inl (.inl h1), h.here S (.int _)⟩
      · exact h.elim
    · exact h.elim
  · obtain ⟨v, rfl, r⟩ := rx.one_inv
    cases r.int_inv
    exact ⟨_, rfl, h.here S (.int _)⟩
  · exact h.elim
end
end Ev

set_option Elab.async false
set_option linter.all false
set_option maxRecDepth 100000
set_option maxHeartbeats 4000000
/-! Ev6: a text and a code, place by place: are they alike? -/
namespace Ev
open PySem L2

structure CK where
  N : List Str
  sc : Scope
  all : Bool
  kw : Str → Option (List (Nat × List Str × List Nat))
def visB (sc : Scope) (x : Str) : Bool := match sc.names.lookup x with
  | some .local => true
  | some .cell => true
  | some .free => true
  | _ => false
def locB (k : CK) (x : Str) : Bool := match k.sc.names.lookup x with
  | some .local => true
  | some .cell => k.all
  | _ => false
def gloB (sc : Scope) (x : Str) : Bool := match sc.names.lookup x with
  | some .globalImplicit => !(x == ("__debug__" : Str))
  | _ => false
def okName (x : Str) : Bool := !(x == ("__debug__" : Str)) && !(x == ("__classdict__" : Str))
def isSet : Expr → Bool
  | .Set .. => true
  | _ => false
def isSlice : Expr → Bool
  | .Slice .. => true
  | _ => false
def isStar : Expr → Bool
  | .Starred .. => true
  | _ => false
def isComp : Expr → Bool
  | .ListComp .. => true
  | .SetComp .. => true
  | .DictComp .. => true
  | _ => false
def isCall : Expr → Bool
  | .Call .. => true
  | _ => false
/-- tests that are walked by their own form -/
def isTest : Expr → Bool
  | .UnaryOp .Not _ _ => true
  | .BoolOp .. => true
  | .IfExp .. => true
  | .Compare .. => true
  | _ => false
def MI.name : MI → Str
  | .append => "append" | .pop => "pop" | .popAt => "pop" | .extend => "extend"
def clsNames : List String := ["int", "str", "bool", "tuple", "list", "dict"]

/-- targets -/
def chkG (k : CK) : CT → Expr → Bool
  | .nm i, e => match e with
    | .Name x _ => decide (k.N[i]? = some x) && locB k x
    | _ => false
  | .tp ts, e => match e with
    | .Tuple es _ _ => chkGs k ts es
    | _ => false
  | .nil, _ => false
  | .cons _ _, _ => false
where chkGs (k : CK) : CT → List Expr → Bool
  | .nil, es => match es with
    | [] => true
    | _ => false
  | .cons a r, es => match es with
    | e :: es => chkG k a e && chkGs k r es
    | [] => false
  | .nm _, _ => false
  | .tp _, _ => false

/-- the slots of a target -/
def ctSlots : CT → List Nat
  | .nm i => [i]
  | .tp ts => ctSlots ts
  | .nil => []
  | .cons a r => ctSlots a ++ ctSlots r
def chkD : CE → List (Option Expr) → Bool
  | .nil, [] => true
  | .cons (.str s) r, some (.Constant (.str t) _ _) :: es => decide (s = t) && chkD r es
  | .cons (.int s) r, some (.Constant (.int t) _ _) :: es => decide (s = t) && chkD r es
  | _, _ => false
def typeNames : List String → List Expr → Scope → Bool
  | [], [], _ => true
  | c :: cs, .Name x _ :: es, sc => decide (x = Str.ofString c) && gloB sc x && clsNames.contains c && typeNames cs es sc
  | _, _, _ => false

mutual
/-- t: is it a test? -/
def chkE : CE → Bool → CK → Expr → Bool
  | .var i, _, k, e => match e with
    | .Name x _ => decide (k.N[i]? = some x) && visB k.sc x && okName x
    | _ => false
  | .non, _, _, e => match e with
    | .Constant .none _ _ => true
    | _ => false
  | .bl b, _, _, e => match e with
    | .Constant (.bool c) _ _ => decide (b = c)
    | _ => false
  | .int i, _, _, e => match e with
    | .Constant (.int j) _ _ => decide (i = j)
    | _ => false
  | .str s, _, _, e => match e with
    | .Constant (.str t) _ _ => decide (s = t)
    | _ => false
  | .glo x, _, k, e => match e with
    | .Name y _ => decide (x = y) && gloB k.sc x
    | _ => false
  | .bin op a b, _, k, e => match e with
    | .BinOp l o r _ => decide (op = o) && chkE a false k l && chkE b false k r
    | _ => false
  | .neg a, _, k, e => match e with
    | .UnaryOp .USub x _ => chkE a false k x
    | _ => false
  | .not a, t, k, e => match e with
    | .UnaryOp .Not x _ => chkE a t k x
    | _ => false
  | .cmp op a b, _, k, e => match e with
    | .Compare l [o] [r] _ => decide (op = o) && !isSet r && chkE a false k l && chkE b false k r
    | _ => false
  | .chain op op' a b c, _, k, e => match e with
    | .Compare l [o, o'] [r, r'] _ => decide (op = o) && decide (op' = o') && !isSet r && !isSet r' && chkE a false k l && chkE b false k r && chkE c false k r'
    | _ => false
  | .and a b, t, k, e => match e with
    | .BoolOp .And (l :: r :: es) pos => chkE a t k l && (match es with
      | [] => chkE b t k r
      | _ :: _ => chkE b t k (.BoolOp .And (r :: es) pos))
    | _ => false
  | .or a b, t, k, e => match e with
    | .BoolOp .Or (l :: r :: es) pos => chkE a t k l && (match es with
      | [] => chkE b t k r
      | _ :: _ => chkE b t k (.BoolOp .Or (r :: es) pos))
    | _ => false
  | .ife c a b, t, k, e => match e with
    | .IfExp x l r _ => !t && chkE c true k x && chkE a false k l && chkE b false k r
    | _ => false
  | .tup as, _, k, e => match e with
    | .Tuple es _ _ => chkA as k es
    | _ => false
  | .lst as, _, k, e => match e with
    | .List es _ => chkA as k es
    | _ => false
  | .dct ks vs, _, k, e => match e with
    | .Dict ke ve _ => chkD ks ke && chkA vs k ve && decide (ke.length = ve.length) && !ke.isEmpty && decide (ke.length ≤ 15)
    | _ => false
  | .nil, _, _, _ => false
  | .cons _ _, _, _, _ => false
  | .sub a i, _, k, e => match e with
    | .Subscript o j _ => !isSlice j && chkE a false k o && chkE i false k j
    | _ => false
  | .no, _, _, _ => false
  | .slc a lo hi, _, k, e => match e with
    | .Subscript o (.Slice l h none _) _ => chkE a false k o && chkO lo k l && chkO hi k h
    | _ => false
  | .rev a, _, k, e => match e with
    | .Subscript o (.Slice none none (some (.UnaryOp .USub (.Constant (.int 1) _ _) _)) _) _ => chkE a false k o
    | _ => false
  | .isi a ts many, _, k, e => match e with
    | .Call (.Name f _) [x, t] [] _ => decide (f = ("isinstance" : Str)) && gloB k.sc f && chkE a false k x && (match many, t with
      | true, .Tuple es _ _ => decide (ts.length ≤ sizeLine) && typeNames ts es k.sc
      | false, t => decide (ts.length = 1) && typeNames ts [t] k.sc
      | _, _ => false)
    | _ => false
  | .call f as, _, k, e => match e with
    | .Call (.Name g _) es [] _ => decide (f = g) && gloB k.sc f && chkA as k es && (k.kw f).isSome
    | _ => false
  | .callk f n as ks kws perm, _, k, e => match e with
    | .Call (.Name g _) es ws _ => decide (f = g) && gloB k.sc f && chkA as k es && chkK kws ks k ws && decide (n = es.length) && !ws.isEmpty && (match k.kw f with | some l => decide ((n, ks, perm) ∈ l) | none => false)
    | _ => false
  | .blt f as, _, k, e => match e with
    | .Call (.Name g _) (x :: es) [] _ => decide (f.name = g) && gloB k.sc g && chkA as k (x :: es)
    | _ => false
  | .meth m o as, _, k, e => match e with
    | .Call (.Attribute x n ap) es [] cp => decide (m.name = n) && (ap.endLine == cp.line) && !isCall x && chkE o false k x && chkA as k es && decide (es.length < 30) && (match m, es with
      | .pop, [] => true
      | .pop, _ => false
      | _, [] => false
      | _, _ => true)
    | _ => false
  | .comp t it ifs elt own, _, k, e => match e with
    | .ListComp x [⟨tg, iter, tests, a⟩] sc _ => decide (a = 0) && (match own.mapM fun i => (k.N[i]?).map fun x => (x, i) with
        | some ow => blkC k.N k.sc sc ow && decide (ow.map (·.2) = own)
        | none => false) && !isSet iter && chkI it k iter && chkG ⟨k.N, relS sc k.sc, false, k.kw⟩ t tg && chkTs ifs ⟨k.N, relS sc k.sc, false, k.kw⟩ tests && chkE elt false ⟨k.N, relS sc k.sc, false, k.kw⟩ x && (ctSlots t).all own.contains
    | _ => false
  | .iv _, _, _, _ => false
  | .irg1 _, _, _, _ => false
  | .irg2 _ _, _, _, _ => false
def chkA : CE → CK → List Expr → Bool
  | .nil, _, es => match es with
    | [] => true
    | _ => false
  | .cons a r, k, es => match es with
    | x :: es => chkE a false k x && chkA r k es
    | [] => false
  | _, _, _ => false
/-- keywords -/
def chkK : CE → List Str → CK → List Keyword → Bool
  | .nil, ks, _, ws => match ks, ws with
    | [], [] => true
    | _, _ => false
  | .cons a r, ks, k, ws => match ks, ws with
    | n :: ks, ⟨nm, x, _⟩ :: ws => decide (nm = some n) && chkE a false k x && chkK r ks k ws
    | _, _ => false
  | _, _, _, _ => false
def chkTs : CE → CK → List Expr → Bool
  | .nil, _, es => match es with
    | [] => true
    | _ => false
  | .cons a .nil, k, es => match es with
    | [x] => chkE a true k x
    | _ => false
  | _, _, _ => false
def chkO : CE → CK → Option Expr → Bool
  | .no, _, e => match e with
    | none => true
    | _ => false
  | .cons a .nil, k, e => match e with
    | some x => chkE a false k x
    | none => false
  | _, _, _ => false
def chkI : CE → CK → Expr → Bool
  | .iv e, k, x => chkE e false k x
  | .irg1 a, k, e => match e with
    | .Call (.Name f _) [x] [] _ => decide (f = ("range" : Str)) && gloB k.sc f && chkE a false k x
    | _ => false
  | .irg2 a b, k, e => match e with
    | .Call (.Name f _) [x, y] [] _ => decide (f = ("range" : Str)) && gloB k.sc f && chkE a false k x && chkE b false k y
    | _ => false
  | _, _, _ => false
end
/-! ### what hangs on a text's form alone -/
theorem star_ne {e : Expr} (h : isStar e = false) (es : List Expr) (env : PySem.Env) : starEach (e :: es) env = (false, eval e env) :: starEach es env := by
  cases e <;> first | rfl | cases h
theorem chkE_star {c : CE} {t : Bool} {k : CK} {e : Expr} (h : chkE c t k e = true) : isStar e = false := by
  cases e <;> first | rfl | (exfalso; cases c <;> simp [chkE] at h)
theorem behind_ne {op : CmpOp} {e : Expr} (h : isSet e = false) : behindInMarks op e = false := by
  cases e <;> first | rfl | cases h
theorem folded_ne {e : Expr} (h : isSet e = false) (env : PySem.Env) (x : Value) : foldedSetIterable e env x = pure x := by
  cases e <;> first | rfl | cases h
theorem plain_ix {e : Expr} (h : isSlice e = false) (ov iv : Value) : subscripted e false ov iv = operate [ov, iv] (getItem ov iv) := by
  cases e <;> first | rfl | cases h
theorem attr_ne {e : Expr} (h : isCall e = false) (f : Str) (env : PySem.Env) : attributeBase e f env (eval e env) = eval e env := by
  cases e <;> first | rfl | cases h
theorem swaps_ne {e : Expr} (h : isComp e = false) (tg : Option Expr) (l : Nat) (env : PySem.Env) : swapsWith e tg l env = pure false := by
  cases e <;> first | rfl | cases h
theorem test_ne {e : Expr} (h : isTest e = false) (env : PySem.Env) (whole : Sem Value) : isTrue e env whole = (do let v ← whole; standAt e.pos; holding [v] (truthy v)) := by
  cases e with
  | UnaryOp op x p => cases op <;> first | rfl | cases h
  | _ => first | rfl | cases h
/-- no star in a list of arguments -/
def noStar (es : List Expr) : Bool := es.all fun e => !isStar e
theorem any_star (pos : Pos) (env : PySem.Env) : ∀ {es : List Expr}, noStar es = true → (backTo pos (starEach es env)).any (·.1) = false
  | [], _ => rfl
  | e :: es, h => by
    have h2 := List.all_eq_true.mp h
    have h1 : isStar e = false := by simpa using h2 e List.mem_cons_self
    have h3 : noStar es = true := List.all_eq_true.mpr fun x hx => h2 x (List.mem_cons_of_mem _ hx)
    rw [star_ne h1]
    show (false || (backTo pos (starEach es env)).any (·.1)) = false
    rw [any_star pos env h3]; rfl
theorem all_star (pos : Pos) (env : PySem.Env) : ∀ {es : List Expr}, noStar es = true → (backTo pos (starEach es env)).all (fun x => !x.1) = true
  | [], _ => rfl
  | e :: es, h => by
    have h2 := List.all_eq_true.mp h
    have h1 : isStar e = false := by simpa using h2 e List.mem_cons_self
    have h3 : noStar es = true := List.all_eq_true.mpr fun x hx => h2 x (List.mem_cons_of_mem _ hx)
    rw [star_ne h1]
    show (true && (backTo pos (starEach es env)).all (fun x => !x.1)) = true
    rw [all_star pos env h3]; rfl
theorem chkA_star : ∀ {c : CE} {k : CK} {es : List Expr}, chkA c k es = true → noStar es = true
  | .nil, _, es, h => by
    cases es with
    | nil => rfl
    | cons _ _ => simp [chkA] at h
  | .cons a r, k, es, h => by
    cases es with
    | nil => simp [chkA] at h
    | cons x es =>
      simp only [chkA, Bool.and_eq_true] at h
      have h1 := chkE_star h.1
      have h2 := chkA_star h.2
      unfold noStar at h2 ⊢
      rw [List.all_cons, h1, h2]; rfl
  | .var _, _, _, h | .non, _, _, h | .bl _, _, _, h | .int _, _, _, h | .str _, _, _, h | .glo _, _, _, h | .bin _ _ _, _, _, h | .neg _, _, _, h | .not _, _, _, h | .cmp _ _ _, _, _, h | .chain _ _ _ _ _, _, _, h
  | .and _ _, _, _, h | .or _ _, _, _, h | .ife _ _ _, _, _, h | .tup _, _, _, h | .lst _, _, _, h | .dct _ _, _, _, h | .sub _ _, _, _, h | .no, _, _, h | .slc _ _ _, _, _, h | .rev _, _, _, h | .isi _ _ _, _, _, h
  | .call _ _, _, _, h | .callk _ _ _ _ _ _, _, _, h | .blt _ _, _, _, h | .meth _ _ _, _, _, h | .comp _ _ _ _ _, _, _, h | .iv _, _, _, h | .irg1 _, _, _, h | .irg2 _ _, _, _, h => by simp [chkA] at h
end Ev

set_option Elab.async false
set_option linter.all false
set_option maxRecDepth 100000
set_option maxHeartbeats 4000000
/-! Ev7: the text's expressions do what the code says, form by form. -/
namespace Ev
open PySem L2

theorem PE.weak {X : Cx} {e : Expr} {t t' : TE} (h : PE X e t) (k : ∀ σ H Q, t' σ H Q → t σ H Q) : PE X e t' := ⟨fun pins s σ H Q I q => h.run pins s σ H Q I (k σ H Q q)⟩
theorem PT.weak {X : Cx} {e : Expr} {t t' : TT} (h : PT X e t) (k : ∀ σ H Q, t' σ H Q → t σ H Q) : PT X e t' := ⟨fun pins s σ H Q I q => h.run pins s σ H Q I (k σ H Q q)⟩
theorem PE.or {X : Cx} {e : Expr} {t t' : TE} (h : PE X e t) (h' : PE X e t') : PE X e (fun σ H Q => t σ H Q ∨ t' σ H Q) := ⟨fun pins s σ H Q I q => q.elim (h.run pins s σ H Q I) (h'.run pins s σ H Q I)⟩

/-- a reading, lifted -/
def lR {α β : Type} (X : Cx) (R : List Addr → Hp → α → β → Prop) (W : WX) (r : Env → Sto → Res α) : St → Hp → (β → Hp → Prop) → Prop := fun σ H Q =>
  ∃ ρ env M, SM X.K X.mg ρ H M ∧ RE X.K X.mg ρ H env σ ∧ Post X.K X.mg R (fun c d H' => W c d σ H') ρ H (r env M) Q
abbrev lE (X : Cx) (W : WX) (r : Env → Sto → Res PV) : TE := lR X (RV X.K X.mg) W r
abbrev lA (X : Cx) (W : WX) (r : Env → Sto → Res (List PV)) : TA := lR X (RVs X.K X.mg) W r
abbrev eqR {α : Type} : List Addr → Hp → α → α → Prop := fun _ _ a b => a = b
abbrev lB (X : Cx) (W : WX) (r : Env → Sto → Res Bool) : TT := lR X eqR W r
abbrev lO (X : Cx) (W : WX) (r : Env → Sto → Res (Option Int)) : TO := lR X eqR W r
/-- the truth of a value -/
def truR (r : Env → Sto → Res PV) : Env → Sto → Res Bool := fun env M => (r env M).bind fun x M1 => Res.of (truV M1 x) M1
abbrev lT (X : Cx) (W : WX) (r : Env → Sto → Res PV) : TT := lB X W (truR r)

section
variable {α β γ δ ε : Type} {X : Cx} {R : List Addr → Hp → α → β → Prop} {R1 : List Addr → Hp → γ → δ → Prop} {W : WX} {σ : St} {H : Hp} {Q : β → Hp → Prop}
/-- one step, then the rest -/
theorem lR.chain {r : Env → Sto → Res γ} {f : Env → γ → Sto → Res α} {Q1 : δ → Hp → Prop} (h : lR X R W (fun env M => (r env M).bind (f env)) σ H Q)
    (k : ∀ ρ env M x M1 ρ1 v H1, SM X.K X.mg ρ H M → RE X.K X.mg ρ H env σ → Ext ρ H ρ1 H1 → SM X.K X.mg ρ1 H1 M1 → RE X.K X.mg ρ1 H1 env σ → R1 ρ1 H1 x v → Post X.K X.mg R (fun c d H' => W c d σ H') ρ1 H1 (f env x M1) Q → Q1 v H1) : lR X R1 W r σ H Q1 := by
  obtain ⟨ρ, env, M, S, E, h⟩ := h
  exact ⟨ρ, env, M, S, E, h.chain fun x M1 ρ1 v H1 e1 S1 r1 h1 => k ρ env M x M1 ρ1 v H1 S E e1 S1 (E.mono S e1) r1 h1⟩
end
section
variable {α β : Type} {K : PySem.W.Frag} {mg : Str → Option Value} {R : List Addr → Hp → α → β → Prop} {W : XK} {ρ ρ1 : List Addr} {H H1 : Hp} {Q : β → Hp → Prop}
theorem Post.at {r : Res α} (h : Post K mg R W ρ H r Q) (E : Ext ρ H ρ1 H1) : Post K mg R W ρ1 H1 r Q := by
  cases r with
  | ok x M => exact fun ρ2 v H2 e2 => h ρ2 v H2 (E.trans e2)
  | exc x M => exact fun ρ2 H2 c d e2 => h ρ2 H2 c d (E.trans e2)
  | bad => exact h
/-- a value's truth, then one of two ways -/
theorem Post.test {r : Res PV} {f g : PV → Sto → Res α} {Q1 : Bool → Hp → Prop} (h : Post K mg R W ρ H (r.bind fun x M1 => match truV M1 x with | some true => f x M1 | some false => g x M1 | none => .bad) Q)
    (k : ∀ b x M1 ρ1 H1, Ext ρ H ρ1 H1 → SM K mg ρ1 H1 M1 → truV M1 x = some b → Post K mg R W ρ1 H1 (if b = true then f x M1 else g x M1) Q → Q1 b H1) :
    Post K mg eqR W ρ H (r.bind fun x M1 => Res.of (truV M1 x) M1) Q1 := by
  cases r with
  | bad => exact h
  | exc x M1 => exact h
  | ok x M1 =>
    show Post K mg eqR W ρ H (Res.of (truV M1 x) M1) Q1
    have h' : Post K mg R W ρ H (match truV M1 x with | some true => f x M1 | some false => g x M1 | none => .bad) Q := h
    cases q : truV M1 x with
    | none => rw [q] at h'; exact h'.elim
    | some b =>
      rw [q] at h'
      intro ρ1 v H1 e1 S1 r1
      cases r1
      refine k b x M1 ρ1 H1 e1 S1 q ?_
      cases b with
      | true => exact h'.at e1
      | false => exact h'.at e1
end
theorem Res.bind_assoc {α β γ : Type} (r : Res α) (f : α → Sto → Res β) (g : β → Sto → Res γ) : (r.bind f).bind g = r.bind fun x M => (f x M).bind g := by cases r <;> rfl
theorem truR_bind {α : Type} (ra : Env → Sto → Res α) (f : Env → α → Sto → Res PV) : truR (fun env M => (ra env M).bind (f env)) = fun env M => (ra env M).bind fun x M1 => (f env x M1).bind fun y M2 => Res.of (truV M2 y) M2 := by
  funext env M
  exact Res.bind_assoc _ _ _
section
variable {X : Cx} {W : WX} {a b c e : Expr} {es : List Expr} {pos p : Pos} {ra rb rc : Env → Sto → Res PV} {rs : Env → Sto → Res (List PV)}
theorem s_var {i : Nat} {x : Str} (hN : X.N[i]? = some x) (hv : Vis X.env.scope x) (hd : (x == ("__debug__" : Str)) = false) (hc : (x == ("__classdict__" : Str)) = false) :
    PE X (.Name x pos) (lE X W fun env M => match env[i]? with | some (some v) => .ok v M | _ => .bad) := by
  refine PE.weak (pe_var hN hv hd hc) fun σ H Q h => ?_
  obtain ⟨ρ, env, M, S, E, h⟩ := h
  dsimp only at h
  cases q : env[i]? with
  | none => rw [q] at h; exact h.elim
  | some o =>
    cases o with
    | none => rw [q] at h; exact h.elim
    | some v =>
      rw [q] at h
      obtain ⟨w, h1, h2⟩ := E.get q
      exact ⟨w, h1, h.here S h2⟩
theorem s_const {x : PV} {v : V} (h : PE X e (tC v)) (r : ∀ ρ H, RV X.K X.mg ρ H x v) : PE X e (lE X W fun _ M => .ok x M) := by
  refine PE.weak h fun σ H Q h => ?_
  obtain ⟨ρ, env, M, S, E, h⟩ := h
  exact h.here S (r _ _)
theorem s_bin {op : Operator} (ha : PE X a (lE X W ra)) (hb : PE X b (lE X W rb)) : PE X (.BinOp a op b pos) (lE X W fun env M => (ra env M).bind fun x M1 => (rb env M1).bind fun y M2 => binV op x y M2) := by
  refine PE.weak (pe_op (op_bin op) ha hb) fun σ H Q h => ?_
  refine lR.chain h fun ρ env M x M1 ρ1 v H1 S E e1 S1 E1 r1 h1 => ?_
  exact ⟨ρ1, env, M1, S1, E1, h1.chain fun y M2 ρ2 w H2 e2 S2 r2 h2 => binV_ok op S2 (r1.mono S1 e2) r2 h2⟩
theorem s_neg (ha : PE X a (lE X W ra)) : PE X (.UnaryOp .USub a pos) (lE X W fun env M => (ra env M).bind fun x M1 => match x with | .int i => .ok (.int (-i)) M1 | _ => .bad) := by
  refine PE.weak (pe_un un_neg ha) fun σ H Q h => ?_
  refine lR.chain h fun ρ env M x M1 ρ1 v H1 S E e1 S1 E1 r1 h1 => ?_
  cases x <;> first | exact h1.elim | skip
  cases r1.int_inv
  exact ⟨_, rfl, h1.here S1 (.int _)⟩
theorem s_not (ha : PE X a (lE X W ra)) : PE X (.UnaryOp .Not a pos) (lE X W fun env M => (ra env M).bind fun x M1 => Res.of ((truV M1 x).map fun b => .bl (!b)) M1) := by
  refine PE.weak (pe_notT ha) fun σ H Q h => ?_
  refine lR.chain h fun ρ env M x M1 ρ1 v H1 S E e1 S1 E1 r1 h1 => ?_
  cases q : truV M1 x with
  | none => rw [q] at h1; exact h1.elim
  | some k =>
    rw [q] at h1
    exact ⟨k, truV_ok S1 r1 q, h1.here S1 (.bl _)⟩
/-- a comparison's answer -/
def cmpR (op : CmpOp) (ra rb : Env → Sto → Res PV) : Env → Sto → Res PV := fun env M => (ra env M).bind fun x M1 => (rb env M1).bind fun y M2 => Res.of ((cmpV op x y M2).map .bl) M2
theorem of_cmp {K : PySem.W.Frag} {mg : Str → Option Value} {ρ : List Addr} {H : Hp} {WW : XK} {M : Sto} {Q : VK} {o : Option Bool} (S : SM K mg ρ H M) (h : PostV K mg WW ρ H (Res.of (o.map .bl) M) Q) : ∃ k, o = some k ∧ Q (.bl k) H := by
  cases o with
  | none => exact h.elim
  | some k => exact ⟨k, rfl, Post.here (x := PV.bl k) S (.bl k) h⟩
theorem s_cmp {op : CmpOp} (hu : X.A.units + 64 < cLine) (ha : PE X a (lE X W ra)) (hb : PE X b (lE X W rb)) (hs : isSet b = false) : PE X (.Compare a [op] [b] pos) (lE X W (cmpR op ra rb)) := by
  refine PE.weak (pe_cmpR (op_cmp hu op) ha hb (behind_ne hs)) fun σ H Q h => ?_
  refine lR.chain h fun ρ env M x M1 ρ1 v H1 S E e1 S1 E1 r1 h1 => ?_
  refine ⟨ρ1, env, M1, S1, E1, h1.chain fun y M2 ρ2 w H2 e2 S2 r2 h2 => ?_⟩
  obtain ⟨k, q, hk⟩ := of_cmp S2 h2
  exact cmpV_ok op S2 (r1.mono S1 e2) r2 q hk
/-- the truth of an answer that is True or False -/
theorem truR_bl {K : PySem.W.Frag} {mg : Str → Option Value} {ρ : List Addr} {H : Hp} {WW : XK} {M : Sto} {Q : Bool → Hp → Prop} {o : Option Bool} (S : SM K mg ρ H M)
    (h : Post K mg eqR WW ρ H ((Res.of (o.map PV.bl) M).bind fun x M1 => Res.of (truV M1 x) M1) Q) : ∃ k, o = some k ∧ Q k H := by
  cases o with
  | none => exact h.elim
  | some k => exact ⟨k, rfl, Post.here (x := k) (v := k) S rfl h⟩
theorem t_cmp {op : CmpOp} (hu : X.A.units + 64 < cLine) (ha : PE X a (lE X W ra)) (hb : PE X b (lE X W rb)) (hs : isSet b = false) : PT X (.Compare a [op] [b] pos) (lT X W (cmpR op ra rb)) := by
  refine PT.weak (pt_cmpR (op_cmp hu op) ha hb (behind_ne hs)) fun σ H Q h => ?_
  unfold cmpR at h
  rw [lT, truR_bind] at h
  refine lR.chain h fun ρ env M x M1 ρ1 v H1 S E e1 S1 E1 r1 h1 => ?_
  rw [Res.bind_assoc] at h1
  refine ⟨ρ1, env, M1, S1, E1, h1.chain fun y M2 ρ2 w H2 e2 S2 r2 h2 => ?_⟩
  obtain ⟨k, q, hk⟩ := truR_bl S2 h2
  exact cmpV_ok op S2 (r1.mono S1 e2) r2 q ⟨k, rfl, hk⟩
def chainR (op op' : CmpOp) (ra rb rc : Env → Sto → Res PV) : Env → Sto → Res PV := fun env M => (ra env M).bind fun x M1 => (rb env M1).bind fun y M2 => match cmpV op x y M2 with
    | some true => (rc env M2).bind fun z M3 => Res.of ((cmpV op' y z M3).map .bl) M3
    | some false => .ok (.bl false) M2
    | none => .bad
theorem last_ne {op op' : CmpOp} {b c : Expr} (h : isSet c = false) : lastMarks [op, op'] [b, c] = false := by
  show lastMarks [op'] [c] = false
  exact behind_ne h
theorem s_chain {op op' : CmpOp} (hu : X.A.units + 64 < cLine) (ha : PE X a (lE X W ra)) (hb : PE X b (lE X W rb)) (hc : PE X c (lE X W rc)) (hs : isSet c = false) :
    PE X (.Compare a [op, op'] [b, c] pos) (lE X W (chainR op op' ra rb rc)) := by
  refine PE.weak (pe_chain (op_cmp hu op) (op_cmp hu op') ha hb hc (last_ne hs)) fun σ H Q h => ?_
  refine lR.chain h fun ρ env M x M1 ρ1 v H1 S E e1 S1 E1 r1 h1 => ?_
  refine ⟨ρ1, env, M1, S1, E1, h1.chain fun y M2 ρ2 w H2 e2 S2 r2 h2 => ?_⟩
  cases q : cmpV op x y M2 with
  | none => rw [q] at h2; exact h2.elim
  | some k =>
    rw [q] at h2
    refine cmpV_ok op S2 (r1.mono S1 e2) r2 q ⟨k, rfl, ?_⟩
    cases k with
    | true =>
      rw [if_pos rfl]
      refine ⟨ρ2, env, M2, S2, E1.mono S1 e2, Post.chain h2 fun z M3 ρ3 u H3 e3 S3 r3 h3 => ?_⟩
      obtain ⟨k, q3, hk⟩ := of_cmp S3 h3
      exact cmpV_ok op' S3 (r2.mono S2 e3) r3 q3 hk
    | false =>
      rw [if_neg Bool.false_ne_true]
      exact h2.here S2 (.bl _)
theorem t_chain {op op' : CmpOp} (hu : X.A.units + 64 < cLine) (ha : PE X a (lE X W ra)) (hb : PE X b (lE X W rb)) (hc : PE X c (lE X W rc)) (hs : isSet c = false) :
    PT X (.Compare a [op, op'] [b, c] pos) (lT X W (chainR op op' ra rb rc)) := by
  refine PT.weak (pt_chain (op_cmp hu op) (op_cmp hu op') ha hb hc (last_ne hs)) fun σ H Q h => ?_
  unfold chainR at h
  rw [lT, truR_bind] at h
  refine lR.chain h fun ρ env M x M1 ρ1 v H1 S E e1 S1 E1 r1 h1 => ?_
  rw [Res.bind_assoc] at h1
  refine ⟨ρ1, env, M1, S1, E1, h1.chain fun y M2 ρ2 w H2 e2 S2 r2 h2 => ?_⟩
  cases q : cmpV op x y M2 with
  | none => rw [q] at h2; exact h2.elim
  | some k =>
    rw [q] at h2
    refine cmpV_ok op S2 (r1.mono S1 e2) r2 q ⟨k, rfl, ?_⟩
    cases k with
    | true =>
      rw [if_pos rfl]
      have h2 : Post _ _ _ _ _ _ (((rc env M2).bind fun z M3 => Res.of ((cmpV op' y z M3).map .bl) M3).bind fun y M2 => Res.of (truV M2 y) M2) _ := h2
      rw [Res.bind_assoc] at h2
      refine ⟨ρ2, env, M2, S2, E1.mono S1 e2, Post.chain h2 fun z M3 ρ3 u H3 e3 S3 r3 h3 => ?_⟩
      obtain ⟨k, q3, hk⟩ := truR_bl S3 h3
      exact cmpV_ok op' S3 (r2.mono S2 e3) r3 q3 ⟨k, rfl, hk⟩
    | false =>
      rw [if_neg Bool.false_ne_true]
      exact ⟨false, rfl, Post.here (x := false) (v := false) S2 rfl h2⟩
theorem t_val (ha : PE X a (lE X W ra)) (h : isTest a = false) : PT X a (lT X W ra) := by
  refine PT.weak (pt_truth ha (test_ne h _)) fun σ H Q h => ?_
  refine lR.chain h fun ρ env M x M1 ρ1 v H1 S E e1 S1 E1 r1 h1 => ?_
  cases q : truV M1 x with
  | none => rw [q] at h1; exact h1.elim
  | some k =>
    rw [q] at h1
    exact ⟨k, truV_ok S1 r1 q, h1.here S1 rfl⟩
def andR (ra rb : Env → Sto → Res PV) : Env → Sto → Res PV := fun env M => (ra env M).bind fun x M1 => match truV M1 x with
    | some true => rb env M1
    | some false => .ok x M1
    | none => .bad
def orR (ra rb : Env → Sto → Res PV) : Env → Sto → Res PV := fun env M => (ra env M).bind fun x M1 => match truV M1 x with
    | some true => .ok x M1
    | some false => rb env M1
    | none => .bad
theorem s_and (ha : PE X a (lE X W ra)) (hb : PE X (.BoolOp .And (b :: es) pos) (lE X W rb)) : PE X (.BoolOp .And (a :: b :: es) pos) (lE X W (andR ra rb)) := by
  refine PE.weak (pe_andT ha hb) fun σ H Q h => ?_
  refine lR.chain h fun ρ env M x M1 ρ1 v H1 S E e1 S1 E1 r1 h1 => ?_
  cases q : truV M1 x with
  | none => rw [q] at h1; exact h1.elim
  | some k =>
    rw [q] at h1
    refine ⟨k, truV_ok S1 r1 q, ?_⟩
    cases k with
    | true => exact iteT ⟨ρ1, env, M1, S1, E1, h1⟩
    | false => exact iteF (h1.here S1 r1)
theorem s_or (ha : PE X a (lE X W ra)) (hb : PE X (.BoolOp .Or (b :: es) pos) (lE X W rb)) : PE X (.BoolOp .Or (a :: b :: es) pos) (lE X W (orR ra rb)) := by
  refine PE.weak (pe_orT ha hb) fun σ H Q h => ?_
  refine lR.chain h fun ρ env M x M1 ρ1 v H1 S E e1 S1 E1 r1 h1 => ?_
  cases q : truV M1 x with
  | none => rw [q] at h1; exact h1.elim
  | some k =>
    rw [q] at h1
    refine ⟨k, truV_ok S1 r1 q, ?_⟩
    cases k with
    | true => exact iteT (h1.here S1 r1)
    | false => exact iteF ⟨ρ1, env, M1, S1, E1, h1⟩
theorem s_one {op : BoolOp} (ha : PE X a (lE X W ra)) : PE X (.BoolOp op [a] pos) (lE X W ra) := pe_one ha
/-- tests by their own form, whatever the whole is -/
theorem truR_and : truR (andR ra rb) = fun env M => (ra env M).bind fun x M1 => match truV M1 x with
    | some true => truR rb env M1
    | some false => .ok false M1
    | none => .bad := by
  funext env M
  unfold truR andR
  rw [Res.bind_assoc]
  congr 1
  funext x M1
  cases q : truV M1 x with
  | none => rfl
  | some k =>
    cases k with
    | true => rfl
    | false => show Res.of (truV M1 x) M1 = _; rw [q]; rfl
theorem truR_or : truR (orR ra rb) = fun env M => (ra env M).bind fun x M1 => match truV M1 x with
    | some true => .ok true M1
    | some false => truR rb env M1
    | none => .bad := by
  funext env M
  unfold truR orR
  rw [Res.bind_assoc]
  congr 1
  funext x M1
  cases q : truV M1 x with
  | none => rfl
  | some k =>
    cases k with
    | false => rfl
    | true => show Res.of (truV M1 x) M1 = _; rw [q]; rfl
theorem w_and (ha : PT X a (lT X W ra)) (hb : PW X (.BoolOp .And (b :: es) pos) (lT X W rb)) : PW X (.BoolOp .And (a :: b :: es) pos) (lT X W (andR ra rb)) := by
  refine ⟨fun wh pins s σ H Q I h => (pw_and ha hb).run wh pins s σ H Q I ?_⟩
  rw [lT, truR_and] at h
  obtain ⟨ρ, env, M, S, E, h⟩ := h
  refine ⟨ρ, env, M, S, E, h.test fun k x M1 ρ1 H1 e1 S1 q h1 => ?_⟩
  cases k with
  | true => exact iteT ⟨ρ1, env, M1, S1, E.mono S e1, h1⟩
  | false => exact iteF (Post.here (x := false) (v := false) S1 rfl h1)
theorem w_or (ha : PT X a (lT X W ra)) (hb : PW X (.BoolOp .Or (b :: es) pos) (lT X W rb)) : PW X (.BoolOp .Or (a :: b :: es) pos) (lT X W (orR ra rb)) := by
  refine ⟨fun wh pins s σ H Q I h => (pw_or ha hb).run wh pins s σ H Q I ?_⟩
  rw [lT, truR_or] at h
  obtain ⟨ρ, env, M, S, E, h⟩ := h
  refine ⟨ρ, env, M, S, E, h.test fun k x M1 ρ1 H1 e1 S1 q h1 => ?_⟩
  cases k with
  | true => exact iteT (Post.here (x := true) (v := true) S1 rfl h1)
  | false => exact iteF ⟨ρ1, env, M1, S1, E.mono S e1, h1⟩
theorem w_and1 (ha : PT X a (lT X W ra)) : PW X (.BoolOp .And [a] pos) (lT X W ra) := pw_and1 ha
theorem w_or1 (ha : PT X a (lT X W ra)) : PW X (.BoolOp .Or [a] pos) (lT X W ra) := pw_or1 ha
def notR (ra : Env → Sto → Res PV) : Env → Sto → Res PV := fun env M => (ra env M).bind fun x M1 => Res.of ((truV M1 x).map fun b => .bl (!b)) M1
theorem truR_not : truR (notR ra) = fun env M => (ra env M).bind fun x M1 => match truV M1 x with
    | some true => .ok false M1
    | some false => .ok true M1
    | none => .bad := by
  funext env M
  unfold truR notR
  rw [Res.bind_assoc]
  congr 1
  funext x M1
  cases q : truV M1 x with
  | none => rfl
  | some k => cases k <;> rfl
theorem t_not (ha : PT X a (lT X W ra)) : PT X (.UnaryOp .Not a pos) (lT X W (notR ra)) := by
  refine PT.weak (pt_not ha) fun σ H Q h => ?_
  rw [lT, truR_not] at h
  obtain ⟨ρ, env, M, S, E, h⟩ := h
  refine ⟨ρ, env, M, S, E, h.test fun k x M1 ρ1 H1 e1 S1 q h1 => ?_⟩
  cases k with
  | true => exact Post.here (x := false) (v := false) S1 rfl h1
  | false => exact Post.here (x := true) (v := true) S1 rfl h1
theorem s_ife (hc : PT X c (lT X W rc)) (ha : PE X a (lE X W ra)) (hb : PE X b (lE X W rb)) : PE X (.IfExp c a b pos) (lE X W fun env M => (rc env M).bind fun x M1 => match truV M1 x with
    | some true => ra env M1
    | some false => rb env M1
    | none => .bad) := by
  refine PE.weak (pe_ifExp hc ha hb) fun σ H Q h => ?_
  obtain ⟨ρ, env, M, S, E, h⟩ := h
  refine ⟨ρ, env, M, S, E, Post.test h fun k x M1 ρ1 H1 e1 S1 q h1 => ?_⟩
  cases k with
  | true => exact iteT ⟨ρ1, env, M1, S1, E.mono S e1, h1⟩
  | false => exact iteF ⟨ρ1, env, M1, S1, E.mono S e1, h1⟩
/-! ### lists of arguments, displays -/
theorem s_nil : PA X [] (lA X W fun _ M => .ok [] M) := by
  refine ⟨fun pos pins s σ H Q I h => pa_nil.run pos pins s σ H Q I ?_⟩
  obtain ⟨ρ, env, M, S, E, h⟩ := h
  exact h.here S .nil
theorem s_cons (hs : isStar a = false) (ha : PE X a (lE X W ra)) (hr : PA X es (lA X W rs)) : PA X (a :: es) (lA X W fun env M => (ra env M).bind fun x M1 => (rs env M1).bind fun xs M2 => .ok (x :: xs) M2) := by
  refine ⟨fun pos pins s σ H Q I h => (pa_cons ha hr (star_ne hs _ _)).run pos pins s σ H Q I ?_⟩
  refine lR.chain h fun ρ env M x M1 ρ1 v H1 S E e1 S1 E1 r1 h1 => ?_
  exact ⟨ρ1, env, M1, S1, E1, h1.chain fun y M2 ρ2 w H2 e2 S2 r2 h2 => h2.here S2 (.cons (r1.mono S1 e2) r2)⟩
theorem s_tup {k : Nat} (h : PA X es (lA X W rs)) : PE X (.Tuple es k pos) (lE X W fun env M => (rs env M).bind fun xs M1 => if xs.length ≤ sizeLine then .ok (.tup xs) M1 else .bad) := by
  refine PE.weak (pe_tup h) fun σ H Q h => ?_
  refine lR.chain h fun ρ env M x M1 ρ1 v H1 S E e1 S1 E1 r1 h1 => ?_
  split at h1
  · rename_i c
    exact ⟨by rw [← r1.length]; exact c, Post.tup S1 r1 h1⟩
  · exact h1.elim
theorem s_lst (h : PA X es (lA X W rs)) : PE X (.List es pos) (lE X W fun env M => (rs env M).bind fun xs M1 => if xs.length ≤ sizeLine then alloc (.lst xs) M1 else .bad) := by
  refine PE.weak (pe_lst h) fun σ H Q h => ?_
  refine lR.chain h fun ρ env M x M1 ρ1 v H1 S E e1 S1 E1 r1 h1 => ?_
  split at h1
  · rename_i c
    exact ⟨by rw [← r1.length]; exact c, Post.alloc (o := .lst _) (ho := .lst _) S1 r1 h1⟩
  · exact h1.elim
/-- an item, of a list, a tuple, a text or a dict -/
theorem ix_dict (hu : X.A.units + 1 < cLine) (ha : PE X a ta) (hb : PE X b tb) (hi : isSlice b = false) :
    PE X (.Subscript a b pos) (fun σ H Q => ta σ H fun x H1 => tb σ H1 fun y H2 => ∃ p v, x = .ref p ∧ DGet H2 p y (some v) ∧ Q v H2) := pe_dget hu ha hb (fun o i => plain_ix hi o i)
theorem s_sub (hu : X.A.units + 64 < cLine) (hi : isSlice b = false) (ha : PE X a (lE X W ra)) (hb : PE X b (lE X W rb)) :
    PE X (.Subscript a b pos) (lE X W fun env M => (ra env M).bind fun x M1 => (rb env M1).bind fun y M2 => Res.of (subV x y M2) M2) := by
  have h1 := pe_ix (X := X) (pos := pos) ix_seq ha hb (fun o i => plain_ix hi o i)
  have h2 := ix_dict (X := X) (pos := pos) (by omega : X.A.units + 1 < cLine) ha hb hi
  refine ⟨fun pins s σ H Q I h => ?_⟩
  obtain ⟨ρ, env, M, S, E, h⟩ := h
  have go : (tOp (rIx X.K) (lE X W ra) (lE X W rb)) σ H Q ∨ (lE X W ra σ H fun x H1 => lE X W rb σ H1 fun y H2 => ∃ p v, x = .ref p ∧ DGet H2 p y (some v) ∧ Q v H2) := by
    cases qa : ra env M with
    | bad => dsimp only at h; rw [qa] at h; exact h.elim
    | exc x M1 => dsimp only at h; rw [qa] at h; exact .inl ⟨ρ, env, M, S, E, by rw [qa]; exact h⟩
    | ok x M1 =>
      dsimp only at h
      rw [qa, Res.bind_ok] at h
      cases qb : rb env M1 with
      | bad => rw [qb] at h; exact h.elim
      | exc y M2 =>
        rw [qb] at h
        refine .inl ⟨ρ, env, M, S, E, ?_⟩
        rw [qa]
        intro ρ1 v H1 e1 S1 r1
        exact ⟨ρ1, env, M1, S1, E.mono S e1, by rw [qb]; exact h.at e1⟩
      | ok y M2 =>
        rw [qb, Res.bind_ok] at h
        cases qs : subV x y M2 with
        | none => rw [qs] at h; exact h.elim
        | some z =>
          rw [qs] at h
          by_cases c : isD M2 x = true
          · refine .inr ⟨ρ, env, M, S, E, ?_⟩
            rw [qa]
            intro ρ1 v H1 e1 S1 r1
            refine ⟨ρ1, env, M1, S1, E.mono S e1, ?_⟩
            rw [qb]
            intro ρ2 w H2 e2 S2 r2
            rcases subV_ok (Q := Q) S2 (r1.mono S1 e2) r2 qs (fun z' rz => h ρ2 z' H2 (e1.trans e2) S2 rz) with ⟨n, _⟩ | ⟨_, q⟩
            · rw [n] at c; cases c
            · exact q
          · refine .inl ⟨ρ, env, M, S, E, ?_⟩
            rw [qa]
            intro ρ1 v H1 e1 S1 r1
            refine ⟨ρ1, env, M1, S1, E.mono S e1, ?_⟩
            rw [qb]
            intro ρ2 w H2 e2 S2 r2
            rcases subV_ok (Q := Q) S2 (r1.mono S1 e2) r2 qs (fun z' rz => h ρ2 z' H2 (e1.trans e2) S2 rz) with ⟨_, q⟩ | ⟨n, _⟩
            · exact q
            · exact absurd n c
  exact go.elim (h1.run pins s σ H Q I) (h2.run pins s σ H Q I)

/-! ### slices -/
theorem s_no : PO X none (lO X W fun _ M => .ok none M) := by
  refine ⟨fun pins s σ H Q I h => po_none.run pins s σ H Q I ?_⟩
  obtain ⟨ρ, env, M, S, E, h⟩ := h
  exact Post.here (x := none) (v := none) S rfl h
theorem s_part (ha : PE X a (lE X W ra)) : PO X (some a) (lO X W fun env M => optI (ra env M)) := by
  refine ⟨fun pins s σ H Q I h => (po_some ha).run pins s σ H Q I ?_⟩
  refine lR.chain h fun ρ env M x M1 ρ1 v H1 S E e1 S1 E1 r1 h1 => ?_
  cases x <;> first | exact h1.elim | skip
  cases r1.int_inv
  exact ⟨_, rfl, Post.here (α := Option Int) (R := eqR) S1 rfl h1⟩
theorem s_slc {lo hi : Option Expr} {rl rh : Env → Sto → Res (Option Int)} {p2 : Pos} (ha : PE X a (lE X W ra)) (hl : PO X lo (lO X W rl)) (hh : PO X hi (lO X W rh)) :
    PE X (.Subscript a (.Slice lo hi none p2) pos) (lE X W fun env M => (ra env M).bind fun x M1 => (rl env M1).bind fun l M2 => (rh env M2).bind fun h M3 => slcV x l h M3) := by
  refine PE.weak (pe_slice sl_any ha hl hh) fun σ H Q h => ?_
  refine lR.chain h fun ρ env M x M1 ρ1 v H1 S E e1 S1 E1 r1 h1 => ?_
  refine ⟨ρ1, env, M1, S1, E1, h1.chain fun l M2 ρ2 l' H2 e2 S2 r2 h2 => ?_⟩
  refine ⟨ρ2, env, M2, S2, E1.mono S1 e2, h2.chain fun u M3 ρ3 u' H3 e3 S3 r3 h3 => ?_⟩
  cases r2; cases r3
  exact slcV_ok S3 (r1.mono S1 (e2.trans e3)) h3
theorem s_rev {k : Nat} {p1 p2 p3 : Pos} (ha : PE X a (lE X W ra)) : PE X (.Subscript a (.Slice none none (some (.UnaryOp .USub (.Constant (.int 1) k p1) p2)) p3) pos) (lE X W fun env M => (ra env M).bind fun x M1 => revV x M1) := by
  refine PE.weak (pe_revL ha) fun σ H Q h => ?_
  exact lR.chain h fun ρ env M x M1 ρ1 v H1 S E e1 S1 E1 r1 h1 => revV_ok S1 r1 h1
/-! ### built-ins -/
theorem boot_bi (f : BI) : bootBuiltins f.name = some f.val := by cases f <;> decide +kernel
theorem bi_names (f : BI) : f.name ≠ "__name__" ∧ (f.name == ("__debug__" : Str)) = false := by cases f <;> exact ⟨by decide +kernel, by decide +kernel⟩
theorem pe_bi {f : BI} {r : RC} {t : TA} (hc : CallR X f.val r) (hg : Gl X f.name) (hm : X.mg f.name = none) (ha : PA X (a :: es) t) (hs : noStar (a :: es) = true) : PE X (.Call (.Name f.name p) (a :: es) [] pos) (tCB r t) := by
  have h1 : isStar a = false := by
    have := List.all_eq_true.mp hs a List.mem_cons_self
    simpa using this
  have h2 : noStar es = true := List.all_eq_true.mpr fun x hx => List.all_eq_true.mp hs x (List.mem_cons_of_mem _ hx)
  have hb := boot_bi f
  obtain ⟨n1, n2⟩ := bi_names f
  cases f <;> first
    | exact pe_callB hc hg hm hb ha n1 n2 (star_ne h1 _ _) (any_star _ _ h2)
    | exact pe_callTy hc hg hm hb ha n1 n2 (star_ne h1 _ _) (any_star _ _ h2)
theorem s_blt {f : BI} (hc : X.calm = true) (hgd : X.A.guards = some []) (hu : X.A.units + 66 < cLine) (hg : Gl X f.name) (hm : X.mg f.name = none) (ha : PA X (a :: es) (lA X W rs)) (hs : noStar (a :: es) = true) :
    PE X (.Call (.Name f.name p) (a :: es) [] pos) (lE X W fun env M => (rs env M).bind fun xs M1 => bltV f xs M1) := by
  refine PE.weak (pe_bi (cr_blt hc hgd hu f) hg hm ha hs) fun σ H Q h => ?_
  exact lR.chain h fun ρ env M x M1 ρ1 v H1 S E e1 S1 E1 r1 h1 => bltV_ok f S1 r1 h1
end
end Ev

set_option Elab.async false
set_option linter.all false
set_option maxRecDepth 100000
set_option maxHeartbeats 4000000
/-! Ev8: dicts that are written, isinstance, methods, calls, comprehensions. -/
namespace Ev
open PySem L2
section
variable {X : Cx} {W : WX} {a b c e : Expr} {es : List Expr} {pos p : Pos} {ra rb rc : Env → Sto → Res PV} {rs : Env → Sto → Res (List PV)}
/-! ### written dicts -/
theorem RKs.put {K : PySem.W.Frag} {mg : Str → Option Value} {ρ : List Addr} {H : Hp} {kvs : List (Key × PV)} {ws : List (Key × V)} (h : RKs K mg ρ H kvs ws) {k : Key} {x : PV} {v : V} (r : RV K mg ρ H x v) : RKs K mg ρ H (putP kvs k x) (putK ws k v) := by
  have any : ∀ {kvs : List (Key × PV)} {ws : List (Key × V)}, RKs K mg ρ H kvs ws → (kvs.any fun kv => decide (kv.1 = k)) = (ws.any fun kv => decide (kv.1 = k)) := by
    intro kvs ws h
    induction h with
    | nil => rfl
    | cons a _ ih => rw [List.any_cons, List.any_cons, ih, a.1]
  unfold putP putK
  rw [any h]
  split
  · induction h with
    | nil => exact .nil
    | @cons p q ps qs a t ih =>
      rename_i c
      refine .cons ?_ (Paired.mapP ?_ fun _ _ z => z)
      · by_cases e : p.1 = k
        · have e2 : q.1 = k := a.1 ▸ e
          simp only [if_pos e, if_pos e2]
          exact ⟨a.1, r⟩
        · have e2 : ¬ q.1 = k := fun z => e (a.1.trans z)
          simp only [if_neg e, if_neg e2]
          exact a
      · clear ih c
        induction t with
        | nil => exact .nil
        | @cons p q ps qs a t ih =>
          refine .cons ?_ ih
          by_cases e : p.1 = k
          · have e2 : q.1 = k := a.1 ▸ e
            simp only [if_pos e, if_pos e2]
            exact ⟨a.1, r⟩
          · have e2 : ¬ q.1 = k := fun z => e (a.1.trans z)
            simp only [if_neg e, if_neg e2]
            exact a
  · have app : ∀ {kvs : List (Key × PV)} {ws : List (Key × V)}, RKs K mg ρ H kvs ws → RKs K mg ρ H (kvs ++ [(k, x)]) (ws ++ [(k, v)]) := by
      intro kvs ws h
      induction h with
      | nil => exact .cons ⟨rfl, r⟩ .nil
      | cons a _ ih => exact .cons a ih
    exact app h
theorem RKs.fold {K : PySem.W.Frag} {mg : Str → Option Value} {ρ : List Addr} {H : Hp} : ∀ (js : List Key) {xs : List PV} {vs : List V} {kvs : List (Key × PV)} {ws : List (Key × V)}, RVs K mg ρ H xs vs → RKs K mg ρ H kvs ws →
    RKs K mg ρ H ((js.zip xs).foldl (fun acc kv => putP acc kv.1 kv.2) kvs) ((js.zip vs).foldl (fun acc kv => putK acc kv.1 kv.2) ws)
  | [], _, _, _, _, _, h => by simpa using h
  | j :: js, _, _, _, _, .nil, h => by simpa using h
  | j :: js, _, _, _, _, .cons a b, h => by
    simp only [List.zip_cons_cons, List.foldl_cons]
    exact RKs.fold js b (h.put a)
/-- the pairs of a written dict -/
structure PD (X : Cx) (W : WX) (pos : Pos) (js : List Key) (ke : List (Option Expr)) (ve : List Expr) (rs : Env → Sto → Res (List PV)) : Prop where
  ex : ∃ trs, PPs X pos ke ve trs ∧ ∀ σ H Q, lA X W rs σ H (fun vs H' => Q ((js.zip vs).map fun kv => (kV kv.1, kv.2)) H') → tPairs trs σ H Q
theorem d_nil : PD X W pos [] [] [] (fun _ M => .ok [] M) := ⟨[], pps_nil, fun σ H Q h => by
  obtain ⟨ρ, env, M, S, E, h⟩ := h
  exact Post.here (R := RVs X.K X.mg) (v := []) S RVs.nil h⟩
theorem d_cons {j : Key} {js : List Key} {k : Expr} {ke : List (Option Expr)} (hk : PE X k (tC (kV j))) (ha : PE X a (lE X W ra)) (hr : PD X W pos js ke es rs) :
    PD X W pos (j :: js) (some k :: ke) (a :: es) (fun env M => (ra env M).bind fun x M1 => (rs env M1).bind fun xs M2 => .ok (x :: xs) M2) := by
  obtain ⟨trs, h1, h2⟩ := hr.ex
  refine ⟨_, pps_cons hk ha h1, fun σ H Q h => ?_⟩
  show lE X W ra σ H fun y H2 => tPairs trs σ H2 fun ps H3 => Q ((kV j, y) :: ps) H3
  refine lR.chain h fun ρ env M x M1 ρ1 v H1 S E e1 S1 E1 r1 h1 => ?_
  exact h2 σ H1 _ ⟨ρ1, env, M1, S1, E1, Post.chain h1 fun y M2 ρ2 w H2 e2 S2 r2 h2 => Post.here (R := RVs X.K X.mg) (v := v :: w) S2 (RVs.cons (r1.mono S1 e2) r2) h2⟩
theorem mergeK_zip (kvs : List (Key × V)) : mergeK [] kvs = kvs.foldl (fun acc kv => putK acc kv.1 kv.2) [] := rfl
theorem s_dct {js : List Key} {ke : List (Option Expr)} (hd : PD X W pos js ke es rs) (hall : ke.all (·.isSome) = true) (hl : ke.length = es.length) (h0 : ke ≠ []) (h15 : ke.length ≤ 15) (hj : js.length = ke.length) :
    PE X (.Dict ke es pos) (lE X W fun env M => (rs env M).bind fun xs M1 => if js.length = xs.length then alloc (.dct ((js.zip xs).foldl (fun acc kv => putP acc kv.1 kv.2) [])) M1 else .bad) := by
  obtain ⟨trs, h1, h2⟩ := hd.ex
  refine PE.weak (pe_disp h1 hall hl h0 h15) fun σ H Q h => ?_
  obtain ⟨ρ, env, M, S, E, h⟩ := h
  intro q hq
  have e0 : Ext ρ H ρ (upd H q (.dK [])) := Ext.upd hq
  have hn : q ∉ ρ := S.out hq
  refine h2 σ _ _ ⟨ρ, env, M, S.upd hq, E.mono S e0, ?_⟩
  dsimp only at h
  revert h
  cases rs env M with
  | bad => exact fun h => h
  | exc x M1 => exact fun h => Post.at (r := (Res.exc x M1 : Res (List PV))) (R := RVs X.K X.mg) (Q := fun _ _ => True) h e0
  | ok xs M1 =>
    intro h ρ1 vs H1 e1 S1 r1
    have h : Post X.K X.mg (RV X.K X.mg) (fun c d H' => W c d σ H') ρ H (if js.length = xs.length then alloc (.dct ((js.zip xs).foldl (fun acc kv => putP acc kv.1 kv.2) [])) M1 else .bad) Q := h
    obtain ⟨eb, ob⟩ := Ext.beside hq e1
    obtain ⟨o1, o2⟩ := ob hn
    split at h
    · rename_i c
      refine ⟨o2, js.zip vs, rfl, by rw [List.length_zip]; omega, ?_⟩
      rw [mergeK_zip]
      have r : RKs X.K X.mg ρ1 H1 ((js.zip xs).foldl (fun acc kv => putP acc kv.1 kv.2) []) ((js.zip vs).foldl (fun acc kv => putK acc kv.1 kv.2) []) := RKs.fold js r1 .nil
      have S2 := S1.side (ho := .dK ((js.zip vs).foldl (fun acc kv => putK acc kv.1 kv.2) [])) o1 o2 (fun _ z => nomatch z) (fun _ _ z => nomatch z)
      have k2 : Kp ρ1 H1 ρ1 (upd H1 q (.dK ((js.zip vs).foldl (fun acc kv => putK acc kv.1 kv.2) []))) := Kp.side o2 (fun _ z => nomatch z) (fun _ _ z => nomatch z)
      have r2 : RO X.K X.mg ρ1 (upd H1 q (.dK ((js.zip vs).foldl (fun acc kv => putK acc kv.1 kv.2) []))) (.dct ((js.zip xs).foldl (fun acc kv => putP acc kv.1 kv.2) [])) (.dK ((js.zip vs).foldl (fun acc kv => putK acc kv.1 kv.2) [])) := r.kp k2
      have S3 := S2.adopt o1 upd_same r2
      exact h (ρ1 ++ [q]) (.ref q) _ ((eb.also hq).join hq) S3 (RV.new S1)
    · exact h.elim
/-! ### isinstance -/
theorem tyX_ok {K : PySem.W.Frag} {mg : Str → Option Value} {ρ : List Addr} {H : Hp} {M : Sto} (S : SM K mg ρ H M) {x : PV} {v : V} {t : String} (r : RV K mg ρ H x v) (e : tyN M x = some t) : TyX K H v (.type t) := by
  unfold tyN at e
  split at e
  · cases r.non_inv; cases e; exact .base .non
  · cases r.bl_inv; cases e; exact .base (.bl _)
  · cases r.int_inv; cases e; exact .base (.int _)
  · cases r.str_inv; cases e; exact .base (.str _)
  · obtain ⟨a, vs, rfl, h, _⟩ := r.tup_inv
    cases e
    rcases h with h | ⟨o, its, n, h1, h2, _⟩
    · rcases h with h | ⟨o, h⟩
      · exact .base (.tup h)
      · exact .fTuple h
    · exact .kTuple h1 h2
  · obtain ⟨a, vs, rfl, h, _⟩ := r.rol_inv
    cases e
    rcases h with ⟨o, h⟩ | ⟨o, its, n, h1, h2, _⟩
    · exact .base (.frz h)
    · exact .kList h1 h2
  · obtain ⟨a, rfl, hi⟩ := r.ref_inv
    split at e
    · rename_i q
      cases e
      obtain ⟨vs, h1, _⟩ := S.get hi q
      exact .base (.lst h1)
    · rename_i q
      cases e
      obtain ⟨vs, h1, _⟩ := S.getD hi q
      exact .base (.dK h1)
    · cases e
  · cases e
def tyNames : List String := ["NoneType", "bool", "int", "str", "tuple", "list", "dict"]
theorem tyN_mem {M : Sto} {x : PV} {t : String} (e : tyN M x = some t) : t ∈ tyNames := by
  unfold tyN at e
  split at e <;> (try split at e) <;> first | (cases e; decide) | cases e
theorem kit_all : ∀ t ∈ tyNames, ∀ c ∈ clsNames, kitB t c = some (tyLe t c) := by decide +kernel
theorem boot_cls : ∀ c ∈ clsNames, bootBuiltins (Str.ofString c) = some (.type c) ∧ Str.ofString c ≠ "__name__" ∧ (Str.ofString c == ("__debug__" : Str)) = false := by decide +kernel
theorem kit_any {K : PySem.W.Frag} {t : String} (ht : t ∈ tyNames) : ∀ {cs : List String}, (∀ c ∈ cs, c ∈ clsNames) → PySem.W.kitAny K (.type t) (cs.map Value.type) = some (cs.any fun c => tyLe t c)
  | [], _ => rfl
  | c :: cs, h => by
    refine kitAny_cons (kit_ty (kit_all t ht c (h c List.mem_cons_self))) (fun e => ?_) (fun e => ?_)
    · rw [List.any_cons, e, Bool.false_or]
      exact kit_any ht fun d hd => h d (List.mem_cons_of_mem _ hd)
    · rw [List.any_cons, e, Bool.true_or]
/-- the names of built-in classes, as arguments -/
theorem gl_of {X : Cx} {x : Str} (h : gloB X.env.scope x = true) : Gl X x ∧ (x == ("__debug__" : Str)) = false := by
  unfold gloB at h
  split at h
  · rename_i q
    exact ⟨q, by simpa using h⟩
  · cases h
theorem pa_types (hf : ∀ c ∈ clsNames, X.mg (Str.ofString c) = none) : ∀ {ts : List String} {es : List Expr}, typeNames ts es X.env.scope = true → (∀ c ∈ ts, c ∈ clsNames) ∧ PA X es (fun _ H Q => Q (ts.map V.ty) H)
  | [], [], _ => ⟨fun _ z => (nomatch z), pa_nil⟩
  | c :: cs, .Name x _ :: es, h => by
    unfold typeNames at h
    simp only [Bool.and_eq_true, decide_eq_true_eq] at h
    obtain ⟨⟨⟨rfl, h2⟩, h3⟩, h4⟩ := h
    obtain ⟨i1, i2⟩ := pa_types hf h4
    have hc : c ∈ clsNames := by simpa using h3
    obtain ⟨b1, b2, b3⟩ := boot_cls c hc
    refine ⟨fun d hd => ?_, pa_cons (pe_bltn (v := .ty c) (gl_of h2).1 (hf c hc) b1 rfl b2 b3) i2⟩
    rcases List.mem_cons.mp hd with rfl | hd
    · exact hc
    · exact i1 d hd
  | [], _ :: _, h => by unfold typeNames at h; cases h
  | _ :: _, [], h => by unfold typeNames at h; cases h
theorem boot_isi : bootBuiltins "isinstance" = some (.builtin "isinstance") := by decide +kernel
theorem pa_one {x : Expr} {v : V} (h : PE X x (tC v)) (hs : isStar x = false) : PA X [x] (fun _ H Q => Q [v] H) := pa_cons h pa_nil (star_ne hs _ _)
theorem s_isi1 {c : String} {x : Str} {p1 p2 : Pos} (hg : Gl X "isinstance") (hm : X.mg "isinstance" = none) (hf : ∀ c ∈ clsNames, X.mg (Str.ofString c) = none) (ha : PE X a (lE X W ra)) (hs : isStar a = false) {t : Expr} (ht : typeNames [c] [t] X.env.scope = true) :
    PE X (.Call (.Name "isinstance" p) [a, t] [] pos) (lE X W fun env M => (ra env M).bind fun x M1 => match tyN M1 x with
    | some t => .ok (.bl ([c].any fun c => tyLe t c)) M1
    | none => .bad) := by
  obtain ⟨hc, hp⟩ := pa_types hf ht
  have hst : isStar t = false := by
    cases t <;> first | rfl | (unfold typeNames at ht; cases ht)
  refine PE.weak (pe_callB call_isi hg hm boot_isi (pa_cons ha hp (star_ne hs _ _)) (by decide +kernel) (by decide +kernel) (star_ne hs _ _) (any_star _ _ (by unfold noStar; rw [List.all_cons, hst]; rfl))) fun σ H Q h => ?_
  refine lR.chain h fun ρ env M x M1 ρ1 v H1 S E e1 S1 E1 r1 h1 => ?_
  cases q : tyN M1 x with
  | none => rw [q] at h1; exact h1.elim
  | some t =>
    rw [q] at h1
    have hc' : c ∈ clsNames := hc c (by simp)
    refine ⟨v, .ty c, .type t, .type c, tyLe t c, rfl, .ty c, tyX_ok S1 r1 q, kit_ty (kit_all t (tyN_mem q) c hc'), ?_⟩
    have h2 := Post.here (x := PV.bl ([c].any fun c => tyLe t c)) S1 (.bl _) h1
    simpa using h2
theorem cls_pairs : ∀ ts : List String, Paired ClsV (ts.map V.ty) (ts.map Value.type)
  | [] => .nil
  | c :: cs => .cons (.ty c) (cls_pairs cs)
theorem s_isiT {ts : List String} {k : Nat} {p2 : Pos} {es : List Expr} (hg : Gl X "isinstance") (hm : X.mg "isinstance" = none) (hf : ∀ c ∈ clsNames, X.mg (Str.ofString c) = none) (ha : PE X a (lE X W ra)) (hs : isStar a = false) (ht : typeNames ts es X.env.scope = true) (hl : ts.length ≤ sizeLine) :
    PE X (.Call (.Name "isinstance" p) [a, .Tuple es k p2] [] pos) (lE X W fun env M => (ra env M).bind fun x M1 => match tyN M1 x with
    | some t => .ok (.bl (ts.any fun c => tyLe t c)) M1
    | none => .bad) := by
  obtain ⟨hc, hp⟩ := pa_types hf ht
  have hT : PA X [.Tuple es k p2] (tCons (tTup fun _ H Q => Q (ts.map V.ty) H) tNil) := pa_cons (pe_tup hp) pa_nil (star_ne rfl _ _)
  refine PE.weak (pe_callB call_isiT hg hm boot_isi (pa_cons ha hT (star_ne hs _ _)) (by decide +kernel) (by decide +kernel) (star_ne hs _ _) (any_star _ _ rfl)) fun σ H Q h => ?_
  refine lR.chain h fun ρ env M x M1 ρ1 v H1 S E e1 S1 E1 r1 h1 => ?_
  cases q : tyN M1 x with
  | none => rw [q] at h1; exact h1.elim
  | some t =>
    rw [q] at h1
    refine ⟨by rw [List.length_map]; exact hl, fun tp htp => ?_⟩
    have e2 : Ext ρ1 H1 ρ1 (upd H1 tp (.tup (ts.map V.ty))) := Ext.upd htp
    have S2 := S1.upd (o := .tup (ts.map V.ty)) htp
    have r2 := r1.mono S1 e2
    have pr : Paired ClsV (ts.map V.ty) (ts.map Value.type) := cls_pairs ts
    exact ⟨v, tp, ts.map V.ty, .type t, ts.map Value.type, _, rfl, upd_same, pr, tyX_ok S2 r2 q, kit_any (tyN_mem q) hc, h1 ρ1 _ _ e2 S2 (.bl _)⟩
/-! ### methods of lists -/
def MI.id : MI → String
  | .append => "list.append" | .pop => "list.pop" | .popAt => "list.pop" | .extend => "list.extend"
def rMt : MI → V → List V → Hp → VK → Prop
  | .append => rAppend
  | .pop => rPop
  | .popAt => rPopAt
  | .extend => rExtend
theorem mt_mi (m : MI) : MtM X m.id (rMt m) := by
  cases m with
  | append => exact mt_append
  | pop => exact mt_pop
  | popAt => exact mt_popAt
  | extend => exact mt_extend
theorem methV_ok {K : PySem.W.Frag} {mg : Str → Option Value} {ρ : List Addr} {H : Hp} {WW : XK} {M : Sto} {Q : VK} (m : MI) {x : PV} {v : V} {xs : List PV} {vs : List V} (S : SM K mg ρ H M) (rx : RV K mg ρ H x v) (rs : RVs K mg ρ H xs vs)
    (h : PostV K mg WW ρ H (methV m x xs M) Q) : rMt m v vs H Q := by
  unfold methV at h
  split at h
  · obtain ⟨a, rfl, hi⟩ := rx.ref_inv
    split at h
    · rename_i q
      obtain ⟨us, h1, h2⟩ := S.get hi q
      split at h
      · obtain ⟨w, rfl, r⟩ := rs.one_inv
        split at h
        · rename_i c
          refine ⟨a, us, w, rfl, rfl, h1, by rw [← h2.length]; exact c, ?_⟩
          exact h ρ .non _ (Ext.set (List.mem_of_getElem? hi)) (S.set hi (o := .lst _) (ho := .lst _) (h2.append (.cons r .nil))) .non
        · exact h.elim
      · cases rs.nil_inv
        split at h
        · rename_i y hy
          obtain ⟨w, hw, rw'⟩ := h2.get hy
          refine ⟨a, us, w, rfl, rfl, h1, by rw [← h2.length]; exact hw, ?_⟩
          have e : Ext ρ H ρ (upd H a (.lst us.dropLast)) := Ext.set (List.mem_of_getElem? hi)
          exact h ρ w _ e (S.set hi (o := .lst _) (ho := .lst _) h2.dropLast) (rw'.mono S e)
        · exact h.elim
      · obtain ⟨w, rfl, r⟩ := rs.one_inv
        cases r.int_inv
        split at h
        · rename_i c
          split at h
          · rename_i k hk
            split at h
            · rename_i y hy
              obtain ⟨w, hw, rw'⟩ := h2.get hy
              refine ⟨a, us, _, k, w, rfl, rfl, h1, c.1, c.2, by rw [← h2.length]; exact hk, hw, ?_⟩
              have e : Ext ρ H ρ (upd H a (.lst (us.eraseIdx k))) := Ext.set (List.mem_of_getElem? hi)
              exact h ρ w _ e (S.set hi (o := .lst _) (ho := .lst _) (h2.eraseIdx k)) (rw'.mono S e)
            · exact h.elim
          · exact h.elim
        · exact h.elim
      · obtain ⟨w, rfl, r⟩ := rs.one_inv
        obtain ⟨b, rfl, hj⟩ := r.ref_inv
        split at h
        · rename_i q2
          split at h
          · rename_i c
            obtain ⟨ws, h3, h4⟩ := S.get hj q2
            refine ⟨a, b, us, ws, rfl, rfl, h1, h3, by rw [← h2.length, ← h4.length]; exact c, ?_⟩
            exact h ρ .non _ (Ext.set (List.mem_of_getElem? hi)) (S.set hi (o := .lst _) (ho := .lst _) (h2.append h4)) .non
          · exact h.elim
        · exact h.elim
      · exact h.elim
    · exact h.elim
  · exact h.elim
theorem isL_ok {K : PySem.W.Frag} {mg : Str → Option Value} {ρ : List Addr} {H : Hp} {M : Sto} {x : PV} {v : V} (S : SM K mg ρ H M) (rx : RV K mg ρ H x v) (h : isL M x = true) : tyV K "list" v H := by
  unfold isL at h
  split at h
  · obtain ⟨a, rfl, hi⟩ := rx.ref_inv
    split at h
    · rename_i q
      obtain ⟨us, h1, h2⟩ := S.get hi q
      exact .inl ⟨rfl, us, .inl (.inl h1)⟩
    · cases h
  · cases h
def lMeth (m : MI) (ra : Env → Sto → Res PV) (rs : Env → Sto → Res (List PV)) : Env → Sto → Res PV := fun env M =>
  (ra env M).bind fun x M1 => if isL M1 x = true then (rs env M1).bind fun xs M2 => methV m x xs M2 else .bad
theorem s_meth0 {apos cpos : Pos} (ha : PE X a (lE X W ra)) (hb : isCall a = false) (hl : (apos.endLine == cpos.line) = true) : PE X (.Call (.Attribute a "pop" apos) [] [] cpos) (lE X W (lMeth .pop ra fun _ M => .ok [] M)) := by
  refine PE.weak (pe_bm0 PySem.F.plainAttrs_list PySem.F.slot_list_pop PySem.F.type_list_pop (mt_mi .pop) ha (attr_ne hb _ _) hl) fun σ H Q h => ?_
  refine lR.chain h fun ρ env M x M1 ρ1 v H1 S E e1 S1 E1 r1 h1 => ?_
  split at h1
  · rename_i c
    exact ⟨isL_ok S1 r1 c, methV_ok .pop S1 r1 .nil h1⟩
  · exact h1.elim
theorem pe_mi {m : MI} {t : TA} {apos cpos : Pos} (ha : PE X a (lE X W ra)) (hp : PA X (e :: es) t) (hb : isCall a = false) (hl : (apos.endLine == cpos.line) = true) (hs : noStar (e :: es) = true) (hn : (e :: es).length < 30) (hm : m ≠ .pop) :
    PE X (.Call (.Attribute a m.name apos) (e :: es) [] cpos) (tBM X.K "list" (rMt m) (lE X W ra) t) := by
  have h1 : isStar e = false := by
    have := List.all_eq_true.mp hs e List.mem_cons_self
    simpa using this
  have h2 : noStar es = true := List.all_eq_true.mpr fun x hx => List.all_eq_true.mp hs x (List.mem_cons_of_mem _ hx)
  have hfew : ((backTo cpos (starEach (e :: es) X.env)).all (fun x => !x.1) && (backToKw cpos (keywordEach [] X.env)).all (fun x => x.1.isSome) && decide ((e :: es).length + ([] : List Keyword).length + (if ([] : List Keyword).isEmpty then 0 else 1) < 30)) = true := by
    rw [all_star _ _ hs]
    show (true && true && decide ((e :: es).length + 0 + 0 < 30)) = true
    simpa using hn
  cases m with
  | append => exact pe_bm PySem.F.plainAttrs_list PySem.F.slot_list_append PySem.F.type_list_append (mt_mi .append) ha hp (attr_ne hb _ _) hfew hl (star_ne h1 _ _) (any_star _ _ h2)
  | pop => exact absurd rfl hm
  | popAt => exact pe_bm PySem.F.plainAttrs_list PySem.F.slot_list_pop PySem.F.type_list_pop (mt_mi .popAt) ha hp (attr_ne hb _ _) hfew hl (star_ne h1 _ _) (any_star _ _ h2)
  | extend => exact pe_bm PySem.F.plainAttrs_list PySem.F.slot_list_extend PySem.F.type_list_extend (mt_mi .extend) ha hp (attr_ne hb _ _) hfew hl (star_ne h1 _ _) (any_star _ _ h2)
theorem s_meth {m : MI} {apos cpos : Pos} (ha : PE X a (lE X W ra)) (hp : PA X (e :: es) (lA X W rs)) (hb : isCall a = false) (hl : (apos.endLine == cpos.line) = true) (hs : noStar (e :: es) = true) (hn : (e :: es).length < 30) (hm : m ≠ .pop) :
    PE X (.Call (.Attribute a m.name apos) (e :: es) [] cpos) (lE X W (lMeth m ra rs)) := by
  refine PE.weak (pe_mi ha hp hb hl hs hn hm) fun σ H Q h => ?_
  refine lR.chain h fun ρ env M x M1 ρ1 v H1 S E e1 S1 E1 r1 h1 => ?_
  split at h1
  · rename_i c
    exact ⟨isL_ok S1 r1 c, ρ1, env, M1, S1, E1, h1.chain fun xs M2 ρ2 vs H2 e2 S2 r2 h2 => methV_ok m S2 (r1.mono S1 e2) r2 h2⟩
  · exact h1.elim
end
end Ev

set_option Elab.async false
set_option linter.all false
set_option maxRecDepth 100000
set_option maxHeartbeats 4000000
/-! Ev9: calls of the text's own defs, comprehensions, what is walked. -/
namespace Ev
open PySem L2
/-- what is true of a def of the text: it does as the code says -/
structure CallAt (P : Program) (w : World) (K : PySem.W.Frag) (mg : Str → Option Value) (base : Heap) (d : Nat) (f : Str) (kw : List (Nat × List Str × List Nat)) (g : List PV → Sto → Res PV) (fa : Addr) (fd : FuncData) (ps : List Str) : Prop where
  at' : mg f = some (.ref fa)
  kp : PySem.W.keepIn K (.ref fa) = true
  len : ∀ xs M, g xs M ≠ .bad → xs.length = ps.length
  bd : ∀ (s : Shared) (us : List Value), us.length = ps.length → BindsTo s fd ⟨us, []⟩ (ps.zip us)
  kb : ∀ z ∈ kw, ∀ (s : Shared) (us ws : List Value), us.length = z.1 → ws.length = z.2.1.length → BindsTo s fd ⟨us, z.2.1.zip ws⟩ (ps.zip (permL z.2.2 (us ++ ws)))
  run : ∀ (A : Around) (outer : List PySem.Env) (s : Shared) (H : Hp) (args : Args) (us : List Value) (vs : List V) (xs : List PV) (ρ : List Addr) (M : Sto) (Q : VK) (E : XK), Room d A → A.guards = some [] → Env0 P w K mg base A outer s H → BindsTo s fd args (ps.zip us) → Vals vs us →
    SM K mg ρ H M → RVs K mg ρ H xs vs → PostV K mg E ρ H (g xs M) Q → codeAny (model P w) A (.call (.ref fa) args) (CR (L2.CX P w) outer P w H s Q E) s
section
variable {X : Cx} {W : WX} {a b c e : Expr} {es : List Expr} {pos p : Pos} {ra rb rc : Env → Sto → Res PV} {rs rk : Env → Sto → Res (List PV)}
/-- the callee runs -/
theorem run_g {pins : List (Addr × Obj)} {s : Shared} {σ : St} {H : Hp} {Q : VK} {d : Nat} {f : Str} {kw : List (Nat × List Str × List Nat)} {g : List PV → Sto → Res PV} {fa : Addr} {fd : FuncData} {ps : List Str} (C : CallAt X.prog X.w X.K X.mg X.base d f kw g fa fd ps)
    (hr : Room d X.A) (hg : X.A.guards = some []) (tk : Takes X W) (I : Inv X pins σ H s) {us zs : List Value} {kws : List (Str × Value)} {vs : List V} {xs : List PV} {ρ : List Addr} {M : Sto} (hb : BindsTo s fd ⟨us, kws⟩ (ps.zip zs)) (r : Vals vs zs) (S : SM X.K X.mg ρ H M) (rx : RVs X.K X.mg ρ H xs vs)
    (h : PostV X.K X.mg (fun c d H' => W c d σ H') ρ H (g xs M) Q) : wpAny (model X.prog X.w) X.A (call (.ref fa) us kws) (EP X pins σ Q) X.xe s := by
  refine wpAny_call (codeAny_mono (C.run X.A X.stack s H ⟨us, kws⟩ zs vs xs ρ M Q _ hr hg I.env0 hb r S rx h) fun r s' hq => ?_)
  cases r with
  | error e => exact passAt tk σ pins H s e s' I hq
  | ok fl =>
    cases fl with
    | ret u => exact I.after hq
    | next => exact False.elim hq
    | brk => exact False.elim hq
    | cont => exact False.elim hq
theorem s_call0 {d : Nat} {f : Str} {kw : List (Nat × List Str × List Nat)} {g : List PV → Sto → Res PV} {fa : Addr} {fd : FuncData} {ps : List Str} (C : CallAt X.prog X.w X.K X.mg X.base d f kw g fa fd ps) (hr : Room d X.A) (hg : X.A.guards = some []) (tk : Takes X W) (hG : Gl X f) (hdb : (f == ("__debug__" : Str)) = false) :
    PE X (.Call (.Name f p) [] [] pos) (lE X W fun _ M => g [] M) := by
  refine ⟨fun pins s σ H Q I h => ?_⟩
  obtain ⟨ρ, env, M, S, E, h⟩ := h
  refine wpAny_Call_Name_kw (ld_glob I hG C.at' ?_ hdb)
  refine PySem.W.callWith_K0 I.kIn C.kp ?_
  have hl : ([] : List PV).length = ps.length := C.len [] M fun z => by
    have h : PostV X.K X.mg (fun c d H' => W c d σ H') ρ H (g [] M) Q := h
    rw [z] at h; exact h.elim
  exact run_g C hr hg tk I (us := []) (zs := []) (C.bd s [] hl) .nil S .nil h
theorem s_call {d : Nat} {f : Str} {kw : List (Nat × List Str × List Nat)} {g : List PV → Sto → Res PV} {fa : Addr} {fd : FuncData} {ps : List Str} (C : CallAt X.prog X.w X.K X.mg X.base d f kw g fa fd ps) (hr : Room d X.A) (hg : X.A.guards = some []) (tk : Takes X W) (hG : Gl X f) (hdb : (f == ("__debug__" : Str)) = false)
    (ha : PA X (e :: es) (lA X W rs)) (hs : noStar (e :: es) = true) : PE X (.Call (.Name f p) (e :: es) [] pos) (lE X W fun env M => (rs env M).bind fun xs M1 => g xs M1) := by
  refine ⟨fun pins s σ H Q I h => ?_⟩
  refine wpAny_Call_Name_kw (ld_glob I hG C.at' ?_ hdb)
  have h1 : isStar e = false := by
    have := List.all_eq_true.mp hs e List.mem_cons_self
    simpa using this
  have h2 : noStar es = true := List.all_eq_true.mpr fun x hx => List.all_eq_true.mp hs x (List.mem_cons_of_mem _ hx)
  refine PySem.W.callWith_K (h₀ := X.base) I.ok.mod.kin C.kp (thn (ha.run pos pins s σ H _ I (lR.chain h fun ρ env M x M1 ρ1 v H1 S E e1 S1 E1 r1 h1 => (⟨ρ1, x, M1, S1, r1, h1⟩ : ∃ ρ1 x M1, SM X.K X.mg ρ1 H1 M1 ∧ RVs X.K X.mg ρ1 H1 x v ∧ PostV X.K X.mg (fun c d H' => W c d σ H') ρ1 H1 (g x M1) Q))) fun us s1 ⟨vs, H1, I1, r, ρ1, x, M1, S1, r1, q⟩ => ⟨I1.kIn, ?_⟩) (star_ne h1 _ _) (any_star _ _ h2)
  have hl : x.length = ps.length := C.len x M1 fun z => by rw [z] at q; exact q.elim
  have hl2 : us.length = ps.length := by rw [← r.length, ← r1.length]; exact hl
  exact run_g C hr hg tk I1 (C.bd s1 us hl2) r S1 r1 q
/-! keywords -/
abbrev lK (X : Cx) (W : WX) (r : Env → Sto → Res (List PV)) : TA := lR X (RVs X.K X.mg) W r
theorem k_nil : PK X [] (lK X W fun _ M => .ok [] M) := by
  refine ⟨fun pos pins s σ H Q I h => pk_nil.run pos pins s σ H Q I ?_⟩
  obtain ⟨ρ, env, M, S, E, h⟩ := h
  exact h.here S .nil
theorem k_cons {nm : Option Str} {kws : List Keyword} {kp : Pos} (ha : PE X a (lE X W ra)) (hr : PK X kws (lK X W rs)) : PK X (⟨nm, a, kp⟩ :: kws) (lK X W fun env M => (ra env M).bind fun x M1 => (rs env M1).bind fun xs M2 => .ok (x :: xs) M2) := by
  refine ⟨fun pos pins s σ H Q I h => (pk_cons ha hr).run pos pins s σ H Q I ?_⟩
  refine lR.chain h fun ρ env M x M1 ρ1 v H1 S E e1 S1 E1 r1 h1 => ?_
  exact ⟨ρ1, env, M1, S1, E1, h1.chain fun y M2 ρ2 w H2 e2 S2 r2 h2 => h2.here S2 (.cons (r1.mono S1 e2) r2)⟩
theorem RVs.perm {K : PySem.W.Frag} {mg : Str → Option Value} {ρ : List Addr} {H : Hp} {xs : List PV} {vs : List V} (h : RVs K mg ρ H xs vs) : ∀ p : List Nat, RVs K mg ρ H (permL p xs) (permL p vs)
  | [] => .nil
  | i :: p => by
    unfold permL
    rw [List.filterMap_cons, List.filterMap_cons]
    cases q : xs[i]? with
    | none =>
      have : vs[i]? = none := by
        rw [List.getElem?_eq_none_iff] at q ⊢
        rw [← h.length]; exact q
      rw [this]
      exact RVs.perm h p
    | some x =>
      obtain ⟨v, h1, h2⟩ := h.get q
      rw [h1]
      exact .cons h2 (RVs.perm h p)
theorem Vals.perm {xs : List V} {us : List Value} (h : Vals xs us) : ∀ p : List Nat, Vals (permL p xs) (permL p us)
  | [] => .nil
  | i :: p => by
    unfold permL
    rw [List.filterMap_cons, List.filterMap_cons]
    cases q : xs[i]? with
    | none =>
      have : us[i]? = none := h.none_of q
      rw [this]
      exact Vals.perm h p
    | some x =>
      obtain ⟨v, h1, h2⟩ := h.get q
      rw [h1]
      exact .cons h2 (Vals.perm h p)
/-- the names of keywords -/
def kwNames (ks : List Str) : List Keyword → Bool
  | [] => ks.isEmpty
  | ⟨nm, _, _⟩ :: ws => match ks with
    | k :: ks => decide (nm = some k) && kwNames ks ws
    | [] => false
theorem kw_all (pos : Pos) (env : PySem.Env) : ∀ {ks : List Str} {ws : List Keyword}, kwNames ks ws = true →
    (backToKw pos (keywordEach ws env)).all (·.1.isSome) = true ∧ (backToKw pos (keywordEach ws env)).filterMap (·.1) = ks ∧ (backToKw pos (keywordEach ws env)).any (·.1.isNone) = false
  | ks, [], h => by
    cases ks with
    | nil => exact ⟨rfl, rfl, rfl⟩
    | cons _ _ => cases h
  | [], ⟨_, _, _⟩ :: _, h => by cases h
  | k :: ks, ⟨nm, x, kp⟩ :: ws, h => by
    unfold kwNames at h
    simp only [Bool.and_eq_true, decide_eq_true_eq] at h
    obtain ⟨rfl, h⟩ := h
    obtain ⟨h1, h2, h3⟩ := kw_all pos env h
    refine ⟨?_, ?_, ?_⟩
    · show (true && (backToKw pos (keywordEach ws env)).all (·.1.isSome)) = true
      rw [h1]; rfl
    · show k :: (backToKw pos (keywordEach ws env)).filterMap (·.1) = k :: ks
      rw [h2]
    · show (false || (backToKw pos (keywordEach ws env)).any (·.1.isNone)) = false
      rw [h3]; rfl
def lCallk (g : List PV → Sto → Res PV) (n : Nat) (ks : List Str) (perm : List Nat) (rs rk : Env → Sto → Res (List PV)) : Env → Sto → Res PV := fun env M =>
  (rs env M).bind fun xs M1 => (rk env M1).bind fun ys M2 => if xs.length = n ∧ ys.length = ks.length then g (permL perm (xs ++ ys)) M2 else .bad
theorem run_k {pins : List (Addr × Obj)} {s : Shared} {σ : St} {H : Hp} {Q : VK} {d : Nat} {f : Str} {kw : List (Nat × List Str × List Nat)} {g : List PV → Sto → Res PV} {fa : Addr} {fd : FuncData} {ps : List Str} (C : CallAt X.prog X.w X.K X.mg X.base d f kw g fa fd ps)
    {n : Nat} {ks : List Str} {perm : List Nat} (hz : (n, ks, perm) ∈ kw) (hr : Room d X.A) (hg : X.A.guards = some []) (tk : Takes X W) (I : Inv X pins σ H s) {us ws : List Value} {vs zs : List V} {xs ys : List PV} {ρ : List Addr} {M : Sto} (r : Vals vs us) (r' : Vals zs ws) (S : SM X.K X.mg ρ H M) (rx : RVs X.K X.mg ρ H xs vs) (ry : RVs X.K X.mg ρ H ys zs)
    (h : PostV X.K X.mg (fun c d H' => W c d σ H') ρ H (if xs.length = n ∧ ys.length = ks.length then g (permL perm (xs ++ ys)) M else .bad) Q) : wpAny (model X.prog X.w) X.A (call (.ref fa) us (ks.zip ws)) (EP X pins σ Q) X.xe s := by
  split at h
  · rename_i c
    have l1 : us.length = n := by rw [← r.length, ← rx.length]; exact c.1
    have l2 : ws.length = ks.length := by rw [← r'.length, ← ry.length]; exact c.2
    exact run_g C hr hg tk I (C.kb _ hz s us ws l1 l2) (Ev.Vals.perm (r.append r') perm) S ((rx.append ry).perm perm) h
  · exact h.elim
theorem s_callk0 {d : Nat} {f : Str} {kw : List (Nat × List Str × List Nat)} {g : List PV → Sto → Res PV} {fa : Addr} {fd : FuncData} {ps : List Str} (C : CallAt X.prog X.w X.K X.mg X.base d f kw g fa fd ps) {ks : List Str} {perm : List Nat} (hz : (0, ks, perm) ∈ kw) {kws : List Keyword}
    (hr : Room d X.A) (hg : X.A.guards = some []) (tk : Takes X W) (hG : Gl X f) (hdb : (f == ("__debug__" : Str)) = false) (hk : PK X kws (lK X W rk)) (hn : kwNames ks kws = true) : PE X (.Call (.Name f p) [] kws pos) (lE X W (lCallk g 0 ks perm (fun _ M => .ok [] M) rk)) := by
  refine ⟨fun pins s σ H Q I h => ?_⟩
  obtain ⟨k1, k2, k3⟩ := kw_all pos X.env hn
  refine wpAny_Call_Name_kw (ld_glob I hG C.at' ?_ hdb)
  have h : lR X (RV X.K X.mg) W (fun env M => (rk env M).bind fun ys M2 => if ([] : List PV).length = 0 ∧ ys.length = ks.length then g (permL perm ([] ++ ys)) M2 else .bad) σ H Q := h
  refine PySem.W.callWith_KW0 (h₀ := X.base) I.ok.mod.kin C.kp k1 (thn (hk.run pos pins s σ H _ I (lR.chain h fun ρ env M x M1 ρ1 v H1 S E e1 S1 E1 r1 h1 => (⟨ρ1, x, M1, S1, r1, h1⟩ : ∃ ρ1 ys M2, SM X.K X.mg ρ1 H1 M2 ∧ RVs X.K X.mg ρ1 H1 ys v ∧ PostV X.K X.mg (fun c d H' => W c d σ H') ρ1 H1 (if ([] : List PV).length = 0 ∧ ys.length = ks.length then g (permL perm ([] ++ ys)) M2 else .bad) Q))) fun ws s1 ⟨vs, H1, I1, r, ρ1, x, M1, S1, r1, q⟩ => ⟨I1.kIn, ?_⟩) (by rw [k3]; rfl)
  rw [k2]
  exact run_k C hz hr hg tk I1 (us := []) .nil r S1 .nil r1 q
theorem s_callk {d : Nat} {f : Str} {kw : List (Nat × List Str × List Nat)} {g : List PV → Sto → Res PV} {fa : Addr} {fd : FuncData} {ps : List Str} (C : CallAt X.prog X.w X.K X.mg X.base d f kw g fa fd ps) {n : Nat} {ks : List Str} {perm : List Nat} (hz : (n, ks, perm) ∈ kw) {kws : List Keyword}
    (hr : Room d X.A) (hg : X.A.guards = some []) (tk : Takes X W) (hG : Gl X f) (hdb : (f == ("__debug__" : Str)) = false) (ha : PA X (e :: es) (lA X W rs)) (hs : noStar (e :: es) = true) (hk : PK X kws (lK X W rk)) (hn : kwNames ks kws = true) :
    PE X (.Call (.Name f p) (e :: es) kws pos) (lE X W (lCallk g n ks perm rs rk)) := by
  refine ⟨fun pins s σ H Q I h => ?_⟩
  obtain ⟨k1, k2, k3⟩ := kw_all pos X.env hn
  have h1 : isStar e = false := by
    have := List.all_eq_true.mp hs e List.mem_cons_self
    simpa using this
  refine wpAny_Call_Name_kw (ld_glob I hG C.at' ?_ hdb)
  refine PySem.W.callWith_KW (h₀ := X.base) I.ok.mod.kin C.kp k1 (thn (ha.run pos pins s σ H _ I (lR.chain h fun ρ env M x M1 ρ1 v H1 S E e1 S1 E1 r1 h1 => (⟨ρ1, env, x, M1, S1, E1, r1, h1⟩ :
    ∃ ρ1 env xs M1, SM X.K X.mg ρ1 H1 M1 ∧ RE X.K X.mg ρ1 H1 env σ ∧ RVs X.K X.mg ρ1 H1 xs v ∧ PostV X.K X.mg (fun c d H' => W c d σ H') ρ1 H1 ((rk env M1).bind fun ys M2 => if xs.length = n ∧ ys.length = ks.length then g (permL perm (xs ++ ys)) M2 else .bad) Q))) fun us s1 ⟨vs, H1, I1, r, ρ1, env, xs, M1, S1, E1, r1, q⟩ => ?_) (by rw [k3, any_star _ _ hs]; rfl) (star_ne h1 _ _)
  refine thn (hk.run pos pins s1 σ H1 _ I1 ⟨ρ1, env, M1, S1, E1, q.chain fun y M2 ρ2 w H2 e2 S2 r2 h2 => (⟨ρ2, y, M2, S2, r1.mono S1 e2, r2, h2⟩ :
    ∃ ρ2 ys M2, SM X.K X.mg ρ2 H2 M2 ∧ RVs X.K X.mg ρ2 H2 xs vs ∧ RVs X.K X.mg ρ2 H2 ys w ∧ PostV X.K X.mg (fun c d H' => W c d σ H') ρ2 H2 (if xs.length = n ∧ ys.length = ks.length then g (permL perm (xs ++ ys)) M2 else .bad) Q)⟩) fun ws s2 ⟨zs, H2, I2, rz, ρ2, ys, M2, S2, r1', r2, q2⟩ => ⟨I2.kIn, ?_⟩
  rw [k2]
  exact run_k C hz hr hg tk I2 r rz S2 r1' r2 q2
end
end Ev

set_option Elab.async false
set_option linter.all false
set_option maxRecDepth 100000
set_option maxHeartbeats 4000000
/-! Ev10: targets, what is walked, comprehensions. -/
namespace Ev
open PySem L2
/-- a code's context and the layer's -/
structure KOk (k : CK) (X : Cx) : Prop where
  N : X.N = k.N
  sc : X.env.scope = k.sc
  fn : k.all = true → ∀ x, X.fn x = true
section
variable {X : Cx} {W : WX}
theorem vis_of {k : CK} (h : KOk k X) {x : Str} (v : visB k.sc x = true) : Vis X.env.scope x := by
  unfold Vis
  rw [h.sc]
  unfold visB at v
  split at v
  · rename_i q; exact .inl q
  · rename_i q; exact .inr (.inl q)
  · rename_i q; exact .inr (.inr q)
  · cases v
theorem loc_of {k : CK} (h : KOk k X) {x : Str} (v : locB k x = true) : L2.Loc X.env.scope x ∧ (X.fn x = true ∨ X.env.scope.names.lookup x = some .local) := by
  unfold L2.Loc
  rw [h.sc]
  unfold locB at v
  split at v
  · rename_i q; exact ⟨.inl q, .inr q⟩
  · rename_i q; exact ⟨.inr q, .inl (h.fn v x)⟩
  · cases v
/-- slots that a target leaves alone -/
def Off (t : CT) (σ σ' : St) : Prop := σ'.length = σ.length ∧ ∀ j, j ∉ ctSlots t → σ'[j]? = σ[j]?
def lG (X : Cx) (t : CT) : TG := fun v σ H Q => ∃ ρ env M x env', SM X.K X.mg ρ H M ∧ RE X.K X.mg ρ H env σ ∧ RV X.K X.mg ρ H x v ∧ asgT t x env = some env' ∧ ∀ σ', RE X.K X.mg ρ H env' σ' → Off t σ σ' → Q σ' H
def lGs (X : Cx) (ts : CT) : TGs := fun vs σ H Q => ∃ ρ env M xs env', SM X.K X.mg ρ H M ∧ RE X.K X.mg ρ H env σ ∧ RVs X.K X.mg ρ H xs vs ∧ asgTs ts xs env = some env' ∧ ∀ σ', RE X.K X.mg ρ H env' σ' → Off ts σ σ' → Q σ' H
theorem PG.weak {e : Expr} {t t' : TG} (h : PG X e t) (k : ∀ v σ H Q, t' v σ H Q → t v σ H Q) : PG X e t' := ⟨fun pins s σ H v u Q I r q => h.run pins s σ H v u Q I r (k v σ H Q q)⟩
theorem PGs.weak {es : List Expr} {t t' : TGs} (h : PGs X es t) (k : ∀ v σ H Q, t' v σ H Q → t v σ H Q) : PGs X es t' := ⟨fun pins s σ H v u Q I r q => h.run pins s σ H v u Q I r (k v σ H Q q)⟩
theorem chkGs_star {k : CK} : ∀ {ts : CT} {es : List Expr}, chkG.chkGs k ts es = true → ∀ e ∈ es, isStar e = false
  | .nil, [], _ => fun _ z => (nomatch z)
  | .nil, _ :: _, h => by simp [chkG.chkGs] at h
  | .cons a r, [], h => by simp [chkG.chkGs] at h
  | .cons a r, e :: es, h => by
    simp only [chkG.chkGs, Bool.and_eq_true] at h
    intro x hx
    rcases List.mem_cons.mp hx with rfl | hx
    · cases x <;> first | rfl | (exfalso; have h1 := h.1; cases a <;> simp [chkG] at h1)
    · exact chkGs_star h.2 x hx
  | .nm _, _, h => by simp [chkG.chkGs] at h
  | .tp _, _, h => by simp [chkG.chkGs] at h
theorem each_plain (env : PySem.Env) : ∀ {es : List Expr}, (∀ e ∈ es, isStar e = false) → (assignEach es env).length = es.length ∧ (assignEach es env).findIdx? (·.1) = none
  | [], _ => ⟨rfl, rfl⟩
  | e :: es, h => by
    have h1 : isStar e = false := h e List.mem_cons_self
    obtain ⟨i1, i2⟩ := each_plain env fun x hx => h x (List.mem_cons_of_mem _ hx)
    have q : assignEach (e :: es) env = (false, assign e env) :: assignEach es env := by cases e <;> first | rfl | cases h1
    rw [q]
    refine ⟨by rw [List.length_cons, List.length_cons, i1], ?_⟩
    rw [List.findIdx?_cons, i2]; rfl
theorem each_cons {e : Expr} (env : PySem.Env) (es : List Expr) (h : isStar e = false) : (assignEach (e :: es) env).map (·.2) = assign e env :: (assignEach es env).map (·.2) := by
  cases e <;> first | rfl | cases h
theorem asgTs_len : ∀ {ts : CT} {xs : List PV} {env env' : Env} {k : CK} {es : List Expr}, asgTs ts xs env = some env' → chkG.chkGs k ts es = true → xs.length = es.length
  | .nil, [], _, _, _, [], _, _ => rfl
  | .nil, [], _, _, _, _ :: _, _, h => by simp [chkG.chkGs] at h
  | .nil, _ :: _, _, _, _, _, e, _ => by simp [asgTs] at e
  | .cons a r, [], _, _, _, _, e, _ => by simp [asgTs] at e
  | .cons a r, x :: xs, env, env', k, [], _, h => by simp [chkG.chkGs] at h
  | .cons a r, x :: xs, env, env', k, e :: es, q, h => by
    simp only [chkG.chkGs, Bool.and_eq_true] at h
    simp only [asgTs] at q
    cases q1 : asgT a x env with
    | none => rw [q1] at q; cases q
    | some env1 =>
      rw [q1] at q
      rw [List.length_cons, List.length_cons, asgTs_len q h.2]
  | .nm _, _, _, _, _, _, _, h => by simp [chkG.chkGs] at h
  | .tp _, _, _, _, _, _, _, h => by simp [chkG.chkGs] at h
mutual
theorem s_tgt {k : CK} (hk : KOk k X) (hN : X.N.Nodup) (hc : X.calm = true) : ∀ (t : CT) (e : Expr), chkG k t e = true → PG X e (lG X t)
  | .nm i, e, h => by
    cases e <;> first | (simp [chkG] at h; done) | skip
    rename_i x p
    simp only [chkG, Bool.and_eq_true, decide_eq_true_eq] at h
    obtain ⟨h1, h2⟩ := loc_of hk h.2
    refine PG.weak (pg_name hN (by rw [hk.N]; exact h.1) h1 h2) fun v σ H Q h => ?_
    obtain ⟨ρ, env, M, x, env', S, E, r, q, f⟩ := h
    simp only [asgT] at q
    cases q
    exact f _ (E.set r i) ⟨List.length_set, fun j hj => List.getElem?_set_ne (fun z => hj (by simp [ctSlots, z]))⟩
  | .tp ts, e, h => by
    cases e <;> first | (simp [chkG] at h; done) | skip
    rename_i es k2 p
    simp only [chkG] at h
    have hs := chkGs_star h
    obtain ⟨l1, l2⟩ := each_plain X.env hs
    refine PG.weak (pg_tup hc (s_tgts hk hN hc ts es h) l1 l2) fun v σ H Q hh => ?_
    obtain ⟨ρ, env, M, x, env', S, E, r, q, f⟩ := hh
    cases x <;> first | (simp [asgT] at q; done) | skip
    rename_i xs
    obtain ⟨a, vs, rfl, ha, rr⟩ := r.tup_inv
    have q' : asgTs ts xs env = some env' := q
    exact ⟨a, vs, rfl, ha, by rw [← rr.length]; exact asgTs_len q' h, ρ, env, M, xs, env', S, E, rr, q', f⟩
  | .nil, e, h => by simp [chkG] at h
  | .cons _ _, e, h => by simp [chkG] at h
theorem s_tgts {k : CK} (hk : KOk k X) (hN : X.N.Nodup) (hc : X.calm = true) : ∀ (ts : CT) (es : List Expr), chkG.chkGs k ts es = true → PGs X es (lGs X ts)
  | .nil, es, h => by
    cases es with
    | cons _ _ => simp [chkG.chkGs] at h
    | nil =>
      refine PGs.weak pgs_nil fun vs σ H Q hh => ?_
      obtain ⟨ρ, env, M, xs, env', S, E, r, q, f⟩ := hh
      cases xs with
      | cons _ _ => simp [asgTs] at q
      | nil =>
        simp only [asgTs] at q
        cases q
        exact ⟨r.nil_inv, f σ E ⟨rfl, fun _ _ => rfl⟩⟩
  | .cons a rs, es, h => by
    cases es with
    | nil => simp [chkG.chkGs] at h
    | cons e es =>
      have hs : isStar e = false := chkGs_star h e List.mem_cons_self
      simp only [chkG.chkGs, Bool.and_eq_true] at h
      refine PGs.weak (pgs_cons (s_tgt hk hN hc a e h.1) (s_tgts hk hN hc rs es h.2) (each_cons _ _ hs)) fun vs σ H Q hh => ?_
      obtain ⟨ρ, env, M, xs, env', S, E, r, q, f⟩ := hh
      cases xs with
      | nil => simp [asgTs] at q
      | cons x xs =>
        simp only [asgTs] at q
        cases q1 : asgT a x env with
        | none => rw [q1] at q; cases q
        | some env1 =>
          rw [q1] at q
          cases r with
          | cons r1 r2 =>
            refine ⟨_, _, rfl, ρ, env, M, x, env1, S, E, r1, q1, fun σ1 E1 o1 => ⟨ρ, env1, M, xs, env', S, E1, r2, q, fun σ2 E2 o2 => f σ2 E2 ⟨o2.1.trans o1.1, fun j hj => ?_⟩⟩⟩
            have hj' : j ∉ ctSlots a ∧ j ∉ ctSlots rs := by simpa [ctSlots, List.mem_append, not_or] using hj
            exact (o2.2 j hj'.2).trans (o1.2 j hj'.1)
  | .nm _, _, h => by simp [chkG.chkGs] at h
  | .tp _, _, h => by simp [chkG.chkGs] at h
end
theorem wipe_get {σ : St} {j : Nat} : ∀ vs : List Nat, (wipe σ vs)[j]? = if j ∈ vs then (if j < σ.length then some none else none) else σ[j]?
  | [] => by simp [wipe]
  | v :: vs => by
    unfold wipe
    by_cases e : v = j
    · subst e
      rw [if_pos List.mem_cons_self]
      by_cases hl : v < σ.length
      · rw [List.getElem?_set_self (by rw [wipe_length]; exact hl), if_pos hl]
      · rw [List.getElem?_eq_none (by rw [List.length_set, wipe_length]; omega), if_neg hl]
    · rw [List.getElem?_set_ne e, wipe_get vs]
      have : (j ∈ v :: vs) ↔ j ∈ vs := by
        rw [List.mem_cons]
        exact ⟨fun z => z.resolve_left fun q => e q.symm, .inr⟩
      by_cases h : j ∈ vs
      · rw [if_pos h, if_pos (this.mpr h)]
      · rw [if_neg h, if_neg fun z => h (this.mp z)]
theorem wipe_off {t : CT} {σ σ' : St} {vs : List Nat} (h : Off t (wipe σ vs) σ') (hs : ∀ j ∈ ctSlots t, j ∈ vs) : wipe σ' vs = wipe σ vs := by
  have hl : σ'.length = σ.length := by rw [h.1, wipe_length]
  refine List.ext_getElem? fun j => ?_
  rw [wipe_get, wipe_get, hl]
  by_cases hj : j ∈ vs
  · rw [if_pos hj, if_pos hj]
  · rw [if_neg hj, if_neg hj, h.2 j fun z => hj (hs j z), wipe_get, if_neg hj]

/-! ### what is walked -/
/-- the iterator gives the items, as long as the lists stand still -/
structure Wk (X : Cx) (ρ1 : List Addr) (H1 : Hp) (s : Src) (J : It) : Prop where
  go : ∀ i ρ H M, Ext ρ1 H1 ρ H → SM X.K X.mg ρ H M → keepB s.src M = true → i < s.items.length → J.go i H
  yld : ∀ i x ρ H M v H', Ext ρ1 H1 ρ H → SM X.K X.mg ρ H M → keepB s.src M = true → s.items[i]? = some x → J.yld i H v H' → Ext ρ H ρ H' ∧ SM X.K X.mg ρ H' M ∧ RV X.K X.mg ρ H' x v
  stop : ∀ ρ H M, Ext ρ1 H1 ρ H → SM X.K X.mg ρ H M → keepB s.src M = true → J.stop s.items.length H
def WkR (X : Cx) : List Addr → Hp → Src → It → Prop := fun ρ H s J => Wk X ρ H s J ∧ ∀ M, SM X.K X.mg ρ H M → True
abbrev lI (X : Cx) (W : WX) (r : Env → Sto → Res Src) : TI := lR X (fun ρ H s J => Wk X ρ H s J) W r
theorem wk_list {ρ1 : List Addr} {H1 : Hp} {M1 : Sto} {i : Nat} {a : Addr} {xs : List PV} (h : ρ1[i]? = some a) : Wk X ρ1 H1 ⟨xs, [(i, .lst xs)]⟩ (Itl X.K a) := by
  have rd : ∀ ρ H M, Ext ρ1 H1 ρ H → SM X.K X.mg ρ H M → keepB [(i, MO.lst xs)] M = true → ∃ vs, H a = some (.lst vs) ∧ RVs X.K X.mg ρ H xs vs := fun ρ H M E S k => by
    have e : M[i]? = some (.lst xs) := by simpa [keepB] using k
    have hi : ρ[i]? = some a := by
      obtain ⟨m, q⟩ := E.pre
      have : i < ρ1.length := (List.getElem?_eq_some_iff.mp h).1
      rw [q, List.getElem?_append_left this]; exact h
    exact S.get hi e
  refine ⟨fun j ρ H M E S k hj => ?_, fun j x ρ H M v H' E S k hx y => ?_, fun ρ H M E S k => ?_⟩
  · obtain ⟨vs, h1, h2⟩ := rd ρ H M E S k
    obtain ⟨v, h3, _⟩ := h2.get (List.getElem?_eq_getElem hj)
    exact ⟨vs, v, .inl (.inl h1), h3⟩
  · obtain ⟨vs, h1, h2⟩ := rd ρ H M E S k
    obtain ⟨w, h3, h4⟩ := h2.get hx
    obtain ⟨rfl, f⟩ := y
    have := f vs (.inl (.inl h1))
    rw [h3] at this
    cases this
    exact ⟨Ext.refl _ _, S, h4⟩
  · obtain ⟨vs, h1, h2⟩ := rd ρ H M E S k
    exact ⟨vs, .inl (.inl h1), by rw [← h2.length]; exact Nat.le_refl _⟩
theorem wk_rol {ρ1 : List Addr} {H1 : Hp} {M1 : Sto} (S1 : SM X.K X.mg ρ1 H1 M1) {a : Addr} {xs : List PV} {vs : List V} (h : Fzl X.K H1 a vs) (r : RVs X.K X.mg ρ1 H1 xs vs) : Wk X ρ1 H1 ⟨xs, []⟩ (Itl X.K a) := by
  refine ⟨fun j ρ H M E S k hj => ?_, fun j x ρ H M v H' E S k hx y => ?_, fun ρ H M E S k => ?_⟩
  · have kk := Kp.of S1 E
    obtain ⟨v, h3, _⟩ := (r.kp kk).get (List.getElem?_eq_getElem hj)
    exact ⟨vs, v, (h.kp kk).sq, h3⟩
  · have kk := Kp.of S1 E
    obtain ⟨w, h3, h4⟩ := (r.kp kk).get hx
    obtain ⟨rfl, f⟩ := y
    have := f vs (h.kp kk).sq
    rw [h3] at this
    cases this
    exact ⟨Ext.refl _ _, S, h4⟩
  · have kk := Kp.of S1 E
    exact ⟨vs, (h.kp kk).sq, by rw [← r.length]; exact Nat.le_refl _⟩
theorem wk_tup {ρ1 : List Addr} {H1 : Hp} {M1 : Sto} (S1 : SM X.K X.mg ρ1 H1 M1) {a : Addr} {xs : List PV} {vs : List V} (h : SqT X.K H1 a vs) (r : RVs X.K X.mg ρ1 H1 xs vs) : Wk X ρ1 H1 ⟨xs, []⟩ (Itt X.K a) := by
  refine ⟨fun j ρ H M E S k hj => ?_, fun j x ρ H M v H' E S k hx y => ?_, fun ρ H M E S k => ?_⟩
  · have kk := Kp.of S1 E
    obtain ⟨v, h3, _⟩ := (r.kp kk).get (List.getElem?_eq_getElem hj)
    exact ⟨vs, v, SqT.kp kk h, h3⟩
  · have kk := Kp.of S1 E
    obtain ⟨w, h3, h4⟩ := (r.kp kk).get hx
    obtain ⟨rfl, f⟩ := y
    have := f vs (SqT.kp kk h)
    rw [h3] at this
    cases this
    exact ⟨Ext.refl _ _, S, h4⟩
  · have kk := Kp.of S1 E
    exact ⟨vs, SqT.kp kk h, by rw [← r.length]; exact Nat.le_refl _⟩
theorem wk_rng {ρ1 : List Addr} {H1 : Hp} (a b : Int) : Wk X ρ1 H1 ⟨rgP a b, []⟩ (Itr a (b - a).toNat) := by
  have hl : (rgP a b).length = (b - a).toNat := by unfold rgP; rw [List.length_map, List.length_range]
  refine ⟨fun j ρ H M E S k hj => ?_, fun j x ρ H M v H' E S k hx y => ?_, fun ρ H M E S k => ?_⟩
  · show j < _
    rw [← hl]; exact hj
  · obtain ⟨rfl, rfl⟩ := y
    have hj : j < (b - a).toNat := by
      have := (List.getElem?_eq_some_iff.mp hx).1
      rw [← hl]; exact this
    unfold rgP at hx
    simp only [List.getElem?_map, List.getElem?_range hj, Option.map_some] at hx
    cases hx
    exact ⟨Ext.refl _ _, S, .int _⟩
  · show _ ≤ _
    rw [← hl]; exact Nat.le_refl _
section
variable {a b c e tg : Expr} {es : List Expr} {pos p : Pos} {ra rb rc : Env → Sto → Res PV}
theorem PI.or {it : Expr} {w w' : TI} (h : PI X tg it w) (h' : PI X tg it w') : PI X tg it (fun σ H R => w σ H R ∨ w' σ H R) := ⟨fun pins s σ H R I q => q.elim (h.run pins s σ H R I) (h'.run pins s σ H R I)⟩
theorem PI.weak {it : Expr} {w w' : TI} (h : PI X tg it w) (k : ∀ σ H R, w' σ H R → w σ H R) : PI X tg it w' := ⟨fun pins s σ H R I q => h.run pins s σ H R I (k σ H R q)⟩
def evalIv (ra : Env → Sto → Res PV) : Env → Sto → Res Src := fun env M => (ra env M).bind fun x M1 => match seqOf M1 x with
    | some xs => .ok ⟨xs, srcOf M1 x⟩ M1
    | none => .bad
theorem i_iv (ha : PE X a (lE X W ra)) : PI X tg a (lI X W (evalIv ra)) := by
  refine PI.weak (PI.or (pi_list ha) (pi_tup ha)) fun σ H R h => ?_
  obtain ⟨ρ, env, M, S, E, h⟩ := h
  unfold evalIv at h
  cases qa : ra env M with
  | bad => rw [qa] at h; exact h.elim
  | exc x M1 => rw [qa] at h; exact .inl ⟨ρ, env, M, S, E, by rw [qa]; exact h⟩
  | ok x M1 =>
    rw [qa, Res.bind_ok] at h
    cases qs : seqOf M1 x with
    | none => rw [qs] at h; exact h.elim
    | some xs =>
      rw [qs] at h
      by_cases c : ∃ ys, x = .tup ys
      · obtain ⟨ys, rfl⟩ := c
        cases qs
        refine .inr ⟨ρ, env, M, S, E, ?_⟩
        rw [qa]
        intro ρ1 v H1 e1 S1 r1
        obtain ⟨q, vs, rfl, h1, h2⟩ := r1.tup_inv
        exact ⟨q, rfl, ⟨vs, h1⟩, h ρ1 _ H1 e1 S1 (wk_tup S1 h1 h2)⟩
      · refine .inl ⟨ρ, env, M, S, E, ?_⟩
        rw [qa]
        intro ρ1 v H1 e1 S1 r1
        cases x <;> first | (cases qs; done) | (exact absurd ⟨_, rfl⟩ c) | skip
        · cases qs
          obtain ⟨q, vs, rfl, h1, h2⟩ := r1.rol_inv
          exact ⟨q, rfl, ⟨vs, h1.sq⟩, h ρ1 _ H1 e1 S1 (wk_rol S1 h1 h2)⟩
        · rename_i i
          obtain ⟨q, vs, rfl, hi, h1, h2⟩ := lst_read S1 r1 qs
          refine ⟨q, rfl, ⟨vs, .inl (.inl h1)⟩, h ρ1 _ H1 e1 S1 ?_⟩
          have qm : M1[i]? = some (.lst xs) := by
            have qs' : lstOf M1 i = some xs := qs
            unfold lstOf at qs'
            cases z : M1[i]? with
            | none => rw [z] at qs'; cases qs'
            | some o =>
              rw [z] at qs'
              cases o with
              | lst _ => cases qs'; rfl
              | dct _ => cases qs'
          have es : srcOf M1 (.ref i) = [(i, .lst xs)] := by simp only [srcOf, qm]
          rw [es]
          exact wk_list (M1 := M1) hi
theorem i_rg1 (hg : Gl X "range") (hm : X.mg "range" = none) (ha : PE X a (lE X W ra)) (hs : isStar a = false) : PI X tg (.Call (.Name "range" p) [a] [] pos) (lI X W fun env M => (ra env M).bind fun x M1 => match x with
    | .int n => if rgOk 0 n = true then .ok ⟨rgP 0 n, []⟩ M1 else .bad
    | _ => .bad) := by
  refine PI.weak (pi_range1 hg hm (pa_cons ha pa_nil (star_ne hs _ _)) (star_ne hs _ _)) fun σ H R h => ?_
  refine lR.chain h fun ρ env M x M1 ρ1 v H1 S E e1 S1 E1 r1 h1 => ?_
  cases x <;> first | exact h1.elim | skip
  cases r1.int_inv
  rename_i n
  have h1 : Post X.K X.mg (fun ρ H s J => Wk X ρ H s J) (fun c d H' => W c d σ H') ρ1 H1 (if rgOk 0 n = true then .ok ⟨rgP 0 n, []⟩ M1 else .bad) R := h1
  split at h1
  · rename_i c
    simp only [rgOk, Bool.and_eq_true, decide_eq_true_eq] at c
    refine ⟨n, rfl, c.1.2, c.2, ?_⟩
    have q := wk_rng (X := X) (ρ1 := ρ1) (H1 := H1) 0 n
    rw [Int.sub_zero] at q
    exact h1 ρ1 _ H1 (Ext.refl _ _) S1 q
  · exact h1.elim
theorem i_rg2 (hg : Gl X "range") (hm : X.mg "range" = none) (ha : PE X a (lE X W ra)) (hb : PE X b (lE X W rb)) (hs : isStar a = false) (hs2 : isStar b = false) : PI X tg (.Call (.Name "range" p) [a, b] [] pos) (lI X W fun env M => (ra env M).bind fun x M1 => (rb env M1).bind fun y M2 => match x, y with
    | .int i, .int j => if rgOk i j = true then .ok ⟨rgP i j, []⟩ M2 else .bad
    | _, _ => .bad) := by
  refine PI.weak (pi_range2 hg hm (pa_cons ha (pa_cons hb pa_nil (star_ne hs2 _ _)) (star_ne hs _ _)) (by rw [star_ne hs, star_ne hs2]; rfl) (star_ne hs2 _ _)) fun σ H R h => ?_
  refine lR.chain h fun ρ env M x M1 ρ1 v H1 S E e1 S1 E1 r1 h1 => ?_
  refine ⟨ρ1, env, M1, S1, E1, h1.chain fun y M2 ρ2 w H2 e2 S2 r2 h2 => ?_⟩
  split at h2
  · cases r1.int_inv; cases r2.int_inv
    rename_i i j
    split at h2
    · rename_i c
      simp only [rgOk, Bool.and_eq_true, decide_eq_true_eq] at c
      exact ⟨_, _, rfl, ⟨c.1.1.1, c.1.1.2, c.1.2, c.2⟩, h2 ρ2 _ H2 (Ext.refl _ _) S2 (wk_rng _ _)⟩
    · exact h2.elim
  · exact h2.elim
/-! ### comprehensions -/
theorem drop_get {α : Type} {xs : List α} {i : Nat} {x : α} {r : List α} (h : xs.drop i = x :: r) : xs[i]? = some x ∧ xs.drop (i + 1) = r ∧ i < xs.length := by
  have hl : i < xs.length := by
    by_cases z : i < xs.length
    · exact z
    · rw [List.drop_eq_nil_of_le (by omega)] at h; cases h
  rw [List.drop_eq_getElem_cons hl] at h
  cases h
  exact ⟨List.getElem?_eq_getElem hl, rfl, hl⟩
def W0 : WX := fun _ _ _ _ => False
/-- the block of a comprehension, at any start -/
abbrev Blk (X : Cx) (scope : Scope) (s : Shared) (H : Hp) (C : Addr) (cl : List (Str × Addr)) (fp : List Addr) : Cx := X.blk s H scope (compEnvC scope cl C X.env) fp
def lComp (t : CT) (own : List Nat) (ri : Env → Sto → Res Src) (rt : Env → Sto → Res Bool) (re : Env → Sto → Res PV) : Env → Sto → Res PV := fun env M => (ri env M).bind fun s M1 =>
    (compL (compG t (wipeP env own) rt re) (keepB s.src) s.items M1 []).bind fun ys M2 => alloc (.lst ys) M2
theorem comp_in {t : CT} {own : List Nat} {ri : Env → Sto → Res Src} {rt : Env → Sto → Res Bool} {re : Env → Sto → Res PV} {σ : St} {H : Hp} {Q : VK} (hsl : ∀ j ∈ ctSlots t, j ∈ own) (h : lE X W (lComp t own ri rt re) σ H Q) : tLc (lI X W ri) (lG X t) (lB X W0 rt) (lE X W0 re) own σ H Q := by
  unfold lComp at h
  refine lR.chain h fun ρ env M s M1 ρ1 J H1 S E e1 S1 E1 wk h1 D hD => ?_
  have hDρ : D ∉ ρ1 := S1.out hD
  -- what holds between two turns
  have key : ∃ W' : Nat → Nat → Hp → Prop, (∃ m, W' 0 m (upd H1 D (.lst []))) ∧ ∀ i m H, W' i m H →
      (J.stop i H ∧ Q (.ref D) H) ∨ (J.go i H ∧ ∃ Nx : Hp → Prop, (∀ H', Nx H' → ∃ m', m' < m ∧ W' (i + 1) m' H') ∧ ∀ x H', J.yld i H x H' → lG X t x (wipe σ own) H' fun σ2 H2 => wipe σ2 own = wipe σ own ∧ lB X W0 rt σ2 H2 fun b H3 =>
        if b = true then lE X W0 re σ2 H3 fun y H4 => ∃ acc, H4 D = some (.lst acc) ∧ acc.length < sizeLine ∧ Nx (upd H4 D (.lst (acc ++ [y]))) else Nx H3) := by
    let Pv : Nat → Hp → Prop := fun i H => ∃ ρ M acc accV, Ext ρ1 H1 ρ H ∧ SM X.K X.mg ρ H M ∧ D ∉ ρ ∧ H D = some (.lst accV) ∧ RVs X.K X.mg ρ H acc accV ∧
      PostV X.K X.mg (fun c d H' => W c d σ H') ρ1 H1 ((compL (compG t (wipeP env own) rt re) (keepB s.src) (s.items.drop i) M acc).bind fun ys M2 => alloc (.lst ys) M2) Q
    refine ⟨fun i m H => m = s.items.length - i ∧ i ≤ s.items.length ∧ Pv i H, ⟨s.items.length, rfl, Nat.zero_le _, ρ1, M1, [], [], Ext.upd hD, S1.upd hD, hDρ, upd_same, .nil, by rw [List.drop_zero]; exact h1⟩, ?_⟩
    rintro i m H2 ⟨rfl, hi, ρ2, M2, acc, accV, e2, S2, hD2, hH2, r2, h2⟩
    have k2 : keepB s.src M2 = true := by
      cases q : s.items.drop i with
      | nil =>
        rw [q] at h2
        simp only [compL] at h2
        by_cases k : keepB s.src M2 = true
        · exact k
        · rw [if_neg k] at h2; exact h2.elim
      | cons x r =>
        rw [q] at h2
        simp only [compL] at h2
        by_cases k : keepB s.src M2 = true
        · exact k
        · rw [if_neg k] at h2; exact h2.elim
    cases q : s.items.drop i with
    | nil =>
      have hl : i = s.items.length := by
        have := congrArg List.length q
        rw [List.length_drop] at this
        simp at this
        omega
      rw [q] at h2
      simp only [compL, if_pos k2, Res.bind_ok] at h2
      refine .inl ⟨by rw [hl]; exact wk.stop ρ2 H2 M2 e2 S2 k2, ?_⟩
      exact h2 (ρ2 ++ [D]) (.ref D) H2 (e2.join hD) (S2.adopt (o := .lst acc) (ho := .lst accV) hD2 hH2 r2) (RV.new S2)
    | cons x r =>
      obtain ⟨gx, gr, gi⟩ := drop_get q
      rw [q] at h2
      simp only [compL, if_pos k2] at h2
      refine .inr ⟨wk.go i ρ2 H2 M2 e2 S2 k2 gi, Pv (i + 1), fun H' p' => ⟨s.items.length - (i + 1), by omega, rfl, gi, p'⟩, fun v H3 y => ?_⟩
      obtain ⟨e3, S3, r3⟩ := wk.yld i x ρ2 H2 M2 v H3 e2 S2 k2 gx y
      have E3 : RE X.K X.mg ρ2 H3 env σ := E1.mono S1 (e2.trans e3)
      have hH3 : H3 D = some (.lst accV) := e3.keep D _ hH2 hD2
      have r2' : RVs X.K X.mg ρ2 H3 acc accV := r2.mono S2 e3
      unfold compG at h2
      cases qa : asgT t x (wipeP env own) with
      | none => rw [qa] at h2; exact h2.elim
      | some env1 =>
        rw [qa] at h2
        refine ⟨ρ2, wipeP env own, M2, x, env1, S3, E3.wipe own, r3, qa, fun σ2 E4 o4 => ⟨wipe_off o4 hsl, ρ2, env1, M2, S3, E4, ?_⟩⟩
        simp only at h2
        cases qt : rt env1 M2 with
        | bad => rw [qt] at h2; exact h2.elim
        | exc z M3 => rw [qt] at h2; exact h2.elim
        | ok b M3 =>
          rw [qt] at h2
          simp only [Res.bind_ok] at h2
          intro ρ4 b' H4 e4 S4 rb
          cases rb
          have hD4 : D ∉ ρ4 := fun z => by
            have := e4.new D z hD2
            rw [hH3] at this; cases this
          have hH4 : H4 D = some (.lst accV) := e4.keep D _ hH3 hD2
          have e14 : Ext ρ1 H1 ρ4 H4 := (e2.trans e3).trans e4
          cases b with
          | false =>
            rw [if_neg Bool.false_ne_true]
            exact ⟨ρ4, M3, acc, accV, e14, S4, hD4, hH4, r2'.mono S3 e4, by rw [gr]; exact h2⟩
          | true =>
            rw [if_pos rfl]
            refine ⟨ρ4, env1, M3, S4, E4.mono S3 e4, ?_⟩
            simp only at h2
            cases qe : re env1 M3 with
            | bad => rw [qe] at h2; exact h2.elim
            | exc z M4 => rw [qe] at h2; exact h2.elim
            | ok y M4 =>
              rw [qe] at h2
              simp only [Res.bind_ok] at h2
              intro ρ5 w H5 e5 S5 ry
              have hD5 : D ∉ ρ5 := fun z => by
                have := e5.new D z hD4
                rw [hH4] at this; cases this
              have hH5 : H5 D = some (.lst accV) := e5.keep D _ hH4 hD4
              have r5 : RVs X.K X.mg ρ5 H5 acc accV := (r2'.mono S3 e4).mono S4 e5
              by_cases c : acc.length < sizeLine
              · rw [if_pos c] at h2
                have kp : Kp ρ5 H5 ρ5 (upd H5 D (.lst (accV ++ [w]))) := Kp.side hH5 (fun _ z => nomatch z) (fun _ _ z => nomatch z)
                exact ⟨accV, hH5, by rw [← r5.length]; exact c, ρ5, M4, acc ++ [y], accV ++ [w], (e14.trans e5).also hD, S5.side hD5 hH5 (fun _ z => nomatch z) (fun _ _ z => nomatch z), hD5, upd_same, (r5.append (.cons ry .nil)).kp kp, by rw [gr]; exact h2⟩
              · rw [if_neg c] at h2; exact h2.elim
  exact key
theorem s_comp {x iter : Expr} {tests : List Expr} {sc : Scope} {own : List Nat} {ow : List (Str × Nat)} {t : CT} {ri : Env → Sto → Res Src} {rt : Env → Sto → Res Bool} {re : Env → Sto → Res PV} (hc : X.calm = true) (hN : X.N.Nodup) (hi : PI X tg iter (lI X W ri)) (ok : BlkOk X.N X.env.scope sc ow) (how : ow.map (·.2) = own)
    (hg : ∀ s H C cl fp, PG (Blk X sc s H C cl fp) tg (lG X t)) (ht : ∀ s H C cl fp, PTs (Blk X sc s H C cl fp) tests (lB X W0 rt)) (he : ∀ s H C cl fp, PE (Blk X sc s H C cl fp) x (lE X W0 re)) (hs : isSet iter = false) (hsl : ∀ j ∈ ctSlots t, j ∈ own) :
    PE X (.ListComp x [⟨tg, iter, tests, 0⟩] sc pos) (lE X W (lComp t own ri rt re)) := by
  subst how
  exact PE.weak (pe_lc (own := ow) hc hN hi ok hg ht he (folded_ne hs _)) fun σ H Q h => comp_in hsl h
/-- name = [..], the name a local -/
theorem x_setc {x iter : Expr} {tests : List Expr} {sc : Scope} {own : List Nat} {ow : List (Str × Nat)} {t : CT} {ri : Env → Sto → Res Src} {rt : Env → Sto → Res Bool} {re : Env → Sto → Res PV} {i : Nat} {y : Str} {py spos : Pos} (hc : X.calm = true) (hN : X.N.Nodup) (hy : X.N[i]? = some y) (hyl : X.env.scope.names.lookup y = some .local)
    (hsw : swapsWith (.ListComp x [⟨tg, iter, tests, 0⟩] sc pos) (some (.Name y py)) spos.line X.env = pure true) (hi : PI X tg iter (lI X W ri)) (ok : BlkOk X.N X.env.scope sc ow) (how : ow.map (·.2) = own)
    (hg : ∀ s H C cl fp, PG (Blk X sc s H C cl fp) tg (lG X t)) (ht : ∀ s H C cl fp, PTs (Blk X sc s H C cl fp) tests (lB X W0 rt)) (he : ∀ s H C cl fp, PE (Blk X sc s H C cl fp) x (lE X W0 re)) (hs : isSet iter = false) (hsl : ∀ j ∈ ctSlots t, j ∈ own) :
    PS X (.Assign [.Name y py] (.ListComp x [⟨tg, iter, tests, 0⟩] sc pos) spos) (tAsg (lE X W (lComp t own ri rt re)) (gName i)) := by
  subst how
  refine ⟨fun pins s σ H D I h => (ps_setLc (own := ow) hc hN hy hyl hsw hi ok hg ht he (folded_ne hs _)).run pins s σ H D I ?_⟩
  exact comp_in hsl h
end
end
end Ev

set_option Elab.async false
set_option linter.all false
set_option maxRecDepth 100000
set_option maxHeartbeats 8000000
/-! Ev11: the text's expressions do what the code says (printed by gen11.py). -/
namespace Ev
open PySem L2
abbrev KwT := Str → Option (List (Nat × List Str × List Nat))
def freeNames : List Str := ["len", "int", "tuple", "list", "repr", "str", "sorted", "max", "min", "all", "any", "sum", "abs", "isinstance", "range"]
/-- what is known where the code runs -/
structure XOk (G : Glob) (kw : KwT) (d : Nat) (X : Cx) : Prop where
  calm : X.calm = true
  nd : X.N.Nodup
  room : Room d X.A
  gd : X.A.guards = some []
  free : ∀ x ∈ freeNames, X.mg x = none
  cls : ∀ c ∈ clsNames, X.mg (Str.ofString c) = none
  glo : ∀ x pv, G.glo x = some pv → ∃ u v, X.mg x = some u ∧ RelV v u ∧ ∀ ρ H, RV X.K X.mg ρ H pv v
  call : ∀ f l, kw f = some l → ∃ fa fd ps, CallAt X.prog X.w X.K X.mg X.base d f l (G.call f) fa fd ps
theorem XOk.blk {G : Glob} {kw : KwT} {d : Nat} {X : Cx} (x : XOk G kw d X) (sc : Scope) (s : Shared) (H : Hp) (C : Addr) (cl : List (Str × Addr)) (fp : List Addr) : XOk G kw d (Blk X sc s H C cl fp) :=
  ⟨x.calm, x.nd, x.room, x.gd, x.free, x.cls, x.glo, x.call⟩
theorem KOk.blk {k : CK} {X : Cx} (h : KOk k X) (sc : Scope) (s : Shared) (H : Hp) (C : Addr) (cl : List (Str × Addr)) (fp : List Addr) : KOk ⟨k.N, relS sc k.sc, false, k.kw⟩ (Blk X sc s H C cl fp) :=
  ⟨h.N, by show relS sc X.env.scope = _; rw [h.sc], fun z => nomatch z⟩
theorem bi_free (f : BI) : f.name ∈ freeNames := by cases f <;> decide
section
variable {G : Glob} {d : Nat}
theorem XOk.units {kw : KwT} {X : Cx} (x : XOk G kw d X) : X.A.units + 66 < cLine := by have := x.room.un; omega
theorem gl_k {k : CK} {X : Cx} (h : KOk k X) {x : Str} (q : gloB k.sc x = true) : Gl X x ∧ (x == ("__debug__" : Str)) = false := gl_of (by rw [h.sc]; exact q)
theorem kwNames_of : ∀ {c : CE} {ks : List Str} {k : CK} {ws : List Keyword}, chkK c ks k ws = true → kwNames ks ws = true
  | .nil, ks, _, ws, h => by
    cases ks <;> cases ws <;> first | rfl | (simp [chkK] at h; done)
  | .cons a r, ks, k, ws, h => by
    cases ks with
    | nil => simp [chkK] at h
    | cons n ks =>
      cases ws with
      | nil => simp [chkK] at h
      | cons w ws =>
        obtain ⟨nm, x, p⟩ := w
        simp only [chkK, Bool.and_eq_true, decide_eq_true_eq] at h
        unfold kwNames
        simp only [h.1.1, kwNames_of h.2, decide_true, Bool.and_self]
  | .var _, _, _, _, h | .non, _, _, _, h | .bl _, _, _, _, h | .int _, _, _, _, h | .str _, _, _, _, h | .glo _, _, _, _, h | .bin _ _ _, _, _, _, h | .neg _, _, _, _, h | .not _, _, _, _, h | .cmp _ _ _, _, _, _, h | .chain _ _ _ _ _, _, _, _, h | .and _ _, _, _, _, h | .or _ _, _, _, _, h | .ife _ _ _, _, _, _, h | .tup _, _, _, _, h | .lst _, _, _, _, h | .dct _ _, _, _, _, h | .sub _ _, _, _, _, h | .no, _, _, _, h | .slc _ _ _, _, _, _, h | .rev _, _, _, _, h | .isi _ _ _, _, _, _, h | .call _ _, _, _, _, h | .callk _ _ _ _ _ _, _, _, _, h | .blt _ _, _, _, _, h | .meth _ _ _, _, _, _, h | .comp _ _ _ _ _, _, _, _, h | .iv _, _, _, _, h | .irg1 _, _, _, _, h | .irg2 _ _, _, _, _, h => by simp [chkK] at h
theorem pw_of_pt {X : Cx} {op : BoolOp} {vs : List Expr} {p : Pos} {t : TT} (h : PT X (.BoolOp op vs p) t) : PW X (.BoolOp op vs p) t := ⟨fun _ pins s σ H Q I q => h.run pins s σ H Q I q⟩
theorem typeNames_len : ∀ {ts : List String} {es : List Expr} {sc : Scope}, typeNames ts es sc = true → ts.length = es.length
  | [], [], _, _ => rfl
  | _ :: cs, .Name _ _ :: es, sc, h => by
    unfold typeNames at h
    simp only [Bool.and_eq_true] at h
    rw [List.length_cons, List.length_cons, typeNames_len h.2]
theorem s_glo {X : Cx} {W : WX} {y : Str} {p : Pos} (hg : ∀ x pv, G.glo x = some pv → ∃ u v, X.mg x = some u ∧ RelV v u ∧ ∀ ρ H, RV X.K X.mg ρ H pv v) (g1 : Gl X y) (g2 : (y == ("__debug__" : Str)) = false) : PE X (.Name y p) (lE X W (evE G (.glo y))) := by
  refine ⟨fun pins s σ H Q I h => ?_⟩
  obtain ⟨ρ, env, M, S, E, h⟩ := h
  simp only [evE] at h
  cases q : G.glo y with
  | none => rw [q] at h; exact h.elim
  | some pv =>
    rw [q] at h
    obtain ⟨u, v, hm, r, f⟩ := hg y pv q
    exact (pe_glob g1 hm r g2).run pins s σ H Q I (h.here S (f ρ H))
theorem both {X : Cx} {W : WX} {e : Expr} {r : Env → Sto → Res PV} {t : Bool} (q : PE X e (lE X W r)) (h : isTest e = false) : PE X e (lE X W r) ∧ (t = true → PT X e (lT X W r)) := ⟨q, fun _ => t_val q h⟩
theorem ts_nil {X : Cx} {W : WX} : PTs X [] (lB X W (evT G .nil)) := by
  refine ⟨fun pins s σ H Q I h => pts_nil.run pins s σ H Q I ?_⟩
  obtain ⟨ρ, env, M, S, E, h⟩ := h
  exact Post.here (x := true) (v := true) S rfl h
theorem evT_one (a : CE) : evT G (.cons a .nil) = truR (evE G a) := by
  funext env M
  simp only [evT, truR]
  congr 1
  funext x M1
  cases truV M1 x with
  | none => rfl
  | some b => cases b <;> rfl
theorem ts_one {X : Cx} {W : WX} {y : Expr} {a : CE} (h : PT X y (lT X W (evE G a))) : PTs X [y] (lB X W (evT G (.cons a .nil))) := by
  rw [evT_one]
  exact pts_one h
theorem own_of {N : List Str} : ∀ {own : List Nat} {ow : List (Str × Nat)}, (own.mapM fun i => (N[i]?).map fun x => (x, i)) = some ow → True := fun _ => trivial


mutual
theorem s_E : ∀ (c : CE) (t : Bool) (k : CK) (X : Cx) (W : WX) (e : Expr), XOk G k.kw d X → KOk k X → Takes X W → chkE c t k e = true → PE X e (lE X W (evE G c)) ∧ (t = true → PT X e (lT X W (evE G c)))
  | .var i, t, k, X, W, e, x, hk, tk, h => by
    cases e <;> first | (simp [chkE] at h; done) | skip
    simp only [chkE, Bool.and_eq_true, decide_eq_true_eq, okName, Bool.not_eq_true'] at h
    exact both (s_var (by rw [hk.N]; exact h.1.1) (vis_of hk h.1.2) h.2.1 h.2.2) rfl
  | .non, t, k, X, W, e, x, hk, tk, h => by
    cases e <;> first | (simp [chkE] at h; done) | skip
    rename_i v _ _
    cases v <;> first | (simp [chkE] at h; done) | skip
    exact both (s_const pe_non fun _ _ => .non) rfl
  | .bl b, t, k, X, W, e, x, hk, tk, h => by
    cases e <;> first | (simp [chkE] at h; done) | skip
    rename_i v _ _
    cases v <;> first | (simp [chkE] at h; done) | skip
    simp only [chkE, decide_eq_true_eq] at h
    subst h
    exact both (s_const pe_bl fun _ _ => .bl b) rfl
  | .int b, t, k, X, W, e, x, hk, tk, h => by
    cases e <;> first | (simp [chkE] at h; done) | skip
    rename_i v _ _
    cases v <;> first | (simp [chkE] at h; done) | skip
    simp only [chkE, decide_eq_true_eq] at h
    subst h
    exact both (s_const pe_int fun _ _ => .int b) rfl
  | .str b, t, k, X, W, e, x, hk, tk, h => by
    cases e <;> first | (simp [chkE] at h; done) | skip
    rename_i v _ _
    cases v <;> first | (simp [chkE] at h; done) | skip
    simp only [chkE, decide_eq_true_eq] at h
    subst h
    exact both (s_const pe_str fun _ _ => .str b) rfl
  | .glo y, t, k, X, W, e, x, hk, tk, h => by
    cases e <;> first | (simp [chkE] at h; done) | skip
    simp only [chkE, Bool.and_eq_true, decide_eq_true_eq] at h
    obtain ⟨rfl, h⟩ := h
    obtain ⟨g1, g2⟩ := gl_k hk h
    exact both (s_glo x.glo g1 g2) rfl
  | .bin op a b, t, k, X, W, e, x, hk, tk, h => by
    cases e <;> first | (simp [chkE] at h; done) | skip
    simp only [chkE, Bool.and_eq_true, decide_eq_true_eq] at h
    obtain ⟨⟨rfl, h1⟩, h2⟩ := h
    exact both (s_bin (s_E a false k X W _ x hk tk h1).1 (s_E b false k X W _ x hk tk h2).1) rfl
  | .neg a, t, k, X, W, e, x, hk, tk, h => by
    cases e <;> first | (simp [chkE] at h; done) | skip
    rename_i o _ _
    cases o <;> first | (simp [chkE] at h; done) | skip
    simp only [chkE] at h
    exact both (s_neg (s_E a false k X W _ x hk tk h).1) rfl
  | .not a, t, k, X, W, e, x, hk, tk, h => by
    cases e <;> first | (simp [chkE] at h; done) | skip
    rename_i o _ _
    cases o <;> first | (simp [chkE] at h; done) | skip
    simp only [chkE] at h
    have i := s_E a t k X W _ x hk tk h
    exact ⟨s_not i.1, fun z => t_not (i.2 z)⟩
  | .cmp op a b, t, k, X, W, e, x, hk, tk, h => by
    cases e <;> first | (simp [chkE] at h; done) | skip
    rename_i l ops rs p
    simp only [chkE] at h
    split at h
    · rename_i heq
      cases heq
      simp only [Bool.and_eq_true, decide_eq_true_eq, Bool.not_eq_true'] at h
      obtain ⟨⟨⟨rfl, h0⟩, h1⟩, h2⟩ := h
      have u : X.A.units + 64 < cLine := by have := x.units; omega
      have i1 := (s_E a false k X W _ x hk tk h1).1
      have i2 := (s_E b false k X W _ x hk tk h2).1
      exact ⟨s_cmp u i1 i2 h0, fun _ => t_cmp u i1 i2 h0⟩
    · cases h
  | .chain op op' a b c, t, k, X, W, e, x, hk, tk, h => by
    cases e <;> first | (simp [chkE] at h; done) | skip
    rename_i l ops rs p
    simp only [chkE] at h
    split at h
    · rename_i heq
      cases heq
      simp only [Bool.and_eq_true, decide_eq_true_eq, Bool.not_eq_true'] at h
      obtain ⟨⟨⟨⟨⟨⟨rfl, rfl⟩, h0⟩, h0'⟩, h1⟩, h2⟩, h3⟩ := h
      have u : X.A.units + 64 < cLine := by have := x.units; omega
      have i1 := (s_E a false k X W _ x hk tk h1).1
      have i2 := (s_E b false k X W _ x hk tk h2).1
      have i3 := (s_E c false k X W _ x hk tk h3).1
      exact ⟨s_chain u i1 i2 i3 h0', fun _ => t_chain u i1 i2 i3 h0'⟩
    · cases h
  | .and a b, t, k, X, W, e, x, hk, tk, h => by
    cases e <;> first | (simp [chkE] at h; done) | skip
    rename_i o vs p
    simp only [chkE] at h
    split at h
    · rename_i heq
      cases heq
      simp only [Bool.and_eq_true] at h
      obtain ⟨h1, h2⟩ := h
      have i1 := s_E a t k X W _ x hk tk h1
      split at h2
      · have i2 := s_E b t k X W _ x hk tk h2
        exact ⟨s_and i1.1 (s_one i2.1), fun z => (w_and (i1.2 z) (w_and1 (i2.2 z))).pt⟩
      · have i2 := s_E b t k X W _ x hk tk h2
        exact ⟨s_and i1.1 i2.1, fun z => (w_and (i1.2 z) (pw_of_pt (i2.2 z))).pt⟩
    · cases h
  | .or a b, t, k, X, W, e, x, hk, tk, h => by
    cases e <;> first | (simp [chkE] at h; done) | skip
    rename_i o vs p
    simp only [chkE] at h
    split at h
    · rename_i heq
      cases heq
      simp only [Bool.and_eq_true] at h
      obtain ⟨h1, h2⟩ := h
      have i1 := s_E a t k X W _ x hk tk h1
      split at h2
      · have i2 := s_E b t k X W _ x hk tk h2
        exact ⟨s_or i1.1 (s_one i2.1), fun z => (w_or (i1.2 z) (w_or1 (i2.2 z))).pt⟩
      · have i2 := s_E b t k X W _ x hk tk h2
        exact ⟨s_or i1.1 i2.1, fun z => (w_or (i1.2 z) (pw_of_pt (i2.2 z))).pt⟩
    · cases h
  | .ife c a b, t, k, X, W, e, x, hk, tk, h => by
    cases e <;> first | (simp [chkE] at h; done) | skip
    simp only [chkE, Bool.and_eq_true, Bool.not_eq_true'] at h
    obtain ⟨⟨⟨h0, h1⟩, h2⟩, h3⟩ := h
    refine ⟨s_ife ((s_E c true k X W _ x hk tk h1).2 rfl) (s_E a false k X W _ x hk tk h2).1 (s_E b false k X W _ x hk tk h3).1, fun z => ?_⟩
    rw [h0] at z; cases z
  | .tup as, t, k, X, W, e, x, hk, tk, h => by
    cases e <;> first | (simp [chkE] at h; done) | skip
    simp only [chkE] at h
    exact both (s_tup (s_A as k X W _ x hk tk h)) rfl
  | .lst as, t, k, X, W, e, x, hk, tk, h => by
    cases e <;> first | (simp [chkE] at h; done) | skip
    simp only [chkE] at h
    exact both (s_lst (s_A as k X W _ x hk tk h)) rfl
  | .dct ks vs, t, k, X, W, e, x, hk, tk, h => by
    cases e <;> first | (simp [chkE] at h; done) | skip
    rename_i ke ve p
    simp only [chkE, Bool.and_eq_true, decide_eq_true_eq, Bool.not_eq_true'] at h
    obtain ⟨⟨⟨⟨h1, h2⟩, h3⟩, h4⟩, h5⟩ := h
    obtain ⟨js, e1, e2, e3, pd⟩ := s_D vs ks k X W ke ve p x hk tk h1 h2 h3
    have q0 := s_dct pd e3 h3 (by intro z; rw [z] at h4; cases h4) h5 e2
    refine both (PE.weak q0 fun σ H Q hh => ?_) rfl
    obtain ⟨ρ, env, M, S, E, hh⟩ := hh
    refine ⟨ρ, env, M, S, E, ?_⟩
    simp only [evE, e1] at hh
    exact hh
  | .nil, t, k, X, W, e, x, hk, tk, h => by simp [chkE] at h
  | .cons _ _, t, k, X, W, e, x, hk, tk, h => by simp [chkE] at h
  | .sub a i, t, k, X, W, e, x, hk, tk, h => by
    cases e <;> first | (simp [chkE] at h; done) | skip
    simp only [chkE, Bool.and_eq_true, Bool.not_eq_true'] at h
    obtain ⟨⟨h0, h1⟩, h2⟩ := h
    have u : X.A.units + 64 < cLine := by have := x.units; omega
    exact both (s_sub u h0 (s_E a false k X W _ x hk tk h1).1 (s_E i false k X W _ x hk tk h2).1) rfl
  | .no, t, k, X, W, e, x, hk, tk, h => by simp [chkE] at h
  | .slc a lo hi, t, k, X, W, e, x, hk, tk, h => by
    cases e <;> first | (simp [chkE] at h; done) | skip
    rename_i o j p
    simp only [chkE] at h
    split at h
    · rename_i heq
      cases heq
      simp only [Bool.and_eq_true] at h
      obtain ⟨⟨h1, h2⟩, h3⟩ := h
      exact both (s_slc (s_E a false k X W _ x hk tk h1).1 (s_O lo k X W _ x hk tk h2) (s_O hi k X W _ x hk tk h3)) rfl
    · cases h
  | .rev a, t, k, X, W, e, x, hk, tk, h => by
    cases e <;> first | (simp [chkE] at h; done) | skip
    rename_i o j p
    simp only [chkE] at h
    split at h
    · rename_i heq
      cases heq
      exact both (s_rev (s_E a false k X W _ x hk tk h).1) rfl
    · cases h
  | .isi a ts many, t, k, X, W, e, x, hk, tk, h => by
    cases e <;> first | (simp [chkE] at h; done) | skip
    rename_i f as kws p
    simp only [chkE] at h
    split at h
    · rename_i heq
      cases heq
      simp only [Bool.and_eq_true, decide_eq_true_eq] at h
      obtain ⟨⟨⟨rfl, h1⟩, h2⟩, h3⟩ := h
      obtain ⟨g1, _⟩ := gl_k hk h1
      have hs := chkE_star h2
      have fr := x.free "isinstance" (by decide)
      have ia := (s_E a false k X W _ x hk tk h2).1
      split at h3
      · simp only [Bool.and_eq_true, decide_eq_true_eq] at h3
        exact both (s_isiT g1 fr x.cls ia hs (by rw [hk.sc]; exact h3.2) h3.1) rfl
      · simp only [Bool.and_eq_true, decide_eq_true_eq] at h3
        obtain ⟨l1, h3⟩ := h3
        match ts, l1, h3 with
        | [c], _, h3 =>
          exact both (s_isi1 (x := "x") (p1 := p) (p2 := p) g1 fr x.cls ia hs (by rw [hk.sc]; exact h3)) rfl
      · cases h3
    · cases h
  | .call f as, t, k, X, W, e, x, hk, tk, h => by
    cases e <;> first | (simp [chkE] at h; done) | skip
    rename_i g es kws p
    simp only [chkE] at h
    split at h
    · rename_i heq
      cases heq
      simp only [Bool.and_eq_true, decide_eq_true_eq] at h
      obtain ⟨⟨⟨rfl, h1⟩, h2⟩, h3⟩ := h
      obtain ⟨g1, g2⟩ := gl_k hk h1
      obtain ⟨l, hl⟩ := Option.isSome_iff_exists.mp h3
      obtain ⟨fa, fd, ps, C⟩ := x.call f l hl
      have hs := chkA_star h2
      cases es with
      | nil =>
        have en : as = .nil := by cases as <;> first | rfl | (simp [chkA] at h2)
        subst en
        exact both (s_call0 C x.room x.gd tk g1 g2) rfl
      | cons y ys =>
        exact both (s_call C x.room x.gd tk g1 g2 (s_A as k X W _ x hk tk h2) hs) rfl
    · cases h
  | .callk f n as ks kws perm, t, k, X, W, e, x, hk, tk, h => by
    cases e <;> first | (simp [chkE] at h; done) | skip
    rename_i g es ws p
    simp only [chkE] at h
    split at h
    · rename_i heq
      cases heq
      simp only [Bool.and_eq_true, decide_eq_true_eq, Bool.not_eq_true'] at h
      obtain ⟨⟨⟨⟨⟨⟨rfl, h1⟩, h2⟩, h3⟩, h4⟩, h5⟩, h6⟩ := h
      obtain ⟨g1, g2⟩ := gl_k hk h1
      split at h6
      · rename_i l hl
        obtain ⟨fa, fd, ps, C⟩ := x.call f l hl
        have hz : (n, ks, perm) ∈ l := by simpa using h6
        have hs := chkA_star h2
        have hn := kwNames_of h3
        have ik := s_K kws ks k X W ws x hk tk h3
        cases es with
        | nil =>
          have en : as = .nil := by cases as <;> first | rfl | (simp [chkA] at h2)
          subst en
          have e0 : n = 0 := h4
          subst e0
          exact both (s_callk0 C hz x.room x.gd tk g1 g2 ik hn) rfl
        | cons y ys =>
          exact both (s_callk C hz x.room x.gd tk g1 g2 (s_A as k X W _ x hk tk h2) hs ik hn) rfl
      · cases h6
    · cases h
  | .blt f as, t, k, X, W, e, x, hk, tk, h => by
    cases e <;> first | (simp [chkE] at h; done) | skip
    rename_i g es kws p
    simp only [chkE] at h
    split at h
    · rename_i heq
      cases heq
      simp only [Bool.and_eq_true, decide_eq_true_eq] at h
      obtain ⟨⟨rfl, h1⟩, h2⟩ := h
      obtain ⟨g1, g2⟩ := gl_k hk h1
      exact both (s_blt x.calm x.gd x.units g1 (x.free _ (bi_free f)) (s_A as k X W _ x hk tk h2) (chkA_star h2)) rfl
    · cases h
  | .meth m o as, t, k, X, W, e, x, hk, tk, h => by
    cases e <;> first | (simp [chkE] at h; done) | skip
    rename_i g es kws p
    simp only [chkE] at h
    split at h
    · rename_i heq
      cases heq
      simp only [Bool.and_eq_true, decide_eq_true_eq, Bool.not_eq_true'] at h
      obtain ⟨⟨⟨⟨⟨⟨rfl, h1⟩, h2⟩, h3⟩, h4⟩, h5⟩, h6⟩ := h
      have io := (s_E o false k X W _ x hk tk h3).1
      cases es with
      | nil =>
        have en : as = .nil := by cases as <;> first | rfl | (simp [chkA] at h4)
        subst en
        cases m <;> first | (simp at h6; done) | skip
        exact both (s_meth0 io h2 h1) rfl
      | cons y ys =>
        have hm : m ≠ .pop := by intro z; subst z; simp at h6
        exact both (s_meth io (s_A as k X W _ x hk tk h4) h2 h1 (chkA_star h4) h5 hm) rfl
    · cases h
  | .comp ct it ifs elt own, t, k, X, W, e, x, hk, tk, h => by
    cases e <;> first | (simp [chkE] at h; done) | skip
    rename_i y gens sc p
    simp only [chkE] at h
    split at h
    · rename_i heq
      cases heq
      simp only [Bool.and_eq_true, decide_eq_true_eq, Bool.not_eq_true'] at h
      obtain ⟨⟨⟨⟨⟨⟨⟨h0, h1⟩, h2⟩, h3⟩, h4⟩, h5⟩, h6⟩, h7⟩ := h
      subst h0
      split at h1
      · rename_i ow how
        simp only [Bool.and_eq_true, decide_eq_true_eq] at h1
        exact both (s_comp (ow := ow) x.calm x.nd (s_I it k X W _ _ x hk tk h3) (by rw [hk.N, hk.sc]; exact blkOk_by h1.1) h1.2
            (fun s H C cl fp => (s_tgt (hk.blk sc s H C cl fp) x.nd x.calm ct _ h4)) (fun s H C cl fp => (s_Ts ifs ⟨k.N, relS sc k.sc, false, k.kw⟩ _ W0 _ (x.blk sc s H C cl fp) (hk.blk sc s H C cl fp) takes0 h5)) (fun s H C cl fp => (s_E elt false ⟨k.N, relS sc k.sc, false, k.kw⟩ _ W0 _ (x.blk sc s H C cl fp) (hk.blk sc s H C cl fp) takes0 h6).1)
            h2 (fun j hj => by have := List.all_eq_true.mp h7 j hj; simpa using this)) rfl
      · cases h1
    · cases h
  | .iv _, t, k, X, W, e, x, hk, tk, h => by simp [chkE] at h
  | .irg1 _, t, k, X, W, e, x, hk, tk, h => by simp [chkE] at h
  | .irg2 _ _, t, k, X, W, e, x, hk, tk, h => by simp [chkE] at h
theorem s_A : ∀ (c : CE) (k : CK) (X : Cx) (W : WX) (es : List Expr), XOk G k.kw d X → KOk k X → Takes X W → chkA c k es = true → PA X es (lA X W (evA G c))
  | .nil, k, X, W, es, x, hk, tk, h => by
    cases es with
    | nil => exact s_nil
    | cons _ _ => simp [chkA] at h
  | .cons a r, k, X, W, es, x, hk, tk, h => by
    cases es with
    | nil => simp [chkA] at h
    | cons y ys =>
      simp only [chkA, Bool.and_eq_true] at h
      exact s_cons (chkE_star h.1) (s_E a false k X W _ x hk tk h.1).1 (s_A r k X W _ x hk tk h.2)
  | .var _, k, X, W, es, x, hk, tk, h | .non, k, X, W, es, x, hk, tk, h | .bl _, k, X, W, es, x, hk, tk, h | .int _, k, X, W, es, x, hk, tk, h | .str _, k, X, W, es, x, hk, tk, h | .glo _, k, X, W, es, x, hk, tk, h | .bin _ _ _, k, X, W, es, x, hk, tk, h | .neg _, k, X, W, es, x, hk, tk, h | .not _, k, X, W, es, x, hk, tk, h | .cmp _ _ _, k, X, W, es, x, hk, tk, h | .chain _ _ _ _ _, k, X, W, es, x, hk, tk, h | .and _ _, k, X, W, es, x, hk, tk, h | .or _ _, k, X, W, es, x, hk, tk, h | .ife _ _ _, k, X, W, es, x, hk, tk, h | .tup _, k, X, W, es, x, hk, tk, h | .lst _, k, X, W, es, x, hk, tk, h | .dct _ _, k, X, W, es, x, hk, tk, h | .sub _ _, k, X, W, es, x, hk, tk, h | .no, k, X, W, es, x, hk, tk, h | .slc _ _ _, k, X, W, es, x, hk, tk, h | .rev _, k, X, W, es, x, hk, tk, h | .isi _ _ _, k, X, W, es, x, hk, tk, h | .call _ _, k, X, W, es, x, hk, tk, h | .callk _ _ _ _ _ _, k, X, W, es, x, hk, tk, h | .blt _ _, k, X, W, es, x, hk, tk, h | .meth _ _ _, k, X, W, es, x, hk, tk, h | .comp _ _ _ _ _, k, X, W, es, x, hk, tk, h | .iv _, k, X, W, es, x, hk, tk, h | .irg1 _, k, X, W, es, x, hk, tk, h | .irg2 _ _, k, X, W, es, x, hk, tk, h => by simp [chkA] at h
theorem s_K : ∀ (c : CE) (ks : List Str) (k : CK) (X : Cx) (W : WX) (ws : List Keyword), XOk G k.kw d X → KOk k X → Takes X W → chkK c ks k ws = true → PK X ws (lK X W (evA G c))
  | .nil, ks, k, X, W, ws, x, hk, tk, h => by
    cases ws with
    | nil => exact k_nil
    | cons _ _ => cases ks <;> simp [chkK] at h
  | .cons a r, ks, k, X, W, ws, x, hk, tk, h => by
    cases ks with
    | nil => simp [chkK] at h
    | cons n ks =>
      cases ws with
      | nil => simp [chkK] at h
      | cons w ws =>
        obtain ⟨nm, y, p⟩ := w
        simp only [chkK, Bool.and_eq_true] at h
        exact k_cons (s_E a false k X W _ x hk tk h.1.2).1 (s_K r ks k X W ws x hk tk h.2)
  | .var _, ks, k, X, W, ws, x, hk, tk, h | .non, ks, k, X, W, ws, x, hk, tk, h | .bl _, ks, k, X, W, ws, x, hk, tk, h | .int _, ks, k, X, W, ws, x, hk, tk, h | .str _, ks, k, X, W, ws, x, hk, tk, h | .glo _, ks, k, X, W, ws, x, hk, tk, h | .bin _ _ _, ks, k, X, W, ws, x, hk, tk, h | .neg _, ks, k, X, W, ws, x, hk, tk, h | .not _, ks, k, X, W, ws, x, hk, tk, h | .cmp _ _ _, ks, k, X, W, ws, x, hk, tk, h | .chain _ _ _ _ _, ks, k, X, W, ws, x, hk, tk, h | .and _ _, ks, k, X, W, ws, x, hk, tk, h | .or _ _, ks, k, X, W, ws, x, hk, tk, h | .ife _ _ _, ks, k, X, W, ws, x, hk, tk, h | .tup _, ks, k, X, W, ws, x, hk, tk, h | .lst _, ks, k, X, W, ws, x, hk, tk, h | .dct _ _, ks, k, X, W, ws, x, hk, tk, h | .sub _ _, ks, k, X, W, ws, x, hk, tk, h | .no, ks, k, X, W, ws, x, hk, tk, h | .slc _ _ _, ks, k, X, W, ws, x, hk, tk, h | .rev _, ks, k, X, W, ws, x, hk, tk, h | .isi _ _ _, ks, k, X, W, ws, x, hk, tk, h | .call _ _, ks, k, X, W, ws, x, hk, tk, h | .callk _ _ _ _ _ _, ks, k, X, W, ws, x, hk, tk, h | .blt _ _, ks, k, X, W, ws, x, hk, tk, h | .meth _ _ _, ks, k, X, W, ws, x, hk, tk, h | .comp _ _ _ _ _, ks, k, X, W, ws, x, hk, tk, h | .iv _, ks, k, X, W, ws, x, hk, tk, h | .irg1 _, ks, k, X, W, ws, x, hk, tk, h | .irg2 _ _, ks, k, X, W, ws, x, hk, tk, h => by simp [chkK] at h
theorem s_D : ∀ (c ks : CE) (k : CK) (X : Cx) (W : WX) (ke : List (Option Expr)) (ve : List Expr) (pos : Pos), XOk G k.kw d X → KOk k X → Takes X W → chkD ks ke = true → chkA c k ve = true → ke.length = ve.length →
    ∃ js, dctKeys ks = some js ∧ js.length = ke.length ∧ ke.all (·.isSome) = true ∧ PD X W pos js ke ve (evA G c)
  | .nil, ks, k, X, W, ke, ve, pos, x, hk, tk, h, h', hl => by
    cases ve with
    | cons _ _ => simp [chkA] at h'
    | nil =>
      cases ke with
      | cons _ _ => cases hl
      | nil =>
        have e : ks = .nil := by cases ks <;> first | rfl | (simp [chkD] at h)
        subst e
        exact ⟨[], rfl, rfl, rfl, d_nil⟩
  | .cons a r, ks, k, X, W, ke, ve, pos, x, hk, tk, h, h', hl => by
    cases ve with
    | nil => simp [chkA] at h'
    | cons y ys =>
      simp only [chkA, Bool.and_eq_true] at h'
      cases ke with
      | nil => cases hl
      | cons z zs =>
        have ia := (s_E a false k X W _ x hk tk h'.1).1
        cases ks <;> first | (simp [chkD] at h; done) | skip
        rename_i c cs
        cases c <;> first | (simp [chkD] at h; done) | skip
        · cases z with
          | none => simp [chkD] at h
          | some z =>
            cases z <;> first | (simp [chkD] at h; done) | skip
            rename_i v _ _
            cases v <;> first | (simp [chkD] at h; done) | skip
            simp only [chkD, Bool.and_eq_true, decide_eq_true_eq] at h
            obtain ⟨rfl, h2⟩ := h
            obtain ⟨js, e1, e2, e3, pd⟩ := s_D r cs k X W zs ys pos x hk tk h2 h'.2 (Nat.succ.inj hl)
            exact ⟨.inl _ :: js, by simp only [dctKeys, e1, Option.map_some], by rw [List.length_cons, List.length_cons, e2], by rw [List.all_cons, e3]; rfl, d_cons pe_int ia pd⟩
        · cases z with
          | none => simp [chkD] at h
          | some z =>
            cases z <;> first | (simp [chkD] at h; done) | skip
            rename_i v _ _
            cases v <;> first | (simp [chkD] at h; done) | skip
            simp only [chkD, Bool.and_eq_true, decide_eq_true_eq] at h
            obtain ⟨rfl, h2⟩ := h
            obtain ⟨js, e1, e2, e3, pd⟩ := s_D r cs k X W zs ys pos x hk tk h2 h'.2 (Nat.succ.inj hl)
            exact ⟨.inr _ :: js, by simp only [dctKeys, e1, Option.map_some], by rw [List.length_cons, List.length_cons, e2], by rw [List.all_cons, e3]; rfl, d_cons pe_str ia pd⟩
  | .var _, ks, k, X, W, ke, ve, pos, x, hk, tk, h, h', _ | .non, ks, k, X, W, ke, ve, pos, x, hk, tk, h, h', _ | .bl _, ks, k, X, W, ke, ve, pos, x, hk, tk, h, h', _ | .int _, ks, k, X, W, ke, ve, pos, x, hk, tk, h, h', _ | .str _, ks, k, X, W, ke, ve, pos, x, hk, tk, h, h', _ | .glo _, ks, k, X, W, ke, ve, pos, x, hk, tk, h, h', _ | .bin _ _ _, ks, k, X, W, ke, ve, pos, x, hk, tk, h, h', _ | .neg _, ks, k, X, W, ke, ve, pos, x, hk, tk, h, h', _ | .not _, ks, k, X, W, ke, ve, pos, x, hk, tk, h, h', _ | .cmp _ _ _, ks, k, X, W, ke, ve, pos, x, hk, tk, h, h', _ | .chain _ _ _ _ _, ks, k, X, W, ke, ve, pos, x, hk, tk, h, h', _ | .and _ _, ks, k, X, W, ke, ve, pos, x, hk, tk, h, h', _ | .or _ _, ks, k, X, W, ke, ve, pos, x, hk, tk, h, h', _ | .ife _ _ _, ks, k, X, W, ke, ve, pos, x, hk, tk, h, h', _ | .tup _, ks, k, X, W, ke, ve, pos, x, hk, tk, h, h', _ | .lst _, ks, k, X, W, ke, ve, pos, x, hk, tk, h, h', _ | .dct _ _, ks, k, X, W, ke, ve, pos, x, hk, tk, h, h', _ | .sub _ _, ks, k, X, W, ke, ve, pos, x, hk, tk, h, h', _ | .no, ks, k, X, W, ke, ve, pos, x, hk, tk, h, h', _ | .slc _ _ _, ks, k, X, W, ke, ve, pos, x, hk, tk, h, h', _ | .rev _, ks, k, X, W, ke, ve, pos, x, hk, tk, h, h', _ | .isi _ _ _, ks, k, X, W, ke, ve, pos, x, hk, tk, h, h', _ | .call _ _, ks, k, X, W, ke, ve, pos, x, hk, tk, h, h', _ | .callk _ _ _ _ _ _, ks, k, X, W, ke, ve, pos, x, hk, tk, h, h', _ | .blt _ _, ks, k, X, W, ke, ve, pos, x, hk, tk, h, h', _ | .meth _ _ _, ks, k, X, W, ke, ve, pos, x, hk, tk, h, h', _ | .comp _ _ _ _ _, ks, k, X, W, ke, ve, pos, x, hk, tk, h, h', _ | .iv _, ks, k, X, W, ke, ve, pos, x, hk, tk, h, h', _ | .irg1 _, ks, k, X, W, ke, ve, pos, x, hk, tk, h, h', _ | .irg2 _ _, ks, k, X, W, ke, ve, pos, x, hk, tk, h, h', _ => by simp [chkA] at h'
theorem s_Ts : ∀ (c : CE) (k : CK) (X : Cx) (W : WX) (es : List Expr), XOk G k.kw d X → KOk k X → Takes X W → chkTs c k es = true → PTs X es (lB X W (evT G c))
  | .nil, k, X, W, es, x, hk, tk, h => by
    cases es with
    | nil => exact ts_nil
    | cons _ _ => simp [chkTs] at h
  | .cons a r, k, X, W, es, x, hk, tk, h => by
    cases r <;> first | (simp [chkTs] at h; done) | skip
    cases es with
    | nil => simp [chkTs] at h
    | cons y ys =>
      cases ys with
      | cons _ _ => simp [chkTs] at h
      | nil =>
        simp only [chkTs] at h
        exact ts_one ((s_E a true k X W _ x hk tk h).2 rfl)
  | .var _, k, X, W, es, x, hk, tk, h | .non, k, X, W, es, x, hk, tk, h | .bl _, k, X, W, es, x, hk, tk, h | .int _, k, X, W, es, x, hk, tk, h | .str _, k, X, W, es, x, hk, tk, h | .glo _, k, X, W, es, x, hk, tk, h | .bin _ _ _, k, X, W, es, x, hk, tk, h | .neg _, k, X, W, es, x, hk, tk, h | .not _, k, X, W, es, x, hk, tk, h | .cmp _ _ _, k, X, W, es, x, hk, tk, h | .chain _ _ _ _ _, k, X, W, es, x, hk, tk, h | .and _ _, k, X, W, es, x, hk, tk, h | .or _ _, k, X, W, es, x, hk, tk, h | .ife _ _ _, k, X, W, es, x, hk, tk, h | .tup _, k, X, W, es, x, hk, tk, h | .lst _, k, X, W, es, x, hk, tk, h | .dct _ _, k, X, W, es, x, hk, tk, h | .sub _ _, k, X, W, es, x, hk, tk, h | .no, k, X, W, es, x, hk, tk, h | .slc _ _ _, k, X, W, es, x, hk, tk, h | .rev _, k, X, W, es, x, hk, tk, h | .isi _ _ _, k, X, W, es, x, hk, tk, h | .call _ _, k, X, W, es, x, hk, tk, h | .callk _ _ _ _ _ _, k, X, W, es, x, hk, tk, h | .blt _ _, k, X, W, es, x, hk, tk, h | .meth _ _ _, k, X, W, es, x, hk, tk, h | .comp _ _ _ _ _, k, X, W, es, x, hk, tk, h | .iv _, k, X, W, es, x, hk, tk, h | .irg1 _, k, X, W, es, x, hk, tk, h | .irg2 _ _, k, X, W, es, x, hk, tk, h => by simp [chkTs] at h
theorem s_O : ∀ (c : CE) (k : CK) (X : Cx) (W : WX) (e : Option Expr), XOk G k.kw d X → KOk k X → Takes X W → chkO c k e = true → PO X e (lO X W (evO G c))
  | .no, k, X, W, e, x, hk, tk, h => by
    cases e with
    | none => exact s_no
    | some _ => simp [chkO] at h
  | .cons a r, k, X, W, e, x, hk, tk, h => by
    cases r <;> first | (simp [chkO] at h; done) | skip
    cases e with
    | none => simp [chkO] at h
    | some y =>
      simp only [chkO] at h
      exact s_part (s_E a false k X W _ x hk tk h).1
  | .var _, k, X, W, e, x, hk, tk, h | .non, k, X, W, e, x, hk, tk, h | .bl _, k, X, W, e, x, hk, tk, h | .int _, k, X, W, e, x, hk, tk, h | .str _, k, X, W, e, x, hk, tk, h | .glo _, k, X, W, e, x, hk, tk, h | .bin _ _ _, k, X, W, e, x, hk, tk, h | .neg _, k, X, W, e, x, hk, tk, h | .not _, k, X, W, e, x, hk, tk, h | .cmp _ _ _, k, X, W, e, x, hk, tk, h | .chain _ _ _ _ _, k, X, W, e, x, hk, tk, h | .and _ _, k, X, W, e, x, hk, tk, h | .or _ _, k, X, W, e, x, hk, tk, h | .ife _ _ _, k, X, W, e, x, hk, tk, h | .tup _, k, X, W, e, x, hk, tk, h | .lst _, k, X, W, e, x, hk, tk, h | .dct _ _, k, X, W, e, x, hk, tk, h | .nil, k, X, W, e, x, hk, tk, h | .sub _ _, k, X, W, e, x, hk, tk, h | .slc _ _ _, k, X, W, e, x, hk, tk, h | .rev _, k, X, W, e, x, hk, tk, h | .isi _ _ _, k, X, W, e, x, hk, tk, h | .call _ _, k, X, W, e, x, hk, tk, h | .callk _ _ _ _ _ _, k, X, W, e, x, hk, tk, h | .blt _ _, k, X, W, e, x, hk, tk, h | .meth _ _ _, k, X, W, e, x, hk, tk, h | .comp _ _ _ _ _, k, X, W, e, x, hk, tk, h | .iv _, k, X, W, e, x, hk, tk, h | .irg1 _, k, X, W, e, x, hk, tk, h | .irg2 _ _, k, X, W, e, x, hk, tk, h => by simp [chkO] at h
theorem s_I : ∀ (c : CE) (k : CK) (X : Cx) (W : WX) (tg e : Expr), XOk G k.kw d X → KOk k X → Takes X W → chkI c k e = true → PI X tg e (lI X W (evI G c))
  | .iv a, k, X, W, tg, e, x, hk, tk, h => by
    simp only [chkI] at h
    exact i_iv (s_E a false k X W _ x hk tk h).1
  | .irg1 a, k, X, W, tg, e, x, hk, tk, h => by
    cases e <;> first | (simp [chkI] at h; done) | skip
    simp only [chkI] at h
    split at h
    · rename_i heq
      cases heq
      simp only [Bool.and_eq_true, decide_eq_true_eq] at h
      obtain ⟨⟨rfl, h1⟩, h2⟩ := h
      exact i_rg1 (gl_k hk h1).1 (x.free _ (by decide)) (s_E a false k X W _ x hk tk h2).1 (chkE_star h2)
    · cases h
  | .irg2 a b, k, X, W, tg, e, x, hk, tk, h => by
    cases e <;> first | (simp [chkI] at h; done) | skip
    simp only [chkI] at h
    split at h
    · rename_i heq
      cases heq
      simp only [Bool.and_eq_true, decide_eq_true_eq] at h
      obtain ⟨⟨⟨rfl, h1⟩, h2⟩, h3⟩ := h
      exact i_rg2 (gl_k hk h1).1 (x.free _ (by decide)) (s_E a false k X W _ x hk tk h2).1 (s_E b false k X W _ x hk tk h3).1 (chkE_star h2) (chkE_star h3)
    · cases h
  | .var _, k, X, W, tg, e, x, hk, tk, h | .non, k, X, W, tg, e, x, hk, tk, h | .bl _, k, X, W, tg, e, x, hk, tk, h | .int _, k, X, W, tg, e, x, hk, tk, h | .str _, k, X, W, tg, e, x, hk, tk, h | .glo _, k, X, W, tg, e, x, hk, tk, h | .bin _ _ _, k, X, W, tg, e, x, hk, tk, h | .neg _, k, X, W, tg, e, x, hk, tk, h | .not _, k, X, W, tg, e, x, hk, tk, h | .cmp _ _ _, k, X, W, tg, e, x, hk, tk, h | .chain _ _ _ _ _, k, X, W, tg, e, x, hk, tk, h | .and _ _, k, X, W, tg, e, x, hk, tk, h | .or _ _, k, X, W, tg, e, x, hk, tk, h | .ife _ _ _, k, X, W, tg, e, x, hk, tk, h | .tup _, k, X, W, tg, e, x, hk, tk, h | .lst _, k, X, W, tg, e, x, hk, tk, h | .dct _ _, k, X, W, tg, e, x, hk, tk, h | .nil, k, X, W, tg, e, x, hk, tk, h | .cons _ _, k, X, W, tg, e, x, hk, tk, h | .sub _ _, k, X, W, tg, e, x, hk, tk, h | .no, k, X, W, tg, e, x, hk, tk, h | .slc _ _ _, k, X, W, tg, e, x, hk, tk, h | .rev _, k, X, W, tg, e, x, hk, tk, h | .isi _ _ _, k, X, W, tg, e, x, hk, tk, h | .call _ _, k, X, W, tg, e, x, hk, tk, h | .callk _ _ _ _ _ _, k, X, W, tg, e, x, hk, tk, h | .blt _ _, k, X, W, tg, e, x, hk, tk, h | .meth _ _ _, k, X, W, tg, e, x, hk, tk, h | .comp _ _ _ _ _, k, X, W, tg, e, x, hk, tk, h => by simp [chkI] at h
end
end
end Ev


set_option Elab.async false
set_option linter.all false
set_option maxRecDepth 100000
set_option maxHeartbeats 8000000
/-! Ev12: the text's statements do what the code says. -/
namespace Ev
open PySem L2

/-! ### is it alike? -/
def swapNames (sc : Scope) (ts : List Expr) : List Str := ts.filterMap fun
    | .Name id pos => if sc.names.lookup id == some .local && pos.line == (ts.head?.map (·.pos.line)).getD 0 then some id else none
    | _ => none
/-- are the stores of a, b = x, y swapped? none: this isn't told -/
def swapB (sc : Scope) (ts vs : List Expr) : Option (Option (List Str)) :=
  if !(ts.length == 2 || ts.length == 3) || vs.length != ts.length then some none else
  if vs.any isStar then some none else
  if (swapNames sc ts).length != ts.length || (swapNames sc ts).eraseDups.length != (swapNames sc ts).length then some none else
  if vs.all (foldedForSure 8) then some none else
  if vs.all (constantsAlone 8) then none else some (some (swapNames sc ts))
def isTupE : Expr → Bool
  | .Tuple .. => true
  | _ => false
def tgtName : Expr → Option (Str × Nat)
  | .Name x p => some (x, p.line)
  | _ => none
/-- a comprehension that is given to a name: does the store go first? -/
def compOk (k : CK) (x : Str) (px : Pos) : Expr → Bool
  | .ListComp _ _ sc p => match k.sc.names.lookup x with
    | some .local => (px.line == p.line) && !(sc.names.any fun (n, q) => n == x && (q == .local || q == .cell))
    | _ => true
  | .SetComp .. => false
  | .DictComp .. => false
  | _ => true
mutual
def chkS : CS → CK → Stmt → Bool
  | .asg t e, k, s => match s with
    | .Assign [tg] v _ => chkE e false k v && chkG k t tg && (match tg, v with
      | .Name x px, v => compOk k x px v
      | .Tuple ts _ _, .Tuple vs _ _ => (match swapB k.sc ts vs with
        | some none => true
        | _ => false)
      | .Tuple .., _ => true
      | _, _ => false)
    | _ => false
  | .par is as, k, s => match s with
    | .Assign [.Tuple ts _ _] (.Tuple vs _ _) _ => chkA as k vs && (match is, ts, vs with
      | [i, j], [.Name x _, .Name y _], [_, _] => decide (k.N[i]? = some x) && decide (k.N[j]? = some y) && decide (i ≠ j) && decide (k.sc.names.lookup x = some .local) && decide (k.sc.names.lookup y = some .local) && decide (swapB k.sc ts vs = some (some [x, y]))
      | [i, j, l], [.Name x _, .Name y _, .Name z _], [_, _, _] => decide (k.N[i]? = some x) && decide (k.N[j]? = some y) && decide (k.N[l]? = some z) && decide (i ≠ j) && decide (i ≠ l) && decide (j ≠ l) && decide (k.sc.names.lookup x = some .local) && decide (k.sc.names.lookup y = some .local) && decide (k.sc.names.lookup z = some .local) && decide (swapB k.sc ts vs = some (some [x, y, z]))
      | _, _, _ => false)
    | _ => false
  | .asgS o i e, k, s => match s with
    | .Assign [.Subscript x j _] v _ => chkE e false k v && chkE o false k x && chkE i false k j && !isSlice j
    | _ => false
  | .aug i op e, k, s => match s with
    | .AugAssign (.Name x _) o v _ => decide (op = o) && decide (op = .Add) && decide (k.N[i]? = some x) && locB k x && chkE e false k v
    | _ => false
  | .expr e, k, s => match s with
    | .Expr v _ => chkE e false k v && !isComp v
    | _ => false
  | .ite c a b, k, s => match s with
    | .If x as bs _ => chkE c true k x && chkB a k as && chkB b k bs
    | _ => false
  | .for_ t it b, k, s => match s with
    | .For tg iter body [] _ => chkG k t tg && chkI it k iter && !isSet iter && chkB b k body
    | _ => false
  | .while_ c b, k, s => match s with
    | .While x body [] _ => chkE c true k x && chkB b k body
    | _ => false
  | .ret e, k, s => match s with
    | .Return (some v) _ => chkE e false k v
    | _ => false
  | .retN, _, s => match s with
    | .Return none _ => true
    | _ => false
  | .pass, _, s => match s with
    | .Pass _ => true
    | _ => false
  | .brk, _, s => match s with
    | .Break _ => true
    | _ => false
  | .cnt, _, s => match s with
    | .Continue _ => true
    | _ => false
  | .never, _, _ => true
  | .nil, _, _ => false
  | .seq _ _, _, _ => false
  | .raise _ _, _, _ => false
def chkB : CS → CK → List Stmt → Bool
  | .nil, _, ss => match ss with
    | [] => true
    | _ => false
  | .seq a r, k, ss => match ss with
    | s :: ss => chkS a k s && chkB r k ss
    | [] => false
  | _, _, _ => false
end
theorem swap_eq {env : PySem.Env} {ts vs : List Expr} {k1 k2 : Nat} {p1 p2 : Pos} {o : Option (List Str)} (hb : env.blockKind = .function) (h : swapB env.scope ts vs = some o) : swappedStores [.Tuple ts k1 p1] (.Tuple vs k2 p2) env = pure o := by
  have hk : ∀ id, env.kindOf id = env.scope.names.lookup id := fun _ => rfl
  have hbb : (env.blockKind != .function) = false := by rw [hb]; rfl
  unfold swapB at h
  unfold swappedStores
  simp only [hbb, Bool.or_false, hk]
  show (if _ then _ else _) = _
  split at h
  · rename_i c
    cases h
    split
    · rfl
    · rename_i c'
      exact absurd c c'
  · rename_i c
    split
    · rename_i c'
      exact absurd c' c
    · show (if _ then _ else _) = _
      split at h
      · rename_i c2
        cases h
        split
        · rfl
        · rename_i c'
          exact absurd c2 c'
      · rename_i c2
        split
        · rename_i c'
          exact absurd c' c2
        · show (if ((swapNames env.scope ts).length != ts.length || (swapNames env.scope ts).eraseDups.length != (swapNames env.scope ts).length) = true then _ else _) = _
          split at h
          · rename_i c3
            cases h
            split
            · rfl
            · rename_i c'
              exact absurd c3 c'
          · rename_i c3
            split
            · rename_i c'
              exact absurd c' c3
            · show (if _ then _ else _) = _
              split at h
              · rename_i c4
                cases h
                split
                · rfl
                · rename_i c'
                  exact absurd c4 c'
              · rename_i c4
                split
                · rename_i c'
                  exact absurd c' c4
                · show (if _ then _ else _) = _
                  split at h
                  · cases h
                  · rename_i c5
                    split
                    · rename_i c'
                      exact absurd c' c5
                    · cases h
                      rfl
/-! ### readings -/
def PostS (X : Cx) (W : WX) (D : Ends) (ρ : List Addr) (H : Hp) : SRes → Prop
  | .nx env M => ∀ ρ' σ' H', Ext ρ H ρ' H' → SM X.K X.mg ρ' H' M → RE X.K X.mg ρ' H' env σ' → D.nx σ' H'
  | .rt v M => ∀ ρ' x H', Ext ρ H ρ' H' → SM X.K X.mg ρ' H' M → RV X.K X.mg ρ' H' v x → D.rt x H'
  | .bk env M => ∀ ρ' σ' H', Ext ρ H ρ' H' → SM X.K X.mg ρ' H' M → RE X.K X.mg ρ' H' env σ' → D.bk σ' H'
  | .ct env M => ∀ ρ' σ' H', Ext ρ H ρ' H' → SM X.K X.mg ρ' H' M → RE X.K X.mg ρ' H' env σ' → D.ct σ' H'
  | .ex x env M => ∀ ρ' σ' H' cls d, Ext ρ H ρ' H' → SM X.K X.mg ρ' H' M → RE X.K X.mg ρ' H' env σ' → EV X.K X.mg ρ' H' x cls d → W cls d σ' H'
  | .bad => False
def lS (X : Cx) (W : WX) (r : Env → Sto → SRes) : TS := fun D σ H => ∃ ρ env M, SM X.K X.mg ρ H M ∧ RE X.K X.mg ρ H env σ ∧ PostS X W D ρ H (r env M)
section
variable {X : Cx} {W : WX} {D D' : Ends} {ρ ρ1 : List Addr} {H H1 : Hp}
theorem PS.weak {s : Stmt} {t t' : TS} (h : PS X s t) (k : ∀ D σ H, t' D σ H → t D σ H) : PS X s t' := ⟨fun pins s σ H D I q => h.run pins s σ H D I (k D σ H q)⟩
theorem PSs.weak {s : List Stmt} {t t' : TS} (h : PSs X s t) (k : ∀ D σ H, t' D σ H → t D σ H) : PSs X s t' := ⟨fun pins s σ H D I q => h.run pins s σ H D I (k D σ H q)⟩
theorem PS.or {s : Stmt} {t t' : TS} (h : PS X s t) (h' : PS X s t') : PS X s (fun D σ H => t D σ H ∨ t' D σ H) := ⟨fun pins s σ H D I q => q.elim (h.run pins s σ H D I) (h'.run pins s σ H D I)⟩
theorem PostS.at {r : SRes} (h : PostS X W D ρ H r) (E : Ext ρ H ρ1 H1) : PostS X W D ρ1 H1 r := by
  cases r with
  | nx _ _ => exact fun a b c e => h a b c (E.trans e)
  | rt _ _ => exact fun a b c e => h a b c (E.trans e)
  | bk _ _ => exact fun a b c e => h a b c (E.trans e)
  | ct _ _ => exact fun a b c e => h a b c (E.trans e)
  | ex _ _ _ => exact fun a b c d f e => h a b c d f (E.trans e)
  | bad => exact h
/-- an expression, then the rest -/
theorem PostS.exp {α β : Type} {R : List Addr → Hp → α → β → Prop} {r : Res α} {env : Env} {σ : St} {M : Sto} {f : α → Sto → SRes} {Q : β → Hp → Prop} (S : SM X.K X.mg ρ H M) (E : RE X.K X.mg ρ H env σ) (h : PostS X W D ρ H (r.then env f))
    (k : ∀ x M1 ρ1 v H1, Ext ρ H ρ1 H1 → SM X.K X.mg ρ1 H1 M1 → RE X.K X.mg ρ1 H1 env σ → R ρ1 H1 x v → PostS X W D ρ1 H1 (f x M1) → Q v H1) : Post X.K X.mg R (fun c d H' => W c d σ H') ρ H r Q := by
  cases r with
  | bad => exact h
  | exc x M1 => exact fun ρ1 H1 c d e1 S1 ev => h ρ1 σ H1 c d e1 S1 (E.mono S e1) ev
  | ok x M1 => exact fun ρ1 v H1 e1 S1 r1 => k x M1 ρ1 v H1 e1 S1 (E.mono S e1) r1 (PostS.at h e1)
/-- a test, then one of two ways -/
theorem PostS.test {r : Res PV} {env : Env} {σ : St} {M : Sto} {f g : PV → Sto → SRes} {Q : Bool → Hp → Prop} (S : SM X.K X.mg ρ H M) (E : RE X.K X.mg ρ H env σ) (h : PostS X W D ρ H (r.then env fun x M1 => match truV M1 x with | some true => f x M1 | some false => g x M1 | none => .bad))
    (k : ∀ b x M1 ρ1 H1, Ext ρ H ρ1 H1 → SM X.K X.mg ρ1 H1 M1 → RE X.K X.mg ρ1 H1 env σ → PostS X W D ρ1 H1 (if b = true then f x M1 else g x M1) → Q b H1) : Post X.K X.mg eqR (fun c d H' => W c d σ H') ρ H (r.bind fun x M1 => Res.of (truV M1 x) M1) Q := by
  cases r with
  | bad => exact h
  | exc x M1 => exact fun ρ1 H1 c d e1 S1 ev => h ρ1 σ H1 c d e1 S1 (E.mono S e1) ev
  | ok x M1 =>
    show Post X.K X.mg eqR _ ρ H (Res.of (truV M1 x) M1) Q
    have h' : PostS X W D ρ H (match truV M1 x with | some true => f x M1 | some false => g x M1 | none => .bad) := h
    cases q : truV M1 x with
    | none => rw [q] at h'; exact h'.elim
    | some b =>
      rw [q] at h'
      intro ρ1 v H1 e1 S1 r1
      cases r1
      refine k b x M1 ρ1 H1 e1 S1 (E.mono S e1) ?_
      cases b with
      | true => exact PostS.at h' e1
      | false => exact PostS.at h' e1
theorem PostS.next {env : Env} {M : Sto} {σ : St} (h : PostS X W D ρ H (.nx env M)) (S : SM X.K X.mg ρ H M) (E : RE X.K X.mg ρ H env σ) : D.nx σ H := h ρ σ H (Ext.refl _ _) S E
end
section
variable {X : Cx} {W : WX} {a b c e tg : Expr} {es : List Expr} {pos p : Pos} {ra rb rc : Env → Sto → Res PV} {rs : Env → Sto → Res (List PV)} {r1 r2 : Env → Sto → SRes}
theorem b_nil : PSs X [] (lS X W fun env M => .nx env M) := by
  refine PSs.weak pss_nil fun D σ H h => ?_
  obtain ⟨ρ, env, M, S, E, h⟩ := h
  exact PostS.next h S E
theorem b_cons {s : Stmt} {ss : List Stmt} (h1 : PS X s (lS X W r1)) (h2 : PSs X ss (lS X W r2)) : PSs X (s :: ss) (lS X W fun env M => (r1 env M).bind fun env1 M1 => r2 env1 M1) := by
  refine PSs.weak (pss_cons h1 h2) fun D σ H h => ?_
  obtain ⟨ρ, env, M, S, E, h⟩ := h
  refine ⟨ρ, env, M, S, E, ?_⟩
  dsimp only at h
  revert h
  cases r1 env M with
  | nx env1 M1 => exact fun h ρ1 σ1 H1 e1 S1 E1 => ⟨ρ1, env1, M1, S1, E1, PostS.at h e1⟩
  | rt _ _ => exact fun h => h
  | bk _ _ => exact fun h => h
  | ct _ _ => exact fun h => h
  | ex _ _ _ => exact fun h => h
  | bad => exact fun h => h
theorem x_asg {t : CT} {s : Stmt} (hs : PS X s (tAsg (lE X W ra) (lG X t))) : PS X s (lS X W fun env M => (ra env M).then env fun x M1 => match asgT t x env with
    | some env1 => .nx env1 M1
    | none => .bad) := by
  refine PS.weak hs fun D σ H h => ?_
  obtain ⟨ρ, env, M, S, E, h⟩ := h
  refine ⟨ρ, env, M, S, E, PostS.exp S E h fun x M1 ρ1 v H1 e1 S1 E1 r1 h1 => ?_⟩
  cases q : asgT t x env with
  | none => rw [q] at h1; exact h1.elim
  | some env1 =>
    rw [q] at h1
    exact ⟨ρ1, env, M1, x, env1, S1, E1, r1, q, fun σ2 E2 _ => PostS.next h1 S1 E2⟩
theorem x_expr (ha : PE X a (lE X W ra)) (hc : isComp a = false) : PS X (.Expr a pos) (lS X W fun env M => (ra env M).then env fun _ M1 => .nx env M1) := by
  refine PS.weak (ps_expr ha (swaps_ne hc _ _ _)) fun D σ H h => ?_
  obtain ⟨ρ, env, M, S, E, h⟩ := h
  exact ⟨ρ, env, M, S, E, PostS.exp S E h fun x M1 ρ1 v H1 e1 S1 E1 r1 h1 => PostS.next h1 S1 E1⟩
theorem x_ret (ha : PE X a (lE X W ra)) : PS X (.Return (some a) pos) (lS X W fun env M => (ra env M).then env fun x M1 => .rt x M1) := by
  refine PS.weak (ps_ret ha) fun D σ H h => ?_
  obtain ⟨ρ, env, M, S, E, h⟩ := h
  exact ⟨ρ, env, M, S, E, PostS.exp S E h fun x M1 ρ1 v H1 e1 S1 E1 r1 h1 => h1 ρ1 v H1 (Ext.refl _ _) S1 r1⟩
theorem x_retN : PS X (.Return none pos) (lS X W fun _ M => .rt .non M) := by
  refine PS.weak ps_retN fun D σ H h => ?_
  obtain ⟨ρ, env, M, S, E, h⟩ := h
  exact h ρ .non H (Ext.refl _ _) S .non
theorem x_pass : PS X (.Pass pos) (lS X W fun env M => .nx env M) := by
  refine PS.weak ps_pass fun D σ H h => ?_
  obtain ⟨ρ, env, M, S, E, h⟩ := h
  exact PostS.next h S E
theorem x_brk : PS X (.Break pos) (lS X W fun env M => .bk env M) := by
  refine PS.weak ps_break fun D σ H h => ?_
  obtain ⟨ρ, env, M, S, E, h⟩ := h
  exact h ρ σ H (Ext.refl _ _) S E
theorem x_cnt : PS X (.Continue pos) (lS X W fun env M => .ct env M) := by
  refine PS.weak ps_continue fun D σ H h => ?_
  obtain ⟨ρ, env, M, S, E, h⟩ := h
  exact h ρ σ H (Ext.refl _ _) S E
theorem x_ite {as bs : List Stmt} (hc : PT X c (lT X W rc)) (ha : PSs X as (lS X W r1)) (hb : PSs X bs (lS X W r2)) : PS X (.If c as bs pos) (lS X W fun env M => (rc env M).then env fun x M1 => match truV M1 x with
    | some true => r1 env M1
    | some false => r2 env M1
    | none => .bad) := by
  refine PS.weak (ps_if hc ha hb) fun D σ H h => ?_
  obtain ⟨ρ, env, M, S, E, h⟩ := h
  refine ⟨ρ, env, M, S, E, PostS.test S E h fun k x M1 ρ1 H1 e1 S1 E1 h1 => ?_⟩
  cases k with
  | true => exact iteT ⟨ρ1, env, M1, S1, E1, h1⟩
  | false => exact iteF ⟨ρ1, env, M1, S1, E1, h1⟩
theorem x_aug {i : Nat} {x : Str} (hN : X.N.Nodup) (hi : X.N[i]? = some x) (hx : L2.Loc X.env.scope x) (hf : X.fn x = true ∨ X.env.scope.names.lookup x = some .local) (ha : PE X a (lE X W ra)) : PS X (.AugAssign (.Name x p) .Add a pos) (lS X W fun env M => match env[i]? with
    | some (some x) => (ra env M).then env fun y M1 => match x, y, Operator.Add with
      | .int a, .int b, .Add => .nx (env.set i (some (.int (a + b)))) M1
      | .int a, .int b, .Sub => .nx (env.set i (some (.int (a - b)))) M1
      | .str a, .str b, .Add => if a.length + b.length ≤ sizeLine then .nx (env.set i (some (.str (a ++ b)))) M1 else .bad
      | _, _, _ => .bad
    | _ => .bad) := by
  refine PS.weak (ps_aug hN hi hx ha (iop_add.or iop_add_str) hf) fun D σ H h => ?_
  obtain ⟨ρ, env, M, S, E, h⟩ := h
  dsimp only at h
  cases q : env[i]? with
  | none => rw [q] at h; exact h.elim
  | some o =>
    cases o with
    | none => rw [q] at h; exact h.elim
    | some z =>
      rw [q] at h
      obtain ⟨v, hv, rz⟩ := E.get q
      refine ⟨v, hv, ρ, env, M, S, E, PostS.exp S E h fun y M1 ρ1 w H1 e1 S1 E1 r1 h1 => ?_⟩
      have rz1 := rz.mono S e1
      cases z <;> cases y <;> first | exact h1.elim | skip
      · cases rz1.int_inv; cases r1.int_inv
        exact .inl ⟨_, _, rfl, rfl, PostS.next h1 S1 (E1.set (.int _) i)⟩
      · cases rz1.str_inv; cases r1.str_inv
        rename_i s1 s2
        have h1 : PostS X W D ρ1 H1 (if s1.length + s2.length ≤ sizeLine then .nx (env.set i (some (.str (s1 ++ s2)))) M1 else .bad) := h1
        split at h1
        · rename_i c
          exact .inr ⟨_, _, rfl, rfl, c, PostS.next h1 S1 (E1.set (.str _) i)⟩
        · exact h1.elim
theorem x_par2 {i j : Nat} {x y : Str} {px py pt : Pos} {kt k2 : Nat} {pt2 : Pos} (hc : X.calm = true) (hN : X.N.Nodup) (hi : X.N[i]? = some x) (hj : X.N[j]? = some y) (hij : i ≠ j) (hx : X.env.scope.names.lookup x = some .local) (hy : X.env.scope.names.lookup y = some .local) (ha : PA X [a, b] (lA X W rs))
    (hw : swappedStores [.Tuple [.Name x px, .Name y py] kt pt] (.Tuple [a, b] k2 pt2) X.env = pure (some [x, y])) :
    PS X (.Assign [.Tuple [.Name x px, .Name y py] kt pt] (.Tuple [a, b] k2 pt2) pos) (lS X W fun env M => (rs env M).then env fun xs M1 => if [i, j].length = xs.length then .nx (([i, j].zip xs).foldl (fun env p => env.set p.1 (some p.2)) env) M1 else .bad) := by
  refine PS.weak (ps_par hc hN hi hj hij hx hy ha hw) fun D σ H h => ?_
  obtain ⟨ρ, env, M, S, E, h⟩ := h
  refine ⟨ρ, env, M, S, E, PostS.exp S E h fun xs M1 ρ1 vs H1 e1 S1 E1 r1 h1 => ?_⟩
  split at h1
  · rename_i c
    match xs, c, r1, h1 with
    | [u, v], _, r1, h1 =>
      obtain ⟨u', v', rfl, q1, q2⟩ := r1.two_inv
      exact ⟨u', v', rfl, PostS.next h1 S1 ((E1.set q1 i).set q2 j)⟩
  · exact h1.elim
theorem RVs.three_inv {K : PySem.W.Frag} {mg : Str → Option Value} {ρ : List Addr} {H : Hp} {x y z : PV} {vs : List V} (h : RVs K mg ρ H [x, y, z] vs) : ∃ u v w, vs = [u, v, w] ∧ RV K mg ρ H x u ∧ RV K mg ρ H y v ∧ RV K mg ρ H z w := by
  cases h with
  | cons a b =>
    obtain ⟨v, w, rfl, h1, h2⟩ := b.two_inv
    exact ⟨_, v, w, rfl, a, h1, h2⟩
theorem x_par3 {i j l : Nat} {x y z : Str} {px py pz pt : Pos} {kt k2 : Nat} {pt2 : Pos} (hc : X.calm = true) (hN : X.N.Nodup) (hi : X.N[i]? = some x) (hj : X.N[j]? = some y) (hl : X.N[l]? = some z) (hij : i ≠ j) (hil : i ≠ l) (hjl : j ≠ l) (hx : X.env.scope.names.lookup x = some .local) (hy : X.env.scope.names.lookup y = some .local) (hz : X.env.scope.names.lookup z = some .local) (ha : PA X [a, b, c] (lA X W rs))
    (hw : swappedStores [.Tuple [.Name x px, .Name y py, .Name z pz] kt pt] (.Tuple [a, b, c] k2 pt2) X.env = pure (some [x, y, z])) :
    PS X (.Assign [.Tuple [.Name x px, .Name y py, .Name z pz] kt pt] (.Tuple [a, b, c] k2 pt2) pos) (lS X W fun env M => (rs env M).then env fun xs M1 => if [i, j, l].length = xs.length then .nx (([i, j, l].zip xs).foldl (fun env p => env.set p.1 (some p.2)) env) M1 else .bad) := by
  refine PS.weak (ps_par3 hc hN hi hj hl hij hil hjl hx hy hz ha hw) fun D σ H h => ?_
  obtain ⟨ρ, env, M, S, E, h⟩ := h
  refine ⟨ρ, env, M, S, E, PostS.exp S E h fun xs M1 ρ1 vs H1 e1 S1 E1 r1 h1 => ?_⟩
  split at h1
  · rename_i c
    match xs, c, r1, h1 with
    | [u, v, w], _, r1, h1 =>
      obtain ⟨t', u', v', rfl, q0, q1, q2⟩ := RVs.three_inv r1
      exact ⟨t', u', v', rfl, PostS.next h1 S1 (((E1.set q0 i).set q1 j).set q2 l)⟩
  · exact h1.elim
end
end Ev

set_option Elab.async false
set_option linter.all false
set_option maxRecDepth 100000
set_option maxHeartbeats 8000000
/-! Ev13: loops, stores, blocks. -/
namespace Ev
open PySem L2
section
variable {X : Cx} {W : WX} {a b c e tg : Expr} {es : List Expr} {pos p : Pos} {ra rb rc : Env → Sto → Res PV} {rs : Env → Sto → Res (List PV)} {r1 r2 : Env → Sto → SRes}
/-- the turn of a for: the target, then the body -/
def forB (t : CT) (r : Env → Sto → SRes) (x : PV) (env : Env) (M : Sto) : SRes := match asgT t x env with
      | some env1 => r env1 M
      | none => .bad
theorem x_for {iter : Expr} {body : List Stmt} {t : CT} {ri : Env → Sto → Res Src} (hp : PassesOwn (model X.prog X.w) X.A X.env X.xe) (hc : X.calm = true) (hi : PI X tg iter (lI X W ri)) (hg : PG X tg (lG X t)) (hb : PSs X body (lS X W r1)) (hs : isSet iter = false) :
    PS X (.For tg iter body [] pos) (lS X W fun env M => (ri env M).then env fun s M1 => forL (forB t r1) (keepB s.src) s.items env M1) := by
  refine PS.weak (ps_for hp hc hi hg hb (folded_ne hs _)) fun D σ H h => ?_
  obtain ⟨ρ, env, M, S, E, h⟩ := h
  refine ⟨ρ, env, M, S, E, PostS.exp S E h fun s M1 ρ1 J H1 e1 S1 E1 wk h1 => ?_⟩
  let Pv : Nat → St → Hp → Prop := fun i σ H => ∃ ρ env M, Ext ρ1 H1 ρ H ∧ SM X.K X.mg ρ H M ∧ RE X.K X.mg ρ H env σ ∧ PostS X W D ρ H (forL (forB t r1) (keepB s.src) (s.items.drop i) env M)
  refine ⟨fun i m σ H => m = s.items.length - i ∧ i ≤ s.items.length ∧ Pv i σ H, ⟨s.items.length, rfl, Nat.zero_le _, ρ1, env, M1, Ext.refl _ _, S1, E1, by rw [List.drop_zero]; exact h1⟩, ?_⟩
  rintro i m σ2 H2 ⟨rfl, hi, ρ2, env2, M2, e2, S2, E2, h2⟩
  have k2 : keepB s.src M2 = true := by
    cases q : s.items.drop i with
    | nil =>
      rw [q] at h2
      simp only [forL] at h2
      by_cases k : keepB s.src M2 = true
      · exact k
      · rw [if_neg k] at h2; exact h2.elim
    | cons x r =>
      rw [q] at h2
      simp only [forL] at h2
      by_cases k : keepB s.src M2 = true
      · exact k
      · rw [if_neg k] at h2; exact h2.elim
  cases q : s.items.drop i with
  | nil =>
    have hl : i = s.items.length := by
      have := congrArg List.length q
      rw [List.length_drop] at this
      simp at this
      omega
    rw [q] at h2
    simp only [forL, if_pos k2] at h2
    exact .inl ⟨by rw [hl]; exact wk.stop ρ2 H2 M2 e2 S2 k2, PostS.next h2 S2 E2⟩
  | cons x r =>
    obtain ⟨gx, gr, gi⟩ := drop_get q
    rw [q] at h2
    simp only [forL, if_pos k2] at h2
    refine .inr ⟨wk.go i ρ2 H2 M2 e2 S2 k2 gi, Pv (i + 1), fun σ' H' p' => ⟨s.items.length - (i + 1), by omega, rfl, gi, p'⟩, fun v H3 y => ?_⟩
    obtain ⟨e3, S3, r3⟩ := wk.yld i x ρ2 H2 M2 v H3 e2 S2 k2 gx y
    have E3 : RE X.K X.mg ρ2 H3 env2 σ2 := E2.mono S2 e3
    unfold forB at h2
    cases qa : asgT t x env2 with
    | none => rw [qa] at h2; exact h2.elim
    | some env1 =>
      rw [qa] at h2
      refine ⟨ρ2, env2, M2, x, env1, S3, E3, r3, qa, fun σ4 E4 _ => ⟨ρ2, env1, M2, S3, E4, ?_⟩⟩
      simp only at h2
      have e23 := e2.trans e3
      revert h2
      cases r1 env1 M2 with
      | nx env5 M5 => exact fun h ρ5 σ5 H5 e5 S5 E5 => ⟨ρ5, env5, M5, e23.trans e5, S5, E5, by rw [gr]; exact PostS.at h (e3.trans e5)⟩
      | ct env5 M5 => exact fun h ρ5 σ5 H5 e5 S5 E5 => ⟨ρ5, env5, M5, e23.trans e5, S5, E5, by rw [gr]; exact PostS.at h (e3.trans e5)⟩
      | bk env5 M5 => exact fun h ρ5 σ5 H5 e5 S5 E5 => h ρ5 σ5 H5 (e3.trans e5) S5 E5
      | rt _ _ => exact fun h ρ5 x H5 e5 => h ρ5 x H5 (e3.trans e5)
      | ex _ _ _ => exact fun h ρ5 σ5 H5 c d e5 => h ρ5 σ5 H5 c d (e3.trans e5)
      | bad => exact fun h => h
theorem x_while {body : List Stmt} {n : Nat} (hp : PassesOwn (model X.prog X.w) X.A X.env X.xe) (hc : PT X c (lT X W rc)) (hb : PSs X body (lS X W r1)) : PS X (.While c body [] pos) (lS X W fun env M => whL rc r1 n env M) := by
  refine PS.weak (ps_while hp hc hb) fun D σ H h => ?_
  obtain ⟨ρ, env, M, S, E, h⟩ := h
  let Pv : Nat → St → Hp → Prop := fun m σ H => ∃ ρ env M, SM X.K X.mg ρ H M ∧ RE X.K X.mg ρ H env σ ∧ PostS X W D ρ H (whL rc r1 m env M)
  refine ⟨Pv, ⟨n, ρ, env, M, S, E, h⟩, ?_⟩
  rintro m σ2 H2 ⟨ρ2, env2, M2, S2, E2, h2⟩
  cases m with
  | zero => exact h2.elim
  | succ m =>
    simp only [whL] at h2
    refine ⟨ρ2, env2, M2, S2, E2, PostS.test S2 E2 h2 fun k x M3 ρ3 H3 e3 S3 E3 h3 => ?_⟩
    cases k with
    | false => exact iteF (PostS.next h3 S3 E3)
    | true =>
      rw [if_pos rfl] at h3
      refine iteT ⟨Pv m, fun σ' H' q => ⟨m, Nat.lt_succ_self m, q⟩, ρ3, env2, M3, S3, E3, ?_⟩
      revert h3
      cases r1 env2 M3 with
      | nx env5 M5 => exact fun h ρ5 σ5 H5 e5 S5 E5 => ⟨ρ5, env5, M5, S5, E5, PostS.at h e5⟩
      | ct env5 M5 => exact fun h ρ5 σ5 H5 e5 S5 E5 => ⟨ρ5, env5, M5, S5, E5, PostS.at h e5⟩
      | bk env5 M5 => exact fun h => h
      | rt _ _ => exact fun h => h
      | ex _ _ _ => exact fun h => h
      | bad => exact fun h => h
/-! ### o[i] = v -/
theorem assign_sub {o i : Expr} {pos : Pos} {env : PySem.Env} (h : isSlice i = false) (v : Value) : assign (.Subscript o i pos) env v = (do
      let ov ← holding [v] (eval o env)
      let iv ← holding [v, ov] (eval i env)
      standAt pos
      holding [v, ov, iv] (setItem ov iv v)
      release [v, ov, iv] []) := by
  cases i <;> first | rfl | cases h
theorem swaps_sub {v o i : Expr} {p : Pos} {l : Nat} {env : PySem.Env} : swapsWith v (some (.Subscript o i p)) l env = pure false := by
  cases v <;> rfl
theorem swaps_tup {v : Expr} {ts : List Expr} {k : Nat} {p : Pos} {l : Nat} {env : PySem.Env} : swapsWith v (some (.Tuple ts k p)) l env = pure false := by
  cases v <;> rfl
theorem sole_of {v t : Expr} {l : Nat} {env : PySem.Env} (h : swapsWith v (some t) l env = pure false) : swapsWithSole [t] v l env = pure false := h
theorem swapped_sub {v o i : Expr} {p : Pos} {env : PySem.Env} : swappedStores [.Subscript o i p] v env = pure none := by
  cases v <;> rfl
theorem swapped_tup {v : Expr} {ts : List Expr} {k : Nat} {p : Pos} {env : PySem.Env} (h : isTupE v = false) : swappedStores [.Tuple ts k p] v env = pure none := by
  cases v <;> first | rfl | cases h
theorem swapped_name {v : Expr} {x : Str} {p : Pos} {env : PySem.Env} : swappedStores [.Name x p] v env = pure none := by
  cases v <;> rfl
theorem setV_ok {K : PySem.W.Frag} {mg : Str → Option Value} {ρ : List Addr} {H : Hp} {M M' : Sto} {o i y : PV} {v w u : V} (S : SM K mg ρ H M) (ro : RV K mg ρ H o v) (ri : RV K mg ρ H i w) (ry : RV K mg ρ H y u) (e : setV o i y M = some M') :
    (isD M o = false ∧ ∃ p xs k j, v = .ref p ∧ w = .int k ∧ H p = some (.lst xs) ∧ ixN xs.length k = some j ∧ Ext ρ H ρ (upd H p (.lst (xs.set j u))) ∧ SM K mg ρ (upd H p (.lst (xs.set j u))) M') ∨
    (isD M o = true ∧ ∃ p H', v = .ref p ∧ DPut H p w u H' ∧ Ext ρ H ρ H' ∧ SM K mg ρ H' M') := by
  unfold setV at e
  split at e
  · obtain ⟨a, rfl, hi⟩ := ro.ref_inv
    split at e
    · rename_i q
      obtain ⟨vs, h1, h2⟩ := S.get hi q
      split at e
      · cases ri.int_inv
        rename_i xs _ k
        cases qi : ixN xs.length k with
        | none => rw [qi] at e; cases e
        | some j =>
          rw [qi] at e; cases e
          exact .inl ⟨by simp only [isD, q], a, vs, k, j, rfl, rfl, h1, by rw [← h2.length]; exact qi, Ext.set (List.mem_of_getElem? hi), S.set hi (o := .lst _) (ho := .lst _) (h2.set ry j)⟩
      · cases e
    · rename_i q
      obtain ⟨ws, h1, h2⟩ := S.getD hi q
      split at e
      · rename_i k hk
        split at e
        · rename_i c
          cases e
          rw [keyOf_ok ri hk]
          have hl : ws.length < sizeLine := by rw [← Paired.length h2]; exact c
          exact .inr ⟨by simp only [isD, q], a, _, rfl, DPut.k h1 hl, Ext.set (List.mem_of_getElem? hi), S.set hi (o := .dct _) (ho := .dK _) (h2.put ry)⟩
        · cases e
      · cases e
    · cases e
  · cases e
theorem x_set {o i v : Expr} {ro ri : Env → Sto → Res PV} {p2 : Pos} (hu : X.A.units + 1 < cLine) (hi : isSlice i = false) (hv : PE X v (lE X W ra)) (ho : PE X o (lE X W ro)) (hix : PE X i (lE X W ri)) :
    PS X (.Assign [.Subscript o i p2] v pos) (lS X W fun env M => (ra env M).then env fun x M1 => (ro env M1).then env fun y M2 => (ri env M2).then env fun z M3 => match setV y z x M3 with
    | some M4 => .nx env M4
    | none => .bad) := by
  have q1 : PS X (.Assign [.Subscript o i p2] v pos) (tAsg (lE X W ra) (gSub (lE X W ro) (lE X W ri) rSetL)) := ps_asg hv (pg_sub ho hix set_list fun v => assign_sub hi v) (sole_of swaps_sub) swapped_sub (each_cons _ _ rfl)
  have q2 := ps_dput (pos' := p2) (pos := pos) hu ho hix hv swaps_sub
  refine ⟨fun pins s σ H D I h => ?_⟩
  obtain ⟨ρ, env, M, S, E, h⟩ := h
  dsimp only at h
  have go : (tAsg (lE X W ra) (gSub (lE X W ro) (lE X W ri) rSetL)) D σ H ∨ sDPut (lE X W ro) (lE X W ri) (lE X W ra) D σ H := by
    cases qa : ra env M with
    | bad => rw [qa] at h; exact h.elim
    | exc x M1 =>
      rw [qa] at h
      exact .inl ⟨ρ, env, M, S, E, by rw [qa]; exact fun ρ1 H1 c d e1 S1 ev => h ρ1 σ H1 c d e1 S1 (E.mono S e1) ev⟩
    | ok x M1 =>
      rw [qa, Res.then_ok] at h
      cases qo : ro env M1 with
      | bad => rw [qo] at h; exact h.elim
      | exc y M2 =>
        rw [qo] at h
        refine .inl ⟨ρ, env, M, S, E, ?_⟩
        rw [qa]
        intro ρ1 v1 H1 e1 S1 r1
        exact ⟨ρ1, env, M1, S1, E.mono S e1, by rw [qo]; exact fun ρ2 H2 c d e2 S2 ev => h ρ2 σ H2 c d (e1.trans e2) S2 (E.mono S (e1.trans e2)) ev⟩
      | ok y M2 =>
        rw [qo, Res.then_ok] at h
        cases qi : ri env M2 with
        | bad => rw [qi] at h; exact h.elim
        | exc z M3 =>
          rw [qi] at h
          refine .inl ⟨ρ, env, M, S, E, ?_⟩
          rw [qa]
          intro ρ1 v1 H1 e1 S1 r1
          refine ⟨ρ1, env, M1, S1, E.mono S e1, ?_⟩
          rw [qo]
          intro ρ2 v2 H2 e2 S2 r2
          exact ⟨ρ2, env, M2, S2, E.mono S (e1.trans e2), by rw [qi]; exact fun ρ3 H3 c d e3 S3 ev => h ρ3 σ H3 c d ((e1.trans e2).trans e3) S3 (E.mono S ((e1.trans e2).trans e3)) ev⟩
        | ok z M3 =>
          rw [qi, Res.then_ok] at h
          cases qs : setV y z x M3 with
          | none => rw [qs] at h; exact h.elim
          | some M4 =>
            rw [qs] at h
            by_cases c : isD M3 y = true
            · refine .inr ⟨ρ, env, M, S, E, ?_⟩
              rw [qa]
              intro ρ1 v1 H1 e1 S1 r1
              refine ⟨ρ1, env, M1, S1, E.mono S e1, ?_⟩
              rw [qo]
              intro ρ2 v2 H2 e2 S2 r2
              refine ⟨ρ2, env, M2, S2, E.mono S (e1.trans e2), ?_⟩
              rw [qi]
              intro ρ3 v3 H3 e3 S3 r3
              rcases setV_ok S3 (r2.mono S2 e3) r3 (r1.mono S1 (e2.trans e3)) qs with ⟨n, _⟩ | ⟨_, p, H', rfl, dp, e4, S4⟩
              · rw [n] at c; cases c
              · have ee := ((e1.trans e2).trans e3).trans e4
                exact ⟨p, H', rfl, dp, h ρ3 σ H' ee S4 (E.mono S ee)⟩
            · refine .inl ⟨ρ, env, M, S, E, ?_⟩
              rw [qa]
              intro ρ1 v1 H1 e1 S1 r1
              refine ⟨ρ1, env, M1, S1, E.mono S e1, ?_⟩
              rw [qo]
              intro ρ2 v2 H2 e2 S2 r2
              refine ⟨ρ2, env, M2, S2, E.mono S (e1.trans e2), ?_⟩
              rw [qi]
              intro ρ3 v3 H3 e3 S3 r3
              rcases setV_ok S3 (r2.mono S2 e3) r3 (r1.mono S1 (e2.trans e3)) qs with ⟨_, p, xs, k, j, rfl, rfl, h1, h2, e4, S4⟩ | ⟨n, _⟩
              · have ee := ((e1.trans e2).trans e3).trans e4
                exact ⟨p, xs, k, j, rfl, rfl, h1, h2, h ρ3 σ _ ee S4 (E.mono S ee)⟩
              · exact absurd n c
  exact go.elim (q1.run pins s σ H D I) (q2.run pins s σ H D I)
end
/-- what is known in a def's body -/
structure XS (G : Glob) (kw : KwT) (d : Nat) (X : Cx) : Prop where
  x : XOk G kw d X
  po : PassesOwn (model X.prog X.w) X.A X.env X.xe
  bk : X.env.scope.kind = .function
section
variable {G : Glob} {d : Nat}
theorem block_kind {X : Cx} (h : X.env.scope.kind = .function) : X.env.blockKind = .function := by unfold PySem.Env.blockKind; rw [h]; rfl
theorem lookS {sc : Scope} {x : Str} (h : (sc.names.lookup x == some NameKind.local) = true) : sc.names.lookup x = some .local := by simpa using h
/-- name = value -/
theorem x_name {X : Cx} {W : WX} {k : CK} {i : Nat} {x : Str} {px pos : Pos} {v : Expr} {ra : Env → Sto → Res PV} (hk : KOk k X) (hN : X.N.Nodup) (hc : X.calm = true) (hf : X.env.scope.kind = .function) (hg : chkG k (.nm i) (.Name x px) = true) (hv : PE X v (lE X W ra)) (hcv : isComp v = false) :
    PS X (.Assign [.Name x px] v pos) (tAsg (lE X W ra) (lG X (.nm i))) := ps_asg hv (s_tgt hk hN hc (.nm i) _ hg) (sole_of (swaps_ne hcv _ _ _)) swapped_name (each_cons _ _ rfl)
theorem swaps_cell {e : Expr} {gs : List Comprehension} {sc : Scope} {p px : Pos} {x : Str} {l : Nat} {env : PySem.Env} (h : env.scope.names.lookup x ≠ some .local) : swapsWith (.ListComp e gs sc p) (some (.Name x px)) l env = pure false := by
  have hk : (env.kindOf x == some NameKind.local) = false := by
    show (env.scope.names.lookup x == some NameKind.local) = false
    cases q : env.scope.names.lookup x with
    | none => rfl
    | some v =>
      rw [q] at h
      cases v <;> first | rfl | exact absurd rfl h
  unfold swapsWith
  simp only [hk, Bool.and_false, Bool.false_and]
theorem gName_of {X : Cx} {W : WX} {s : Stmt} {i : Nat} {r : Env → Sto → Res PV} (h : PS X s (tAsg (lE X W r) (gName i))) : PS X s (lS X W fun env M => (r env M).then env fun x M1 => match asgT (.nm i) x env with
    | some env1 => .nx env1 M1
    | none => .bad) := by
  refine PS.weak h fun D σ H h => ?_
  obtain ⟨ρ, env, M, S, E, h⟩ := h
  refine ⟨ρ, env, M, S, E, PostS.exp S E h fun x M1 ρ1 v H1 e1 S1 E1 r1 h1 => ?_⟩
  exact PostS.next (env := env.set i (some x)) h1 S1 (E1.set r1 i)
/-- name = [..] -/
theorem x_comp {X : Cx} {W : WX} {k : CK} {i : Nat} {y : Str} {py pos spos : Pos} {c : CE} {v : Expr} {gs : List Comprehension} {sc : Scope} (xs : XS G k.kw d X) (hk : KOk k X) (tk : Takes X W) (hy : k.N[i]? = some y) (hl : k.sc.names.lookup y = some .local) (h : chkE c false k (.ListComp v gs sc pos) = true)
    (ho : ((py.line == pos.line) && !(sc.names.any fun (n, q) => n == y && (q == .local || q == .cell))) = true) : PS X (.Assign [.Name y py] (.ListComp v gs sc pos) spos) (tAsg (lE X W (evE G c)) (gName i)) := by
  have x := xs.x
  cases c <;> first | (simp [chkE] at h; done) | skip
  rename_i ct it ifs elt own
  simp only [chkE] at h
  split at h
  · rename_i heq
    cases heq
    simp only [Bool.and_eq_true, decide_eq_true_eq, Bool.not_eq_true'] at h
    obtain ⟨⟨⟨⟨⟨⟨⟨h0, h1⟩, h2⟩, h3⟩, h4⟩, h5⟩, h6⟩, h7⟩ := h
    subst h0
    split at h1
    · rename_i ow how
      simp only [Bool.and_eq_true, decide_eq_true_eq] at h1
      simp only [Bool.and_eq_true, Bool.not_eq_true'] at ho
      exact x_setc (ow := ow) x.calm x.nd (by rw [hk.N]; exact hy) (by rw [hk.sc]; exact hl) (sw_true xs.bk (by rw [hk.sc]; exact hl) ho.1 ho.2) (s_I it k X W _ _ x hk tk h3) (by rw [hk.N, hk.sc]; exact blkOk_by h1.1) h1.2
            (fun s H C cl fp => (s_tgt (hk.blk sc s H C cl fp) x.nd x.calm ct _ h4)) (fun s H C cl fp => (s_Ts ifs ⟨k.N, relS sc k.sc, false, k.kw⟩ _ W0 _ (x.blk sc s H C cl fp) (hk.blk sc s H C cl fp) takes0 h5)) (fun s H C cl fp => (s_E elt false ⟨k.N, relS sc k.sc, false, k.kw⟩ _ W0 _ (x.blk sc s H C cl fp) (hk.blk sc s H C cl fp) takes0 h6).1)
            h2 (fun j hj => by have := List.all_eq_true.mp h7 j hj; simpa using this)
    · cases h1
  · cases h
mutual
theorem s_S : ∀ (c : CS) (k : CK) (X : Cx) (W : WX) (s : Stmt), XS G k.kw d X → KOk k X → Takes X W → chkS c k s = true → PS X s (lS X W (evS G c))
  | .asg t e, k, X, W, s, xs, hk, tk, h => by
    have x := xs.x
    cases s <;> first | (simp [chkS] at h; done) | skip
    rename_i ts v p
    simp only [chkS] at h
    split at h
    · rename_i heq
      cases heq
      rename_i tg
      simp only [Bool.and_eq_true] at h
      obtain ⟨⟨h1, h2⟩, h3⟩ := h
      have iv := (s_E e false k X W _ x hk tk h1).1
      split at h3
      · rename_i y py
        cases t <;> first | (simp [chkG] at h2; done) | skip
        rename_i i
        by_cases hcv : isComp v = true
        · cases v <;> first | (cases hcv; done) | (simp [compOk] at h3; done) | skip
          rename_i e2 gs sc p2
          simp only [compOk] at h3
          have hn : k.N[i]? = some y := by
            simp only [chkG, Bool.and_eq_true, decide_eq_true_eq] at h2
            exact h2.1
          split at h3
          · rename_i hl
            exact gName_of (x_comp xs hk tk hn hl h1 h3)
          · rename_i hl
            have hl' : X.env.scope.names.lookup y ≠ some .local := by rw [hk.sc]; exact fun z => hl z
            exact x_asg (ps_asg iv (s_tgt hk x.nd x.calm (.nm i) _ h2) (sole_of (swaps_cell hl')) swapped_name (each_cons _ _ rfl))
        · exact x_asg (x_name hk x.nd x.calm xs.bk h2 iv (by simpa using hcv))
      · rename_i ts k1 p1 vs k2 p2
        split at h3
        · rename_i hw
          have hw' := swap_eq (k1 := k1) (k2 := k2) (p1 := p1) (p2 := p2) (block_kind xs.bk) (by rw [hk.sc]; exact hw)
          exact x_asg (ps_asg iv (s_tgt hk x.nd x.calm t _ h2) (sole_of swaps_tup) hw' (each_cons _ _ rfl))
        · cases h3
      · rename_i hv
        exact x_asg (ps_asg iv (s_tgt hk x.nd x.calm t _ h2) (sole_of swaps_tup) (swapped_tup (by cases v <;> first | rfl | exact absurd rfl (hv _ _ _))) (each_cons _ _ rfl))
      · cases h3
    · cases h
  | .par is as, k, X, W, s, xs, hk, tk, h => by
    have x := xs.x
    cases s <;> first | (simp [chkS] at h; done) | skip
    rename_i ts v p
    simp only [chkS] at h
    split at h
    · rename_i heq
      cases heq
      simp only [Bool.and_eq_true] at h
      obtain ⟨h1, h2⟩ := h
      have ia := s_A as k X W _ x hk tk h1
      split at h2
      · simp only [Bool.and_eq_true, decide_eq_true_eq] at h2
        obtain ⟨⟨⟨⟨⟨q1, q2⟩, q3⟩, q4⟩, q5⟩, q6⟩ := h2
        exact x_par2 x.calm x.nd (by rw [hk.N]; exact q1) (by rw [hk.N]; exact q2) q3 (by rw [hk.sc]; exact q4) (by rw [hk.sc]; exact q5) ia (swap_eq (block_kind xs.bk) (by rw [hk.sc]; exact q6))
      · simp only [Bool.and_eq_true, decide_eq_true_eq] at h2
        obtain ⟨⟨⟨⟨⟨⟨⟨⟨⟨q1, q2⟩, q3⟩, q4⟩, q5⟩, q6⟩, q7⟩, q8⟩, q9⟩, q10⟩ := h2
        exact x_par3 x.calm x.nd (by rw [hk.N]; exact q1) (by rw [hk.N]; exact q2) (by rw [hk.N]; exact q3) q4 q5 q6 (by rw [hk.sc]; exact q7) (by rw [hk.sc]; exact q8) (by rw [hk.sc]; exact q9) ia (swap_eq (block_kind xs.bk) (by rw [hk.sc]; exact q10))
      · cases h2
    · cases h
  | .never, k, X, W, s, xs, hk, tk, h => PS.weak ps_never fun D σ H h => by
    obtain ⟨ρ, env, M, S, E, h⟩ := h
    exact h
  | .asgS o i e, k, X, W, s, xs, hk, tk, h => by
    have x := xs.x
    cases s <;> first | (simp [chkS] at h; done) | skip
    rename_i ts v p
    simp only [chkS] at h
    split at h
    · rename_i heq
      cases heq
      simp only [Bool.and_eq_true, Bool.not_eq_true'] at h
      obtain ⟨⟨⟨h1, h2⟩, h3⟩, h4⟩ := h
      have u : X.A.units + 1 < cLine := by have := x.units; omega
      exact x_set u h4 (s_E e false k X W _ x hk tk h1).1 (s_E o false k X W _ x hk tk h2).1 (s_E i false k X W _ x hk tk h3).1
    · cases h
  | .aug i op e, k, X, W, s, xs, hk, tk, h => by
    have x := xs.x
    cases s <;> first | (simp [chkS] at h; done) | skip
    rename_i t o v p
    cases t <;> first | (simp [chkS] at h; done) | skip
    simp only [chkS, Bool.and_eq_true, decide_eq_true_eq] at h
    obtain ⟨⟨⟨⟨rfl, rfl⟩, h2⟩, h3⟩, h4⟩ := h
    obtain ⟨l1, l2⟩ := loc_of hk h3
    exact x_aug x.nd (by rw [hk.N]; exact h2) l1 l2 (s_E e false k X W _ x hk tk h4).1
  | .expr e, k, X, W, s, xs, hk, tk, h => by
    have x := xs.x
    cases s <;> first | (simp [chkS] at h; done) | skip
    simp only [chkS, Bool.and_eq_true, Bool.not_eq_true'] at h
    exact x_expr (s_E e false k X W _ x hk tk h.1).1 h.2
  | .ite c a b, k, X, W, s, xs, hk, tk, h => by
    have x := xs.x
    cases s <;> first | (simp [chkS] at h; done) | skip
    simp only [chkS, Bool.and_eq_true] at h
    exact x_ite ((s_E c true k X W _ x hk tk h.1.1).2 rfl) (s_B a k X W _ xs hk tk h.1.2) (s_B b k X W _ xs hk tk h.2)
  | .for_ t it b, k, X, W, s, xs, hk, tk, h => by
    have x := xs.x
    cases s <;> first | (simp [chkS] at h; done) | skip
    rename_i tg iter body orelse p
    cases orelse with
    | cons _ _ => simp [chkS] at h
    | nil =>
      simp only [chkS, Bool.and_eq_true, Bool.not_eq_true'] at h
      obtain ⟨⟨⟨h1, h2⟩, h3⟩, h4⟩ := h
      exact x_for xs.po x.calm (s_I it k X W _ _ x hk tk h2) (s_tgt hk x.nd x.calm t _ h1) (s_B b k X W _ xs hk tk h4) h3
  | .while_ c b, k, X, W, s, xs, hk, tk, h => by
    have x := xs.x
    cases s <;> first | (simp [chkS] at h; done) | skip
    rename_i t body orelse p
    cases orelse with
    | cons _ _ => simp [chkS] at h
    | nil =>
      simp only [chkS, Bool.and_eq_true] at h
      exact x_while xs.po ((s_E c true k X W _ x hk tk h.1).2 rfl) (s_B b k X W _ xs hk tk h.2)
  | .ret e, k, X, W, s, xs, hk, tk, h => by
    have x := xs.x
    cases s <;> first | (simp [chkS] at h; done) | skip
    rename_i v p
    cases v with
    | none => simp [chkS] at h
    | some v =>
      simp only [chkS] at h
      exact x_ret (s_E e false k X W _ x hk tk h).1
  | .retN, k, X, W, s, xs, hk, tk, h => by
    cases s <;> first | (simp [chkS] at h; done) | skip
    rename_i v p
    cases v with
    | none => exact x_retN
    | some v => simp [chkS] at h
  | .pass, k, X, W, s, xs, hk, tk, h => by
    cases s <;> first | (simp [chkS] at h; done) | skip
    exact x_pass
  | .brk, k, X, W, s, xs, hk, tk, h => by
    cases s <;> first | (simp [chkS] at h; done) | skip
    exact x_brk
  | .cnt, k, X, W, s, xs, hk, tk, h => by
    cases s <;> first | (simp [chkS] at h; done) | skip
    exact x_cnt
  | .nil, k, X, W, s, xs, hk, tk, h => by simp [chkS] at h
  | .seq _ _, k, X, W, s, xs, hk, tk, h => by simp [chkS] at h
  | .raise _ _, k, X, W, s, xs, hk, tk, h => by simp [chkS] at h
theorem s_B : ∀ (c : CS) (k : CK) (X : Cx) (W : WX) (ss : List Stmt), XS G k.kw d X → KOk k X → Takes X W → chkB c k ss = true → PSs X ss (lS X W (evS G c))
  | .nil, k, X, W, ss, xs, hk, tk, h => by
    cases ss with
    | nil => exact b_nil
    | cons _ _ => simp [chkB] at h
  | .seq a r, k, X, W, ss, xs, hk, tk, h => by
    cases ss with
    | nil => simp [chkB] at h
    | cons s ss =>
      simp only [chkB, Bool.and_eq_true] at h
      exact b_cons (s_S a k X W s xs hk tk h.1) (s_B r k X W ss xs hk tk h.2)
  | .asg _ _, k, X, W, ss, xs, hk, tk, h | .par _ _, k, X, W, ss, xs, hk, tk, h | .never, k, X, W, ss, xs, hk, tk, h | .asgS _ _ _, k, X, W, ss, xs, hk, tk, h | .aug _ _ _, k, X, W, ss, xs, hk, tk, h | .expr _, k, X, W, ss, xs, hk, tk, h
  | .ite _ _ _, k, X, W, ss, xs, hk, tk, h | .for_ _ _ _, k, X, W, ss, xs, hk, tk, h | .while_ _ _, k, X, W, ss, xs, hk, tk, h | .ret _, k, X, W, ss, xs, hk, tk, h | .retN, k, X, W, ss, xs, hk, tk, h | .pass, k, X, W, ss, xs, hk, tk, h
  | .brk, k, X, W, ss, xs, hk, tk, h | .cnt, k, X, W, ss, xs, hk, tk, h | .raise _ _, k, X, W, ss, xs, hk, tk, h => by simp [chkB] at h
end
end
end Ev

set_option Elab.async false
set_option linter.all false
set_option maxRecDepth 100000
set_option maxHeartbeats 8000000
/-! Ev14: the defs of a text do what the code says. -/
namespace Ev
open PySem L2

/-- a def of the text, its code, the forms of its calls by name -/
structure Def where
  x : Str
  params : Arguments
  body : List Stmt
  scope : Scope
  d : FD
  kws : List (Nat × List Str × List Nat)
def parB (sc : Scope) (x : Str) : Bool := match sc.names.lookup x with
  | some .local => true
  | some .cell => true
  | _ => false
def freeB : NameKind → Bool
  | .free => true
  | _ => false
def fnKind (sc : Scope) : Bool := match sc.kind with
  | .function => true
  | _ => false
def scOk (N ps : List Str) (sc : Scope) : Bool := fnKind sc && !sc.isCoroutine && !sc.isGenerator && decide N.Nodup && decide (N.take ps.length = ps) && ps.all (parB sc) && sc.names.all (fun y => !freeB y.2)
theorem scOk.ok {N ps : List Str} {sc : Scope} (h : scOk N ps sc = true) : FnScope N ps sc := by
  unfold scOk at h
  simp only [Bool.and_eq_true, Bool.not_eq_true', decide_eq_true_eq] at h
  obtain ⟨⟨⟨⟨⟨⟨h1, h2⟩, h3⟩, h4⟩, h5⟩, h6⟩, h7⟩ := h
  refine ⟨?_, h2, h3, h4, h5, fun x hx => ?_, fun y hy e => ?_⟩
  · unfold fnKind at h1
    split at h1
    · assumption
    · cases h1
  · have q := List.all_eq_true.mp h6 x hx
    unfold parB at q
    split at q
    · exact .inl (by assumption)
    · exact .inr (by assumption)
    · cases q
  · have q := List.all_eq_true.mp h7 y hy
    rw [e] at q
    cases q
abbrev Tab := List Def
def Tab.get (tab : Tab) (x : Str) : Option Def := tab.find? fun D => decide (D.x = x)
def Tab.kw (tab : Tab) : KwT := fun x => (tab.get x).map (·.kws)
theorem Tab.get_mem {tab : Tab} {x : Str} {D : Def} (h : tab.get x = some D) : D ∈ tab ∧ D.x = x := by
  unfold Tab.get at h
  exact ⟨List.mem_of_find?_eq_some h, by simpa using List.find?_some h⟩
structure Def.Ok (kw : KwT) (D : Def) : Prop where
  sc : scOk D.d.N D.d.ps D.scope = true
  code : chkB D.d.body ⟨D.d.N, D.scope, true, kw⟩ D.body = true
  bd : ∀ (kV doc pm : Value) (an : Option Addr) (cdv ct : Value) (us : List Value), us.length = D.d.ps.length → bindArgs (PySem.W.fnOf D.x D.x D.params D.body D.scope .none kV doc pm an cdv ct) ⟨us, []⟩ = pure (D.d.ps.zip us)
  kb : ∀ z ∈ D.kws, ∀ (kV doc pm : Value) (an : Option Addr) (cdv ct : Value) (us ws : List Value), us.length = z.1 → ws.length = z.2.1.length →
    bindArgs (PySem.W.fnOf D.x D.x D.params D.body D.scope .none kV doc pm an cdv ct) ⟨us, z.2.1.zip ws⟩ = pure (D.d.ps.zip (permL z.2.2 (us ++ ws)))
/-- the text's code -/
def Tab.txt (tab : Tab) (glo : Str → Option PV) (exc : Str → Option (List Str)) (fuel : Nat) : Txt := ⟨fun x => (tab.get x).map (·.d), glo, exc, fuel⟩
/-- what stands behind the top -/
structure Wor (K : PySem.W.Frag) (mg : Str → Option Value) (tab : Tab) (glo : Str → Option PV) : Prop where
  fns : ∀ D ∈ tab, ∃ f fd, FunD K D.x D.x D.params D.body D.scope [] [] f fd ∧ mg D.x = some (.ref f)
  ok : ∀ D ∈ tab, D.Ok tab.kw
  free : ∀ x ∈ freeNames, mg x = none
  cls : ∀ c ∈ clsNames, mg (Str.ofString c) = none
  glo : ∀ x pv, glo x = some pv → ∃ u v, mg x = some u ∧ RelV v u ∧ ∀ ρ H, RV K mg ρ H pv v

theorem RE.start {K : PySem.W.Frag} {mg : Str → Option Value} {ρ : List Addr} {H : Hp} : ∀ (n : Nat) {xs : List PV} {vs : List V}, RVs K mg ρ H xs vs → RE K mg ρ H (xs.map some ++ List.replicate n none) (vs.map some ++ List.replicate n none)
  | 0, _, _, .nil => by exact .nil
  | n + 1, _, _, .nil => by
    show Paired _ (none :: _) (none :: _)
    exact .cons trivial (RE.start n .nil)
  | n, _, _, .cons r rs => .cons r (RE.start n rs)
section
variable {P : Program} {w : World} {K : PySem.W.Frag} {mg : Str → Option Value} {tab : Tab} {gl : Str → Option PV} {exc : Str → Option (List Str)} {fuel : Nat}
theorem guards_deeper (A : Around) (env : PySem.Env) : (A.deeper env).guards = A.guards := rfl
theorem RVs.len {ρ : List Addr} {H : Hp} {xs : List PV} {vs : List V} (h : RVs K mg ρ H xs vs) : xs.length = vs.length := h.length
theorem len_run {n : Nat} {D : Def} (hD : tab.get D.x = some D) {xs : List PV} {M : Sto} (h : callN (tab.txt gl exc fuel) n D.x xs M ≠ .bad) : xs.length = D.d.ps.length := by
  cases n with
  | zero => exact absurd rfl h
  | succ n =>
    rw [callN_def (d := D.d) (by show (tab.get D.x).map _ = _; rw [hD]; rfl)] at h
    unfold runF at h
    split at h
    · assumption
    · exact absurd rfl h
theorem back_post {X : Cx} {E : XK} {ρ : List Addr} {H : Hp} {Q : VK} {r : SRes} (h : PostV X.K X.mg E ρ H r.back Q) : PostS X (fun cls d _ H => E cls d H) { nx := fun _ H' => Q .non H', rt := Q } ρ H r := by
  cases r with
  | nx env M => exact fun ρ' σ' H' e S _ => h ρ' .non H' e S .non
  | rt v M => exact fun ρ' x H' e S r => h ρ' x H' e S r
  | bk env M => exact h.elim
  | ct env M => exact h.elim
  | ex x env M => exact fun ρ' σ' H' cls d e S _ ev => h ρ' H' cls d e S ev
  | bad => exact h.elim
theorem callAt_run {n : Nat} {D : Def} {f : Addr} {fd : FuncData} {base : Heap} (W : Wor K mg tab gl) (hD : tab.get D.x = some D) (F : FunD K D.x D.x D.params D.body D.scope [] [] f fd)
    (ih : ∀ (base : Heap) (x : Str) (l : List (Nat × List Str × List Nat)), tab.kw x = some l → ∃ fa fd ps, CallAt P w K mg base n x l (callN (tab.txt gl exc fuel) n x) fa fd ps) :
    ∀ (A : Around) (outer : List PySem.Env) (s : Shared) (H : Hp) (args : Args) (us : List Value) (vs : List V) (xs : List PV) (ρ : List Addr) (M : Sto) (Q : VK) (E : XK), Room (n + 1) A → A.guards = some [] → Env0 P w K mg base A outer s H → BindsTo s fd args (D.d.ps.zip us) → Vals vs us →
    SM K mg ρ H M → RVs K mg ρ H xs vs → PostV K mg E ρ H (callN (tab.txt gl exc fuel) (n + 1) D.x xs M) Q → codeAny (model P w) A (.call (.ref f) args) (CR (L2.CX P w) outer P w H s Q E) s := by
  intro A outer s H args us vs xs ρ M Q E hr hg e0 hb r SM0 rx hsp
  have O : D.Ok tab.kw := W.ok D (Tab.get_mem hD).1
  have S : FnScope D.d.N D.d.ps D.scope := scOk.ok O.sc
  have hlx : xs.length = D.d.ps.length := len_run hD fun z => by rw [z] at hsp; exact hsp.elim
  have hl : vs.length = D.d.ps.length := by rw [← rx.len]; exact hlx
  obtain ⟨oc, od, dV, kV, doc, pm, an, cdv, ct, osl, rfl, lk, hcd, _, _⟩ := F.ex
  have KX : K.In s.heap := e0.mod.kin.keeps fun b o e => (e0.bs b o e).1
  have lim : s.heap.NoLimit := e0.mod.nolimit.keeps fun b o e => (e0.bs b o e).1
  have hkind : ∀ y ∈ D.d.ps.zip us, D.scope.names.lookup y.1 = some .local ∨ (D.scope.names.lookup y.1 = some .cell ∧ ((cellsFrom (s.heap.objs.size + 1) D.scope.names []).lookup y.1).isSome = true) := fun ⟨n, v⟩ hy => by
    rcases S.par n (List.of_mem_zip hy).1 with q | q
    · exact .inl q
    · exact .inr ⟨q, PySem.W.cellsFrom_some _ _ _ (.inl q)⟩
  refine codeAny_call_function hr.depth (KX _ _ lk) rfl S.co S.gen rfl (PySem.W.codeRec_of KX hcd) (hb _ _ _ _ ?_)
  refine wpAny_newFunctionEnv_cells S.kind hkind fun env he s1 x => ?_
  subst he
  refine ⟨lim.keeps x.toInCall.keep, codeAny_func ?_⟩
  let X : Cx := cxOf (L2.CX P w) P w K mg base D.d.N D.x D.scope f cdv A outer s H E
  have I : Inv X [] (L2.start D.d.N vs) H s1 := inv_start S hr.hd e0 hl r x
  have xo : XOk ((tab.txt gl exc fuel).at n) tab.kw n X := ⟨rfl, S.nd, hr.deeper _, hg, W.free, W.cls, W.glo, fun x l h => ih base x l h⟩
  have xs0 : XS ((tab.txt gl exc fuel).at n) tab.kw n X := ⟨xo, passes_of rfl, S.kind⟩
  have hk : KOk ⟨D.d.N, D.scope, true, tab.kw⟩ X := ⟨rfl, rfl, fun _ _ => rfl⟩
  have tk : Takes X (fun cls d _ H => E cls d H) := takes_of rfl rfl rfl rfl
  have ht := s_B D.d.body ⟨D.d.N, D.scope, true, tab.kw⟩ X _ D.body xs0 hk tk O.code
  have hq : lS X (fun cls d _ H => E cls d H) (evS ((tab.txt gl exc fuel).at n) D.d.body) { nx := fun _ H' => Q .non H', rt := Q } (L2.start D.d.N vs) H := by
    rw [callN_def (d := D.d) (by show (tab.get D.x).map _ = _; rw [hD]; rfl)] at hsp
    unfold runF at hsp
    rw [if_pos hlx] at hsp
    refine ⟨ρ, _, M, SM0, ?_, back_post hsp⟩
    unfold L2.start
    rw [← rx.len]
    exact RE.start _ rx
  refine wpAny_mono (ht.run [] s1 (L2.start D.d.N vs) H _ I hq) (fun fl s' hs => ?_) fun e s' hs => hs
  have fin : ∀ {σ' : St} {H' : Hp} {v : V} {u : Value}, Inv X [] σ' H' s' → RelV v u → Q v H' → L2.CE outer P w H s Q u s' :=
    fun {σ' H' v u} J rv q => ⟨v, H', J.os, J.bare, J.base, J.hok, rv, q⟩
  cases fl with
  | ret u =>
    obtain ⟨v, σ', H', J, rv, q⟩ := hs
    exact fin J rv q
  | next =>
    obtain ⟨σ', H', J, q⟩ := hs
    exact fin (v := V.non) (u := Value.none) J rfl q
  | brk =>
    obtain ⟨_, _, _, q⟩ := hs
    exact False.elim q
  | cont =>
    obtain ⟨_, _, _, q⟩ := hs
    exact False.elim q
theorem binds_any {D : Def} {f : Addr} {fd : FuncData} (F : FunD K D.x D.x D.params D.body D.scope [] [] f fd) {args : Args} {bs : List (Str × Value)}
    (h : ∀ (kV doc pm : Value) (an : Option Addr) (cdv ct : Value), bindArgs (PySem.W.fnOf D.x D.x D.params D.body D.scope .none kV doc pm an cdv ct) args = pure bs) (s : Shared) : BindsTo s fd args bs := by
  obtain ⟨oc, od, dV, kV, doc, pm, an, cdv, ct, osl, rfl, lk, hcd, hD, hK⟩ := F.ex
  rcases hD with ⟨_, rfl⟩ | ⟨e, _⟩
  · exact .of_eq (h kV doc pm an cdv ct)
  · exact absurd rfl e
theorem callAt_of {n : Nat} {D : Def} {f : Addr} {fd : FuncData} {base : Heap} (W : Wor K mg tab gl) (hD : tab.get D.x = some D) (F : FunD K D.x D.x D.params D.body D.scope [] [] f fd) (m : mg D.x = some (.ref f))
    (run : ∀ (A : Around) (outer : List PySem.Env) (s : Shared) (H : Hp) (args : Args) (us : List Value) (vs : List V) (xs : List PV) (ρ : List Addr) (M : Sto) (Q : VK) (E : XK), Room n A → A.guards = some [] → Env0 P w K mg base A outer s H → BindsTo s fd args (D.d.ps.zip us) → Vals vs us →
    SM K mg ρ H M → RVs K mg ρ H xs vs → PostV K mg E ρ H (callN (tab.txt gl exc fuel) n D.x xs M) Q → codeAny (model P w) A (.call (.ref f) args) (CR (L2.CX P w) outer P w H s Q E) s) :
    CallAt P w K mg base n D.x D.kws (callN (tab.txt gl exc fuel) n D.x) f fd D.d.ps :=
  ⟨m, F.kp, fun _ _ z => len_run hD z, fun s us hl => binds_any F (fun kV doc pm an cdv ct => (W.ok D (Tab.get_mem hD).1).bd kV doc pm an cdv ct us hl) s,
    fun z hz s us ws h1 h2 => binds_any F (fun kV doc pm an cdv ct => (W.ok D (Tab.get_mem hD).1).kb z hz kV doc pm an cdv ct us ws h1 h2) s, run⟩
theorem callAt_all (W : Wor K mg tab gl) : ∀ (n : Nat) (base : Heap) (x : Str) (l : List (Nat × List Str × List Nat)), tab.kw x = some l → ∃ fa fd ps, CallAt P w K mg base n x l (callN (tab.txt gl exc fuel) n x) fa fd ps := by
  intro n
  induction n with
  | zero =>
    intro base x l h
    unfold Tab.kw at h
    obtain ⟨D, hD, rfl⟩ := Option.map_eq_some_iff.mp h
    obtain ⟨hm, rfl⟩ := Tab.get_mem hD
    obtain ⟨f, fd, F, m⟩ := W.fns D hm
    exact ⟨f, fd, D.d.ps, callAt_of W hD F m fun A outer s H args us vs xs ρ M Q E _ _ _ _ _ _ _ q => q.elim⟩
  | succ n ih =>
    intro base x l h
    unfold Tab.kw at h
    obtain ⟨D, hD, rfl⟩ := Option.map_eq_some_iff.mp h
    obtain ⟨hm, rfl⟩ := Tab.get_mem hD
    obtain ⟨f, fd, F, m⟩ := W.fns D hm
    exact ⟨f, fd, D.d.ps, callAt_of W hD F m (callAt_run W hD F ih)⟩
end
end Ev

set_option Elab.async false
set_option linter.all false
set_option maxRecDepth 100000
set_option maxHeartbeats 8000000
/-! Ev15: the end of a law. -/
namespace Ev
open PySem L2 PyProof.Rows

theorem RVs.ints {K : PySem.W.Frag} {mg : Str → Option Value} {ρ : List Addr} {H : Hp} : ∀ ns : List Int, RVs K mg ρ H (ns.map .int) (ns.map V.int)
  | [] => .nil
  | n :: ns => .cons (.int n) (RVs.ints ns)
theorem law_end {P : Program} {w : World} {K : PySem.W.Frag} {mg mb : Str → Option Value} {tab : Tab} {gl : Str → Option PV} {exc : Str → Option (List Str)} {fuel k : Nat} {D : Def} {fa a : Addr} {s₁ : Shared} {vs : List Value} {ns : List Int}
    (KX : K.In s₁.heap) (hns : s₁.heap.Ns mainGlobals mg) (hb : s₁.heap.Ns builtinsNs mb) (hbb : ∀ x : Str, x ≠ "__name__" → mb x = bootBuiltins x) (hlim : s₁.heap.NoLimit) (hg : s₁.gens = #[])
    (ha : s₁.heap.get? a = some { cls := .type "list", data := .seq vs.toArray }) (hi : IntsAre vs ns) (hl : ns.length ≤ sizeLine) (hr : Room k callerA)
    (W : Wor K mg tab gl) (hD : tab.get D.x = some D) (mD : mg D.x = some (.ref fa)) (hp : D.d.ps.length = 1) (law : ∃ M, callN (tab.txt gl exc fuel) k D.x [.rol (ns.map .int)] [] = .ok (.bl true) M) :
    codeAny (model P w) callerA (.call (.ref fa) ⟨[.ref a], []⟩) (fun r s' => r = .ok (.ret (.bool true)) ∧ OldK s₁.heap s'.heap ∧ s'.os = s₁.os ∧ AllBare s'.gens) s₁ := by
  have rv := vals_ints hi
  have lenV := hi.length
  have core : ∀ H : Hp, Only H → Fzl K H a (ns.map V.int) → HOk P w H s₁.heap → (∀ b, H b ≠ none → b = a) → (H a ≠ none → K.lookup a = none) →
      codeAny (model P w) callerA (.call (.ref fa) ⟨[.ref a], []⟩) (fun r s' => r = .ok (.ret (.bool true)) ∧ OldK s₁.heap s'.heap ∧ s'.os = s₁.os ∧ AllBare s'.gens) s₁ := by
    intro H hO hS hok hA hK
    have base_of : ∀ {b : Addr} {o : Obj}, s₁.heap.get? b = some o → H b = none → (hidT s₁.heap H).get? b = some o := fun e n => hidT_get e n
    have noA : ∀ {b : Addr} {o : Obj} {es : Array DictEntry} {ep : Nat}, s₁.heap.get? b = some o → o.data = .dict es ep → H b = none := fun {b o es ep} e d => by
      cases q : H b with
      | none => rfl
      | some u =>
        have e' : b = a := hA b (by rw [q]; simp)
        subst e'
        rw [ha] at e; cases e
        have d' : Data.seq vs.toArray _ = Data.dict es ep := d
        cases d'
    have nsK : ∀ {b : Addr} {m : Str → Option Value}, s₁.heap.Ns b m → (hidT s₁.heap H).Ns b m := fun {b m} ⟨o, es, ep, e, d, r⟩ => ⟨o, es, ep, base_of e (noA e d), d, r⟩
    have hKb : K.In (hidT s₁.heap H) := fun b o e => base_of (KX b o e) (by
      cases q : H b with
      | none => rfl
      | some u =>
        have e' : b = a := hA b (by rw [q]; simp)
        subst e'
        rw [hK (by rw [q]; simp)] at e; cases e)
    have hM : Mod K mg (hidT s₁.heap H) := ⟨hKb, nsK hns, ⟨mb, nsK hb, hbb⟩, let ⟨mc, h1, h2⟩ := hlim; ⟨mc, nsK h1, h2⟩⟩
    have e0 : Env0 P w K mg (hidT s₁.heap H) callerA [] s₁ H := ⟨rfl, hM, fun b o e => of_hidT e, Nat.le_of_eq (hidT_size _ _), trivial, fun b hb => absurd (show b ∈ ([] : List Addr) from hb) (by simp), hok, .of_eq hg⟩
    obtain ⟨fa', fd, ps, C⟩ := callAt_all (P := P) (w := w) (exc := exc) (fuel := fuel) W k (hidT s₁.heap H) D.x D.kws (by unfold Tab.kw; rw [hD]; rfl)
    obtain ⟨M, law⟩ := law
    have lp : ps.length = 1 := (C.len [.rol (ns.map .int)] [] (by rw [law]; exact fun z => by cases z)).symm
    obtain rfl : fa' = fa := by
      have e := C.at'.symm.trans mD
      cases e; rfl
    have SM0 : SM K mg [] H [] := ⟨rfl, List.nodup_nil, fun i a o h => by simp at h⟩
    have rx : RVs K mg [] H [.rol (ns.map .int)] [.ref a] := .cons (.rol hS (RVs.ints ns)) .nil
    have hpv : PostV K mg (fun _ _ _ => False) [] H (callN (tab.txt gl exc fuel) k D.x [.rol (ns.map .int)] []) (fun v _ => v = .bl true) := by
      rw [law]
      exact fun ρ' v H' _ _ r => r.bl_inv
    refine codeAny_mono (C.run callerA [] s₁ H ⟨[.ref a], []⟩ [.ref a] [.ref a] _ [] [] (fun v _ => v = .bl true) (fun _ _ _ => False) hr rfl e0 (C.bd s₁ [.ref a] lp.symm) (.cons rfl .nil) SM0 rx hpv) fun r s' h => ?_
    cases r with
    | error e =>
      obtain ⟨_, _, _, _, _, _, _, _, _, _, _, _, z⟩ := h
      exact z.elim
    | ok fl =>
      cases fl with
      | next => exact False.elim h
      | brk => exact False.elim h
      | cont => exact False.elim h
      | ret u =>
        obtain ⟨v, H', os, bare, un, hok', r', q⟩ := h
        have q' : v = .bl true := q
        subst q'
        obtain rfl : u = Value.bool true := r'
        refine ⟨rfl, OldK.of_keep fun b o e => ?_, os, bare⟩
        cases q : H b with
        | none => exact un.keep b o e q (by intro z; exact absurd (show b ∈ ([] : List Addr) from z) (by simp)) (by simp)
        | some u =>
          rcases hO b with z | ⟨ob, xs, z⟩
          · rw [q] at z; cases z
          · have z2 := un.frzs b ob _ z
            obtain ⟨e1, _⟩ := hok b _ z
            obtain ⟨e2, _⟩ := hok' b _ z2
            rw [e] at e1; cases e1
            exact e2
  cases hk : K.lookup a with
  | some o =>
    have e := KX a o hk
    rw [ha] at e
    cases e
    refine core (fun _ => none) (fun _ => .inl rfl) (.inr ⟨_, vs.toArray, _, hk, rfl, rfl, rfl, by rw [List.size_toArray, lenV]; exact hl, by simpa using rv⟩) (fun b u z => by have z' : (none : Option HO) = some u := z; cases z') (fun b z => absurd rfl z) fun z => absurd rfl z
  | none =>
    refine core (fun b => if b = a then some (.frz { cls := .type "list", data := .seq vs.toArray } (.lst (ns.map V.int))) else none) (fun b => ?_) (.inl ⟨{ cls := .type "list", data := .seq vs.toArray }, if_pos rfl⟩) (fun b u z => ?_) (fun b z => ?_) fun _ => hk
    · by_cases hb : b = a
      · exact .inr ⟨_, _, if_pos hb⟩
      · exact .inl (if_neg hb)
    · by_cases hb : b = a
      · have z' := (if_pos hb).symm.trans z
        cases z'
        subst hb
        exact ⟨ha, by rw [List.length_map]; exact hl, vs, _, rv, ha⟩
      · have z' := (if_neg hb).symm.trans z
        cases z'
    · by_cases hb : b = a
      · exact hb
      · exact absurd (if_neg hb) z
/-- the law's end: what stands behind the top, and that the code says True of every script -/
theorem walk_ev {l : PySem.W.OpenLaw} {n k : Nat} {q : Program} {loose : List Str} {XP : (Str → Option Value) → Heap → Prop} {YP : World → Heap → Prop} {d : DefRec} {tab : Tab} {gl : Str → Option PV} {exc : Str → Option (List Str)} {fuel : Nat} {D : Def}
    (hn : l.most = some n) (hn2 : n ≤ sizeLine) (hdf : d.params.defaults = []) (hr : Room k callerA) (hD : tab.get D.x = some D) (hp : D.d.ps.length = 1)
    (F : ∀ (w : World) (mg : Str → Option Value) (fa : Addr) (h : Heap), YP w h → h.Ns mainGlobals mg → mg d.name = some (.ref fa) → ∃ K : PySem.W.Frag, K.In h ∧ Wor K mg tab gl ∧ mg D.x = some (.ref fa))
    (law : ∀ ns : List Int, ns.length ≤ n → (∀ z ∈ ns, Builtin.Int.intBits z ≤ 1048576) → ∃ M, callN (tab.txt gl exc fuel) k D.x [.rol (ns.map .int)] [] = .ok (.bl true) M) :
    PySem.W.WalkO q loose XP YP l.row.toRowW d [] (fun f vs => PySem.call f vs) := by
  refine Att.attach_callB hn hdf fun w s₀ s₁ mg mb fa o pm cd doc a vs ns G Y ho hd hcd hmg hobj hints hlen hbits hg => ?_
  obtain ⟨K, KX, W, mD⟩ := F w mg fa _ Y G.T.g hmg
  exact law_end KX G.T.g G.T.b G.T.builtins G.T.nolimit hg hobj hints (Nat.le_trans hlen hn2) hr W hD mD hp (law ns hlen hbits)
end Ev

set_option Elab.async false
set_option linter.all false
set_option maxRecDepth 100000
set_option maxHeartbeats 8000000
/-! Ev16: what the head says. -/
namespace Ev
open PySem L2 PyProof.Rows

/-- the module's constants -/
inductive GC where
  | int (i : Int)
  | str (s : Str)
abbrev GCs := List (Str × GC)
def GC.pv : GC → PV
  | .int i => .int i
  | .str s => .str s
def GCs.glo (g : GCs) : Str → Option PV := fun x => (g.find? fun p => decide (p.1 = x)).map (·.2.pv)
def GC.fa (x : Str) : GC → He.Fa
  | .int i => .int x i
  | .str s => .str x s
def Def.dd (D : Def) : He.DefD := ⟨(D.x, none), D.x, D.x, D.params, D.body, D.scope, [], []⟩
def faOf (tab : Tab) (g : GCs) : List He.Fa := tab.map (fun D => .glo D.x) ++ (freeNames.map .free ++ (clsNames.map (fun c => .free (Str.ofString c)) ++ g.map (fun p => p.2.fa p.1)))
def fnOf (tab : Tab) : List He.DefD := tab.map Def.dd
section
variable {tab : Tab} {g : GCs} {K : PySem.W.Frag} {h : Heap} {mg : Str → Option Value}
theorem fact_mem (c : He.SaysD (faOf tab g) (fnOf tab) K) {f : He.Fa} (m : f ∈ faOf tab g) : f.ok K = true := by
  obtain ⟨i, hi⟩ := List.mem_iff_getElem?.mp m
  exact c.fact i hi
theorem wor_of (X : K.In h) (G : h.Ns mainGlobals mg) (c : He.SaysD (faOf tab g) (fnOf tab) K) (ok : ∀ D ∈ tab, D.Ok tab.kw) : Wor K mg tab g.glo := by
  refine ⟨fun D hD => ?_, ok, fun x hx => ?_, fun x hx => ?_, fun x pv e => ?_⟩
  · obtain ⟨i, hi⟩ := List.mem_iff_getElem?.mp (List.mem_map_of_mem (f := Def.dd) hD)
    obtain ⟨fd, F⟩ := c.def_ i hi
    refine ⟨_, fd, F, ?_⟩
    exact He.glo_ok X G (fact_mem c (List.mem_append_left _ (List.mem_map_of_mem (f := fun D : Def => He.Fa.glo D.x) hD)))
  · exact He.free_ok X G (fact_mem c (List.mem_append_right _ (List.mem_append_left _ (List.mem_map_of_mem (f := He.Fa.free) hx))))
  · exact He.free_ok X G (fact_mem c (List.mem_append_right _ (List.mem_append_right _ (List.mem_append_left _ (List.mem_map_of_mem (f := fun c => He.Fa.free (Str.ofString c)) hx)))))
  · unfold GCs.glo at e
    obtain ⟨p, hp, rfl⟩ := Option.map_eq_some_iff.mp e
    have hx : p.1 = x := by simpa using List.find?_some hp
    have m := fact_mem c (List.mem_append_right _ (List.mem_append_right _ (List.mem_append_right _ (List.mem_map_of_mem (f := fun p : Str × GC => p.2.fa p.1) (List.mem_of_find?_eq_some hp)))))
    obtain ⟨x', gc⟩ := p
    cases hx
    cases gc with
    | int i =>
      obtain ⟨t, e⟩ := He.int_ok X G (x := x') (i := i) m
      exact ⟨_, .int i, e, ⟨t, rfl⟩, fun ρ H => .int i⟩
    | str z =>
      obtain ⟨t, e⟩ := He.str_ok X G (x := x') (z := z) m
      exact ⟨_, .str z, e, ⟨t, rfl⟩, fun ρ H => .str z⟩
end
end Ev

set_option Elab.async false
set_option linter.all false
set_option maxRecDepth 100000
set_option maxHeartbeats 8000000
/-! Ev17: how the code is run in thought. -/
namespace Ev
open PySem L2

theorem m_bind {α β : Type} (r : Res α) (f : α → Sto → Res β) : r.bind f = match r with | .ok a M => f a M | .exc x M => .exc x M | .bad => .bad := by cases r <;> rfl
theorem m_then {α : Type} (r : Res α) (env : Env) (f : α → Sto → SRes) : r.then env f = match r with | .ok a M => f a M | .exc x M => .ex x env M | .bad => .bad := by cases r <;> rfl
theorem m_sbind (r : SRes) (f : Env → Sto → SRes) : r.bind f = match r with | .nx env M => f env M | .rt v M => .rt v M | .bk env M => .bk env M | .ct env M => .ct env M | .ex x env M => .ex x env M | .bad => .bad := by cases r <;> rfl
theorem m_opt {α : Type} (o : Option α) (M : Sto) : Res.of o M = match o with | some a => .ok a M | none => .bad := by cases o <;> rfl
theorem at_call (T : Txt) (n : Nat) (f : Str) (xs : List PV) (M : Sto) : (T.at n).call f xs M = callN T n f xs M := rfl
theorem at_glo (T : Txt) (n : Nat) (x : Str) : (T.at n).glo x = T.glo x := rfl
theorem at_fuel (T : Txt) (n : Nat) : (T.at n).fuel = T.fuel := rfl
/-- a def's run -/
theorem run_def {T : Txt} {n : Nat} {f : Str} {ps N : List Str} {c : CS} (h : T.fn f = some ⟨ps, N, c⟩) (xs : List PV) (M : Sto) (k : Nat) (hl : xs.length = ps.length) (hk : N.length - xs.length = k) :
    callN T (n + 1) f xs M = (evS (T.at n) c (xs.map some ++ List.replicate k none) M).back := by
  rw [callN_def h]
  unfold runF
  rw [if_pos hl, hk]

/-! ### data of values that hang on no store -/
mutual
def pd : PV → PyData
  | .non => .none
  | .bl b => .bool b
  | .int i => .int i
  | .str s => .str s
  | .tup xs => .tuple (pds xs)
  | .rol xs => .list (pds xs)
  | .ref _ => .none
  | .glo _ => .none
  | .ty _ => .none
def pds : List PV → List PyData
  | [] => []
  | x :: xs => pd x :: pds xs
end
/-! it hangs on no store; its numbers are short enough to be written -/
mutual
def fine : PV → Bool
  | .non => true
  | .bl _ => true
  | .int i => decide (i.natAbs < 10 ^ 570)
  | .str s => s.cps.toList.all fun c => decide (c < 1114112)
  | .tup xs => fines xs
  | .rol xs => fines xs
  | .ref _ => false
  | .glo _ => false
  | .ty _ => false
def fines : List PV → Bool
  | [] => true
  | x :: xs => fine x && fines xs
end
mutual
theorem dat_fine (lk : Nat → Option PyData) : ∀ x, fine x = true → datR lk x = some (pd x)
  | .non, _ => by simp only [datR, pd]
  | .bl b, _ => by simp only [datR, pd]
  | .int i, _ => by simp only [datR, pd]
  | .str s, _ => by simp only [datR, pd]
  | .tup xs, h => by
    simp only [fine] at h
    simp only [datR, pd, dats_fine lk xs h, Option.map_some]
  | .rol xs, h => by
    simp only [fine] at h
    simp only [datR, pd, dats_fine lk xs h, Option.map_some]
  | .ref _, h => by simp [fine] at h
  | .glo _, h => by simp [fine] at h
  | .ty _, h => by simp [fine] at h
theorem dats_fine (lk : Nat → Option PyData) : ∀ xs, fines xs = true → datRs lk xs = some (pds xs)
  | [], _ => by simp only [datRs, pds]
  | x :: xs, h => by
    simp only [fines, Bool.and_eq_true] at h
    simp only [datRs, dat_fine lk x h.1, dats_fine lk xs h.2, pds]
end
theorem int_short {i : Int} (h : i.natAbs < 10 ^ 570) : (PyData.shown (.int i)).length ≤ 571 ∧ i.natAbs.log2 < 1920 := by
  constructor
  · have e := int_text_length_le10 (k := 570) (by decide) h
    show (Str.ofString (toString i)).length ≤ 571
    rw [ofString_length]; exact e
  · by_cases h0 : i.natAbs = 0
    · rw [h0]; decide
    · rw [Nat.log2_lt h0]
      exact Nat.lt_trans h (by decide +kernel)
mutual
theorem fine_ok : ∀ x, fine x = true → (pd x).leavesShort 571 = true ∧ (pd x).showable = true ∧ (pd x).hasDict = false ∧ (pd x).canLay0 = true
  | .non, _ => by simp [pd, PyData.leavesShort, PyData.showable, PyData.hasDict, PyData.canLay0]
  | .bl b, _ => by simp [pd, PyData.leavesShort, PyData.showable, PyData.hasDict, PyData.canLay0]
  | .int i, h => by
    simp only [fine, decide_eq_true_eq] at h
    obtain ⟨h1, h2⟩ := int_short h
    simp [pd, PyData.leavesShort, PyData.showable, PyData.hasDict, PyData.canLay0, h1, h2]
  | .str s, h => by
    simp only [fine, List.all_eq_true, decide_eq_true_eq] at h
    refine ⟨?_, by simp [pd, PyData.showable], by simp [pd, PyData.hasDict], ?_⟩
    · simp only [pd, PyData.leavesShort, List.all_eq_true, decide_eq_true_eq]
      exact fun c hc => Nat.lt_trans (h c hc) (by decide)
    · simp only [pd, PyData.canLay0, PyData.strOk]
      rw [Array.all_eq_true]
      intro i hi
      exact decide_eq_true (h _ (by simp))
  | .tup xs, h => by
    simp only [fine] at h
    obtain ⟨h1, h2, h3, h4⟩ := fines_ok xs h
    simp only [pd, PyData.leavesShort, PyData.showable, PyData.hasDict, PyData.canLay0, h1, h2, h3, h4, and_self]
  | .rol xs, h => by
    simp only [fine] at h
    obtain ⟨h1, h2, h3, h4⟩ := fines_ok xs h
    simp only [pd, PyData.leavesShort, PyData.showable, PyData.hasDict, PyData.canLay0, h1, h2, h3, h4, and_self]
  | .ref _, h => by simp [fine] at h
  | .glo _, h => by simp [fine] at h
  | .ty _, h => by simp [fine] at h
theorem fines_ok : ∀ xs, fines xs = true → PyData.leavesShortAll 571 (pds xs) = true ∧ PyData.showableAll (pds xs) = true ∧ PyData.hasDictAll (pds xs) = false ∧ PyData.canLayAll0 (pds xs) = true
  | [], _ => by simp [pds, PyData.leavesShortAll, PyData.showableAll, PyData.hasDictAll, PyData.canLayAll0]
  | x :: xs, h => by
    simp only [fines, Bool.and_eq_true] at h
    obtain ⟨a1, a2, a3, a4⟩ := fine_ok x h.1
    obtain ⟨h1, h2, h3, h4⟩ := fines_ok xs h.2
    simp [pds, PyData.leavesShortAll, PyData.showableAll, PyData.hasDictAll, PyData.canLayAll0, h1, h2, h3, h4, a1, a2, a3, a4]
end
theorem dat_of_fine {M : Sto} {x : PV} (h : fine x = true) : dat M x = some (pd x) := dat_fine _ x h
/-- its text -/
theorem repr_fine {M : Sto} {x : PV} (h : fine x = true) (hs : (pd x).bulk ≤ 29000) (hd : (pd x).depth ≤ 64) : reprV M x = some (pd x).shown := by
  obtain ⟨h1, h2, h3, _⟩ := fine_ok x h
  unfold reprV
  rw [dat_of_fine h]
  have e := PyData.shown_le_bulk 571 (by decide) (pd x) h1
  have e2 : (571 + 2) * (pd x).bulk ≤ 573 * 29000 := Nat.mul_le_mul (by omega) hs
  have e3 : (pd x).shown.length ≤ sizeLine := by rw [sizeLine_eq]; omega
  exact if_pos ⟨h2, e3, hd, h3⟩
theorem shaped_fine {x : PV} (h : fine x = true) (hd : (pd x).depth ≤ 64) : SeqAt.shaped (pd x) = true := by
  obtain ⟨_, _, _, h4⟩ := fine_ok x h
  simp [SeqAt.shaped, h4, hd]
/-! ### the store -/
theorem sto_set {M : Sto} {i : Nat} {o o' : MO} (h : M[i]? = some o) : (M.set i o')[i]? = some o' := by
  have := (List.getElem?_eq_some_iff.mp h).1
  rw [List.getElem?_set_self this]
theorem sto_ne {M : Sto} {i j : Nat} {o' : MO} (h : i ≠ j) : (M.set i o')[j]? = M[j]? := List.getElem?_set_ne h
theorem sto_lt {M : Sto} {i : Nat} {o : MO} (h : M[i]? = some o) : i < M.length := (List.getElem?_eq_some_iff.mp h).1
theorem sto_app {M : Sto} {i : Nat} {o : MO} {l : List MO} (h : M[i]? = some o) : (M ++ l)[i]? = some o := by rw [List.getElem?_append_left (sto_lt h)]; exact h
theorem sto_new (M : Sto) (o : MO) : (M ++ [o])[M.length]? = some o := by simp
/-- what stood and is not among these stands -/
def Keep (out : List Nat) (M M' : Sto) : Prop := M.length ≤ M'.length ∧ ∀ k, k < M.length → k ∉ out → M'[k]? = M[k]?
theorem Keep.refl {out : List Nat} (M : Sto) : Keep out M M := ⟨Nat.le_refl _, fun _ _ _ => rfl⟩
theorem Keep.trans {out : List Nat} {M M1 M2 : Sto} (a : Keep out M M1) (b : Keep out M1 M2) : Keep out M M2 :=
  ⟨Nat.le_trans a.1 b.1, fun k h n => (b.2 k (Nat.lt_of_lt_of_le h a.1) n).trans (a.2 k h n)⟩
theorem Keep.set {out : List Nat} {M : Sto} {i : Nat} {o : MO} (h : i ∈ out) : Keep out M (M.set i o) := ⟨by simp, fun k _ n => sto_ne fun e => n (e ▸ h)⟩
theorem Keep.app {out : List Nat} {M : Sto} {l : List MO} : Keep out M (M ++ l) := ⟨by simp, fun k h _ => by rw [List.getElem?_append_left h]⟩
theorem Keep.get {out : List Nat} {M M' : Sto} (a : Keep out M M') {k : Nat} {o : MO} (h : M[k]? = some o) (n : k ∉ out) : M'[k]? = some o := (a.2 k (sto_lt h) n).trans h
theorem Keep.imp {out out' : List Nat} {M M' : Sto} (a : Keep out M M') (h : ∀ k, k ∈ out → k ∈ out') : Keep out' M M' := ⟨a.1, fun k l n => a.2 k l fun z => n (h k z)⟩
theorem Keep.len {out : List Nat} {M M' : Sto} (a : Keep out M M') : M.length ≤ M'.length := a.1
/-! ### lists of numbers, as data -/
theorem dats_ints (lk : Nat → Option PyData) : ∀ ns : List Int, datRs lk (ns.map .int) = some (ns.map .int)
  | [] => rfl
  | n :: ns => by
    simp only [List.map_cons, datRs, datR, dats_ints lk ns]
theorem canLay_ints : ∀ ns : List Int, PyData.canLayAll0 (ns.map .int) = true
  | [] => rfl
  | n :: ns => by simp [PyData.canLayAll0, PyData.canLay0, canLay_ints ns]
theorem depth_ints : ∀ ns : List Int, PyData.depthAll (ns.map .int) = 0
  | [] => rfl
  | n :: ns => by simp [PyData.depthAll, PyData.depth, depth_ints ns]
theorem dat_lst {M : Sto} {i : Nat} {xs : List PV} (h : M[i]? = some (.lst xs)) : dat M (.ref i) = (datRs (lkN M 7) xs).map .list := by
  show datR (lkN M 8) (.ref i) = _
  simp only [datR, lkN, h]
/-- is a list the empty one? -/
theorem eq_empty {M : Sto} {i j : Nat} {ns : List Int} (h : M[i]? = some (.lst (ns.map .int))) (h' : M[j]? = some (.lst [])) : eqV M (.ref i) (.ref j) = some ns.isEmpty := by
  have e : eqV M (.ref i) (.ref j) = (match dat M (.ref i), dat M (.ref j) with
    | some d, some e => if SeqAt.shaped d = true ∧ SeqAt.shaped e = true then some (PyData.eqv d e) else none
    | _, _ => none) := rfl
  rw [e, dat_lst h, dat_lst h', dats_ints]
  have s1 : SeqAt.shaped (.list (ns.map .int)) = true := by simp [SeqAt.shaped, PyData.canLay0, canLay_ints, PyData.depth, depth_ints]
  have s2 : SeqAt.shaped (.list []) = true := by decide
  have s3 : datRs (lkN M 7) [] = some [] := by simp [datRs]
  rw [s3]
  show (if SeqAt.shaped (.list (ns.map .int)) = true ∧ SeqAt.shaped (.list []) = true then some (PyData.eqv (.list (ns.map .int)) (.list [])) else none) = _
  rw [if_pos ⟨s1, s2⟩]
  cases ns <;> simp [PyData.eqv, PyData.eqvAll]
/-! ### loops -/
section
variable {body : PV → Env → Sto → SRes} {keep : Sto → Bool}
/-- each turn goes on -/
theorem for_all (I : List PV → Env → Sto → Prop) (hk : ∀ xs env M, I xs env M → keep M = true)
    (step : ∀ x xs env M, I (x :: xs) env M → ∃ env1 M1, (body x env M = .nx env1 M1 ∨ body x env M = .ct env1 M1) ∧ I xs env1 M1) :
    ∀ xs env M, I xs env M → ∃ env' M', forL body keep xs env M = .nx env' M' ∧ I [] env' M'
  | [], env, M, h => ⟨env, M, by simp only [forL, hk _ _ _ h, if_true], h⟩
  | x :: xs, env, M, h => by
    obtain ⟨env1, M1, e, h1⟩ := step x xs env M h
    obtain ⟨env', M', e', h'⟩ := for_all I hk step xs env1 M1 h1
    refine ⟨env', M', ?_, h'⟩
    simp only [forL, hk _ _ _ h, if_true]
    rcases e with e | e <;> rw [e] <;> exact e'
end
/-- a while, its turns counted -/
theorem while_all {c : Env → Sto → Res PV} {b : Env → Sto → SRes} (I : Nat → Env → Sto → Prop) (J : SRes → Prop)
    (step : ∀ n env M, I n env M → (∃ x M1, c env M = .ok x M1 ∧ ((truV M1 x = some false ∧ J (.nx env M1)) ∨ (truV M1 x = some true ∧ ((∃ env2 M2 m, m < n ∧ (b env M1 = .nx env2 M2 ∨ b env M1 = .ct env2 M2) ∧ I m env2 M2) ∨ (∃ v M2, b env M1 = .rt v M2 ∧ J (.rt v M2)) ∨ (∃ env2 M2, b env M1 = .bk env2 M2 ∧ J (.nx env2 M2)))))) ) :
    ∀ n fuel env M, n < fuel → I n env M → J (whL c b fuel env M) := by
  intro n
  induction n using Nat.strongRecOn with
  | _ n ih =>
    intro fuel env M hf h
    cases fuel with
    | zero => omega
    | succ fuel =>
      obtain ⟨x, M1, e, h1⟩ := step n env M h
      unfold whL
      rw [e]
      simp only [Res.then_ok]
      rcases h1 with ⟨t, j⟩ | ⟨t, h2⟩
      · rw [t]; exact j
      · rw [t]
        rcases h2 with ⟨env2, M2, m, hm, e2, h3⟩ | ⟨v, M2, e2, j⟩ | ⟨env2, M2, e2, j⟩
        · rcases e2 with e2 | e2
          · simp only [e2]; exact ih m hm fuel env2 M2 (by omega) h3
          · simp only [e2]; exact ih m hm fuel env2 M2 (by omega) h3
        · simp only [e2]; exact j
        · simp only [e2]; exact j
theorem forB_def (t : CT) (r : Env → Sto → SRes) : (fun x env M => match asgT t x env with | some env1 => r env1 M | none => .bad) = forB t r := rfl
theorem ofString_eq (a b : String) : (Str.ofString a = Str.ofString b) = (a = b) := by
  apply propext
  constructor
  · intro h
    have h1 := congrArg (fun z : Str => z.cps.toList) h
    have h2 : cpsOfBytes 0 0 a.toByteArray.data.toList = cpsOfBytes 0 0 b.toByteArray.data.toList := by simpa [Str.ofString] using h1
    rw [cpsOfBytes_string, cpsOfBytes_string] at h2
    have inj : ∀ l l' : List Char, l.map Char.toNat = l'.map Char.toNat → l = l' := by
      intro l
      induction l with
      | nil => intro l' h; cases l' <;> simp at h; rfl
      | cons c l ih =>
        intro l' h
        cases l' with
        | nil => simp at h
        | cons c' l' =>
          simp only [List.map_cons, List.cons.injEq] at h
          have hc : c = c' := by
            apply Char.ext
            apply UInt32.toNat_inj.mp
            exact h.1
          rw [hc, ih l' h.2]
    have h3 := inj _ _ h2
    rw [← String.ofList_toList (s := a), ← String.ofList_toList (s := b), h3]
  · rintro rfl; rfl
theorem key_str (a b : Str) : ((Sum.inr a : Key) = Sum.inr b) = (a = b) := by simp
theorem key_int (a b : Int) : ((Sum.inl a : Key) = Sum.inl b) = (a = b) := by simp
theorem valP_nil (k : Key) : valP [] k = none := rfl
theorem valP_cons (k' : Key) (v : PV) (r : List (Key × PV)) (k : Key) : valP ((k', v) :: r) k = if k' = k then some v else valP r k := by
  unfold valP
  rw [List.find?_cons]
  by_cases h : k' = k <;> simp [h]
theorem sto_self (M : Sto) (i : Nat) (o : MO) : (M.set i o)[i]? = M[i]?.map fun _ => o := by
  rw [List.getElem?_set_self']; rfl
theorem sto_apps {M : Sto} {i : Nat} (l : List MO) (h : i < M.length) : (M ++ l)[i]? = M[i]? := List.getElem?_append_left h
section
variable (M : Sto)
theorem eq_ii (i j : Int) : eqV M (.int i) (.int j) = some (decide (i = j)) := rfl
theorem eq_ss (i j : Str) : eqV M (.str i) (.str j) = some (decide (i = j)) := rfl
theorem eq_bb (i j : Bool) : eqV M (.bl i) (.bl j) = some (decide (i = j)) := rfl
theorem eq_nn : eqV M .non .non = some true := rfl
theorem eq_ni (i : Int) : eqV M .non (.int i) = some false := rfl
theorem eq_in (i : Int) : eqV M (.int i) .non = some false := rfl
theorem eq_ns (i : Str) : eqV M .non (.str i) = some false := rfl
theorem eq_sn (i : Str) : eqV M (.str i) .non = some false := rfl
theorem eq_nb (i : Bool) : eqV M .non (.bl i) = some false := rfl
theorem eq_bn (i : Bool) : eqV M (.bl i) .non = some false := rfl
theorem eq_is (i : Int) (j : Str) : eqV M (.int i) (.str j) = some false := rfl
theorem eq_si (i : Str) (j : Int) : eqV M (.str i) (.int j) = some false := rfl
theorem eq_empty2 (ns : List Int) {i k : Nat} (h : M[i]? = some (.lst (ns.map .int))) (e : k = M.length) : eqV (M ++ [.lst []]) (.ref i) (.ref k) = some ns.isEmpty := by
  subst e
  exact eq_empty (sto_app h) (sto_new _ _)
end
theorem natAbs64 (i : Int) : (i.natAbs < 18446744073709551616) = (-18446744073709551616 < i ∧ i < 18446744073709551616) := by
  apply propext
  omega
theorem natAbs30 (i : Int) : (i.natAbs < 1073741824) = (-1073741824 < i ∧ i < 1073741824) := by
  apply propext
  omega
theorem last_get {α : Type} (l : List α) (a : α) : (l ++ [a])[(l ++ [a]).length - 1]? = some a := by simp
theorem ints_last (l : List Int) (c : Int) : ((l ++ [c]).map PV.int)[((l ++ [c]).map PV.int).length - 1]? = some (.int c) := by simp
theorem ints_drop (l : List Int) (c : Int) : ((l ++ [c]).map PV.int).dropLast = l.map .int := by simp
theorem fmod_ok {a b : Int} (h : 0 < b) : 0 ≤ a.fmod b ∧ a.fmod b < b := ⟨Int.fmod_nonneg_of_pos a h, Int.fmod_lt_of_pos a h⟩
theorem fmod_lt64 {a b : Int} (h : 0 < b) (h2 : b < 18446744073709551616) : (a.fmod b < 18446744073709551616) = True := eq_true (Int.lt_trans (fmod_ok h).2 h2)
theorem fmod_gt64 {a b : Int} (h : 0 < b) : (-18446744073709551616 < a.fmod b) = True := eq_true (by have := (fmod_ok (a := a) h).1; omega)
section
variable {α : Type} (xs : List α)
theorem atI_lit (n : Nat) : atI xs (n : Int) = xs[n]? := by
  unfold atI ixN
  rw [if_pos (by omega)]
  by_cases h : (n : Int) < (xs.length : Int)
  · rw [if_pos h]; simp
  · rw [if_neg h]
    show none = _
    rw [List.getElem?_eq_none (by omega)]
theorem atI_0 : atI xs 0 = xs[0]? := atI_lit xs 0
theorem atI_1 : atI xs 1 = xs[1]? := atI_lit xs 1
theorem atI_2 : atI xs 2 = xs[2]? := atI_lit xs 2
theorem atI_3 : atI xs 3 = xs[3]? := atI_lit xs 3
theorem atI_4 : atI xs 4 = xs[4]? := atI_lit xs 4
theorem atI_5 : atI xs 5 = xs[5]? := atI_lit xs 5
theorem atI_6 : atI xs 6 = xs[6]? := atI_lit xs 6
theorem atI_7 : atI xs 7 = xs[7]? := atI_lit xs 7
theorem atI_8 : atI xs 8 = xs[8]? := atI_lit xs 8
theorem atI_9 : atI xs 9 = xs[9]? := atI_lit xs 9
theorem atI_in {r : Int} (h0 : 0 ≤ r) (h1 : r < xs.length) : ∃ x, x ∈ xs ∧ xs[r.toNat]? = some x ∧ atI xs r = some x := by
  have hl : r.toNat < xs.length := by omega
  refine ⟨xs[r.toNat], List.getElem_mem hl, List.getElem?_eq_getElem hl, ?_⟩
  have e : atI xs r = atI xs ((r.toNat : Nat) : Int) := by rw [Int.toNat_of_nonneg h0]
  rw [e, atI_lit, List.getElem?_eq_getElem hl]
end
theorem sIx_none (n d : Nat) : HT.sIx n d none = d := rfl
theorem sIx_lit (n d k : Nat) : HT.sIx n d (some (k : Int)) = min k n := HT.sIx_nat n d k
theorem cut_all {xs : List PV} {k : Nat} (h : xs.length ≤ k) : cutP xs none (some (k : Int)) = xs := by
  unfold cutP
  rw [sIx_none, sIx_lit, Nat.min_eq_right h]
  simp
theorem cut_to (xs : List PV) (k : Nat) : cutP xs none (some (k : Int)) = xs.take k := by
  unfold cutP
  rw [sIx_none, sIx_lit]
  simp [List.take_eq_take_iff]
theorem cut_from (xs : List PV) (k : Nat) : cutP xs (some (k : Int)) none = xs.drop k := by
  unfold cutP
  rw [sIx_none, sIx_lit]
  by_cases h : k ≤ xs.length
  · rw [Nat.min_eq_left h, List.take_of_length_le (by simp)]
  · rw [Nat.min_eq_right (by omega)]
    simp; omega
theorem cut_mid (xs : List PV) (a b : Nat) (h : b ≤ xs.length) (h2 : a ≤ b) : cutP xs (some (a : Int)) (some (b : Int)) = (xs.take b).drop a := by
  unfold cutP
  rw [sIx_lit, sIx_lit, Nat.min_eq_left h, Nat.min_eq_left (by omega), List.drop_take]
theorem evS_for (G : Glob) (t : CT) (it : CE) (b : CS) (env : Env) (M : Sto) : evS G (.for_ t it b) env M = (evI G it env M).then env fun s M1 => forL (forB t (evS G b)) (keepB s.src) s.items env M1 := by
  simp only [evS]; rfl
theorem keep_nil (M : Sto) : keepB [] M = true := rfl
theorem keep_one {M : Sto} {k : Nat} {o : MO} (h : M[k]? = some o) : keepB [(k, o)] M = true := by simp [keepB, h]
theorem atI_m1 {α : Type} (xs : List α) (v : α) : atI (xs ++ [v]) (-1) = some v := atI_last xs v
theorem for_of {body : PV → Env → Sto → SRes} {keep : Sto → Bool} {xs : List PV} {env : Env} {M : Sto} {z : SRes} (hz : forL body keep xs env M = z) (I : List PV → Env → Sto → Prop) (init : I xs env M) (hk : ∀ xs env M, I xs env M → keep M = true)
    (step : ∀ x xs env M, I (x :: xs) env M → ∃ env1 M1, (body x env M = .nx env1 M1 ∨ body x env M = .ct env1 M1) ∧ I xs env1 M1) : ∃ env' M', z = .nx env' M' ∧ I [] env' M' := by
  rw [← hz]
  exact for_all I hk step xs env M init
theorem while_of {c : Env → Sto → Res PV} {b : Env → Sto → SRes} {fuel : Nat} {env : Env} {M : Sto} {z : SRes} (hz : whL c b fuel env M = z) (n : Nat) (hf : n < fuel) (I : Nat → Env → Sto → Prop) (J : SRes → Prop) (init : I n env M)
    (step : ∀ n env M, I n env M → (∃ x M1, c env M = .ok x M1 ∧ ((truV M1 x = some false ∧ J (.nx env M1)) ∨ (truV M1 x = some true ∧ ((∃ env2 M2 m, m < n ∧ (b env M1 = .nx env2 M2 ∨ b env M1 = .ct env2 M2) ∧ I m env2 M2) ∨ (∃ v M2, b env M1 = .rt v M2 ∧ J (.rt v M2)) ∨ (∃ env2 M2, b env M1 = .bk env2 M2 ∧ J (.nx env2 M2)))))) ) : J z := by
  rw [← hz]
  exact while_all I J step n fuel env M hf init
theorem cutf_1 (xs : List PV) : cutP xs (some 1) none = xs.drop 1 := cut_from xs 1
theorem cutt_1 (xs : List PV) : cutP xs none (some 1) = xs.take 1 := cut_to xs 1
theorem cutf_2 (xs : List PV) : cutP xs (some 2) none = xs.drop 2 := cut_from xs 2
theorem cutt_2 (xs : List PV) : cutP xs none (some 2) = xs.take 2 := cut_to xs 2
theorem cutf_3 (xs : List PV) : cutP xs (some 3) none = xs.drop 3 := cut_from xs 3
theorem cutt_3 (xs : List PV) : cutP xs none (some 3) = xs.take 3 := cut_to xs 3
theorem cutf_4 (xs : List PV) : cutP xs (some 4) none = xs.drop 4 := cut_from xs 4
theorem cutt_4 (xs : List PV) : cutP xs none (some 4) = xs.take 4 := cut_to xs 4
theorem cutf_5 (xs : List PV) : cutP xs (some 5) none = xs.drop 5 := cut_from xs 5
theorem cutt_5 (xs : List PV) : cutP xs none (some 5) = xs.take 5 := cut_to xs 5
theorem cutf_6 (xs : List PV) : cutP xs (some 6) none = xs.drop 6 := cut_from xs 6
theorem cutt_6 (xs : List PV) : cutP xs none (some 6) = xs.take 6 := cut_to xs 6
theorem cutf_7 (xs : List PV) : cutP xs (some 7) none = xs.drop 7 := cut_from xs 7
theorem cutt_7 (xs : List PV) : cutP xs none (some 7) = xs.take 7 := cut_to xs 7
theorem cutf_8 (xs : List PV) : cutP xs (some 8) none = xs.drop 8 := cut_from xs 8
theorem cutt_8 (xs : List PV) : cutP xs none (some 8) = xs.take 8 := cut_to xs 8
theorem cutf_9 (xs : List PV) : cutP xs (some 9) none = xs.drop 9 := cut_from xs 9
theorem cutt_9 (xs : List PV) : cutP xs none (some 9) = xs.take 9 := cut_to xs 9
/-- a comprehension that changes nothing -/
theorem comp_all {g : PV → Sto → Res (Option PV)} {keep : Sto → Bool} {M : Sto} (f : PV → Option PV) (hk : keep M = true) : ∀ (xs acc : List PV), (∀ x ∈ xs, g x M = .ok (f x) M) → acc.length + xs.length ≤ sizeLine → compL g keep xs M acc = .ok (acc ++ xs.filterMap f) M
  | [], acc, _, _ => by simp [compL, hk]
  | x :: xs, acc, h, hs => by
    simp only [List.length_cons] at hs
    unfold compL
    rw [if_pos hk, h x List.mem_cons_self]
    cases e : f x with
    | none =>
      simp only
      rw [comp_all f hk xs acc (fun y hy => h y (List.mem_cons_of_mem _ hy)) (by omega)]
      simp [e]
    | some y =>
      simp only
      rw [if_pos (by omega), comp_all f hk xs (acc ++ [y]) (fun y hy => h y (List.mem_cons_of_mem _ hy)) (by simp; omega)]
      simp [e]
theorem comp_of {g : PV → Sto → Res (Option PV)} {keep : Sto → Bool} {M : Sto} {xs : List PV} {z : Res (List PV)} (hz : compL g keep xs M [] = z) (f : PV → Option PV) (hk : keep M = true) (h : ∀ x ∈ xs, g x M = .ok (f x) M) (hs : xs.length ≤ sizeLine) : z = .ok (xs.filterMap f) M := by
  rw [← hz, comp_all f hk xs [] h (by simpa using hs)]
  rfl
/-- is a list of plain values the empty one? -/
theorem eq_empty_fine {M : Sto} {i j : Nat} {xs : List PV} (h : M[i]? = some (.lst xs)) (h' : M[j]? = some (.lst [])) (hf : fines xs = true) (hd : PyData.depthAll (pds xs) ≤ 63) : eqV M (.ref i) (.ref j) = some xs.isEmpty := by
  have e : eqV M (.ref i) (.ref j) = (match dat M (.ref i), dat M (.ref j) with
    | some d, some e => if SeqAt.shaped d = true ∧ SeqAt.shaped e = true then some (PyData.eqv d e) else none
    | _, _ => none) := rfl
  rw [e, dat_lst h, dat_lst h', dats_fine _ xs hf]
  obtain ⟨_, _, _, c⟩ := fines_ok xs hf
  have s1 : SeqAt.shaped (.list (pds xs)) = true := by simp [SeqAt.shaped, PyData.canLay0, c, PyData.depth]; omega
  have s2 : SeqAt.shaped (.list []) = true := by decide
  have s3 : datRs (lkN M 7) [] = some [] := by simp [datRs]
  rw [s3]
  show (if SeqAt.shaped (.list (pds xs)) = true ∧ SeqAt.shaped (.list []) = true then some (PyData.eqv (.list (pds xs)) (.list [])) else none) = _
  rw [if_pos ⟨s1, s2⟩]
  cases xs <;> simp [PyData.eqv, PyData.eqvAll, pds]
theorem eq_empty_fine2 (xs : List PV) {M : Sto} {i k : Nat} (h : M[i]? = some (.lst xs)) (hf : fines xs = true) (hd : PyData.depthAll (pds xs) ≤ 63) (e : k = M.length) : eqV (M ++ [.lst []]) (.ref i) (.ref k) = some xs.isEmpty := by
  subst e
  exact eq_empty_fine (sto_app h) (sto_new _ _) hf hd
theorem fines_all : ∀ {xs : List PV}, (∀ x ∈ xs, fine x = true) → fines xs = true
  | [], _ => by simp [fines]
  | x :: xs, h => by
    simp only [fines, h x List.mem_cons_self, fines_all fun y hy => h y (List.mem_cons_of_mem _ hy), Bool.and_self]
theorem depths_all {n : Nat} : ∀ {xs : List PV}, (∀ x ∈ xs, (pd x).depth ≤ n) → PyData.depthAll (pds xs) ≤ n
  | [], _ => by simp [pds, PyData.depthAll]
  | x :: xs, h => by
    simp only [pds, PyData.depthAll]
    have h1 := h x List.mem_cons_self
    have h2 := depths_all fun y hy => h y (List.mem_cons_of_mem _ hy)
    omega
theorem rg_one (n : Nat) : rgP 1 ((n : Int) + 1) = (List.range n).map fun i => PV.int (1 + (i : Nat)) := by
  unfold rgP
  rw [show ((n : Int) + 1 - 1).toNat = n by omega]
theorem rg_zero (n : Nat) : rgP 0 (n : Int) = (List.range n).map fun i => PV.int (i : Nat) := by
  unfold rgP
  rw [show ((n : Int) - 0).toNat = n by omega]
  simp
theorem evS_seq (G : Glob) (a r : CS) (env : Env) (M : Sto) : evS G (.seq a r) env M = (evS G a env M).bind (evS G r) := by
  simp only [evS]
def iteS (G : Glob) (a b : CS) (env : Env) (x : PV) (M : Sto) : SRes := match truV M x with
    | some true => evS G a env M
    | some false => evS G b env M
    | none => .bad
theorem evS_ite (G : Glob) (c : CE) (sa sb : CS) (env : Env) (M : Sto) : evS G (.ite c sa sb) env M = (evE G c env M).then env (iteS G sa sb env) := by
  simp only [evS]; rfl
theorem rgOk_nat {a b : Int} (h0 : -4000000000000000000 ≤ a) (h1 : a ≤ 4000000000000000000) (h2 : -4000000000000000000 ≤ b) (h3 : b ≤ 4000000000000000000) : rgOk a b = true := by
  unfold rgOk
  simp only [Bool.and_eq_true, decide_eq_true_eq]
  omega
/-- a new list, then [] -/
theorem eq_new_empty {xs : List PV} (hf : fines xs = true) (hd : PyData.depthAll (pds xs) ≤ 63) (N : Sto) : eqV (N ++ [.lst xs] ++ [.lst []]) (.ref N.length) (.ref (N ++ [MO.lst xs]).length) = some xs.isEmpty :=
  eq_empty_fine2 xs (sto_new _ _) hf hd rfl
end Ev

set_option Elab.async false
set_option linter.all false
set_option maxRecDepth 100000
set_option maxHeartbeats 8000000
/-! Ev18: more of it. -/
namespace Ev
open PySem L2
theorem permL_nil {α : Type} (l : List α) : permL [] l = [] := rfl
theorem permL_cons {α : Type} (i : Nat) (p : List Nat) (l : List α) : permL (i :: p) l = match l[i]? with
  | some x => x :: permL p l
  | none => permL p l := by
  unfold permL
  rw [List.filterMap_cons]
  cases l[i]? <;> rfl
theorem rep2 (x : PV) : (List.replicate 2 [x]).flatten = [x, x] := rfl
theorem rep3 (x : PV) : (List.replicate 3 [x]).flatten = [x, x, x] := rfl
theorem repr_true (M : Sto) : reprV M (.bl true) = some (Str.ofString "True") := by
  rw [repr_fine (by rfl) (by simp [pd, PyData.bulk]) (by simp [pd, PyData.depth])]
  rfl
theorem repr_false (M : Sto) : reprV M (.bl false) = some (Str.ofString "False") := by
  rw [repr_fine (by rfl) (by simp [pd, PyData.bulk]) (by simp [pd, PyData.depth])]
  rfl
theorem repr_two {x : PV} (hf : fine x = true) (hb : (pd x).bulk ≤ 100) (hd : (pd x).depth ≤ 10) : ∃ t, ∀ M, reprV M (.tup [x, x]) = some t := by
  refine ⟨_, fun M => repr_fine ?_ ?_ ?_⟩
  · simp [fine, fines, hf]
  · simp [pd, pds, PyData.bulk, PyData.bulkAll]; omega
  · simp [pd, pds, PyData.depth, PyData.depthAll]; omega
theorem repr_one {x : PV} (hf : fine x = true) (hb : (pd x).bulk ≤ 29000) (hd : (pd x).depth ≤ 64) : ∃ t, ∀ M, reprV M x = some t := ⟨_, fun M => repr_fine hf hb hd⟩
theorem small {i : Int} (h0 : -(10 ^ 30) < i) (h1 : i < 10 ^ 30) : i.natAbs < 10 ^ 570 := by
  have e : (10 : Nat) ^ 30 < 10 ^ 570 := by decide +kernel
  have : i.natAbs < 10 ^ 30 := by omega
  exact Nat.lt_trans this e
end Ev

set_option Elab.async false
set_option linter.all false
set_option maxRecDepth 100000
set_option maxHeartbeats 0
/-! The code of answergate_k22_whole_marks_under_any_loo, printed by gen.py from the text. -/
namespace K22
open PySem L2 Ev
abbrev R : PySem.W.OpenRow := PySem.W.OpenLaw.row PySem.Challenge.rw_answergate_k22_whole_marks_under_any_loo
def top (i : Nat) : Stmt := PySem.Challenge.pw_answergate_k22_whole_marks_under_any_loo.main.body.getD i (.Pass ⟨0, 0, 0, 0⟩)
abbrev Q := CS.seq
abbrev N_ := CS.nil
abbrev A := CE.cons
abbrev E_ := CE.nil
abbrev V := CE.var
abbrev I := CE.int
abbrev S := CE.str
def c_is_integer : CS := Q (.ret (.and (.isi (V 0) ["int"] false) (.not (.isi (V 0) ["bool"] false)))) (N_)
def c_is_between : CS := Q (.ret (.and (.call "is_integer" (A (V 0) (E_))) (.chain .LtE .LtE (V 1) (V 0) (V 2)))) (N_)
def c_is_count : CS := Q (.ret (.and (.call "is_integer" (A (V 0) (E_))) (.cmp .GtE (V 0) (I 0)))) (N_)
def c_is_row : CS := Q (.ret (.and (.isi (V 0) ["tuple"] false) (.cmp .Eq (.blt .len (A (V 0) (E_))) (V 1)))) (N_)
def c_is_rule_value : CS := Q (.ite (.or (.not (.call "is_row" (A (V 0) (A (I 4) (E_))))) (.not (.blt .all (A (.comp (.nm 1) (.iv (V 0)) (E_) (.call "is_between" (A (V 1) (A (I 1) (A (.glo "MOST_RULE") (E_))))) [1]) (E_))))) (Q (.ret (.bl false)) (N_)) (N_)) (Q (.ret (.cmp .LtE (.sub (V 0) (I 2)) (.sub (V 0) (I 3)))) (N_))
def c_is_wait_after_bad : CS := Q (.asg (.nm 2) (.sub (V 0) (I 2))) (Q (.while_ (.cmp .Lt (V 2) (.sub (V 0) (I 3))) (Q (.asg (.nm 2) (.blt .min (A (.bin .Mult (I 2) (V 2)) (A (.sub (V 0) (I 3)) (E_))))) (Q (.ite (.cmp .Eq (V 2) (V 1)) (Q (.ret (.bl true)) (N_)) (N_)) (N_)))) (Q (.ret (.cmp .Eq (V 1) (.sub (V 0) (I 3)))) (N_)))
def c_is_mark_value : CS := Q (.ite (.or (.not (.call "is_row" (A (V 1) (A (I 4) (E_))))) (.or (.not (.isi (.sub (V 1) (I 0)) ["bool"] false)) (.not (.blt .all (A (.comp (.nm 2) (.iv (.slc (V 1) (A (I 1) E_) (.no))) (E_) (.call "is_count" (A (V 2) (E_))) [2]) (E_)))))) (Q (.ret (.bl false)) (N_)) (N_)) (Q (.asg (.tp (.cons (.nm 3) (.cons (.nm 4) (.cons (.nm 5) (.cons (.nm 6) (.nil)))))) (V 1)) (Q (.ite (.or (.cmp .Lt (V 6) (V 5)) (.cmp .GtE (V 4) (.ife (V 3) (.sub (V 0) (I 1)) (.sub (V 0) (I 0))))) (Q (.ret (.bl false)) (N_)) (N_)) (Q (.ret (.ife (.or (V 3) (.cmp .Gt (V 4) (I 0))) (.cmp .Eq (V 5) (.sub (V 0) (I 2))) (.call "is_wait_after_bad" (A (V 0) (A (V 5) (E_)))))) (N_))))
def c_mark_new : CS := Q (.ret (.tup (A (.bl true) (A (I 0) (A (.sub (V 0) (I 2)) (A (.sub (V 0) (I 2)) (E_))))))) (N_)
def c_mark_after : CS := Q (.asg (.tp (.cons (.nm 4) (.cons (.nm 5) (.cons (.nm 6) (.cons (.nm 7) (.nil)))))) (V 1)) (Q (.asg (.nm 5) (.ife (.cmp .Eq (V 2) (V 4)) (I 0) (.bin .Add (V 5) (I 1)))) (Q (.ite (.cmp .Eq (V 5) (.ife (V 4) (.sub (V 0) (I 1)) (.sub (V 0) (I 0)))) (Q (.par [4, 5] (A (.not (V 4)) (A (I 0) (E_)))) (N_)) (N_)) (Q (.asg (.nm 6) (.ife (.or (V 2) (V 4)) (.sub (V 0) (I 2)) (.blt .min (A (.bin .Mult (I 2) (V 6)) (A (.sub (V 0) (I 3)) (E_)))))) (Q (.ret (.tup (A (V 4) (A (V 5) (A (V 6) (A (.bin .Add (V 3) (V 6)) (E_))))))) (N_)))))
def c_is_look_due : CS := Q (.ret (.cmp .GtE (V 1) (.sub (V 0) (I 3)))) (N_)
def c_need_rule : CS := Q (.ite (.not (.call "is_rule_value" (A (V 0) (E_)))) (Q (.never) (N_)) (N_)) (N_)
def c_need_mark : CS := Q (.expr (.call "need_rule" (A (V 0) (E_)))) (Q (.ite (.not (.call "is_mark_value" (A (V 0) (A (V 1) (E_))))) (Q (.never) (N_)) (N_)) (N_))
def c_need_time : CS := Q (.ite (.not (.call "is_count" (A (V 0) (E_)))) (Q (.never) (N_)) (N_)) (N_)
def c_is_health_rule : CS := Q (.ret (.call "is_rule_value" (A (V 0) (E_)))) (N_)
def c_is_mark : CS := Q (.expr (.call "need_rule" (A (V 0) (E_)))) (Q (.ret (.call "is_mark_value" (A (V 0) (A (V 1) (E_))))) (N_))
def c_new_mark : CS := Q (.expr (.call "need_rule" (A (V 0) (E_)))) (Q (.ret (.call "mark_new" (A (V 0) (E_)))) (N_))
def c_looked : CS := Q (.expr (.call "need_mark" (A (V 0) (A (V 1) (E_))))) (Q (.ite (.not (.isi (V 2) ["bool"] false)) (Q (.never) (N_)) (N_)) (Q (.expr (.call "need_time" (A (V 3) (E_)))) (Q (.ret (.call "mark_after" (A (V 0) (A (V 1) (A (V 2) (A (V 3) (E_))))))) (N_))))
def c_is_due : CS := Q (.expr (.call "need_mark" (A (V 0) (A (V 1) (E_))))) (Q (.expr (.call "need_time" (A (V 2) (E_)))) (Q (.ret (.call "is_look_due" (A (V 1) (A (V 2) (E_))))) (N_)))
def c__law_deck : CS := Q (.asg (.nm 1) (I 13749022)) (Q (.for_ (.nm 2) (.iv (.slc (V 0) (.no) (A (I 63) E_))) (Q (.asg (.nm 1) (.bin .Mod (.blt .int (A (.bin .Add (.bin .Add (.bin .Mult (V 1) (I 69621)) (.bin .Mod (.blt .int (A (V 2) (E_))) (I 2147483587))) (I 22)) (E_))) (I 2147483629))) (N_))) (Q (.ret (.dct (A (S "left") (A (S "mixed") (A (S "draws") (E_)))) (A (.rev (.blt .list (A (.slc (V 0) (.no) (A (I 63) E_)) (E_)))) (A (V 1) (A (I 0) (E_)))))) (N_)))
def c__law_draw : CS := Q (.asgS (V 0) (S "draws") (.bin .Add (.sub (V 0) (S "draws")) (I 1))) (Q (.asg (.nm 2) (.bin .Add (.sub (V 0) (S "mixed")) (.bin .Mult (I 52711) (.sub (V 0) (S "draws"))))) (Q (.ite (.cmp .NotEq (.sub (V 0) (S "left")) (.lst (E_))) (Q (.asg (.nm 3) (.meth .pop (.sub (V 0) (S "left")) (E_))) (Q (.ite (.cmp .GtE (V 3) (.bin .Pow (I 10) (I 18))) (Q (.expr (.meth .append (.sub (V 0) (S "left")) (A (.bin .FloorDiv (V 3) (.blt .max (A (I 2) (A (V 1) (E_))))) (E_)))) (Q (.ret (.bin .Mod (.blt .int (A (V 3) (E_))) (V 1))) (N_))) (N_)) (Q (.asg (.nm 2) (.bin .Add (V 2) (.bin .Mod (.blt .int (A (V 3) (E_))) (I 2147483587)))) (N_)))) (N_)) (Q (.asg (.nm 2) (.bin .Mod (.blt .int (A (.bin .Add (.bin .Mult (V 2) (I 40014)) (I 22)) (E_))) (I 2147483563))) (Q (.asg (.nm 2) (.bin .Mod (.blt .int (A (.bin .Add (.bin .Add (.bin .Mult (V 2) (V 2)) (.bin .Mult (I 61473) (.sub (V 0) (S "draws")))) (I 22)) (E_))) (I 2147483399))) (Q (.asg (.nm 2) (.bin .Mod (.blt .int (A (.bin .Mult (V 2) (I 39373)) (E_))) (I 2147483647))) (Q (.ret (.bin .Mod (.blt .int (A (.bin .FloorDiv (V 2) (I 64)) (E_))) (V 1))) (N_)))))))
def c__law_pick : CS := Q (.ret (.sub (V 1) (.call "_law_draw" (A (V 0) (A (.blt .len (A (V 1) (E_))) (E_)))))) (N_)
def c__law_drawn_rule : CS := Q (.asg (.nm 1) (.call "_law_pick" (A (V 0) (A (.lst (A (I 3) (A (I 3) (A (I 99) (A (I 6) (E_)))))) (E_))))) (Q (.asg (.nm 2) (.blt .sorted (A (.lst (A (.bin .Add (I 1) (.call "_law_draw" (A (V 0) (A (.call "_law_pick" (A (V 0) (A (.lst (A (I 5) (A (I 99) (E_)))) (E_)))) (E_))))) (A (.bin .Add (I 1) (.call "_law_draw" (A (V 0) (A (I 99) (E_))))) (E_)))) (E_)))) (Q (.ret (.bin .Add (.tup (A (.bin .Add (I 1) (.call "_law_draw" (A (V 0) (A (V 1) (E_))))) (A (.bin .Add (I 1) (.call "_law_draw" (A (V 0) (A (V 1) (E_))))) (E_)))) (.blt .tuple (A (V 2) (E_))))) (N_)))
def c__law_mark_by : CS := Q (.asg (.tp (.cons (.nm 2) (.cons (.nm 3) (.cons (.nm 4) (.cons (.nm 5) (.nil)))))) (V 0)) (Q (.asg (.tp (.cons (.nm 6) (.cons (.nm 7) (.nil)))) (.tup (A (.bl true) (A (I 0) (E_))))) (Q (.for_ (.nm 8) (.irg2 (I 1) (.bin .Add (.blt .len (A (V 1) (E_))) (I 1))) (Q (.asg (.nm 9) (.ife (V 6) (V 3) (V 2))) (Q (.ite (.and (.cmp .GtE (.bin .Sub (V 8) (V 7)) (V 9)) (.cmp .Eq (.comp (.tp (.cons (.nm 10) (.cons (.nm 11) (.nil)))) (.iv (.slc (V 1) (A (.bin .Sub (V 8) (V 9)) E_) (A (V 8) E_))) (A (.cmp .Eq (V 10) (V 6)) (E_)) (V 10) [10, 11]) (.lst (E_)))) (Q (.asg (.tp (.cons (.nm 6) (.cons (.nm 7) (.nil)))) (.tup (A (.not (V 6)) (A (V 8) (E_))))) (N_)) (N_)) (N_)))) (Q (.asg (.tp (.cons (.nm 12) (.cons (.nm 13) (.nil)))) (.tup (A (I 0) (A (I 0) (E_))))) (Q (.for_ (.tp (.cons (.nm 10) (.cons (.nm 11) (.nil)))) (.iv (.slc (V 1) (A (V 7) E_) (.no))) (Q (.asg (.nm 12) (.ife (.cmp .NotEq (V 10) (V 6)) (.bin .Add (V 12) (I 1)) (I 0))) (N_))) (Q (.for_ (.tp (.cons (.nm 10) (.cons (.nm 11) (.nil)))) (.iv (V 1)) (Q (.asg (.nm 13) (.ife (V 10) (I 0) (.bin .Add (V 13) (I 1)))) (N_))) (Q (.asg (.nm 14) (V 4)) (Q (.ite (.not (V 6)) (Q (.for_ (.nm 15) (.irg1 (.blt .min (A (V 13) (A (.bin .Add (.bin .Sub (.blt .len (A (V 1) (E_))) (V 7)) (I 1)) (E_))))) (Q (.asg (.nm 14) (.blt .min (A (.bin .Mult (I 2) (V 14)) (A (V 5) (E_))))) (N_))) (N_)) (N_)) (Q (.ret (.tup (A (V 6) (A (V 12) (A (V 14) (A (.bin .Add (.ife (.cmp .NotEq (V 1) (.lst (E_))) (.sub (.sub (V 1) (.neg (I 1))) (I 1)) (I 0)) (V 14)) (E_))))))) (N_)))))))))
def c_law : CS := Q (.asg (.nm 1) (.call "_law_deck" (A (V 0) (E_)))) (Q (.asg (.nm 2) (.call "_law_drawn_rule" (A (V 1) (E_)))) (Q (.asg (.tp (.cons (.nm 3) (.cons (.nm 4) (.cons (.nm 5) (.cons (.nm 6) (.nil)))))) (.tup (A (.call "new_mark" (A (V 2) (E_))) (A (.lst (E_)) (A (I 0) (A (.bl true) (E_))))))) (Q (.ite (.or (.cmp .NotEq (.blt .repr (A (.tup (A (V 3) (A (.callk "new_mark" 0 (E_) ["rule"] (A (V 2) (E_)) [0]) (E_)))) (E_))) (.blt .repr (A (.bin .Mult (.tup (A (.call "_law_mark_by" (A (V 2) (A (.lst (E_)) (E_)))) (E_))) (I 2)) (E_)))) (.cmp .NotEq (.blt .repr (A (.call "is_health_rule" (A (V 2) (E_))) (E_))) (S "True"))) (Q (.ret (.bl false)) (N_)) (N_)) (Q (.for_ (.nm 7) (.irg1 (.call "_law_pick" (A (V 1) (A (.lst (A (I 12) (A (I 8) (A (I 16) (A (I 20) (E_)))))) (E_))))) (Q (.asg (.nm 5) (.bin .Add (V 5) (.call "_law_pick" (A (V 1) (A (.lst (A (I 0) (A (I 1) (A (I 3) (A (I 50) (A (.call "_law_draw" (A (V 1) (A (I 100000) (E_)))) (A (.bin .Pow (I 10) (I 12)) (E_)))))))) (E_)))))) (Q (.asg (.nm 6) (.ife (.cmp .Gt (.call "_law_draw" (A (V 1) (A (I 3) (E_)))) (I 0)) (V 6) (.not (V 6)))) (Q (.expr (.meth .append (V 4) (A (.tup (A (V 6) (A (V 5) (E_)))) (E_)))) (Q (.ite (.cmp .Eq (.call "_law_draw" (A (V 1) (A (I 4) (E_)))) (I 0)) (Q (.asg (.nm 3) (.callk "looked" 0 (E_) ["now", "is_good", "mark", "rule"] (A (V 5) (A (V 6) (A (V 3) (A (V 2) (E_))))) [3, 2, 1, 0])) (N_)) (Q (.asg (.nm 3) (.call "looked" (A (V 2) (A (V 3) (A (V 6) (A (V 5) (E_))))))) (N_))) (Q (.asg (.nm 8) (.call "_law_mark_by" (A (V 2) (A (V 4) (E_))))) (Q (.ite (.or (.cmp .NotEq (.blt .repr (A (V 3) (E_))) (.blt .repr (A (V 8) (E_)))) (.cmp .NotEq (.blt .repr (A (.call "is_mark" (A (V 2) (A (V 3) (E_)))) (E_))) (S "True"))) (Q (.ret (.bl false)) (N_)) (N_)) (Q (.asg (.nm 9) (.call "_law_pick" (A (V 1) (A (.lst (A (V 5) (A (.sub (V 8) (I 3)) (A (.bin .Sub (.sub (V 8) (I 3)) (I 1)) (A (.bin .Add (.sub (V 8) (I 3)) (I 1)) (E_)))))) (E_))))) (Q (.ite (.cmp .NotEq (.blt .repr (A (.tup (A (.call "is_due" (A (V 2) (A (V 3) (A (V 9) (E_))))) (A (.callk "is_due" 0 (E_) ["now", "mark", "rule"] (A (V 9) (A (V 3) (A (V 2) (E_)))) [2, 1, 0]) (E_)))) (E_))) (.blt .repr (A (.bin .Mult (.tup (A (.cmp .GtE (V 9) (.sub (V 8) (I 3))) (E_))) (I 2)) (E_)))) (Q (.ret (.bl false)) (N_)) (N_)) (N_)))))))))) (Q (.ret (.bl true)) (N_))))))
def f_is_integer : FD := ⟨["thing"], ["thing"], c_is_integer⟩
def d_is_integer : Def := ⟨"is_integer", defArgs (top 7), defBody (top 7), defScope (top 7), f_is_integer, []⟩
def f_is_between : FD := ⟨["thing", "least", "most"], ["thing", "least", "most"], c_is_between⟩
def d_is_between : Def := ⟨"is_between", defArgs (top 8), defBody (top 8), defScope (top 8), f_is_between, []⟩
def f_is_count : FD := ⟨["thing"], ["thing"], c_is_count⟩
def d_is_count : Def := ⟨"is_count", defArgs (top 9), defBody (top 9), defScope (top 9), f_is_count, []⟩
def f_is_row : FD := ⟨["thing", "many"], ["thing", "many"], c_is_row⟩
def d_is_row : Def := ⟨"is_row", defArgs (top 10), defBody (top 10), defScope (top 10), f_is_row, []⟩
def f_is_rule_value : FD := ⟨["thing"], ["thing", "part"], c_is_rule_value⟩
def d_is_rule_value : Def := ⟨"is_rule_value", defArgs (top 13), defBody (top 13), defScope (top 13), f_is_rule_value, []⟩
def f_is_wait_after_bad : FD := ⟨["rule", "wait"], ["rule", "wait", "found"], c_is_wait_after_bad⟩
def d_is_wait_after_bad : Def := ⟨"is_wait_after_bad", defArgs (top 14), defBody (top 14), defScope (top 14), f_is_wait_after_bad, []⟩
def f_is_mark_value : FD := ⟨["rule", "thing"], ["rule", "thing", "part", "is_up", "run", "wait", "due"], c_is_mark_value⟩
def d_is_mark_value : Def := ⟨"is_mark_value", defArgs (top 15), defBody (top 15), defScope (top 15), f_is_mark_value, []⟩
def f_mark_new : FD := ⟨["rule"], ["rule"], c_mark_new⟩
def d_mark_new : Def := ⟨"mark_new", defArgs (top 16), defBody (top 16), defScope (top 16), f_mark_new, []⟩
def f_mark_after : FD := ⟨["rule", "mark", "is_good", "now"], ["rule", "mark", "is_good", "now", "is_up", "run", "wait", "due"], c_mark_after⟩
def d_mark_after : Def := ⟨"mark_after", defArgs (top 17), defBody (top 17), defScope (top 17), f_mark_after, []⟩
def f_is_look_due : FD := ⟨["mark", "now"], ["mark", "now"], c_is_look_due⟩
def d_is_look_due : Def := ⟨"is_look_due", defArgs (top 18), defBody (top 18), defScope (top 18), f_is_look_due, []⟩
def f_need_rule : FD := ⟨["rule"], ["rule"], c_need_rule⟩
def d_need_rule : Def := ⟨"need_rule", defArgs (top 20), defBody (top 20), defScope (top 20), f_need_rule, []⟩
def f_need_mark : FD := ⟨["rule", "mark"], ["rule", "mark"], c_need_mark⟩
def d_need_mark : Def := ⟨"need_mark", defArgs (top 21), defBody (top 21), defScope (top 21), f_need_mark, []⟩
def f_need_time : FD := ⟨["now"], ["now"], c_need_time⟩
def d_need_time : Def := ⟨"need_time", defArgs (top 22), defBody (top 22), defScope (top 22), f_need_time, []⟩
def f_is_health_rule : FD := ⟨["thing"], ["thing"], c_is_health_rule⟩
def d_is_health_rule : Def := ⟨"is_health_rule", defArgs (top 23), defBody (top 23), defScope (top 23), f_is_health_rule, []⟩
def f_is_mark : FD := ⟨["rule", "thing"], ["rule", "thing"], c_is_mark⟩
def d_is_mark : Def := ⟨"is_mark", defArgs (top 24), defBody (top 24), defScope (top 24), f_is_mark, []⟩
def f_new_mark : FD := ⟨["rule"], ["rule"], c_new_mark⟩
def d_new_mark : Def := ⟨"new_mark", defArgs (top 25), defBody (top 25), defScope (top 25), f_new_mark, [(0, ["rule"], [0])]⟩
def f_looked : FD := ⟨["rule", "mark", "is_good", "now"], ["rule", "mark", "is_good", "now"], c_looked⟩
def d_looked : Def := ⟨"looked", defArgs (top 26), defBody (top 26), defScope (top 26), f_looked, [(0, ["now", "is_good", "mark", "rule"], [3, 2, 1, 0])]⟩
def f_is_due : FD := ⟨["rule", "mark", "now"], ["rule", "mark", "now"], c_is_due⟩
def d_is_due : Def := ⟨"is_due", defArgs (top 27), defBody (top 27), defScope (top 27), f_is_due, [(0, ["now", "mark", "rule"], [2, 1, 0])]⟩
def f__law_deck : FD := ⟨["_law_script"], ["_law_script", "_law_mixed", "_law_cell"], c__law_deck⟩
def d__law_deck : Def := ⟨"_law_deck", defArgs (top 29), defBody (top 29), defScope (top 29), f__law_deck, []⟩
def f__law_draw : FD := ⟨["_law_deck_here", "_law_many"], ["_law_deck_here", "_law_many", "_law_figure", "_law_cell"], c__law_draw⟩
def d__law_draw : Def := ⟨"_law_draw", defArgs (top 30), defBody (top 30), defScope (top 30), f__law_draw, []⟩
def f__law_pick : FD := ⟨["_law_deck_here", "_law_some"], ["_law_deck_here", "_law_some"], c__law_pick⟩
def d__law_pick : Def := ⟨"_law_pick", defArgs (top 31), defBody (top 31), defScope (top 31), f__law_pick, []⟩
def f__law_drawn_rule : FD := ⟨["_law_deck_here"], ["_law_deck_here", "_law_most", "_law_waits"], c__law_drawn_rule⟩
def d__law_drawn_rule : Def := ⟨"_law_drawn_rule", defArgs (top 32), defBody (top 32), defScope (top 32), f__law_drawn_rule, []⟩
def f__law_mark_by : FD := ⟨["_law_rule", "_law_looks"], ["_law_rule", "_law_looks", "_law_rise", "_law_fall", "_law_first", "_law_most", "_law_is_up", "_law_start", "_law_at", "_law_many", "_law_one", "_law_now", "_law_run", "_law_bad", "_law_wait", "_law_turn"], c__law_mark_by⟩
def d__law_mark_by : Def := ⟨"_law_mark_by", defArgs (top 33), defBody (top 33), defScope (top 33), f__law_mark_by, []⟩
def f_law : FD := ⟨["_law_script"], ["_law_script", "_law_deck_here", "_law_rule", "_law_mark", "_law_looks", "_law_now", "_law_is_good", "_law_turn", "_law_due", "_law_time"], c_law⟩
def d_law : Def := ⟨"law", defArgs (top 34), defBody (top 34), defScope (top 34), f_law, []⟩
def tab : Tab := [d_is_integer, d_is_between, d_is_count, d_is_row, d_is_rule_value, d_is_wait_after_bad, d_is_mark_value, d_mark_new, d_mark_after, d_is_look_due, d_need_rule, d_need_mark, d_need_time, d_is_health_rule, d_is_mark, d_new_mark, d_looked, d_is_due, d__law_deck, d__law_draw, d__law_pick, d__law_drawn_rule, d__law_mark_by, d_law]
def gcs : GCs := [("MOST_RULE", .int 99)]
def kwt : KwT := tab.kw
theorem o_is_integer : d_is_integer.Ok tab.kw := by
  refine ⟨by kernel_rfl, by kernel_rfl, fun _ _ _ _ _ _ us hl => match us, hl with | [_], _ => rfl, fun z hz => by cases hz⟩
theorem o_is_between : d_is_between.Ok tab.kw := by
  refine ⟨by kernel_rfl, by kernel_rfl, fun _ _ _ _ _ _ us hl => match us, hl with | [_, _, _], _ => rfl, fun z hz => by cases hz⟩
theorem o_is_count : d_is_count.Ok tab.kw := by
  refine ⟨by kernel_rfl, by kernel_rfl, fun _ _ _ _ _ _ us hl => match us, hl with | [_], _ => rfl, fun z hz => by cases hz⟩
theorem o_is_row : d_is_row.Ok tab.kw := by
  refine ⟨by kernel_rfl, by kernel_rfl, fun _ _ _ _ _ _ us hl => match us, hl with | [_, _], _ => rfl, fun z hz => by cases hz⟩
theorem o_is_rule_value : d_is_rule_value.Ok tab.kw := by
  refine ⟨by kernel_rfl, by kernel_rfl, fun _ _ _ _ _ _ us hl => match us, hl with | [_], _ => rfl, fun z hz => by cases hz⟩
theorem o_is_wait_after_bad : d_is_wait_after_bad.Ok tab.kw := by
  refine ⟨by kernel_rfl, by kernel_rfl, fun _ _ _ _ _ _ us hl => match us, hl with | [_, _], _ => rfl, fun z hz => by cases hz⟩
theorem o_is_mark_value : d_is_mark_value.Ok tab.kw := by
  refine ⟨by kernel_rfl, by kernel_rfl, fun _ _ _ _ _ _ us hl => match us, hl with | [_, _], _ => rfl, fun z hz => by cases hz⟩
theorem o_mark_new : d_mark_new.Ok tab.kw := by
  refine ⟨by kernel_rfl, by kernel_rfl, fun _ _ _ _ _ _ us hl => match us, hl with | [_], _ => rfl, fun z hz => by cases hz⟩
theorem o_mark_after : d_mark_after.Ok tab.kw := by
  refine ⟨by kernel_rfl, by kernel_rfl, fun _ _ _ _ _ _ us hl => match us, hl with | [_, _, _, _], _ => rfl, fun z hz => by cases hz⟩
theorem o_is_look_due : d_is_look_due.Ok tab.kw := by
  refine ⟨by kernel_rfl, by kernel_rfl, fun _ _ _ _ _ _ us hl => match us, hl with | [_, _], _ => rfl, fun z hz => by cases hz⟩
theorem o_need_rule : d_need_rule.Ok tab.kw := by
  refine ⟨by kernel_rfl, by kernel_rfl, fun _ _ _ _ _ _ us hl => match us, hl with | [_], _ => rfl, fun z hz => by cases hz⟩
theorem o_need_mark : d_need_mark.Ok tab.kw := by
  refine ⟨by kernel_rfl, by kernel_rfl, fun _ _ _ _ _ _ us hl => match us, hl with | [_, _], _ => rfl, fun z hz => by cases hz⟩
theorem o_need_time : d_need_time.Ok tab.kw := by
  refine ⟨by kernel_rfl, by kernel_rfl, fun _ _ _ _ _ _ us hl => match us, hl with | [_], _ => rfl, fun z hz => by cases hz⟩
theorem o_is_health_rule : d_is_health_rule.Ok tab.kw := by
  refine ⟨by kernel_rfl, by kernel_rfl, fun _ _ _ _ _ _ us hl => match us, hl with | [_], _ => rfl, fun z hz => by cases hz⟩
theorem o_is_mark : d_is_mark.Ok tab.kw := by
  refine ⟨by kernel_rfl, by kernel_rfl, fun _ _ _ _ _ _ us hl => match us, hl with | [_, _], _ => rfl, fun z hz => by cases hz⟩
theorem o_new_mark : d_new_mark.Ok tab.kw := by
  refine ⟨by kernel_rfl, by kernel_rfl, fun _ _ _ _ _ _ us hl => match us, hl with | [_], _ => rfl, ?_⟩
  intro z hz
  rcases List.mem_cons.mp hz with rfl | hz
  · exact fun _ _ _ _ _ _ us ws h1 h2 => match us, ws, h1, h2 with | [], [_], _, _ => rfl
  · cases hz
theorem o_looked : d_looked.Ok tab.kw := by
  refine ⟨by kernel_rfl, by kernel_rfl, fun _ _ _ _ _ _ us hl => match us, hl with | [_, _, _, _], _ => rfl, ?_⟩
  intro z hz
  rcases List.mem_cons.mp hz with rfl | hz
  · exact fun _ _ _ _ _ _ us ws h1 h2 => match us, ws, h1, h2 with | [], [_, _, _, _], _, _ => rfl
  · cases hz
theorem o_is_due : d_is_due.Ok tab.kw := by
  refine ⟨by kernel_rfl, by kernel_rfl, fun _ _ _ _ _ _ us hl => match us, hl with | [_, _, _], _ => rfl, ?_⟩
  intro z hz
  rcases List.mem_cons.mp hz with rfl | hz
  · exact fun _ _ _ _ _ _ us ws h1 h2 => match us, ws, h1, h2 with | [], [_, _, _], _, _ => rfl
  · cases hz
theorem o__law_deck : d__law_deck.Ok tab.kw := by
  refine ⟨by kernel_rfl, by kernel_rfl, fun _ _ _ _ _ _ us hl => match us, hl with | [_], _ => rfl, fun z hz => by cases hz⟩
theorem o__law_draw : d__law_draw.Ok tab.kw := by
  refine ⟨by kernel_rfl, by kernel_rfl, fun _ _ _ _ _ _ us hl => match us, hl with | [_, _], _ => rfl, fun z hz => by cases hz⟩
theorem o__law_pick : d__law_pick.Ok tab.kw := by
  refine ⟨by kernel_rfl, by kernel_rfl, fun _ _ _ _ _ _ us hl => match us, hl with | [_, _], _ => rfl, fun z hz => by cases hz⟩
theorem o__law_drawn_rule : d__law_drawn_rule.Ok tab.kw := by
  refine ⟨by kernel_rfl, by kernel_rfl, fun _ _ _ _ _ _ us hl => match us, hl with | [_], _ => rfl, fun z hz => by cases hz⟩
theorem o__law_mark_by : d__law_mark_by.Ok tab.kw := by
  refine ⟨by kernel_rfl, by kernel_rfl, fun _ _ _ _ _ _ us hl => match us, hl with | [_, _], _ => rfl, fun z hz => by cases hz⟩
theorem o_law : d_law.Ok tab.kw := by
  refine ⟨by kernel_rfl, by kernel_rfl, fun _ _ _ _ _ _ us hl => match us, hl with | [_], _ => rfl, fun z hz => by cases hz⟩
abbrev T : Txt := tab.txt gcs.glo (fun _ => none) 100000
theorem g_MOST_RULE : T.glo "MOST_RULE" = some (GC.pv ((.int 99))) := rfl
theorem e_is_integer (n : Nat) (a0 : PV) (M : Sto) : callN T (n + 1) "is_integer" [a0] M = (evS (T.at n) c_is_integer [some a0] M).back := run_def rfl _ _ 0 rfl rfl
theorem e_is_between (n : Nat) (a0 a1 a2 : PV) (M : Sto) : callN T (n + 1) "is_between" [a0, a1, a2] M = (evS (T.at n) c_is_between [some a0, some a1, some a2] M).back := run_def rfl _ _ 0 rfl rfl
theorem e_is_count (n : Nat) (a0 : PV) (M : Sto) : callN T (n + 1) "is_count" [a0] M = (evS (T.at n) c_is_count [some a0] M).back := run_def rfl _ _ 0 rfl rfl
theorem e_is_row (n : Nat) (a0 a1 : PV) (M : Sto) : callN T (n + 1) "is_row" [a0, a1] M = (evS (T.at n) c_is_row [some a0, some a1] M).back := run_def rfl _ _ 0 rfl rfl
theorem e_is_rule_value (n : Nat) (a0 : PV) (M : Sto) : callN T (n + 1) "is_rule_value" [a0] M = (evS (T.at n) c_is_rule_value [some a0, none] M).back := run_def rfl _ _ 1 rfl rfl
theorem e_is_wait_after_bad (n : Nat) (a0 a1 : PV) (M : Sto) : callN T (n + 1) "is_wait_after_bad" [a0, a1] M = (evS (T.at n) c_is_wait_after_bad [some a0, some a1, none] M).back := run_def rfl _ _ 1 rfl rfl
theorem e_is_mark_value (n : Nat) (a0 a1 : PV) (M : Sto) : callN T (n + 1) "is_mark_value" [a0, a1] M = (evS (T.at n) c_is_mark_value [some a0, some a1, none, none, none, none, none] M).back := run_def rfl _ _ 5 rfl rfl
theorem e_mark_new (n : Nat) (a0 : PV) (M : Sto) : callN T (n + 1) "mark_new" [a0] M = (evS (T.at n) c_mark_new [some a0] M).back := run_def rfl _ _ 0 rfl rfl
theorem e_mark_after (n : Nat) (a0 a1 a2 a3 : PV) (M : Sto) : callN T (n + 1) "mark_after" [a0, a1, a2, a3] M = (evS (T.at n) c_mark_after [some a0, some a1, some a2, some a3, none, none, none, none] M).back := run_def rfl _ _ 4 rfl rfl
theorem e_is_look_due (n : Nat) (a0 a1 : PV) (M : Sto) : callN T (n + 1) "is_look_due" [a0, a1] M = (evS (T.at n) c_is_look_due [some a0, some a1] M).back := run_def rfl _ _ 0 rfl rfl
theorem e_need_rule (n : Nat) (a0 : PV) (M : Sto) : callN T (n + 1) "need_rule" [a0] M = (evS (T.at n) c_need_rule [some a0] M).back := run_def rfl _ _ 0 rfl rfl
theorem e_need_mark (n : Nat) (a0 a1 : PV) (M : Sto) : callN T (n + 1) "need_mark" [a0, a1] M = (evS (T.at n) c_need_mark [some a0, some a1] M).back := run_def rfl _ _ 0 rfl rfl
theorem e_need_time (n : Nat) (a0 : PV) (M : Sto) : callN T (n + 1) "need_time" [a0] M = (evS (T.at n) c_need_time [some a0] M).back := run_def rfl _ _ 0 rfl rfl
theorem e_is_health_rule (n : Nat) (a0 : PV) (M : Sto) : callN T (n + 1) "is_health_rule" [a0] M = (evS (T.at n) c_is_health_rule [some a0] M).back := run_def rfl _ _ 0 rfl rfl
theorem e_is_mark (n : Nat) (a0 a1 : PV) (M : Sto) : callN T (n + 1) "is_mark" [a0, a1] M = (evS (T.at n) c_is_mark [some a0, some a1] M).back := run_def rfl _ _ 0 rfl rfl
theorem e_new_mark (n : Nat) (a0 : PV) (M : Sto) : callN T (n + 1) "new_mark" [a0] M = (evS (T.at n) c_new_mark [some a0] M).back := run_def rfl _ _ 0 rfl rfl
theorem e_looked (n : Nat) (a0 a1 a2 a3 : PV) (M : Sto) : callN T (n + 1) "looked" [a0, a1, a2, a3] M = (evS (T.at n) c_looked [some a0, some a1, some a2, some a3] M).back := run_def rfl _ _ 0 rfl rfl
theorem e_is_due (n : Nat) (a0 a1 a2 : PV) (M : Sto) : callN T (n + 1) "is_due" [a0, a1, a2] M = (evS (T.at n) c_is_due [some a0, some a1, some a2] M).back := run_def rfl _ _ 0 rfl rfl
theorem e__law_deck (n : Nat) (a0 : PV) (M : Sto) : callN T (n + 1) "_law_deck" [a0] M = (evS (T.at n) c__law_deck [some a0, none, none] M).back := run_def rfl _ _ 2 rfl rfl
theorem e__law_draw (n : Nat) (a0 a1 : PV) (M : Sto) : callN T (n + 1) "_law_draw" [a0, a1] M = (evS (T.at n) c__law_draw [some a0, some a1, none, none] M).back := run_def rfl _ _ 2 rfl rfl
theorem e__law_pick (n : Nat) (a0 a1 : PV) (M : Sto) : callN T (n + 1) "_law_pick" [a0, a1] M = (evS (T.at n) c__law_pick [some a0, some a1] M).back := run_def rfl _ _ 0 rfl rfl
theorem e__law_drawn_rule (n : Nat) (a0 : PV) (M : Sto) : callN T (n + 1) "_law_drawn_rule" [a0] M = (evS (T.at n) c__law_drawn_rule [some a0, none, none] M).back := run_def rfl _ _ 2 rfl rfl
theorem e__law_mark_by (n : Nat) (a0 a1 : PV) (M : Sto) : callN T (n + 1) "_law_mark_by" [a0, a1] M = (evS (T.at n) c__law_mark_by [some a0, some a1, none, none, none, none, none, none, none, none, none, none, none, none, none, none] M).back := run_def rfl _ _ 14 rfl rfl
theorem e_law (n : Nat) (a0 : PV) (M : Sto) : callN T (n + 1) "law" [a0] M = (evS (T.at n) c_law [some a0, none, none, none, none, none, none, none, none, none] M).back := run_def rfl _ _ 9 rfl rfl
theorem ok : ∀ D ∈ tab, D.Ok tab.kw := by
  intro D h
  rcases List.mem_cons.mp h with rfl | h
  · exact o_is_integer
  rcases List.mem_cons.mp h with rfl | h
  · exact o_is_between
  rcases List.mem_cons.mp h with rfl | h
  · exact o_is_count
  rcases List.mem_cons.mp h with rfl | h
  · exact o_is_row
  rcases List.mem_cons.mp h with rfl | h
  · exact o_is_rule_value
  rcases List.mem_cons.mp h with rfl | h
  · exact o_is_wait_after_bad
  rcases List.mem_cons.mp h with rfl | h
  · exact o_is_mark_value
  rcases List.mem_cons.mp h with rfl | h
  · exact o_mark_new
  rcases List.mem_cons.mp h with rfl | h
  · exact o_mark_after
  rcases List.mem_cons.mp h with rfl | h
  · exact o_is_look_due
  rcases List.mem_cons.mp h with rfl | h
  · exact o_need_rule
  rcases List.mem_cons.mp h with rfl | h
  · exact o_need_mark
  rcases List.mem_cons.mp h with rfl | h
  · exact o_need_time
  rcases List.mem_cons.mp h with rfl | h
  · exact o_is_health_rule
  rcases List.mem_cons.mp h with rfl | h
  · exact o_is_mark
  rcases List.mem_cons.mp h with rfl | h
  · exact o_new_mark
  rcases List.mem_cons.mp h with rfl | h
  · exact o_looked
  rcases List.mem_cons.mp h with rfl | h
  · exact o_is_due
  rcases List.mem_cons.mp h with rfl | h
  · exact o__law_deck
  rcases List.mem_cons.mp h with rfl | h
  · exact o__law_draw
  rcases List.mem_cons.mp h with rfl | h
  · exact o__law_pick
  rcases List.mem_cons.mp h with rfl | h
  · exact o__law_drawn_rule
  rcases List.mem_cons.mp h with rfl | h
  · exact o__law_mark_by
  rcases List.mem_cons.mp h with rfl | h
  · exact o_law
  cases h
def names0 : List PySem.Str := ["is_integer", "is_between", "is_count", "is_row", "is_rule_value", "is_wait_after_bad", "is_mark_value", "mark_new", "mark_after", "is_look_due", "need_rule", "need_mark", "need_time", "is_health_rule", "is_mark", "new_mark", "looked", "is_due", "_law_deck", "_law_draw", "_law_pick", "_law_drawn_rule", "_law_mark_by", "GateError", "BadNumber", "BadRule", "BadMark", "BadBool", "MOST_RULE"]
def names : List PySem.Str := names0
def lawAt : Nat := 34
abbrev fa : List He.Fa := faOf tab gcs
abbrev fn : List He.DefD := Ev.fnOf tab
end K22

set_option Elab.async false
set_option linter.all false
set_option maxRecDepth 100000
set_option maxHeartbeats 0
namespace K22
open PySem L2 Ev PyProof.Rows
abbrev hk : PySem.W.Hook := He.hookD 4 fa fn
def ob (s : PySem.W.SharedT) : He.AlD := He.obsDG 4 fa fn (HandSHeadRun.getT s)
theorem ob_eq (s : PySem.W.SharedT) : ob s = hk.obs s.abs := He.obsDG_eq (HandSHeadRun.getT_eq s)
theorem run (w : World) : HandSHeadRun.RunEq R (PySem.W.view R.prog [lawAt]) hk ob 4000 names w := by
  intro os
  kernel_rfl
end K22

set_option Elab.async false
set_option linter.all false
set_option maxRecDepth 100000
set_option maxHeartbeats 4000000
namespace K22
open PySem L2 Ev
def Dk (i j : Nat) (M : Sto) : Prop := i ≠ j ∧ ∃ (m d : Int) (ns : List Int), M[i]? = some (.dct [(.inr "left", .ref j), (.inr "mixed", .int m), (.inr "draws", .int d)]) ∧ M[j]? = some (.lst (ns.map .int)) ∧ ns.length ≤ 64
theorem draw_ok (n : Nat) {i j : Nat} {M : Sto} (h : Dk i j M) {many : Int} (h1 : 1 ≤ many) (h2 : many < 1073741824) :
    ∃ r M', callN T (n + 1) "_law_draw" [.ref i, .int many] M = .ok (.int r) M' ∧ 0 ≤ r ∧ r < many ∧ Dk i j M' ∧ Keep [i, j] M M' := by
  obtain ⟨hij, m, d, ns, hi, hj, hn⟩ := h
  have li := sto_lt hi
  have lj := sto_lt hj
  have mp : (many = 0) = False := eq_false (by omega)
  obtain ⟨mx, hmx⟩ : ∃ mx, mx = (if many > 2 then many else 2) := ⟨_, rfl⟩
  have x1 : (mx = 0) = False := eq_false (by rw [hmx]; split <;> omega)
  have x2 : (-1073741824 < mx) = True := eq_true (by rw [hmx]; split <;> omega)
  have x3 : (mx < 1073741824) = True := eq_true (by rw [hmx]; split <;> omega)
  rw [e__law_draw]
  unfold c__law_draw
  rcases List.eq_nil_or_concat ns with rfl | ⟨ns, c, rfl⟩
  · simp only [↓evE.eq_1, ↓evE.eq_2, ↓evE.eq_3, ↓evE.eq_4, ↓evE.eq_5, ↓evE.eq_6, ↓evE.eq_7, ↓evE.eq_8, ↓evE.eq_9, ↓evE.eq_10, ↓evE.eq_11, ↓evE.eq_12, ↓evE.eq_13, ↓evE.eq_14, ↓evE.eq_15, ↓evE.eq_16, ↓evE.eq_17, ↓evE.eq_18, ↓evE.eq_19, ↓evE.eq_20, ↓evE.eq_21, ↓evE.eq_22, ↓evE.eq_23, ↓evE.eq_24, ↓evE.eq_25, ↓evE.eq_26, ↓evE.eq_27, ↓evE.eq_28, ↓evE.eq_29, ↓evE.eq_30, ↓evE.eq_31, ↓evE.eq_32, ↓evS.eq_1, ↓evS_seq, ↓evS.eq_3, ↓evS.eq_4, ↓evS.eq_5, ↓evS.eq_6, ↓evS.eq_7, ↓evS.eq_8, ↓evS_ite, ↓iteS, ↓evS.eq_11, ↓evS.eq_12, ↓evS.eq_13, ↓evS.eq_14, ↓evS.eq_15, ↓evS.eq_16, ↓evS.eq_17, ↓evS_for, ↓evA.eq_1, ↓evA.eq_2, ↓evT.eq_1, ↓evT.eq_2, ↓evO.eq_1, ↓evO.eq_2, ↓evI.eq_1, ↓evI.eq_2, ↓evI.eq_3, ↓m_bind, ↓m_then, ↓m_opt, SRes.bind_nx, SRes.bind_rt, SRes.bind_bk, SRes.bind_ct, SRes.bind_ex, SRes.bind_bad, at_call, at_glo, at_fuel, SRes.back, List.getElem?_cons_zero, List.getElem?_cons_succ, List.set_cons_zero, List.set_cons_succ, asgT, asgTs, cmpV, truV, binV, bltV, tyN, tyLe, subV, Option.map_some, Option.map_none, List.any_cons, List.any_nil, if_true, if_false, ite_true, ite_false, String.reduceBEq, Nat.reduceAdd, Bool.or_false, Bool.false_or, Bool.or_true, Bool.true_or, Bool.and_true, Bool.true_and, Bool.and_false, Bool.false_and, Bool.not_true, Bool.not_false, beq_self_eq_true, decide_true, decide_false, reduceCtorEq, Bool.false_eq_true, keyOf, dctKeys, List.length_cons, List.length_nil, List.zip_cons_cons, List.zip_nil_left, List.zip_nil_right, List.foldl_cons, List.foldl_nil, methV, setV, isL, permL_cons, permL_nil, List.map_cons, List.map_nil, valP_cons, valP_nil, key_str, key_int, ofString_eq, String.reduceEq, putP, sizeLine_eq, Nat.reduceLT, Nat.reduceLeDiff, sto_self, mulOk, powOk, divOk, Int.reducePow, Nat.reducePow, Int.reduceNeg, Int.reduceLT, Int.reduceLE, natAbs64, natAbs30, Int.reduceToNat, Int.reduceEq, Int.reduceAdd, Int.reduceSub, Int.reduceMul, ne_eq, not_false_eq_true, Int.reduceNe, Ev.alloc, Ev.eq_ii, Ev.eq_ss, Ev.eq_bb, Ev.eq_nn, Ev.eq_ni, Ev.eq_in, Ev.eq_ns, Ev.eq_sn, Ev.eq_nb, Ev.eq_bn, Ev.eq_is, Ev.eq_si, and_self, true_and, and_true, fmod_lt64, fmod_gt64, atI_0, atI_1, atI_2, atI_3, atI_4, atI_5, atI_6, atI_7, atI_8, atI_9, seqOf, lstOf, slcV, revV, srcOf, optI, List.nil_append, List.cons_append, sto_new, intsP, sortI, insI, compL, compG, wipeP, boolsP, List.all_cons, List.all_nil, id_eq, keep_nil, maxI, minI, intsP, cutf_1, cutf_2, cutf_3, cutf_4, cutt_1, cutt_2, cutt_3, cutt_4, List.drop_succ_cons, List.drop_zero, List.take_succ_cons, List.take_zero, Int.cast_ofNat_Int, false_and, and_false, hi, hj, sto_ne hij, sto_ne hij.symm, li, lj, eq_empty2 _ [], sto_apps, List.length_set, List.isEmpty_nil, mp]
    refine ⟨_, _, rfl, (fmod_ok (by omega)).1, (fmod_ok (by omega)).2, ⟨hij, m, d + 1, [], ?_, ?_, by simp⟩, (Keep.set (by simp)).trans .app⟩
    · rw [sto_apps _ (by simpa using li), sto_self, hi]; rfl
    · rw [sto_apps _ (by simpa using lj), sto_ne hij, hj]
  · have ee : (ns ++ [c]).isEmpty = false := by simp
    have ln : (List.map PV.int ns).length < 16777216 := by simp at hn ⊢; omega
    by_cases hc : 1000000000000000000 ≤ c
    · simp only [↓evE.eq_1, ↓evE.eq_2, ↓evE.eq_3, ↓evE.eq_4, ↓evE.eq_5, ↓evE.eq_6, ↓evE.eq_7, ↓evE.eq_8, ↓evE.eq_9, ↓evE.eq_10, ↓evE.eq_11, ↓evE.eq_12, ↓evE.eq_13, ↓evE.eq_14, ↓evE.eq_15, ↓evE.eq_16, ↓evE.eq_17, ↓evE.eq_18, ↓evE.eq_19, ↓evE.eq_20, ↓evE.eq_21, ↓evE.eq_22, ↓evE.eq_23, ↓evE.eq_24, ↓evE.eq_25, ↓evE.eq_26, ↓evE.eq_27, ↓evE.eq_28, ↓evE.eq_29, ↓evE.eq_30, ↓evE.eq_31, ↓evE.eq_32, ↓evS.eq_1, ↓evS_seq, ↓evS.eq_3, ↓evS.eq_4, ↓evS.eq_5, ↓evS.eq_6, ↓evS.eq_7, ↓evS.eq_8, ↓evS_ite, ↓iteS, ↓evS.eq_11, ↓evS.eq_12, ↓evS.eq_13, ↓evS.eq_14, ↓evS.eq_15, ↓evS.eq_16, ↓evS.eq_17, ↓evS_for, ↓evA.eq_1, ↓evA.eq_2, ↓evT.eq_1, ↓evT.eq_2, ↓evO.eq_1, ↓evO.eq_2, ↓evI.eq_1, ↓evI.eq_2, ↓evI.eq_3, ↓m_bind, ↓m_then, ↓m_opt, SRes.bind_nx, SRes.bind_rt, SRes.bind_bk, SRes.bind_ct, SRes.bind_ex, SRes.bind_bad, at_call, at_glo, at_fuel, SRes.back, List.getElem?_cons_zero, List.getElem?_cons_succ, List.set_cons_zero, List.set_cons_succ, asgT, asgTs, cmpV, truV, binV, bltV, tyN, tyLe, subV, Option.map_some, Option.map_none, List.any_cons, List.any_nil, if_true, if_false, ite_true, ite_false, String.reduceBEq, Nat.reduceAdd, Bool.or_false, Bool.false_or, Bool.or_true, Bool.true_or, Bool.and_true, Bool.true_and, Bool.and_false, Bool.false_and, Bool.not_true, Bool.not_false, beq_self_eq_true, decide_true, decide_false, reduceCtorEq, Bool.false_eq_true, keyOf, dctKeys, List.length_cons, List.length_nil, List.zip_cons_cons, List.zip_nil_left, List.zip_nil_right, List.foldl_cons, List.foldl_nil, methV, setV, isL, permL_cons, permL_nil, List.map_cons, List.map_nil, valP_cons, valP_nil, key_str, key_int, ofString_eq, String.reduceEq, putP, sizeLine_eq, Nat.reduceLT, Nat.reduceLeDiff, sto_self, mulOk, powOk, divOk, Int.reducePow, Nat.reducePow, Int.reduceNeg, Int.reduceLT, Int.reduceLE, natAbs64, natAbs30, Int.reduceToNat, Int.reduceEq, Int.reduceAdd, Int.reduceSub, Int.reduceMul, ne_eq, not_false_eq_true, Int.reduceNe, Ev.alloc, Ev.eq_ii, Ev.eq_ss, Ev.eq_bb, Ev.eq_nn, Ev.eq_ni, Ev.eq_in, Ev.eq_ns, Ev.eq_sn, Ev.eq_nb, Ev.eq_bn, Ev.eq_is, Ev.eq_si, and_self, true_and, and_true, fmod_lt64, fmod_gt64, atI_0, atI_1, atI_2, atI_3, atI_4, atI_5, atI_6, atI_7, atI_8, atI_9, seqOf, lstOf, slcV, revV, srcOf, optI, List.nil_append, List.cons_append, sto_new, intsP, sortI, insI, compL, compG, wipeP, boolsP, List.all_cons, List.all_nil, id_eq, keep_nil, maxI, minI, intsP, cutf_1, cutf_2, cutf_3, cutf_4, cutt_1, cutt_2, cutt_3, cutt_4, List.drop_succ_cons, List.drop_zero, List.take_succ_cons, List.take_zero, Int.cast_ofNat_Int, false_and, and_false, hi, hj, sto_ne hij, sto_ne hij.symm, li, lj, eq_empty2 _ (ns ++ [c]), sto_apps, List.length_set, ee, List.concat_eq_append, ints_last, ints_drop, hc, mp, ← hmx, x1, x2, x3, ln]
      refine ⟨_, _, rfl, (fmod_ok (by omega)).1, (fmod_ok (by omega)).2, ⟨hij, m, d + 1, ns ++ [c.fdiv mx], ?_, ?_, by simpa using hn⟩, (Keep.set (by simp)).trans (Keep.app.trans ((Keep.set (by simp)).trans (Keep.set (by simp))))⟩
      · rw [sto_ne hij.symm, sto_ne hij.symm, sto_apps _ (by simpa using li), sto_self, hi]; rfl
      · rw [sto_self, sto_self, sto_apps _ (by simpa using lj), sto_ne hij, hj]; simp
    · simp only [↓evE.eq_1, ↓evE.eq_2, ↓evE.eq_3, ↓evE.eq_4, ↓evE.eq_5, ↓evE.eq_6, ↓evE.eq_7, ↓evE.eq_8, ↓evE.eq_9, ↓evE.eq_10, ↓evE.eq_11, ↓evE.eq_12, ↓evE.eq_13, ↓evE.eq_14, ↓evE.eq_15, ↓evE.eq_16, ↓evE.eq_17, ↓evE.eq_18, ↓evE.eq_19, ↓evE.eq_20, ↓evE.eq_21, ↓evE.eq_22, ↓evE.eq_23, ↓evE.eq_24, ↓evE.eq_25, ↓evE.eq_26, ↓evE.eq_27, ↓evE.eq_28, ↓evE.eq_29, ↓evE.eq_30, ↓evE.eq_31, ↓evE.eq_32, ↓evS.eq_1, ↓evS_seq, ↓evS.eq_3, ↓evS.eq_4, ↓evS.eq_5, ↓evS.eq_6, ↓evS.eq_7, ↓evS.eq_8, ↓evS_ite, ↓iteS, ↓evS.eq_11, ↓evS.eq_12, ↓evS.eq_13, ↓evS.eq_14, ↓evS.eq_15, ↓evS.eq_16, ↓evS.eq_17, ↓evS_for, ↓evA.eq_1, ↓evA.eq_2, ↓evT.eq_1, ↓evT.eq_2, ↓evO.eq_1, ↓evO.eq_2, ↓evI.eq_1, ↓evI.eq_2, ↓evI.eq_3, ↓m_bind, ↓m_then, ↓m_opt, SRes.bind_nx, SRes.bind_rt, SRes.bind_bk, SRes.bind_ct, SRes.bind_ex, SRes.bind_bad, at_call, at_glo, at_fuel, SRes.back, List.getElem?_cons_zero, List.getElem?_cons_succ, List.set_cons_zero, List.set_cons_succ, asgT, asgTs, cmpV, truV, binV, bltV, tyN, tyLe, subV, Option.map_some, Option.map_none, List.any_cons, List.any_nil, if_true, if_false, ite_true, ite_false, String.reduceBEq, Nat.reduceAdd, Bool.or_false, Bool.false_or, Bool.or_true, Bool.true_or, Bool.and_true, Bool.true_and, Bool.and_false, Bool.false_and, Bool.not_true, Bool.not_false, beq_self_eq_true, decide_true, decide_false, reduceCtorEq, Bool.false_eq_true, keyOf, dctKeys, List.length_cons, List.length_nil, List.zip_cons_cons, List.zip_nil_left, List.zip_nil_right, List.foldl_cons, List.foldl_nil, methV, setV, isL, permL_cons, permL_nil, List.map_cons, List.map_nil, valP_cons, valP_nil, key_str, key_int, ofString_eq, String.reduceEq, putP, sizeLine_eq, Nat.reduceLT, Nat.reduceLeDiff, sto_self, mulOk, powOk, divOk, Int.reducePow, Nat.reducePow, Int.reduceNeg, Int.reduceLT, Int.reduceLE, natAbs64, natAbs30, Int.reduceToNat, Int.reduceEq, Int.reduceAdd, Int.reduceSub, Int.reduceMul, ne_eq, not_false_eq_true, Int.reduceNe, Ev.alloc, Ev.eq_ii, Ev.eq_ss, Ev.eq_bb, Ev.eq_nn, Ev.eq_ni, Ev.eq_in, Ev.eq_ns, Ev.eq_sn, Ev.eq_nb, Ev.eq_bn, Ev.eq_is, Ev.eq_si, and_self, true_and, and_true, fmod_lt64, fmod_gt64, atI_0, atI_1, atI_2, atI_3, atI_4, atI_5, atI_6, atI_7, atI_8, atI_9, seqOf, lstOf, slcV, revV, srcOf, optI, List.nil_append, List.cons_append, sto_new, intsP, sortI, insI, compL, compG, wipeP, boolsP, List.all_cons, List.all_nil, id_eq, keep_nil, maxI, minI, intsP, cutf_1, cutf_2, cutf_3, cutf_4, cutt_1, cutt_2, cutt_3, cutt_4, List.drop_succ_cons, List.drop_zero, List.take_succ_cons, List.take_zero, Int.cast_ofNat_Int, false_and, and_false, hi, hj, sto_ne hij, sto_ne hij.symm, li, lj, eq_empty2 _ (ns ++ [c]), sto_apps, List.length_set, ee, List.concat_eq_append, ints_last, ints_drop, hc, mp]
      refine ⟨_, _, rfl, (fmod_ok (by omega)).1, (fmod_ok (by omega)).2, ⟨hij, m, d + 1, ns, ?_, ?_, by simp at hn; omega⟩, (Keep.set (by simp)).trans (Keep.app.trans (Keep.set (by simp)))⟩
      · rw [sto_ne hij.symm, sto_apps _ (by simpa using li), sto_self, hi]; rfl
      · rw [sto_self, sto_apps _ (by simpa using lj), sto_ne hij, hj]; rfl
theorem pick_ok (n : Nat) {i j k : Nat} {M : Sto} {xs : List PV} (h : Dk i j M) (hx : M[k]? = some (.lst xs)) (hj : k ≠ j) (h0 : 0 < xs.length) (h2 : xs.length < 1073741824) :
    ∃ r M', callN T (n + 2) "_law_pick" [.ref i, .ref k] M = .ok r M' ∧ r ∈ xs ∧ Dk i j M' ∧ Keep [i, j] M M' := by
  have hi : k ≠ i := by
    rintro rfl
    obtain ⟨_, _, _, _, e, _⟩ := h
    rw [hx] at e; cases e
  obtain ⟨r, M', e, h1, h3, d, kp⟩ := draw_ok n (many := xs.length) h (by omega) (by omega)
  obtain ⟨x, xm, _, xe⟩ := atI_in xs h1 h3
  rw [e__law_pick]
  unfold c__law_pick
  simp only [↓evE.eq_1, ↓evE.eq_2, ↓evE.eq_3, ↓evE.eq_4, ↓evE.eq_5, ↓evE.eq_6, ↓evE.eq_7, ↓evE.eq_8, ↓evE.eq_9, ↓evE.eq_10, ↓evE.eq_11, ↓evE.eq_12, ↓evE.eq_13, ↓evE.eq_14, ↓evE.eq_15, ↓evE.eq_16, ↓evE.eq_17, ↓evE.eq_18, ↓evE.eq_19, ↓evE.eq_20, ↓evE.eq_21, ↓evE.eq_22, ↓evE.eq_23, ↓evE.eq_24, ↓evE.eq_25, ↓evE.eq_26, ↓evE.eq_27, ↓evE.eq_28, ↓evE.eq_29, ↓evE.eq_30, ↓evE.eq_31, ↓evE.eq_32, ↓evS.eq_1, ↓evS_seq, ↓evS.eq_3, ↓evS.eq_4, ↓evS.eq_5, ↓evS.eq_6, ↓evS.eq_7, ↓evS.eq_8, ↓evS_ite, ↓iteS, ↓evS.eq_11, ↓evS.eq_12, ↓evS.eq_13, ↓evS.eq_14, ↓evS.eq_15, ↓evS.eq_16, ↓evS.eq_17, ↓evS_for, ↓evA.eq_1, ↓evA.eq_2, ↓evT.eq_1, ↓evT.eq_2, ↓evO.eq_1, ↓evO.eq_2, ↓evI.eq_1, ↓evI.eq_2, ↓evI.eq_3, ↓m_bind, ↓m_then, ↓m_opt, SRes.bind_nx, SRes.bind_rt, SRes.bind_bk, SRes.bind_ct, SRes.bind_ex, SRes.bind_bad, at_call, at_glo, at_fuel, SRes.back, List.getElem?_cons_zero, List.getElem?_cons_succ, List.set_cons_zero, List.set_cons_succ, asgT, asgTs, cmpV, truV, binV, bltV, tyN, tyLe, subV, Option.map_some, Option.map_none, List.any_cons, List.any_nil, if_true, if_false, ite_true, ite_false, String.reduceBEq, Nat.reduceAdd, Bool.or_false, Bool.false_or, Bool.or_true, Bool.true_or, Bool.and_true, Bool.true_and, Bool.and_false, Bool.false_and, Bool.not_true, Bool.not_false, beq_self_eq_true, decide_true, decide_false, reduceCtorEq, Bool.false_eq_true, keyOf, dctKeys, List.length_cons, List.length_nil, List.zip_cons_cons, List.zip_nil_left, List.zip_nil_right, List.foldl_cons, List.foldl_nil, methV, setV, isL, permL_cons, permL_nil, List.map_cons, List.map_nil, valP_cons, valP_nil, key_str, key_int, ofString_eq, String.reduceEq, putP, sizeLine_eq, Nat.reduceLT, Nat.reduceLeDiff, sto_self, mulOk, powOk, divOk, Int.reducePow, Nat.reducePow, Int.reduceNeg, Int.reduceLT, Int.reduceLE, natAbs64, natAbs30, Int.reduceToNat, Int.reduceEq, Int.reduceAdd, Int.reduceSub, Int.reduceMul, ne_eq, not_false_eq_true, Int.reduceNe, Ev.alloc, Ev.eq_ii, Ev.eq_ss, Ev.eq_bb, Ev.eq_nn, Ev.eq_ni, Ev.eq_in, Ev.eq_ns, Ev.eq_sn, Ev.eq_nb, Ev.eq_bn, Ev.eq_is, Ev.eq_si, and_self, true_and, and_true, fmod_lt64, fmod_gt64, atI_0, atI_1, atI_2, atI_3, atI_4, atI_5, atI_6, atI_7, atI_8, atI_9, seqOf, lstOf, slcV, revV, srcOf, optI, List.nil_append, List.cons_append, sto_new, intsP, sortI, insI, compL, compG, wipeP, boolsP, List.all_cons, List.all_nil, id_eq, keep_nil, maxI, minI, intsP, cutf_1, cutf_2, cutf_3, cutf_4, cutt_1, cutt_2, cutt_3, cutt_4, List.drop_succ_cons, List.drop_zero, List.take_succ_cons, List.take_zero, Int.cast_ofNat_Int, false_and, and_false, hx, e, kp.get hx (by simp [hi, hj]), xe]
  exact ⟨x, M', rfl, xm, d, kp⟩
theorem deck_ok (n : Nat) (M : Sto) (ns : List Int) (hn : ns.length ≤ 63) : ∃ i j M', callN T (n + 1) "_law_deck" [.rol (ns.map .int)] M = .ok (.ref i) M' ∧ Dk i j M' ∧ M.length ≤ i ∧ M.length ≤ j ∧ Keep [] M M' := by
  rw [e__law_deck]
  unfold c__law_deck
  have hc : ∀ k : Int, k = 63 → cutP (ns.map .int) none (some k) = ns.map .int := fun k e => by subst e; exact cut_all (k := 63) (by simpa using hn)
  simp only [↓evE.eq_1, ↓evE.eq_2, ↓evE.eq_3, ↓evE.eq_4, ↓evE.eq_5, ↓evE.eq_6, ↓evE.eq_7, ↓evE.eq_8, ↓evE.eq_9, ↓evE.eq_10, ↓evE.eq_11, ↓evE.eq_12, ↓evE.eq_13, ↓evE.eq_14, ↓evE.eq_15, ↓evE.eq_16, ↓evE.eq_17, ↓evE.eq_18, ↓evE.eq_19, ↓evE.eq_20, ↓evE.eq_21, ↓evE.eq_22, ↓evE.eq_23, ↓evE.eq_24, ↓evE.eq_25, ↓evE.eq_26, ↓evE.eq_27, ↓evE.eq_28, ↓evE.eq_29, ↓evE.eq_30, ↓evE.eq_31, ↓evE.eq_32, ↓evS.eq_1, ↓evS_seq, ↓evS.eq_3, ↓evS.eq_4, ↓evS.eq_5, ↓evS.eq_6, ↓evS.eq_7, ↓evS.eq_8, ↓evS_ite, ↓iteS, ↓evS.eq_11, ↓evS.eq_12, ↓evS.eq_13, ↓evS.eq_14, ↓evS.eq_15, ↓evS.eq_16, ↓evS.eq_17, ↓evS_for, ↓evA.eq_1, ↓evA.eq_2, ↓evT.eq_1, ↓evT.eq_2, ↓evO.eq_1, ↓evO.eq_2, ↓evI.eq_1, ↓evI.eq_2, ↓evI.eq_3, ↓m_bind, ↓m_then, ↓m_opt, SRes.bind_nx, SRes.bind_rt, SRes.bind_bk, SRes.bind_ct, SRes.bind_ex, SRes.bind_bad, at_call, at_glo, at_fuel, SRes.back, List.getElem?_cons_zero, List.getElem?_cons_succ, List.set_cons_zero, List.set_cons_succ, asgT, asgTs, cmpV, truV, binV, bltV, tyN, tyLe, subV, Option.map_some, Option.map_none, List.any_cons, List.any_nil, if_true, if_false, ite_true, ite_false, String.reduceBEq, Nat.reduceAdd, Bool.or_false, Bool.false_or, Bool.or_true, Bool.true_or, Bool.and_true, Bool.true_and, Bool.and_false, Bool.false_and, Bool.not_true, Bool.not_false, beq_self_eq_true, decide_true, decide_false, reduceCtorEq, Bool.false_eq_true, keyOf, dctKeys, List.length_cons, List.length_nil, List.zip_cons_cons, List.zip_nil_left, List.zip_nil_right, List.foldl_cons, List.foldl_nil, methV, setV, isL, permL_cons, permL_nil, List.map_cons, List.map_nil, valP_cons, valP_nil, key_str, key_int, ofString_eq, String.reduceEq, putP, sizeLine_eq, Nat.reduceLT, Nat.reduceLeDiff, sto_self, mulOk, powOk, divOk, Int.reducePow, Nat.reducePow, Int.reduceNeg, Int.reduceLT, Int.reduceLE, natAbs64, natAbs30, Int.reduceToNat, Int.reduceEq, Int.reduceAdd, Int.reduceSub, Int.reduceMul, ne_eq, not_false_eq_true, Int.reduceNe, Ev.alloc, Ev.eq_ii, Ev.eq_ss, Ev.eq_bb, Ev.eq_nn, Ev.eq_ni, Ev.eq_in, Ev.eq_ns, Ev.eq_sn, Ev.eq_nb, Ev.eq_bn, Ev.eq_is, Ev.eq_si, and_self, true_and, and_true, fmod_lt64, fmod_gt64, atI_0, atI_1, atI_2, atI_3, atI_4, atI_5, atI_6, atI_7, atI_8, atI_9, seqOf, lstOf, slcV, revV, srcOf, optI, List.nil_append, List.cons_append, sto_new, intsP, sortI, insI, compL, compG, wipeP, boolsP, List.all_cons, List.all_nil, id_eq, keep_nil, maxI, minI, intsP, cutf_1, cutf_2, cutf_3, cutf_4, cutt_1, cutt_2, cutt_3, cutt_4, List.drop_succ_cons, List.drop_zero, List.take_succ_cons, List.take_zero, Int.cast_ofNat_Int, false_and, and_false, hc, sto_new, keep_one]
  generalize hz : forL _ _ _ _ _ = z
  obtain ⟨env', M', rfl, ms, m, c, h1, rfl, rfl⟩ := for_of hz (fun xs env M1 => ∃ (ms : List Int) (m : Int) (c : Option PV), xs = ms.map .int ∧ env = [some (.rol (ns.map .int)), some (.int m), c] ∧ M1 = M ++ [.lst (ns.map .int)]) ⟨ns, _, none, rfl, rfl, rfl⟩
    (fun xs env M1 ⟨ms, m, c, h1, h2, h3⟩ => by subst h3; exact keep_one (sto_new _ _)) (fun x xs env M1 ⟨ms, m, c, h1, h2, h3⟩ => by
      subst h2 h3
      cases ms with
      | nil => cases h1
      | cons k ms =>
        cases h1
        exact ⟨_, _, .inl (by unfold forB; simp only [↓evE.eq_1, ↓evE.eq_2, ↓evE.eq_3, ↓evE.eq_4, ↓evE.eq_5, ↓evE.eq_6, ↓evE.eq_7, ↓evE.eq_8, ↓evE.eq_9, ↓evE.eq_10, ↓evE.eq_11, ↓evE.eq_12, ↓evE.eq_13, ↓evE.eq_14, ↓evE.eq_15, ↓evE.eq_16, ↓evE.eq_17, ↓evE.eq_18, ↓evE.eq_19, ↓evE.eq_20, ↓evE.eq_21, ↓evE.eq_22, ↓evE.eq_23, ↓evE.eq_24, ↓evE.eq_25, ↓evE.eq_26, ↓evE.eq_27, ↓evE.eq_28, ↓evE.eq_29, ↓evE.eq_30, ↓evE.eq_31, ↓evE.eq_32, ↓evS.eq_1, ↓evS_seq, ↓evS.eq_3, ↓evS.eq_4, ↓evS.eq_5, ↓evS.eq_6, ↓evS.eq_7, ↓evS.eq_8, ↓evS_ite, ↓iteS, ↓evS.eq_11, ↓evS.eq_12, ↓evS.eq_13, ↓evS.eq_14, ↓evS.eq_15, ↓evS.eq_16, ↓evS.eq_17, ↓evS_for, ↓evA.eq_1, ↓evA.eq_2, ↓evT.eq_1, ↓evT.eq_2, ↓evO.eq_1, ↓evO.eq_2, ↓evI.eq_1, ↓evI.eq_2, ↓evI.eq_3, ↓m_bind, ↓m_then, ↓m_opt, SRes.bind_nx, SRes.bind_rt, SRes.bind_bk, SRes.bind_ct, SRes.bind_ex, SRes.bind_bad, at_call, at_glo, at_fuel, SRes.back, List.getElem?_cons_zero, List.getElem?_cons_succ, List.set_cons_zero, List.set_cons_succ, asgT, asgTs, cmpV, truV, binV, bltV, tyN, tyLe, subV, Option.map_some, Option.map_none, List.any_cons, List.any_nil, if_true, if_false, ite_true, ite_false, String.reduceBEq, Nat.reduceAdd, Bool.or_false, Bool.false_or, Bool.or_true, Bool.true_or, Bool.and_true, Bool.true_and, Bool.and_false, Bool.false_and, Bool.not_true, Bool.not_false, beq_self_eq_true, decide_true, decide_false, reduceCtorEq, Bool.false_eq_true, keyOf, dctKeys, List.length_cons, List.length_nil, List.zip_cons_cons, List.zip_nil_left, List.zip_nil_right, List.foldl_cons, List.foldl_nil, methV, setV, isL, permL_cons, permL_nil, List.map_cons, List.map_nil, valP_cons, valP_nil, key_str, key_int, ofString_eq, String.reduceEq, putP, sizeLine_eq, Nat.reduceLT, Nat.reduceLeDiff, sto_self, mulOk, powOk, divOk, Int.reducePow, Nat.reducePow, Int.reduceNeg, Int.reduceLT, Int.reduceLE, natAbs64, natAbs30, Int.reduceToNat, Int.reduceEq, Int.reduceAdd, Int.reduceSub, Int.reduceMul, ne_eq, not_false_eq_true, Int.reduceNe, Ev.alloc, Ev.eq_ii, Ev.eq_ss, Ev.eq_bb, Ev.eq_nn, Ev.eq_ni, Ev.eq_in, Ev.eq_ns, Ev.eq_sn, Ev.eq_nb, Ev.eq_bn, Ev.eq_is, Ev.eq_si, and_self, true_and, and_true, fmod_lt64, fmod_gt64, atI_0, atI_1, atI_2, atI_3, atI_4, atI_5, atI_6, atI_7, atI_8, atI_9, seqOf, lstOf, slcV, revV, srcOf, optI, List.nil_append, List.cons_append, sto_new, intsP, sortI, insI, compL, compG, wipeP, boolsP, List.all_cons, List.all_nil, id_eq, keep_nil, maxI, minI, intsP, cutf_1, cutf_2, cutf_3, cutf_4, cutt_1, cutt_2, cutt_3, cutt_4, List.drop_succ_cons, List.drop_zero, List.take_succ_cons, List.take_zero, Int.cast_ofNat_Int, false_and, and_false]; try rfl), ms, _, _, rfl, rfl, rfl⟩)
  simp only [↓evE.eq_1, ↓evE.eq_2, ↓evE.eq_3, ↓evE.eq_4, ↓evE.eq_5, ↓evE.eq_6, ↓evE.eq_7, ↓evE.eq_8, ↓evE.eq_9, ↓evE.eq_10, ↓evE.eq_11, ↓evE.eq_12, ↓evE.eq_13, ↓evE.eq_14, ↓evE.eq_15, ↓evE.eq_16, ↓evE.eq_17, ↓evE.eq_18, ↓evE.eq_19, ↓evE.eq_20, ↓evE.eq_21, ↓evE.eq_22, ↓evE.eq_23, ↓evE.eq_24, ↓evE.eq_25, ↓evE.eq_26, ↓evE.eq_27, ↓evE.eq_28, ↓evE.eq_29, ↓evE.eq_30, ↓evE.eq_31, ↓evE.eq_32, ↓evS.eq_1, ↓evS_seq, ↓evS.eq_3, ↓evS.eq_4, ↓evS.eq_5, ↓evS.eq_6, ↓evS.eq_7, ↓evS.eq_8, ↓evS_ite, ↓iteS, ↓evS.eq_11, ↓evS.eq_12, ↓evS.eq_13, ↓evS.eq_14, ↓evS.eq_15, ↓evS.eq_16, ↓evS.eq_17, ↓evS_for, ↓evA.eq_1, ↓evA.eq_2, ↓evT.eq_1, ↓evT.eq_2, ↓evO.eq_1, ↓evO.eq_2, ↓evI.eq_1, ↓evI.eq_2, ↓evI.eq_3, ↓m_bind, ↓m_then, ↓m_opt, SRes.bind_nx, SRes.bind_rt, SRes.bind_bk, SRes.bind_ct, SRes.bind_ex, SRes.bind_bad, at_call, at_glo, at_fuel, SRes.back, List.getElem?_cons_zero, List.getElem?_cons_succ, List.set_cons_zero, List.set_cons_succ, asgT, asgTs, cmpV, truV, binV, bltV, tyN, tyLe, subV, Option.map_some, Option.map_none, List.any_cons, List.any_nil, if_true, if_false, ite_true, ite_false, String.reduceBEq, Nat.reduceAdd, Bool.or_false, Bool.false_or, Bool.or_true, Bool.true_or, Bool.and_true, Bool.true_and, Bool.and_false, Bool.false_and, Bool.not_true, Bool.not_false, beq_self_eq_true, decide_true, decide_false, reduceCtorEq, Bool.false_eq_true, keyOf, dctKeys, List.length_cons, List.length_nil, List.zip_cons_cons, List.zip_nil_left, List.zip_nil_right, List.foldl_cons, List.foldl_nil, methV, setV, isL, permL_cons, permL_nil, List.map_cons, List.map_nil, valP_cons, valP_nil, key_str, key_int, ofString_eq, String.reduceEq, putP, sizeLine_eq, Nat.reduceLT, Nat.reduceLeDiff, sto_self, mulOk, powOk, divOk, Int.reducePow, Nat.reducePow, Int.reduceNeg, Int.reduceLT, Int.reduceLE, natAbs64, natAbs30, Int.reduceToNat, Int.reduceEq, Int.reduceAdd, Int.reduceSub, Int.reduceMul, ne_eq, not_false_eq_true, Int.reduceNe, Ev.alloc, Ev.eq_ii, Ev.eq_ss, Ev.eq_bb, Ev.eq_nn, Ev.eq_ni, Ev.eq_in, Ev.eq_ns, Ev.eq_sn, Ev.eq_nb, Ev.eq_bn, Ev.eq_is, Ev.eq_si, and_self, true_and, and_true, fmod_lt64, fmod_gt64, atI_0, atI_1, atI_2, atI_3, atI_4, atI_5, atI_6, atI_7, atI_8, atI_9, seqOf, lstOf, slcV, revV, srcOf, optI, List.nil_append, List.cons_append, sto_new, intsP, sortI, insI, compL, compG, wipeP, boolsP, List.all_cons, List.all_nil, id_eq, keep_nil, maxI, minI, intsP, cutf_1, cutf_2, cutf_3, cutf_4, cutt_1, cutt_2, cutt_3, cutt_4, List.drop_succ_cons, List.drop_zero, List.take_succ_cons, List.take_zero, Int.cast_ofNat_Int, false_and, and_false, hc, sto_new]
  refine ⟨_, M.length + 3, _, rfl, ⟨by simp, m, 0, ns.reverse, ?_, ?_, by simpa using Nat.le_succ_of_le hn⟩, by simp <;> omega, by omega, Keep.app.trans (Keep.app.trans (Keep.app.trans (Keep.app.trans Keep.app)))⟩
  · rw [sto_new]; simp
  · simp [List.getElem?_append]
theorem Dk.app {i j : Nat} {M : Sto} (h : Dk i j M) (l : List MO) : Dk i j (M ++ l) := by
  obtain ⟨hij, m, d, ns, hi, hj, hn⟩ := h
  exact ⟨hij, m, d, ns, sto_app hi, sto_app hj, hn⟩
theorem Dk.keep {i j : Nat} {M M' : Sto} {out : List Nat} (h : Dk i j M) (k : Keep out M M') (h1 : i ∉ out) (h2 : j ∉ out) : Dk i j M' := by
  obtain ⟨hij, m, d, ns, hi, hj, hn⟩ := h
  exact ⟨hij, m, d, ns, k.get hi h1, k.get hj h2, hn⟩
theorem Dk.lt {i j : Nat} {M : Sto} (h : Dk i j M) : i < M.length ∧ j < M.length := by
  obtain ⟨hij, m, d, ns, hi, hj, hn⟩ := h
  exact ⟨sto_lt hi, sto_lt hj⟩
/-- a pick from a written list of numbers -/
theorem picks (n : Nat) {i j : Nat} {M : Sto} (h : Dk i j M) (xs : List PV) (h0 : 0 < xs.length) (h2 : xs.length < 1073741824) :
    ∃ r M', callN T (n + 2) "_law_pick" [.ref i, .ref M.length] (M ++ [.lst xs]) = .ok r M' ∧ r ∈ xs ∧ Dk i j M' ∧ Keep [i, j] M M' := by
  obtain ⟨r, M', e, rm, d, k⟩ := pick_ok n (k := M.length) (h.app [.lst xs]) (sto_new _ _) (by have := h.lt; omega) h0 h2
  exact ⟨r, M', e, rm, d, Keep.app.trans k⟩
def rlV (a b c d : Int) : PV := .tup [.int a, .int b, .int c, .int d]
def Rl (a b c d : Int) : Prop := 1 ≤ a ∧ a ≤ 99 ∧ 1 ≤ b ∧ b ≤ 99 ∧ 1 ≤ c ∧ c ≤ d ∧ d ≤ 99
theorem rule_ok (n : Nat) {i j : Nat} {M : Sto} (h : Dk i j M) : ∃ a b c d M', callN T (n + 3) "_law_drawn_rule" [.ref i] M = .ok (rlV a b c d) M' ∧ Rl a b c d ∧ Dk i j M' ∧ Keep [i, j] M M' := by
  rw [e__law_drawn_rule]
  unfold c__law_drawn_rule
  simp only [↓evE.eq_1, ↓evE.eq_2, ↓evE.eq_3, ↓evE.eq_4, ↓evE.eq_5, ↓evE.eq_6, ↓evE.eq_7, ↓evE.eq_8, ↓evE.eq_9, ↓evE.eq_10, ↓evE.eq_11, ↓evE.eq_12, ↓evE.eq_13, ↓evE.eq_14, ↓evE.eq_15, ↓evE.eq_16, ↓evE.eq_17, ↓evE.eq_18, ↓evE.eq_19, ↓evE.eq_20, ↓evE.eq_21, ↓evE.eq_22, ↓evE.eq_23, ↓evE.eq_24, ↓evE.eq_25, ↓evE.eq_26, ↓evE.eq_27, ↓evE.eq_28, ↓evE.eq_29, ↓evE.eq_30, ↓evE.eq_31, ↓evE.eq_32, ↓evS.eq_1, ↓evS_seq, ↓evS.eq_3, ↓evS.eq_4, ↓evS.eq_5, ↓evS.eq_6, ↓evS.eq_7, ↓evS.eq_8, ↓evS_ite, ↓iteS, ↓evS.eq_11, ↓evS.eq_12, ↓evS.eq_13, ↓evS.eq_14, ↓evS.eq_15, ↓evS.eq_16, ↓evS.eq_17, ↓evS_for, ↓evA.eq_1, ↓evA.eq_2, ↓evT.eq_1, ↓evT.eq_2, ↓evO.eq_1, ↓evO.eq_2, ↓evI.eq_1, ↓evI.eq_2, ↓evI.eq_3, ↓m_bind, ↓m_then, ↓m_opt, SRes.bind_nx, SRes.bind_rt, SRes.bind_bk, SRes.bind_ct, SRes.bind_ex, SRes.bind_bad, at_call, at_glo, at_fuel, SRes.back, List.getElem?_cons_zero, List.getElem?_cons_succ, List.set_cons_zero, List.set_cons_succ, asgT, asgTs, cmpV, truV, binV, bltV, tyN, tyLe, subV, Option.map_some, Option.map_none, List.any_cons, List.any_nil, if_true, if_false, ite_true, ite_false, String.reduceBEq, Nat.reduceAdd, Bool.or_false, Bool.false_or, Bool.or_true, Bool.true_or, Bool.and_true, Bool.true_and, Bool.and_false, Bool.false_and, Bool.not_true, Bool.not_false, beq_self_eq_true, decide_true, decide_false, reduceCtorEq, Bool.false_eq_true, keyOf, dctKeys, List.length_cons, List.length_nil, List.zip_cons_cons, List.zip_nil_left, List.zip_nil_right, List.foldl_cons, List.foldl_nil, methV, setV, isL, permL_cons, permL_nil, List.map_cons, List.map_nil, valP_cons, valP_nil, key_str, key_int, ofString_eq, String.reduceEq, putP, sizeLine_eq, Nat.reduceLT, Nat.reduceLeDiff, sto_self, mulOk, powOk, divOk, Int.reducePow, Nat.reducePow, Int.reduceNeg, Int.reduceLT, Int.reduceLE, natAbs64, natAbs30, Int.reduceToNat, Int.reduceEq, Int.reduceAdd, Int.reduceSub, Int.reduceMul, ne_eq, not_false_eq_true, Int.reduceNe, Ev.alloc, Ev.eq_ii, Ev.eq_ss, Ev.eq_bb, Ev.eq_nn, Ev.eq_ni, Ev.eq_in, Ev.eq_ns, Ev.eq_sn, Ev.eq_nb, Ev.eq_bn, Ev.eq_is, Ev.eq_si, and_self, true_and, and_true, fmod_lt64, fmod_gt64, atI_0, atI_1, atI_2, atI_3, atI_4, atI_5, atI_6, atI_7, atI_8, atI_9, seqOf, lstOf, slcV, revV, srcOf, optI, List.nil_append, List.cons_append, sto_new, intsP, sortI, insI, compL, compG, wipeP, boolsP, List.all_cons, List.all_nil, id_eq, keep_nil, maxI, minI, intsP, cutf_1, cutf_2, cutf_3, cutf_4, cutt_1, cutt_2, cutt_3, cutt_4, List.drop_succ_cons, List.drop_zero, List.take_succ_cons, List.take_zero, Int.cast_ofNat_Int, false_and, and_false]
  obtain ⟨most, M1, e, hm, d1, k1⟩ := picks n h [.int 3, .int 3, .int 99, .int 6] (by decide) (by decide)
  have hm' : ∃ m : Int, most = .int m ∧ 1 ≤ m ∧ m ≤ 99 := by
    simp only [List.mem_cons, List.mem_nil_iff, or_false] at hm
    rcases hm with rfl | rfl | rfl | rfl <;> exact ⟨_, rfl, by decide, by decide⟩
  obtain ⟨m, rfl, hm1, hm2⟩ := hm'
  simp only [↓evE.eq_1, ↓evE.eq_2, ↓evE.eq_3, ↓evE.eq_4, ↓evE.eq_5, ↓evE.eq_6, ↓evE.eq_7, ↓evE.eq_8, ↓evE.eq_9, ↓evE.eq_10, ↓evE.eq_11, ↓evE.eq_12, ↓evE.eq_13, ↓evE.eq_14, ↓evE.eq_15, ↓evE.eq_16, ↓evE.eq_17, ↓evE.eq_18, ↓evE.eq_19, ↓evE.eq_20, ↓evE.eq_21, ↓evE.eq_22, ↓evE.eq_23, ↓evE.eq_24, ↓evE.eq_25, ↓evE.eq_26, ↓evE.eq_27, ↓evE.eq_28, ↓evE.eq_29, ↓evE.eq_30, ↓evE.eq_31, ↓evE.eq_32, ↓evS.eq_1, ↓evS_seq, ↓evS.eq_3, ↓evS.eq_4, ↓evS.eq_5, ↓evS.eq_6, ↓evS.eq_7, ↓evS.eq_8, ↓evS_ite, ↓iteS, ↓evS.eq_11, ↓evS.eq_12, ↓evS.eq_13, ↓evS.eq_14, ↓evS.eq_15, ↓evS.eq_16, ↓evS.eq_17, ↓evS_for, ↓evA.eq_1, ↓evA.eq_2, ↓evT.eq_1, ↓evT.eq_2, ↓evO.eq_1, ↓evO.eq_2, ↓evI.eq_1, ↓evI.eq_2, ↓evI.eq_3, ↓m_bind, ↓m_then, ↓m_opt, SRes.bind_nx, SRes.bind_rt, SRes.bind_bk, SRes.bind_ct, SRes.bind_ex, SRes.bind_bad, at_call, at_glo, at_fuel, SRes.back, List.getElem?_cons_zero, List.getElem?_cons_succ, List.set_cons_zero, List.set_cons_succ, asgT, asgTs, cmpV, truV, binV, bltV, tyN, tyLe, subV, Option.map_some, Option.map_none, List.any_cons, List.any_nil, if_true, if_false, ite_true, ite_false, String.reduceBEq, Nat.reduceAdd, Bool.or_false, Bool.false_or, Bool.or_true, Bool.true_or, Bool.and_true, Bool.true_and, Bool.and_false, Bool.false_and, Bool.not_true, Bool.not_false, beq_self_eq_true, decide_true, decide_false, reduceCtorEq, Bool.false_eq_true, keyOf, dctKeys, List.length_cons, List.length_nil, List.zip_cons_cons, List.zip_nil_left, List.zip_nil_right, List.foldl_cons, List.foldl_nil, methV, setV, isL, permL_cons, permL_nil, List.map_cons, List.map_nil, valP_cons, valP_nil, key_str, key_int, ofString_eq, String.reduceEq, putP, sizeLine_eq, Nat.reduceLT, Nat.reduceLeDiff, sto_self, mulOk, powOk, divOk, Int.reducePow, Nat.reducePow, Int.reduceNeg, Int.reduceLT, Int.reduceLE, natAbs64, natAbs30, Int.reduceToNat, Int.reduceEq, Int.reduceAdd, Int.reduceSub, Int.reduceMul, ne_eq, not_false_eq_true, Int.reduceNe, Ev.alloc, Ev.eq_ii, Ev.eq_ss, Ev.eq_bb, Ev.eq_nn, Ev.eq_ni, Ev.eq_in, Ev.eq_ns, Ev.eq_sn, Ev.eq_nb, Ev.eq_bn, Ev.eq_is, Ev.eq_si, and_self, true_and, and_true, fmod_lt64, fmod_gt64, atI_0, atI_1, atI_2, atI_3, atI_4, atI_5, atI_6, atI_7, atI_8, atI_9, seqOf, lstOf, slcV, revV, srcOf, optI, List.nil_append, List.cons_append, sto_new, intsP, sortI, insI, compL, compG, wipeP, boolsP, List.all_cons, List.all_nil, id_eq, keep_nil, maxI, minI, intsP, cutf_1, cutf_2, cutf_3, cutf_4, cutt_1, cutt_2, cutt_3, cutt_4, List.drop_succ_cons, List.drop_zero, List.take_succ_cons, List.take_zero, Int.cast_ofNat_Int, false_and, and_false, e]
  obtain ⟨q, M2, e, hq, d2, k2⟩ := picks n d1 [.int 5, .int 99] (by decide) (by decide)
  have hq' : ∃ q' : Int, q = .int q' ∧ 1 ≤ q' ∧ q' ≤ 99 := by
    simp only [List.mem_cons, List.mem_nil_iff, or_false] at hq
    rcases hq with rfl | rfl <;> exact ⟨_, rfl, by decide, by decide⟩
  obtain ⟨q, rfl, hq1, hq2⟩ := hq'
  simp only [↓evE.eq_1, ↓evE.eq_2, ↓evE.eq_3, ↓evE.eq_4, ↓evE.eq_5, ↓evE.eq_6, ↓evE.eq_7, ↓evE.eq_8, ↓evE.eq_9, ↓evE.eq_10, ↓evE.eq_11, ↓evE.eq_12, ↓evE.eq_13, ↓evE.eq_14, ↓evE.eq_15, ↓evE.eq_16, ↓evE.eq_17, ↓evE.eq_18, ↓evE.eq_19, ↓evE.eq_20, ↓evE.eq_21, ↓evE.eq_22, ↓evE.eq_23, ↓evE.eq_24, ↓evE.eq_25, ↓evE.eq_26, ↓evE.eq_27, ↓evE.eq_28, ↓evE.eq_29, ↓evE.eq_30, ↓evE.eq_31, ↓evE.eq_32, ↓evS.eq_1, ↓evS_seq, ↓evS.eq_3, ↓evS.eq_4, ↓evS.eq_5, ↓evS.eq_6, ↓evS.eq_7, ↓evS.eq_8, ↓evS_ite, ↓iteS, ↓evS.eq_11, ↓evS.eq_12, ↓evS.eq_13, ↓evS.eq_14, ↓evS.eq_15, ↓evS.eq_16, ↓evS.eq_17, ↓evS_for, ↓evA.eq_1, ↓evA.eq_2, ↓evT.eq_1, ↓evT.eq_2, ↓evO.eq_1, ↓evO.eq_2, ↓evI.eq_1, ↓evI.eq_2, ↓evI.eq_3, ↓m_bind, ↓m_then, ↓m_opt, SRes.bind_nx, SRes.bind_rt, SRes.bind_bk, SRes.bind_ct, SRes.bind_ex, SRes.bind_bad, at_call, at_glo, at_fuel, SRes.back, List.getElem?_cons_zero, List.getElem?_cons_succ, List.set_cons_zero, List.set_cons_succ, asgT, asgTs, cmpV, truV, binV, bltV, tyN, tyLe, subV, Option.map_some, Option.map_none, List.any_cons, List.any_nil, if_true, if_false, ite_true, ite_false, String.reduceBEq, Nat.reduceAdd, Bool.or_false, Bool.false_or, Bool.or_true, Bool.true_or, Bool.and_true, Bool.true_and, Bool.and_false, Bool.false_and, Bool.not_true, Bool.not_false, beq_self_eq_true, decide_true, decide_false, reduceCtorEq, Bool.false_eq_true, keyOf, dctKeys, List.length_cons, List.length_nil, List.zip_cons_cons, List.zip_nil_left, List.zip_nil_right, List.foldl_cons, List.foldl_nil, methV, setV, isL, permL_cons, permL_nil, List.map_cons, List.map_nil, valP_cons, valP_nil, key_str, key_int, ofString_eq, String.reduceEq, putP, sizeLine_eq, Nat.reduceLT, Nat.reduceLeDiff, sto_self, mulOk, powOk, divOk, Int.reducePow, Nat.reducePow, Int.reduceNeg, Int.reduceLT, Int.reduceLE, natAbs64, natAbs30, Int.reduceToNat, Int.reduceEq, Int.reduceAdd, Int.reduceSub, Int.reduceMul, ne_eq, not_false_eq_true, Int.reduceNe, Ev.alloc, Ev.eq_ii, Ev.eq_ss, Ev.eq_bb, Ev.eq_nn, Ev.eq_ni, Ev.eq_in, Ev.eq_ns, Ev.eq_sn, Ev.eq_nb, Ev.eq_bn, Ev.eq_is, Ev.eq_si, and_self, true_and, and_true, fmod_lt64, fmod_gt64, atI_0, atI_1, atI_2, atI_3, atI_4, atI_5, atI_6, atI_7, atI_8, atI_9, seqOf, lstOf, slcV, revV, srcOf, optI, List.nil_append, List.cons_append, sto_new, intsP, sortI, insI, compL, compG, wipeP, boolsP, List.all_cons, List.all_nil, id_eq, keep_nil, maxI, minI, intsP, cutf_1, cutf_2, cutf_3, cutf_4, cutt_1, cutt_2, cutt_3, cutt_4, List.drop_succ_cons, List.drop_zero, List.take_succ_cons, List.take_zero, Int.cast_ofNat_Int, false_and, and_false, e]
  obtain ⟨x, M3, e, x1, x2, d3, k3⟩ := draw_ok (n + 1) d2 (many := q) (by omega) (by omega)
  simp only [↓evE.eq_1, ↓evE.eq_2, ↓evE.eq_3, ↓evE.eq_4, ↓evE.eq_5, ↓evE.eq_6, ↓evE.eq_7, ↓evE.eq_8, ↓evE.eq_9, ↓evE.eq_10, ↓evE.eq_11, ↓evE.eq_12, ↓evE.eq_13, ↓evE.eq_14, ↓evE.eq_15, ↓evE.eq_16, ↓evE.eq_17, ↓evE.eq_18, ↓evE.eq_19, ↓evE.eq_20, ↓evE.eq_21, ↓evE.eq_22, ↓evE.eq_23, ↓evE.eq_24, ↓evE.eq_25, ↓evE.eq_26, ↓evE.eq_27, ↓evE.eq_28, ↓evE.eq_29, ↓evE.eq_30, ↓evE.eq_31, ↓evE.eq_32, ↓evS.eq_1, ↓evS_seq, ↓evS.eq_3, ↓evS.eq_4, ↓evS.eq_5, ↓evS.eq_6, ↓evS.eq_7, ↓evS.eq_8, ↓evS_ite, ↓iteS, ↓evS.eq_11, ↓evS.eq_12, ↓evS.eq_13, ↓evS.eq_14, ↓evS.eq_15, ↓evS.eq_16, ↓evS.eq_17, ↓evS_for, ↓evA.eq_1, ↓evA.eq_2, ↓evT.eq_1, ↓evT.eq_2, ↓evO.eq_1, ↓evO.eq_2, ↓evI.eq_1, ↓evI.eq_2, ↓evI.eq_3, ↓m_bind, ↓m_then, ↓m_opt, SRes.bind_nx, SRes.bind_rt, SRes.bind_bk, SRes.bind_ct, SRes.bind_ex, SRes.bind_bad, at_call, at_glo, at_fuel, SRes.back, List.getElem?_cons_zero, List.getElem?_cons_succ, List.set_cons_zero, List.set_cons_succ, asgT, asgTs, cmpV, truV, binV, bltV, tyN, tyLe, subV, Option.map_some, Option.map_none, List.any_cons, List.any_nil, if_true, if_false, ite_true, ite_false, String.reduceBEq, Nat.reduceAdd, Bool.or_false, Bool.false_or, Bool.or_true, Bool.true_or, Bool.and_true, Bool.true_and, Bool.and_false, Bool.false_and, Bool.not_true, Bool.not_false, beq_self_eq_true, decide_true, decide_false, reduceCtorEq, Bool.false_eq_true, keyOf, dctKeys, List.length_cons, List.length_nil, List.zip_cons_cons, List.zip_nil_left, List.zip_nil_right, List.foldl_cons, List.foldl_nil, methV, setV, isL, permL_cons, permL_nil, List.map_cons, List.map_nil, valP_cons, valP_nil, key_str, key_int, ofString_eq, String.reduceEq, putP, sizeLine_eq, Nat.reduceLT, Nat.reduceLeDiff, sto_self, mulOk, powOk, divOk, Int.reducePow, Nat.reducePow, Int.reduceNeg, Int.reduceLT, Int.reduceLE, natAbs64, natAbs30, Int.reduceToNat, Int.reduceEq, Int.reduceAdd, Int.reduceSub, Int.reduceMul, ne_eq, not_false_eq_true, Int.reduceNe, Ev.alloc, Ev.eq_ii, Ev.eq_ss, Ev.eq_bb, Ev.eq_nn, Ev.eq_ni, Ev.eq_in, Ev.eq_ns, Ev.eq_sn, Ev.eq_nb, Ev.eq_bn, Ev.eq_is, Ev.eq_si, and_self, true_and, and_true, fmod_lt64, fmod_gt64, atI_0, atI_1, atI_2, atI_3, atI_4, atI_5, atI_6, atI_7, atI_8, atI_9, seqOf, lstOf, slcV, revV, srcOf, optI, List.nil_append, List.cons_append, sto_new, intsP, sortI, insI, compL, compG, wipeP, boolsP, List.all_cons, List.all_nil, id_eq, keep_nil, maxI, minI, intsP, cutf_1, cutf_2, cutf_3, cutf_4, cutt_1, cutt_2, cutt_3, cutt_4, List.drop_succ_cons, List.drop_zero, List.take_succ_cons, List.take_zero, Int.cast_ofNat_Int, false_and, and_false, e]
  obtain ⟨y, M4, e, y1, y2, d4, k4⟩ := draw_ok (n + 1) d3 (many := 99) (by omega) (by omega)
  simp only [↓evE.eq_1, ↓evE.eq_2, ↓evE.eq_3, ↓evE.eq_4, ↓evE.eq_5, ↓evE.eq_6, ↓evE.eq_7, ↓evE.eq_8, ↓evE.eq_9, ↓evE.eq_10, ↓evE.eq_11, ↓evE.eq_12, ↓evE.eq_13, ↓evE.eq_14, ↓evE.eq_15, ↓evE.eq_16, ↓evE.eq_17, ↓evE.eq_18, ↓evE.eq_19, ↓evE.eq_20, ↓evE.eq_21, ↓evE.eq_22, ↓evE.eq_23, ↓evE.eq_24, ↓evE.eq_25, ↓evE.eq_26, ↓evE.eq_27, ↓evE.eq_28, ↓evE.eq_29, ↓evE.eq_30, ↓evE.eq_31, ↓evE.eq_32, ↓evS.eq_1, ↓evS_seq, ↓evS.eq_3, ↓evS.eq_4, ↓evS.eq_5, ↓evS.eq_6, ↓evS.eq_7, ↓evS.eq_8, ↓evS_ite, ↓iteS, ↓evS.eq_11, ↓evS.eq_12, ↓evS.eq_13, ↓evS.eq_14, ↓evS.eq_15, ↓evS.eq_16, ↓evS.eq_17, ↓evS_for, ↓evA.eq_1, ↓evA.eq_2, ↓evT.eq_1, ↓evT.eq_2, ↓evO.eq_1, ↓evO.eq_2, ↓evI.eq_1, ↓evI.eq_2, ↓evI.eq_3, ↓m_bind, ↓m_then, ↓m_opt, SRes.bind_nx, SRes.bind_rt, SRes.bind_bk, SRes.bind_ct, SRes.bind_ex, SRes.bind_bad, at_call, at_glo, at_fuel, SRes.back, List.getElem?_cons_zero, List.getElem?_cons_succ, List.set_cons_zero, List.set_cons_succ, asgT, asgTs, cmpV, truV, binV, bltV, tyN, tyLe, subV, Option.map_some, Option.map_none, List.any_cons, List.any_nil, if_true, if_false, ite_true, ite_false, String.reduceBEq, Nat.reduceAdd, Bool.or_false, Bool.false_or, Bool.or_true, Bool.true_or, Bool.and_true, Bool.true_and, Bool.and_false, Bool.false_and, Bool.not_true, Bool.not_false, beq_self_eq_true, decide_true, decide_false, reduceCtorEq, Bool.false_eq_true, keyOf, dctKeys, List.length_cons, List.length_nil, List.zip_cons_cons, List.zip_nil_left, List.zip_nil_right, List.foldl_cons, List.foldl_nil, methV, setV, isL, permL_cons, permL_nil, List.map_cons, List.map_nil, valP_cons, valP_nil, key_str, key_int, ofString_eq, String.reduceEq, putP, sizeLine_eq, Nat.reduceLT, Nat.reduceLeDiff, sto_self, mulOk, powOk, divOk, Int.reducePow, Nat.reducePow, Int.reduceNeg, Int.reduceLT, Int.reduceLE, natAbs64, natAbs30, Int.reduceToNat, Int.reduceEq, Int.reduceAdd, Int.reduceSub, Int.reduceMul, ne_eq, not_false_eq_true, Int.reduceNe, Ev.alloc, Ev.eq_ii, Ev.eq_ss, Ev.eq_bb, Ev.eq_nn, Ev.eq_ni, Ev.eq_in, Ev.eq_ns, Ev.eq_sn, Ev.eq_nb, Ev.eq_bn, Ev.eq_is, Ev.eq_si, and_self, true_and, and_true, fmod_lt64, fmod_gt64, atI_0, atI_1, atI_2, atI_3, atI_4, atI_5, atI_6, atI_7, atI_8, atI_9, seqOf, lstOf, slcV, revV, srcOf, optI, List.nil_append, List.cons_append, sto_new, intsP, sortI, insI, compL, compG, wipeP, boolsP, List.all_cons, List.all_nil, id_eq, keep_nil, maxI, minI, intsP, cutf_1, cutf_2, cutf_3, cutf_4, cutt_1, cutt_2, cutt_3, cutt_4, List.drop_succ_cons, List.drop_zero, List.take_succ_cons, List.take_zero, Int.cast_ofNat_Int, false_and, and_false, e]
  obtain ⟨c, dd, hs, hcd⟩ : ∃ c dd, (if 1 + x ≤ 1 + y then [1 + x, 1 + y] else [1 + y, 1 + x]) = [c, dd] ∧ 1 ≤ c ∧ c ≤ dd ∧ dd ≤ 99 := by
    split
    · exact ⟨_, _, rfl, by omega⟩
    · exact ⟨_, _, rfl, by omega⟩
  simp only [↓evE.eq_1, ↓evE.eq_2, ↓evE.eq_3, ↓evE.eq_4, ↓evE.eq_5, ↓evE.eq_6, ↓evE.eq_7, ↓evE.eq_8, ↓evE.eq_9, ↓evE.eq_10, ↓evE.eq_11, ↓evE.eq_12, ↓evE.eq_13, ↓evE.eq_14, ↓evE.eq_15, ↓evE.eq_16, ↓evE.eq_17, ↓evE.eq_18, ↓evE.eq_19, ↓evE.eq_20, ↓evE.eq_21, ↓evE.eq_22, ↓evE.eq_23, ↓evE.eq_24, ↓evE.eq_25, ↓evE.eq_26, ↓evE.eq_27, ↓evE.eq_28, ↓evE.eq_29, ↓evE.eq_30, ↓evE.eq_31, ↓evE.eq_32, ↓evS.eq_1, ↓evS_seq, ↓evS.eq_3, ↓evS.eq_4, ↓evS.eq_5, ↓evS.eq_6, ↓evS.eq_7, ↓evS.eq_8, ↓evS_ite, ↓iteS, ↓evS.eq_11, ↓evS.eq_12, ↓evS.eq_13, ↓evS.eq_14, ↓evS.eq_15, ↓evS.eq_16, ↓evS.eq_17, ↓evS_for, ↓evA.eq_1, ↓evA.eq_2, ↓evT.eq_1, ↓evT.eq_2, ↓evO.eq_1, ↓evO.eq_2, ↓evI.eq_1, ↓evI.eq_2, ↓evI.eq_3, ↓m_bind, ↓m_then, ↓m_opt, SRes.bind_nx, SRes.bind_rt, SRes.bind_bk, SRes.bind_ct, SRes.bind_ex, SRes.bind_bad, at_call, at_glo, at_fuel, SRes.back, List.getElem?_cons_zero, List.getElem?_cons_succ, List.set_cons_zero, List.set_cons_succ, asgT, asgTs, cmpV, truV, binV, bltV, tyN, tyLe, subV, Option.map_some, Option.map_none, List.any_cons, List.any_nil, if_true, if_false, ite_true, ite_false, String.reduceBEq, Nat.reduceAdd, Bool.or_false, Bool.false_or, Bool.or_true, Bool.true_or, Bool.and_true, Bool.true_and, Bool.and_false, Bool.false_and, Bool.not_true, Bool.not_false, beq_self_eq_true, decide_true, decide_false, reduceCtorEq, Bool.false_eq_true, keyOf, dctKeys, List.length_cons, List.length_nil, List.zip_cons_cons, List.zip_nil_left, List.zip_nil_right, List.foldl_cons, List.foldl_nil, methV, setV, isL, permL_cons, permL_nil, List.map_cons, List.map_nil, valP_cons, valP_nil, key_str, key_int, ofString_eq, String.reduceEq, putP, sizeLine_eq, Nat.reduceLT, Nat.reduceLeDiff, sto_self, mulOk, powOk, divOk, Int.reducePow, Nat.reducePow, Int.reduceNeg, Int.reduceLT, Int.reduceLE, natAbs64, natAbs30, Int.reduceToNat, Int.reduceEq, Int.reduceAdd, Int.reduceSub, Int.reduceMul, ne_eq, not_false_eq_true, Int.reduceNe, Ev.alloc, Ev.eq_ii, Ev.eq_ss, Ev.eq_bb, Ev.eq_nn, Ev.eq_ni, Ev.eq_in, Ev.eq_ns, Ev.eq_sn, Ev.eq_nb, Ev.eq_bn, Ev.eq_is, Ev.eq_si, and_self, true_and, and_true, fmod_lt64, fmod_gt64, atI_0, atI_1, atI_2, atI_3, atI_4, atI_5, atI_6, atI_7, atI_8, atI_9, seqOf, lstOf, slcV, revV, srcOf, optI, List.nil_append, List.cons_append, sto_new, intsP, sortI, insI, compL, compG, wipeP, boolsP, List.all_cons, List.all_nil, id_eq, keep_nil, maxI, minI, intsP, cutf_1, cutf_2, cutf_3, cutf_4, cutt_1, cutt_2, cutt_3, cutt_4, List.drop_succ_cons, List.drop_zero, List.take_succ_cons, List.take_zero, Int.cast_ofNat_Int, false_and, and_false, hs]
  obtain ⟨a, M5, e, a1, a2, d5, k5⟩ := draw_ok (n + 1) ((d4.app [.lst [.int (1 + x), .int (1 + y)]]).app [.lst [.int c, .int dd]]) (many := m) (by omega) (by omega)
  simp only [↓evE.eq_1, ↓evE.eq_2, ↓evE.eq_3, ↓evE.eq_4, ↓evE.eq_5, ↓evE.eq_6, ↓evE.eq_7, ↓evE.eq_8, ↓evE.eq_9, ↓evE.eq_10, ↓evE.eq_11, ↓evE.eq_12, ↓evE.eq_13, ↓evE.eq_14, ↓evE.eq_15, ↓evE.eq_16, ↓evE.eq_17, ↓evE.eq_18, ↓evE.eq_19, ↓evE.eq_20, ↓evE.eq_21, ↓evE.eq_22, ↓evE.eq_23, ↓evE.eq_24, ↓evE.eq_25, ↓evE.eq_26, ↓evE.eq_27, ↓evE.eq_28, ↓evE.eq_29, ↓evE.eq_30, ↓evE.eq_31, ↓evE.eq_32, ↓evS.eq_1, ↓evS_seq, ↓evS.eq_3, ↓evS.eq_4, ↓evS.eq_5, ↓evS.eq_6, ↓evS.eq_7, ↓evS.eq_8, ↓evS_ite, ↓iteS, ↓evS.eq_11, ↓evS.eq_12, ↓evS.eq_13, ↓evS.eq_14, ↓evS.eq_15, ↓evS.eq_16, ↓evS.eq_17, ↓evS_for, ↓evA.eq_1, ↓evA.eq_2, ↓evT.eq_1, ↓evT.eq_2, ↓evO.eq_1, ↓evO.eq_2, ↓evI.eq_1, ↓evI.eq_2, ↓evI.eq_3, ↓m_bind, ↓m_then, ↓m_opt, SRes.bind_nx, SRes.bind_rt, SRes.bind_bk, SRes.bind_ct, SRes.bind_ex, SRes.bind_bad, at_call, at_glo, at_fuel, SRes.back, List.getElem?_cons_zero, List.getElem?_cons_succ, List.set_cons_zero, List.set_cons_succ, asgT, asgTs, cmpV, truV, binV, bltV, tyN, tyLe, subV, Option.map_some, Option.map_none, List.any_cons, List.any_nil, if_true, if_false, ite_true, ite_false, String.reduceBEq, Nat.reduceAdd, Bool.or_false, Bool.false_or, Bool.or_true, Bool.true_or, Bool.and_true, Bool.true_and, Bool.and_false, Bool.false_and, Bool.not_true, Bool.not_false, beq_self_eq_true, decide_true, decide_false, reduceCtorEq, Bool.false_eq_true, keyOf, dctKeys, List.length_cons, List.length_nil, List.zip_cons_cons, List.zip_nil_left, List.zip_nil_right, List.foldl_cons, List.foldl_nil, methV, setV, isL, permL_cons, permL_nil, List.map_cons, List.map_nil, valP_cons, valP_nil, key_str, key_int, ofString_eq, String.reduceEq, putP, sizeLine_eq, Nat.reduceLT, Nat.reduceLeDiff, sto_self, mulOk, powOk, divOk, Int.reducePow, Nat.reducePow, Int.reduceNeg, Int.reduceLT, Int.reduceLE, natAbs64, natAbs30, Int.reduceToNat, Int.reduceEq, Int.reduceAdd, Int.reduceSub, Int.reduceMul, ne_eq, not_false_eq_true, Int.reduceNe, Ev.alloc, Ev.eq_ii, Ev.eq_ss, Ev.eq_bb, Ev.eq_nn, Ev.eq_ni, Ev.eq_in, Ev.eq_ns, Ev.eq_sn, Ev.eq_nb, Ev.eq_bn, Ev.eq_is, Ev.eq_si, and_self, true_and, and_true, fmod_lt64, fmod_gt64, atI_0, atI_1, atI_2, atI_3, atI_4, atI_5, atI_6, atI_7, atI_8, atI_9, seqOf, lstOf, slcV, revV, srcOf, optI, List.nil_append, List.cons_append, sto_new, intsP, sortI, insI, compL, compG, wipeP, boolsP, List.all_cons, List.all_nil, id_eq, keep_nil, maxI, minI, intsP, cutf_1, cutf_2, cutf_3, cutf_4, cutt_1, cutt_2, cutt_3, cutt_4, List.drop_succ_cons, List.drop_zero, List.take_succ_cons, List.take_zero, Int.cast_ofNat_Int, false_and, and_false, e]
  obtain ⟨b, M6, e, b1, b2, d6, k6⟩ := draw_ok (n + 1) d5 (many := m) (by omega) (by omega)
  simp only [↓evE.eq_1, ↓evE.eq_2, ↓evE.eq_3, ↓evE.eq_4, ↓evE.eq_5, ↓evE.eq_6, ↓evE.eq_7, ↓evE.eq_8, ↓evE.eq_9, ↓evE.eq_10, ↓evE.eq_11, ↓evE.eq_12, ↓evE.eq_13, ↓evE.eq_14, ↓evE.eq_15, ↓evE.eq_16, ↓evE.eq_17, ↓evE.eq_18, ↓evE.eq_19, ↓evE.eq_20, ↓evE.eq_21, ↓evE.eq_22, ↓evE.eq_23, ↓evE.eq_24, ↓evE.eq_25, ↓evE.eq_26, ↓evE.eq_27, ↓evE.eq_28, ↓evE.eq_29, ↓evE.eq_30, ↓evE.eq_31, ↓evE.eq_32, ↓evS.eq_1, ↓evS_seq, ↓evS.eq_3, ↓evS.eq_4, ↓evS.eq_5, ↓evS.eq_6, ↓evS.eq_7, ↓evS.eq_8, ↓evS_ite, ↓iteS, ↓evS.eq_11, ↓evS.eq_12, ↓evS.eq_13, ↓evS.eq_14, ↓evS.eq_15, ↓evS.eq_16, ↓evS.eq_17, ↓evS_for, ↓evA.eq_1, ↓evA.eq_2, ↓evT.eq_1, ↓evT.eq_2, ↓evO.eq_1, ↓evO.eq_2, ↓evI.eq_1, ↓evI.eq_2, ↓evI.eq_3, ↓m_bind, ↓m_then, ↓m_opt, SRes.bind_nx, SRes.bind_rt, SRes.bind_bk, SRes.bind_ct, SRes.bind_ex, SRes.bind_bad, at_call, at_glo, at_fuel, SRes.back, List.getElem?_cons_zero, List.getElem?_cons_succ, List.set_cons_zero, List.set_cons_succ, asgT, asgTs, cmpV, truV, binV, bltV, tyN, tyLe, subV, Option.map_some, Option.map_none, List.any_cons, List.any_nil, if_true, if_false, ite_true, ite_false, String.reduceBEq, Nat.reduceAdd, Bool.or_false, Bool.false_or, Bool.or_true, Bool.true_or, Bool.and_true, Bool.true_and, Bool.and_false, Bool.false_and, Bool.not_true, Bool.not_false, beq_self_eq_true, decide_true, decide_false, reduceCtorEq, Bool.false_eq_true, keyOf, dctKeys, List.length_cons, List.length_nil, List.zip_cons_cons, List.zip_nil_left, List.zip_nil_right, List.foldl_cons, List.foldl_nil, methV, setV, isL, permL_cons, permL_nil, List.map_cons, List.map_nil, valP_cons, valP_nil, key_str, key_int, ofString_eq, String.reduceEq, putP, sizeLine_eq, Nat.reduceLT, Nat.reduceLeDiff, sto_self, mulOk, powOk, divOk, Int.reducePow, Nat.reducePow, Int.reduceNeg, Int.reduceLT, Int.reduceLE, natAbs64, natAbs30, Int.reduceToNat, Int.reduceEq, Int.reduceAdd, Int.reduceSub, Int.reduceMul, ne_eq, not_false_eq_true, Int.reduceNe, Ev.alloc, Ev.eq_ii, Ev.eq_ss, Ev.eq_bb, Ev.eq_nn, Ev.eq_ni, Ev.eq_in, Ev.eq_ns, Ev.eq_sn, Ev.eq_nb, Ev.eq_bn, Ev.eq_is, Ev.eq_si, and_self, true_and, and_true, fmod_lt64, fmod_gt64, atI_0, atI_1, atI_2, atI_3, atI_4, atI_5, atI_6, atI_7, atI_8, atI_9, seqOf, lstOf, slcV, revV, srcOf, optI, List.nil_append, List.cons_append, sto_new, intsP, sortI, insI, compL, compG, wipeP, boolsP, List.all_cons, List.all_nil, id_eq, keep_nil, maxI, minI, intsP, cutf_1, cutf_2, cutf_3, cutf_4, cutt_1, cutt_2, cutt_3, cutt_4, List.drop_succ_cons, List.drop_zero, List.take_succ_cons, List.take_zero, Int.cast_ofNat_Int, false_and, and_false, e]
  have lt4 := d4.lt
  have g6 : M6[List.length (M4 ++ [MO.lst [PV.int (1 + x), PV.int (1 + y)]])]? = some (.lst [.int c, .int dd]) := by
    refine (k5.trans k6).get (sto_new _ _) ?_
    simp; omega
  simp only [↓evE.eq_1, ↓evE.eq_2, ↓evE.eq_3, ↓evE.eq_4, ↓evE.eq_5, ↓evE.eq_6, ↓evE.eq_7, ↓evE.eq_8, ↓evE.eq_9, ↓evE.eq_10, ↓evE.eq_11, ↓evE.eq_12, ↓evE.eq_13, ↓evE.eq_14, ↓evE.eq_15, ↓evE.eq_16, ↓evE.eq_17, ↓evE.eq_18, ↓evE.eq_19, ↓evE.eq_20, ↓evE.eq_21, ↓evE.eq_22, ↓evE.eq_23, ↓evE.eq_24, ↓evE.eq_25, ↓evE.eq_26, ↓evE.eq_27, ↓evE.eq_28, ↓evE.eq_29, ↓evE.eq_30, ↓evE.eq_31, ↓evE.eq_32, ↓evS.eq_1, ↓evS_seq, ↓evS.eq_3, ↓evS.eq_4, ↓evS.eq_5, ↓evS.eq_6, ↓evS.eq_7, ↓evS.eq_8, ↓evS_ite, ↓iteS, ↓evS.eq_11, ↓evS.eq_12, ↓evS.eq_13, ↓evS.eq_14, ↓evS.eq_15, ↓evS.eq_16, ↓evS.eq_17, ↓evS_for, ↓evA.eq_1, ↓evA.eq_2, ↓evT.eq_1, ↓evT.eq_2, ↓evO.eq_1, ↓evO.eq_2, ↓evI.eq_1, ↓evI.eq_2, ↓evI.eq_3, ↓m_bind, ↓m_then, ↓m_opt, SRes.bind_nx, SRes.bind_rt, SRes.bind_bk, SRes.bind_ct, SRes.bind_ex, SRes.bind_bad, at_call, at_glo, at_fuel, SRes.back, List.getElem?_cons_zero, List.getElem?_cons_succ, List.set_cons_zero, List.set_cons_succ, asgT, asgTs, cmpV, truV, binV, bltV, tyN, tyLe, subV, Option.map_some, Option.map_none, List.any_cons, List.any_nil, if_true, if_false, ite_true, ite_false, String.reduceBEq, Nat.reduceAdd, Bool.or_false, Bool.false_or, Bool.or_true, Bool.true_or, Bool.and_true, Bool.true_and, Bool.and_false, Bool.false_and, Bool.not_true, Bool.not_false, beq_self_eq_true, decide_true, decide_false, reduceCtorEq, Bool.false_eq_true, keyOf, dctKeys, List.length_cons, List.length_nil, List.zip_cons_cons, List.zip_nil_left, List.zip_nil_right, List.foldl_cons, List.foldl_nil, methV, setV, isL, permL_cons, permL_nil, List.map_cons, List.map_nil, valP_cons, valP_nil, key_str, key_int, ofString_eq, String.reduceEq, putP, sizeLine_eq, Nat.reduceLT, Nat.reduceLeDiff, sto_self, mulOk, powOk, divOk, Int.reducePow, Nat.reducePow, Int.reduceNeg, Int.reduceLT, Int.reduceLE, natAbs64, natAbs30, Int.reduceToNat, Int.reduceEq, Int.reduceAdd, Int.reduceSub, Int.reduceMul, ne_eq, not_false_eq_true, Int.reduceNe, Ev.alloc, Ev.eq_ii, Ev.eq_ss, Ev.eq_bb, Ev.eq_nn, Ev.eq_ni, Ev.eq_in, Ev.eq_ns, Ev.eq_sn, Ev.eq_nb, Ev.eq_bn, Ev.eq_is, Ev.eq_si, and_self, true_and, and_true, fmod_lt64, fmod_gt64, atI_0, atI_1, atI_2, atI_3, atI_4, atI_5, atI_6, atI_7, atI_8, atI_9, seqOf, lstOf, slcV, revV, srcOf, optI, List.nil_append, List.cons_append, sto_new, intsP, sortI, insI, compL, compG, wipeP, boolsP, List.all_cons, List.all_nil, id_eq, keep_nil, maxI, minI, intsP, cutf_1, cutf_2, cutf_3, cutf_4, cutt_1, cutt_2, cutt_3, cutt_4, List.drop_succ_cons, List.drop_zero, List.take_succ_cons, List.take_zero, Int.cast_ofNat_Int, false_and, and_false, g6]
  refine ⟨_, _, _, _, M6, rfl, ⟨by omega, by omega, by omega, by omega, by omega, by omega, by omega⟩, d6, ?_⟩
  exact k1.trans (k2.trans (k3.trans (k4.trans (Keep.app.trans (Keep.app.trans (k5.trans k6))))))
theorem is_between_ok (n : Nat) (M : Sto) (a b c : Int) : callN T (n + 2) "is_between" [.int a, .int b, .int c] M = .ok (.bl (decide (b ≤ a ∧ a ≤ c))) M := by
  rw [e_is_between]
  unfold c_is_between
  simp only [↓evE.eq_1, ↓evE.eq_2, ↓evE.eq_3, ↓evE.eq_4, ↓evE.eq_5, ↓evE.eq_6, ↓evE.eq_7, ↓evE.eq_8, ↓evE.eq_9, ↓evE.eq_10, ↓evE.eq_11, ↓evE.eq_12, ↓evE.eq_13, ↓evE.eq_14, ↓evE.eq_15, ↓evE.eq_16, ↓evE.eq_17, ↓evE.eq_18, ↓evE.eq_19, ↓evE.eq_20, ↓evE.eq_21, ↓evE.eq_22, ↓evE.eq_23, ↓evE.eq_24, ↓evE.eq_25, ↓evE.eq_26, ↓evE.eq_27, ↓evE.eq_28, ↓evE.eq_29, ↓evE.eq_30, ↓evE.eq_31, ↓evE.eq_32, ↓evS.eq_1, ↓evS_seq, ↓evS.eq_3, ↓evS.eq_4, ↓evS.eq_5, ↓evS.eq_6, ↓evS.eq_7, ↓evS.eq_8, ↓evS_ite, ↓iteS, ↓evS.eq_11, ↓evS.eq_12, ↓evS.eq_13, ↓evS.eq_14, ↓evS.eq_15, ↓evS.eq_16, ↓evS.eq_17, ↓evS_for, ↓evA.eq_1, ↓evA.eq_2, ↓evT.eq_1, ↓evT.eq_2, ↓evO.eq_1, ↓evO.eq_2, ↓evI.eq_1, ↓evI.eq_2, ↓evI.eq_3, ↓m_bind, ↓m_then, ↓m_opt, SRes.bind_nx, SRes.bind_rt, SRes.bind_bk, SRes.bind_ct, SRes.bind_ex, SRes.bind_bad, at_call, at_glo, at_fuel, SRes.back, List.getElem?_cons_zero, List.getElem?_cons_succ, List.set_cons_zero, List.set_cons_succ, asgT, asgTs, cmpV, truV, binV, bltV, tyN, tyLe, subV, Option.map_some, Option.map_none, List.any_cons, List.any_nil, if_true, if_false, ite_true, ite_false, String.reduceBEq, Nat.reduceAdd, Bool.or_false, Bool.false_or, Bool.or_true, Bool.true_or, Bool.and_true, Bool.true_and, Bool.and_false, Bool.false_and, Bool.not_true, Bool.not_false, beq_self_eq_true, decide_true, decide_false, reduceCtorEq, Bool.false_eq_true, keyOf, dctKeys, List.length_cons, List.length_nil, List.zip_cons_cons, List.zip_nil_left, List.zip_nil_right, List.foldl_cons, List.foldl_nil, methV, setV, isL, permL_cons, permL_nil, List.map_cons, List.map_nil, valP_cons, valP_nil, key_str, key_int, ofString_eq, String.reduceEq, putP, sizeLine_eq, Nat.reduceLT, Nat.reduceLeDiff, sto_self, mulOk, powOk, divOk, Int.reducePow, Nat.reducePow, Int.reduceNeg, Int.reduceLT, Int.reduceLE, natAbs64, natAbs30, Int.reduceToNat, Int.reduceEq, Int.reduceAdd, Int.reduceSub, Int.reduceMul, ne_eq, not_false_eq_true, Int.reduceNe, Ev.alloc, Ev.eq_ii, Ev.eq_ss, Ev.eq_bb, Ev.eq_nn, Ev.eq_ni, Ev.eq_in, Ev.eq_ns, Ev.eq_sn, Ev.eq_nb, Ev.eq_bn, Ev.eq_is, Ev.eq_si, and_self, true_and, and_true, fmod_lt64, fmod_gt64, atI_0, atI_1, atI_2, atI_3, atI_4, atI_5, atI_6, atI_7, atI_8, atI_9, seqOf, lstOf, slcV, revV, srcOf, optI, List.nil_append, List.cons_append, sto_new, intsP, sortI, insI, compL, compG, wipeP, boolsP, List.all_cons, List.all_nil, id_eq, keep_nil, maxI, minI, intsP, cutf_1, cutf_2, cutf_3, cutf_4, cutt_1, cutt_2, cutt_3, cutt_4, List.drop_succ_cons, List.drop_zero, List.take_succ_cons, List.take_zero, Int.cast_ofNat_Int, false_and, and_false]
  rw [e_is_integer]
  unfold c_is_integer
  simp only [↓evE.eq_1, ↓evE.eq_2, ↓evE.eq_3, ↓evE.eq_4, ↓evE.eq_5, ↓evE.eq_6, ↓evE.eq_7, ↓evE.eq_8, ↓evE.eq_9, ↓evE.eq_10, ↓evE.eq_11, ↓evE.eq_12, ↓evE.eq_13, ↓evE.eq_14, ↓evE.eq_15, ↓evE.eq_16, ↓evE.eq_17, ↓evE.eq_18, ↓evE.eq_19, ↓evE.eq_20, ↓evE.eq_21, ↓evE.eq_22, ↓evE.eq_23, ↓evE.eq_24, ↓evE.eq_25, ↓evE.eq_26, ↓evE.eq_27, ↓evE.eq_28, ↓evE.eq_29, ↓evE.eq_30, ↓evE.eq_31, ↓evE.eq_32, ↓evS.eq_1, ↓evS_seq, ↓evS.eq_3, ↓evS.eq_4, ↓evS.eq_5, ↓evS.eq_6, ↓evS.eq_7, ↓evS.eq_8, ↓evS_ite, ↓iteS, ↓evS.eq_11, ↓evS.eq_12, ↓evS.eq_13, ↓evS.eq_14, ↓evS.eq_15, ↓evS.eq_16, ↓evS.eq_17, ↓evS_for, ↓evA.eq_1, ↓evA.eq_2, ↓evT.eq_1, ↓evT.eq_2, ↓evO.eq_1, ↓evO.eq_2, ↓evI.eq_1, ↓evI.eq_2, ↓evI.eq_3, ↓m_bind, ↓m_then, ↓m_opt, SRes.bind_nx, SRes.bind_rt, SRes.bind_bk, SRes.bind_ct, SRes.bind_ex, SRes.bind_bad, at_call, at_glo, at_fuel, SRes.back, List.getElem?_cons_zero, List.getElem?_cons_succ, List.set_cons_zero, List.set_cons_succ, asgT, asgTs, cmpV, truV, binV, bltV, tyN, tyLe, subV, Option.map_some, Option.map_none, List.any_cons, List.any_nil, if_true, if_false, ite_true, ite_false, String.reduceBEq, Nat.reduceAdd, Bool.or_false, Bool.false_or, Bool.or_true, Bool.true_or, Bool.and_true, Bool.true_and, Bool.and_false, Bool.false_and, Bool.not_true, Bool.not_false, beq_self_eq_true, decide_true, decide_false, reduceCtorEq, Bool.false_eq_true, keyOf, dctKeys, List.length_cons, List.length_nil, List.zip_cons_cons, List.zip_nil_left, List.zip_nil_right, List.foldl_cons, List.foldl_nil, methV, setV, isL, permL_cons, permL_nil, List.map_cons, List.map_nil, valP_cons, valP_nil, key_str, key_int, ofString_eq, String.reduceEq, putP, sizeLine_eq, Nat.reduceLT, Nat.reduceLeDiff, sto_self, mulOk, powOk, divOk, Int.reducePow, Nat.reducePow, Int.reduceNeg, Int.reduceLT, Int.reduceLE, natAbs64, natAbs30, Int.reduceToNat, Int.reduceEq, Int.reduceAdd, Int.reduceSub, Int.reduceMul, ne_eq, not_false_eq_true, Int.reduceNe, Ev.alloc, Ev.eq_ii, Ev.eq_ss, Ev.eq_bb, Ev.eq_nn, Ev.eq_ni, Ev.eq_in, Ev.eq_ns, Ev.eq_sn, Ev.eq_nb, Ev.eq_bn, Ev.eq_is, Ev.eq_si, and_self, true_and, and_true, fmod_lt64, fmod_gt64, atI_0, atI_1, atI_2, atI_3, atI_4, atI_5, atI_6, atI_7, atI_8, atI_9, seqOf, lstOf, slcV, revV, srcOf, optI, List.nil_append, List.cons_append, sto_new, intsP, sortI, insI, compL, compG, wipeP, boolsP, List.all_cons, List.all_nil, id_eq, keep_nil, maxI, minI, intsP, cutf_1, cutf_2, cutf_3, cutf_4, cutt_1, cutt_2, cutt_3, cutt_4, List.drop_succ_cons, List.drop_zero, List.take_succ_cons, List.take_zero, Int.cast_ofNat_Int, false_and, and_false]
  by_cases h1 : b ≤ a <;> simp only [↓evE.eq_1, ↓evE.eq_2, ↓evE.eq_3, ↓evE.eq_4, ↓evE.eq_5, ↓evE.eq_6, ↓evE.eq_7, ↓evE.eq_8, ↓evE.eq_9, ↓evE.eq_10, ↓evE.eq_11, ↓evE.eq_12, ↓evE.eq_13, ↓evE.eq_14, ↓evE.eq_15, ↓evE.eq_16, ↓evE.eq_17, ↓evE.eq_18, ↓evE.eq_19, ↓evE.eq_20, ↓evE.eq_21, ↓evE.eq_22, ↓evE.eq_23, ↓evE.eq_24, ↓evE.eq_25, ↓evE.eq_26, ↓evE.eq_27, ↓evE.eq_28, ↓evE.eq_29, ↓evE.eq_30, ↓evE.eq_31, ↓evE.eq_32, ↓evS.eq_1, ↓evS_seq, ↓evS.eq_3, ↓evS.eq_4, ↓evS.eq_5, ↓evS.eq_6, ↓evS.eq_7, ↓evS.eq_8, ↓evS_ite, ↓iteS, ↓evS.eq_11, ↓evS.eq_12, ↓evS.eq_13, ↓evS.eq_14, ↓evS.eq_15, ↓evS.eq_16, ↓evS.eq_17, ↓evS_for, ↓evA.eq_1, ↓evA.eq_2, ↓evT.eq_1, ↓evT.eq_2, ↓evO.eq_1, ↓evO.eq_2, ↓evI.eq_1, ↓evI.eq_2, ↓evI.eq_3, ↓m_bind, ↓m_then, ↓m_opt, SRes.bind_nx, SRes.bind_rt, SRes.bind_bk, SRes.bind_ct, SRes.bind_ex, SRes.bind_bad, at_call, at_glo, at_fuel, SRes.back, List.getElem?_cons_zero, List.getElem?_cons_succ, List.set_cons_zero, List.set_cons_succ, asgT, asgTs, cmpV, truV, binV, bltV, tyN, tyLe, subV, Option.map_some, Option.map_none, List.any_cons, List.any_nil, if_true, if_false, ite_true, ite_false, String.reduceBEq, Nat.reduceAdd, Bool.or_false, Bool.false_or, Bool.or_true, Bool.true_or, Bool.and_true, Bool.true_and, Bool.and_false, Bool.false_and, Bool.not_true, Bool.not_false, beq_self_eq_true, decide_true, decide_false, reduceCtorEq, Bool.false_eq_true, keyOf, dctKeys, List.length_cons, List.length_nil, List.zip_cons_cons, List.zip_nil_left, List.zip_nil_right, List.foldl_cons, List.foldl_nil, methV, setV, isL, permL_cons, permL_nil, List.map_cons, List.map_nil, valP_cons, valP_nil, key_str, key_int, ofString_eq, String.reduceEq, putP, sizeLine_eq, Nat.reduceLT, Nat.reduceLeDiff, sto_self, mulOk, powOk, divOk, Int.reducePow, Nat.reducePow, Int.reduceNeg, Int.reduceLT, Int.reduceLE, natAbs64, natAbs30, Int.reduceToNat, Int.reduceEq, Int.reduceAdd, Int.reduceSub, Int.reduceMul, ne_eq, not_false_eq_true, Int.reduceNe, Ev.alloc, Ev.eq_ii, Ev.eq_ss, Ev.eq_bb, Ev.eq_nn, Ev.eq_ni, Ev.eq_in, Ev.eq_ns, Ev.eq_sn, Ev.eq_nb, Ev.eq_bn, Ev.eq_is, Ev.eq_si, and_self, true_and, and_true, fmod_lt64, fmod_gt64, atI_0, atI_1, atI_2, atI_3, atI_4, atI_5, atI_6, atI_7, atI_8, atI_9, seqOf, lstOf, slcV, revV, srcOf, optI, List.nil_append, List.cons_append, sto_new, intsP, sortI, insI, compL, compG, wipeP, boolsP, List.all_cons, List.all_nil, id_eq, keep_nil, maxI, minI, intsP, cutf_1, cutf_2, cutf_3, cutf_4, cutt_1, cutt_2, cutt_3, cutt_4, List.drop_succ_cons, List.drop_zero, List.take_succ_cons, List.take_zero, Int.cast_ofNat_Int, false_and, and_false, h1]
theorem is_count_ok (n : Nat) (M : Sto) (a : Int) : callN T (n + 2) "is_count" [.int a] M = .ok (.bl (decide (0 ≤ a))) M := by
  rw [e_is_count]
  unfold c_is_count
  simp only [↓evE.eq_1, ↓evE.eq_2, ↓evE.eq_3, ↓evE.eq_4, ↓evE.eq_5, ↓evE.eq_6, ↓evE.eq_7, ↓evE.eq_8, ↓evE.eq_9, ↓evE.eq_10, ↓evE.eq_11, ↓evE.eq_12, ↓evE.eq_13, ↓evE.eq_14, ↓evE.eq_15, ↓evE.eq_16, ↓evE.eq_17, ↓evE.eq_18, ↓evE.eq_19, ↓evE.eq_20, ↓evE.eq_21, ↓evE.eq_22, ↓evE.eq_23, ↓evE.eq_24, ↓evE.eq_25, ↓evE.eq_26, ↓evE.eq_27, ↓evE.eq_28, ↓evE.eq_29, ↓evE.eq_30, ↓evE.eq_31, ↓evE.eq_32, ↓evS.eq_1, ↓evS_seq, ↓evS.eq_3, ↓evS.eq_4, ↓evS.eq_5, ↓evS.eq_6, ↓evS.eq_7, ↓evS.eq_8, ↓evS_ite, ↓iteS, ↓evS.eq_11, ↓evS.eq_12, ↓evS.eq_13, ↓evS.eq_14, ↓evS.eq_15, ↓evS.eq_16, ↓evS.eq_17, ↓evS_for, ↓evA.eq_1, ↓evA.eq_2, ↓evT.eq_1, ↓evT.eq_2, ↓evO.eq_1, ↓evO.eq_2, ↓evI.eq_1, ↓evI.eq_2, ↓evI.eq_3, ↓m_bind, ↓m_then, ↓m_opt, SRes.bind_nx, SRes.bind_rt, SRes.bind_bk, SRes.bind_ct, SRes.bind_ex, SRes.bind_bad, at_call, at_glo, at_fuel, SRes.back, List.getElem?_cons_zero, List.getElem?_cons_succ, List.set_cons_zero, List.set_cons_succ, asgT, asgTs, cmpV, truV, binV, bltV, tyN, tyLe, subV, Option.map_some, Option.map_none, List.any_cons, List.any_nil, if_true, if_false, ite_true, ite_false, String.reduceBEq, Nat.reduceAdd, Bool.or_false, Bool.false_or, Bool.or_true, Bool.true_or, Bool.and_true, Bool.true_and, Bool.and_false, Bool.false_and, Bool.not_true, Bool.not_false, beq_self_eq_true, decide_true, decide_false, reduceCtorEq, Bool.false_eq_true, keyOf, dctKeys, List.length_cons, List.length_nil, List.zip_cons_cons, List.zip_nil_left, List.zip_nil_right, List.foldl_cons, List.foldl_nil, methV, setV, isL, permL_cons, permL_nil, List.map_cons, List.map_nil, valP_cons, valP_nil, key_str, key_int, ofString_eq, String.reduceEq, putP, sizeLine_eq, Nat.reduceLT, Nat.reduceLeDiff, sto_self, mulOk, powOk, divOk, Int.reducePow, Nat.reducePow, Int.reduceNeg, Int.reduceLT, Int.reduceLE, natAbs64, natAbs30, Int.reduceToNat, Int.reduceEq, Int.reduceAdd, Int.reduceSub, Int.reduceMul, ne_eq, not_false_eq_true, Int.reduceNe, Ev.alloc, Ev.eq_ii, Ev.eq_ss, Ev.eq_bb, Ev.eq_nn, Ev.eq_ni, Ev.eq_in, Ev.eq_ns, Ev.eq_sn, Ev.eq_nb, Ev.eq_bn, Ev.eq_is, Ev.eq_si, and_self, true_and, and_true, fmod_lt64, fmod_gt64, atI_0, atI_1, atI_2, atI_3, atI_4, atI_5, atI_6, atI_7, atI_8, atI_9, seqOf, lstOf, slcV, revV, srcOf, optI, List.nil_append, List.cons_append, sto_new, intsP, sortI, insI, compL, compG, wipeP, boolsP, List.all_cons, List.all_nil, id_eq, keep_nil, maxI, minI, intsP, cutf_1, cutf_2, cutf_3, cutf_4, cutt_1, cutt_2, cutt_3, cutt_4, List.drop_succ_cons, List.drop_zero, List.take_succ_cons, List.take_zero, Int.cast_ofNat_Int, false_and, and_false]
  rw [e_is_integer]
  unfold c_is_integer
  simp only [↓evE.eq_1, ↓evE.eq_2, ↓evE.eq_3, ↓evE.eq_4, ↓evE.eq_5, ↓evE.eq_6, ↓evE.eq_7, ↓evE.eq_8, ↓evE.eq_9, ↓evE.eq_10, ↓evE.eq_11, ↓evE.eq_12, ↓evE.eq_13, ↓evE.eq_14, ↓evE.eq_15, ↓evE.eq_16, ↓evE.eq_17, ↓evE.eq_18, ↓evE.eq_19, ↓evE.eq_20, ↓evE.eq_21, ↓evE.eq_22, ↓evE.eq_23, ↓evE.eq_24, ↓evE.eq_25, ↓evE.eq_26, ↓evE.eq_27, ↓evE.eq_28, ↓evE.eq_29, ↓evE.eq_30, ↓evE.eq_31, ↓evE.eq_32, ↓evS.eq_1, ↓evS_seq, ↓evS.eq_3, ↓evS.eq_4, ↓evS.eq_5, ↓evS.eq_6, ↓evS.eq_7, ↓evS.eq_8, ↓evS_ite, ↓iteS, ↓evS.eq_11, ↓evS.eq_12, ↓evS.eq_13, ↓evS.eq_14, ↓evS.eq_15, ↓evS.eq_16, ↓evS.eq_17, ↓evS_for, ↓evA.eq_1, ↓evA.eq_2, ↓evT.eq_1, ↓evT.eq_2, ↓evO.eq_1, ↓evO.eq_2, ↓evI.eq_1, ↓evI.eq_2, ↓evI.eq_3, ↓m_bind, ↓m_then, ↓m_opt, SRes.bind_nx, SRes.bind_rt, SRes.bind_bk, SRes.bind_ct, SRes.bind_ex, SRes.bind_bad, at_call, at_glo, at_fuel, SRes.back, List.getElem?_cons_zero, List.getElem?_cons_succ, List.set_cons_zero, List.set_cons_succ, asgT, asgTs, cmpV, truV, binV, bltV, tyN, tyLe, subV, Option.map_some, Option.map_none, List.any_cons, List.any_nil, if_true, if_false, ite_true, ite_false, String.reduceBEq, Nat.reduceAdd, Bool.or_false, Bool.false_or, Bool.or_true, Bool.true_or, Bool.and_true, Bool.true_and, Bool.and_false, Bool.false_and, Bool.not_true, Bool.not_false, beq_self_eq_true, decide_true, decide_false, reduceCtorEq, Bool.false_eq_true, keyOf, dctKeys, List.length_cons, List.length_nil, List.zip_cons_cons, List.zip_nil_left, List.zip_nil_right, List.foldl_cons, List.foldl_nil, methV, setV, isL, permL_cons, permL_nil, List.map_cons, List.map_nil, valP_cons, valP_nil, key_str, key_int, ofString_eq, String.reduceEq, putP, sizeLine_eq, Nat.reduceLT, Nat.reduceLeDiff, sto_self, mulOk, powOk, divOk, Int.reducePow, Nat.reducePow, Int.reduceNeg, Int.reduceLT, Int.reduceLE, natAbs64, natAbs30, Int.reduceToNat, Int.reduceEq, Int.reduceAdd, Int.reduceSub, Int.reduceMul, ne_eq, not_false_eq_true, Int.reduceNe, Ev.alloc, Ev.eq_ii, Ev.eq_ss, Ev.eq_bb, Ev.eq_nn, Ev.eq_ni, Ev.eq_in, Ev.eq_ns, Ev.eq_sn, Ev.eq_nb, Ev.eq_bn, Ev.eq_is, Ev.eq_si, and_self, true_and, and_true, fmod_lt64, fmod_gt64, atI_0, atI_1, atI_2, atI_3, atI_4, atI_5, atI_6, atI_7, atI_8, atI_9, seqOf, lstOf, slcV, revV, srcOf, optI, List.nil_append, List.cons_append, sto_new, intsP, sortI, insI, compL, compG, wipeP, boolsP, List.all_cons, List.all_nil, id_eq, keep_nil, maxI, minI, intsP, cutf_1, cutf_2, cutf_3, cutf_4, cutt_1, cutt_2, cutt_3, cutt_4, List.drop_succ_cons, List.drop_zero, List.take_succ_cons, List.take_zero, Int.cast_ofNat_Int, false_and, and_false]
theorem is_row_ok (n : Nat) (M : Sto) (xs : List PV) (k : Int) : callN T (n + 1) "is_row" [.tup xs, .int k] M = .ok (.bl (decide ((xs.length : Int) = k))) M := by
  rw [e_is_row]
  unfold c_is_row
  simp only [↓evE.eq_1, ↓evE.eq_2, ↓evE.eq_3, ↓evE.eq_4, ↓evE.eq_5, ↓evE.eq_6, ↓evE.eq_7, ↓evE.eq_8, ↓evE.eq_9, ↓evE.eq_10, ↓evE.eq_11, ↓evE.eq_12, ↓evE.eq_13, ↓evE.eq_14, ↓evE.eq_15, ↓evE.eq_16, ↓evE.eq_17, ↓evE.eq_18, ↓evE.eq_19, ↓evE.eq_20, ↓evE.eq_21, ↓evE.eq_22, ↓evE.eq_23, ↓evE.eq_24, ↓evE.eq_25, ↓evE.eq_26, ↓evE.eq_27, ↓evE.eq_28, ↓evE.eq_29, ↓evE.eq_30, ↓evE.eq_31, ↓evE.eq_32, ↓evS.eq_1, ↓evS_seq, ↓evS.eq_3, ↓evS.eq_4, ↓evS.eq_5, ↓evS.eq_6, ↓evS.eq_7, ↓evS.eq_8, ↓evS_ite, ↓iteS, ↓evS.eq_11, ↓evS.eq_12, ↓evS.eq_13, ↓evS.eq_14, ↓evS.eq_15, ↓evS.eq_16, ↓evS.eq_17, ↓evS_for, ↓evA.eq_1, ↓evA.eq_2, ↓evT.eq_1, ↓evT.eq_2, ↓evO.eq_1, ↓evO.eq_2, ↓evI.eq_1, ↓evI.eq_2, ↓evI.eq_3, ↓m_bind, ↓m_then, ↓m_opt, SRes.bind_nx, SRes.bind_rt, SRes.bind_bk, SRes.bind_ct, SRes.bind_ex, SRes.bind_bad, at_call, at_glo, at_fuel, SRes.back, List.getElem?_cons_zero, List.getElem?_cons_succ, List.set_cons_zero, List.set_cons_succ, asgT, asgTs, cmpV, truV, binV, bltV, tyN, tyLe, subV, Option.map_some, Option.map_none, List.any_cons, List.any_nil, if_true, if_false, ite_true, ite_false, String.reduceBEq, Nat.reduceAdd, Bool.or_false, Bool.false_or, Bool.or_true, Bool.true_or, Bool.and_true, Bool.true_and, Bool.and_false, Bool.false_and, Bool.not_true, Bool.not_false, beq_self_eq_true, decide_true, decide_false, reduceCtorEq, Bool.false_eq_true, keyOf, dctKeys, List.length_cons, List.length_nil, List.zip_cons_cons, List.zip_nil_left, List.zip_nil_right, List.foldl_cons, List.foldl_nil, methV, setV, isL, permL_cons, permL_nil, List.map_cons, List.map_nil, valP_cons, valP_nil, key_str, key_int, ofString_eq, String.reduceEq, putP, sizeLine_eq, Nat.reduceLT, Nat.reduceLeDiff, sto_self, mulOk, powOk, divOk, Int.reducePow, Nat.reducePow, Int.reduceNeg, Int.reduceLT, Int.reduceLE, natAbs64, natAbs30, Int.reduceToNat, Int.reduceEq, Int.reduceAdd, Int.reduceSub, Int.reduceMul, ne_eq, not_false_eq_true, Int.reduceNe, Ev.alloc, Ev.eq_ii, Ev.eq_ss, Ev.eq_bb, Ev.eq_nn, Ev.eq_ni, Ev.eq_in, Ev.eq_ns, Ev.eq_sn, Ev.eq_nb, Ev.eq_bn, Ev.eq_is, Ev.eq_si, and_self, true_and, and_true, fmod_lt64, fmod_gt64, atI_0, atI_1, atI_2, atI_3, atI_4, atI_5, atI_6, atI_7, atI_8, atI_9, seqOf, lstOf, slcV, revV, srcOf, optI, List.nil_append, List.cons_append, sto_new, intsP, sortI, insI, compL, compG, wipeP, boolsP, List.all_cons, List.all_nil, id_eq, keep_nil, maxI, minI, intsP, cutf_1, cutf_2, cutf_3, cutf_4, cutt_1, cutt_2, cutt_3, cutt_4, List.drop_succ_cons, List.drop_zero, List.take_succ_cons, List.take_zero, Int.cast_ofNat_Int, false_and, and_false]
theorem is_rule_ok (n : Nat) (M : Sto) {a b c d : Int} (h : Rl a b c d) : ∃ M', callN T (n + 3) "is_rule_value" [rlV a b c d] M = .ok (.bl true) M' ∧ Keep [] M M' := by
  obtain ⟨h1, h2, h3, h4, h5, h6, h7⟩ := h
  have h8 : c ≤ 99 := by omega
  have h9 : 1 ≤ d := by omega
  unfold rlV
  rw [e_is_rule_value]
  unfold c_is_rule_value
  simp only [↓evE.eq_1, ↓evE.eq_2, ↓evE.eq_3, ↓evE.eq_4, ↓evE.eq_5, ↓evE.eq_6, ↓evE.eq_7, ↓evE.eq_8, ↓evE.eq_9, ↓evE.eq_10, ↓evE.eq_11, ↓evE.eq_12, ↓evE.eq_13, ↓evE.eq_14, ↓evE.eq_15, ↓evE.eq_16, ↓evE.eq_17, ↓evE.eq_18, ↓evE.eq_19, ↓evE.eq_20, ↓evE.eq_21, ↓evE.eq_22, ↓evE.eq_23, ↓evE.eq_24, ↓evE.eq_25, ↓evE.eq_26, ↓evE.eq_27, ↓evE.eq_28, ↓evE.eq_29, ↓evE.eq_30, ↓evE.eq_31, ↓evE.eq_32, ↓evS.eq_1, ↓evS_seq, ↓evS.eq_3, ↓evS.eq_4, ↓evS.eq_5, ↓evS.eq_6, ↓evS.eq_7, ↓evS.eq_8, ↓evS_ite, ↓iteS, ↓evS.eq_11, ↓evS.eq_12, ↓evS.eq_13, ↓evS.eq_14, ↓evS.eq_15, ↓evS.eq_16, ↓evS.eq_17, ↓evS_for, ↓evA.eq_1, ↓evA.eq_2, ↓evT.eq_1, ↓evT.eq_2, ↓evO.eq_1, ↓evO.eq_2, ↓evI.eq_1, ↓evI.eq_2, ↓evI.eq_3, ↓m_bind, ↓m_then, ↓m_opt, SRes.bind_nx, SRes.bind_rt, SRes.bind_bk, SRes.bind_ct, SRes.bind_ex, SRes.bind_bad, at_call, at_glo, at_fuel, SRes.back, List.getElem?_cons_zero, List.getElem?_cons_succ, List.set_cons_zero, List.set_cons_succ, asgT, asgTs, cmpV, truV, binV, bltV, tyN, tyLe, subV, Option.map_some, Option.map_none, List.any_cons, List.any_nil, if_true, if_false, ite_true, ite_false, String.reduceBEq, Nat.reduceAdd, Bool.or_false, Bool.false_or, Bool.or_true, Bool.true_or, Bool.and_true, Bool.true_and, Bool.and_false, Bool.false_and, Bool.not_true, Bool.not_false, beq_self_eq_true, decide_true, decide_false, reduceCtorEq, Bool.false_eq_true, keyOf, dctKeys, List.length_cons, List.length_nil, List.zip_cons_cons, List.zip_nil_left, List.zip_nil_right, List.foldl_cons, List.foldl_nil, methV, setV, isL, permL_cons, permL_nil, List.map_cons, List.map_nil, valP_cons, valP_nil, key_str, key_int, ofString_eq, String.reduceEq, putP, sizeLine_eq, Nat.reduceLT, Nat.reduceLeDiff, sto_self, mulOk, powOk, divOk, Int.reducePow, Nat.reducePow, Int.reduceNeg, Int.reduceLT, Int.reduceLE, natAbs64, natAbs30, Int.reduceToNat, Int.reduceEq, Int.reduceAdd, Int.reduceSub, Int.reduceMul, ne_eq, not_false_eq_true, Int.reduceNe, Ev.alloc, Ev.eq_ii, Ev.eq_ss, Ev.eq_bb, Ev.eq_nn, Ev.eq_ni, Ev.eq_in, Ev.eq_ns, Ev.eq_sn, Ev.eq_nb, Ev.eq_bn, Ev.eq_is, Ev.eq_si, and_self, true_and, and_true, fmod_lt64, fmod_gt64, atI_0, atI_1, atI_2, atI_3, atI_4, atI_5, atI_6, atI_7, atI_8, atI_9, seqOf, lstOf, slcV, revV, srcOf, optI, List.nil_append, List.cons_append, sto_new, intsP, sortI, insI, compL, compG, wipeP, boolsP, List.all_cons, List.all_nil, id_eq, keep_nil, maxI, minI, intsP, cutf_1, cutf_2, cutf_3, cutf_4, cutt_1, cutt_2, cutt_3, cutt_4, List.drop_succ_cons, List.drop_zero, List.take_succ_cons, List.take_zero, Int.cast_ofNat_Int, false_and, and_false, is_row_ok, is_between_ok, g_MOST_RULE, GC.pv, h1, h2, h3, h4, h5, h6, h7, h8, h9]
  exact ⟨_, rfl, Keep.app⟩
end K22

set_option Elab.async false
set_option linter.all false
set_option maxRecDepth 100000
set_option maxHeartbeats 4000000
namespace K22
open PySem L2 Ev
theorem need_rule_ok (n : Nat) (M : Sto) {a b c d : Int} (h : Rl a b c d) : ∃ M', callN T (n + 4) "need_rule" [rlV a b c d] M = .ok .non M' ∧ Keep [] M M' := by
  obtain ⟨M', e, k⟩ := is_rule_ok n M h
  rw [e_need_rule]
  unfold c_need_rule
  simp only [↓evE.eq_1, ↓evE.eq_2, ↓evE.eq_3, ↓evE.eq_4, ↓evE.eq_5, ↓evE.eq_6, ↓evE.eq_7, ↓evE.eq_8, ↓evE.eq_9, ↓evE.eq_10, ↓evE.eq_11, ↓evE.eq_12, ↓evE.eq_13, ↓evE.eq_14, ↓evE.eq_15, ↓evE.eq_16, ↓evE.eq_17, ↓evE.eq_18, ↓evE.eq_19, ↓evE.eq_20, ↓evE.eq_21, ↓evE.eq_22, ↓evE.eq_23, ↓evE.eq_24, ↓evE.eq_25, ↓evE.eq_26, ↓evE.eq_27, ↓evE.eq_28, ↓evE.eq_29, ↓evE.eq_30, ↓evE.eq_31, ↓evE.eq_32, ↓evS.eq_1, ↓evS_seq, ↓evS.eq_3, ↓evS.eq_4, ↓evS.eq_5, ↓evS.eq_6, ↓evS.eq_7, ↓evS.eq_8, ↓evS_ite, ↓iteS, ↓evS.eq_11, ↓evS.eq_12, ↓evS.eq_13, ↓evS.eq_14, ↓evS.eq_15, ↓evS.eq_16, ↓evS.eq_17, ↓evS_for, ↓evA.eq_1, ↓evA.eq_2, ↓evT.eq_1, ↓evT.eq_2, ↓evO.eq_1, ↓evO.eq_2, ↓evI.eq_1, ↓evI.eq_2, ↓evI.eq_3, ↓m_bind, ↓m_then, ↓m_opt, SRes.bind_nx, SRes.bind_rt, SRes.bind_bk, SRes.bind_ct, SRes.bind_ex, SRes.bind_bad, at_call, at_glo, at_fuel, SRes.back, List.getElem?_cons_zero, List.getElem?_cons_succ, List.set_cons_zero, List.set_cons_succ, asgT, asgTs, cmpV, truV, binV, bltV, tyN, tyLe, subV, Option.map_some, Option.map_none, List.any_cons, List.any_nil, if_true, if_false, ite_true, ite_false, String.reduceBEq, Nat.reduceAdd, Bool.or_false, Bool.false_or, Bool.or_true, Bool.true_or, Bool.and_true, Bool.true_and, Bool.and_false, Bool.false_and, Bool.not_true, Bool.not_false, beq_self_eq_true, decide_true, decide_false, reduceCtorEq, Bool.false_eq_true, keyOf, dctKeys, List.length_cons, List.length_nil, List.zip_cons_cons, List.zip_nil_left, List.zip_nil_right, List.foldl_cons, List.foldl_nil, methV, setV, isL, permL_cons, permL_nil, List.map_cons, List.map_nil, valP_cons, valP_nil, key_str, key_int, ofString_eq, String.reduceEq, putP, sizeLine_eq, Nat.reduceLT, Nat.reduceLeDiff, sto_self, mulOk, powOk, divOk, Int.reducePow, Nat.reducePow, Int.reduceNeg, Int.reduceLT, Int.reduceLE, natAbs64, natAbs30, Int.reduceToNat, Int.reduceEq, Int.reduceAdd, Int.reduceSub, Int.reduceMul, ne_eq, not_false_eq_true, Int.reduceNe, Ev.alloc, Ev.eq_ii, Ev.eq_ss, Ev.eq_bb, Ev.eq_nn, Ev.eq_ni, Ev.eq_in, Ev.eq_ns, Ev.eq_sn, Ev.eq_nb, Ev.eq_bn, Ev.eq_is, Ev.eq_si, and_self, true_and, and_true, fmod_lt64, fmod_gt64, atI_0, atI_1, atI_2, atI_3, atI_4, atI_5, atI_6, atI_7, atI_8, atI_9, seqOf, lstOf, slcV, revV, srcOf, optI, List.nil_append, List.cons_append, sto_new, intsP, sortI, insI, compL, compG, wipeP, boolsP, List.all_cons, List.all_nil, id_eq, keep_nil, maxI, minI, intsP, cutf_1, cutf_2, cutf_3, cutf_4, cutt_1, cutt_2, cutt_3, cutt_4, List.drop_succ_cons, List.drop_zero, List.take_succ_cons, List.take_zero, Int.cast_ofNat_Int, false_and, and_false, e]
  exact ⟨_, rfl, k⟩
theorem health_ok (n : Nat) (M : Sto) {a b c d : Int} (h : Rl a b c d) : ∃ M', callN T (n + 4) "is_health_rule" [rlV a b c d] M = .ok (.bl true) M' ∧ Keep [] M M' := by
  obtain ⟨M', e, k⟩ := is_rule_ok n M h
  rw [e_is_health_rule]
  unfold c_is_health_rule
  simp only [↓evE.eq_1, ↓evE.eq_2, ↓evE.eq_3, ↓evE.eq_4, ↓evE.eq_5, ↓evE.eq_6, ↓evE.eq_7, ↓evE.eq_8, ↓evE.eq_9, ↓evE.eq_10, ↓evE.eq_11, ↓evE.eq_12, ↓evE.eq_13, ↓evE.eq_14, ↓evE.eq_15, ↓evE.eq_16, ↓evE.eq_17, ↓evE.eq_18, ↓evE.eq_19, ↓evE.eq_20, ↓evE.eq_21, ↓evE.eq_22, ↓evE.eq_23, ↓evE.eq_24, ↓evE.eq_25, ↓evE.eq_26, ↓evE.eq_27, ↓evE.eq_28, ↓evE.eq_29, ↓evE.eq_30, ↓evE.eq_31, ↓evE.eq_32, ↓evS.eq_1, ↓evS_seq, ↓evS.eq_3, ↓evS.eq_4, ↓evS.eq_5, ↓evS.eq_6, ↓evS.eq_7, ↓evS.eq_8, ↓evS_ite, ↓iteS, ↓evS.eq_11, ↓evS.eq_12, ↓evS.eq_13, ↓evS.eq_14, ↓evS.eq_15, ↓evS.eq_16, ↓evS.eq_17, ↓evS_for, ↓evA.eq_1, ↓evA.eq_2, ↓evT.eq_1, ↓evT.eq_2, ↓evO.eq_1, ↓evO.eq_2, ↓evI.eq_1, ↓evI.eq_2, ↓evI.eq_3, ↓m_bind, ↓m_then, ↓m_opt, SRes.bind_nx, SRes.bind_rt, SRes.bind_bk, SRes.bind_ct, SRes.bind_ex, SRes.bind_bad, at_call, at_glo, at_fuel, SRes.back, List.getElem?_cons_zero, List.getElem?_cons_succ, List.set_cons_zero, List.set_cons_succ, asgT, asgTs, cmpV, truV, binV, bltV, tyN, tyLe, subV, Option.map_some, Option.map_none, List.any_cons, List.any_nil, if_true, if_false, ite_true, ite_false, String.reduceBEq, Nat.reduceAdd, Bool.or_false, Bool.false_or, Bool.or_true, Bool.true_or, Bool.and_true, Bool.true_and, Bool.and_false, Bool.false_and, Bool.not_true, Bool.not_false, beq_self_eq_true, decide_true, decide_false, reduceCtorEq, Bool.false_eq_true, keyOf, dctKeys, List.length_cons, List.length_nil, List.zip_cons_cons, List.zip_nil_left, List.zip_nil_right, List.foldl_cons, List.foldl_nil, methV, setV, isL, permL_cons, permL_nil, List.map_cons, List.map_nil, valP_cons, valP_nil, key_str, key_int, ofString_eq, String.reduceEq, putP, sizeLine_eq, Nat.reduceLT, Nat.reduceLeDiff, sto_self, mulOk, powOk, divOk, Int.reducePow, Nat.reducePow, Int.reduceNeg, Int.reduceLT, Int.reduceLE, natAbs64, natAbs30, Int.reduceToNat, Int.reduceEq, Int.reduceAdd, Int.reduceSub, Int.reduceMul, ne_eq, not_false_eq_true, Int.reduceNe, Ev.alloc, Ev.eq_ii, Ev.eq_ss, Ev.eq_bb, Ev.eq_nn, Ev.eq_ni, Ev.eq_in, Ev.eq_ns, Ev.eq_sn, Ev.eq_nb, Ev.eq_bn, Ev.eq_is, Ev.eq_si, and_self, true_and, and_true, fmod_lt64, fmod_gt64, atI_0, atI_1, atI_2, atI_3, atI_4, atI_5, atI_6, atI_7, atI_8, atI_9, seqOf, lstOf, slcV, revV, srcOf, optI, List.nil_append, List.cons_append, sto_new, intsP, sortI, insI, compL, compG, wipeP, boolsP, List.all_cons, List.all_nil, id_eq, keep_nil, maxI, minI, intsP, cutf_1, cutf_2, cutf_3, cutf_4, cutt_1, cutt_2, cutt_3, cutt_4, List.drop_succ_cons, List.drop_zero, List.take_succ_cons, List.take_zero, Int.cast_ofNat_Int, false_and, and_false, e]
  exact ⟨_, rfl, k⟩
/-- a mark -/
def mkV (up : Bool) (run wait due : Int) : PV := .tup [.bl up, .int run, .int wait, .int due]
theorem new_ok (n : Nat) (M : Sto) {a b c d : Int} (h : Rl a b c d) : ∃ M', callN T (n + 5) "new_mark" [rlV a b c d] M = .ok (mkV true 0 c c) M' ∧ Keep [] M M' := by
  obtain ⟨M', e, k⟩ := need_rule_ok n M h
  rw [e_new_mark]
  unfold c_new_mark
  simp only [↓evE.eq_1, ↓evE.eq_2, ↓evE.eq_3, ↓evE.eq_4, ↓evE.eq_5, ↓evE.eq_6, ↓evE.eq_7, ↓evE.eq_8, ↓evE.eq_9, ↓evE.eq_10, ↓evE.eq_11, ↓evE.eq_12, ↓evE.eq_13, ↓evE.eq_14, ↓evE.eq_15, ↓evE.eq_16, ↓evE.eq_17, ↓evE.eq_18, ↓evE.eq_19, ↓evE.eq_20, ↓evE.eq_21, ↓evE.eq_22, ↓evE.eq_23, ↓evE.eq_24, ↓evE.eq_25, ↓evE.eq_26, ↓evE.eq_27, ↓evE.eq_28, ↓evE.eq_29, ↓evE.eq_30, ↓evE.eq_31, ↓evE.eq_32, ↓evS.eq_1, ↓evS_seq, ↓evS.eq_3, ↓evS.eq_4, ↓evS.eq_5, ↓evS.eq_6, ↓evS.eq_7, ↓evS.eq_8, ↓evS_ite, ↓iteS, ↓evS.eq_11, ↓evS.eq_12, ↓evS.eq_13, ↓evS.eq_14, ↓evS.eq_15, ↓evS.eq_16, ↓evS.eq_17, ↓evS_for, ↓evA.eq_1, ↓evA.eq_2, ↓evT.eq_1, ↓evT.eq_2, ↓evO.eq_1, ↓evO.eq_2, ↓evI.eq_1, ↓evI.eq_2, ↓evI.eq_3, ↓m_bind, ↓m_then, ↓m_opt, SRes.bind_nx, SRes.bind_rt, SRes.bind_bk, SRes.bind_ct, SRes.bind_ex, SRes.bind_bad, at_call, at_glo, at_fuel, SRes.back, List.getElem?_cons_zero, List.getElem?_cons_succ, List.set_cons_zero, List.set_cons_succ, asgT, asgTs, cmpV, truV, binV, bltV, tyN, tyLe, subV, Option.map_some, Option.map_none, List.any_cons, List.any_nil, if_true, if_false, ite_true, ite_false, String.reduceBEq, Nat.reduceAdd, Bool.or_false, Bool.false_or, Bool.or_true, Bool.true_or, Bool.and_true, Bool.true_and, Bool.and_false, Bool.false_and, Bool.not_true, Bool.not_false, beq_self_eq_true, decide_true, decide_false, reduceCtorEq, Bool.false_eq_true, keyOf, dctKeys, List.length_cons, List.length_nil, List.zip_cons_cons, List.zip_nil_left, List.zip_nil_right, List.foldl_cons, List.foldl_nil, methV, setV, isL, permL_cons, permL_nil, List.map_cons, List.map_nil, valP_cons, valP_nil, key_str, key_int, ofString_eq, String.reduceEq, putP, sizeLine_eq, Nat.reduceLT, Nat.reduceLeDiff, sto_self, mulOk, powOk, divOk, Int.reducePow, Nat.reducePow, Int.reduceNeg, Int.reduceLT, Int.reduceLE, natAbs64, natAbs30, Int.reduceToNat, Int.reduceEq, Int.reduceAdd, Int.reduceSub, Int.reduceMul, ne_eq, not_false_eq_true, Int.reduceNe, Ev.alloc, Ev.eq_ii, Ev.eq_ss, Ev.eq_bb, Ev.eq_nn, Ev.eq_ni, Ev.eq_in, Ev.eq_ns, Ev.eq_sn, Ev.eq_nb, Ev.eq_bn, Ev.eq_is, Ev.eq_si, and_self, true_and, and_true, fmod_lt64, fmod_gt64, atI_0, atI_1, atI_2, atI_3, atI_4, atI_5, atI_6, atI_7, atI_8, atI_9, seqOf, lstOf, slcV, revV, srcOf, optI, List.nil_append, List.cons_append, sto_new, intsP, sortI, insI, compL, compG, wipeP, boolsP, List.all_cons, List.all_nil, id_eq, keep_nil, maxI, minI, intsP, cutf_1, cutf_2, cutf_3, cutf_4, cutt_1, cutt_2, cutt_3, cutt_4, List.drop_succ_cons, List.drop_zero, List.take_succ_cons, List.take_zero, Int.cast_ofNat_Int, false_and, and_false, e]
  rw [e_mark_new]
  unfold c_mark_new rlV
  simp only [↓evE.eq_1, ↓evE.eq_2, ↓evE.eq_3, ↓evE.eq_4, ↓evE.eq_5, ↓evE.eq_6, ↓evE.eq_7, ↓evE.eq_8, ↓evE.eq_9, ↓evE.eq_10, ↓evE.eq_11, ↓evE.eq_12, ↓evE.eq_13, ↓evE.eq_14, ↓evE.eq_15, ↓evE.eq_16, ↓evE.eq_17, ↓evE.eq_18, ↓evE.eq_19, ↓evE.eq_20, ↓evE.eq_21, ↓evE.eq_22, ↓evE.eq_23, ↓evE.eq_24, ↓evE.eq_25, ↓evE.eq_26, ↓evE.eq_27, ↓evE.eq_28, ↓evE.eq_29, ↓evE.eq_30, ↓evE.eq_31, ↓evE.eq_32, ↓evS.eq_1, ↓evS_seq, ↓evS.eq_3, ↓evS.eq_4, ↓evS.eq_5, ↓evS.eq_6, ↓evS.eq_7, ↓evS.eq_8, ↓evS_ite, ↓iteS, ↓evS.eq_11, ↓evS.eq_12, ↓evS.eq_13, ↓evS.eq_14, ↓evS.eq_15, ↓evS.eq_16, ↓evS.eq_17, ↓evS_for, ↓evA.eq_1, ↓evA.eq_2, ↓evT.eq_1, ↓evT.eq_2, ↓evO.eq_1, ↓evO.eq_2, ↓evI.eq_1, ↓evI.eq_2, ↓evI.eq_3, ↓m_bind, ↓m_then, ↓m_opt, SRes.bind_nx, SRes.bind_rt, SRes.bind_bk, SRes.bind_ct, SRes.bind_ex, SRes.bind_bad, at_call, at_glo, at_fuel, SRes.back, List.getElem?_cons_zero, List.getElem?_cons_succ, List.set_cons_zero, List.set_cons_succ, asgT, asgTs, cmpV, truV, binV, bltV, tyN, tyLe, subV, Option.map_some, Option.map_none, List.any_cons, List.any_nil, if_true, if_false, ite_true, ite_false, String.reduceBEq, Nat.reduceAdd, Bool.or_false, Bool.false_or, Bool.or_true, Bool.true_or, Bool.and_true, Bool.true_and, Bool.and_false, Bool.false_and, Bool.not_true, Bool.not_false, beq_self_eq_true, decide_true, decide_false, reduceCtorEq, Bool.false_eq_true, keyOf, dctKeys, List.length_cons, List.length_nil, List.zip_cons_cons, List.zip_nil_left, List.zip_nil_right, List.foldl_cons, List.foldl_nil, methV, setV, isL, permL_cons, permL_nil, List.map_cons, List.map_nil, valP_cons, valP_nil, key_str, key_int, ofString_eq, String.reduceEq, putP, sizeLine_eq, Nat.reduceLT, Nat.reduceLeDiff, sto_self, mulOk, powOk, divOk, Int.reducePow, Nat.reducePow, Int.reduceNeg, Int.reduceLT, Int.reduceLE, natAbs64, natAbs30, Int.reduceToNat, Int.reduceEq, Int.reduceAdd, Int.reduceSub, Int.reduceMul, ne_eq, not_false_eq_true, Int.reduceNe, Ev.alloc, Ev.eq_ii, Ev.eq_ss, Ev.eq_bb, Ev.eq_nn, Ev.eq_ni, Ev.eq_in, Ev.eq_ns, Ev.eq_sn, Ev.eq_nb, Ev.eq_bn, Ev.eq_is, Ev.eq_si, and_self, true_and, and_true, fmod_lt64, fmod_gt64, atI_0, atI_1, atI_2, atI_3, atI_4, atI_5, atI_6, atI_7, atI_8, atI_9, seqOf, lstOf, slcV, revV, srcOf, optI, List.nil_append, List.cons_append, sto_new, intsP, sortI, insI, compL, compG, wipeP, boolsP, List.all_cons, List.all_nil, id_eq, keep_nil, maxI, minI, intsP, cutf_1, cutf_2, cutf_3, cutf_4, cutt_1, cutt_2, cutt_3, cutt_4, List.drop_succ_cons, List.drop_zero, List.take_succ_cons, List.take_zero, Int.cast_ofNat_Int, false_and, and_false]
  exact ⟨_, rfl, k⟩
/-- the wait, doubled so many times -/
def dbl (c d : Int) : Nat → Int
  | 0 => c
  | k + 1 => if d < 2 * dbl c d k then d else 2 * dbl c d k
theorem dbl_le {c d : Int} (h : c ≤ d) : ∀ k, dbl c d k ≤ d
  | 0 => h
  | k + 1 => by
    unfold dbl
    split <;> omega
theorem dbl_pos {c d : Int} (h0 : 1 ≤ c) (h : c ≤ d) : ∀ k, 1 ≤ dbl c d k
  | 0 => h0
  | k + 1 => by
    have := dbl_pos h0 h k
    unfold dbl
    split <;> omega
theorem dbl_stop {c d : Int} (h0 : 1 ≤ c) (h : c ≤ d) (k : Nat) (e : dbl c d k = d) : dbl c d (k + 1) = d := by
  unfold dbl
  rw [e]
  split <;> omega
theorem dbl_stops {c d : Int} (h0 : 1 ≤ c) (h : c ≤ d) (k : Nat) (e : dbl c d k = d) : ∀ j, dbl c d (k + j) = d
  | 0 => e
  | j + 1 => dbl_stop h0 h (k + j) (dbl_stops h0 h k e j)
theorem dbl_succ (c d : Int) (m : Nat) : (if d < 2 * dbl c d m then d else 2 * dbl c d m) = dbl c d (m + 1) := rfl
theorem wait_ok (n : Nat) (M : Sto) {a b c d : Int} (h : Rl a b c d) (k : Nat) (hk : k < 1000) : callN T (n + 1) "is_wait_after_bad" [rlV a b c d, .int (dbl c d (k + 1))] M = .ok (.bl true) M := by
  obtain ⟨h1, h2, h3, h4, h5, h6, h7⟩ := h
  rw [e_is_wait_after_bad]
  unfold c_is_wait_after_bad rlV
  simp only [↓evE.eq_1, ↓evE.eq_2, ↓evE.eq_3, ↓evE.eq_4, ↓evE.eq_5, ↓evE.eq_6, ↓evE.eq_7, ↓evE.eq_8, ↓evE.eq_9, ↓evE.eq_10, ↓evE.eq_11, ↓evE.eq_12, ↓evE.eq_13, ↓evE.eq_14, ↓evE.eq_15, ↓evE.eq_16, ↓evE.eq_17, ↓evE.eq_18, ↓evE.eq_19, ↓evE.eq_20, ↓evE.eq_21, ↓evE.eq_22, ↓evE.eq_23, ↓evE.eq_24, ↓evE.eq_25, ↓evE.eq_26, ↓evE.eq_27, ↓evE.eq_28, ↓evE.eq_29, ↓evE.eq_30, ↓evE.eq_31, ↓evE.eq_32, ↓evS.eq_1, ↓evS_seq, ↓evS.eq_3, ↓evS.eq_4, ↓evS.eq_5, ↓evS.eq_6, ↓evS.eq_7, ↓evS.eq_8, ↓evS_ite, ↓iteS, ↓evS.eq_11, ↓evS.eq_12, ↓evS.eq_13, ↓evS.eq_14, ↓evS.eq_15, ↓evS.eq_16, ↓evS.eq_17, ↓evS_for, ↓evA.eq_1, ↓evA.eq_2, ↓evT.eq_1, ↓evT.eq_2, ↓evO.eq_1, ↓evO.eq_2, ↓evI.eq_1, ↓evI.eq_2, ↓evI.eq_3, ↓m_bind, ↓m_then, ↓m_opt, SRes.bind_nx, SRes.bind_rt, SRes.bind_bk, SRes.bind_ct, SRes.bind_ex, SRes.bind_bad, at_call, at_glo, at_fuel, SRes.back, List.getElem?_cons_zero, List.getElem?_cons_succ, List.set_cons_zero, List.set_cons_succ, asgT, asgTs, cmpV, truV, binV, bltV, tyN, tyLe, subV, Option.map_some, Option.map_none, List.any_cons, List.any_nil, if_true, if_false, ite_true, ite_false, String.reduceBEq, Nat.reduceAdd, Bool.or_false, Bool.false_or, Bool.or_true, Bool.true_or, Bool.and_true, Bool.true_and, Bool.and_false, Bool.false_and, Bool.not_true, Bool.not_false, beq_self_eq_true, decide_true, decide_false, reduceCtorEq, Bool.false_eq_true, keyOf, dctKeys, List.length_cons, List.length_nil, List.zip_cons_cons, List.zip_nil_left, List.zip_nil_right, List.foldl_cons, List.foldl_nil, methV, setV, isL, permL_cons, permL_nil, List.map_cons, List.map_nil, valP_cons, valP_nil, key_str, key_int, ofString_eq, String.reduceEq, putP, sizeLine_eq, Nat.reduceLT, Nat.reduceLeDiff, sto_self, mulOk, powOk, divOk, Int.reducePow, Nat.reducePow, Int.reduceNeg, Int.reduceLT, Int.reduceLE, natAbs64, natAbs30, Int.reduceToNat, Int.reduceEq, Int.reduceAdd, Int.reduceSub, Int.reduceMul, ne_eq, not_false_eq_true, Int.reduceNe, Ev.alloc, Ev.eq_ii, Ev.eq_ss, Ev.eq_bb, Ev.eq_nn, Ev.eq_ni, Ev.eq_in, Ev.eq_ns, Ev.eq_sn, Ev.eq_nb, Ev.eq_bn, Ev.eq_is, Ev.eq_si, and_self, true_and, and_true, fmod_lt64, fmod_gt64, atI_0, atI_1, atI_2, atI_3, atI_4, atI_5, atI_6, atI_7, atI_8, atI_9, seqOf, lstOf, slcV, revV, srcOf, optI, List.nil_append, List.cons_append, sto_new, intsP, sortI, insI, compL, compG, wipeP, boolsP, List.all_cons, List.all_nil, id_eq, keep_nil, maxI, minI, intsP, cutf_1, cutf_2, cutf_3, cutf_4, cutt_1, cutt_2, cutt_3, cutt_4, List.drop_succ_cons, List.drop_zero, List.take_succ_cons, List.take_zero, Int.cast_ofNat_Int, false_and, and_false]
  generalize hz : whL _ _ _ _ _ = z
  have hJ := while_of hz (k + 1) (by show k + 1 < 100000; omega) (fun n env M1 => M1 = M ∧ ∃ m, m ≤ k ∧ n + m = k + 1 ∧ env = [some (.tup [.int a, .int b, .int c, .int d]), some (.int (dbl c d (k + 1))), some (.int (dbl c d m))])
    (fun z => z = .rt (.bl true) M ∨ ∃ f, z = .nx [some (.tup [.int a, .int b, .int c, .int d]), some (.int (dbl c d (k + 1))), f] M ∧ dbl c d (k + 1) = d) ⟨rfl, 0, by omega, by omega, rfl⟩ (fun n env M1 ⟨e1, m, hm, hn, e2⟩ => by
      subst e1 e2
      by_cases hc : dbl c d m < d
      · refine ⟨.bl true, M1, by simp only [↓evE.eq_1, ↓evE.eq_2, ↓evE.eq_3, ↓evE.eq_4, ↓evE.eq_5, ↓evE.eq_6, ↓evE.eq_7, ↓evE.eq_8, ↓evE.eq_9, ↓evE.eq_10, ↓evE.eq_11, ↓evE.eq_12, ↓evE.eq_13, ↓evE.eq_14, ↓evE.eq_15, ↓evE.eq_16, ↓evE.eq_17, ↓evE.eq_18, ↓evE.eq_19, ↓evE.eq_20, ↓evE.eq_21, ↓evE.eq_22, ↓evE.eq_23, ↓evE.eq_24, ↓evE.eq_25, ↓evE.eq_26, ↓evE.eq_27, ↓evE.eq_28, ↓evE.eq_29, ↓evE.eq_30, ↓evE.eq_31, ↓evE.eq_32, ↓evS.eq_1, ↓evS_seq, ↓evS.eq_3, ↓evS.eq_4, ↓evS.eq_5, ↓evS.eq_6, ↓evS.eq_7, ↓evS.eq_8, ↓evS_ite, ↓iteS, ↓evS.eq_11, ↓evS.eq_12, ↓evS.eq_13, ↓evS.eq_14, ↓evS.eq_15, ↓evS.eq_16, ↓evS.eq_17, ↓evS_for, ↓evA.eq_1, ↓evA.eq_2, ↓evT.eq_1, ↓evT.eq_2, ↓evO.eq_1, ↓evO.eq_2, ↓evI.eq_1, ↓evI.eq_2, ↓evI.eq_3, ↓m_bind, ↓m_then, ↓m_opt, SRes.bind_nx, SRes.bind_rt, SRes.bind_bk, SRes.bind_ct, SRes.bind_ex, SRes.bind_bad, at_call, at_glo, at_fuel, SRes.back, List.getElem?_cons_zero, List.getElem?_cons_succ, List.set_cons_zero, List.set_cons_succ, asgT, asgTs, cmpV, truV, binV, bltV, tyN, tyLe, subV, Option.map_some, Option.map_none, List.any_cons, List.any_nil, if_true, if_false, ite_true, ite_false, String.reduceBEq, Nat.reduceAdd, Bool.or_false, Bool.false_or, Bool.or_true, Bool.true_or, Bool.and_true, Bool.true_and, Bool.and_false, Bool.false_and, Bool.not_true, Bool.not_false, beq_self_eq_true, decide_true, decide_false, reduceCtorEq, Bool.false_eq_true, keyOf, dctKeys, List.length_cons, List.length_nil, List.zip_cons_cons, List.zip_nil_left, List.zip_nil_right, List.foldl_cons, List.foldl_nil, methV, setV, isL, permL_cons, permL_nil, List.map_cons, List.map_nil, valP_cons, valP_nil, key_str, key_int, ofString_eq, String.reduceEq, putP, sizeLine_eq, Nat.reduceLT, Nat.reduceLeDiff, sto_self, mulOk, powOk, divOk, Int.reducePow, Nat.reducePow, Int.reduceNeg, Int.reduceLT, Int.reduceLE, natAbs64, natAbs30, Int.reduceToNat, Int.reduceEq, Int.reduceAdd, Int.reduceSub, Int.reduceMul, ne_eq, not_false_eq_true, Int.reduceNe, Ev.alloc, Ev.eq_ii, Ev.eq_ss, Ev.eq_bb, Ev.eq_nn, Ev.eq_ni, Ev.eq_in, Ev.eq_ns, Ev.eq_sn, Ev.eq_nb, Ev.eq_bn, Ev.eq_is, Ev.eq_si, and_self, true_and, and_true, fmod_lt64, fmod_gt64, atI_0, atI_1, atI_2, atI_3, atI_4, atI_5, atI_6, atI_7, atI_8, atI_9, seqOf, lstOf, slcV, revV, srcOf, optI, List.nil_append, List.cons_append, sto_new, intsP, sortI, insI, compL, compG, wipeP, boolsP, List.all_cons, List.all_nil, id_eq, keep_nil, maxI, minI, intsP, cutf_1, cutf_2, cutf_3, cutf_4, cutt_1, cutt_2, cutt_3, cutt_4, List.drop_succ_cons, List.drop_zero, List.take_succ_cons, List.take_zero, Int.cast_ofNat_Int, false_and, and_false, hc], .inr ⟨rfl, ?_⟩⟩
        by_cases he : dbl c d (m + 1) = dbl c d (k + 1)
        · refine .inr (.inl ⟨.bl true, M1, ?_, .inl rfl⟩)
          simp only [↓evE.eq_1, ↓evE.eq_2, ↓evE.eq_3, ↓evE.eq_4, ↓evE.eq_5, ↓evE.eq_6, ↓evE.eq_7, ↓evE.eq_8, ↓evE.eq_9, ↓evE.eq_10, ↓evE.eq_11, ↓evE.eq_12, ↓evE.eq_13, ↓evE.eq_14, ↓evE.eq_15, ↓evE.eq_16, ↓evE.eq_17, ↓evE.eq_18, ↓evE.eq_19, ↓evE.eq_20, ↓evE.eq_21, ↓evE.eq_22, ↓evE.eq_23, ↓evE.eq_24, ↓evE.eq_25, ↓evE.eq_26, ↓evE.eq_27, ↓evE.eq_28, ↓evE.eq_29, ↓evE.eq_30, ↓evE.eq_31, ↓evE.eq_32, ↓evS.eq_1, ↓evS_seq, ↓evS.eq_3, ↓evS.eq_4, ↓evS.eq_5, ↓evS.eq_6, ↓evS.eq_7, ↓evS.eq_8, ↓evS_ite, ↓iteS, ↓evS.eq_11, ↓evS.eq_12, ↓evS.eq_13, ↓evS.eq_14, ↓evS.eq_15, ↓evS.eq_16, ↓evS.eq_17, ↓evS_for, ↓evA.eq_1, ↓evA.eq_2, ↓evT.eq_1, ↓evT.eq_2, ↓evO.eq_1, ↓evO.eq_2, ↓evI.eq_1, ↓evI.eq_2, ↓evI.eq_3, ↓m_bind, ↓m_then, ↓m_opt, SRes.bind_nx, SRes.bind_rt, SRes.bind_bk, SRes.bind_ct, SRes.bind_ex, SRes.bind_bad, at_call, at_glo, at_fuel, SRes.back, List.getElem?_cons_zero, List.getElem?_cons_succ, List.set_cons_zero, List.set_cons_succ, asgT, asgTs, cmpV, truV, binV, bltV, tyN, tyLe, subV, Option.map_some, Option.map_none, List.any_cons, List.any_nil, if_true, if_false, ite_true, ite_false, String.reduceBEq, Nat.reduceAdd, Bool.or_false, Bool.false_or, Bool.or_true, Bool.true_or, Bool.and_true, Bool.true_and, Bool.and_false, Bool.false_and, Bool.not_true, Bool.not_false, beq_self_eq_true, decide_true, decide_false, reduceCtorEq, Bool.false_eq_true, keyOf, dctKeys, List.length_cons, List.length_nil, List.zip_cons_cons, List.zip_nil_left, List.zip_nil_right, List.foldl_cons, List.foldl_nil, methV, setV, isL, permL_cons, permL_nil, List.map_cons, List.map_nil, valP_cons, valP_nil, key_str, key_int, ofString_eq, String.reduceEq, putP, sizeLine_eq, Nat.reduceLT, Nat.reduceLeDiff, sto_self, mulOk, powOk, divOk, Int.reducePow, Nat.reducePow, Int.reduceNeg, Int.reduceLT, Int.reduceLE, natAbs64, natAbs30, Int.reduceToNat, Int.reduceEq, Int.reduceAdd, Int.reduceSub, Int.reduceMul, ne_eq, not_false_eq_true, Int.reduceNe, Ev.alloc, Ev.eq_ii, Ev.eq_ss, Ev.eq_bb, Ev.eq_nn, Ev.eq_ni, Ev.eq_in, Ev.eq_ns, Ev.eq_sn, Ev.eq_nb, Ev.eq_bn, Ev.eq_is, Ev.eq_si, and_self, true_and, and_true, fmod_lt64, fmod_gt64, atI_0, atI_1, atI_2, atI_3, atI_4, atI_5, atI_6, atI_7, atI_8, atI_9, seqOf, lstOf, slcV, revV, srcOf, optI, List.nil_append, List.cons_append, sto_new, intsP, sortI, insI, compL, compG, wipeP, boolsP, List.all_cons, List.all_nil, id_eq, keep_nil, maxI, minI, intsP, cutf_1, cutf_2, cutf_3, cutf_4, cutt_1, cutt_2, cutt_3, cutt_4, List.drop_succ_cons, List.drop_zero, List.take_succ_cons, List.take_zero, Int.cast_ofNat_Int, false_and, and_false, dbl_succ, he]
        · refine .inl ⟨_, M1, n - 1, by omega, .inl ?_, rfl, m + 1, ?_, by omega, rfl⟩
          · simp only [↓evE.eq_1, ↓evE.eq_2, ↓evE.eq_3, ↓evE.eq_4, ↓evE.eq_5, ↓evE.eq_6, ↓evE.eq_7, ↓evE.eq_8, ↓evE.eq_9, ↓evE.eq_10, ↓evE.eq_11, ↓evE.eq_12, ↓evE.eq_13, ↓evE.eq_14, ↓evE.eq_15, ↓evE.eq_16, ↓evE.eq_17, ↓evE.eq_18, ↓evE.eq_19, ↓evE.eq_20, ↓evE.eq_21, ↓evE.eq_22, ↓evE.eq_23, ↓evE.eq_24, ↓evE.eq_25, ↓evE.eq_26, ↓evE.eq_27, ↓evE.eq_28, ↓evE.eq_29, ↓evE.eq_30, ↓evE.eq_31, ↓evE.eq_32, ↓evS.eq_1, ↓evS_seq, ↓evS.eq_3, ↓evS.eq_4, ↓evS.eq_5, ↓evS.eq_6, ↓evS.eq_7, ↓evS.eq_8, ↓evS_ite, ↓iteS, ↓evS.eq_11, ↓evS.eq_12, ↓evS.eq_13, ↓evS.eq_14, ↓evS.eq_15, ↓evS.eq_16, ↓evS.eq_17, ↓evS_for, ↓evA.eq_1, ↓evA.eq_2, ↓evT.eq_1, ↓evT.eq_2, ↓evO.eq_1, ↓evO.eq_2, ↓evI.eq_1, ↓evI.eq_2, ↓evI.eq_3, ↓m_bind, ↓m_then, ↓m_opt, SRes.bind_nx, SRes.bind_rt, SRes.bind_bk, SRes.bind_ct, SRes.bind_ex, SRes.bind_bad, at_call, at_glo, at_fuel, SRes.back, List.getElem?_cons_zero, List.getElem?_cons_succ, List.set_cons_zero, List.set_cons_succ, asgT, asgTs, cmpV, truV, binV, bltV, tyN, tyLe, subV, Option.map_some, Option.map_none, List.any_cons, List.any_nil, if_true, if_false, ite_true, ite_false, String.reduceBEq, Nat.reduceAdd, Bool.or_false, Bool.false_or, Bool.or_true, Bool.true_or, Bool.and_true, Bool.true_and, Bool.and_false, Bool.false_and, Bool.not_true, Bool.not_false, beq_self_eq_true, decide_true, decide_false, reduceCtorEq, Bool.false_eq_true, keyOf, dctKeys, List.length_cons, List.length_nil, List.zip_cons_cons, List.zip_nil_left, List.zip_nil_right, List.foldl_cons, List.foldl_nil, methV, setV, isL, permL_cons, permL_nil, List.map_cons, List.map_nil, valP_cons, valP_nil, key_str, key_int, ofString_eq, String.reduceEq, putP, sizeLine_eq, Nat.reduceLT, Nat.reduceLeDiff, sto_self, mulOk, powOk, divOk, Int.reducePow, Nat.reducePow, Int.reduceNeg, Int.reduceLT, Int.reduceLE, natAbs64, natAbs30, Int.reduceToNat, Int.reduceEq, Int.reduceAdd, Int.reduceSub, Int.reduceMul, ne_eq, not_false_eq_true, Int.reduceNe, Ev.alloc, Ev.eq_ii, Ev.eq_ss, Ev.eq_bb, Ev.eq_nn, Ev.eq_ni, Ev.eq_in, Ev.eq_ns, Ev.eq_sn, Ev.eq_nb, Ev.eq_bn, Ev.eq_is, Ev.eq_si, and_self, true_and, and_true, fmod_lt64, fmod_gt64, atI_0, atI_1, atI_2, atI_3, atI_4, atI_5, atI_6, atI_7, atI_8, atI_9, seqOf, lstOf, slcV, revV, srcOf, optI, List.nil_append, List.cons_append, sto_new, intsP, sortI, insI, compL, compG, wipeP, boolsP, List.all_cons, List.all_nil, id_eq, keep_nil, maxI, minI, intsP, cutf_1, cutf_2, cutf_3, cutf_4, cutt_1, cutt_2, cutt_3, cutt_4, List.drop_succ_cons, List.drop_zero, List.take_succ_cons, List.take_zero, Int.cast_ofNat_Int, false_and, and_false, dbl_succ, he]
          · rcases Nat.lt_or_ge m k with q | q
            · omega
            · exact absurd (by rw [show m = k by omega]) he
      · have hd : dbl c d m = d := by have := dbl_le h6 m; omega
        refine ⟨.bl false, M1, by simp only [↓evE.eq_1, ↓evE.eq_2, ↓evE.eq_3, ↓evE.eq_4, ↓evE.eq_5, ↓evE.eq_6, ↓evE.eq_7, ↓evE.eq_8, ↓evE.eq_9, ↓evE.eq_10, ↓evE.eq_11, ↓evE.eq_12, ↓evE.eq_13, ↓evE.eq_14, ↓evE.eq_15, ↓evE.eq_16, ↓evE.eq_17, ↓evE.eq_18, ↓evE.eq_19, ↓evE.eq_20, ↓evE.eq_21, ↓evE.eq_22, ↓evE.eq_23, ↓evE.eq_24, ↓evE.eq_25, ↓evE.eq_26, ↓evE.eq_27, ↓evE.eq_28, ↓evE.eq_29, ↓evE.eq_30, ↓evE.eq_31, ↓evE.eq_32, ↓evS.eq_1, ↓evS_seq, ↓evS.eq_3, ↓evS.eq_4, ↓evS.eq_5, ↓evS.eq_6, ↓evS.eq_7, ↓evS.eq_8, ↓evS_ite, ↓iteS, ↓evS.eq_11, ↓evS.eq_12, ↓evS.eq_13, ↓evS.eq_14, ↓evS.eq_15, ↓evS.eq_16, ↓evS.eq_17, ↓evS_for, ↓evA.eq_1, ↓evA.eq_2, ↓evT.eq_1, ↓evT.eq_2, ↓evO.eq_1, ↓evO.eq_2, ↓evI.eq_1, ↓evI.eq_2, ↓evI.eq_3, ↓m_bind, ↓m_then, ↓m_opt, SRes.bind_nx, SRes.bind_rt, SRes.bind_bk, SRes.bind_ct, SRes.bind_ex, SRes.bind_bad, at_call, at_glo, at_fuel, SRes.back, List.getElem?_cons_zero, List.getElem?_cons_succ, List.set_cons_zero, List.set_cons_succ, asgT, asgTs, cmpV, truV, binV, bltV, tyN, tyLe, subV, Option.map_some, Option.map_none, List.any_cons, List.any_nil, if_true, if_false, ite_true, ite_false, String.reduceBEq, Nat.reduceAdd, Bool.or_false, Bool.false_or, Bool.or_true, Bool.true_or, Bool.and_true, Bool.true_and, Bool.and_false, Bool.false_and, Bool.not_true, Bool.not_false, beq_self_eq_true, decide_true, decide_false, reduceCtorEq, Bool.false_eq_true, keyOf, dctKeys, List.length_cons, List.length_nil, List.zip_cons_cons, List.zip_nil_left, List.zip_nil_right, List.foldl_cons, List.foldl_nil, methV, setV, isL, permL_cons, permL_nil, List.map_cons, List.map_nil, valP_cons, valP_nil, key_str, key_int, ofString_eq, String.reduceEq, putP, sizeLine_eq, Nat.reduceLT, Nat.reduceLeDiff, sto_self, mulOk, powOk, divOk, Int.reducePow, Nat.reducePow, Int.reduceNeg, Int.reduceLT, Int.reduceLE, natAbs64, natAbs30, Int.reduceToNat, Int.reduceEq, Int.reduceAdd, Int.reduceSub, Int.reduceMul, ne_eq, not_false_eq_true, Int.reduceNe, Ev.alloc, Ev.eq_ii, Ev.eq_ss, Ev.eq_bb, Ev.eq_nn, Ev.eq_ni, Ev.eq_in, Ev.eq_ns, Ev.eq_sn, Ev.eq_nb, Ev.eq_bn, Ev.eq_is, Ev.eq_si, and_self, true_and, and_true, fmod_lt64, fmod_gt64, atI_0, atI_1, atI_2, atI_3, atI_4, atI_5, atI_6, atI_7, atI_8, atI_9, seqOf, lstOf, slcV, revV, srcOf, optI, List.nil_append, List.cons_append, sto_new, intsP, sortI, insI, compL, compG, wipeP, boolsP, List.all_cons, List.all_nil, id_eq, keep_nil, maxI, minI, intsP, cutf_1, cutf_2, cutf_3, cutf_4, cutt_1, cutt_2, cutt_3, cutt_4, List.drop_succ_cons, List.drop_zero, List.take_succ_cons, List.take_zero, Int.cast_ofNat_Int, false_and, and_false, hc], .inl ⟨rfl, .inr ⟨_, rfl, ?_⟩⟩⟩
        have := dbl_stops h5 h6 m hd (k + 1 - m)
        rw [show m + (k + 1 - m) = k + 1 by omega] at this
        exact this)
  rcases hJ with rfl | ⟨f, rfl, e⟩
  · rfl
  · simp only [↓evE.eq_1, ↓evE.eq_2, ↓evE.eq_3, ↓evE.eq_4, ↓evE.eq_5, ↓evE.eq_6, ↓evE.eq_7, ↓evE.eq_8, ↓evE.eq_9, ↓evE.eq_10, ↓evE.eq_11, ↓evE.eq_12, ↓evE.eq_13, ↓evE.eq_14, ↓evE.eq_15, ↓evE.eq_16, ↓evE.eq_17, ↓evE.eq_18, ↓evE.eq_19, ↓evE.eq_20, ↓evE.eq_21, ↓evE.eq_22, ↓evE.eq_23, ↓evE.eq_24, ↓evE.eq_25, ↓evE.eq_26, ↓evE.eq_27, ↓evE.eq_28, ↓evE.eq_29, ↓evE.eq_30, ↓evE.eq_31, ↓evE.eq_32, ↓evS.eq_1, ↓evS_seq, ↓evS.eq_3, ↓evS.eq_4, ↓evS.eq_5, ↓evS.eq_6, ↓evS.eq_7, ↓evS.eq_8, ↓evS_ite, ↓iteS, ↓evS.eq_11, ↓evS.eq_12, ↓evS.eq_13, ↓evS.eq_14, ↓evS.eq_15, ↓evS.eq_16, ↓evS.eq_17, ↓evS_for, ↓evA.eq_1, ↓evA.eq_2, ↓evT.eq_1, ↓evT.eq_2, ↓evO.eq_1, ↓evO.eq_2, ↓evI.eq_1, ↓evI.eq_2, ↓evI.eq_3, ↓m_bind, ↓m_then, ↓m_opt, SRes.bind_nx, SRes.bind_rt, SRes.bind_bk, SRes.bind_ct, SRes.bind_ex, SRes.bind_bad, at_call, at_glo, at_fuel, SRes.back, List.getElem?_cons_zero, List.getElem?_cons_succ, List.set_cons_zero, List.set_cons_succ, asgT, asgTs, cmpV, truV, binV, bltV, tyN, tyLe, subV, Option.map_some, Option.map_none, List.any_cons, List.any_nil, if_true, if_false, ite_true, ite_false, String.reduceBEq, Nat.reduceAdd, Bool.or_false, Bool.false_or, Bool.or_true, Bool.true_or, Bool.and_true, Bool.true_and, Bool.and_false, Bool.false_and, Bool.not_true, Bool.not_false, beq_self_eq_true, decide_true, decide_false, reduceCtorEq, Bool.false_eq_true, keyOf, dctKeys, List.length_cons, List.length_nil, List.zip_cons_cons, List.zip_nil_left, List.zip_nil_right, List.foldl_cons, List.foldl_nil, methV, setV, isL, permL_cons, permL_nil, List.map_cons, List.map_nil, valP_cons, valP_nil, key_str, key_int, ofString_eq, String.reduceEq, putP, sizeLine_eq, Nat.reduceLT, Nat.reduceLeDiff, sto_self, mulOk, powOk, divOk, Int.reducePow, Nat.reducePow, Int.reduceNeg, Int.reduceLT, Int.reduceLE, natAbs64, natAbs30, Int.reduceToNat, Int.reduceEq, Int.reduceAdd, Int.reduceSub, Int.reduceMul, ne_eq, not_false_eq_true, Int.reduceNe, Ev.alloc, Ev.eq_ii, Ev.eq_ss, Ev.eq_bb, Ev.eq_nn, Ev.eq_ni, Ev.eq_in, Ev.eq_ns, Ev.eq_sn, Ev.eq_nb, Ev.eq_bn, Ev.eq_is, Ev.eq_si, and_self, true_and, and_true, fmod_lt64, fmod_gt64, atI_0, atI_1, atI_2, atI_3, atI_4, atI_5, atI_6, atI_7, atI_8, atI_9, seqOf, lstOf, slcV, revV, srcOf, optI, List.nil_append, List.cons_append, sto_new, intsP, sortI, insI, compL, compG, wipeP, boolsP, List.all_cons, List.all_nil, id_eq, keep_nil, maxI, minI, intsP, cutf_1, cutf_2, cutf_3, cutf_4, cutt_1, cutt_2, cutt_3, cutt_4, List.drop_succ_cons, List.drop_zero, List.take_succ_cons, List.take_zero, Int.cast_ofNat_Int, false_and, and_false, e]
/-- is the mark one? -/
def Mk (a b c d : Int) (up : Bool) (run wait due : Int) : Prop := 0 ≤ run ∧ run < (if up then b else a) ∧ wait ≤ due ∧ ((up = true ∨ 0 < run) ∧ wait = c ∨ up = false ∧ run = 0 ∧ ∃ k, k < 1000 ∧ wait = dbl c d (k + 1))
theorem mark_ok (n : Nat) (M : Sto) {a b c d : Int} (h : Rl a b c d) {up : Bool} {run wait due : Int} (m : Mk a b c d up run wait due) : ∃ M', callN T (n + 3) "is_mark_value" [rlV a b c d, mkV up run wait due] M = .ok (.bl true) M' ∧ Keep [] M M' := by
  obtain ⟨m1, m2, m3, m4⟩ := m
  have h0 := h
  obtain ⟨h1, h2, h3, h4, h5, h6, h7⟩ := h
  have w1 : 1 ≤ wait := by
    rcases m4 with ⟨_, e⟩ | ⟨_, _, k, _, e⟩
    · omega
    · rw [e]; exact dbl_pos h5 h6 _
  have w2 : 0 ≤ wait := by omega
  have w3 : 0 ≤ due := by omega
  rw [e_is_mark_value]
  unfold c_is_mark_value rlV mkV
  have w4 : 0 ≤ c := by omega
  have m5 : due < wait ↔ False := by simp; omega
  rcases up with _ | _
  · have m2' : run < a := by simpa using m2
    have m6 : a ≤ run ↔ False := by simp; omega
    rcases m4 with ⟨q, e⟩ | ⟨_, e, k, hk, e2⟩
    · have q' : 0 < run := by simpa using q
      subst e
      simp only [↓evE.eq_1, ↓evE.eq_2, ↓evE.eq_3, ↓evE.eq_4, ↓evE.eq_5, ↓evE.eq_6, ↓evE.eq_7, ↓evE.eq_8, ↓evE.eq_9, ↓evE.eq_10, ↓evE.eq_11, ↓evE.eq_12, ↓evE.eq_13, ↓evE.eq_14, ↓evE.eq_15, ↓evE.eq_16, ↓evE.eq_17, ↓evE.eq_18, ↓evE.eq_19, ↓evE.eq_20, ↓evE.eq_21, ↓evE.eq_22, ↓evE.eq_23, ↓evE.eq_24, ↓evE.eq_25, ↓evE.eq_26, ↓evE.eq_27, ↓evE.eq_28, ↓evE.eq_29, ↓evE.eq_30, ↓evE.eq_31, ↓evE.eq_32, ↓evS.eq_1, ↓evS_seq, ↓evS.eq_3, ↓evS.eq_4, ↓evS.eq_5, ↓evS.eq_6, ↓evS.eq_7, ↓evS.eq_8, ↓evS_ite, ↓iteS, ↓evS.eq_11, ↓evS.eq_12, ↓evS.eq_13, ↓evS.eq_14, ↓evS.eq_15, ↓evS.eq_16, ↓evS.eq_17, ↓evS_for, ↓evA.eq_1, ↓evA.eq_2, ↓evT.eq_1, ↓evT.eq_2, ↓evO.eq_1, ↓evO.eq_2, ↓evI.eq_1, ↓evI.eq_2, ↓evI.eq_3, ↓m_bind, ↓m_then, ↓m_opt, SRes.bind_nx, SRes.bind_rt, SRes.bind_bk, SRes.bind_ct, SRes.bind_ex, SRes.bind_bad, at_call, at_glo, at_fuel, SRes.back, List.getElem?_cons_zero, List.getElem?_cons_succ, List.set_cons_zero, List.set_cons_succ, asgT, asgTs, cmpV, truV, binV, bltV, tyN, tyLe, subV, Option.map_some, Option.map_none, List.any_cons, List.any_nil, if_true, if_false, ite_true, ite_false, String.reduceBEq, Nat.reduceAdd, Bool.or_false, Bool.false_or, Bool.or_true, Bool.true_or, Bool.and_true, Bool.true_and, Bool.and_false, Bool.false_and, Bool.not_true, Bool.not_false, beq_self_eq_true, decide_true, decide_false, reduceCtorEq, Bool.false_eq_true, keyOf, dctKeys, List.length_cons, List.length_nil, List.zip_cons_cons, List.zip_nil_left, List.zip_nil_right, List.foldl_cons, List.foldl_nil, methV, setV, isL, permL_cons, permL_nil, List.map_cons, List.map_nil, valP_cons, valP_nil, key_str, key_int, ofString_eq, String.reduceEq, putP, sizeLine_eq, Nat.reduceLT, Nat.reduceLeDiff, sto_self, mulOk, powOk, divOk, Int.reducePow, Nat.reducePow, Int.reduceNeg, Int.reduceLT, Int.reduceLE, natAbs64, natAbs30, Int.reduceToNat, Int.reduceEq, Int.reduceAdd, Int.reduceSub, Int.reduceMul, ne_eq, not_false_eq_true, Int.reduceNe, Ev.alloc, Ev.eq_ii, Ev.eq_ss, Ev.eq_bb, Ev.eq_nn, Ev.eq_ni, Ev.eq_in, Ev.eq_ns, Ev.eq_sn, Ev.eq_nb, Ev.eq_bn, Ev.eq_is, Ev.eq_si, and_self, true_and, and_true, fmod_lt64, fmod_gt64, atI_0, atI_1, atI_2, atI_3, atI_4, atI_5, atI_6, atI_7, atI_8, atI_9, seqOf, lstOf, slcV, revV, srcOf, optI, List.nil_append, List.cons_append, sto_new, intsP, sortI, insI, compL, compG, wipeP, boolsP, List.all_cons, List.all_nil, id_eq, keep_nil, maxI, minI, intsP, cutf_1, cutf_2, cutf_3, cutf_4, cutt_1, cutt_2, cutt_3, cutt_4, List.drop_succ_cons, List.drop_zero, List.take_succ_cons, List.take_zero, Int.cast_ofNat_Int, false_and, and_false, is_row_ok, is_count_ok, m1, w2, w3, m5, m6, q', w4]
      exact ⟨_, rfl, Keep.app⟩
    · subst e e2
      have hw := fun M => wait_ok (n + 1) M h0 k hk
      simp only [rlV] at hw
      simp only [↓evE.eq_1, ↓evE.eq_2, ↓evE.eq_3, ↓evE.eq_4, ↓evE.eq_5, ↓evE.eq_6, ↓evE.eq_7, ↓evE.eq_8, ↓evE.eq_9, ↓evE.eq_10, ↓evE.eq_11, ↓evE.eq_12, ↓evE.eq_13, ↓evE.eq_14, ↓evE.eq_15, ↓evE.eq_16, ↓evE.eq_17, ↓evE.eq_18, ↓evE.eq_19, ↓evE.eq_20, ↓evE.eq_21, ↓evE.eq_22, ↓evE.eq_23, ↓evE.eq_24, ↓evE.eq_25, ↓evE.eq_26, ↓evE.eq_27, ↓evE.eq_28, ↓evE.eq_29, ↓evE.eq_30, ↓evE.eq_31, ↓evE.eq_32, ↓evS.eq_1, ↓evS_seq, ↓evS.eq_3, ↓evS.eq_4, ↓evS.eq_5, ↓evS.eq_6, ↓evS.eq_7, ↓evS.eq_8, ↓evS_ite, ↓iteS, ↓evS.eq_11, ↓evS.eq_12, ↓evS.eq_13, ↓evS.eq_14, ↓evS.eq_15, ↓evS.eq_16, ↓evS.eq_17, ↓evS_for, ↓evA.eq_1, ↓evA.eq_2, ↓evT.eq_1, ↓evT.eq_2, ↓evO.eq_1, ↓evO.eq_2, ↓evI.eq_1, ↓evI.eq_2, ↓evI.eq_3, ↓m_bind, ↓m_then, ↓m_opt, SRes.bind_nx, SRes.bind_rt, SRes.bind_bk, SRes.bind_ct, SRes.bind_ex, SRes.bind_bad, at_call, at_glo, at_fuel, SRes.back, List.getElem?_cons_zero, List.getElem?_cons_succ, List.set_cons_zero, List.set_cons_succ, asgT, asgTs, cmpV, truV, binV, bltV, tyN, tyLe, subV, Option.map_some, Option.map_none, List.any_cons, List.any_nil, if_true, if_false, ite_true, ite_false, String.reduceBEq, Nat.reduceAdd, Bool.or_false, Bool.false_or, Bool.or_true, Bool.true_or, Bool.and_true, Bool.true_and, Bool.and_false, Bool.false_and, Bool.not_true, Bool.not_false, beq_self_eq_true, decide_true, decide_false, reduceCtorEq, Bool.false_eq_true, keyOf, dctKeys, List.length_cons, List.length_nil, List.zip_cons_cons, List.zip_nil_left, List.zip_nil_right, List.foldl_cons, List.foldl_nil, methV, setV, isL, permL_cons, permL_nil, List.map_cons, List.map_nil, valP_cons, valP_nil, key_str, key_int, ofString_eq, String.reduceEq, putP, sizeLine_eq, Nat.reduceLT, Nat.reduceLeDiff, sto_self, mulOk, powOk, divOk, Int.reducePow, Nat.reducePow, Int.reduceNeg, Int.reduceLT, Int.reduceLE, natAbs64, natAbs30, Int.reduceToNat, Int.reduceEq, Int.reduceAdd, Int.reduceSub, Int.reduceMul, ne_eq, not_false_eq_true, Int.reduceNe, Ev.alloc, Ev.eq_ii, Ev.eq_ss, Ev.eq_bb, Ev.eq_nn, Ev.eq_ni, Ev.eq_in, Ev.eq_ns, Ev.eq_sn, Ev.eq_nb, Ev.eq_bn, Ev.eq_is, Ev.eq_si, and_self, true_and, and_true, fmod_lt64, fmod_gt64, atI_0, atI_1, atI_2, atI_3, atI_4, atI_5, atI_6, atI_7, atI_8, atI_9, seqOf, lstOf, slcV, revV, srcOf, optI, List.nil_append, List.cons_append, sto_new, intsP, sortI, insI, compL, compG, wipeP, boolsP, List.all_cons, List.all_nil, id_eq, keep_nil, maxI, minI, intsP, cutf_1, cutf_2, cutf_3, cutf_4, cutt_1, cutt_2, cutt_3, cutt_4, List.drop_succ_cons, List.drop_zero, List.take_succ_cons, List.take_zero, Int.cast_ofNat_Int, false_and, and_false, is_row_ok, is_count_ok, m1, w2, w3, m5, m6, hw]
      exact ⟨_, rfl, Keep.app⟩
  · have m2' : run < b := by simpa using m2
    have m6 : b ≤ run ↔ False := by simp; omega
    have e : wait = c := by
      rcases m4 with ⟨_, e⟩ | ⟨e, _⟩
      · exact e
      · cases e
    subst e
    simp only [↓evE.eq_1, ↓evE.eq_2, ↓evE.eq_3, ↓evE.eq_4, ↓evE.eq_5, ↓evE.eq_6, ↓evE.eq_7, ↓evE.eq_8, ↓evE.eq_9, ↓evE.eq_10, ↓evE.eq_11, ↓evE.eq_12, ↓evE.eq_13, ↓evE.eq_14, ↓evE.eq_15, ↓evE.eq_16, ↓evE.eq_17, ↓evE.eq_18, ↓evE.eq_19, ↓evE.eq_20, ↓evE.eq_21, ↓evE.eq_22, ↓evE.eq_23, ↓evE.eq_24, ↓evE.eq_25, ↓evE.eq_26, ↓evE.eq_27, ↓evE.eq_28, ↓evE.eq_29, ↓evE.eq_30, ↓evE.eq_31, ↓evE.eq_32, ↓evS.eq_1, ↓evS_seq, ↓evS.eq_3, ↓evS.eq_4, ↓evS.eq_5, ↓evS.eq_6, ↓evS.eq_7, ↓evS.eq_8, ↓evS_ite, ↓iteS, ↓evS.eq_11, ↓evS.eq_12, ↓evS.eq_13, ↓evS.eq_14, ↓evS.eq_15, ↓evS.eq_16, ↓evS.eq_17, ↓evS_for, ↓evA.eq_1, ↓evA.eq_2, ↓evT.eq_1, ↓evT.eq_2, ↓evO.eq_1, ↓evO.eq_2, ↓evI.eq_1, ↓evI.eq_2, ↓evI.eq_3, ↓m_bind, ↓m_then, ↓m_opt, SRes.bind_nx, SRes.bind_rt, SRes.bind_bk, SRes.bind_ct, SRes.bind_ex, SRes.bind_bad, at_call, at_glo, at_fuel, SRes.back, List.getElem?_cons_zero, List.getElem?_cons_succ, List.set_cons_zero, List.set_cons_succ, asgT, asgTs, cmpV, truV, binV, bltV, tyN, tyLe, subV, Option.map_some, Option.map_none, List.any_cons, List.any_nil, if_true, if_false, ite_true, ite_false, String.reduceBEq, Nat.reduceAdd, Bool.or_false, Bool.false_or, Bool.or_true, Bool.true_or, Bool.and_true, Bool.true_and, Bool.and_false, Bool.false_and, Bool.not_true, Bool.not_false, beq_self_eq_true, decide_true, decide_false, reduceCtorEq, Bool.false_eq_true, keyOf, dctKeys, List.length_cons, List.length_nil, List.zip_cons_cons, List.zip_nil_left, List.zip_nil_right, List.foldl_cons, List.foldl_nil, methV, setV, isL, permL_cons, permL_nil, List.map_cons, List.map_nil, valP_cons, valP_nil, key_str, key_int, ofString_eq, String.reduceEq, putP, sizeLine_eq, Nat.reduceLT, Nat.reduceLeDiff, sto_self, mulOk, powOk, divOk, Int.reducePow, Nat.reducePow, Int.reduceNeg, Int.reduceLT, Int.reduceLE, natAbs64, natAbs30, Int.reduceToNat, Int.reduceEq, Int.reduceAdd, Int.reduceSub, Int.reduceMul, ne_eq, not_false_eq_true, Int.reduceNe, Ev.alloc, Ev.eq_ii, Ev.eq_ss, Ev.eq_bb, Ev.eq_nn, Ev.eq_ni, Ev.eq_in, Ev.eq_ns, Ev.eq_sn, Ev.eq_nb, Ev.eq_bn, Ev.eq_is, Ev.eq_si, and_self, true_and, and_true, fmod_lt64, fmod_gt64, atI_0, atI_1, atI_2, atI_3, atI_4, atI_5, atI_6, atI_7, atI_8, atI_9, seqOf, lstOf, slcV, revV, srcOf, optI, List.nil_append, List.cons_append, sto_new, intsP, sortI, insI, compL, compG, wipeP, boolsP, List.all_cons, List.all_nil, id_eq, keep_nil, maxI, minI, intsP, cutf_1, cutf_2, cutf_3, cutf_4, cutt_1, cutt_2, cutt_3, cutt_4, List.drop_succ_cons, List.drop_zero, List.take_succ_cons, List.take_zero, Int.cast_ofNat_Int, false_and, and_false, is_row_ok, is_count_ok, m1, w2, w3, m5, m6, w4]
    exact ⟨_, rfl, Keep.app⟩
theorem need_mark_ok (n : Nat) (M : Sto) {a b c d : Int} (h : Rl a b c d) {up : Bool} {run wait due : Int} (m : Mk a b c d up run wait due) : ∃ M', callN T (n + 5) "need_mark" [rlV a b c d, mkV up run wait due] M = .ok .non M' ∧ Keep [] M M' := by
  obtain ⟨M1, e, k⟩ := need_rule_ok n M h
  obtain ⟨M2, e2, k2⟩ := mark_ok (n + 1) M1 h m
  rw [e_need_mark]
  unfold c_need_mark
  simp only [↓evE.eq_1, ↓evE.eq_2, ↓evE.eq_3, ↓evE.eq_4, ↓evE.eq_5, ↓evE.eq_6, ↓evE.eq_7, ↓evE.eq_8, ↓evE.eq_9, ↓evE.eq_10, ↓evE.eq_11, ↓evE.eq_12, ↓evE.eq_13, ↓evE.eq_14, ↓evE.eq_15, ↓evE.eq_16, ↓evE.eq_17, ↓evE.eq_18, ↓evE.eq_19, ↓evE.eq_20, ↓evE.eq_21, ↓evE.eq_22, ↓evE.eq_23, ↓evE.eq_24, ↓evE.eq_25, ↓evE.eq_26, ↓evE.eq_27, ↓evE.eq_28, ↓evE.eq_29, ↓evE.eq_30, ↓evE.eq_31, ↓evE.eq_32, ↓evS.eq_1, ↓evS_seq, ↓evS.eq_3, ↓evS.eq_4, ↓evS.eq_5, ↓evS.eq_6, ↓evS.eq_7, ↓evS.eq_8, ↓evS_ite, ↓iteS, ↓evS.eq_11, ↓evS.eq_12, ↓evS.eq_13, ↓evS.eq_14, ↓evS.eq_15, ↓evS.eq_16, ↓evS.eq_17, ↓evS_for, ↓evA.eq_1, ↓evA.eq_2, ↓evT.eq_1, ↓evT.eq_2, ↓evO.eq_1, ↓evO.eq_2, ↓evI.eq_1, ↓evI.eq_2, ↓evI.eq_3, ↓m_bind, ↓m_then, ↓m_opt, SRes.bind_nx, SRes.bind_rt, SRes.bind_bk, SRes.bind_ct, SRes.bind_ex, SRes.bind_bad, at_call, at_glo, at_fuel, SRes.back, List.getElem?_cons_zero, List.getElem?_cons_succ, List.set_cons_zero, List.set_cons_succ, asgT, asgTs, cmpV, truV, binV, bltV, tyN, tyLe, subV, Option.map_some, Option.map_none, List.any_cons, List.any_nil, if_true, if_false, ite_true, ite_false, String.reduceBEq, Nat.reduceAdd, Bool.or_false, Bool.false_or, Bool.or_true, Bool.true_or, Bool.and_true, Bool.true_and, Bool.and_false, Bool.false_and, Bool.not_true, Bool.not_false, beq_self_eq_true, decide_true, decide_false, reduceCtorEq, Bool.false_eq_true, keyOf, dctKeys, List.length_cons, List.length_nil, List.zip_cons_cons, List.zip_nil_left, List.zip_nil_right, List.foldl_cons, List.foldl_nil, methV, setV, isL, permL_cons, permL_nil, List.map_cons, List.map_nil, valP_cons, valP_nil, key_str, key_int, ofString_eq, String.reduceEq, putP, sizeLine_eq, Nat.reduceLT, Nat.reduceLeDiff, sto_self, mulOk, powOk, divOk, Int.reducePow, Nat.reducePow, Int.reduceNeg, Int.reduceLT, Int.reduceLE, natAbs64, natAbs30, Int.reduceToNat, Int.reduceEq, Int.reduceAdd, Int.reduceSub, Int.reduceMul, ne_eq, not_false_eq_true, Int.reduceNe, Ev.alloc, Ev.eq_ii, Ev.eq_ss, Ev.eq_bb, Ev.eq_nn, Ev.eq_ni, Ev.eq_in, Ev.eq_ns, Ev.eq_sn, Ev.eq_nb, Ev.eq_bn, Ev.eq_is, Ev.eq_si, and_self, true_and, and_true, fmod_lt64, fmod_gt64, atI_0, atI_1, atI_2, atI_3, atI_4, atI_5, atI_6, atI_7, atI_8, atI_9, seqOf, lstOf, slcV, revV, srcOf, optI, List.nil_append, List.cons_append, sto_new, intsP, sortI, insI, compL, compG, wipeP, boolsP, List.all_cons, List.all_nil, id_eq, keep_nil, maxI, minI, intsP, cutf_1, cutf_2, cutf_3, cutf_4, cutt_1, cutt_2, cutt_3, cutt_4, List.drop_succ_cons, List.drop_zero, List.take_succ_cons, List.take_zero, Int.cast_ofNat_Int, false_and, and_false, e, e2]
  exact ⟨_, rfl, k.trans k2⟩
theorem is_mark_ok (n : Nat) (M : Sto) {a b c d : Int} (h : Rl a b c d) {up : Bool} {run wait due : Int} (m : Mk a b c d up run wait due) : ∃ M', callN T (n + 5) "is_mark" [rlV a b c d, mkV up run wait due] M = .ok (.bl true) M' ∧ Keep [] M M' := by
  obtain ⟨M1, e, k⟩ := need_rule_ok n M h
  obtain ⟨M2, e2, k2⟩ := mark_ok (n + 1) M1 h m
  rw [e_is_mark]
  unfold c_is_mark
  simp only [↓evE.eq_1, ↓evE.eq_2, ↓evE.eq_3, ↓evE.eq_4, ↓evE.eq_5, ↓evE.eq_6, ↓evE.eq_7, ↓evE.eq_8, ↓evE.eq_9, ↓evE.eq_10, ↓evE.eq_11, ↓evE.eq_12, ↓evE.eq_13, ↓evE.eq_14, ↓evE.eq_15, ↓evE.eq_16, ↓evE.eq_17, ↓evE.eq_18, ↓evE.eq_19, ↓evE.eq_20, ↓evE.eq_21, ↓evE.eq_22, ↓evE.eq_23, ↓evE.eq_24, ↓evE.eq_25, ↓evE.eq_26, ↓evE.eq_27, ↓evE.eq_28, ↓evE.eq_29, ↓evE.eq_30, ↓evE.eq_31, ↓evE.eq_32, ↓evS.eq_1, ↓evS_seq, ↓evS.eq_3, ↓evS.eq_4, ↓evS.eq_5, ↓evS.eq_6, ↓evS.eq_7, ↓evS.eq_8, ↓evS_ite, ↓iteS, ↓evS.eq_11, ↓evS.eq_12, ↓evS.eq_13, ↓evS.eq_14, ↓evS.eq_15, ↓evS.eq_16, ↓evS.eq_17, ↓evS_for, ↓evA.eq_1, ↓evA.eq_2, ↓evT.eq_1, ↓evT.eq_2, ↓evO.eq_1, ↓evO.eq_2, ↓evI.eq_1, ↓evI.eq_2, ↓evI.eq_3, ↓m_bind, ↓m_then, ↓m_opt, SRes.bind_nx, SRes.bind_rt, SRes.bind_bk, SRes.bind_ct, SRes.bind_ex, SRes.bind_bad, at_call, at_glo, at_fuel, SRes.back, List.getElem?_cons_zero, List.getElem?_cons_succ, List.set_cons_zero, List.set_cons_succ, asgT, asgTs, cmpV, truV, binV, bltV, tyN, tyLe, subV, Option.map_some, Option.map_none, List.any_cons, List.any_nil, if_true, if_false, ite_true, ite_false, String.reduceBEq, Nat.reduceAdd, Bool.or_false, Bool.false_or, Bool.or_true, Bool.true_or, Bool.and_true, Bool.true_and, Bool.and_false, Bool.false_and, Bool.not_true, Bool.not_false, beq_self_eq_true, decide_true, decide_false, reduceCtorEq, Bool.false_eq_true, keyOf, dctKeys, List.length_cons, List.length_nil, List.zip_cons_cons, List.zip_nil_left, List.zip_nil_right, List.foldl_cons, List.foldl_nil, methV, setV, isL, permL_cons, permL_nil, List.map_cons, List.map_nil, valP_cons, valP_nil, key_str, key_int, ofString_eq, String.reduceEq, putP, sizeLine_eq, Nat.reduceLT, Nat.reduceLeDiff, sto_self, mulOk, powOk, divOk, Int.reducePow, Nat.reducePow, Int.reduceNeg, Int.reduceLT, Int.reduceLE, natAbs64, natAbs30, Int.reduceToNat, Int.reduceEq, Int.reduceAdd, Int.reduceSub, Int.reduceMul, ne_eq, not_false_eq_true, Int.reduceNe, Ev.alloc, Ev.eq_ii, Ev.eq_ss, Ev.eq_bb, Ev.eq_nn, Ev.eq_ni, Ev.eq_in, Ev.eq_ns, Ev.eq_sn, Ev.eq_nb, Ev.eq_bn, Ev.eq_is, Ev.eq_si, and_self, true_and, and_true, fmod_lt64, fmod_gt64, atI_0, atI_1, atI_2, atI_3, atI_4, atI_5, atI_6, atI_7, atI_8, atI_9, seqOf, lstOf, slcV, revV, srcOf, optI, List.nil_append, List.cons_append, sto_new, intsP, sortI, insI, compL, compG, wipeP, boolsP, List.all_cons, List.all_nil, id_eq, keep_nil, maxI, minI, intsP, cutf_1, cutf_2, cutf_3, cutf_4, cutt_1, cutt_2, cutt_3, cutt_4, List.drop_succ_cons, List.drop_zero, List.take_succ_cons, List.take_zero, Int.cast_ofNat_Int, false_and, and_false, e, e2]
  exact ⟨_, rfl, k.trans k2⟩
theorem need_time_ok (n : Nat) (M : Sto) {now : Int} (h : 0 ≤ now) : callN T (n + 3) "need_time" [.int now] M = .ok .non M := by
  rw [e_need_time]
  unfold c_need_time
  simp only [↓evE.eq_1, ↓evE.eq_2, ↓evE.eq_3, ↓evE.eq_4, ↓evE.eq_5, ↓evE.eq_6, ↓evE.eq_7, ↓evE.eq_8, ↓evE.eq_9, ↓evE.eq_10, ↓evE.eq_11, ↓evE.eq_12, ↓evE.eq_13, ↓evE.eq_14, ↓evE.eq_15, ↓evE.eq_16, ↓evE.eq_17, ↓evE.eq_18, ↓evE.eq_19, ↓evE.eq_20, ↓evE.eq_21, ↓evE.eq_22, ↓evE.eq_23, ↓evE.eq_24, ↓evE.eq_25, ↓evE.eq_26, ↓evE.eq_27, ↓evE.eq_28, ↓evE.eq_29, ↓evE.eq_30, ↓evE.eq_31, ↓evE.eq_32, ↓evS.eq_1, ↓evS_seq, ↓evS.eq_3, ↓evS.eq_4, ↓evS.eq_5, ↓evS.eq_6, ↓evS.eq_7, ↓evS.eq_8, ↓evS_ite, ↓iteS, ↓evS.eq_11, ↓evS.eq_12, ↓evS.eq_13, ↓evS.eq_14, ↓evS.eq_15, ↓evS.eq_16, ↓evS.eq_17, ↓evS_for, ↓evA.eq_1, ↓evA.eq_2, ↓evT.eq_1, ↓evT.eq_2, ↓evO.eq_1, ↓evO.eq_2, ↓evI.eq_1, ↓evI.eq_2, ↓evI.eq_3, ↓m_bind, ↓m_then, ↓m_opt, SRes.bind_nx, SRes.bind_rt, SRes.bind_bk, SRes.bind_ct, SRes.bind_ex, SRes.bind_bad, at_call, at_glo, at_fuel, SRes.back, List.getElem?_cons_zero, List.getElem?_cons_succ, List.set_cons_zero, List.set_cons_succ, asgT, asgTs, cmpV, truV, binV, bltV, tyN, tyLe, subV, Option.map_some, Option.map_none, List.any_cons, List.any_nil, if_true, if_false, ite_true, ite_false, String.reduceBEq, Nat.reduceAdd, Bool.or_false, Bool.false_or, Bool.or_true, Bool.true_or, Bool.and_true, Bool.true_and, Bool.and_false, Bool.false_and, Bool.not_true, Bool.not_false, beq_self_eq_true, decide_true, decide_false, reduceCtorEq, Bool.false_eq_true, keyOf, dctKeys, List.length_cons, List.length_nil, List.zip_cons_cons, List.zip_nil_left, List.zip_nil_right, List.foldl_cons, List.foldl_nil, methV, setV, isL, permL_cons, permL_nil, List.map_cons, List.map_nil, valP_cons, valP_nil, key_str, key_int, ofString_eq, String.reduceEq, putP, sizeLine_eq, Nat.reduceLT, Nat.reduceLeDiff, sto_self, mulOk, powOk, divOk, Int.reducePow, Nat.reducePow, Int.reduceNeg, Int.reduceLT, Int.reduceLE, natAbs64, natAbs30, Int.reduceToNat, Int.reduceEq, Int.reduceAdd, Int.reduceSub, Int.reduceMul, ne_eq, not_false_eq_true, Int.reduceNe, Ev.alloc, Ev.eq_ii, Ev.eq_ss, Ev.eq_bb, Ev.eq_nn, Ev.eq_ni, Ev.eq_in, Ev.eq_ns, Ev.eq_sn, Ev.eq_nb, Ev.eq_bn, Ev.eq_is, Ev.eq_si, and_self, true_and, and_true, fmod_lt64, fmod_gt64, atI_0, atI_1, atI_2, atI_3, atI_4, atI_5, atI_6, atI_7, atI_8, atI_9, seqOf, lstOf, slcV, revV, srcOf, optI, List.nil_append, List.cons_append, sto_new, intsP, sortI, insI, compL, compG, wipeP, boolsP, List.all_cons, List.all_nil, id_eq, keep_nil, maxI, minI, intsP, cutf_1, cutf_2, cutf_3, cutf_4, cutt_1, cutt_2, cutt_3, cutt_4, List.drop_succ_cons, List.drop_zero, List.take_succ_cons, List.take_zero, Int.cast_ofNat_Int, false_and, and_false, is_count_ok, h]
theorem is_due_ok (n : Nat) (M : Sto) {a b c d : Int} (h : Rl a b c d) {up : Bool} {run wait due now : Int} (m : Mk a b c d up run wait due) (hn : 0 ≤ now) : ∃ M', callN T (n + 6) "is_due" [rlV a b c d, mkV up run wait due, .int now] M = .ok (.bl (decide (due ≤ now))) M' ∧ Keep [] M M' := by
  obtain ⟨M1, e, k⟩ := need_mark_ok n M h m
  rw [e_is_due]
  unfold c_is_due
  simp only [↓evE.eq_1, ↓evE.eq_2, ↓evE.eq_3, ↓evE.eq_4, ↓evE.eq_5, ↓evE.eq_6, ↓evE.eq_7, ↓evE.eq_8, ↓evE.eq_9, ↓evE.eq_10, ↓evE.eq_11, ↓evE.eq_12, ↓evE.eq_13, ↓evE.eq_14, ↓evE.eq_15, ↓evE.eq_16, ↓evE.eq_17, ↓evE.eq_18, ↓evE.eq_19, ↓evE.eq_20, ↓evE.eq_21, ↓evE.eq_22, ↓evE.eq_23, ↓evE.eq_24, ↓evE.eq_25, ↓evE.eq_26, ↓evE.eq_27, ↓evE.eq_28, ↓evE.eq_29, ↓evE.eq_30, ↓evE.eq_31, ↓evE.eq_32, ↓evS.eq_1, ↓evS_seq, ↓evS.eq_3, ↓evS.eq_4, ↓evS.eq_5, ↓evS.eq_6, ↓evS.eq_7, ↓evS.eq_8, ↓evS_ite, ↓iteS, ↓evS.eq_11, ↓evS.eq_12, ↓evS.eq_13, ↓evS.eq_14, ↓evS.eq_15, ↓evS.eq_16, ↓evS.eq_17, ↓evS_for, ↓evA.eq_1, ↓evA.eq_2, ↓evT.eq_1, ↓evT.eq_2, ↓evO.eq_1, ↓evO.eq_2, ↓evI.eq_1, ↓evI.eq_2, ↓evI.eq_3, ↓m_bind, ↓m_then, ↓m_opt, SRes.bind_nx, SRes.bind_rt, SRes.bind_bk, SRes.bind_ct, SRes.bind_ex, SRes.bind_bad, at_call, at_glo, at_fuel, SRes.back, List.getElem?_cons_zero, List.getElem?_cons_succ, List.set_cons_zero, List.set_cons_succ, asgT, asgTs, cmpV, truV, binV, bltV, tyN, tyLe, subV, Option.map_some, Option.map_none, List.any_cons, List.any_nil, if_true, if_false, ite_true, ite_false, String.reduceBEq, Nat.reduceAdd, Bool.or_false, Bool.false_or, Bool.or_true, Bool.true_or, Bool.and_true, Bool.true_and, Bool.and_false, Bool.false_and, Bool.not_true, Bool.not_false, beq_self_eq_true, decide_true, decide_false, reduceCtorEq, Bool.false_eq_true, keyOf, dctKeys, List.length_cons, List.length_nil, List.zip_cons_cons, List.zip_nil_left, List.zip_nil_right, List.foldl_cons, List.foldl_nil, methV, setV, isL, permL_cons, permL_nil, List.map_cons, List.map_nil, valP_cons, valP_nil, key_str, key_int, ofString_eq, String.reduceEq, putP, sizeLine_eq, Nat.reduceLT, Nat.reduceLeDiff, sto_self, mulOk, powOk, divOk, Int.reducePow, Nat.reducePow, Int.reduceNeg, Int.reduceLT, Int.reduceLE, natAbs64, natAbs30, Int.reduceToNat, Int.reduceEq, Int.reduceAdd, Int.reduceSub, Int.reduceMul, ne_eq, not_false_eq_true, Int.reduceNe, Ev.alloc, Ev.eq_ii, Ev.eq_ss, Ev.eq_bb, Ev.eq_nn, Ev.eq_ni, Ev.eq_in, Ev.eq_ns, Ev.eq_sn, Ev.eq_nb, Ev.eq_bn, Ev.eq_is, Ev.eq_si, and_self, true_and, and_true, fmod_lt64, fmod_gt64, atI_0, atI_1, atI_2, atI_3, atI_4, atI_5, atI_6, atI_7, atI_8, atI_9, seqOf, lstOf, slcV, revV, srcOf, optI, List.nil_append, List.cons_append, sto_new, intsP, sortI, insI, compL, compG, wipeP, boolsP, List.all_cons, List.all_nil, id_eq, keep_nil, maxI, minI, intsP, cutf_1, cutf_2, cutf_3, cutf_4, cutt_1, cutt_2, cutt_3, cutt_4, List.drop_succ_cons, List.drop_zero, List.take_succ_cons, List.take_zero, Int.cast_ofNat_Int, false_and, and_false, e, need_time_ok, hn]
  rw [e_is_look_due]
  unfold c_is_look_due mkV
  simp only [↓evE.eq_1, ↓evE.eq_2, ↓evE.eq_3, ↓evE.eq_4, ↓evE.eq_5, ↓evE.eq_6, ↓evE.eq_7, ↓evE.eq_8, ↓evE.eq_9, ↓evE.eq_10, ↓evE.eq_11, ↓evE.eq_12, ↓evE.eq_13, ↓evE.eq_14, ↓evE.eq_15, ↓evE.eq_16, ↓evE.eq_17, ↓evE.eq_18, ↓evE.eq_19, ↓evE.eq_20, ↓evE.eq_21, ↓evE.eq_22, ↓evE.eq_23, ↓evE.eq_24, ↓evE.eq_25, ↓evE.eq_26, ↓evE.eq_27, ↓evE.eq_28, ↓evE.eq_29, ↓evE.eq_30, ↓evE.eq_31, ↓evE.eq_32, ↓evS.eq_1, ↓evS_seq, ↓evS.eq_3, ↓evS.eq_4, ↓evS.eq_5, ↓evS.eq_6, ↓evS.eq_7, ↓evS.eq_8, ↓evS_ite, ↓iteS, ↓evS.eq_11, ↓evS.eq_12, ↓evS.eq_13, ↓evS.eq_14, ↓evS.eq_15, ↓evS.eq_16, ↓evS.eq_17, ↓evS_for, ↓evA.eq_1, ↓evA.eq_2, ↓evT.eq_1, ↓evT.eq_2, ↓evO.eq_1, ↓evO.eq_2, ↓evI.eq_1, ↓evI.eq_2, ↓evI.eq_3, ↓m_bind, ↓m_then, ↓m_opt, SRes.bind_nx, SRes.bind_rt, SRes.bind_bk, SRes.bind_ct, SRes.bind_ex, SRes.bind_bad, at_call, at_glo, at_fuel, SRes.back, List.getElem?_cons_zero, List.getElem?_cons_succ, List.set_cons_zero, List.set_cons_succ, asgT, asgTs, cmpV, truV, binV, bltV, tyN, tyLe, subV, Option.map_some, Option.map_none, List.any_cons, List.any_nil, if_true, if_false, ite_true, ite_false, String.reduceBEq, Nat.reduceAdd, Bool.or_false, Bool.false_or, Bool.or_true, Bool.true_or, Bool.and_true, Bool.true_and, Bool.and_false, Bool.false_and, Bool.not_true, Bool.not_false, beq_self_eq_true, decide_true, decide_false, reduceCtorEq, Bool.false_eq_true, keyOf, dctKeys, List.length_cons, List.length_nil, List.zip_cons_cons, List.zip_nil_left, List.zip_nil_right, List.foldl_cons, List.foldl_nil, methV, setV, isL, permL_cons, permL_nil, List.map_cons, List.map_nil, valP_cons, valP_nil, key_str, key_int, ofString_eq, String.reduceEq, putP, sizeLine_eq, Nat.reduceLT, Nat.reduceLeDiff, sto_self, mulOk, powOk, divOk, Int.reducePow, Nat.reducePow, Int.reduceNeg, Int.reduceLT, Int.reduceLE, natAbs64, natAbs30, Int.reduceToNat, Int.reduceEq, Int.reduceAdd, Int.reduceSub, Int.reduceMul, ne_eq, not_false_eq_true, Int.reduceNe, Ev.alloc, Ev.eq_ii, Ev.eq_ss, Ev.eq_bb, Ev.eq_nn, Ev.eq_ni, Ev.eq_in, Ev.eq_ns, Ev.eq_sn, Ev.eq_nb, Ev.eq_bn, Ev.eq_is, Ev.eq_si, and_self, true_and, and_true, fmod_lt64, fmod_gt64, atI_0, atI_1, atI_2, atI_3, atI_4, atI_5, atI_6, atI_7, atI_8, atI_9, seqOf, lstOf, slcV, revV, srcOf, optI, List.nil_append, List.cons_append, sto_new, intsP, sortI, insI, compL, compG, wipeP, boolsP, List.all_cons, List.all_nil, id_eq, keep_nil, maxI, minI, intsP, cutf_1, cutf_2, cutf_3, cutf_4, cutt_1, cutt_2, cutt_3, cutt_4, List.drop_succ_cons, List.drop_zero, List.take_succ_cons, List.take_zero, Int.cast_ofNat_Int, false_and, and_false]
  exact ⟨_, rfl, k⟩
/-- what a look makes of a mark -/
def nx (a b c d : Int) (up : Bool) (run wait : Int) (good : Bool) : Bool × Int × Int :=
  let run1 := if good = up then 0 else run + 1
  let t := decide (run1 = if up then b else a)
  let up1 := if t then !up else up
  (up1, if t then 0 else run1, if good || up1 then c else if d < 2 * wait then d else 2 * wait)
theorem looked_ok (n : Nat) (M : Sto) {a b c d : Int} (h : Rl a b c d) {up : Bool} {run wait due now : Int} (m : Mk a b c d up run wait due) (hn : 0 ≤ now) (good : Bool) :
    ∃ M', callN T (n + 6) "looked" [rlV a b c d, mkV up run wait due, .bl good, .int now] M = .ok (mkV (nx a b c d up run wait good).1 (nx a b c d up run wait good).2.1 (nx a b c d up run wait good).2.2 (now + (nx a b c d up run wait good).2.2)) M' ∧ Keep [] M M' := by
  obtain ⟨M1, e, k⟩ := need_mark_ok n M h m
  rw [e_looked]
  unfold c_looked
  simp only [↓evE.eq_1, ↓evE.eq_2, ↓evE.eq_3, ↓evE.eq_4, ↓evE.eq_5, ↓evE.eq_6, ↓evE.eq_7, ↓evE.eq_8, ↓evE.eq_9, ↓evE.eq_10, ↓evE.eq_11, ↓evE.eq_12, ↓evE.eq_13, ↓evE.eq_14, ↓evE.eq_15, ↓evE.eq_16, ↓evE.eq_17, ↓evE.eq_18, ↓evE.eq_19, ↓evE.eq_20, ↓evE.eq_21, ↓evE.eq_22, ↓evE.eq_23, ↓evE.eq_24, ↓evE.eq_25, ↓evE.eq_26, ↓evE.eq_27, ↓evE.eq_28, ↓evE.eq_29, ↓evE.eq_30, ↓evE.eq_31, ↓evE.eq_32, ↓evS.eq_1, ↓evS_seq, ↓evS.eq_3, ↓evS.eq_4, ↓evS.eq_5, ↓evS.eq_6, ↓evS.eq_7, ↓evS.eq_8, ↓evS_ite, ↓iteS, ↓evS.eq_11, ↓evS.eq_12, ↓evS.eq_13, ↓evS.eq_14, ↓evS.eq_15, ↓evS.eq_16, ↓evS.eq_17, ↓evS_for, ↓evA.eq_1, ↓evA.eq_2, ↓evT.eq_1, ↓evT.eq_2, ↓evO.eq_1, ↓evO.eq_2, ↓evI.eq_1, ↓evI.eq_2, ↓evI.eq_3, ↓m_bind, ↓m_then, ↓m_opt, SRes.bind_nx, SRes.bind_rt, SRes.bind_bk, SRes.bind_ct, SRes.bind_ex, SRes.bind_bad, at_call, at_glo, at_fuel, SRes.back, List.getElem?_cons_zero, List.getElem?_cons_succ, List.set_cons_zero, List.set_cons_succ, asgT, asgTs, cmpV, truV, binV, bltV, tyN, tyLe, subV, Option.map_some, Option.map_none, List.any_cons, List.any_nil, if_true, if_false, ite_true, ite_false, String.reduceBEq, Nat.reduceAdd, Bool.or_false, Bool.false_or, Bool.or_true, Bool.true_or, Bool.and_true, Bool.true_and, Bool.and_false, Bool.false_and, Bool.not_true, Bool.not_false, beq_self_eq_true, decide_true, decide_false, reduceCtorEq, Bool.false_eq_true, keyOf, dctKeys, List.length_cons, List.length_nil, List.zip_cons_cons, List.zip_nil_left, List.zip_nil_right, List.foldl_cons, List.foldl_nil, methV, setV, isL, permL_cons, permL_nil, List.map_cons, List.map_nil, valP_cons, valP_nil, key_str, key_int, ofString_eq, String.reduceEq, putP, sizeLine_eq, Nat.reduceLT, Nat.reduceLeDiff, sto_self, mulOk, powOk, divOk, Int.reducePow, Nat.reducePow, Int.reduceNeg, Int.reduceLT, Int.reduceLE, natAbs64, natAbs30, Int.reduceToNat, Int.reduceEq, Int.reduceAdd, Int.reduceSub, Int.reduceMul, ne_eq, not_false_eq_true, Int.reduceNe, Ev.alloc, Ev.eq_ii, Ev.eq_ss, Ev.eq_bb, Ev.eq_nn, Ev.eq_ni, Ev.eq_in, Ev.eq_ns, Ev.eq_sn, Ev.eq_nb, Ev.eq_bn, Ev.eq_is, Ev.eq_si, and_self, true_and, and_true, fmod_lt64, fmod_gt64, atI_0, atI_1, atI_2, atI_3, atI_4, atI_5, atI_6, atI_7, atI_8, atI_9, seqOf, lstOf, slcV, revV, srcOf, optI, List.nil_append, List.cons_append, sto_new, intsP, sortI, insI, compL, compG, wipeP, boolsP, List.all_cons, List.all_nil, id_eq, keep_nil, maxI, minI, intsP, cutf_1, cutf_2, cutf_3, cutf_4, cutt_1, cutt_2, cutt_3, cutt_4, List.drop_succ_cons, List.drop_zero, List.take_succ_cons, List.take_zero, Int.cast_ofNat_Int, false_and, and_false, e, need_time_ok, hn]
  rw [e_mark_after]
  have z1 : ((0 : Int) = a) = False := eq_false (by obtain ⟨_, _⟩ := h; omega)
  have z2 : ((0 : Int) = b) = False := eq_false (by obtain ⟨_, _, _, _⟩ := h; omega)
  unfold c_mark_after mkV rlV nx
  rcases good with _ | _ <;> rcases up with _ | _
  · simp only [↓evE.eq_1, ↓evE.eq_2, ↓evE.eq_3, ↓evE.eq_4, ↓evE.eq_5, ↓evE.eq_6, ↓evE.eq_7, ↓evE.eq_8, ↓evE.eq_9, ↓evE.eq_10, ↓evE.eq_11, ↓evE.eq_12, ↓evE.eq_13, ↓evE.eq_14, ↓evE.eq_15, ↓evE.eq_16, ↓evE.eq_17, ↓evE.eq_18, ↓evE.eq_19, ↓evE.eq_20, ↓evE.eq_21, ↓evE.eq_22, ↓evE.eq_23, ↓evE.eq_24, ↓evE.eq_25, ↓evE.eq_26, ↓evE.eq_27, ↓evE.eq_28, ↓evE.eq_29, ↓evE.eq_30, ↓evE.eq_31, ↓evE.eq_32, ↓evS.eq_1, ↓evS_seq, ↓evS.eq_3, ↓evS.eq_4, ↓evS.eq_5, ↓evS.eq_6, ↓evS.eq_7, ↓evS.eq_8, ↓evS_ite, ↓iteS, ↓evS.eq_11, ↓evS.eq_12, ↓evS.eq_13, ↓evS.eq_14, ↓evS.eq_15, ↓evS.eq_16, ↓evS.eq_17, ↓evS_for, ↓evA.eq_1, ↓evA.eq_2, ↓evT.eq_1, ↓evT.eq_2, ↓evO.eq_1, ↓evO.eq_2, ↓evI.eq_1, ↓evI.eq_2, ↓evI.eq_3, ↓m_bind, ↓m_then, ↓m_opt, SRes.bind_nx, SRes.bind_rt, SRes.bind_bk, SRes.bind_ct, SRes.bind_ex, SRes.bind_bad, at_call, at_glo, at_fuel, SRes.back, List.getElem?_cons_zero, List.getElem?_cons_succ, List.set_cons_zero, List.set_cons_succ, asgT, asgTs, cmpV, truV, binV, bltV, tyN, tyLe, subV, Option.map_some, Option.map_none, List.any_cons, List.any_nil, if_true, if_false, ite_true, ite_false, String.reduceBEq, Nat.reduceAdd, Bool.or_false, Bool.false_or, Bool.or_true, Bool.true_or, Bool.and_true, Bool.true_and, Bool.and_false, Bool.false_and, Bool.not_true, Bool.not_false, beq_self_eq_true, decide_true, decide_false, reduceCtorEq, Bool.false_eq_true, keyOf, dctKeys, List.length_cons, List.length_nil, List.zip_cons_cons, List.zip_nil_left, List.zip_nil_right, List.foldl_cons, List.foldl_nil, methV, setV, isL, permL_cons, permL_nil, List.map_cons, List.map_nil, valP_cons, valP_nil, key_str, key_int, ofString_eq, String.reduceEq, putP, sizeLine_eq, Nat.reduceLT, Nat.reduceLeDiff, sto_self, mulOk, powOk, divOk, Int.reducePow, Nat.reducePow, Int.reduceNeg, Int.reduceLT, Int.reduceLE, natAbs64, natAbs30, Int.reduceToNat, Int.reduceEq, Int.reduceAdd, Int.reduceSub, Int.reduceMul, ne_eq, not_false_eq_true, Int.reduceNe, Ev.alloc, Ev.eq_ii, Ev.eq_ss, Ev.eq_bb, Ev.eq_nn, Ev.eq_ni, Ev.eq_in, Ev.eq_ns, Ev.eq_sn, Ev.eq_nb, Ev.eq_bn, Ev.eq_is, Ev.eq_si, and_self, true_and, and_true, fmod_lt64, fmod_gt64, atI_0, atI_1, atI_2, atI_3, atI_4, atI_5, atI_6, atI_7, atI_8, atI_9, seqOf, lstOf, slcV, revV, srcOf, optI, List.nil_append, List.cons_append, sto_new, intsP, sortI, insI, compL, compG, wipeP, boolsP, List.all_cons, List.all_nil, id_eq, keep_nil, maxI, minI, intsP, cutf_1, cutf_2, cutf_3, cutf_4, cutt_1, cutt_2, cutt_3, cutt_4, List.drop_succ_cons, List.drop_zero, List.take_succ_cons, List.take_zero, Int.cast_ofNat_Int, false_and, and_false, z1]; exact ⟨_, rfl, k⟩
  · by_cases q : run + 1 = b <;> simp only [↓evE.eq_1, ↓evE.eq_2, ↓evE.eq_3, ↓evE.eq_4, ↓evE.eq_5, ↓evE.eq_6, ↓evE.eq_7, ↓evE.eq_8, ↓evE.eq_9, ↓evE.eq_10, ↓evE.eq_11, ↓evE.eq_12, ↓evE.eq_13, ↓evE.eq_14, ↓evE.eq_15, ↓evE.eq_16, ↓evE.eq_17, ↓evE.eq_18, ↓evE.eq_19, ↓evE.eq_20, ↓evE.eq_21, ↓evE.eq_22, ↓evE.eq_23, ↓evE.eq_24, ↓evE.eq_25, ↓evE.eq_26, ↓evE.eq_27, ↓evE.eq_28, ↓evE.eq_29, ↓evE.eq_30, ↓evE.eq_31, ↓evE.eq_32, ↓evS.eq_1, ↓evS_seq, ↓evS.eq_3, ↓evS.eq_4, ↓evS.eq_5, ↓evS.eq_6, ↓evS.eq_7, ↓evS.eq_8, ↓evS_ite, ↓iteS, ↓evS.eq_11, ↓evS.eq_12, ↓evS.eq_13, ↓evS.eq_14, ↓evS.eq_15, ↓evS.eq_16, ↓evS.eq_17, ↓evS_for, ↓evA.eq_1, ↓evA.eq_2, ↓evT.eq_1, ↓evT.eq_2, ↓evO.eq_1, ↓evO.eq_2, ↓evI.eq_1, ↓evI.eq_2, ↓evI.eq_3, ↓m_bind, ↓m_then, ↓m_opt, SRes.bind_nx, SRes.bind_rt, SRes.bind_bk, SRes.bind_ct, SRes.bind_ex, SRes.bind_bad, at_call, at_glo, at_fuel, SRes.back, List.getElem?_cons_zero, List.getElem?_cons_succ, List.set_cons_zero, List.set_cons_succ, asgT, asgTs, cmpV, truV, binV, bltV, tyN, tyLe, subV, Option.map_some, Option.map_none, List.any_cons, List.any_nil, if_true, if_false, ite_true, ite_false, String.reduceBEq, Nat.reduceAdd, Bool.or_false, Bool.false_or, Bool.or_true, Bool.true_or, Bool.and_true, Bool.true_and, Bool.and_false, Bool.false_and, Bool.not_true, Bool.not_false, beq_self_eq_true, decide_true, decide_false, reduceCtorEq, Bool.false_eq_true, keyOf, dctKeys, List.length_cons, List.length_nil, List.zip_cons_cons, List.zip_nil_left, List.zip_nil_right, List.foldl_cons, List.foldl_nil, methV, setV, isL, permL_cons, permL_nil, List.map_cons, List.map_nil, valP_cons, valP_nil, key_str, key_int, ofString_eq, String.reduceEq, putP, sizeLine_eq, Nat.reduceLT, Nat.reduceLeDiff, sto_self, mulOk, powOk, divOk, Int.reducePow, Nat.reducePow, Int.reduceNeg, Int.reduceLT, Int.reduceLE, natAbs64, natAbs30, Int.reduceToNat, Int.reduceEq, Int.reduceAdd, Int.reduceSub, Int.reduceMul, ne_eq, not_false_eq_true, Int.reduceNe, Ev.alloc, Ev.eq_ii, Ev.eq_ss, Ev.eq_bb, Ev.eq_nn, Ev.eq_ni, Ev.eq_in, Ev.eq_ns, Ev.eq_sn, Ev.eq_nb, Ev.eq_bn, Ev.eq_is, Ev.eq_si, and_self, true_and, and_true, fmod_lt64, fmod_gt64, atI_0, atI_1, atI_2, atI_3, atI_4, atI_5, atI_6, atI_7, atI_8, atI_9, seqOf, lstOf, slcV, revV, srcOf, optI, List.nil_append, List.cons_append, sto_new, intsP, sortI, insI, compL, compG, wipeP, boolsP, List.all_cons, List.all_nil, id_eq, keep_nil, maxI, minI, intsP, cutf_1, cutf_2, cutf_3, cutf_4, cutt_1, cutt_2, cutt_3, cutt_4, List.drop_succ_cons, List.drop_zero, List.take_succ_cons, List.take_zero, Int.cast_ofNat_Int, false_and, and_false, q] <;> exact ⟨_, rfl, k⟩
  · by_cases q : run + 1 = a <;> simp only [↓evE.eq_1, ↓evE.eq_2, ↓evE.eq_3, ↓evE.eq_4, ↓evE.eq_5, ↓evE.eq_6, ↓evE.eq_7, ↓evE.eq_8, ↓evE.eq_9, ↓evE.eq_10, ↓evE.eq_11, ↓evE.eq_12, ↓evE.eq_13, ↓evE.eq_14, ↓evE.eq_15, ↓evE.eq_16, ↓evE.eq_17, ↓evE.eq_18, ↓evE.eq_19, ↓evE.eq_20, ↓evE.eq_21, ↓evE.eq_22, ↓evE.eq_23, ↓evE.eq_24, ↓evE.eq_25, ↓evE.eq_26, ↓evE.eq_27, ↓evE.eq_28, ↓evE.eq_29, ↓evE.eq_30, ↓evE.eq_31, ↓evE.eq_32, ↓evS.eq_1, ↓evS_seq, ↓evS.eq_3, ↓evS.eq_4, ↓evS.eq_5, ↓evS.eq_6, ↓evS.eq_7, ↓evS.eq_8, ↓evS_ite, ↓iteS, ↓evS.eq_11, ↓evS.eq_12, ↓evS.eq_13, ↓evS.eq_14, ↓evS.eq_15, ↓evS.eq_16, ↓evS.eq_17, ↓evS_for, ↓evA.eq_1, ↓evA.eq_2, ↓evT.eq_1, ↓evT.eq_2, ↓evO.eq_1, ↓evO.eq_2, ↓evI.eq_1, ↓evI.eq_2, ↓evI.eq_3, ↓m_bind, ↓m_then, ↓m_opt, SRes.bind_nx, SRes.bind_rt, SRes.bind_bk, SRes.bind_ct, SRes.bind_ex, SRes.bind_bad, at_call, at_glo, at_fuel, SRes.back, List.getElem?_cons_zero, List.getElem?_cons_succ, List.set_cons_zero, List.set_cons_succ, asgT, asgTs, cmpV, truV, binV, bltV, tyN, tyLe, subV, Option.map_some, Option.map_none, List.any_cons, List.any_nil, if_true, if_false, ite_true, ite_false, String.reduceBEq, Nat.reduceAdd, Bool.or_false, Bool.false_or, Bool.or_true, Bool.true_or, Bool.and_true, Bool.true_and, Bool.and_false, Bool.false_and, Bool.not_true, Bool.not_false, beq_self_eq_true, decide_true, decide_false, reduceCtorEq, Bool.false_eq_true, keyOf, dctKeys, List.length_cons, List.length_nil, List.zip_cons_cons, List.zip_nil_left, List.zip_nil_right, List.foldl_cons, List.foldl_nil, methV, setV, isL, permL_cons, permL_nil, List.map_cons, List.map_nil, valP_cons, valP_nil, key_str, key_int, ofString_eq, String.reduceEq, putP, sizeLine_eq, Nat.reduceLT, Nat.reduceLeDiff, sto_self, mulOk, powOk, divOk, Int.reducePow, Nat.reducePow, Int.reduceNeg, Int.reduceLT, Int.reduceLE, natAbs64, natAbs30, Int.reduceToNat, Int.reduceEq, Int.reduceAdd, Int.reduceSub, Int.reduceMul, ne_eq, not_false_eq_true, Int.reduceNe, Ev.alloc, Ev.eq_ii, Ev.eq_ss, Ev.eq_bb, Ev.eq_nn, Ev.eq_ni, Ev.eq_in, Ev.eq_ns, Ev.eq_sn, Ev.eq_nb, Ev.eq_bn, Ev.eq_is, Ev.eq_si, and_self, true_and, and_true, fmod_lt64, fmod_gt64, atI_0, atI_1, atI_2, atI_3, atI_4, atI_5, atI_6, atI_7, atI_8, atI_9, seqOf, lstOf, slcV, revV, srcOf, optI, List.nil_append, List.cons_append, sto_new, intsP, sortI, insI, compL, compG, wipeP, boolsP, List.all_cons, List.all_nil, id_eq, keep_nil, maxI, minI, intsP, cutf_1, cutf_2, cutf_3, cutf_4, cutt_1, cutt_2, cutt_3, cutt_4, List.drop_succ_cons, List.drop_zero, List.take_succ_cons, List.take_zero, Int.cast_ofNat_Int, false_and, and_false, q] <;> exact ⟨_, rfl, k⟩
  · simp only [↓evE.eq_1, ↓evE.eq_2, ↓evE.eq_3, ↓evE.eq_4, ↓evE.eq_5, ↓evE.eq_6, ↓evE.eq_7, ↓evE.eq_8, ↓evE.eq_9, ↓evE.eq_10, ↓evE.eq_11, ↓evE.eq_12, ↓evE.eq_13, ↓evE.eq_14, ↓evE.eq_15, ↓evE.eq_16, ↓evE.eq_17, ↓evE.eq_18, ↓evE.eq_19, ↓evE.eq_20, ↓evE.eq_21, ↓evE.eq_22, ↓evE.eq_23, ↓evE.eq_24, ↓evE.eq_25, ↓evE.eq_26, ↓evE.eq_27, ↓evE.eq_28, ↓evE.eq_29, ↓evE.eq_30, ↓evE.eq_31, ↓evE.eq_32, ↓evS.eq_1, ↓evS_seq, ↓evS.eq_3, ↓evS.eq_4, ↓evS.eq_5, ↓evS.eq_6, ↓evS.eq_7, ↓evS.eq_8, ↓evS_ite, ↓iteS, ↓evS.eq_11, ↓evS.eq_12, ↓evS.eq_13, ↓evS.eq_14, ↓evS.eq_15, ↓evS.eq_16, ↓evS.eq_17, ↓evS_for, ↓evA.eq_1, ↓evA.eq_2, ↓evT.eq_1, ↓evT.eq_2, ↓evO.eq_1, ↓evO.eq_2, ↓evI.eq_1, ↓evI.eq_2, ↓evI.eq_3, ↓m_bind, ↓m_then, ↓m_opt, SRes.bind_nx, SRes.bind_rt, SRes.bind_bk, SRes.bind_ct, SRes.bind_ex, SRes.bind_bad, at_call, at_glo, at_fuel, SRes.back, List.getElem?_cons_zero, List.getElem?_cons_succ, List.set_cons_zero, List.set_cons_succ, asgT, asgTs, cmpV, truV, binV, bltV, tyN, tyLe, subV, Option.map_some, Option.map_none, List.any_cons, List.any_nil, if_true, if_false, ite_true, ite_false, String.reduceBEq, Nat.reduceAdd, Bool.or_false, Bool.false_or, Bool.or_true, Bool.true_or, Bool.and_true, Bool.true_and, Bool.and_false, Bool.false_and, Bool.not_true, Bool.not_false, beq_self_eq_true, decide_true, decide_false, reduceCtorEq, Bool.false_eq_true, keyOf, dctKeys, List.length_cons, List.length_nil, List.zip_cons_cons, List.zip_nil_left, List.zip_nil_right, List.foldl_cons, List.foldl_nil, methV, setV, isL, permL_cons, permL_nil, List.map_cons, List.map_nil, valP_cons, valP_nil, key_str, key_int, ofString_eq, String.reduceEq, putP, sizeLine_eq, Nat.reduceLT, Nat.reduceLeDiff, sto_self, mulOk, powOk, divOk, Int.reducePow, Nat.reducePow, Int.reduceNeg, Int.reduceLT, Int.reduceLE, natAbs64, natAbs30, Int.reduceToNat, Int.reduceEq, Int.reduceAdd, Int.reduceSub, Int.reduceMul, ne_eq, not_false_eq_true, Int.reduceNe, Ev.alloc, Ev.eq_ii, Ev.eq_ss, Ev.eq_bb, Ev.eq_nn, Ev.eq_ni, Ev.eq_in, Ev.eq_ns, Ev.eq_sn, Ev.eq_nb, Ev.eq_bn, Ev.eq_is, Ev.eq_si, and_self, true_and, and_true, fmod_lt64, fmod_gt64, atI_0, atI_1, atI_2, atI_3, atI_4, atI_5, atI_6, atI_7, atI_8, atI_9, seqOf, lstOf, slcV, revV, srcOf, optI, List.nil_append, List.cons_append, sto_new, intsP, sortI, insI, compL, compG, wipeP, boolsP, List.all_cons, List.all_nil, id_eq, keep_nil, maxI, minI, intsP, cutf_1, cutf_2, cutf_3, cutf_4, cutt_1, cutt_2, cutt_3, cutt_4, List.drop_succ_cons, List.drop_zero, List.take_succ_cons, List.take_zero, Int.cast_ofNat_Int, false_and, and_false, z2]; exact ⟨_, rfl, k⟩
end K22

set_option Elab.async false
set_option linter.all false
set_option maxRecDepth 100000
set_option maxHeartbeats 4000000
namespace K22
open PySem L2 Ev
/-! the plain law: marks, told from all looks -/
def tc (l : List Bool) (up : Bool) : Nat := l.foldl (fun r g => if g = up then 0 else r + 1) 0
theorem tc_app (l : List Bool) (g up : Bool) : tc (l ++ [g]) up = if g = up then 0 else tc l up + 1 := by simp [tc]
theorem snoc_ind {α : Type} {P : List α → Prop} (h0 : P []) (h1 : ∀ l a, P l → P (l ++ [a])) : ∀ l, P l := by
  intro l
  have : ∀ n (l : List α), l.length = n → P l := by
    intro n
    induction n with
    | zero => intro l h; cases l with
      | nil => exact h0
      | cons _ _ => simp at h
    | succ n ih =>
      intro l h
      rcases List.eq_nil_or_concat l with rfl | ⟨l', a, rfl⟩
      · simp at h
      · rw [List.concat_eq_append]
        exact h1 _ _ (ih _ (by simpa using h))
  exact this _ l rfl
theorem tc_iff (up : Bool) : ∀ (l : List Bool) (m : Nat), m ≤ tc l up ↔ m ≤ l.length ∧ ∀ g ∈ l.drop (l.length - m), g ≠ up := by
  intro l
  induction l using snoc_ind with
  | h0 => intro m; simp [tc]
  | h1 l a ih =>
    intro m
    rw [tc_app]
    cases m with
    | zero => simp
    | succ k =>
      have e : (l ++ [a]).drop ((l ++ [a]).length - (k + 1)) = l.drop (l.length - k) ++ [a] := by
        rw [List.drop_append_of_le_length (by simp)]
        simp
      rw [e]
      by_cases h : a = up
      · subst h
        rw [if_pos rfl]
        constructor
        · intro q; omega
        · intro q; exact absurd rfl (q.2 a (by simp))
      · rw [if_neg h]
        have := ih k
        simp only [List.length_append, List.length_cons, List.length_nil, List.mem_append, List.mem_cons, List.mem_nil_iff, or_false]
        constructor
        · intro q
          have q2 := this.mp (by omega)
          exact ⟨by omega, fun g hg => hg.elim (q2.2 g) fun z => z ▸ h⟩
        · intro q
          have := this.mpr ⟨by omega, fun g hg => q.2 g (.inl hg)⟩
          omega
structure FS where
  up : Bool
  run : Nat
  start : Nat
  idx : Nat
  bad : Nat
def stp (a b : Int) (s : FS) (g : Bool) : FS :=
  let run1 := if g = s.up then 0 else s.run + 1
  let t := decide ((run1 : Int) = if s.up then b else a)
  ⟨if t then !s.up else s.up, if t then 0 else run1, if t then s.idx + 1 else s.start, s.idx + 1, if g then 0 else s.bad + 1⟩
def fs (a b : Int) (l : List Bool) : FS := l.foldl (stp a b) ⟨true, 0, 0, 0, 0⟩
theorem fs_app (a b : Int) (l : List Bool) (g : Bool) : fs a b (l ++ [g]) = stp a b (fs a b l) g := by simp [fs]
structure FI (a b : Int) (l : List Bool) (s : FS) : Prop where
  idx : s.idx = l.length
  st : s.start ≤ l.length
  run : s.run = tc (l.drop s.start) s.up
  bad : s.bad = tc l true
  lt : (s.run : Int) < if s.up then b else a
  b1 : s.up = false → s.run = 0 → 1 ≤ s.bad
  b2 : s.up = false → 0 < s.run → s.bad = 0
def rn (s : FS) (g : Bool) : Nat := if g = s.up then 0 else s.run + 1
def mn (a b : Int) (s : FS) : Int := if s.up then b else a
theorem stp_t {a b : Int} {s : FS} {g : Bool} (h : (rn s g : Int) = mn a b s) : stp a b s g = ⟨!s.up, 0, s.idx + 1, s.idx + 1, if g then 0 else s.bad + 1⟩ := by
  unfold rn mn at h
  simp [stp, h]
theorem stp_f {a b : Int} {s : FS} {g : Bool} (h : ¬ (rn s g : Int) = mn a b s) : stp a b s g = ⟨s.up, rn s g, s.start, s.idx + 1, if g then 0 else s.bad + 1⟩ := by
  unfold rn mn at h
  simp [stp, h, rn]
theorem mn_pos {a b : Int} (ha : 1 ≤ a) (hb : 1 ≤ b) (s : FS) : 1 ≤ mn a b s := by unfold mn; split <;> omega
theorem fs_inv {a b : Int} (ha : 1 ≤ a) (hb : 1 ≤ b) : ∀ l, FI a b l (fs a b l) := by
  intro l
  induction l using snoc_ind with
  | h0 => exact ⟨rfl, Nat.le_refl _, rfl, rfl, by simp [fs]; omega, by simp [fs], by simp [fs]⟩
  | h1 l g ih =>
    rw [fs_app]
    obtain ⟨h1, h2, h3, h4, h5, h6, h7⟩ := ih
    have hd : (l ++ [g]).drop (fs a b l).start = l.drop (fs a b l).start ++ [g] := by rw [List.drop_append_of_le_length h2]
    generalize fs a b l = s at *
    have mp := mn_pos ha hb s
    have h5' : (s.run : Int) < mn a b s := h5
    have r1 : rn s g = tc ((l ++ [g]).drop s.start) s.up := by rw [hd, tc_app, ← h3]; rfl
    have r2 : rn s g = 0 ∧ g = s.up ∨ rn s g = s.run + 1 ∧ g ≠ s.up := by unfold rn; by_cases h : g = s.up <;> simp [h]
    by_cases t : (rn s g : Int) = mn a b s
    · rw [stp_t t]
      have gu : g ≠ s.up := by
        rcases r2 with ⟨e, _⟩ | ⟨_, e⟩
        · rw [e] at t; omega
        · exact e
      refine ⟨by simp [h1], by simp [h1], by simp [h1, tc], by rw [tc_app, h4], ?_, ?_, ?_⟩
      · have := mn_pos ha hb ⟨!s.up, 0, 0, 0, 0⟩
        unfold mn at this
        simp only at this ⊢
        omega
      · intro q _
        have : s.up = true := by simpa using q
        cases g
        · simp
        · exact absurd this.symm gu
      · intro _ q; exact absurd q (Nat.lt_irrefl 0)
    · rw [stp_f t]
      refine ⟨by simp [h1], by simp; omega, r1, by rw [tc_app, h4], ?_, ?_, ?_⟩
      · show (rn s g : Int) < mn a b s
        rcases r2 with ⟨e, _⟩ | ⟨e, _⟩ <;> rw [e] at t ⊢ <;> omega
      · intro q z
        have q : s.up = false := q
        have z : rn s g = 0 := z
        rcases r2 with ⟨_, e⟩ | ⟨e, _⟩
        · rw [e, q]; simp
        · omega
      · intro q z
        have q : s.up = false := q
        have z : 0 < rn s g := z
        rcases r2 with ⟨e, _⟩ | ⟨_, e⟩
        · omega
        · cases g
          · exact absurd q.symm e
          · simp
def wt (c d : Int) (s : FS) : Int := if s.up then c else dbl c d (min s.bad (s.idx - s.start + 1))
theorem nx_stp {a b c d : Int} (ha : 1 ≤ a) (hb : 1 ≤ b) {l : List Bool} {s : FS} (I : FI a b l s) (g : Bool) : nx a b c d s.up s.run (wt c d s) g = ((stp a b s g).up, ((stp a b s g).run : Int), wt c d (stp a b s g)) := by
  obtain ⟨h1, h2, h3, h4, h5, h6, h7⟩ := I
  have hr : (if g = s.up then (0 : Int) else (s.run : Int) + 1) = (rn s g : Int) := by unfold rn; split <;> simp
  have mp := mn_pos ha hb s
  have hs : s.start ≤ s.idx := by omega
  unfold nx
  simp only [hr]
  by_cases t : (rn s g : Int) = mn a b s
  · rw [stp_t t]
    have t' : (rn s g : Int) = if s.up = true then b else a := t
    have gu : g ≠ s.up := by
      intro e
      unfold rn at t
      rw [if_pos e] at t
      omega
    simp only [← t', decide_true, if_true]
    cases hu : s.up <;> cases g <;> simp [hu] at gu ⊢
    · simp [wt]
    · have e : min (s.bad + 1) 1 = 1 := by omega
      simp only [wt, hu, if_true, e, dbl]
      simp [hu, e, dbl_succ]
      rfl
  · rw [stp_f t]
    have t' : ¬ (rn s g : Int) = if s.up = true then b else a := t
    simp only [t', decide_false, Bool.false_eq_true, if_false]
    cases hu : s.up <;> cases g <;> simp [wt, hu]
    · have e : min (s.bad + 1) (s.idx + 1 - s.start + 1) = min s.bad (s.idx - s.start + 1) + 1 := by omega
      rw [dbl_succ]
      congr 1
      omega
    · simp [dbl]
theorem mk_fs {a b c d : Int} (h : Rl a b c d) {l : List Bool} {s : FS} (I : FI a b l s) (hl : l.length ≤ 100) {now : Int} (hn : 0 ≤ now) : Mk a b c d s.up s.run (wt c d s) (now + wt c d s) := by
  obtain ⟨h1, h2, h3, h4, h5, h6, h7⟩ := I
  refine ⟨by omega, h5, by omega, ?_⟩
  have hb : s.bad ≤ l.length := by
    rw [h4]
    have : ∀ l : List Bool, tc l true ≤ l.length := fun l => by
      have := (tc_iff true l (tc l true)).mp (Nat.le_refl _)
      exact this.1
    exact this l
  unfold wt
  cases hu : s.up
  · rcases Nat.eq_zero_or_pos s.run with e | e
    · have := h6 hu e
      refine .inr ⟨rfl, by omega, min s.bad (s.idx - s.start + 1) - 1, by omega, ?_⟩
      rw [show min s.bad (s.idx - s.start + 1) - 1 + 1 = min s.bad (s.idx - s.start + 1) by omega]
      simp
    · have := h7 hu e
      refine .inl ⟨.inr (by omega), ?_⟩
      simp [this, dbl]
  · exact .inl ⟨.inl rfl, by simp⟩
theorem take_one {α : Type} (B : List α) (t : Nat) (ht : t < B.length) : B.take (t + 1) = B.take t ++ [B[t]] := by
  rw [List.take_succ, List.getElem?_eq_getElem ht]; rfl
theorem cond_iff {a b : Int} (ha : 1 ≤ a) (hb : 1 ≤ b) {B : List Bool} {t : Nat} (ht : t < B.length) {m : Nat} {s : FS} (hs : s = fs a b (B.take t)) (hm : (m : Int) = mn a b s) :
    ((rn s B[t] : Int) = mn a b s) ↔ (m + s.start ≤ t + 1 ∧ ∀ x ∈ (B.take (t + 1)).drop (t + 1 - m), x ≠ s.up) := by
  have I := fs_inv ha hb (B.take t)
  rw [← hs] at I
  obtain ⟨h1, h2, h3, h4, h5, h6, h7⟩ := I
  have lt : (B.take t).length = t := by simp; omega
  rw [lt] at h1 h2
  have h5' : (s.run : Int) < mn a b s := h5
  have hd : (B.take (t + 1)).drop s.start = (B.take t).drop s.start ++ [B[t]] := by rw [take_one B t ht, List.drop_append_of_le_length (by omega)]
  have r1 : rn s B[t] = tc ((B.take (t + 1)).drop s.start) s.up := by rw [hd, tc_app, ← h3]; rfl
  have r2 : rn s B[t] ≤ s.run + 1 := by unfold rn; split <;> omega
  have l1 : (B.take (t + 1)).length = t + 1 := by simp; omega
  have e : ((rn s B[t] : Int) = mn a b s) ↔ m ≤ rn s B[t] := by rw [← hm]; omega
  rw [e, r1, tc_iff, List.length_drop, l1, List.drop_drop]
  constructor
  · rintro ⟨q1, q2⟩
    rw [show s.start + (t + 1 - s.start - m) = t + 1 - m by omega] at q2
    exact ⟨by omega, q2⟩
  · rintro ⟨q1, q2⟩
    refine ⟨by omega, ?_⟩
    rw [show s.start + (t + 1 - s.start - m) = t + 1 - m by omega]
    exact q2
end K22

set_option Elab.async false
set_option linter.all false
set_option maxRecDepth 100000
set_option maxHeartbeats 4000000
namespace K22
open PySem L2 Ev
def lkV (p : Bool × Int) : PV := .tup [.bl p.1, .int p.2]
def dueL (L : List (Bool × Int)) : Int := match L.getLast? with
  | some p => p.2
  | none => 0
theorem lk_fine {L : List (Bool × Int)} (hf : ∀ p ∈ L, p.2.natAbs < 10 ^ 570) : fines (L.map lkV) = true ∧ PyData.depthAll (pds (L.map lkV)) ≤ 63 := by
  constructor
  · refine fines_all fun x hx => ?_
    obtain ⟨p, hp, rfl⟩ := List.mem_map.mp hx
    simp only [lkV, fine, fines, Bool.and_true, Bool.true_and, decide_eq_true_eq]
    exact hf p hp
  · refine depths_all fun x hx => ?_
    obtain ⟨p, hp, rfl⟩ := List.mem_map.mp hx
    simp [lkV, pd, pds, PyData.depth, PyData.depthAll]
theorem mark_by_ok (n : Nat) (M : Sto) {a b c d : Int} (h : Rl a b c d) {q : Nat} {L : List (Bool × Int)} (hq : M[q]? = some (.lst (L.map lkV))) (hL : L.length ≤ 100) (hf : ∀ p ∈ L, p.2.natAbs < 10 ^ 570) {s : FS} (hs : s = fs a b (L.map Prod.fst)) :
    ∃ M', callN T (n + 1) "_law_mark_by" [rlV a b c d, .ref q] M = .ok (mkV s.up s.run (wt c d s) (dueL L + wt c d s)) M' ∧ Keep [] M M' := by
  have hr : rgOk 1 (((L.map lkV).length : Nat) + 1 : Int) = true := rgOk_nat (by omega) (by omega) (by omega) (by simp; omega)
  obtain ⟨f1, f2⟩ := lk_fine hf
  have ha : 1 ≤ a := h.1
  have hb : 1 ≤ b := h.2.2.1
  rw [e__law_mark_by]
  unfold c__law_mark_by rlV
  simp only [↓evE.eq_1, ↓evE.eq_2, ↓evE.eq_3, ↓evE.eq_4, ↓evE.eq_5, ↓evE.eq_6, ↓evE.eq_7, ↓evE.eq_8, ↓evE.eq_9, ↓evE.eq_10, ↓evE.eq_11, ↓evE.eq_12, ↓evE.eq_13, ↓evE.eq_14, ↓evE.eq_15, ↓evE.eq_16, ↓evE.eq_17, ↓evE.eq_18, ↓evE.eq_19, ↓evE.eq_20, ↓evE.eq_21, ↓evE.eq_22, ↓evE.eq_23, ↓evE.eq_24, ↓evE.eq_25, ↓evE.eq_26, ↓evE.eq_27, ↓evE.eq_28, ↓evE.eq_29, ↓evE.eq_30, ↓evE.eq_31, ↓evE.eq_32, ↓evS.eq_1, ↓evS_seq, ↓evS.eq_3, ↓evS.eq_4, ↓evS.eq_5, ↓evS.eq_6, ↓evS.eq_7, ↓evS.eq_8, ↓evS_ite, ↓iteS, ↓evS.eq_11, ↓evS.eq_12, ↓evS.eq_13, ↓evS.eq_14, ↓evS.eq_15, ↓evS.eq_16, ↓evS.eq_17, ↓evS_for, ↓evA.eq_1, ↓evA.eq_2, ↓evT.eq_1, ↓evT.eq_2, ↓evO.eq_1, ↓evO.eq_2, ↓evI.eq_1, ↓evI.eq_2, ↓evI.eq_3, ↓m_bind, ↓m_then, ↓m_opt, SRes.bind_nx, SRes.bind_rt, SRes.bind_bk, SRes.bind_ct, SRes.bind_ex, SRes.bind_bad, at_call, at_glo, at_fuel, SRes.back, List.getElem?_cons_zero, List.getElem?_cons_succ, List.set_cons_zero, List.set_cons_succ, asgT, asgTs, cmpV, truV, binV, bltV, tyN, tyLe, subV, Option.map_some, Option.map_none, List.any_cons, List.any_nil, if_true, if_false, ite_true, ite_false, String.reduceBEq, Nat.reduceAdd, Bool.or_false, Bool.false_or, Bool.or_true, Bool.true_or, Bool.and_true, Bool.true_and, Bool.and_false, Bool.false_and, Bool.not_true, Bool.not_false, beq_self_eq_true, decide_true, decide_false, reduceCtorEq, Bool.false_eq_true, keyOf, dctKeys, List.length_cons, List.length_nil, List.zip_cons_cons, List.zip_nil_left, List.zip_nil_right, List.foldl_cons, List.foldl_nil, methV, setV, isL, permL_cons, permL_nil, List.map_cons, List.map_nil, valP_cons, valP_nil, key_str, key_int, ofString_eq, String.reduceEq, putP, sizeLine_eq, Nat.reduceLT, Nat.reduceLeDiff, sto_self, mulOk, powOk, divOk, Int.reducePow, Nat.reducePow, Int.reduceNeg, Int.reduceLT, Int.reduceLE, natAbs64, natAbs30, Int.reduceToNat, Int.reduceEq, Int.reduceAdd, Int.reduceSub, Int.reduceMul, ne_eq, not_false_eq_true, Int.reduceNe, Ev.alloc, Ev.eq_ii, Ev.eq_ss, Ev.eq_bb, Ev.eq_nn, Ev.eq_ni, Ev.eq_in, Ev.eq_ns, Ev.eq_sn, Ev.eq_nb, Ev.eq_bn, Ev.eq_is, Ev.eq_si, and_self, true_and, and_true, fmod_lt64, fmod_gt64, atI_0, atI_1, atI_2, atI_3, atI_4, atI_5, atI_6, atI_7, atI_8, atI_9, seqOf, lstOf, slcV, revV, srcOf, optI, List.nil_append, List.cons_append, sto_new, intsP, sortI, insI, compL, compG, wipeP, boolsP, List.all_cons, List.all_nil, id_eq, keep_nil, maxI, minI, intsP, cutf_1, cutf_2, cutf_3, cutf_4, cutt_1, cutt_2, cutt_3, cutt_4, List.drop_succ_cons, List.drop_zero, List.take_succ_cons, List.take_zero, Int.cast_ofNat_Int, false_and, and_false, hq, hr]
  generalize hz : forL _ _ _ _ _ = z
  rw [rg_one] at hz
  obtain ⟨env1, M1, rfl, e1, k1⟩ : ∃ env1 M1, z = .nx env1 M1 ∧ (∃ s8 s9 : Option PV, env1 = [some (.tup [.int a, .int b, .int c, .int d]), some (.ref q), some (.int a), some (.int b), some (.int c), some (.int d), some (.bl s.up), some (.int s.start), s8, s9, none, none, none, none, none, none]) ∧ Keep [] M M1 := by
    obtain ⟨env1, M1, e, t, h1, h2, h3⟩ := for_of hz (fun xs env M1 => ∃ t, t ≤ L.length ∧ xs = ((List.range L.length).map fun i => PV.int (1 + (i : Nat))).drop t ∧ Keep [] M M1 ∧ ∃ s8 s9 : Option PV, env = [some (.tup [.int a, .int b, .int c, .int d]), some (.ref q), some (.int a), some (.int b), some (.int c), some (.int d), some (.bl (fs a b ((L.map Prod.fst).take t)).up), some (.int (fs a b ((L.map Prod.fst).take t)).start), s8, s9, none, none, none, none, none, none])
      ⟨0, Nat.zero_le _, by simp, Keep.refl _, none, none, rfl⟩ (fun _ _ _ _ => rfl) (fun x xs env M1 ⟨t, ht, hx, k, s8, s9, he⟩ => by
        subst he
        have hlt : t < L.length := by
          rcases Nat.lt_or_ge t L.length with q | q
          · exact q
          · rw [List.drop_of_length_le (by simpa using q)] at hx; cases hx
        rw [List.drop_eq_getElem_cons (by simpa using hlt)] at hx
        simp only [List.getElem_map, List.getElem_range, List.cons.injEq] at hx
        obtain ⟨rfl, rfl⟩ := hx
        have hq1 := k.get hq (by simp)
        have htb : t < (L.map Prod.fst).length := by simpa using hlt
        have hst := fs_app a b ((L.map Prod.fst).take t) ((L.map Prod.fst)[t])
        rw [← take_one _ t htb] at hst
        obtain ⟨s0, hs0⟩ : ∃ s0, s0 = fs a b ((L.map Prod.fst).take t) := ⟨_, rfl⟩
        obtain ⟨m, hm⟩ : ∃ m : Nat, (m : Int) = mn a b s0 := ⟨(mn a b s0).toNat, by have := mn_pos ha hb s0; omega⟩
        have hc := cond_iff ha hb htb hs0 hm
        rw [← hs0] at hst ⊢
        have hmu : (if s0.up = true then PV.int b else PV.int a) = .int m := by rw [hm]; unfold mn; split <;> rfl
        unfold forB
        have hidx : s0.idx = t := by rw [hs0, (fs_inv ha hb _).idx]; simp; omega
        have tc1 : (1 : Int) + (t : Int) = ((t + 1 : Nat) : Int) := by omega
        cases hu : s0.up
        ·
          have hma : mn a b s0 = a := by unfold mn; rw [hu]; rfl
          rw [hma] at hm hc
          rw [hu] at hc
          by_cases c1 : a ≤ 1 + (t : Int) - s0.start
          · have hcut : cutP (L.map lkV) (some (1 + (t : Int) - a)) (some (1 + (t : Int))) = ((L.take (t + 1)).drop (t + 1 - m)).map lkV := by
              rw [← hm, tc1, show (((t + 1 : Nat) : Int) - (m : Int)) = ((t + 1 - m : Nat) : Int) by omega, cut_mid _ _ _ (by simp; omega) (by omega)]
              simp
            simp only [↓evE.eq_1, ↓evE.eq_2, ↓evE.eq_3, ↓evE.eq_4, ↓evE.eq_5, ↓evE.eq_6, ↓evE.eq_7, ↓evE.eq_8, ↓evE.eq_9, ↓evE.eq_10, ↓evE.eq_11, ↓evE.eq_12, ↓evE.eq_13, ↓evE.eq_14, ↓evE.eq_15, ↓evE.eq_16, ↓evE.eq_17, ↓evE.eq_18, ↓evE.eq_19, ↓evE.eq_20, ↓evE.eq_21, ↓evE.eq_22, ↓evE.eq_23, ↓evE.eq_24, ↓evE.eq_25, ↓evE.eq_26, ↓evE.eq_27, ↓evE.eq_28, ↓evE.eq_29, ↓evE.eq_30, ↓evE.eq_31, ↓evE.eq_32, ↓evS.eq_1, ↓evS_seq, ↓evS.eq_3, ↓evS.eq_4, ↓evS.eq_5, ↓evS.eq_6, ↓evS.eq_7, ↓evS.eq_8, ↓evS_ite, ↓iteS, ↓evS.eq_11, ↓evS.eq_12, ↓evS.eq_13, ↓evS.eq_14, ↓evS.eq_15, ↓evS.eq_16, ↓evS.eq_17, ↓evS_for, ↓evA.eq_1, ↓evA.eq_2, ↓evT.eq_1, ↓evT.eq_2, ↓evO.eq_1, ↓evO.eq_2, ↓evI.eq_1, ↓evI.eq_2, ↓evI.eq_3, ↓m_bind, ↓m_then, ↓m_opt, SRes.bind_nx, SRes.bind_rt, SRes.bind_bk, SRes.bind_ct, SRes.bind_ex, SRes.bind_bad, at_call, at_glo, at_fuel, SRes.back, List.getElem?_cons_zero, List.getElem?_cons_succ, List.set_cons_zero, List.set_cons_succ, asgT, asgTs, cmpV, truV, binV, bltV, tyN, tyLe, subV, Option.map_some, Option.map_none, List.any_cons, List.any_nil, if_true, if_false, ite_true, ite_false, String.reduceBEq, Nat.reduceAdd, Bool.or_false, Bool.false_or, Bool.or_true, Bool.true_or, Bool.and_true, Bool.true_and, Bool.and_false, Bool.false_and, Bool.not_true, Bool.not_false, beq_self_eq_true, decide_true, decide_false, reduceCtorEq, Bool.false_eq_true, keyOf, dctKeys, List.length_cons, List.length_nil, List.zip_cons_cons, List.zip_nil_left, List.zip_nil_right, List.foldl_cons, List.foldl_nil, methV, setV, isL, permL_cons, permL_nil, List.map_cons, List.map_nil, valP_cons, valP_nil, key_str, key_int, ofString_eq, String.reduceEq, putP, sizeLine_eq, Nat.reduceLT, Nat.reduceLeDiff, sto_self, mulOk, powOk, divOk, Int.reducePow, Nat.reducePow, Int.reduceNeg, Int.reduceLT, Int.reduceLE, natAbs64, natAbs30, Int.reduceToNat, Int.reduceEq, Int.reduceAdd, Int.reduceSub, Int.reduceMul, ne_eq, not_false_eq_true, Int.reduceNe, Ev.alloc, Ev.eq_ii, Ev.eq_ss, Ev.eq_bb, Ev.eq_nn, Ev.eq_ni, Ev.eq_in, Ev.eq_ns, Ev.eq_sn, Ev.eq_nb, Ev.eq_bn, Ev.eq_is, Ev.eq_si, and_self, true_and, and_true, fmod_lt64, fmod_gt64, atI_0, atI_1, atI_2, atI_3, atI_4, atI_5, atI_6, atI_7, atI_8, atI_9, seqOf, lstOf, slcV, revV, srcOf, optI, List.nil_append, List.cons_append, sto_new, intsP, sortI, insI, compL, compG, wipeP, boolsP, List.all_cons, List.all_nil, id_eq, keep_nil, maxI, minI, intsP, cutf_1, cutf_2, cutf_3, cutf_4, cutt_1, cutt_2, cutt_3, cutt_4, List.drop_succ_cons, List.drop_zero, List.take_succ_cons, List.take_zero, Int.cast_ofNat_Int, false_and, and_false, hq1, hu, c1, hcut]
            generalize hz2 : compL _ _ _ _ _ = z2
            have hc2 := comp_of hz2 (fun x => match x with | .tup [.bl g, .int _] => if g = false then some (.bl g) else none | _ => none) (keep_one (sto_new _ _)) (fun x hx => by
              obtain ⟨p, hp, rfl⟩ := List.mem_map.mp hx
              obtain ⟨g, v⟩ := p
              cases g <;> simp only [lkV] <;> simp only [↓evE.eq_1, ↓evE.eq_2, ↓evE.eq_3, ↓evE.eq_4, ↓evE.eq_5, ↓evE.eq_6, ↓evE.eq_7, ↓evE.eq_8, ↓evE.eq_9, ↓evE.eq_10, ↓evE.eq_11, ↓evE.eq_12, ↓evE.eq_13, ↓evE.eq_14, ↓evE.eq_15, ↓evE.eq_16, ↓evE.eq_17, ↓evE.eq_18, ↓evE.eq_19, ↓evE.eq_20, ↓evE.eq_21, ↓evE.eq_22, ↓evE.eq_23, ↓evE.eq_24, ↓evE.eq_25, ↓evE.eq_26, ↓evE.eq_27, ↓evE.eq_28, ↓evE.eq_29, ↓evE.eq_30, ↓evE.eq_31, ↓evE.eq_32, ↓evS.eq_1, ↓evS_seq, ↓evS.eq_3, ↓evS.eq_4, ↓evS.eq_5, ↓evS.eq_6, ↓evS.eq_7, ↓evS.eq_8, ↓evS_ite, ↓iteS, ↓evS.eq_11, ↓evS.eq_12, ↓evS.eq_13, ↓evS.eq_14, ↓evS.eq_15, ↓evS.eq_16, ↓evS.eq_17, ↓evS_for, ↓evA.eq_1, ↓evA.eq_2, ↓evT.eq_1, ↓evT.eq_2, ↓evO.eq_1, ↓evO.eq_2, ↓evI.eq_1, ↓evI.eq_2, ↓evI.eq_3, ↓m_bind, ↓m_then, ↓m_opt, SRes.bind_nx, SRes.bind_rt, SRes.bind_bk, SRes.bind_ct, SRes.bind_ex, SRes.bind_bad, at_call, at_glo, at_fuel, SRes.back, List.getElem?_cons_zero, List.getElem?_cons_succ, List.set_cons_zero, List.set_cons_succ, asgT, asgTs, cmpV, truV, binV, bltV, tyN, tyLe, subV, Option.map_some, Option.map_none, List.any_cons, List.any_nil, if_true, if_false, ite_true, ite_false, String.reduceBEq, Nat.reduceAdd, Bool.or_false, Bool.false_or, Bool.or_true, Bool.true_or, Bool.and_true, Bool.true_and, Bool.and_false, Bool.false_and, Bool.not_true, Bool.not_false, beq_self_eq_true, decide_true, decide_false, reduceCtorEq, Bool.false_eq_true, keyOf, dctKeys, List.length_cons, List.length_nil, List.zip_cons_cons, List.zip_nil_left, List.zip_nil_right, List.foldl_cons, List.foldl_nil, methV, setV, isL, permL_cons, permL_nil, List.map_cons, List.map_nil, valP_cons, valP_nil, key_str, key_int, ofString_eq, String.reduceEq, putP, sizeLine_eq, Nat.reduceLT, Nat.reduceLeDiff, sto_self, mulOk, powOk, divOk, Int.reducePow, Nat.reducePow, Int.reduceNeg, Int.reduceLT, Int.reduceLE, natAbs64, natAbs30, Int.reduceToNat, Int.reduceEq, Int.reduceAdd, Int.reduceSub, Int.reduceMul, ne_eq, not_false_eq_true, Int.reduceNe, Ev.alloc, Ev.eq_ii, Ev.eq_ss, Ev.eq_bb, Ev.eq_nn, Ev.eq_ni, Ev.eq_in, Ev.eq_ns, Ev.eq_sn, Ev.eq_nb, Ev.eq_bn, Ev.eq_is, Ev.eq_si, and_self, true_and, and_true, fmod_lt64, fmod_gt64, atI_0, atI_1, atI_2, atI_3, atI_4, atI_5, atI_6, atI_7, atI_8, atI_9, seqOf, lstOf, slcV, revV, srcOf, optI, List.nil_append, List.cons_append, sto_new, intsP, sortI, insI, compL, compG, wipeP, boolsP, List.all_cons, List.all_nil, id_eq, keep_nil, maxI, minI, intsP, cutf_1, cutf_2, cutf_3, cutf_4, cutt_1, cutt_2, cutt_3, cutt_4, List.drop_succ_cons, List.drop_zero, List.take_succ_cons, List.take_zero, Int.cast_ofNat_Int, false_and, and_false]) (by rw [sizeLine_eq]; simp; omega)
            subst hc2
            have hB : ((L.map Prod.fst).take (t + 1)).drop (t + 1 - m) = ((L.take (t + 1)).drop (t + 1 - m)).map Prod.fst := by simp
            rw [hB] at hc
            generalize (L.take (t + 1)).drop (t + 1 - m) = X at *
            by_cases hall : ∀ x ∈ X.map Prod.fst, x ≠ false
            · have hres : (X.map lkV).filterMap (fun x => match x with | .tup [.bl g, .int _] => if g = false then some (PV.bl g) else none | _ => none) = [] := by
                rw [List.filterMap_eq_nil_iff]
                intro x hx
                obtain ⟨p, hp, rfl⟩ := List.mem_map.mp hx
                have := hall p.1 (List.mem_map_of_mem hp)
                simp [lkV, this]
              rw [hres]
              simp only [↓evE.eq_1, ↓evE.eq_2, ↓evE.eq_3, ↓evE.eq_4, ↓evE.eq_5, ↓evE.eq_6, ↓evE.eq_7, ↓evE.eq_8, ↓evE.eq_9, ↓evE.eq_10, ↓evE.eq_11, ↓evE.eq_12, ↓evE.eq_13, ↓evE.eq_14, ↓evE.eq_15, ↓evE.eq_16, ↓evE.eq_17, ↓evE.eq_18, ↓evE.eq_19, ↓evE.eq_20, ↓evE.eq_21, ↓evE.eq_22, ↓evE.eq_23, ↓evE.eq_24, ↓evE.eq_25, ↓evE.eq_26, ↓evE.eq_27, ↓evE.eq_28, ↓evE.eq_29, ↓evE.eq_30, ↓evE.eq_31, ↓evE.eq_32, ↓evS.eq_1, ↓evS_seq, ↓evS.eq_3, ↓evS.eq_4, ↓evS.eq_5, ↓evS.eq_6, ↓evS.eq_7, ↓evS.eq_8, ↓evS_ite, ↓iteS, ↓evS.eq_11, ↓evS.eq_12, ↓evS.eq_13, ↓evS.eq_14, ↓evS.eq_15, ↓evS.eq_16, ↓evS.eq_17, ↓evS_for, ↓evA.eq_1, ↓evA.eq_2, ↓evT.eq_1, ↓evT.eq_2, ↓evO.eq_1, ↓evO.eq_2, ↓evI.eq_1, ↓evI.eq_2, ↓evI.eq_3, ↓m_bind, ↓m_then, ↓m_opt, SRes.bind_nx, SRes.bind_rt, SRes.bind_bk, SRes.bind_ct, SRes.bind_ex, SRes.bind_bad, at_call, at_glo, at_fuel, SRes.back, List.getElem?_cons_zero, List.getElem?_cons_succ, List.set_cons_zero, List.set_cons_succ, asgT, asgTs, cmpV, truV, binV, bltV, tyN, tyLe, subV, Option.map_some, Option.map_none, List.any_cons, List.any_nil, if_true, if_false, ite_true, ite_false, String.reduceBEq, Nat.reduceAdd, Bool.or_false, Bool.false_or, Bool.or_true, Bool.true_or, Bool.and_true, Bool.true_and, Bool.and_false, Bool.false_and, Bool.not_true, Bool.not_false, beq_self_eq_true, decide_true, decide_false, reduceCtorEq, Bool.false_eq_true, keyOf, dctKeys, List.length_cons, List.length_nil, List.zip_cons_cons, List.zip_nil_left, List.zip_nil_right, List.foldl_cons, List.foldl_nil, methV, setV, isL, permL_cons, permL_nil, List.map_cons, List.map_nil, valP_cons, valP_nil, key_str, key_int, ofString_eq, String.reduceEq, putP, sizeLine_eq, Nat.reduceLT, Nat.reduceLeDiff, sto_self, mulOk, powOk, divOk, Int.reducePow, Nat.reducePow, Int.reduceNeg, Int.reduceLT, Int.reduceLE, natAbs64, natAbs30, Int.reduceToNat, Int.reduceEq, Int.reduceAdd, Int.reduceSub, Int.reduceMul, ne_eq, not_false_eq_true, Int.reduceNe, Ev.alloc, Ev.eq_ii, Ev.eq_ss, Ev.eq_bb, Ev.eq_nn, Ev.eq_ni, Ev.eq_in, Ev.eq_ns, Ev.eq_sn, Ev.eq_nb, Ev.eq_bn, Ev.eq_is, Ev.eq_si, and_self, true_and, and_true, fmod_lt64, fmod_gt64, atI_0, atI_1, atI_2, atI_3, atI_4, atI_5, atI_6, atI_7, atI_8, atI_9, seqOf, lstOf, slcV, revV, srcOf, optI, List.nil_append, List.cons_append, sto_new, intsP, sortI, insI, compL, compG, wipeP, boolsP, List.all_cons, List.all_nil, id_eq, keep_nil, maxI, minI, intsP, cutf_1, cutf_2, cutf_3, cutf_4, cutt_1, cutt_2, cutt_3, cutt_4, List.drop_succ_cons, List.drop_zero, List.take_succ_cons, List.take_zero, Int.cast_ofNat_Int, false_and, and_false, eq_new_empty (xs := []) (by simp [fines]) (by simp [pds, PyData.depthAll]), List.isEmpty_nil]
              refine ⟨_, _, .inl rfl, t + 1, by omega, rfl, k.trans (Keep.app.trans (Keep.app.trans Keep.app)), some (.int (1 + (t : Int))), some (.int a), ?_⟩
              rw [hst, stp_t (by rw [hma]; exact hc.mpr ⟨by omega, hall⟩), hu, tc1, hidx]
              rfl
            · generalize hr : (X.map lkV).filterMap (fun x => match x with | .tup [.bl g, .int _] => if g = false then some (PV.bl g) else none | _ => none) = res
              have r1 : ∀ x ∈ res, ∃ g, x = PV.bl g := by
                intro x hx
                rw [← hr] at hx
                obtain ⟨y, hy, e⟩ := List.mem_filterMap.mp hx
                obtain ⟨p, hp, rfl⟩ := List.mem_map.mp hy
                simp only [lkV] at e
                split at e
                · cases e; exact ⟨_, rfl⟩
                · cases e
              have r2 : res.isEmpty = false := by
                rw [Bool.eq_false_iff]
                intro z
                apply hall
                intro x hx e
                obtain ⟨p, hp, rfl⟩ := List.mem_map.mp hx
                have := List.filterMap_eq_nil_iff.mp (hr.trans (List.isEmpty_iff.mp z)) (lkV p) (List.mem_map_of_mem hp)
                simp [lkV, e] at this
              have r3 : fines res = true := fines_all fun x hx => by obtain ⟨g, rfl⟩ := r1 x hx; rfl
              have r4 : PyData.depthAll (pds res) ≤ 63 := depths_all fun x hx => by obtain ⟨g, rfl⟩ := r1 x hx; simp [pd, PyData.depth]
              simp only [↓evE.eq_1, ↓evE.eq_2, ↓evE.eq_3, ↓evE.eq_4, ↓evE.eq_5, ↓evE.eq_6, ↓evE.eq_7, ↓evE.eq_8, ↓evE.eq_9, ↓evE.eq_10, ↓evE.eq_11, ↓evE.eq_12, ↓evE.eq_13, ↓evE.eq_14, ↓evE.eq_15, ↓evE.eq_16, ↓evE.eq_17, ↓evE.eq_18, ↓evE.eq_19, ↓evE.eq_20, ↓evE.eq_21, ↓evE.eq_22, ↓evE.eq_23, ↓evE.eq_24, ↓evE.eq_25, ↓evE.eq_26, ↓evE.eq_27, ↓evE.eq_28, ↓evE.eq_29, ↓evE.eq_30, ↓evE.eq_31, ↓evE.eq_32, ↓evS.eq_1, ↓evS_seq, ↓evS.eq_3, ↓evS.eq_4, ↓evS.eq_5, ↓evS.eq_6, ↓evS.eq_7, ↓evS.eq_8, ↓evS_ite, ↓iteS, ↓evS.eq_11, ↓evS.eq_12, ↓evS.eq_13, ↓evS.eq_14, ↓evS.eq_15, ↓evS.eq_16, ↓evS.eq_17, ↓evS_for, ↓evA.eq_1, ↓evA.eq_2, ↓evT.eq_1, ↓evT.eq_2, ↓evO.eq_1, ↓evO.eq_2, ↓evI.eq_1, ↓evI.eq_2, ↓evI.eq_3, ↓m_bind, ↓m_then, ↓m_opt, SRes.bind_nx, SRes.bind_rt, SRes.bind_bk, SRes.bind_ct, SRes.bind_ex, SRes.bind_bad, at_call, at_glo, at_fuel, SRes.back, List.getElem?_cons_zero, List.getElem?_cons_succ, List.set_cons_zero, List.set_cons_succ, asgT, asgTs, cmpV, truV, binV, bltV, tyN, tyLe, subV, Option.map_some, Option.map_none, List.any_cons, List.any_nil, if_true, if_false, ite_true, ite_false, String.reduceBEq, Nat.reduceAdd, Bool.or_false, Bool.false_or, Bool.or_true, Bool.true_or, Bool.and_true, Bool.true_and, Bool.and_false, Bool.false_and, Bool.not_true, Bool.not_false, beq_self_eq_true, decide_true, decide_false, reduceCtorEq, Bool.false_eq_true, keyOf, dctKeys, List.length_cons, List.length_nil, List.zip_cons_cons, List.zip_nil_left, List.zip_nil_right, List.foldl_cons, List.foldl_nil, methV, setV, isL, permL_cons, permL_nil, List.map_cons, List.map_nil, valP_cons, valP_nil, key_str, key_int, ofString_eq, String.reduceEq, putP, sizeLine_eq, Nat.reduceLT, Nat.reduceLeDiff, sto_self, mulOk, powOk, divOk, Int.reducePow, Nat.reducePow, Int.reduceNeg, Int.reduceLT, Int.reduceLE, natAbs64, natAbs30, Int.reduceToNat, Int.reduceEq, Int.reduceAdd, Int.reduceSub, Int.reduceMul, ne_eq, not_false_eq_true, Int.reduceNe, Ev.alloc, Ev.eq_ii, Ev.eq_ss, Ev.eq_bb, Ev.eq_nn, Ev.eq_ni, Ev.eq_in, Ev.eq_ns, Ev.eq_sn, Ev.eq_nb, Ev.eq_bn, Ev.eq_is, Ev.eq_si, and_self, true_and, and_true, fmod_lt64, fmod_gt64, atI_0, atI_1, atI_2, atI_3, atI_4, atI_5, atI_6, atI_7, atI_8, atI_9, seqOf, lstOf, slcV, revV, srcOf, optI, List.nil_append, List.cons_append, sto_new, intsP, sortI, insI, compL, compG, wipeP, boolsP, List.all_cons, List.all_nil, id_eq, keep_nil, maxI, minI, intsP, cutf_1, cutf_2, cutf_3, cutf_4, cutt_1, cutt_2, cutt_3, cutt_4, List.drop_succ_cons, List.drop_zero, List.take_succ_cons, List.take_zero, Int.cast_ofNat_Int, false_and, and_false, eq_new_empty r3 r4, r2]
              refine ⟨_, _, .inl rfl, t + 1, by omega, rfl, k.trans (Keep.app.trans (Keep.app.trans Keep.app)), some (.int (1 + (t : Int))), some (.int a), ?_⟩
              rw [hst, stp_f (by rw [hma]; exact fun z => hall (hc.mp z).2), hu]
          · simp only [↓evE.eq_1, ↓evE.eq_2, ↓evE.eq_3, ↓evE.eq_4, ↓evE.eq_5, ↓evE.eq_6, ↓evE.eq_7, ↓evE.eq_8, ↓evE.eq_9, ↓evE.eq_10, ↓evE.eq_11, ↓evE.eq_12, ↓evE.eq_13, ↓evE.eq_14, ↓evE.eq_15, ↓evE.eq_16, ↓evE.eq_17, ↓evE.eq_18, ↓evE.eq_19, ↓evE.eq_20, ↓evE.eq_21, ↓evE.eq_22, ↓evE.eq_23, ↓evE.eq_24, ↓evE.eq_25, ↓evE.eq_26, ↓evE.eq_27, ↓evE.eq_28, ↓evE.eq_29, ↓evE.eq_30, ↓evE.eq_31, ↓evE.eq_32, ↓evS.eq_1, ↓evS_seq, ↓evS.eq_3, ↓evS.eq_4, ↓evS.eq_5, ↓evS.eq_6, ↓evS.eq_7, ↓evS.eq_8, ↓evS_ite, ↓iteS, ↓evS.eq_11, ↓evS.eq_12, ↓evS.eq_13, ↓evS.eq_14, ↓evS.eq_15, ↓evS.eq_16, ↓evS.eq_17, ↓evS_for, ↓evA.eq_1, ↓evA.eq_2, ↓evT.eq_1, ↓evT.eq_2, ↓evO.eq_1, ↓evO.eq_2, ↓evI.eq_1, ↓evI.eq_2, ↓evI.eq_3, ↓m_bind, ↓m_then, ↓m_opt, SRes.bind_nx, SRes.bind_rt, SRes.bind_bk, SRes.bind_ct, SRes.bind_ex, SRes.bind_bad, at_call, at_glo, at_fuel, SRes.back, List.getElem?_cons_zero, List.getElem?_cons_succ, List.set_cons_zero, List.set_cons_succ, asgT, asgTs, cmpV, truV, binV, bltV, tyN, tyLe, subV, Option.map_some, Option.map_none, List.any_cons, List.any_nil, if_true, if_false, ite_true, ite_false, String.reduceBEq, Nat.reduceAdd, Bool.or_false, Bool.false_or, Bool.or_true, Bool.true_or, Bool.and_true, Bool.true_and, Bool.and_false, Bool.false_and, Bool.not_true, Bool.not_false, beq_self_eq_true, decide_true, decide_false, reduceCtorEq, Bool.false_eq_true, keyOf, dctKeys, List.length_cons, List.length_nil, List.zip_cons_cons, List.zip_nil_left, List.zip_nil_right, List.foldl_cons, List.foldl_nil, methV, setV, isL, permL_cons, permL_nil, List.map_cons, List.map_nil, valP_cons, valP_nil, key_str, key_int, ofString_eq, String.reduceEq, putP, sizeLine_eq, Nat.reduceLT, Nat.reduceLeDiff, sto_self, mulOk, powOk, divOk, Int.reducePow, Nat.reducePow, Int.reduceNeg, Int.reduceLT, Int.reduceLE, natAbs64, natAbs30, Int.reduceToNat, Int.reduceEq, Int.reduceAdd, Int.reduceSub, Int.reduceMul, ne_eq, not_false_eq_true, Int.reduceNe, Ev.alloc, Ev.eq_ii, Ev.eq_ss, Ev.eq_bb, Ev.eq_nn, Ev.eq_ni, Ev.eq_in, Ev.eq_ns, Ev.eq_sn, Ev.eq_nb, Ev.eq_bn, Ev.eq_is, Ev.eq_si, and_self, true_and, and_true, fmod_lt64, fmod_gt64, atI_0, atI_1, atI_2, atI_3, atI_4, atI_5, atI_6, atI_7, atI_8, atI_9, seqOf, lstOf, slcV, revV, srcOf, optI, List.nil_append, List.cons_append, sto_new, intsP, sortI, insI, compL, compG, wipeP, boolsP, List.all_cons, List.all_nil, id_eq, keep_nil, maxI, minI, intsP, cutf_1, cutf_2, cutf_3, cutf_4, cutt_1, cutt_2, cutt_3, cutt_4, List.drop_succ_cons, List.drop_zero, List.take_succ_cons, List.take_zero, Int.cast_ofNat_Int, false_and, and_false, hq1, hu, c1]
            refine ⟨_, _, .inl rfl, t + 1, by omega, rfl, k, some (.int (1 + (t : Int))), some (.int a), ?_⟩
            rw [hst, stp_f (by rw [hma]; exact fun z => c1 (by have := (hc.mp z).1; omega)), hu]
        ·
          have hma : mn a b s0 = b := by unfold mn; rw [hu]; rfl
          rw [hma] at hm hc
          rw [hu] at hc
          by_cases c1 : b ≤ 1 + (t : Int) - s0.start
          · have hcut : cutP (L.map lkV) (some (1 + (t : Int) - b)) (some (1 + (t : Int))) = ((L.take (t + 1)).drop (t + 1 - m)).map lkV := by
              rw [← hm, tc1, show (((t + 1 : Nat) : Int) - (m : Int)) = ((t + 1 - m : Nat) : Int) by omega, cut_mid _ _ _ (by simp; omega) (by omega)]
              simp
            simp only [↓evE.eq_1, ↓evE.eq_2, ↓evE.eq_3, ↓evE.eq_4, ↓evE.eq_5, ↓evE.eq_6, ↓evE.eq_7, ↓evE.eq_8, ↓evE.eq_9, ↓evE.eq_10, ↓evE.eq_11, ↓evE.eq_12, ↓evE.eq_13, ↓evE.eq_14, ↓evE.eq_15, ↓evE.eq_16, ↓evE.eq_17, ↓evE.eq_18, ↓evE.eq_19, ↓evE.eq_20, ↓evE.eq_21, ↓evE.eq_22, ↓evE.eq_23, ↓evE.eq_24, ↓evE.eq_25, ↓evE.eq_26, ↓evE.eq_27, ↓evE.eq_28, ↓evE.eq_29, ↓evE.eq_30, ↓evE.eq_31, ↓evE.eq_32, ↓evS.eq_1, ↓evS_seq, ↓evS.eq_3, ↓evS.eq_4, ↓evS.eq_5, ↓evS.eq_6, ↓evS.eq_7, ↓evS.eq_8, ↓evS_ite, ↓iteS, ↓evS.eq_11, ↓evS.eq_12, ↓evS.eq_13, ↓evS.eq_14, ↓evS.eq_15, ↓evS.eq_16, ↓evS.eq_17, ↓evS_for, ↓evA.eq_1, ↓evA.eq_2, ↓evT.eq_1, ↓evT.eq_2, ↓evO.eq_1, ↓evO.eq_2, ↓evI.eq_1, ↓evI.eq_2, ↓evI.eq_3, ↓m_bind, ↓m_then, ↓m_opt, SRes.bind_nx, SRes.bind_rt, SRes.bind_bk, SRes.bind_ct, SRes.bind_ex, SRes.bind_bad, at_call, at_glo, at_fuel, SRes.back, List.getElem?_cons_zero, List.getElem?_cons_succ, List.set_cons_zero, List.set_cons_succ, asgT, asgTs, cmpV, truV, binV, bltV, tyN, tyLe, subV, Option.map_some, Option.map_none, List.any_cons, List.any_nil, if_true, if_false, ite_true, ite_false, String.reduceBEq, Nat.reduceAdd, Bool.or_false, Bool.false_or, Bool.or_true, Bool.true_or, Bool.and_true, Bool.true_and, Bool.and_false, Bool.false_and, Bool.not_true, Bool.not_false, beq_self_eq_true, decide_true, decide_false, reduceCtorEq, Bool.false_eq_true, keyOf, dctKeys, List.length_cons, List.length_nil, List.zip_cons_cons, List.zip_nil_left, List.zip_nil_right, List.foldl_cons, List.foldl_nil, methV, setV, isL, permL_cons, permL_nil, List.map_cons, List.map_nil, valP_cons, valP_nil, key_str, key_int, ofString_eq, String.reduceEq, putP, sizeLine_eq, Nat.reduceLT, Nat.reduceLeDiff, sto_self, mulOk, powOk, divOk, Int.reducePow, Nat.reducePow, Int.reduceNeg, Int.reduceLT, Int.reduceLE, natAbs64, natAbs30, Int.reduceToNat, Int.reduceEq, Int.reduceAdd, Int.reduceSub, Int.reduceMul, ne_eq, not_false_eq_true, Int.reduceNe, Ev.alloc, Ev.eq_ii, Ev.eq_ss, Ev.eq_bb, Ev.eq_nn, Ev.eq_ni, Ev.eq_in, Ev.eq_ns, Ev.eq_sn, Ev.eq_nb, Ev.eq_bn, Ev.eq_is, Ev.eq_si, and_self, true_and, and_true, fmod_lt64, fmod_gt64, atI_0, atI_1, atI_2, atI_3, atI_4, atI_5, atI_6, atI_7, atI_8, atI_9, seqOf, lstOf, slcV, revV, srcOf, optI, List.nil_append, List.cons_append, sto_new, intsP, sortI, insI, compL, compG, wipeP, boolsP, List.all_cons, List.all_nil, id_eq, keep_nil, maxI, minI, intsP, cutf_1, cutf_2, cutf_3, cutf_4, cutt_1, cutt_2, cutt_3, cutt_4, List.drop_succ_cons, List.drop_zero, List.take_succ_cons, List.take_zero, Int.cast_ofNat_Int, false_and, and_false, hq1, hu, c1, hcut]
            generalize hz2 : compL _ _ _ _ _ = z2
            have hc2 := comp_of hz2 (fun x => match x with | .tup [.bl g, .int _] => if g = true then some (.bl g) else none | _ => none) (keep_one (sto_new _ _)) (fun x hx => by
              obtain ⟨p, hp, rfl⟩ := List.mem_map.mp hx
              obtain ⟨g, v⟩ := p
              cases g <;> simp only [lkV] <;> simp only [↓evE.eq_1, ↓evE.eq_2, ↓evE.eq_3, ↓evE.eq_4, ↓evE.eq_5, ↓evE.eq_6, ↓evE.eq_7, ↓evE.eq_8, ↓evE.eq_9, ↓evE.eq_10, ↓evE.eq_11, ↓evE.eq_12, ↓evE.eq_13, ↓evE.eq_14, ↓evE.eq_15, ↓evE.eq_16, ↓evE.eq_17, ↓evE.eq_18, ↓evE.eq_19, ↓evE.eq_20, ↓evE.eq_21, ↓evE.eq_22, ↓evE.eq_23, ↓evE.eq_24, ↓evE.eq_25, ↓evE.eq_26, ↓evE.eq_27, ↓evE.eq_28, ↓evE.eq_29, ↓evE.eq_30, ↓evE.eq_31, ↓evE.eq_32, ↓evS.eq_1, ↓evS_seq, ↓evS.eq_3, ↓evS.eq_4, ↓evS.eq_5, ↓evS.eq_6, ↓evS.eq_7, ↓evS.eq_8, ↓evS_ite, ↓iteS, ↓evS.eq_11, ↓evS.eq_12, ↓evS.eq_13, ↓evS.eq_14, ↓evS.eq_15, ↓evS.eq_16, ↓evS.eq_17, ↓evS_for, ↓evA.eq_1, ↓evA.eq_2, ↓evT.eq_1, ↓evT.eq_2, ↓evO.eq_1, ↓evO.eq_2, ↓evI.eq_1, ↓evI.eq_2, ↓evI.eq_3, ↓m_bind, ↓m_then, ↓m_opt, SRes.bind_nx, SRes.bind_rt, SRes.bind_bk, SRes.bind_ct, SRes.bind_ex, SRes.bind_bad, at_call, at_glo, at_fuel, SRes.back, List.getElem?_cons_zero, List.getElem?_cons_succ, List.set_cons_zero, List.set_cons_succ, asgT, asgTs, cmpV, truV, binV, bltV, tyN, tyLe, subV, Option.map_some, Option.map_none, List.any_cons, List.any_nil, if_true, if_false, ite_true, ite_false, String.reduceBEq, Nat.reduceAdd, Bool.or_false, Bool.false_or, Bool.or_true, Bool.true_or, Bool.and_true, Bool.true_and, Bool.and_false, Bool.false_and, Bool.not_true, Bool.not_false, beq_self_eq_true, decide_true, decide_false, reduceCtorEq, Bool.false_eq_true, keyOf, dctKeys, List.length_cons, List.length_nil, List.zip_cons_cons, List.zip_nil_left, List.zip_nil_right, List.foldl_cons, List.foldl_nil, methV, setV, isL, permL_cons, permL_nil, List.map_cons, List.map_nil, valP_cons, valP_nil, key_str, key_int, ofString_eq, String.reduceEq, putP, sizeLine_eq, Nat.reduceLT, Nat.reduceLeDiff, sto_self, mulOk, powOk, divOk, Int.reducePow, Nat.reducePow, Int.reduceNeg, Int.reduceLT, Int.reduceLE, natAbs64, natAbs30, Int.reduceToNat, Int.reduceEq, Int.reduceAdd, Int.reduceSub, Int.reduceMul, ne_eq, not_false_eq_true, Int.reduceNe, Ev.alloc, Ev.eq_ii, Ev.eq_ss, Ev.eq_bb, Ev.eq_nn, Ev.eq_ni, Ev.eq_in, Ev.eq_ns, Ev.eq_sn, Ev.eq_nb, Ev.eq_bn, Ev.eq_is, Ev.eq_si, and_self, true_and, and_true, fmod_lt64, fmod_gt64, atI_0, atI_1, atI_2, atI_3, atI_4, atI_5, atI_6, atI_7, atI_8, atI_9, seqOf, lstOf, slcV, revV, srcOf, optI, List.nil_append, List.cons_append, sto_new, intsP, sortI, insI, compL, compG, wipeP, boolsP, List.all_cons, List.all_nil, id_eq, keep_nil, maxI, minI, intsP, cutf_1, cutf_2, cutf_3, cutf_4, cutt_1, cutt_2, cutt_3, cutt_4, List.drop_succ_cons, List.drop_zero, List.take_succ_cons, List.take_zero, Int.cast_ofNat_Int, false_and, and_false]) (by rw [sizeLine_eq]; simp; omega)
            subst hc2
            have hB : ((L.map Prod.fst).take (t + 1)).drop (t + 1 - m) = ((L.take (t + 1)).drop (t + 1 - m)).map Prod.fst := by simp
            rw [hB] at hc
            generalize (L.take (t + 1)).drop (t + 1 - m) = X at *
            by_cases hall : ∀ x ∈ X.map Prod.fst, x ≠ true
            · have hres : (X.map lkV).filterMap (fun x => match x with | .tup [.bl g, .int _] => if g = true then some (PV.bl g) else none | _ => none) = [] := by
                rw [List.filterMap_eq_nil_iff]
                intro x hx
                obtain ⟨p, hp, rfl⟩ := List.mem_map.mp hx
                have := hall p.1 (List.mem_map_of_mem hp)
                simp [lkV, this]
              rw [hres]
              simp only [↓evE.eq_1, ↓evE.eq_2, ↓evE.eq_3, ↓evE.eq_4, ↓evE.eq_5, ↓evE.eq_6, ↓evE.eq_7, ↓evE.eq_8, ↓evE.eq_9, ↓evE.eq_10, ↓evE.eq_11, ↓evE.eq_12, ↓evE.eq_13, ↓evE.eq_14, ↓evE.eq_15, ↓evE.eq_16, ↓evE.eq_17, ↓evE.eq_18, ↓evE.eq_19, ↓evE.eq_20, ↓evE.eq_21, ↓evE.eq_22, ↓evE.eq_23, ↓evE.eq_24, ↓evE.eq_25, ↓evE.eq_26, ↓evE.eq_27, ↓evE.eq_28, ↓evE.eq_29, ↓evE.eq_30, ↓evE.eq_31, ↓evE.eq_32, ↓evS.eq_1, ↓evS_seq, ↓evS.eq_3, ↓evS.eq_4, ↓evS.eq_5, ↓evS.eq_6, ↓evS.eq_7, ↓evS.eq_8, ↓evS_ite, ↓iteS, ↓evS.eq_11, ↓evS.eq_12, ↓evS.eq_13, ↓evS.eq_14, ↓evS.eq_15, ↓evS.eq_16, ↓evS.eq_17, ↓evS_for, ↓evA.eq_1, ↓evA.eq_2, ↓evT.eq_1, ↓evT.eq_2, ↓evO.eq_1, ↓evO.eq_2, ↓evI.eq_1, ↓evI.eq_2, ↓evI.eq_3, ↓m_bind, ↓m_then, ↓m_opt, SRes.bind_nx, SRes.bind_rt, SRes.bind_bk, SRes.bind_ct, SRes.bind_ex, SRes.bind_bad, at_call, at_glo, at_fuel, SRes.back, List.getElem?_cons_zero, List.getElem?_cons_succ, List.set_cons_zero, List.set_cons_succ, asgT, asgTs, cmpV, truV, binV, bltV, tyN, tyLe, subV, Option.map_some, Option.map_none, List.any_cons, List.any_nil, if_true, if_false, ite_true, ite_false, String.reduceBEq, Nat.reduceAdd, Bool.or_false, Bool.false_or, Bool.or_true, Bool.true_or, Bool.and_true, Bool.true_and, Bool.and_false, Bool.false_and, Bool.not_true, Bool.not_false, beq_self_eq_true, decide_true, decide_false, reduceCtorEq, Bool.false_eq_true, keyOf, dctKeys, List.length_cons, List.length_nil, List.zip_cons_cons, List.zip_nil_left, List.zip_nil_right, List.foldl_cons, List.foldl_nil, methV, setV, isL, permL_cons, permL_nil, List.map_cons, List.map_nil, valP_cons, valP_nil, key_str, key_int, ofString_eq, String.reduceEq, putP, sizeLine_eq, Nat.reduceLT, Nat.reduceLeDiff, sto_self, mulOk, powOk, divOk, Int.reducePow, Nat.reducePow, Int.reduceNeg, Int.reduceLT, Int.reduceLE, natAbs64, natAbs30, Int.reduceToNat, Int.reduceEq, Int.reduceAdd, Int.reduceSub, Int.reduceMul, ne_eq, not_false_eq_true, Int.reduceNe, Ev.alloc, Ev.eq_ii, Ev.eq_ss, Ev.eq_bb, Ev.eq_nn, Ev.eq_ni, Ev.eq_in, Ev.eq_ns, Ev.eq_sn, Ev.eq_nb, Ev.eq_bn, Ev.eq_is, Ev.eq_si, and_self, true_and, and_true, fmod_lt64, fmod_gt64, atI_0, atI_1, atI_2, atI_3, atI_4, atI_5, atI_6, atI_7, atI_8, atI_9, seqOf, lstOf, slcV, revV, srcOf, optI, List.nil_append, List.cons_append, sto_new, intsP, sortI, insI, compL, compG, wipeP, boolsP, List.all_cons, List.all_nil, id_eq, keep_nil, maxI, minI, intsP, cutf_1, cutf_2, cutf_3, cutf_4, cutt_1, cutt_2, cutt_3, cutt_4, List.drop_succ_cons, List.drop_zero, List.take_succ_cons, List.take_zero, Int.cast_ofNat_Int, false_and, and_false, eq_new_empty (xs := []) (by simp [fines]) (by simp [pds, PyData.depthAll]), List.isEmpty_nil]
              refine ⟨_, _, .inl rfl, t + 1, by omega, rfl, k.trans (Keep.app.trans (Keep.app.trans Keep.app)), some (.int (1 + (t : Int))), some (.int b), ?_⟩
              rw [hst, stp_t (by rw [hma]; exact hc.mpr ⟨by omega, hall⟩), hu, tc1, hidx]
              rfl
            · generalize hr : (X.map lkV).filterMap (fun x => match x with | .tup [.bl g, .int _] => if g = true then some (PV.bl g) else none | _ => none) = res
              have r1 : ∀ x ∈ res, ∃ g, x = PV.bl g := by
                intro x hx
                rw [← hr] at hx
                obtain ⟨y, hy, e⟩ := List.mem_filterMap.mp hx
                obtain ⟨p, hp, rfl⟩ := List.mem_map.mp hy
                simp only [lkV] at e
                split at e
                · cases e; exact ⟨_, rfl⟩
                · cases e
              have r2 : res.isEmpty = false := by
                rw [Bool.eq_false_iff]
                intro z
                apply hall
                intro x hx e
                obtain ⟨p, hp, rfl⟩ := List.mem_map.mp hx
                have := List.filterMap_eq_nil_iff.mp (hr.trans (List.isEmpty_iff.mp z)) (lkV p) (List.mem_map_of_mem hp)
                simp [lkV, e] at this
              have r3 : fines res = true := fines_all fun x hx => by obtain ⟨g, rfl⟩ := r1 x hx; rfl
              have r4 : PyData.depthAll (pds res) ≤ 63 := depths_all fun x hx => by obtain ⟨g, rfl⟩ := r1 x hx; simp [pd, PyData.depth]
              simp only [↓evE.eq_1, ↓evE.eq_2, ↓evE.eq_3, ↓evE.eq_4, ↓evE.eq_5, ↓evE.eq_6, ↓evE.eq_7, ↓evE.eq_8, ↓evE.eq_9, ↓evE.eq_10, ↓evE.eq_11, ↓evE.eq_12, ↓evE.eq_13, ↓evE.eq_14, ↓evE.eq_15, ↓evE.eq_16, ↓evE.eq_17, ↓evE.eq_18, ↓evE.eq_19, ↓evE.eq_20, ↓evE.eq_21, ↓evE.eq_22, ↓evE.eq_23, ↓evE.eq_24, ↓evE.eq_25, ↓evE.eq_26, ↓evE.eq_27, ↓evE.eq_28, ↓evE.eq_29, ↓evE.eq_30, ↓evE.eq_31, ↓evE.eq_32, ↓evS.eq_1, ↓evS_seq, ↓evS.eq_3, ↓evS.eq_4, ↓evS.eq_5, ↓evS.eq_6, ↓evS.eq_7, ↓evS.eq_8, ↓evS_ite, ↓iteS, ↓evS.eq_11, ↓evS.eq_12, ↓evS.eq_13, ↓evS.eq_14, ↓evS.eq_15, ↓evS.eq_16, ↓evS.eq_17, ↓evS_for, ↓evA.eq_1, ↓evA.eq_2, ↓evT.eq_1, ↓evT.eq_2, ↓evO.eq_1, ↓evO.eq_2, ↓evI.eq_1, ↓evI.eq_2, ↓evI.eq_3, ↓m_bind, ↓m_then, ↓m_opt, SRes.bind_nx, SRes.bind_rt, SRes.bind_bk, SRes.bind_ct, SRes.bind_ex, SRes.bind_bad, at_call, at_glo, at_fuel, SRes.back, List.getElem?_cons_zero, List.getElem?_cons_succ, List.set_cons_zero, List.set_cons_succ, asgT, asgTs, cmpV, truV, binV, bltV, tyN, tyLe, subV, Option.map_some, Option.map_none, List.any_cons, List.any_nil, if_true, if_false, ite_true, ite_false, String.reduceBEq, Nat.reduceAdd, Bool.or_false, Bool.false_or, Bool.or_true, Bool.true_or, Bool.and_true, Bool.true_and, Bool.and_false, Bool.false_and, Bool.not_true, Bool.not_false, beq_self_eq_true, decide_true, decide_false, reduceCtorEq, Bool.false_eq_true, keyOf, dctKeys, List.length_cons, List.length_nil, List.zip_cons_cons, List.zip_nil_left, List.zip_nil_right, List.foldl_cons, List.foldl_nil, methV, setV, isL, permL_cons, permL_nil, List.map_cons, List.map_nil, valP_cons, valP_nil, key_str, key_int, ofString_eq, String.reduceEq, putP, sizeLine_eq, Nat.reduceLT, Nat.reduceLeDiff, sto_self, mulOk, powOk, divOk, Int.reducePow, Nat.reducePow, Int.reduceNeg, Int.reduceLT, Int.reduceLE, natAbs64, natAbs30, Int.reduceToNat, Int.reduceEq, Int.reduceAdd, Int.reduceSub, Int.reduceMul, ne_eq, not_false_eq_true, Int.reduceNe, Ev.alloc, Ev.eq_ii, Ev.eq_ss, Ev.eq_bb, Ev.eq_nn, Ev.eq_ni, Ev.eq_in, Ev.eq_ns, Ev.eq_sn, Ev.eq_nb, Ev.eq_bn, Ev.eq_is, Ev.eq_si, and_self, true_and, and_true, fmod_lt64, fmod_gt64, atI_0, atI_1, atI_2, atI_3, atI_4, atI_5, atI_6, atI_7, atI_8, atI_9, seqOf, lstOf, slcV, revV, srcOf, optI, List.nil_append, List.cons_append, sto_new, intsP, sortI, insI, compL, compG, wipeP, boolsP, List.all_cons, List.all_nil, id_eq, keep_nil, maxI, minI, intsP, cutf_1, cutf_2, cutf_3, cutf_4, cutt_1, cutt_2, cutt_3, cutt_4, List.drop_succ_cons, List.drop_zero, List.take_succ_cons, List.take_zero, Int.cast_ofNat_Int, false_and, and_false, eq_new_empty r3 r4, r2]
              refine ⟨_, _, .inl rfl, t + 1, by omega, rfl, k.trans (Keep.app.trans (Keep.app.trans Keep.app)), some (.int (1 + (t : Int))), some (.int b), ?_⟩
              rw [hst, stp_f (by rw [hma]; exact fun z => hall (hc.mp z).2), hu]
          · simp only [↓evE.eq_1, ↓evE.eq_2, ↓evE.eq_3, ↓evE.eq_4, ↓evE.eq_5, ↓evE.eq_6, ↓evE.eq_7, ↓evE.eq_8, ↓evE.eq_9, ↓evE.eq_10, ↓evE.eq_11, ↓evE.eq_12, ↓evE.eq_13, ↓evE.eq_14, ↓evE.eq_15, ↓evE.eq_16, ↓evE.eq_17, ↓evE.eq_18, ↓evE.eq_19, ↓evE.eq_20, ↓evE.eq_21, ↓evE.eq_22, ↓evE.eq_23, ↓evE.eq_24, ↓evE.eq_25, ↓evE.eq_26, ↓evE.eq_27, ↓evE.eq_28, ↓evE.eq_29, ↓evE.eq_30, ↓evE.eq_31, ↓evE.eq_32, ↓evS.eq_1, ↓evS_seq, ↓evS.eq_3, ↓evS.eq_4, ↓evS.eq_5, ↓evS.eq_6, ↓evS.eq_7, ↓evS.eq_8, ↓evS_ite, ↓iteS, ↓evS.eq_11, ↓evS.eq_12, ↓evS.eq_13, ↓evS.eq_14, ↓evS.eq_15, ↓evS.eq_16, ↓evS.eq_17, ↓evS_for, ↓evA.eq_1, ↓evA.eq_2, ↓evT.eq_1, ↓evT.eq_2, ↓evO.eq_1, ↓evO.eq_2, ↓evI.eq_1, ↓evI.eq_2, ↓evI.eq_3, ↓m_bind, ↓m_then, ↓m_opt, SRes.bind_nx, SRes.bind_rt, SRes.bind_bk, SRes.bind_ct, SRes.bind_ex, SRes.bind_bad, at_call, at_glo, at_fuel, SRes.back, List.getElem?_cons_zero, List.getElem?_cons_succ, List.set_cons_zero, List.set_cons_succ, asgT, asgTs, cmpV, truV, binV, bltV, tyN, tyLe, subV, Option.map_some, Option.map_none, List.any_cons, List.any_nil, if_true, if_false, ite_true, ite_false, String.reduceBEq, Nat.reduceAdd, Bool.or_false, Bool.false_or, Bool.or_true, Bool.true_or, Bool.and_true, Bool.true_and, Bool.and_false, Bool.false_and, Bool.not_true, Bool.not_false, beq_self_eq_true, decide_true, decide_false, reduceCtorEq, Bool.false_eq_true, keyOf, dctKeys, List.length_cons, List.length_nil, List.zip_cons_cons, List.zip_nil_left, List.zip_nil_right, List.foldl_cons, List.foldl_nil, methV, setV, isL, permL_cons, permL_nil, List.map_cons, List.map_nil, valP_cons, valP_nil, key_str, key_int, ofString_eq, String.reduceEq, putP, sizeLine_eq, Nat.reduceLT, Nat.reduceLeDiff, sto_self, mulOk, powOk, divOk, Int.reducePow, Nat.reducePow, Int.reduceNeg, Int.reduceLT, Int.reduceLE, natAbs64, natAbs30, Int.reduceToNat, Int.reduceEq, Int.reduceAdd, Int.reduceSub, Int.reduceMul, ne_eq, not_false_eq_true, Int.reduceNe, Ev.alloc, Ev.eq_ii, Ev.eq_ss, Ev.eq_bb, Ev.eq_nn, Ev.eq_ni, Ev.eq_in, Ev.eq_ns, Ev.eq_sn, Ev.eq_nb, Ev.eq_bn, Ev.eq_is, Ev.eq_si, and_self, true_and, and_true, fmod_lt64, fmod_gt64, atI_0, atI_1, atI_2, atI_3, atI_4, atI_5, atI_6, atI_7, atI_8, atI_9, seqOf, lstOf, slcV, revV, srcOf, optI, List.nil_append, List.cons_append, sto_new, intsP, sortI, insI, compL, compG, wipeP, boolsP, List.all_cons, List.all_nil, id_eq, keep_nil, maxI, minI, intsP, cutf_1, cutf_2, cutf_3, cutf_4, cutt_1, cutt_2, cutt_3, cutt_4, List.drop_succ_cons, List.drop_zero, List.take_succ_cons, List.take_zero, Int.cast_ofNat_Int, false_and, and_false, hq1, hu, c1]
            refine ⟨_, _, .inl rfl, t + 1, by omega, rfl, k, some (.int (1 + (t : Int))), some (.int b), ?_⟩
            rw [hst, stp_f (by rw [hma]; exact fun z => c1 (by have := (hc.mp z).1; omega)), hu]
        )
    have ht : t = L.length := by
      have := congrArg List.length h2
      simp at this
      omega
    subst ht
    have e2 : (L.map Prod.fst).take L.length = L.map Prod.fst := List.take_of_length_le (by simp)
    rw [e2, ← hs] at h3
    exact ⟨env1, M1, e, h3.2, h3.1⟩
  obtain ⟨s8, s9, rfl⟩ := e1
  have hq1 := k1.get hq (by simp)
  have I := fs_inv ha hb (L.map Prod.fst)
  rw [← hs] at I
  have hcut : cutP (L.map lkV) (some (s.start : Int)) none = (L.drop s.start).map lkV := by rw [cut_from]; simp
  simp only [↓evE.eq_1, ↓evE.eq_2, ↓evE.eq_3, ↓evE.eq_4, ↓evE.eq_5, ↓evE.eq_6, ↓evE.eq_7, ↓evE.eq_8, ↓evE.eq_9, ↓evE.eq_10, ↓evE.eq_11, ↓evE.eq_12, ↓evE.eq_13, ↓evE.eq_14, ↓evE.eq_15, ↓evE.eq_16, ↓evE.eq_17, ↓evE.eq_18, ↓evE.eq_19, ↓evE.eq_20, ↓evE.eq_21, ↓evE.eq_22, ↓evE.eq_23, ↓evE.eq_24, ↓evE.eq_25, ↓evE.eq_26, ↓evE.eq_27, ↓evE.eq_28, ↓evE.eq_29, ↓evE.eq_30, ↓evE.eq_31, ↓evE.eq_32, ↓evS.eq_1, ↓evS_seq, ↓evS.eq_3, ↓evS.eq_4, ↓evS.eq_5, ↓evS.eq_6, ↓evS.eq_7, ↓evS.eq_8, ↓evS_ite, ↓iteS, ↓evS.eq_11, ↓evS.eq_12, ↓evS.eq_13, ↓evS.eq_14, ↓evS.eq_15, ↓evS.eq_16, ↓evS.eq_17, ↓evS_for, ↓evA.eq_1, ↓evA.eq_2, ↓evT.eq_1, ↓evT.eq_2, ↓evO.eq_1, ↓evO.eq_2, ↓evI.eq_1, ↓evI.eq_2, ↓evI.eq_3, ↓m_bind, ↓m_then, ↓m_opt, SRes.bind_nx, SRes.bind_rt, SRes.bind_bk, SRes.bind_ct, SRes.bind_ex, SRes.bind_bad, at_call, at_glo, at_fuel, SRes.back, List.getElem?_cons_zero, List.getElem?_cons_succ, List.set_cons_zero, List.set_cons_succ, asgT, asgTs, cmpV, truV, binV, bltV, tyN, tyLe, subV, Option.map_some, Option.map_none, List.any_cons, List.any_nil, if_true, if_false, ite_true, ite_false, String.reduceBEq, Nat.reduceAdd, Bool.or_false, Bool.false_or, Bool.or_true, Bool.true_or, Bool.and_true, Bool.true_and, Bool.and_false, Bool.false_and, Bool.not_true, Bool.not_false, beq_self_eq_true, decide_true, decide_false, reduceCtorEq, Bool.false_eq_true, keyOf, dctKeys, List.length_cons, List.length_nil, List.zip_cons_cons, List.zip_nil_left, List.zip_nil_right, List.foldl_cons, List.foldl_nil, methV, setV, isL, permL_cons, permL_nil, List.map_cons, List.map_nil, valP_cons, valP_nil, key_str, key_int, ofString_eq, String.reduceEq, putP, sizeLine_eq, Nat.reduceLT, Nat.reduceLeDiff, sto_self, mulOk, powOk, divOk, Int.reducePow, Nat.reducePow, Int.reduceNeg, Int.reduceLT, Int.reduceLE, natAbs64, natAbs30, Int.reduceToNat, Int.reduceEq, Int.reduceAdd, Int.reduceSub, Int.reduceMul, ne_eq, not_false_eq_true, Int.reduceNe, Ev.alloc, Ev.eq_ii, Ev.eq_ss, Ev.eq_bb, Ev.eq_nn, Ev.eq_ni, Ev.eq_in, Ev.eq_ns, Ev.eq_sn, Ev.eq_nb, Ev.eq_bn, Ev.eq_is, Ev.eq_si, and_self, true_and, and_true, fmod_lt64, fmod_gt64, atI_0, atI_1, atI_2, atI_3, atI_4, atI_5, atI_6, atI_7, atI_8, atI_9, seqOf, lstOf, slcV, revV, srcOf, optI, List.nil_append, List.cons_append, sto_new, intsP, sortI, insI, compL, compG, wipeP, boolsP, List.all_cons, List.all_nil, id_eq, keep_nil, maxI, minI, intsP, cutf_1, cutf_2, cutf_3, cutf_4, cutt_1, cutt_2, cutt_3, cutt_4, List.drop_succ_cons, List.drop_zero, List.take_succ_cons, List.take_zero, Int.cast_ofNat_Int, false_and, and_false, hq1, hcut]
  generalize hz : forL _ _ _ _ _ = z
  obtain ⟨env2, M2, rfl, e2, k2⟩ : ∃ env2 M2, z = .nx env2 M2 ∧ (∃ s10 s11 : Option PV, env2 = [some (.tup [.int a, .int b, .int c, .int d]), some (.ref q), some (.int a), some (.int b), some (.int c), some (.int d), some (.bl s.up), some (.int s.start), s8, s9, s10, s11, some (.int s.run), some (.int 0), none, none]) ∧ M2 = M1 ++ [.lst ((L.drop s.start).map lkV)] := by
    obtain ⟨env2, M2, e, dn, rt, h1, h2, h3, s10, s11, h4⟩ := for_of hz (fun xs env M2 => ∃ dn rt : List (Bool × Int), L.drop s.start = dn ++ rt ∧ xs = rt.map lkV ∧ M2 = M1 ++ [.lst ((L.drop s.start).map lkV)] ∧ ∃ s10 s11 : Option PV, env = [some (.tup [.int a, .int b, .int c, .int d]), some (.ref q), some (.int a), some (.int b), some (.int c), some (.int d), some (.bl s.up), some (.int s.start), s8, s9, s10, s11, some (.int (tc (dn.map Prod.fst) s.up)), some (.int 0), none, none])
      ⟨[], L.drop s.start, rfl, rfl, rfl, none, none, rfl⟩ (fun _ _ _ ⟨_, _, _, _, h, _⟩ => by rw [h]; exact keep_one (sto_new _ _)) (fun x xs env M2 ⟨dn, rt, h1, h2, h3, s10, s11, h4⟩ => by
        subst h3 h4
        cases rt with
        | nil => cases h2
        | cons p rt =>
          obtain ⟨g, v⟩ := p
          cases h2
          refine ⟨[some (.tup [.int a, .int b, .int c, .int d]), some (.ref q), some (.int a), some (.int b), some (.int c), some (.int d), some (.bl s.up), some (.int s.start), s8, s9, some (.bl g), some (.int v), some (.int (tc ((dn ++ [(g, v)]).map Prod.fst) s.up)), some (.int 0), none, none], _, .inl ?_, dn ++ [(g, v)], rt, by simp [h1], rfl, rfl, _, _, rfl⟩
          rw [List.map_append, List.map_cons, List.map_nil, tc_app]
          unfold forB lkV
          cases g <;> cases hu : s.up <;> simp only [↓evE.eq_1, ↓evE.eq_2, ↓evE.eq_3, ↓evE.eq_4, ↓evE.eq_5, ↓evE.eq_6, ↓evE.eq_7, ↓evE.eq_8, ↓evE.eq_9, ↓evE.eq_10, ↓evE.eq_11, ↓evE.eq_12, ↓evE.eq_13, ↓evE.eq_14, ↓evE.eq_15, ↓evE.eq_16, ↓evE.eq_17, ↓evE.eq_18, ↓evE.eq_19, ↓evE.eq_20, ↓evE.eq_21, ↓evE.eq_22, ↓evE.eq_23, ↓evE.eq_24, ↓evE.eq_25, ↓evE.eq_26, ↓evE.eq_27, ↓evE.eq_28, ↓evE.eq_29, ↓evE.eq_30, ↓evE.eq_31, ↓evE.eq_32, ↓evS.eq_1, ↓evS_seq, ↓evS.eq_3, ↓evS.eq_4, ↓evS.eq_5, ↓evS.eq_6, ↓evS.eq_7, ↓evS.eq_8, ↓evS_ite, ↓iteS, ↓evS.eq_11, ↓evS.eq_12, ↓evS.eq_13, ↓evS.eq_14, ↓evS.eq_15, ↓evS.eq_16, ↓evS.eq_17, ↓evS_for, ↓evA.eq_1, ↓evA.eq_2, ↓evT.eq_1, ↓evT.eq_2, ↓evO.eq_1, ↓evO.eq_2, ↓evI.eq_1, ↓evI.eq_2, ↓evI.eq_3, ↓m_bind, ↓m_then, ↓m_opt, SRes.bind_nx, SRes.bind_rt, SRes.bind_bk, SRes.bind_ct, SRes.bind_ex, SRes.bind_bad, at_call, at_glo, at_fuel, SRes.back, List.getElem?_cons_zero, List.getElem?_cons_succ, List.set_cons_zero, List.set_cons_succ, asgT, asgTs, cmpV, truV, binV, bltV, tyN, tyLe, subV, Option.map_some, Option.map_none, List.any_cons, List.any_nil, if_true, if_false, ite_true, ite_false, String.reduceBEq, Nat.reduceAdd, Bool.or_false, Bool.false_or, Bool.or_true, Bool.true_or, Bool.and_true, Bool.true_and, Bool.and_false, Bool.false_and, Bool.not_true, Bool.not_false, beq_self_eq_true, decide_true, decide_false, reduceCtorEq, Bool.false_eq_true, keyOf, dctKeys, List.length_cons, List.length_nil, List.zip_cons_cons, List.zip_nil_left, List.zip_nil_right, List.foldl_cons, List.foldl_nil, methV, setV, isL, permL_cons, permL_nil, List.map_cons, List.map_nil, valP_cons, valP_nil, key_str, key_int, ofString_eq, String.reduceEq, putP, sizeLine_eq, Nat.reduceLT, Nat.reduceLeDiff, sto_self, mulOk, powOk, divOk, Int.reducePow, Nat.reducePow, Int.reduceNeg, Int.reduceLT, Int.reduceLE, natAbs64, natAbs30, Int.reduceToNat, Int.reduceEq, Int.reduceAdd, Int.reduceSub, Int.reduceMul, ne_eq, not_false_eq_true, Int.reduceNe, Ev.alloc, Ev.eq_ii, Ev.eq_ss, Ev.eq_bb, Ev.eq_nn, Ev.eq_ni, Ev.eq_in, Ev.eq_ns, Ev.eq_sn, Ev.eq_nb, Ev.eq_bn, Ev.eq_is, Ev.eq_si, and_self, true_and, and_true, fmod_lt64, fmod_gt64, atI_0, atI_1, atI_2, atI_3, atI_4, atI_5, atI_6, atI_7, atI_8, atI_9, seqOf, lstOf, slcV, revV, srcOf, optI, List.nil_append, List.cons_append, sto_new, intsP, sortI, insI, compL, compG, wipeP, boolsP, List.all_cons, List.all_nil, id_eq, keep_nil, maxI, minI, intsP, cutf_1, cutf_2, cutf_3, cutf_4, cutt_1, cutt_2, cutt_3, cutt_4, List.drop_succ_cons, List.drop_zero, List.take_succ_cons, List.take_zero, Int.cast_ofNat_Int, false_and, and_false] <;> rfl)
    have : rt = [] := by cases rt with
      | nil => rfl
      | cons _ _ => cases h2
    subst this
    refine ⟨env2, M2, e, ⟨s10, s11, ?_⟩, h3⟩
    rw [h4, I.run, ← List.map_drop, h1, List.append_nil]
  obtain ⟨s10, s11, rfl⟩ := e2
  subst k2
  have hq2 : (M1 ++ [MO.lst ((L.drop s.start).map lkV)])[q]? = some (.lst (L.map lkV)) := sto_app hq1
  simp only [↓evE.eq_1, ↓evE.eq_2, ↓evE.eq_3, ↓evE.eq_4, ↓evE.eq_5, ↓evE.eq_6, ↓evE.eq_7, ↓evE.eq_8, ↓evE.eq_9, ↓evE.eq_10, ↓evE.eq_11, ↓evE.eq_12, ↓evE.eq_13, ↓evE.eq_14, ↓evE.eq_15, ↓evE.eq_16, ↓evE.eq_17, ↓evE.eq_18, ↓evE.eq_19, ↓evE.eq_20, ↓evE.eq_21, ↓evE.eq_22, ↓evE.eq_23, ↓evE.eq_24, ↓evE.eq_25, ↓evE.eq_26, ↓evE.eq_27, ↓evE.eq_28, ↓evE.eq_29, ↓evE.eq_30, ↓evE.eq_31, ↓evE.eq_32, ↓evS.eq_1, ↓evS_seq, ↓evS.eq_3, ↓evS.eq_4, ↓evS.eq_5, ↓evS.eq_6, ↓evS.eq_7, ↓evS.eq_8, ↓evS_ite, ↓iteS, ↓evS.eq_11, ↓evS.eq_12, ↓evS.eq_13, ↓evS.eq_14, ↓evS.eq_15, ↓evS.eq_16, ↓evS.eq_17, ↓evS_for, ↓evA.eq_1, ↓evA.eq_2, ↓evT.eq_1, ↓evT.eq_2, ↓evO.eq_1, ↓evO.eq_2, ↓evI.eq_1, ↓evI.eq_2, ↓evI.eq_3, ↓m_bind, ↓m_then, ↓m_opt, SRes.bind_nx, SRes.bind_rt, SRes.bind_bk, SRes.bind_ct, SRes.bind_ex, SRes.bind_bad, at_call, at_glo, at_fuel, SRes.back, List.getElem?_cons_zero, List.getElem?_cons_succ, List.set_cons_zero, List.set_cons_succ, asgT, asgTs, cmpV, truV, binV, bltV, tyN, tyLe, subV, Option.map_some, Option.map_none, List.any_cons, List.any_nil, if_true, if_false, ite_true, ite_false, String.reduceBEq, Nat.reduceAdd, Bool.or_false, Bool.false_or, Bool.or_true, Bool.true_or, Bool.and_true, Bool.true_and, Bool.and_false, Bool.false_and, Bool.not_true, Bool.not_false, beq_self_eq_true, decide_true, decide_false, reduceCtorEq, Bool.false_eq_true, keyOf, dctKeys, List.length_cons, List.length_nil, List.zip_cons_cons, List.zip_nil_left, List.zip_nil_right, List.foldl_cons, List.foldl_nil, methV, setV, isL, permL_cons, permL_nil, List.map_cons, List.map_nil, valP_cons, valP_nil, key_str, key_int, ofString_eq, String.reduceEq, putP, sizeLine_eq, Nat.reduceLT, Nat.reduceLeDiff, sto_self, mulOk, powOk, divOk, Int.reducePow, Nat.reducePow, Int.reduceNeg, Int.reduceLT, Int.reduceLE, natAbs64, natAbs30, Int.reduceToNat, Int.reduceEq, Int.reduceAdd, Int.reduceSub, Int.reduceMul, ne_eq, not_false_eq_true, Int.reduceNe, Ev.alloc, Ev.eq_ii, Ev.eq_ss, Ev.eq_bb, Ev.eq_nn, Ev.eq_ni, Ev.eq_in, Ev.eq_ns, Ev.eq_sn, Ev.eq_nb, Ev.eq_bn, Ev.eq_is, Ev.eq_si, and_self, true_and, and_true, fmod_lt64, fmod_gt64, atI_0, atI_1, atI_2, atI_3, atI_4, atI_5, atI_6, atI_7, atI_8, atI_9, seqOf, lstOf, slcV, revV, srcOf, optI, List.nil_append, List.cons_append, sto_new, intsP, sortI, insI, compL, compG, wipeP, boolsP, List.all_cons, List.all_nil, id_eq, keep_nil, maxI, minI, intsP, cutf_1, cutf_2, cutf_3, cutf_4, cutt_1, cutt_2, cutt_3, cutt_4, List.drop_succ_cons, List.drop_zero, List.take_succ_cons, List.take_zero, Int.cast_ofNat_Int, false_and, and_false, hq2]
  generalize hz : forL _ _ _ _ _ = z
  obtain ⟨env3, M3, rfl, e3, k3⟩ : ∃ env3 M3, z = .nx env3 M3 ∧ (∃ s10 s11 : Option PV, env3 = [some (.tup [.int a, .int b, .int c, .int d]), some (.ref q), some (.int a), some (.int b), some (.int c), some (.int d), some (.bl s.up), some (.int s.start), s8, s9, s10, s11, some (.int s.run), some (.int s.bad), none, none]) ∧ M3 = M1 ++ [.lst ((L.drop s.start).map lkV)] := by
    obtain ⟨env2, M2, e, dn, rt, h1, h2, h3, s10, s11, h4⟩ := for_of hz (fun xs env M2 => ∃ dn rt : List (Bool × Int), L = dn ++ rt ∧ xs = rt.map lkV ∧ M2 = M1 ++ [.lst ((L.drop s.start).map lkV)] ∧ ∃ s10 s11 : Option PV, env = [some (.tup [.int a, .int b, .int c, .int d]), some (.ref q), some (.int a), some (.int b), some (.int c), some (.int d), some (.bl s.up), some (.int s.start), s8, s9, s10, s11, some (.int s.run), some (.int (tc (dn.map Prod.fst) true)), none, none])
      ⟨[], L, rfl, rfl, rfl, s10, s11, rfl⟩ (fun _ _ _ ⟨_, _, _, _, h, _⟩ => by rw [h]; exact keep_one hq2) (fun x xs env M2 ⟨dn, rt, h1, h2, h3, s10, s11, h4⟩ => by
        subst h3 h4
        cases rt with
        | nil => cases h2
        | cons p rt =>
          obtain ⟨g, v⟩ := p
          cases h2
          refine ⟨[some (.tup [.int a, .int b, .int c, .int d]), some (.ref q), some (.int a), some (.int b), some (.int c), some (.int d), some (.bl s.up), some (.int s.start), s8, s9, some (.bl g), some (.int v), some (.int s.run), some (.int (tc ((dn ++ [(g, v)]).map Prod.fst) true)), none, none], _, .inl ?_, dn ++ [(g, v)], rt, by simp [h1], rfl, rfl, _, _, rfl⟩
          rw [List.map_append, List.map_cons, List.map_nil, tc_app]
          unfold forB lkV
          cases g <;> simp only [↓evE.eq_1, ↓evE.eq_2, ↓evE.eq_3, ↓evE.eq_4, ↓evE.eq_5, ↓evE.eq_6, ↓evE.eq_7, ↓evE.eq_8, ↓evE.eq_9, ↓evE.eq_10, ↓evE.eq_11, ↓evE.eq_12, ↓evE.eq_13, ↓evE.eq_14, ↓evE.eq_15, ↓evE.eq_16, ↓evE.eq_17, ↓evE.eq_18, ↓evE.eq_19, ↓evE.eq_20, ↓evE.eq_21, ↓evE.eq_22, ↓evE.eq_23, ↓evE.eq_24, ↓evE.eq_25, ↓evE.eq_26, ↓evE.eq_27, ↓evE.eq_28, ↓evE.eq_29, ↓evE.eq_30, ↓evE.eq_31, ↓evE.eq_32, ↓evS.eq_1, ↓evS_seq, ↓evS.eq_3, ↓evS.eq_4, ↓evS.eq_5, ↓evS.eq_6, ↓evS.eq_7, ↓evS.eq_8, ↓evS_ite, ↓iteS, ↓evS.eq_11, ↓evS.eq_12, ↓evS.eq_13, ↓evS.eq_14, ↓evS.eq_15, ↓evS.eq_16, ↓evS.eq_17, ↓evS_for, ↓evA.eq_1, ↓evA.eq_2, ↓evT.eq_1, ↓evT.eq_2, ↓evO.eq_1, ↓evO.eq_2, ↓evI.eq_1, ↓evI.eq_2, ↓evI.eq_3, ↓m_bind, ↓m_then, ↓m_opt, SRes.bind_nx, SRes.bind_rt, SRes.bind_bk, SRes.bind_ct, SRes.bind_ex, SRes.bind_bad, at_call, at_glo, at_fuel, SRes.back, List.getElem?_cons_zero, List.getElem?_cons_succ, List.set_cons_zero, List.set_cons_succ, asgT, asgTs, cmpV, truV, binV, bltV, tyN, tyLe, subV, Option.map_some, Option.map_none, List.any_cons, List.any_nil, if_true, if_false, ite_true, ite_false, String.reduceBEq, Nat.reduceAdd, Bool.or_false, Bool.false_or, Bool.or_true, Bool.true_or, Bool.and_true, Bool.true_and, Bool.and_false, Bool.false_and, Bool.not_true, Bool.not_false, beq_self_eq_true, decide_true, decide_false, reduceCtorEq, Bool.false_eq_true, keyOf, dctKeys, List.length_cons, List.length_nil, List.zip_cons_cons, List.zip_nil_left, List.zip_nil_right, List.foldl_cons, List.foldl_nil, methV, setV, isL, permL_cons, permL_nil, List.map_cons, List.map_nil, valP_cons, valP_nil, key_str, key_int, ofString_eq, String.reduceEq, putP, sizeLine_eq, Nat.reduceLT, Nat.reduceLeDiff, sto_self, mulOk, powOk, divOk, Int.reducePow, Nat.reducePow, Int.reduceNeg, Int.reduceLT, Int.reduceLE, natAbs64, natAbs30, Int.reduceToNat, Int.reduceEq, Int.reduceAdd, Int.reduceSub, Int.reduceMul, ne_eq, not_false_eq_true, Int.reduceNe, Ev.alloc, Ev.eq_ii, Ev.eq_ss, Ev.eq_bb, Ev.eq_nn, Ev.eq_ni, Ev.eq_in, Ev.eq_ns, Ev.eq_sn, Ev.eq_nb, Ev.eq_bn, Ev.eq_is, Ev.eq_si, and_self, true_and, and_true, fmod_lt64, fmod_gt64, atI_0, atI_1, atI_2, atI_3, atI_4, atI_5, atI_6, atI_7, atI_8, atI_9, seqOf, lstOf, slcV, revV, srcOf, optI, List.nil_append, List.cons_append, sto_new, intsP, sortI, insI, compL, compG, wipeP, boolsP, List.all_cons, List.all_nil, id_eq, keep_nil, maxI, minI, intsP, cutf_1, cutf_2, cutf_3, cutf_4, cutt_1, cutt_2, cutt_3, cutt_4, List.drop_succ_cons, List.drop_zero, List.take_succ_cons, List.take_zero, Int.cast_ofNat_Int, false_and, and_false] <;> rfl)
    have : rt = [] := by cases rt with
      | nil => rfl
      | cons _ _ => cases h2
    subst this
    refine ⟨env2, M2, e, ⟨s10, s11, ?_⟩, h3⟩
    rw [h4, I.bad, h1, List.append_nil]
  obtain ⟨s10, s11, rfl⟩ := e3
  subst k3
  have hlen : (L.map lkV).length = L.length := by simp
  have hidx : s.idx = L.length := by rw [I.idx]; simp
  have hst2 : s.start ≤ L.length := by have := I.st; simpa using this
  have hbad : s.bad ≤ L.length := by
    have := (tc_iff true (L.map Prod.fst) (tc (L.map Prod.fst) true)).mp (Nat.le_refl _)
    have := this.1
    rw [← I.bad] at this
    simpa using this
  have hK : (if ((L.map lkV).length : Int) - (s.start : Int) + 1 < (s.bad : Int) then ((L.map lkV).length : Int) - (s.start : Int) + 1 else (s.bad : Int)) = ((min s.bad (s.idx - s.start + 1) : Nat) : Int) := by
    rw [hlen, hidx]
    split <;> omega
  have hrg : rgOk 0 ((min s.bad (s.idx - s.start + 1) : Nat) : Int) = true := rgOk_nat (by omega) (by omega) (by omega) (by omega)
  have kN : Keep [] M (M1 ++ [.lst ((L.drop s.start).map lkV)]) := k1.trans Keep.app
  have hlN : List.length (List.map lkV L) = (L.map lkV).length := rfl
  generalize M1 ++ [MO.lst ((L.drop s.start).map lkV)] = N at *
  have he := eq_empty_fine2 (L.map lkV) hq2 f1 f2 rfl
  have hq4 := sto_app (l := [.lst []]) hq2
  have hdue : (L = [] ∧ (L.map lkV).isEmpty = true ∧ dueL L = 0) ∨ ∃ g v, (L.map lkV).isEmpty = false ∧ dueL L = v ∧ atI (L.map lkV) (-1) = some (.tup [.bl g, .int v]) := by
    rcases List.eq_nil_or_concat L with e | ⟨L', p, e⟩
    · subst e; exact .inl ⟨rfl, rfl, rfl⟩
    · rw [e, List.concat_eq_append]
      refine .inr ⟨p.1, p.2, by simp, by simp [dueL], ?_⟩
      rw [List.map_append]
      exact atI_last _ _
  have hz : ∃ s14 s15 : Option PV, True := ⟨none, none, trivial⟩
  cases hu : s.up
  · simp only [↓evE.eq_1, ↓evE.eq_2, ↓evE.eq_3, ↓evE.eq_4, ↓evE.eq_5, ↓evE.eq_6, ↓evE.eq_7, ↓evE.eq_8, ↓evE.eq_9, ↓evE.eq_10, ↓evE.eq_11, ↓evE.eq_12, ↓evE.eq_13, ↓evE.eq_14, ↓evE.eq_15, ↓evE.eq_16, ↓evE.eq_17, ↓evE.eq_18, ↓evE.eq_19, ↓evE.eq_20, ↓evE.eq_21, ↓evE.eq_22, ↓evE.eq_23, ↓evE.eq_24, ↓evE.eq_25, ↓evE.eq_26, ↓evE.eq_27, ↓evE.eq_28, ↓evE.eq_29, ↓evE.eq_30, ↓evE.eq_31, ↓evE.eq_32, ↓evS.eq_1, ↓evS_seq, ↓evS.eq_3, ↓evS.eq_4, ↓evS.eq_5, ↓evS.eq_6, ↓evS.eq_7, ↓evS.eq_8, ↓evS_ite, ↓iteS, ↓evS.eq_11, ↓evS.eq_12, ↓evS.eq_13, ↓evS.eq_14, ↓evS.eq_15, ↓evS.eq_16, ↓evS.eq_17, ↓evS_for, ↓evA.eq_1, ↓evA.eq_2, ↓evT.eq_1, ↓evT.eq_2, ↓evO.eq_1, ↓evO.eq_2, ↓evI.eq_1, ↓evI.eq_2, ↓evI.eq_3, ↓m_bind, ↓m_then, ↓m_opt, SRes.bind_nx, SRes.bind_rt, SRes.bind_bk, SRes.bind_ct, SRes.bind_ex, SRes.bind_bad, at_call, at_glo, at_fuel, SRes.back, List.getElem?_cons_zero, List.getElem?_cons_succ, List.set_cons_zero, List.set_cons_succ, asgT, asgTs, cmpV, truV, binV, bltV, tyN, tyLe, subV, Option.map_some, Option.map_none, List.any_cons, List.any_nil, if_true, if_false, ite_true, ite_false, String.reduceBEq, Nat.reduceAdd, Bool.or_false, Bool.false_or, Bool.or_true, Bool.true_or, Bool.and_true, Bool.true_and, Bool.and_false, Bool.false_and, Bool.not_true, Bool.not_false, beq_self_eq_true, decide_true, decide_false, reduceCtorEq, Bool.false_eq_true, keyOf, dctKeys, List.length_cons, List.length_nil, List.zip_cons_cons, List.zip_nil_left, List.zip_nil_right, List.foldl_cons, List.foldl_nil, methV, setV, isL, permL_cons, permL_nil, List.map_cons, List.map_nil, valP_cons, valP_nil, key_str, key_int, ofString_eq, String.reduceEq, putP, sizeLine_eq, Nat.reduceLT, Nat.reduceLeDiff, sto_self, mulOk, powOk, divOk, Int.reducePow, Nat.reducePow, Int.reduceNeg, Int.reduceLT, Int.reduceLE, natAbs64, natAbs30, Int.reduceToNat, Int.reduceEq, Int.reduceAdd, Int.reduceSub, Int.reduceMul, ne_eq, not_false_eq_true, Int.reduceNe, Ev.alloc, Ev.eq_ii, Ev.eq_ss, Ev.eq_bb, Ev.eq_nn, Ev.eq_ni, Ev.eq_in, Ev.eq_ns, Ev.eq_sn, Ev.eq_nb, Ev.eq_bn, Ev.eq_is, Ev.eq_si, and_self, true_and, and_true, fmod_lt64, fmod_gt64, atI_0, atI_1, atI_2, atI_3, atI_4, atI_5, atI_6, atI_7, atI_8, atI_9, seqOf, lstOf, slcV, revV, srcOf, optI, List.nil_append, List.cons_append, sto_new, intsP, sortI, insI, compL, compG, wipeP, boolsP, List.all_cons, List.all_nil, id_eq, keep_nil, maxI, minI, intsP, cutf_1, cutf_2, cutf_3, cutf_4, cutt_1, cutt_2, cutt_3, cutt_4, List.drop_succ_cons, List.drop_zero, List.take_succ_cons, List.take_zero, Int.cast_ofNat_Int, false_and, and_false, hq2, hK, hrg]
    generalize hz : forL _ _ _ _ _ = z
    rw [rg_zero] at hz
    obtain ⟨env4, M4, rfl, e4, k4⟩ : ∃ env4 M4, z = .nx env4 M4 ∧ (∃ s15 : Option PV, env4 = [some (.tup [.int a, .int b, .int c, .int d]), some (.ref q), some (.int a), some (.int b), some (.int c), some (.int d), some (.bl false), some (.int s.start), s8, s9, s10, s11, some (.int s.run), some (.int s.bad), some (.int (dbl c d (min s.bad (s.idx - s.start + 1)))), s15]) ∧ M4 = N := by
      obtain ⟨env4, M4, e, t, h1, h2, h3, s15, h4⟩ := for_of hz (fun xs env M4 => ∃ t, t ≤ min s.bad (s.idx - s.start + 1) ∧ xs = ((List.range (min s.bad (s.idx - s.start + 1))).map fun i => PV.int ((i : Nat) : Int)).drop t ∧ M4 = N ∧ ∃ s15 : Option PV, env = [some (.tup [.int a, .int b, .int c, .int d]), some (.ref q), some (.int a), some (.int b), some (.int c), some (.int d), some (.bl false), some (.int s.start), s8, s9, s10, s11, some (.int s.run), some (.int s.bad), some (.int (dbl c d t)), s15])
        ⟨0, Nat.zero_le _, by simp, rfl, none, rfl⟩ (fun _ _ _ _ => rfl) (fun x xs env M4 ⟨t, h1, h2, h3, s15, h4⟩ => by
          subst h3 h4
          have hlt : t < min s.bad (s.idx - s.start + 1) := by
            rcases Nat.lt_or_ge t (min s.bad (s.idx - s.start + 1)) with q | q
            · exact q
            · rw [List.drop_of_length_le (by simpa using q)] at h2; cases h2
          rw [List.drop_eq_getElem_cons (by simpa using hlt)] at h2
          simp only [List.getElem_map, List.getElem_range, List.cons.injEq] at h2
          obtain ⟨rfl, rfl⟩ := h2
          refine ⟨[some (.tup [.int a, .int b, .int c, .int d]), some (.ref q), some (.int a), some (.int b), some (.int c), some (.int d), some (.bl false), some (.int s.start), s8, s9, s10, s11, some (.int s.run), some (.int s.bad), some (.int (dbl c d (t + 1))), some (.int (t : Nat))], _, .inl ?_, t + 1, by omega, rfl, rfl, _, rfl⟩
          unfold forB
          simp only [↓evE.eq_1, ↓evE.eq_2, ↓evE.eq_3, ↓evE.eq_4, ↓evE.eq_5, ↓evE.eq_6, ↓evE.eq_7, ↓evE.eq_8, ↓evE.eq_9, ↓evE.eq_10, ↓evE.eq_11, ↓evE.eq_12, ↓evE.eq_13, ↓evE.eq_14, ↓evE.eq_15, ↓evE.eq_16, ↓evE.eq_17, ↓evE.eq_18, ↓evE.eq_19, ↓evE.eq_20, ↓evE.eq_21, ↓evE.eq_22, ↓evE.eq_23, ↓evE.eq_24, ↓evE.eq_25, ↓evE.eq_26, ↓evE.eq_27, ↓evE.eq_28, ↓evE.eq_29, ↓evE.eq_30, ↓evE.eq_31, ↓evE.eq_32, ↓evS.eq_1, ↓evS_seq, ↓evS.eq_3, ↓evS.eq_4, ↓evS.eq_5, ↓evS.eq_6, ↓evS.eq_7, ↓evS.eq_8, ↓evS_ite, ↓iteS, ↓evS.eq_11, ↓evS.eq_12, ↓evS.eq_13, ↓evS.eq_14, ↓evS.eq_15, ↓evS.eq_16, ↓evS.eq_17, ↓evS_for, ↓evA.eq_1, ↓evA.eq_2, ↓evT.eq_1, ↓evT.eq_2, ↓evO.eq_1, ↓evO.eq_2, ↓evI.eq_1, ↓evI.eq_2, ↓evI.eq_3, ↓m_bind, ↓m_then, ↓m_opt, SRes.bind_nx, SRes.bind_rt, SRes.bind_bk, SRes.bind_ct, SRes.bind_ex, SRes.bind_bad, at_call, at_glo, at_fuel, SRes.back, List.getElem?_cons_zero, List.getElem?_cons_succ, List.set_cons_zero, List.set_cons_succ, asgT, asgTs, cmpV, truV, binV, bltV, tyN, tyLe, subV, Option.map_some, Option.map_none, List.any_cons, List.any_nil, if_true, if_false, ite_true, ite_false, String.reduceBEq, Nat.reduceAdd, Bool.or_false, Bool.false_or, Bool.or_true, Bool.true_or, Bool.and_true, Bool.true_and, Bool.and_false, Bool.false_and, Bool.not_true, Bool.not_false, beq_self_eq_true, decide_true, decide_false, reduceCtorEq, Bool.false_eq_true, keyOf, dctKeys, List.length_cons, List.length_nil, List.zip_cons_cons, List.zip_nil_left, List.zip_nil_right, List.foldl_cons, List.foldl_nil, methV, setV, isL, permL_cons, permL_nil, List.map_cons, List.map_nil, valP_cons, valP_nil, key_str, key_int, ofString_eq, String.reduceEq, putP, sizeLine_eq, Nat.reduceLT, Nat.reduceLeDiff, sto_self, mulOk, powOk, divOk, Int.reducePow, Nat.reducePow, Int.reduceNeg, Int.reduceLT, Int.reduceLE, natAbs64, natAbs30, Int.reduceToNat, Int.reduceEq, Int.reduceAdd, Int.reduceSub, Int.reduceMul, ne_eq, not_false_eq_true, Int.reduceNe, Ev.alloc, Ev.eq_ii, Ev.eq_ss, Ev.eq_bb, Ev.eq_nn, Ev.eq_ni, Ev.eq_in, Ev.eq_ns, Ev.eq_sn, Ev.eq_nb, Ev.eq_bn, Ev.eq_is, Ev.eq_si, and_self, true_and, and_true, fmod_lt64, fmod_gt64, atI_0, atI_1, atI_2, atI_3, atI_4, atI_5, atI_6, atI_7, atI_8, atI_9, seqOf, lstOf, slcV, revV, srcOf, optI, List.nil_append, List.cons_append, sto_new, intsP, sortI, insI, compL, compG, wipeP, boolsP, List.all_cons, List.all_nil, id_eq, keep_nil, maxI, minI, intsP, cutf_1, cutf_2, cutf_3, cutf_4, cutt_1, cutt_2, cutt_3, cutt_4, List.drop_succ_cons, List.drop_zero, List.take_succ_cons, List.take_zero, Int.cast_ofNat_Int, false_and, and_false, dbl_succ])
      have ht : t = min s.bad (s.idx - s.start + 1) := by
        have := congrArg List.length h2
        simp at this
        omega
      subst ht
      exact ⟨env4, M4, e, ⟨s15, h4⟩, h3⟩
    obtain ⟨s15, rfl⟩ := e4
    subst k4
    have hw : wt c d s = dbl c d (min s.bad (s.idx - s.start + 1)) := by unfold wt; rw [hu]; rfl
    rw [hw]
    rcases hdue with ⟨_, d1, d2⟩ | ⟨g, v, d1, d2, d3⟩
    · simp only [↓evE.eq_1, ↓evE.eq_2, ↓evE.eq_3, ↓evE.eq_4, ↓evE.eq_5, ↓evE.eq_6, ↓evE.eq_7, ↓evE.eq_8, ↓evE.eq_9, ↓evE.eq_10, ↓evE.eq_11, ↓evE.eq_12, ↓evE.eq_13, ↓evE.eq_14, ↓evE.eq_15, ↓evE.eq_16, ↓evE.eq_17, ↓evE.eq_18, ↓evE.eq_19, ↓evE.eq_20, ↓evE.eq_21, ↓evE.eq_22, ↓evE.eq_23, ↓evE.eq_24, ↓evE.eq_25, ↓evE.eq_26, ↓evE.eq_27, ↓evE.eq_28, ↓evE.eq_29, ↓evE.eq_30, ↓evE.eq_31, ↓evE.eq_32, ↓evS.eq_1, ↓evS_seq, ↓evS.eq_3, ↓evS.eq_4, ↓evS.eq_5, ↓evS.eq_6, ↓evS.eq_7, ↓evS.eq_8, ↓evS_ite, ↓iteS, ↓evS.eq_11, ↓evS.eq_12, ↓evS.eq_13, ↓evS.eq_14, ↓evS.eq_15, ↓evS.eq_16, ↓evS.eq_17, ↓evS_for, ↓evA.eq_1, ↓evA.eq_2, ↓evT.eq_1, ↓evT.eq_2, ↓evO.eq_1, ↓evO.eq_2, ↓evI.eq_1, ↓evI.eq_2, ↓evI.eq_3, ↓m_bind, ↓m_then, ↓m_opt, SRes.bind_nx, SRes.bind_rt, SRes.bind_bk, SRes.bind_ct, SRes.bind_ex, SRes.bind_bad, at_call, at_glo, at_fuel, SRes.back, List.getElem?_cons_zero, List.getElem?_cons_succ, List.set_cons_zero, List.set_cons_succ, asgT, asgTs, cmpV, truV, binV, bltV, tyN, tyLe, subV, Option.map_some, Option.map_none, List.any_cons, List.any_nil, if_true, if_false, ite_true, ite_false, String.reduceBEq, Nat.reduceAdd, Bool.or_false, Bool.false_or, Bool.or_true, Bool.true_or, Bool.and_true, Bool.true_and, Bool.and_false, Bool.false_and, Bool.not_true, Bool.not_false, beq_self_eq_true, decide_true, decide_false, reduceCtorEq, Bool.false_eq_true, keyOf, dctKeys, List.length_cons, List.length_nil, List.zip_cons_cons, List.zip_nil_left, List.zip_nil_right, List.foldl_cons, List.foldl_nil, methV, setV, isL, permL_cons, permL_nil, List.map_cons, List.map_nil, valP_cons, valP_nil, key_str, key_int, ofString_eq, String.reduceEq, putP, sizeLine_eq, Nat.reduceLT, Nat.reduceLeDiff, sto_self, mulOk, powOk, divOk, Int.reducePow, Nat.reducePow, Int.reduceNeg, Int.reduceLT, Int.reduceLE, natAbs64, natAbs30, Int.reduceToNat, Int.reduceEq, Int.reduceAdd, Int.reduceSub, Int.reduceMul, ne_eq, not_false_eq_true, Int.reduceNe, Ev.alloc, Ev.eq_ii, Ev.eq_ss, Ev.eq_bb, Ev.eq_nn, Ev.eq_ni, Ev.eq_in, Ev.eq_ns, Ev.eq_sn, Ev.eq_nb, Ev.eq_bn, Ev.eq_is, Ev.eq_si, and_self, true_and, and_true, fmod_lt64, fmod_gt64, atI_0, atI_1, atI_2, atI_3, atI_4, atI_5, atI_6, atI_7, atI_8, atI_9, seqOf, lstOf, slcV, revV, srcOf, optI, List.nil_append, List.cons_append, sto_new, intsP, sortI, insI, compL, compG, wipeP, boolsP, List.all_cons, List.all_nil, id_eq, keep_nil, maxI, minI, intsP, cutf_1, cutf_2, cutf_3, cutf_4, cutt_1, cutt_2, cutt_3, cutt_4, List.drop_succ_cons, List.drop_zero, List.take_succ_cons, List.take_zero, Int.cast_ofNat_Int, false_and, and_false, he, d1, d2]
      exact ⟨_, rfl, kN.trans Keep.app⟩
    · simp only [↓evE.eq_1, ↓evE.eq_2, ↓evE.eq_3, ↓evE.eq_4, ↓evE.eq_5, ↓evE.eq_6, ↓evE.eq_7, ↓evE.eq_8, ↓evE.eq_9, ↓evE.eq_10, ↓evE.eq_11, ↓evE.eq_12, ↓evE.eq_13, ↓evE.eq_14, ↓evE.eq_15, ↓evE.eq_16, ↓evE.eq_17, ↓evE.eq_18, ↓evE.eq_19, ↓evE.eq_20, ↓evE.eq_21, ↓evE.eq_22, ↓evE.eq_23, ↓evE.eq_24, ↓evE.eq_25, ↓evE.eq_26, ↓evE.eq_27, ↓evE.eq_28, ↓evE.eq_29, ↓evE.eq_30, ↓evE.eq_31, ↓evE.eq_32, ↓evS.eq_1, ↓evS_seq, ↓evS.eq_3, ↓evS.eq_4, ↓evS.eq_5, ↓evS.eq_6, ↓evS.eq_7, ↓evS.eq_8, ↓evS_ite, ↓iteS, ↓evS.eq_11, ↓evS.eq_12, ↓evS.eq_13, ↓evS.eq_14, ↓evS.eq_15, ↓evS.eq_16, ↓evS.eq_17, ↓evS_for, ↓evA.eq_1, ↓evA.eq_2, ↓evT.eq_1, ↓evT.eq_2, ↓evO.eq_1, ↓evO.eq_2, ↓evI.eq_1, ↓evI.eq_2, ↓evI.eq_3, ↓m_bind, ↓m_then, ↓m_opt, SRes.bind_nx, SRes.bind_rt, SRes.bind_bk, SRes.bind_ct, SRes.bind_ex, SRes.bind_bad, at_call, at_glo, at_fuel, SRes.back, List.getElem?_cons_zero, List.getElem?_cons_succ, List.set_cons_zero, List.set_cons_succ, asgT, asgTs, cmpV, truV, binV, bltV, tyN, tyLe, subV, Option.map_some, Option.map_none, List.any_cons, List.any_nil, if_true, if_false, ite_true, ite_false, String.reduceBEq, Nat.reduceAdd, Bool.or_false, Bool.false_or, Bool.or_true, Bool.true_or, Bool.and_true, Bool.true_and, Bool.and_false, Bool.false_and, Bool.not_true, Bool.not_false, beq_self_eq_true, decide_true, decide_false, reduceCtorEq, Bool.false_eq_true, keyOf, dctKeys, List.length_cons, List.length_nil, List.zip_cons_cons, List.zip_nil_left, List.zip_nil_right, List.foldl_cons, List.foldl_nil, methV, setV, isL, permL_cons, permL_nil, List.map_cons, List.map_nil, valP_cons, valP_nil, key_str, key_int, ofString_eq, String.reduceEq, putP, sizeLine_eq, Nat.reduceLT, Nat.reduceLeDiff, sto_self, mulOk, powOk, divOk, Int.reducePow, Nat.reducePow, Int.reduceNeg, Int.reduceLT, Int.reduceLE, natAbs64, natAbs30, Int.reduceToNat, Int.reduceEq, Int.reduceAdd, Int.reduceSub, Int.reduceMul, ne_eq, not_false_eq_true, Int.reduceNe, Ev.alloc, Ev.eq_ii, Ev.eq_ss, Ev.eq_bb, Ev.eq_nn, Ev.eq_ni, Ev.eq_in, Ev.eq_ns, Ev.eq_sn, Ev.eq_nb, Ev.eq_bn, Ev.eq_is, Ev.eq_si, and_self, true_and, and_true, fmod_lt64, fmod_gt64, atI_0, atI_1, atI_2, atI_3, atI_4, atI_5, atI_6, atI_7, atI_8, atI_9, seqOf, lstOf, slcV, revV, srcOf, optI, List.nil_append, List.cons_append, sto_new, intsP, sortI, insI, compL, compG, wipeP, boolsP, List.all_cons, List.all_nil, id_eq, keep_nil, maxI, minI, intsP, cutf_1, cutf_2, cutf_3, cutf_4, cutt_1, cutt_2, cutt_3, cutt_4, List.drop_succ_cons, List.drop_zero, List.take_succ_cons, List.take_zero, Int.cast_ofNat_Int, false_and, and_false, he, d1, hq4, d3, d2]
      exact ⟨_, rfl, kN.trans Keep.app⟩
  · have hw : wt c d s = c := by unfold wt; rw [hu]; rfl
    rw [hw]
    rcases hdue with ⟨_, d1, d2⟩ | ⟨g, v, d1, d2, d3⟩
    · simp only [↓evE.eq_1, ↓evE.eq_2, ↓evE.eq_3, ↓evE.eq_4, ↓evE.eq_5, ↓evE.eq_6, ↓evE.eq_7, ↓evE.eq_8, ↓evE.eq_9, ↓evE.eq_10, ↓evE.eq_11, ↓evE.eq_12, ↓evE.eq_13, ↓evE.eq_14, ↓evE.eq_15, ↓evE.eq_16, ↓evE.eq_17, ↓evE.eq_18, ↓evE.eq_19, ↓evE.eq_20, ↓evE.eq_21, ↓evE.eq_22, ↓evE.eq_23, ↓evE.eq_24, ↓evE.eq_25, ↓evE.eq_26, ↓evE.eq_27, ↓evE.eq_28, ↓evE.eq_29, ↓evE.eq_30, ↓evE.eq_31, ↓evE.eq_32, ↓evS.eq_1, ↓evS_seq, ↓evS.eq_3, ↓evS.eq_4, ↓evS.eq_5, ↓evS.eq_6, ↓evS.eq_7, ↓evS.eq_8, ↓evS_ite, ↓iteS, ↓evS.eq_11, ↓evS.eq_12, ↓evS.eq_13, ↓evS.eq_14, ↓evS.eq_15, ↓evS.eq_16, ↓evS.eq_17, ↓evS_for, ↓evA.eq_1, ↓evA.eq_2, ↓evT.eq_1, ↓evT.eq_2, ↓evO.eq_1, ↓evO.eq_2, ↓evI.eq_1, ↓evI.eq_2, ↓evI.eq_3, ↓m_bind, ↓m_then, ↓m_opt, SRes.bind_nx, SRes.bind_rt, SRes.bind_bk, SRes.bind_ct, SRes.bind_ex, SRes.bind_bad, at_call, at_glo, at_fuel, SRes.back, List.getElem?_cons_zero, List.getElem?_cons_succ, List.set_cons_zero, List.set_cons_succ, asgT, asgTs, cmpV, truV, binV, bltV, tyN, tyLe, subV, Option.map_some, Option.map_none, List.any_cons, List.any_nil, if_true, if_false, ite_true, ite_false, String.reduceBEq, Nat.reduceAdd, Bool.or_false, Bool.false_or, Bool.or_true, Bool.true_or, Bool.and_true, Bool.true_and, Bool.and_false, Bool.false_and, Bool.not_true, Bool.not_false, beq_self_eq_true, decide_true, decide_false, reduceCtorEq, Bool.false_eq_true, keyOf, dctKeys, List.length_cons, List.length_nil, List.zip_cons_cons, List.zip_nil_left, List.zip_nil_right, List.foldl_cons, List.foldl_nil, methV, setV, isL, permL_cons, permL_nil, List.map_cons, List.map_nil, valP_cons, valP_nil, key_str, key_int, ofString_eq, String.reduceEq, putP, sizeLine_eq, Nat.reduceLT, Nat.reduceLeDiff, sto_self, mulOk, powOk, divOk, Int.reducePow, Nat.reducePow, Int.reduceNeg, Int.reduceLT, Int.reduceLE, natAbs64, natAbs30, Int.reduceToNat, Int.reduceEq, Int.reduceAdd, Int.reduceSub, Int.reduceMul, ne_eq, not_false_eq_true, Int.reduceNe, Ev.alloc, Ev.eq_ii, Ev.eq_ss, Ev.eq_bb, Ev.eq_nn, Ev.eq_ni, Ev.eq_in, Ev.eq_ns, Ev.eq_sn, Ev.eq_nb, Ev.eq_bn, Ev.eq_is, Ev.eq_si, and_self, true_and, and_true, fmod_lt64, fmod_gt64, atI_0, atI_1, atI_2, atI_3, atI_4, atI_5, atI_6, atI_7, atI_8, atI_9, seqOf, lstOf, slcV, revV, srcOf, optI, List.nil_append, List.cons_append, sto_new, intsP, sortI, insI, compL, compG, wipeP, boolsP, List.all_cons, List.all_nil, id_eq, keep_nil, maxI, minI, intsP, cutf_1, cutf_2, cutf_3, cutf_4, cutt_1, cutt_2, cutt_3, cutt_4, List.drop_succ_cons, List.drop_zero, List.take_succ_cons, List.take_zero, Int.cast_ofNat_Int, false_and, and_false, he, d1, d2]
      exact ⟨_, rfl, kN.trans Keep.app⟩
    · simp only [↓evE.eq_1, ↓evE.eq_2, ↓evE.eq_3, ↓evE.eq_4, ↓evE.eq_5, ↓evE.eq_6, ↓evE.eq_7, ↓evE.eq_8, ↓evE.eq_9, ↓evE.eq_10, ↓evE.eq_11, ↓evE.eq_12, ↓evE.eq_13, ↓evE.eq_14, ↓evE.eq_15, ↓evE.eq_16, ↓evE.eq_17, ↓evE.eq_18, ↓evE.eq_19, ↓evE.eq_20, ↓evE.eq_21, ↓evE.eq_22, ↓evE.eq_23, ↓evE.eq_24, ↓evE.eq_25, ↓evE.eq_26, ↓evE.eq_27, ↓evE.eq_28, ↓evE.eq_29, ↓evE.eq_30, ↓evE.eq_31, ↓evE.eq_32, ↓evS.eq_1, ↓evS_seq, ↓evS.eq_3, ↓evS.eq_4, ↓evS.eq_5, ↓evS.eq_6, ↓evS.eq_7, ↓evS.eq_8, ↓evS_ite, ↓iteS, ↓evS.eq_11, ↓evS.eq_12, ↓evS.eq_13, ↓evS.eq_14, ↓evS.eq_15, ↓evS.eq_16, ↓evS.eq_17, ↓evS_for, ↓evA.eq_1, ↓evA.eq_2, ↓evT.eq_1, ↓evT.eq_2, ↓evO.eq_1, ↓evO.eq_2, ↓evI.eq_1, ↓evI.eq_2, ↓evI.eq_3, ↓m_bind, ↓m_then, ↓m_opt, SRes.bind_nx, SRes.bind_rt, SRes.bind_bk, SRes.bind_ct, SRes.bind_ex, SRes.bind_bad, at_call, at_glo, at_fuel, SRes.back, List.getElem?_cons_zero, List.getElem?_cons_succ, List.set_cons_zero, List.set_cons_succ, asgT, asgTs, cmpV, truV, binV, bltV, tyN, tyLe, subV, Option.map_some, Option.map_none, List.any_cons, List.any_nil, if_true, if_false, ite_true, ite_false, String.reduceBEq, Nat.reduceAdd, Bool.or_false, Bool.false_or, Bool.or_true, Bool.true_or, Bool.and_true, Bool.true_and, Bool.and_false, Bool.false_and, Bool.not_true, Bool.not_false, beq_self_eq_true, decide_true, decide_false, reduceCtorEq, Bool.false_eq_true, keyOf, dctKeys, List.length_cons, List.length_nil, List.zip_cons_cons, List.zip_nil_left, List.zip_nil_right, List.foldl_cons, List.foldl_nil, methV, setV, isL, permL_cons, permL_nil, List.map_cons, List.map_nil, valP_cons, valP_nil, key_str, key_int, ofString_eq, String.reduceEq, putP, sizeLine_eq, Nat.reduceLT, Nat.reduceLeDiff, sto_self, mulOk, powOk, divOk, Int.reducePow, Nat.reducePow, Int.reduceNeg, Int.reduceLT, Int.reduceLE, natAbs64, natAbs30, Int.reduceToNat, Int.reduceEq, Int.reduceAdd, Int.reduceSub, Int.reduceMul, ne_eq, not_false_eq_true, Int.reduceNe, Ev.alloc, Ev.eq_ii, Ev.eq_ss, Ev.eq_bb, Ev.eq_nn, Ev.eq_ni, Ev.eq_in, Ev.eq_ns, Ev.eq_sn, Ev.eq_nb, Ev.eq_bn, Ev.eq_is, Ev.eq_si, and_self, true_and, and_true, fmod_lt64, fmod_gt64, atI_0, atI_1, atI_2, atI_3, atI_4, atI_5, atI_6, atI_7, atI_8, atI_9, seqOf, lstOf, slcV, revV, srcOf, optI, List.nil_append, List.cons_append, sto_new, intsP, sortI, insI, compL, compG, wipeP, boolsP, List.all_cons, List.all_nil, id_eq, keep_nil, maxI, minI, intsP, cutf_1, cutf_2, cutf_3, cutf_4, cutt_1, cutt_2, cutt_3, cutt_4, List.drop_succ_cons, List.drop_zero, List.take_succ_cons, List.take_zero, Int.cast_ofNat_Int, false_and, and_false, he, d1, hq4, d3, d2]
      exact ⟨_, rfl, kN.trans Keep.app⟩
end K22

set_option Elab.async false
set_option linter.all false
set_option maxRecDepth 100000
set_option maxHeartbeats 4000000
namespace K22
open PySem L2 Ev
theorem mk_fine {up : Bool} {run wait due : Int} (h1 : run.natAbs < 10 ^ 570) (h2 : wait.natAbs < 10 ^ 570) (h3 : due.natAbs < 10 ^ 570) : fine (mkV up run wait due) = true ∧ (pd (mkV up run wait due)).bulk ≤ 100 ∧ (pd (mkV up run wait due)).depth ≤ 10 := by
  refine ⟨?_, ?_, ?_⟩
  · simp only [mkV, fine, fines, Bool.and_true, Bool.true_and, Bool.and_eq_true, decide_eq_true_eq]
    exact ⟨h1, h2, h3⟩
  · simp [mkV, pd, pds, PyData.bulk, PyData.bulkAll]
  · simp [mkV, pd, pds, PyData.depth, PyData.depthAll]
theorem mk3 (up : Bool) (run wait due : Int) (M : Sto) : subV (mkV up run wait due) (.int 3) M = some (.int due) := rfl
theorem wt_pos {a b c d : Int} (h : Rl a b c d) (s : FS) : 1 ≤ wt c d s ∧ wt c d s ≤ 99 := by
  obtain ⟨_, _, _, _, h5, h6, h7⟩ := h
  unfold wt
  split
  · omega
  · have := dbl_pos h5 h6 (min s.bad (s.idx - s.start + 1))
    have := dbl_le h6 (min s.bad (s.idx - s.start + 1))
    omega
theorem law_ok (n : Nat) (ns : List Int) (hn : ns.length ≤ 63) : ∃ M, callN T (n + 7) "law" [.rol (ns.map .int)] [] = .ok (.bl true) M := by
  obtain ⟨i, j, M1, e1, d1, _, _, _⟩ := deck_ok (n + 5) [] ns hn
  obtain ⟨a, b, c, d, M2, e2, hR, d2, k2⟩ := rule_ok (n + 3) d1
  obtain ⟨M3, e3, k3⟩ := new_ok (n + 1) M2 hR
  have d3 := d2.keep k3 (by simp) (by simp)
  have d4 := d3.app [.lst []]
  obtain ⟨M5, e5, k5⟩ := new_ok (n + 1) (M3 ++ [.lst []]) hR
  obtain ⟨M6, e6, k6⟩ := mark_by_ok (n + 5) (M5 ++ [.lst []]) hR (q := M5.length) (L := []) (sto_new _ _) (by simp) (by simp) rfl
  obtain ⟨M7, e7, k7⟩ := health_ok (n + 2) M6 hR
  have ha := hR.1
  have hb := hR.2.2.1
  have hs0 : mkV (fs a b (([] : List (Bool × Int)).map Prod.fst)).up (fs a b (([] : List (Bool × Int)).map Prod.fst)).run (wt c d (fs a b (([] : List (Bool × Int)).map Prod.fst))) (dueL [] + wt c d (fs a b (([] : List (Bool × Int)).map Prod.fst))) = mkV true 0 c c := by
    simp [fs, wt, dueL]
  rw [hs0] at e6
  have f0 : ∃ t, ∀ M, reprV M (.tup [mkV true 0 c c, mkV true 0 c c]) = some t := by
    obtain ⟨_, _, _, _, h5, h6, h7⟩ := hR
    obtain ⟨f1, f2, f3⟩ := mk_fine (up := true) (run := 0) (wait := c) (due := c) (small (by decide) (by decide)) (small (by omega) (by omega)) (small (by omega) (by omega))
    exact repr_two f1 f2 f3
  obtain ⟨t0, f0⟩ := f0
  rw [e_law]
  unfold c_law
  simp only [↓evE.eq_1, ↓evE.eq_2, ↓evE.eq_3, ↓evE.eq_4, ↓evE.eq_5, ↓evE.eq_6, ↓evE.eq_7, ↓evE.eq_8, ↓evE.eq_9, ↓evE.eq_10, ↓evE.eq_11, ↓evE.eq_12, ↓evE.eq_13, ↓evE.eq_14, ↓evE.eq_15, ↓evE.eq_16, ↓evE.eq_17, ↓evE.eq_18, ↓evE.eq_19, ↓evE.eq_20, ↓evE.eq_21, ↓evE.eq_22, ↓evE.eq_23, ↓evE.eq_24, ↓evE.eq_25, ↓evE.eq_26, ↓evE.eq_27, ↓evE.eq_28, ↓evE.eq_29, ↓evE.eq_30, ↓evE.eq_31, ↓evE.eq_32, ↓evS.eq_1, ↓evS_seq, ↓evS.eq_3, ↓evS.eq_4, ↓evS.eq_5, ↓evS.eq_6, ↓evS.eq_7, ↓evS.eq_8, ↓evS_ite, ↓iteS, ↓evS.eq_11, ↓evS.eq_12, ↓evS.eq_13, ↓evS.eq_14, ↓evS.eq_15, ↓evS.eq_16, ↓evS.eq_17, ↓evS_for, ↓evA.eq_1, ↓evA.eq_2, ↓evT.eq_1, ↓evT.eq_2, ↓evO.eq_1, ↓evO.eq_2, ↓evI.eq_1, ↓evI.eq_2, ↓evI.eq_3, ↓m_bind, ↓m_then, ↓m_opt, SRes.bind_nx, SRes.bind_rt, SRes.bind_bk, SRes.bind_ct, SRes.bind_ex, SRes.bind_bad, at_call, at_glo, at_fuel, SRes.back, List.getElem?_cons_zero, List.getElem?_cons_succ, List.set_cons_zero, List.set_cons_succ, asgT, asgTs, cmpV, truV, binV, bltV, tyN, tyLe, subV, Option.map_some, Option.map_none, List.any_cons, List.any_nil, if_true, if_false, ite_true, ite_false, String.reduceBEq, Nat.reduceAdd, Bool.or_false, Bool.false_or, Bool.or_true, Bool.true_or, Bool.and_true, Bool.true_and, Bool.and_false, Bool.false_and, Bool.not_true, Bool.not_false, beq_self_eq_true, decide_true, decide_false, reduceCtorEq, Bool.false_eq_true, keyOf, dctKeys, List.length_cons, List.length_nil, List.zip_cons_cons, List.zip_nil_left, List.zip_nil_right, List.foldl_cons, List.foldl_nil, methV, setV, isL, permL_cons, permL_nil, List.map_cons, List.map_nil, valP_cons, valP_nil, key_str, key_int, ofString_eq, String.reduceEq, putP, sizeLine_eq, Nat.reduceLT, Nat.reduceLeDiff, sto_self, mulOk, powOk, divOk, Int.reducePow, Nat.reducePow, Int.reduceNeg, Int.reduceLT, Int.reduceLE, natAbs64, natAbs30, Int.reduceToNat, Int.reduceEq, Int.reduceAdd, Int.reduceSub, Int.reduceMul, ne_eq, not_false_eq_true, Int.reduceNe, Ev.alloc, Ev.eq_ii, Ev.eq_ss, Ev.eq_bb, Ev.eq_nn, Ev.eq_ni, Ev.eq_in, Ev.eq_ns, Ev.eq_sn, Ev.eq_nb, Ev.eq_bn, Ev.eq_is, Ev.eq_si, and_self, true_and, and_true, fmod_lt64, fmod_gt64, atI_0, atI_1, atI_2, atI_3, atI_4, atI_5, atI_6, atI_7, atI_8, atI_9, seqOf, lstOf, slcV, revV, srcOf, optI, List.nil_append, List.cons_append, sto_new, intsP, sortI, insI, compL, compG, wipeP, boolsP, List.all_cons, List.all_nil, id_eq, keep_nil, maxI, minI, intsP, cutf_1, cutf_2, cutf_3, cutf_4, cutt_1, cutt_2, cutt_3, cutt_4, List.drop_succ_cons, List.drop_zero, List.take_succ_cons, List.take_zero, Int.cast_ofNat_Int, false_and, and_false, e1, e2, e3, e5, e6, e7, f0, rep2, repr_true]
  have d7 : Dk i j M7 := (((((d3.app [.lst []]).keep k5 (by simp) (by simp)).app [.lst []]).keep k6 (by simp) (by simp))).keep k7 (by simp) (by simp)
  have q7 : M7[M3.length]? = some (.lst (([] : List (Bool × Int)).map lkV)) := k7.get (k6.get (sto_app (k5.get (sto_new _ _) (by simp))) (by simp)) (by simp)
  obtain ⟨r, M8, e8, hm, d8, k8⟩ := picks (n + 4) d7 [.int 12, .int 8, .int 16, .int 20] (by decide) (by decide)
  have hm' : ∃ m : Int, r = .int m ∧ 0 ≤ m ∧ m ≤ 20 := by
    simp only [List.mem_cons, List.mem_nil_iff, or_false] at hm
    rcases hm with rfl | rfl | rfl | rfl <;> exact ⟨_, rfl, by decide, by decide⟩
  obtain ⟨m, rfl, m1, m2⟩ := hm'
  obtain ⟨m, rfl⟩ := Int.eq_ofNat_of_zero_le m1
  have hrg : rgOk 0 (m : Int) = true := rgOk_nat (by omega) (by omega) (by omega) (by omega)
  have q8 : M8[M3.length]? = some (.lst (([] : List (Bool × Int)).map lkV)) := k8.get q7 (by have := d3.lt; simp; omega)
  simp only [↓evE.eq_1, ↓evE.eq_2, ↓evE.eq_3, ↓evE.eq_4, ↓evE.eq_5, ↓evE.eq_6, ↓evE.eq_7, ↓evE.eq_8, ↓evE.eq_9, ↓evE.eq_10, ↓evE.eq_11, ↓evE.eq_12, ↓evE.eq_13, ↓evE.eq_14, ↓evE.eq_15, ↓evE.eq_16, ↓evE.eq_17, ↓evE.eq_18, ↓evE.eq_19, ↓evE.eq_20, ↓evE.eq_21, ↓evE.eq_22, ↓evE.eq_23, ↓evE.eq_24, ↓evE.eq_25, ↓evE.eq_26, ↓evE.eq_27, ↓evE.eq_28, ↓evE.eq_29, ↓evE.eq_30, ↓evE.eq_31, ↓evE.eq_32, ↓evS.eq_1, ↓evS_seq, ↓evS.eq_3, ↓evS.eq_4, ↓evS.eq_5, ↓evS.eq_6, ↓evS.eq_7, ↓evS.eq_8, ↓evS_ite, ↓iteS, ↓evS.eq_11, ↓evS.eq_12, ↓evS.eq_13, ↓evS.eq_14, ↓evS.eq_15, ↓evS.eq_16, ↓evS.eq_17, ↓evS_for, ↓evA.eq_1, ↓evA.eq_2, ↓evT.eq_1, ↓evT.eq_2, ↓evO.eq_1, ↓evO.eq_2, ↓evI.eq_1, ↓evI.eq_2, ↓evI.eq_3, ↓m_bind, ↓m_then, ↓m_opt, SRes.bind_nx, SRes.bind_rt, SRes.bind_bk, SRes.bind_ct, SRes.bind_ex, SRes.bind_bad, at_call, at_glo, at_fuel, SRes.back, List.getElem?_cons_zero, List.getElem?_cons_succ, List.set_cons_zero, List.set_cons_succ, asgT, asgTs, cmpV, truV, binV, bltV, tyN, tyLe, subV, Option.map_some, Option.map_none, List.any_cons, List.any_nil, if_true, if_false, ite_true, ite_false, String.reduceBEq, Nat.reduceAdd, Bool.or_false, Bool.false_or, Bool.or_true, Bool.true_or, Bool.and_true, Bool.true_and, Bool.and_false, Bool.false_and, Bool.not_true, Bool.not_false, beq_self_eq_true, decide_true, decide_false, reduceCtorEq, Bool.false_eq_true, keyOf, dctKeys, List.length_cons, List.length_nil, List.zip_cons_cons, List.zip_nil_left, List.zip_nil_right, List.foldl_cons, List.foldl_nil, methV, setV, isL, permL_cons, permL_nil, List.map_cons, List.map_nil, valP_cons, valP_nil, key_str, key_int, ofString_eq, String.reduceEq, putP, sizeLine_eq, Nat.reduceLT, Nat.reduceLeDiff, sto_self, mulOk, powOk, divOk, Int.reducePow, Nat.reducePow, Int.reduceNeg, Int.reduceLT, Int.reduceLE, natAbs64, natAbs30, Int.reduceToNat, Int.reduceEq, Int.reduceAdd, Int.reduceSub, Int.reduceMul, ne_eq, not_false_eq_true, Int.reduceNe, Ev.alloc, Ev.eq_ii, Ev.eq_ss, Ev.eq_bb, Ev.eq_nn, Ev.eq_ni, Ev.eq_in, Ev.eq_ns, Ev.eq_sn, Ev.eq_nb, Ev.eq_bn, Ev.eq_is, Ev.eq_si, and_self, true_and, and_true, fmod_lt64, fmod_gt64, atI_0, atI_1, atI_2, atI_3, atI_4, atI_5, atI_6, atI_7, atI_8, atI_9, seqOf, lstOf, slcV, revV, srcOf, optI, List.nil_append, List.cons_append, sto_new, intsP, sortI, insI, compL, compG, wipeP, boolsP, List.all_cons, List.all_nil, id_eq, keep_nil, maxI, minI, intsP, cutf_1, cutf_2, cutf_3, cutf_4, cutt_1, cutt_2, cutt_3, cutt_4, List.drop_succ_cons, List.drop_zero, List.take_succ_cons, List.take_zero, Int.cast_ofNat_Int, false_and, and_false, e8, hrg]
  generalize hz : forL _ _ _ _ _ = z
  rw [rg_zero] at hz
  have hQ := d3.lt
  obtain ⟨Q0, hQ0⟩ : ∃ Q0, Q0 = M3.length := ⟨_, rfl⟩
  rw [← hQ0] at hz q8 hQ
  have nQ : Q0 ∉ [i, j] := by simp; omega
  obtain ⟨env', M', rfl, _⟩ := for_of hz (fun xs env M => ∃ (t : Nat) (L : List (Bool × Int)) (now : Int) (good : Bool) (s7 s8 s9 : Option PV), t ≤ m ∧ xs = ((List.range m).map fun i => PV.int ((i : Nat) : Int)).drop t ∧ L.length = t ∧ Dk i j M ∧ M[Q0]? = some (.lst (L.map lkV)) ∧ 0 ≤ now ∧ now ≤ t * 1000000000000 ∧ (∀ p ∈ L, 0 ≤ p.2 ∧ p.2 ≤ 100000000000000) ∧ dueL L = now ∧
      env = [some (.rol (ns.map .int)), some (.ref i), some (rlV a b c d), some (mkV (fs a b (L.map Prod.fst)).up (fs a b (L.map Prod.fst)).run (wt c d (fs a b (L.map Prod.fst))) (now + wt c d (fs a b (L.map Prod.fst)))), some (.ref Q0), some (.int now), some (.bl good), s7, s8, s9])
    ⟨0, [], 0, true, none, none, none, by omega, by simp, rfl, d8, q8, by omega, by omega, by simp, rfl, by simp [fs, wt]⟩ (fun _ _ _ _ => rfl) (fun x xs env M ⟨t, L, now, good, s7, s8, s9, ht, hx, hL, dM, hq, n0, n1, hp, hdue, henv⟩ => by
      subst henv
      have hlt : t < m := by
        rcases Nat.lt_or_ge t m with q | q
        · exact q
        · rw [List.drop_of_length_le (by simpa using q)] at hx; cases hx
      rw [List.drop_eq_getElem_cons (by simpa using hlt)] at hx
      simp only [List.getElem_map, List.getElem_range, List.cons.injEq] at hx
      obtain ⟨rfl, rfl⟩ := hx
      obtain ⟨x, Ma, ea, x1, x2, da, ka⟩ := draw_ok (n + 5) dM (many := 100000) (by omega) (by omega)
      obtain ⟨r, Mb, eb, hr, db, kb⟩ := picks (n + 4) da [.int 0, .int 1, .int 3, .int 50, .int x, .int 1000000000000] (by simp) (by simp)
      have hr' : ∃ v : Int, r = .int v ∧ 0 ≤ v ∧ v ≤ 1000000000000 := by
        simp only [List.mem_cons, List.mem_nil_iff, or_false] at hr
        rcases hr with rfl | rfl | rfl | rfl | rfl | rfl <;> exact ⟨_, rfl, by omega, by omega⟩
      obtain ⟨v, rfl, v0, v1⟩ := hr'
      obtain ⟨y, Mc, ec, y1, y2, dc, kc⟩ := draw_ok (n + 5) db (many := 3) (by omega) (by omega)
      have hqc := kc.get (kb.get (ka.get hq nQ) nQ) nQ
      have hlL : (L.map lkV).length < 16777216 := by simp; omega
      have I := fs_inv ha hb (L.map Prod.fst)
      have hnow : 0 ≤ now + v := by omega
      unfold forB
      by_cases hy : 0 < y
      ·
        obtain ⟨Md, hMd⟩ : ∃ Md, Md = Mc.set Q0 (.lst (L.map lkV ++ [.tup [.bl good, .int (now + v)]])) := ⟨_, rfl⟩
        have hqd : Md[Q0]? = some (.lst ((L ++ [(good, now + v)]).map lkV)) := by rw [hMd, sto_set hqc, List.map_append]; rfl
        have dd : Dk i j Md := dc.keep (out := [Q0]) (by rw [hMd]; exact Keep.set (by simp)) (by simp at nQ ⊢; omega) (by simp at nQ ⊢; omega)
        obtain ⟨z, Me, ee, z1, z2, de, ke⟩ := draw_ok (n + 5) dd (many := 4) (by omega) (by omega)
        have hqe := ke.get hqd nQ
        obtain ⟨Mf, ef, kf⟩ := looked_ok n Me hR (mk_fs hR I (by simp; omega) n0) hnow good
        have hnx := nx_stp (c := c) (d := d) ha hb I good
        have hst := fs_app a b (L.map Prod.fst) good
        have hmap : L.map Prod.fst ++ [good] = (L ++ [(good, now + v)]).map Prod.fst := by simp
        rw [hmap] at hst
        rw [hnx] at ef
        simp only at ef
        rw [← hst] at ef
        have hqf := kf.get hqe (by simp)
        have hp' : ∀ p ∈ L ++ [(good, now + v)], 0 ≤ p.2 ∧ p.2 ≤ 100000000000000 := by
          intro p hm
          rcases List.mem_append.mp hm with hm | hm
          · exact hp p hm
          · simp at hm
            subst hm
            simp
            omega
        have hdue' : dueL (L ++ [(good, now + v)]) = now + v := by simp [dueL]
        obtain ⟨Mg, eg, kg⟩ := mark_by_ok (n + 5) Mf hR hqf (by simp; omega) (fun p hm => by have := hp' p hm; exact small (by omega) (by omega)) rfl
        rw [hdue'] at eg
        have I' := fs_inv ha hb ((L ++ [(good, now + v)]).map Prod.fst)
        obtain ⟨Mh, eh, kh⟩ := is_mark_ok (n + 1) Mg hR (mk_fs hR I' (by simp; omega) hnow)
        have hqh := kh.get (kg.get hqf (by simp)) (by simp)
        have dh : Dk i j Mh := ((de.keep kf (by simp) (by simp)).keep kg (by simp) (by simp)).keep kh (by simp) (by simp)
        have hw := wt_pos hR (fs a b ((L ++ [(good, now + v)]).map Prod.fst))
        have hmk := mk_fs hR I' (by simp; omega) hnow
        obtain ⟨s', hs'⟩ : ∃ s', s' = fs a b ((L ++ [(good, now + v)]).map Prod.fst) := ⟨_, rfl⟩
        rw [← hs'] at ef eg I' eh hw hmk
        obtain ⟨w, hww⟩ : ∃ w, w = wt c d s' := ⟨_, rfl⟩
        rw [← hww] at eg eh ef hw hmk
        have hrun : (s'.run : Int) ≤ 99 := by
          have := hmk.2.1
          have := hR.2.1
          have := hR.2.2.2.1
          split at * <;> omega
        obtain ⟨t1, f1⟩ : ∃ t1, ∀ M, reprV M (mkV s'.up s'.run w (now + v + w)) = some t1 := by
          obtain ⟨f1, f2, f3⟩ := mk_fine (up := s'.up) (run := s'.run) (wait := w) (due := now + v + w) (small (by omega) (by omega)) (small (by omega) (by omega)) (small (by omega) (by omega))
          exact repr_one f1 (by omega) (by omega)
        obtain ⟨r, Mi, ei, hr, di, ki⟩ := picks (n + 4) dh [.int (now + v), .int (now + v + w), .int (now + v + w - 1), .int (now + v + w + 1)] (by simp) (by simp)
        have hr' : ∃ u : Int, r = .int u ∧ 0 ≤ u := by
          simp only [List.mem_cons, List.mem_nil_iff, or_false] at hr
          rcases hr with rfl | rfl | rfl | rfl <;> exact ⟨_, rfl, by omega⟩
        obtain ⟨u, rfl, u0⟩ := hr'
        obtain ⟨Mj, ej, kj⟩ := is_due_ok n Mi hR hmk u0
        obtain ⟨Mk', ek, kk⟩ := is_due_ok n Mj hR hmk u0
        obtain ⟨t2, f2⟩ : ∃ t2, ∀ M, reprV M (.tup [.bl (decide (now + v + w ≤ u)), .bl (decide (now + v + w ≤ u))]) = some t2 := repr_two (by rfl) (by simp [pd, PyData.bulk]) (by simp [pd, PyData.depth])
        have dk : Dk i j Mk' := (di.keep kj (by simp) (by simp)).keep kk (by simp) (by simp)
        have hqk := kk.get (kj.get (ki.get hqh nQ) (by simp)) (by simp)
        by_cases hz0 : z = 0
        · simp only [↓evE.eq_1, ↓evE.eq_2, ↓evE.eq_3, ↓evE.eq_4, ↓evE.eq_5, ↓evE.eq_6, ↓evE.eq_7, ↓evE.eq_8, ↓evE.eq_9, ↓evE.eq_10, ↓evE.eq_11, ↓evE.eq_12, ↓evE.eq_13, ↓evE.eq_14, ↓evE.eq_15, ↓evE.eq_16, ↓evE.eq_17, ↓evE.eq_18, ↓evE.eq_19, ↓evE.eq_20, ↓evE.eq_21, ↓evE.eq_22, ↓evE.eq_23, ↓evE.eq_24, ↓evE.eq_25, ↓evE.eq_26, ↓evE.eq_27, ↓evE.eq_28, ↓evE.eq_29, ↓evE.eq_30, ↓evE.eq_31, ↓evE.eq_32, ↓evS.eq_1, ↓evS_seq, ↓evS.eq_3, ↓evS.eq_4, ↓evS.eq_5, ↓evS.eq_6, ↓evS.eq_7, ↓evS.eq_8, ↓evS_ite, ↓iteS, ↓evS.eq_11, ↓evS.eq_12, ↓evS.eq_13, ↓evS.eq_14, ↓evS.eq_15, ↓evS.eq_16, ↓evS.eq_17, ↓evS_for, ↓evA.eq_1, ↓evA.eq_2, ↓evT.eq_1, ↓evT.eq_2, ↓evO.eq_1, ↓evO.eq_2, ↓evI.eq_1, ↓evI.eq_2, ↓evI.eq_3, ↓m_bind, ↓m_then, ↓m_opt, SRes.bind_nx, SRes.bind_rt, SRes.bind_bk, SRes.bind_ct, SRes.bind_ex, SRes.bind_bad, at_call, at_glo, at_fuel, SRes.back, List.getElem?_cons_zero, List.getElem?_cons_succ, List.set_cons_zero, List.set_cons_succ, asgT, asgTs, cmpV, truV, binV, bltV, tyN, tyLe, subV, Option.map_some, Option.map_none, List.any_cons, List.any_nil, if_true, if_false, ite_true, ite_false, String.reduceBEq, Nat.reduceAdd, Bool.or_false, Bool.false_or, Bool.or_true, Bool.true_or, Bool.and_true, Bool.true_and, Bool.and_false, Bool.false_and, Bool.not_true, Bool.not_false, beq_self_eq_true, decide_true, decide_false, reduceCtorEq, Bool.false_eq_true, keyOf, dctKeys, List.length_cons, List.length_nil, List.zip_cons_cons, List.zip_nil_left, List.zip_nil_right, List.foldl_cons, List.foldl_nil, methV, setV, isL, permL_cons, permL_nil, List.map_cons, List.map_nil, valP_cons, valP_nil, key_str, key_int, ofString_eq, String.reduceEq, putP, sizeLine_eq, Nat.reduceLT, Nat.reduceLeDiff, sto_self, mulOk, powOk, divOk, Int.reducePow, Nat.reducePow, Int.reduceNeg, Int.reduceLT, Int.reduceLE, natAbs64, natAbs30, Int.reduceToNat, Int.reduceEq, Int.reduceAdd, Int.reduceSub, Int.reduceMul, ne_eq, not_false_eq_true, Int.reduceNe, Ev.alloc, Ev.eq_ii, Ev.eq_ss, Ev.eq_bb, Ev.eq_nn, Ev.eq_ni, Ev.eq_in, Ev.eq_ns, Ev.eq_sn, Ev.eq_nb, Ev.eq_bn, Ev.eq_is, Ev.eq_si, and_self, true_and, and_true, fmod_lt64, fmod_gt64, atI_0, atI_1, atI_2, atI_3, atI_4, atI_5, atI_6, atI_7, atI_8, atI_9, seqOf, lstOf, slcV, revV, srcOf, optI, List.nil_append, List.cons_append, sto_new, intsP, sortI, insI, compL, compG, wipeP, boolsP, List.all_cons, List.all_nil, id_eq, keep_nil, maxI, minI, intsP, cutf_1, cutf_2, cutf_3, cutf_4, cutt_1, cutt_2, cutt_3, cutt_4, List.drop_succ_cons, List.drop_zero, List.take_succ_cons, List.take_zero, Int.cast_ofNat_Int, false_and, and_false, ea, eb, ec, hy, hqc, hlL, ← hMd, ee, hz0, ef, eg, f1, eh, repr_true, ↓mk3, ei, ej, ek, f2, rep2]
          refine ⟨_, _, .inl rfl, t + 1, L ++ [(good, now + v)], now + v, good, some (.int (t : Nat)), some (mkV s'.up s'.run w (now + v + w)), some (.int u), by omega, rfl, by simp [hL], dk, hqk, hnow, by omega, hp', hdue', ?_⟩
          rw [← hs', ← hww]
        · simp only [↓evE.eq_1, ↓evE.eq_2, ↓evE.eq_3, ↓evE.eq_4, ↓evE.eq_5, ↓evE.eq_6, ↓evE.eq_7, ↓evE.eq_8, ↓evE.eq_9, ↓evE.eq_10, ↓evE.eq_11, ↓evE.eq_12, ↓evE.eq_13, ↓evE.eq_14, ↓evE.eq_15, ↓evE.eq_16, ↓evE.eq_17, ↓evE.eq_18, ↓evE.eq_19, ↓evE.eq_20, ↓evE.eq_21, ↓evE.eq_22, ↓evE.eq_23, ↓evE.eq_24, ↓evE.eq_25, ↓evE.eq_26, ↓evE.eq_27, ↓evE.eq_28, ↓evE.eq_29, ↓evE.eq_30, ↓evE.eq_31, ↓evE.eq_32, ↓evS.eq_1, ↓evS_seq, ↓evS.eq_3, ↓evS.eq_4, ↓evS.eq_5, ↓evS.eq_6, ↓evS.eq_7, ↓evS.eq_8, ↓evS_ite, ↓iteS, ↓evS.eq_11, ↓evS.eq_12, ↓evS.eq_13, ↓evS.eq_14, ↓evS.eq_15, ↓evS.eq_16, ↓evS.eq_17, ↓evS_for, ↓evA.eq_1, ↓evA.eq_2, ↓evT.eq_1, ↓evT.eq_2, ↓evO.eq_1, ↓evO.eq_2, ↓evI.eq_1, ↓evI.eq_2, ↓evI.eq_3, ↓m_bind, ↓m_then, ↓m_opt, SRes.bind_nx, SRes.bind_rt, SRes.bind_bk, SRes.bind_ct, SRes.bind_ex, SRes.bind_bad, at_call, at_glo, at_fuel, SRes.back, List.getElem?_cons_zero, List.getElem?_cons_succ, List.set_cons_zero, List.set_cons_succ, asgT, asgTs, cmpV, truV, binV, bltV, tyN, tyLe, subV, Option.map_some, Option.map_none, List.any_cons, List.any_nil, if_true, if_false, ite_true, ite_false, String.reduceBEq, Nat.reduceAdd, Bool.or_false, Bool.false_or, Bool.or_true, Bool.true_or, Bool.and_true, Bool.true_and, Bool.and_false, Bool.false_and, Bool.not_true, Bool.not_false, beq_self_eq_true, decide_true, decide_false, reduceCtorEq, Bool.false_eq_true, keyOf, dctKeys, List.length_cons, List.length_nil, List.zip_cons_cons, List.zip_nil_left, List.zip_nil_right, List.foldl_cons, List.foldl_nil, methV, setV, isL, permL_cons, permL_nil, List.map_cons, List.map_nil, valP_cons, valP_nil, key_str, key_int, ofString_eq, String.reduceEq, putP, sizeLine_eq, Nat.reduceLT, Nat.reduceLeDiff, sto_self, mulOk, powOk, divOk, Int.reducePow, Nat.reducePow, Int.reduceNeg, Int.reduceLT, Int.reduceLE, natAbs64, natAbs30, Int.reduceToNat, Int.reduceEq, Int.reduceAdd, Int.reduceSub, Int.reduceMul, ne_eq, not_false_eq_true, Int.reduceNe, Ev.alloc, Ev.eq_ii, Ev.eq_ss, Ev.eq_bb, Ev.eq_nn, Ev.eq_ni, Ev.eq_in, Ev.eq_ns, Ev.eq_sn, Ev.eq_nb, Ev.eq_bn, Ev.eq_is, Ev.eq_si, and_self, true_and, and_true, fmod_lt64, fmod_gt64, atI_0, atI_1, atI_2, atI_3, atI_4, atI_5, atI_6, atI_7, atI_8, atI_9, seqOf, lstOf, slcV, revV, srcOf, optI, List.nil_append, List.cons_append, sto_new, intsP, sortI, insI, compL, compG, wipeP, boolsP, List.all_cons, List.all_nil, id_eq, keep_nil, maxI, minI, intsP, cutf_1, cutf_2, cutf_3, cutf_4, cutt_1, cutt_2, cutt_3, cutt_4, List.drop_succ_cons, List.drop_zero, List.take_succ_cons, List.take_zero, Int.cast_ofNat_Int, false_and, and_false, ea, eb, ec, hy, hqc, hlL, ← hMd, ee, hz0, ef, eg, f1, eh, repr_true, ↓mk3, ei, ej, ek, f2, rep2]
          refine ⟨_, _, .inl rfl, t + 1, L ++ [(good, now + v)], now + v, good, some (.int (t : Nat)), some (mkV s'.up s'.run w (now + v + w)), some (.int u), by omega, rfl, by simp [hL], dk, hqk, hnow, by omega, hp', hdue', ?_⟩
          rw [← hs', ← hww]
      ·
        obtain ⟨Md, hMd⟩ : ∃ Md, Md = Mc.set Q0 (.lst (L.map lkV ++ [.tup [.bl (!good), .int (now + v)]])) := ⟨_, rfl⟩
        have hqd : Md[Q0]? = some (.lst ((L ++ [((!good), now + v)]).map lkV)) := by rw [hMd, sto_set hqc, List.map_append]; rfl
        have dd : Dk i j Md := dc.keep (out := [Q0]) (by rw [hMd]; exact Keep.set (by simp)) (by simp at nQ ⊢; omega) (by simp at nQ ⊢; omega)
        obtain ⟨z, Me, ee, z1, z2, de, ke⟩ := draw_ok (n + 5) dd (many := 4) (by omega) (by omega)
        have hqe := ke.get hqd nQ
        obtain ⟨Mf, ef, kf⟩ := looked_ok n Me hR (mk_fs hR I (by simp; omega) n0) hnow (!good)
        have hnx := nx_stp (c := c) (d := d) ha hb I (!good)
        have hst := fs_app a b (L.map Prod.fst) (!good)
        have hmap : L.map Prod.fst ++ [(!good)] = (L ++ [((!good), now + v)]).map Prod.fst := by simp
        rw [hmap] at hst
        rw [hnx] at ef
        simp only at ef
        rw [← hst] at ef
        have hqf := kf.get hqe (by simp)
        have hp' : ∀ p ∈ L ++ [((!good), now + v)], 0 ≤ p.2 ∧ p.2 ≤ 100000000000000 := by
          intro p hm
          rcases List.mem_append.mp hm with hm | hm
          · exact hp p hm
          · simp at hm
            subst hm
            simp
            omega
        have hdue' : dueL (L ++ [((!good), now + v)]) = now + v := by simp [dueL]
        obtain ⟨Mg, eg, kg⟩ := mark_by_ok (n + 5) Mf hR hqf (by simp; omega) (fun p hm => by have := hp' p hm; exact small (by omega) (by omega)) rfl
        rw [hdue'] at eg
        have I' := fs_inv ha hb ((L ++ [((!good), now + v)]).map Prod.fst)
        obtain ⟨Mh, eh, kh⟩ := is_mark_ok (n + 1) Mg hR (mk_fs hR I' (by simp; omega) hnow)
        have hqh := kh.get (kg.get hqf (by simp)) (by simp)
        have dh : Dk i j Mh := ((de.keep kf (by simp) (by simp)).keep kg (by simp) (by simp)).keep kh (by simp) (by simp)
        have hw := wt_pos hR (fs a b ((L ++ [((!good), now + v)]).map Prod.fst))
        have hmk := mk_fs hR I' (by simp; omega) hnow
        obtain ⟨s', hs'⟩ : ∃ s', s' = fs a b ((L ++ [((!good), now + v)]).map Prod.fst) := ⟨_, rfl⟩
        rw [← hs'] at ef eg I' eh hw hmk
        obtain ⟨w, hww⟩ : ∃ w, w = wt c d s' := ⟨_, rfl⟩
        rw [← hww] at eg eh ef hw hmk
        have hrun : (s'.run : Int) ≤ 99 := by
          have := hmk.2.1
          have := hR.2.1
          have := hR.2.2.2.1
          split at * <;> omega
        obtain ⟨t1, f1⟩ : ∃ t1, ∀ M, reprV M (mkV s'.up s'.run w (now + v + w)) = some t1 := by
          obtain ⟨f1, f2, f3⟩ := mk_fine (up := s'.up) (run := s'.run) (wait := w) (due := now + v + w) (small (by omega) (by omega)) (small (by omega) (by omega)) (small (by omega) (by omega))
          exact repr_one f1 (by omega) (by omega)
        obtain ⟨r, Mi, ei, hr, di, ki⟩ := picks (n + 4) dh [.int (now + v), .int (now + v + w), .int (now + v + w - 1), .int (now + v + w + 1)] (by simp) (by simp)
        have hr' : ∃ u : Int, r = .int u ∧ 0 ≤ u := by
          simp only [List.mem_cons, List.mem_nil_iff, or_false] at hr
          rcases hr with rfl | rfl | rfl | rfl <;> exact ⟨_, rfl, by omega⟩
        obtain ⟨u, rfl, u0⟩ := hr'
        obtain ⟨Mj, ej, kj⟩ := is_due_ok n Mi hR hmk u0
        obtain ⟨Mk', ek, kk⟩ := is_due_ok n Mj hR hmk u0
        obtain ⟨t2, f2⟩ : ∃ t2, ∀ M, reprV M (.tup [.bl (decide (now + v + w ≤ u)), .bl (decide (now + v + w ≤ u))]) = some t2 := repr_two (by rfl) (by simp [pd, PyData.bulk]) (by simp [pd, PyData.depth])
        have dk : Dk i j Mk' := (di.keep kj (by simp) (by simp)).keep kk (by simp) (by simp)
        have hqk := kk.get (kj.get (ki.get hqh nQ) (by simp)) (by simp)
        by_cases hz0 : z = 0
        · simp only [↓evE.eq_1, ↓evE.eq_2, ↓evE.eq_3, ↓evE.eq_4, ↓evE.eq_5, ↓evE.eq_6, ↓evE.eq_7, ↓evE.eq_8, ↓evE.eq_9, ↓evE.eq_10, ↓evE.eq_11, ↓evE.eq_12, ↓evE.eq_13, ↓evE.eq_14, ↓evE.eq_15, ↓evE.eq_16, ↓evE.eq_17, ↓evE.eq_18, ↓evE.eq_19, ↓evE.eq_20, ↓evE.eq_21, ↓evE.eq_22, ↓evE.eq_23, ↓evE.eq_24, ↓evE.eq_25, ↓evE.eq_26, ↓evE.eq_27, ↓evE.eq_28, ↓evE.eq_29, ↓evE.eq_30, ↓evE.eq_31, ↓evE.eq_32, ↓evS.eq_1, ↓evS_seq, ↓evS.eq_3, ↓evS.eq_4, ↓evS.eq_5, ↓evS.eq_6, ↓evS.eq_7, ↓evS.eq_8, ↓evS_ite, ↓iteS, ↓evS.eq_11, ↓evS.eq_12, ↓evS.eq_13, ↓evS.eq_14, ↓evS.eq_15, ↓evS.eq_16, ↓evS.eq_17, ↓evS_for, ↓evA.eq_1, ↓evA.eq_2, ↓evT.eq_1, ↓evT.eq_2, ↓evO.eq_1, ↓evO.eq_2, ↓evI.eq_1, ↓evI.eq_2, ↓evI.eq_3, ↓m_bind, ↓m_then, ↓m_opt, SRes.bind_nx, SRes.bind_rt, SRes.bind_bk, SRes.bind_ct, SRes.bind_ex, SRes.bind_bad, at_call, at_glo, at_fuel, SRes.back, List.getElem?_cons_zero, List.getElem?_cons_succ, List.set_cons_zero, List.set_cons_succ, asgT, asgTs, cmpV, truV, binV, bltV, tyN, tyLe, subV, Option.map_some, Option.map_none, List.any_cons, List.any_nil, if_true, if_false, ite_true, ite_false, String.reduceBEq, Nat.reduceAdd, Bool.or_false, Bool.false_or, Bool.or_true, Bool.true_or, Bool.and_true, Bool.true_and, Bool.and_false, Bool.false_and, Bool.not_true, Bool.not_false, beq_self_eq_true, decide_true, decide_false, reduceCtorEq, Bool.false_eq_true, keyOf, dctKeys, List.length_cons, List.length_nil, List.zip_cons_cons, List.zip_nil_left, List.zip_nil_right, List.foldl_cons, List.foldl_nil, methV, setV, isL, permL_cons, permL_nil, List.map_cons, List.map_nil, valP_cons, valP_nil, key_str, key_int, ofString_eq, String.reduceEq, putP, sizeLine_eq, Nat.reduceLT, Nat.reduceLeDiff, sto_self, mulOk, powOk, divOk, Int.reducePow, Nat.reducePow, Int.reduceNeg, Int.reduceLT, Int.reduceLE, natAbs64, natAbs30, Int.reduceToNat, Int.reduceEq, Int.reduceAdd, Int.reduceSub, Int.reduceMul, ne_eq, not_false_eq_true, Int.reduceNe, Ev.alloc, Ev.eq_ii, Ev.eq_ss, Ev.eq_bb, Ev.eq_nn, Ev.eq_ni, Ev.eq_in, Ev.eq_ns, Ev.eq_sn, Ev.eq_nb, Ev.eq_bn, Ev.eq_is, Ev.eq_si, and_self, true_and, and_true, fmod_lt64, fmod_gt64, atI_0, atI_1, atI_2, atI_3, atI_4, atI_5, atI_6, atI_7, atI_8, atI_9, seqOf, lstOf, slcV, revV, srcOf, optI, List.nil_append, List.cons_append, sto_new, intsP, sortI, insI, compL, compG, wipeP, boolsP, List.all_cons, List.all_nil, id_eq, keep_nil, maxI, minI, intsP, cutf_1, cutf_2, cutf_3, cutf_4, cutt_1, cutt_2, cutt_3, cutt_4, List.drop_succ_cons, List.drop_zero, List.take_succ_cons, List.take_zero, Int.cast_ofNat_Int, false_and, and_false, ea, eb, ec, hy, hqc, hlL, ← hMd, ee, hz0, ef, eg, f1, eh, repr_true, ↓mk3, ei, ej, ek, f2, rep2]
          refine ⟨_, _, .inl rfl, t + 1, L ++ [((!good), now + v)], now + v, (!good), some (.int (t : Nat)), some (mkV s'.up s'.run w (now + v + w)), some (.int u), by omega, rfl, by simp [hL], dk, hqk, hnow, by omega, hp', hdue', ?_⟩
          rw [← hs', ← hww]
        · simp only [↓evE.eq_1, ↓evE.eq_2, ↓evE.eq_3, ↓evE.eq_4, ↓evE.eq_5, ↓evE.eq_6, ↓evE.eq_7, ↓evE.eq_8, ↓evE.eq_9, ↓evE.eq_10, ↓evE.eq_11, ↓evE.eq_12, ↓evE.eq_13, ↓evE.eq_14, ↓evE.eq_15, ↓evE.eq_16, ↓evE.eq_17, ↓evE.eq_18, ↓evE.eq_19, ↓evE.eq_20, ↓evE.eq_21, ↓evE.eq_22, ↓evE.eq_23, ↓evE.eq_24, ↓evE.eq_25, ↓evE.eq_26, ↓evE.eq_27, ↓evE.eq_28, ↓evE.eq_29, ↓evE.eq_30, ↓evE.eq_31, ↓evE.eq_32, ↓evS.eq_1, ↓evS_seq, ↓evS.eq_3, ↓evS.eq_4, ↓evS.eq_5, ↓evS.eq_6, ↓evS.eq_7, ↓evS.eq_8, ↓evS_ite, ↓iteS, ↓evS.eq_11, ↓evS.eq_12, ↓evS.eq_13, ↓evS.eq_14, ↓evS.eq_15, ↓evS.eq_16, ↓evS.eq_17, ↓evS_for, ↓evA.eq_1, ↓evA.eq_2, ↓evT.eq_1, ↓evT.eq_2, ↓evO.eq_1, ↓evO.eq_2, ↓evI.eq_1, ↓evI.eq_2, ↓evI.eq_3, ↓m_bind, ↓m_then, ↓m_opt, SRes.bind_nx, SRes.bind_rt, SRes.bind_bk, SRes.bind_ct, SRes.bind_ex, SRes.bind_bad, at_call, at_glo, at_fuel, SRes.back, List.getElem?_cons_zero, List.getElem?_cons_succ, List.set_cons_zero, List.set_cons_succ, asgT, asgTs, cmpV, truV, binV, bltV, tyN, tyLe, subV, Option.map_some, Option.map_none, List.any_cons, List.any_nil, if_true, if_false, ite_true, ite_false, String.reduceBEq, Nat.reduceAdd, Bool.or_false, Bool.false_or, Bool.or_true, Bool.true_or, Bool.and_true, Bool.true_and, Bool.and_false, Bool.false_and, Bool.not_true, Bool.not_false, beq_self_eq_true, decide_true, decide_false, reduceCtorEq, Bool.false_eq_true, keyOf, dctKeys, List.length_cons, List.length_nil, List.zip_cons_cons, List.zip_nil_left, List.zip_nil_right, List.foldl_cons, List.foldl_nil, methV, setV, isL, permL_cons, permL_nil, List.map_cons, List.map_nil, valP_cons, valP_nil, key_str, key_int, ofString_eq, String.reduceEq, putP, sizeLine_eq, Nat.reduceLT, Nat.reduceLeDiff, sto_self, mulOk, powOk, divOk, Int.reducePow, Nat.reducePow, Int.reduceNeg, Int.reduceLT, Int.reduceLE, natAbs64, natAbs30, Int.reduceToNat, Int.reduceEq, Int.reduceAdd, Int.reduceSub, Int.reduceMul, ne_eq, not_false_eq_true, Int.reduceNe, Ev.alloc, Ev.eq_ii, Ev.eq_ss, Ev.eq_bb, Ev.eq_nn, Ev.eq_ni, Ev.eq_in, Ev.eq_ns, Ev.eq_sn, Ev.eq_nb, Ev.eq_bn, Ev.eq_is, Ev.eq_si, and_self, true_and, and_true, fmod_lt64, fmod_gt64, atI_0, atI_1, atI_2, atI_3, atI_4, atI_5, atI_6, atI_7, atI_8, atI_9, seqOf, lstOf, slcV, revV, srcOf, optI, List.nil_append, List.cons_append, sto_new, intsP, sortI, insI, compL, compG, wipeP, boolsP, List.all_cons, List.all_nil, id_eq, keep_nil, maxI, minI, intsP, cutf_1, cutf_2, cutf_3, cutf_4, cutt_1, cutt_2, cutt_3, cutt_4, List.drop_succ_cons, List.drop_zero, List.take_succ_cons, List.take_zero, Int.cast_ofNat_Int, false_and, and_false, ea, eb, ec, hy, hqc, hlL, ← hMd, ee, hz0, ef, eg, f1, eh, repr_true, ↓mk3, ei, ej, ek, f2, rep2]
          refine ⟨_, _, .inl rfl, t + 1, L ++ [((!good), now + v)], now + v, (!good), some (.int (t : Nat)), some (mkV s'.up s'.run w (now + v + w)), some (.int u), by omega, rfl, by simp [hL], dk, hqk, hnow, by omega, hp', hdue', ?_⟩
          rw [← hs', ← hww]
      )
  simp only [↓evE.eq_1, ↓evE.eq_2, ↓evE.eq_3, ↓evE.eq_4, ↓evE.eq_5, ↓evE.eq_6, ↓evE.eq_7, ↓evE.eq_8, ↓evE.eq_9, ↓evE.eq_10, ↓evE.eq_11, ↓evE.eq_12, ↓evE.eq_13, ↓evE.eq_14, ↓evE.eq_15, ↓evE.eq_16, ↓evE.eq_17, ↓evE.eq_18, ↓evE.eq_19, ↓evE.eq_20, ↓evE.eq_21, ↓evE.eq_22, ↓evE.eq_23, ↓evE.eq_24, ↓evE.eq_25, ↓evE.eq_26, ↓evE.eq_27, ↓evE.eq_28, ↓evE.eq_29, ↓evE.eq_30, ↓evE.eq_31, ↓evE.eq_32, ↓evS.eq_1, ↓evS_seq, ↓evS.eq_3, ↓evS.eq_4, ↓evS.eq_5, ↓evS.eq_6, ↓evS.eq_7, ↓evS.eq_8, ↓evS_ite, ↓iteS, ↓evS.eq_11, ↓evS.eq_12, ↓evS.eq_13, ↓evS.eq_14, ↓evS.eq_15, ↓evS.eq_16, ↓evS.eq_17, ↓evS_for, ↓evA.eq_1, ↓evA.eq_2, ↓evT.eq_1, ↓evT.eq_2, ↓evO.eq_1, ↓evO.eq_2, ↓evI.eq_1, ↓evI.eq_2, ↓evI.eq_3, ↓m_bind, ↓m_then, ↓m_opt, SRes.bind_nx, SRes.bind_rt, SRes.bind_bk, SRes.bind_ct, SRes.bind_ex, SRes.bind_bad, at_call, at_glo, at_fuel, SRes.back, List.getElem?_cons_zero, List.getElem?_cons_succ, List.set_cons_zero, List.set_cons_succ, asgT, asgTs, cmpV, truV, binV, bltV, tyN, tyLe, subV, Option.map_some, Option.map_none, List.any_cons, List.any_nil, if_true, if_false, ite_true, ite_false, String.reduceBEq, Nat.reduceAdd, Bool.or_false, Bool.false_or, Bool.or_true, Bool.true_or, Bool.and_true, Bool.true_and, Bool.and_false, Bool.false_and, Bool.not_true, Bool.not_false, beq_self_eq_true, decide_true, decide_false, reduceCtorEq, Bool.false_eq_true, keyOf, dctKeys, List.length_cons, List.length_nil, List.zip_cons_cons, List.zip_nil_left, List.zip_nil_right, List.foldl_cons, List.foldl_nil, methV, setV, isL, permL_cons, permL_nil, List.map_cons, List.map_nil, valP_cons, valP_nil, key_str, key_int, ofString_eq, String.reduceEq, putP, sizeLine_eq, Nat.reduceLT, Nat.reduceLeDiff, sto_self, mulOk, powOk, divOk, Int.reducePow, Nat.reducePow, Int.reduceNeg, Int.reduceLT, Int.reduceLE, natAbs64, natAbs30, Int.reduceToNat, Int.reduceEq, Int.reduceAdd, Int.reduceSub, Int.reduceMul, ne_eq, not_false_eq_true, Int.reduceNe, Ev.alloc, Ev.eq_ii, Ev.eq_ss, Ev.eq_bb, Ev.eq_nn, Ev.eq_ni, Ev.eq_in, Ev.eq_ns, Ev.eq_sn, Ev.eq_nb, Ev.eq_bn, Ev.eq_is, Ev.eq_si, and_self, true_and, and_true, fmod_lt64, fmod_gt64, atI_0, atI_1, atI_2, atI_3, atI_4, atI_5, atI_6, atI_7, atI_8, atI_9, seqOf, lstOf, slcV, revV, srcOf, optI, List.nil_append, List.cons_append, sto_new, intsP, sortI, insI, compL, compG, wipeP, boolsP, List.all_cons, List.all_nil, id_eq, keep_nil, maxI, minI, intsP, cutf_1, cutf_2, cutf_3, cutf_4, cutt_1, cutt_2, cutt_3, cutt_4, List.drop_succ_cons, List.drop_zero, List.take_succ_cons, List.take_zero, Int.cast_ofNat_Int, false_and, and_false]
  exact ⟨_, rfl⟩
end K22

set_option Elab.async false
set_option linter.all false
set_option maxRecDepth 100000
set_option maxHeartbeats 0
open PySem PySem.W PySem.Calls PyProof.Rows
theorem PySem.Challenge.cw_answergate_k22_whole_marks_under_any_loo_holds : PySem.Challenge.rw_answergate_k22_whole_marks_under_any_loo.Holds := by
  w_on; o_law
  refine HandSHeadRun.head_any (r := OpenLaw.row PySem.Challenge.rw_answergate_k22_whole_marks_under_any_loo) (q := view (OpenLaw.row PySem.Challenge.rw_answergate_k22_whole_marks_under_any_loo).prog [K22.lawAt]) (H := K22.hk) (ob := K22.ob) (M := 4000) (loose := K22.names) (d := HandSHeadRun.topDef (OpenLaw.row PySem.Challenge.rw_answergate_k22_whole_marks_under_any_loo).prog K22.lawAt) (kwd := []) K22.ob_eq
    (by kernel_rfl) (fun s => by kernel_rfl) K22.run (by kernel_rfl) (by kernel_rfl) (by kernel_rfl) (by rfl) (by first | assumption | decide +kernel) (by decide +kernel) ⟨rfl, rfl, rfl, rfl, rfl, by decide +kernel⟩ ?hw ?hc
  case hw => w_witness2
  case hc =>
    refine Ev.walk_ev (l := PySem.Challenge.rw_answergate_k22_whole_marks_under_any_loo) (n := 63) (k := 12) (tab := K22.tab) (gl := K22.gcs.glo) (exc := fun _ => none) (fuel := 100000) (D := K22.d_law) rfl (by decide) (by kernel_rfl) ⟨rfl, by decide, by decide⟩ (by kernel_rfl) rfl ?F ?L
    case F =>
      intro w mg fa h Y G hmg0
      obtain ⟨K, KX, c⟩ := Y
      have e : (HandSHeadRun.topDef (OpenLaw.row PySem.Challenge.rw_answergate_k22_whole_marks_under_any_loo).prog K22.lawAt).name = K22.d_law.x := by kernel_rfl
      refine ⟨K, KX, Ev.wor_of KX G c K22.ok, ?_⟩
      rw [← e]
      exact hmg0
    case L => exact fun ns hn _ => K22.law_ok 5 ns hn
