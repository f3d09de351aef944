import PyProof.Rows.All
import Wide.All
import OpenK.AllK
import Wide.FinOn
import HandS.ForMost
import HandS.ForExc
import HandS.HeadHook1
import HandS.HeadHook2
import HandS.Defaults
import HandS.Flow
import HandS.Style
import HandS.SortInts
import HandS.Conv
import HandS.Deep
import HandS.TupLe
import HandS.IsInst
import HandS.More
import HandS.SetFor
import HandS.Strs
import KE.KDictZip
import HandS.Zip
import HandS.SetBool
import HandS.Dict
import HandS.Ends
import HandS.Exc
import HandS.ExcOwn
import HandS.HeadEnd
import HandS.Head0
import HandS.Head1
import HandS.Head2
import HandS.HeadHook4
import PyProof.ReprBulk
import PySem.Challenge.RW_layoutline_k04_whole_hierarchies_merged
set_option Elab.async false
set_option linter.all false
set_option maxRecDepth 100000
set_option maxHeartbeats 4000000
/-! Ip1: the small interpreter: values, states, outcomes, expressions, statements, calls. -/
namespace Ip
open PySem
abbrev Str := PySem.Str
abbrev Key := L2.Key

/-- a value: data that never changes stands by value, what may change by the number of its cell -/
inductive IV where
  | non | bl (b : Bool) | int (i : Int) | str (x : Str)
  | tup (xs : List IV) | lst (xs : List IV)
  | dK (kvs : List (Key × IV))
  | dT (kvs : List (List Key × IV))
  | obj (c : String) (fs : List (String × IV))
  | ref (n : Nat) | brw (i : Nat) | glob (x : String) | ty (n : String)
instance : Inhabited IV := ⟨.non⟩

inductive Slot where
  | un | val (x : IV) | own (x : IV)
instance : Inhabited Slot := ⟨.un⟩
abbrev IHeap := List (Option IV)
structure IS where
  r : List Slot
  h : IHeap

inductive Out (α : Type) where
  | ok (a : α) (s : IS) | exc (c : String) (fs : List (String × IV)) (s : IS) | bad
def Out.bind {α β : Type} (o : Out α) (k : α → IS → Out β) : Out β := match o with
  | .ok a s => k a s
  | .exc c fs s => .exc c fs s
  | .bad => .bad
/-- nothing may be raised here -/
def Out.noX {α : Type} (o : Out α) : Out α := match o with
  | .ok a s => .ok a s
  | _ => .bad
/-- a step that may be refused -/
def Out.of {β : Type} (s : IS) : Option β → Out β
  | some b => .ok b s
  | none => .bad
section
variable {α β : Type} {a : α} {s : IS} {c : String} {fs : List (String × IV)} {k : α → IS → Out β}
@[simp] theorem Out.bind_ok : (Out.ok a s).bind k = k a s := rfl
@[simp] theorem Out.bind_exc : (Out.exc c fs s : Out α).bind k = .exc c fs s := rfl
@[simp] theorem Out.bind_bad : (Out.bad : Out α).bind k = .bad := rfl
@[simp] theorem Out.noX_ok : (Out.ok a s).noX = .ok a s := rfl
@[simp] theorem Out.noX_bad : (Out.bad : Out α).noX = .bad := rfl
@[simp] theorem Out.noX_exc : (Out.exc c fs s : Out α).noX = .bad := rfl
@[simp] theorem Out.of_some : Out.of s (some a) = .ok a s := rfl
@[simp] theorem Out.of_none : (Out.of s none : Out α) = .bad := rfl
end

/-- a result: a value, or the content of a new object that nothing else holds -/
inductive RV where
  | v (x : IV) | fr (x : IV)
def RV.get : RV → IV
  | .v x => x
  | .fr x => x
@[simp] theorem RV.get_v {x : IV} : (RV.v x).get = x := rfl
@[simp] theorem RV.get_fr {x : IV} : (RV.fr x).get = x := rfl
def stor : IV → Bool
  | .brw _ => false
  | _ => true
section
variable {x : IV} {i : Int} {b : Bool} {z : Str} {n : Nat} {xs : List IV} {c : String} {fs : List (String × IV)} {kvs : List (Key × IV)} {kts : List (List Key × IV)}
@[simp] theorem stor_non : stor .non = true := rfl
@[simp] theorem stor_bl : stor (.bl b) = true := rfl
@[simp] theorem stor_int : stor (.int i) = true := rfl
@[simp] theorem stor_str : stor (.str z) = true := rfl
@[simp] theorem stor_tup : stor (.tup xs) = true := rfl
@[simp] theorem stor_lst : stor (.lst xs) = true := rfl
@[simp] theorem stor_dK : stor (.dK kvs) = true := rfl
@[simp] theorem stor_dT : stor (.dT kts) = true := rfl
@[simp] theorem stor_obj : stor (.obj c fs) = true := rfl
@[simp] theorem stor_ref : stor (.ref n) = true := rfl
@[simp] theorem stor_glob : stor (.glob c) = true := rfl
@[simp] theorem stor_ty : stor (.ty c) = true := rfl
end

/-! ### what an object holds -/
def ownC : Slot → Option IV
  | .own x => some x
  | _ => none
def cont (st : IS) : IV → Option IV
  | .ref n => (st.h[n]?).join
  | .brw i => (st.r[i]?).bind ownC
  | x => some x
section
variable {st : IS} {x : IV} {i : Int} {b : Bool} {z : Str} {n : Nat} {xs : List IV} {c : String} {fs : List (String × IV)} {kvs : List (Key × IV)} {kts : List (List Key × IV)}
@[simp] theorem ownC_own : ownC (.own x) = some x := rfl
@[simp] theorem ownC_val : ownC (.val x) = none := rfl
@[simp] theorem ownC_un : ownC .un = none := rfl
@[simp] theorem cont_non : cont st .non = some .non := rfl
@[simp] theorem cont_bl : cont st (.bl b) = some (.bl b) := rfl
@[simp] theorem cont_int : cont st (.int i) = some (.int i) := rfl
@[simp] theorem cont_str : cont st (.str z) = some (.str z) := rfl
@[simp] theorem cont_tup : cont st (.tup xs) = some (.tup xs) := rfl
@[simp] theorem cont_lst : cont st (.lst xs) = some (.lst xs) := rfl
@[simp] theorem cont_dK : cont st (.dK kvs) = some (.dK kvs) := rfl
@[simp] theorem cont_dT : cont st (.dT kts) = some (.dT kts) := rfl
@[simp] theorem cont_obj : cont st (.obj c fs) = some (.obj c fs) := rfl
@[simp] theorem cont_ref : cont st (.ref n) = (st.h[n]?).join := rfl
@[simp] theorem cont_brw : cont st (.brw n) = (st.r[n]?).bind ownC := rfl
@[simp] theorem cont_glob : cont st (.glob c) = some (.glob c) := rfl
@[simp] theorem cont_ty : cont st (.ty c) = some (.ty c) := rfl
end
def asL : IV → Option (List IV)
  | .lst xs => some xs
  | _ => none
/-- a list or a tuple -/
def asA : IV → Option (List IV)
  | .lst xs => some xs
  | .tup xs => some xs
  | _ => none
@[simp] theorem asL_lst {xs : List IV} : asL (.lst xs) = some xs := rfl
@[simp] theorem asA_lst {xs : List IV} : asA (.lst xs) = some xs := rfl
@[simp] theorem asA_tup {xs : List IV} : asA (.tup xs) = some xs := rfl
def seqL (st : IS) (x : IV) : Option (List IV) := (cont st x).bind asL

/-! attributes -/
def putA (f : String) (v : IV) : List (String × IV) → List (String × IV)
  | [] => [(f, v)]
  | (g, x) :: r => if g = f then (g, v) :: r else (g, x) :: putA f v r
def objF (ok : String → Bool) (f : String) : IV → Option IV
  | .obj c fs => if ok c then fs.lookup f else none
  | _ => none
/-- the method's name -/
def clsM (ok : String → Bool) (m : String) : IV → Option String
  | .obj c fs => if ok c && (fs.lookup m).isNone then some (c ++ "." ++ m) else none
  | _ => none
mutual
def toD0 : IV → Option PyData
  | .non => some .none
  | .bl b => some (.bool b)
  | .int i => some (.int i)
  | .str x => some (.str x)
  | .tup xs => (toDs xs).map .tuple
  | .lst xs => (toDs xs).map .list
  | _ => none
def toDs : List IV → Option (List PyData)
  | [] => some []
  | x :: xs => (toD0 x).bind fun d => (toDs xs).map (d :: ·)
end
mutual
/-- data with cells in it -/
def toDr (st : IS) : IV → Option PyData
  | .non => some .none
  | .bl b => some (.bool b)
  | .int i => some (.int i)
  | .str x => some (.str x)
  | .tup xs => (toDrs st xs).map .tuple
  | .lst xs => (toDrs st xs).map .list
  | .ref n => (st.h[n]?).join.bind toD0
  | _ => none
def toDrs (st : IS) : List IV → Option (List PyData)
  | [] => some []
  | x :: xs => (toDr st x).bind fun d => (toDrs st xs).map (d :: ·)
end
def toD (st : IS) (x : IV) : Option PyData := (cont st x).bind (toDr st)
/-- data that == and in are asked of -/
def dOk (d : PyData) : Bool := SeqAt.shaped d
def eqD (a b : PyData) : Option Bool := if dOk a && dOk b then some (PyData.eqv a b) else none
def eqS (st : IS) : IV → IV → Option Bool
  | .str a, .str b => some (decide (a = b))
  | x, y => (toD st x).bind fun a => (toD st y).bind fun b => eqD a b
@[simp] theorem eqS_str {st : IS} {a b : Str} : eqS st (.str a) (.str b) = some (decide (a = b)) := rfl
def inD (a : PyData) (bs : List PyData) : Option Bool := if dOk a && bs.all dOk then some (bs.any fun b => PyData.eqv b a) else none
def inS (st : IS) (x : IV) (ys : List IV) : Option Bool := (toD st x).bind fun a => (toDrs st ys).bind fun bs => inD a bs

def hasK {κ α : Type} [DecidableEq κ] (k : κ) (kvs : List (κ × α)) : Option α := (kvs.find? fun kv => decide (kv.1 = k)).map (·.2)
def putK {κ α : Type} [DecidableEq κ] (k : κ) (v : α) (kvs : List (κ × α)) : List (κ × α) :=
  if (kvs.any fun kv => decide (kv.1 = k)) = true then kvs.map (fun kv => if kv.1 = k then (kv.1, v) else kv) else kvs ++ [(k, v)]
def dropK {κ α : Type} [DecidableEq κ] (k : κ) (kvs : List (κ × α)) : List (κ × α) := kvs.filter fun kv => decide (kv.1 ≠ k)
def asK : IV → Option Key
  | .int i => some (.inl i)
  | .str x => some (.inr x)
  | _ => none
@[simp] theorem asK_int {i : Int} : asK (.int i) = some (.inl i) := rfl
@[simp] theorem asK_str {x : Str} : asK (.str x) = some (.inr x) := rfl

def truC : IV → Option Bool
  | .non => some false
  | .bl b => some b
  | .int i => some (i != 0)
  | .lst xs => some (!xs.isEmpty)
  | .tup xs => some (!xs.isEmpty)
  | .dK xs => some (!xs.isEmpty)
  | _ => none
@[simp] theorem truC_non : truC .non = some false := rfl
@[simp] theorem truC_bl {b : Bool} : truC (.bl b) = some b := rfl
@[simp] theorem truC_int {i : Int} : truC (.int i) = some (i != 0) := rfl
@[simp] theorem truC_lst {xs : List IV} : truC (.lst xs) = some (!xs.isEmpty) := rfl
@[simp] theorem truC_tup {xs : List IV} : truC (.tup xs) = some (!xs.isEmpty) := rfl
@[simp] theorem truC_dK {xs : List (Key × IV)} : truC (.dK xs) = some (!xs.isEmpty) := rfl
def truth (st : IS) (x : IV) : Option Bool := (cont st x).bind truC

def small (n : Nat) : Bool := decide (n ≤ 1000000)
def i64 (i : Int) : Bool := decide (i.natAbs < 18446744073709551616)
theorem i64_iff {i : Int} : i64 i = true ↔ -(2 ^ 64) < i ∧ i < 2 ^ 64 := by unfold i64; rw [decide_eq_true_eq]; omega
def i62 (i : Int) : Bool := decide (i.natAbs < 4611686018427387904)
theorem i62_iff {i : Int} : i62 i = true ↔ -(2 ^ 62) < i ∧ i < 2 ^ 62 := by unfold i62; rw [decide_eq_true_eq]; omega

def binC : Operator → IV → IV → Option RV
  | .Add, .int i, .int j => some (.v (.int (i + j)))
  | .Sub, .int i, .int j => some (.v (.int (i - j)))
  | .Mult, .int i, .int j => if i64 i || i64 j then some (.v (.int (i * j))) else none
  | .Mod, .int i, .int j => if 0 < j then some (.v (.int (i % j))) else none
  | .FloorDiv, .int i, .int j => if 0 < j ∧ j.natAbs < 1073741824 then some (.v (.int (i / j))) else none
  | .Pow, .int i, .int j => if 0 ≤ j ∧ j ≤ 1000000 ∧ i64 i then some (.v (.int (i ^ j.toNat))) else none
  | .Add, .lst xs, .lst ys => if small (xs.length + ys.length) then some (.fr (.lst (xs ++ ys))) else none
  | _, _, _ => none
section
variable {i j : Int} {xs ys : List IV}
@[simp] theorem binC_add : binC .Add (.int i) (.int j) = some (.v (.int (i + j))) := rfl
@[simp] theorem binC_sub : binC .Sub (.int i) (.int j) = some (.v (.int (i - j))) := rfl
@[simp] theorem binC_mul : binC .Mult (.int i) (.int j) = if i64 i || i64 j then some (.v (.int (i * j))) else none := by rfl
@[simp] theorem binC_mod : binC .Mod (.int i) (.int j) = if 0 < j then some (.v (.int (i % j))) else none := by rfl
@[simp] theorem binC_fdiv : binC .FloorDiv (.int i) (.int j) = if 0 < j ∧ j.natAbs < 1073741824 then some (.v (.int (i / j))) else none := by rfl
@[simp] theorem binC_pow : binC .Pow (.int i) (.int j) = if 0 ≤ j ∧ j ≤ 1000000 ∧ i64 i then some (.v (.int (i ^ j.toNat))) else none := by rfl
@[simp] theorem binC_cat : binC .Add (.lst xs) (.lst ys) = if small (xs.length + ys.length) then some (.fr (.lst (xs ++ ys))) else none := by rfl
end
def binS (st : IS) (op : Operator) (x y : IV) : Option RV := (cont st x).bind fun a => (cont st y).bind fun b => binC op a b

def isNon : IV → Bool
  | .non => true
  | _ => false
def ltC : CmpOp → IV → IV → Option Bool
  | .Lt, .int i, .int j => some (decide (i < j))
  | .LtE, .int i, .int j => some (decide (i ≤ j))
  | .Gt, .int i, .int j => some (decide (j < i))
  | .GtE, .int i, .int j => some (decide (j ≤ i))
  | _, _, _ => none
/-- is x the bool y -/
def isB : IV → IV → Option Bool
  | .bl a, .bl b => some (decide (a = b))
  | _, _ => none
@[simp] theorem isB_bl {a b : Bool} : isB (.bl a) (.bl b) = some (decide (a = b)) := rfl
/-- is k among the keys, is x among the items -/
def inC (st : IS) (x : IV) : IV → Option Bool
  | .lst ys => inS st x ys
  | .tup ys => inS st x ys
  | .dK kvs => (asK x).map fun k => (hasK k kvs).isSome
  | _ => none
section
variable {i j : Int} {xs : List IV} {st : IS} {x : IV} {n : Nat} {b : Bool} {z : Str} {kvs : List (Key × IV)}
@[simp] theorem isNon_non : isNon .non = true := rfl
@[simp] theorem isNon_bl : isNon (.bl b) = false := rfl
@[simp] theorem isNon_int : isNon (.int i) = false := rfl
@[simp] theorem isNon_str : isNon (.str z) = false := rfl
@[simp] theorem isNon_lst : isNon (.lst xs) = false := rfl
@[simp] theorem isNon_tup : isNon (.tup xs) = false := rfl
@[simp] theorem isNon_ref : isNon (.ref n) = false := rfl
@[simp] theorem isNon_brw : isNon (.brw n) = false := rfl
@[simp] theorem ltC_lt : ltC .Lt (.int i) (.int j) = some (decide (i < j)) := rfl
@[simp] theorem ltC_le : ltC .LtE (.int i) (.int j) = some (decide (i ≤ j)) := rfl
@[simp] theorem ltC_gt : ltC .Gt (.int i) (.int j) = some (decide (j < i)) := rfl
@[simp] theorem ltC_ge : ltC .GtE (.int i) (.int j) = some (decide (j ≤ i)) := rfl
@[simp] theorem inC_lst : inC st x (.lst xs) = inS st x xs := rfl
@[simp] theorem inC_tup : inC st x (.tup xs) = inS st x xs := rfl
@[simp] theorem inC_dK : inC st x (.dK kvs) = (asK x).map fun k => (hasK k kvs).isSome := rfl
end
def cmpS (st : IS) (op : CmpOp) (x y : IV) : Option Bool := match op with
  | .Eq => eqS st x y
  | .NotEq => (eqS st x y).map (!·)
  | .Is => if isNon y && stor x then some (isNon x) else isB x y
  | .IsNot => if isNon y && stor x then some (!isNon x) else (isB x y).map (!·)
  | .In => (cont st y).bind (inC st x)
  | .NotIn => ((cont st y).bind (inC st x)).map (!·)
  | op => ltC op x y
section
variable {st : IS} {x y : IV}
@[simp] theorem cmpS_eq : cmpS st .Eq x y = eqS st x y := rfl
@[simp] theorem cmpS_ne : cmpS st .NotEq x y = (eqS st x y).map (!·) := rfl
@[simp] theorem cmpS_is : cmpS st .Is x y = if isNon y && stor x then some (isNon x) else isB x y := by rfl
@[simp] theorem cmpS_isnot : cmpS st .IsNot x y = if isNon y && stor x then some (!isNon x) else (isB x y).map (!·) := by rfl
@[simp] theorem cmpS_in : cmpS st .In x y = (cont st y).bind (inC st x) := rfl
@[simp] theorem cmpS_notin : cmpS st .NotIn x y = ((cont st y).bind (inC st x)).map (!·) := rfl
@[simp] theorem cmpS_lt : cmpS st .Lt x y = ltC .Lt x y := rfl
@[simp] theorem cmpS_le : cmpS st .LtE x y = ltC .LtE x y := rfl
@[simp] theorem cmpS_gt : cmpS st .Gt x y = ltC .Gt x y := rfl
@[simp] theorem cmpS_ge : cmpS st .GtE x y = ltC .GtE x y := rfl
end

def cutI (xs : List IV) (lo hi : Option Int) : List IV :=
  (xs.drop (HT.sIx xs.length 0 lo)).take (HT.sIx xs.length xs.length hi - HT.sIx xs.length 0 lo)
def slcS (st : IS) (x : IV) (lo hi : Option Int) : Option RV := (seqL st x).map fun xs => .fr (.lst (cutI xs lo hi))
def subC : IV → IV → Option IV
  | .lst xs, .int k => L2.atI xs k
  | .tup xs, .int k => L2.atI xs k
  | .dK kvs, k => (asK k).bind fun k => hasK k kvs
  | _, _ => none
@[simp] theorem subC_lst {xs : List IV} {k : Int} : subC (.lst xs) (.int k) = L2.atI xs k := rfl
@[simp] theorem subC_tup {xs : List IV} {k : Int} : subC (.tup xs) (.int k) = L2.atI xs k := rfl
@[simp] theorem subC_dK {kvs : List (Key × IV)} {k : IV} : subC (.dK kvs) k = (asK k).bind fun k => hasK k kvs := rfl
def subS (st : IS) (x i : IV) : Option IV := (cont st x).bind fun a => subC a i

/-- the built-in calls -/
inductive BI where
  | len | list | all | any | int1 | sorted | sortedD | sortedSet | lenSet | rng1 | repr
  | isi (c : String)
  | zipl
  deriving DecidableEq
def isiC : IV → String → Option Bool
  | .non, _ => some false
  | .bl _, c => some (c == "bool" || c == "int")
  | .int _, c => some (c == "int")
  | .str _, c => some (c == "str")
  | .tup _, c => some (c == "tuple")
  | .lst _, c => some (c == "list")
  | .dK _, c => some (c == "dict")
  | _, _ => none
def ints? : List IV → Option (List Int)
  | [] => some []
  | .int i :: r => (ints? r).map (i :: ·)
  | _ :: _ => none
/-- the items, each once -/
def firsts : List Int → List Int
  | [] => []
  | x :: r => x :: (firsts r).filter (· != x)
def bools? : List IV → Option (List Bool)
  | [] => some []
  | .bl b :: r => (bools? r).map (b :: ·)
  | _ :: _ => none
def trL : IV → Option Bool
  | .non => some false
  | .bl b => some b
  | .int i => some (i != 0)
  | .lst xs => some (!xs.isEmpty)
  | .tup xs => some (!xs.isEmpty)
  | _ => none
@[simp] theorem trL_bl {b : Bool} : trL (.bl b) = some b := rfl
@[simp] theorem trL_lst {xs : List IV} : trL (.lst xs) = some (!xs.isEmpty) := rfl
def truths (st : IS) : List IV → Option (List Bool)
  | [] => some []
  | x :: r => ((cont st x).bind trL).bind fun b => (truths st r).map (b :: ·)
def repOk : PyData → Bool
  | .int _ => true
  | .list _ => true
  | .tuple _ => true
  | _ => false
def rngI (n : Nat) : List IV := (List.range n).map fun (k : Nat) => IV.int (k : Int)
def insI (x : Int) : List Int → List Int
  | [] => [x]
  | y :: r => if x ≤ y then x :: y :: r else y :: insI x r
def sortI : List Int → List Int
  | [] => []
  | x :: r => insI x (sortI r)
def zipI : List IV → List IV → List IV
  | x :: xs, y :: ys => .tup [x, y] :: zipI xs ys
  | _, _ => []
def lenC : IV → Option Int
  | .lst ys => some ys.length
  | .tup ys => some ys.length
  | .dK ys => some ys.length
  | .str y => if small y.length then some y.length else none
  | _ => none
@[simp] theorem lenC_lst {ys : List IV} : lenC (.lst ys) = some (ys.length : Int) := rfl
@[simp] theorem lenC_tup {ys : List IV} : lenC (.tup ys) = some (ys.length : Int) := rfl
@[simp] theorem lenC_dK {ys : List (Key × IV)} : lenC (.dK ys) = some (ys.length : Int) := rfl
@[simp] theorem lenC_str {y : Str} : lenC (.str y) = if small y.length then some (y.length : Int) else none := by rfl
def intC : IV → Option Int
  | .int i => some i
  | .bl b => some (if b then 1 else 0)
  | _ => none
@[simp] theorem intC_int {i : Int} : intC (.int i) = some i := rfl
@[simp] theorem intC_bl {b : Bool} : intC (.bl b) = some (if b then 1 else 0) := rfl
def asI : IV → Option Int
  | .int i => some i
  | _ => none
@[simp] theorem asI_int {i : Int} : asI (.int i) = some i := rfl
/-- the keys of a dict, all ints -/
def keysInt : List (Key × IV) → Option (List Int)
  | [] => some []
  | (.inl i, _) :: r => (keysInt r).map (i :: ·)
  | (.inr _, _) :: _ => none
def dkI : IV → Option (List Int)
  | .dK kvs => keysInt kvs
  | _ => none
@[simp] theorem dkI_dK {kvs : List (Key × IV)} : dkI (.dK kvs) = keysInt kvs := rfl
def bi1 (st : IS) (b : BI) (x : IV) : Option RV := match b with
  | .len => ((cont st x).bind lenC).map fun n => .v (.int n)
  | .list => ((cont st x).bind asA).map fun ys => .fr (.lst ys)
  | .all => ((seqL st x).bind bools?).map fun bs => .v (.bl (bs.all id))
  | .any => ((seqL st x).bind (truths st)).map fun bs => .v (.bl (bs.any id))
  | .int1 => (intC x).map fun i => .v (.int i)
  | .sorted => ((seqL st x).bind ints?).map fun ns => .fr (.lst ((sortI ns).map .int))
  | .sortedD => ((cont st x).bind dkI).bind fun ns => if ns.length < 64 then some (.fr (.lst ((sortI ns).map .int))) else none
  | .sortedSet => ((seqL st x).bind ints?).bind fun ns => if ns.length < 4000 ∧ (firsts ns).length < 64 then some (.fr (.lst ((sortI (firsts ns)).map .int))) else none
  | .lenSet => ((seqL st x).bind ints?).bind fun ns => if ns.length < 4000 then some (.v (.int (firsts ns).length)) else none
  | .rng1 => (asI x).bind fun n => if 0 ≤ n ∧ n ≤ 1000000 then some (.fr (.lst (rngI n.toNat))) else none
  | .repr => (toD st x).bind fun d => if dOk d && d.showable && small d.shown.length && repOk d then some (.v (.str d.shown)) else none
  | .isi c => (cont st x).bind fun y => (isiC y c).map fun b => .v (.bl b)
  | .zipl => none
def bi2 (st : IS) (b : BI) (x y : IV) : Option RV := match b with
  | .zipl => (seqL st x).bind fun xs => (seqL st y).map fun ys => .fr (.lst (zipI xs ys))
  | _ => none
section
variable {st : IS} {x y : IV} {c : String}
@[simp] theorem bi1_len : bi1 st .len x = ((cont st x).bind lenC).map fun n => .v (.int n) := rfl
@[simp] theorem bi1_list : bi1 st .list x = ((cont st x).bind asA).map fun ys => .fr (.lst ys) := rfl
@[simp] theorem bi1_all : bi1 st .all x = ((seqL st x).bind bools?).map fun bs => .v (.bl (bs.all id)) := rfl
@[simp] theorem bi1_any : bi1 st .any x = ((seqL st x).bind (truths st)).map fun bs => .v (.bl (bs.any id)) := rfl
@[simp] theorem bi1_int1 : bi1 st .int1 x = (intC x).map fun i => .v (.int i) := rfl
@[simp] theorem bi1_sorted : bi1 st .sorted x = ((seqL st x).bind ints?).map fun ns => .fr (.lst ((sortI ns).map .int)) := rfl
@[simp] theorem bi1_sortedD : bi1 st .sortedD x = ((cont st x).bind dkI).bind fun ns => if ns.length < 64 then some (.fr (.lst ((sortI ns).map .int))) else none := by rfl
@[simp] theorem bi1_sortedSet : bi1 st .sortedSet x = ((seqL st x).bind ints?).bind fun ns => if ns.length < 4000 ∧ (firsts ns).length < 64 then some (.fr (.lst ((sortI (firsts ns)).map .int))) else none := by rfl
@[simp] theorem bi1_lenSet : bi1 st .lenSet x = ((seqL st x).bind ints?).bind fun ns => if ns.length < 4000 then some (.v (.int (firsts ns).length)) else none := by rfl
@[simp] theorem bi1_rng1 : bi1 st .rng1 x = (asI x).bind fun n => if 0 ≤ n ∧ n ≤ 1000000 then some (.fr (.lst (rngI n.toNat))) else none := by rfl
@[simp] theorem bi1_repr : bi1 st .repr x = (toD st x).bind fun d => if dOk d && d.showable && small d.shown.length && repOk d then some (.v (.str d.shown)) else none := by rfl
@[simp] theorem bi1_isi : bi1 st (.isi c) x = (cont st x).bind fun y => (isiC y c).map fun b => .v (.bl b) := rfl
@[simp] theorem bi2_zipl : bi2 st .zipl x y = (seqL st x).bind fun xs => (seqL st y).map fun ys => .fr (.lst (zipI xs ys)) := rfl
end

/-! ### the compiled text -/
inductive Tgt where
  | name (i : Nat) | tup (ts : List Tgt)
/-- what a parameter gets: the i-th value of the call, or what stands at the def -/
inductive Ar where
  | a (i : Nat) | d (x : IV)
def arr (xs : List IV) : List Ar → Option (List IV)
  | [] => some []
  | .a i :: o => (xs[i]?).bind fun x => (arr xs o).map (x :: ·)
  | .d x :: o => (arr xs o).map (x :: ·)
section
variable {xs : List IV} {i : Nat} {x : IV} {o : List Ar}
@[simp] theorem arr_nil : arr xs [] = some [] := rfl
@[simp] theorem arr_a : arr xs (.a i :: o) = (xs[i]?).bind fun x => (arr xs o).map (x :: ·) := rfl
@[simp] theorem arr_d : arr xs (.d x :: o) = (arr xs o).map (x :: ·) := rfl
end
mutual
inductive CE where
  | lit (x : IV)
  | slot (i : Nat) | move (i : Nat)
  | glo (x : String)
  | bin (op : Operator) (a b : CE)
  | neg (a : CE)
  | cmp (op : CmpOp) (a b : CE)
  | chain (op op2 : CmpOp) (a b c : CE)
  | boo (op : BoolOp) (es : List CE)
  | not (a : CE)
  | ife (c a b : CE)
  | tup (es : List CE) | lst (es : List CE)
  | dict0
  | dict1 (k v : CE)
  | sub (a i : CE)
  | slc (a : CE) (lo hi : Option CE)
  | rev (a : CE)
  | call (f : String) (es : List CE)
  | bi (b : BI) (e : CE)
  | bi2 (b : BI) (e e2 : CE)
  | lc (e : CE) (t : Tgt) (it : IT) (ifs : Option CE) (own : List (String × Nat))
  | cell (e : CE)
  | app (o e : CE)
  | pop1 (o i : CE)
  | get2 (o k d : CE)
  | index (o e : CE)
  | attr (e : CE) (f : String)
  | meth (o : CE) (m : String) (es : List CE)
  | mk (keep : Bool) (c : String) (es kes : List CE) (ks : List String) (o : List Ar)
  | callB (f : String) (es kes : List CE) (ks : List String) (o : List Ar)
  | methB (x : CE) (m : String) (es kes : List CE) (ks : List String) (o : List Ar)
  | lsc (e : CE) (t : Tgt) (it : IT) (ifs : Option CE) (own : List (String × Nat))
inductive IT where
  | it (e : CE) | rng1 (e : CE) | rng2 (a b : CE) | enum (e : CE) | zip (a b : CE)
end
inductive LHS where
  | tgt (t : Tgt) | own (i : Nat) | sub (o i : CE) | attr (o : CE) (f : String)
inductive CS where
  | expr (e : CE)
  | ret (e : CE) | ret0
  | asg (l : LHS) (e : CE)
  | par (i j : Nat) (a b : CE)
  | swap (o1 i1 o2 i2 : CE) (a b : CE)
  | ite (c : CE) (a b : List CS)
  | whl (bound : Nat) (c : CE) (body : List CS)
  | for (t : Tgt) (it : IT) (body : List CS)
  | raise (c : String) (es : List CE)
  | brk | cont | pass
  | frz (i : Nat) | never
  | forD (t : Tgt) (i : Nat) (body : List CS)
structure FnDef where
  name : String
  np : Nat
  names : List String
  body : List CS

inductive COut where
  | ok (r : RV) (h : IHeap) | exc (c : String) (fs : List (String × IV)) (h : IHeap) | bad
structure Prog where
  fn : String → Option FnDef
  con : String → Option IV
  mkx : String → List IV → Option (List (String × IV))
  fld : String → String → Bool
  mtd : String → String → Bool
  /-- defs that take just what their calls write; global defs; classes that are made; the other ways to call a def -/
  pln : String → Bool
  top : String → Bool
  mkc : String → Bool
  bnd : String → List (Nat × List String × List Ar)
abbrev Caller := String → List IV → IHeap → COut

/-! ### targets, cells -/
mutual
def bindT : Tgt → IV → IS → Option IS
  | .name i, x, st => if stor x && decide (i < st.r.length) then some { st with r := st.r.set i (.val x) } else none
  | .tup ts, .tup xs, st => bindTs ts xs st
  | .tup _, _, _ => none
def bindTs : List Tgt → List IV → IS → Option IS
  | [], [], st => some st
  | t :: ts, x :: xs, st => (bindT t x st).bind (bindTs ts xs)
  | _, _, _ => none
end
/-- the object that x names gets another content -/
def setC (st : IS) (x : IV) (c : IV) : Option IS := match x with
  | .ref n => (st.h[n]?).join.map fun _ => { st with h := st.h.set n (some c) }
  | .brw i => ((st.r[i]?).bind ownC).map fun _ => { st with r := st.r.set i (.own c) }
  | _ => none
@[simp] theorem setC_ref {st : IS} {n : Nat} {c : IV} : setC st (.ref n) c = (st.h[n]?).join.map fun _ => { st with h := st.h.set n (some c) } := rfl
@[simp] theorem setC_brw {st : IS} {n : Nat} {c : IV} : setC st (.brw n) c = ((st.r[n]?).bind ownC).map fun _ => { st with r := st.r.set n (.own c) } := rfl
/-- x.f = y -/
def setA (st : IS) (x y : IV) (f : String) (ok : String → Bool) : IV → Option IS
  | .obj c fs => if ok c && decide (fs.length < 900) then setC st x (.obj c (putA f y fs)) else none
  | _ => none
def setAS (G : Prog) (st : IS) (x : IV) (f : String) (y : IV) : Option IS := (cont st x).bind (setA st x y f fun c => G.fld c f)
def attrS (G : Prog) (st : IS) (f : String) (x : IV) : Option IV := (cont st x).bind (objF (fun c => G.fld c f) f)
def methS (G : Prog) (st : IS) (m : String) (x : IV) : Option String := (cont st x).bind (clsM (fun c => G.mtd c m) m)
/-- the comprehension's own names are forgotten, and as they stood behind it -/
def wipeI (r : List Slot) : List Nat → List Slot
  | [] => r
  | v :: vs => (wipeI r vs).set v .un
def backI (r0 r : List Slot) : List Nat → List Slot
  | [] => r
  | v :: vs => (backI r0 r vs).set v (r0.getD v .un)
def freeI (r : List Slot) : List Nat → Bool
  | [] => true
  | v :: vs => (match r[v]? with | some (.own _) => false | some _ => true | none => false) && freeI r vs
@[simp] theorem wipeI_nil {r : List Slot} : wipeI r [] = r := rfl
@[simp] theorem wipeI_cons {r : List Slot} {v : Nat} {vs : List Nat} : wipeI r (v :: vs) = (wipeI r vs).set v .un := rfl
@[simp] theorem backI_nil {r0 r : List Slot} : backI r0 r [] = r := rfl
@[simp] theorem backI_cons {r0 r : List Slot} {v : Nat} {vs : List Nat} : backI r0 r (v :: vs) = (backI r0 r vs).set v (r0.getD v .un) := rfl

/-- what a for walks: the items at hand, or an object that is asked anew at each turn -/
inductive Walk where
  | items (xs : List IV)
  | live (x : IV) (n : Nat)
def walkOf (st : IS) (x : IV) : Option Walk := match x with
  | .lst xs => some (.items xs)
  | .tup xs => some (.items xs)
  | .ref n => (seqL st (.ref n)).map fun xs => .live (.ref n) xs.length
  | _ => none
@[simp] theorem walkOf_lst {st : IS} {xs : List IV} : walkOf st (.lst xs) = some (.items xs) := rfl
@[simp] theorem walkOf_tup {st : IS} {xs : List IV} : walkOf st (.tup xs) = some (.items xs) := rfl
@[simp] theorem walkOf_ref {st : IS} {n : Nat} : walkOf st (.ref n) = (seqL st (.ref n)).map fun xs => .live (.ref n) xs.length := rfl

section
variable {α : Type} (f : α → IV → IS → Out α)
def foldW : List IV → α → IS → Out α
  | [], a, st => .ok a st
  | x :: xs, a, st => (f a x st).bind (foldW xs)
/-- k turns are done; fuel more may come -/
def foldLive (src : IV) : Nat → Nat → α → IS → Out α
  | 0, k, a, st => (Out.of st (seqL st src)).bind fun xs _ => if xs.length ≤ k then .ok a st else .bad
  | n + 1, k, a, st => (Out.of st ((seqL st src).bind (·[k]?))).bind fun x st => (f a x st).bind (foldLive src n (k + 1))
def foldWalk : Walk → α → IS → Out α
  | .items xs, a, st => foldW f xs a st
  | .live x n, a, st => foldLive f x n 0 a st
end

def enumI (k : Nat) : List IV → List IV
  | [] => []
  | x :: r => .tup [.int k, x] :: enumI (k + 1) r
def rangeI (lo : Int) : Nat → List IV
  | 0 => []
  | n + 1 => .int lo :: rangeI (lo + 1) n

def vOf (o : Out RV) : Out IV := o.bind fun r st => .ok r.get st
def sOf (o : Out RV) : Out IV := o.bind fun r st => if stor r.get then .ok r.get st else .bad
def tOf (o : Out RV) : Out Bool := o.bind fun r st => Out.of st (truth st r.get)
section
variable {r : RV} {st : IS} {c : String} {fs : List (String × IV)}
@[simp] theorem vOf_ok : vOf (.ok r st) = .ok r.get st := rfl
@[simp] theorem vOf_exc : vOf (.exc c fs st) = .exc c fs st := rfl
@[simp] theorem vOf_bad : vOf .bad = .bad := rfl
@[simp] theorem sOf_ok : sOf (.ok r st) = if stor r.get then .ok r.get st else .bad := by rfl
@[simp] theorem sOf_exc : sOf (.exc c fs st) = .exc c fs st := rfl
@[simp] theorem sOf_bad : sOf .bad = .bad := rfl
@[simp] theorem tOf_ok : tOf (.ok r st) = Out.of st (truth st r.get) := rfl
@[simp] theorem tOf_exc : tOf (.exc c fs st) = .exc c fs st := rfl
@[simp] theorem tOf_bad : tOf .bad = .bad := rfl
end
def stops : BoolOp → Bool
  | .And => false
  | .Or => true
@[simp] theorem stops_and : stops .And = false := rfl
@[simp] theorem stops_or : stops .Or = true := rfl
def slotE (i : Nat) : Slot → Option RV
  | .val x => some (.v x)
  | .own _ => some (.v (.brw i))
  | .un => none
@[simp] theorem slotE_val {i : Nat} {x : IV} : slotE i (.val x) = some (.v x) := rfl
@[simp] theorem slotE_own {i : Nat} {x : IV} : slotE i (.own x) = some (.v (.brw i)) := rfl
@[simp] theorem slotE_un {i : Nat} : slotE i .un = none := rfl
def asFr : RV → Option IV
  | .fr c => some c
  | .v _ => none
@[simp] theorem asFr_fr {c : IV} : asFr (.fr c) = some c := rfl
@[simp] theorem asFr_v {c : IV} : asFr (.v c) = none := rfl
def appS (st : IS) (x y : IV) : Option IS := (seqL st x).bind fun xs => if small xs.length then setC st x (.lst (xs ++ [y])) else none
def popS (st : IS) (x k : IV) : Option (IV × IS) := (seqL st x).bind fun xs => if small xs.length then (asI k).bind fun k => (L2.ixN xs.length k).bind fun j => (xs[j]?).bind fun y => (setC st x (.lst (xs.eraseIdx j))).map fun st => (y, st) else none
def asDK : IV → Option (List (Key × IV))
  | .dK kvs => some kvs
  | _ => none
@[simp] theorem asDK_dK {kvs : List (Key × IV)} : asDK (.dK kvs) = some kvs := rfl
def get2S (st : IS) (x k d : IV) : Option RV := ((cont st x).bind asDK).bind fun kvs => (asK k).map fun k => .v ((hasK k kvs).getD d)
def indexS (st : IS) (x y : IV) : Option RV := (seqL st x).bind fun xs => (toDrs st xs).bind fun ds => (toD st y).bind fun d => if dOk (.list ds) && dOk d then (ds.findIdx? fun e => PyData.eqv e d).map fun (j : Nat) => RV.v (.int (j : Int)) else none

section
variable (G : Prog) (call : Caller)
def callO (st : IS) : COut → Out RV
  | .ok r h => .ok r { st with h := h }
  | .exc c fs h => .exc c fs { st with h := h }
  | .bad => .bad
@[simp] theorem callO_ok {st : IS} {r : RV} {h : IHeap} : callO st (.ok r h) = .ok r { st with h := h } := rfl
@[simp] theorem callO_exc {st : IS} {c : String} {fs : List (String × IV)} {h : IHeap} : callO st (.exc c fs h) = .exc c fs { st with h := h } := rfl
@[simp] theorem callO_bad {st : IS} : callO st .bad = .bad := rfl
/-- behind __init__: the instance is kept in its cell, or taken out of it -/
def madeO (keep : Bool) (n : Nat) (st : IS) : Option IV → Out RV
  | some x => if keep = true then .ok (.v (.ref n)) st else .ok (.fr x) { st with h := st.h.set n none }
  | none => .bad
def mkO (keep : Bool) (st : IS) : COut → Out RV
  | .ok (.v .non) h => madeO keep st.h.length { st with h := h } (h[st.h.length]?).join
  | .exc c fs h => .exc c fs { st with h := h }
  | _ => .bad
@[simp] theorem madeO_none {k : Bool} {n : Nat} {st : IS} : madeO k n st none = .bad := rfl
@[simp] theorem madeO_keep {n : Nat} {st : IS} {x : IV} : madeO true n st (some x) = .ok (.v (.ref n)) st := rfl
@[simp] theorem madeO_take {n : Nat} {st : IS} {x : IV} : madeO false n st (some x) = .ok (.fr x) { st with h := st.h.set n none } := rfl
@[simp] theorem mkO_ok {k : Bool} {st : IS} {h : IHeap} : mkO k st (.ok (.v .non) h) = madeO k st.h.length { st with h := h } (h[st.h.length]?).join := rfl
@[simp] theorem mkO_exc {k : Bool} {st : IS} {c : String} {fs : List (String × IV)} {h : IHeap} : mkO k st (.exc c fs h) = .exc c fs { st with h := h } := rfl
@[simp] theorem mkO_bad {k : Bool} {st : IS} : mkO k st .bad = .bad := rfl
/-- one turn of a set comprehension of ints -/
def scTurn (t : Tgt) (fc : IS → Out Bool) (fe : IS → Out RV) (vs : List Nat) (acc : List Int) (x : IV) (st : IS) : Out (List Int) :=
  (Out.of st (bindT t x { st with r := wipeI st.r vs })).bind fun s2 _ => (fc s2).noX.bind fun c s3 => if c = true then (sOf (fe s3)).noX.bind fun y s4 => match y with
    | .int i => if acc.length < 4000 then .ok (i :: acc) { s4 with r := wipeI s4.r vs } else .bad
    | _ => .bad
  else .ok acc { s3 with r := wipeI s3.r vs }
/-- a turn of a comprehension: the target, the test, the item -/
def lcTurn (t : Tgt) (c : IS → Out Bool) (e : IS → Out RV) (vs : List Nat) (acc : List IV) (x : IV) (s1 : IS) : Out (List IV) :=
  (Out.of s1 (bindT t x { s1 with r := wipeI s1.r vs })).bind fun s2 _ => (c s2).noX.bind fun c s3 =>
    if c = true then (sOf (e s3)).noX.bind fun y s4 => if small acc.length then .ok (acc ++ [y]) { s4 with r := wipeI s4.r vs } else .bad
    else .ok acc { s3 with r := wipeI s3.r vs }
mutual
def evF : CE → IS → Out RV
  | .lit x, st => .ok (.v x) st
  | .slot i, st => Out.of st ((st.r[i]?).bind (slotE i))
  | .move i, st => (Out.of st ((st.r[i]?).bind ownC)).bind fun c st => .ok (.fr c) { st with r := st.r.set i .un }
  | .glo x, st => Out.of st ((G.con x).map .v)
  | .bin op a b, st => (vOf (evF a st)).bind fun x st => (vOf (evF b st)).bind fun y st => Out.of st (binS st op x y)
  | .neg a, st => (vOf (evF a st)).bind fun x st => Out.of st ((asI x).map fun i => .v (.int (-i)))
  | .cmp op a b, st => (vOf (evF a st)).bind fun x st => (vOf (evF b st)).bind fun y st => Out.of st ((cmpS st op x y).map fun c => .v (.bl c))
  | .chain op op2 a b c, st => (vOf (evF a st)).bind fun x st => (vOf (evF b st)).bind fun y st => (Out.of st (cmpS st op x y)).bind fun t st =>
      if t = true then (vOf (evF c st)).bind fun z st => Out.of st ((cmpS st op2 y z).map fun c => .v (.bl c)) else .ok (.v (.bl false)) st
  | .boo op es, st => evB op es st
  | .not a, st => (tOf (evF a st)).bind fun c st => .ok (.v (.bl (!c))) st
  | .ife c a b, st => (tOf (evF c st)).bind fun c st => if c = true then (vOf (evF a st)).bind fun y st => .ok (.v y) st else (vOf (evF b st)).bind fun y st => .ok (.v y) st
  | .tup es, st => (evs es st).bind fun xs st => if small xs.length then .ok (.v (.tup xs)) st else .bad
  | .lst es, st => (evs es st).bind fun xs st => if small xs.length then .ok (.fr (.lst xs)) st else .bad
  | .dict0, st => .ok (.fr (.dK [])) st
  | .dict1 a b, st => (sOf (evF a st)).noX.bind fun k st => (Out.of st (asK k)).bind fun k st => (sOf (evF b st)).noX.bind fun y st => .ok (.fr (.dK [(k, y)])) st
  | .sub a i, st => (vOf (evF a st)).bind fun x st => (vOf (evF i st)).bind fun k st => Out.of st ((subS st x k).map .v)
  | .slc a lo hi, st => (vOf (evF a st)).bind fun x st => (evO lo st).bind fun l st => (evO hi st).bind fun u st => Out.of st (slcS st x l u)
  | .rev a, st => (vOf (evF a st)).bind fun x st => Out.of st ((seqL st x).map fun xs => .fr (.lst xs.reverse))
  | .call f es, st => (evs es st).bind fun xs st => callO st (call f xs st.h)
  | .bi b e, st => (vOf (evF e st)).bind fun x st => Out.of st (bi1 st b x)
  | .bi2 b e e2, st => (vOf (evF e st)).bind fun x st => (vOf (evF e2 st)).bind fun y st => Out.of st (Ip.bi2 st b x y)
  | .lc e t it ifs own, st => (evW it st).bind fun w st => if freeI st.r (own.map (·.2)) then
      (foldWalk (lcTurn t (evTo ifs) (evF e) (own.map (·.2))) w [] st).bind fun acc s6 =>
      .ok (.fr (.lst acc)) { s6 with r := backI st.r s6.r (own.map (·.2)) } else .bad
  | .cell e, st => (evF e st).bind fun r st => (Out.of st (asFr r)).bind fun c st => .ok (.v (.ref st.h.length)) { st with h := st.h ++ [some c] }
  | .app o e, st => (vOf (evF o st)).bind fun x st => (Out.of st (seqL st x)).bind fun _ st => (sOf (evF e st)).bind fun y st => (Out.of st (appS st x y)).bind fun st _ => .ok (.v .non) st
  | .pop1 o i, st => (vOf (evF o st)).bind fun x st => (Out.of st (seqL st x)).bind fun _ st => (vOf (evF i st)).bind fun k st => (Out.of st (popS st x k)).bind fun p _ => .ok (.v p.1) p.2
  | .get2 o k d, st => (vOf (evF o st)).bind fun x st => (Out.of st ((cont st x).bind asDK)).bind fun _ st => (vOf (evF k st)).bind fun k st => (sOf (evF d st)).bind fun d st => Out.of st (get2S st x k d)
  | .index o e, st => (vOf (evF o st)).bind fun x st => (Out.of st (seqL st x)).bind fun _ st => (vOf (evF e st)).bind fun y st => Out.of st (indexS st x y)
  | .attr e f, st => (vOf (evF e st)).bind fun x st => Out.of st ((attrS G st f x).map .v)
  | .meth o m es, st => (sOf (evF o st)).bind fun x st => (Out.of st (methS G st m x)).bind fun f st => (evs es st).bind fun xs st => callO st (call f (x :: xs) st.h)
  | .mk keep c es kes _ o, st => (evs es st).bind fun xs st => (evs kes st).bind fun zs st => (Out.of st (arr (.ref st.h.length :: (xs ++ zs)) o)).bind fun ys st => mkO keep st (call (c ++ ".__init__") ys (st.h ++ [some (.obj c [])]))
  | .callB f es kes _ o, st => (evs es st).bind fun xs st => (evs kes st).bind fun zs st => (Out.of st (arr (xs ++ zs) o)).bind fun ys st => callO st (call f ys st.h)
  | .methB x m es kes _ o, st => (sOf (evF x st)).bind fun x st => (Out.of st (methS G st m x)).bind fun f st => (evs es st).bind fun xs st => (evs kes st).bind fun zs st => (Out.of st (arr (x :: (xs ++ zs)) o)).bind fun ys st => callO st (call f ys st.h)
  | .lsc e t it ifs own, st => (evW it st).bind fun w st => if freeI st.r (own.map (·.2)) then
      (foldWalk (scTurn t (evTo ifs) (evF e) (own.map (·.2))) w [] st).bind fun acc s6 =>
      .ok (.v (.int (firsts acc).length)) { s6 with r := backI st.r s6.r (own.map (·.2)) } else .bad
def evB (op : BoolOp) : List CE → IS → Out RV
  | [], _ => .bad
  | [e], st => evF e st
  | e :: e2 :: es, st => (vOf (evF e st)).bind fun x st => (Out.of st (truth st x)).bind fun t st =>
      if t = stops op then .ok (.v x) st else (vOf (evB op (e2 :: es) st)).bind fun y st => .ok (.v y) st
def evTo : Option CE → IS → Out Bool
  | none, st => .ok true st
  | some e, st => tOf (evF e st)
def evO : Option CE → IS → Out (Option Int)
  | none, st => .ok none st
  | some e, st => (vOf (evF e st)).bind fun x st => Out.of st ((asI x).map some)
def evs : List CE → IS → Out (List IV)
  | [], st => .ok [] st
  | e :: es, st => (sOf (evF e st)).bind fun x st => (evs es st).bind fun xs st => .ok (x :: xs) st
def evW : IT → IS → Out Walk
  | .it e, st => (vOf (evF e st)).bind fun x st => Out.of st (walkOf st x)
  | .rng1 e, st => (vOf (evF e st)).bind fun x st => Out.of st ((asI x).bind fun n => if i62 n then some (.items (rangeI 0 n.toNat)) else none)
  | .rng2 a b, st => (vOf (evF a st)).bind fun x st => (vOf (evF b st)).bind fun y st => Out.of st ((asI x).bind fun l => (asI y).bind fun n => if i62 n && i62 l then some (.items (rangeI l (n - l).toNat)) else none)
  | .enum e, st => (vOf (evF e st)).bind fun x st => Out.of st ((asL x).map fun xs => .items (enumI 0 xs))
  | .zip a b, st => (vOf (evF a st)).bind fun x st => (vOf (evF b st)).bind fun y st => Out.of st ((asL x).bind fun xs => (asL y).map fun ys => .items (zipI xs ys))
end
end

/-! ### statements -/
inductive SOut where
  | next (s : IS) | brk (s : IS) | cont (s : IS) | ret (r : RV) (s : IS) | exc (c : String) (fs : List (String × IV)) (s : IS) | bad
def Out.toS {α : Type} (o : Out α) (k : α → IS → SOut) : SOut := match o with
  | .ok a s => k a s
  | .exc c fs s => .exc c fs s
  | .bad => .bad
def SOut.then (o : SOut) (k : IS → SOut) : SOut := match o with
  | .next s => k s
  | o => o
/-- behind a turn -/
def SOut.turn (o : SOut) (k : IS → SOut) : SOut := match o with
  | .next s => k s
  | .cont s => k s
  | .brk s => .next s
  | o => o
section
variable {α : Type} {a : α} {s : IS} {c : String} {fs : List (String × IV)} {k : α → IS → SOut} {k1 : IS → SOut} {r : RV}
@[simp] theorem Out.toS_ok : (Out.ok a s).toS k = k a s := rfl
@[simp] theorem Out.toS_exc : (Out.exc c fs s : Out α).toS k = .exc c fs s := rfl
@[simp] theorem Out.toS_bad : (Out.bad : Out α).toS k = .bad := rfl
@[simp] theorem SOut.then_next : (SOut.next s).then k1 = k1 s := rfl
@[simp] theorem SOut.then_brk : (SOut.brk s).then k1 = .brk s := rfl
@[simp] theorem SOut.then_cont : (SOut.cont s).then k1 = .cont s := rfl
@[simp] theorem SOut.then_ret : (SOut.ret r s).then k1 = .ret r s := rfl
@[simp] theorem SOut.then_exc : (SOut.exc c fs s).then k1 = .exc c fs s := rfl
@[simp] theorem SOut.then_bad : (SOut.bad).then k1 = .bad := rfl
@[simp] theorem SOut.turn_next : (SOut.next s).turn k1 = k1 s := rfl
@[simp] theorem SOut.turn_cont : (SOut.cont s).turn k1 = k1 s := rfl
@[simp] theorem SOut.turn_brk : (SOut.brk s).turn k1 = .next s := rfl
@[simp] theorem SOut.turn_ret : (SOut.ret r s).turn k1 = .ret r s := rfl
@[simp] theorem SOut.turn_exc : (SOut.exc c fs s).turn k1 = .exc c fs s := rfl
@[simp] theorem SOut.turn_bad : (SOut.bad).turn k1 = .bad := rfl
end
section
variable (f : IV → IS → SOut)
def forItems : List IV → IS → SOut
  | [], st => .next st
  | x :: xs, st => (f x st).turn (forItems xs)
def forLive (src : IV) : Nat → Nat → IS → SOut
  | 0, k, st => (Out.of st (seqL st src)).toS fun xs _ => if xs.length ≤ k then .next st else .bad
  | n + 1, k, st => (Out.of st ((seqL st src).bind (·[k]?))).toS fun x st => (f x st).turn (forLive src n (k + 1))
def forWalk : Walk → IS → SOut
  | .items xs, st => forItems f xs st
  | .live x n, st => forLive f x n 0 st
end
def whlL (c : IS → Out Bool) (b : IS → SOut) : Nat → IS → SOut
  | 0, _ => .bad
  | n + 1, st => (c st).toS fun t st => if t = true then (b st).turn (whlL c b n) else .next st
/-- o[i] = y -/
def setB (st : IS) (o i y : IV) : IV → Option IS
  | .lst xs => (asI i).bind fun k => (L2.ixN xs.length k).bind fun j => setC st o (.lst (xs.set j y))
  | .dK kvs => (asK i).bind fun k => if small kvs.length then setC st o (.dK (putK k y kvs)) else none
  | _ => none
@[simp] theorem setB_lst {st : IS} {o i y : IV} {xs : List IV} : setB st o i y (.lst xs) = (asI i).bind fun k => (L2.ixN xs.length k).bind fun j => setC st o (.lst (xs.set j y)) := rfl
@[simp] theorem setB_dK {st : IS} {o i y : IV} {kvs : List (Key × IV)} : setB st o i y (.dK kvs) = (asK i).bind fun k => if small kvs.length then setC st o (.dK (putK k y kvs)) else none := by rfl
def setS (st : IS) (o i y : IV) : Option IS := (cont st o).bind (setB st o i y)
def optS : Option IS → SOut
  | some st => .next st
  | none => .bad
@[simp] theorem optS_some {st : IS} : optS (some st) = .next st := rfl
@[simp] theorem optS_none : optS none = .bad := rfl
def keyI : Key → IV
  | .inl i => .int i
  | .inr x => .str x
def keysOf : Slot → Option (List IV)
  | .val (.dK kvs) => some (kvs.map fun kv => keyI kv.1)
  | _ => none
@[simp] theorem keysOf_dK {kvs : List (Key × IV)} : keysOf (.val (.dK kvs)) = some (kvs.map fun kv => keyI kv.1) := rfl
/-- a turn of a for -/
def forTurn (t : Tgt) (b : IS → SOut) (x : IV) (st : IS) : SOut := (optS (bindT t x st)).then b
section
variable (G : Prog) (call : Caller)
mutual
def ex : CS → IS → SOut
  | .expr e, st => (evF G call e st).toS fun _ st => .next st
  | .ret e, st => (evF G call e st).toS fun r st => if stor r.get then .ret r st else .bad
  | .ret0, st => .ret (.v .non) st
  | .asg (.tgt t) e, st => (sOf (evF G call e st)).toS fun x st => optS (bindT t x st)
  | .asg (.own i) e, st => (evF G call e st).toS fun r st => (Out.of st (asFr r)).toS fun c st => if i < st.r.length then .next { st with r := st.r.set i (.own c) } else .bad
  | .asg (.sub o i) e, st => (sOf (evF G call e st)).toS fun y st => (vOf (evF G call o st)).toS fun o st => (vOf (evF G call i st)).toS fun i st => optS (setS st o i y)
  | .asg (.attr o f) e, st => (sOf (evF G call e st)).toS fun y st => (vOf (evF G call o st)).toS fun o st => optS (setAS G st o f y)
  | .par i j a b, st => (sOf (evF G call a st)).toS fun x st => (sOf (evF G call b st)).toS fun y st => if i < st.r.length ∧ j < st.r.length then .next { st with r := (st.r.set i (.val x)).set j (.val y) } else .bad
  | .swap o1 i1 o2 i2 a b, st => (sOf (evF G call a st)).toS fun x st => (sOf (evF G call b st)).toS fun y st =>
      (vOf (evF G call o1 st)).toS fun o st => (vOf (evF G call i1 st)).toS fun i st => (optS (setS st o i x)).then fun st =>
      (vOf (evF G call o2 st)).toS fun o st => (vOf (evF G call i2 st)).toS fun i st => optS (setS st o i y)
  | .ite c a b, st => (tOf (evF G call c st)).toS fun t st => if t = true then exs a st else exs b st
  | .whl n c b, st => whlL (fun st => tOf (evF G call c st)) (exs b) n st
  | .for t it b, st => (evW G call it st).toS fun w st => forWalk (forTurn t (exs b)) w st
  | .raise c es, st => (evs G call es st).toS fun xs st => (Out.of st (G.mkx c xs)).toS fun fs st => .exc c fs st
  | .brk, st => .brk st
  | .cont, st => .cont st
  | .pass, st => .next st
  | .never, _ => .bad
  | .frz i, st => (Out.of st ((st.r[i]?).bind ownC)).toS fun c st => .next { st with r := st.r.set i (.val c) }
  | .forD t i b, st => (Out.of st ((st.r[i]?).bind keysOf)).toS fun xs st => forItems (forTurn t (exs b)) xs st
def exs : List CS → IS → SOut
  | [], st => .next st
  | c :: cs, st => (ex c st).then (exs cs)
end
end
def endF : SOut → COut
  | .ret r st => .ok r st.h
  | .next st => .ok (.v .non) st.h
  | .exc c fs st => .exc c fs st.h
  | _ => .bad
@[simp] theorem endF_ret {r : RV} {st : IS} : endF (.ret r st) = .ok r st.h := rfl
@[simp] theorem endF_next {st : IS} : endF (.next st) = .ok (.v .non) st.h := rfl
@[simp] theorem endF_exc {c : String} {fs : List (String × IV)} {st : IS} : endF (.exc c fs st) = .exc c fs st.h := rfl
def startI (d : FnDef) (xs : List IV) (h : IHeap) : IS := ⟨xs.map .val ++ List.replicate (d.names.length - d.np) .un, h⟩
/-- a call, at most n deep -/
def callF (G : Prog) : Nat → Caller
  | 0, _, _, _ => .bad
  | n + 1, f, xs, h => match G.fn f with
    | some d => if xs.length = d.np then endF (exs G (callF G n) d.body (startI d xs h)) else .bad
    | none => .bad
theorem callF_of {G : Prog} {n : Nat} {f : String} {d : FnDef} {xs : List IV} {h : IHeap} (e : G.fn f = some d) (l : xs.length = d.np) :
    callF G (n + 1) f xs h = endF (exs G (callF G n) d.body (startI d xs h)) := by
  unfold callF
  rw [e]
  exact if_pos l
end Ip

/-! Ip2: how the interpreter's values and states lie in the abstract heap. -/
namespace Ip
open PySem PySem.Spec PyProof.Rows L2

def sO (x : String) : PySem.Str := PySem.Str.ofString x
def gaS (K : PySem.W.Frag) (x : String) : Addr := He.ga K (sO x)

mutual
inductive RepV (K : PySem.W.Frag) (S : Hp) (phi : List Addr) : V → IV → Prop
  | non : RepV K S phi .non .non
  | bl (b : Bool) : RepV K S phi (.bl b) (.bl b)
  | int (i : Int) : RepV K S phi (.int i) (.int i)
  | str (x : PySem.Str) : RepV K S phi (.str x) (.str x)
  | ty (n : String) : RepV K S phi (.ty n) (.ty n)
  | glob (x : String) : RepV K S phi (.ref (gaS K x)) (.glob x)
  | ref {a : Addr} {n : Nat} : phi[n]? = some a → RepV K S phi (.ref a) (.ref n)
  | tup {a : Addr} {vs : List V} {xs : List IV} : SqT K S a vs → RepVs K S phi vs xs → RepV K S phi (.ref a) (.tup xs)
  | lst {a : Addr} {vs : List V} {xs : List IV} : SqL K S a vs → RepVs K S phi vs xs → RepV K S phi (.ref a) (.lst xs)
  | dK {a : Addr} {vs : List (L2.Key × V)} {xs : List (L2.Key × IV)} : Rd S a (.dK vs) → RepKs K S phi vs xs → RepV K S phi (.ref a) (.dK xs)
  | dT {a : Addr} {vs : List (List L2.Key × V)} {xs : List (List L2.Key × IV)} : Rd S a (.dT vs) → RepTs K S phi vs xs → RepV K S phi (.ref a) (.dT xs)
  | obj {a dx : Addr} {c : String} {vs : List (PySem.Str × V)} {xs : List (String × IV)} : S a = some (.ins (gaS K c) dx vs) → RepFs K S phi vs xs → RepV K S phi (.ref a) (.obj c xs)
inductive RepVs (K : PySem.W.Frag) (S : Hp) (phi : List Addr) : List V → List IV → Prop
  | nil : RepVs K S phi [] []
  | cons {v : V} {x : IV} {vs : List V} {xs : List IV} : RepV K S phi v x → RepVs K S phi vs xs → RepVs K S phi (v :: vs) (x :: xs)
inductive RepKs (K : PySem.W.Frag) (S : Hp) (phi : List Addr) : List (L2.Key × V) → List (L2.Key × IV) → Prop
  | nil : RepKs K S phi [] []
  | cons {k : L2.Key} {v : V} {x : IV} {vs : List (L2.Key × V)} {xs : List (L2.Key × IV)} : RepV K S phi v x → RepKs K S phi vs xs → RepKs K S phi ((k, v) :: vs) ((k, x) :: xs)
inductive RepTs (K : PySem.W.Frag) (S : Hp) (phi : List Addr) : List (List L2.Key × V) → List (List L2.Key × IV) → Prop
  | nil : RepTs K S phi [] []
  | cons {k : List L2.Key} {v : V} {x : IV} {vs : List (List L2.Key × V)} {xs : List (List L2.Key × IV)} : RepV K S phi v x → RepTs K S phi vs xs → RepTs K S phi ((k, v) :: vs) ((k, x) :: xs)
inductive RepFs (K : PySem.W.Frag) (S : Hp) (phi : List Addr) : List (PySem.Str × V) → List (String × IV) → Prop
  | nil : RepFs K S phi [] []
  | cons {k : String} {v : V} {x : IV} {vs : List (PySem.Str × V)} {xs : List (String × IV)} : RepV K S phi v x → RepFs K S phi vs xs → RepFs K S phi ((sO k, v) :: vs) ((k, x) :: xs)
end

def Nf (u : HO) : Prop := ∀ o v, u ≠ .frz o v
theorem nf_lst {xs : List V} : Nf (.lst xs) := fun _ _ z => by cases z
theorem nf_tup {xs : List V} : Nf (.tup xs) := fun _ _ z => by cases z
theorem nf_dK {xs : List (L2.Key × V)} : Nf (.dK xs) := fun _ _ z => by cases z
theorem nf_dT {xs : List (List L2.Key × V)} : Nf (.dT xs) := fun _ _ z => by cases z
theorem nf_ins {c d : Addr} {xs : List (PySem.Str × V)} : Nf (.ins c d xs) := fun _ _ z => by cases z
/-- what may be locked -/
def Lk (u : HO) : Prop := Nf u ∧ ∀ c d fs, u ≠ .ins c d fs
theorem lk_dK {xs : List (L2.Key × V)} : Lk (.dK xs) := ⟨nf_dK, fun _ _ _ z => by cases z⟩
/-- what is read stays read -/
structure HLs (S S' : Hp) (phi phi' : List Addr) : Prop where
  s : ∀ a u, Nf u → Rd S a u → Rd S' a u
  p : ∀ (n : Nat) (a : Addr), phi[n]? = some a → phi'[n]? = some a
  i : ∀ a c d fs, S a = some (.ins c d fs) → S' a = some (.ins c d fs)
/-- more is known -/
structure HLe (S S' : Hp) (phi phi' : List Addr) : Prop extends HLs S S' phi phi' where
  k : ∀ a o u, S a = some (.frz o u) → S' a = some (.frz o u)
theorem HLe.refl {S : Hp} {phi : List Addr} : HLe S S phi phi := ⟨⟨fun _ _ _ h => h, fun _ _ h => h, fun _ _ _ _ h => h⟩, fun _ _ _ h => h⟩
theorem rd_mono {S S' : Hp} {a : Addr} {u : HO} (e : ∀ a o, S a = some o → S' a = some o) (h : Rd S a u) : Rd S' a u := by
  rcases h with h | ⟨o, h⟩
  · exact .inl (e a _ h)
  · exact .inr ⟨o, e a _ h⟩
theorem HLe.of {S S' : Hp} {phi phi' : List Addr} (e : ∀ a o, S a = some o → S' a = some o) (p : ∀ (n : Nat) (a : Addr), phi[n]? = some a → phi'[n]? = some a) : HLe S S' phi phi' :=
  ⟨⟨fun _ _ _ => rd_mono e, p, fun _ _ _ _ h => e _ _ h⟩, fun _ _ _ h => e _ _ h⟩
theorem HLe.trans {S S' S'' : Hp} {p p' p'' : List Addr} (a : HLe S S' p p') (b : HLe S' S'' p' p'') : HLe S S'' p p'' :=
  ⟨⟨fun x o n h => b.s x o n (a.s x o n h), fun n x h => b.p n x (a.p n x h), fun x c d fs h => b.i x c d fs (a.i x c d fs h)⟩, fun x o u h => b.k x o u (a.k x o u h)⟩
section
variable {K : PySem.W.Frag} {S S' : Hp} {phi phi' : List Addr}
theorem sqL_le {a : Addr} {xs : List V} (e : ∀ a u, Nf u → Rd S a u → Rd S' a u) (h : SqL K S a xs) : SqL K S' a xs := by
  rcases h with h | h
  · exact .inl (e _ _ nf_lst h)
  · exact .inr h
theorem sqT_le {a : Addr} {xs : List V} (e : ∀ a u, Nf u → Rd S a u → Rd S' a u) (h : SqT K S a xs) : SqT K S' a xs := by
  rcases h with h | h
  · exact .inl (e _ _ nf_tup h)
  · exact .inr h
theorem sqL_mono {a : Addr} {xs : List V} (e : ∀ a o, S a = some o → S' a = some o) (h : SqL K S a xs) : SqL K S' a xs := sqL_le (fun _ _ _ => rd_mono e) h
theorem sqT_mono {a : Addr} {xs : List V} (e : ∀ a o, S a = some o → S' a = some o) (h : SqT K S a xs) : SqT K S' a xs := sqT_le (fun _ _ _ => rd_mono e) h
mutual
theorem RepV.monoS (e : HLs S S' phi phi') : ∀ {v : V} {x : IV}, RepV K S phi v x → RepV K S' phi' v x
  | _, _, .non => .non
  | _, _, .bl b => .bl b
  | _, _, .int i => .int i
  | _, _, .str x => .str x
  | _, _, .ty n => .ty n
  | _, _, .glob x => .glob x
  | _, _, .ref h => .ref (e.p _ _ h)
  | _, _, .tup h r => .tup (sqT_le e.s h) (RepVs.monoS e r)
  | _, _, .lst h r => .lst (sqL_le e.s h) (RepVs.monoS e r)
  | _, _, .dK h r => .dK (e.s _ _ nf_dK h) (RepKs.monoS e r)
  | _, _, .dT h r => .dT (e.s _ _ nf_dT h) (RepTs.monoS e r)
  | _, _, .obj h r => .obj (e.i _ _ _ _ h) (RepFs.monoS e r)
theorem RepVs.monoS (e : HLs S S' phi phi') : ∀ {v : List V} {x : List IV}, RepVs K S phi v x → RepVs K S' phi' v x
  | _, _, .nil => .nil
  | _, _, .cons h r => .cons (RepV.monoS e h) (RepVs.monoS e r)
theorem RepKs.monoS (e : HLs S S' phi phi') : ∀ {v : List (L2.Key × V)} {x : List (L2.Key × IV)}, RepKs K S phi v x → RepKs K S' phi' v x
  | _, _, .nil => .nil
  | _, _, .cons h r => .cons (RepV.monoS e h) (RepKs.monoS e r)
theorem RepTs.monoS (e : HLs S S' phi phi') : ∀ {v : List (List L2.Key × V)} {x : List (List L2.Key × IV)}, RepTs K S phi v x → RepTs K S' phi' v x
  | _, _, .nil => .nil
  | _, _, .cons h r => .cons (RepV.monoS e h) (RepTs.monoS e r)
theorem RepFs.monoS (e : HLs S S' phi phi') : ∀ {v : List (PySem.Str × V)} {x : List (String × IV)}, RepFs K S phi v x → RepFs K S' phi' v x
  | _, _, .nil => .nil
  | _, _, .cons h r => .cons (RepV.monoS e h) (RepFs.monoS e r)
end
theorem RepV.mono (e : HLe S S' phi phi') {v : V} {x : IV} (h : RepV K S phi v x) : RepV K S' phi' v x := h.monoS e.toHLs
theorem RepVs.mono (e : HLe S S' phi phi') {v : List V} {x : List IV} (h : RepVs K S phi v x) : RepVs K S' phi' v x := h.monoS e.toHLs
theorem RepKs.mono (e : HLe S S' phi phi') {v : List (L2.Key × V)} {x : List (L2.Key × IV)} (h : RepKs K S phi v x) : RepKs K S' phi' v x := h.monoS e.toHLs
theorem RepTs.mono (e : HLe S S' phi phi') {v : List (List L2.Key × V)} {x : List (List L2.Key × IV)} (h : RepTs K S phi v x) : RepTs K S' phi' v x := h.monoS e.toHLs
theorem RepFs.mono (e : HLe S S' phi phi') {v : List (PySem.Str × V)} {x : List (String × IV)} (h : RepFs K S phi v x) : RepFs K S' phi' v x := h.monoS e.toHLs
theorem RepVs.length : ∀ {vs : List V} {xs : List IV}, RepVs K S phi vs xs → vs.length = xs.length
  | _, _, .nil => rfl
  | _, _, .cons _ r => by rw [List.length_cons, List.length_cons, RepVs.length r]
theorem RepKs.length : ∀ {vs : List (L2.Key × V)} {xs : List (L2.Key × IV)}, RepKs K S phi vs xs → vs.length = xs.length
  | _, _, .nil => rfl
  | _, _, .cons _ r => by rw [List.length_cons, List.length_cons, RepKs.length r]
theorem RepVs.get : ∀ {vs : List V} {xs : List IV} {i : Nat} {x : IV}, RepVs K S phi vs xs → xs[i]? = some x → ∃ v, vs[i]? = some v ∧ RepV K S phi v x
  | _, _, _, _, .nil, e => by simp at e
  | _, _, 0, _, .cons r _, e => by simp at e; subst e; exact ⟨_, rfl, r⟩
  | _, _, i + 1, x, .cons _ t, e => by
    obtain ⟨u, h1, h2⟩ := RepVs.get (i := i) (x := x) t (by simpa using e)
    exact ⟨u, by simpa using h1, h2⟩
theorem RepVs.append : ∀ {vs ws : List V} {xs ys : List IV}, RepVs K S phi vs xs → RepVs K S phi ws ys → RepVs K S phi (vs ++ ws) (xs ++ ys)
  | _, _, _, _, .nil, s => s
  | _, _, _, _, .cons r t, s => .cons r (RepVs.append t s)
theorem RepVs.take : ∀ {vs : List V} {xs : List IV} (n : Nat), RepVs K S phi vs xs → RepVs K S phi (vs.take n) (xs.take n)
  | _, _, 0, _ => .nil
  | _, _, _ + 1, .nil => .nil
  | _, _, n + 1, .cons r t => .cons r (RepVs.take n t)
theorem RepVs.drop : ∀ {vs : List V} {xs : List IV} (n : Nat), RepVs K S phi vs xs → RepVs K S phi (vs.drop n) (xs.drop n)
  | _, _, 0, r => r
  | _, _, _ + 1, .nil => .nil
  | _, _, n + 1, .cons _ t => RepVs.drop n t
theorem RepVs.set {v : V} {x : IV} (r : RepV K S phi v x) : ∀ {vs : List V} {xs : List IV} (i : Nat), RepVs K S phi vs xs → RepVs K S phi (vs.set i v) (xs.set i x)
  | _, _, _, .nil => .nil
  | _, _, 0, .cons _ t => .cons r t
  | _, _, i + 1, .cons q t => .cons q (RepVs.set r i t)
theorem RepVs.erase : ∀ {vs : List V} {xs : List IV} (i : Nat), RepVs K S phi vs xs → RepVs K S phi (vs.eraseIdx i) (xs.eraseIdx i)
  | _, _, _, .nil => .nil
  | _, _, 0, .cons _ t => t
  | _, _, i + 1, .cons q t => .cons q (RepVs.erase i t)
theorem RepVs.snoc {vs : List V} {xs : List IV} {v : V} {x : IV} (r : RepVs K S phi vs xs) (h : RepV K S phi v x) : RepVs K S phi (vs ++ [v]) (xs ++ [x]) := r.append (.cons h .nil)
theorem RepVs.reverse : ∀ {vs : List V} {xs : List IV}, RepVs K S phi vs xs → RepVs K S phi vs.reverse xs.reverse
  | _, _, .nil => .nil
  | _, _, .cons h r => by
    rw [List.reverse_cons, List.reverse_cons]
    exact (RepVs.reverse r).snoc h
theorem RepVs.ints : ∀ {vs : List V} {ns : List Int}, RepVs K S phi vs (ns.map .int) → vs = ns.map V.int
  | _, [], .nil => rfl
  | _, _ :: _, .cons (.int i) r => by rw [RepVs.ints r]; rfl
theorem RepVs.of_ints : ∀ (ns : List Int), RepVs K S phi (ns.map V.int) (ns.map .int)
  | [] => .nil
  | n :: r => .cons (.int n) (RepVs.of_ints r)
end

/-- what is known of the heap: what never changes, where the cells are, what belongs to those who called -/
structure Wd where
  S : Hp
  phi : List Addr
  Fr : Hp
structure Le (w w' : Wd) : Prop where
  h : HLe w.S w'.S w.phi w'.phi
  f : w'.Fr = w.Fr
theorem Le.refl {w : Wd} : Le w w := ⟨HLe.refl, rfl⟩
theorem Le.trans {w w' w'' : Wd} (a : Le w w') (b : Le w' w'') : Le w w'' := ⟨a.h.trans b.h, b.f.trans a.f⟩

/-- the object at a, which may change, holds c -/
def Con (K : PySem.W.Frag) (S : Hp) (phi : List Addr) (H : Hp) (a : Addr) : IV → Prop
  | .lst xs => ∃ vs, H a = some (.lst vs) ∧ RepVs K S phi vs xs
  | .dK xs => ∃ vs, H a = some (.dK vs) ∧ RepKs K S phi vs xs
  | .dT xs => ∃ vs, H a = some (.dT vs) ∧ RepTs K S phi vs xs
  | .obj c xs => ∃ dx vs, H a = some (.ins (gaS K c) dx vs) ∧ RepFs K S phi vs xs
  | _ => False
section
variable {K : PySem.W.Frag} {S S' : Hp} {phi phi' : List Addr} {H H' : Hp} {a : Addr}
theorem Con.monoS (e : HLs S S' phi phi') {c : IV} (h : Con K S phi H a c) (q : H' a = H a) : Con K S' phi' H' a c := by
  cases c <;> first
    | exact h.elim
    | (obtain ⟨vs, h1, h2⟩ := h; exact ⟨vs, q.trans h1, h2.monoS e⟩)
    | (obtain ⟨dx, vs, h1, h2⟩ := h; exact ⟨dx, vs, q.trans h1, h2.monoS e⟩)
theorem Con.mono (e : HLe S S' phi phi') {c : IV} (h : Con K S phi H a c) (q : H' a = H a) : Con K S' phi' H' a c := h.monoS e.toHLs q
theorem Con.there {c : IV} (h : Con K S phi H a c) : ∃ o, H a = some o := by
  cases c <;> first
    | exact h.elim
    | (obtain ⟨vs, h1, h2⟩ := h; exact ⟨_, h1⟩)
    | (obtain ⟨dx, vs, h1, h2⟩ := h; exact ⟨_, h1⟩)
/-- its content for good -/
theorem Con.fix {c : IV} {o : HO} (h : Con K S phi H a c) (q : H a = some o) (n : S a = none) : RepV K (upd S a o) phi (.ref a) c := by
  have e : HLe S (upd S a o) phi phi := .of (fun b u z => by rw [upd_ne (ne_of_none z n)]; exact z) fun _ _ z => z
  cases c with
  | lst xs =>
    obtain ⟨vs, h1, h2⟩ := h
    rw [q] at h1
    cases h1
    exact .lst (.inl (.inl upd_same)) (h2.mono e)
  | dK xs =>
    obtain ⟨vs, h1, h2⟩ := h
    rw [q] at h1
    cases h1
    exact .dK (.inl upd_same) (h2.mono e)
  | dT xs =>
    obtain ⟨vs, h1, h2⟩ := h
    rw [q] at h1
    cases h1
    exact .dT (.inl upd_same) (h2.mono e)
  | obj c xs =>
    obtain ⟨dx, vs, h1, h2⟩ := h
    rw [q] at h1
    cases h1
    exact .obj upd_same (h2.mono e)
  | _ => exact h.elim
end

/-- a cell that still stands is there -/
def Lv (w : Wd) (st : IS) (a : Addr) : Prop := ∃ (n : Nat) (c : IV), st.h[n]? = some (some c) ∧ w.phi[n]? = some a
structure Rel (K : PySem.W.Frag) (w : Wd) (st : IS) (g : L2.St) (H : Hp) : Prop where
  sub : ∀ a o, w.S a = some o → H a = some o
  frm : ∀ a o, w.Fr a = some o → H a = some o
  sf : ∀ a o, w.S a = some o → w.Fr a = none
  len : w.phi.length = st.h.length
  nd : ∀ (m n : Nat) (c d : IV) (a : Addr), st.h[m]? = some (some c) → st.h[n]? = some (some d) → w.phi[m]? = some a → w.phi[n]? = some a → m = n
  pd : ∀ a, Lv w st a → w.S a = none ∧ w.Fr a = none ∧ ∃ o, H a = some o
  cells : ∀ (n : Nat) (c : IV), st.h[n]? = some (some c) → ∃ a, w.phi[n]? = some a ∧ Con K w.S w.phi H a c
  vals : ∀ (i : Nat) (x : IV), st.r[i]? = some (.val x) → ∃ v, g[i]? = some (some v) ∧ RepV K w.S w.phi v x
  owns : ∀ (i : Nat) (c : IV), st.r[i]? = some (.own c) → ∃ a, g[i]? = some (some (.ref a)) ∧ Con K w.S w.phi H a c ∧ w.S a = none ∧ w.Fr a = none ∧ ¬ Lv w st a
  apart : ∀ (i j : Nat) (c d : IV) (a : Addr), st.r[i]? = some (.own c) → st.r[j]? = some (.own d) → g[i]? = some (some (.ref a)) → g[j]? = some (some (.ref a)) → i = j
  rl : st.r.length = g.length

/-- an expression's value: a value for good, or the object of a slot of the frame -/
def RepE (K : PySem.W.Frag) (w : Wd) (g : L2.St) (v : V) : IV → Prop
  | .brw i => g[i]? = some (some v)
  | x => RepV K w.S w.phi v x
/-- nothing else holds it -/
structure Loose (w : Wd) (st : IS) (g : L2.St) (a : Addr) : Prop where
  s : w.S a = none
  f : w.Fr a = none
  p : ¬ Lv w st a
  o : ∀ (i : Nat) (c : IV), st.r[i]? = some (.own c) → g[i]? ≠ some (some (.ref a))
def RepR (K : PySem.W.Frag) (w : Wd) (st : IS) (g : L2.St) (H : Hp) (v : V) : RV → Prop
  | .v x => RepE K w g v x
  | .fr c => ∃ a, v = .ref a ∧ Loose w st g a ∧ Con K w.S w.phi H a c

section
variable {K : PySem.W.Frag} {w w' : Wd} {st : IS} {g : L2.St} {H : Hp} {v : V} {x : IV} {a : Addr} {c : IV} {o : HO}
theorem RepE.of (h : RepV K w.S w.phi v x) : RepE K w g v x := by
  cases h <;> first
    | exact .non | exact .bl _ | exact .int _ | exact .str _ | exact .ty _ | exact .glob _
    | exact .ref (by assumption)
    | exact .tup (by assumption) (by assumption)
    | exact .lst (by assumption) (by assumption)
    | exact .dK (by assumption) (by assumption)
    | exact .dT (by assumption) (by assumption)
    | exact .obj (by assumption) (by assumption)
theorem RepE.val (h : RepE K w g v x) (s : stor x = true) : RepV K w.S w.phi v x := by
  cases x <;> first
    | exact h
    | exact absurd s (by simp [stor])
theorem RepE.mono (e : Le w w') (h : RepE K w g v x) : RepE K w' g v x := by
  cases x <;> first
    | exact RepV.mono e.h h
    | exact h
/-- a new object is laid -/
theorem Rel.laid (R : Rel K w st g H) {p : Addr} (n : H p = none) (o : HO) : Rel K w st g (upd H p o) ∧ Loose w st g p := by
  have ne : ∀ {b : Addr} {u : HO}, H b = some u → b ≠ p := fun z => ne_of_none z n
  have nS : w.S p = none := by
    cases e : w.S p with
    | none => rfl
    | some u => rw [R.sub p u e] at n; cases n
  have nF : w.Fr p = none := by
    cases e : w.Fr p with
    | none => rfl
    | some u => rw [R.frm p u e] at n; cases n
  have up : ∀ {b : Addr} {u : HO}, H b = some u → upd H p o b = some u := fun z => by rw [upd_ne (ne z)]; exact z
  have con : ∀ {b : Addr} {c : IV}, Con K w.S w.phi H b c → Con K w.S w.phi (upd H p o) b c := fun {b c} z => by
    obtain ⟨u, e⟩ := z.there
    exact z.mono HLe.refl (by rw [up e, e])
  refine ⟨⟨fun b u z => up (R.sub b u z), fun b u z => up (R.frm b u z), R.sf, R.len, R.nd, fun b hb => ?_, fun k c z => ?_, R.vals, fun i c z => ?_, R.apart, R.rl⟩, ⟨nS, nF, fun hp => ?_, fun i c z q => ?_⟩⟩
  · obtain ⟨h1, h2, u, h3⟩ := R.pd b hb
    exact ⟨h1, h2, u, up h3⟩
  · obtain ⟨b, h1, h2⟩ := R.cells k c z
    exact ⟨b, h1, con h2⟩
  · obtain ⟨b, h1, h2, h3⟩ := R.owns i c z
    exact ⟨b, h1, con h2, h3⟩
  · obtain ⟨_, _, u, h3⟩ := R.pd p hp
    rw [n] at h3; cases h3
  · obtain ⟨b, h1, h2, _⟩ := R.owns i c z
    rw [h1] at q
    cases q
    obtain ⟨u, e⟩ := h2.there
    rw [n] at e; cases e
/-- a loose object stands for good from here on -/
theorem Rel.fix (R : Rel K w st g H) (l : Loose w st g a) (q : H a = some o) : Rel K { w with S := upd w.S a o } st g H ∧ Le w { w with S := upd w.S a o } := by
  have e : HLe w.S (upd w.S a o) w.phi w.phi := .of (fun b u z => by rw [upd_ne (ne_of_none z l.s)]; exact z) fun _ _ z => z
  have ne : ∀ {b : Addr}, b ≠ a → ∀ {u : Option HO}, w.S b = u → upd w.S a o b = u := fun z _ y => by rw [upd_ne z]; exact y
  refine ⟨⟨fun b u z => ?_, R.frm, fun b u z => ?_, R.len, R.nd, fun b hb => ?_, fun k c z => ?_, fun i x z => ?_, fun i c z => ?_, R.apart, R.rl⟩, ⟨e, rfl⟩⟩
  · by_cases hb : b = a
    · subst hb
      have z' : upd w.S b o b = some u := z
      rw [upd_same] at z'
      rw [q]; exact z'
    · have z' : upd w.S a o b = some u := z
      rw [upd_ne hb] at z'
      exact R.sub b u z'
  · by_cases hb : b = a
    · rw [hb]; exact l.f
    · have z' : upd w.S a o b = some u := z
      rw [upd_ne hb] at z'
      exact R.sf b u z'
  · obtain ⟨h1, h2, h3⟩ := R.pd b hb
    exact ⟨ne (fun z => by subst z; exact l.p hb) h1, h2, h3⟩
  · obtain ⟨b, h1, h2⟩ := R.cells k c z
    exact ⟨b, h1, h2.mono e rfl⟩
  · obtain ⟨u, h1, h2⟩ := R.vals i x z
    exact ⟨u, h1, h2.mono e⟩
  · obtain ⟨b, h1, h2, h3, h4, h5⟩ := R.owns i c z
    refine ⟨b, h1, h2.mono e rfl, ne (fun y => ?_) h3, h4, h5⟩
    subst y
    exact l.o i c z h1
/-- .. and what it holds is a value -/
theorem Rel.fixC (R : Rel K w st g H) (l : Loose w st g a) (h : Con K w.S w.phi H a c) :
    ∃ w', Le w w' ∧ Rel K w' st g H ∧ RepV K w'.S w'.phi (.ref a) c := by
  obtain ⟨o, q⟩ := h.there
  obtain ⟨R', e⟩ := R.fix l q
  exact ⟨_, e, R', h.fix q l.s⟩
theorem Con.stor (h : Con K w.S w.phi H a c) : stor c = true := by
  cases c <;> first | rfl | exact h.elim
/-- a loose object is given a cell -/
theorem Rel.cell (R : Rel K w st g H) (l : Loose w st g a) (h : Con K w.S w.phi H a c) :
    Rel K { w with phi := w.phi ++ [a] } { st with h := st.h ++ [some c] } g H ∧ Le w { w with phi := w.phi ++ [a] } ∧ RepV K w.S (w.phi ++ [a]) (.ref a) (.ref st.h.length) := by
  have e : HLe w.S w.S w.phi (w.phi ++ [a]) := .of (fun _ _ z => z) fun n b z => by
    rw [List.getElem?_append_left (List.getElem?_eq_some_iff.mp z).1]; exact z
  have cut : ∀ (k : Nat) (d : IV) (b : Addr), (st.h ++ [some c])[k]? = some (some d) → (w.phi ++ [a])[k]? = some b → (st.h[k]? = some (some d) ∧ w.phi[k]? = some b) ∨ (k = st.h.length ∧ b = a) := fun k d b z y => by
    by_cases hk : k < st.h.length
    · rw [List.getElem?_append_left hk] at z
      rw [List.getElem?_append_left (by rw [R.len]; exact hk)] at y
      exact .inl ⟨z, y⟩
    · have hk' : k = st.h.length := by
        have := (List.getElem?_eq_some_iff.mp z).1
        simp at this; omega
      subst hk'
      rw [← R.len] at y
      exact .inr ⟨rfl, by simpa using y.symm⟩
  have liv : ∀ b, Lv { w with phi := w.phi ++ [a] } { st with h := st.h ++ [some c] } b → Lv w st b ∨ b = a := fun b ⟨k, d, z, y⟩ => (cut k d b z y).elim (fun q => .inl ⟨k, d, q.1, q.2⟩) fun q => .inr q.2
  refine ⟨⟨R.sub, R.frm, R.sf, by simp [R.len], fun m n d d' b z z' y y' => ?_, fun b hb => ?_, fun k d z => ?_, fun i x z => ?_, fun i d z => ?_, R.apart, R.rl⟩, ⟨e, rfl⟩, .ref ?_⟩
  · rcases cut m d b z y with ⟨q1, q2⟩ | ⟨q1, q2⟩ <;> rcases cut n d' b z' y' with ⟨u1, u2⟩ | ⟨u1, u2⟩
    · exact R.nd m n d d' b q1 u1 q2 u2
    · subst u2; exact absurd ⟨m, d, q1, q2⟩ l.p
    · subst q2; exact absurd ⟨n, d', u1, u2⟩ l.p
    · rw [q1, u1]
  · rcases liv b hb with hb | hb
    · exact R.pd b hb
    · subst hb
      obtain ⟨o, q⟩ := h.there
      exact ⟨l.s, l.f, o, q⟩
  · have z' : (st.h ++ [some c])[k]? = some (some d) := z
    by_cases hk : k < st.h.length
    · rw [List.getElem?_append_left hk] at z'
      obtain ⟨b, h1, h2⟩ := R.cells k d z'
      exact ⟨b, e.p _ _ h1, h2.mono e rfl⟩
    · rw [List.getElem?_append_right (by omega)] at z'
      have hk' : k = st.h.length := by
        have := (List.getElem?_eq_some_iff.mp z').1
        simp at this; omega
      subst hk'
      have : d = c := by simpa using z'.symm
      subst this
      exact ⟨a, by show (w.phi ++ [a])[st.h.length]? = some a; rw [← R.len]; simp, h.mono e rfl⟩
  · obtain ⟨u, h1, h2⟩ := R.vals i x z
    exact ⟨u, h1, h2.mono e⟩
  · obtain ⟨b, h1, h2, h3, h4, h5⟩ := R.owns i d z
    refine ⟨b, h1, h2.mono e rfl, h3, h4, fun hb => ?_⟩
    rcases liv b hb with hb | hb
    · exact h5 hb
    · subst hb
      exact l.o i d z h1
  · rw [← R.len]; simp

/-- the heap changes where nothing of ours stands -/
theorem Rel.heap (R : Rel K w st g H) {H' : Hp} (k : ∀ b, H' b = H b ∨ (w.S b = none ∧ w.Fr b = none ∧ ¬ Lv w st b ∧ ∀ (i : Nat) (c : IV), st.r[i]? = some (.own c) → g[i]? ≠ some (some (.ref b)))) : Rel K w st g H' := by
  have q : ∀ {b : Addr}, ¬ (w.S b = none ∧ w.Fr b = none ∧ ¬ Lv w st b ∧ ∀ (i : Nat) (c : IV), st.r[i]? = some (.own c) → g[i]? ≠ some (some (.ref b))) → H' b = H b := fun {b} z => (k b).resolve_right z
  refine ⟨fun b u z => ?_, fun b u z => ?_, R.sf, R.len, R.nd, fun b hb => ?_, fun n c z => ?_, R.vals, fun i c z => ?_, R.apart, R.rl⟩
  · rw [q fun y => by rw [y.1] at z; cases z]; exact R.sub b u z
  · rw [q fun y => by rw [y.2.1] at z; cases z]; exact R.frm b u z
  · obtain ⟨h1, h2, u, h3⟩ := R.pd b hb
    exact ⟨h1, h2, u, by rw [q fun y => y.2.2.1 hb]; exact h3⟩
  · obtain ⟨b, h1, h2⟩ := R.cells n c z
    exact ⟨b, h1, h2.mono HLe.refl (q fun y => y.2.2.1 ⟨n, c, z, h1⟩)⟩
  · obtain ⟨b, h1, h2, h3⟩ := R.owns i c z
    exact ⟨b, h1, h2.mono HLe.refl (q fun y => y.2.2.2 i c z h1), h3⟩
theorem Rel.loose_upd (R : Rel K w st g H) (l : Loose w st g a) (o : HO) : Rel K w st g (upd H a o) :=
  R.heap fun b => by
    by_cases hb : b = a
    · subst hb; exact .inr ⟨l.s, l.f, l.p, l.o⟩
    · exact .inl (upd_ne hb)
/-- the object of a slot is changed -/
theorem Rel.setOwn (R : Rel K w st g H) {i : Nat} {c c' : IV} {o : HO} (e : st.r[i]? = some (.own c)) (ea : g[i]? = some (some (.ref a))) (n : Con K w.S w.phi (upd H a o) a c') :
    Rel K w { st with r := st.r.set i (.own c') } g (upd H a o) := by
  obtain ⟨b, h1, h2, h3, h4, h5⟩ := R.owns i c e
  rw [ea] at h1
  cases h1
  have hi : i < st.r.length := (List.getElem?_eq_some_iff.mp e).1
  have own : ∀ (j : Nat) (d : IV), (st.r.set i (.own c'))[j]? = some (.own d) → (j = i ∧ d = c') ∨ (j ≠ i ∧ st.r[j]? = some (.own d)) := fun j d z => by
    by_cases hj : j = i
    · subst hj
      rw [List.getElem?_set_self hi] at z
      cases z; exact .inl ⟨rfl, rfl⟩
    · rw [List.getElem?_set_ne (Ne.symm hj)] at z
      exact .inr ⟨hj, z⟩
  have was : ∀ (j : Nat) (d : IV), (st.r.set i (.own c'))[j]? = some (.own d) → ∃ d', st.r[j]? = some (.own d') := fun j d z => by
    rcases own j d z with ⟨rfl, _⟩ | ⟨_, z⟩
    · exact ⟨c, e⟩
    · exact ⟨d, z⟩
  refine ⟨fun b u z => ?_, fun b u z => ?_, R.sf, R.len, R.nd, fun b hb => ?_, fun k d z => ?_, fun j x z => ?_, fun j d z => ?_, fun j k d d' b z z' => ?_, by simpa using R.rl⟩
  · rw [upd_ne (fun y => by subst y; rw [h3] at z; cases z)]; exact R.sub b u z
  · rw [upd_ne (fun y => by subst y; rw [h4] at z; cases z)]; exact R.frm b u z
  · obtain ⟨q1, q2, u, q3⟩ := R.pd b hb
    exact ⟨q1, q2, u, by rw [upd_ne (fun y => by subst y; exact h5 hb)]; exact q3⟩
  · obtain ⟨b, q1, q2⟩ := R.cells k d z
    exact ⟨b, q1, q2.mono HLe.refl (upd_ne fun y => by subst y; exact h5 ⟨k, d, z, q1⟩)⟩
  · have z' : (st.r.set i (.own c'))[j]? = some (.val x) := z
    by_cases hj : j = i
    · subst hj
      rw [List.getElem?_set_self hi] at z'
      cases z'
    · rw [List.getElem?_set_ne (Ne.symm hj)] at z'
      exact R.vals j x z'
  · rcases own j d z with ⟨rfl, rfl⟩ | ⟨hj, z'⟩
    · exact ⟨a, ea, n, h3, h4, h5⟩
    · obtain ⟨b, q1, q2, q3⟩ := R.owns j d z'
      refine ⟨b, q1, q2.mono HLe.refl (upd_ne fun y => ?_), q3⟩
      subst y
      exact hj (R.apart j i d c _ z' e q1 ea)
  · obtain ⟨u, y⟩ := was j d z
    obtain ⟨u', y'⟩ := was k d' z'
    exact R.apart j k u u' b y y'
/-- the object of a cell is changed -/
theorem Rel.setCell (R : Rel K w st g H) {n : Nat} {c c' : IV} {o : HO} (e : st.h[n]? = some (some c)) (ea : w.phi[n]? = some a) (new : Con K w.S w.phi (upd H a o) a c') :
    Rel K w { st with h := st.h.set n (some c') } g (upd H a o) := by
  have ha : Lv w st a := ⟨n, c, e, ea⟩
  obtain ⟨h3, h4, u0, h6⟩ := R.pd a ha
  have hn : n < st.h.length := (List.getElem?_eq_some_iff.mp e).1
  have was : ∀ (k : Nat) (d : IV), (st.h.set n (some c'))[k]? = some (some d) → ∃ d', st.h[k]? = some (some d') := fun k d z => by
    by_cases hk : k = n
    · subst hk; exact ⟨c, e⟩
    · rw [List.getElem?_set_ne (Ne.symm hk)] at z
      exact ⟨d, z⟩
  have liv : ∀ b, Lv w { st with h := st.h.set n (some c') } b → Lv w st b := fun b ⟨k, d, z, y⟩ => let ⟨d', z'⟩ := was k d z; ⟨k, d', z', y⟩
  refine ⟨fun b u z => ?_, fun b u z => ?_, R.sf, by simpa using R.len, fun m k d d' b z z' y y' => ?_, fun b hb => ?_, fun k d z => ?_, R.vals, fun j d z => ?_, R.apart, R.rl⟩
  · rw [upd_ne (fun y => by subst y; rw [h3] at z; cases z)]; exact R.sub b u z
  · rw [upd_ne (fun y => by subst y; rw [h4] at z; cases z)]; exact R.frm b u z
  · obtain ⟨u, z⟩ := was m d z
    obtain ⟨u', z'⟩ := was k d' z'
    exact R.nd m k u u' b z z' y y'
  · obtain ⟨q1, q2, u, q3⟩ := R.pd b (liv b hb)
    by_cases y : b = a
    · subst y; exact ⟨q1, q2, o, upd_same⟩
    · exact ⟨q1, q2, u, by rw [upd_ne y]; exact q3⟩
  · have z' : (st.h.set n (some c'))[k]? = some (some d) := z
    by_cases hk : k = n
    · subst hk
      rw [List.getElem?_set_self hn] at z'
      cases z'
      exact ⟨a, ea, new⟩
    · rw [List.getElem?_set_ne (Ne.symm hk)] at z'
      obtain ⟨b, q1, q2⟩ := R.cells k d z'
      refine ⟨b, q1, q2.mono HLe.refl (upd_ne fun y => ?_)⟩
      subst y
      exact hk (R.nd k n d c b z' e q1 ea)
  · obtain ⟨b, q1, q2, q3, q4, q5⟩ := R.owns j d z
    exact ⟨b, q1, q2.mono HLe.refl (upd_ne fun y => by subst y; exact q5 ha), q3, q4, fun z => q5 (liv b z)⟩
/-- what a cell holds is taken out of it -/
theorem Rel.take (R : Rel K w st g H) {n : Nat} {c : IV} (e : st.h[n]? = some (some c)) (ea : w.phi[n]? = some a) : Rel K w { st with h := st.h.set n none } g H ∧ Loose w { st with h := st.h.set n none } g a ∧ Con K w.S w.phi H a c := by
  have ha : Lv w st a := ⟨n, c, e, ea⟩
  obtain ⟨h3, h4, u0, h6⟩ := R.pd a ha
  have hn : n < st.h.length := (List.getElem?_eq_some_iff.mp e).1
  have was : ∀ (k : Nat) (d : IV), (st.h.set n none)[k]? = some (some d) → k ≠ n ∧ st.h[k]? = some (some d) := fun k d z => by
    by_cases hk : k = n
    · subst hk
      rw [List.getElem?_set_self hn] at z
      cases z
    · rw [List.getElem?_set_ne (Ne.symm hk)] at z
      exact ⟨hk, z⟩
  have liv : ∀ b, Lv w { st with h := st.h.set n none } b → Lv w st b := fun b ⟨k, d, z, y⟩ => ⟨k, d, (was k d z).2, y⟩
  obtain ⟨a', e1, e2⟩ := R.cells n c e
  rw [ea] at e1
  cases e1
  refine ⟨⟨R.sub, R.frm, R.sf, by simpa using R.len, fun m k d d' b z z' y y' => R.nd m k d d' b (was m d z).2 (was k d' z').2 y y', fun b hb => R.pd b (liv b hb), fun k d z => R.cells k d (was k d z).2, R.vals, fun j d z => ?_, R.apart, R.rl⟩, ⟨h3, h4, fun ⟨k, d, z, y⟩ => ?_, fun i d z q => ?_⟩, e2⟩
  · obtain ⟨b, q1, q2, q3, q4, q5⟩ := R.owns j d z
    exact ⟨b, q1, q2, q3, q4, fun z => q5 (liv b z)⟩
  · obtain ⟨hk, z⟩ := was k d z
    exact hk (R.nd k n d c a z e y ea)
  · obtain ⟨b, q1, q2, q3, q4, q5⟩ := R.owns i d z
    have q' : g[i]? = some (some (.ref a)) := q
    rw [q'] at q1
    cases q1
    exact q5 ha
/-- a slot is given a value -/
theorem Rel.setVal (R : Rel K w st g H) {i : Nat} (hi : i < st.r.length) (h : RepV K w.S w.phi v x) : Rel K w { st with r := st.r.set i (.val x) } (g.set i (some v)) H := by
  have hg : i < g.length := by rw [← R.rl]; exact hi
  have cut : ∀ (j : Nat) (s : Slot), (st.r.set i (.val x))[j]? = some s → (j = i ∧ s = .val x ∧ (g.set i (some v))[j]? = some (some v)) ∨ (j ≠ i ∧ st.r[j]? = some s ∧ (g.set i (some v))[j]? = g[j]?) := fun j s z => by
    by_cases hj : j = i
    · subst hj
      rw [List.getElem?_set_self hi] at z
      cases z
      exact .inl ⟨rfl, rfl, List.getElem?_set_self hg⟩
    · rw [List.getElem?_set_ne (Ne.symm hj)] at z
      exact .inr ⟨hj, z, List.getElem?_set_ne (Ne.symm hj)⟩
  refine ⟨R.sub, R.frm, R.sf, R.len, R.nd, R.pd, R.cells, fun j y z => ?_, fun j c z => ?_, fun j k c d b z z' y y' => ?_, by simpa using R.rl⟩
  · rcases cut j _ z with ⟨_, e, q⟩ | ⟨_, e, q⟩
    · cases e; exact ⟨v, q, h⟩
    · rw [q]; exact R.vals j y e
  · rcases cut j _ z with ⟨_, e, q⟩ | ⟨_, e, q⟩
    · cases e
    · rw [q]; exact R.owns j c e
  · rcases cut j _ z with ⟨_, e, q⟩ | ⟨_, e, q⟩
    · cases e
    · rcases cut k _ z' with ⟨_, e', q'⟩ | ⟨_, e', q'⟩
      · cases e'
      · rw [q] at y; rw [q'] at y'
        exact R.apart j k c d b e e' y y'
/-- a slot is given an object of its own -/
theorem Rel.setNew (R : Rel K w st g H) {i : Nat} (hi : i < st.r.length) (l : Loose w st g a) (h : Con K w.S w.phi H a c) : Rel K w { st with r := st.r.set i (.own c) } (g.set i (some (.ref a))) H := by
  have hg : i < g.length := by rw [← R.rl]; exact hi
  have cut : ∀ (j : Nat) (s : Slot), (st.r.set i (.own c))[j]? = some s → (j = i ∧ s = .own c ∧ (g.set i (some (.ref a)))[j]? = some (some (.ref a))) ∨ (j ≠ i ∧ st.r[j]? = some s ∧ (g.set i (some (.ref a)))[j]? = g[j]?) := fun j s z => by
    by_cases hj : j = i
    · subst hj
      rw [List.getElem?_set_self hi] at z
      cases z
      exact .inl ⟨rfl, rfl, List.getElem?_set_self hg⟩
    · rw [List.getElem?_set_ne (Ne.symm hj)] at z
      exact .inr ⟨hj, z, List.getElem?_set_ne (Ne.symm hj)⟩
  refine ⟨R.sub, R.frm, R.sf, R.len, R.nd, R.pd, R.cells, fun j y z => ?_, fun j d z => ?_, fun j k d d' b z z' y y' => ?_, by simpa using R.rl⟩
  · rcases cut j _ z with ⟨_, e, q⟩ | ⟨_, e, q⟩
    · cases e
    · rw [q]; exact R.vals j y e
  · rcases cut j _ z with ⟨_, e, q⟩ | ⟨_, e, q⟩
    · cases e; exact ⟨a, q, h, l.s, l.f, l.p⟩
    · rw [q]; exact R.owns j d e
  · rcases cut j _ z with ⟨ej, e, q⟩ | ⟨ej, e, q⟩ <;> rcases cut k _ z' with ⟨ek, e', q'⟩ | ⟨ek, e', q'⟩
    · rw [ej, ek]
    · rw [q] at y; rw [q'] at y'
      cases y
      exact absurd y' (l.o k d' e')
    · rw [q] at y; rw [q'] at y'
      cases y'
      exact absurd y (l.o j d e)
    · rw [q] at y; rw [q'] at y'
      exact R.apart j k d d' b e e' y y'
/-- a slot's object is let go -/
theorem Rel.move (R : Rel K w st g H) {i : Nat} (e : st.r[i]? = some (.own c)) : ∃ a, Rel K w { st with r := st.r.set i .un } g H ∧ Loose w { st with r := st.r.set i .un } g a ∧ Con K w.S w.phi H a c ∧ g[i]? = some (some (.ref a)) := by
  obtain ⟨a, h1, h2, h3, h4, h5⟩ := R.owns i c e
  have hi : i < st.r.length := (List.getElem?_eq_some_iff.mp e).1
  have cut : ∀ (j : Nat) (s : Slot), (st.r.set i .un)[j]? = some s → (s = .un) ∨ (j ≠ i ∧ st.r[j]? = some s) := fun j s z => by
    by_cases hj : j = i
    · subst hj
      rw [List.getElem?_set_self hi] at z
      cases z
      exact .inl rfl
    · rw [List.getElem?_set_ne (Ne.symm hj)] at z
      exact .inr ⟨hj, z⟩
  refine ⟨a, ⟨R.sub, R.frm, R.sf, R.len, R.nd, R.pd, R.cells, fun j y z => ?_, fun j d z => ?_, fun j k d d' b z z' y y' => ?_, by simpa using R.rl⟩, ⟨h3, h4, h5, fun j d z q => ?_⟩, h2, h1⟩
  · rcases cut j _ z with q | ⟨_, q⟩
    · cases q
    · exact R.vals j y q
  · rcases cut j _ z with q | ⟨_, q⟩
    · cases q
    · exact R.owns j d q
  · rcases cut j _ z with q | ⟨_, q⟩
    · cases q
    · rcases cut k _ z' with q' | ⟨_, q'⟩
      · cases q'
      · exact R.apart j k d d' b q q' y y'
  · rcases cut j _ z with y | ⟨hj, y⟩
    · cases y
    · exact hj (R.apart j i d c a y e q h1)
/-- a loose object is kept apart for a while, with what it holds now -/
theorem Rel.frame (R : Rel K w st g H) (l : Loose w st g a) (q : H a = some o) : Rel K { w with Fr := upd w.Fr a o } st g H := by
  have ne : ∀ {b : Addr} {u : Option HO}, b ≠ a → w.Fr b = u → upd w.Fr a o b = u := fun z y => by rw [upd_ne z]; exact y
  refine ⟨R.sub, fun b u z => ?_, fun b u z => ?_, R.len, R.nd, fun b hb => ?_, R.cells, R.vals, fun i c z => ?_, R.apart, R.rl⟩
  · by_cases hb : b = a
    · subst hb
      have z' : upd w.Fr b o b = some u := z
      rw [upd_same] at z'
      rw [q]; exact z'
    · have z' : upd w.Fr a o b = some u := z
      rw [upd_ne hb] at z'
      exact R.frm b u z'
  · exact ne (fun y => by subst y; rw [l.s] at z; cases z) (R.sf b u z)
  · obtain ⟨q1, q2, q3⟩ := R.pd b hb
    exact ⟨q1, ne (fun y => by subst y; exact l.p hb) q2, q3⟩
  · obtain ⟨b, q1, q2, q3, q4, q5⟩ := R.owns i c z
    exact ⟨b, q1, q2, q3, ne (fun y => by subst y; exact l.o i c z q1) q4, q5⟩
theorem Rel.unframe {F : Hp} (R : Rel K { w with Fr := upd F a o } st g H) (f : F a = none) : Rel K { w with Fr := F } st g H ∧ Loose { w with Fr := F } st g a ∧ H a = some o := by
  have s : w.S a = none := by
    cases e : w.S a with
    | none => rfl
    | some u =>
      have z : upd F a o a = none := R.sf a u e
      rw [upd_same] at z; cases z
  have fr : ∀ b, upd F a o b = none → F b = none := fun b z => by
    by_cases hb : b = a
    · subst hb; exact f
    · rw [upd_ne hb] at z; exact z
  have ha : H a = some o := R.frm a o upd_same
  refine ⟨⟨R.sub, fun b u z => ?_, fun b u z => fr b (R.sf b u z), R.len, R.nd, fun b hb => ?_, R.cells, R.vals, fun i c z => ?_, R.apart, R.rl⟩, ⟨s, f, fun hb => ?_, fun i c z q => ?_⟩, ha⟩
  · have z' : F b = some u := z
    refine R.frm b u ?_
    show upd F a o b = some u
    rw [upd_ne (fun y => by subst y; rw [f] at z'; cases z')]; exact z'
  · obtain ⟨q1, q2, q3⟩ := R.pd b hb
    exact ⟨q1, fr b q2, q3⟩
  · obtain ⟨b, q1, q2, q3, q4, q5⟩ := R.owns i c z
    exact ⟨b, q1, q2, q3, fr b q4, q5⟩
  · obtain ⟨_, q2, _⟩ := R.pd a hb
    have z : upd F a o a = none := q2
    rw [upd_same] at z; cases z
  · obtain ⟨b, q1, q2, q3, q4, q5⟩ := R.owns i c z
    rw [q] at q1
    cases q1
    have z : upd F a o a = none := q4
    rw [upd_same] at z; cases z
end

/-! ### a call: what belongs to the caller's slots is kept apart -/
open Classical in
noncomputable def frOf (w : Wd) (st : IS) (g : L2.St) (H : Hp) : Hp := fun b =>
  if ∃ (i : Nat) (c : IV), st.r[i]? = some (.own c) ∧ g[i]? = some (some (.ref b)) then H b else w.Fr b
section
variable {K : PySem.W.Frag} {w w' : Wd} {st : IS} {g : L2.St} {H H' : Hp}
theorem frOf_own {i : Nat} {c : IV} {b : Addr} (e : st.r[i]? = some (.own c)) (q : g[i]? = some (some (.ref b))) : frOf w st g H b = H b := by
  unfold frOf
  rw [if_pos ⟨i, c, e, q⟩]
theorem frOf_not {b : Addr} (h : ¬ ∃ (i : Nat) (c : IV), st.r[i]? = some (.own c) ∧ g[i]? = some (some (.ref b))) : frOf w st g H b = w.Fr b := by
  unfold frOf
  rw [if_neg h]
/-- the world of the callee -/
noncomputable def inner (w : Wd) (st : IS) (g : L2.St) (H : Hp) : Wd := { w with Fr := frOf w st g H }
theorem Rel.into (R : Rel K w st g H) (r : List Slot) (g' : L2.St) (hv : ∀ (i : Nat) (x : IV), r[i]? = some (.val x) → ∃ v, g'[i]? = some (some v) ∧ RepV K w.S w.phi v x) (ho : ∀ (i : Nat) (c : IV), r[i]? ≠ some (.own c)) (hl : r.length = g'.length) :
    Rel K (inner w st g H) ⟨r, st.h⟩ g' H := by
  have fr : ∀ {b : Addr}, (∀ (i : Nat) (c : IV), st.r[i]? = some (.own c) → g[i]? = some (some (.ref b)) → False) → frOf w st g H b = w.Fr b := fun z => frOf_not fun ⟨i, c, e, q⟩ => z i c e q
  refine ⟨R.sub, fun b u z => ?_, fun b u z => ?_, R.len, R.nd, fun b hb => ?_, R.cells, hv, fun i c z => absurd z (ho i c), fun i j c d a z => absurd z (ho i c), hl⟩
  · have z' : frOf w st g H b = some u := z
    by_cases hb : ∃ (i : Nat) (c : IV), st.r[i]? = some (.own c) ∧ g[i]? = some (some (.ref b))
    · obtain ⟨i, c, e, q⟩ := hb
      rw [frOf_own e q] at z'; exact z'
    · rw [frOf_not hb] at z'; exact R.frm b u z'
  · refine (fr fun i c e q => ?_).trans (R.sf b u z)
    obtain ⟨a, h1, h2, h3, _⟩ := R.owns i c e
    rw [q] at h1; cases h1
    have z' : w.S b = some u := z
    rw [h3] at z'; cases z'
  · obtain ⟨q1, q2, q3⟩ := R.pd b hb
    refine ⟨q1, (fr fun i c e q => ?_).trans q2, q3⟩
    obtain ⟨a, h1, _, _, _, h5⟩ := R.owns i c e
    rw [q] at h1; cases h1
    exact h5 hb
/-- back from the call -/
theorem Rel.outer (R : Rel K w st g H) {w1 : Wd} {r : List Slot} {h : IHeap} {g' : L2.St} (e : Le (inner w st g H) w1) (R1 : Rel K w1 ⟨r, h⟩ g' H') :
    Rel K { w1 with Fr := w.Fr } { st with h := h } g H' ∧ Le w { w1 with Fr := w.Fr } ∧ ∀ a, Loose w1 ⟨r, h⟩ g' a → Loose { w1 with Fr := w.Fr } { st with h := h } g a := by
  have f1 : w1.Fr = frOf w st g H := e.f
  have here : ∀ {i : Nat} {c : IV} {b : Addr}, st.r[i]? = some (.own c) → g[i]? = some (some (.ref b)) → ∃ o, w1.Fr b = some o ∧ H b = some o := fun {i c b} z q => by
    obtain ⟨a, h1, h2, _⟩ := R.owns i c z
    rw [q] at h1; cases h1
    obtain ⟨o, ho⟩ := h2.there
    exact ⟨o, by rw [f1, frOf_own z q]; exact ho, ho⟩
  have back : ∀ b u, w.Fr b = some u → w1.Fr b = some u := fun b u z => by
    rw [f1]
    by_cases hb : ∃ (i : Nat) (c : IV), st.r[i]? = some (.own c) ∧ g[i]? = some (some (.ref b))
    · obtain ⟨i, c, e, q⟩ := hb
      rw [frOf_own e q]; exact R.frm b u z
    · rw [frOf_not hb]; exact z
  have none_of : ∀ b, w1.Fr b = none → w.Fr b = none := fun b z => by
    cases q : w.Fr b with
    | none => rfl
    | some u => rw [back b u q] at z; cases z
  refine ⟨⟨R1.sub, fun b u z => R1.frm b u (back b u z), fun b u z => none_of b (R1.sf b u z), R1.len, R1.nd, fun b hb => ?_, R1.cells, fun i x z => ?_, fun i c z => ?_, R.apart, R.rl⟩, ⟨e.h, rfl⟩, fun a l => ⟨l.s, none_of a l.f, l.p, fun i c z q => ?_⟩⟩
  · obtain ⟨q1, q2, q3⟩ := R1.pd b hb
    exact ⟨q1, none_of b q2, q3⟩
  · obtain ⟨v, h1, h2⟩ := R.vals i x z
    exact ⟨v, h1, h2.mono e.h⟩
  · obtain ⟨a, h1, h2, h3, h4, h5⟩ := R.owns i c z
    obtain ⟨o, q1, q2⟩ := here z h1
    refine ⟨a, h1, h2.mono (H' := H') e.h (by rw [R1.frm a o q1, q2]), ?_, h4, fun hb => ?_⟩
    · show w1.S a = none
      cases y : w1.S a with
      | none => rfl
      | some u => rw [R1.sf a u y] at q1; cases q1
    · rw [(R1.pd a hb).2.1] at q1; cases q1
  · obtain ⟨o, q1, _⟩ := here z q
    rw [l.f] at q1; cases q1
end

/-! ### an object is locked for a while -/
section
variable {K : PySem.W.Frag} {w : Wd} {st : IS} {g : L2.St} {H : Hp} {a : Addr} {u : HO} {od : Obj}
theorem HLe.lock {S : Hp} {phi : List Addr} (hS : S a = some u) (hk : Lk u) : HLe S (upd S a (.frz od u)) phi phi := by
  have hn := hk.1
  refine ⟨⟨fun b v hv h => ?_, fun _ _ z => z, fun b c d fs h => ?_⟩, fun b o v h => ?_⟩
  · by_cases hb : b = a
    · subst hb
      rcases h with h | ⟨o, h⟩
      · rw [hS] at h; cases h; exact .inr ⟨od, upd_same⟩
      · rw [hS] at h; cases h; exact absurd rfl (hn _ _)
    · rcases h with h | ⟨o, h⟩
      · exact .inl (by rw [upd_ne hb]; exact h)
      · exact .inr ⟨o, by rw [upd_ne hb]; exact h⟩
  · have hb : b ≠ a := fun z => by subst z; rw [hS] at h; cases h; exact hk.2 _ _ _ rfl
    rw [upd_ne hb]; exact h
  · by_cases hb : b = a
    · subst hb; rw [hS] at h; cases h; exact absurd rfl (hn _ _)
    · rw [upd_ne hb]; exact h
theorem HLs.unlock {S : Hp} {phi : List Addr} (hS : S a = some (.frz od u)) : HLs S (upd S a u) phi phi := by
  refine ⟨fun b v hv h => ?_, fun _ _ z => z, fun b c d fs h => by
    have hb : b ≠ a := fun z => by subst z; rw [hS] at h; cases h
    rw [upd_ne hb]; exact h⟩
  by_cases hb : b = a
  · subst hb
    rcases h with h | ⟨o, h⟩
    · rw [hS] at h; cases h; exact absurd rfl (hv _ _)
    · rw [hS] at h; cases h; exact .inl upd_same
  · rcases h with h | ⟨o, h⟩
    · exact .inl (by rw [upd_ne hb]; exact h)
    · exact .inr ⟨o, by rw [upd_ne hb]; exact h⟩
/-- what stands for good changes its form -/
theorem Rel.form {v : HO} (R : Rel K w st g H) (hS : ∃ o, w.S a = some o) (e : HLs w.S (upd w.S a v) w.phi w.phi) : Rel K { w with S := upd w.S a v } st g (upd H a v) := by
  obtain ⟨o, hS⟩ := hS
  have nF : w.Fr a = none := R.sf a o hS
  have ne : ∀ {b : Addr}, w.S b = none → b ≠ a := fun z y => by subst y; rw [hS] at z; cases z
  refine ⟨fun b x z => ?_, fun b x z => ?_, fun b x z => ?_, R.len, R.nd, fun b hb => ?_, fun k c z => ?_, fun i x z => ?_, fun i c z => ?_, R.apart, R.rl⟩
  · have z' : upd w.S a v b = some x := z
    by_cases hb : b = a
    · subst hb; rw [upd_same] at z' ⊢; exact z'
    · rw [upd_ne hb] at z' ⊢; exact R.sub b x z'
  · have hb : b ≠ a := fun y => by subst y; have z' : w.Fr b = some x := z; rw [nF] at z'; cases z'
    rw [upd_ne hb]; exact R.frm b x z
  · have z' : upd w.S a v b = some x := z
    by_cases hb : b = a
    · rw [hb]; exact nF
    · rw [upd_ne hb] at z'; exact R.sf b x z'
  · obtain ⟨q1, q2, y, q3⟩ := R.pd b hb
    have hb' := ne q1
    exact ⟨by show upd w.S a v b = none; rw [upd_ne hb']; exact q1, q2, y, by rw [upd_ne hb']; exact q3⟩
  · obtain ⟨b, q1, q2⟩ := R.cells k c z
    exact ⟨b, q1, q2.monoS e (upd_ne (ne (R.pd b ⟨k, c, z, q1⟩).1))⟩
  · obtain ⟨y, q1, q2⟩ := R.vals i x z
    exact ⟨y, q1, q2.monoS e⟩
  · obtain ⟨b, q1, q2, q3, q4, q5⟩ := R.owns i c z
    have hb' := ne q3
    exact ⟨b, q1, q2.monoS e (upd_ne hb'), by show upd w.S a v b = none; rw [upd_ne hb']; exact q3, q4, q5⟩
/-- over a lock -/
theorem Le.unlock {w2 : Wd} (hS : w.S a = some u) (hk : Lk u) (l : Le { w with S := upd w.S a (.frz od u) } w2) : Le w { w2 with S := upd w2.S a u } := by
  have hn := hk.1
  have h2 : w2.S a = some (.frz od u) := l.h.k a od u upd_same
  have e1 : HLe w.S (upd w.S a (.frz od u)) w.phi w.phi := .lock hS hk
  have e2 := e1.trans l.h
  have e3 : HLs w2.S (upd w2.S a u) w2.phi w2.phi := .unlock h2
  exact ⟨⟨⟨fun b v hv z => e3.s b v hv (e2.s b v hv z), e2.p, fun b c d fs z => e3.i b c d fs (e2.i b c d fs z)⟩, fun b o v z => by
    have hb : b ≠ a := fun y => by subst y; rw [hS] at z; cases z; exact absurd rfl (hn _ _)
    show upd w2.S a u b = _
    rw [upd_ne hb]; exact e2.k b o v z⟩, l.f⟩
end
end Ip

/-! Ip3: the interpreter's expressions are the machine's: readings, small rules. -/
namespace Ip
open PySem PySem.Spec PyProof.Rows L2

/-- what is wanted behind an outcome -/
def Post {α β : Type} (K : PySem.W.Frag) (rel : Wd → IS → Hp → β → α → Prop) (w : Wd) (W : WX) (g : L2.St) (Q : β → Hp → Prop) : Out α → Prop
  | .ok a st => ∀ w' H' v, Le w w' → Rel K w' st g H' → rel w' st H' v a → Q v H'
  | .exc c fs st => ∀ w' H' d vs, Le w w' → Rel K w' st g H' → w'.S d = some (.xd vs) → RepFs K w'.S w'.phi vs fs → W (.ref (gaS K c)) (some d) g H'
  | .bad => False
def rR (K : PySem.W.Frag) (g : L2.St) : Wd → IS → Hp → V → RV → Prop := fun w st H v r => RepR K w st g H v r
def rE (K : PySem.W.Frag) (g : L2.St) : Wd → IS → Hp → V → IV → Prop := fun w _ _ v x => RepE K w g v x
def rS (K : PySem.W.Frag) (_ : L2.St) : Wd → IS → Hp → V → IV → Prop := fun w _ _ v x => RepV K w.S w.phi v x
def rA (K : PySem.W.Frag) (_ : L2.St) : Wd → IS → Hp → List V → List IV → Prop := fun w _ _ v x => RepVs K w.S w.phi v x
def rI {α : Type} (_ : PySem.W.Frag) (_ : L2.St) : Wd → IS → Hp → α → α → Prop := fun _ _ _ v x => v = x
/-- the reading of f -/
def TI {α β : Type} (K : PySem.W.Frag) (W : WX) (rel : PySem.W.Frag → L2.St → Wd → IS → Hp → β → α → Prop) (f : IS → Out α) : L2.St → Hp → (β → Hp → Prop) → Prop :=
  fun g H Q => ∃ w st, Rel K w st g H ∧ Post K (rel K g) w W g Q (f st)

section
variable {α β γ δ : Type} {K : PySem.W.Frag} {rel : Wd → IS → Hp → β → α → Prop} {rel' : Wd → IS → Hp → δ → γ → Prop} {w w' : Wd} {W : WX} {g : L2.St} {Q : β → Hp → Prop} {Q' : δ → Hp → Prop} {H H' : Hp} {st : IS}
theorem Post.le (e : Le w w') {o : Out α} (h : Post K rel w W g Q o) : Post K rel w' W g Q o := by
  cases o with
  | ok a st => exact fun w2 H2 v l => h w2 H2 v (e.trans l)
  | exc c fs st => exact fun w2 H2 d vs l => h w2 H2 d vs (e.trans l)
  | bad => exact h
/-- a part first -/
theorem Post.bind {o : Out γ} {k : γ → IS → Out α} (h : Post K rel w W g Q (o.bind k))
    (hk : ∀ a st, Out.ok a st = o → ∀ w' H' v, Le w w' → Rel K w' st g H' → rel' w' st H' v a → Post K rel w' W g Q (k a st) → Q' v H') : Post K rel' w W g Q' o := by
  cases o with
  | ok a st => exact fun w2 H2 v l R r => hk a st rfl w2 H2 v l R r (h.le l)
  | exc c fs st => exact h
  | bad => exact h
theorem Post.ok {a : α} {v : β} (h : Post K rel w W g Q (.ok a st)) (R : Rel K w st g H) (r : rel w st H v a) : Q v H := h w H v Le.refl R r
theorem Post.of {o : Option α} (h : Post K rel w W g Q (Out.of st o)) : ∃ a, o = some a ∧ Post K rel w W g Q (.ok a st) := by
  cases o with
  | none => exact h.elim
  | some a => exact ⟨a, rfl, h⟩
theorem Post.ofB {o : Option γ} {k : γ → IS → Out α} (h : Post K rel w W g Q ((Out.of st o).bind k)) : ∃ a, o = some a ∧ Post K rel w W g Q (k a st) := by
  cases o with
  | none => exact h.elim
  | some a => exact ⟨a, rfl, h⟩
theorem Post.imp {o : Out α} (h : Post K rel w W g Q o) {Q2 : β → Hp → Prop} (q : ∀ v H, Q v H → Q2 v H) : Post K rel w W g Q2 o := by
  cases o with
  | ok a st => exact fun w2 H2 v l R r => q _ _ (h w2 H2 v l R r)
  | exc c fs st => exact h
  | bad => exact h
end

section
variable {K : PySem.W.Frag} {w : Wd} {W : WX} {g : L2.St} {Q : V → Hp → Prop} {H : Hp} {st : IS} {v : V} {x : IV}
theorem Post.okV (p : Post K (rR K g) w W g Q (.ok (.v x) st)) (R : Rel K w st g H) (r : RepV K w.S w.phi v x) : Q v H := p.ok R (RepE.of r)
theorem Post.okE (p : Post K (rR K g) w W g Q (.ok (.v x) st)) (R : Rel K w st g H) (r : RepE K w g v x) : Q v H := p.ok R r
theorem Post.okF {a : Addr} (p : Post K (rR K g) w W g Q (.ok (.fr x) st)) (R : Rel K w st g H) (l : Loose w st g a) (c : Con K w.S w.phi H a x) : Q (.ref a) H := p.ok R ⟨a, rfl, l, c⟩
/-- a new object -/
theorem Post.okN (p : Post K (rR K g) w W g Q (.ok (.fr x) st)) (R : Rel K w st g H) {a : Addr} (n : H a = none) {o : HO} (c : Con K w.S w.phi (upd H a o) a x) : Q (.ref a) (upd H a o) :=
  p.okF (R.laid n o).1 (R.laid n o).2 c
end
section
variable {X : Cx} {e : Expr} {W : WX}
theorem PE.imp {t t' : TE} (h : PE X e t) (i : ∀ g H Q, t' g H Q → t g H Q) : PE X e t' := ⟨fun pins s g H Q I q => h.run pins s g H Q I (i g H Q q)⟩
theorem PT.imp {t t' : TT} (h : PT X e t) (i : ∀ g H Q, t' g H Q → t g H Q) : PT X e t' := ⟨fun pins s g H Q I q => h.run pins s g H Q I (i g H Q q)⟩
theorem PA.imp {es : List Expr} {t t' : TA} (h : PA X es t) (i : ∀ g H Q, t' g H Q → t g H Q) : PA X es t' := ⟨fun pos pins s g H Q I q => h.run pos pins s g H Q I (i g H Q q)⟩
abbrev PEr (X : Cx) (W : WX) (e : Expr) (f : IS → Out RV) : Prop := PE X e (TI X.K W rR f)
abbrev PEv (X : Cx) (W : WX) (e : Expr) (f : IS → Out IV) : Prop := PE X e (TI X.K W rE f)
abbrev PEs (X : Cx) (W : WX) (e : Expr) (f : IS → Out IV) : Prop := PE X e (TI X.K W rS f)
abbrev PTi (X : Cx) (W : WX) (e : Expr) (f : IS → Out Bool) : Prop := PT X e (TI X.K W rI f)
abbrev PAi (X : Cx) (W : WX) (es : List Expr) (f : IS → Out (List IV)) : Prop := PA X es (TI X.K W rA f)
variable {f : IS → Out RV}
/-- the value for good -/
theorem toV (h : PEr X W e f) : PEv X W e fun st => vOf (f st) := PE.imp h fun g H Q ⟨w, st, R, p⟩ => by
  refine ⟨w, st, R, ?_⟩
  refine Post.bind (rel := rE X.K g) (k := fun r st => .ok r.get st) p fun r st1 _ w1 H1 v l R1 rr q => ?_
  cases r with
  | v x => exact q.ok R1 rr
  | fr c =>
    obtain ⟨a, rfl, lo, co⟩ := rr
    obtain ⟨w2, l2, R2, r2⟩ := R1.fixC lo co
    exact (q.le l2).ok R2 (show RepE X.K w2 g _ _ from RepE.of r2)
theorem toS (h : PEr X W e f) : PEs X W e fun st => sOf (f st) := PE.imp h fun g H Q ⟨w, st, R, p⟩ => by
  refine ⟨w, st, R, ?_⟩
  refine Post.bind (rel := rS X.K g) (k := fun r st => if stor r.get then .ok r.get st else .bad) p fun r st1 _ w1 H1 v l R1 rr q => ?_
  by_cases hs : stor r.get = true
  · rw [if_pos hs] at q
    cases r with
    | v x => exact q.ok R1 (show RepV X.K w1.S w1.phi v x from RepE.val rr hs)
    | fr c =>
      obtain ⟨a, rfl, lo, co⟩ := rr
      obtain ⟨w2, l2, R2, r2⟩ := R1.fixC lo co
      exact (q.le l2).ok R2 r2
  · rw [if_neg hs] at q
    exact q.elim
theorem pa_nilI : PAi X W [] fun st => .ok [] st := PA.imp pa_nil fun g H Q ⟨w, st, R, p⟩ => p.ok R (show RepVs _ _ _ [] [] from .nil)
theorem pa_consI {es : List Expr} {k : IS → Out (List IV)} (h : PEs X W e fun st => sOf (f st)) (r : PAi X W es k) (hs : starEach (e :: es) X.env = (false, eval e X.env) :: starEach es X.env) :
    PAi X W (e :: es) fun st => (sOf (f st)).bind fun x st => (k st).bind fun xs st => .ok (x :: xs) st := PA.imp (pa_cons h r hs) fun g H Q ⟨w, st, R, p⟩ => by
  refine ⟨w, st, R, ?_⟩
  refine Post.bind p fun x st1 _ w1 H1 v l1 R1 r1 q1 => ⟨w1, st1, R1, ?_⟩
  refine Post.bind q1 fun xs st2 _ w2 H2 vs l2 R2 r2 q2 => ?_
  exact q2.ok R2 (show RepVs _ _ _ _ _ from .cons (RepV.mono l2.h r1) r2)

/-! ### atoms -/
theorem i_int {i : Int} {j pos} : PEr X W (.Constant (.int i) j pos) fun st => .ok (.v (.int i)) st := PE.imp pe_int fun g H Q ⟨w, st, R, p⟩ => p.okV R (.int i)
theorem i_bl {b : Bool} {j pos} : PEr X W (.Constant (.bool b) j pos) fun st => .ok (.v (.bl b)) st := PE.imp pe_bl fun g H Q ⟨w, st, R, p⟩ => p.okV R (.bl b)
theorem i_non {j pos} : PEr X W (.Constant .none j pos) fun st => .ok (.v .non) st := PE.imp pe_non fun g H Q ⟨w, st, R, p⟩ => p.okV R .non
theorem i_str {x : PySem.Str} {j pos} : PEr X W (.Constant (.str x) j pos) fun st => .ok (.v (.str x)) st := PE.imp pe_str fun g H Q ⟨w, st, R, p⟩ => p.okV R (.str x)
theorem i_slot {i : Nat} {x : PySem.Str} {pos : Pos} (hN : X.N[i]? = some x) (hv : Vis X.env.scope x) (hd : (x == ("__debug__" : PySem.Str)) = false) (hcd : (x == ("__classdict__" : PySem.Str)) = false) :
    PEr X W (.Name x pos) fun st => Out.of st ((st.r[i]?).bind (slotE i)) := PE.imp (pe_var hN hv hd hcd) fun g H Q ⟨w, st, R, p⟩ => by
  obtain ⟨r, e, p⟩ := p.of
  obtain ⟨s, e1, e2⟩ := Option.bind_eq_some_iff.mp e
  cases s with
  | un => cases e2
  | val y =>
    cases e2
    obtain ⟨v, h1, h2⟩ := R.vals i y e1
    exact ⟨v, h1, p.okV R h2⟩
  | own c =>
    cases e2
    obtain ⟨a, h1, _⟩ := R.owns i c e1
    exact ⟨.ref a, h1, p.okE (x := .brw i) R h1⟩
theorem i_move {i : Nat} {x : PySem.Str} {pos : Pos} (hN : X.N[i]? = some x) (hv : Vis X.env.scope x) (hd : (x == ("__debug__" : PySem.Str)) = false) (hcd : (x == ("__classdict__" : PySem.Str)) = false) :
    PEr X W (.Name x pos) fun st => (Out.of st ((st.r[i]?).bind ownC)).bind fun c st => .ok (.fr c) { st with r := st.r.set i .un } := PE.imp (pe_var hN hv hd hcd) fun g H Q ⟨w, st, R, p⟩ => by
  obtain ⟨c, e, p⟩ := p.ofB
  obtain ⟨s, e1, e2⟩ := Option.bind_eq_some_iff.mp e
  cases s with
  | un => cases e2
  | val y => cases e2
  | own d =>
    cases e2
    obtain ⟨a, R', lo, co, h1⟩ := R.move e1
    exact ⟨.ref a, h1, p.ok R' ⟨a, rfl, lo, co⟩⟩
end

/-! ### contents -/
/-- v holds c -/
def Cr (K : PySem.W.Frag) (w : Wd) (H : Hp) (v : V) : IV → Prop
  | .non => v = .non
  | .bl b => v = .bl b
  | .int i => v = .int i
  | .str x => v = .str x
  | .ty n => v = .ty n
  | .glob x => v = .ref (gaS K x)
  | .lst xs => ∃ a vs, v = .ref a ∧ SqL K H a vs ∧ RepVs K w.S w.phi vs xs
  | .tup xs => ∃ a vs, v = .ref a ∧ SqT K H a vs ∧ RepVs K w.S w.phi vs xs
  | .dK xs => ∃ a vs, v = .ref a ∧ Rd H a (.dK vs) ∧ RepKs K w.S w.phi vs xs
  | .dT xs => ∃ a vs, v = .ref a ∧ Rd H a (.dT vs) ∧ RepTs K w.S w.phi vs xs
  | .obj c xs => ∃ a dx vs, v = .ref a ∧ H a = some (.ins (gaS K c) dx vs) ∧ RepFs K w.S w.phi vs xs
  | .ref _ => False
  | .brw _ => False
section
variable {K : PySem.W.Frag} {w w' : Wd} {st : IS} {g : L2.St} {H : Hp} {v : V} {x c : IV} {a : Addr}
theorem Con.cr (h : Con K w.S w.phi H a c) : Cr K w H (.ref a) c := by
  cases c with
  | lst xs =>
    obtain ⟨vs, h1, h2⟩ := h
    exact ⟨a, vs, rfl, .of h1, h2⟩
  | dK xs =>
    obtain ⟨vs, h1, h2⟩ := h
    exact ⟨a, vs, rfl, .of h1, h2⟩
  | dT xs =>
    obtain ⟨vs, h1, h2⟩ := h
    exact ⟨a, vs, rfl, .of h1, h2⟩
  | obj d xs =>
    obtain ⟨dx, vs, h1, h2⟩ := h
    exact ⟨a, dx, vs, rfl, h1, h2⟩
  | _ => exact h.elim
theorem Rel.cont (R : Rel K w st g H) (r : RepE K w g v x) (e : cont st x = some c) : Cr K w H v c := by
  cases x with
  | ref n =>
    obtain ⟨o, e1, e2⟩ := Option.join_eq_some_iff.mp e |> fun h => (⟨some c, h, rfl⟩ : ∃ o, st.h[n]? = some o ∧ o = some c)
    subst e2
    have r' : RepV K w.S w.phi v (.ref n) := r
    cases r' with
    | ref hp =>
      obtain ⟨b, h1, h2⟩ := R.cells n c e1
      rw [hp] at h1
      cases h1
      exact h2.cr
  | brw i =>
    obtain ⟨s, e1, e2⟩ := Option.bind_eq_some_iff.mp (show (st.r[i]?).bind ownC = some c from e)
    cases s with
    | own d =>
      cases e2
      obtain ⟨b, h1, h2, _⟩ := R.owns i c e1
      have r' : g[i]? = some (some v) := r
      rw [h1] at r'
      cases r'
      exact h2.cr
    | _ => cases e2
  | non => cases e; cases (show RepV K w.S w.phi v .non from r); rfl
  | bl b => cases e; cases (show RepV K w.S w.phi v (.bl b) from r); rfl
  | int i => cases e; cases (show RepV K w.S w.phi v (.int i) from r); rfl
  | str z => cases e; cases (show RepV K w.S w.phi v (.str z) from r); rfl
  | ty z => cases e; cases (show RepV K w.S w.phi v (.ty z) from r); rfl
  | glob z => cases e; cases (show RepV K w.S w.phi v (.glob z) from r); rfl
  | lst xs =>
    cases e
    cases (show RepV K w.S w.phi v (.lst xs) from r) with
    | lst h1 h2 => exact ⟨_, _, rfl, sqL_mono R.sub h1, h2⟩
  | tup xs =>
    cases e
    cases (show RepV K w.S w.phi v (.tup xs) from r) with
    | tup h1 h2 => exact ⟨_, _, rfl, sqT_mono R.sub h1, h2⟩
  | dK xs =>
    cases e
    cases (show RepV K w.S w.phi v (.dK xs) from r) with
    | dK h1 h2 => exact ⟨_, _, rfl, rd_mono R.sub h1, h2⟩
  | dT xs =>
    cases e
    cases (show RepV K w.S w.phi v (.dT xs) from r) with
    | dT h1 h2 => exact ⟨_, _, rfl, rd_mono R.sub h1, h2⟩
  | obj d xs =>
    cases e
    cases (show RepV K w.S w.phi v (.obj d xs) from r) with
    | obj h1 h2 => exact ⟨_, _, _, rfl, R.sub _ _ h1, h2⟩
theorem Rel.seqL (R : Rel K w st g H) (r : RepE K w g v x) {xs : List IV} (e : seqL st x = some xs) : ∃ a vs, v = .ref a ∧ SqL K H a vs ∧ RepVs K w.S w.phi vs xs := by
  obtain ⟨c, e1, e2⟩ := Option.bind_eq_some_iff.mp e
  have h := R.cont r e1
  cases c with
  | lst ys => cases e2; exact h
  | _ => cases e2
theorem RepE.non (r : RepE K w g v .non) : v = .non := by cases (show RepV K w.S w.phi v .non from r); rfl
theorem RepE.int {i : Int} (r : RepE K w g v (.int i)) : v = .int i := by cases (show RepV K w.S w.phi v (.int i) from r); rfl
theorem RepE.bl {i : Bool} (r : RepE K w g v (.bl i)) : v = .bl i := by cases (show RepV K w.S w.phi v (.bl i) from r); rfl
theorem RepE.str {i : PySem.Str} (r : RepE K w g v (.str i)) : v = .str i := by cases (show RepV K w.S w.phi v (.str i) from r); rfl
/-- what is None is .non -/
theorem RepE.isNon (r : RepE K w g v x) (s : stor x = true) : isNon x = decide (v = .non) := by
  have r' := r.val s
  cases r' <;> rfl
end
theorem isB_cases {a b : IV} {t : Bool} (e : isB a b = some t) : ∃ c d, a = .bl c ∧ b = .bl d ∧ t = decide (c = d) := by
  unfold isB at e
  split at e
  · cases e; exact ⟨_, _, rfl, rfl, rfl⟩
  · cases e
theorem small_line {n : Nat} (h : small n = true) : n ≤ sizeLine := by
  have := of_decide_eq_true h
  rw [sizeLine_eq]; omega
theorem small_lt {n : Nat} (h : small n = true) : n < sizeLine := by
  have := of_decide_eq_true h
  rw [sizeLine_eq]; omega

/-! ### operators -/
section
variable {X : Cx} {a b : Expr} {W : WX} {pos : Pos} {fa fb : IS → Out RV}
theorem op_catL : OpR X (binaryOp .Add) (fun x y H Q => ∃ l b xs zs, x = .ref l ∧ y = .ref b ∧ SqL X.K H l xs ∧ SqL X.K H b zs ∧ xs.length + zs.length ≤ sizeLine ∧ ∀ p, H p = none → Q (.ref p) (upd H p (.lst (xs ++ zs)))) := by
  intro pins s g H x y v u Q I rx ry ⟨l, b, xs, zs, ex, ey, hl, hb, hz, q⟩
  subst ex ey
  cases rx
  cases ry
  obtain ⟨its, r, ⟨⟨c1, d1, t1, s1⟩, n1, g1, k1, _, q1⟩, _⟩ := I.list hl
  obtain ⟨its2, r2, ⟨⟨c2, d2, t2, s2⟩, n2, g2, k2, _, q2⟩, _⟩ := I.list hb
  simp only at k1 q1 k2 q2
  subst k1 q1 k2 q2
  have el := r.length
  have el2 := r2.length
  have ea : its.toArray ++ its2.toArray = (its ++ its2).toArray := by simp
  refine concat_meets ⟨_, g1, rfl⟩ ⟨_, g2, rfl⟩ noFill_list_add seq_list_add PySem.F.slot_list_add PySem.F.entry_list_add (PySem.F.args_list_add_2 _ _) (list_addW l b its.toArray its2.toArray n1 n2 d1 d2 s1 s2 (by simp; omega)) ⟨g1, g2, ?_⟩
  rw [ea]
  exact ⟨.ref _, _, I.lnew (t' := s.toks) (r.append r2) (by rw [List.length_append]; omega), rfl, q _ I.fresh⟩
/-- the reading of an operator on two values -/
def RB (K : PySem.W.Frag) (W : WX) (op : Operator) : R2 := fun x y H Q => ∃ w st g a b c d, Rel K w st g H ∧ RepE K w g x a ∧ RepE K w g y b ∧ cont st a = some c ∧ cont st b = some d ∧ Post K (rR K g) w W g Q (Out.of st (binC op c d))
theorem op_binI {op : Operator} : OpR X (binaryOp op) (RB X.K W op) := by
  intro pins s g0 H x y v u Q I rx ry ⟨w, st, g, a, b, c, d, R, ra, rb, ea, eb, p⟩
  obtain ⟨r, e, p⟩ := p.of
  have ca := R.cont ra ea
  have cb := R.cont rb eb
  unfold binC at e
  split at e
  · cases e
    exact op_add pins s g0 H x y v u Q I rx ry ⟨_, _, ca, cb, p.okV R (.int _)⟩
  · cases e
    exact op_sub pins s g0 H x y v u Q I rx ry ⟨_, _, ca, cb, p.okV R (.int _)⟩
  · split at e
    · rename_i i j hc
      cases e
      refine op_mul pins s g0 H x y v u Q I rx ry ⟨i, j, ca, cb, ?_, p.okV R (.int _)⟩
      rcases Bool.or_eq_true_iff.mp hc with h | h
      · exact .inl (i64_iff.mp h)
      · exact .inr (i64_iff.mp h)
    · cases e
  · split at e
    · rename_i i j hc
      cases e
      exact op_mod pins s g0 H x y v u Q I rx ry ⟨i, j, ca, cb, hc, p.okV R (.int _)⟩
    · cases e
  · split at e
    · rename_i i j hc
      cases e
      exact op_fdiv pins s g0 H x y v u Q I rx ry ⟨i, j, ca, cb, ⟨hc.1, by omega⟩, p.okV R (.int _)⟩
    · cases e
  · split at e
    · rename_i i j hc
      cases e
      obtain ⟨h1, h2, h3⟩ := hc
      have h4 := i64_iff.mp h3
      exact op_pow pins s g0 H x y v u Q I rx ry ⟨i, j, ca, cb, ⟨h1, h2, by omega⟩, p.okV R (.int _)⟩
    · cases e
  · split at e
    · rename_i xs ys hc
      cases e
      obtain ⟨l, vs, ex, h1, h2⟩ := ca
      obtain ⟨l2, vs2, ey, h3, h4⟩ := cb
      refine op_catL pins s g0 H x y v u Q I rx ry ⟨l, l2, vs, vs2, ex, ey, h1, h3, ?_, fun q n => ?_⟩
      · rw [h2.length, h4.length]; exact small_line hc
      · exact p.okN R n ⟨_, upd_same, h2.append h4⟩
    · cases e
  · cases e
theorem i_bin {op : Operator} (ha : PEr X W a fa) (hb : PEr X W b fb) :
    PEr X W (.BinOp a op b pos) fun st => (vOf (fa st)).bind fun x st => (vOf (fb st)).bind fun y st => Out.of st (binS st op x y) :=
  PE.imp (pe_op (op_binI (W := W)) (toV ha) (toV hb)) fun g H Q ⟨w, st, R, p⟩ => by
    refine ⟨w, st, R, ?_⟩
    refine Post.bind p fun x st1 _ w1 H1 v l1 R1 r1 q1 => ⟨w1, st1, R1, ?_⟩
    refine Post.bind q1 fun y st2 _ w2 H2 u l2 R2 r2 q2 => ?_
    obtain ⟨r, e, _⟩ := id q2.of
    obtain ⟨c, e1, e2⟩ := Option.bind_eq_some_iff.mp e
    obtain ⟨d, e3, e4⟩ := Option.bind_eq_some_iff.mp e2
    refine ⟨w2, st2, g, x, y, c, d, R2, RepE.mono l2 r1, r2, e1, e3, ?_⟩
    rw [e4]
    rw [e] at q2
    exact q2
theorem i_neg (ha : PEr X W a fa) : PEr X W (.UnaryOp .USub a pos) fun st => (vOf (fa st)).bind fun x st => Out.of st ((asI x).map fun i => .v (.int (-i))) :=
  PE.imp (pe_un un_neg (toV ha)) fun g H Q ⟨w, st, R, p⟩ => by
    refine ⟨w, st, R, ?_⟩
    refine Post.bind p fun x st1 _ w1 H1 v l1 R1 r1 q1 => ?_
    obtain ⟨r, e, q⟩ := q1.of
    obtain ⟨i, e1, e2⟩ := Option.map_eq_some_iff.mp e
    cases x with
    | int j =>
      cases e1
      cases e2
      exact ⟨_, r1.int, q.okV R1 (.int _)⟩
    | _ => cases e1
end

/-! ### data -/
section
variable {K : PySem.W.Frag} {w : Wd} {st : IS} {g : L2.St} {H S : Hp} {phi : List Addr}
mutual
theorem dp_v (e : ∀ a o, S a = some o → H a = some o) : ∀ {x : IV} {v : V} {d : PyData}, RepV K S phi v x → toD0 x = some d → Dp K H v d
  | .non, _, _, .non, h => by cases h; exact .non
  | .bl b, _, _, .bl _, h => by cases h; exact .bl b
  | .int b, _, _, .int _, h => by cases h; exact .int b
  | .str b, _, _, .str _, h => by cases h; exact .str b
  | .tup xs, _, _, .tup h1 h2, h => by
    obtain ⟨ds, e1, e2⟩ := Option.map_eq_some_iff.mp (show (toDs xs).map PyData.tuple = some _ from by unfold toD0 at h; exact h)
    subst e2
    exact .tup (sqT_mono e h1) (dp_vs e h2 e1)
  | .lst xs, _, _, .lst h1 h2, h => by
    obtain ⟨ds, e1, e2⟩ := Option.map_eq_some_iff.mp (show (toDs xs).map PyData.list = some _ from by unfold toD0 at h; exact h)
    subst e2
    exact .lst (sqL_mono e h1) (dp_vs e h2 e1)
  | .dK xs, _, _, _, h => by unfold toD0 at h; cases h
  | .dT xs, _, _, _, h => by unfold toD0 at h; cases h
  | .obj c xs, _, _, _, h => by unfold toD0 at h; cases h
  | .ref n, _, _, _, h => by unfold toD0 at h; cases h
  | .brw n, _, _, _, h => by unfold toD0 at h; cases h
  | .glob n, _, _, _, h => by unfold toD0 at h; cases h
  | .ty n, _, _, _, h => by unfold toD0 at h; cases h
theorem dp_vs (e : ∀ a o, S a = some o → H a = some o) : ∀ {xs : List IV} {vs : List V} {ds : List PyData}, RepVs K S phi vs xs → toDs xs = some ds → DpAll K H vs ds
  | [], _, _, .nil, h => by unfold toDs at h; cases h; exact .nil
  | x :: xs, _, _, .cons h1 h2, h => by
    unfold toDs at h
    obtain ⟨d, e1, e2⟩ := Option.bind_eq_some_iff.mp h
    obtain ⟨ds, e3, e4⟩ := Option.map_eq_some_iff.mp e2
    subst e4
    exact .cons (dp_v e h1 e1) (dp_vs e h2 e3)
end
theorem con_dp {H : Hp} {a : Addr} {c : IV} {d : PyData} (R : Rel K w st g H) (h : Con K w.S w.phi H a c) (e : toD0 c = some d) : Dp K H (.ref a) d := by
  cases c with
  | lst xs =>
    obtain ⟨vs, h1, h2⟩ := h
    obtain ⟨ds, e1, e2⟩ := Option.map_eq_some_iff.mp (show (toDs xs).map PyData.list = some _ from by unfold toD0 at e; exact e)
    subst e2
    exact .lst (.inl (.inl h1)) (dp_vs R.sub h2 e1)
  | _ => first | exact h.elim | (unfold toD0 at e; cases e)
mutual
theorem dpr_v (R : Rel K w st g H) : ∀ {x : IV} {v : V} {d : PyData}, RepV K w.S w.phi v x → toDr st x = some d → Dp K H v d
  | .non, _, _, .non, h => by cases h; exact .non
  | .bl b, _, _, .bl _, h => by cases h; exact .bl b
  | .int b, _, _, .int _, h => by cases h; exact .int b
  | .str b, _, _, .str _, h => by cases h; exact .str b
  | .tup xs, _, _, .tup h1 h2, h => by
    obtain ⟨ds, e1, e2⟩ := Option.map_eq_some_iff.mp (show (toDrs st xs).map PyData.tuple = some _ from by unfold toDr at h; exact h)
    subst e2
    exact .tup (sqT_mono R.sub h1) (dpr_vs R h2 e1)
  | .lst xs, _, _, .lst h1 h2, h => by
    obtain ⟨ds, e1, e2⟩ := Option.map_eq_some_iff.mp (show (toDrs st xs).map PyData.list = some _ from by unfold toDr at h; exact h)
    subst e2
    exact .lst (sqL_mono R.sub h1) (dpr_vs R h2 e1)
  | .dK xs, _, _, _, h => by unfold toDr at h; cases h
  | .dT xs, _, _, _, h => by unfold toDr at h; cases h
  | .obj c xs, _, _, _, h => by unfold toDr at h; cases h
  | .ref n, _, d, .ref hp, h => by
    obtain ⟨c, e1, e2⟩ := Option.bind_eq_some_iff.mp (show (st.h[n]?).join.bind toD0 = some d from by unfold toDr at h; exact h)
    have e1' : st.h[n]? = some (some c) := Option.join_eq_some_iff.mp e1
    obtain ⟨b, q1, q2⟩ := R.cells n c e1'
    rw [hp] at q1
    cases q1
    exact con_dp R q2 e2
  | .brw n, _, _, _, h => by unfold toDr at h; cases h
  | .glob n, _, _, _, h => by unfold toDr at h; cases h
  | .ty n, _, _, _, h => by unfold toDr at h; cases h
theorem dpr_vs (R : Rel K w st g H) : ∀ {xs : List IV} {vs : List V} {ds : List PyData}, RepVs K w.S w.phi vs xs → toDrs st xs = some ds → DpAll K H vs ds
  | [], _, _, .nil, h => by unfold toDrs at h; cases h; exact .nil
  | x :: xs, _, _, .cons h1 h2, h => by
    unfold toDrs at h
    obtain ⟨d, e1, e2⟩ := Option.bind_eq_some_iff.mp h
    obtain ⟨ds, e3, e4⟩ := Option.map_eq_some_iff.mp e2
    subst e4
    exact .cons (dpr_v R h1 e1) (dpr_vs R h2 e3)
end
theorem Rel.dp (R : Rel K w st g H) {v : V} {x : IV} {d : PyData} (r : RepE K w g v x) (e : toD st x = some d) : Dp K H v d := by
  obtain ⟨c, e1, e2⟩ := Option.bind_eq_some_iff.mp e
  have h := R.cont r e1
  cases c with
  | non => cases e2; rw [show v = .non from h]; exact .non
  | bl b => cases e2; rw [show v = .bl b from h]; exact .bl b
  | int b => cases e2; rw [show v = .int b from h]; exact .int b
  | str b => cases e2; rw [show v = .str b from h]; exact .str b
  | tup xs =>
    obtain ⟨a, vs, rfl, h1, h2⟩ := h
    obtain ⟨ds, q1, q2⟩ := Option.map_eq_some_iff.mp (show (toDrs st xs).map PyData.tuple = some _ from by unfold toDr at e2; exact e2)
    subst q2
    exact .tup h1 (dpr_vs R h2 q1)
  | lst xs =>
    obtain ⟨a, vs, rfl, h1, h2⟩ := h
    obtain ⟨ds, q1, q2⟩ := Option.map_eq_some_iff.mp (show (toDrs st xs).map PyData.list = some _ from by unfold toDr at e2; exact e2)
    subst q2
    exact .lst h1 (dpr_vs R h2 q1)
  | ref n => exact h.elim
  | _ => unfold toDr at e2; cases e2
theorem canLayAll_of : ∀ {ds : List PyData}, ds.all dOk = true → PyData.canLayAll0 ds = true
  | [], _ => by unfold PyData.canLayAll0; rfl
  | d :: ds, h => by
    obtain ⟨h1, h2⟩ := Bool.and_eq_true_iff.mp (show (dOk d && ds.all dOk) = true from h)
    unfold PyData.canLayAll0
    rw [SeqAt.canLay_of_shaped h1, canLayAll_of h2]; rfl
end
section
variable {X : Cx} {a b c : Expr} {W : WX} {pos : Pos} {fa fb fc : IS → Out RV}
/-- x in ys, x not in ys, data at any depth -/
theorem op_inD (hu : X.A.units + 66 < cLine) : OpR X (compareOp .In) (fun x y H Q => ∃ d bs, Dp X.K H x d ∧ (Dp X.K H y (.list bs) ∨ Dp X.K H y (.tuple bs)) ∧ dOk d = true ∧ bs.all dOk = true ∧ Q (.bl (bs.any fun b => PyData.eqv b d)) H) := by
  intro pins s g H x y v u Q I rx ry ⟨d, bs, hd, hb, sd, sb, q⟩
  obtain ⟨as, r1⟩ := Dp.reads I d x v hd rx
  have hr : X.A.units + 1 + min (PyData.depthAll bs) d.depth < cLine := by
    have h1 := SeqAt.depth_of_shaped sd
    have h2 : min (PyData.depthAll bs) d.depth ≤ d.depth := Nat.min_le_right _ _
    omega
  rcases hb with hb | hb
  · obtain ⟨as2, r2⟩ := Dp.reads I _ y u hb ry
    exact SeqAt.in_list_reads r2 r1 (canLayAll_of sb) (SeqAt.canLay_of_shaped sd) hr ⟨.bl _, H, I, rfl, q⟩
  · obtain ⟨as2, r2⟩ := Dp.reads I _ y u hb ry
    exact SeqAt.in_tuple_reads r2 r1 (canLayAll_of sb) (SeqAt.canLay_of_shaped sd) hr ⟨.bl _, H, I, rfl, q⟩
theorem op_notInD (hu : X.A.units + 66 < cLine) : OpR X (compareOp .NotIn) (fun x y H Q => ∃ d bs, Dp X.K H x d ∧ (Dp X.K H y (.list bs) ∨ Dp X.K H y (.tuple bs)) ∧ dOk d = true ∧ bs.all dOk = true ∧ Q (.bl (!bs.any fun b => PyData.eqv b d)) H) := by
  intro pins s g H x y v u Q I rx ry ⟨d, bs, hd, hb, sd, sb, q⟩
  obtain ⟨as, r1⟩ := Dp.reads I d x v hd rx
  have hr : X.A.units + 1 + min (PyData.depthAll bs) d.depth < cLine := by
    have h1 := SeqAt.depth_of_shaped sd
    have h2 : min (PyData.depthAll bs) d.depth ≤ d.depth := Nat.min_le_right _ _
    omega
  rcases hb with hb | hb
  · obtain ⟨as2, r2⟩ := Dp.reads I _ y u hb ry
    exact SeqAt.notIn_list_reads r2 r1 (canLayAll_of sb) (SeqAt.canLay_of_shaped sd) hr ⟨.bl _, H, I, rfl, q⟩
  · obtain ⟨as2, r2⟩ := Dp.reads I _ y u hb ry
    exact SeqAt.notIn_tuple_reads r2 r1 (canLayAll_of sb) (SeqAt.canLay_of_shaped sd) hr ⟨.bl _, H, I, rfl, q⟩
/-- the tables -/
theorem reps_val {K : PySem.W.Frag} {S : Hp} {phi : List Addr} (k : L2.Key) : ∀ {vs : List (L2.Key × V)} {xs : List (L2.Key × IV)}, RepKs K S phi vs xs → (hasK k xs = none ∧ valV vs k = none) ∨ ∃ x v, hasK k xs = some x ∧ valV vs k = some v ∧ RepV K S phi v x
  | _, _, .nil => .inl ⟨rfl, rfl⟩
  | (l, v) :: vs, (_, x) :: xs, .cons h r => by
    by_cases e : l = k
    · exact .inr ⟨x, v, by simp [hasK, List.find?_cons, e], by simp [valV, List.find?_cons, e], h⟩
    · have ih := reps_val k r
      have e1 : hasK k ((l, x) :: xs) = hasK k xs := by simp [hasK, List.find?_cons, e]
      have e2 : valV ((l, v) :: vs) k = valV vs k := by simp [valV, List.find?_cons, e]
      rw [e1, e2]
      exact ih
theorem asK_rep {K : PySem.W.Frag} {w : Wd} {g : L2.St} {v : V} {x : IV} {k : L2.Key} (r : RepE K w g v x) (e : asK x = some k) : v = kV k := by
  cases x with
  | int i => cases e; exact r.int
  | str i => cases e; exact r.str
  | _ => cases e
/-- the reading of a comparison on two values -/
def RC (K : PySem.W.Frag) (W : WX) (op : CmpOp) : R2 := fun x y H Q => ∃ w st g a b t, Rel K w st g H ∧ RepE K w g x a ∧ RepE K w g y b ∧ cmpS st op a b = some t ∧ Q (.bl t) H
theorem eqS_cases {st : IS} {a b : IV} {t : Bool} (e : eqS st a b = some t) : (∃ x y, a = .str x ∧ b = .str y ∧ t = decide (x = y)) ∨ ∃ d f, toD st a = some d ∧ toD st b = some f ∧ dOk d = true ∧ dOk f = true ∧ t = PyData.eqv d f := by
  unfold eqS at e
  split at e
  · cases e; exact .inl ⟨_, _, rfl, rfl, rfl⟩
  · obtain ⟨d, e1, e2⟩ := Option.bind_eq_some_iff.mp e
    obtain ⟨f, e3, e4⟩ := Option.bind_eq_some_iff.mp e2
    unfold eqD at e4
    split at e4
    · rename_i h
      obtain ⟨h1, h2⟩ := Bool.and_eq_true_iff.mp h
      exact .inr ⟨d, f, e1, e3, h1, h2, (Option.some.inj e4).symm⟩
    · cases e4
/-- membership by the content -/
theorem inC_cases {K : PySem.W.Frag} {w : Wd} {st : IS} {g : L2.St} {H : Hp} {x y : V} {a b : IV} {t : Bool} (R : Rel K w st g H) (ra : RepE K w g x a) (rb : RepE K w g y b) (e : (cont st b).bind (inC st a) = some t) :
    (∃ d bs, Dp K H x d ∧ (Dp K H y (.list bs) ∨ Dp K H y (.tuple bs)) ∧ dOk d = true ∧ bs.all dOk = true ∧ t = bs.any fun b => PyData.eqv b d) ∨
    ∃ p kvs k, y = .ref p ∧ Rd H p (.dK kvs) ∧ x = kV k ∧ t = (valV kvs k).isSome := by
  obtain ⟨c, e1, e2⟩ := Option.bind_eq_some_iff.mp e
  have h := R.cont rb e1
  have seq : ∀ {ys : List IV} {p : Addr} {vs : List V}, RepVs K w.S w.phi vs ys → inS st a ys = some t → ∃ d bs, Dp K H x d ∧ DpAll K H vs bs ∧ dOk d = true ∧ bs.all dOk = true ∧ t = bs.any fun b => PyData.eqv b d := fun {ys p vs} r q => by
    obtain ⟨d, q1, q2⟩ := Option.bind_eq_some_iff.mp q
    obtain ⟨bs, q3, q4⟩ := Option.bind_eq_some_iff.mp q2
    unfold inD at q4
    split at q4
    · rename_i hh
      obtain ⟨h1, h2⟩ := Bool.and_eq_true_iff.mp hh
      exact ⟨d, bs, R.dp ra q1, dpr_vs R r q3, h1, h2, (Option.some.inj q4).symm⟩
    · cases q4
  cases c with
  | lst ys =>
    obtain ⟨p, vs, rfl, h1, h2⟩ := h
    obtain ⟨d, bs, q1, q2, q3⟩ := seq (p := p) h2 e2
    exact .inl ⟨d, bs, q1, .inl (.lst h1 q2), q3⟩
  | tup ys =>
    obtain ⟨p, vs, rfl, h1, h2⟩ := h
    obtain ⟨d, bs, q1, q2, q3⟩ := seq (p := p) h2 e2
    exact .inl ⟨d, bs, q1, .inr (.tup h1 q2), q3⟩
  | dK ys =>
    obtain ⟨p, vs, rfl, h1, h2⟩ := h
    obtain ⟨k, q1, q2⟩ := Option.map_eq_some_iff.mp e2
    refine .inr ⟨p, vs, k, rfl, h1, asK_rep ra q1, ?_⟩
    rw [← q2]
    rcases reps_val k h2 with ⟨z1, z2⟩ | ⟨_, _, z1, z2, _⟩ <;> rw [z1, z2] <;> rfl
  | _ => cases e2
theorem op_cmpI {op : CmpOp} (hu : X.A.units + 66 < cLine) : OpR X (compareOp op) (RC X.K W op) := by
  intro pins s g0 H x y v u Q I rx ry ⟨w, st, g, a, b, t, R, ra, rb, e, q⟩
  have lt : ∀ {op : CmpOp} {t : Bool}, ltC op a b = some t → ∃ i j, x = .int i ∧ y = .int j ∧ ((op = .Lt ∧ t = decide (i < j)) ∨ (op = .LtE ∧ t = decide (i ≤ j)) ∨ (op = .Gt ∧ t = decide (j < i)) ∨ (op = .GtE ∧ t = decide (j ≤ i))) := fun {op t} z => by
    unfold ltC at z
    split at z <;> first
      | (injection z with z
         exact ⟨_, _, ra.int, rb.int, by simp [z]⟩)
      | cases z
  cases op with
  | Eq =>
    rcases eqS_cases e with ⟨z1, z2, rfl, rfl, rfl⟩ | ⟨d, f, h1, h2, h3, h4, rfl⟩
    · have hx := ra.str
      have hy := rb.str
      subst hx hy
      refine op_eq pins s g0 H _ _ v u Q I rx ry ⟨rfl, ?_⟩
      have ee : decide (V.str z1 = V.str z2) = decide (z1 = z2) := by simp
      rw [ee]; exact q
    · exact op_eqD (by omega) pins s g0 H x y v u Q I rx ry ⟨d, f, R.dp ra h1, R.dp rb h2, h3, h4, q⟩
  | NotEq =>
    obtain ⟨t0, e1, e2⟩ := Option.map_eq_some_iff.mp e
    subst e2
    rcases eqS_cases e1 with ⟨z1, z2, rfl, rfl, rfl⟩ | ⟨d, f, h1, h2, h3, h4, rfl⟩
    · have hx := ra.str
      have hy := rb.str
      subst hx hy
      refine op_ne pins s g0 H _ _ v u Q I rx ry ⟨rfl, ?_⟩
      have ee : decide (V.str z1 = V.str z2) = decide (z1 = z2) := by simp
      rw [ee]; exact q
    · exact op_neD (by omega) pins s g0 H x y v u Q I rx ry ⟨d, f, R.dp ra h1, R.dp rb h2, h3, h4, q⟩
  | Is =>
    have e' : (if isNon b && stor a then some (isNon a) else isB a b) = some t := e
    split at e'
    · rename_i h
      obtain ⟨h1, h2⟩ := Bool.and_eq_true_iff.mp h
      have hy : y = .non := by
        cases b with
        | non => exact rb.non
        | _ => cases h1
      refine op_isN pins s g0 H x y v u Q I rx ry ⟨hy, ?_⟩
      rw [← ra.isNon h2, Option.some.inj e']; exact q
    · obtain ⟨c, d, rfl, rfl, rfl⟩ := isB_cases e'
      exact op_is_bl pins s g0 H x y v u Q I rx ry ⟨c, d, ra.bl, rb.bl, q⟩
  | IsNot =>
    have e' : (if isNon b && stor a then some (!isNon a) else (isB a b).map (!·)) = some t := e
    split at e'
    · rename_i h
      obtain ⟨h1, h2⟩ := Bool.and_eq_true_iff.mp h
      have hy : y = .non := by
        cases b with
        | non => exact rb.non
        | _ => cases h1
      refine op_notN pins s g0 H x y v u Q I rx ry ⟨hy, ?_⟩
      rw [← ra.isNon h2, Option.some.inj e']; exact q
    · obtain ⟨t0, z1, rfl⟩ := Option.map_eq_some_iff.mp e'
      obtain ⟨c, d, rfl, rfl, rfl⟩ := isB_cases z1
      exact op_isnot_bl pins s g0 H x y v u Q I rx ry ⟨c, d, ra.bl, rb.bl, q⟩
  | In =>
    rcases inC_cases R ra rb e with ⟨d, bs, h1, h2, h3, h4, rfl⟩ | ⟨p, kvs, k, rfl, h1, rfl, rfl⟩
    · exact op_inD hu pins s g0 H x y v u Q I rx ry ⟨d, bs, h1, h2, h3, h4, q⟩
    · cases ry
      exact d_in (by omega) I (.inl ⟨kvs, k, h1, rfl, rfl⟩) rx fun s' I' => ⟨.bl _, H, I', rfl, q⟩
  | NotIn =>
    obtain ⟨t0, e1, e2⟩ := Option.map_eq_some_iff.mp e
    subst e2
    rcases inC_cases R ra rb e1 with ⟨d, bs, h1, h2, h3, h4, rfl⟩ | ⟨p, kvs, k, rfl, h1, rfl, rfl⟩
    · exact op_notInD hu pins s g0 H x y v u Q I rx ry ⟨d, bs, h1, h2, h3, h4, q⟩
    · cases ry
      exact d_notIn (by omega) I (.inl ⟨kvs, k, h1, rfl, rfl⟩) rx fun s' I' => ⟨.bl _, H, I', rfl, q⟩
  | Lt =>
    obtain ⟨i, j, h1, h2, h | h | h | h⟩ := lt (op := .Lt) e <;> first | exact absurd h.1 (by decide) | skip
    rw [h.2] at q
    exact op_lt pins s g0 H x y v u Q I rx ry ⟨i, j, h1, h2, q⟩
  | LtE =>
    obtain ⟨i, j, h1, h2, h | h | h | h⟩ := lt (op := .LtE) e <;> first | exact absurd h.1 (by decide) | skip
    rw [h.2] at q
    exact op_le pins s g0 H x y v u Q I rx ry ⟨i, j, h1, h2, q⟩
  | Gt =>
    obtain ⟨i, j, h1, h2, h | h | h | h⟩ := lt (op := .Gt) e <;> first | exact absurd h.1 (by decide) | skip
    rw [h.2] at q
    exact op_gt pins s g0 H x y v u Q I rx ry ⟨i, j, h1, h2, q⟩
  | GtE =>
    obtain ⟨i, j, h1, h2, h | h | h | h⟩ := lt (op := .GtE) e <;> first | exact absurd h.1 (by decide) | skip
    rw [h.2] at q
    exact op_ge pins s g0 H x y v u Q I rx ry ⟨i, j, h1, h2, q⟩
theorem i_cmp {op : CmpOp} (hu : X.A.units + 66 < cLine) (ha : PEr X W a fa) (hb : PEr X W b fb) (hm : behindInMarks op b = false) :
    PEr X W (.Compare a [op] [b] pos) fun st => (vOf (fa st)).bind fun x st => (vOf (fb st)).bind fun y st => Out.of st ((cmpS st op x y).map fun c => .v (.bl c)) :=
  PE.imp (pe_cmpR (op_cmpI (W := W) hu) (toV ha) (toV hb) hm) fun g H Q ⟨w, st, R, p⟩ => by
    refine ⟨w, st, R, ?_⟩
    refine Post.bind p fun x st1 _ w1 H1 v l1 R1 r1 q1 => ⟨w1, st1, R1, ?_⟩
    refine Post.bind q1 fun y st2 _ w2 H2 u l2 R2 r2 q2 => ?_
    obtain ⟨r, e, q⟩ := q2.of
    obtain ⟨t, e1, e2⟩ := Option.map_eq_some_iff.mp e
    subst e2
    exact ⟨w2, st2, g, x, y, t, R2, RepE.mono l2 r1, r2, e1, q.okV R2 (.bl t)⟩
theorem i_chain {op op2 : CmpOp} (hu : X.A.units + 66 < cLine) (ha : PEr X W a fa) (hb : PEr X W b fb) (hc : PEr X W c fc) (hm : lastMarks [op, op2] [b, c] = false) :
    PEr X W (.Compare a [op, op2] [b, c] pos) fun st => (vOf (fa st)).bind fun x st => (vOf (fb st)).bind fun y st => (Out.of st (cmpS st op x y)).bind fun t st =>
      if t = true then (vOf (fc st)).bind fun z st => Out.of st ((cmpS st op2 y z).map fun c => .v (.bl c)) else .ok (.v (.bl false)) st :=
  PE.imp (pe_chain (op_cmpI (W := W) hu) (op_cmpI (W := W) hu) (toV ha) (toV hb) (toV hc) (hm := hm)) fun g H Q ⟨w, st, R, p⟩ => by
    refine ⟨w, st, R, ?_⟩
    refine Post.bind p fun x st1 _ w1 H1 v l1 R1 r1 q1 => ⟨w1, st1, R1, ?_⟩
    refine Post.bind q1 fun y st2 _ w2 H2 u l2 R2 r2 q2 => ?_
    obtain ⟨t, e, q⟩ := q2.ofB
    refine ⟨w2, st2, g, x, y, t, R2, RepE.mono l2 r1, r2, e, t, rfl, ?_⟩
    cases t with
    | true =>
      refine ⟨w2, st2, R2, ?_⟩
      refine Post.bind q fun z st3 _ w3 H3 u3 l3 R3 r3 q3 => ?_
      obtain ⟨r, e4, q4⟩ := q3.of
      obtain ⟨t, e1, e2⟩ := Option.map_eq_some_iff.mp e4
      subst e2
      exact ⟨w3, st3, g, y, z, t, R3, RepE.mono l3 r2, r3, e1, q4.okV R3 (.bl t)⟩
    | false => exact q.okV R2 (.bl false)
end
end Ip

/-! Ip4: truth, tests, displays, subscripts, slices. -/
namespace Ip
open PySem PySem.Spec PyProof.Rows L2

/-! ### truth -/
section
variable {X : Cx} {W : WX}
theorem tru_I : TruR X (fun x H Q => ∃ w st g a k, Rel X.K w st g H ∧ RepE X.K w g x a ∧ truth st a = some k ∧ Q k H) := by
  intro pins s σ H x v Q I rx ⟨w, st, g, a, k, R, r, e, q⟩
  obtain ⟨c, e1, e2⟩ := Option.bind_eq_some_iff.mp e
  have h := R.cont r e1
  cases c with
  | non => cases e2; cases (show x = .non from h); exact tru_ok pins s σ H _ v Q I rx ⟨_, rfl, q⟩
  | bl b => cases (show x = .bl b from h); cases e2; exact tru_ok pins s σ H _ v Q I rx ⟨_, rfl, q⟩
  | int b => cases (show x = .int b from h); cases e2; exact tru_ok pins s σ H _ v Q I rx ⟨_, rfl, q⟩
  | lst xs =>
    cases e2
    obtain ⟨p, vs, rfl, h1, h2⟩ := h
    refine tru_ok pins s σ H _ v Q I rx ⟨_, .inl ⟨vs, h1, rfl⟩, ?_⟩
    have : vs.isEmpty = xs.isEmpty := by have := h2.length; cases vs <;> cases xs <;> simp_all
    rw [this]; exact q
  | tup xs =>
    cases e2
    obtain ⟨p, vs, rfl, h1, h2⟩ := h
    refine tru_ok pins s σ H _ v Q I rx ⟨_, .inr (.inl ⟨vs, h1, rfl⟩), ?_⟩
    have : vs.isEmpty = xs.isEmpty := by have := h2.length; cases vs <;> cases xs <;> simp_all
    rw [this]; exact q
  | dK xs =>
    cases e2
    obtain ⟨p, vs, rfl, h1, h2⟩ := h
    cases rx
    refine d_truth I h1 fun s' I' => ⟨H, I', ?_⟩
    have : vs.isEmpty = xs.isEmpty := by have := h2.length; cases vs <;> cases xs <;> simp_all
    rw [this]; exact q
  | _ => cases e2
end

section
variable {X : Cx} {a b c e : Expr} {W : WX} {pos : Pos} {f fa fb fc : IS → Out RV}
theorem tOf_v (o : Out RV) : tOf o = (vOf o).bind fun x st => Out.of st (truth st x) := by cases o <;> rfl
/-- the truth of a value -/
theorem ti_truth {K : PySem.W.Frag} {g : L2.St} {H : Hp} {Q : Bool → Hp → Prop} (h : TI K W rI (fun st => tOf (f st)) g H Q) :
    TI K W rE (fun st => vOf (f st)) g H (fun x H' => ∃ w st g a k, Rel K w st g H' ∧ RepE K w g x a ∧ truth st a = some k ∧ Q k H') := by
  obtain ⟨w, st, R, p⟩ := h
  have p' : Post K (rI K g) w W g Q ((vOf (f st)).bind fun x st => Out.of st (truth st x)) := by rw [← tOf_v]; exact p
  refine ⟨w, st, R, Post.bind p' fun x st1 _ w1 H1 v l R1 r q => ?_⟩
  obtain ⟨k, e, q⟩ := q.of
  exact ⟨w1, st1, g, x, k, R1, r, e, q.ok R1 rfl⟩
theorem t_plain (h : PEr X W e f) (he : ∀ whole, isTrue e X.env whole = (do let v ← whole; standAt e.pos; holding [v] (truthy v))) : PTi X W e fun st => tOf (f st) :=
  ⟨fun pins s σ H Q I q => isTrue_plain (thn ((toV h).run pins s σ H _ I (ti_truth q)) fun v s1 ⟨x, H1, I1, r, z⟩ => tru_I pins s1 σ H1 x v Q I1 r z) (he _)⟩
/-- a test whose value is a bool -/
theorem ti_test {K : PySem.W.Frag} {g : L2.St} {H : Hp} {Q : Bool → Hp → Prop} (hb : ∀ st r st', f st = .ok r st' → ∃ c, r = .v (.bl c)) (h : TI K W rI (fun st => tOf (f st)) g H Q) :
    TI K W rR f g H (fun x H' => ∃ k, x = .bl k ∧ Q k H') := by
  obtain ⟨w, st, R, p⟩ := h
  refine ⟨w, st, R, ?_⟩
  have p' : Post K (rI K g) w W g Q ((f st).bind fun r st => Out.of st (truth st r.get)) := p
  cases ef : f st with
  | ok r st1 =>
    obtain ⟨c, rfl⟩ := hb _ _ _ ef
    rw [ef] at p'
    exact fun w1 H1 v l R1 rr => ⟨c, RepE.bl (g := g) rr, p' w1 H1 c l R1 rfl⟩
  | exc c fs st1 =>
    rw [ef] at p'
    exact p'
  | bad =>
    rw [ef] at p'
    exact p'
/-! ### and, or, not, if-else -/
abbrev PWi (X : Cx) (W : WX) (e : Expr) (f : IS → Out Bool) : Prop := PW X e (TI X.K W rI f)
theorem PW.imp {t t' : TT} (h : PW X e t) (i : ∀ g H Q, t' g H Q → t g H Q) : PW X e t' := ⟨fun wh pins s g H Q I q => h.run wh pins s g H Q I (i g H Q q)⟩
def booF (op : BoolOp) (fa fb : IS → Out RV) : IS → Out RV := fun st => (vOf (fa st)).bind fun x st => (Out.of st (truth st x)).bind fun t st =>
  if t = stops op then .ok (.v x) st else (vOf (fb st)).bind fun y st => .ok (.v y) st
theorem vv_eq (o : Out RV) : tOf ((vOf o).bind fun y st => .ok (.v y) st) = tOf o := by cases o <;> rfl
theorem tOf_and (st : IS) : tOf (booF .And fa fb st) = (tOf (fa st)).bind fun t st => if t = true then tOf (fb st) else .ok false st := by
  unfold booF
  cases h : fa st with
  | ok r s1 =>
    show tOf ((Out.of s1 (truth s1 r.get)).bind _) = (Out.of s1 (truth s1 r.get)).bind _
    cases h2 : truth s1 r.get with
    | none => rfl
    | some t =>
      cases t
      · show Out.of s1 (truth s1 r.get) = _
        rw [h2]; rfl
      · exact vv_eq _
  | exc c fs s => rfl
  | bad => rfl
theorem tOf_or (st : IS) : tOf (booF .Or fa fb st) = (tOf (fa st)).bind fun t st => if t = true then .ok true st else tOf (fb st) := by
  unfold booF
  cases h : fa st with
  | ok r s1 =>
    show tOf ((Out.of s1 (truth s1 r.get)).bind _) = (Out.of s1 (truth s1 r.get)).bind _
    cases h2 : truth s1 r.get with
    | none => rfl
    | some t =>
      cases t
      · exact vv_eq _
      · show Out.of s1 (truth s1 r.get) = _
        rw [h2]; rfl
  | exc c fs s => rfl
  | bad => rfl
theorem t_boo1 {op : BoolOp} (ha : PTi X W a fun st => tOf (fa st)) : PWi X W (.BoolOp op [a] pos) fun st => tOf (fa st) := by
  cases op
  · exact pw_and1 ha
  · exact pw_or1 ha
theorem t_boo {op : BoolOp} {rest : List Expr} (ha : PTi X W a fun st => tOf (fa st)) (hb : PWi X W (.BoolOp op (b :: rest) pos) fun st => tOf (fb st)) :
    PWi X W (.BoolOp op (a :: b :: rest) pos) fun st => tOf (booF op fa fb st) := by
  cases op
  · refine PW.imp (pw_and ha hb) fun g H Q ⟨w, st, R, p⟩ => ?_
    have p' : Post X.K (rI X.K g) w W g Q ((tOf (fa st)).bind fun t st => if t = true then tOf (fb st) else .ok false st) := by rw [← tOf_and]; exact p
    refine ⟨w, st, R, Post.bind p' fun t st1 _ w1 H1 v l R1 r q => ?_⟩
    cases (show v = t from r)
    cases t
    · exact q.ok R1 rfl
    · exact ⟨w1, st1, R1, q⟩
  · refine PW.imp (pw_or ha hb) fun g H Q ⟨w, st, R, p⟩ => ?_
    have p' : Post X.K (rI X.K g) w W g Q ((tOf (fa st)).bind fun t st => if t = true then .ok true st else tOf (fb st)) := by rw [← tOf_or]; exact p
    refine ⟨w, st, R, Post.bind p' fun t st1 _ w1 H1 v l R1 r q => ?_⟩
    cases (show v = t from r)
    cases t
    · exact ⟨w1, st1, R1, q⟩
    · exact q.ok R1 rfl
theorem i_boo1 {op : BoolOp} (ha : PEr X W a fa) : PEr X W (.BoolOp op [a] pos) fa := pe_one ha
theorem i_boo {op : BoolOp} {rest : List Expr} (ha : PEr X W a fa) (hb : PEr X W (.BoolOp op (b :: rest) pos) fb) : PEr X W (.BoolOp op (a :: b :: rest) pos) (booF op fa fb) := by
  have step : ∀ {g H Q} {w : Wd} {st : IS}, Rel X.K w st g H → Post X.K (rR X.K g) w W g Q (booF op fa fb st) →
      TI X.K W rE (fun st => vOf (fa st)) g H fun v H1 => ∃ w st g' x t, Rel X.K w st g' H1 ∧ RepE X.K w g' v x ∧ truth st x = some t ∧
        (if t = stops op then Q v H1 else TI X.K W rE (fun st => vOf (fb st)) g H1 Q) := fun {g H Q w st} R p => by
    refine ⟨w, st, R, Post.bind (show Post X.K (rR X.K g) w W g Q ((vOf (fa st)).bind _) from p) fun x st1 _ w1 H1 v l R1 r q => ?_⟩
    obtain ⟨t, e, q⟩ := q.ofB
    refine ⟨w1, st1, g, x, t, R1, r, e, ?_⟩
    by_cases ht : t = stops op
    · rw [if_pos ht] at q
      rw [if_pos ht]; exact q.okE R1 r
    · rw [if_neg ht] at q
      rw [if_neg ht]
      refine ⟨w1, st1, R1, Post.bind q fun y st2 _ w2 H2 u l2 R2 r2 q2 => q2.okE R2 r2⟩
  refine ⟨fun pins s σ H Q I ⟨w, st, R, p⟩ => ?_⟩
  cases op
  · exact BoolOp_and (thn ((toV ha).run pins s σ H _ I (step R p)) fun v s1 ⟨x, H1, I1, r, w1, st1, g1, a1, t, R1, r1, e1, q⟩ =>
      thn (tru_I pins s1 σ H1 x v (fun k H2 => H2 = H1 ∧ k = t) I1 r ⟨w1, st1, g1, a1, t, R1, r1, e1, rfl, rfl⟩) fun k s2 ⟨H2, I2, eH, ek⟩ => by
        subst eH ek
        cases k
        · exact ⟨x, H2, I2, r, q⟩
        · exact (toV hb).run pins s2 σ H2 Q I2 q)
  · exact BoolOp_or (thn ((toV ha).run pins s σ H _ I (step R p)) fun v s1 ⟨x, H1, I1, r, w1, st1, g1, a1, t, R1, r1, e1, q⟩ =>
      thn (tru_I pins s1 σ H1 x v (fun k H2 => H2 = H1 ∧ k = t) I1 r ⟨w1, st1, g1, a1, t, R1, r1, e1, rfl, rfl⟩) fun k s2 ⟨H2, I2, eH, ek⟩ => by
        subst eH ek
        cases k
        · exact (toV hb).run pins s2 σ H2 Q I2 q
        · exact ⟨x, H2, I2, r, q⟩)
theorem i_not (ha : PEr X W a fa) : PEr X W (.UnaryOp .Not a pos) fun st => (tOf (fa st)).bind fun c st => .ok (.v (.bl (!c))) st := by
  refine ⟨fun pins s σ H Q I ⟨w, st, R, p⟩ => ?_⟩
  have h : TI X.K W rI (fun st => tOf (fa st)) σ H fun c H1 => Q (.bl (!c)) H1 :=
    ⟨w, st, R, Post.bind p fun c st1 _ w1 H1 v l R1 r q => by cases (show v = c from r); exact q.okV R1 (.bl _)⟩
  refine UnaryOp_ (thn ((toV ha).run pins s σ H _ I (ti_truth h)) fun v s1 ⟨x, H1, I1, r, z⟩ => ?_)
  exact not_of (thn (tru_I pins s1 σ H1 x v _ I1 r z) fun k s2 ⟨H2, I2, q⟩ => ⟨.bl (!k), H2, I2, rfl, q⟩)
theorem t_not (ha : PTi X W a fun st => tOf (fa st)) : PTi X W (.UnaryOp .Not a pos) fun st => tOf ((tOf (fa st)).bind fun c st => .ok (.v (.bl (!c))) st) :=
  PT.imp (pt_not ha) fun g H Q ⟨w, st, R, p⟩ => by
    have p' : Post X.K (rI X.K g) w W g Q ((tOf (fa st)).bind fun c st => .ok (!c) st) := by
      have e : tOf ((tOf (fa st)).bind fun c st => Out.ok (RV.v (IV.bl (!c))) st) = (tOf (fa st)).bind fun c st => .ok (!c) st := by cases tOf (fa st) <;> rfl
      rw [← e]; exact p
    exact ⟨w, st, R, Post.bind p' fun c st1 _ w1 H1 v l R1 r q => by cases (show v = c from r); exact q.ok R1 rfl⟩
theorem i_ife (hc : PTi X W c fun st => tOf (fc st)) (ha : PEr X W a fa) (hb : PEr X W b fb) :
    PEr X W (.IfExp c a b pos) fun st => (tOf (fc st)).bind fun c st => if c = true then (vOf (fa st)).bind fun y st => .ok (.v y) st else (vOf (fb st)).bind fun y st => .ok (.v y) st :=
  PE.imp (pe_ifExp hc (toV ha) (toV hb)) fun g H Q ⟨w, st, R, p⟩ => by
    refine ⟨w, st, R, Post.bind p fun c st1 _ w1 H1 v l R1 r q => ?_⟩
    cases (show v = c from r)
    cases c
    · exact ⟨w1, st1, R1, Post.bind q fun y st2 _ w2 H2 u l2 R2 r2 q2 => q2.okE R2 r2⟩
    · exact ⟨w1, st1, R1, Post.bind q fun y st2 _ w2 H2 u l2 R2 r2 q2 => q2.okE R2 r2⟩
end
end Ip

/-! Ip5: displays, subscripts, slices, built-in calls, methods. -/
namespace Ip
open PySem PySem.Spec PyProof.Rows L2
section
variable {X : Cx} {a b c e : Expr} {W : WX} {pos : Pos} {f fa fb fc : IS → Out RV} {es : List Expr} {k : IS → Out (List IV)}
/-! ### displays -/
theorem i_tup {j : Nat} (h : PAi X W es k) : PEr X W (.Tuple es j pos) fun st => (k st).bind fun xs st => if small xs.length then .ok (.v (.tup xs)) st else .bad :=
  PE.imp (pe_tup h) fun g H Q ⟨w, st, R, p⟩ => by
    refine ⟨w, st, R, Post.bind p fun xs st1 _ w1 H1 vs l R1 r q => ?_⟩
    by_cases hs : small xs.length = true
    · rw [if_pos hs] at q
      have hl : vs.length = xs.length := RepVs.length r
      refine ⟨by rw [hl]; exact small_line hs, fun p n => ?_⟩
      obtain ⟨R2, lo⟩ := R1.laid n (.tup vs)
      obtain ⟨R3, l3⟩ := R2.fix lo upd_same
      exact (q.le l3).okV R3 (.tup (.inl (.inl upd_same)) (RepVs.mono l3.h r))
    · rw [if_neg hs] at q
      exact q.elim
theorem i_lst (h : PAi X W es k) : PEr X W (.List es pos) fun st => (k st).bind fun xs st => if small xs.length then .ok (.fr (.lst xs)) st else .bad :=
  PE.imp (pe_lst h) fun g H Q ⟨w, st, R, p⟩ => by
    refine ⟨w, st, R, Post.bind p fun xs st1 _ w1 H1 vs l R1 r q => ?_⟩
    by_cases hs : small xs.length = true
    · rw [if_pos hs] at q
      have hl : vs.length = xs.length := RepVs.length r
      refine ⟨by rw [hl]; exact small_line hs, fun p n => ?_⟩
      exact q.okN R1 n ⟨vs, upd_same, r⟩
    · rw [if_neg hs] at q
      exact q.elim
theorem i_dict0 : PEr X W (.Dict [] [] pos) fun st => .ok (.fr (.dK [])) st :=
  PE.imp pe_dnewK fun g H Q ⟨w, st, R, p⟩ => fun a n => Post.okN p R n ⟨[], upd_same, .nil⟩
/-! ### subscripts -/
theorem ix_dK (hu : X.A.units + 1 < cLine) : IxR X (fun x y H Q => ∃ p kvs k v, x = .ref p ∧ Rd H p (.dK kvs) ∧ y = kV k ∧ valV kvs k = some v ∧ Q v H) := by
  intro value slice pins s σ H x y v u Q I rx ry ⟨p, kvs, k, z, ex, hd, ey, hv, q⟩ hs
  subst ex ey
  cases rx
  have dg : DGet H p (kV k) (some z) := .inl ⟨kvs, k, hd, rfl, hv.symm⟩
  exact tail_any (dict_typeIs I dg) slot_dict_getitem.lookup (d_getItem hu I dg ry fun w' s' I' r => ⟨z, H, I', r, q⟩) hs
def RX (K : PySem.W.Frag) (W : WX) : R2 := fun x y H Q => ∃ w st g a b c z, Rel K w st g H ∧ RepE K w g x a ∧ RepE K w g y b ∧ cont st a = some c ∧ subC c b = some z ∧ Post K (rR K g) w W g Q (.ok (.v z) st)
theorem atI_rep {K : PySem.W.Frag} {S : Hp} {phi : List Addr} {vs : List V} {xs : List IV} {i : Int} {z : IV} (r : RepVs K S phi vs xs) (e : L2.atI xs i = some z) : ∃ v, L2.atI vs i = some v ∧ RepV K S phi v z := by
  obtain ⟨j, e1, e2⟩ := Option.bind_eq_some_iff.mp e
  obtain ⟨v, h1, h2⟩ := r.get e2
  refine ⟨v, ?_, h2⟩
  unfold L2.atI
  rw [r.length, e1]; exact h1
theorem ix_I (hu : X.A.units + 1 < cLine) : IxR X (RX X.K W) := by
  intro value slice pins s σ H x y v u Q I rx ry ⟨w, st, g, a, b, c, z, R, ra, rb, e1, e2, q⟩ hs
  have h := R.cont ra e1
  cases c with
  | lst xs =>
    cases b with
    | int i =>
      obtain ⟨p, vs, rfl, h1, h2⟩ := h
      obtain ⟨z', e3, r3⟩ := atI_rep h2 e2
      exact ix_list value slice pins s σ H _ y v u Q I rx ry ⟨p, vs, i, z', rfl, rb.int, h1, e3, q.okV R r3⟩ hs
    | _ => cases e2
  | tup xs =>
    cases b with
    | int i =>
      obtain ⟨p, vs, rfl, h1, h2⟩ := h
      obtain ⟨z', e3, r3⟩ := atI_rep h2 e2
      exact ix_tup value slice pins s σ H _ y v u Q I rx ry ⟨p, vs, i, z', rfl, rb.int, h1, e3, q.okV R r3⟩ hs
    | _ => cases e2
  | dK xs =>
    obtain ⟨p, vs, rfl, h1, h2⟩ := h
    obtain ⟨k, e3, e4⟩ := Option.bind_eq_some_iff.mp (show (asK b).bind (fun k => hasK k xs) = some z from e2)
    rcases reps_val k h2 with ⟨z1, z2⟩ | ⟨x1, v1, z1, z2, z3⟩
    · rw [z1] at e4; cases e4
    · rw [z1] at e4
      cases e4
      exact ix_dK hu value slice pins s σ H _ y v u Q I rx ry ⟨p, vs, k, v1, rfl, h1, asK_rep rb e3, z2, q.okV R z3⟩ hs
  | _ => cases e2
theorem i_sub (hu : X.A.units + 1 < cLine) (ha : PEr X W a fa) (hb : PEr X W b fb) (hs : PlainIx b) :
    PEr X W (.Subscript a b pos) fun st => (vOf (fa st)).bind fun x st => (vOf (fb st)).bind fun k st => Out.of st ((subS st x k).map .v) :=
  PE.imp (pe_ix (ix_I (W := W) hu) (toV ha) (toV hb) hs) fun g H Q ⟨w, st, R, p⟩ => by
    refine ⟨w, st, R, Post.bind p fun x st1 _ w1 H1 v l1 R1 r1 q1 => ⟨w1, st1, R1, Post.bind q1 fun y st2 _ w2 H2 u l2 R2 r2 q2 => ?_⟩⟩
    obtain ⟨r, e, q⟩ := q2.of
    obtain ⟨z, e1, e2⟩ := Option.map_eq_some_iff.mp e
    subst e2
    obtain ⟨c, e3, e4⟩ := Option.bind_eq_some_iff.mp e1
    exact ⟨w2, st2, g, x, y, c, z, R2, RepE.mono l2 r1, r2, e3, e4, q⟩
/-! ### slices -/
abbrev POi (X : Cx) (W : WX) (e : Option Expr) (f : IS → Out (Option Int)) : Prop := PO X e (Ip.TI X.K W rI f)
theorem PO.imp {o : Option Expr} {t t' : TO} (h : PO X o t) (i : ∀ g H Q, t' g H Q → t g H Q) : PO X o t' := ⟨fun pins s g H Q I q => h.run pins s g H Q I (i g H Q q)⟩
theorem o_none : POi X W none fun st => .ok none st := PO.imp po_none fun g H Q ⟨w, st, R, p⟩ => p.ok R rfl
theorem o_some (h : PEr X W e f) : POi X W (some e) fun st => (vOf (f st)).bind fun x st => Out.of st ((asI x).map some) :=
  PO.imp (po_some (toV h)) fun g H Q ⟨w, st, R, p⟩ => by
    refine ⟨w, st, R, Post.bind p fun x st1 _ w1 H1 v l1 R1 r1 q1 => ?_⟩
    obtain ⟨o, e, q⟩ := q1.of
    obtain ⟨i, e1, e2⟩ := Option.map_eq_some_iff.mp e
    subst e2
    cases x with
    | int j => cases e1; exact ⟨_, r1.int, q.ok R1 rfl⟩
    | _ => cases e1
theorem i_slc {lo hi : Option Expr} {fl fh : IS → Out (Option Int)} {p2 : Pos} (ha : PEr X W a fa) (hl : POi X W lo fl) (hh : POi X W hi fh) :
    PEr X W (.Subscript a (.Slice lo hi none p2) pos) fun st => (vOf (fa st)).bind fun x st => (fl st).bind fun l st => (fh st).bind fun u st => Out.of st (slcS st x l u) :=
  PE.imp (pe_slice sl_list (toV ha) hl hh) fun g H Q ⟨w, st, R, p⟩ => by
    refine ⟨w, st, R, Post.bind p fun x st1 _ w1 H1 v l1 R1 r1 q1 => ⟨w1, st1, R1, Post.bind q1 fun o st2 _ w2 H2 u l2 R2 r2 q2 => ⟨w2, st2, R2, Post.bind q2 fun o' st3 _ w3 H3 u3 l3 R3 r3 q3 => ?_⟩⟩⟩
    cases (show u = o from r2)
    cases (show u3 = o' from r3)
    obtain ⟨r, e, q⟩ := q3.of
    obtain ⟨xs, e1, e2⟩ := Option.map_eq_some_iff.mp e
    subst e2
    obtain ⟨p, vs, rfl, h1, h2⟩ := R3.seqL (RepE.mono (l2.trans l3) r1) e1
    refine ⟨p, vs, rfl, h1, fun b n => q.okN R3 n ⟨_, upd_same, ?_⟩⟩
    unfold cutI cutV
    rw [h2.length]
    exact (h2.drop _).take _
theorem i_rev {k1 : Nat} {p1 p2 p3 : Pos} (ha : PEr X W a fa) : PEr X W (.Subscript a (.Slice none none (some (.UnaryOp .USub (.Constant (.int 1) k1 p1) p2)) p3) pos) fun st => (vOf (fa st)).bind fun x st => Out.of st ((seqL st x).map fun xs => .fr (.lst xs.reverse)) :=
  PE.imp (pe_revL (toV ha)) fun g H Q ⟨w, st, R, p⟩ => by
    refine ⟨w, st, R, Post.bind p fun x st1 _ w1 H1 v l1 R1 r1 q1 => ?_⟩
    obtain ⟨r, e, q⟩ := q1.of
    obtain ⟨xs, e1, e2⟩ := Option.map_eq_some_iff.mp e
    subst e2
    obtain ⟨p, vs, rfl, h1, h2⟩ := R1.seqL r1 e1
    exact ⟨p, vs, rfl, h1, fun b n => q.okN R1 n ⟨_, upd_same, h2.reverse⟩⟩
end
end Ip

/-! Ip6: built-in calls of one argument. -/
namespace Ip
open PySem PySem.Spec PyProof.Rows L2
def noStar : Expr → Bool
  | .Starred _ _ => false
  | _ => true
theorem star1 {e : Expr} (h : noStar e = true) (es : List Expr) (env : Env) : starEach (e :: es) env = (false, eval e env) :: starEach es env := by
  cases e <;> first | rfl | cases h
theorem stars_any : ∀ {es : List Expr} (h : es.all noStar = true) (pos : Pos) (env : Env), (backTo pos (starEach es env)).any (·.1) = false
  | [], _, _, _ => rfl
  | e :: es, h, pos, env => by
    obtain ⟨h1, h2⟩ := Bool.and_eq_true_iff.mp (show (noStar e && es.all noStar) = true from h)
    rw [star1 h1]
    exact stars_any h2 pos env
theorem stars_all : ∀ {es : List Expr} (h : es.all noStar = true) (pos : Pos) (env : Env), (backTo pos (starEach es env)).all (fun x => !x.1) = true
  | [], _, _, _ => rfl
  | e :: es, h, pos, env => by
    obtain ⟨h1, h2⟩ := Bool.and_eq_true_iff.mp (show (noStar e && es.all noStar) = true from h)
    rw [star1 h1]
    exact stars_all h2 pos env
section
variable {X : Cx} {a b c e : Expr} {W : WX} {pos p : Pos} {f fa fb fc : IS → Out RV} {es : List Expr} {k : IS → Out (List IV)}
/-- the reading of one argument, of two -/
theorem pa_one (h : PEr X W e f) (hs : noStar e = true) : PA X [e] (fun g H Q => Ip.TI X.K W rE (fun st => vOf (f st)) g H fun v H1 => Q [v] H1) :=
  PA.imp (pa_cons (toV h) pa_nil (star1 hs _ _)) fun g H Q q => q
theorem pa_two (ha : PEr X W a fa) (hb : PEr X W b fb) (hs : noStar a = true) (hs2 : noStar b = true) :
    PA X [a, b] (fun g H Q => Ip.TI X.K W rE (fun st => vOf (fa st)) g H fun v H1 => Ip.TI X.K W rE (fun st => vOf (fb st)) g H1 fun u H2 => Q [v, u] H2) :=
  PA.imp (pa_cons (toV ha) (pa_cons (toV hb) pa_nil (star1 hs2 _ _)) (star1 hs _ _)) fun g H Q q => q
/-- the reading of a built-in function of one value -/
def RF (K : PySem.W.Frag) (W : WX) (r : IS → IV → Option RV) : List V → Hp → VK → Prop := fun xs H Q => ∃ w st g v x, xs = [v] ∧ Rel K w st g H ∧ RepE K w g v x ∧ Post K (rR K g) w W g Q (Out.of st (r st x))
theorem cr_len : CallR X (.builtin "len") (RF X.K W fun st x => bi1 st .len x) := by
  intro pins s σ H xs us Q I rs ⟨w, st, g, v, x, ex, R, r, p⟩
  subst ex
  obtain ⟨rv, e, q⟩ := p.of
  obtain ⟨n, e1, e2⟩ := Option.map_eq_some_iff.mp e
  subst e2
  obtain ⟨c, e3, e4⟩ := Option.bind_eq_some_iff.mp e1
  have h := R.cont r e3
  cases c with
  | lst ys =>
    obtain ⟨p, vs, rfl, h1, h2⟩ := h
    cases e4
    exact call_len_seq pins s σ H _ us Q I rs ⟨p, vs, rfl, .inl h1, by rw [h2.length]; exact q.okV R (.int _)⟩
  | tup ys =>
    obtain ⟨p, vs, rfl, h1, h2⟩ := h
    cases e4
    exact call_len_seq pins s σ H _ us Q I rs ⟨p, vs, rfl, .inr h1, by rw [h2.length]; exact q.okV R (.int _)⟩
  | dK ys =>
    obtain ⟨p, vs, rfl, h1, h2⟩ := h
    cases e4
    rw [Vals.ref1 rs]
    exact d_len I h1 fun t s' I' => ⟨.int vs.length, H, I', ⟨t, rfl⟩, by rw [h2.length]; exact q.okV R (.int _)⟩
  | str y =>
    cases (show v = .str y from h)
    have e4' : (if small y.length then some (y.length : Int) else none) = some n := e4
    split at e4'
    · rename_i hs
      cases e4'
      exact call_len_str pins s σ H _ us Q I rs ⟨y, rfl, small_line hs, q.okV R (.int _)⟩
    · cases e4'
  | _ => cases e4
theorem cr_list : CallR X (.type "list") (RF X.K W fun st x => bi1 st .list x) := by
  intro pins s σ H xs us Q I rs ⟨w, st, g, v, x, ex, R, r, p⟩
  subst ex
  obtain ⟨rv, e, q⟩ := p.of
  obtain ⟨n, e1, e2⟩ := Option.map_eq_some_iff.mp e
  subst e2
  obtain ⟨c, e3, e4⟩ := Option.bind_eq_some_iff.mp e1
  have h := R.cont r e3
  cases c with
  | lst ys =>
    obtain ⟨p, vs, rfl, h1, h2⟩ := h
    cases e4
    exact call_list_of pins s σ H _ us Q I rs ⟨p, vs, rfl, .inl h1, fun l n => q.okN R n ⟨_, upd_same, h2⟩⟩
  | tup ys =>
    obtain ⟨p, vs, rfl, h1, h2⟩ := h
    cases e4
    exact call_list_of pins s σ H _ us Q I rs ⟨p, vs, rfl, .inr h1, fun l n => q.okN R n ⟨_, upd_same, h2⟩⟩
  | _ => cases e4
theorem reps_bools {K : PySem.W.Frag} {S : Hp} {phi : List Addr} : ∀ {vs : List V} {xs : List IV} {bs : List Bool}, RepVs K S phi vs xs → bools? xs = some bs → vs = bs.map V.bl
  | _, [], _, .nil, e => by cases e; rfl
  | _, .bl b :: xs, _, .cons (.bl _) r, e => by
    obtain ⟨bs, e1, e2⟩ := Option.map_eq_some_iff.mp (show (bools? xs).map (b :: ·) = some _ from e)
    subst e2
    rw [reps_bools r e1]; rfl
  | _, .non :: _, _, .cons .non _, e => by cases e
  | _, .int _ :: _, _, .cons (.int _) _, e => by cases e
  | _, .str _ :: _, _, .cons (.str _) _, e => by cases e
  | _, .ty _ :: _, _, .cons (.ty _) _, e => by cases e
  | _, .glob _ :: _, _, .cons (.glob _) _, e => by cases e
  | _, .ref _ :: _, _, .cons (.ref _) _, e => by cases e
  | _, .tup _ :: _, _, .cons (.tup _ _) _, e => by cases e
  | _, .lst _ :: _, _, .cons (.lst _ _) _, e => by cases e
  | _, .dK _ :: _, _, .cons (.dK _ _) _, e => by cases e
  | _, .dT _ :: _, _, .cons (.dT _ _) _, e => by cases e
  | _, .obj _ _ :: _, _, .cons (.obj _ _) _, e => by cases e
theorem reps_ints {K : PySem.W.Frag} {S : Hp} {phi : List Addr} : ∀ {vs : List V} {xs : List IV} {bs : List Int}, RepVs K S phi vs xs → ints? xs = some bs → vs = bs.map V.int
  | _, [], _, .nil, e => by cases e; rfl
  | _, .int b :: xs, _, .cons (.int _) r, e => by
    obtain ⟨bs, e1, e2⟩ := Option.map_eq_some_iff.mp (show (ints? xs).map (b :: ·) = some _ from e)
    subst e2
    rw [reps_ints r e1]; rfl
  | _, .non :: _, _, .cons .non _, e => by cases e
  | _, .bl _ :: _, _, .cons (.bl _) _, e => by cases e
  | _, .str _ :: _, _, .cons (.str _) _, e => by cases e
  | _, .ty _ :: _, _, .cons (.ty _) _, e => by cases e
  | _, .glob _ :: _, _, .cons (.glob _) _, e => by cases e
  | _, .ref _ :: _, _, .cons (.ref _) _, e => by cases e
  | _, .tup _ :: _, _, .cons (.tup _ _) _, e => by cases e
  | _, .lst _ :: _, _, .cons (.lst _ _) _, e => by cases e
  | _, .dK _ :: _, _, .cons (.dK _ _) _, e => by cases e
  | _, .dT _ :: _, _, .cons (.dT _ _) _, e => by cases e
  | _, .obj _ _ :: _, _, .cons (.obj _ _) _, e => by cases e
theorem cr_allI (hc : X.calm = true) : CallR X (.builtin "all") (RF X.K W fun st x => bi1 st .all x) := by
  intro pins s σ H xs us Q I rs ⟨w, st, g, v, x, ex, R, r, p⟩
  subst ex
  obtain ⟨rv, e, q⟩ := p.of
  obtain ⟨bs, e1, e2⟩ := Option.map_eq_some_iff.mp e
  subst e2
  obtain ⟨ys, e3, e4⟩ := Option.bind_eq_some_iff.mp e1
  obtain ⟨p, vs, rfl, h1, h2⟩ := R.seqL r e3
  rw [reps_bools h2 e4] at h1
  exact cr_all hc pins s σ H _ us Q I rs ⟨p, bs, rfl, h1, q.okV R (.bl _)⟩
theorem cr_int1 : CallR X (.type "int") (RF X.K W fun st x => bi1 st .int1 x) := by
  intro pins s σ H xs us Q I rs ⟨w, st, g, v, x, ex, R, r, p⟩
  subst ex
  obtain ⟨rv, e, q⟩ := p.of
  obtain ⟨n, e1, e2⟩ := Option.map_eq_some_iff.mp e
  subst e2
  cases x with
  | int i => cases e1; exact call_int1 pins s σ H _ us Q I rs (.inl ⟨_, by rw [r.int], q.okV R (.int _)⟩)
  | bl i => cases e1; exact call_int1 pins s σ H _ us Q I rs (.inr ⟨i, by rw [r.bl], q.okV R (.int _)⟩)
  | _ => cases e1
/-! ### sorted -/
theorem insI_perm (x : Int) : ∀ l : List Int, (insI x l).Perm (x :: l)
  | [] => .refl _
  | y :: r => by
    unfold insI
    split
    · exact .refl _
    · exact (List.Perm.cons y (insI_perm x r)).trans (List.Perm.swap x y r)
theorem sortI_perm : ∀ l : List Int, (sortI l).Perm l
  | [] => .refl _
  | x :: r => (insI_perm x _).trans ((sortI_perm r).cons x)
theorem insI_up (x : Int) : ∀ {l : List Int}, l.Pairwise (· ≤ ·) → (insI x l).Pairwise (· ≤ ·)
  | [], _ => by simp [insI]
  | y :: r, h => by
    obtain ⟨h1, h2⟩ := List.pairwise_cons.mp h
    unfold insI
    split
    · rename_i hx
      exact List.pairwise_cons.mpr ⟨fun z hz => by
        rcases List.mem_cons.mp hz with rfl | hz
        · exact hx
        · exact Int.le_trans hx (h1 z hz), h⟩
    · rename_i hx
      refine List.pairwise_cons.mpr ⟨fun z hz => ?_, insI_up x h2⟩
      rcases List.mem_cons.mp ((insI_perm x r).mem_iff.mp hz) with rfl | hz
      · omega
      · exact h1 z hz
theorem sortI_up : ∀ l : List Int, (sortI l).Pairwise (· ≤ ·)
  | [] => .nil
  | x :: r => insI_up x (sortI_up r)
theorem sorted_eq : ∀ {l m : List Int}, l.Perm m → l.Pairwise (· ≤ ·) → m.Pairwise (· ≤ ·) → l = m := fun {l m} h a b =>
  List.Perm.eq_of_pairwise (fun x y _ _ h1 h2 => Int.le_antisymm h1 h2) a b h
theorem cr_sorted : CallR X (.builtin "sorted") (RF X.K W fun st x => bi1 st .sorted x) := by
  intro pins s σ H xs us Q I rs ⟨w, st, g, v, x, ex, R, r, p⟩
  subst ex
  obtain ⟨rv, e, q⟩ := p.of
  obtain ⟨ns, e1, e2⟩ := Option.map_eq_some_iff.mp e
  subst e2
  obtain ⟨ys, e3, e4⟩ := Option.bind_eq_some_iff.mp e1
  obtain ⟨p, vs, rfl, h1, h2⟩ := R.seqL r e3
  rw [reps_ints h2 e4] at h1
  refine cr_sortedI pins s σ H _ us Q I rs ⟨p, ns, rfl, h1, fun ns' p2 pm pw n => ?_⟩
  have : ns' = sortI ns := sorted_eq (pm.trans (sortI_perm ns).symm) pw (sortI_up ns)
  subst this
  exact q.okN R n ⟨_, upd_same, RepVs.of_ints _⟩
theorem keysInt_rel {K : PySem.W.Frag} {S : Hp} {phi : List Addr} : ∀ {vs : List (L2.Key × V)} {xs : List (L2.Key × IV)} {ns : List Int}, RepKs K S phi vs xs → keysInt xs = some ns → vs.map (·.1) = ns.map Sum.inl
  | _, _, ns, .nil, e => by cases e; rfl
  | _, _, ns, @RepKs.cons _ _ _ k v x vs xs h r, e => by
    cases k with
    | inl i =>
      obtain ⟨ms, e1, e2⟩ := Option.map_eq_some_iff.mp (show (keysInt xs).map (i :: ·) = some ns from e)
      subst e2
      rw [List.map_cons, List.map_cons, keysInt_rel r e1]
    | inr z => cases e
theorem cr_sortedD (hc : X.calm = true) : CallR X (.builtin "sorted") (RF X.K W fun st x => bi1 st .sortedD x) := by
  intro pins s σ H xs us Q I rs ⟨w, st, g, v, x, ex, R, r, p⟩
  subst ex
  obtain ⟨rv, e, q⟩ := p.of
  obtain ⟨ns, e1, e2⟩ := Option.bind_eq_some_iff.mp e
  obtain ⟨c, e3, e4⟩ := Option.bind_eq_some_iff.mp e1
  have h := R.cont r e3
  cases c with
  | dK kvs =>
    obtain ⟨p, vs, rfl, h1, h2⟩ := h
    split at e2
    · rename_i hl
      cases e2
      refine call_sortedDI hc pins s σ H _ us Q I rs ⟨p, vs, ns, rfl, h1, keysInt_rel h2 e4, hl, fun ns' p2 pm pw n => ?_⟩
      have : ns' = sortI ns := sorted_eq (pm.trans (sortI_perm ns).symm) pw (sortI_up ns)
      subst this
      exact q.okN R n ⟨_, upd_same, RepVs.of_ints _⟩
    · cases e2
  | _ => cases e4
/-! ### repr -/
mutual
theorem noDict0 : ∀ {x : IV} {d : PyData}, toD0 x = some d → d.hasDict = false
  | .non, _, h => by cases h; rfl
  | .bl b, _, h => by cases h; rfl
  | .int b, _, h => by cases h; rfl
  | .str b, _, h => by cases h; rfl
  | .tup xs, _, h => by
    obtain ⟨ds, e1, e2⟩ := Option.map_eq_some_iff.mp (show (toDs xs).map PyData.tuple = some _ from by unfold toD0 at h; exact h)
    subst e2
    show PyData.hasDictAll ds = false
    exact noDicts e1
  | .lst xs, _, h => by
    obtain ⟨ds, e1, e2⟩ := Option.map_eq_some_iff.mp (show (toDs xs).map PyData.list = some _ from by unfold toD0 at h; exact h)
    subst e2
    show PyData.hasDictAll ds = false
    exact noDicts e1
  | .dK xs, _, h => by unfold toD0 at h; cases h
  | .dT xs, _, h => by unfold toD0 at h; cases h
  | .obj c xs, _, h => by unfold toD0 at h; cases h
  | .ref n, _, h => by unfold toD0 at h; cases h
  | .brw n, _, h => by unfold toD0 at h; cases h
  | .glob n, _, h => by unfold toD0 at h; cases h
  | .ty n, _, h => by unfold toD0 at h; cases h
theorem noDicts : ∀ {xs : List IV} {ds : List PyData}, toDs xs = some ds → PyData.hasDictAll ds = false
  | [], _, h => by unfold toDs at h; cases h; rfl
  | x :: xs, _, h => by
    unfold toDs at h
    obtain ⟨d, e1, e2⟩ := Option.bind_eq_some_iff.mp h
    obtain ⟨ds, e3, e4⟩ := Option.map_eq_some_iff.mp e2
    subst e4
    show (d.hasDict || PyData.hasDictAll ds) = false
    rw [noDict0 e1, noDicts e3]; rfl
end
mutual
theorem noDictR {st : IS} : ∀ {x : IV} {d : PyData}, toDr st x = some d → d.hasDict = false
  | .non, _, h => by cases h; rfl
  | .bl b, _, h => by cases h; rfl
  | .int b, _, h => by cases h; rfl
  | .str b, _, h => by cases h; rfl
  | .tup xs, _, h => by
    obtain ⟨ds, e1, e2⟩ := Option.map_eq_some_iff.mp (show (toDrs st xs).map PyData.tuple = some _ from by unfold toDr at h; exact h)
    subst e2
    show PyData.hasDictAll ds = false
    exact noDictRs e1
  | .lst xs, _, h => by
    obtain ⟨ds, e1, e2⟩ := Option.map_eq_some_iff.mp (show (toDrs st xs).map PyData.list = some _ from by unfold toDr at h; exact h)
    subst e2
    show PyData.hasDictAll ds = false
    exact noDictRs e1
  | .dK xs, _, h => by unfold toDr at h; cases h
  | .dT xs, _, h => by unfold toDr at h; cases h
  | .obj c xs, _, h => by unfold toDr at h; cases h
  | .ref n, d, h => by
    obtain ⟨c, e1, e2⟩ := Option.bind_eq_some_iff.mp (show (st.h[n]?).join.bind toD0 = some d from by unfold toDr at h; exact h)
    exact noDict0 e2
  | .brw n, _, h => by unfold toDr at h; cases h
  | .glob n, _, h => by unfold toDr at h; cases h
  | .ty n, _, h => by unfold toDr at h; cases h
theorem noDictRs {st : IS} : ∀ {xs : List IV} {ds : List PyData}, toDrs st xs = some ds → PyData.hasDictAll ds = false
  | [], _, h => by unfold toDrs at h; cases h; rfl
  | x :: xs, _, h => by
    unfold toDrs at h
    obtain ⟨d, e1, e2⟩ := Option.bind_eq_some_iff.mp h
    obtain ⟨ds, e3, e4⟩ := Option.map_eq_some_iff.mp e2
    subst e4
    show (d.hasDict || PyData.hasDictAll ds) = false
    rw [noDictR e1, noDictRs e3]; rfl
end
theorem cr_repr (hg : X.A.guards = some []) (hu : X.A.units + 66 < cLine) : CallR X (.builtin "repr") (RF X.K W fun st x => bi1 st .repr x) := by
  intro pins s σ H xs us Q I rs ⟨w, st, g, v, x, ex, R, r, p⟩
  subst ex
  obtain ⟨rv, e, q⟩ := p.of
  obtain ⟨d, e1, e2⟩ := Option.bind_eq_some_iff.mp e
  split at e2
  · rename_i hh
    obtain ⟨hh, h4⟩ := Bool.and_eq_true_iff.mp hh
    obtain ⟨hh, h3⟩ := Bool.and_eq_true_iff.mp hh
    obtain ⟨h1, h2⟩ := Bool.and_eq_true_iff.mp hh
    cases e2
    have dp := R.dp r e1
    have hdep : d.depth ≤ 64 := SeqAt.depth_of_shaped h1
    have hnd : d.hasDict = false := by
      obtain ⟨c, e5, e6⟩ := Option.bind_eq_some_iff.mp e1
      exact noDictR e6
    obtain ⟨u, rfl, ru⟩ := L2.vals1 rs
    obtain ⟨as, rd⟩ := Dp.reads I d v u dp ru
    cases d with
    | int i =>
      cases dp
      obtain ⟨t, rfl⟩ := ru
      have h2' : i.natAbs.log2 < 1920 := of_decide_eq_true h2
      exact PySem.P.repr_of_int h2' ⟨.str _, H, I.tok _, ⟨_, rfl⟩, q.okV R (.str _)⟩
    | list ds =>
      cases dp
      cases ru
      exact repr_of_reads' rd h2 (PyData.noDict_hsm hnd) hg (by omega) (fun _ _ e => e) (fun h' u tk hk => ⟨.str _, H, I.kept hk, ⟨u, rfl⟩, q.okV R (.str _)⟩) (small_line h3)
    | tuple ds =>
      cases dp
      cases ru
      exact repr_of_reads' rd h2 (PyData.noDict_hsm hnd) hg (by omega) (fun _ _ e => e) (fun h' u tk hk => ⟨.str _, H, I.kept hk, ⟨u, rfl⟩, q.okV R (.str _)⟩) (small_line h3)
    | _ => cases h4
  · cases e2
/-! ### any -/
theorem reps_empty {K : PySem.W.Frag} {S : Hp} {phi : List Addr} {vs : List V} {xs : List IV} (h : RepVs K S phi vs xs) : vs.isEmpty = xs.isEmpty := by cases h <;> rfl
theorem tru_at {pins : List (Addr × Obj)} {s : Shared} {σ : L2.St} {H : Hp} {w : Wd} {st : IS} {g : L2.St} {v : V} {x c : IV} {t : Bool} {u : Value} {A : Around} {Q : Bool → Shared → Prop} {E : Value → Shared → Prop}
    (I : L2.Inv X pins σ H s) (R : Rel X.K w st g H) (r : RepE X.K w g v x) (ru : RelV v u) (e : cont st x = some c) (e2 : trL c = some t) (h : ∀ tk, Q t { s with toks := tk }) :
    wpAny (model X.prog X.w) A (truthy u) Q E s := by
  have hh := R.cont r e
  have hl := line63
  have hs : sizeLine = 16777216 := sizeLine_eq
  cases c with
  | non => cases e2; cases (show v = .non from hh); cases ru; exact truthy_none (h _)
  | bl b => cases (show v = .bl b from hh); cases e2; cases ru; exact wpAny_truthy_bool (h _)
  | int b => cases (show v = .int b from hh); cases e2; obtain ⟨t, rfl⟩ := ru; exact PySem.P.truthy_int (h _)
  | lst xs =>
    cases e2
    obtain ⟨p, vs, rfl, h1, h2⟩ := hh
    cases ru
    obtain ⟨its, r, pl, hz⟩ := I.list h1
    have hlen := r.length
    have hlen2 := h2.length
    refine wpAny_truthy_list pl.isList (by simp only [List.size_toArray]; omega) ?_
    rw [isEmpty_of r]
    rw [reps_empty h2]; exact h _
  | tup xs =>
    cases e2
    obtain ⟨p, vs, rfl, h1, h2⟩ := hh
    cases ru
    obtain ⟨its, r, pl, hz⟩ := I.tuple h1
    have hlen := r.length
    have hlen2 := h2.length
    refine truthy_tuple pl (by simp only [List.size_toArray]; omega) ?_
    rw [isEmpty_of r]
    rw [reps_empty h2]; exact h _
  | _ => cases e2
end
section
variable {prog : Program} {w : World} {A : Around} {I : Addr} {fp : List Addr} {n : Nat} {P : Nat → Value → Prop} {St : Nat → Heap → Prop}
/-- the loop of any(..), the truth of the items known in every later heap -/
theorem any_turns {R : Result → Shared → Prop} (W : Walks prog w A.in1 I fp [I] n P St) (s0 : Shared) (hI : I = s0.heap.objs.size) (tr : Nat → Bool)
    (htr : ∀ (i : Nat) (v : Value) (h' : Heap) (tk : Nat) (A : Around) (Q : Bool → Shared → Prop) (E : Value → Shared → Prop), P i v → (∀ b o, s0.heap.get? b = some o → h'.get? b = some o) → (∀ tk', Q (tr i) { s0 with heap := h', toks := tk' }) →
      wpAny (model prog w) A (truthy v) Q E { s0 with heap := h', toks := tk }) : ∀ (k i : Nat) (h : Heap) (tk : Nat), n - i = k → i ≤ n → St i h → (∀ b o, s0.heap.get? b = some o → h.get? b = some o) →
    (∀ h' tk', (∀ b o, s0.heap.get? b = some o → h'.get? b = some o) → R (.ok (.ret (.bool (((List.range n).drop i).any tr)))) { s0 with heap := h', toks := tk' }) →
    codeAny (model prog w) A (.builtin "any.loop" ⟨[.ref I], []⟩) R { s0 with heap := h, toks := tk } := by
  have old : ∀ {b : Addr} {o : Obj}, s0.heap.get? b = some o → b ∉ [I] := fun {b o} e hb => by
    have := List.mem_singleton.mp hb
    have h2 := Heap.lt_size e
    rw [this, hI] at h2
    exact absurd h2 (Nat.lt_irrefl _)
  intro k
  induction k with
  | zero =>
    intro i h tk hk hi hst hk0 hR
    have hin : i = n := by omega
    subst hin
    refine codeAny_builtin F.entry_any_loop ?_
    rw [Around.under_plainId F.plain_any_loop _]
    refine wpAny_bind (W.done _ _ _ hst fun h' tk' hk' => ?_)
    refine wpAny_bind (wpAny_rule (wpAny_pure ?_))
    have := hR h' tk' fun b o e => hk' b o (old e) (hk0 b o e)
    rw [List.drop_of_length_le (by simp)] at this
    exact this
  | succ k ih =>
    intro i h tk hk hi hst hk0 hR
    have hlt : i < n := by omega
    have hd : (List.range n).drop i = i :: (List.range n).drop (i + 1) := by
      rw [List.drop_eq_getElem_cons (by simpa using hlt)]; simp
    refine codeAny_builtin F.entry_any_loop ?_
    rw [Around.under_plainId F.plain_any_loop _]
    refine wpAny_bind (W.item i _ _ _ hlt hst fun v h' tk' hP hst' hk' => ?_)
    have kk : ∀ b o, s0.heap.get? b = some o → h'.get? b = some o := fun b o e => hk' b o (old e) (hk0 b o e)
    refine wpAny_bind (wpAny_holding (htr i v h' tk' _ _ _ hP kk fun tk2 => ?_))
    refine wpAny_bind (wpAny_letGo ?_)
    cases hb : tr i with
    | false =>
      simp only [Bool.false_eq_true, if_false]
      refine wpAny_pure ⟨plainId_quiet F.plain_any_loop _, ih (i + 1) h' _ (by omega) hlt hst' kk fun h'' tk'' hk'' => ?_⟩
      have := hR h'' tk'' hk''
      rw [hd, List.any_cons, hb, Bool.false_or] at this
      exact this
    | true =>
      simp only [if_true]
      refine wpAny_bind (wpAny_rule (wpAny_pure ?_))
      have := hR h' tk2 kk
      rw [hd, List.any_cons, hb, Bool.true_or] at this
      exact this
end
section
variable {X : Cx} {W : WX}
theorem truths_get {st : IS} : ∀ {xs : List IV} {bs : List Bool} {i : Nat} {x : IV}, truths st xs = some bs → xs[i]? = some x → ∃ c b, cont st x = some c ∧ trL c = some b ∧ bs[i]? = some b
  | [], _, _, _, _, e => by cases e
  | y :: xs, _, i, x, h, e => by
    obtain ⟨b, e1, e2⟩ := Option.bind_eq_some_iff.mp (show ((cont st y).bind trL).bind (fun b => (truths st xs).map (b :: ·)) = some _ from h)
    obtain ⟨bs, e3, e4⟩ := Option.map_eq_some_iff.mp e2
    subst e4
    obtain ⟨c, e5, e6⟩ := Option.bind_eq_some_iff.mp e1
    cases i with
    | zero => cases e; exact ⟨c, b, e5, e6, rfl⟩
    | succ i => exact truths_get (i := i) e3 e
theorem truths_len {st : IS} : ∀ {xs : List IV} {bs : List Bool}, truths st xs = some bs → bs.length = xs.length
  | [], _, h => by cases h; rfl
  | y :: xs, _, h => by
    obtain ⟨b, e1, e2⟩ := Option.bind_eq_some_iff.mp (show ((cont st y).bind trL).bind (fun b => (truths st xs).map (b :: ·)) = some _ from h)
    obtain ⟨bs, e3, e4⟩ := Option.map_eq_some_iff.mp e2
    subst e4
    rw [List.length_cons, List.length_cons, truths_len e3]
theorem any_range : ∀ bs : List Bool, (List.range bs.length).any (fun i => bs.getD i false) = bs.any id := fun bs => by
  have e : (List.range bs.length).map (fun i => bs.getD i false) = bs := List.ext_getElem (by simp) fun i h1 h2 => by simp [List.getD_eq_getElem?_getD, List.getElem?_eq_getElem h2]
  have : (List.range bs.length).any (fun i => bs.getD i false) = ((List.range bs.length).map (fun i => bs.getD i false)).any id := by rw [List.any_map]; rfl
  rw [this, e]
theorem cr_any (hc : X.calm = true) : CallR X (.builtin "any") (RF X.K W fun st x => bi1 st .any x) := by
  intro pins s σ H xs us Q I rs ⟨w, st, g, v, x, ex, R, r, p⟩
  subst ex
  obtain ⟨rv, e, q⟩ := p.of
  obtain ⟨bs, e1, e2⟩ := Option.map_eq_some_iff.mp e
  subst e2
  obtain ⟨ys, e3, e4⟩ := Option.bind_eq_some_iff.mp e1
  obtain ⟨a, vs, rfl, h1, h2⟩ := R.seqL r e3
  obtain ⟨its, rv, hl, _⟩ := I.list h1
  rw [Vals.ref1 rs]
  refine call_function_tree F.kind_any F.plain_any F.entry_any (F.args_any1 _) ?_
  unfold Builtin.«any»
  refine wpAny_bind (m := oneArg "any" _) (wpAny_pure ?_)
  refine wpAny_bind (iter_any hl.isList fun s₂ es st2 hne => ?_)
  subst es
  have hn : its.toArray.size = bs.length := by rw [List.size_toArray, ← rv.length, h2.length, truths_len e4]
  refine wpAny_pure ⟨plainId_quiet F.plain_any_loop _, any_turns (Walks.list (A := X.A.in1) (I.ok.hd hc) _ a hne its.toArray) s rfl (fun i => bs.getD i false) ?_ its.toArray.size 0 _ _ rfl (Nat.zero_le _) st2
    (fun b o e => Heap.get?_push_of_some _ e) fun h' tk hk => ?_⟩
  · intro i v h' tk A Q E hP hk hq
    have hP' : its[i]? = some v := by simpa using hP
    obtain ⟨hi, hv⟩ := List.getElem?_eq_some_iff.mp hP'
    have hi' : i < ys.length := by rw [← h2.length, rv.length]; exact hi
    obtain ⟨c, b, e5, e6, e7⟩ := truths_get e4 (List.getElem?_eq_getElem hi')
    obtain ⟨z, e8, r8⟩ := h2.get (List.getElem?_eq_getElem hi')
    obtain ⟨u, e9, r9⟩ := rv.get e8
    rw [hP'] at e9
    cases e9
    have I2 : L2.Inv X pins σ H { s with heap := h', toks := tk } := I.kept hk
    refine tru_at I2 R (RepE.of r8) r9 e5 e6 fun tk' => ?_
    have : bs.getD i false = b := by rw [List.getD_eq_getElem?_getD, e7]; rfl
    rw [← this]; exact hq tk'
  · refine ⟨.bl _, H, I.kept hk, ?_, q.okV R (.bl _)⟩
    show Value.bool _ = Value.bool _
    rw [List.drop_zero, hn, any_range]
end
end Ip

/-! Ip6b: sets of ints of lists: sorted(set(xs)), len(set(xs)). -/
namespace Ip
open PySem PySem.Spec PyProof.Rows L2
section
variable {P : Program} {w : World} {A : Around} {E : Value → Shared → Prop} {s : Shared}
/-- set(xs) of a list of ints: the table can be walked -/
theorem call_set_L {l : Addr} {items : Array Value} (ns : List Int) {Q : Value → Shared → Prop} (hh : A.handled = none) (hl : s.heap.IsList l items) (hit : IntsAre items.toList ns) (hb : ns.length + 1 < scanBound)
    (h : ∀ (h' : Heap) (tk c : Nat), SetR w h' s.heap.objs.size (fun j => decide (j ∈ ns)) c → c ≤ ns.length → (∀ b o, s.heap.get? b = some o → h'.get? b = some o) → Q (.ref s.heap.objs.size) { s with heap := h', toks := tk }) :
    wpAny (model P w) A (call (.type "set") [.ref l]) Q E s := by
  have size : items.size = ns.length := by
    have := IntsAre.length hit
    rwa [Array.length_toList] at this
  have mro := F.called_set.mro
  obtain ⟨c, tl, mro⟩ := mro
  have made := F.called_set.made
  have sub := F.called_set.sub
  have noTy := F.called_set.notType
  have canC := F.called_set.canCreate
  have tc := F.typeCall_set_1 (.ref l)
  refine wpAny_call (codeAny_of_tree ?_)
  show wpAny _ _ (callAny (.type "set") _) _ _ _
  refine wpAny_pure ⟨Code.quiet_builtin _ (by decide +kernel), codeAny_builtin F.entry_type_call ?_⟩
  rw [Around.under_plain (weight_type_call_type "set" [.ref l] []) rfl]
  repeat (any_goals (first | assumption | wp_step))
  refine codeAny_mono (code_set_led1 (.ref l) (E := E) (Q₁ := fun v s₁ => v = .ref s.heap.objs.size ∧ s₁ = { s with heap := s.heap.push { cls := .type "set", dict := none, data := .set #[] 0 (.fresh 0 0 (!w.params.followText "set-order")) } }) ⟨rfl, rfl⟩) fun r s₁ hr => ?_
  match r, hr with
  | .error e, hr => exact hr
  | .ok (.next), hr => exact hr.elim
  | .ok (.brk), hr => exact hr.elim
  | .ok (.cont), hr => exact hr.elim
  | .ok (.ret obj), hr =>
    obtain ⟨rfl, rfl⟩ := hr
    have gS : (s.heap.push { cls := .type "set", dict := none, data := .set #[] 0 (.fresh 0 0 (!w.params.followText "set-order")) }).get? s.heap.objs.size = some { cls := .type "set", dict := none, data := .set #[] 0 (.fresh 0 0 (!w.params.followText "set-order")) } := Heap.get?_push_size _ rfl
    have tS : Shared.TypeIs { s with heap := s.heap.push { cls := .type "set", dict := none, data := .set #[] 0 (.fresh 0 0 (!w.params.followText "set-order")) } } (.ref s.heap.objs.size) "set" := ⟨_, gS, rfl⟩
    have li := F.called_set.init.lookup
    have bi := F.called_set.init.bind (.ref s.heap.objs.size)
    repeat (any_goals (first | assumption | wp_step))
    refine codeAny_mono (codeAny_call_builtin (R := wants (fun r s₂ => r = .none ∧ ∃ h' tk c, s₂ = { s with heap := h', toks := tk } ∧ SetR w h' s.heap.objs.size (fun j => decide (j ∈ ns)) c ∧ c ≤ ns.length ∧
        (∀ b o, s.heap.get? b = some o → h'.get? b = some o)) E) F.called_set.init.plain F.entry_set_init (check_set_init_1 tS ?_)) fun r₂ s₂ hr₂ => ?_
    · obtain ⟨⟨oc, od, odt, osl⟩, gl, cl, nl, dl⟩ := hl
      simp only at cl dl
      subst cl dl
      have gl' : (s.heap.push { cls := .type "set", dict := none, data := .set #[] 0 (.fresh 0 0 (!w.params.followText "set-order")) }).get? l = some { cls := .type "list", dict := od, data := .seq items nl, slots := osl } := Heap.get?_push_of_some _ gl
      have n1 := F.sub_list_set
      have n2 := F.sub_list_frozenset
      have n3 : (Value.type "list" == Value.type "dict") = false := by decide
      have hl1 : (s.heap.push { cls := .type "set", dict := none, data := .set #[] 0 (.fresh 0 0 (!w.params.followText "set-order")) }).IsList l items := ⟨_, gl', rfl, nl, rfl⟩
      unfold Builtin.«set.__init__» noKeywords Builtin.Frozenset.updateFrom
      generalize hPI : pyIter = PI
      wp_walk
      subst hPI
      refine wpAny_pyIter_list hl1 ?_
      refine wpAny_bind (wpAny_runValue ?_)
      have hlS : l < s.heap.objs.size := Heap.lt_size gl
      have sz : (s.heap.push { cls := .type "set", dict := none, data := .set #[] 0 (.fresh 0 0 (!w.params.followText "set-order")) }).objs.size = s.heap.objs.size + 1 := Heap.size_push ..
      have hneI : l ≠ (s.heap.push { cls := .type "set", dict := none, data := .set #[] 0 (.fresh 0 0 (!w.params.followText "set-order")) }).objs.size := by rw [sz]; exact Nat.ne_of_lt (Nat.lt_succ_of_lt hlS)
      have hSf : s.heap.objs.size ∉ [(s.heap.push { cls := .type "set", dict := none, data := .set #[] 0 (.fresh 0 0 (!w.params.followText "set-order")) }).objs.size, l] := by
        rw [sz]; simp only [List.mem_cons, List.not_mem_nil, or_false, not_or]
        exact ⟨Nat.ne_of_lt (Nat.lt_succ_self _), Nat.ne_of_gt hlS⟩
      refine set_update_ints ((Walks.list (A := A.in1.in1.in1) (by simp [hh]) _ l hneI items).toS) s.heap.objs.size hSf ns size hb (fun i v hv => ?_) (items.size - 0) 0 _ (by omega) (Nat.zero_le _)
        ⟨⟨_, Heap.get?_push_size _ rfl, rfl, rfl⟩, (hl1.push _)⟩ ?_ ?_
      · have hi : i < ns.length := by rw [← size]; exact (Array.getElem?_eq_some_iff.mp hv).1
        obtain ⟨t, e⟩ := IntsAre.int_at hit i v (by rw [Array.getElem?_toList]; exact hv)
        refine ⟨ns[i], t, List.getElem?_eq_getElem hi, ?_⟩
        rw [e, List.getD_eq_getElem?_getD, List.getElem?_eq_getElem hi] <;> rfl
      · exact ⟨0, Nat.le_refl 0, setR_new_at (Heap.get?_push_of_some _ gS)⟩
      · intro s' c' hm hc' hS'
        obtain ⟨h', g2, d', tk', os'⟩ := s'
        cases (show g2 = s.gens from hm.gens)
        cases (show d' = s.drawn from hm.drawn)
        cases (show os' = s.os from hm.os)
        show wpAny _ _ _ _ _ _
        refine wpAny_pure ?_
        show wpAny _ _ (ret Value.none) _ _ _
        rw [size] at hc'
        refine wpAny_pure ⟨rfl, h', tk', c', rfl, hS', hc', fun b o e => ?_⟩
        have hb0 : b < s.heap.objs.size := Heap.lt_size e
        refine hm.heap b o ?_ (Heap.get?_push_of_some _ (Heap.get?_push_of_some _ e))
        simp only [List.mem_cons, List.not_mem_nil, or_false, not_or]
        exact ⟨Nat.ne_of_lt hb0, by rw [sz]; exact Nat.ne_of_lt (Nat.lt_succ_of_lt hb0)⟩
    · match r₂, hr₂ with
      | .error e, hr₂ => exact hr₂
      | .ok (.next), hr₂ => exact hr₂.elim
      | .ok (.brk), hr₂ => exact hr₂.elim
      | .ok (.cont), hr₂ => exact hr₂.elim
      | .ok (.ret r), hr₂ =>
        obtain ⟨rfl, h', tk, c', rfl, hS', hc', hk'⟩ := hr₂
        repeat (any_goals (first | assumption | wp_step))
        exact h _ _ _ hS' hc' hk'
end

/-! ### the members -/
theorem firsts_mem : ∀ (l : List Int) (x : Int), x ∈ firsts l ↔ x ∈ l
  | [], x => Iff.rfl
  | y :: r, x => by
    unfold firsts
    rw [List.mem_cons, List.mem_cons, List.mem_filter, firsts_mem r x]
    by_cases h : x = y
    · simp [h]
    · simp [h]
theorem firsts_nodup : ∀ (l : List Int), (firsts l).Nodup
  | [] => .nil
  | y :: r => by
    unfold firsts
    refine List.nodup_cons.mpr ⟨fun h => ?_, (firsts_nodup r).filter _⟩
    have := (List.mem_filter.mp h).2
    simp at this
theorem firsts_len (l : List Int) : (firsts l).length ≤ l.length := by
  induction l with
  | nil => exact Nat.le_refl _
  | cons y r ih =>
    unfold firsts
    have := List.length_filter_le (fun x => x != y) (firsts r)
    simp only [List.length_cons]; omega
theorem same_perm {l m : List Int} (h1 : l.Nodup) (h2 : m.Nodup) (h : ∀ x, x ∈ l ↔ x ∈ m) : l.Perm m := (List.perm_ext_iff_of_nodup h1 h2).mpr h
theorem setR_len {w : World} {h : Heap} {a : Addr} {ns : List Int} {c : Nat} (R : SetR w h a (fun j => decide (j ∈ ns)) c) : c = (firsts ns).length := by
  obtain ⟨o, es, ep, t, ho, hex, hd, g, nd, hm, hb, hf, hn, hr, hl⟩ := R
  have p : (es.toList.map keyOf).Perm (firsts ns) := same_perm nd (firsts_nodup ns) fun x => by
    rw [firsts_mem, ← hm x]; simp
  rw [← hn, ← p.length_eq, List.length_map, Array.length_toList]
section
variable {X : Cx} {W : WX} {e : Expr} {f : IS → Out RV} {p p2 q pos : Pos}
theorem ints_are : ∀ {ns : List Int} {us : List Value}, Vals (ns.map V.int) us → IntsAre us ns
  | [], _, .nil => .nil
  | n :: ns, _, .cons r t => by
    obtain ⟨k, rfl⟩ := r
    exact .cons n k (ints_are t)
/-- set(e), then what is asked of the set -/
theorem set_then {pins : List (Addr × Obj)} {s : Shared} {σ : L2.St} {H : Hp} {Q : Value → Shared → Prop} {R : List Int → Hp → Prop} (hc : X.calm = true) (he : PEr X W e f) (hs : noStar e = true) (hg2 : Gl X "set") (hm2 : X.mg "set" = none) (I : L2.Inv X pins σ H s)
    (h : Ip.TI X.K W rE (fun st => vOf (f st)) σ H fun x H1 => ∃ (l : Addr) (ns : List Int), x = .ref l ∧ SqL X.K H1 l (ns.map V.int) ∧ ns.length < 4000 ∧ R ns H1)
    (k : ∀ (s2 : Shared) (H2 : Hp) (a : Addr) (ns : List Int), L2.Inv X pins σ H2 s2 → SetR X.w s2.heap a (fun j => decide (j ∈ ns)) (firsts ns).length → R ns H2 → Q (.ref a) s2) :
    wpAny (model X.prog X.w) X.A (eval (.Call (.Name "set" p2) [e] [] q) X.env) Q X.xe s := by
  refine Call_ (ld_blt I hg2 hm2 PyProof.Rows.boot_set ?_)
  refine PyProof.Rows.callWith_type1 (PyProof.Rows.args_cons (thn ((toV he).run pins s σ H _ I h) fun v s1 ⟨x, H1, I1, r1, q1⟩ => PyProof.Rows.args_nil ?_) (star1 hs _ _)) (star1 hs _ _) rfl
  obtain ⟨l, ns, rfl, hq, hl, q1⟩ := q1
  cases r1
  obtain ⟨its, r, pl, hz⟩ := I1.list hq
  refine call_set_L ns (I1.ok.hd hc) pl.isList (by simpa using ints_are r) (by unfold scanBound; omega) fun h' tk c R1 hcn hk => ?_
  have ec := setR_len R1
  subst ec
  exact k { s1 with heap := h', toks := tk } H1 _ ns (I1.kept hk) R1 q1
theorem i_lenSet (hc : X.calm = true) (he : PEr X W e f) (hs : noStar e = true) (hg : Gl X "len") (hm : X.mg "len" = none) (hg2 : Gl X "set") (hm2 : X.mg "set" = none) :
    PEr X W (.Call (.Name "len" p) [.Call (.Name "set" p2) [e] [] q] [] pos) fun st => (vOf (f st)).bind fun x st => Out.of st (bi1 st .lenSet x) := by
  refine ⟨fun pins s σ H Q I ⟨w, st, R, p0⟩ => ?_⟩
  refine Call_ (ld_blt I hg hm boot_len ?_)
  refine PyProof.Rows.callWith_builtin1 (PyProof.Rows.args_cons ?_ rfl) rfl rfl
  refine set_then (R := fun ns H1 => Q (.int (firsts ns).length) H1) hc he hs hg2 hm2 I ⟨w, st, R, Post.bind p0 fun x st1 _ w1 H1 v l1 R1 r1 q1 => ?_⟩ fun s2 H2 a ns I2 R2 q2 => ?_
  · obtain ⟨rv, e1, q1⟩ := q1.of
    obtain ⟨ns, e2, e3⟩ := Option.bind_eq_some_iff.mp e1
    obtain ⟨ys, e4, e5⟩ := Option.bind_eq_some_iff.mp e2
    obtain ⟨a, vs, ev, h1, h2⟩ := R1.seqL r1 e4
    rw [reps_ints h2 e5] at h1
    split at e3
    · rename_i hl
      cases e3
      exact ⟨a, ns, ev, h1, hl, q1.okV R1 (.int _)⟩
    · cases e3
  · refine PyProof.Rows.args_nil ?_
    obtain ⟨o, es, ep, t, ho, hex, hd, _, _, _, hb, hf, hn, _⟩ := R2
    exact call_len_set ho hex hd hf (by unfold scanBound at hb; omega) ⟨.int (firsts ns).length, H2, I2.tok _, ⟨_, by rw [hn]⟩, q2⟩
theorem i_sortedSet (hc : X.calm = true) (he : PEr X W e f) (hs : noStar e = true) (hg : Gl X "sorted") (hm : X.mg "sorted" = none) (hg2 : Gl X "set") (hm2 : X.mg "set" = none) :
    PEr X W (.Call (.Name "sorted" p) [.Call (.Name "set" p2) [e] [] q] [] pos) fun st => (vOf (f st)).bind fun x st => Out.of st (bi1 st .sortedSet x) := by
  refine ⟨fun pins s σ H Q I ⟨w, st, R, p0⟩ => ?_⟩
  refine Call_ (ld_blt I hg hm boot_sorted ?_)
  refine PyProof.Rows.callWith_builtin1 (PyProof.Rows.args_cons ?_ rfl) rfl rfl
  refine set_then (R := fun ns H1 => (firsts ns).length < 64 ∧ ∀ p, H1 p = none → Q (.ref p) (upd H1 p (.lst ((sortI (firsts ns)).map V.int)))) hc he hs hg2 hm2 I ⟨w, st, R, Post.bind p0 fun x st1 _ w1 H1 v l1 R1 r1 q1 => ?_⟩ fun s2 H2 a ns I2 R2 q2 => ?_
  · obtain ⟨rv, e1, q1⟩ := q1.of
    obtain ⟨ns, e2, e3⟩ := Option.bind_eq_some_iff.mp e1
    obtain ⟨ys, e4, e5⟩ := Option.bind_eq_some_iff.mp e2
    obtain ⟨a, vs, ev, h1, h2⟩ := R1.seqL r1 e4
    rw [reps_ints h2 e5] at h1
    split at e3
    · rename_i hl
      cases e3
      exact ⟨a, ns, ev, h1, hl.1, hl.2, fun p hp => q1.okN R1 hp ⟨_, upd_same, RepVs.of_ints _⟩⟩
    · cases e3
  · refine PyProof.Rows.args_nil ?_
    obtain ⟨h64, q2⟩ := q2
    refine sorted_set R2 (I2.ok.hd hc) h64 fun s' p out c ns' k g o hp hgp hi hsr hm' hl => ?_
    have en : ns' = sortI (firsts ns) := by
      have nd' : ns'.Nodup := hsr.imp fun h => Int.ne_of_lt h
      have pm : ns'.Perm (firsts ns) := same_perm nd' (firsts_nodup ns) fun x => by rw [hm' x, firsts_mem]; simp
      exact sorted_eq (pm.trans (sortI_perm _).symm) (hsr.imp fun h => Int.le_of_lt h) (sortI_up _)
    subst en
    have hlen : ((sortI (firsts ns)).map V.int).length ≤ sizeLine := by rw [List.length_map, hl, sizeLine_eq]; omega
    have hn : H2 p = none := I2.hok.fresh hp
    have J : L2.Inv X pins σ (upd H2 p (.lst ((sortI (firsts ns)).map V.int))) { s2 with heap := s'.heap, gens := s'.gens, drawn := s'.drawn, toks := s'.toks } :=
      I2.call (ch := []) (Un.laid k hp hn) (I2.hok.laid k hp ⟨hlen, out.toList, c, vals_of_ints hi, hgp⟩) (by rw [g]; exact I2.bare) (fun _ z => nomatch z)
    have es : s' = { s2 with heap := s'.heap, gens := s'.gens, drawn := s'.drawn, toks := s'.toks } := by
      cases s'
      cases s2
      cases o
      rfl
    rw [es]
    exact ⟨.ref p, _, J, rfl, q2 p hn⟩
end
end Ip

/-! Ip7: isinstance, list(range), methods of lists and dicts. -/
namespace Ip
open PySem PySem.Spec PyProof.Rows L2
section
variable {K : PySem.W.Frag} {w : Wd} {st st' : IS} {g : L2.St} {H : Hp} {v : V} {x c c' : IV}
/-- what names an object that may change -/
theorem Rel.con (R : Rel K w st g H) (r : RepE K w g v x) (e : Ip.setC st x c' = some st') (e0 : Ip.cont st x = some c) :
    ∃ a, v = .ref a ∧ Con K w.S w.phi H a c ∧ ∀ o, Con K w.S w.phi (upd H a o) a c' → Rel K w st' g (upd H a o) := by
  cases x with
  | ref n =>
    have e0' : st.h[n]? = some (some c) := Option.join_eq_some_iff.mp e0
    have r' : RepV K w.S w.phi v (.ref n) := r
    cases r' with
    | ref hp =>
      obtain ⟨b, h1, h2⟩ := R.cells n c e0'
      rw [hp] at h1
      cases h1
      have e' : (st.h[n]?).join.map (fun _ => ({ st with h := st.h.set n (some c') } : IS)) = some st' := e
      rw [e0'] at e'
      cases e'
      exact ⟨_, rfl, h2, fun o hc => R.setCell e0' hp hc⟩
  | brw i =>
    obtain ⟨s, e1, e2⟩ := Option.bind_eq_some_iff.mp (show (st.r[i]?).bind ownC = some c from e0)
    cases s with
    | own d =>
      cases e2
      obtain ⟨b, h1, h2, _⟩ := R.owns i c e1
      have r' : g[i]? = some (some v) := r
      rw [h1] at r'
      cases r'
      have e' : ((st.r[i]?).bind ownC).map (fun _ => ({ st with r := st.r.set i (.own c') } : IS)) = some st' := e
      rw [e1] at e'
      cases e'
      exact ⟨b, rfl, h2, fun o hc => R.setOwn e1 h1 hc⟩
    | _ => cases e2
  | _ => cases e
end
section
variable {X : Cx} {a b c e o : Expr} {W : WX} {pos p : Pos} {f fa fb fc : IS → Out RV} {es : List Expr} {k : IS → Out (List IV)}
/-! ### isinstance -/
theorem ty_of {K : PySem.W.Frag} {w : Wd} {H : Hp} {v : V} {x : IV} {cl : String} {t : Bool} (h : Cr K w H v x) (e : isiC x cl = some t) (hcl : cl ∈ ["bool", "int", "str", "tuple", "list", "dict"]) :
    ∃ T, TyX K H v (.type T) ∧ kitB T cl = some t := by
  have kb : ∀ T ∈ ["NoneType", "bool", "int", "str", "tuple", "list", "dict"], kitB T cl = some (T == cl || (T == "bool" && cl == "int")) := by
    intro T hT
    simp only [List.mem_cons, List.not_mem_nil, or_false] at hT hcl
    rcases hT with rfl | rfl | rfl | rfl | rfl | rfl | rfl <;> rcases hcl with rfl | rfl | rfl | rfl | rfl | rfl <;> decide +kernel
  have fin : ∀ T ∈ ["NoneType", "bool", "int", "str", "tuple", "list", "dict"], TyX K H v (.type T) → (T == cl || (T == "bool" && cl == "int")) = t → ∃ T, TyX K H v (.type T) ∧ kitB T cl = some t :=
    fun T hT ty z => ⟨T, ty, by rw [kb T hT, z]⟩
  have sq : ∀ {a : Addr} {vs : List V}, SqL K H a vs → TyX K H (.ref a) (.type "list") := fun {a vs} h => by
    rcases h with (h | ⟨o, h⟩) | ⟨o, its, n, h1, h2, _⟩
    · exact .base (.lst h)
    · exact .base (.frz h)
    · exact .kList h1 h2
  have tq : ∀ {a : Addr} {vs : List V}, SqT K H a vs → TyX K H (.ref a) (.type "tuple") := fun {a vs} h => by
    rcases h with (h | ⟨o, h⟩) | ⟨o, its, n, h1, h2, _⟩
    · exact .base (.tup h)
    · exact .fTuple h
    · exact .kTuple h1 h2
  simp only [List.mem_cons, List.not_mem_nil, or_false] at hcl
  cases x with
  | non =>
    cases (show v = .non from h)
    refine fin "NoneType" (by simp) (.base .non) ?_
    have e' : some false = some t := e
    cases e'
    rcases hcl with rfl | rfl | rfl | rfl | rfl | rfl <;> rfl
  | bl b =>
    cases (show v = .bl b from h)
    refine fin "bool" (by simp) (.base (.bl b)) ?_
    have e' : some (cl == "bool" || cl == "int") = some t := e
    cases e'
    rcases hcl with rfl | rfl | rfl | rfl | rfl | rfl <;> rfl
  | int b =>
    cases (show v = .int b from h)
    refine fin "int" (by simp) (.base (.int b)) ?_
    have e' : some (cl == "int") = some t := e
    cases e'
    rcases hcl with rfl | rfl | rfl | rfl | rfl | rfl <;> rfl
  | str b =>
    cases (show v = .str b from h)
    refine fin "str" (by simp) (.base (.str b)) ?_
    have e' : some (cl == "str") = some t := e
    cases e'
    rcases hcl with rfl | rfl | rfl | rfl | rfl | rfl <;> rfl
  | tup xs =>
    obtain ⟨a, vs, rfl, h1, h2⟩ := h
    refine fin "tuple" (by simp) (tq h1) ?_
    have e' : some (cl == "tuple") = some t := e
    cases e'
    rcases hcl with rfl | rfl | rfl | rfl | rfl | rfl <;> rfl
  | lst xs =>
    obtain ⟨a, vs, rfl, h1, h2⟩ := h
    refine fin "list" (by simp) (sq h1) ?_
    have e' : some (cl == "list") = some t := e
    cases e'
    rcases hcl with rfl | rfl | rfl | rfl | rfl | rfl <;> rfl
  | dK xs =>
    obtain ⟨a, vs, rfl, h1, h2⟩ := h
    refine fin "dict" (by simp) ?_ ?_
    · rcases h1 with h | ⟨o, h⟩
      · exact .base (.dK h)
      · exact .fDict h
    have e' : some (cl == "dict") = some t := e
    cases e'
    rcases hcl with rfl | rfl | rfl | rfl | rfl | rfl <;> rfl
  | _ => cases e
theorem i_isi {cl : String} {q : Pos} {x : PySem.Str} (he : PEr X W e f) (hs : noStar e = true) (hg : Gl X "isinstance") (hm : X.mg "isinstance" = none) (hg2 : Gl X x) (hm2 : X.mg x = none)
    (hcl : cl ∈ ["bool", "int", "str", "tuple", "list", "dict"]) (hb : bootBuiltins x = some (.type cl)) (hn : x ≠ "__name__") (hdb : (x == ("__debug__" : PySem.Str)) = false) :
    PEr X W (.Call (.Name "isinstance" p) [e, .Name x q] [] pos) fun st => (vOf (f st)).bind fun x st => Out.of st (bi1 st (.isi cl) x) :=
  PE.imp (pe_callB call_isi hg hm boot_isinstance (PA.imp (pa_cons (toV he) (pa_cons (pe_bltn (v := .ty cl) hg2 hm2 hb rfl hn hdb) pa_nil rfl) (star1 hs _ _)) (fun g H Q q => q)) (by decide) (by decide) (star1 hs _ _) rfl) fun g H Q ⟨w, st, R, p⟩ => by
    refine ⟨w, st, R, Post.bind p fun y st1 _ w1 H1 v l1 R1 r1 q1 => ?_⟩
    obtain ⟨rv, e1, q⟩ := q1.of
    obtain ⟨c, e2, e3⟩ := Option.bind_eq_some_iff.mp e1
    obtain ⟨t, e4, e5⟩ := Option.map_eq_some_iff.mp e3
    subst e5
    obtain ⟨T, ty, kk⟩ := ty_of (R1.cont r1 e2) e4 hcl
    exact ⟨v, .ty cl, .type T, .type cl, t, rfl, .ty cl, ty, kit_ty kk, q.okV R1 (.bl t)⟩
/-! ### list(range(e)) -/
theorem rgV_rng (n : Nat) {K : PySem.W.Frag} {S : Hp} {phi : List Addr} : RepVs K S phi (rgV 0 (n : Int)) (rngI n) := by
  have : rgV 0 (n : Int) = ((List.range n).map fun (k : Nat) => (k : Int)).map V.int := by unfold rgV; simp
  rw [this]
  have : rngI n = ((List.range n).map fun (k : Nat) => (k : Int)).map IV.int := by unfold rngI; simp
  rw [this]
  exact .of_ints _
theorem i_rng1 {p1 p2 : Pos} (hc : X.calm = true) (he : PEr X W e f) (hs : noStar e = true) (hg : Gl X "list") (hm : X.mg "list" = none) (hg2 : Gl X "range") (hm2 : X.mg "range" = none) :
    PEr X W (.Call (.Name "list" p) [.Call (.Name "range" p1) [e] [] p2] [] pos) fun st => (vOf (f st)).bind fun x st => Out.of st (bi1 st .rng1 x) :=
  PE.imp (pe_listRg hc hg hm (prg_1 hg2 hm2 (toV he) (star1 hs _ _))) fun g H Q ⟨w, st, R, p⟩ => by
    refine ⟨w, st, R, Post.bind p fun y st1 _ w1 H1 v l1 R1 r1 q1 => ?_⟩
    obtain ⟨rv, e1, q⟩ := q1.of
    obtain ⟨n, e2, e3⟩ := Option.bind_eq_some_iff.mp e1
    split at e3
    · rename_i hn
      cases e3
      cases y with
      | int i =>
        have e2' : i = n := Option.some.inj e2
        subst e2'
        refine ⟨_, r1.int, .of_le (by omega) (by omega) (by omega) (by omega), fun b hb => q.okN R1 hb ⟨_, upd_same, ?_⟩⟩
        have : (i.toNat : Int) = i := Int.toNat_of_nonneg hn.1
        have z := rgV_rng i.toNat (K := X.K) (S := w1.S) (phi := w1.phi)
        rw [this] at z
        exact z
      | _ => cases e2
    · cases e3
/-! ### methods -/
theorem few2 {e : Expr} (hs : noStar e = true) (cpos : Pos) (env : Env) : ((backTo cpos (starEach [e] env)).all (fun x => !x.1) && (backToKw cpos (keywordEach [] env)).all (fun x => x.1.isSome)
      && decide (([e] : List Expr).length + ([] : List Keyword).length + (if ([] : List Keyword).isEmpty then 0 else 1) < 30)) = true := by
  rw [stars_all (es := [e]) (by simp [hs])]; rfl
/-- the receiver of a list method -/
theorem lst_ty {K : PySem.W.Frag} {w : Wd} {st : IS} {g : L2.St} {H : Hp} {v : V} {x : IV} {xs : List IV} (R : Rel K w st g H) (r : RepE K w g v x) (e : seqL st x = some xs) : tyV K "list" v H := by
  obtain ⟨a, vs, rfl, h1, _⟩ := R.seqL r e
  exact .inl ⟨rfl, vs, h1⟩
theorem i_app {apos : Pos} (ho : PEr X W o fa) (he : PEr X W e fb) (hs : noStar e = true) (hbase : attributeBase o "append" X.env (eval o X.env) = eval o X.env) (hl : (apos.endLine == pos.line) = true) :
    PEr X W (.Call (.Attribute o "append" apos) [e] [] pos) fun st => (vOf (fa st)).bind fun x st => (Out.of st (seqL st x)).bind fun _ st => (sOf (fb st)).bind fun y st => (Out.of st (appS st x y)).bind fun st _ => .ok (.v .non) st :=
  PE.imp (pe_bm PySem.F.plainAttrs_list PySem.F.slot_list_append PySem.F.type_list_append mt_append (toV ho) (PA.imp (pa_cons (toS he) pa_nil (star1 hs _ _)) fun g H Q q => q) hbase (few2 hs _ _) hl (star1 hs _ _) rfl) fun g H Q ⟨w, st, R, p⟩ => by
    refine ⟨w, st, R, Post.bind p fun x st1 _ w1 H1 v l1 R1 r1 q1 => ?_⟩
    obtain ⟨xs0, e0, q1⟩ := q1.ofB
    refine ⟨lst_ty R1 r1 e0, w1, st1, R1, Post.bind q1 fun y st2 _ w2 H2 u l2 R2 r2 q2 => ?_⟩
    obtain ⟨st3, e3, q3⟩ := q2.ofB
    obtain ⟨xs, e4, e5⟩ := Option.bind_eq_some_iff.mp e3
    split at e5
    · rename_i hsm
      obtain ⟨c, e6, e7⟩ := Option.bind_eq_some_iff.mp e4
      cases c with
      | lst ys =>
        cases e7
        obtain ⟨a, ev, ⟨vs, h1, h2⟩, nx⟩ := R2.con (RepE.mono l2 r1) e5 e6
        subst ev
        refine ⟨a, vs, u, rfl, rfl, h1, by rw [h2.length]; exact small_lt hsm, ?_⟩
        exact q3.okV (nx _ ⟨_, upd_same, h2.snoc r2⟩) .non
      | _ => cases e7
    · cases e5
theorem i_pop1 {apos : Pos} (ho : PEr X W o fa) (he : PEr X W e fb) (hs : noStar e = true) (hbase : attributeBase o "pop" X.env (eval o X.env) = eval o X.env) (hl : (apos.endLine == pos.line) = true) :
    PEr X W (.Call (.Attribute o "pop" apos) [e] [] pos) fun st => (vOf (fa st)).bind fun x st => (Out.of st (seqL st x)).bind fun _ st => (vOf (fb st)).bind fun k st => (Out.of st (popS st x k)).bind fun p _ => .ok (.v p.1) p.2 :=
  PE.imp (pe_bm PySem.F.plainAttrs_list PySem.F.slot_list_pop PySem.F.type_list_pop mt_popAt (toV ho) (pa_one he hs) hbase (few2 hs _ _) hl (star1 hs _ _) rfl) fun g H Q ⟨w, st, R, p⟩ => by
    refine ⟨w, st, R, Post.bind p fun x st1 _ w1 H1 v l1 R1 r1 q1 => ?_⟩
    obtain ⟨xs0, e0, q1⟩ := q1.ofB
    refine ⟨lst_ty R1 r1 e0, w1, st1, R1, Post.bind q1 fun y st2 _ w2 H2 u l2 R2 r2 q2 => ?_⟩
    obtain ⟨pr, e3, q3⟩ := q2.ofB
    obtain ⟨xs, e4, e5⟩ := Option.bind_eq_some_iff.mp e3
    split at e5
    case isFalse => cases e5
    rename_i hsm
    obtain ⟨k, e6, e7⟩ := Option.bind_eq_some_iff.mp e5
    obtain ⟨j, e8, e9⟩ := Option.bind_eq_some_iff.mp e7
    obtain ⟨z, e10, e11⟩ := Option.bind_eq_some_iff.mp e9
    obtain ⟨st3, e12, e13⟩ := Option.map_eq_some_iff.mp e11
    subst e13
    obtain ⟨c, e14, e15⟩ := Option.bind_eq_some_iff.mp e4
    cases c with
    | lst ys =>
      cases e15
      cases y with
      | int i =>
        cases e6
        obtain ⟨a, ev, ⟨vs, h1, h2⟩, nx⟩ := R2.con (RepE.mono l2 r1) e12 e14
        subst ev
        obtain ⟨b1, b2, b3, b4⟩ := ixN_seq e8
        obtain ⟨zv, e16, r16⟩ := h2.get e10
        have hv := h2.length
        have hz := small_line hsm
        rw [sizeLine_eq] at hz
        refine ⟨a, vs, k, j, zv, rfl, by rw [r2.int], h1, ?_, ?_, by rw [hv]; exact b1, e16, ?_⟩
        · omega
        · omega
        · exact q3.okV (nx _ ⟨_, upd_same, h2.erase j⟩) r16
      | _ => cases e6
    | _ => cases e15
theorem m2_of {m : PySem.Str} {apos : Pos} {e1 e2 : Expr} (hbase : attributeBase o m X.env (eval o X.env) = eval o X.env) (hl : (apos.endLine == pos.line) = true) (h1 : noStar e1 = true) (h2 : noStar e2 = true) : M2 X o m apos e1 e2 pos where
  base := hbase
  few := by rw [stars_all (es := [e1, e2]) (by simp [h1, h2])]; rfl
  line := hl
  trees := by rw [star1 h1, star1 h2]; rfl
theorem i_get2 {apos : Pos} (hu : X.A.units + 1 < cLine) (ho : PEr X W o fa) (ha : PEr X W a fb) (hb : PEr X W b fc) (hs : noStar a = true) (hs2 : noStar b = true)
    (hbase : attributeBase o "get" X.env (eval o X.env) = eval o X.env) (hl : (apos.endLine == pos.line) = true) :
    PEr X W (.Call (.Attribute o "get" apos) [a, b] [] pos) fun st => (vOf (fa st)).bind fun x st => (Out.of st ((cont st x).bind asDK)).bind fun _ st => (vOf (fb st)).bind fun k st => (sOf (fc st)).bind fun d st => Out.of st (get2S st x k d) :=
  PE.imp (pe_dget2 hu (toV ho) (toV ha) (toS hb) (m2_of hbase hl hs hs2)) fun g H Q ⟨w, st, R, p⟩ => by
    refine ⟨w, st, R, Post.bind p fun x st1 _ w1 H1 v l1 R1 r1 q1 => ?_⟩
    obtain ⟨kv0, e0, q1⟩ := q1.ofB
    obtain ⟨c0, e1, e2⟩ := Option.bind_eq_some_iff.mp e0
    have h0 := R1.cont r1 e1
    cases c0 with
    | dK kvs0 =>
      obtain ⟨pa, vs0, ev, h1, h2⟩ := h0
      subst ev
      refine ⟨pa, rfl, .inl ⟨_, h1⟩, w1, st1, R1, Post.bind q1 fun y st2 _ w2 H2 u l2 R2 r2 q2 => ⟨w2, st2, R2, Post.bind q2 fun z st3 _ w3 H3 u3 l3 R3 r3 q3 => ?_⟩⟩
      obtain ⟨rv, e3, q⟩ := q3.of
      obtain ⟨kvs, e4, e5⟩ := Option.bind_eq_some_iff.mp e3
      obtain ⟨k, e6, e7⟩ := Option.map_eq_some_iff.mp e5
      subst e7
      obtain ⟨c1, e8, e9⟩ := Option.bind_eq_some_iff.mp e4
      have hh := R3.cont (RepE.mono (l2.trans l3) r1) e8
      cases c1 with
      | dK kvs1 =>
        cases e9
        obtain ⟨pa', vs1, ev, h3, h4⟩ := hh
        cases ev
        rcases reps_val k h4 with ⟨z1, z2⟩ | ⟨x1, v1, z1, z2, z3⟩
        · rw [z1] at q
          refine ⟨none, .inl ⟨vs1, k, h3, asK_rep (RepE.mono l3 r2) e6, z2.symm⟩, q.okV R3 r3⟩
        · rw [z1] at q
          refine ⟨some v1, .inl ⟨vs1, k, h3, asK_rep (RepE.mono l3 r2) e6, z2.symm⟩, q.okV R3 z3⟩
      | _ => cases e9
    | _ => cases e2
theorem toDs_get : ∀ {xs : List IV} {ds : List PyData}, toDs xs = some ds → ds.length = xs.length
  | [], _, h => by unfold toDs at h; cases h; rfl
  | x :: xs, _, h => by
    unfold toDs at h
    obtain ⟨d, e1, e2⟩ := Option.bind_eq_some_iff.mp h
    obtain ⟨ds, e3, e4⟩ := Option.map_eq_some_iff.mp e2
    subst e4
    rw [List.length_cons, List.length_cons, toDs_get e3]
theorem i_index {apos : Pos} (hu : X.A.units + 66 < cLine) (ho : PEr X W o fa) (he : PEr X W e fb) (hs : noStar e = true) (hbase : attributeBase o "index" X.env (eval o X.env) = eval o X.env) (hl : (apos.endLine == pos.line) = true) :
    PEr X W (.Call (.Attribute o "index" apos) [e] [] pos) fun st => (vOf (fa st)).bind fun x st => (Out.of st (seqL st x)).bind fun _ st => (vOf (fb st)).bind fun y st => Out.of st (indexS st x y) :=
  PE.imp (pe_bm PySem.F.plainAttrs_list PySem.F.slot_list_index PySem.F.type_list_index (mt_indexD (by omega)) (toV ho) (pa_one he hs) hbase (few2 hs _ _) hl (star1 hs _ _) rfl) fun g H Q ⟨w, st, R, p⟩ => by
    refine ⟨w, st, R, Post.bind p fun x st1 _ w1 H1 v l1 R1 r1 q1 => ?_⟩
    obtain ⟨xs0, e0, q1⟩ := q1.ofB
    refine ⟨lst_ty R1 r1 e0, w1, st1, R1, Post.bind q1 fun y st2 _ w2 H2 u l2 R2 r2 q2 => ?_⟩
    obtain ⟨rv, e3, q3⟩ := q2.of
    obtain ⟨xs, e4, e5⟩ := Option.bind_eq_some_iff.mp e3
    obtain ⟨ds, e6, e7⟩ := Option.bind_eq_some_iff.mp e5
    obtain ⟨d, e8, e9⟩ := Option.bind_eq_some_iff.mp e7
    split at e9
    · rename_i hh
      obtain ⟨s1, s2⟩ := Bool.and_eq_true_iff.mp hh
      obtain ⟨j, e10, e11⟩ := Option.map_eq_some_iff.mp e9
      subst e11
      obtain ⟨hj, hit, no⟩ := List.findIdx?_eq_some_iff_getElem.mp e10
      obtain ⟨pa, vs, ev, h1, h2⟩ := R2.seqL (RepE.mono l2 r1) e4
      subst ev
      refine ⟨pa, u, d, ds, j, ds[j], rfl, rfl, .lst h1 (dpr_vs R2 h2 e6), R2.dp r2 e8, s1, s2, List.getElem?_eq_getElem hj, hit, fun m z' hm hz => ?_, q3.okV R2 (.int _)⟩
      obtain ⟨hm', e12⟩ := List.getElem?_eq_some_iff.mp hz
      have := no m hm
      rw [e12] at this
      simpa using this
    · cases e9
end
end Ip

/-! Ip6c: list(zip(xs, ys)). -/
namespace Ip
open PySem PySem.Spec PyProof.Rows L2

/-! ### the list's loop over a zip -/
structure ZAt (h : Heap) (z TI TO i1 i2 l1 l2 S : Addr) (xs ys : Array Value) (i : Nat) : Prop where
  hTI : PySem.IsPair h TI (.ref i1) (.ref i2)
  hTO : TO < h.objs.size
  h1 : h.IsListIter i1 l1 i
  h2 : h.IsListIter i2 l2 i
  hl1 : h.IsList l1 xs
  hl2 : h.IsList l2 ys
  hz : (PySem.IsZip h z TI TO .none ∧ ∃ a b, PySem.IsPair h TO a b) ∨ ∃ T f oT, PySem.IsZipHeld h z TI TO T f ∧ h.get? T = some oT ∧ T ≠ z ∧ T ≠ i1 ∧ T ≠ i2 ∧ T ≠ S
/-- the tuples so far -/
def PAt (h : Heap) (z TO i1 i2 S n0 : Addr) (acc : List Addr) (xs ys : Array Value) : Prop :=
  acc.Nodup ∧ ∀ (j : Nat) (T : Addr), acc[j]? = some T → n0 ≤ T ∧ T < h.objs.size ∧ T ≠ z ∧ T ≠ TO ∧ T ≠ i1 ∧ T ≠ i2 ∧ T ≠ S ∧ ∃ x y, xs[j]? = some x ∧ ys[j]? = some y ∧ PySem.IsPair h T x y
section
variable {prog : Program} {w : World} {A : Around} {z TI TO i1 i2 l1 l2 S : Addr} {xs ys : Array Value}
theorem zip_extend {R : Result → Shared → Prop} (hh : A.handled = none) (D : ZipApart z TI TO i1 i2 l1 l2) (hn : min xs.size ys.size ≤ sizeLine) (s0 : Shared) (d1 : S ≠ z ∧ S ≠ TI ∧ S ≠ TO ∧ S ≠ i1 ∧ S ≠ i2 ∧ S ≠ l1 ∧ S ≠ l2)
    (d2 : ∀ b o, s0.heap.get? b = some o → b ≠ z ∧ b ≠ TO ∧ b ≠ i1 ∧ b ≠ i2 ∧ b ≠ S) :
    ∀ (k i : Nat) (h : Heap) (tk : Nat) (acc : List Addr) (c : Nat), min xs.size ys.size - i = k → i ≤ min xs.size ys.size → acc.length = i → ZAt h z TI TO i1 i2 l1 l2 S xs ys i → PAt h z TO i1 i2 S s0.heap.objs.size acc xs ys →
      h.get? S = some { cls := .type "list", dict := none, data := .seq (acc.map Value.ref).toArray c, slots := #[] } → s0.heap.objs.size ≤ h.objs.size → (∀ b o, s0.heap.get? b = some o → h.get? b = some o) →
      (∀ (h' : Heap) (tk' : Nat) (acc' : List Addr) (c' : Nat), acc'.length = min xs.size ys.size → PAt h' z TO i1 i2 S s0.heap.objs.size acc' xs ys → h'.get? S = some { cls := .type "list", dict := none, data := .seq (acc'.map Value.ref).toArray c', slots := #[] } →
        (∀ b o, s0.heap.get? b = some o → h'.get? b = some o) → R (.ok (.ret .none)) { s0 with heap := h', toks := tk' }) →
      codeAny (model prog w) A (.builtin "list.extend.loop" ⟨[.ref S, .ref z, .none], []⟩) R { s0 with heap := h, toks := tk } := by
  obtain ⟨Sz, STI, STO, Si1, Si2, Sl1, Sl2⟩ := d1
  intro k
  induction k with
  | zero =>
    intro i h tk acc c hk hi ha Z PA hS hsz hk0 hR
    have hin : i = min xs.size ys.size := by omega
    refine codeAny_builtin F.entry_extend_loop ?_
    rw [Around.under_plainId F.plain_extend_loop _]
    show wpAny _ A.in1 (pyNext (.ref z) >>= _) _ _ _
    have hend : xs[i]? = none ∨ ys[i]? = none := by
      rcases Nat.le_total xs.size ys.size with h | h
      · exact .inl (Array.getElem?_eq_none (by rw [hin, Nat.min_eq_left h]; exact Nat.le_refl _))
      · exact .inr (Array.getElem?_eq_none (by rw [hin, Nat.min_eq_right h]; exact Nat.le_refl _))
    have fin : ∀ h', (∀ c o, c ≠ z → c ≠ TO → c ≠ i1 → c ≠ i2 → h.get? c = some o → h'.get? c = some o) → R (.ok (.ret .none)) { s0 with heap := h', toks := tk } := fun h' hk' => by
      refine hR h' tk acc c (ha.trans hin) ⟨PA.1, fun j T e => ?_⟩ (hk' _ _ Sz STO Si1 Si2 hS) fun b o e => ?_
      · obtain ⟨q0, q1, q2, q3, q4, q5, q6, x, y, q7, q8, q9⟩ := PA.2 j T e
        have q10 := hk' _ _ q2 q3 q4 q5 q9
        exact ⟨q0, Heap.lt_size q10, q2, q3, q4, q5, q6, x, y, q7, q8, q10⟩
      · obtain ⟨e1, e2, e3, e4, e5⟩ := d2 b o e
        exact hk' b o e1 e2 e3 e4 (hk0 b o e)
    rcases Z.hz with ⟨hz, a, b, hTO⟩ | ⟨T, f, oT, hz, hT, r1, r2, r3, r4⟩
    · exact wpAny_bind (wpAny_pyNext_zip_end (A := A.in1) hh D hz Z.hTI hTO Z.h1 Z.h2 Z.hl1 Z.hl2 hend fun h' hk' => wpAny_pure (fin h' hk'))
    · exact wpAny_bind (wpAny_pyNext_zip_end_held (A := A.in1) hh D hz hT Z.hTI Z.h1 Z.h2 Z.hl1 Z.hl2 hend fun h' hk' => wpAny_pure (fin h' fun c o c1 c2 c3 c4 e => hk' c o c1 c3 c4 e))
  | succ k ih =>
    intro i h tk acc c hk hi ha Z PA hS hsz hk0 hR
    have hlt : i < min xs.size ys.size := by omega
    have hix : i < xs.size := Nat.lt_of_lt_of_le hlt (Nat.min_le_left ..)
    have hiy : i < ys.size := Nat.lt_of_lt_of_le hlt (Nat.min_le_right ..)
    have ex := Array.getElem?_eq_getElem hix
    have ey := Array.getElem?_eq_getElem hiy
    have lt : ∀ {c : Addr} {o : Obj}, h.get? c = some o → h.objs.size ≠ c := fun e => Nat.ne_of_gt (Heap.lt_size e)
    have nz : h.objs.size ≠ z := by rcases Z.hz with ⟨hz, _⟩ | ⟨_, _, _, hz, _⟩ <;> exact lt hz
    have n1 : h.objs.size ≠ i1 := let ⟨_, e, _⟩ := Z.h1; lt e
    have n2 : h.objs.size ≠ i2 := let ⟨_, e, _⟩ := Z.h2; lt e
    have nS : h.objs.size ≠ S := lt hS
    refine codeAny_builtin F.entry_extend_loop ?_
    rw [Around.under_plainId F.plain_extend_loop _]
    show wpAny _ A.in1 (pyNext (.ref z) >>= _) _ _ _
    have go : ∀ (nTO : h.objs.size ≠ TO) (h' : Heap), (∀ c o, c ≠ z → c ≠ TO → c ≠ i1 → c ≠ i2 → h.get? c = some o → h'.get? c = some o) → PySem.IsPair h' h.objs.size xs[i] ys[i] → h'.objs.size = h.objs.size + 1 →
        (∀ h'', Heap.SameBut S h' h'' → ZAt h'' z TI TO i1 i2 l1 l2 S xs ys (i + 1)) →
        wpAny (model prog w) A.in1 (updateSeq S (·.push (.ref h.objs.size)) >>= fun _ => again (.builtin "list.extend.loop" ⟨[.ref S, .ref z, .none], []⟩)) (fun fin s' => match fin with | .done f => R (.ok f) s' | .again c' => c'.quiet = true ∧ codeAny (model prog w) A c' R s') (fun e s' => R (.error e) s') { s0 with heap := h', toks := tk } := fun nTO h' hk' hp hs' hZ => by
      have hS' := hk' _ _ Sz STO Si1 Si2 hS
      refine wpAny_bind (wpAny_updateSeq hS' rfl (wpAny_pure ⟨plainId_quiet F.plain_extend_loop _, ?_⟩) ?_)
      · have sb : Heap.SameBut S h' (h'.update S (Obj.mapSeq (·.push (Value.ref h.objs.size)))) := Heap.SameBut.update ..
        obtain ⟨c2, e1⟩ : ∃ c2, (h'.update S (Obj.mapSeq (·.push (Value.ref h.objs.size)))).get? S = some { cls := .type "list", dict := none, data := .seq ((acc ++ [h.objs.size]).map Value.ref).toArray c2, slots := #[] } := by
          rw [Heap.get?_update_self _ hS' rfl]
          have ea : ((acc ++ [h.objs.size]).map Value.ref).toArray = (acc.map Value.ref).toArray.push (Value.ref h.objs.size) := by simp
          rw [ea]
          exact ⟨_, rfl⟩
        have sz2 : (h'.update S (Obj.mapSeq (·.push (Value.ref h.objs.size)))).objs.size = h.objs.size + 1 := by rw [sb.1, hs']
        refine ih (i + 1) _ tk (acc ++ [h.objs.size]) c2 (by omega) hlt (by simp [ha]) (hZ _ sb) ⟨?_, fun j T e => ?_⟩ e1 (show s0.heap.objs.size ≤ (h'.update S (Obj.mapSeq (·.push (Value.ref h.objs.size)))).objs.size by rw [sz2]; exact Nat.le_succ_of_le hsz) (fun b o e => ?_) hR
        · refine List.nodup_append.mpr ⟨PA.1, by simp, fun a ha1 b hb => ?_⟩
          rw [List.mem_singleton.mp hb]
          obtain ⟨j, hj⟩ := List.mem_iff_getElem?.mp ha1
          have := (PA.2 j a hj).2.1
          exact Nat.ne_of_lt this
        · by_cases hj : j < acc.length
          · rw [List.getElem?_append_left hj] at e
            obtain ⟨q0, q1, q2, q3, q4, q5, q6, x, y, q7, q8, q9⟩ := PA.2 j T e
            exact ⟨q0, (show T < (h'.update S (Obj.mapSeq (·.push (Value.ref h.objs.size)))).objs.size by rw [sz2]; exact Nat.lt_succ_of_lt q1), q2, q3, q4, q5, q6, x, y, q7, q8, (sb.2 T q6).trans (hk' _ _ q2 q3 q4 q5 q9)⟩
          · have hj2 : j = acc.length := by
              have := (List.getElem?_eq_some_iff.mp e).1
              simp at this; omega
            subst hj2
            rw [List.getElem?_append_right (Nat.le_refl _)] at e
            have eT : h.objs.size = T := by simpa using e
            subst eT
            rw [ha]
            exact ⟨hsz, (show h.objs.size < (h'.update S (Obj.mapSeq (·.push (Value.ref h.objs.size)))).objs.size by rw [sz2]; exact Nat.lt_succ_self _), nz, nTO, n1, n2, nS, _, _, ex, ey, (sb.2 _ nS).trans hp⟩
        · obtain ⟨q1, q2, q3, q4, q5⟩ := d2 b o e
          exact (sb.2 b q5).trans (hk' b o q1 q2 q3 q4 (hk0 b o e))
      · rw [List.size_toArray, List.length_map]
        omega
    rcases Z.hz with ⟨hz, a, b, hTO⟩ | ⟨T, f, oT, hz, hT, r1, r2, r3, r4⟩
    · refine wpAny_bind (wpAny_pyNext_zip_item D hz Z.hTI hTO Z.h1 Z.h2 Z.hl1 Z.hl2 ex ey fun h' a1 a2 a3 a4 a5 a6 hk' => go (lt hTO) h' hk' a5 a6 fun h'' sb => ?_)
      have k2 : ∀ c o, c ≠ S → h'.get? c = some o → h''.get? c = some o := fun c o hc e => (sb.2 c hc).trans e
      exact ⟨k2 _ _ STI.symm (hk' _ _ D.TIz D.TITO D.TIi1 D.TIi2 Z.hTI), (show TO < h''.objs.size by rw [sb.1, a6]; exact Nat.lt_succ_of_lt Z.hTO), a3.at fun o e => k2 _ o Si1.symm e, a4.at fun o e => k2 _ o Si2.symm e, (Z.hl1.at fun o e => hk' _ o D.l1z D.l1TO D.l1i1 D.l1i2 e).at fun o e => k2 _ o Sl1.symm e,
        (Z.hl2.at fun o e => hk' _ o D.l2z D.l2TO D.l2i1 D.l2i2 e).at fun o e => k2 _ o Sl2.symm e, .inr ⟨h.objs.size, false, _, k2 _ _ Sz.symm a1, k2 _ _ nS a5, nz, n1, n2, nS⟩⟩
    · refine wpAny_bind (wpAny_pyNext_zip_item_held D hz hT Z.hTI Z.h1 Z.h2 Z.hl1 Z.hl2 ex ey fun h' a1 a3 a4 a5 a6 hk' => go (Nat.ne_of_gt Z.hTO) h' (fun c o c1 c2 c3 c4 e => hk' c o c1 c3 c4 e) a5 a6 fun h'' sb => ?_)
      have k2 : ∀ c o, c ≠ S → h'.get? c = some o → h''.get? c = some o := fun c o hc e => (sb.2 c hc).trans e
      exact ⟨k2 _ _ STI.symm (hk' _ _ D.TIz D.TIi1 D.TIi2 Z.hTI), (show TO < h''.objs.size by rw [sb.1, a6]; exact Nat.lt_succ_of_lt Z.hTO), a3.at fun o e => k2 _ o Si1.symm e, a4.at fun o e => k2 _ o Si2.symm e, (Z.hl1.at fun o e => hk' _ o D.l1z D.l1i1 D.l1i2 e).at fun o e => k2 _ o Sl1.symm e,
        (Z.hl2.at fun o e => hk' _ o D.l2z D.l2i1 D.l2i2 e).at fun o e => k2 _ o Sl2.symm e, .inr ⟨T, true, oT, k2 _ _ Sz.symm a1, k2 _ _ r4 (hk' _ _ r1 r2 r3 hT), r1, r2, r3, r4⟩⟩
end
theorem zip_no_len : typeLookup (.type "zip") "__len__" = pure none := by rw [typeLookup_type, builtinLookup_eq_fast]; kernel_rfl
theorem zip_no_hint : typeLookup (.type "zip") "__length_hint__" = pure none := by rw [typeLookup_type, builtinLookup_eq_fast]; kernel_rfl
section
variable {prog : Program} {w : World} {A : Around} {E : Value → Shared → Prop} {s : Shared}
/-- list(zip(xs, ys)) of two lists: the new tuples, the new list of them -/
theorem call_list_zip {l1 l2 : Addr} {xs ys : Array Value} {Q : Value → Shared → Prop} (hh : A.handled = none) (hl1 : s.heap.IsList l1 xs) (hl2 : s.heap.IsList l2 ys) (hn : min xs.size ys.size ≤ sizeLine) (h : Heap) (tk : Nat)
    (k0 : ∀ b o, s.heap.get? b = some o → h.get? b = some o) (sz : h.objs.size = s.heap.objs.size + 5)
    (hz : PySem.IsZip h (s.heap.objs.size + 4) (s.heap.objs.size + 2) (s.heap.objs.size + 3) .none) (hTI : PySem.IsPair h (s.heap.objs.size + 2) (.ref s.heap.objs.size) (.ref (s.heap.objs.size + 1)))
    (hTO : PySem.IsPair h (s.heap.objs.size + 3) .none .none) (hi1 : h.IsListIter s.heap.objs.size l1 0) (hi2 : h.IsListIter (s.heap.objs.size + 1) l2 0)
    (hQ : ∀ (h' : Heap) (tk' : Nat) (S : Addr) (acc : List Addr) (c : Nat), s.heap.objs.size ≤ S → acc.length = min xs.size ys.size → acc.Nodup → (∀ T ∈ acc, T ≠ S) → h'.get? S = some { cls := .type "list", dict := none, data := .seq (acc.map Value.ref).toArray c, slots := #[] } →
      (∀ (j : Nat) (T : Addr), acc[j]? = some T → s.heap.objs.size ≤ T ∧ ∃ x y, xs[j]? = some x ∧ ys[j]? = some y ∧ PySem.IsPair h' T x y) → (∀ b o, s.heap.get? b = some o → h'.get? b = some o) → Q (.ref S) { s with heap := h', toks := tk' }) :
    wpAny (model prog w) A (call (.type "list") [.ref (s.heap.objs.size + 4)]) Q E { s with heap := h, toks := tk } := by
  have lt1 : l1 < s.heap.objs.size := let ⟨_, e, _⟩ := hl1; Heap.lt_size e
  have lt2 : l2 < s.heap.objs.size := let ⟨_, e, _⟩ := hl2; Heap.lt_size e
  generalize hN : s.heap.objs.size = N at *
  have D : ZipApart (N + 4) (N + 2) (N + 3) N (N + 1) l1 l2 := by
    have lt : ∀ {a b : Nat}, a < b → a ≠ b := Nat.ne_of_lt
    have gt : ∀ {a b : Nat}, b < a → a ≠ b := Nat.ne_of_gt
    have u1 : ∀ j : Nat, l1 ≠ N + j := fun j => Nat.ne_of_lt (Nat.lt_of_lt_of_le lt1 (Nat.le_add_right N j))
    have u2 : ∀ j : Nat, l2 ≠ N + j := fun j => Nat.ne_of_lt (Nat.lt_of_lt_of_le lt2 (Nat.le_add_right N j))
    refine ⟨lt (by omega), lt (by omega), lt (by omega), lt (by omega), lt (by omega), gt (by omega), gt (by omega), gt (by omega), gt (by omega), lt (by omega), u1 4, u1 3, u1 0, u1 1, u2 4, u2 3, u2 0, u2 1⟩
  refine callType_codes (Q₁ := fun obj s₁ => obj = .ref h.objs.size ∧ s₁ = { s with heap := h.push { cls := .type "list", data := .seq #[] }, toks := tk }) F.called_list (F.typeCall_list_1 _) F.entry_list_init
    (code_list_new _ ⟨rfl, rfl⟩) fun obj s₁ h₁ => ?_
  obtain ⟨rfl, rfl⟩ := h₁
  have hS : (h.push { cls := .type "list", data := .seq #[] }).get? h.objs.size = some { cls := .type "list", data := .seq #[] } := Heap.get?_push_size _ rfl
  refine ⟨⟨_, hS, rfl⟩, F.args_list_init_2 _ _, ?_⟩
  have nS : ∀ {c : Nat}, c < N + 5 → c ≠ h.objs.size := fun hc z => by rw [z, sz] at hc; exact absurd hc (Nat.lt_irrefl _)
  -- list.__init__
  show wpAny _ A.in1.in1 (do let old ← Builtin.List.listItems (.ref h.objs.size); Builtin.List.listUpdate (.ref h.objs.size) (fun _ => #[]); letGo old.toList.reverse; Builtin.List.listExtendWith (.ref h.objs.size) (.ref (N + 4)) .none) _ _ _
  refine wpAny_bind ?_
  unfold Builtin.List.listItems
  refine wpAny_bind (wpAny_seqItems hS rfl (wpAny_pure ?_))
  show wpAny _ A.in1.in1 (updateSeq h.objs.size (fun _ => #[]) >>= fun _ => letGo (#[] : Array Value).toList.reverse >>= fun _ => Builtin.List.listExtendWith (.ref h.objs.size) (.ref (N + 4)) .none) _ _ _
  refine wpAny_bind (wpAny_updateSeq hS rfl ?_)
  refine wpAny_bind (wpAny_letGo ?_)
  generalize hh2 : (h.push { cls := .type "list", data := .seq #[] }).update h.objs.size (Obj.mapSeq (fun _ => (#[] : Array Value))) = h2
  have sb2 : Heap.SameBut h.objs.size (h.push { cls := .type "list", data := .seq #[] }) h2 := by rw [← hh2]; exact Heap.SameBut.update ..
  have k2 : ∀ b o, b ≠ h.objs.size → h.get? b = some o → h2.get? b = some o := fun b o hb e => (sb2.2 b hb).trans (Heap.get?_push_of_some _ e)
  have hS2 : ∃ c, h2.get? h.objs.size = some { cls := .type "list", dict := none, data := .seq #[] c, slots := #[] } := by rw [← hh2, Heap.get?_update_self _ hS rfl]; exact ⟨_, rfl⟩
  obtain ⟨c2, hS2⟩ := hS2
  have tz : Shared.TypeIs { s with heap := h2, toks := tk } (.ref (N + 4)) "zip" := ⟨_, k2 _ _ (nS (c := N + 4) (by omega)) hz, rfl⟩
  -- the loop's head
  unfold Builtin.List.listExtendWith
  refine wpAny_bind (wpAny_typeOf tz ?_)
  have g1 : Builtin.List.listSameRef (.ref h.objs.size) (.ref (N + 4)) = false := by simp [Builtin.List.listSameRef, (nS (show N + 4 < N + 5 by omega)).symm]
  have g2 : (Value.type "zip" == Value.type "list") = false := by decide
  have g3 : (Value.type "zip" == Value.type "tuple") = false := by decide
  simp only [g1, g2, g3, Bool.or_false, Bool.false_eq_true, if_false]
  refine wpAny_bind (wpAny_pyIter_zip (k2 _ _ (nS (c := N + 4) (by omega)) hz) ?_)
  refine wpAny_bind (wpAny_holding ?_)
  unfold Builtin.List.listLengthHint
  refine wpAny_bind (wpAny_specialOf tz zip_no_len ?_)
  refine wpAny_bind (wpAny_specialOf tz zip_no_hint ?_)
  refine wpAny_pure ?_
  show wpAny _ _ (rule "list.extend.makes-room" >>= fun _ => Builtin.List.listTouch (.ref h.objs.size) >>= fun _ => again (.builtin "list.extend.loop" ⟨[.ref h.objs.size, .ref (N + 4), .none], []⟩)) _ _ _
  refine wpAny_bind (wpAny_rule ?_)
  refine wpAny_bind ?_
  show wpAny _ _ (updateSeq h.objs.size (·.push .none) >>= fun _ => updateSeq h.objs.size (·.pop)) _ _ _
  refine wpAny_bind (wpAny_updateSeq hS2 rfl ?_)
  have hS3 := Heap.get?_update_self (Obj.mapSeq (·.push Value.none)) hS2 rfl
  refine wpAny_updateSeq (hz := by seq_fits) hS3 rfl ?_
  have hS4 := Heap.get?_update_self (Obj.mapSeq (·.pop)) hS3 rfl
  have k4 : ∀ b o, b ≠ h.objs.size → h.get? b = some o → ((h2.update h.objs.size (Obj.mapSeq (·.push Value.none))).update h.objs.size (Obj.mapSeq (·.pop))).get? b = some o := fun b o hb e =>
    (Heap.get?_update_other _ _ (Ne.symm hb)).trans ((Heap.get?_update_other _ _ (Ne.symm hb)).trans (k2 b o hb e))
  have sz4 : ((h2.update h.objs.size (Obj.mapSeq (·.push Value.none))).update h.objs.size (Obj.mapSeq (·.pop))).objs.size = N + 6 := by
    rw [(Heap.SameBut.update (h := h2.update h.objs.size (Obj.mapSeq (·.push Value.none))) (a := h.objs.size) (f := Obj.mapSeq (·.pop))).1, (Heap.SameBut.update (h := h2) (a := h.objs.size) (f := Obj.mapSeq (·.push Value.none))).1, sb2.1, Heap.size_push, sz]
  have e4 : ∃ c, ((h2.update h.objs.size (Obj.mapSeq (·.push Value.none))).update h.objs.size (Obj.mapSeq (·.pop))).get? h.objs.size = some { cls := .type "list", dict := none, data := .seq (([] : List Addr).map Value.ref).toArray c, slots := #[] } := ⟨_, hS4⟩
  obtain ⟨c4, e4⟩ := e4
  generalize hh4 : (h2.update h.objs.size (Obj.mapSeq (·.push Value.none))).update h.objs.size (Obj.mapSeq (·.pop)) = h4 at *
  have nl1 : l1 ≠ h.objs.size := nS (Nat.lt_of_lt_of_le lt1 (Nat.le_add_right N 5))
  have nl2 : l2 ≠ h.objs.size := nS (Nat.lt_of_lt_of_le lt2 (Nat.le_add_right N 5))
  have kl : ∀ b o, s.heap.get? b = some o → b < N := fun b o e => by rw [← hN]; exact Heap.lt_size e
  have Z : ZAt h4 (N + 4) (N + 2) (N + 3) N (N + 1) l1 l2 h.objs.size xs ys 0 := by
    refine ⟨k4 _ _ (nS (by omega)) hTI, by rw [sz4]; show N + 3 < N + 6; omega, hi1.at fun o e => k4 _ o (nS (by omega)) e, hi2.at fun o e => k4 _ o (nS (by omega)) e, hl1.at fun o e => k4 _ o nl1 (k0 _ _ e), hl2.at fun o e => k4 _ o nl2 (k0 _ _ e), .inl ⟨k4 _ _ (nS (by omega)) hz, _, _, k4 _ _ (nS (by omega)) hTO⟩⟩
  have base : ∀ b o, s.heap.get? b = some o → b ≠ N + 4 ∧ b ≠ N + 3 ∧ b ≠ N ∧ b ≠ N + 1 ∧ b ≠ h.objs.size := fun b o e => by
    have hb := kl b o e
    have q : ∀ j : Nat, b ≠ N + j := fun j => Nat.ne_of_lt (Nat.lt_of_lt_of_le hb (Nat.le_add_right N j))
    exact ⟨q 4, q 3, q 0, q 1, nS (Nat.lt_of_lt_of_le hb (Nat.le_add_right N 5))⟩
  have go := zip_extend (prog := prog) (w := w) (A := A.in1) (R := wants (fun r s₂ => r = Value.none ∧ Q (Value.ref h.objs.size) s₂) E) hh D hn s
    ⟨(nS (c := N + 4) (by omega)).symm, (nS (c := N + 2) (by omega)).symm, (nS (c := N + 3) (by omega)).symm, (nS (c := N) (by omega)).symm, (nS (c := N + 1) (by omega)).symm, nl1.symm, nl2.symm⟩ base
    (min xs.size ys.size) 0 h4 tk [] c4 rfl (Nat.zero_le _) rfl Z ⟨.nil, fun j T e => by simp at e⟩ e4 (by rw [sz4, hN]; omega) (fun b o e => k4 b o (base b o e).2.2.2.2 (k0 b o e)) fun h' tk' acc c a1 a2 a3 a4 => by
      refine ⟨rfl, hQ h' tk' h.objs.size acc c (by rw [sz]; omega) a1 a2.1 (fun T hT => ?_) a3 (fun j T e => ?_) a4⟩
      · obtain ⟨j, hj⟩ := List.mem_iff_getElem?.mp hT
        exact (a2.2 j T hj).2.2.2.2.2.2.1
      · obtain ⟨q0, _, _, _, _, _, _, x, y, q7, q8, q9⟩ := a2.2 j T e
        exact ⟨by rw [← hN]; exact q0, x, y, q7, q8, q9⟩
  exact wpAny_pure ⟨plainId_quiet F.plain_extend_loop _, go⟩
end
end Ip

/-! Ip8: targets, walks, comprehensions. -/
namespace Ip
open PySem PySem.Spec PyProof.Rows L2

/-! ### targets -/
mutual
def tgtSl : Tgt → List Nat
  | .name i => [i]
  | .tup ts => tgtSls ts
def tgtSls : List Tgt → List Nat
  | [] => []
  | t :: ts => tgtSl t ++ tgtSls ts
end
/-- st' is st with the slots of js set, and so the machine's -/
def Sets (K : PySem.W.Frag) (w : Wd) (H : Hp) (js : List Nat) (st' : IS) (σ σ' : L2.St) : Prop :=
  Rel K w st' σ' H ∧ σ'.length = σ.length ∧ ∀ j, j ∉ js → σ'[j]? = σ[j]?
def TGi (K : PySem.W.Frag) (f : IV → IS → Option IS) (js : List Nat) : TG := fun v σ H Q => ∃ w st x st', Rel K w st σ H ∧ RepV K w.S w.phi v x ∧ f x st = some st' ∧ ∀ σ', Sets K w H js st' σ σ' → Q σ' H
def TGsi (K : PySem.W.Frag) (f : List IV → IS → Option IS) (js : List Nat) : TGs := fun v σ H Q => ∃ w st x st', Rel K w st σ H ∧ RepVs K w.S w.phi v x ∧ f x st = some st' ∧ ∀ σ', Sets K w H js st' σ σ' → Q σ' H
theorem PG.imp {X : Cx} {tg : Expr} {t t' : TG} (h : PG X tg t) (i : ∀ v g H Q, t' v g H Q → t v g H Q) : PG X tg t' := ⟨fun pins s g H v u Q I r q => h.run pins s g H v u Q I r (i v g H Q q)⟩
theorem PGs.imp {X : Cx} {tg : List Expr} {t t' : TGs} (h : PGs X tg t) (i : ∀ v g H Q, t' v g H Q → t v g H Q) : PGs X tg t' := ⟨fun pins s g H v u Q I r q => h.run pins s g H v u Q I r (i v g H Q q)⟩
section
variable {X : Cx} {pos : Pos}
theorem g_name {i : Nat} {x : PySem.Str} (hN : X.N.Nodup) (hi : X.N[i]? = some x) (hx : Loc X.env.scope x) (hf : X.fn x = true ∨ X.env.scope.names.lookup x = some .local) : PG X (.Name x pos) (TGi X.K (bindT (.name i)) (tgtSl (.name i))) :=
  PG.imp (pg_name hN hi hx hf) fun v g H Q ⟨w, st, x, st', R, r, e, q⟩ => by
    have e' : (if stor x && decide (i < st.r.length) then some { st with r := st.r.set i (.val x) } else none) = some st' := by unfold bindT at e; exact e
    split at e'
    · rename_i hh
      obtain ⟨h1, h2⟩ := Bool.and_eq_true_iff.mp hh
      cases e'
      refine q _ ⟨R.setVal (of_decide_eq_true h2) r, by simp, fun j hj => ?_⟩
      have : j ≠ i := fun z => hj (by subst z; exact List.mem_singleton.mpr rfl)
      exact List.getElem?_set_ne (Ne.symm this)
    · cases e'
theorem gs_nil : PGs X [] (TGsi X.K (bindTs []) (tgtSls [])) :=
  PGs.imp pgs_nil fun v g H Q ⟨w, st, x, st', R, r, e, q⟩ => by
    cases r with
    | nil =>
      have e' : some st = some st' := by unfold bindTs at e; exact e
      cases e'
      exact ⟨rfl, q g ⟨R, rfl, fun _ _ => rfl⟩⟩
    | cons _ _ => unfold bindTs at e; cases e
theorem gs_cons {e : Expr} {es : List Expr} {t : Tgt} {ts : List Tgt} (h1 : PG X e (TGi X.K (bindT t) (tgtSl t))) (h2 : PGs X es (TGsi X.K (bindTs ts) (tgtSls ts)))
    (hs : (assignEach (e :: es) X.env).map (·.2) = assign e X.env :: (assignEach es X.env).map (·.2)) : PGs X (e :: es) (TGsi X.K (bindTs (t :: ts)) (tgtSls (t :: ts))) :=
  PGs.imp (pgs_cons h1 h2 hs) fun v g H Q ⟨w, st, x, st', R, r, e, q⟩ => by
    cases r with
    | nil => unfold bindTs at e; cases e
    | cons r1 r2 =>
      unfold bindTs at e
      obtain ⟨st1, e1, e2⟩ := Option.bind_eq_some_iff.mp e
      refine ⟨_, _, rfl, w, st, _, st1, R, r1, e1, fun σ1 ⟨R1, l1, k1⟩ => ⟨w, st1, _, st', R1, r2, e2, fun σ2 ⟨R2, l2, k2⟩ => q σ2 ⟨R2, l2.trans l1, fun j hj => ?_⟩⟩⟩
      have hj' : j ∉ tgtSl t ++ tgtSls ts := by unfold tgtSls at hj; exact hj
      rw [k2 j fun z => hj' (List.mem_append_right _ z), k1 j fun z => hj' (List.mem_append_left _ z)]
theorem g_tup {es : List Expr} {ts : List Tgt} {k : Nat} (hc : X.calm = true) (h : PGs X es (TGsi X.K (bindTs ts) (tgtSls ts))) (hn : (assignEach es X.env).length = ts.length) (hst : (assignEach es X.env).findIdx? (·.1) = none) :
    PG X (.Tuple es k pos) (TGi X.K (bindT (.tup ts)) (tgtSl (.tup ts))) :=
  PG.imp (pg_tup hc h hn hst) fun v g H Q ⟨w, st, x, st', R, r, e, q⟩ => by
    unfold bindT at e
    cases r with
    | tup h1 h2 =>
      have len : ∀ {ts : List Tgt} {xs : List IV} {st st' : IS}, bindTs ts xs st = some st' → xs.length = ts.length := fun {ts} => by
        induction ts with
        | nil => intro xs st st' z; cases xs with
          | nil => rfl
          | cons _ _ => unfold bindTs at z; cases z
        | cons t ts ih => intro xs st st' z; cases xs with
          | nil => unfold bindTs at z; cases z
          | cons x xs =>
            unfold bindTs at z
            obtain ⟨_, _, z2⟩ := Option.bind_eq_some_iff.mp z
            rw [List.length_cons, List.length_cons, ih z2]
      refine ⟨_, _, rfl, sqT_mono R.sub h1, by rw [h2.length, len e], w, st, _, st', R, h2, e, fun σ' z => q σ' ?_⟩
      unfold tgtSl
      exact z
    | _ => cases e
end

/-! ### walks -/
/-- J gives xs, whatever else is known -/
def JIt (K : PySem.W.Frag) (S : Hp) (phi : List Addr) (J : L2.It) (xs : List IV) : Prop :=
  ∀ (w1 : Wd) (st : IS) (g : L2.St) (H : Hp), HLe S w1.S phi w1.phi → Rel K w1 st g H → ∀ i : Nat,
    (∀ x, xs[i]? = some x → J.go i H ∧ ∀ v H', J.yld i H v H' → ∃ w2, Le w1 w2 ∧ Rel K w2 st g H' ∧ RepV K w2.S w2.phi v x) ∧ (i = xs.length → J.stop i H)
def JW (K : PySem.W.Frag) (w : Wd) (J : L2.It) : Walk → Prop
  | .items xs => JIt K w.S w.phi J xs
  | .live x _ => ∃ a n, x = .ref n ∧ w.phi[n]? = some a ∧ J = Itl K a
def rW (K : PySem.W.Frag) (_ : L2.St) : Wd → IS → Hp → L2.It → Walk → Prop := fun w _ _ J x => JW K w J x
abbrev PIi (X : Cx) (W : WX) (tg e : Expr) (f : IS → Out Walk) : Prop := PI X tg e (Ip.TI X.K W rW f)
theorem PI.imp {X : Cx} {tg e : Expr} {t t' : L2.TI} (h : PI X tg e t) (i : ∀ g H Q, t' g H Q → t g H Q) : PI X tg e t' := ⟨fun pins s g H Q I q => h.run pins s g H Q I (i g H Q q)⟩
section
variable {K : PySem.W.Frag} {S : Hp} {phi : List Addr} {a : Addr} {vs : List V} {xs : List IV}
theorem same_sq {K : PySem.W.Frag} {H : Hp} {a : Addr} {xs ys : List V} (h1 : SqL K H a xs) (h2 : SqL K H a ys) (i : Nat) (k : ∃ x, xs[i]? = some x) : True := trivial
theorem jit_list (h : SqL K S a vs) (r : RepVs K S phi vs xs) : JIt K S phi (Itl K a) xs := fun w1 st g H e R i => by
  have h1 : SqL K H a vs := sqL_mono R.sub (sqL_le e.s h)
  refine ⟨fun x hx => ?_, fun hi => ⟨vs, h1, by rw [r.length]; omega⟩⟩
  obtain ⟨v, h2, h3⟩ := r.get hx
  exact ⟨⟨vs, v, h1, h2⟩, fun u H' ⟨eH, hu⟩ => by
    subst eH
    have := hu vs h1
    rw [h2] at this
    cases this
    exact ⟨w1, Le.refl, R, h3.mono e⟩⟩
theorem jit_tup (h : SqT K S a vs) (r : RepVs K S phi vs xs) : JIt K S phi (Itt K a) xs := fun w1 st g H e R i => by
  have h1 : SqT K H a vs := sqT_mono R.sub (sqT_le e.s h)
  refine ⟨fun x hx => ?_, fun hi => ⟨vs, h1, by rw [r.length]; omega⟩⟩
  obtain ⟨v, h2, h3⟩ := r.get hx
  exact ⟨⟨vs, v, h1, h2⟩, fun u H' ⟨eH, hu⟩ => by
    subst eH
    have := hu vs h1
    rw [h2] at this
    cases this
    exact ⟨w1, Le.refl, R, h3.mono e⟩⟩
theorem rangeI_get : ∀ (n : Nat) (lo : Int) (i : Nat), (rangeI lo n)[i]? = if i < n then some (.int (lo + i)) else none
  | 0, lo, i => by simp [rangeI]
  | n + 1, lo, 0 => by simp [rangeI]
  | n + 1, lo, i + 1 => by
    rw [rangeI, List.getElem?_cons_succ, rangeI_get n (lo + 1) i]
    by_cases h : i < n
    · rw [if_pos h, if_pos (by omega)]; congr 2; omega
    · rw [if_neg h, if_neg (by omega)]
theorem rangeI_len : ∀ (n : Nat) (lo : Int), (rangeI lo n).length = n
  | 0, _ => rfl
  | n + 1, lo => by rw [rangeI, List.length_cons, rangeI_len n]
theorem jit_rng (lo : Int) (n : Nat) : JIt K S phi (Itr lo n) (rangeI lo n) := fun w1 st g H e R i => by
  rw [rangeI_get, rangeI_len]
  refine ⟨fun x hx => ?_, fun hi => by subst hi; exact Nat.le_refl _⟩
  by_cases h : i < n
  · rw [if_pos h] at hx
    cases hx
    exact ⟨h, fun v H' ⟨eH, ev⟩ => by subst eH ev; exact ⟨w1, Le.refl, R, .int _⟩⟩
  · rw [if_neg h] at hx; cases hx
theorem enumI_get : ∀ (xs : List IV) (k i : Nat), (enumI k xs)[i]? = (xs[i]?).map fun x => .tup [.int ((k + i : Nat) : Int), x]
  | [], k, i => by simp [enumI]
  | x :: r, k, 0 => by simp [enumI]
  | x :: r, k, i + 1 => by
    rw [enumI, List.getElem?_cons_succ, enumI_get r (k + 1) i, List.getElem?_cons_succ]
    have : k + 1 + i = k + (i + 1) := by omega
    rw [this]
theorem enumI_len : ∀ (xs : List IV) (k : Nat), (enumI k xs).length = xs.length
  | [], _ => rfl
  | x :: r, k => by rw [enumI, List.length_cons, enumI_len r, List.length_cons]
/-- a tuple just made -/
theorem new_tup {w : Wd} {st : IS} {g : L2.St} {H : Hp} {T : Addr} {vs : List V} {xs : List IV} (R : Rel K w st g H) (n : H T = none) (r : RepVs K w.S w.phi vs xs) :
    ∃ w2, Le w w2 ∧ Rel K w2 st g (upd H T (.tup vs)) ∧ RepV K w2.S w2.phi (.ref T) (.tup xs) := by
  obtain ⟨R2, lo⟩ := R.laid n (.tup vs)
  obtain ⟨R3, l3⟩ := R2.fix lo upd_same
  exact ⟨_, l3, R3, .tup (.inl (.inl upd_same)) (r.mono l3.h)⟩
theorem jit_enum (h : SqL K S a vs) (r : RepVs K S phi vs xs) : JIt K S phi (Ite K a) (enumI 0 xs) := fun w1 st g H e R i => by
  have h1 : SqL K H a vs := sqL_mono R.sub (sqL_le e.s h)
  rw [enumI_get, enumI_len]
  refine ⟨fun x hx => ?_, fun hi => ⟨vs, h1, by rw [r.length]; omega⟩⟩
  obtain ⟨y, h2, h3⟩ := Option.map_eq_some_iff.mp hx
  subst h3
  obtain ⟨v, h4, h5⟩ := r.get h2
  refine ⟨⟨vs, v, h1, h4⟩, fun u H' ⟨T, z, ev, n, eH, hz⟩ => ?_⟩
  have := hz vs h1
  rw [h4] at this
  cases this
  subst ev eH
  have e0 : (0 + i : Nat) = i := Nat.zero_add i
  rw [e0]
  exact new_tup R n (.cons (.int _) (.cons (h5.mono e) .nil))
theorem zipI_get : ∀ (xs ys : List IV) (i : Nat) {z : IV}, (zipI xs ys)[i]? = some z → ∃ x y, xs[i]? = some x ∧ ys[i]? = some y ∧ z = .tup [x, y]
  | [], _, i, z, h => by simp [zipI] at h
  | _ :: _, [], i, z, h => by simp [zipI] at h
  | x :: xs, y :: ys, 0, z, h => by simp [zipI] at h; exact ⟨x, y, rfl, rfl, h.symm⟩
  | x :: xs, y :: ys, i + 1, z, h => by
    rw [zipI, List.getElem?_cons_succ] at h
    obtain ⟨a, b, h1, h2, h3⟩ := zipI_get xs ys i h
    exact ⟨a, b, by simpa using h1, by simpa using h2, h3⟩
theorem zipI_len : ∀ (xs ys : List IV), (zipI xs ys).length = min xs.length ys.length
  | [], _ => by simp [zipI]
  | _ :: _, [] => by simp [zipI]
  | x :: xs, y :: ys => by simp [zipI, zipI_len xs ys]
theorem jit_zip {b : Addr} {us : List V} {ys : List IV} (h : SqL K S a vs) (r : RepVs K S phi vs xs) (h' : SqL K S b us) (r' : RepVs K S phi us ys) : JIt K S phi (Itz K a b) (zipI xs ys) := fun w1 st g H e R i => by
  have h1 : SqL K H a vs := sqL_mono R.sub (sqL_le e.s h)
  have h1' : SqL K H b us := sqL_mono R.sub (sqL_le e.s h')
  rw [zipI_len]
  refine ⟨fun x hx => ?_, fun hi => ⟨vs, us, h1, h1', by rw [r.length, r'.length]; omega⟩⟩
  obtain ⟨x1, y1, e1, e2, e3⟩ := zipI_get xs ys i hx
  subst e3
  obtain ⟨v, h4, h5⟩ := r.get e1
  obtain ⟨u, h4', h5'⟩ := r'.get e2
  refine ⟨⟨vs, us, v, u, h1, h1', h4, h4'⟩, fun z H' ⟨T, z1, z2, ev, n, eH, hz, hz'⟩ => ?_⟩
  have q := hz vs h1
  rw [h4] at q
  cases q
  have q := hz' us h1'
  rw [h4'] at q
  cases q
  subst ev eH
  exact new_tup R n (.cons (h5.mono e) (.cons (h5'.mono e) .nil))
end
section
variable {X : Cx} {tg e a b : Expr} {W : WX} {pos p : Pos} {f fa fb : IS → Out RV}
theorem w_it (h : PEr X W e f) : PIi X W tg e fun st => (vOf (f st)).bind fun x st => Out.of st (walkOf st x) := by
  have tup : PI X tg e (iTup X.K (Ip.TI X.K W rE fun st => vOf (f st))) := pi_tup (toV h)
  have lst : PI X tg e (iList X.K (Ip.TI X.K W rE fun st => vOf (f st))) := pi_list (toV h)
  refine ⟨fun pins s σ H R I ⟨w, st, Re, p⟩ => ?_⟩
  by_cases ht : ∃ xs st1, vOf (f st) = .ok (.tup xs) st1
  · obtain ⟨xs, st1, ef⟩ := ht
    refine tup.run pins s σ H R I ⟨w, st, Re, Post.bind p fun x st2 ex w1 H1 v l1 R1 r1 q1 => ?_⟩
    have ex' : Out.ok x st2 = Out.ok (.tup xs) st1 := ex.trans ef
    cases ex'
    cases (show RepV X.K w1.S w1.phi v (.tup xs) from r1) with
    | tup h1 h2 => exact ⟨_, rfl, ⟨_, sqT_mono R1.sub h1⟩, q1.ok R1 (show JW X.K w1 _ _ from jit_tup h1 h2)⟩
  · refine lst.run pins s σ H R I ⟨w, st, Re, Post.bind p fun x st2 ex w1 H1 v l1 R1 r1 q1 => ?_⟩
    obtain ⟨wk, e1, q1⟩ := q1.of
    cases x with
    | tup xs => exact absurd ⟨xs, st2, ex.symm⟩ ht
    | lst xs =>
      cases e1
      cases (show RepV X.K w1.S w1.phi v (.lst xs) from r1) with
      | lst h1 h2 => exact ⟨_, rfl, ⟨_, sqL_mono R1.sub h1⟩, q1.ok R1 (show JW X.K w1 _ _ from jit_list h1 h2)⟩
    | ref n =>
      obtain ⟨xs, e2, e3⟩ := Option.map_eq_some_iff.mp (show (seqL st2 (.ref n)).map (fun xs => Walk.live (.ref n) xs.length) = some wk from e1)
      subst e3
      obtain ⟨a, vs, ev, h1, h2⟩ := R1.seqL r1 e2
      subst ev
      cases (show RepV X.K w1.S w1.phi (.ref a) (.ref n) from r1) with
      | ref hp => exact ⟨a, rfl, ⟨vs, h1⟩, q1.ok R1 (show JW X.K w1 _ _ from ⟨a, n, rfl, hp, rfl⟩)⟩
    | _ => cases e1
theorem w_rng1 (h : PEr X W e f) (hs : noStar e = true) (hg : Gl X "range") (hm : X.mg "range" = none) : PIi X W tg (.Call (.Name "range" p) [e] [] pos) fun st =>
    (vOf (f st)).bind fun x st => Out.of st ((asI x).bind fun n => if i62 n then some (.items (rangeI 0 n.toNat)) else none) :=
  PI.imp (pi_range1 hg hm (pa_one h hs) (by rw [star1 hs]; rfl)) fun g H Q ⟨w, st, R, p⟩ => by
    refine ⟨w, st, R, Post.bind p fun x st1 _ w1 H1 v l1 R1 r1 q1 => ?_⟩
    obtain ⟨wk, e1, q1⟩ := q1.of
    cases x with
    | int i =>
      have e1' : (if i62 i = true then some (Walk.items (rangeI 0 i.toNat)) else none) = some wk := e1
      split at e1'
      · rename_i hh
        cases e1'
        have hh := i62_iff.mp hh
        exact ⟨i, by rw [r1.int], by omega, by omega, q1.ok R1 (show JW X.K w1 _ _ from jit_rng 0 _)⟩
      · cases e1'
    | _ => cases e1
theorem w_rng2 (ha : PEr X W a fa) (hb : PEr X W b fb) (hs : noStar a = true) (hs2 : noStar b = true) (hg : Gl X "range") (hm : X.mg "range" = none) : PIi X W tg (.Call (.Name "range" p) [a, b] [] pos) fun st =>
    (vOf (fa st)).bind fun x st => (vOf (fb st)).bind fun y st => Out.of st ((asI x).bind fun l => (asI y).bind fun n => if i62 n && i62 l then some (.items (rangeI l (n - l).toNat)) else none) :=
  PI.imp (pi_range2 hg hm (pa_two ha hb hs hs2) (by rw [star1 hs, star1 hs2]; rfl) (by rw [star1 hs2]; rfl)) fun g H Q ⟨w, st, R, p⟩ => by
    refine ⟨w, st, R, Post.bind p fun x st1 _ w1 H1 v l1 R1 r1 q1 => ⟨w1, st1, R1, Post.bind q1 fun y st2 _ w2 H2 u l2 R2 r2 q2 => ?_⟩⟩
    obtain ⟨wk, e1, q⟩ := q2.of
    cases x with
    | int i =>
      cases y with
      | int j =>
        have e1' : (if (i62 j && i62 i) = true then some (Walk.items (rangeI i (j - i).toNat)) else none) = some wk := e1
        split at e1'
        · rename_i hh
          cases e1'
          have hj := i62_iff.mp (Bool.and_eq_true_iff.mp hh).1
          have hi := i62_iff.mp (Bool.and_eq_true_iff.mp hh).2
          exact ⟨i, j, by rw [(RepE.mono l2 r1).int, r2.int], ⟨by omega, by omega, by omega, by omega⟩, q.ok R2 (show JW X.K w2 _ _ from jit_rng i _)⟩
        · cases e1'
      | _ => cases e1
    | _ => cases e1
theorem asL_rep {K : PySem.W.Frag} {w : Wd} {g : L2.St} {v : V} {x : IV} {xs : List IV} (r : RepE K w g v x) (e : asL x = some xs) : ∃ a vs, v = .ref a ∧ SqL K w.S a vs ∧ RepVs K w.S w.phi vs xs := by
  cases x with
  | lst ys =>
    cases e
    cases (show RepV K w.S w.phi v (.lst xs) from r) with
    | lst h1 h2 => exact ⟨_, _, rfl, h1, h2⟩
  | _ => cases e
theorem w_enum {elts : List Expr} {kk : Nat} {tpos : Pos} (h : PEr X W e f) (hs : noStar e = true) (hg : Gl X "enumerate") (hm : X.mg "enumerate" = none) : PIi X W (.Tuple elts kk tpos) (.Call (.Name "enumerate" p) [e] [] pos) fun st =>
    (vOf (f st)).bind fun x st => Out.of st ((asL x).map fun xs => .items (enumI 0 xs)) :=
  PI.imp (pi_enum hg hm (pa_one h hs) (by rw [star1 hs]; rfl)) fun g H Q ⟨w, st, R, p⟩ => by
    refine ⟨w, st, R, Post.bind p fun x st1 _ w1 H1 v l1 R1 r1 q1 => ?_⟩
    obtain ⟨wk, e1, q1⟩ := q1.of
    obtain ⟨xs, e2, e3⟩ := Option.map_eq_some_iff.mp e1
    subst e3
    obtain ⟨a, vs, ev, h1, h2⟩ := asL_rep r1 e2
    subst ev
    exact ⟨a, vs, rfl, sqL_mono R1.sub h1, q1.ok R1 (show JW X.K w1 _ _ from jit_enum h1 h2)⟩
theorem w_zip {elts : List Expr} {kk : Nat} {tpos : Pos} (ha : PEr X W a fa) (hb : PEr X W b fb) (hs : noStar a = true) (hs2 : noStar b = true) (hg : Gl X "zip") (hm : X.mg "zip" = none) : PIi X W (.Tuple elts kk tpos) (.Call (.Name "zip" p) [a, b] [] pos) fun st =>
    (vOf (fa st)).bind fun x st => (vOf (fb st)).bind fun y st => Out.of st ((asL x).bind fun xs => (asL y).map fun ys => .items (zipI xs ys)) :=
  PI.imp (pi_zip hg hm (pa_two ha hb hs hs2) (star1 hs _ _) (by rw [star1 hs2]; rfl)) fun g H Q ⟨w, st, R, p⟩ => by
    refine ⟨w, st, R, Post.bind p fun x st1 _ w1 H1 v l1 R1 r1 q1 => ⟨w1, st1, R1, Post.bind q1 fun y st2 _ w2 H2 u l2 R2 r2 q2 => ?_⟩⟩
    obtain ⟨wk, e1, q⟩ := q2.of
    obtain ⟨xs, e2, e3⟩ := Option.bind_eq_some_iff.mp e1
    obtain ⟨ys, e4, e5⟩ := Option.map_eq_some_iff.mp e3
    subst e5
    obtain ⟨a1, vs, ev, h1, h2⟩ := asL_rep (RepE.mono l2 r1) e2
    obtain ⟨b1, us, ev', h1', h2'⟩ := asL_rep r2 e4
    subst ev ev'
    exact ⟨a1, b1, vs, us, rfl, sqL_mono R2.sub h1, sqL_mono R2.sub h1', q.ok R2 (show JW X.K w2 _ _ from jit_zip h1 h2 h1' h2')⟩
end
end Ip

/-! Ip8b: list(zip(xs, ys)), read. -/
namespace Ip
open PySem PySem.Spec PyProof.Rows L2
section
variable {P : Program} {w0 : World} {H H1 : Hp} {h0 h h' : Heap} {a : Addr} {o : HO} {fs : List Addr}
theorem hok_upd (x : HOk P w0 H h) (n : H a = none) (new : ObjOk P w0 (upd H a o) h a o) : HOk P w0 (upd H a o) h := fun b u e => by
  by_cases hb : b = a
  · subst hb; rw [upd_same] at e; cases e; exact new
  · rw [upd_ne hb] at e
    exact (x b u e).stay (fun c v _ q => q) (fun c q => by rw [upd_ne (ne_of_none q n)]; exact q) fun c xs q => by rw [upd_ne (ne_of_none q n)]; exact q
theorem un_upd (u : Un fs [] H H1 h0 h') (hp : h0.objs.size ≤ a) (n : H1 a = none) : Un fs [] H (upd H1 a o) h0 h' where
  keep := u.keep
  slot := u.slot
  free := fun b ob q nb hx => by
    have : b ≠ a := Nat.ne_of_lt (Nat.lt_of_lt_of_le (Heap.lt_size q) hp)
    rw [upd_ne this]; exact u.free b ob q nb hx
  there := u.there
  tups := fun b xs q => by have := u.tups b xs q; rw [upd_ne (ne_of_none this n)]; exact this
  frzs := fun b ob v q => by have := u.frzs b ob v q; rw [upd_ne (ne_of_none this n)]; exact this
  tbls := fun b ps q => by
    obtain ⟨more, this⟩ := u.tbls b ps q
    exact ⟨more, by rw [upd_ne (ne_of_none this n)]; exact this⟩
end
theorem lay_zip {P : Program} {w0 : World} {K : PySem.W.Frag} {w : Wd} {st : IS} {g : L2.St} {H : Hp} {h0 h' : Heap} {fs : List Addr} (R : Rel K w st g H) (hok : HOk P w0 H h0) (k : ∀ b o, h0.get? b = some o → h'.get? b = some o) :
    ∀ (acc : List Addr) {vs us : List V} {xs ys : List IV} {its1 its2 : List Value}, Vals vs its1 → Vals us its2 → RepVs K w.S w.phi vs xs → RepVs K w.S w.phi us ys → acc.length = min vs.length us.length → acc.Nodup → (∀ T ∈ acc, h0.objs.size ≤ T) →
      (∀ (j : Nat) (T : Addr), acc[j]? = some T → ∃ x y, its1[j]? = some x ∧ its2[j]? = some y ∧ PySem.IsPair h' T x y) →
      ∃ H' w', HOk P w0 H' h' ∧ Un fs [] H H' h0 h' ∧ Le w w' ∧ Rel K w' st g H' ∧ RepVs K w'.S w'.phi (acc.map V.ref) (zipI xs ys) ∧ ∀ b, b ∉ acc → H' b = H b
  | [], vs, us, xs, ys, its1, its2, v1, v2, r1, r2, hl, _, _, _ => by
    refine ⟨H, w, hok.kept k, Un.kept k, Le.refl, R, ?_, fun _ _ => rfl⟩
    cases r1 with
    | nil => exact .nil
    | cons _ _ => cases r2 with
      | nil => exact .nil
      | cons _ _ => simp at hl
  | T :: acc, vs, us, xs, ys, its1, its2, v1, v2, r1, r2, hl, nd, hT, hp => by
    cases r1 with
    | nil => simp at hl
    | @cons v x vs xs rx r1 => cases r2 with
      | nil => simp at hl
      | @cons u y us ys ry r2 =>
        cases v1 with
        | @cons _ a1 _ its1 q1 v1 => cases v2 with
          | @cons _ a2 _ its2 q2 v2 =>
            obtain ⟨n1, n2⟩ := List.nodup_cons.mp nd
            obtain ⟨H1, w1, ho, un, l1, R1, rr, same⟩ := lay_zip (fs := fs) R hok k acc v1 v2 r1 r2 (by simp at hl; omega) n2 (fun T hT' => hT T (List.mem_cons_of_mem _ hT')) fun j T e => by
              obtain ⟨x, y, e1, e2, e3⟩ := hp (j + 1) T (by simpa using e)
              exact ⟨x, y, by simpa using e1, by simpa using e2, e3⟩
            have hN : h0.objs.size ≤ T := hT T List.mem_cons_self
            have hn : H1 T = none := by rw [same T n1]; exact hok.fresh hN
            obtain ⟨b1, b2, e1, e2, e3⟩ := hp 0 T rfl
            cases e1
            cases e2
            have new : ObjOk P w0 (upd H1 T (.tup [v, u])) h' T (.tup [v, u]) := ⟨by rw [sizeLine_eq]; show 2 ≤ 16777216; omega, [a1, a2], .cons q1 (.cons q2 .nil), _, e3, rfl, _, rfl⟩
            obtain ⟨w2, l2, R2, r2'⟩ := new_tup R1 hn (.cons (rx.mono l1.h) (.cons (ry.mono l1.h) .nil))
            refine ⟨_, w2, hok_upd ho hn new, un_upd un hN hn, l1.trans l2, R2, .cons r2' (rr.mono l2.h), fun b hb => ?_⟩
            rw [upd_ne (fun z => hb (by rw [z]; exact List.mem_cons_self)), same b fun z => hb (List.mem_cons_of_mem _ z)]
section
variable {X : Cx} {W : WX} {a b : Expr} {fa fb : IS → Out RV} {p p2 q pos : Pos}
theorem i_zipl (hc : X.calm = true) (ha : PEr X W a fa) (hb : PEr X W b fb) (hs : noStar a = true) (hs2 : noStar b = true) (hg : Gl X "list") (hm : X.mg "list" = none) (hg2 : Gl X "zip") (hm2 : X.mg "zip" = none) :
    PEr X W (.Call (.Name "list" p) [.Call (.Name "zip" p2) [a, b] [] q] [] pos) fun st => (vOf (fa st)).bind fun x st => (vOf (fb st)).bind fun y st => Out.of st (Ip.bi2 st .zipl x y) := by
  refine ⟨fun pins s σ H Q I ⟨w, st, R, p0⟩ => ?_⟩
  let KQ : List V → Hp → Prop := fun vs0 H2 => ∃ (l1 l2 : Addr) (vs us : List V) (xs ys : List IV) (w2 : Wd) (st2 : IS), vs0 = [V.ref l1, V.ref l2] ∧ SqL X.K H2 l1 vs ∧ SqL X.K H2 l2 us ∧
      Rel X.K w2 st2 σ H2 ∧ RepVs X.K w2.S w2.phi vs xs ∧ RepVs X.K w2.S w2.phi us ys ∧ Post X.K (rR X.K σ) w2 W σ Q (.ok (.fr (.lst (zipI xs ys))) st2)
  have rd : Ip.TI X.K W rE (fun st => vOf (fa st)) σ H fun v H1 => Ip.TI X.K W rE (fun st => vOf (fb st)) σ H1 fun u H2 => KQ [v, u] H2 := by
    refine ⟨w, st, R, Post.bind p0 fun x st1 _ w1 H1 v l1 R1 r1 q1 => ⟨w1, st1, R1, Post.bind q1 fun y st2 _ w2 H2 u l2 R2 r2 q2 => ?_⟩⟩
    obtain ⟨rv, e1, q3⟩ := q2.of
    obtain ⟨xs, e2, e3⟩ := Option.bind_eq_some_iff.mp e1
    obtain ⟨ys, e4, e5⟩ := Option.map_eq_some_iff.mp e3
    subst e5
    obtain ⟨a1, vs, ev, h1, h2⟩ := R2.seqL (RepE.mono l2 r1) e2
    obtain ⟨a2, us, ev2, h3, h4⟩ := R2.seqL r2 e4
    subst ev ev2
    exact ⟨a1, a2, vs, us, xs, ys, w2, st2, rfl, h1, h3, R2, h2, h4, q3⟩
  refine Call_ (ld_blt I hg hm PyProof.Rows.boot_list ?_)
  refine PyProof.Rows.callWith_type1 (PyProof.Rows.args_cons ?_ rfl) rfl rfl
  refine Call_ (ld_blt I hg2 hm2 (show bootBuiltins "zip" = some (.type "zip") by decide +kernel) ?_)
  refine PyProof.Rows.callWith_type1 (thn ((pa_two ha hb hs hs2).run q pins s σ H KQ I rd) fun us0 s1 ⟨vs0, H2, I2, rv0, l1, l2, vs, us, xs, ys, w2, st2, ev, h1, h2, R2, r1, r2, q3⟩ => ?_) (star1 hs _ _) (stars_any (es := [b]) (by simp [hs2]) _ _)
  subst ev
  obtain ⟨u1, u2, rfl, t1, t2⟩ := L2.vals2 rv0
  cases t1
  cases t2
  obtain ⟨its1, k1, pl1, z1⟩ := I2.list h1
  obtain ⟨its2, k2, pl2, z2⟩ := I2.list h2
  refine call_zip_2 pl1.isList pl2.isList fun h hz hTI hTO hi1 hi2 hsz hk => ?_
  refine PyProof.Rows.args_nil ?_
  have lm : min its1.toArray.size its2.toArray.size ≤ sizeLine := by rw [List.size_toArray, ← k1.length]; exact Nat.le_trans (Nat.min_le_left _ _) z1
  refine call_list_zip (s := s1) (tk := s1.toks) (I2.ok.hd hc) pl1.isList pl2.isList lm h hk hsz hz hTI hTO hi1 hi2 fun h' tk' S acc c aS al an aT aL aP ak => ?_
  obtain ⟨H3, w3, ho, un, l3, R3, rr, same⟩ := lay_zip (fs := frs X.stack) R2 I2.hok ak acc k1 k2 r1 r2 (by rw [al, List.size_toArray, List.size_toArray, k1.length, k2.length]) an (fun T hT => by
      obtain ⟨j, hj⟩ := List.mem_iff_getElem?.mp hT
      exact (aP j T hj).1) fun j T e => by
      obtain ⟨_, x, y, e1, e2, e3⟩ := aP j T e
      exact ⟨x, y, by simpa using e1, by simpa using e2, e3⟩
  have nS : H3 S = none := by rw [same S fun z => aT S z rfl]; exact I2.hok.fresh aS
  have new : ObjOk X.prog X.w (upd H3 S (.lst (acc.map V.ref))) h' S (.lst (acc.map V.ref)) := by
    have hv : ∀ l : List Addr, Vals (l.map V.ref) (l.map Value.ref) := fun l => by
      induction l with
      | nil => exact .nil
      | cons T l ih => exact .cons rfl ih
    exact ⟨by rw [List.length_map, al]; exact lm, acc.map Value.ref, c, hv acc, aL⟩
  have J : L2.Inv X pins σ (upd H3 S (.lst (acc.map V.ref))) { s1 with heap := h', toks := tk' } := I2.call (ch := []) (g' := s1.gens) (d' := s1.drawn) (un_upd un aS nS) (hok_upd ho nS new) I2.bare (fun _ z => nomatch z)
  exact ⟨.ref S, _, J, rfl, (q3.le l3).okN R3 nS ⟨_, upd_same, rr⟩⟩
end
end Ip

/-! Ip9: comprehensions, loops. -/
namespace Ip
open PySem PySem.Spec PyProof.Rows L2

theorem Out.bind_assoc {α β γ : Type} (o : Out α) (f : α → IS → Out β) (k : β → IS → Out γ) : (o.bind f).bind k = o.bind fun a s => (f a s).bind k := by cases o <;> rfl

/-! ### the walk, turn by turn -/
def wNext : Walk → Nat → IS → Option (Option IV)
  | .items xs, i, _ => if i ≤ xs.length then some xs[i]? else none
  | .live x n, i, st => if i < n then ((seqL st x).bind (·[i]?)).map some else (seqL st x).bind fun ys => if ys.length ≤ i then some none else none
theorem wNext_items {xs : List IV} {i : Nat} {st : IS} : wNext (.items xs) i st = if i ≤ xs.length then some xs[i]? else none := rfl
theorem wNext_live {x : IV} {n i : Nat} {st : IS} : wNext (.live x n) i st = if i < n then ((seqL st x).bind (·[i]?)).map some else (seqL st x).bind fun ys => if ys.length ≤ i then some none else none := rfl
def wLen : Walk → Nat
  | .items xs => xs.length
  | .live _ n => n
section
variable {α : Type} {f : α → IV → IS → Out α} {fs : IV → IS → SOut}
def restW (f : α → IV → IS → Out α) : Walk → Nat → α → IS → Out α
  | .items xs, i, a, st => foldW f (xs.drop i) a st
  | .live x n, i, a, st => foldLive f x (n - i) i a st
def restS (f : IV → IS → SOut) : Walk → Nat → IS → SOut
  | .items xs, i, st => forItems f (xs.drop i) st
  | .live x n, i, st => forLive f x (n - i) i st
theorem restW_zero {wk : Walk} {a : α} {st : IS} : restW f wk 0 a st = foldWalk f wk a st := by cases wk <;> rfl
theorem restS_zero {wk : Walk} {st : IS} : restS fs wk 0 st = forWalk fs wk st := by cases wk <;> rfl
theorem wNext_lt {wk : Walk} {i : Nat} {st : IS} {x : IV} (h : wNext wk i st = some (some x)) : i < wLen wk := by
  cases wk with
  | items xs =>
    rw [wNext_items] at h
    split at h
    · have := Option.some.inj h
      exact (List.getElem?_eq_some_iff.mp this).1
    · cases h
  | live y n =>
    rw [wNext_live] at h
    split at h
    · assumption
    · obtain ⟨ys, _, e⟩ := Option.bind_eq_some_iff.mp h
      split at e <;> cases e
theorem restW_step {wk : Walk} {i : Nat} (hi : i ≤ wLen wk) (a : α) (st : IS) : restW f wk i a st = match wNext wk i st with
    | none => .bad
    | some none => .ok a st
    | some (some x) => (f a x st).bind (restW f wk (i + 1)) := by
  cases wk with
  | items xs =>
    have hi' : i ≤ xs.length := hi
    rw [wNext_items]
    rw [if_pos hi']
    by_cases h : i < xs.length
    · rw [List.getElem?_eq_getElem h]
      show foldW f (xs.drop i) a st = _
      rw [List.drop_eq_getElem_cons h]; rfl
    · rw [List.getElem?_eq_none (by omega)]
      show foldW f (xs.drop i) a st = _
      rw [List.drop_eq_nil_of_le (by omega)]; rfl
  | live x n =>
    have hi' : i ≤ n := hi
    rw [wNext_live]
    by_cases h : i < n
    · rw [if_pos h]
      obtain ⟨m, e⟩ : ∃ m, n - i = m + 1 := ⟨n - i - 1, by omega⟩
      have e2 : n - (i + 1) = m := by omega
      show foldLive f x (n - i) i a st = _
      rw [e, foldLive]
      cases hq : (seqL st x).bind (·[i]?) with
      | none => rfl
      | some y => 
        show (f a y st).bind (foldLive f x m (i + 1)) = (f a y st).bind (foldLive f x (n - (i + 1)) (i + 1))
        rw [e2]
    · rw [if_neg h]
      have e : n - i = 0 := by omega
      show foldLive f x (n - i) i a st = _
      rw [e, foldLive]
      cases hq : seqL st x with
      | none => rfl
      | some ys =>
        show (if ys.length ≤ i then Out.ok a st else .bad) = _
        by_cases hl : ys.length ≤ i
        · simp [hl]
        · simp [hl]
theorem restS_step {wk : Walk} {i : Nat} (hi : i ≤ wLen wk) (st : IS) : restS fs wk i st = match wNext wk i st with
    | none => .bad
    | some none => .next st
    | some (some x) => (fs x st).turn (restS fs wk (i + 1)) := by
  cases wk with
  | items xs =>
    have hi' : i ≤ xs.length := hi
    rw [wNext_items]
    rw [if_pos hi']
    by_cases h : i < xs.length
    · rw [List.getElem?_eq_getElem h]
      show forItems fs (xs.drop i) st = _
      rw [List.drop_eq_getElem_cons h]; rfl
    · rw [List.getElem?_eq_none (by omega)]
      show forItems fs (xs.drop i) st = _
      rw [List.drop_eq_nil_of_le (by omega)]; rfl
  | live x n =>
    have hi' : i ≤ n := hi
    rw [wNext_live]
    by_cases h : i < n
    · rw [if_pos h]
      obtain ⟨m, e⟩ : ∃ m, n - i = m + 1 := ⟨n - i - 1, by omega⟩
      have e2 : n - (i + 1) = m := by omega
      show forLive fs x (n - i) i st = _
      rw [e, forLive]
      cases hq : (seqL st x).bind (·[i]?) with
      | none => rfl
      | some y => 
        show (fs y st).turn (forLive fs x m (i + 1)) = (fs y st).turn (forLive fs x (n - (i + 1)) (i + 1))
        rw [e2]
    · rw [if_neg h]
      have e : n - i = 0 := by omega
      show forLive fs x (n - i) i st = _
      rw [e, forLive]
      cases hq : seqL st x with
      | none => rfl
      | some ys =>
        show (if ys.length ≤ i then SOut.next st else .bad) = _
        by_cases hl : ys.length ≤ i
        · simp [hl]
        · simp [hl]
end
theorem JW.step {K : PySem.W.Frag} {w w1 : Wd} {st : IS} {g : L2.St} {H : Hp} {J : L2.It} {wk : Walk} {i : Nat} {o : Option IV} (h : JW K w J wk) (e : HLe w.S w1.S w.phi w1.phi) (R : Rel K w1 st g H) (hn : wNext wk i st = some o) :
    match o with
    | none => J.stop i H
    | some x => J.go i H ∧ ∀ v H', J.yld i H v H' → ∃ w2, Le w1 w2 ∧ Rel K w2 st g H' ∧ RepV K w2.S w2.phi v x := by
  cases wk with
  | items xs =>
    have h' : JIt K w.S w.phi J xs := h
    have hs := h' w1 st g H e R i
    rw [wNext_items] at hn
    split at hn
    · rename_i hi
      have hn' := Option.some.inj hn
      cases o with
      | none => exact hs.2 (by have := List.getElem?_eq_none_iff.mp hn'; omega)
      | some x => exact hs.1 x hn'
    · cases hn
  | live y n =>
    obtain ⟨a, k, rfl, hp, rfl⟩ := (show ∃ a n, y = .ref n ∧ w.phi[n]? = some a ∧ J = Itl K a from h)
    have rp : RepE K w1 g (.ref a) (.ref k) := show RepV K w1.S w1.phi _ _ from .ref (e.p _ _ hp)
    rw [wNext_live] at hn
    split at hn
    · obtain ⟨x, e1, e2⟩ := Option.map_eq_some_iff.mp hn
      subst e2
      obtain ⟨ys, e3, e4⟩ := Option.bind_eq_some_iff.mp e1
      obtain ⟨a', vs, ev, h1, h2⟩ := R.seqL rp e3
      cases ev
      obtain ⟨v, h3, h4⟩ := h2.get e4
      exact ⟨⟨vs, v, h1, h3⟩, fun u H' ⟨eH, hu⟩ => by
        subst eH
        have := hu vs h1
        rw [h3] at this
        cases this
        exact ⟨w1, Le.refl, R, h4⟩⟩
    · obtain ⟨ys, e3, e4⟩ := Option.bind_eq_some_iff.mp hn
      split at e4
      · rename_i hl
        cases e4
        obtain ⟨a', vs, ev, h1, h2⟩ := R.seqL rp e3
        cases ev
        exact ⟨vs, h1, by rw [h2.length]; exact hl⟩
      · cases e4

/-! ### the comprehension's own names -/
theorem wipe_len : ∀ (vs : List Nat) (σ : L2.St), (wipe σ vs).length = σ.length
  | [], _ => rfl
  | v :: vs, σ => by show ((wipe σ vs).set v none).length = _; rw [List.length_set, wipe_len vs]
theorem wipeI_len : ∀ (vs : List Nat) (r : List Slot), (wipeI r vs).length = r.length
  | [], _ => rfl
  | v :: vs, r => by rw [wipeI_cons, List.length_set, wipeI_len vs]
theorem backI_len : ∀ (vs : List Nat) (r0 r : List Slot), (backI r0 r vs).length = r.length
  | [], _, _ => rfl
  | v :: vs, r0, r => by rw [backI_cons, List.length_set, backI_len vs]
theorem wipe_not : ∀ {vs : List Nat} {σ : L2.St} {j : Nat}, j ∉ vs → (wipe σ vs)[j]? = σ[j]?
  | [], _, _, _ => rfl
  | v :: vs, σ, j, h => by
    have h1 : j ≠ v := fun z => h (by subst z; exact List.mem_cons_self)
    have h2 : j ∉ vs := fun z => h (List.mem_cons_of_mem _ z)
    show ((wipe σ vs).set v none)[j]? = _
    rw [List.getElem?_set_ne (Ne.symm h1), wipe_not h2]
theorem backI_not : ∀ {vs : List Nat} {r0 r : List Slot} {j : Nat}, j ∉ vs → (backI r0 r vs)[j]? = r[j]?
  | [], _, _, _, _ => rfl
  | v :: vs, r0, r, j, h => by
    have h1 : j ≠ v := fun z => h (by subst z; exact List.mem_cons_self)
    have h2 : j ∉ vs := fun z => h (List.mem_cons_of_mem _ z)
    rw [backI_cons, List.getElem?_set_ne (Ne.symm h1), backI_not h2]
theorem backI_mem : ∀ {vs : List Nat} {r0 r : List Slot} {j : Nat}, j ∈ vs → j < r.length → (backI r0 r vs)[j]? = some (r0.getD j .un)
  | v :: vs, r0, r, j, h, hl => by
    rw [backI_cons]
    by_cases h1 : v = j
    · subst h1
      rw [List.getElem?_set_self (by rw [backI_len]; exact hl)]
    · rw [List.getElem?_set_ne h1]
      rcases List.mem_cons.mp h with z | z
      · exact absurd z.symm h1
      · exact backI_mem z hl
theorem wipeI_get : ∀ {vs : List Nat} {r : List Slot} {j : Nat} {s : Slot}, (wipeI r vs)[j]? = some s → s = .un ∨ (j ∉ vs ∧ r[j]? = some s)
  | [], _, _, _, h => .inr ⟨List.not_mem_nil, h⟩
  | v :: vs, r, j, s, h => by
    rw [wipeI_cons] at h
    by_cases h1 : v = j
    · subst h1
      by_cases hl : v < (wipeI r vs).length
      · rw [List.getElem?_set_self hl] at h
        exact .inl (Option.some.inj h).symm
      · rw [List.getElem?_set, if_pos rfl, if_neg hl] at h
        cases h
    · rw [List.getElem?_set_ne h1] at h
      rcases wipeI_get h with z | ⟨z1, z2⟩
      · exact .inl z
      · exact .inr ⟨fun z => by
          rcases List.mem_cons.mp z with z | z
          · exact h1 z.symm
          · exact z1 z, z2⟩
section
variable {K : PySem.W.Frag} {w w' : Wd} {st st0 : IS} {σ σ' : L2.St} {H H' : Hp} {vs : List Nat}
/-- slots change: what they hold now is held rightly -/
theorem Rel.slots (R : Rel K w st σ H) {r : List Slot} {σ' : L2.St} (hl : r.length = σ'.length)
    (hv : ∀ (i : Nat) (x : IV), r[i]? = some (.val x) → ∃ v, σ'[i]? = some (some v) ∧ RepV K w.S w.phi v x)
    (ho : ∀ (i : Nat) (c : IV), r[i]? = some (.own c) → st.r[i]? = some (.own c) ∧ σ'[i]? = σ[i]?) : Rel K w { st with r := r } σ' H := by
  refine ⟨R.sub, R.frm, R.sf, R.len, R.nd, R.pd, R.cells, hv, fun i c z => ?_, fun i j c d a z z' y y' => ?_, hl⟩
  · obtain ⟨h1, h2⟩ := ho i c z
    rw [h2]; exact R.owns i c h1
  · obtain ⟨h1, h2⟩ := ho i c z
    obtain ⟨h1', h2'⟩ := ho j d z'
    rw [h2] at y; rw [h2'] at y'
    exact R.apart i j c d a h1 h1' y y'
theorem Rel.wipe (R : Rel K w st σ H) (vs : List Nat) : Rel K w { st with r := wipeI st.r vs } (wipe σ vs) H := by
  refine R.slots (by rw [wipeI_len, wipe_len]; exact R.rl) (fun i x z => ?_) (fun i c z => ?_)
  · rcases wipeI_get z with z | ⟨z1, z2⟩
    · cases z
    · rw [wipe_not z1]; exact R.vals i x z2
  · rcases wipeI_get z with z | ⟨z1, z2⟩
    · cases z
    · exact ⟨z2, wipe_not z1⟩
theorem wipe_eq (e : L2.wipe σ vs = L2.wipe σ' vs) {j : Nat} (h : j ∉ vs) : σ[j]? = σ'[j]? := by
  have := congrArg (·[j]?) e
  simp only [wipe_not h] at this
  exact this
theorem freeI_get : ∀ {vs : List Nat} {r : List Slot} {j : Nat}, freeI r vs = true → j ∈ vs → ∃ s, r[j]? = some s ∧ ∀ c, s ≠ .own c
  | v :: vs, r, j, h, hj => by
    obtain ⟨h1, h2⟩ := Bool.and_eq_true_iff.mp (show ((match r[v]? with | some (.own _) => false | some _ => true | none => false) && freeI r vs) = true from h)
    rcases List.mem_cons.mp hj with rfl | hj
    · cases e : r[j]? with
      | none => rw [e] at h1; cases h1
      | some s => exact ⟨s, rfl, fun c z => by subst z; rw [e] at h1; cases h1⟩
    · exact freeI_get h2 hj
/-- behind the comprehension -/
theorem Rel.back (R0 : Rel K w st0 σ H) (R : Rel K w' st σ' H') (e : HLe w.S w'.S w.phi w'.phi) (he : L2.wipe σ' vs = L2.wipe σ vs) (hf : freeI st0.r vs = true) : Rel K w' { st with r := backI st0.r st.r vs } σ H' := by
  have hlen : σ'.length = σ.length := by have := congrArg List.length he; rwa [wipe_len, wipe_len] at this
  refine R.slots (by rw [backI_len, R.rl, hlen]) (fun i x z => ?_) (fun i c z => ?_)
  · by_cases hi : i ∈ vs
    · have hl : i < st.r.length := by
        have := (List.getElem?_eq_some_iff.mp z).1
        rwa [backI_len] at this
      rw [backI_mem hi hl] at z
      obtain ⟨s, e1, _⟩ := freeI_get hf hi
      rw [List.getD_eq_getElem?_getD, e1] at z
      have : s = .val x := Option.some.inj z
      subst this
      obtain ⟨v, h1, h2⟩ := R0.vals i x e1
      exact ⟨v, h1, h2.mono e⟩
    · rw [backI_not hi] at z
      rw [← wipe_eq he hi]; exact R.vals i x z
  · by_cases hi : i ∈ vs
    · have hl : i < st.r.length := by
        have := (List.getElem?_eq_some_iff.mp z).1
        rwa [backI_len] at this
      rw [backI_mem hi hl] at z
      obtain ⟨s, e1, e2⟩ := freeI_get hf hi
      rw [List.getD_eq_getElem?_getD, e1] at z
      exact absurd (Option.some.inj z) (e2 c)
    · rw [backI_not hi] at z
      exact ⟨z, (wipe_eq he hi).symm⟩
end
end Ip

/-! Ip10: list comprehensions. -/
namespace Ip
open PySem PySem.Spec PyProof.Rows L2

theorem Post.sub {α β γ δ : Type} {K : PySem.W.Frag} {rel : Wd → IS → Hp → β → α → Prop} {rel' : Wd → IS → Hp → δ → γ → Prop} {w w1 : Wd} {W W' : WX} {g g' : L2.St} {Q : β → Hp → Prop} {Q' : δ → Hp → Prop} {o : Out γ} {k : γ → IS → Out α}
    (h : Post K rel w W g Q (o.noX.bind k)) (hk : ∀ a st, Post K rel w W g Q (k a st) → ∀ w' H' v, Le w1 w' → Rel K w' st g' H' → rel' w' st H' v a → Q' v H') : Post K rel' w1 W' g' Q' o := by
  cases o with
  | ok a st => exact fun w' H' v l R r => hk a st h w' H' v l R r
  | exc c fs st => exact h.elim
  | bad => exact h.elim
theorem wipe_mem : ∀ {vs : List Nat} {σ : L2.St} {j : Nat}, j ∈ vs → (wipe σ vs)[j]? = if j < σ.length then some none else none
  | v :: vs, σ, j, h => by
    show ((wipe σ vs).set v none)[j]? = _
    by_cases h1 : v = j
    · subst h1
      by_cases hl : v < σ.length
      · rw [List.getElem?_set_self (by rw [wipe_len]; exact hl), if_pos hl]
      · rw [List.getElem?_set, if_pos rfl, if_neg (by rw [wipe_len]; exact hl), if_neg hl]
    · rw [List.getElem?_set_ne h1]
      rcases List.mem_cons.mp h with z | z
      · exact absurd z.symm h1
      · exact wipe_mem z
theorem wipe_ext {vs : List Nat} {σ σ' : L2.St} (hl : σ.length = σ'.length) (h : ∀ j, j ∉ vs → σ[j]? = σ'[j]?) : wipe σ vs = wipe σ' vs := by
  refine List.ext_getElem? fun j => ?_
  by_cases hj : j ∈ vs
  · rw [wipe_mem hj, wipe_mem hj, hl]
  · rw [wipe_not hj, wipe_not hj, h j hj]
theorem wipe_idem {vs : List Nat} {σ : L2.St} : wipe (wipe σ vs) vs = wipe σ vs := wipe_ext (wipe_len _ _) fun j hj => wipe_not hj
theorem Loose.back {w : Wd} {st st0 : IS} {σ σ' : L2.St} {vs : List Nat} {a : Addr} (l : Loose w st σ' a) (he : L2.wipe σ' vs = L2.wipe σ vs) (hf : freeI st0.r vs = true) : Loose w { st with r := backI st0.r st.r vs } σ a :=
  ⟨l.s, l.f, l.p, fun i c z => by
    have z' : (backI st0.r st.r vs)[i]? = some (.own c) := z
    by_cases hi : i ∈ vs
    · have hl : i < st.r.length := by
        have := (List.getElem?_eq_some_iff.mp z').1
        rwa [backI_len] at this
      rw [backI_mem hi hl] at z'
      obtain ⟨s, e1, e2⟩ := freeI_get hf hi
      rw [List.getD_eq_getElem?_getD, e1] at z'
      exact absurd (Option.some.inj z') (e2 c)
    · rw [backI_not hi] at z'
      rw [← wipe_eq he hi]
      exact l.o i c z'⟩
def noW : WX := fun _ _ _ _ => False
def lcF (fw : IS → Out Walk) (t : Tgt) (fc : IS → Out Bool) (fe : IS → Out RV) (vs : List Nat) : IS → Out RV := fun st => (fw st).bind fun w st => if freeI st.r vs then
  (foldWalk (lcTurn t fc fe vs) w [] st).bind fun acc s6 => .ok (.fr (.lst acc)) { s6 with r := backI st.r s6.r vs } else .bad
section
variable {X : Cx} {W : WX} {elt tg iter : Expr} {ifs : List Expr} {scope : Scope} {own : List (PySem.Str × Nat)} {pos : Pos} {t : Tgt} {fw : IS → Out Walk} {fc : IS → Out Bool} {fe : IS → Out RV}
/-- from the reading of a comprehension to ours -/
theorem lc_imp {g : L2.St} {H : Hp} {Q : VK} {vs : List Nat} (hsub : ∀ j ∈ tgtSl t, j ∈ vs) (h : Ip.TI X.K W rR (lcF fw t fc fe vs) g H Q) :
    tLc (Ip.TI X.K W rW fw) (TGi X.K (bindT t) (tgtSl t)) (Ip.TI X.K noW rI fc) (Ip.TI X.K noW rS fun st => sOf (fe st)) vs g H Q := by
  obtain ⟨w, st, R, p⟩ := h
  refine ⟨w, st, R, Post.bind p fun wk st1 _ w1 H1 J l1 R1 jw q1 => ?_⟩
  by_cases hf : freeI st1.r vs = true
  case neg => rw [if_neg hf] at q1; exact q1.elim
  rw [if_pos hf] at q1
  intro D hD
  obtain ⟨RD, loD⟩ := R1.laid hD (.lst [])
  have fD : w1.Fr D = none := loD.f
  generalize hfin : (fun (acc : List IV) (s6 : IS) => Out.ok (RV.fr (IV.lst acc)) { s6 with r := backI st1.r s6.r vs }) = fin at q1
  generalize hturn : lcTurn t fc fe vs = turn at q1
  let LI : Nat → Hp → Prop := fun i H => ∃ (w' : Wd) (st' : IS) (σ' : L2.St) (acc : List IV) (vacc : List V), HLe w1.S w'.S w1.phi w'.phi ∧ w'.Fr = upd w1.Fr D (.lst vacc) ∧ Rel X.K w' st' σ' H ∧ wipe σ' vs = wipe g vs ∧
    RepVs X.K w'.S w'.phi vacc acc ∧ Post X.K (rR X.K g) w1 W g Q ((restW turn wk i acc st').bind fin) ∧ i ≤ wLen wk
  refine ⟨fun i m H => m = wLen wk - i ∧ LI i H, ⟨_, rfl, { w1 with Fr := upd w1.Fr D (.lst []) }, st1, g, [], [], HLe.refl, rfl, RD.frame loD upd_same, rfl, .nil, ?_, Nat.zero_le _⟩, ?_⟩
  · rw [restW_zero]; exact q1
  rintro i m H' ⟨hm, w', st', σ', acc, vacc, e', ef, R', hw, rv, q, hi⟩
  rw [restW_step hi] at q
  cases hn : wNext wk i st' with
  | none => rw [hn] at q; exact q.elim
  | some o =>
    have js := JW.step (show JW X.K w1 J wk from jw) e' R' hn
    cases o with
    | none =>
      rw [hn] at q
      refine .inl ⟨js, ?_⟩
      have R2 : Rel X.K { w' with Fr := upd w1.Fr D (.lst vacc) } st' σ' H' := by rw [← ef]; exact R'
      obtain ⟨R3, lo3, hD3⟩ := R2.unframe fD
      have R4 := Rel.back (st0 := st1) (vs := vs) R1 R3 e' hw hf
      have lo4 := Loose.back (st0 := st1) lo3 hw hf
      have q' : Post X.K (rR X.K g) w1 W g Q (.ok (.fr (.lst acc)) { st' with r := backI st1.r st'.r vs }) := by subst hfin; exact q
      exact (q'.le (w' := { w' with Fr := w1.Fr }) ⟨e', rfl⟩).okF R4 lo4 ⟨vacc, hD3, rv⟩
    | some x =>
      rw [hn] at q
      obtain ⟨go, yl⟩ := js
      have hlt := wNext_lt hn
      refine .inr ⟨go, LI (i + 1), fun H2 h2 => ⟨wLen wk - (i + 1), by omega, rfl, h2⟩, fun v H2 hy => ?_⟩
      obtain ⟨w2, l2, R2, rx⟩ := yl v H2 hy
      have RW := R2.wipe vs
      rw [hw] at RW
      have q2 : Post X.K (rR X.K g) w1 W g Q ((Out.of st' (bindT t x { st' with r := wipeI st'.r vs })).bind fun s2 _ => (fc s2).noX.bind fun c s3 => ((if c = true then (sOf (fe s3)).noX.bind fun y s4 => if small acc.length then .ok (acc ++ [y]) { s4 with r := wipeI s4.r vs } else .bad
          else .ok acc { s3 with r := wipeI s3.r vs }).bind (restW turn wk (i + 1))).bind fin) := by
        have q' : Post X.K (rR X.K g) w1 W g Q (((turn acc x st').bind (restW turn wk (i + 1))).bind fin) := q
        have et : turn acc x st' = (Out.of st' (bindT t x { st' with r := wipeI st'.r vs })).bind fun s2 _ => (fc s2).noX.bind fun c s3 => if c = true then (sOf (fe s3)).noX.bind fun y s4 => if small acc.length then .ok (acc ++ [y]) { s4 with r := wipeI s4.r vs } else .bad
          else .ok acc { s3 with r := wipeI s3.r vs } := by rw [← hturn]; rfl
        rw [et, Out.bind_assoc, Out.bind_assoc] at q'
        simp only [Out.bind_assoc] at q' ⊢
        exact q'
      obtain ⟨s2, e2, q3⟩ := q2.ofB
      refine ⟨w2, _, x, s2, RW, rx, e2, fun σ2 ⟨R3, len3, k3⟩ => ?_⟩
      have hw2 : wipe σ2 vs = wipe g vs := by
        refine (wipe_ext len3 fun j hj => k3 j fun z => hj (hsub j z)).trans wipe_idem
      refine ⟨hw2, w2, s2, R3, Post.sub q3 fun c s3 q4 w3 H3 b l3 R4 rb => ?_⟩
      cases (show b = c from rb)
      by_cases hb : c = true
      · rw [if_pos hb] at q4
        rw [if_pos hb]
        rw [Out.bind_assoc, Out.bind_assoc] at q4
        refine ⟨w3, s3, R4, Post.sub q4 fun y s4 q5 w4 H4 u l4 R5 ru => ?_⟩
        have ef4 : w4.Fr = upd w1.Fr D (.lst vacc) := by rw [l4.f, l3.f, l2.f, ef]
        have hD4 : H4 D = some (.lst vacc) := R5.frm D _ (by rw [ef4]; exact upd_same)
        by_cases hsm : small acc.length = true
        case neg => rw [if_neg hsm] at q5; exact q5.elim
        rw [if_pos hsm] at q5
        refine ⟨vacc, hD4, by rw [rv.length]; exact small_lt hsm, ?_⟩
        have R5' : Rel X.K { w4 with Fr := upd w1.Fr D (.lst vacc) } s4 σ2 H4 := by rw [← ef4]; exact R5
        obtain ⟨R6, lo6, _⟩ := R5'.unframe fD
        have R7 := (R6.loose_upd lo6 (.lst (vacc ++ [u]))).frame lo6 (o := .lst (vacc ++ [u])) upd_same
        have R8 := R7.wipe vs
        have eh : HLe w1.S w4.S w1.phi w4.phi := e'.trans (l2.h.trans (l3.h.trans l4.h))
        exact ⟨{ w4 with Fr := upd w1.Fr D (.lst (vacc ++ [u])) }, { s4 with r := wipeI s4.r vs }, wipe σ2 vs, acc ++ [y], vacc ++ [u], eh, rfl, R8, by rw [wipe_idem, hw2],
          (rv.mono (l2.h.trans (l3.h.trans l4.h))).snoc ru, q5, hlt⟩
      · rw [if_neg hb] at q4
        rw [if_neg hb]
        have ef3 : w3.Fr = upd w1.Fr D (.lst vacc) := by rw [l3.f, l2.f, ef]
        exact ⟨w3, { s3 with r := wipeI s3.r vs }, wipe σ2 vs, acc, vacc, e'.trans (l2.h.trans l3.h), ef3, R4.wipe vs, by rw [wipe_idem, hw2], rv.mono (l2.h.trans l3.h), q4, hlt⟩
theorem i_lc (hc : X.calm = true) (hN : X.N.Nodup) (hi : PIi X W tg iter fw) (ok : BlkOk X.N X.env.scope scope own)
    (hg : ∀ (s : Shared) (H : Hp) (C : Addr) (cl : List (PySem.Str × Addr)) (fp : List Addr), PG (X.blk s H scope (compEnvC scope cl C X.env) fp) tg (TGi X.K (bindT t) (tgtSl t)))
    (ht : ∀ (s : Shared) (H : Hp) (C : Addr) (cl : List (PySem.Str × Addr)) (fp : List Addr), PTs (X.blk s H scope (compEnvC scope cl C X.env) fp) ifs (Ip.TI X.K noW rI fc))
    (he : ∀ (s : Shared) (H : Hp) (C : Addr) (cl : List (PySem.Str × Addr)) (fp : List Addr), PEs (X.blk s H scope (compEnvC scope cl C X.env) fp) noW elt fun st => sOf (fe st)) (hs : ∀ x, foldedSetIterable iter X.env x = pure x)
    (hsub : ∀ j ∈ tgtSl t, j ∈ own.map (·.2)) : PEr X W (.ListComp elt [⟨tg, iter, ifs, 0⟩] scope pos) (lcF fw t fc fe (own.map (·.2))) :=
  PE.imp (pe_lc hc hN hi ok hg ht he hs) fun g H Q h => lc_imp hsub h
end
end Ip

/-! Ip10s: how many ints a set comprehension holds. -/
namespace Ip
open PySem PySem.Spec PyProof.Rows L2

def scF (fw : IS → Out Walk) (t : Tgt) (fc : IS → Out Bool) (fe : IS → Out RV) (vs : List Nat) : IS → Out RV := fun st => (fw st).bind fun w st => if freeI st.r vs then
  (foldWalk (scTurn t fc fe vs) w [] st).bind fun acc s6 => .ok (.v (.int (firsts acc).length)) { s6 with r := backI st.r s6.r vs } else .bad
/-- a set that holds these ints -/
def sHas (w : World) (a : Addr) (ns : List Int) : HO := SetO w a (fun j => decide (j ∈ ns)) (firsts ns).length
theorem firsts_cons_len {ns : List Int} {i : Int} : (firsts (i :: ns)).length = if decide (i ∈ ns) = true then (firsts ns).length else (firsts ns).length + 1 := by
  by_cases h : i ∈ ns
  · rw [if_pos (by simpa using h)]
    have p : (firsts (i :: ns)).Perm (firsts ns) := same_perm (firsts_nodup _) (firsts_nodup _) fun x => by
      rw [firsts_mem, firsts_mem, List.mem_cons]
      exact ⟨fun z => z.elim (fun z => z ▸ h) id, .inr⟩
    exact p.length_eq
  · rw [if_neg (by simpa using h)]
    have p : (firsts (i :: ns)).Perm (i :: firsts ns) := same_perm (firsts_nodup _) (List.nodup_cons.mpr ⟨fun z => h ((firsts_mem _ _).mp z), firsts_nodup _⟩) fun x => by
      rw [firsts_mem, List.mem_cons, List.mem_cons, firsts_mem]
    exact p.length_eq
theorem sHas_put {w : World} {a : Addr} {ns : List Int} {i : Int} : SetO w a (fun j => decide (j ∈ ns) || decide (j = i)) (if decide (i ∈ ns) = true then (firsts ns).length else (firsts ns).length + 1) = sHas w a (i :: ns) := by
  unfold sHas
  rw [firsts_cons_len]
  congr 1
  funext j
  rw [← Bool.decide_or]
  refine decide_eq_decide.mpr ?_
  rw [List.mem_cons]
  exact Or.comm
section
variable {X : Cx} {pins : List (Addr × Obj)} {σ : L2.St} {H : Hp} {s : Shared} {ns : List Int} {D : Addr}
theorem sHas_get (I : L2.Inv X pins σ H s) (h : H D = some (sHas X.w D ns)) : SetR X.w s.heap D (fun j => decide (j ∈ ns)) (firsts ns).length := setO_get I h
theorem sHas_add {E : Value → Shared → Prop} {i : Int} {u : Value} {Q : Value → Shared → Prop} (I : L2.Inv X pins σ H s) (h : H D = some (sHas X.w D ns)) (small : ns.length < 4000) (ru : RelV (.int i) u)
    (k : ∀ s2, L2.Inv X pins σ (upd H D (sHas X.w D (i :: ns))) s2 → Q .none s2) : wpAny (model X.prog X.w) X.A (call (.builtin "set.add") [.ref D, u]) Q E s := by
  obtain ⟨tk, eu⟩ := ru
  rw [eu]
  have room : (firsts ns).length + 1 < scanBound := by
    have := firsts_len ns
    unfold scanBound; omega
  refine setR_add (sHas_get I h) room fun h2 only got => ?_
  obtain ⟨o, _, _, _, eo, _⟩ := id got
  have got2 := setO_new (P := X.prog) (H := upd H D (sHas X.w D (i :: ns))) got
  rw [sHas_put] at got2
  exact k _ (I.write (e := D) (t' := s.toks + 1) (by rw [h]; trivial) (.inl rfl) (fun b v hb hv => (only.2 b hb).trans hv) ⟨o, eo⟩ got2)
end
section
variable {X : Cx} {elt tg iter : Expr} {ifs : List Expr} {scope : Scope} {own : List (PySem.Str × Nat)} {pos : Pos} {wi : L2.TI} {g : TG} {tt : TT} {te : TE}
/-- what a set comprehension of ints owes -/
def tScI (w : World) (wi : L2.TI) (g : TG) (tt : TT) (te : TE) (vs : List Nat) (σ : L2.St) (H : Hp) (Q : Addr → Hp → Prop) : Prop := wi σ H fun J H1 => ∀ D, H1 D = none → ∃ W : Nat → Nat → Hp → Prop, (∃ m, W 0 m (upd H1 D (sHas w D []))) ∧
  ∀ i m H, W i m H → (J.stop i H ∧ Q D H) ∨ (J.go i H ∧ ∃ Nx : Hp → Prop, (∀ H', Nx H' → ∃ m', m' < m ∧ W (i + 1) m' H') ∧ ∀ x H', J.yld i H x H' → g x (wipe σ vs) H' fun σ2 H2 => wipe σ2 vs = wipe σ vs ∧
    tt σ2 H2 fun b H3 => if b = true then te σ2 H3 fun y H4 => ∃ (c : Int) (ns : List Int), y = .int c ∧ H4 D = some (sHas w D ns) ∧ ns.length < 4000 ∧ Nx (upd H4 D (sHas w D (c :: ns))) else Nx H3)
theorem scI_run {pins : List (Addr × Obj)} {s : Shared} {σ : L2.St} {H : Hp} {Q : Addr → Hp → Prop} {Qf : Value → Shared → Prop} (calm : X.calm = true) (nd : X.N.Nodup) (I : L2.Inv X pins σ H s) (over : PI X tg iter wi) (blk : BlkOk X.N X.env.scope scope own)
    (pg : ∀ (s : Shared) (H : Hp) (C : Addr) (cl : List (PySem.Str × Addr)) (fp : List Addr), PG (X.blk s H scope (compEnvC scope cl C X.env) fp) tg g) (pt : ∀ (s : Shared) (H : Hp) (C : Addr) (cl : List (PySem.Str × Addr)) (fp : List Addr), PTs (X.blk s H scope (compEnvC scope cl C X.env) fp) ifs tt)
    (pe : ∀ (s : Shared) (H : Hp) (C : Addr) (cl : List (PySem.Str × Addr)) (fp : List Addr), PE (X.blk s H scope (compEnvC scope cl C X.env) fp) elt te) (plain : ∀ x, foldedSetIterable iter X.env x = pure x)
    (owed : tScI X.w wi g tt te (own.map (·.2)) σ H Q) (out : ∀ D s2 H2, L2.Inv X pins σ H2 s2 → Q D H2 → Qf (.ref D) s2) :
    wpAny (model X.prog X.w) X.A (eval (.SetComp elt [⟨tg, iter, ifs, 0⟩] scope pos) X.env) Qf X.xe s := by
  rw [PpSet.eval_SetComp]
  have cells : ∀ y ∈ scope.names, y.2 = .free → ∃ c, X.env.cells.lookup y.1 = some c := fun y hy e => (blk.free y hy e).elim (fun k => I.ok.has _ (.inl k)) fun k => I.ok.has _ (.inr k)
  refine wpAny_comprehension_free (use := none) rfl plain (closure_ok cells) blk.kind (fun y hy e => by rw [blk.uniq y hy, e]) (thn (over.run pins s σ H _ I owed) fun xv sA hx => thn hx fun itv sB hB => ?_)
  obtain ⟨it, fp, St, J, HB, e, IB, T, stB, fB, owed2⟩ := hB
  subst e
  refine PpSet.newSet_ok (newEnv_comp ?_)
  -- the new set
  obtain ⟨D, eD⟩ : ∃ D, D = sB.heap.objs.size := ⟨_, rfl⟩
  rw [← eD]
  have freshD : HB D = none := IB.hok.fresh (by rw [eD]; exact Nat.le_refl _)
  obtain ⟨W, ⟨m0, w0⟩, turns⟩ := owed2 D freshD
  obtain ⟨HC, eHC⟩ : ∃ HC, HC = upd HB D (sHas X.w D []) := ⟨_, rfl⟩
  rw [← eHC] at w0
  obtain ⟨sC, esC⟩ : ∃ sC : Shared, sC = { sB with heap := sB.heap.push { cls := .type "set", dict := none, data := .set #[] 0 (.fresh 0 0 (!X.w.params.followText "set-order")) } } := ⟨_, rfl⟩
  have heapC : sC.heap = sB.heap.push { cls := .type "set", dict := none, data := .set #[] 0 (.fresh 0 0 (!X.w.params.followText "set-order")) } := by rw [esC]
  have keptC : ∀ b o, sB.heap.get? b = some o → sC.heap.get? b = some o := fun b o z => by rw [heapC]; exact Heap.get?_push_of_some _ z
  have IC : L2.Inv X pins σ HC sC := by
    rw [esC, eHC]
    refine IB.laid (t' := sB.toks) (fun b o z => Heap.get?_push_of_some _ z) (Nat.le_of_eq eD.symm) ?_
    rw [eD]
    have new := setO_new (P := X.prog) (H := upd HB sB.heap.objs.size (sHas X.w sB.heap.objs.size [])) (setR_fresh (h := sB.heap) X.w)
    have same : SetO X.w sB.heap.objs.size (fun _ => false) 0 = sHas X.w sB.heap.objs.size [] := by
      unfold sHas
      congr 1
    rw [same] at new
    exact new
  have liveB : ∀ b ∈ fp, b < sB.heap.objs.size := fun b hb => let ⟨o, z, _⟩ := T.obj _ _ stB b hb; Heap.lt_size z
  have fC : ∀ b ∈ fp, FpOk X pins HC b ∧ b < sC.heap.objs.size := fun b hb => by
    have lt := liveB b hb
    refine ⟨⟨?_, (fB b hb).2⟩, by rw [heapC, Heap.size_push]; exact Nat.lt_succ_of_lt lt⟩
    rw [eHC, upd_ne (by rw [eD]; exact Nat.ne_of_lt lt)]
    exact (fB b hb).1
  have ID := block_start IC blk nd fC
  rw [← heapC]
  have ePush : ({ sB with heap := sB.heap.push { cls := .type "set", dict := none, data := .set #[] 0 (.fresh 0 0 (!X.w.params.followText "set-order")) } } : Shared) = sC := esC.symm
  obtain ⟨cl, ecl⟩ : ∃ cl, cl = cellsFrom (sC.heap.objs.size + 1) scope.names (cloFrom X.env.cells scope.names []) := ⟨_, rfl⟩
  rw [← ecl] at ID
  rw [← ecl]
  have pg := pg sC HC sC.heap.objs.size cl fp
  have pt := pt sC HC sC.heap.objs.size cl fp
  have pe := pe sC HC sC.heap.objs.size cl fp
  have noneC : ∀ b ∈ fp, HC b = none := fun b hb => (fC b hb).1.1
  have stC : St 0 sC.heap := T.keep _ _ _ stB fun b _ o z => keptC b o z
  obtain ⟨sD, esD⟩ : ∃ sD : Shared, sD = { sC with heap := pushCells (sC.heap.push { cls := .type "dict", data := .dict #[] }) scope.names } := ⟨_, rfl⟩
  have same : ({ sB with heap := pushCells (sC.heap.push { cls := .type "dict", data := .dict #[] }) scope.names } : Shared) = sD := by rw [esD, esC]
  show codeAny (model X.prog X.w) X.A (.compStart (.SetComp elt [⟨tg, iter, ifs, 0⟩] scope pos) 0 (.ref it) (.ref D) (compEnvC scope cl sC.heap.objs.size X.env)) (compPost (model X.prog X.w) X.A X.xe none Qf (.ref D) sC.heap.objs.size) { sB with heap := pushCells (sC.heap.push { cls := .type "dict", data := .dict #[] }) scope.names }
  rw [same]
  rw [← esD] at ID
  have stD : St 0 sD.heap := T.keep _ _ _ stC fun b _ o z => by rw [esD]; exact pushCells_keeps _ _ _ _ (Heap.get?_push_of_some _ z)
  obtain ⟨ce, ece⟩ : ∃ ce, ce = compEnvC scope cl sC.heap.objs.size X.env := ⟨_, rfl⟩
  have ceL : ce.locals = sC.heap.objs.size := by rw [ece]; rfl
  rw [← ece] at ID pg pt pe ⊢
  -- what the iterator needs stands still
  have held : ∀ {σ2 : L2.St} {H2 : Hp} {s2 : Shared}, L2.Inv (X.blk sC HC scope ce fp) [] σ2 H2 s2 → (∀ b ∈ fp, H2 b = none) → ∀ b ∈ fp, FpOk (X.blk sC HC scope ce fp) [] H2 b := fun I2 hn b hb =>
    ⟨hn b hb, (I2.ok.exf b hb).1, I2.ok.exfs b hb, .inl hb, fun x c z => (I2.ok.exf b hb).2 x c z, fun p hp => by
      have hp2 : p ∈ ([] : List (Addr × Obj)) ++ [] := hp
      simp at hp2⟩
  let Lp : Nat → Shared → Prop := fun m s2 => ∃ i H2, L2.Inv (X.blk sC HC scope ce fp) [] (wipe σ (own.map (·.2))) H2 s2 ∧ St i s2.heap ∧ (∀ b ∈ fp, H2 b = none) ∧ W i m H2
  have start : Lp m0 sD := ⟨0, HC, ID, stD, noneC, w0⟩
  have all : codeAny (model X.prog X.w) X.A (.compLoop (.SetComp elt [⟨tg, iter, ifs, 0⟩] scope pos) 0 (.ref it) (.ref D) ce) (compPost (model X.prog X.w) X.A X.xe none Qf (.ref D) sC.heap.objs.size) sD := by
    refine PpSet.compLoopS_any Lp (fun m s5 hL => ?_) m0 start
    obtain ⟨i, H5, I5, st5, n5, w5⟩ := hL
    rcases turns i m H5 w5 with ⟨stop, due⟩ | ⟨go, Nx, less, turn⟩
    · refine thnF (T.done (X.blk sC HC scope ce fp) rfl rfl rfl calm i [] s5 _ H5 (fun _ _ => False) I5 (held I5 n5) st5 stop) fun r s6 h6 => ?_
      obtain ⟨er, I6⟩ := h6
      rw [er]
      have I7 : L2.Inv X pins σ H5 s6 := IC.call' (ch := fp) I6.os I6.base I6.hok I6.bare fun b hb =>
        let ⟨_, y1, _, y3, y4, y5⟩ := (fC b hb).1
        ⟨y3, y1, y4, y5⟩
      have free : H5 sC.heap.objs.size = none := by
        have z : H5 ce.locals = none := I6.free
        rwa [ceL] at z
      obtain ⟨k, ns, _⟩ := I6.loc
      have ns2 : s6.heap.Ns ce.locals k := ns
      rw [ceL] at ns2
      refine ⟨k, ns2, fun h2 sb => ?_⟩
      obtain ⟨y0, y1, y2, y3, y4, y5⟩ := IC.fpOk (Nat.le_refl _) free
      exact out D _ H5 (I7.turned (t' := s6.toks) (fun b o hb z => (sb.2 b hb).trans z) y0 y1 y3 y4 y5) due
    · refine thnF (T.item (X.blk sC HC scope ce fp) rfl rfl rfl calm i [] s5 _ H5 (fun _ _ => False) I5 (held I5 n5) st5 go) fun r s6 h6 => ?_
      obtain ⟨u, er, h6⟩ := h6
      rw [er]
      refine thnF h6 fun _ s7 h7 => ?_
      obtain ⟨x, H7, I7, r7, y7, st7, n7⟩ := h7
      refine thnF (pg.run _ s7 _ H7 x u _ (I7.pinned (held I7 n7) (T.obj _ _ st7)) r7 (turn x H7 y7)) fun _ s8 h8 => ?_
      obtain ⟨σ8, H8, I8, hw8, q8⟩ := h8
      refine thnF (pt.run _ s8 σ8 H8 _ I8 q8) fun b s9 h9 => ?_
      obtain ⟨H9, I9, q9⟩ := h9
      have ends : ∀ {s2 : Shared} {H2 : Hp}, L2.Inv (X.blk sC HC scope ce fp) ([] ++ pinsAt fp s7.heap) σ8 H2 s2 → Nx H2 → ∃ k, k < m ∧ Lp k s2 := fun {s2 H2} I2 nx => by
        obtain ⟨k, lt, w2⟩ := less H2 nx
        have pin : ∀ b ∈ fp, ∀ o, s7.heap.get? b = some o → s2.heap.get? b = some o ∧ H2 b = none := fun b hb o z =>
          have y := I2.pin (b, o) (List.mem_append_right _ (List.mem_append_right _ (mem_pinsAt hb z)))
          ⟨y.1, y.2.1⟩
        have len : (wipe σ (own.map (·.2))).length = σ8.length := by rw [← hw8, wipe_length]
        exact ⟨k, lt, i + 1, H2, (I2.unpinned (pins := [])).weak len fun j v z => (wipe_some (hw8 ▸ z)).1, T.keep _ _ _ st7 fun b hb o z => (pin b hb o z).1, fun b hb => let ⟨o, z, _⟩ := T.obj _ _ st7 b hb; (pin b hb o z).2, w2⟩
      cases b with
      | false => exact ends I9 (by simpa using q9)
      | true =>
        rw [if_pos rfl] at q9
        refine thnF (pe.run _ s9 σ8 H9 _ I9 q9) fun z s10 h10 => ?_
        obtain ⟨y, H10, I10, r10, c, ns, ey, hD, small, nx⟩ := h10
        rw [ey] at r10
        exact sHas_add (X := X.blk sC HC scope ce fp) I10 hD small r10 fun s11 I11 => ends I11 nx
  exact PpSet.codeAny_compStart_set all (T.self X.A 0 _ _ _ stD all)
end
section
variable {X : Cx} {W : WX} {elt tg iter : Expr} {ifs : List Expr} {scope : Scope} {own : List (PySem.Str × Nat)} {pos : Pos} {t : Tgt} {fw : IS → Out Walk} {fc : IS → Out Bool} {fe : IS → Out RV}
/-- from the reading of a set comprehension to ours -/
theorem sc_imp {g : L2.St} {H : Hp} {Q : VK} {vs : List Nat} (hsub : ∀ j ∈ tgtSl t, j ∈ vs) (h : Ip.TI X.K W rR (scF fw t fc fe vs) g H Q) :
    tScI X.w (Ip.TI X.K W rW fw) (TGi X.K (bindT t) (tgtSl t)) (Ip.TI X.K noW rI fc) (Ip.TI X.K noW rS fun st => sOf (fe st)) vs g H fun D H2 => ∃ ns, H2 D = some (sHas X.w D ns) ∧ ns.length ≤ 4000 ∧ Q (.int (firsts ns).length) H2 := by
  obtain ⟨w, st, R, p⟩ := h
  refine ⟨w, st, R, Post.bind p fun wk st1 _ w1 H1 J l1 R1 jw q1 => ?_⟩
  by_cases hf : freeI st1.r vs = true
  case neg => rw [if_neg hf] at q1; exact q1.elim
  rw [if_pos hf] at q1
  intro D hD
  obtain ⟨RD, loD⟩ := R1.laid hD (sHas X.w D [])
  have fD : w1.Fr D = none := loD.f
  generalize hfin : (fun (acc : List Int) (s6 : IS) => Out.ok (RV.v (IV.int (firsts acc).length)) { s6 with r := backI st1.r s6.r vs }) = fin at q1
  generalize hturn : scTurn t fc fe vs = turn at q1
  let LI : Nat → Hp → Prop := fun i H => ∃ (w' : Wd) (st' : IS) (σ' : L2.St) (acc : List Int), HLe w1.S w'.S w1.phi w'.phi ∧ w'.Fr = upd w1.Fr D (sHas X.w D acc) ∧ Rel X.K w' st' σ' H ∧ wipe σ' vs = wipe g vs ∧
    acc.length ≤ 4000 ∧ Post X.K (rR X.K g) w1 W g Q ((restW turn wk i acc st').bind fin) ∧ i ≤ wLen wk
  refine ⟨fun i m H => m = wLen wk - i ∧ LI i H, ⟨_, rfl, { w1 with Fr := upd w1.Fr D (sHas X.w D []) }, st1, g, [], HLe.refl, rfl, RD.frame loD upd_same, rfl, Nat.zero_le _, ?_, Nat.zero_le _⟩, ?_⟩
  · rw [restW_zero]; exact q1
  rintro i m H' ⟨hm, w', st', σ', acc, e', ef, R', hw, hl, q, hi⟩
  rw [restW_step hi] at q
  cases hn : wNext wk i st' with
  | none => rw [hn] at q; exact q.elim
  | some o =>
    have js := JW.step (show JW X.K w1 J wk from jw) e' R' hn
    cases o with
    | none =>
      rw [hn] at q
      refine .inl ⟨js, ?_⟩
      have R2 : Rel X.K { w' with Fr := upd w1.Fr D (sHas X.w D acc) } st' σ' H' := by rw [← ef]; exact R'
      obtain ⟨R3, lo3, hD3⟩ := R2.unframe fD
      have R4 := Rel.back (st0 := st1) (vs := vs) R1 R3 e' hw hf
      have q' : Post X.K (rR X.K g) w1 W g Q (.ok (.v (.int (firsts acc).length)) { st' with r := backI st1.r st'.r vs }) := by subst hfin; exact q
      exact ⟨acc, hD3, hl, (q'.le (w' := { w' with Fr := w1.Fr }) ⟨e', rfl⟩).okV R4 (.int _)⟩
    | some x =>
      rw [hn] at q
      obtain ⟨go, yl⟩ := js
      have hlt := wNext_lt hn
      refine .inr ⟨go, LI (i + 1), fun H2 h2 => ⟨wLen wk - (i + 1), by omega, rfl, h2⟩, fun v H2 hy => ?_⟩
      obtain ⟨w2, l2, R2, rx⟩ := yl v H2 hy
      have RW := R2.wipe vs
      rw [hw] at RW
      have q2 : Post X.K (rR X.K g) w1 W g Q ((Out.of st' (bindT t x { st' with r := wipeI st'.r vs })).bind fun s2 _ => (fc s2).noX.bind fun c s3 => ((if c = true then (sOf (fe s3)).noX.bind fun y s4 => match y with
          | .int i => if acc.length < 4000 then .ok (i :: acc) { s4 with r := wipeI s4.r vs } else .bad
          | _ => .bad
          else .ok acc { s3 with r := wipeI s3.r vs }).bind (restW turn wk (i + 1))).bind fin) := by
        have q' : Post X.K (rR X.K g) w1 W g Q (((turn acc x st').bind (restW turn wk (i + 1))).bind fin) := q
        rw [← hturn] at q' ⊢
        unfold scTurn at q'
        rw [Out.bind_assoc, Out.bind_assoc] at q'
        simp only [Out.bind_assoc] at q' ⊢
        exact q'
      obtain ⟨s2, e2, q3⟩ := q2.ofB
      refine ⟨w2, _, x, s2, RW, rx, e2, fun σ2 ⟨R3, len3, k3⟩ => ?_⟩
      have hw2 : wipe σ2 vs = wipe g vs := by
        refine (wipe_ext len3 fun j hj => k3 j fun z => hj (hsub j z)).trans wipe_idem
      refine ⟨hw2, w2, s2, R3, Post.sub q3 fun c s3 q4 w3 H3 b l3 R4 rb => ?_⟩
      cases (show b = c from rb)
      by_cases hb : c = true
      · rw [if_pos hb] at q4
        rw [if_pos hb]
        rw [Out.bind_assoc, Out.bind_assoc] at q4
        refine ⟨w3, s3, R4, Post.sub q4 fun y s4 q5 w4 H4 u l4 R5 ru => ?_⟩
        have ef4 : w4.Fr = upd w1.Fr D (sHas X.w D acc) := by rw [l4.f, l3.f, l2.f, ef]
        have hD4 : H4 D = some (sHas X.w D acc) := R5.frm D _ (by rw [ef4]; exact upd_same)
        cases y with
        | int k =>
          by_cases hsm : acc.length < 4000
          case neg => simp only [if_neg hsm] at q5; exact q5.elim
          simp only [if_pos hsm] at q5
          refine ⟨k, acc, ?_, hD4, hsm, ?_⟩
          · have ru' : RepV X.K w4.S w4.phi u (.int k) := ru
            cases ru'; rfl
          have R5' : Rel X.K { w4 with Fr := upd w1.Fr D (sHas X.w D acc) } s4 σ2 H4 := by rw [← ef4]; exact R5
          obtain ⟨R6, lo6, _⟩ := R5'.unframe fD
          have R7 := (R6.loose_upd lo6 (sHas X.w D (k :: acc))).frame lo6 (o := sHas X.w D (k :: acc)) upd_same
          have R8 := R7.wipe vs
          have eh : HLe w1.S w4.S w1.phi w4.phi := e'.trans (l2.h.trans (l3.h.trans l4.h))
          exact ⟨{ w4 with Fr := upd w1.Fr D (sHas X.w D (k :: acc)) }, { s4 with r := wipeI s4.r vs }, wipe σ2 vs, k :: acc, eh, rfl, R8, by rw [wipe_idem, hw2],
            by simp only [List.length_cons]; omega, q5, hlt⟩
        | _ => exact q5.elim
      · rw [if_neg hb] at q4
        rw [if_neg hb]
        have ef3 : w3.Fr = upd w1.Fr D (sHas X.w D acc) := by rw [l3.f, l2.f, ef]
        exact ⟨w3, { s3 with r := wipeI s3.r vs }, wipe σ2 vs, acc, e'.trans (l2.h.trans l3.h), ef3, R4.wipe vs, by rw [wipe_idem, hw2], hl, q4, hlt⟩
/-- len({elt for target in iter if ..}) -/
theorem i_lenSc (hc : X.calm = true) (hN : X.N.Nodup) (hi : PIi X W tg iter fw) (ok : BlkOk X.N X.env.scope scope own)
    (hg : ∀ (s : Shared) (H : Hp) (C : Addr) (cl : List (PySem.Str × Addr)) (fp : List Addr), PG (X.blk s H scope (compEnvC scope cl C X.env) fp) tg (TGi X.K (bindT t) (tgtSl t)))
    (ht : ∀ (s : Shared) (H : Hp) (C : Addr) (cl : List (PySem.Str × Addr)) (fp : List Addr), PTs (X.blk s H scope (compEnvC scope cl C X.env) fp) ifs (Ip.TI X.K noW rI fc))
    (he : ∀ (s : Shared) (H : Hp) (C : Addr) (cl : List (PySem.Str × Addr)) (fp : List Addr), PEs (X.blk s H scope (compEnvC scope cl C X.env) fp) noW elt fun st => sOf (fe st)) (hs : ∀ x, foldedSetIterable iter X.env x = pure x)
    (hsub : ∀ j ∈ tgtSl t, j ∈ own.map (·.2)) {p q : Pos} (hgl : Gl X "len") (hm : X.mg "len" = none) : PEr X W (.Call (.Name "len" p) [.SetComp elt [⟨tg, iter, ifs, 0⟩] scope pos] [] q) (scF fw t fc fe (own.map (·.2))) := by
  refine ⟨fun pins s σ H Q I h => ?_⟩
  refine Call_ (ld_blt I hgl hm boot_len ?_)
  refine PyProof.Rows.callWith_builtin1 (PyProof.Rows.args_cons ?_ rfl) rfl rfl
  refine scI_run hc hN I hi ok hg ht he hs (sc_imp hsub h) fun D s2 H2 I2 due => ?_
  obtain ⟨ns, hD, hl, q2⟩ := due
  refine PyProof.Rows.args_nil ?_
  have fl := firsts_len ns
  obtain ⟨o, es, ep, t, ho, hex, hd, _, _, _, hb, hf, hn, _⟩ := sHas_get I2 hD
  exact call_len_set ho hex hd hf (by rw [hn]; omega) ⟨.int (firsts ns).length, H2, I2.tok _, ⟨_, by rw [hn]⟩, q2⟩
end
end Ip

/-! Ip10d: a dict of one pair. -/
namespace Ip
open PySem PySem.Spec PyProof.Rows L2
def dict1F (fa fb : IS → Out RV) : IS → Out RV := fun st => (sOf (fa st)).noX.bind fun k st => (Out.of st (asK k)).bind fun k st => (sOf (fb st)).noX.bind fun y st => .ok (.fr (.dK [(k, y)])) st
section
variable {X : Cx} {W : WX} {a b : Expr} {fa fb : IS → Out RV} {pos : Pos}
theorem i_dict1 (ha : PEs X noW a fun st => sOf (fa st)) (hb : PEs X noW b fun st => sOf (fb st)) : PEr X W (.Dict [some a] [b] pos) (dict1F fa fb) :=
  PE.imp (pe_disp (pps_cons ha hb pps_nil) rfl rfl (by simp) (by show 1 ≤ 15; omega)) fun g H Q ⟨w, st, R, q⟩ => by
  intro D hD
  obtain ⟨RD, loD⟩ := R.laid hD (.dK [])
  have fD : w.Fr D = none := loD.f
  refine ⟨_, st, RD.frame loD upd_same, Post.sub q fun x st1 q1 w1 H1 v l1 R1 rx => ?_⟩
  obtain ⟨k, e1, q2⟩ := q1.ofB
  refine ⟨w1, st1, R1, Post.sub q2 fun y st2 q3 w2 H2 u l2 R2 ry => ?_⟩
  have ef : w2.Fr = upd w.Fr D (.dK []) := by rw [l2.f, l1.f]
  have hD2 : H2 D = some (.dK []) := R2.frm D _ (by rw [ef]; exact upd_same)
  have rx' : RepV X.K w1.S w1.phi v x := rx
  have ry' : RepV X.K w2.S w2.phi u y := ry
  refine ⟨hD2, [(k, u)], by rw [show v = kV k from asK_rep (g := g) (RepE.of rx') e1]; rfl, by show 1 ≤ 15; omega, ?_⟩
  have R3 : Rel X.K { w2 with Fr := upd w.Fr D (.dK []) } st2 g H2 := by rw [← ef]; exact R2
  obtain ⟨R4, lo4, _⟩ := R3.unframe fD
  have R5 := R4.loose_upd lo4 (.dK [(k, u)])
  have hw : HLe w.S w2.S w.phi w2.phi := l1.h.trans l2.h
  exact (Post.le (w' := { w2 with Fr := w.Fr }) ⟨hw, rfl⟩ q3).okF R5 lo4 ⟨[(k, u)], upd_same, .cons ry' .nil⟩
end
end Ip

/-! Ip11: statements. -/
namespace Ip
open PySem PySem.Spec PyProof.Rows L2

def SPost (K : PySem.W.Frag) (w : Wd) (W : WX) (D : Ends) : SOut → Prop
  | .next st => ∀ w' σ' H', Le w w' → Rel K w' st σ' H' → D.nx σ' H'
  | .brk st => ∀ w' σ' H', Le w w' → Rel K w' st σ' H' → D.bk σ' H'
  | .cont st => ∀ w' σ' H', Le w w' → Rel K w' st σ' H' → D.ct σ' H'
  | .ret r st => ∀ w' σ' H' v, Le w w' → Rel K w' st σ' H' → RepR K w' st σ' H' v r → stor r.get = true → D.rt v H'
  | .exc c fs st => ∀ w' σ' H' d vs, Le w w' → Rel K w' st σ' H' → w'.S d = some (.xd vs) → RepFs K w'.S w'.phi vs fs → W (.ref (gaS K c)) (some d) σ' H'
  | .bad => False
def TSi (K : PySem.W.Frag) (W : WX) (f : IS → SOut) : TS := fun D σ H => ∃ w st, Rel K w st σ H ∧ SPost K w W D (f st)
theorem PS.imp {X : Cx} {s : Stmt} {t t' : TS} (h : PS X s t) (i : ∀ D g H, t' D g H → t D g H) : PS X s t' := ⟨fun pins s g H D I q => h.run pins s g H D I (i D g H q)⟩
theorem PSs.imp {X : Cx} {s : List Stmt} {t t' : TS} (h : PSs X s t) (i : ∀ D g H, t' D g H → t D g H) : PSs X s t' := ⟨fun pins s g H D I q => h.run pins s g H D I (i D g H q)⟩
section
variable {α β : Type} {K : PySem.W.Frag} {rel : Wd → IS → Hp → β → α → Prop} {w w' : Wd} {W : WX} {D : Ends} {g : L2.St} {Q : β → Hp → Prop} {H H' : Hp} {st : IS}
theorem SPost.le (e : Le w w') {o : SOut} (h : SPost K w W D o) : SPost K w' W D o := by
  cases o with
  | next st => exact fun w2 s2 H2 l => h w2 s2 H2 (e.trans l)
  | brk st => exact fun w2 s2 H2 l => h w2 s2 H2 (e.trans l)
  | cont st => exact fun w2 s2 H2 l => h w2 s2 H2 (e.trans l)
  | ret r st => exact fun w2 s2 H2 v l => h w2 s2 H2 v (e.trans l)
  | exc c fs st => exact fun w2 s2 H2 d vs l => h w2 s2 H2 d vs (e.trans l)
  | bad => exact h
theorem Post.ofS {o : Out α} {k : α → IS → SOut} (h : SPost K w W D (o.toS k)) (hk : ∀ a st, Out.ok a st = o → ∀ w' H' v, Le w w' → Rel K w' st g H' → rel w' st H' v a → SPost K w' W D (k a st) → Q v H') : Post K rel w W g Q o := by
  cases o with
  | ok a st => exact fun w2 H2 v l R r => hk a st rfl w2 H2 v l R r (h.le l)
  | exc c fs st => exact fun w2 H2 d vs l R => h w2 g H2 d vs l R
  | bad => exact h
theorem SPost.next (h : SPost K w W D (.next st)) (R : Rel K w st g H) : D.nx g H := h w g H Le.refl R
theorem SPost.ofS {o : Option α} {k : α → IS → SOut} (h : SPost K w W D ((Out.of st o).toS k)) : ∃ a, o = some a ∧ SPost K w W D (k a st) := by
  cases o with
  | none => exact h.elim
  | some a => exact ⟨a, rfl, h⟩
theorem SPost.opt {o : Option IS} (h : SPost K w W D (optS o)) : ∃ st, o = some st ∧ SPost K w W D (.next st) := by
  cases o with
  | none => exact h.elim
  | some a => exact ⟨a, rfl, h⟩
theorem SPost.thn {o : SOut} {k : IS → SOut} (h : SPost K w W D (o.then k)) : SPost K w W { D with nx := TSi K W k D } o := by
  cases o with
  | next st => exact fun w2 s2 H2 l R => ⟨w2, st, R, h.le l⟩
  | _ => exact h
theorem SPost.turn {o : SOut} {k : IS → SOut} (h : SPost K w W D (o.turn k)) {N : L2.St → Hp → Prop} (hN : ∀ w2 st σ H, Le w w2 → Rel K w2 st σ H → SPost K w2 W D (k st) → N σ H) : SPost K w W { D with nx := N, ct := N, bk := D.nx } o := by
  cases o with
  | next st => exact fun w2 s2 H2 l R => hN w2 st s2 H2 l R (h.le l)
  | cont st => exact fun w2 s2 H2 l R => hN w2 st s2 H2 l R (h.le l)
  | brk st => exact h
  | _ => exact h
end
section
variable {X : Cx} {W : WX} {pos : Pos} {e a b c : Expr} {f fa fb fc : IS → Out RV} {s : Stmt} {ss : List Stmt} {k k2 : IS → SOut}
abbrev PSi (X : Cx) (W : WX) (s : Stmt) (f : IS → SOut) : Prop := PS X s (TSi X.K W f)
abbrev PSsi (X : Cx) (W : WX) (s : List Stmt) (f : IS → SOut) : Prop := PSs X s (TSi X.K W f)
theorem s_nil : PSsi X W [] fun st => .next st := PSs.imp pss_nil fun D g H ⟨w, st, R, p⟩ => p.next R
theorem s_cons (h1 : PSi X W s k) (h2 : PSsi X W ss k2) : PSsi X W (s :: ss) fun st => (k st).then k2 :=
  PSs.imp (pss_cons h1 h2) fun D g H ⟨w, st, R, p⟩ => ⟨w, st, R, p.thn⟩
/-- a statement that does nothing of its own in the text -/
theorem s_ghost (h : PSsi X W ss k2) (i : ∀ D g H, TSi X.K W k D g H → ∃ w st, Rel X.K w st g H ∧ k st = .next st ∧ SPost X.K w W D (.next st)) : PSsi X W ss fun st => (k st).then k2 :=
  PSs.imp h fun D g H ⟨w, st, R, p⟩ => by
    obtain ⟨w1, st1, R1, e1, p1⟩ := i { D with nx := TSi X.K W k2 D } g H ⟨w, st, R, p.thn⟩
    exact p1.next R1
theorem s_frz {i : Nat} (h : PSsi X W ss k2) : PSsi X W ss fun st => ((Out.of st ((st.r[i]?).bind ownC)).toS fun c st => SOut.next { st with r := st.r.set i (.val c) }).then k2 :=
  PSs.imp h fun D g H ⟨w, st, R, p⟩ => by
    obtain ⟨c, e, p⟩ := (p.thn).ofS
    obtain ⟨s, e1, e2⟩ := Option.bind_eq_some_iff.mp e
    cases s with
    | own d =>
      cases e2
      obtain ⟨a, R1, lo, co, hg⟩ := R.move e1
      obtain ⟨w2, l2, R2, r2⟩ := R1.fixC lo co
      have hi : i < st.r.length := (List.getElem?_eq_some_iff.mp e1).1
      have R3 := R2.setVal (i := i) (by simpa using hi) r2
      have e3 : g.set i (some (.ref a)) = g := by
        refine List.ext_getElem? fun j => ?_
        by_cases hj : i = j
        · subst hj
          rw [List.getElem?_set_self (List.getElem?_eq_some_iff.mp hg).1, hg]
        · rw [List.getElem?_set_ne hj]
      rw [e3] at R3
      have R4 : Rel X.K w2 { st with r := st.r.set i (.val c) } g H := by
        have : (st.r.set i .un).set i (.val c) = st.r.set i (.val c) := by simp
        have R3' : Rel X.K w2 { st with r := (st.r.set i .un).set i (.val c) } g H := R3
        rw [this] at R3'; exact R3'
      exact (p.le l2).next R4
    | _ => cases e2
theorem s_expr (he : PEr X W e f) (hs : swapsWith e none pos.line X.env = pure false) : PSi X W (.Expr e pos) fun st => (f st).toS fun _ st => .next st :=
  PS.imp (ps_expr he hs) fun D g H ⟨w, st, R, p⟩ => ⟨w, st, R, Post.ofS p fun r st1 _ w1 H1 v l R1 rr q => q.next R1⟩
theorem s_ret (he : PEr X W e f) : PSi X W (.Return (some e) pos) fun st => (f st).toS fun r st => if stor r.get then .ret r st else .bad :=
  PS.imp (ps_ret he) fun D g H ⟨w, st, R, p⟩ => ⟨w, st, R, Post.ofS p fun r st1 _ w1 H1 v l R1 rr q => by
    by_cases hs : stor r.get = true
    · rw [if_pos hs] at q
      exact q w1 g H1 v Le.refl R1 rr hs
    · rw [if_neg hs] at q
      exact q.elim⟩
theorem s_ret0 : PSi X W (.Return none pos) fun st => .ret (.v .non) st :=
  PS.imp ps_retN fun D g H ⟨w, st, R, p⟩ => p w g H .non Le.refl R (show RepE X.K w g _ _ from RepE.of .non) rfl
theorem s_pass : PSi X W (.Pass pos) fun st => .next st := PS.imp ps_pass fun D g H ⟨w, st, R, p⟩ => p.next R
theorem s_doc {x : PySem.Str} {j : Nat} {p' : Pos} : PSi X W (.Expr (.Constant (.str x) j pos) p') fun st => .next st := PS.imp ps_doc fun D g H ⟨w, st, R, p⟩ => p.next R
theorem s_brk : PSi X W (.Break pos) fun st => .brk st := PS.imp ps_break fun D g H ⟨w, st, R, p⟩ => p w g H Le.refl R
theorem s_cont : PSi X W (.Continue pos) fun st => .cont st := PS.imp ps_continue fun D g H ⟨w, st, R, p⟩ => p w g H Le.refl R
theorem s_never : PSi X W s fun _ => .bad := PS.imp ps_never fun D g H ⟨w, st, R, p⟩ => p
theorem s_ite {sa sb : List Stmt} (hc : PTi X W c fun st => tOf (fc st)) (ha : PSsi X W sa k) (hb : PSsi X W sb k2) : PSi X W (.If c sa sb pos) fun st => (tOf (fc st)).toS fun t st => if t = true then k st else k2 st :=
  PS.imp (ps_if hc ha hb) fun D g H ⟨w, st, R, p⟩ => ⟨w, st, R, Post.ofS p fun t st1 _ w1 H1 v l R1 rr q => by
    cases (show v = t from rr)
    by_cases h : t = true
    · rw [if_pos h] at q
      rw [if_pos h]; exact ⟨w1, st1, R1, q⟩
    · rw [if_neg h] at q
      rw [if_neg h]; exact ⟨w1, st1, R1, q⟩⟩
theorem s_whl {n : Nat} {body : List Stmt} (hp : PassesOwn (model X.prog X.w) X.A X.env X.xe) (hc : PTi X W c fun st => tOf (fc st)) (hb : PSsi X W body k) : PSi X W (.While c body [] pos) fun st => whlL (fun st => tOf (fc st)) k n st :=
  PS.imp (ps_while hp hc hb) fun D g H ⟨w, st, R, p⟩ => by
    refine ⟨fun m σ H => ∃ w st, Rel X.K w st σ H ∧ SPost X.K w W D (whlL (fun st => tOf (fc st)) k m st), ⟨n, w, st, R, p⟩, fun m σ H ⟨w, st, R, p⟩ => ?_⟩
    cases m with
    | zero => exact p.elim
    | succ m =>
      refine ⟨w, st, R, Post.ofS (show SPost X.K w W D ((tOf (fc st)).toS fun t st => if t = true then (k st).turn (whlL (fun st => tOf (fc st)) k m) else .next st) from p) fun t st1 _ w1 H1 v l R1 rr q => ?_⟩
      cases (show v = t from rr)
      by_cases h : t = true
      · rw [if_pos h] at q
        rw [if_pos h]
        refine ⟨fun σ H => ∃ w st, Rel X.K w st σ H ∧ SPost X.K w W D (whlL (fun st => tOf (fc st)) k m st), fun σ' H' z => ⟨m, Nat.lt_succ_self _, z⟩, w1, st1, R1, q.turn fun w2 st2 σ2 H2 _ R2 q2 => ⟨w2, st2, R2, q2⟩⟩
      · rw [if_neg h] at q
        rw [if_neg h]
        exact q.next R1
/-! ### for -/
theorem for_walk {t : Tgt} {wk : Walk} {J : L2.It} {D : Ends} {g : L2.St} {H1 : Hp} {w1 : Wd} {st1 : IS} (R1 : Rel X.K w1 st1 g H1) (jw : JW X.K w1 J wk) (q : SPost X.K w1 W D (forWalk (forTurn t k) wk st1)) :
    ∃ Wf : Nat → Nat → L2.St → Hp → Prop, (∃ m, Wf 0 m g H1) ∧ ∀ i m σ H, Wf i m σ H →
      (J.stop i H ∧ D.nx σ H) ∨ (J.go i H ∧ ∃ N : L2.St → Hp → Prop, (∀ σ' H', N σ' H' → ∃ m', m' < m ∧ Wf (i + 1) m' σ' H') ∧ ∀ x H', J.yld i H x H' → TGi X.K (bindT t) (tgtSl t) x σ H' fun σ2 H2 => TSi X.K W k { D with nx := N, ct := N, bk := D.nx } σ2 H2) := by
  generalize hturn : forTurn t k = turn at q
  let LI : Nat → L2.St → Hp → Prop := fun i σ H => ∃ w' st', Le w1 w' ∧ Rel X.K w' st' σ H ∧ SPost X.K w' W D (restS turn wk i st') ∧ i ≤ wLen wk
  refine ⟨fun i m σ H => m = wLen wk - i ∧ LI i σ H, ⟨_, rfl, w1, st1, Le.refl, R1, by rw [restS_zero]; exact q, Nat.zero_le _⟩, ?_⟩
  rintro i m σ H' ⟨hm, w', st', l', R', q', hi⟩
  rw [restS_step hi] at q'
  cases hn : wNext wk i st' with
  | none => rw [hn] at q'; exact q'.elim
  | some o =>
    have js := JW.step (show JW X.K w1 J wk from jw) l'.h R' hn
    cases o with
    | none => rw [hn] at q'; exact .inl ⟨js, q'.next R'⟩
    | some x =>
      rw [hn] at q'
      obtain ⟨go, yl⟩ := js
      have hlt := wNext_lt hn
      refine .inr ⟨go, LI (i + 1), fun σ2 H2 h2 => ⟨wLen wk - (i + 1), by omega, rfl, h2⟩, fun v H2 hy => ?_⟩
      obtain ⟨w2, l2, R2, rx⟩ := yl v H2 hy
      have q2 : SPost X.K w2 W D (((optS (bindT t x st')).then k).turn (restS turn wk (i + 1))) := by
        have : SPost X.K w' W D ((turn x st').turn (restS turn wk (i + 1))) := q'
        rw [← hturn] at this ⊢
        exact this.le l2
      cases hb : bindT t x st' with
      | none => rw [hb] at q2; exact q2.elim
      | some s2 =>
        rw [hb] at q2
        refine ⟨w2, st', x, s2, R2, rx, hb, fun σ2 ⟨R3, _, _⟩ => ⟨w2, s2, R3, SPost.turn (show SPost X.K w2 W D ((k s2).turn (restS turn wk (i + 1))) from q2) fun w3 st3 σ3 H3 l3 R4 q3 => ⟨w3, st3, l'.trans (l2.trans l3), R4, q3, hlt⟩⟩⟩
theorem for_imp {t : Tgt} {fw : IS → Out Walk} {D : Ends} {g : L2.St} {H : Hp} (h : TSi X.K W (fun st => (fw st).toS fun w st => forWalk (forTurn t k) w st) D g H) :
    tFor (Ip.TI X.K W rW fw) (TGi X.K (bindT t) (tgtSl t)) (TSi X.K W k) D g H := by
  obtain ⟨w, st, R, p⟩ := h
  exact ⟨w, st, R, Post.ofS p fun wk st1 _ w1 H1 J l1 R1 jw q => for_walk R1 jw q⟩
theorem s_for {t : Tgt} {tg iter : Expr} {fw : IS → Out Walk} {body : List Stmt} (hp : PassesOwn (model X.prog X.w) X.A X.env X.xe) (hc : X.calm = true) (hi : PIi X W tg iter fw) (hg : PG X tg (TGi X.K (bindT t) (tgtSl t))) (hb : PSsi X W body k)
    (hs : ∀ x, foldedSetIterable iter X.env x = pure x) : PSi X W (.For tg iter body [] pos) fun st => (fw st).toS fun w st => forWalk (forTurn t k) w st :=
  PS.imp (ps_for hp hc hi hg hb hs) fun D g H h => for_imp h
/-! ### assignments -/
theorem s_asg {t : Tgt} {tg : Expr} (he : PEr X W e f) (hg : PG X tg (TGi X.K (bindT t) (tgtSl t))) (hs : swapsWithSole [tg] e pos.line X.env = pure false) (hw : swappedStores [tg] e X.env = pure none) (h1 : (assignEach [tg] X.env).map (·.2) = [assign tg X.env]) :
    PSi X W (.Assign [tg] e pos) fun st => (sOf (f st)).toS fun x st => optS (bindT t x st) :=
  PS.imp (ps_asg (toS he) hg hs hw h1) fun D g H ⟨w, st, R, p⟩ => ⟨w, st, R, Post.ofS p fun x st1 _ w1 H1 v l R1 rr q => by
    obtain ⟨st2, e2, q2⟩ := q.opt
    exact ⟨w1, st1, x, st2, R1, rr, e2, fun σ' ⟨R2, _, _⟩ => q2.next R2⟩⟩
theorem own_imp {i : Nat} {D : Ends} {g : L2.St} {H : Hp} (h : TSi X.K W (fun st => (f st).toS fun r st => (Out.of st (asFr r)).toS fun c st => if i < st.r.length then .next { st with r := st.r.set i (.own c) } else .bad) D g H) :
    Ip.TI X.K W rR f g H fun x H1 => gName i x g H1 D.nx := by
  obtain ⟨w, st, R, p⟩ := h
  refine ⟨w, st, R, Post.ofS p fun r st1 _ w1 H1 v l R1 rr q => ?_⟩
  obtain ⟨c, e, q2⟩ := q.ofS
  cases r with
  | v x => cases e
  | fr x =>
    cases e
    obtain ⟨a, rfl, lo, co⟩ := rr
    by_cases hi : i < st1.r.length
    · rw [if_pos hi] at q2
      exact q2.next (R1.setNew hi lo co)
    · rw [if_neg hi] at q2
      exact q2.elim
theorem val_imp {i : Nat} {D : Ends} {g : L2.St} {H : Hp} (h : TSi X.K W (fun st => (sOf (f st)).toS fun x st => optS (bindT (.name i) x st)) D g H) :
    Ip.TI X.K W rR f g H fun x H1 => gName i x g H1 D.nx := by
  obtain ⟨w, st, R, p⟩ := h
  have e0 : (sOf (f st)).toS (fun x st => optS (bindT (.name i) x st)) = (f st).toS fun r st => if stor r.get then optS (bindT (.name i) r.get st) else .bad := by
    cases f st with
    | ok r s1 =>
      show (if stor r.get then Out.ok r.get s1 else .bad).toS _ = _
      by_cases hs : stor r.get = true
      · rw [if_pos hs]; show _ = (if stor r.get then _ else _); rw [if_pos hs]; rfl
      · rw [if_neg hs]; show _ = (if stor r.get then _ else _); rw [if_neg hs]; rfl
    | exc c fs s1 => rfl
    | bad => rfl
  have p' : SPost X.K w W D ((f st).toS fun r st => if stor r.get then optS (bindT (.name i) r.get st) else .bad) := by rw [← e0]; exact p
  refine ⟨w, st, R, Post.ofS p' fun r st1 _ w1 H1 v l R1 rr q => ?_⟩
  by_cases hs : stor r.get = true
  case neg => rw [if_neg hs] at q; exact q.elim
  rw [if_pos hs] at q
  obtain ⟨st2, e2, q2⟩ := q.opt
  unfold bindT at e2
  split at e2
  case isFalse => cases e2
  rename_i hh
  obtain ⟨_, h2⟩ := Bool.and_eq_true_iff.mp hh
  cases e2
  cases r with
  | v x => exact q2.next (R1.setVal (of_decide_eq_true h2) (RepE.val rr hs))
  | fr x =>
    obtain ⟨a, rfl, lo, co⟩ := rr
    obtain ⟨w2, l2, R2, r2⟩ := R1.fixC lo co
    exact (q2.le l2).next (R2.setVal (of_decide_eq_true h2) r2)
section
variable {i : Nat} {x : PySem.Str} {p' : Pos}
theorem s_own (hN : X.N.Nodup) (hi : X.N[i]? = some x) (hx : Loc X.env.scope x) (he : PEr X W e f) (hs : swapsWith e (some (.Name x p')) pos.line X.env = pure false) (hf : X.fn x = true ∨ X.env.scope.names.lookup x = some .local) :
    PSi X W (.Assign [.Name x p'] e pos) fun st => (f st).toS fun r st => (Out.of st (asFr r)).toS fun c st => if i < st.r.length then .next { st with r := st.r.set i (.own c) } else .bad :=
  PS.imp (ps_set hN hi hx he hs hf) fun D g H h => own_imp h
theorem s_val (hN : X.N.Nodup) (hi : X.N[i]? = some x) (hx : Loc X.env.scope x) (he : PEr X W e f) (hs : swapsWith e (some (.Name x p')) pos.line X.env = pure false) (hf : X.fn x = true ∨ X.env.scope.names.lookup x = some .local) :
    PSi X W (.Assign [.Name x p'] e pos) fun st => (sOf (f st)).toS fun x st => optS (bindT (.name i) x st) :=
  PS.imp (ps_set hN hi hx he hs hf) fun D g H h => val_imp h
section
variable {elt tg iter : Expr} {ifs : List Expr} {scope : Scope} {own : List (PySem.Str × Nat)} {spos : Pos} {t : Tgt} {fw : IS → Out Walk} {fc : IS → Out Bool} {fe : IS → Out RV}
theorem s_lcT (hc : X.calm = true) (hN : X.N.Nodup) (hy : X.N[i]? = some x) (hyl : X.env.scope.names.lookup x = some .local)
    (hsw : swapsWith (.ListComp elt [⟨tg, iter, ifs, 0⟩] scope pos) (some (.Name x p')) spos.line X.env = pure true) (hi : PIi X W tg iter fw) (ok : BlkOk X.N X.env.scope scope own)
    (hg : ∀ (s : Shared) (H : Hp) (C : Addr) (cl : List (PySem.Str × Addr)) (fp : List Addr), PG (X.blk s H scope (compEnvC scope cl C X.env) fp) tg (TGi X.K (bindT t) (tgtSl t)))
    (ht : ∀ (s : Shared) (H : Hp) (C : Addr) (cl : List (PySem.Str × Addr)) (fp : List Addr), PTs (X.blk s H scope (compEnvC scope cl C X.env) fp) ifs (Ip.TI X.K noW rI fc))
    (he : ∀ (s : Shared) (H : Hp) (C : Addr) (cl : List (PySem.Str × Addr)) (fp : List Addr), PEs (X.blk s H scope (compEnvC scope cl C X.env) fp) noW elt fun st => sOf (fe st)) (hs : ∀ x, foldedSetIterable iter X.env x = pure x)
    (hsub : ∀ j ∈ tgtSl t, j ∈ own.map (·.2)) : PS X (.Assign [.Name x p'] (.ListComp elt [⟨tg, iter, ifs, 0⟩] scope pos) spos) (fun D σ H => Ip.TI X.K W rR (lcF fw t fc fe (own.map (·.2))) σ H fun x H1 => gName i x σ H1 D.nx) :=
  PS.imp (ps_setLc hc hN hy hyl hsw hi ok hg ht he hs) fun D g H h => lc_imp hsub h
end
end
/-! ### o[i] = y -/
theorem reps_put {K : PySem.W.Frag} {S : Hp} {phi : List Addr} {k : L2.Key} {v : V} {x : IV} (h : RepV K S phi v x) {vs : List (L2.Key × V)} {xs : List (L2.Key × IV)} (r : RepKs K S phi vs xs) : RepKs K S phi (L2.putK vs k v) (putK k x xs) := by
  have keys : ∀ {vs : List (L2.Key × V)} {xs : List (L2.Key × IV)}, RepKs K S phi vs xs → (vs.any fun kv => decide (kv.1 = k)) = (xs.any fun kv => decide (kv.1 = k)) := fun {vs xs} r => by
    induction vs generalizing xs with
    | nil => cases r; rfl
    | cons a vs ih => cases r with
      | cons h r => rw [List.any_cons, List.any_cons, ih r]
  have map : ∀ {vs : List (L2.Key × V)} {xs : List (L2.Key × IV)}, RepKs K S phi vs xs → RepKs K S phi (vs.map fun kv => if kv.1 = k then (kv.1, v) else kv) (xs.map fun kv => if kv.1 = k then (kv.1, x) else kv) := fun {vs xs} r => by
    induction vs generalizing xs with
    | nil => cases r; exact .nil
    | cons a vs ih => cases r with
      | @cons l u y _ ys h1 r =>
        rw [List.map_cons, List.map_cons]
        by_cases e : l = k
        · rw [if_pos e, if_pos e]; exact .cons h (ih r)
        · rw [if_neg e, if_neg e]; exact .cons h1 (ih r)
  have snoc : ∀ {vs : List (L2.Key × V)} {xs : List (L2.Key × IV)}, RepKs K S phi vs xs → RepKs K S phi (vs ++ [(k, v)]) (xs ++ [(k, x)]) := fun {vs xs} r => by
    induction vs generalizing xs with
    | nil => cases r; exact .cons h .nil
    | cons a vs ih => cases r with
      | cons h1 r => exact .cons h1 (ih r)
  unfold L2.putK putK
  rw [keys r]
  split
  · exact map r
  · exact snoc r
def RSet (K : PySem.W.Frag) : TSet := fun o i v H Q => ∃ w st g a b y st', Rel K w st g H ∧ RepE K w g o a ∧ RepE K w g i b ∧ RepV K w.S w.phi v y ∧ setS st a b y = some st' ∧ ∀ H', Rel K w st' g H' → Q H'
theorem set_I (hu : X.A.units + 1 < cLine) : PSet X (RSet X.K) := by
  intro pins s σ H o i v ov iv u Q I ro ri rv ⟨w, st, g, a, b, y, st', R, ra, rb, ry, e, q⟩
  obtain ⟨c, e1, e2⟩ := Option.bind_eq_some_iff.mp e
  cases c with
  | lst xs =>
    obtain ⟨k, e3, e4⟩ := Option.bind_eq_some_iff.mp (show (asI b).bind (fun k => (L2.ixN xs.length k).bind fun j => setC st a (.lst (xs.set j y))) = some st' from e2)
    obtain ⟨j, e5, e6⟩ := Option.bind_eq_some_iff.mp e4
    obtain ⟨p, ev, ⟨vs, h1, h2⟩, nx⟩ := R.con ra e6 e1
    subst ev
    cases b with
    | int n =>
      have e3' : n = k := Option.some.inj e3
      subst e3'
      exact set_list pins s σ H _ i v ov iv u Q I ro ri rv ⟨p, vs, n, j, rfl, rb.int, h1, by rw [h2.length]; exact e5, q _ (nx _ ⟨_, upd_same, h2.set ry j⟩)⟩
    | _ => cases e3
  | dK xs =>
    obtain ⟨k, e3, e4⟩ := Option.bind_eq_some_iff.mp (show (asK b).bind (fun k => if small xs.length then setC st a (.dK (putK k y xs)) else none) = some st' from e2)
    split at e4
    case isFalse => cases e4
    rename_i hsm
    obtain ⟨p, ev, ⟨vs, h1, h2⟩, nx⟩ := R.con ra e4 e1
    subst ev
    cases ro
    have hl := h2.length
    exact d_setItem hu I (.inl ⟨vs, k, h1, asK_rep rb e3, by rw [hl]; exact small_lt hsm, rfl⟩) ri rv fun s' I' => ⟨_, I', q _ (nx _ ⟨_, upd_same, reps_put ry h2⟩)⟩
  | _ => cases e2
section
variable {o i : Expr} {fo fi : IS → Out RV} {tpos : Pos}
/-- one store into an object, the value known -/
theorem sub_imp {g : L2.St} {H : Hp} {Q : L2.St → Hp → Prop} {v : V} {y : IV} {w : Wd} {st : IS} {D : Ends} {k : IS → SOut} (R : Rel X.K w st g H) (ry : RepV X.K w.S w.phi v y)
    (p : SPost X.K w W D ((vOf (fo st)).toS fun o st => (vOf (fi st)).toS fun i st => (optS (setS st o i y)).then k)) (hQ : ∀ w1 st1 H1, Le w w1 → Rel X.K w1 st1 g H1 → SPost X.K w1 W D (k st1) → Q g H1) :
    gSub (Ip.TI X.K W rE fun st => vOf (fo st)) (Ip.TI X.K W rE fun st => vOf (fi st)) (RSet X.K) v g H Q := by
  refine ⟨w, st, R, Post.ofS p fun a st1 _ w1 H1 ov l1 R1 r1 q1 => ⟨w1, st1, R1, Post.ofS q1 fun b st2 _ w2 H2 iv l2 R2 r2 q2 => ?_⟩⟩
  cases hs : setS st2 a b y with
  | none => rw [hs] at q2; exact q2.elim
  | some st3 =>
    rw [hs] at q2
    exact ⟨w2, st2, g, a, b, y, st3, R2, RepE.mono l2 r1, r2, RepV.mono (l1.h.trans l2.h) ry, hs, fun H3 R3 => hQ w2 st3 H3 (l1.trans l2) R3 q2⟩
theorem then_nx (o : SOut) : o.then (fun st => .next st) = o := by cases o <;> rfl
theorem s_sub (hu : X.A.units + 1 < cLine) (ho : PEr X W o fo) (hi : PEr X W i fi) (he : PEr X W e f)
    (ha : ∀ v, assign (.Subscript o i tpos) X.env v = (do
      let ov ← holding [v] (eval o X.env)
      let iv ← holding [v, ov] (eval i X.env)
      standAt tpos
      holding [v, ov, iv] (setItem ov iv v)
      release [v, ov, iv] [])) (hs : swapsWithSole [.Subscript o i tpos] e pos.line X.env = pure false) (hw : swappedStores [.Subscript o i tpos] e X.env = pure none) :
    PSi X W (.Assign [.Subscript o i tpos] e pos) fun st => (sOf (f st)).toS fun y st => (vOf (fo st)).toS fun o st => (vOf (fi st)).toS fun i st => optS (setS st o i y) :=
  PS.imp (ps_asg (toS he) (pg_sub (toV ho) (toV hi) (set_I hu) ha) hs hw rfl) fun D g H ⟨w, st, R, p⟩ => ⟨w, st, R, Post.ofS p fun y st1 _ w1 H1 v l R1 ry q => by
    refine sub_imp (D := D) (k := fun st => .next st) R1 ry ?_ fun w2 st2 H2 l2 R2 q2 => q2.next R2
    simp only [then_nx]
    exact q⟩
end
theorem s_par {i j : Nat} {x y : PySem.Str} {px py pt : Pos} {kt k2 : Nat} {pt2 : Pos} (hc : X.calm = true) (hN : X.N.Nodup) (hi : X.N[i]? = some x) (hj : X.N[j]? = some y) (hij : i ≠ j)
    (hx : X.env.scope.names.lookup x = some .local) (hy : X.env.scope.names.lookup y = some .local) (ha : PEr X W a fa) (hb : PEr X W b fb) (hsa : noStar a = true) (hsb : noStar b = true)
    (hw : swappedStores [.Tuple [.Name x px, .Name y py] kt pt] (.Tuple [a, b] k2 pt2) X.env = pure (some [x, y])) :
    PSi X W (.Assign [.Tuple [.Name x px, .Name y py] kt pt] (.Tuple [a, b] k2 pt2) pos) fun st => (sOf (fa st)).toS fun x st => (sOf (fb st)).toS fun y st => if i < st.r.length ∧ j < st.r.length then .next { st with r := (st.r.set i (.val x)).set j (.val y) } else .bad :=
  PS.imp (ps_par hc hN hi hj hij hx hy (pa_cons (toS ha) (pa_cons (toS hb) pa_nil (star1 hsb _ _)) (star1 hsa _ _)) hw rfl) fun D g H ⟨w, st, R, p⟩ => ⟨w, st, R, Post.ofS p fun x1 st1 _ w1 H1 v l R1 rx q => ⟨w1, st1, R1, Post.ofS q fun y1 st2 _ w2 H2 u l2 R2 ry q2 => by
    refine ⟨v, u, rfl, ?_⟩
    by_cases hh : i < st2.r.length ∧ j < st2.r.length
    · rw [if_pos hh] at q2
      exact q2.next ((R2.setVal hh.1 (RepV.mono l2.h rx)).setVal (i := j) (by simpa using hh.2) ry)
    · rw [if_neg hh] at q2
      exact q2.elim⟩⟩
end
end Ip

/-! Ip12: defs and their calls. -/
namespace Ip
open PySem PySem.Spec PyProof.Rows L2

/-- room, and no guard stands -/
structure RoomG (k : Nat) (A : Around) : Prop where
  room : Room k A
  gd : A.guards = some []
theorem RoomG.deeper {k : Nat} {A : Around} (r : RoomG (k + 1) A) (env : Env) : RoomG k (A.deeper env) := ⟨r.room.deeper env, r.gd⟩
theorem RoomG.mono {j k : Nat} {A : Around} (r : RoomG k A) (h : j ≤ k) : RoomG j A := ⟨r.room.mono h, r.gd⟩
/-- what a def promises where no guard stands -/
structure FnI (P : Program) (w : World) (K : PySem.W.Frag) (mg : PySem.Str → Option Value) (base : Heap) (k : Nat) (f : Addr) (fd : FuncData) (ps : List PySem.Str) (sp : Sp) : Prop where
  len : ∀ vs H Q E, sp vs H Q E → vs.length = ps.length
  run : ∀ (A : Around) (outer : List Env) (s : Shared) (H : Hp) (args : Args) (us : List Value) (vs : List V) (Q : VK) (E : XK), RoomG k A → Env0 P w K mg base A outer s H → BindsTo s fd args (ps.zip us) → Vals vs us → sp vs H Q E →
    codeAny (model P w) A (.call (.ref f) args) (CR (L2.CX P w) outer P w H s Q E) s
def CPost (K : PySem.W.Frag) (w : Wd) (Q : VK) (E : XK) : COut → Prop
  | .ok r h => ∀ w' H' v, Le w w' → Rel K w' ⟨[], h⟩ [] H' → RepR K w' ⟨[], h⟩ [] H' v r → stor r.get = true → Q v H'
  | .exc c fs h => ∀ w' H' d vs, Le w w' → Rel K w' ⟨[], h⟩ [] H' → w'.S d = some (.xd vs) → RepFs K w'.S w'.phi vs fs → E (.ref (gaS K c)) (some d) H'
  | .bad => False
/-- a def of the interpreter's as a promise -/
def spI (K : PySem.W.Frag) (cf : List IV → IHeap → COut) : Sp := fun vs H Q E => ∃ w h xs, Rel K w ⟨[], h⟩ [] H ∧ RepVs K w.S w.phi vs xs ∧ CPost K w Q E (cf xs h)
section
variable {K : PySem.W.Frag} {w : Wd} {st : IS} {σ : L2.St} {H : Hp} {v : V}
theorem Rel.bare (R : Rel K w st σ H) : Rel K w ⟨[], st.h⟩ [] H := R.slots (r := []) (σ' := []) rfl (fun i x z => by cases z) (fun i x z => by cases z)
theorem RepR.bare {r : RV} (h : RepR K w st σ H v r) (hs : stor r.get = true) : RepR K w ⟨[], st.h⟩ [] H v r := by
  cases r with
  | v x => exact RepE.of (RepE.val h hs)
  | fr c =>
    obtain ⟨a, e, lo, co⟩ := h
    exact ⟨a, e, ⟨lo.s, lo.f, lo.p, fun i c z => by cases z⟩, co⟩
end
theorem start_get {N : List PySem.Str} {vs : List V} {i : Nat} {v : V} (h : vs[i]? = some v) : (start N vs)[i]? = some (some v) := by
  have hi := (List.getElem?_eq_some_iff.mp h).1
  unfold L2.start
  rw [List.getElem?_append_left (by simpa using hi), List.getElem?_map, h]; rfl
section
variable {P : Program} {w : World} {K : PySem.W.Frag} {mg : PySem.Str → Option Value} {base : Heap} {G : Prog} {n : Nat}
/-- THE RULE: a def of the text is one of the interpreter's -/
theorem fnI_of {k : Nat} {f : Addr} {name qual : PySem.Str} {params : Arguments} {body : List Stmt} {scope : Scope} {dV kV doc pm cdv ct oc : Value} {an od : Option Addr} {osl : Array (Option Value)} {N ps : List PySem.Str} {fn : String} {d : FnDef}
    (lk : K.lookup f = some ⟨oc, od, .func (PySem.W.fnOf name qual params body scope dV kV doc pm an cdv ct), osl⟩) (hcd : PySem.W.codeIn K cdv qual = true) (S : FnScope N ps scope)
    (hd : G.fn fn = some d) (hnp : d.np = ps.length) (hN : d.names.length = N.length)
    (hbody : ∀ (A : Around) (outer : List Env) (s : Shared) (H : Hp) (E : XK), RoomG k (A.deeper (envOfC qual scope s.heap.objs.size f cdv)) →
      PSsi (cxOf (L2.CX P w) P w K mg base N qual scope f cdv A outer s H E) (fun c d _ H => E c d H) body (exs G (callF G n) d.body)) :
    FnI P w K mg base (k + 1) f (PySem.W.fnOf name qual params body scope dV kV doc pm an cdv ct) ps (spI K (callF G (n + 1) fn)) := by
  have hlen : ∀ vs H Q E, spI K (callF G (n + 1) fn) vs H Q E → vs.length = ps.length := fun vs H Q E ⟨w1, h, xs, R, rv, cp⟩ => by
    by_cases hl : xs.length = d.np
    · rw [rv.length, hl, hnp]
    · have : callF G (n + 1) fn xs h = .bad := by unfold callF; rw [hd]; exact if_neg hl
      rw [this] at cp; exact cp.elim
  refine ⟨hlen, fun A outer s H args us vs Q E hr e0 hb r hsp => ?_⟩
  have hl := hlen _ _ _ _ hsp
  have KX : K.In s.heap := e0.mod.kin.keeps fun b o e => (e0.bs b o e).1
  have lim : s.heap.NoLimit := e0.mod.nolimit.keeps fun b o e => (e0.bs b o e).1
  have hkind : ∀ y ∈ ps.zip us, scope.names.lookup y.1 = some .local ∨ (scope.names.lookup y.1 = some .cell ∧ ((cellsFrom (s.heap.objs.size + 1) scope.names []).lookup y.1).isSome = true) := fun ⟨n, v⟩ hy => by
    rcases S.par n (List.of_mem_zip hy).1 with q | q
    · exact .inl q
    · exact .inr ⟨q, PySem.W.cellsFrom_some _ _ _ (.inl q)⟩
  refine codeAny_call_function hr.room.depth (KX _ _ lk) rfl S.co S.gen rfl (PySem.W.codeRec_of KX hcd) (hb _ _ _ _ ?_)
  refine wpAny_newFunctionEnv_cells S.kind hkind fun env he s1 x => ?_
  subst he
  refine ⟨lim.keeps x.toInCall.keep, codeAny_func ?_⟩
  have I : Inv (cxOf (L2.CX P w) P w K mg base N qual scope f cdv A outer s H E) [] (start N vs) H s1 := inv_start S hr.room.hd e0 hl r x
  obtain ⟨w1, h, xs, R, rv, cp⟩ := hsp
  have hxl : xs.length = d.np := by rw [← rv.length, hl, hnp]
  rw [callF_of hd hxl] at cp
  have R1 : Rel K w1 (startI d xs h) (start N vs) H := by
    refine R.slots (r := (startI d xs h).r) ?_ (fun i y z => ?_) (fun i c z => ?_)
    · unfold startI L2.start
      have hpl : ps.length ≤ N.length := by have := congrArg List.length S.pre; rw [List.length_take] at this; omega
      simp only [List.length_append, List.length_map, List.length_replicate]
      omega
    · have z' : (xs.map Slot.val ++ List.replicate (d.names.length - d.np) Slot.un)[i]? = some (.val y) := z
      by_cases hi : i < xs.length
      · rw [List.getElem?_append_left (by simpa using hi), List.getElem?_map] at z'
        obtain ⟨x1, e1, e2⟩ := Option.map_eq_some_iff.mp z'
        cases e2
        obtain ⟨u, h1, h2⟩ := rv.get e1
        exact ⟨u, start_get h1, h2⟩
      · rw [List.getElem?_append_right (by simpa using hi), List.getElem?_replicate] at z'
        split at z' <;> cases z'
    · have z' : (xs.map Slot.val ++ List.replicate (d.names.length - d.np) Slot.un)[i]? = some (.own c) := z
      by_cases hi : i < xs.length
      · rw [List.getElem?_append_left (by simpa using hi), List.getElem?_map] at z'
        obtain ⟨x1, e1, e2⟩ := Option.map_eq_some_iff.mp z'
        cases e2
      · rw [List.getElem?_append_right (by simpa using hi), List.getElem?_replicate] at z'
        split at z' <;> cases z'
  have sp : SPost K w1 (fun c d _ H => E c d H) { nx := fun _ H' => Q .non H', rt := Q } (exs G (callF G n) d.body (startI d xs h)) := by
    cases ho : exs G (callF G n) d.body (startI d xs h) with
    | next st => rw [ho] at cp; exact fun w2 σ2 H2 l R2 => cp w2 H2 .non l R2.bare (show RepE K w2 [] .non .non from RepE.of .non) rfl
    | ret r st => rw [ho] at cp; exact fun w2 σ2 H2 v l R2 rr hs => cp w2 H2 v l R2.bare (rr.bare hs) hs
    | exc c fs st => rw [ho] at cp; exact fun w2 σ2 H2 d vs l R2 hS hf => cp w2 H2 d vs l R2.bare hS hf
    | brk st => rw [ho] at cp; exact cp.elim
    | cont st => rw [ho] at cp; exact cp.elim
    | bad => rw [ho] at cp; exact cp.elim
  refine wpAny_mono ((hbody A outer s H E (hr.deeper _)).run [] s1 (start N vs) H { nx := fun _ H' => Q .non H', rt := Q } I ⟨w1, startI d xs h, R1, sp⟩) (fun fl s' hs => ?_) fun e s' hs => hs
  have fin : ∀ {σ' : L2.St} {H' : Hp} {v : V} {u : Value}, Inv (cxOf (L2.CX P w) P w K mg base N qual scope f cdv A outer s H E) [] σ' H' s' → RelV v u → Q v H' → L2.CE outer P w H s Q u s' :=
    fun {σ' H' v u} J rv q => ⟨v, H', J.os, J.bare, J.base, J.hok, rv, q⟩
  cases fl with
  | ret u =>
    obtain ⟨v, σ', H', J, rv, q⟩ := hs
    exact fin J rv q
  | next =>
    obtain ⟨σ', H', J, q⟩ := hs
    exact fin (v := V.non) (u := Value.none) J rfl q
  | brk =>
    obtain ⟨_, _, _, q⟩ := hs
    exact False.elim q
  | cont =>
    obtain ⟨_, _, _, q⟩ := hs
    exact False.elim q
end
section
variable {X : Cx} {W : WX} {f : Addr} {fd : FuncData} {ps : List PySem.Str} {k : Nat} {cf : List IV → IHeap → COut} {x : PySem.Str} {p pos : Pos} {es : List Expr} {fes : IS → Out (List IV)}
theorem runI {pins : List (Addr × Obj)} {σ : L2.St} {H : Hp} {s : Shared} {Q : VK} {us : List Value} {vs : List V} {sp : Sp} (F : FnI X.prog X.w X.K X.mg X.base k f fd ps sp) (hr : RoomG k X.A) (hb : Binds X.K fd ps []) (tk : Takes X W)
    (I : Inv X pins σ H s) (r : Vals vs us) (h : sp vs H Q (WE W σ)) : wpAny (model X.prog X.w) X.A (call (.ref f) us) (EP X pins σ Q) X.xe s := by
  have hl : us.length = ps.length := by rw [← r.length]; exact F.len _ _ _ _ h
  have b := hb s us I.kIn (by rw [List.append_nil]; exact hl)
  rw [List.append_nil] at b
  refine wpAny_call (codeAny_mono (F.run X.A X.stack s H ⟨us, []⟩ us vs Q (WE W σ) hr I.env0 b r h) fun r s' hq => ?_)
  cases r with
  | error e => exact passAt tk σ pins H s e s' I hq
  | ok fl =>
    cases fl with
    | ret u => exact I.after hq
    | next => exact False.elim hq
    | brk => exact False.elim hq
    | cont => exact False.elim hq
/-- the promise at the call, from ours -/
theorem call_imp {K : PySem.W.Frag} {w : Wd} {st : IS} {g : L2.St} {H : Hp} {Q : VK} {vs : List V} {xs : List IV} (R : Rel K w st g H) (rv : RepVs K w.S w.phi vs xs) (q : Post K (rR K g) w W g Q (callO st (cf xs st.h))) : spI K cf vs H Q (WE W g) := by
  refine ⟨inner w st g H, st.h, xs, R.into [] [] (fun i x z => by cases z) (fun i c z => by cases z) rfl, rv, ?_⟩
  cases ho : cf xs st.h with
  | ok r h =>
    rw [ho] at q
    intro w' H' v l R' rr hs
    obtain ⟨R2, l2, lo2⟩ := R.outer l R'
    refine q _ H' v l2 R2 ?_
    cases r with
    | v x => exact RepE.of (RepE.val rr hs)
    | fr c =>
      obtain ⟨a, e, lo, co⟩ := rr
      exact ⟨a, e, lo2 a lo, co⟩
  | exc c fs h =>
    rw [ho] at q
    intro w' H' d vs l R' hS hf
    obtain ⟨R2, l2, lo2⟩ := R.outer l R'
    exact q _ H' d vs l2 R2 hS hf
  | bad => rw [ho] at q; exact q.elim
theorem i_call0 (F : FnI X.prog X.w X.K X.mg X.base k f fd ps (spI X.K cf)) (hr : RoomG k X.A) (hb : Binds X.K fd ps []) (tk : Takes X W) (hg : Gl X x) (hm : X.mg x = some (.ref f)) (hk : PySem.W.keepIn X.K (.ref f) = true)
    (hdb : (x == ("__debug__" : PySem.Str)) = false) : PEr X W (.Call (.Name x p) [] [] pos) fun st => (Out.ok [] st).bind fun xs st => callO st (cf xs st.h) := by
  refine ⟨fun pins s σ H Q I ⟨w, st, R, q⟩ => ?_⟩
  refine wpAny_Call_Name_kw (ld_glob I hg hm ?_ hdb)
  exact PySem.W.callWith_K0 I.kIn hk (runI (us := []) F hr hb tk I .nil (call_imp R .nil q))
theorem i_call {e : Expr} (F : FnI X.prog X.w X.K X.mg X.base k f fd ps (spI X.K cf)) (hr : RoomG k X.A) (hb : Binds X.K fd ps []) (tk : Takes X W) (hg : Gl X x) (hm : X.mg x = some (.ref f)) (hk : PySem.W.keepIn X.K (.ref f) = true)
    (hdb : (x == ("__debug__" : PySem.Str)) = false) (ha : PAi X W (e :: es) fes) (hs : (e :: es).all noStar = true) : PEr X W (.Call (.Name x p) (e :: es) [] pos) fun st => (fes st).bind fun xs st => callO st (cf xs st.h) := by
  obtain ⟨h1, h2⟩ := Bool.and_eq_true_iff.mp (show (noStar e && es.all noStar) = true from hs)
  refine ⟨fun pins s σ H Q I ⟨w, st, R, q⟩ => ?_⟩
  refine wpAny_Call_Name_kw (ld_glob I hg hm ?_ hdb)
  refine PySem.W.callWith_K (h₀ := X.base) I.ok.mod.kin hk (thn (ha.run pos pins s σ H (fun vs H1 => spI X.K cf vs H1 Q (WE W σ)) I ⟨w, st, R, ?_⟩) fun us s1 ⟨vs, H1, I1, r, q⟩ => ⟨I1.kIn, runI F hr hb tk I1 r q⟩) (star1 h1 _ _) (stars_any h2 _ _)
  exact Post.bind q fun xs st1 _ w1 H1 vs l R1 rv q1 => call_imp R1 rv q1
end
end Ip

/-! Ip12b: attributes, methods, instances. -/
namespace Ip
open PySem PySem.Spec PyProof.Rows L2
theorem toNat_inj {a b : Char} (h : a.toNat = b.toNat) : a = b := Char.toNat_inj.mp h
theorem sO_inj {a b : String} (h : sO a = sO b) : a = b := by
  unfold sO at h
  rw [PySem.Str.ofString_eq_toList, PySem.Str.ofString_eq_toList] at h
  have h2 : (a.toList.map Char.toNat).toArray = (b.toList.map Char.toNat).toArray := by injection h
  have h3 : a.toList.map Char.toNat = b.toList.map Char.toNat := by simpa using h2
  have h4 : a.toList = b.toList := (List.map_inj_right (fun _ _ => toNat_inj)).mp h3
  exact String.toList_inj.mp h4
section
variable {K : PySem.W.Frag} {S : Hp} {phi : List Addr} {w : Wd} {st st' : IS} {g : L2.St} {H : Hp} {v : V} {x y c : IV}
theorem RepFs.get {f : String} {y : IV} : ∀ {vs : List (PySem.Str × V)} {xs : List (String × IV)}, RepFs K S phi vs xs → xs.lookup f = some y → ∃ v, vs.lookup (sO f) = some v ∧ RepV K S phi v y
  | _, _, .nil, e => by cases e
  | _, _, @RepFs.cons _ _ _ k v x vs xs h r, e => by
    rw [List.lookup_cons] at e ⊢
    by_cases hk : f = k
    · subst hk
      simp only [beq_self_eq_true] at e ⊢
      cases e
      exact ⟨v, rfl, h⟩
    · have h1 : (f == k) = false := by simpa using hk
      have h2 : (sO f == sO k) = false := by simpa using fun z => hk (sO_inj z)
      rw [h1] at e
      rw [h2]
      exact RepFs.get r e
theorem RepFs.no {f : String} : ∀ {vs : List (PySem.Str × V)} {xs : List (String × IV)}, RepFs K S phi vs xs → xs.lookup f = none → vs.lookup (sO f) = none
  | _, _, .nil, e => rfl
  | _, _, @RepFs.cons _ _ _ k v x vs xs h r, e => by
    rw [List.lookup_cons] at e ⊢
    by_cases hk : f = k
    · subst hk
      simp only [beq_self_eq_true] at e
      cases e
    · have h1 : (f == k) = false := by simpa using hk
      have h2 : (sO f == sO k) = false := by simpa using fun z => hk (sO_inj z)
      rw [h1] at e
      rw [h2]
      exact RepFs.no r e
theorem RepFs.put {f : String} (h : RepV K S phi v y) : ∀ {vs : List (PySem.Str × V)} {xs : List (String × IV)}, RepFs K S phi vs xs → RepFs K S phi (putF (sO f) v vs) (putA f y xs)
  | _, _, .nil => .cons h .nil
  | _, _, @RepFs.cons _ _ _ k u x vs xs h0 r => by
    show RepFs K S phi (if sO k = sO f then _ else _) (if k = f then _ else _)
    by_cases hk : k = f
    · subst hk
      rw [if_pos rfl, if_pos rfl]
      exact .cons h r
    · rw [if_neg (fun z => hk (sO_inj z)), if_neg hk]
      exact .cons h0 (RepFs.put h r)
theorem RepFs.length : ∀ {vs : List (PySem.Str × V)} {xs : List (String × IV)}, RepFs K S phi vs xs → vs.length = xs.length
  | _, _, .nil => rfl
  | _, _, .cons _ r => by rw [List.length_cons, List.length_cons, RepFs.length r]
end
section
variable {X : Cx} {W : WX} {e o : Expr} {f0 fo : IS → Out RV} {f m : String} {pos apos : Pos} {G : Prog}
theorem i_attr (he : PEr X W e f0) (hb : attributeBase e (sO f) X.env (eval e X.env) = eval e X.env) (F : ∀ c, G.fld c f = true → Cls X.K (gaS X.K c) ∧ NoAttr X.K (gaS X.K c) (sO f)) :
    PEr X W (.Attribute e (sO f) pos) fun st => (vOf (f0 st)).bind fun x st => Out.of st ((attrS G st f x).map .v) :=
  PE.imp (pe_fld (toV he) hb) fun g H Q ⟨w, st, R, p⟩ => by
    refine ⟨w, st, R, Post.bind p fun x st1 _ w1 H1 v l1 R1 r1 q1 => ?_⟩
    obtain ⟨r, e1, q⟩ := q1.of
    obtain ⟨y, e2, e3⟩ := Option.map_eq_some_iff.mp e1
    subst e3
    obtain ⟨c, e4, e5⟩ := Option.bind_eq_some_iff.mp e2
    cases c with
    | obj c fs =>
      have e5' : (if G.fld c f = true then fs.lookup f else none) = some y := e5
      split at e5'
      · rename_i hf
        obtain ⟨a, dx, vs, rfl, h1, h2⟩ := R1.cont r1 e4
        obtain ⟨v, h3, h4⟩ := h2.get e5'
        obtain ⟨c1, c2⟩ := F c hf
        exact ⟨a, _, dx, vs, v, rfl, h1, c1, c2, h3, q.okV R1 h4⟩
      · cases e5'
    | _ => cases e5
theorem s_asgA {f1 : IS → Out RV} {tpos : Pos} {e : Expr} (ho : PEr X W o fo) (he : PEr X W e f1) (hs : swapsWith e (some (.Attribute o (sO f) tpos)) pos.line X.env = pure false) (F : ∀ c, G.fld c f = true → Cls X.K (gaS X.K c) ∧ NoAttr X.K (gaS X.K c) (sO f)) :
    PSi X W (.Assign [.Attribute o (sO f) tpos] e pos) fun st => (sOf (f1 st)).toS fun y st => (vOf (fo st)).toS fun o st => optS (setAS G st o f y) :=
  PS.imp (ps_fld (toV ho) (toS he) hs) fun D g H ⟨w, st, R, p⟩ => ⟨w, st, R, Post.ofS p fun y st1 _ w1 H1 v l1 R1 ry q1 => ⟨w1, st1, R1, Post.ofS q1 fun x st2 _ w2 H2 u l2 R2 rx q2 => by
    obtain ⟨st3, e1, q⟩ := q2.opt
    obtain ⟨c, e4, e5⟩ := Option.bind_eq_some_iff.mp e1
    cases c with
    | obj c fs =>
      have e5' : (if (G.fld c f && decide (fs.length < 900)) = true then setC st2 x (.obj c (putA f y fs)) else none) = some st3 := e5
      split at e5'
      · rename_i hf
        obtain ⟨hf, hl⟩ := Bool.and_eq_true_iff.mp hf
        have hl := of_decide_eq_true hl
        obtain ⟨a, ev, ⟨dx, vs, h1, h2⟩, nx⟩ := R2.con rx e5' e4
        subst ev
        obtain ⟨c1, c2⟩ := F c hf
        refine ⟨a, _, dx, vs, rfl, h1, c1, c2, by rw [h2.length]; omega, ?_⟩
        exact q.next (nx _ ⟨dx, _, upd_same, RepFs.put (RepV.mono l2.h ry) h2⟩)
      · cases e5'
    | _ => cases e5⟩⟩
variable {k n : Nat} {es : List Expr} {e1 : Expr} {fes : IS → Out (List IV)}
/-- what is known of a method -/
def MtK (X : Cx) (G : Prog) (n k : Nat) (m : String) : Prop := ∀ c, G.mtd c m = true → ∃ fa fd ps, Cls X.K (gaS X.K c) ∧ Meth X.K (gaS X.K c) (sO m) fa ∧ FnI X.prog X.w X.K X.mg X.base k fa fd ps (spI X.K (callF G n (c ++ "." ++ m))) ∧ Binds X.K fd ps []
/-- the receiver is found -/
theorem recv_ok {σ : L2.St} {H : Hp} {Q : VK} {w : Wd} {st : IS} {k2 : String → IV → IS → Out RV} (R : Rel X.K w st σ H) (p : Post X.K (rR X.K σ) w W σ Q ((sOf (fo st)).bind fun x st => (Out.of st (methS G st m x)).bind fun f st => k2 f x st)) :
    TI X.K W rS (fun st => sOf (fo st)) σ H fun x H1 => ∃ w1 st1 y c a dx vs, Rel X.K w1 st1 σ H1 ∧ x = .ref a ∧ RepV X.K w1.S w1.phi x y ∧ H1 a = some (.ins (gaS X.K c) dx vs) ∧ vs.lookup (sO m) = none ∧ G.mtd c m = true ∧ Post X.K (rR X.K σ) w1 W σ Q (k2 (c ++ "." ++ m) y st1) := by
  refine ⟨w, st, R, Post.bind p fun y st1 _ w1 H1 v l1 R1 r1 q1 => ?_⟩
  obtain ⟨f, e1, q⟩ := q1.ofB
  obtain ⟨c, e4, e5⟩ := Option.bind_eq_some_iff.mp e1
  cases c with
  | obj c fs =>
    have e5' : (if (G.mtd c m && (fs.lookup m).isNone) = true then some (c ++ "." ++ m) else none) = some f := e5
    split at e5'
    · rename_i hf
      obtain ⟨hf, hl⟩ := Bool.and_eq_true_iff.mp hf
      cases e5'
      obtain ⟨a, dx, vs, rfl, h1, h2⟩ := R1.cont (RepE.of r1) e4
      exact ⟨w1, st1, y, c, a, dx, vs, R1, rfl, r1, h1, h2.no (Option.isNone_iff_eq_none.mp hl), hf, q⟩
    · cases e5'
  | _ => cases e5
theorem i_meth0 {pl : Sem Bool} (ho : PEr X W o fo) (F : MtK X G n k m) (hr : RoomG k X.A) (tk : Takes X W)
    (ht : eval (.Call (.Attribute o (sO m) apos) [] [] pos) X.env = (do
      let ov ← eval o X.env
      standAt apos.atName
      let (f, first) ← holding [ov] (getMethod ov (sO m) pl)
      callWith pos f first (backTo pos (starEach [] X.env)) (backToKw pos (keywordEach [] X.env)))) :
    PEr X W (.Call (.Attribute o (sO m) apos) [] [] pos) fun st => (sOf (fo st)).bind fun x st => (Out.of st (methS G st m x)).bind fun f st => (Out.ok [] st).bind fun xs st => callO st (callF G n f (x :: xs) st.h) := by
  refine ⟨fun pins s σ H Q I ⟨w, st, R, p⟩ => ?_⟩
  refine PySem.W.methodCall_KW (pl := pl) (thn ((toS ho).run pins s σ H _ I (recv_ok (k2 := fun f x st => (Out.ok [] st).bind fun xs st => callO st (callF G n f (x :: xs) st.h)) R p)) fun u s1 ⟨x, H1, I1, rx, w1, st1, y, c, a, dx, vs, R1, ex, ry, ea, hl, hf, q⟩ => ?_) ht
  subst ex
  obtain rfl : u = Value.ref a := rx
  obtain ⟨fa, fd, ps, c1, c2, F1, hb⟩ := F c hf
  refine getmeth_ok I1 ea c1 c2 hl ?_
  exact PySem.W.callWith_K0 (first := [.ref a]) I1.kIn c2.kp (runI (us := [.ref a]) (vs := [.ref a]) F1 hr hb tk I1 (.cons rfl .nil) (call_imp R1 (.cons ry .nil) q))
theorem i_meth {pl : Sem Bool} (ho : PEr X W o fo) (F : MtK X G n k m) (hr : RoomG k X.A) (tk : Takes X W) (ha : PAi X W (e1 :: es) fes) (hs : (e1 :: es).all noStar = true)
    (ht : eval (.Call (.Attribute o (sO m) apos) (e1 :: es) [] pos) X.env = (do
      let ov ← eval o X.env
      standAt apos.atName
      let (f, first) ← holding [ov] (getMethod ov (sO m) pl)
      callWith pos f first (backTo pos (starEach (e1 :: es) X.env)) (backToKw pos (keywordEach [] X.env)))) :
    PEr X W (.Call (.Attribute o (sO m) apos) (e1 :: es) [] pos) fun st => (sOf (fo st)).bind fun x st => (Out.of st (methS G st m x)).bind fun f st => (fes st).bind fun xs st => callO st (callF G n f (x :: xs) st.h) := by
  obtain ⟨h1, h2⟩ := Bool.and_eq_true_iff.mp (show (noStar e1 && es.all noStar) = true from hs)
  refine ⟨fun pins s σ H Q I ⟨w, st, R, p⟩ => ?_⟩
  refine PySem.W.methodCall_KW (pl := pl) (thn ((toS ho).run pins s σ H _ I (recv_ok (k2 := fun f x st => (fes st).bind fun xs st => callO st (callF G n f (x :: xs) st.h)) R p)) fun u s1 ⟨x, H1, I1, rx, w1, st1, y, c, a, dx, vs, R1, ex, ry, ea, hl, hf, q⟩ => ?_) ht
  subst ex
  obtain rfl : u = Value.ref a := rx
  obtain ⟨fa, fd, ps, c1, c2, F1, hb⟩ := F c hf
  refine getmeth_ok I1 ea c1 c2 hl ?_
  refine PySem.W.callWith_K (first := [.ref a]) (h₀ := X.base) I1.ok.mod.kin c2.kp (thn (ha.run pos pins s1 σ H1 (fun vs H2 => spI X.K (callF G n (c ++ "." ++ m)) (.ref a :: vs) H2 Q (WE W σ)) I1 ⟨w1, st1, R1, ?_⟩) fun us s2 ⟨vs, H2, I2, r, q2⟩ => ⟨I2.kIn, ?_⟩) (star1 h1 _ _) (stars_any h2 _ _)
  · exact Post.bind q fun xs st2 _ w2 H2 vs l2 R2 rv q2 => call_imp R2 (.cons (RepV.mono l2.h ry) rv) q2
  · exact runI (us := .ref a :: us) (vs := .ref a :: vs) F1 hr hb tk I2 (.cons rfl r) q2
end
end Ip

/-! Ip12c: calls by names and defaults; instances. -/
namespace Ip
open PySem PySem.Spec PyProof.Rows L2
/-- how a call binds: n values by position, names ks, arranged by o -/
structure BndA (K : PySem.W.Frag) (fd : FuncData) (ps : List PySem.Str) (n : Nat) (ks : List PySem.Str) (o : List Ar) : Prop where
  run : ∀ (s : Shared) (us ws : List Value) (vs zs : List V) (S : Hp) (phi : List Addr) (xs xs' : List IV), K.In s.heap → us.length = n → ws.length = ks.length → Vals vs us → Vals zs ws → RepVs K S phi (vs ++ zs) xs → arr xs o = some xs' →
    ∃ ys vs', BindsTo s fd ⟨us, ks.zip ws⟩ (ps.zip ys) ∧ Vals vs' ys ∧ RepVs K S phi vs' xs'
theorem RoomG.make {k : Nat} {A : Around} (r : RoomG (k + 1) A) (C : Addr) (us : List Value) (kw : List (PySem.Str × Value)) : RoomG k (A.under (.builtin "type.__call__" ⟨.ref C :: us, kw⟩)) := ⟨r.room.make C us kw, r.gd⟩
section
variable {X : Cx} {W : WX} {f : Addr} {fd : FuncData} {ps ks : List PySem.Str} {k n : Nat} {o : List Ar} {cf : List IV → IHeap → COut} {x : PySem.Str} {p pos : Pos} {es : List Expr} {fes : IS → Out (List IV)}
  {pins : List (Addr × Obj)} {σ : L2.St} {H : Hp} {s : Shared} {Q : VK} {us ws : List Value} {vs zs : List V} {xs : List IV} {w : Wd} {st : IS}
theorem runB (F : FnI X.prog X.w X.K X.mg X.base k f fd ps (spI X.K cf)) (hr : RoomG k X.A) (B : BndA X.K fd ps n ks o) (tk : Takes X W) (I : L2.Inv X pins σ H s) (r : Vals vs us) (rz : Vals zs ws) (l1 : us.length = n) (l2 : ws.length = ks.length)
    (R : Rel X.K w st σ H) (rv : RepVs X.K w.S w.phi (vs ++ zs) xs) (q : Post X.K (rR X.K σ) w W σ Q ((Out.of st (arr xs o)).bind fun ys st => callO st (cf ys st.h))) : wpAny (model X.prog X.w) X.A (call (.ref f) us (ks.zip ws)) (EP X pins σ Q) X.xe s := by
  obtain ⟨xs', e1, q1⟩ := q.ofB
  obtain ⟨ys, vs', b, r', rv'⟩ := B.run s us ws vs zs _ _ xs xs' I.kIn l1 l2 r rz rv e1
  refine wpAny_call (codeAny_mono (F.run X.A X.stack s H ⟨us, ks.zip ws⟩ ys vs' Q (WE W σ) hr I.env0 b r' (call_imp R rv' q1)) fun r s' hq => ?_)
  cases r with
  | error e => exact passAt tk σ pins H s e s' I hq
  | ok fl =>
    cases fl with
    | ret u => exact I.after hq
    | next => exact False.elim hq
    | brk => exact False.elim hq
    | cont => exact False.elim hq
/-- an instance: laid, given a cell, and what its __init__ makes of it -/
theorem runMk {keep : Bool} {c : String} {fI : Addr} (M : Mk X.K (gaS X.K c) fI) (F : FnI X.prog X.w X.K X.mg X.base k fI fd ps (spI X.K cf)) (hr : RoomG (k + 1) X.A) (B : BndA X.K fd ps (n + 1) ks o) (tk : Takes X W) (I : L2.Inv X pins σ H s) (r : Vals vs us) (rz : Vals zs ws) (l1 : us.length = n) (l2 : ws.length = ks.length)
    (R : Rel X.K w st σ H) (rv : RepVs X.K w.S w.phi (vs ++ zs) xs) (q : Post X.K (rR X.K σ) w W σ Q ((Out.of st (arr (.ref st.h.length :: xs) o)).bind fun ys st => mkO keep st (cf ys (st.h ++ [some (.obj c [])])))) :
    wpAny (model X.prog X.w) X.A (call (.ref (gaS X.K c)) us (ks.zip ws)) (EP X pins σ Q) X.xe s := by
  obtain ⟨xs', e1, q1⟩ := q.ofB
  -- the instance and its dict
  obtain ⟨a, ea⟩ : ∃ a, a = s.heap.objs.size + 1 := ⟨_, rfl⟩
  obtain ⟨dx, ed⟩ : ∃ d, d = s.heap.objs.size := ⟨_, rfl⟩
  have na : H a = none := I.hok.fresh (by rw [ea]; exact Nat.le_succ _)
  have nd : H dx = none := I.hok.fresh (by rw [ed]; exact Nat.le_refl _)
  have ne : a ≠ dx := by rw [ea, ed]; exact Nat.succ_ne_self _
  have I2 := Inv.made (C := gaS X.K c) I
  obtain ⟨R1, _⟩ := R.laid nd (.own a)
  have na1 : upd H dx (.own a) a = none := by rw [upd_ne ne]; exact na
  obtain ⟨R2, lo⟩ := R1.laid na1 (.ins (gaS X.K c) dx [])
  have con : Con X.K w.S w.phi (upd (upd H dx (.own a)) a (.ins (gaS X.K c) dx [])) a (.obj c []) := ⟨dx, [], upd_same, .nil⟩
  obtain ⟨R3, le3, rc⟩ := R2.cell lo con
  have r1 : Vals (V.ref a :: vs) (Value.ref a :: us) := .cons rfl r
  obtain ⟨ys, vs', b, r', rv'⟩ := B.run { s with heap := _, toks := _ } (Value.ref a :: us) ws (V.ref a :: vs) zs w.S (w.phi ++ [a]) (.ref st.h.length :: xs) xs' I2.kIn (by rw [List.length_cons, l1]) l2 r1 rz (.cons rc (RepVs.mono le3.h rv)) e1
  have q2 : Post X.K (rR X.K σ) { w with phi := w.phi ++ [a] } W σ (fun v H2 => v = .non ∧ Q (.ref a) H2) (callO { st with h := st.h ++ [some (.obj c [])] } (cf xs' (st.h ++ [some (.obj c [])]))) := by
    cases ho : cf xs' (st.h ++ [some (.obj c [])]) with
    | bad => rw [ho] at q1; exact q1.elim
    | exc c2 fs h =>
      rw [ho] at q1
      exact fun w' H' d vs l R' hS hf => q1 w' H' d vs (le3.trans l) R' hS hf
    | ok r h =>
      rw [ho] at q1
      cases r with
      | fr y => exact q1.elim
      | v y =>
        cases y with
        | non =>
          intro w' H' v l R' rr
          have q3 : Post X.K (rR X.K σ) w W σ Q (madeO keep st.h.length { st with h := h } (h[st.h.length]?).join) := q1
          refine ⟨?_, ?_⟩
          · have rr' : RepV X.K w'.S w'.phi v .non := RepE.val (g := σ) rr rfl
            cases rr'; rfl
          · cases hj : (h[st.h.length]?).join with
            | none => rw [hj] at q3; exact q3.elim
            | some y =>
              rw [hj] at q3
              have hn : h[st.h.length]? = some (some y) := by
                cases h0 : h[st.h.length]? with
                | none => rw [h0] at hj; cases hj
                | some z => rw [h0] at hj; exact congrArg some hj
              have hp : w'.phi[st.h.length]? = some a := l.h.p _ _ (by show (w.phi ++ [a])[st.h.length]? = some a; rw [← R.len]; simp)
              cases keep with
              | true => exact (Post.le (le3.trans l) q3).okV R' (.ref hp)
              | false =>
                obtain ⟨R4, lo4, co4⟩ := R'.take (n := st.h.length) hn hp
                exact (Post.le (le3.trans l) q3).okF R4 lo4 co4
        | _ => exact q1.elim
  subst ea ed
  refine wpAny_call (make_map (f := fI) I.kIn M.makes M.init (beq_iff_eq.mp M.fn) (codeAny_mono (F.run _ X.stack _ _ ⟨Value.ref (s.heap.objs.size + 1) :: us, ks.zip ws⟩ ys vs' _ (WE W σ) (hr.make (gaS X.K c) us (ks.zip ws))
    (I2.env0.make (gaS X.K c) us (ks.zip ws)) b r' (call_imp R3 rv' q2)) fun r s' hq' => ?_))
  cases r with
  | error e => exact passAt tk σ pins _ _ e s' I2 hq'
  | ok fl =>
    cases fl with
    | ret u =>
      obtain ⟨v, H', I3, rv, ev, q3⟩ := I2.after hq'
      subst ev
      exact ⟨rv, ⟨V.ref (s.heap.objs.size + 1), H', I3, rfl, q3⟩⟩
    | next => exact False.elim hq'
    | brk => exact False.elim hq'
    | cont => exact False.elim hq'
end
/-- the values of the keywords -/
abbrev PKi (X : Cx) (W : WX) (kws : List Keyword) (f : IS → Out (List IV)) : Prop := PK X kws (Ip.TI X.K W rA f)
theorem PK.imp {X : Cx} {kws : List Keyword} {t t' : TA} (h : PK X kws t) (k : ∀ g H Q, t' g H Q → t g H Q) : PK X kws t' := ⟨fun pos pins s σ H Q I h' => h.run pos pins s σ H Q I (k σ H Q h')⟩
section
variable {X : Cx} {W : WX}
theorem pk_nilI : PKi X W [] fun st => .ok [] st := PK.imp pk_nil fun g H Q ⟨w, st, R, p⟩ => p.ok R (show RepVs _ _ _ [] [] from .nil)
theorem pk_consI {e : Expr} {nm : Option PySem.Str} {kpos : Pos} {kws : List Keyword} {f : IS → Out RV} {k : IS → Out (List IV)} (h : PEs X W e fun st => sOf (f st)) (r : PKi X W kws k) :
    PKi X W (⟨nm, e, kpos⟩ :: kws) fun st => (sOf (f st)).bind fun x st => (k st).bind fun xs st => .ok (x :: xs) st := PK.imp (pk_cons h r) fun g H Q ⟨w, st, R, p⟩ => by
  refine ⟨w, st, R, Post.bind p fun x st1 _ w1 H1 v l1 R1 r1 q1 => ⟨w1, st1, R1, Post.bind q1 fun xs st2 _ w2 H2 vs l2 R2 r2 q2 => ?_⟩⟩
  exact q2.ok R2 (show RepVs _ _ _ _ _ from .cons (RepV.mono l2.h r1) r2)
def kwIs (ks : List PySem.Str) (kws : List Keyword) : Prop := ∀ (pos : Pos) (env : Env), (backToKw pos (keywordEach kws env)).all (·.1.isSome) = true ∧ (backToKw pos (keywordEach kws env)).filterMap (·.1) = ks
/-- the values of a call, from the left -/
theorem args_run {es : List Expr} {kws : List Keyword} {ks : List PySem.Str} {fes fks : IS → Out (List IV)} {pins : List (Addr × Obj)} {σ : L2.St} {H : Hp} {s : Shared} {w : Wd} {st : IS} {α : Type} {rel : Wd → IS → Hp → V → α → Prop} {Q : VK} {k2 : List IV → List IV → IS → Out α} {fv : Value} {first : List Value} {pos : Pos} {QQ : Value → Shared → Prop}
    (I : L2.Inv X pins σ H s) (R : Rel X.K w st σ H) (ha : PAi X W es fes) (hk : PKi X W kws fks) (hs : es.all noStar = true) (he0 : es = [] → fes = fun st => .ok [] st) (kw : kwIs ks kws) (kp : PySem.W.keepIn X.K fv = true)
    (p : Post X.K rel w W σ Q ((fes st).bind fun xs st => (fks st).bind fun zs st => k2 xs zs st))
    (go : ∀ s2 H2 us ws vs zs xs ys w2 st1 st2 st0, L2.Inv X pins σ H2 s2 → Vals vs us → Vals zs ws → Rel X.K w2 st2 σ H2 → Le w w2 → RepVs X.K w2.S w2.phi vs xs → RepVs X.K w2.S w2.phi zs ys → fes st = .ok xs st1 → fks st0 = .ok ys st2 → Post X.K rel w2 W σ Q (k2 xs ys st2) →
      wpAny (model X.prog X.w) X.A (call fv (first ++ us) (ks.zip ws)) QQ X.xe s2) :
    wpAny (model X.prog X.w) X.A (callWith pos fv first (backTo pos (starEach es X.env)) (backToKw pos (keywordEach kws X.env))) QQ X.xe s := by
  obtain ⟨kw1, kw2⟩ := kw pos X.env
  have plain : ((backTo pos (starEach es X.env)).any (·.1) || (backToKw pos (keywordEach kws X.env)).any (·.1.isNone)) = false := by
    rw [stars_any hs]
    have : ∀ l : List (Option PySem.Str × Sem Value), l.all (·.1.isSome) = true → l.any (·.1.isNone) = false := fun l h => by
      induction l with
      | nil => rfl
      | cons a l ih =>
        rw [List.all_cons, Bool.and_eq_true] at h
        rw [List.any_cons, ih h.2]
        obtain ⟨a1, a2⟩ := a
        cases a1 with
        | none => cases h.1
        | some z => rfl
    rw [this _ kw1]; rfl
  have after : ∀ (s1 : Shared) (H1 : Hp) (us : List Value) (vs : List V) (xs : List IV) (w1 : Wd) (st1 : IS), L2.Inv X pins σ H1 s1 → Vals vs us → Rel X.K w1 st1 σ H1 → Le w w1 → RepVs X.K w1.S w1.phi vs xs → fes st = .ok xs st1 → Post X.K rel w1 W σ Q ((fks st1).bind fun zs st => k2 xs zs st) →
      wpAny (model X.prog X.w) X.A (evalAll ((backToKw pos (keywordEach kws X.env)).map (·.2))) (fun ws s2 => X.K.In s2.heap ∧ wpAny (model X.prog X.w) X.A (call fv (first ++ us) (((backToKw pos (keywordEach kws X.env)).filterMap (·.1)).zip ws)) QQ X.xe s2) X.xe s1 := by
    intro s1 H1 us vs xs w1 st1 I1 r R1 l1 rv e1 q1
    refine thn (hk.run pos pins s1 σ H1 (fun zs H2 => ∃ ys w2 st2, Rel X.K w2 st2 σ H2 ∧ Le w1 w2 ∧ RepVs X.K w2.S w2.phi zs ys ∧ fks st1 = .ok ys st2 ∧ Post X.K rel w2 W σ Q (k2 xs ys st2)) I1 ⟨w1, st1, R1, ?_⟩) fun ws s2 ⟨zs, H2, I2, rz, ys, w2, st2, R2, l2, ry, e2, q2⟩ => ⟨I2.kIn, ?_⟩
    · exact Post.bind q1 fun ys st2 e2 w2 H2 zs l2 R2 ry q2 => ⟨ys, w2, st2, R2, l2, ry, e2.symm, q2⟩
    · rw [kw2]
      exact go s2 H2 us ws vs zs xs ys w2 st1 st2 st1 I2 r rz R2 (l1.trans l2) (RepVs.mono l2.h rv) ry e1 e2 q2
  cases es with
  | nil =>
    have ef := he0 rfl
    subst ef
    exact PySem.W.callWith_KW0 (h₀ := X.base) I.ok.mod.kin kp kw1 (after s H [] [] [] w st I .nil R Le.refl .nil rfl p) plain
  | cons e es =>
    obtain ⟨h1, h2⟩ := Bool.and_eq_true_iff.mp (show (noStar e && es.all noStar) = true from hs)
    refine PySem.W.callWith_KW (h₀ := X.base) I.ok.mod.kin kp kw1 (thn (ha.run pos pins s σ H (fun vs H1 => ∃ xs w1 st1, Rel X.K w1 st1 σ H1 ∧ Le w w1 ∧ RepVs X.K w1.S w1.phi vs xs ∧ fes st = .ok xs st1 ∧ Post X.K rel w1 W σ Q ((fks st1).bind fun zs st => k2 xs zs st)) I ⟨w, st, R, ?_⟩) fun us s1 ⟨vs, H1, I1, r, xs, w1, st1, R1, l1, rv, e1, q1⟩ => after s1 H1 us vs xs w1 st1 I1 r R1 l1 rv e1 q1) plain (star1 h1 _ _)
    exact Post.bind p fun xs st1 e1 w1 H1 vs l1 R1 rv q1 => ⟨xs, w1, st1, R1, l1, rv, e1.symm, q1⟩
end
section
variable {X : Cx} {W : WX} {f : Addr} {fd : FuncData} {ps ks : List PySem.Str} {k n : Nat} {o : List Ar} {cf : List IV → IHeap → COut} {x : PySem.Str} {p pos apos : Pos} {es : List Expr} {kws : List Keyword} {fes fks : IS → Out (List IV)} {G : Prog}
/-- f(e, .., k = v, ..) -/
theorem i_callB (F : FnI X.prog X.w X.K X.mg X.base k f fd ps (spI X.K cf)) (hr : RoomG k X.A) (B : BndA X.K fd ps n ks o) (tk : Takes X W) (hg : Gl X x) (hm : X.mg x = some (.ref f)) (kp : PySem.W.keepIn X.K (.ref f) = true) (hdb : (x == ("__debug__" : PySem.Str)) = false)
    (ha : PAi X W es fes) (hkw : PKi X W kws fks) (hs : es.all noStar = true) (he0 : es = [] → fes = fun st => .ok [] st) (kw : kwIs ks kws) (ln : ∀ st xs st', fes st = .ok xs st' → xs.length = n) (lk : ∀ st ys st', fks st = .ok ys st' → ys.length = ks.length) :
    PEr X W (.Call (.Name x p) es kws pos) fun st => (fes st).bind fun xs st => (fks st).bind fun zs st => (Out.of st (arr (xs ++ zs) o)).bind fun ys st => callO st (cf ys st.h) := by
  refine ⟨fun pins s σ H Q I ⟨w, st, R, q⟩ => ?_⟩
  refine wpAny_Call_Name_kw (ld_glob I hg hm ?_ hdb)
  refine args_run (first := []) I R ha hkw hs he0 kw kp q fun s2 H2 us ws vs zs xs ys w2 st1 st2 st0 I2 r rz R2 l2 rv rw e1 e2 q2 => ?_
  exact runB (us := us) F hr B tk I2 r rz (by rw [← r.length, rv.length, ln _ _ _ e1]) (by rw [← rz.length, rw.length, lk _ _ _ e2]) R2 (rv.append rw) q2
/-- C(e, .., k = v, ..) -/
theorem i_mk {keep : Bool} {c : String} {fI : Addr} (M : Mk X.K (gaS X.K c) fI) (F : FnI X.prog X.w X.K X.mg X.base k fI fd ps (spI X.K cf)) (hr : RoomG (k + 1) X.A) (B : BndA X.K fd ps (n + 1) ks o) (tk : Takes X W) (hg : Gl X x) (hm : X.mg x = some (.ref (gaS X.K c))) (hdb : (x == ("__debug__" : PySem.Str)) = false)
    (ha : PAi X W es fes) (hkw : PKi X W kws fks) (hs : es.all noStar = true) (he0 : es = [] → fes = fun st => .ok [] st) (kw : kwIs ks kws) (ln : ∀ st xs st', fes st = .ok xs st' → xs.length = n) (lk : ∀ st ys st', fks st = .ok ys st' → ys.length = ks.length) :
    PEr X W (.Call (.Name x p) es kws pos) fun st => (fes st).bind fun xs st => (fks st).bind fun zs st => (Out.of st (arr (.ref st.h.length :: (xs ++ zs)) o)).bind fun ys st => mkO keep st (cf ys (st.h ++ [some (.obj c [])])) := by
  refine ⟨fun pins s σ H Q I ⟨w, st, R, q⟩ => ?_⟩
  refine wpAny_Call_Name_kw (ld_glob I hg hm ?_ hdb)
  refine args_run (first := []) I R ha hkw hs he0 kw M.kp q fun s2 H2 us ws vs zs xs ys w2 st1 st2 st0 I2 r rz R2 l2 rv rw e1 e2 q2 => ?_
  exact runMk (us := us) M F hr B tk I2 r rz (by rw [← r.length, rv.length, ln _ _ _ e1]) (by rw [← rz.length, rw.length, lk _ _ _ e2]) R2 (rv.append rw) q2
/-- what is known of a method that is called so -/
def MtB (X : Cx) (G : Prog) (n k : Nat) (m : String) (j : Nat) (ks : List PySem.Str) (o : List Ar) : Prop := ∀ c, G.mtd c m = true → ∃ fa fd ps, Cls X.K (gaS X.K c) ∧ Meth X.K (gaS X.K c) (sO m) fa ∧ FnI X.prog X.w X.K X.mg X.base k fa fd ps (spI X.K (callF G n (c ++ "." ++ m))) ∧ BndA X.K fd ps (j + 1) ks o
/-- o.m(e, .., k = v, ..) -/
theorem i_methB {N : Nat} {ox : Expr} {fo : IS → Out RV} {m : String} {pl : Sem Bool} (ho : PEr X W ox fo) (F : MtB X G N k m n ks o) (hr : RoomG k X.A) (tk : Takes X W)
    (ha : PAi X W es fes) (hkw : PKi X W kws fks) (hs : es.all noStar = true) (he0 : es = [] → fes = fun st => .ok [] st) (kw : kwIs ks kws) (ln : ∀ st xs st', fes st = .ok xs st' → xs.length = n) (lk : ∀ st ys st', fks st = .ok ys st' → ys.length = ks.length)
    (ht : eval (.Call (.Attribute ox (sO m) apos) es kws pos) X.env = (do
      let ov ← eval ox X.env
      standAt apos.atName
      let (f, first) ← holding [ov] (getMethod ov (sO m) pl)
      callWith pos f first (backTo pos (starEach es X.env)) (backToKw pos (keywordEach kws X.env)))) :
    PEr X W (.Call (.Attribute ox (sO m) apos) es kws pos) fun st => (sOf (fo st)).bind fun x st => (Out.of st (methS G st m x)).bind fun f st => (fes st).bind fun xs st => (fks st).bind fun zs st => (Out.of st (arr (x :: (xs ++ zs)) o)).bind fun ys st => callO st (callF G N f ys st.h) := by
  refine ⟨fun pins s σ H Q I ⟨w, st, R, p⟩ => ?_⟩
  refine PySem.W.methodCall_KW (pl := pl) (thn ((toS ho).run pins s σ H _ I (recv_ok (k2 := fun f x st => (fes st).bind fun xs st => (fks st).bind fun zs st => (Out.of st (arr (x :: (xs ++ zs)) o)).bind fun ys st => callO st (callF G N f ys st.h)) R p)) fun u s1 ⟨x, H1, I1, rx, w1, st1, y, c, a, dx, vs, R1, ex, ry, ea, hl, hf, q⟩ => ?_) ht
  subst ex
  obtain rfl : u = Value.ref a := rx
  obtain ⟨fa, fd, ps, c1, c2, F1, hb⟩ := F c hf
  refine getmeth_ok I1 ea c1 c2 hl ?_
  refine args_run (first := [.ref a]) I1 R1 ha hkw hs he0 kw c2.kp q fun s2 H2 us ws vs zs xs ys w2 st1 st2 st0 I2 r rz R2 l2 rv rw e1 e2 q2 => ?_
  exact runB (us := .ref a :: us) (vs := .ref a :: vs) F1 hr hb tk I2 (.cons rfl r) rz (by rw [List.length_cons, ← r.length, rv.length, ln _ _ _ e1]) (by rw [← rz.length, rw.length, lk _ _ _ e2]) R2 (.cons (RepV.mono l2.h ry) (rv.append rw)) q2
end
end Ip

/-! Ip13: the text and the compiled text: matching. -/
namespace Ip
open PySem PySem.Spec PyProof.Rows L2

/-! ### the ways to call a def -/
def lbE : IV → IV → Bool
  | .non, .non => true
  | .bl a, .bl b => a == b
  | .int i, .int j => decide (i = j)
  | .str x, .str y => decide (x = y)
  | .tup [], .tup [] => true
  | _, _ => false
theorem lbE_eq {x y : IV} (h : lbE x y = true) : x = y := by
  unfold lbE at h
  split at h
  · rfl
  · rw [eq_of_beq h]
  · rw [of_decide_eq_true h]
  · rw [of_decide_eq_true h]
  · rfl
  · cases h
def arE : List Ar → List Ar → Bool
  | [], [] => true
  | .a i :: o, .a j :: p => decide (i = j) && arE o p
  | .d x :: o, .d y :: p => lbE x y && arE o p
  | _, _ => false
theorem arE_eq : ∀ {o p : List Ar}, arE o p = true → o = p
  | [], [], _ => rfl
  | [], .a _ :: _, h => nomatch h
  | [], .d _ :: _, h => nomatch h
  | .a _ :: _, [], h => nomatch h
  | .d _ :: _, [], h => nomatch h
  | .a _ :: _, .d _ :: _, h => nomatch h
  | .d _ :: _, .a _ :: _, h => nomatch h
  | .a i :: o, .a j :: p, h => by
    obtain ⟨h1, h2⟩ := Bool.and_eq_true_iff.mp (show (decide (i = j) && arE o p) = true from h)
    rw [of_decide_eq_true h1, arE_eq h2]
  | .d x :: o, .d y :: p, h => by
    obtain ⟨h1, h2⟩ := Bool.and_eq_true_iff.mp (show (lbE x y && arE o p) = true from h)
    rw [lbE_eq h1, arE_eq h2]
def hasB (l : List (Nat × List String × List Ar)) (n : Nat) (ks : List String) (o : List Ar) : Bool := l.any fun t => decide (t.1 = n) && decide (t.2.1 = ks) && arE t.2.2 o
theorem hasB_mem {l : List (Nat × List String × List Ar)} {n : Nat} {ks : List String} {o : List Ar} (h : hasB l n ks o = true) : (n, ks, o) ∈ l := by
  obtain ⟨⟨t1, t2, t3⟩, ht, h⟩ := List.any_eq_true.mp h
  obtain ⟨h, h3⟩ := Bool.and_eq_true_iff.mp h
  obtain ⟨h1, h2⟩ := Bool.and_eq_true_iff.mp h
  have e1 : t1 = n := of_decide_eq_true h1
  have e2 : t2 = ks := of_decide_eq_true h2
  have e3 : t3 = o := arE_eq h3
  subst e1 e2 e3
  exact ht
/-! ### shapes -/
def xName : Expr → Option PySem.Str
  | .Name x _ => some x
  | _ => none
def xCon : Expr → Option Const
  | .Constant c _ _ => some c
  | _ => none
def xBin : Expr → Option (Operator × Expr × Expr)
  | .BinOp a op b _ => some (op, a, b)
  | _ => none
def xUn : Expr → Option (UnaryOp × Expr)
  | .UnaryOp op a _ => some (op, a)
  | _ => none
def xCmp : Expr → Option (Expr × List CmpOp × List Expr)
  | .Compare a ops bs _ => some (a, ops, bs)
  | _ => none
def xBoo : Expr → Option (BoolOp × List Expr)
  | .BoolOp op es _ => some (op, es)
  | _ => none
def xIf : Expr → Option (Expr × Expr × Expr)
  | .IfExp c a b _ => some (c, a, b)
  | _ => none
def xTup : Expr → Option (List Expr)
  | .Tuple es _ _ => some es
  | _ => none
def xLst : Expr → Option (List Expr)
  | .List es _ => some es
  | _ => none
def xDic : Expr → Bool
  | .Dict [] [] _ => true
  | _ => false
def xDic1 : Expr → Option (Expr × Expr)
  | .Dict [some a] [b] _ => some (a, b)
  | _ => none
def noSlice : Expr → Bool
  | .Slice _ _ _ _ => false
  | _ => true
def xSub : Expr → Option (Expr × Expr)
  | .Subscript a i _ => if noSlice i then some (a, i) else none
  | _ => none
def xSlc : Expr → Option (Expr × Option Expr × Option Expr)
  | .Subscript a (.Slice lo hi none _) _ => some (a, lo, hi)
  | _ => none
def xRev : Expr → Option Expr
  | .Subscript a (.Slice none none (some (.UnaryOp .USub (.Constant (.int 1) _ _) _)) _) _ => some a
  | _ => none
def xCall : Expr → Option (PySem.Str × List Expr)
  | .Call (.Name x _) es [] _ => some (x, es)
  | _ => none
/-- not one of the calls that attributeBase looks at -/
def noCall0 : Expr → Bool
  | .Call (.Name _ _) [] [] _ => false
  | _ => true
def xMeth : Expr → Option (Expr × PySem.Str × List Expr)
  | .Call (.Attribute o m apos) es [] cpos => if (apos.endLine == cpos.line) && noCall0 o then some (o, m, es) else none
  | _ => none
def xAttr : Expr → Option (Expr × PySem.Str)
  | .Attribute e f _ => if noCall0 e then some (e, f) else none
  | _ => none
def xCallK : Expr → Option (PySem.Str × List Expr × List Keyword)
  | .Call (.Name x _) es kws _ => some (x, es, kws)
  | _ => none
def xMethK : Expr → Option (Expr × PySem.Str × List Expr × List Keyword)
  | .Call (.Attribute o m apos) es kws cpos => if (apos.endLine == cpos.line) && noCall0 o then some (o, m, es, kws) else none
  | _ => none
def xLsc : Expr → Option (PySem.Str × Expr × Expr × Expr × List Expr × Scope)
  | .Call (.Name x _) [.SetComp elt [⟨tg, iter, ifs, 0⟩] scope _] [] _ => some (x, elt, tg, iter, ifs, scope)
  | _ => none
def xLc : Expr → Option (Expr × Expr × Expr × List Expr × Scope)
  | .ListComp elt [⟨tg, iter, ifs, 0⟩] scope _ => some (elt, tg, iter, ifs, scope)
  | _ => none
def plainE : Expr → Bool
  | .BoolOp _ _ _ => false
  | .UnaryOp _ _ _ => false
  | .Compare _ _ _ _ => false
  | .IfExp _ _ _ _ => false
  | _ => true
theorem plainE_ok {e : Expr} (h : plainE e = true) (env : Env) (whole : Sem Value) : isTrue e env whole = (do let v ← whole; standAt e.pos; holding [v] (truthy v)) := by
  cases e <;> first | rfl | cases h
def noSet : Expr → Bool
  | .Set _ _ _ => false
  | _ => true
section
variable {e : Expr}
theorem xName_eq {x} (h : xName e = some x) : ∃ p, e = .Name x p := by
  cases e <;> first | (cases h; exact ⟨_, rfl⟩) | (exact nomatch h)
theorem xCon_eq {x} (h : xCon e = some x) : ∃ k p, e = .Constant x k p := by
  cases e <;> first | (cases h; exact ⟨_, _, rfl⟩) | (exact nomatch h)
theorem xBin_eq {op a b} (h : xBin e = some (op, a, b)) : ∃ p, e = .BinOp a op b p := by
  cases e <;> first | (cases h; exact ⟨_, rfl⟩) | (exact nomatch h)
theorem xUn_eq {op a} (h : xUn e = some (op, a)) : ∃ p, e = .UnaryOp op a p := by
  cases e <;> first | (cases h; exact ⟨_, rfl⟩) | (exact nomatch h)
theorem xCmp_eq {op a b} (h : xCmp e = some (a, op, b)) : ∃ p, e = .Compare a op b p := by
  cases e <;> first | (cases h; exact ⟨_, rfl⟩) | (exact nomatch h)
theorem xBoo_eq {op a} (h : xBoo e = some (op, a)) : ∃ p, e = .BoolOp op a p := by
  cases e <;> first | (cases h; exact ⟨_, rfl⟩) | (exact nomatch h)
theorem xIf_eq {c a b} (h : xIf e = some (c, a, b)) : ∃ p, e = .IfExp c a b p := by
  cases e <;> first | (cases h; exact ⟨_, rfl⟩) | (exact nomatch h)
theorem xTup_eq {es} (h : xTup e = some es) : ∃ k p, e = .Tuple es k p := by
  cases e <;> first | (cases h; exact ⟨_, _, rfl⟩) | (exact nomatch h)
theorem xLst_eq {es} (h : xLst e = some es) : ∃ p, e = .List es p := by
  cases e <;> first | (cases h; exact ⟨_, rfl⟩) | (exact nomatch h)
theorem xDic_eq (h : xDic e = true) : ∃ p, e = .Dict [] [] p := by
  unfold xDic at h
  split at h
  · exact ⟨_, rfl⟩
  · cases h
theorem xDic1_eq {a b} (h : xDic1 e = some (a, b)) : ∃ p, e = .Dict [some a] [b] p := by
  unfold xDic1 at h
  split at h
  · cases h; exact ⟨_, rfl⟩
  · cases h
theorem xSub_eq {a i} (h : xSub e = some (a, i)) : (∃ p, e = .Subscript a i p) ∧ noSlice i = true := by
  unfold xSub at h
  split at h
  · split at h
    · rename_i hn
      cases h; exact ⟨⟨_, rfl⟩, hn⟩
    · cases h
  · cases h
theorem xSlc_eq {a lo hi} (h : xSlc e = some (a, lo, hi)) : ∃ p q, e = .Subscript a (.Slice lo hi none q) p := by
  unfold xSlc at h
  split at h
  · cases h; exact ⟨_, _, rfl⟩
  · cases h
theorem xRev_eq {a} (h : xRev e = some a) : ∃ k p1 p2 p3 p4, e = .Subscript a (.Slice none none (some (.UnaryOp .USub (.Constant (.int 1) k p1) p2)) p3) p4 := by
  unfold xRev at h
  split at h
  · cases h; exact ⟨_, _, _, _, _, rfl⟩
  · cases h
theorem xCall_eq {x es} (h : xCall e = some (x, es)) : ∃ p q, e = .Call (.Name x p) es [] q := by
  unfold xCall at h
  split at h
  · cases h; exact ⟨_, _, rfl⟩
  · cases h
theorem xMeth_eq {o m es} (h : xMeth e = some (o, m, es)) : ∃ p q, e = .Call (.Attribute o m p) es [] q ∧ (p.endLine == q.line) = true ∧ noCall0 o = true := by
  unfold xMeth at h
  split at h
  · split at h
    · rename_i hh
      obtain ⟨h1, h2⟩ := Bool.and_eq_true_iff.mp hh
      cases h; exact ⟨_, _, rfl, h1, h2⟩
    · cases h
  · cases h
theorem xAttr_eq {o f} (h : xAttr e = some (o, f)) : (∃ p, e = .Attribute o f p) ∧ noCall0 o = true := by
  unfold xAttr at h
  split at h
  · split at h
    · cases h; exact ⟨⟨_, rfl⟩, by assumption⟩
    · cases h
  · cases h
theorem xCallK_eq {x es kws} (h : xCallK e = some (x, es, kws)) : ∃ p q, e = .Call (.Name x p) es kws q := by
  unfold xCallK at h
  split at h
  · cases h; exact ⟨_, _, rfl⟩
  · cases h
theorem xMethK_eq {o m es kws} (h : xMethK e = some (o, m, es, kws)) : ∃ p q, e = .Call (.Attribute o m p) es kws q ∧ (p.endLine == q.line) = true ∧ noCall0 o = true := by
  unfold xMethK at h
  split at h
  · split at h
    · rename_i hh
      obtain ⟨h1, h2⟩ := Bool.and_eq_true_iff.mp hh
      cases h; exact ⟨_, _, rfl, h1, h2⟩
    · cases h
  · cases h
theorem xLsc_eq {x elt tg iter ifs scope} (h : xLsc e = some (x, elt, tg, iter, ifs, scope)) : ∃ p q r, e = .Call (.Name x p) [.SetComp elt [⟨tg, iter, ifs, 0⟩] scope q] [] r := by
  unfold xLsc at h
  split at h
  · cases h; exact ⟨_, _, _, rfl⟩
  · cases h
theorem xLc_eq {elt tg iter ifs scope} (h : xLc e = some (elt, tg, iter, ifs, scope)) : ∃ p, e = .ListComp elt [⟨tg, iter, ifs, 0⟩] scope p := by
  unfold xLc at h
  split at h
  · cases h; exact ⟨_, rfl⟩
  · cases h
theorem noSet_ok (h : noSet e = true) (env : Env) (x : Value) : foldedSetIterable e env x = pure x := by
  cases e <;> first | rfl | cases h
theorem noSlice_ok (h : noSlice e = true) : PlainIx e := fun o i => by
  cases e <;> first | rfl | cases h
theorem noCall0_ok (h : noCall0 e = true) (m : PySem.Str) (env : Env) : attributeBase e m env (eval e env) = eval e env := by
  cases e with
  | Call f es ks p =>
    cases f with
    | Name x q =>
      cases es with
      | nil => cases ks with
        | nil => cases h
        | cons _ _ => rfl
      | cons _ _ => rfl
    | _ => rfl
  | _ => rfl
end

/-! ### names -/
def visB (sc : Scope) (x : PySem.Str) : Bool := match sc.names.lookup x with
  | some .local => true
  | some .cell => true
  | some .free => true
  | _ => false
def locB (sc : Scope) (x : PySem.Str) : Bool := match sc.names.lookup x with
  | some .local => true
  | some .cell => true
  | _ => false
def glB (sc : Scope) (x : PySem.Str) : Bool := decide (sc.names.lookup x = some .globalImplicit)
def dbB (x : PySem.Str) : Bool := !(x == ("__debug__" : PySem.Str)) && !(x == ("__classdict__" : PySem.Str))
def nameB (N : List PySem.Str) (sc : Scope) (x : PySem.Str) (i : Nat) : Bool := decide (N[i]? = some x) && visB sc x && dbB x
def locNB (N : List PySem.Str) (sc : Scope) (x : PySem.Str) (i : Nat) : Bool := decide (N[i]? = some x) && locB sc x
/-- the built-in's name -/
def biN : BI → Option String
  | .len => some "len" | .list => some "list" | .all => some "all" | .any => some "any" | .int1 => some "int" | .sorted => some "sorted" | .sortedD => some "sorted" | .repr => some "repr"
  | _ => none
def isiN : List String := ["bool", "int", "str", "tuple", "list", "dict"]
def mLit : IV → Const → Bool
  | .non, .none => true
  | .bl b, .bool c => b == c
  | .int i, .int j => decide (i = j)
  | .str x, .str y => decide (x = y)
  | _, _ => false
mutual
def mT (N : List PySem.Str) (sc : Scope) : Tgt → Expr → Bool
  | .name i, e => match xName e with
    | some x => locNB N sc x i
    | none => false
  | .tup ts, e => match xTup e with
    | some es => mTs N sc ts es
    | none => false
def mTs (N : List PySem.Str) (sc : Scope) : List Tgt → List Expr → Bool
  | [], [] => true
  | t :: ts, e :: es => noStar e && mT N sc t e && mTs N sc ts es
  | _, _ => false
end
def ownS (own : List (String × Nat)) : List (PySem.Str × Nat) := own.map fun p => (sO p.1, p.2)
mutual
def mE (G : Prog) (N : List PySem.Str) (sc : Scope) : CE → Expr → Bool
  | .lit x, e => match xCon e with
    | some c => mLit x c
    | none => false
  | .slot i, e => match xName e with
    | some x => nameB N sc x i
    | none => false
  | .move i, e => match xName e with
    | some x => nameB N sc x i
    | none => false
  | .glo y, e => match xName e with
    | some x => decide (x = sO y) && glB sc x && dbB x
    | none => false
  | .bin op a b, e => match xBin e with
    | some (op', a', b') => decide (op = op') && mE G N sc a a' && mE G N sc b b'
    | none => false
  | .neg a, e => match xUn e with
    | some (.USub, a') => mE G N sc a a'
    | _ => false
  | .cmp op a b, e => match xCmp e with
    | some (a', [op'], [b']) => decide (op = op') && mE G N sc a a' && mE G N sc b b' && !behindInMarks op b'
    | _ => false
  | .chain op op2 a b c, e => match xCmp e with
    | some (a', [o1, o2], [b', c']) => decide (op = o1) && decide (op2 = o2) && mE G N sc a a' && mE G N sc b b' && mE G N sc c c' && !lastMarks [op, op2] [b', c']
    | _ => false
  | .boo op es, e => match xBoo e with
    | some (op', es') => decide (op = op') && mEs G N sc es es' && !es.isEmpty
    | none => false
  | .not a, e => match xUn e with
    | some (.Not, a') => mE G N sc a a'
    | _ => false
  | .ife c a b, e => match xIf e with
    | some (c', a', b') => mE G N sc c c' && mE G N sc a a' && mE G N sc b b'
    | none => false
  | .tup es, e => match xTup e with
    | some es' => mEs G N sc es es'
    | none => false
  | .lst es, e => match xLst e with
    | some es' => mEs G N sc es es'
    | none => false
  | .dict0, e => xDic e
  | .dict1 a b, e => match xDic1 e with
    | some (a', b') => mE G N sc a a' && mE G N sc b b'
    | none => false
  | .sub a i, e => match xSub e with
    | some (a', i') => mE G N sc a a' && mE G N sc i i'
    | none => false
  | .slc a lo hi, e => match xSlc e with
    | some (a', lo', hi') => mE G N sc a a' && mO G N sc lo lo' && mO G N sc hi hi'
    | none => false
  | .rev a, e => match xRev e with
    | some a' => mE G N sc a a'
    | none => false
  | .call f es, e => match xCall e with
    | some (x, es') => decide (x = sO f) && glB sc x && dbB x && (G.fn f).isSome && G.top f && G.pln f && mEs G N sc es es'
    | none => false
  | .bi b a, e => match b with
    | .isi cl => (match xCall e with
      | some (x, [a', z]) => (match xName z with
        | some y => decide (x = sO "isinstance") && glB sc x && decide (y = sO cl) && glB sc y && isiN.contains cl && mE G N sc a a'
        | none => false)
      | _ => false)
    | .rng1 => (match xCall e with
      | some (x, [z]) => (match xCall z with
        | some (y, [a']) => decide (x = sO "list") && glB sc x && decide (y = sO "range") && glB sc y && mE G N sc a a'
        | _ => false)
      | _ => false)
    | .sortedSet => (match xCall e with
      | some (x, [z]) => (match xCall z with
        | some (y, [a']) => decide (x = sO "sorted") && glB sc x && decide (y = sO "set") && glB sc y && mE G N sc a a'
        | _ => false)
      | _ => false)
    | .lenSet => (match xCall e with
      | some (x, [z]) => (match xCall z with
        | some (y, [a']) => decide (x = sO "len") && glB sc x && decide (y = sO "set") && glB sc y && mE G N sc a a'
        | _ => false)
      | _ => false)
    | b => (match xCall e, biN b with
      | some (x, [a']), some nm => decide (x = sO nm) && glB sc x && mE G N sc a a'
      | _, _ => false)
  | .bi2 .zipl a b, e => match xCall e with
      | some (x, [z]) => (match xCall z with
        | some (y, [a', b']) => decide (x = sO "list") && glB sc x && decide (y = sO "zip") && glB sc y && mE G N sc a a' && mE G N sc b b'
        | _ => false)
      | _ => false
  | .bi2 _ _ _, _ => false
  | .lc e t it ifs own, x => match xLc x with
    | some (elt, tg, iter, ifs', scope) => mE G N scope e elt && mT N scope t tg && mW G N sc it tg iter && mI G N scope ifs ifs' && blkC N sc scope (ownS own) && (tgtSl t).all (fun j => (own.map (·.2)).contains j) && noSet iter
    | none => false
  | .cell a, e => plainE e && mE G N sc a e
  | .attr a f, e => match xAttr e with
    | some (a', f') => decide (f' = sO f) && mE G N sc a a'
    | none => false
  | .meth o m es, e => match xMeth e with
    | some (o', m', es') => decide (m' = sO m) && decide (es'.length < 28) && G.pln ("." ++ m) && mE G N sc o o' && mEs G N sc es es'
    | none => false
  | .mk _ c es kes ks o, e => match xCallK e with
    | some (x, es', kws) => decide (x = sO c) && glB sc x && dbB x && G.mkc c && hasB (G.bnd (c ++ ".__init__")) (es.length + 1) ks o && mEs G N sc es es' && mK G N sc kes ks kws
    | none => false
  | .callB f es kes ks o, e => match xCallK e with
    | some (x, es', kws) => decide (x = sO f) && glB sc x && dbB x && (G.fn f).isSome && G.top f && hasB (G.bnd f) es.length ks o && mEs G N sc es es' && mK G N sc kes ks kws
    | none => false
  | .methB a m es kes ks o, e => match xMethK e with
    | some (a', m', es', kws) => decide (m' = sO m) && decide (es'.length + kws.length < 28) && hasB (G.bnd ("." ++ m)) (es.length + 1) ks o && mE G N sc a a' && mEs G N sc es es' && mK G N sc kes ks kws
    | none => false
  | .lsc e t it ifs own, x => match xLsc x with
    | some (y, elt, tg, iter, ifs', scope) => decide (y = sO "len") && glB sc y && mE G N scope e elt && mT N scope t tg && mW G N sc it tg iter && mI G N scope ifs ifs' && blkC N sc scope (ownS own) && (tgtSl t).all (fun j => (own.map (·.2)).contains j) && noSet iter
    | none => false
  | .app o a, e => match xMeth e with
    | some (o', m, [a']) => decide (m = sO "append") && mE G N sc o o' && mE G N sc a a'
    | _ => false
  | .pop1 o a, e => match xMeth e with
    | some (o', m, [a']) => decide (m = sO "pop") && mE G N sc o o' && mE G N sc a a'
    | _ => false
  | .get2 o a b, e => match xMeth e with
    | some (o', m, [a', b']) => decide (m = sO "get") && mE G N sc o o' && mE G N sc a a' && mE G N sc b b'
    | _ => false
  | .index o a, e => match xMeth e with
    | some (o', m, [a']) => decide (m = sO "index") && mE G N sc o o' && mE G N sc a a'
    | _ => false
def mEs (G : Prog) (N : List PySem.Str) (sc : Scope) : List CE → List Expr → Bool
  | [], [] => true
  | c :: cs, e :: es => mE G N sc c e && mEs G N sc cs es
  | _, _ => false
def mK (G : Prog) (N : List PySem.Str) (sc : Scope) : List CE → List String → List Keyword → Bool
  | [], [], [] => true
  | c :: cs, k :: ks, kw :: kws => decide (kw.arg = some (sO k)) && mE G N sc c kw.value && mK G N sc cs ks kws
  | _, _, _ => false
def mO (G : Prog) (N : List PySem.Str) (sc : Scope) : Option CE → Option Expr → Bool
  | none, none => true
  | some c, some e => mE G N sc c e
  | _, _ => false
def mI (G : Prog) (N : List PySem.Str) (sc : Scope) : Option CE → List Expr → Bool
  | none, [] => true
  | some c, [e] => mE G N sc c e
  | _, _ => false
def mW (G : Prog) (N : List PySem.Str) (sc : Scope) : IT → Expr → Expr → Bool
  | .it c, _, e => mE G N sc c e
  | .rng1 a, _, e => match xCall e with
    | some (x, [a']) => decide (x = sO "range") && glB sc x && mE G N sc a a'
    | _ => false
  | .rng2 a b, _, e => match xCall e with
    | some (x, [a', b']) => decide (x = sO "range") && glB sc x && mE G N sc a a' && mE G N sc b b'
    | _ => false
  | .enum a, tg, e => match xCall e, xTup tg with
    | some (x, [a']), some _ => decide (x = sO "enumerate") && glB sc x && mE G N sc a a'
    | _, _ => false
  | .zip a b, tg, e => match xCall e, xTup tg with
    | some (x, [a', b']), some _ => decide (x = sO "zip") && glB sc x && mE G N sc a a' && mE G N sc b b'
    | _, _ => false
end
end Ip

/-! Ip14: what matches is read rightly: expressions. -/
namespace Ip
open PySem PySem.Spec PyProof.Rows L2

def bltS : List String := ["len", "list", "all", "any", "int", "sorted", "repr", "isinstance", "bool", "str", "tuple", "dict", "range", "zip", "enumerate", "set"]
/-- what is known of a def, called by the ways at key -/
structure FnK (X : Cx) (G : Prog) (n : Nat) (f key : String) (fa : Addr) (fd : FuncData) (ps : List PySem.Str) : Prop where
  fi : FnI X.prog X.w X.K X.mg X.base (2 * n) fa fd ps (spI X.K (callF G n f))
  pl : G.pln key = true → Binds X.K fd ps []
  bd : ∀ t ∈ G.bnd key, BndA X.K fd ps t.1 (t.2.1.map sO) t.2.2
structure GoodE (X : Cx) (G : Prog) (n : Nat) (W : WX) : Prop where
  calm : X.calm = true
  nd : X.N.Nodup
  hu : X.A.units + 66 < cLine
  gd : X.A.guards = some []
  bn : ∀ x ∈ bltS, X.mg (sO x) = none
  con : ∀ x v, G.con x = some v → ∃ u z, X.mg (sO x) = some u ∧ RelV z u ∧ ∀ S phi, RepV X.K S phi z v
  room : RoomG (2 * n + 1) X.A
  fns : ∀ f, (G.fn f).isSome = true → G.top f = true → ∃ fa fd ps, FnK X G n f f fa fd ps ∧ X.mg (sO f) = some (.ref fa) ∧ PySem.W.keepIn X.K (.ref fa) = true
  fld : ∀ c f, G.fld c f = true → Cls X.K (gaS X.K c) ∧ NoAttr X.K (gaS X.K c) (sO f)
  mth : ∀ c m, G.mtd c m = true → ∃ fa fd ps, FnK X G n (c ++ "." ++ m) ("." ++ m) fa fd ps ∧ Cls X.K (gaS X.K c) ∧ Meth X.K (gaS X.K c) (sO m) fa
  mks : ∀ c, G.mkc c = true → ∃ fa fd ps, FnK X G n (c ++ ".__init__") (c ++ ".__init__") fa fd ps ∧ Mk X.K (gaS X.K c) fa ∧ X.mg (sO c) = some (.ref (gaS X.K c))
  tk : Takes X W
structure ScOk (X : Cx) (sc : Scope) : Prop where
  vis : ∀ x, visB sc x = true → Vis X.env.scope x
  gl : ∀ x, glB sc x = true → Gl X x
  loc : ∀ x, locB sc x = true → Loc X.env.scope x ∧ (X.fn x = true ∨ X.env.scope.names.lookup x = some .local)
  blk : ∀ scope own, blkC X.N sc scope own = true → BlkOk X.N X.env.scope scope own
theorem visB_ok {sc : Scope} {x : PySem.Str} (h : visB sc x = true) : Vis sc x := by
  unfold visB at h
  split at h
  · exact .inl (by assumption)
  · exact .inr (.inl (by assumption))
  · exact .inr (.inr (by assumption))
  · cases h
theorem locB_ok {sc : Scope} {x : PySem.Str} (h : locB sc x = true) : Loc sc x := by
  unfold locB at h
  split at h
  · exact .inl (by assumption)
  · exact .inr (by assumption)
  · cases h
theorem ScOk.fn {X : Cx} (hf : X.fn = fun _ => true) : ScOk X X.env.scope :=
  ⟨fun x h => visB_ok h, fun x h => show X.env.scope.names.lookup x = some .globalImplicit from of_decide_eq_true h, fun x h => ⟨locB_ok h, .inl (by rw [hf])⟩, fun scope own h => blkOk_by h⟩
theorem lookup_map {α β γ : Type} [BEq α] (f : α → β → γ) (hf : ∀ a b c, (a == c) = true → f a b = f c b) : ∀ (l : List (α × β)) (x : α), (l.map fun y => (y.1, f y.1 y.2)).lookup x = (l.lookup x).map (f x)
  | [], x => rfl
  | (a, b) :: l, x => by
    rw [List.map_cons, List.lookup_cons, List.lookup_cons]
    by_cases h : (x == a) = true
    · rw [h]
      show some (f a b) = some (f x b)
      rw [hf x b a h]
    · have h' : (x == a) = false := by simpa using h
      rw [h']
      exact lookup_map f hf l x
theorem relabel_lookup (scope : Scope) (env : Env) (x : PySem.Str) : (relabel scope env).names.lookup x = (scope.names.lookup x).map fun k => if (k == .free && env.scope.kind == .function && env.kindOf x == some .cell) then .cell else k := by
  have := lookup_map (fun (n : PySem.Str) (k : NameKind) => if (k == .free && env.scope.kind == .function && env.kindOf n == some .cell) then NameKind.cell else k) (fun a b c h => by rw [eq_of_beq h]) scope.names x
  rw [← this]
  unfold relabel
  congr 1
  refine List.map_congr_left fun y _ => ?_
  obtain ⟨n, k⟩ := y
  show (if _ then (n, NameKind.cell) else (n, k)) = (n, if _ then NameKind.cell else k)
  split <;> rfl
section
variable {X : Cx} {G : Prog} {n : Nat} {W : WX}
theorem GoodE.blk (g : GoodE X G n W) (s : Shared) (H : Hp) (scope : Scope) (C : Addr) (cl : List (PySem.Str × Addr)) (fp : List Addr) : GoodE (X.blk s H scope (compEnvC scope cl C X.env) fp) G n noW :=
  ⟨g.calm, g.nd, g.hu, g.gd, g.bn, g.con, g.room, fun f h t => let ⟨fa, fd, ps, k, r⟩ := g.fns f h t; ⟨fa, fd, ps, ⟨k.fi, k.pl, k.bd⟩, r⟩, g.fld, fun c m h => let ⟨fa, fd, ps, k, r⟩ := g.mth c m h; ⟨fa, fd, ps, ⟨k.fi, k.pl, k.bd⟩, r⟩,
    fun c h => let ⟨fa, fd, ps, k, r⟩ := g.mks c h; ⟨fa, fd, ps, ⟨k.fi, k.pl, k.bd⟩, r⟩, fun u s' ⟨a, B, sI, pins, σ, H, cls, d, e, I, nb, up, sky, na, os, ag, w⟩ => w⟩
theorem ScOk.blkS (s : Shared) (H : Hp) (scope : Scope) (C : Addr) (cl : List (PySem.Str × Addr)) (fp : List Addr) : ScOk (X.blk s H scope (compEnvC scope cl C X.env) fp) scope := by
  have lk : ∀ x, (compEnvC scope cl C X.env).scope.names.lookup x = (scope.names.lookup x).map fun k => if (k == .free && X.env.scope.kind == .function && X.env.kindOf x == some .cell) then .cell else k := relabel_lookup scope X.env
  have loc : ∀ x, scope.names.lookup x = some .local → (compEnvC scope cl C X.env).scope.names.lookup x = some .local := fun x h => by rw [lk, h]; rfl
  have cel : ∀ x, scope.names.lookup x = some .cell → (compEnvC scope cl C X.env).scope.names.lookup x = some .cell := fun x h => by rw [lk, h]; rfl
  have fre : ∀ x, scope.names.lookup x = some .free → (compEnvC scope cl C X.env).scope.names.lookup x = some .cell ∨ (compEnvC scope cl C X.env).scope.names.lookup x = some .free := fun x h => by
    rw [lk, h]
    simp only [Option.map_some]
    split
    · exact .inl rfl
    · exact .inr rfl
  refine ⟨fun x h => ?_, fun x h => ?_, fun x h => ?_, fun scope2 own h => ?_⟩
  · rcases visB_ok h with h | h | h
    · exact .inl (loc x h)
    · exact .inr (.inl (cel x h))
    · exact .inr (fre x h)
  · have h' := of_decide_eq_true h
    show (compEnvC scope cl C X.env).scope.names.lookup x = some .globalImplicit
    rw [lk, h']; rfl
  · rcases locB_ok h with h | h
    · exact ⟨.inl (loc x h), .inr (loc x h)⟩
    · exact ⟨.inr (cel x h), .inl (by show (scope.names.lookup x == some NameKind.cell) = true; rw [h]; rfl)⟩
  · obtain ⟨h1, h2, h3, h4, h5⟩ := blkOk_by h
    exact ⟨h1, h2, h3, fun y hy e => by
      rcases h4 y hy e with z | z
      · exact .inl (cel _ z)
      · exact fre _ z, h5⟩
end
/-! ### the call of a method -/
theorem few_ok {es : List Expr} {kws : List Keyword} {pos : Pos} {env : Env} (hs : es.all noStar = true) (hk : (backToKw pos (keywordEach kws env)).all (·.1.isSome) = true) (hl : es.length + kws.length < 28) :
    methodCallForm (es.length + kws.length) (backTo pos (starEach es env)) (backToKw pos (keywordEach kws env)) = true := by
  have h1 : (backTo pos (starEach es env)).all (!·.1) = true := by
    have := stars_any hs pos env
    rw [List.all_eq_true]
    intro x hx
    have := List.any_eq_false.mp this x hx
    simpa using this
  unfold methodCallForm
  rw [h1, hk]
  simp only [Bool.true_and, decide_eq_true_eq]
  split <;> omega
theorem meth_eq {o : Expr} {name : PySem.Str} {apos pos : Pos} {es : List Expr} {kws : List Keyword} {env : Env} (hb : attributeBase o name env (eval o env) = eval o env) (hl : (apos.endLine == pos.line) = true)
    (few : methodCallForm (es.length + kws.length) (backTo pos (starEach es env)) (backToKw pos (keywordEach kws env)) = true) :
    eval (.Call (.Attribute o name apos) es kws pos) env = (do
      let ov ← eval o env
      standAt apos.atName
      let (f, first) ← holding [ov] (getMethod ov name (do return (← importBound o env).getD true))
      callWith pos f first (backTo pos (starEach es env)) (backToKw pos (keywordEach kws env))) := by
  have hp : methodCallPos true o env apos pos = pure pos := by unfold methodCallPos; simp [hl]
  rw [arm_eval_Call, hb]
  unfold methodCall
  rw [few, hp]
  rfl
theorem evs_len {G : Prog} {call : Caller} : ∀ {cs : List CE} {st : IS} {xs : List IV} {st' : IS}, evs G call cs st = .ok xs st' → xs.length = cs.length
  | [], st, xs, st', h => by
    rw [evs] at h
    cases h; rfl
  | c :: cs, st, xs, st', h => by
    rw [evs] at h
    cases h1 : sOf (evF G call c st) with
    | ok x s1 =>
      rw [h1, Out.bind_ok] at h
      cases h2 : evs G call cs s1 with
      | ok ys s2 =>
        rw [h2, Out.bind_ok] at h
        cases h
        rw [List.length_cons, List.length_cons, evs_len h2]
      | exc a b d => rw [h2] at h; cases h
      | bad => rw [h2] at h; cases h
    | exc a b d => rw [h1] at h; cases h
    | bad => rw [h1] at h; cases h
structure SndE (X : Cx) (W : WX) (e : Expr) (f : IS → Out RV) : Prop where
  ns : noStar e = true
  pe : PEr X W e f
  pt : PTi X W e fun st => tOf (f st)
section
variable {X : Cx} {G : Prog} {n : Nat} {W : WX} {e : Expr} {f fa fb fc : IS → Out RV} {a b c : Expr} {pos : Pos}
theorem SndE.mk' (h : PEr X W e f) (ns : noStar e = true := by rfl) (he : ∀ whole, isTrue e X.env whole = (do let v ← whole; standAt e.pos; holding [v] (truthy v)) := by intro _; rfl) : SndE X W e f := ⟨ns, h, t_plain h he⟩
/-! ### comparisons as tests -/
def cmpF (op : CmpOp) (fa fb : IS → Out RV) : IS → Out RV := fun st => (vOf (fa st)).bind fun x st => (vOf (fb st)).bind fun y st => Out.of st ((cmpS st op x y).map fun c => .v (.bl c))
def chainF (op op2 : CmpOp) (fa fb fc : IS → Out RV) : IS → Out RV := fun st => (vOf (fa st)).bind fun x st => (vOf (fb st)).bind fun y st => (Out.of st (cmpS st op x y)).bind fun t st =>
  if t = true then (vOf (fc st)).bind fun z st => Out.of st ((cmpS st op2 y z).map fun c => .v (.bl c)) else .ok (.v (.bl false)) st
theorem Out.bind_ok_inv {α β : Type} {o : Out α} {k : α → IS → Out β} {r : β} {st : IS} (h : o.bind k = .ok r st) : ∃ a s, o = .ok a s ∧ k a s = .ok r st := by
  cases o with
  | ok a s => exact ⟨a, s, rfl, h⟩
  | exc c fs s => cases h
  | bad => cases h
theorem Out.of_ok_inv {β : Type} {o : Option β} {r : β} {st s : IS} (h : Out.of s o = .ok r st) : o = some r := by
  cases o with
  | none => cases h
  | some b => cases h; rfl
theorem cmpF_bl (st : IS) (r : RV) (st' : IS) (h : cmpF op fa fb st = .ok r st') : ∃ c, r = .v (.bl c) := by
  obtain ⟨_, _, _, h⟩ := Out.bind_ok_inv h
  obtain ⟨_, _, _, h⟩ := Out.bind_ok_inv h
  obtain ⟨t, _, e⟩ := Option.map_eq_some_iff.mp (Out.of_ok_inv h)
  exact ⟨t, e.symm⟩
theorem chainF_bl (st : IS) (r : RV) (st' : IS) (h : chainF op op2 fa fb fc st = .ok r st') : ∃ c, r = .v (.bl c) := by
  obtain ⟨_, _, _, h⟩ := Out.bind_ok_inv h
  obtain ⟨_, _, _, h⟩ := Out.bind_ok_inv h
  obtain ⟨t, _, _, h⟩ := Out.bind_ok_inv h
  split at h
  · obtain ⟨_, _, _, h⟩ := Out.bind_ok_inv h
    obtain ⟨t, _, e⟩ := Option.map_eq_some_iff.mp (Out.of_ok_inv h)
    exact ⟨t, e.symm⟩
  · cases h; exact ⟨_, rfl⟩
theorem cmp_imp {op : CmpOp} {g : L2.St} {H : Hp} {Q : VK} (h : Ip.TI X.K W rR (cmpF op fa fb) g H Q) : tOp (RC X.K W op) (Ip.TI X.K W rE fun st => vOf (fa st)) (Ip.TI X.K W rE fun st => vOf (fb st)) g H Q := by
  obtain ⟨w, st, R, p⟩ := h
  refine ⟨w, st, R, ?_⟩
  refine Post.bind p fun x st1 _ w1 H1 v l1 R1 r1 q1 => ⟨w1, st1, R1, ?_⟩
  refine Post.bind q1 fun y st2 _ w2 H2 u l2 R2 r2 q2 => ?_
  obtain ⟨r, e, q⟩ := q2.of
  obtain ⟨t, e1, e2⟩ := Option.map_eq_some_iff.mp e
  subst e2
  exact ⟨w2, st2, g, x, y, t, R2, RepE.mono l2 r1, r2, e1, q.okV R2 (.bl t)⟩
theorem t_cmp {op : CmpOp} (hu : X.A.units + 66 < cLine) (ha : PEr X W a fa) (hb : PEr X W b fb) (hm : behindInMarks op b = false) : PTi X W (.Compare a [op] [b] pos) fun st => tOf (cmpF op fa fb st) :=
  PT.imp (pt_cmpR (op_cmpI (W := W) hu) (toV ha) (toV hb) hm) fun g H Q h => cmp_imp (ti_test cmpF_bl h)
theorem chain_imp {op op2 : CmpOp} {g : L2.St} {H : Hp} {Q : VK} (h : Ip.TI X.K W rR (chainF op op2 fa fb fc) g H Q) : tChain (RC X.K W op) (RC X.K W op2) (Ip.TI X.K W rE fun st => vOf (fa st)) (Ip.TI X.K W rE fun st => vOf (fb st)) (Ip.TI X.K W rE fun st => vOf (fc st)) g H Q := by
  obtain ⟨w, st, R, p⟩ := h
  refine ⟨w, st, R, ?_⟩
  refine Post.bind p fun x st1 _ w1 H1 v l1 R1 r1 q1 => ⟨w1, st1, R1, ?_⟩
  refine Post.bind q1 fun y st2 _ w2 H2 u l2 R2 r2 q2 => ?_
  obtain ⟨t, e, q⟩ := q2.ofB
  refine ⟨w2, st2, g, x, y, t, R2, RepE.mono l2 r1, r2, e, t, rfl, ?_⟩
  cases t with
  | true =>
    refine ⟨w2, st2, R2, ?_⟩
    refine Post.bind q fun z st3 _ w3 H3 u3 l3 R3 r3 q3 => ?_
    obtain ⟨r, e4, q4⟩ := q3.of
    obtain ⟨t, e1, e2⟩ := Option.map_eq_some_iff.mp e4
    subst e2
    exact ⟨w3, st3, g, y, z, t, R3, RepE.mono l3 r2, r3, e1, q4.okV R3 (.bl t)⟩
  | false => exact q.okV R2 (.bl false)
theorem t_chain {op op2 : CmpOp} (hu : X.A.units + 66 < cLine) (ha : PEr X W a fa) (hb : PEr X W b fb) (hc : PEr X W c fc) (hm : lastMarks [op, op2] [b, c] = false) : PTi X W (.Compare a [op, op2] [b, c] pos) fun st => tOf (chainF op op2 fa fb fc st) :=
  PT.imp (pt_chain (op_cmpI (W := W) hu) (op_cmpI (W := W) hu) (toV ha) (toV hb) (toV hc) (hm := hm)) fun g H Q h => chain_imp (ti_test chainF_bl h)
theorem t_ife (hc : PTi X W c fun st => tOf (fc st)) (ha : PTi X W a fun st => tOf (fa st)) (hb : PTi X W b fun st => tOf (fb st)) :
    PTi X W (.IfExp c a b pos) fun st => tOf ((tOf (fc st)).bind fun c st => if c = true then (vOf (fa st)).bind fun y st => .ok (.v y) st else (vOf (fb st)).bind fun y st => .ok (.v y) st) := by
  refine ⟨fun pins s σ H Q I ⟨w, st, R, p⟩ => ?_⟩
  have e : tOf ((tOf (fc st)).bind fun c st => if c = true then (vOf (fa st)).bind fun y st => Out.ok (RV.v y) st else (vOf (fb st)).bind fun y st => .ok (.v y) st) = (tOf (fc st)).bind fun c st => if c = true then tOf (fa st) else tOf (fb st) := by
    cases tOf (fc st) with
    | ok c s => cases c <;> exact vv_eq _
    | exc _ _ _ => rfl
    | bad => rfl
  have p' : Post X.K (rI X.K σ) w W σ Q ((tOf (fc st)).bind fun c st => if c = true then tOf (fa st) else tOf (fb st)) := by rw [← e]; exact p
  have q : Ip.TI X.K W rI (fun st => tOf (fc st)) σ H fun c H1 => if c = true then Ip.TI X.K W rI (fun st => tOf (fa st)) σ H1 Q else Ip.TI X.K W rI (fun st => tOf (fb st)) σ H1 Q :=
    ⟨w, st, R, Post.bind p' fun c st1 _ w1 H1 v l R1 r q => by
      cases (show v = c from r)
      by_cases h : c = true
      · rw [if_pos h] at q; rw [if_pos h]; exact ⟨w1, st1, R1, q⟩
      · rw [if_neg h] at q; rw [if_neg h]; exact ⟨w1, st1, R1, q⟩⟩
  refine isTrue_IfExp (thn (hc.run pins s σ H _ I q) fun d s1 ⟨H1, I1, q1⟩ => ?_)
  cases d
  · exact hb.run pins s1 σ H1 Q I1 q1
  · exact ha.run pins s1 σ H1 Q I1 q1
theorem i_glo {x : PySem.Str} {o : Option IV} (hg : Gl X x) (hd : (x == ("__debug__" : PySem.Str)) = false) (h : ∀ v, o = some v → ∃ u z, X.mg x = some u ∧ RelV z u ∧ ∀ S phi, RepV X.K S phi z v) :
    PEr X W (.Name x pos) fun st => Out.of st (o.map .v) := by
  cases o with
  | none => exact ⟨fun pins s σ H Q I ⟨w, st, R, p⟩ => p.elim⟩
  | some v =>
    obtain ⟨u, z, h1, h2, h3⟩ := h v rfl
    exact PE.imp (pe_glob hg h1 h2 hd) fun g H Q ⟨w, st, R, p⟩ => Post.okV (st := st) p R (h3 _ _)
/-- a new object is given a cell -/
def cellF (f : IS → Out RV) : IS → Out RV := fun st => (f st).bind fun r st => (Out.of st (asFr r)).bind fun c st => .ok (.v (.ref st.h.length)) { st with h := st.h ++ [some c] }
theorem cell_imp {g : L2.St} {H : Hp} {Q : VK} (h : Ip.TI X.K W rR (cellF f) g H Q) : Ip.TI X.K W rR f g H Q := by
  obtain ⟨w, st, R, p⟩ := h
  refine ⟨w, st, R, Post.bind p fun r st1 _ w1 H1 v l R1 rr q => ?_⟩
  obtain ⟨c, e, q2⟩ := q.ofB
  cases r with
  | v x => cases e
  | fr x =>
    cases e
    obtain ⟨a, rfl, lo, co⟩ := rr
    obtain ⟨R2, l2, r2⟩ := R1.cell lo co
    exact (q2.le l2).okV R2 r2
theorem i_cell (h : PEr X W e f) : PEr X W e (cellF f) := PE.imp h fun g H Q h => cell_imp h
end
end Ip

/-! Ip15: what matches is read rightly: expressions. -/
namespace Ip
open PySem PySem.Spec PyProof.Rows L2
theorem band {a b : Bool} (h : (a && b) = true) : a = true ∧ b = true := Bool.and_eq_true_iff.mp h
theorem nb {b : Bool} (h : (!b) = true) : b = false := by cases b <;> simp_all
theorem of_dec {p : Prop} [Decidable p] (h : decide p = true) : p := of_decide_eq_true h
section
variable {X : Cx} {G : Prog} {n : Nat} {W : WX} {sc : Scope}
theorem dbB_ok {x : PySem.Str} (h : dbB x = true) : (x == ("__debug__" : PySem.Str)) = false ∧ (x == ("__classdict__" : PySem.Str)) = false := by
  obtain ⟨h1, h2⟩ := band h
  exact ⟨nb h1, nb h2⟩
theorem nameB_ok {x : PySem.Str} {i : Nat} (s : ScOk X sc) (h : nameB X.N sc x i = true) : X.N[i]? = some x ∧ Vis X.env.scope x ∧ (x == ("__debug__" : PySem.Str)) = false ∧ (x == ("__classdict__" : PySem.Str)) = false := by
  obtain ⟨h, h3⟩ := band h
  obtain ⟨h1, h2⟩ := band h
  exact ⟨of_dec h1, s.vis x h2, (dbB_ok h3).1, (dbB_ok h3).2⟩
theorem i_lit {x : IV} {c : Const} {j : Nat} {pos : Pos} (h : mLit x c = true) : PEr X W (.Constant c j pos) fun st => .ok (.v x) st := by
  unfold mLit at h
  split at h
  · exact i_non
  · have := eq_of_beq h; subst this; exact i_bl
  · have := of_dec h; subst this; exact i_int
  · have := of_dec h; subst this; exact i_str
  · cases h
theorem gName_ok {x : PySem.Str} {i : Nat} {pos : Pos} (g : GoodE X G n W) (s : ScOk X sc) (h : locNB X.N sc x i = true) : PG X (.Name x pos) (TGi X.K (bindT (.name i)) (tgtSl (.name i))) := by
  obtain ⟨h1, h2⟩ := band h
  obtain ⟨h3, h4⟩ := s.loc x h2
  exact g_name g.nd (of_dec h1) h3 h4
theorem asg1 {e : Expr} (h : noStar e = true) (es : List Expr) (env : Env) : assignEach (e :: es) env = (false, assign e env) :: assignEach es env := by
  cases e <;> first | rfl | cases h
mutual
theorem sT (g : GoodE X G n W) (s : ScOk X sc) : ∀ (t : Tgt) {e : Expr}, mT X.N sc t e = true → noStar e = true ∧ PG X e (TGi X.K (bindT t) (tgtSl t))
  | .name i, e, h => by
    unfold mT at h
    split at h
    case h_2 => cases h
    rename_i x hx
    obtain ⟨p, rfl⟩ := xName_eq hx
    exact ⟨rfl, gName_ok g s h⟩
  | .tup ts, e, h => by
    unfold mT at h
    split at h
    case h_2 => cases h
    rename_i es hx
    obtain ⟨k, p, rfl⟩ := xTup_eq hx
    obtain ⟨h1, h2, h3⟩ := sTs g s ts h
    exact ⟨rfl, g_tup g.calm h1 h2 h3⟩
theorem sTs (g : GoodE X G n W) (s : ScOk X sc) : ∀ (ts : List Tgt) {es : List Expr}, mTs X.N sc ts es = true → PGs X es (TGsi X.K (bindTs ts) (tgtSls ts)) ∧ (assignEach es X.env).length = ts.length ∧ (assignEach es X.env).findIdx? (·.1) = none
  | [], [], h => ⟨gs_nil, rfl, rfl⟩
  | [], _ :: _, h => by unfold mTs at h; cases h
  | _ :: _, [], h => by unfold mTs at h; cases h
  | t :: ts, e :: es, h => by
    unfold mTs at h
    obtain ⟨h, h3⟩ := band h
    obtain ⟨h1, h2⟩ := band h
    obtain ⟨a1, a2⟩ := sT g s t h2
    obtain ⟨b1, b2, b3⟩ := sTs g s ts h3
    have e1 := asg1 h1 es X.env
    refine ⟨gs_cons a2 b1 (by rw [e1]; rfl), by rw [e1, List.length_cons, List.length_cons, b2], ?_⟩
    rw [e1, List.findIdx?_cons]
    simp only [Bool.false_eq_true, if_false, b3, Option.map_none]
end
end
theorem ownS_snd (own : List (String × Nat)) : (ownS own).map (·.2) = own.map (·.2) := by unfold ownS; rw [List.map_map]; rfl
theorem blt_in {x : String} (h : x ∈ bltS) {X : Cx} {G : Prog} {n : Nat} {W : WX} (g : GoodE X G n W) : X.mg (sO x) = none := g.bn x h
theorem evB_one {G : Prog} {call : Caller} {op : BoolOp} {c : CE} : evB G call op [c] = evF G call c := by funext st; unfold evB; rfl
theorem evB_two {G : Prog} {call : Caller} {op : BoolOp} {c c2 : CE} {cs : List CE} : evB G call op (c :: c2 :: cs) = booF op (evF G call c) (evB G call op (c2 :: cs)) := by
  funext st
  rw [evB]
  rfl

section
variable {G : Prog} {n : Nat}
mutual
theorem sE : ∀ (c : CE) {X : Cx} {W : WX} {sc : Scope} {e : Expr}, GoodE X G n W → ScOk X sc → mE G X.N sc c e = true → SndE X W e (evF G (callF G n) c)
  | .lit x, X, W, sc, e, g, s, h => by
    unfold mE at h
    split at h
    case h_2 => cases h
    rename_i c hx
    obtain ⟨k, p, rfl⟩ := xCon_eq hx
    exact .mk' (i_lit h)
  | .slot i, X, W, sc, e, g, s, h => by
    unfold mE at h
    split at h
    case h_2 => cases h
    rename_i x hx
    obtain ⟨p, rfl⟩ := xName_eq hx
    obtain ⟨h1, h2, h3, h4⟩ := nameB_ok s h
    exact .mk' (i_slot h1 h2 h3 h4)
  | .move i, X, W, sc, e, g, s, h => by
    unfold mE at h
    split at h
    case h_2 => cases h
    rename_i x hx
    obtain ⟨p, rfl⟩ := xName_eq hx
    obtain ⟨h1, h2, h3, h4⟩ := nameB_ok s h
    exact .mk' (i_move h1 h2 h3 h4)
  | .glo y, X, W, sc, e, g, s, h => by
    unfold mE at h
    split at h
    case h_2 => cases h
    rename_i x hx
    obtain ⟨p, rfl⟩ := xName_eq hx
    obtain ⟨h, h3⟩ := band h
    obtain ⟨h1, h2⟩ := band h
    have e1 := of_dec h1
    subst e1
    exact .mk' (i_glo (s.gl _ h2) (dbB_ok h3).1 fun v hv => g.con y v hv)
  | .bin op a b, X, W, sc, e, g, s, h => by
    unfold mE at h
    split at h
    case h_2 => cases h
    rename_i op' a' b' hx
    obtain ⟨p, rfl⟩ := xBin_eq hx
    obtain ⟨h, h3⟩ := band h
    obtain ⟨h1, h2⟩ := band h
    have e1 := of_dec h1
    subst e1
    exact .mk' (i_bin (sE a g s h2).pe (sE b g s h3).pe)
  | .neg a, X, W, sc, e, g, s, h => by
    unfold mE at h
    split at h
    case h_2 => cases h
    rename_i a' hx
    obtain ⟨p, rfl⟩ := xUn_eq hx
    exact .mk' (i_neg (sE a g s h).pe)
  | .cmp op a b, X, W, sc, e, g, s, h => by
    unfold mE at h
    split at h
    case h_2 => cases h
    rename_i a' op' b' hx
    obtain ⟨p, rfl⟩ := xCmp_eq hx
    obtain ⟨h, h4⟩ := band h
    obtain ⟨h, h3⟩ := band h
    obtain ⟨h1, h2⟩ := band h
    have e1 := of_dec h1
    subst e1
    exact ⟨rfl, i_cmp g.hu (sE a g s h2).pe (sE b g s h3).pe (nb h4), t_cmp g.hu (sE a g s h2).pe (sE b g s h3).pe (nb h4)⟩
  | .chain op op2 a b c, X, W, sc, e, g, s, h => by
    unfold mE at h
    split at h
    case h_2 => cases h
    rename_i a' o1 o2 b' c' hx
    obtain ⟨p, rfl⟩ := xCmp_eq hx
    obtain ⟨h, h6⟩ := band h
    obtain ⟨h, h5⟩ := band h
    obtain ⟨h, h4⟩ := band h
    obtain ⟨h, h3⟩ := band h
    obtain ⟨h1, h2⟩ := band h
    have e1 := of_dec h1
    have e2 := of_dec h2
    subst e1 e2
    exact ⟨rfl, i_chain g.hu (sE a g s h3).pe (sE b g s h4).pe (sE c g s h5).pe (nb h6), t_chain g.hu (sE a g s h3).pe (sE b g s h4).pe (sE c g s h5).pe (nb h6)⟩
  | .boo op es, X, W, sc, e, g, s, h => by
    unfold mE at h
    split at h
    case h_2 => cases h
    rename_i op' es' hx
    obtain ⟨p, rfl⟩ := xBoo_eq hx
    obtain ⟨h, h3⟩ := band h
    obtain ⟨h1, h2⟩ := band h
    have e1 := of_dec h1
    subst e1
    obtain ⟨a1, a2⟩ := sB es g s h2 (nb h3) (op := op) (pos := p)
    have ee : evF G (callF G n) (.boo op es) = evB G (callF G n) op es := by funext st; unfold evF; rfl
    rw [ee]
    exact ⟨rfl, a1, PW.pt a2⟩
  | .not a, X, W, sc, e, g, s, h => by
    unfold mE at h
    split at h
    case h_2 => cases h
    rename_i a' hx
    obtain ⟨p, rfl⟩ := xUn_eq hx
    exact ⟨rfl, i_not (sE a g s h).pe, t_not (sE a g s h).pt⟩
  | .ife c a b, X, W, sc, e, g, s, h => by
    unfold mE at h
    split at h
    case h_2 => cases h
    rename_i c' a' b' hx
    obtain ⟨p, rfl⟩ := xIf_eq hx
    obtain ⟨h, h3⟩ := band h
    obtain ⟨h1, h2⟩ := band h
    exact ⟨rfl, i_ife (sE c g s h1).pt (sE a g s h2).pe (sE b g s h3).pe, t_ife (sE c g s h1).pt (sE a g s h2).pt (sE b g s h3).pt⟩
  | .tup es, X, W, sc, e, g, s, h => by
    unfold mE at h
    split at h
    case h_2 => cases h
    rename_i es' hx
    obtain ⟨k, p, rfl⟩ := xTup_eq hx
    exact .mk' (i_tup (sEs es g s h).2.1)
  | .lst es, X, W, sc, e, g, s, h => by
    unfold mE at h
    split at h
    case h_2 => cases h
    rename_i es' hx
    obtain ⟨p, rfl⟩ := xLst_eq hx
    exact .mk' (i_lst (sEs es g s h).2.1)
  | .dict0, X, W, sc, e, g, s, h => by
    unfold mE at h
    obtain ⟨p, rfl⟩ := xDic_eq h
    exact .mk' i_dict0
  | .sub a i, X, W, sc, e, g, s, h => by
    unfold mE at h
    split at h
    case h_2 => cases h
    rename_i a' i' hx
    obtain ⟨⟨p, rfl⟩, hn⟩ := xSub_eq hx
    obtain ⟨h1, h2⟩ := band h
    exact .mk' (i_sub (by have := g.hu; omega) (sE a g s h1).pe (sE i g s h2).pe (noSlice_ok hn))
  | .slc a lo hi, X, W, sc, e, g, s, h => by
    unfold mE at h
    split at h
    case h_2 => cases h
    rename_i a' lo' hi' hx
    obtain ⟨p, q, rfl⟩ := xSlc_eq hx
    obtain ⟨h, h3⟩ := band h
    obtain ⟨h1, h2⟩ := band h
    exact .mk' (i_slc (sE a g s h1).pe (sOp lo g s h2) (sOp hi g s h3))
  | .rev a, X, W, sc, e, g, s, h => by
    unfold mE at h
    split at h
    case h_2 => cases h
    rename_i a' hx
    obtain ⟨k, p1, p2, p3, p4, rfl⟩ := xRev_eq hx
    exact .mk' (i_rev (sE a g s h).pe)
  | .call f es, X, W, sc, e, g, s, h => by
    unfold mE at h
    split at h
    case h_2 => cases h
    rename_i x es' hx
    obtain ⟨p, q, rfl⟩ := xCall_eq hx
    obtain ⟨h, h5⟩ := band h
    obtain ⟨h, h7⟩ := band h
    obtain ⟨h, h6⟩ := band h
    obtain ⟨h, h4⟩ := band h
    obtain ⟨h, h3⟩ := band h
    obtain ⟨h1, h2⟩ := band h
    have e1 := of_dec h1
    subst e1
    obtain ⟨fa, fd, ps, F, hm, hk⟩ := g.fns f h4 h6
    cases es' with
    | nil =>
      cases es with
      | nil => exact .mk' (i_call0 F.fi (g.room.mono (Nat.le_succ _)) (F.pl h7) g.tk (s.gl _ h2) hm hk (dbB_ok h3).1)
      | cons _ _ => unfold mEs at h5; cases h5
    | cons e0 es0 =>
      obtain ⟨a1, a2, _⟩ := sEs es g s h5
      exact .mk' (i_call F.fi (g.room.mono (Nat.le_succ _)) (F.pl h7) g.tk (s.gl _ h2) hm hk (dbB_ok h3).1 a2 a1)
  | .bi b a, X, W, sc, e, g, s, h => by
    have blt : ∀ {id : String} {nm : String} {x : PySem.Str} {a' : Expr} {p q : Pos} {r : IS → IV → Option RV}, CallR X (.builtin id) (RF X.K W r) → x = sO nm → glB sc x = true → nm ∈ bltS → bootBuiltins (sO nm) = some (.builtin id) → sO nm ≠ "__name__" → (sO nm == ("__debug__" : PySem.Str)) = false →
        SndE X W a' (evF G (callF G n) a) → PEr X W (.Call (.Name x p) [a'] [] q) fun st => (vOf (evF G (callF G n) a st)).bind fun x st => Out.of st (r st x) := fun {id nm x a' p q r} cr ex hg hin hb hn hd S => by
      subst ex
      exact PE.imp (pe_callB cr (s.gl _ hg) (g.bn _ hin) hb (pa_one S.pe S.ns) hn hd (star1 S.ns _ _) rfl) fun g H Q ⟨w, st, R, p⟩ => ⟨w, st, R, Post.bind p fun y st1 _ w1 H1 v l1 R1 r1 q1 => ⟨w1, st1, g, v, y, rfl, R1, r1, q1⟩⟩
    have bty : ∀ {id : String} {nm : String} {x : PySem.Str} {a' : Expr} {p q : Pos} {r : IS → IV → Option RV}, CallR X (.type id) (RF X.K W r) → x = sO nm → glB sc x = true → nm ∈ bltS → bootBuiltins (sO nm) = some (.type id) → sO nm ≠ "__name__" → (sO nm == ("__debug__" : PySem.Str)) = false →
        SndE X W a' (evF G (callF G n) a) → PEr X W (.Call (.Name x p) [a'] [] q) fun st => (vOf (evF G (callF G n) a st)).bind fun x st => Out.of st (r st x) := fun {id nm x a' p q r} cr ex hg hin hb hn hd S => by
      subst ex
      exact PE.imp (pe_callTy cr (s.gl _ hg) (g.bn _ hin) hb (pa_one S.pe S.ns) hn hd (star1 S.ns _ _) rfl) fun g H Q ⟨w, st, R, p⟩ => ⟨w, st, R, Post.bind p fun y st1 _ w1 H1 v l1 R1 r1 q1 => ⟨w1, st1, g, v, y, rfl, R1, r1, q1⟩⟩
    cases b with
    | isi cl =>
      unfold mE at h
      simp only at h
      split at h
      case h_2 => cases h
      rename_i x a' z hx
      split at h
      case h_2 => cases h
      rename_i y hz
      obtain ⟨p, q, rfl⟩ := xCall_eq hx
      obtain ⟨p2, rfl⟩ := xName_eq hz
      obtain ⟨h, h6⟩ := band h
      obtain ⟨h, h5⟩ := band h
      obtain ⟨h, h4⟩ := band h
      obtain ⟨h, h3⟩ := band h
      obtain ⟨h1, h2⟩ := band h
      have e1 := of_dec h1
      have e2 := of_dec h3
      subst e1 e2
      have hin : cl ∈ isiN := by simpa using h5
      have S := sE a g s h6
      have hin2 : cl ∈ bltS := by
        simp only [isiN, List.mem_cons, List.not_mem_nil, or_false] at hin
        rcases hin with rfl | rfl | rfl | rfl | rfl | rfl <;> decide
      have hb : bootBuiltins (sO cl) = some (.type cl) ∧ sO cl ≠ "__name__" ∧ (sO cl == ("__debug__" : PySem.Str)) = false := by
        simp only [isiN, List.mem_cons, List.not_mem_nil, or_false] at hin
        rcases hin with rfl | rfl | rfl | rfl | rfl | rfl <;> decide +kernel
      exact .mk' (i_isi S.pe S.ns (s.gl _ h2) (g.bn "isinstance" (by decide)) (s.gl _ h4) (g.bn _ hin2) hin hb.1 hb.2.1 hb.2.2)
    | rng1 =>
      unfold mE at h
      simp only at h
      split at h
      case h_2 => cases h
      rename_i x z hx
      split at h
      case h_2 => cases h
      rename_i y a' hz
      obtain ⟨p, q, rfl⟩ := xCall_eq hx
      obtain ⟨p2, q2, rfl⟩ := xCall_eq hz
      obtain ⟨h, h5⟩ := band h
      obtain ⟨h, h4⟩ := band h
      obtain ⟨h, h3⟩ := band h
      obtain ⟨h1, h2⟩ := band h
      have e1 := of_dec h1
      have e2 := of_dec h3
      subst e1 e2
      have S := sE a g s h5
      exact .mk' (i_rng1 g.calm S.pe S.ns (s.gl _ h2) (g.bn "list" (by decide)) (s.gl _ h4) (g.bn "range" (by decide)))
    | sortedSet =>
      unfold mE at h
      simp only at h
      split at h
      case h_2 => cases h
      rename_i x z hx
      split at h
      case h_2 => cases h
      rename_i y a' hz
      obtain ⟨p, q, rfl⟩ := xCall_eq hx
      obtain ⟨p2, q2, rfl⟩ := xCall_eq hz
      obtain ⟨h, h5⟩ := band h
      obtain ⟨h, h4⟩ := band h
      obtain ⟨h, h3⟩ := band h
      obtain ⟨h1, h2⟩ := band h
      have e1 := of_dec h1
      have e2 := of_dec h3
      subst e1 e2
      have S := sE a g s h5
      exact .mk' (i_sortedSet g.calm S.pe S.ns (s.gl _ h2) (g.bn "sorted" (by decide)) (s.gl _ h4) (g.bn "set" (by decide)))
    | lenSet =>
      unfold mE at h
      simp only at h
      split at h
      case h_2 => cases h
      rename_i x z hx
      split at h
      case h_2 => cases h
      rename_i y a' hz
      obtain ⟨p, q, rfl⟩ := xCall_eq hx
      obtain ⟨p2, q2, rfl⟩ := xCall_eq hz
      obtain ⟨h, h5⟩ := band h
      obtain ⟨h, h4⟩ := band h
      obtain ⟨h, h3⟩ := band h
      obtain ⟨h1, h2⟩ := band h
      have e1 := of_dec h1
      have e2 := of_dec h3
      subst e1 e2
      have S := sE a g s h5
      exact .mk' (i_lenSet g.calm S.pe S.ns (s.gl _ h2) (g.bn "len" (by decide)) (s.gl _ h4) (g.bn "set" (by decide)))
    | zipl =>
      unfold mE at h
      simp only [biN] at h
      split at h
      · rename_i heq
        cases heq
      · cases h
    | len =>
      unfold mE at h
      simp only [biN] at h
      split at h
      case h_2 => cases h
      rename_i x a' nm hx hnm
      cases hnm
      obtain ⟨p, q, rfl⟩ := xCall_eq hx
      obtain ⟨h, h3⟩ := band h
      obtain ⟨h1, h2⟩ := band h
      exact .mk' (blt cr_len (of_dec h1) h2 (by decide) boot_len (by decide) (by decide) (sE a g s h3))
    | list =>
      unfold mE at h
      simp only [biN] at h
      split at h
      case h_2 => cases h
      rename_i x a' nm hx hnm
      cases hnm
      obtain ⟨p, q, rfl⟩ := xCall_eq hx
      obtain ⟨h, h3⟩ := band h
      obtain ⟨h1, h2⟩ := band h
      exact .mk' (bty cr_list (of_dec h1) h2 (by decide) (by decide +kernel) (by decide) (by decide) (sE a g s h3))
    | all =>
      unfold mE at h
      simp only [biN] at h
      split at h
      case h_2 => cases h
      rename_i x a' nm hx hnm
      cases hnm
      obtain ⟨p, q, rfl⟩ := xCall_eq hx
      obtain ⟨h, h3⟩ := band h
      obtain ⟨h1, h2⟩ := band h
      exact .mk' (blt (cr_allI g.calm) (of_dec h1) h2 (by decide) (by decide +kernel) (by decide) (by decide) (sE a g s h3))
    | any =>
      unfold mE at h
      simp only [biN] at h
      split at h
      case h_2 => cases h
      rename_i x a' nm hx hnm
      cases hnm
      obtain ⟨p, q, rfl⟩ := xCall_eq hx
      obtain ⟨h, h3⟩ := band h
      obtain ⟨h1, h2⟩ := band h
      exact .mk' (blt (cr_any g.calm) (of_dec h1) h2 (by decide) (by decide +kernel) (by decide) (by decide) (sE a g s h3))
    | int1 =>
      unfold mE at h
      simp only [biN] at h
      split at h
      case h_2 => cases h
      rename_i x a' nm hx hnm
      cases hnm
      obtain ⟨p, q, rfl⟩ := xCall_eq hx
      obtain ⟨h, h3⟩ := band h
      obtain ⟨h1, h2⟩ := band h
      exact .mk' (bty cr_int1 (of_dec h1) h2 (by decide) (by decide +kernel) (by decide) (by decide) (sE a g s h3))
    | sorted =>
      unfold mE at h
      simp only [biN] at h
      split at h
      case h_2 => cases h
      rename_i x a' nm hx hnm
      cases hnm
      obtain ⟨p, q, rfl⟩ := xCall_eq hx
      obtain ⟨h, h3⟩ := band h
      obtain ⟨h1, h2⟩ := band h
      exact .mk' (blt cr_sorted (of_dec h1) h2 (by decide) (by decide +kernel) (by decide) (by decide) (sE a g s h3))
    | sortedD =>
      unfold mE at h
      simp only [biN] at h
      split at h
      case h_2 => cases h
      rename_i x a' nm hx hnm
      cases hnm
      obtain ⟨p, q, rfl⟩ := xCall_eq hx
      obtain ⟨h, h3⟩ := band h
      obtain ⟨h1, h2⟩ := band h
      exact .mk' (blt (cr_sortedD g.calm) (of_dec h1) h2 (by decide) (by decide +kernel) (by decide) (by decide) (sE a g s h3))
    | repr =>
      unfold mE at h
      simp only [biN] at h
      split at h
      case h_2 => cases h
      rename_i x a' nm hx hnm
      cases hnm
      obtain ⟨p, q, rfl⟩ := xCall_eq hx
      obtain ⟨h, h3⟩ := band h
      obtain ⟨h1, h2⟩ := band h
      exact .mk' (blt (cr_repr g.gd g.hu) (of_dec h1) h2 (by decide) (by decide +kernel) (by decide) (by decide) (sE a g s h3))
  | .bi2 bb a c, X, W, sc, e, g, s, h => by
    cases bb with
    | zipl =>
      unfold mE at h
      split at h
      case h_2 => cases h
      rename_i x z hx
      split at h
      case h_2 => cases h
      rename_i y a' b' hz
      obtain ⟨p, q, rfl⟩ := xCall_eq hx
      obtain ⟨p2, q2, rfl⟩ := xCall_eq hz
      obtain ⟨h, h6⟩ := band h
      obtain ⟨h, h5⟩ := band h
      obtain ⟨h, h4⟩ := band h
      obtain ⟨h, h3⟩ := band h
      obtain ⟨h1, h2⟩ := band h
      have e1 := of_dec h1
      have e2 := of_dec h3
      subst e1 e2
      have S := sE a g s h5
      have T := sE c g s h6
      exact .mk' (i_zipl g.calm S.pe T.pe S.ns T.ns (s.gl _ h2) (g.bn "list" (by decide)) (s.gl _ h4) (g.bn "zip" (by decide)))
    | _ => unfold mE at h; cases h
  | .lc e t it ifs own, X, W, sc, x, g, s, h => by
    unfold mE at h
    split at h
    case h_2 => cases h
    rename_i elt tg iter ifs' scope hx
    obtain ⟨p, rfl⟩ := xLc_eq hx
    obtain ⟨h, h7⟩ := band h
    obtain ⟨h, h6⟩ := band h
    obtain ⟨h, h5⟩ := band h
    obtain ⟨h, h4⟩ := band h
    obtain ⟨h, h3⟩ := band h
    obtain ⟨h1, h2⟩ := band h
    have hsub : ∀ j ∈ tgtSl t, j ∈ (ownS own).map (·.2) := fun j hj => by
      rw [ownS_snd]
      have := List.all_eq_true.mp h6 j hj
      simpa using this
    have r := i_lc (elt := elt) (tg := tg) (iter := iter) (ifs := ifs') (own := ownS own) (pos := p) g.calm g.nd (sW it g s h3) (s.blk _ _ h5)
      (fun s H C cl fp => (sT (g.blk s H scope C cl fp) (ScOk.blkS s H scope C cl fp) t h2).2) (fun s H C cl fp => sIf ifs (g.blk s H scope C cl fp) (ScOk.blkS s H scope C cl fp) h4)
      (fun s H C cl fp => toS (sE e (g.blk s H scope C cl fp) (ScOk.blkS s H scope C cl fp) h1).pe) (noSet_ok h7 _) hsub
    rw [ownS_snd] at r
    have ee : evF G (callF G n) (.lc e t it ifs own) = lcF (evW G (callF G n) it) t (evTo G (callF G n) ifs) (evF G (callF G n) e) (own.map (·.2)) := by funext st; unfold evF; rfl
    rw [ee]
    exact .mk' r
  | .cell a, X, W, sc, e, g, s, h => by
    unfold mE at h
    obtain ⟨h1, h2⟩ := band h
    have S := sE a g s h2
    exact .mk' (i_cell S.pe) S.ns (plainE_ok h1 _)
  | .dict1 a b, X, W, sc, e, g, s, h => by
    unfold mE at h
    split at h
    case h_2 => cases h
    rename_i a' b' hx
    obtain ⟨p, rfl⟩ := xDic1_eq hx
    obtain ⟨h1, h2⟩ := band h
    have g0 : GoodE X G n noW := { g with tk := fun u s' ⟨a, B, sI, pins, σ, H, cls, d, e, I, nb, up, sky, na, os, ag, w⟩ => w.elim }
    exact .mk' (i_dict1 (toS (sE a g0 s h1).pe) (toS (sE b g0 s h2).pe))
  | .attr a f, X, W, sc, e, g, s, h => by
    unfold mE at h
    split at h
    case h_2 => cases h
    rename_i a' f' hx
    obtain ⟨⟨p, rfl⟩, hb⟩ := xAttr_eq hx
    obtain ⟨h1, h2⟩ := band h
    have e1 := of_dec h1
    subst e1
    exact .mk' (i_attr (sE a g s h2).pe (noCall0_ok hb _ _) fun c hc => g.fld c f hc)
  | .meth o m es, X, W, sc, e, g, s, h => by
    unfold mE at h
    split at h
    case h_2 => cases h
    rename_i o' m' es' hx
    obtain ⟨p, q, rfl, hl, hb⟩ := xMeth_eq hx
    obtain ⟨h, h4⟩ := band h
    obtain ⟨h, h3⟩ := band h
    obtain ⟨h, h5⟩ := band h
    obtain ⟨h1, h2⟩ := band h
    have e1 := of_dec h1
    have e2 := of_dec h2
    subst e1
    obtain ⟨a1, a2, _⟩ := sEs es g s h4
    have M : MtK X G n (2 * n) m := fun c hc => let ⟨fa, fd, ps, k, c1, c2⟩ := g.mth c m hc; ⟨fa, fd, ps, c1, c2, k.fi, k.pl h5⟩
    have few := few_ok (kws := []) (pos := q) (env := X.env) a1 rfl (by simpa using e2)
    cases es' with
    | nil =>
      cases es with
      | nil => exact .mk' (i_meth0 (sE o g s h3).pe M (g.room.mono (Nat.le_succ _)) g.tk (meth_eq (noCall0_ok hb _ _) hl few))
      | cons _ _ => unfold mEs at h4; cases h4
    | cons e0 es0 => exact .mk' (i_meth (sE o g s h3).pe M (g.room.mono (Nat.le_succ _)) g.tk a2 a1 (meth_eq (noCall0_ok hb _ _) hl few))
  | .mk keep c es kes ks o, X, W, sc, e, g, s, h => by
    unfold mE at h
    split at h
    case h_2 => cases h
    rename_i x es' kws hx
    obtain ⟨p, q, rfl⟩ := xCallK_eq hx
    obtain ⟨h, h7⟩ := band h
    obtain ⟨h, h6⟩ := band h
    obtain ⟨h, h5⟩ := band h
    obtain ⟨h, h4⟩ := band h
    obtain ⟨h, h3⟩ := band h
    obtain ⟨h1, h2⟩ := band h
    have e1 := of_dec h1
    subst e1
    obtain ⟨fa, fd, ps, F, M, hm⟩ := g.mks c h4
    obtain ⟨a1, a2, a3⟩ := sEs es g s h6
    obtain ⟨b1, b2, b3⟩ := sK kes g s h7
    exact .mk' (i_mk M F.fi g.room (F.bd _ (hasB_mem h5)) g.tk (s.gl _ h2) hm (dbB_ok h3).1 a2 b2 a1 a3 b1 (fun st xs st' z => evs_len z) fun st xs st' z => by rw [evs_len z, List.length_map, b3])
  | .callB f es kes ks o, X, W, sc, e, g, s, h => by
    unfold mE at h
    split at h
    case h_2 => cases h
    rename_i x es' kws hx
    obtain ⟨p, q, rfl⟩ := xCallK_eq hx
    obtain ⟨h, h8⟩ := band h
    obtain ⟨h, h7⟩ := band h
    obtain ⟨h, h6⟩ := band h
    obtain ⟨h, h5⟩ := band h
    obtain ⟨h, h4⟩ := band h
    obtain ⟨h, h3⟩ := band h
    obtain ⟨h1, h2⟩ := band h
    have e1 := of_dec h1
    subst e1
    obtain ⟨fa, fd, ps, F, hm, hk⟩ := g.fns f h4 h5
    obtain ⟨a1, a2, a3⟩ := sEs es g s h7
    obtain ⟨b1, b2, b3⟩ := sK kes g s h8
    exact .mk' (i_callB F.fi (g.room.mono (Nat.le_succ _)) (F.bd _ (hasB_mem h6)) g.tk (s.gl _ h2) hm hk (dbB_ok h3).1 a2 b2 a1 a3 b1 (fun st xs st' z => evs_len z) fun st xs st' z => by rw [evs_len z, List.length_map, b3])
  | .methB a m es kes ks o, X, W, sc, e, g, s, h => by
    unfold mE at h
    split at h
    case h_2 => cases h
    rename_i a' m' es' kws hx
    obtain ⟨p, q, rfl, hl, hb⟩ := xMethK_eq hx
    obtain ⟨h, h6⟩ := band h
    obtain ⟨h, h5⟩ := band h
    obtain ⟨h, h4⟩ := band h
    obtain ⟨h, h3⟩ := band h
    obtain ⟨h1, h2⟩ := band h
    have e1 := of_dec h1
    have e2 := of_dec h2
    subst e1
    obtain ⟨a1, a2, a3⟩ := sEs es g s h5
    obtain ⟨b1, b2, b3⟩ := sK kes g s h6
    have M : MtB X G n (2 * n) m es.length (ks.map sO) o := fun c hc => let ⟨fa, fd, ps, k, c1, c2⟩ := g.mth c m hc; ⟨fa, fd, ps, c1, c2, k.fi, k.bd _ (hasB_mem h3)⟩
    exact .mk' (i_methB (sE a g s h4).pe M (g.room.mono (Nat.le_succ _)) g.tk a2 b2 a1 a3 b1 (fun st xs st' z => evs_len z) (fun st xs st' z => by rw [evs_len z, List.length_map, b3]) (meth_eq (noCall0_ok hb _ _) hl (few_ok a1 (b1 q X.env).1 e2)))
  | .lsc e t it ifs own, X, W, sc, x, g, s, h => by
    unfold mE at h
    split at h
    case h_2 => cases h
    rename_i y elt tg iter ifs' scope hx
    obtain ⟨p, p2, p3, rfl⟩ := xLsc_eq hx
    obtain ⟨h, h7⟩ := band h
    obtain ⟨h, h6⟩ := band h
    obtain ⟨h, h5⟩ := band h
    obtain ⟨h, h4⟩ := band h
    obtain ⟨h, h3⟩ := band h
    obtain ⟨h, h2⟩ := band h
    obtain ⟨h, h1⟩ := band h
    obtain ⟨h8, h9⟩ := band h
    have e1 := of_dec h8
    subst e1
    have hsub : ∀ j ∈ tgtSl t, j ∈ (ownS own).map (·.2) := fun j hj => by
      rw [ownS_snd]
      have := List.all_eq_true.mp h6 j hj
      simpa using this
    have r := i_lenSc (elt := elt) (tg := tg) (iter := iter) (ifs := ifs') (own := ownS own) (pos := p2) (p := p) (q := p3) g.calm g.nd (sW it g s h3) (s.blk _ _ h5)
      (fun s H C cl fp => (sT (g.blk s H scope C cl fp) (ScOk.blkS s H scope C cl fp) t h2).2) (fun s H C cl fp => sIf ifs (g.blk s H scope C cl fp) (ScOk.blkS s H scope C cl fp) h4)
      (fun s H C cl fp => toS (sE e (g.blk s H scope C cl fp) (ScOk.blkS s H scope C cl fp) h1).pe) (noSet_ok h7 _) hsub (s.gl _ h9) (g.bn "len" (by decide))
    rw [ownS_snd] at r
    have ee : evF G (callF G n) (.lsc e t it ifs own) = scF (evW G (callF G n) it) t (evTo G (callF G n) ifs) (evF G (callF G n) e) (own.map (·.2)) := by funext st; unfold evF; rfl
    rw [ee]
    exact .mk' r
  | .app o a, X, W, sc, e, g, s, h => by
    unfold mE at h
    split at h
    case h_2 => cases h
    rename_i o' m a' hx
    obtain ⟨p, q, rfl, hl, hb⟩ := xMeth_eq hx
    obtain ⟨h, h3⟩ := band h
    obtain ⟨h1, h2⟩ := band h
    have e1 := of_dec h1
    subst e1
    have S := sE a g s h3
    exact .mk' (i_app (sE o g s h2).pe S.pe S.ns (noCall0_ok hb _ _) hl)
  | .pop1 o a, X, W, sc, e, g, s, h => by
    unfold mE at h
    split at h
    case h_2 => cases h
    rename_i o' m a' hx
    obtain ⟨p, q, rfl, hl, hb⟩ := xMeth_eq hx
    obtain ⟨h, h3⟩ := band h
    obtain ⟨h1, h2⟩ := band h
    have e1 := of_dec h1
    subst e1
    have S := sE a g s h3
    exact .mk' (i_pop1 (sE o g s h2).pe S.pe S.ns (noCall0_ok hb _ _) hl)
  | .get2 o a b, X, W, sc, e, g, s, h => by
    unfold mE at h
    split at h
    case h_2 => cases h
    rename_i o' m a' b' hx
    obtain ⟨p, q, rfl, hl, hb⟩ := xMeth_eq hx
    obtain ⟨h, h4⟩ := band h
    obtain ⟨h, h3⟩ := band h
    obtain ⟨h1, h2⟩ := band h
    have e1 := of_dec h1
    subst e1
    have S := sE a g s h3
    have T := sE b g s h4
    exact .mk' (i_get2 (by have := g.hu; omega) (sE o g s h2).pe S.pe T.pe S.ns T.ns (noCall0_ok hb _ _) hl)
  | .index o a, X, W, sc, e, g, s, h => by
    unfold mE at h
    split at h
    case h_2 => cases h
    rename_i o' m a' hx
    obtain ⟨p, q, rfl, hl, hb⟩ := xMeth_eq hx
    obtain ⟨h, h3⟩ := band h
    obtain ⟨h1, h2⟩ := band h
    have e1 := of_dec h1
    subst e1
    have S := sE a g s h3
    exact .mk' (i_index g.hu (sE o g s h2).pe S.pe S.ns (noCall0_ok hb _ _) hl)
theorem sEs : ∀ (cs : List CE) {X : Cx} {W : WX} {sc : Scope} {es : List Expr}, GoodE X G n W → ScOk X sc → mEs G X.N sc cs es = true → es.all noStar = true ∧ PAi X W es (evs G (callF G n) cs) ∧ (es = [] → evs G (callF G n) cs = fun st => .ok [] st)
  | [], X, W, sc, [], g, s, h => ⟨rfl, pa_nilI, fun _ => by funext st; rw [evs]⟩
  | [], X, W, sc, _ :: _, g, s, h => by unfold mEs at h; cases h
  | _ :: _, X, W, sc, [], g, s, h => by unfold mEs at h; cases h
  | c :: cs, X, W, sc, e :: es, g, s, h => by
    unfold mEs at h
    obtain ⟨h1, h2⟩ := band h
    have S := sE c g s h1
    obtain ⟨b1, b2, _⟩ := sEs cs g s h2
    refine ⟨by rw [List.all_cons, S.ns, b1]; rfl, ?_, fun z => nomatch z⟩
    have r := pa_consI (toS S.pe) b2 (star1 S.ns es X.env)
    have ee : evs G (callF G n) (c :: cs) = fun st => (sOf (evF G (callF G n) c st)).bind fun x st => (evs G (callF G n) cs st).bind fun xs st => .ok (x :: xs) st := by funext st; conv => lhs; unfold evs
    rw [ee]
    exact r
theorem sK : ∀ (cs : List CE) {X : Cx} {W : WX} {sc : Scope} {ks : List String} {kws : List Keyword}, GoodE X G n W → ScOk X sc → mK G X.N sc cs ks kws = true → kwIs (ks.map sO) kws ∧ PKi X W kws (evs G (callF G n) cs) ∧ cs.length = ks.length
  | [], X, W, sc, [], [], g, s, h => ⟨fun _ _ => ⟨rfl, rfl⟩, pk_nilI, rfl⟩
  | [], X, W, sc, [], _ :: _, g, s, h => by unfold mK at h; cases h
  | [], X, W, sc, _ :: _, _, g, s, h => by unfold mK at h; cases h
  | _ :: _, X, W, sc, [], _, g, s, h => by unfold mK at h; cases h
  | _ :: _, X, W, sc, _ :: _, [], g, s, h => by unfold mK at h; cases h
  | c :: cs, X, W, sc, k :: ks, ⟨nm, e, kp⟩ :: kws, g, s, h => by
    unfold mK at h
    obtain ⟨h, h3⟩ := band h
    obtain ⟨h1, h2⟩ := band h
    have e1 : nm = some (sO k) := of_dec h1
    subst e1
    have S := sE c g s h2
    obtain ⟨b1, b2, b3⟩ := sK cs g s h3
    have ee : evs G (callF G n) (c :: cs) = fun st => (sOf (evF G (callF G n) c st)).bind fun x st => (evs G (callF G n) cs st).bind fun xs st => .ok (x :: xs) st := by funext st; conv => lhs; unfold evs
    refine ⟨fun pos env => ?_, by rw [ee]; exact pk_consI (toS S.pe) b2, by rw [List.length_cons, List.length_cons, b3]⟩
    obtain ⟨q1, q2⟩ := b1 pos env
    exact ⟨by show (true && (backToKw pos (keywordEach kws env)).all (·.1.isSome)) = true; rw [q1]; rfl, by show sO k :: (backToKw pos (keywordEach kws env)).filterMap (·.1) = _; rw [q2]; rfl⟩
theorem sB : ∀ (cs : List CE) {X : Cx} {W : WX} {sc : Scope} {es : List Expr} {op : BoolOp} {pos : Pos}, GoodE X G n W → ScOk X sc → mEs G X.N sc cs es = true → cs.isEmpty = false →
    PEr X W (.BoolOp op es pos) (evB G (callF G n) op cs) ∧ PWi X W (.BoolOp op es pos) fun st => tOf (evB G (callF G n) op cs st)
  | [], X, W, sc, es, op, pos, g, s, h, hn => by cases hn
  | [c], X, W, sc, es, op, pos, g, s, h, hn => by
    cases es with
    | nil => unfold mEs at h; cases h
    | cons e es =>
      unfold mEs at h
      obtain ⟨h1, h2⟩ := band h
      cases es with
      | cons _ _ => unfold mEs at h2; cases h2
      | nil =>
        have S := sE c g s h1
        rw [evB_one]
        exact ⟨i_boo1 S.pe, t_boo1 S.pt⟩
  | c :: c2 :: cs, X, W, sc, es, op, pos, g, s, h, hn => by
    cases es with
    | nil => unfold mEs at h; cases h
    | cons e es =>
      unfold mEs at h
      obtain ⟨h1, h2⟩ := band h
      have S := sE c g s h1
      obtain ⟨b1, b2⟩ := sB (c2 :: cs) (op := op) (pos := pos) g s h2 rfl
      cases es with
      | nil => unfold mEs at h2; cases h2
      | cons e2 es =>
        rw [evB_two]
        exact ⟨i_boo S.pe b1, t_boo S.pt b2⟩
theorem sOp : ∀ (c : Option CE) {X : Cx} {W : WX} {sc : Scope} {e : Option Expr}, GoodE X G n W → ScOk X sc → mO G X.N sc c e = true → POi X W e (evO G (callF G n) c)
  | none, X, W, sc, none, g, s, h => o_none
  | none, X, W, sc, some _, g, s, h => by unfold mO at h; cases h
  | some _, X, W, sc, none, g, s, h => by unfold mO at h; cases h
  | some c, X, W, sc, some e, g, s, h => by
    unfold mO at h
    exact o_some (sE c g s h).pe
theorem sIf : ∀ (c : Option CE) {X : Cx} {W : WX} {sc : Scope} {es : List Expr}, GoodE X G n W → ScOk X sc → mI G X.N sc c es = true → PTs X es (Ip.TI X.K W rI (evTo G (callF G n) c))
  | none, X, W, sc, es, g, s, h => by
    unfold mI at h
    split at h
    · exact ⟨fun pins s σ H Q I ⟨w, st, R, p⟩ => pts_nil.run pins s σ H Q I (p.ok R rfl)⟩
    · rename_i heq
      cases heq
    · cases h
  | some c, X, W, sc, es, g, s, h => by
    unfold mI at h
    split at h
    · rename_i heq
      cases heq
    · rename_i heq
      cases heq
      exact pts_one (sE c g s h).pt
    · cases h
theorem sW : ∀ (c : IT) {X : Cx} {W : WX} {sc : Scope} {tg e : Expr}, GoodE X G n W → ScOk X sc → mW G X.N sc c tg e = true → PIi X W tg e (evW G (callF G n) c)
  | .it c, X, W, sc, tg, e, g, s, h => by
    unfold mW at h
    exact w_it (sE c g s h).pe
  | .rng1 a, X, W, sc, tg, e, g, s, h => by
    unfold mW at h
    split at h
    case h_2 => cases h
    rename_i x a' hx
    obtain ⟨p, q, rfl⟩ := xCall_eq hx
    obtain ⟨h, h3⟩ := band h
    obtain ⟨h1, h2⟩ := band h
    have e1 := of_dec h1
    subst e1
    have S := sE a g s h3
    exact w_rng1 S.pe S.ns (s.gl _ h2) (g.bn "range" (by decide))
  | .rng2 a b, X, W, sc, tg, e, g, s, h => by
    unfold mW at h
    split at h
    case h_2 => cases h
    rename_i x a' b' hx
    obtain ⟨p, q, rfl⟩ := xCall_eq hx
    obtain ⟨h, h4⟩ := band h
    obtain ⟨h, h3⟩ := band h
    obtain ⟨h1, h2⟩ := band h
    have e1 := of_dec h1
    subst e1
    have S := sE a g s h3
    have T := sE b g s h4
    exact w_rng2 S.pe T.pe S.ns T.ns (s.gl _ h2) (g.bn "range" (by decide))
  | .enum a, X, W, sc, tg, e, g, s, h => by
    unfold mW at h
    split at h
    case h_2 => cases h
    rename_i x a' es hx ht
    obtain ⟨p, q, rfl⟩ := xCall_eq hx
    obtain ⟨k, p2, rfl⟩ := xTup_eq ht
    obtain ⟨h, h3⟩ := band h
    obtain ⟨h1, h2⟩ := band h
    have e1 := of_dec h1
    subst e1
    have S := sE a g s h3
    exact w_enum S.pe S.ns (s.gl _ h2) (g.bn "enumerate" (by decide))
  | .zip a b, X, W, sc, tg, e, g, s, h => by
    unfold mW at h
    split at h
    case h_2 => cases h
    rename_i x a' b' es hx ht
    obtain ⟨p, q, rfl⟩ := xCall_eq hx
    obtain ⟨k, p2, rfl⟩ := xTup_eq ht
    obtain ⟨h, h4⟩ := band h
    obtain ⟨h, h3⟩ := band h
    obtain ⟨h1, h2⟩ := band h
    have e1 := of_dec h1
    subst e1
    have S := sE a g s h3
    have T := sE b g s h4
    exact w_zip S.pe T.pe S.ns T.ns (s.gl _ h2) (g.bn "zip" (by decide))
end
end
end Ip

/-! Ip16: what matches is read rightly: statements. -/
namespace Ip
open PySem PySem.Spec PyProof.Rows L2
def noComp : Expr → Bool
  | .ListComp _ _ _ _ => false
  | .SetComp _ _ _ _ => false
  | .DictComp _ _ _ _ _ => false
  | _ => true
theorem noComp_ok {e : Expr} (h : noComp e = true) (t : Option Expr) (l : Nat) (env : Env) : swapsWith e t l env = pure false := by
  cases e <;> first | rfl | cases h
/-- is name = [..] made on the name's own slot -/
def swB (sc : Scope) (x : PySem.Str) (p' : Pos) : Expr → Bool
  | .ListComp _ _ scope lp => decide (sc.names.lookup x = some .local) && (p'.line == lp.line) && !(scope.names.any fun (n, k) => n == x && (k == .local || k == .cell))
  | _ => false
theorem swB_false {sc : Scope} {x : PySem.Str} {p' : Pos} {e : Expr} {env : Env} {l : Nat} (hk : env.scope.kind = .function) (hsc : env.scope = sc) (hn : (noComp e || (xLc e).isSome) = true) (h : swB sc x p' e = false) : swapsWith e (some (.Name x p')) l env = pure false := by
  by_cases hc : noComp e = true
  · exact noComp_ok hc _ _ _
  · have hc' : noComp e = false := by simpa using hc
    rw [hc', Bool.false_or] at hn
    obtain ⟨⟨elt, tg, iter, ifs, scope⟩, hx⟩ := Option.isSome_iff_exists.mp hn
    obtain ⟨p, rfl⟩ := xLc_eq hx
    have hb : env.blockKind = .function := by unfold Env.blockKind; rw [hk]; rfl
    unfold swapsWith
    simp only [hb, Expr.pos]
    have h' : (decide (env.scope.names.lookup x = some .local) && (p'.line == p.line) && !(scope.names.any fun (n, k) => n == x && (k == .local || k == .cell))) = false := by rw [hsc]; exact h
    have hd : (env.kindOf x == some NameKind.local) = decide (env.scope.names.lookup x = some .local) := by
      show (env.scope.names.lookup x == some NameKind.local) = _
      exact Bool.beq_eq_decide_eq _ _
    rw [hd]
    have : ((NameKind.local == NameKind.local) : Bool) = true := rfl
    show pure (_ && decide (env.scope.names.lookup x = some .local) && _ && _) = pure false
    rw [show ((ScopeKind.function == ScopeKind.function) : Bool) = true from rfl, Bool.true_and, h']
theorem swB_true {sc : Scope} {x : PySem.Str} {p' : Pos} {e : Expr} {env : Env} {l : Nat} (hk : env.scope.kind = .function) (hsc : env.scope = sc) (h : swB sc x p' e = true) : swapsWith e (some (.Name x p')) l env = pure true ∧ env.scope.names.lookup x = some .local := by
  unfold swB at h
  split at h
  · obtain ⟨h, h3⟩ := band h
    obtain ⟨h1, h2⟩ := band h
    have h1' : env.scope.names.lookup x = some .local := by rw [hsc]; exact of_dec h1
    exact ⟨sw_true hk h1' h2 (nb h3), h1'⟩
  · cases h
def parB (sc : Scope) (x y : PySem.Str) (px py : Pos) (a b : Expr) : Bool :=
  decide (sc.names.lookup x = some .local) && decide (sc.names.lookup y = some .local) && (px.line == py.line) && !(x == y) && noStar a && noStar b && !([a, b].all (foldedForSure 8)) && !([a, b].all (constantsAlone 8))
theorem parB_ok {sc : Scope} {x y : PySem.Str} {px py pt pt2 : Pos} {kt k2 : Nat} {a b : Expr} {env : Env} (hk : env.scope.kind = .function) (hsc : env.scope = sc) (h : parB sc x y px py a b = true) :
    swappedStores [.Tuple [.Name x px, .Name y py] kt pt] (.Tuple [a, b] k2 pt2) env = pure (some [x, y]) ∧ env.scope.names.lookup x = some .local ∧ env.scope.names.lookup y = some .local ∧ x ≠ y ∧ noStar a = true ∧ noStar b = true := by
  obtain ⟨h, h8⟩ := band h
  obtain ⟨h, h7⟩ := band h
  obtain ⟨h, h6⟩ := band h
  obtain ⟨h, h5⟩ := band h
  obtain ⟨h, h4⟩ := band h
  obtain ⟨h, h3⟩ := band h
  obtain ⟨h1, h2⟩ := band h
  have k1 : env.scope.names.lookup x = some .local := by rw [hsc]; exact of_dec h1
  have k2 : env.scope.names.lookup y = some .local := by rw [hsc]; exact of_dec h2
  have hb : env.blockKind = .function := by unfold Env.blockKind; rw [hk]; rfl
  have hxy : x ≠ y := fun z => by subst z; simp at h4
  refine ⟨?_, k1, k2, hxy, h5, h6⟩
  have e1 : env.kindOf x = some .local := k1
  have e2 : env.kindOf y = some .local := k2
  have hl : py.line = px.line := (eq_of_beq h3).symm
  have h4' : (y == x) = false := by simpa using fun z => hxy z.symm
  have h7' := nb h7
  have h8' := nb h8
  unfold swappedStores
  simp only [hb, List.length_cons, List.length_nil, List.any_cons, List.any_nil, List.head?_cons, Option.map_some, Option.getD_some, Expr.pos, List.filterMap_cons, List.filterMap_nil, e1, e2, hl, h7', h8', beq_self_eq_true, Bool.and_self, if_true, Bool.or_false, Bool.false_eq_true, if_false]
  simp [List.eraseDups_cons, h4', hxy, Ne.symm hxy]
  intro z
  rcases z with z | z
  · cases a <;> first | (cases z; done) | exact (Bool.false_ne_true h5).elim
  · cases b <;> first | (cases z; done) | exact (Bool.false_ne_true h6).elim

def swNone (sc : Scope) : Expr → Bool
  | .Tuple [.Name x _, .Name y _] _ _ => !(decide (sc.names.lookup x = some .local)) || !(decide (sc.names.lookup y = some .local))
  | _ => false
theorem swNone_ok {sc : Scope} {tg e : Expr} {env : Env} (hsc : env.scope = sc) (h : swNone sc tg = true) : swappedStores [tg] e env = pure none := by
  unfold swNone at h
  split at h
  · rename_i x px y py k p
    cases e with
    | Tuple vs k2 p2 =>
      have kd : ∀ z, (env.kindOf z == some NameKind.local) = decide (sc.names.lookup z = some .local) := fun z => by
        show (env.scope.names.lookup z == some NameKind.local) = _
        rw [hsc]
        exact Bool.beq_eq_decide_eq _ _
      have hn : ([Expr.Name x px, Expr.Name y py].filterMap fun
          | .Name id pos => if env.kindOf id == some .local && pos.line == px.line then some id else none
          | _ => none).length ≠ 2 := by
        simp only [List.filterMap_cons, List.filterMap_nil, kd]
        rcases Bool.or_eq_true_iff.mp h with h | h
        · have h' : decide (sc.names.lookup x = some .local) = false := by simpa using h
          rw [h']
          simp only [Bool.false_and, Bool.false_eq_true, if_false]
          split <;> simp
        · have h' : decide (sc.names.lookup y = some .local) = false := by simpa using h
          rw [h']
          simp only [Bool.false_and, Bool.false_eq_true, if_false]
          split <;> simp
      have hn' : ((([Expr.Name x px, Expr.Name y py].filterMap fun
          | .Name id pos => if env.kindOf id == some .local && pos.line == px.line then some id else none
          | _ => none).length != 2) = true) := by simpa using hn
      unfold swappedStores
      simp only [List.length_cons, List.length_nil, List.head?_cons, Option.map_some, Option.getD_some, Expr.pos]
      split
      · rfl
      · split
        · rfl
        · first
            | (split <;> rfl)
            | exact if_pos (by rw [Bool.or_eq_true]; exact .inl hn')
    | _ => rfl
  · cases h
/-! ### statements -/
def zExpr : Stmt → Option Expr
  | .Expr e _ => some e
  | _ => none
def zDoc : Stmt → Bool
  | .Pass _ => true
  | .Expr (.Constant (.str _) _ _) _ => true
  | _ => false
def zRet : Stmt → Option Expr
  | .Return (some e) _ => some e
  | _ => none
def zRet0 : Stmt → Bool
  | .Return none _ => true
  | _ => false
def zAsgN : Stmt → Option (PySem.Str × Pos × Expr)
  | .Assign [.Name x p] e _ => some (x, p, e)
  | _ => none
def zAsgT : Stmt → Option (Expr × Expr)
  | .Assign [.Tuple es k p] e _ => some (.Tuple es k p, e)
  | _ => none
def zAsgS : Stmt → Option (Expr × Expr × Expr)
  | .Assign [.Subscript o i _] e _ => if noSlice i then some (o, i, e) else none
  | _ => none
def zAsgA : Stmt → Option (Expr × PySem.Str × Expr)
  | .Assign [.Attribute o f _] e _ => some (o, f, e)
  | _ => none
def zPar : Stmt → Option (PySem.Str × Pos × PySem.Str × Pos × Expr × Expr)
  | .Assign [.Tuple [.Name x px, .Name y py] _ _] (.Tuple [a, b] _ _) _ => some (x, px, y, py, a, b)
  | _ => none
def zSwp : Stmt → Option (Expr × Expr × Expr × Expr × Expr × Expr)
  | .Assign [.Tuple [.Subscript o1 i1 _, .Subscript o2 i2 _] _ _] (.Tuple [a, b] _ _) _ => if noSlice i1 && noSlice i2 then some (o1, i1, o2, i2, a, b) else none
  | _ => none
def zIf : Stmt → Option (Expr × List Stmt × List Stmt)
  | .If c a b _ => some (c, a, b)
  | _ => none
def zWhl : Stmt → Option (Expr × List Stmt)
  | .While c b [] _ => some (c, b)
  | _ => none
def zFor : Stmt → Option (Expr × Expr × List Stmt)
  | .For tg it b [] _ => some (tg, it, b)
  | _ => none
def zBrk : Stmt → Bool
  | .Break _ => true
  | _ => false
def zCnt : Stmt → Bool
  | .Continue _ => true
  | _ => false
section
variable {s : Stmt}
theorem zExpr_eq {e} (h : zExpr s = some e) : ∃ p, s = .Expr e p := by
  unfold zExpr at h
  split at h
  · cases h; exact ⟨_, rfl⟩
  · cases h
theorem zDoc_eq (h : zDoc s = true) : (∃ p, s = .Pass p) ∨ ∃ x j p q, s = .Expr (.Constant (.str x) j p) q := by
  unfold zDoc at h
  split at h
  · exact .inl ⟨_, rfl⟩
  · exact .inr ⟨_, _, _, _, rfl⟩
  · cases h
theorem zRet_eq {e} (h : zRet s = some e) : ∃ p, s = .Return (some e) p := by
  unfold zRet at h
  split at h
  · cases h; exact ⟨_, rfl⟩
  · cases h
theorem zRet0_eq (h : zRet0 s = true) : ∃ p, s = .Return none p := by
  unfold zRet0 at h
  split at h
  · exact ⟨_, rfl⟩
  · cases h
theorem zAsgN_eq {x p e} (h : zAsgN s = some (x, p, e)) : ∃ q, s = .Assign [.Name x p] e q := by
  unfold zAsgN at h
  split at h
  · cases h; exact ⟨_, rfl⟩
  · cases h
theorem zAsgT_eq {tg e} (h : zAsgT s = some (tg, e)) : (∃ q, s = .Assign [tg] e q) ∧ ∃ es k p, tg = .Tuple es k p := by
  unfold zAsgT at h
  split at h
  · cases h; exact ⟨⟨_, rfl⟩, _, _, _, rfl⟩
  · cases h
theorem zAsgS_eq {o i e} (h : zAsgS s = some (o, i, e)) : (∃ p q, s = .Assign [.Subscript o i p] e q) ∧ noSlice i = true := by
  unfold zAsgS at h
  split at h
  · split at h
    · rename_i hn
      cases h; exact ⟨⟨_, _, rfl⟩, hn⟩
    · cases h
  · cases h
theorem zAsgA_eq {o f e} (h : zAsgA s = some (o, f, e)) : ∃ p q, s = .Assign [.Attribute o f p] e q := by
  unfold zAsgA at h
  split at h
  · cases h; exact ⟨_, _, rfl⟩
  · cases h
theorem zPar_eq {x px y py a b} (h : zPar s = some (x, px, y, py, a, b)) : ∃ k p k2 p2 q, s = .Assign [.Tuple [.Name x px, .Name y py] k p] (.Tuple [a, b] k2 p2) q := by
  unfold zPar at h
  split at h
  · cases h; exact ⟨_, _, _, _, _, rfl⟩
  · cases h
theorem zSwp_eq {o1 i1 o2 i2 a b} (h : zSwp s = some (o1, i1, o2, i2, a, b)) : (∃ p1 p2 k p k2 p3 q, s = .Assign [.Tuple [.Subscript o1 i1 p1, .Subscript o2 i2 p2] k p] (.Tuple [a, b] k2 p3) q) ∧ noSlice i1 = true ∧ noSlice i2 = true := by
  unfold zSwp at h
  split at h
  · split at h
    · rename_i hn
      cases h; exact ⟨⟨_, _, _, _, _, _, _, rfl⟩, band hn⟩
    · cases h
  · cases h
theorem zIf_eq {c a b} (h : zIf s = some (c, a, b)) : ∃ p, s = .If c a b p := by
  unfold zIf at h
  split at h
  · cases h; exact ⟨_, rfl⟩
  · cases h
theorem zWhl_eq {c b} (h : zWhl s = some (c, b)) : ∃ p, s = .While c b [] p := by
  unfold zWhl at h
  split at h
  · cases h; exact ⟨_, rfl⟩
  · cases h
theorem zFor_eq {tg it b} (h : zFor s = some (tg, it, b)) : ∃ p, s = .For tg it b [] p := by
  unfold zFor at h
  split at h
  · cases h; exact ⟨_, rfl⟩
  · cases h
theorem zBrk_eq (h : zBrk s = true) : ∃ p, s = .Break p := by
  unfold zBrk at h
  split at h
  · exact ⟨_, rfl⟩
  · cases h
theorem zCnt_eq (h : zCnt s = true) : ∃ p, s = .Continue p := by
  unfold zCnt at h
  split at h
  · exact ⟨_, rfl⟩
  · cases h
end
def lcC : CE → Bool
  | .lc _ _ _ _ _ => true
  | .cell (.lc _ _ _ _ _) => true
  | _ => false
def asgOk (c : CE) (e : Expr) : Bool := noComp e || (lcC c && (xLc e).isSome)
def frzI : CS → Option Nat
  | .frz i => some i
  | _ => none
mutual
def mS (G : Prog) (N : List PySem.Str) (sc : Scope) : CS → Stmt → Bool
  | .expr c, s => match zExpr s with
    | some e => mE G N sc c e && noComp e
    | none => false
  | .ret c, s => match zRet s with
    | some e => mE G N sc c e
    | none => false
  | .ret0, s => zRet0 s
  | .asg (.tgt (.name i)) c, s => match zAsgN s with
    | some (x, _, e) => locNB N sc x i && mE G N sc c e && asgOk c e
    | none => false
  | .asg (.tgt (.tup ts)) c, s => match zAsgT s with
    | some (tg, e) => mT N sc (.tup ts) tg && mE G N sc c e && noComp e && ((xTup e).isNone || swNone sc tg)
    | none => false
  | .asg (.own i) c, s => match zAsgN s with
    | some (x, _, e) => locNB N sc x i && mE G N sc c e && asgOk c e
    | none => false
  | .asg (.sub o i) c, s => match zAsgS s with
    | some (o', i', e) => mE G N sc o o' && mE G N sc i i' && mE G N sc c e && noComp e
    | none => false
  | .asg (.attr o f) c, s => match zAsgA s with
    | some (o', f', e) => decide (f' = sO f) && mE G N sc o o' && mE G N sc c e && noComp e
    | none => false
  | .par i j a b, s => match zPar s with
    | some (x, px, y, py, a', b') => decide (N[i]? = some x) && decide (N[j]? = some y) && parB sc x y px py a' b' && mE G N sc a a' && mE G N sc b b'
    | none => false
  | .swap o1 i1 o2 i2 a b, s => match zSwp s with
    | some (o1', i1', o2', i2', a', b') => mE G N sc o1 o1' && mE G N sc i1 i1' && mE G N sc o2 o2' && mE G N sc i2 i2' && mE G N sc a a' && mE G N sc b b'
    | none => false
  | .ite c a b, s => match zIf s with
    | some (c', a', b') => mE G N sc c c' && mSs G N sc a a' && mSs G N sc b b'
    | none => false
  | .whl _ c b, s => match zWhl s with
    | some (c', b') => mE G N sc c c' && mSs G N sc b b'
    | none => false
  | .for t it b, s => match zFor s with
    | some (tg, iter, b') => mT N sc t tg && mW G N sc it tg iter && noSet iter && mSs G N sc b b'
    | none => false
  | .raise _ _, _ => false
  | .brk, s => zBrk s
  | .cont, s => zCnt s
  | .pass, s => zDoc s
  | .frz _, _ => false
  | .never, _ => true
  | .forD t i b, s => match zFor s with
    | some (tg, iter, b') => (match xName iter with
      | some x => mT N sc t tg && nameB N sc x i && mSs G N sc b b'
      | none => false)
    | none => false
def mSs (G : Prog) (N : List PySem.Str) (sc : Scope) : List CS → List Stmt → Bool
  | [], ss => ss.isEmpty
  | c :: cs, ss => match frzI c with
    | some _ => mSs G N sc cs ss
    | none => (match ss with
      | s :: ss => mS G N sc c s && mSs G N sc cs ss
      | [] => false)
end
end Ip

/-! Ip17: what matches is read rightly: statements. -/
namespace Ip
open PySem PySem.Spec PyProof.Rows L2
section
variable {X : Cx} {W : WX} {pos : Pos} {e a b c : Expr} {f fa fb fc : IS → Out RV} {k : IS → SOut}
theorem asgSub {o i : Expr} {p : Pos} {env : Env} (h : noSlice i = true) (v : Value) : assign (.Subscript o i p) env v = (do
      let ov ← holding [v] (eval o env)
      let iv ← holding [v, ov] (eval i env)
      standAt p
      holding [v, ov, iv] (setItem ov iv v)
      release [v, ov, iv] []) := by
  cases i <;> first | rfl | cases h
/-! ### a[i], b[j] = x, y -/
theorem s_swap {o1 i1 o2 i2 : Expr} {fo1 fi1 fo2 fi2 : IS → Out RV} {p1 p2 pt pt2 : Pos} {kt k2 : Nat} (hc : X.calm = true) (hu : X.A.units + 1 < cLine) (hk : X.env.scope.kind = .function) (ho1 : PEr X W o1 fo1) (hi1 : PEr X W i1 fi1) (ho2 : PEr X W o2 fo2) (hi2 : PEr X W i2 fi2) (ha : PEr X W a fa) (hb : PEr X W b fb) (hsa : noStar a = true) (hsb : noStar b = true) (hn1 : noSlice i1 = true) (hn2 : noSlice i2 = true) :
    PSi X W (.Assign [.Tuple [.Subscript o1 i1 p1, .Subscript o2 i2 p2] kt pt] (.Tuple [a, b] k2 pt2) pos) fun st => (sOf (fa st)).toS fun x st => (sOf (fb st)).toS fun y st =>
      (vOf (fo1 st)).toS fun o st => (vOf (fi1 st)).toS fun i st => (optS (setS st o i x)).then fun st => (vOf (fo2 st)).toS fun o st => (vOf (fi2 st)).toS fun i st => optS (setS st o i y) := by
  have hbk : X.env.blockKind = .function := by unfold Env.blockKind; rw [hk]; rfl
  have hw : swappedStores [.Tuple [.Subscript o1 i1 p1, .Subscript o2 i2 p2] kt pt] (.Tuple [a, b] k2 pt2) X.env = pure none := by
    unfold swappedStores
    simp [hbk]
  refine PS.imp (ps_asg (pe_tup (pa_cons (toS ha) (pa_cons (toS hb) pa_nil (star1 hsb _ _)) (star1 hsa _ _))) (pg_tup hc (pgs_cons (pg_sub (toV ho1) (toV hi1) (set_I hu) (asgSub hn1)) (pgs_cons (pg_sub (toV ho2) (toV hi2) (set_I hu) (asgSub hn2)) pgs_nil rfl) rfl) rfl rfl) rfl hw rfl) fun D g H ⟨w, st, R, p⟩ => ?_
  refine ⟨w, st, R, Post.ofS p fun x st1 _ w1 H1 v l1 R1 rx q => ⟨w1, st1, R1, Post.ofS q fun y st2 _ w2 H2 u l2 R2 ry q2 => ⟨by rw [sizeLine_eq]; show 2 ≤ 16777216; omega, fun t hn => ?_⟩⟩⟩
  obtain ⟨w3, l3, R3, _⟩ := new_tup R2 hn (.cons (RepV.mono l2.h rx) (.cons ry .nil))
  refine ⟨t, [v, u], rfl, .inl (.inl upd_same), rfl, v, [u], rfl, ?_⟩
  refine sub_imp (D := D) R3 (RepV.mono (l2.h.trans l3.h) rx) (q2.le l3) fun w4 st4 H4 l4 R4 q4 => ⟨u, [], rfl, ?_⟩
  refine sub_imp (D := D) (k := fun st => .next st) R4 (RepV.mono (l3.h.trans l4.h) ry) ?_ fun w5 st5 H5 l5 R5 q5 => ⟨rfl, q5.next R5⟩
  simp only [then_nx]
  exact q4
/-! ### for k in d -/
theorem keyI_rep {K : PySem.W.Frag} {S : Hp} {phi : List Addr} (k : L2.Key) : RepV K S phi (kV k) (keyI k) := by
  cases k
  · exact .int _
  · exact .str _
theorem reps_keys {K : PySem.W.Frag} {S : Hp} {phi : List Addr} : ∀ {vs : List (L2.Key × V)} {xs : List (L2.Key × IV)} (i : Nat), RepKs K S phi vs xs → (vs[i]?).map (·.1) = (xs[i]?).map (·.1)
  | _, _, i, .nil => by simp
  | _, _, 0, .cons _ _ => rfl
  | _, _, i + 1, .cons _ r => by simpa using reps_keys i r
theorem jit_keys {K : PySem.W.Frag} {S : Hp} {phi : List Addr} {a : Addr} {od : Obj} {vs : List (L2.Key × V)} {xs : List (L2.Key × IV)} (h : S a = some (.frz od (.dK vs))) (r : RepKs K S phi vs xs) : JIt K S phi (Itk a od vs) (xs.map fun kv => keyI kv.1) := fun w1 st g H e R i => by
  have h1 : H a = some (.frz od (.dK vs)) := R.sub _ _ (e.k _ _ _ h)
  have hk := reps_keys i r
  rw [List.length_map]
  refine ⟨fun x hx => ?_, fun hi => ⟨h1, by rw [r.length]; omega⟩⟩
  rw [List.getElem?_map] at hx
  obtain ⟨kv, h2, h3⟩ := Option.map_eq_some_iff.mp hx
  subst h3
  rw [h2] at hk
  obtain ⟨⟨k0, v0⟩, h4, h5⟩ := Option.map_eq_some_iff.mp hk
  have h5' : k0 = kv.1 := h5
  refine ⟨⟨h1, (List.getElem?_eq_some_iff.mp h4).1⟩, fun u H' ⟨eH, k', v', e1, e2⟩ => ?_⟩
  rw [h4] at e1
  cases e1
  subst eH e2
  rw [h5']
  exact ⟨w1, Le.refl, R, keyI_rep _⟩
theorem SPost.unlock {K : PySem.W.Frag} {w : Wd} {D : Ends} {a : Addr} {u : HO} {od : Obj} (hS : w.S a = some u) (hn : Lk u) {o : SOut} (h : SPost K w W D o) :
    SPost K { w with S := upd w.S a (.frz od u) } W ⟨fun σ' H' => H' a = some (.frz od u) ∧ D.nx σ' (upd H' a u), fun v H' => H' a = some (.frz od u) ∧ D.rt v (upd H' a u), fun σ' H' => H' a = some (.frz od u) ∧ D.bk σ' (upd H' a u), fun σ' H' => H' a = some (.frz od u) ∧ D.ct σ' (upd H' a u)⟩ o := by
  have lk : ∀ {w2 : Wd}, Le { w with S := upd w.S a (.frz od u) } w2 → w2.S a = some (.frz od u) := fun l => l.h.k a od u upd_same
  have rel : ∀ {w2 : Wd} {st : IS} {σ : L2.St} {H : Hp}, Le { w with S := upd w.S a (.frz od u) } w2 → Rel K w2 st σ H → Rel K { w2 with S := upd w2.S a u } st σ (upd H a u) := fun l R => R.form ⟨_, lk l⟩ (.unlock (lk l))
  cases o with
  | next st => exact fun w2 s2 H2 l R => ⟨R.sub _ _ (lk l), h _ _ _ (Le.unlock hS hn l) (rel l R)⟩
  | brk st => exact fun w2 s2 H2 l R => ⟨R.sub _ _ (lk l), h _ _ _ (Le.unlock hS hn l) (rel l R)⟩
  | cont st => exact fun w2 s2 H2 l R => ⟨R.sub _ _ (lk l), h _ _ _ (Le.unlock hS hn l) (rel l R)⟩
  | ret r st =>
    intro w2 s2 H2 v l R rr hs
    refine ⟨R.sub _ _ (lk l), h _ _ _ v (Le.unlock hS hn l) (rel l R) ?_ hs⟩
    cases r with
    | v x => exact RepE.of ((RepE.val rr hs).monoS (.unlock (lk l)))
    | fr c =>
      obtain ⟨b, ev, lo, co⟩ := rr
      have hb : b ≠ a := fun z => by subst z; have := lo.s; rw [lk l] at this; cases this
      exact ⟨b, ev, ⟨by show upd w2.S a u b = none; rw [upd_ne hb]; exact lo.s, lo.f, lo.p, lo.o⟩, co.monoS (.unlock (lk l)) (upd_ne hb)⟩
  | exc c fs st =>
    intro w2 s2 H2 d vs l R hd hf
    exact h w2 s2 H2 d vs ⟨(HLe.lock hS hn).trans l.h, l.f⟩ R hd hf
  | bad => exact h
theorem mut_dK {vs : List (L2.Key × V)} : L2.Mut (some (.dK vs)) := by first | trivial | rfl | simp [L2.Mut]
theorem s_forD {t : Tgt} {tg : Expr} {i : Nat} {x : PySem.Str} {px : Pos} {body : List Stmt} (hp : PassesOwn (model X.prog X.w) X.A X.env X.xe) (hc : X.calm = true) (hN : X.N[i]? = some x) (hv : Vis X.env.scope x) (hd : (x == ("__debug__" : PySem.Str)) = false) (hcd : (x == ("__classdict__" : PySem.Str)) = false)
    (hg : PG X tg (TGi X.K (bindT t) (tgtSl t))) (hb : PSsi X W body k) : PSi X W (.For tg (.Name x px) body [] pos) fun st => (Out.of st ((st.r[i]?).bind keysOf)).toS fun xs st => forItems (forTurn t k) xs st := by
  have F := ps_for (pos := pos) hp hc (pi_keys (tg := tg) (pe_var (pos := px) hN hv hd hcd)) hg hb (fun _ => rfl)
  have core : ∀ {D : Ends} {g : L2.St} {H : Hp} {w : Wd} {st : IS} {kvs : List (L2.Key × IV)} {vs : List (L2.Key × V)} {a : Addr} {od : Obj}, Rel X.K w st g H → g[i]? = some (some (.ref a)) → w.S a = some (.frz od (.dK vs)) → RepKs X.K w.S w.phi vs kvs →
      SPost X.K w W D (forItems (forTurn t k) (kvs.map fun kv => keyI kv.1) st) → tFor (iKeys (tVar i)) (TGi X.K (bindT t) (tgtSl t)) (TSi X.K W k) D g H := fun {D g H w st kvs vs a od} R hg hS r p => by
    refine ⟨.ref a, hg, a, od, rfl, .inl ⟨vs, R.sub _ _ hS, ?_⟩⟩
    refine for_walk R (show JW X.K w (Itk a od vs) (.items (kvs.map fun kv => keyI kv.1)) from jit_keys hS r) p
  refine ⟨fun pins s g H D I ⟨w, st, R, p⟩ => ?_⟩
  obtain ⟨xs, e, p⟩ := p.ofS
  obtain ⟨sl, e1, e2⟩ := Option.bind_eq_some_iff.mp e
  cases sl with
  | un => cases e2
  | own y => cases e2
  | val y =>
    cases y with
    | dK kvs =>
      cases e2
      obtain ⟨v, h1, h2⟩ := R.vals i _ e1
      cases h2 with
      | @dK a vs _ h3 h4 =>
        rcases h3 with h3 | ⟨od, h3⟩
        · refine (ps_lock F).run pins s g H D I ⟨a, .dK vs, R.sub _ _ h3, mut_dK, fun od => ?_⟩
          exact core (R.form ⟨_, h3⟩ (HLe.lock h3 lk_dK).toHLs) h1 (show upd w.S a (.frz od (.dK vs)) a = _ from upd_same) (h4.mono (.lock h3 lk_dK)) (p.unlock h3 lk_dK)
        · exact F.run pins s g H D I (core R h1 h3 h4 p)
    | _ => cases e2
end
structure GoodS (X : Cx) (G : Prog) (n : Nat) (W : WX) (sc : Scope) : Prop where
  e : GoodE X G n W
  s : ScOk X sc
  ps : PassesOwn (model X.prog X.w) X.A X.env X.xe
  sc : X.env.scope = sc
  kind : X.env.scope.kind = .function
section
variable {X : Cx} {G : Prog} {n : Nat} {W : WX} {sc : Scope}
/-- name = [..] on the name's own slot -/
theorem s_lcR {i : Nat} {x : PySem.Str} {p' pos lp : Pos} {elt tg iter : Expr} {ifs : List Expr} {scope : Scope} {ce : CE} {t : Tgt} {it : IT} {ifs2 : Option CE} {own : List (String × Nat)} (g : GoodS X G n W sc) (k1 : X.N[i]? = some x) (kl : X.env.scope.names.lookup x = some .local)
    (sw : swapsWith (.ListComp elt [⟨tg, iter, ifs, 0⟩] scope lp) (some (.Name x p')) pos.line X.env = pure true) (h2 : mE G X.N sc (.lc ce t it ifs2 own) (.ListComp elt [⟨tg, iter, ifs, 0⟩] scope lp) = true) :
    PS X (.Assign [.Name x p'] (.ListComp elt [⟨tg, iter, ifs, 0⟩] scope lp) pos) (fun D σ H => Ip.TI X.K W rR (evF G (callF G n) (.lc ce t it ifs2 own)) σ H fun x H1 => gName i x σ H1 D.nx) := by
  unfold mE at h2
  split at h2
  case h_2 => cases h2
  rename_i elt' tg' iter' ifs' scope' hx'
  cases hx'
  obtain ⟨h, h7⟩ := band h2
  obtain ⟨h, h6⟩ := band h
  obtain ⟨h, h5⟩ := band h
  obtain ⟨h, h4⟩ := band h
  obtain ⟨h, h3⟩ := band h
  obtain ⟨h1', h2'⟩ := band h
  have hsub : ∀ j ∈ tgtSl t, j ∈ (ownS own).map (·.2) := fun j hj => by
    rw [ownS_snd]
    have := List.all_eq_true.mp h6 j hj
    simpa using this
  have r := s_lcT (W := W) (elt := elt) (tg := tg) (iter := iter) (ifs := ifs) (own := ownS own) (pos := lp) (spos := pos) (p' := p') g.e.calm g.e.nd k1 kl sw (sW it g.e g.s h3) (g.s.blk _ _ h5)
    (fun s H C cl fp => (sT (g.e.blk s H scope C cl fp) (ScOk.blkS s H scope C cl fp) t h2').2) (fun s H C cl fp => sIf ifs2 (g.e.blk s H scope C cl fp) (ScOk.blkS s H scope C cl fp) h4)
    (fun s H C cl fp => toS (sE ce (g.e.blk s H scope C cl fp) (ScOk.blkS s H scope C cl fp) h1').pe) (noSet_ok h7 _) hsub
  rw [ownS_snd] at r
  have ee : evF G (callF G n) (.lc ce t it ifs2 own) = lcF (evW G (callF G n) it) t (evTo G (callF G n) ifs2) (evF G (callF G n) ce) (own.map (·.2)) := by funext st; unfold evF; rfl
  rw [ee]
  exact r
theorem asgOk_or {c : CE} {e : Expr} (h3 : asgOk c e = true) : (noComp e || (xLc e).isSome) = true := by
  unfold asgOk at h3
  cases hn : noComp e with
  | true => rfl
  | false =>
    rw [hn, Bool.false_or] at h3
    rw [(band h3).2]; rfl
theorem s_nameR {c : CE} {i : Nat} {x : PySem.Str} {p' pos : Pos} {e : Expr} (g : GoodS X G n W sc) (h1 : locNB X.N sc x i = true) (h2 : mE G X.N sc c e = true) (h3 : asgOk c e = true) :
    PS X (.Assign [.Name x p'] e pos) (fun D σ H => Ip.TI X.K W rR (evF G (callF G n) c) σ H fun x H1 => gName i x σ H1 D.nx) := by
  obtain ⟨k1, k2⟩ := band h1
  obtain ⟨k3, k4⟩ := g.s.loc x k2
  by_cases hb : swB sc x p' e = true
  · obtain ⟨sw, kl⟩ := swB_true (l := pos.line) g.kind g.sc hb
    cases hx : xLc e with
    | none =>
      have h3' := asgOk_or h3
      rw [hx] at h3'
      unfold swB at hb
      split at hb
      · cases h3'
      · cases hb
    | some q =>
      obtain ⟨elt, tg, iter, ifs, scope⟩ := q
      obtain ⟨lp, rfl⟩ := xLc_eq hx
      have h4 : lcC c = true := (band (show (false || (lcC c && _)) = true from h3)).1
      unfold lcC at h4
      split at h4
      · exact s_lcR g (of_dec k1) kl sw h2
      · rename_i ce t it ifs2 own
        unfold mE at h2
        have ee : evF G (callF G n) (.cell (.lc ce t it ifs2 own)) = cellF (evF G (callF G n) (.lc ce t it ifs2 own)) := by
          funext st
          rw [evF]
          rfl
        rw [ee]
        exact PS.imp (s_lcR g (of_dec k1) kl sw (band h2).2) fun D g H h => cell_imp h
      · cases h4
  · exact ps_set g.e.nd (of_dec k1) k3 (sE c g.e g.s h2).pe (swB_false g.kind g.sc (asgOk_or h3) (by simpa using hb)) k4
theorem then_frz {c : CS} {i : Nat} (h : frzI c = some i) : c = .frz i := by
  cases c <;> first | (cases h; rfl) | exact nomatch h
end
section
variable {G : Prog} {n : Nat} {X : Cx} {W : WX} {sc : Scope}
mutual
theorem sS (g : GoodS X G n W sc) : ∀ (c : CS) {s : Stmt}, mS G X.N sc c s = true → PSi X W s (ex G (callF G n) c)
  | .expr c, s, h => by
    unfold mS at h
    split at h
    case h_2 => cases h
    rename_i e hx
    obtain ⟨p, rfl⟩ := zExpr_eq hx
    obtain ⟨h1, h2⟩ := band h
    have ee : ex G (callF G n) (.expr c) = fun st => (evF G (callF G n) c st).toS fun _ st => .next st := by funext st; unfold ex; rfl
    rw [ee]
    exact s_expr (sE c g.e g.s h1).pe (noComp_ok h2 _ _ _)
  | .ret c, s, h => by
    unfold mS at h
    split at h
    case h_2 => cases h
    rename_i e hx
    obtain ⟨p, rfl⟩ := zRet_eq hx
    have ee : ex G (callF G n) (.ret c) = fun st => (evF G (callF G n) c st).toS fun r st => if stor r.get then .ret r st else .bad := by funext st; unfold ex; rfl
    rw [ee]
    exact s_ret (sE c g.e g.s h).pe
  | .ret0, s, h => by
    unfold mS at h
    obtain ⟨p, rfl⟩ := zRet0_eq h
    have ee : ex G (callF G n) .ret0 = fun st => .ret (.v .non) st := by funext st; unfold ex; rfl
    rw [ee]
    exact s_ret0
  | .asg (.tgt (.name i)) c, s, h => by
    unfold mS at h
    split at h
    case h_2 => cases h
    rename_i x p e hx
    obtain ⟨q, rfl⟩ := zAsgN_eq hx
    obtain ⟨h, h3⟩ := band h
    obtain ⟨h1, h2⟩ := band h
    have ee : ex G (callF G n) (.asg (.tgt (.name i)) c) = fun st => (sOf (evF G (callF G n) c st)).toS fun x st => optS (bindT (.name i) x st) := by funext st; unfold ex; rfl
    rw [ee]
    exact PS.imp (s_nameR g h1 h2 h3) fun D g H h => val_imp h
  | .asg (.tgt (.tup ts)) c, s, h => by
    unfold mS at h
    split at h
    case h_2 => cases h
    rename_i tg e hx
    obtain ⟨⟨q, rfl⟩, es, k, p, rfl⟩ := zAsgT_eq hx
    obtain ⟨h, h4⟩ := band h
    obtain ⟨h, h3⟩ := band h
    obtain ⟨h1, h2⟩ := band h
    have ee : ex G (callF G n) (.asg (.tgt (.tup ts)) c) = fun st => (sOf (evF G (callF G n) c st)).toS fun x st => optS (bindT (.tup ts) x st) := by funext st; unfold ex; rfl
    rw [ee]
    have hw : swappedStores [.Tuple es k p] e X.env = pure none := by
      rcases Bool.or_eq_true_iff.mp h4 with h4 | h4
      · cases e <;> first | rfl | cases h4
      · exact swNone_ok g.sc h4
    exact s_asg (sE c g.e g.s h2).pe (sT g.e g.s (.tup ts) h1).2 (by unfold swapsWithSole; exact noComp_ok h3 _ _ _) hw rfl
  | .asg (.own i) c, s, h => by
    unfold mS at h
    split at h
    case h_2 => cases h
    rename_i x p e hx
    obtain ⟨q, rfl⟩ := zAsgN_eq hx
    obtain ⟨h, h3⟩ := band h
    obtain ⟨h1, h2⟩ := band h
    have ee : ex G (callF G n) (.asg (.own i) c) = fun st => (evF G (callF G n) c st).toS fun r st => (Out.of st (asFr r)).toS fun c st => if i < st.r.length then .next { st with r := st.r.set i (.own c) } else .bad := by funext st; unfold ex; rfl
    rw [ee]
    exact PS.imp (s_nameR g h1 h2 h3) fun D g H h => own_imp h
  | .asg (.sub o i) c, s, h => by
    unfold mS at h
    split at h
    case h_2 => cases h
    rename_i o' i' e hx
    obtain ⟨⟨p, q, rfl⟩, hn⟩ := zAsgS_eq hx
    obtain ⟨h, h4⟩ := band h
    obtain ⟨h, h3⟩ := band h
    obtain ⟨h1, h2⟩ := band h
    have ee : ex G (callF G n) (.asg (.sub o i) c) = fun st => (sOf (evF G (callF G n) c st)).toS fun y st => (vOf (evF G (callF G n) o st)).toS fun o st => (vOf (evF G (callF G n) i st)).toS fun i st => optS (setS st o i y) := by funext st; unfold ex; rfl
    rw [ee]
    exact s_sub (by have := g.e.hu; omega) (sE o g.e g.s h1).pe (sE i g.e g.s h2).pe (sE c g.e g.s h3).pe (asgSub hn) (by unfold swapsWithSole; exact noComp_ok h4 _ _ _) (by cases e <;> rfl)
  | .asg (.attr o f) c, s, h => by
    unfold mS at h
    split at h
    case h_2 => cases h
    rename_i o' f' e hx
    obtain ⟨p, q, rfl⟩ := zAsgA_eq hx
    obtain ⟨h, h4⟩ := band h
    obtain ⟨h, h3⟩ := band h
    obtain ⟨h1, h2⟩ := band h
    have e1 := of_dec h1
    subst e1
    have ee : ex G (callF G n) (.asg (.attr o f) c) = fun st => (sOf (evF G (callF G n) c st)).toS fun y st => (vOf (evF G (callF G n) o st)).toS fun o st => optS (setAS G st o f y) := by funext st; unfold ex; rfl
    rw [ee]
    exact s_asgA (sE o g.e g.s h2).pe (sE c g.e g.s h3).pe (noComp_ok h4 _ _ _) fun c hc => g.e.fld c f hc
  | .par i j a b, s, h => by
    unfold mS at h
    split at h
    case h_2 => cases h
    rename_i x px y py a' b' hx
    obtain ⟨k, p, k2, p2, q, rfl⟩ := zPar_eq hx
    obtain ⟨h, h5⟩ := band h
    obtain ⟨h, h4⟩ := band h
    obtain ⟨h, h3⟩ := band h
    obtain ⟨h1, h2⟩ := band h
    obtain ⟨k1, k2', k3, k4, k5, k6⟩ := parB_ok (pt := p) (pt2 := p2) (kt := k) (k2 := k2) g.kind g.sc h3
    have hij : i ≠ j := fun z => by
      subst z
      have e1 := of_dec h1
      rw [of_dec h2] at e1
      exact k4 (Option.some.inj e1).symm
    have ee : ex G (callF G n) (.par i j a b) = fun st => (sOf (evF G (callF G n) a st)).toS fun x st => (sOf (evF G (callF G n) b st)).toS fun y st => if i < st.r.length ∧ j < st.r.length then .next { st with r := (st.r.set i (.val x)).set j (.val y) } else .bad := by funext st; unfold ex; rfl
    rw [ee]
    exact s_par g.e.calm g.e.nd (of_dec h1) (of_dec h2) hij k2' k3 (sE a g.e g.s h4).pe (sE b g.e g.s h5).pe k5 k6 k1
  | .swap o1 i1 o2 i2 a b, s, h => by
    unfold mS at h
    split at h
    case h_2 => cases h
    rename_i o1' i1' o2' i2' a' b' hx
    obtain ⟨⟨p1, p2, k, p, k2, p3, q, rfl⟩, hn1, hn2⟩ := zSwp_eq hx
    obtain ⟨h, h6⟩ := band h
    obtain ⟨h, h5⟩ := band h
    obtain ⟨h, h4⟩ := band h
    obtain ⟨h, h3⟩ := band h
    obtain ⟨h1, h2⟩ := band h
    have A := sE a g.e g.s h5
    have B := sE b g.e g.s h6
    have ee : ex G (callF G n) (.swap o1 i1 o2 i2 a b) = fun st => (sOf (evF G (callF G n) a st)).toS fun x st => (sOf (evF G (callF G n) b st)).toS fun y st =>
      (vOf (evF G (callF G n) o1 st)).toS fun o st => (vOf (evF G (callF G n) i1 st)).toS fun i st => (optS (setS st o i x)).then fun st => (vOf (evF G (callF G n) o2 st)).toS fun o st => (vOf (evF G (callF G n) i2 st)).toS fun i st => optS (setS st o i y) := by funext st; unfold ex; rfl
    rw [ee]
    exact s_swap g.e.calm (by have := g.e.hu; omega) g.kind (sE o1 g.e g.s h1).pe (sE i1 g.e g.s h2).pe (sE o2 g.e g.s h3).pe (sE i2 g.e g.s h4).pe A.pe B.pe A.ns B.ns hn1 hn2
  | .ite c a b, s, h => by
    unfold mS at h
    split at h
    case h_2 => cases h
    rename_i c' a' b' hx
    obtain ⟨p, rfl⟩ := zIf_eq hx
    obtain ⟨h, h3⟩ := band h
    obtain ⟨h1, h2⟩ := band h
    have ee : ex G (callF G n) (.ite c a b) = fun st => (tOf (evF G (callF G n) c st)).toS fun t st => if t = true then exs G (callF G n) a st else exs G (callF G n) b st := by funext st; unfold ex; rfl
    rw [ee]
    exact s_ite (sE c g.e g.s h1).pt (sSs g a h2) (sSs g b h3)
  | .whl m c b, s, h => by
    unfold mS at h
    split at h
    case h_2 => cases h
    rename_i c' b' hx
    obtain ⟨p, rfl⟩ := zWhl_eq hx
    obtain ⟨h1, h2⟩ := band h
    have ee : ex G (callF G n) (.whl m c b) = fun st => whlL (fun st => tOf (evF G (callF G n) c st)) (exs G (callF G n) b) m st := by funext st; unfold ex; rfl
    rw [ee]
    exact s_whl g.ps (sE c g.e g.s h1).pt (sSs g b h2)
  | .for t it b, s, h => by
    unfold mS at h
    split at h
    case h_2 => cases h
    rename_i tg iter b' hx
    obtain ⟨p, rfl⟩ := zFor_eq hx
    obtain ⟨h, h4⟩ := band h
    obtain ⟨h, h3⟩ := band h
    obtain ⟨h1, h2⟩ := band h
    have ee : ex G (callF G n) (.for t it b) = fun st => (evW G (callF G n) it st).toS fun w st => forWalk (forTurn t (exs G (callF G n) b)) w st := by funext st; unfold ex; rfl
    rw [ee]
    exact s_for g.ps g.e.calm (sW it g.e g.s h2) (sT g.e g.s t h1).2 (sSs g b h4) (noSet_ok h3 _)
  | .raise _ _, s, h => by unfold mS at h; cases h
  | .brk, s, h => by
    unfold mS at h
    obtain ⟨p, rfl⟩ := zBrk_eq h
    have ee : ex G (callF G n) .brk = fun st => .brk st := by funext st; unfold ex; rfl
    rw [ee]
    exact s_brk
  | .cont, s, h => by
    unfold mS at h
    obtain ⟨p, rfl⟩ := zCnt_eq h
    have ee : ex G (callF G n) .cont = fun st => .cont st := by funext st; unfold ex; rfl
    rw [ee]
    exact s_cont
  | .pass, s, h => by
    unfold mS at h
    have ee : ex G (callF G n) .pass = fun st => .next st := by funext st; unfold ex; rfl
    rw [ee]
    rcases zDoc_eq h with ⟨p, rfl⟩ | ⟨x, j, p, q, rfl⟩
    · exact s_pass
    · exact s_doc
  | .frz _, s, h => by unfold mS at h; cases h
  | .never, s, h => by
    have ee : ex G (callF G n) .never = fun _ => .bad := by funext st; unfold ex; rfl
    rw [ee]
    exact s_never
  | .forD t i b, s, h => by
    unfold mS at h
    split at h
    case h_2 => cases h
    rename_i tg iter b' hx
    split at h
    case h_2 => cases h
    rename_i x hy
    obtain ⟨p, rfl⟩ := zFor_eq hx
    obtain ⟨p2, rfl⟩ := xName_eq hy
    obtain ⟨h, h3⟩ := band h
    obtain ⟨h1, h2⟩ := band h
    obtain ⟨k1, k2, k3, k4⟩ := nameB_ok g.s h2
    have ee : ex G (callF G n) (.forD t i b) = fun st => (Out.of st ((st.r[i]?).bind keysOf)).toS fun xs st => forItems (forTurn t (exs G (callF G n) b)) xs st := by funext st; unfold ex; rfl
    rw [ee]
    exact s_forD g.ps g.e.calm k1 k2 k3 k4 (sT g.e g.s t h1).2 (sSs g b h3)
theorem sSs (g : GoodS X G n W sc) : ∀ (cs : List CS) {ss : List Stmt}, mSs G X.N sc cs ss = true → PSsi X W ss (exs G (callF G n) cs)
  | [], ss, h => by
    unfold mSs at h
    have : ss = [] := by simpa using h
    subst this
    have ee : exs G (callF G n) [] = fun st => .next st := by funext st; unfold exs; rfl
    rw [ee]
    exact s_nil
  | c :: cs, ss, h => by
    unfold mSs at h
    have ee : exs G (callF G n) (c :: cs) = fun st => (ex G (callF G n) c st).then (exs G (callF G n) cs) := by funext st; conv => lhs; unfold exs
    rw [ee]
    cases hf : frzI c with
    | some i =>
      rw [hf] at h
      have hc := then_frz hf
      subst hc
      have e2 : ex G (callF G n) (.frz i) = fun st => (Out.of st ((st.r[i]?).bind ownC)).toS fun c st => SOut.next { st with r := st.r.set i (.val c) } := by funext st; unfold ex; rfl
      rw [e2]
      exact s_frz (sSs g cs h)
    | none =>
      rw [hf] at h
      cases ss with
      | nil => cases h
      | cons s ss =>
        obtain ⟨h1, h2⟩ := band (show (mS G X.N sc c s && mSs G X.N sc cs ss) = true from h)
        exact s_cons (sS g c h1) (sSs g cs h2)
end
end
end Ip

/-! Ip18: the whole text; the law's call. -/
namespace Ip
open PySem PySem.Spec PyProof.Rows L2

/-- a def of the text: compiled, and where it stands; a global's name, or a class's and a method's; its defaults -/
structure Item where
  d : FnDef
  st : Stmt
  at_ : String × Option String
  dfl : List He.Dv := []
  kwd : List (String × He.Dv) := []
def Item.nm (it : Item) : String := match it.at_.2 with
  | none => it.at_.1
  | some m => m
def Item.qn (it : Item) : String := match it.at_.2 with
  | none => it.at_.1
  | some m => it.at_.1 ++ "." ++ m
/-- what its ways to be called are kept by -/
def Item.key (it : Item) : String := match it.at_.2 with
  | none => it.at_.1
  | some m => if m = "__init__" then it.at_.1 ++ ".__init__" else "." ++ m
def Item.ad (it : Item) (K : PySem.W.Frag) : Addr := He.fAd K (sO it.at_.1, it.at_.2.map sO)
def Item.dv (it : Item) (K : PySem.W.Frag) : List V := it.dfl.map (He.Dv.v K)
def Item.kv (it : Item) (K : PySem.W.Frag) : List (PySem.Str × V) := (it.kwd.map fun q => (sO q.1, q.2)).map fun q => (q.1, q.2.v K)
def Item.N (it : Item) : List PySem.Str := it.d.names.map sO
def Item.ps (it : Item) : List PySem.Str := it.N.take it.d.np
def Item.sc (it : Item) : Scope := defScope it.st
def scopeB (N P : List PySem.Str) (sc : Scope) : Bool :=
  (match sc.kind with | .function => true | _ => false) && !sc.isCoroutine && !sc.isGenerator && decide N.Nodup && (P.all fun x => locB sc x) && (sc.names.all fun y => !(decide (y.2 = .free)))
theorem scopeB_ok {N : List PySem.Str} {n : Nat} {sc : Scope} (h : scopeB N (N.take n) sc = true) : FnScope N (N.take n) sc := by
  obtain ⟨h, h6⟩ := band h
  obtain ⟨h, h5⟩ := band h
  obtain ⟨h, h4⟩ := band h
  obtain ⟨h, h3⟩ := band h
  obtain ⟨h1, h2⟩ := band h
  refine ⟨?_, nb h2, nb h3, of_dec h4, ?_, fun x hx => locB_ok (List.all_eq_true.mp h5 x hx), fun y hy z => ?_⟩
  · split at h1
    · assumption
    · cases h1
  · rw [List.length_take, List.take_eq_take_iff]; omega
  · have := List.all_eq_true.mp h6 y hy
    rw [z] at this
    simp at this
def Item.ok (G : Prog) (it : Item) : Bool := decide (it.d.np ≤ it.d.names.length) && scopeB it.N it.ps it.sc && mSs G it.N it.sc it.d.body (defBody it.st)
/-- the defs of G -/
def fnTab (items : List Item) (f : String) : Option FnDef := (items.find? fun it => it.d.name == f).map (·.d)
/-- what the head tells of a def -/
structure ItOk (K : PySem.W.Frag) (G : Prog) (it : Item) (fd : FuncData) : Prop where
  fn : FunD K (sO it.nm) (sO it.qn) (defArgs it.st) (defBody it.st) it.sc (it.dv K) (it.kv K) (it.ad K) fd
  pl : G.pln it.key = true → Binds K fd it.ps []
  bd : ∀ t ∈ G.bnd it.key, BndA K fd it.ps t.1 (t.2.1.map sO) t.2.2
structure TextOk (K : PySem.W.Frag) (mg : PySem.Str → Option Value) (G : Prog) (items : List Item) : Prop where
  fn : G.fn = fnTab items
  ok : ∀ it ∈ items, it.ok G = true
  its : ∀ it ∈ items, ∃ fd, ItOk K G it fd
  top : ∀ it ∈ items, G.top it.d.name = true → it.key = it.d.name ∧ mg (sO it.d.name) = some (.ref (it.ad K))
  fld : ∀ c f, G.fld c f = true → Cls K (gaS K c) ∧ NoAttr K (gaS K c) (sO f)
  mth : ∀ c m, G.mtd c m = true → Cls K (gaS K c) ∧ ∃ it ∈ items, it.d.name = c ++ "." ++ m ∧ it.key = "." ++ m ∧ G.fn (c ++ "." ++ m) = some it.d ∧ Meth K (gaS K c) (sO m) (it.ad K)
  mks : ∀ c, G.mkc c = true → mg (sO c) = some (.ref (gaS K c)) ∧ ∃ it ∈ items, it.d.name = c ++ ".__init__" ∧ it.key = c ++ ".__init__" ∧ G.fn (c ++ ".__init__") = some it.d ∧ Mk K (gaS K c) (it.ad K)
  bn : ∀ x ∈ bltS, mg (sO x) = none
  con : ∀ x v, G.con x = some v → ∃ u z, mg (sO x) = some u ∧ RelV z u ∧ ∀ S phi, RepV K S phi z v
theorem fnTab_mem {items : List Item} {f : String} {d : FnDef} (h : fnTab items f = some d) : ∃ it ∈ items, it.d = d ∧ d.name = f := by
  obtain ⟨it, h1, h2⟩ := Option.map_eq_some_iff.mp h
  have h3 := List.find?_some h1
  exact ⟨it, List.mem_of_find?_eq_some h1, h2, by rw [← h2]; simpa using h3⟩
section
variable {P : Program} {w : World} {K : PySem.W.Frag} {mg : PySem.Str → Option Value} {base : Heap} {G : Prog} {items : List Item}
/-- what the defs promise, n levels of calls deep -/
def FnsOk (P : Program) (w : World) (K : PySem.W.Frag) (mg : PySem.Str → Option Value) (base : Heap) (G : Prog) (items : List Item) (n : Nat) : Prop := ∀ it ∈ items, G.fn it.d.name = some it.d → ∃ fd, ItOk K G it fd ∧ FnI P w K mg base (2 * n) (it.ad K) fd it.ps (spI K (callF G n it.d.name))
theorem good_cx {f : Addr} {qual : PySem.Str} {scope : Scope} {cd : Value} {N : List PySem.Str} {ps : List PySem.Str} {n : Nat} {A : Around} {outer : List Env} {s : Shared} {H : Hp} {E : XK} (T : TextOk K mg G items) (S : FnScope N ps scope)
    (fns : FnsOk P w K mg base G items n) (hr : RoomG (2 * n + 1) (A.deeper (envOfC qual scope s.heap.objs.size f cd))) : GoodS (cxOf (L2.CX P w) P w K mg base N qual scope f cd A outer s H E) G n (fun c d _ H => E c d H) scope where
  e := {
    calm := rfl
    nd := S.nd
    hu := by have := hr.room.un; show (A.deeper _).units + 66 < cLine; omega
    gd := hr.gd
    bn := T.bn
    con := T.con
    room := hr
    fns := fun f hs ht => by
      obtain ⟨d2, hd2⟩ := Option.isSome_iff_exists.mp hs
      obtain ⟨it2, hm, e1, e2⟩ := fnTab_mem (by rw [← T.fn]; exact hd2)
      subst e1
      subst e2
      obtain ⟨fd, k, F⟩ := fns it2 hm hd2
      obtain ⟨ek, gl⟩ := T.top it2 hm ht
      exact ⟨it2.ad K, fd, it2.ps, ⟨F, fun h => k.pl (by rw [ek]; exact h), fun t h => k.bd t (by rw [ek]; exact h)⟩, gl, k.fn.kp⟩
    fld := T.fld
    mth := fun c m h => by
      obtain ⟨c1, it, hm, e1, e2, e3, c2⟩ := T.mth c m h
      obtain ⟨fd, k, F⟩ := fns it hm (by rw [e1]; exact e3)
      rw [e1] at F
      exact ⟨it.ad K, fd, it.ps, ⟨F, fun h => k.pl (by rw [e2]; exact h), fun t h => k.bd t (by rw [e2]; exact h)⟩, c1, c2⟩
    mks := fun c h => by
      obtain ⟨c1, it, hm, e1, e2, e3, c2⟩ := T.mks c h
      obtain ⟨fd, k, F⟩ := fns it hm (by rw [e1]; exact e3)
      rw [e1] at F
      exact ⟨it.ad K, fd, it.ps, ⟨F, fun h => k.pl (by rw [e2]; exact h), fun t h => k.bd t (by rw [e2]; exact h)⟩, c2, c1⟩
    tk := takes_of rfl rfl rfl rfl }
  s := ScOk.fn (X := cxOf (L2.CX P w) P w K mg base N qual scope f cd A outer s H E) rfl
  ps := passes_of rfl
  sc := rfl
  kind := S.kind
theorem fns_ok (T : TextOk K mg G items) : ∀ (n : Nat), FnsOk P w K mg base G items n
  | 0, it, hit, hf => by
    obtain ⟨fd, k⟩ := T.its it hit
    exact ⟨fd, k, fun vs H Q E ⟨w1, h, xs, R, rv, cp⟩ => cp.elim, fun A outer s H args us vs Q E hr e0 hb r ⟨w1, h, xs, R, rv, cp⟩ => cp.elim⟩
  | n + 1, it, hit, hf => by
    obtain ⟨h, h3⟩ := band (T.ok it hit)
    obtain ⟨h1, h2⟩ := band h
    have S := scopeB_ok h2
    obtain ⟨fd, k⟩ := T.its it hit
    refine ⟨fd, k, ?_⟩
    obtain ⟨oc, od, dV, kV, doc, pm, an, cdv, ct, osl, rfl, lk, hcd, _, _⟩ := k.fn.ex
    have hN : it.d.names.length = it.N.length := by unfold Item.N; rw [List.length_map]
    have hnp : it.d.np = it.ps.length := by unfold Item.ps; rw [List.length_take, ← hN]; have := of_dec h1; omega
    exact fnI_of (k := 2 * n + 1) (N := it.N) lk hcd S hf hnp hN fun A outer s H E hr => sSs (good_cx T S (fns_ok T n) hr) it.d.body h3
end
/-! ### the law's call -/
theorem law_callI {P : Program} {w : World} {K : PySem.W.Frag} {mg mb : PySem.Str → Option Value} {k : Nat} {fa a : Addr} {fd : FuncData} {x : PySem.Str} {sp : Sp} {s₁ : Shared} {vs : List Value} {ns : List Int}
    (KX : K.In s₁.heap) (hns : s₁.heap.Ns mainGlobals mg) (hb : s₁.heap.Ns builtinsNs mb) (hbb : ∀ x : PySem.Str, x ≠ "__name__" → mb x = bootBuiltins x) (hlim : s₁.heap.NoLimit) (hg : s₁.gens = #[])
    (ha : s₁.heap.get? a = some { cls := .type "list", data := .seq vs.toArray }) (hi : IntsAre vs ns) (hl : ns.length ≤ sizeLine) (hr : RoomG k callerA)
    (F : ∀ base : Heap, K.In base → base.Ns mainGlobals mg → FnI P w K mg base k fa fd [x] sp) (hbind : ∀ (s : Shared) (u : Value), BindsTo s fd ⟨[u], []⟩ [(x, u)])
    (hsp : ∀ H : Hp, Only H → SqL K H a (ns.map V.int) → sp [.ref a] H (fun v _ => v = .bl true) fun _ _ _ => False) :
    codeAny (model P w) callerA (.call (.ref fa) ⟨[.ref a], []⟩) (fun r s' => r = .ok (.ret (.bool true)) ∧ OldK s₁.heap s'.heap ∧ s'.os = s₁.os ∧ AllBare s'.gens) s₁ := by
  have rv := vals_ints hi
  -- the abstract heap H: the script's list at most
  suffices core : ∀ H : Hp, Only H → SqL K H a (ns.map V.int) → HOk P w H s₁.heap → (∀ b u, H b = some u → b = a) → (∀ u, H a = some u → K.lookup a = none) →
      codeAny (model P w) callerA (.call (.ref fa) ⟨[.ref a], []⟩) (fun r s' => r = .ok (.ret (.bool true)) ∧ OldK s₁.heap s'.heap ∧ s'.os = s₁.os ∧ AllBare s'.gens) s₁ by
    cases hk : K.lookup a with
    | some o =>
      have e := KX a o hk
      rw [ha] at e
      cases e
      exact core (fun _ => none) (fun _ => .inl rfl) (.inr ⟨_, vs.toArray, _, hk, rfl, rfl, rfl, by rw [List.size_toArray, hi.length]; exact hl, by simpa using rv⟩) (fun b u z => by cases (show (none : Option HO) = some u from z)) (fun b u z => by cases (show (none : Option HO) = some u from z)) fun u z => by cases (show (none : Option HO) = some u from z)
    | none =>
      have at_ : ∀ {b : Addr} {u : HO}, upd (fun _ => none) a (.frz { cls := .type "list", data := .seq vs.toArray } (.lst (ns.map V.int))) b = some u → b = a ∧ u = .frz { cls := .type "list", data := .seq vs.toArray } (.lst (ns.map V.int)) := fun {b u} z => by
        by_cases hb : b = a
        · subst hb; rw [upd_same] at z; exact ⟨rfl, (Option.some.inj z).symm⟩
        · rw [upd_ne hb] at z; cases z
      refine core (upd (fun _ => none) a (.frz { cls := .type "list", data := .seq vs.toArray } (.lst (ns.map V.int)))) (fun b => ?_) (.inl (.inr ⟨_, upd_same⟩)) (fun b u z => ?_) (fun b u z => (at_ z).1) fun _ _ => hk
      · by_cases hb : b = a
        · subst hb; exact .inr ⟨_, _, upd_same⟩
        · exact .inl (upd_ne hb)
      · obtain ⟨rfl, rfl⟩ := at_ z
        exact ⟨ha, by rw [List.length_map]; exact hl, vs, _, rv, ha⟩
  intro H hO hS hok hA hK
  have noA : ∀ {b : Addr} {o : Obj} {es : Array DictEntry} {ep : Nat}, s₁.heap.get? b = some o → o.data = .dict es ep → H b = none := fun {b o es ep} e d => by
    cases q : H b with
    | none => rfl
    | some u =>
      cases hA b u q
      rw [ha] at e; cases e
      cases (show Data.seq vs.toArray _ = Data.dict es ep from d)
  have nsK : ∀ {b : Addr} {m : PySem.Str → Option Value}, s₁.heap.Ns b m → (hidT s₁.heap H).Ns b m := fun {b m} ⟨o, es, ep, e, d, r⟩ => ⟨o, es, ep, hidT_get e (noA e d), d, r⟩
  have hKb : K.In (hidT s₁.heap H) := fun b o e => hidT_get (KX b o e) (by
    cases q : H b with
    | none => rfl
    | some u =>
      cases hA b u q
      rw [hK u q] at e; cases e)
  have hM : Mod K mg (hidT s₁.heap H) := ⟨hKb, nsK hns, ⟨mb, nsK hb, hbb⟩, let ⟨mc, h1, h2⟩ := hlim; ⟨mc, nsK h1, h2⟩⟩
  have e0 : Env0 P w K mg (hidT s₁.heap H) callerA [] s₁ H := ⟨rfl, hM, fun b o e => of_hidT e, Nat.le_of_eq (hidT_size _ _), trivial, fun b hb => absurd (show b ∈ ([] : List Addr) from hb) (by simp), hok, .of_eq hg⟩
  refine codeAny_mono ((F _ hKb (nsK hns)).run callerA [] s₁ H ⟨[.ref a], []⟩ [.ref a] [.ref a] _ _ hr e0 (hbind s₁ (.ref a)) (.cons rfl .nil) (hsp H hO hS)) fun r s' h => ?_
  cases r with
  | error e =>
    obtain ⟨_, _, _, _, _, _, _, _, _, _, _, _, z⟩ := (show L2.CX P w [] H s₁ (fun _ _ _ => False) e s' from h)
    exact z.elim
  | ok fl =>
    cases fl with
    | next => exact False.elim h
    | brk => exact False.elim h
    | cont => exact False.elim h
    | ret u =>
      obtain ⟨v, H', os, bare, un, hok', r', q⟩ := h
      cases (show v = .bl true from q)
      cases (show u = Value.bool true from r')
      refine ⟨rfl, OldK.of_keep fun b o e => ?_, os, bare⟩
      cases q : H b with
      | none => exact un.keep b o e q (fun z => absurd (show b ∈ ([] : List Addr) from z) (by simp)) (by simp)
      | some u =>
        rcases hO b with z | ⟨ob, xs, z⟩
        · rw [q] at z; cases z
        · have e1 := (hok b _ z).1
          have e2 := (hok' b _ (un.frzs b ob _ z)).1
          rw [e] at e1; cases e1
          exact e2
theorem walk_ofI {l : PySem.W.OpenLaw} {n k : Nat} {q : Program} {loose : List PySem.Str} {XP : (PySem.Str → Option Value) → Heap → Prop} {YP : World → Heap → Prop} {d : DefRec} {x : PySem.Str}
    (hn : l.most = some n) (hn2 : n ≤ sizeLine) (hdf : d.params.defaults = []) (hr : RoomG k callerA)
    (F : ∀ (w : World) (mg : PySem.Str → Option Value) (fa : Addr) (h : Heap), YP w h → h.Ns mainGlobals mg → mg d.name = some (.ref fa) →
      ∃ (K : PySem.W.Frag) (fd : FuncData) (sp : Sp), K.In h ∧ (∀ (s : Shared) (u : Value), BindsTo s fd ⟨[u], []⟩ [(x, u)]) ∧
        (∀ (H : Hp) (a : Addr) (ns : List Int), ns.length ≤ n → Only H → SqL K H a (ns.map V.int) → sp [.ref a] H (fun v _ => v = .bl true) fun _ _ _ => False) ∧
        ∀ base : Heap, K.In base → base.Ns mainGlobals mg → FnI l.prog w K mg base k fa fd [x] sp) :
    PySem.W.WalkO q loose XP YP l.row.toRowW d [] (fun f vs => PySem.call f vs) := by
  refine Att.attach_call hn hdf fun w s₀ s₁ mg mb fa o pm cd doc a vs ns G Y ho hd hcd hmg hobj hints hlen hg => ?_
  obtain ⟨K, fd, sp, KX, hb, hsp, hF⟩ := F w mg fa _ Y G.T.g hmg
  exact law_callI KX G.T.g G.T.b G.T.builtins G.T.nolimit hg hobj hints (Nat.le_trans hlen hn2) hr hF hb fun H hO hS => hsp H a ns hlen hO hS
/-- the law's promise, from the interpreter's answer -/
theorem law_sp {K : PySem.W.Frag} {G : Prog} {n : Nat} {H : Hp} {a : Addr} {ns : List Int} (hO : Only H) (hS : SqL K H a (ns.map V.int)) (h : ∃ h', callF G n "law" [.lst (ns.map .int)] [] = .ok (.v (.bl true)) h') :
    spI K (callF G n "law") [.ref a] H (fun v _ => v = .bl true) fun _ _ _ => False := by
  obtain ⟨h', e⟩ := h
  have R : Rel K ⟨H, [], fun _ => none⟩ ⟨[], []⟩ [] H := {
    sub := fun _ _ z => z
    frm := fun _ _ z => by cases z
    sf := fun _ _ _ => rfl
    len := rfl
    nd := fun m n c d a z => by simp at z
    pd := fun b ⟨n, c, z, _⟩ => by simp at z
    cells := fun i c z => by simp at z
    vals := fun i x z => by simp at z
    owns := fun i c z => by simp at z
    apart := fun i j c d b z => by simp at z
    rl := rfl }
  refine ⟨_, [], [.lst (ns.map .int)], R, .cons (.lst hS (RepVs.of_ints _)) .nil, ?_⟩
  rw [e]
  exact fun w' H' v l R rr hs => RepE.bl (g := []) rr
end Ip

/-! Ip19: the head's facts are what Ip18 asks. -/
namespace Ip
open PySem PySem.Spec PyProof.Rows L2

/-- a class: its fields, its methods, whether instances are made -/
structure ClsD where
  name : String
  flds : List String
  mths : List String
  made : Bool
def dOf (it : Item) : He.DefD := ⟨(sO it.at_.1, it.at_.2.map sO), sO it.nm, sO it.qn, defArgs it.st, defBody it.st, it.sc, it.dfl, it.kwd.map fun q => (sO q.1, q.2)⟩
def conI (l : List (String × Int)) : List (String × IV) := l.map fun p => (p.1, .int p.2)
def gloOf (it : Item) : List He.Fa := match it.at_.2 with
  | none => [.glo (sO it.at_.1)]
  | some _ => []
def clsFa (c : ClsD) : List He.Fa := .cls (sO c.name) :: (c.flds.map (fun f => He.Fa.noat (sO c.name) (sO f)) ++ c.mths.map (fun m => He.Fa.meth (sO c.name) (sO m)) ++ if c.made = true then [.glo (sO c.name), .mkr (sO c.name)] else [])
def faOf (items : List Item) (l : List (String × Int)) (cs : List ClsD) : List He.Fa := items.flatMap gloOf ++ (bltS.map fun x => .free (sO x)) ++ (l.map fun p => .int (sO p.1) p.2) ++ cs.flatMap clsFa
structure Tabs where
  items : List Item
  con : List (String × Int)
  cls : List ClsD
  pln : List String
  bnd : List (String × List (Nat × List String × List Ar))
def Tabs.prog (t : Tabs) : Prog where
  fn := fnTab t.items
  con := fun x => (conI t.con).lookup x
  mkx := fun _ _ => none
  fld := fun c f => t.cls.any fun d => decide (d.name = c) && d.flds.contains f
  mtd := fun c m => t.cls.any fun d => decide (d.name = c) && d.mths.contains m
  pln := fun k => t.pln.contains k
  top := fun f => t.items.any fun it => decide (it.d.name = f) && it.at_.2.isNone
  mkc := fun c => t.cls.any fun d => decide (d.name = c) && d.made
  bnd := fun k => (t.bnd.lookup k).getD []
/-- the tables fit together -/
def isAt (items : List Item) (q : String) (p : String × Option String) : Bool := match items.find? fun it => it.d.name == q with
  | some it => decide (it.at_ = p)
  | none => false
def Tabs.ok (t : Tabs) : Bool := (t.items.all fun it => it.ok t.prog) && (t.items.all fun it => decide (it.d.name = it.qn)) && (t.items.all fun it => !t.prog.top it.d.name || it.at_.2.isNone) &&
  (t.cls.all fun c => (c.mths.all fun m => !(decide (m = "__init__")) && isAt t.items (c.name ++ "." ++ m) (c.name, some m)) && (!c.made || isAt t.items (c.name ++ ".__init__") (c.name, some "__init__")))
theorem isAt_ok {items : List Item} {q : String} {p : String × Option String} (h : isAt items q p = true) : ∃ it ∈ items, it.d.name = q ∧ it.at_ = p ∧ fnTab items q = some it.d := by
  unfold isAt at h
  split at h
  · rename_i it hf
    exact ⟨it, List.mem_of_find?_eq_some hf, by simpa using List.find?_some hf, of_decide_eq_true h, by unfold fnTab; rw [hf]; rfl⟩
  · cases h
theorem con_ints {K : PySem.W.Frag} {mg : PySem.Str → Option Value} : ∀ (l : List (String × Int)), (∀ p ∈ l, ∃ t, mg (sO p.1) = some (.int p.2 t)) → ∀ x v, (conI l).lookup x = some v → ∃ u z, mg (sO x) = some u ∧ RelV z u ∧ ∀ S phi, RepV K S phi z v
  | [], _, x, v, e => by cases e
  | (y, i) :: l, h, x, v, e => by
    have e' : ((y, IV.int i) :: conI l).lookup x = some v := e
    rw [List.lookup_cons] at e'
    by_cases hx : (x == y) = true
    · rw [hx] at e'
      cases e'
      have := eq_of_beq hx
      subst this
      obtain ⟨t, ht⟩ := h (x, i) List.mem_cons_self
      exact ⟨_, .int i, ht, ⟨t, rfl⟩, fun S phi => .int i⟩
    · have hx' : (x == y) = false := by simpa using hx
      rw [hx'] at e'
      exact con_ints l (fun p hp => h p (List.mem_cons_of_mem _ hp)) x v e'
section
variable {K : PySem.W.Frag} {mg : PySem.Str → Option Value} {h : Heap} {t : Tabs}
/-- how a def is called, whatever the heap -/
def BindP (t : Tabs) (it : Item) : Prop := ∀ (K : PySem.W.Frag) (fd : FuncData), FunD K (sO it.nm) (sO it.qn) (defArgs it.st) (defBody it.st) it.sc (it.dv K) (it.kv K) (it.ad K) fd →
  (t.prog.pln it.key = true → Binds K fd it.ps []) ∧ ∀ q ∈ t.prog.bnd it.key, BndA K fd it.ps q.1 (q.2.1.map sO) q.2.2
theorem text_of (X : K.In h) (Gn : h.Ns mainGlobals mg) (c : He.SaysD (faOf t.items t.con t.cls) (t.items.map dOf) K) (hok : t.ok = true) (hb : ∀ it ∈ t.items, BindP t it) : TextOk K mg t.prog t.items := by
  obtain ⟨h0, h4⟩ := band hok
  obtain ⟨h0, h3⟩ := band h0
  obtain ⟨h1, h2⟩ := band h0
  have inC : ∀ d ∈ t.cls, ∀ f ∈ clsFa d, f.ok K = true := fun d hd f hf => c.facts (List.mem_append_right _ (List.mem_flatMap.mpr ⟨d, hd, hf⟩))
  have mkF : ∀ d ∈ t.cls, d.made = true → mg (sO d.name) = some (.ref (gaS K d.name)) ∧ Mk K (gaS K d.name) (He.ma K (gaS K d.name) (sO "__init__")) := fun d hd hm => by
    have a1 := inC d hd (.glo (sO d.name)) (by unfold clsFa; rw [if_pos hm]; simp)
    have a2 := inC d hd (.mkr (sO d.name)) (by unfold clsFa; rw [if_pos hm]; simp)
    exact ⟨He.glo_ok X Gn a1, He.mkr_ok a2⟩
  have clF : ∀ d ∈ t.cls, Cls K (gaS K d.name) := fun d hd => He.cls_ok (inC d hd (.cls (sO d.name)) (by unfold clsFa; simp))
  refine {
    fn := rfl
    ok := fun it hit => List.all_eq_true.mp h1 it hit
    its := fun it hit => ?_
    top := fun it hit ht => ?_
    fld := fun cn f hf => ?_
    mth := fun cn m hm => ?_
    mks := fun cn hm => ?_
    bn := fun x hx => He.free_ok X Gn (c.facts (f := .free (sO x)) (List.mem_append_left _ (List.mem_append_left _ (List.mem_append_right _ (List.mem_map.mpr ⟨x, hx, rfl⟩)))))
    con := con_ints t.con fun p hp => He.int_ok X Gn (c.facts (f := .int (sO p.1) p.2) (List.mem_append_left _ (List.mem_append_right _ (List.mem_map.mpr ⟨p, hp, rfl⟩)))) }
  · obtain ⟨fd, F⟩ := c.defs (d := dOf it) (List.mem_map.mpr ⟨it, hit, rfl⟩)
    obtain ⟨b1, b2⟩ := hb it hit K fd F
    exact ⟨fd, F, b1, b2⟩
  · have q := List.all_eq_true.mp h3 it hit
    rw [ht] at q
    have e : it.at_.2 = none := by simpa using q
    have e1 : it.d.name = it.qn := of_decide_eq_true (List.all_eq_true.mp h2 it hit)
    have e2 : it.qn = it.at_.1 := by unfold Item.qn; rw [e]
    have e3 : it.key = it.at_.1 := by unfold Item.key; rw [e]
    have e4 : it.ad K = gaS K it.at_.1 := by unfold Item.ad; rw [e]; rfl
    refine ⟨by rw [e3, e1, e2], ?_⟩
    rw [e1, e2, e4]
    exact He.glo_ok X Gn (c.facts (f := .glo (sO it.at_.1)) (List.mem_append_left _ (List.mem_append_left _ (List.mem_append_left _ (List.mem_flatMap.mpr ⟨it, hit, by unfold gloOf; rw [e]; simp⟩)))))
  · obtain ⟨d, hd, q⟩ := List.any_eq_true.mp hf
    obtain ⟨q1, q2⟩ := band q
    have e1 := of_dec q1
    subst e1
    exact ⟨clF d hd, He.noat_ok (inC d hd (.noat (sO d.name) (sO f)) (by unfold clsFa; simp; exact ⟨f, by simpa using q2, rfl⟩))⟩
  · obtain ⟨d, hd, q⟩ := List.any_eq_true.mp hm
    obtain ⟨q1, q2⟩ := band q
    have e1 := of_dec q1
    subst e1
    have q3 : m ∈ d.mths := by simpa using q2
    obtain ⟨z1, z2⟩ := band (List.all_eq_true.mp h4 d hd)
    obtain ⟨y1, y2⟩ := band (List.all_eq_true.mp z1 m q3)
    have y3 : m ≠ "__init__" := by simpa using y1
    obtain ⟨it, hit, k1, k2, k3⟩ := isAt_ok y2
    have e4 : it.ad K = He.ma K (gaS K d.name) (sO m) := by unfold Item.ad; rw [k2]; rfl
    refine ⟨clF d hd, it, hit, k1, by unfold Item.key; rw [k2]; exact if_neg y3, k3, ?_⟩
    rw [e4]
    exact He.meth_ok (inC d hd (.meth (sO d.name) (sO m)) (by unfold clsFa; simp; exact ⟨m, q3, rfl⟩))
  · obtain ⟨d, hd, q⟩ := List.any_eq_true.mp hm
    obtain ⟨q1, q2⟩ := band q
    have e1 := of_dec q1
    subst e1
    obtain ⟨z1, z2⟩ := band (List.all_eq_true.mp h4 d hd)
    rw [q2] at z2
    obtain ⟨it, hit, k1, k2, k3⟩ := isAt_ok (show isAt _ _ _ = true from z2)
    obtain ⟨a1, a2⟩ := mkF d hd q2
    have e4 : it.ad K = He.ma K (gaS K d.name) (sO "__init__") := by unfold Item.ad; rw [k2]; rfl
    exact ⟨a1, it, hit, k1, by unfold Item.key; rw [k2]; rfl, k3, by rw [e4]; exact a2⟩
/-- the law's end: n levels of calls -/
theorem law_of {P : Program} {w : World} {n most : Nat} {x : PySem.Str} {it : Item} (hit : it ∈ t.items) (hn : it.d.name = "law") (hat : it.at_ = ("law", none)) (hd : it.dfl = [] ∧ it.kwd = []) (hx : it.ps = [x]) (hf : fnTab t.items "law" = some it.d)
    (X : K.In h) (Gn : h.Ns mainGlobals mg) (c : He.SaysD (faOf t.items t.con t.cls) (t.items.map dOf) K) (hok : t.ok = true) (hb : ∀ it ∈ t.items, BindP t it) {fa : Addr} (hfa : mg (sO "law") = some (.ref fa))
    (hbl : ∀ (kV doc pm : Value) (an : Option Addr) (cdv ct : Value) (us : List Value), us.length = it.ps.length → bindArgs (PySem.W.fnOf (sO it.nm) (sO it.qn) (defArgs it.st) (defBody it.st) it.sc .none kV doc pm an cdv ct) ⟨us, []⟩ = pure (it.ps.zip us))
    (plain : ∀ ns : List Int, ns.length ≤ most → ∃ h', callF t.prog n "law" [.lst (ns.map .int)] [] = .ok (.v (.bl true)) h') :
    ∃ (K : PySem.W.Frag) (fd : FuncData) (sp : Sp), K.In h ∧ (∀ (s : Shared) (u : Value), BindsTo s fd ⟨[u], []⟩ [(x, u)]) ∧
      (∀ (H : Hp) (a : Addr) (ns : List Int), ns.length ≤ most → Only H → SqL K H a (ns.map V.int) → sp [.ref a] H (fun v _ => v = .bl true) fun _ _ _ => False) ∧
      ∀ base : Heap, K.In base → base.Ns mainGlobals mg → FnI P w K mg base (2 * n) fa fd [x] sp := by
  have T := text_of X Gn c hok hb
  obtain ⟨fd, F⟩ := T.its it hit
  have e4 : it.ad K = gaS K "law" := by unfold Item.ad; rw [hat]; rfl
  have top : t.prog.top it.d.name = true := List.any_eq_true.mpr ⟨it, hit, by rw [hat]; simp⟩
  have ga := (T.top it hit top).2
  rw [hn, hfa] at ga
  have ea : fa = it.ad K := by
    have := Option.some.inj ga
    cases this; rfl
  refine ⟨K, fd, spI K (callF t.prog n "law"), X, fun s u => ?_, fun H a ns hl hO hS => law_sp hO hS (plain ns hl), fun base kb nb => ?_⟩
  · have F0 : FunD K (sO it.nm) (sO it.qn) (defArgs it.st) (defBody it.st) it.sc [] [] (it.ad K) fd := by
      have := F.fn
      unfold Item.dv Item.kv at this
      rw [hd.1, hd.2] at this
      exact this
    have := FunD.bindsA F0 hbl s [u] (by rw [hx]; rfl)
    rw [hx] at this
    exact this
  · have T2 := text_of (mg := mg) kb nb c hok hb
    obtain ⟨fd2, k2, r⟩ := fns_ok (P := P) (w := w) (base := base) T2 n it hit (by rw [hn]; exact hf)
    have efd : fd2 = fd := by
      obtain ⟨oc, od, dV, kV, doc, pm, an, cdv, ct, osl, e1, lk, _⟩ := F.fn.ex
      obtain ⟨oc2, od2, dV2, kV2, doc2, pm2, an2, cdv2, ct2, osl2, e2, lk2, _⟩ := k2.fn.ex
      rw [lk] at lk2
      have q := Option.some.inj lk2
      clear e1 e2
      cases q; rfl
    rw [hn, hx, efd] at r
    rw [ea]; exact r
end
end Ip

/-! P0: the interpreter's loops in plain terms. -/
namespace Ip
open PySem

theorem wipeI_get_not : ∀ {vs : List Nat} {r : List Slot} {j : Nat}, j ∉ vs → (wipeI r vs)[j]? = r[j]?
  | [], _, _, _ => rfl
  | v :: vs, r, j, h => by
    rw [wipeI_cons, List.getElem?_set_ne (fun z => h (by rw [z]; exact List.mem_cons_self)), wipeI_get_not fun z => h (List.mem_cons_of_mem _ z)]
theorem wipeI_get_mem : ∀ {vs : List Nat} {r : List Slot} {j : Nat}, j ∈ vs → j < r.length → (wipeI r vs)[j]? = some .un
  | v :: vs, r, j, h, hl => by
    rw [wipeI_cons]
    by_cases hv : v = j
    · subst hv
      rw [List.getElem?_set_self (by rw [wipeI_len]; exact hl)]
    · rw [List.getElem?_set_ne hv]
      rcases List.mem_cons.mp h with z | z
      · exact absurd z.symm hv
      · exact wipeI_get_mem z hl
theorem wipeI_idem {vs : List Nat} {r : List Slot} : wipeI (wipeI r vs) vs = wipeI r vs := by
  refine List.ext_getElem? fun j => ?_
  by_cases hj : j ∈ vs
  · by_cases hl : j < r.length
    · rw [wipeI_get_mem hj (by rw [wipeI_len]; exact hl), wipeI_get_mem hj hl]
    · rw [List.getElem?_eq_none (by rw [wipeI_len, wipeI_len]; omega), List.getElem?_eq_none (by rw [wipeI_len]; omega)]
  · rw [wipeI_get_not hj]
theorem backI_wipe {vs : List Nat} {r : List Slot} (h : freeI r vs = true) {r' : List Slot} (e : wipeI r' vs = wipeI r vs) : backI r r' vs = r := by
  have hl : r'.length = r.length := by have := congrArg List.length e; rwa [wipeI_len, wipeI_len] at this
  refine List.ext_getElem? fun j => ?_
  by_cases hj : j ∈ vs
  · obtain ⟨s, e1, _⟩ := freeI_get h hj
    have hjl := (List.getElem?_eq_some_iff.mp e1).1
    rw [backI_mem hj (by rw [hl]; exact hjl), List.getD_eq_getElem?_getD, e1]; rfl
  · rw [backI_not hj]
    have := congrArg (·[j]?) e
    simp only [wipeI_get_not hj] at this
    exact this
/-- a comprehension over items at hand whose test and item leave the state as it is -/
theorem lc_pure {t : Tgt} {c : IS → Out Bool} {e : IS → Out RV} {vs : List Nat} {st : IS} (hf : freeI st.r vs = true) (p : IV → Bool) (g : IV → IV) : ∀ (xs : List IV) (acc : List IV) (r : List Slot), wipeI r vs = wipeI st.r vs → small (acc.length + xs.length) = true →
    (∀ x ∈ xs, ∃ r2, bindT t x ⟨wipeI st.r vs, st.h⟩ = some ⟨r2, st.h⟩ ∧ wipeI r2 vs = wipeI st.r vs ∧ c ⟨r2, st.h⟩ = .ok (p x) ⟨r2, st.h⟩ ∧ (p x = true → ∃ v, e ⟨r2, st.h⟩ = .ok v ⟨r2, st.h⟩ ∧ v.get = g x ∧ stor (g x) = true)) →
    ∃ r', wipeI r' vs = wipeI st.r vs ∧ foldW (lcTurn t c e vs) xs acc ⟨r, st.h⟩ = .ok (acc ++ (xs.filter p).map g) ⟨r', st.h⟩
  | [], acc, r, hr, _, _ => ⟨r, hr, by simp [foldW]⟩
  | x :: xs, acc, r, hr, hs, h => by
    obtain ⟨r2, e1, e2, e3, e4⟩ := h x List.mem_cons_self
    have hs1 : small acc.length = true := by have := of_decide_eq_true hs; exact decide_eq_true (by simp at this; omega)
    have turn : lcTurn t c e vs acc x ⟨r, st.h⟩ = .ok (if p x = true then acc ++ [g x] else acc) ⟨wipeI st.r vs, st.h⟩ := by
      show (Out.of _ (bindT t x ⟨wipeI r vs, st.h⟩)).bind _ = _
      rw [hr, e1]
      show ((c ⟨r2, st.h⟩).noX).bind _ = _
      rw [e3]
      by_cases hp : p x = true
      · obtain ⟨v, e5, e6, e7⟩ := e4 hp
        rw [if_pos hp]
        show (if p x = true then ((sOf (e ⟨r2, st.h⟩)).noX).bind _ else _) = _
        rw [if_pos hp, e5, sOf_ok, e6, if_pos e7]
        show (if small acc.length = true then Out.ok (acc ++ [g x]) { r := wipeI r2 vs, h := st.h } else .bad) = _
        rw [if_pos hs1, e2]
      · rw [if_neg hp]
        show (if p x = true then _ else Out.ok acc { r := wipeI r2 vs, h := st.h }) = _
        rw [if_neg hp, e2]
    have hs2 : small ((if p x = true then acc ++ [g x] else acc).length + xs.length) = true := by
      have := of_decide_eq_true hs
      refine decide_eq_true ?_
      split <;> simp at this ⊢ <;> omega
    obtain ⟨r', h1, h2⟩ := lc_pure hf p g xs (if p x = true then acc ++ [g x] else acc) (wipeI st.r vs) wipeI_idem hs2 fun y hy => h y (List.mem_cons_of_mem _ hy)
    refine ⟨r', h1, ?_⟩
    rw [foldW, turn]
    show foldW _ xs _ _ = _
    rw [h2]
    by_cases hp : p x = true
    · rw [if_pos hp, List.filter_cons_of_pos hp, List.map_cons]; simp
    · rw [if_neg hp, List.filter_cons_of_neg hp]
/-- what is a list: a value, or a cell that holds one -/
def Sq (h : IHeap) (x : IV) (xs : List IV) : Prop := x = .lst xs ∨ ∃ n : Nat, x = .ref n ∧ (h[n]?).join = some (.lst xs)
theorem Sq.cont {h : IHeap} {x : IV} {xs : List IV} (s : Sq h x xs) (r : List Slot) : Ip.cont ⟨r, h⟩ x = some (.lst xs) := by
  rcases s with rfl | ⟨n, rfl, e⟩
  · rfl
  · exact e
theorem Sq.seqL {h : IHeap} {x : IV} {xs : List IV} (s : Sq h x xs) (r : List Slot) : Ip.seqL ⟨r, h⟩ x = some xs := by
  unfold Ip.seqL
  rw [s.cont r]; rfl
theorem Sq.stor {h : IHeap} {x : IV} {xs : List IV} (s : Sq h x xs) : Ip.stor x = true := by
  rcases s with rfl | ⟨n, rfl, e⟩ <;> rfl
/-- a walk over it, while the heap stays -/
theorem Sq.fold {α : Type} {f : α → IV → IS → Out α} {h : IHeap} {x : IV} {xs : List IV} (s : Sq h x xs) (inv : List Slot → Prop) (hf : ∀ a y r a' st', y ∈ xs → inv r → f a y ⟨r, h⟩ = .ok a' st' → st'.h = h ∧ inv st'.r) (a : α) {r : List Slot} (hr : inv r) :
    ∃ w, walkOf ⟨r, h⟩ x = some w ∧ foldWalk f w a ⟨r, h⟩ = foldW f xs a ⟨r, h⟩ := by
  rcases s with rfl | ⟨n, rfl, e⟩
  · exact ⟨_, rfl, rfl⟩
  · have sq : ∀ r', Ip.seqL ⟨r', h⟩ (.ref n) = some xs := fun r' => by unfold Ip.seqL; show ((h[n]?).join).bind asL = _; rw [e]; rfl
    refine ⟨.live (.ref n) xs.length, by show (Ip.seqL ⟨r, h⟩ (.ref n)).map _ = _; rw [sq r]; rfl, ?_⟩
    have go : ∀ (m i : Nat) (a : α) (r : List Slot), inv r → i + m = xs.length → foldLive f (.ref n) m i a ⟨r, h⟩ = foldW f (xs.drop i) a ⟨r, h⟩ := by
      intro m
      induction m with
      | zero =>
        intro i a r _ hi
        rw [foldLive, sq r, List.drop_eq_nil_of_le (by omega)]
        show (if xs.length ≤ i then Out.ok a _ else .bad) = _
        rw [if_pos (by omega)]; rfl
      | succ m ih =>
        intro i a r hr hi
        have hlt : i < xs.length := by omega
        rw [foldLive, sq r, List.drop_eq_getElem_cons hlt, foldW]
        show (Out.of _ (xs[i]?)).bind _ = _
        rw [List.getElem?_eq_getElem hlt]
        show (f a xs[i] ⟨r, h⟩).bind _ = _
        cases ef : f a xs[i] ⟨r, h⟩ with
        | ok a' st' =>
          obtain ⟨r', h'⟩ := st'
          obtain ⟨eh, hr'⟩ := hf _ _ _ _ _ (List.getElem_mem hlt) hr ef
          have eh' : h' = h := eh
          subst eh'
          exact ih (i + 1) a' r' hr' (by omega)
        | exc c fs st' => rfl
        | bad => rfl
    exact (go xs.length 0 a r hr (by omega))
theorem Sq.each {f : IV → IS → SOut} {h : IHeap} {x : IV} {xs : List IV} (s : Sq h x xs) (inv : List Slot → Prop) (hf : ∀ y r st', y ∈ xs → inv r → f y ⟨r, h⟩ = .next st' ∨ f y ⟨r, h⟩ = .cont st' → st'.h = h ∧ inv st'.r) {r : List Slot} (hr : inv r) :
    ∃ w, walkOf ⟨r, h⟩ x = some w ∧ forWalk f w ⟨r, h⟩ = forItems f xs ⟨r, h⟩ := by
  rcases s with rfl | ⟨n, rfl, e⟩
  · exact ⟨_, rfl, rfl⟩
  · have sq : ∀ r', Ip.seqL ⟨r', h⟩ (.ref n) = some xs := fun r' => by unfold Ip.seqL; show ((h[n]?).join).bind asL = _; rw [e]; rfl
    refine ⟨.live (.ref n) xs.length, by show (Ip.seqL ⟨r, h⟩ (.ref n)).map _ = _; rw [sq r]; rfl, ?_⟩
    have go : ∀ (m i : Nat) (r : List Slot), inv r → i + m = xs.length → forLive f (.ref n) m i ⟨r, h⟩ = forItems f (xs.drop i) ⟨r, h⟩ := by
      intro m
      induction m with
      | zero =>
        intro i r _ hi
        rw [forLive, sq r, List.drop_eq_nil_of_le (by omega)]
        show (if xs.length ≤ i then SOut.next _ else .bad) = _
        rw [if_pos (by omega)]; rfl
      | succ m ih =>
        intro i r hr hi
        have hlt : i < xs.length := by omega
        rw [forLive, sq r, List.drop_eq_getElem_cons hlt, forItems]
        show (Out.of _ (xs[i]?)).toS _ = _
        rw [List.getElem?_eq_getElem hlt]
        show (f xs[i] ⟨r, h⟩).turn _ = _
        cases ef : f xs[i] ⟨r, h⟩ with
        | next st' =>
          obtain ⟨r', h'⟩ := st'
          obtain ⟨eh, hr'⟩ := hf _ _ _ (List.getElem_mem hlt) hr (.inl ef)
          have eh' : h' = h := eh
          subst eh'
          exact ih (i + 1) r' hr' (by omega)
        | cont st' =>
          obtain ⟨r', h'⟩ := st'
          obtain ⟨eh, hr'⟩ := hf _ _ _ (List.getElem_mem hlt) hr (.inr ef)
          have eh' : h' = h := eh
          subst eh'
          exact ih (i + 1) r' hr' (by omega)
        | _ => rfl
    exact go xs.length 0 r hr (by omega)
/-- the turn of a comprehension whose test and item leave the state -/
structure Pt (t : Tgt) (c : IS → Out Bool) (e : IS → Out RV) (vs : List Nat) (st : IS) (p : IV → Bool) (g : IV → IV) (x : IV) : Prop where
  ex : ∃ r2, bindT t x ⟨wipeI st.r vs, st.h⟩ = some ⟨r2, st.h⟩ ∧ wipeI r2 vs = wipeI st.r vs ∧ c ⟨r2, st.h⟩ = .ok (p x) ⟨r2, st.h⟩ ∧ (p x = true → ∃ v, e ⟨r2, st.h⟩ = .ok v ⟨r2, st.h⟩ ∧ v.get = g x ∧ stor (g x) = true)
theorem Pt.turn {t : Tgt} {c : IS → Out Bool} {e : IS → Out RV} {vs : List Nat} {st : IS} {p : IV → Bool} {g : IV → IV} {x : IV} (h : Pt t c e vs st p g x) {r : List Slot} (hr : wipeI r vs = wipeI st.r vs) (acc : List IV) :
    lcTurn t c e vs acc x ⟨r, st.h⟩ = if p x = true then (if small acc.length = true then .ok (acc ++ [g x]) ⟨wipeI st.r vs, st.h⟩ else .bad) else .ok acc ⟨wipeI st.r vs, st.h⟩ := by
  obtain ⟨r2, e1, e2, e3, e4⟩ := h.ex
  show (Out.of _ (bindT t x ⟨wipeI r vs, st.h⟩)).bind _ = _
  rw [hr, e1]
  show ((c ⟨r2, st.h⟩).noX).bind _ = _
  rw [e3]
  by_cases hp : p x = true
  · obtain ⟨v, e5, e6, e7⟩ := e4 hp
    rw [if_pos hp]
    show (if p x = true then ((sOf (e ⟨r2, st.h⟩)).noX).bind _ else _) = _
    rw [if_pos hp, e5, sOf_ok, e6, if_pos e7]
    show (if small acc.length = true then Out.ok (acc ++ [g x]) { r := wipeI r2 vs, h := st.h } else .bad) = _
    rw [e2]
  · rw [if_neg hp]
    show (if p x = true then _ else Out.ok acc { r := wipeI r2 vs, h := st.h }) = _
    rw [if_neg hp, e2]
theorem ev_lc {G : Prog} {call : Caller} {e : CE} {t : Tgt} {it : IT} {ifs : Option CE} {own : List (String × Nat)} {st : IS} {x : IV} {xs : List IV} (p : IV → Bool) (g : IV → IV) (hw : evW G call it st = Out.of st (walkOf st x)) (hx : Sq st.h x xs) (hf : freeI st.r (own.map (·.2)) = true)
    (hs : small xs.length = true) (ht : ∀ y ∈ xs, Pt t (evTo G call ifs) (evF G call e) (own.map (·.2)) st p g y) : evF G call (.lc e t it ifs own) st = .ok (.fr (.lst ((xs.filter p).map g))) st := by
  obtain ⟨r, h⟩ := st
  obtain ⟨w, e1, e2⟩ := hx.fold (f := lcTurn t (evTo G call ifs) (evF G call e) (own.map (·.2))) (fun r' => wipeI r' (own.map (·.2)) = wipeI r (own.map (·.2))) (fun a y r' a' st' hy hr' ef => by
    rw [(ht y hy).turn hr'] at ef
    split at ef
    · split at ef
      · cases ef; exact ⟨rfl, wipeI_idem⟩
      · cases ef
    · cases ef; exact ⟨rfl, wipeI_idem⟩) [] (r := r) rfl
  obtain ⟨r', h1, h2⟩ := lc_pure hf p g xs [] r rfl (by simpa using hs) fun y hy => (ht y hy).ex
  unfold evF
  rw [hw, e1]
  show (if freeI r (own.map (·.2)) = true then _ else _) = _
  rw [if_pos hf, e2, h2]
  show Out.ok _ _ = _
  rw [backI_wipe hf h1]; rfl

/-! ### the equations, one by one -/
section
variable {G : Prog} {call : Caller} {st : IS} {r : List Slot} {s0 : Slot} {h : IHeap}
theorem exs_cons0 {c : CS} {cs : List CS} : exs G call (c :: cs) st = (ex G call c st).then (exs G call cs) := by rw [exs]
theorem exs_nil0 : exs G call [] st = .next st := by rw [exs]
theorem ev_lit0 {x : IV} : evF G call (.lit x) st = .ok (.v x) st := by rw [evF]
theorem ex_retG {e : CE} : ex G call (.ret e) st = (evF G call e st).toS fun r st => if stor r.get then .ret r st else .bad := by rw [ex]
theorem ex_forG {t : Tgt} {it : IT} {b : List CS} : ex G call (.for t it b) st = (evW G call it st).toS fun w st => forWalk (forTurn t (exs G call b)) w st := by rw [ex]
theorem ex_whlG {m : Nat} {c : CE} {b : List CS} : ex G call (.whl m c b) st = whlL (fun st => tOf (evF G call c st)) (exs G call b) m st := by rw [ex]
theorem ex_forDG {t : Tgt} {i : Nat} {b : List CS} : ex G call (.forD t i b) st = (Out.of st ((st.r[i]?).bind keysOf)).toS fun xs st => forItems (forTurn t (exs G call b)) xs st := by rw [ex]
@[simp] theorem ev_lit {x : IV} : evF G call (.lit x) ⟨s0 :: r, h⟩ = .ok (.v x) ⟨s0 :: r, h⟩ := by rw [evF]
@[simp] theorem ev_slot {i : Nat} : evF G call (.slot i) ⟨s0 :: r, h⟩ = Out.of ⟨s0 :: r, h⟩ (((s0 :: r)[i]?).bind (slotE i)) := by rw [evF]
@[simp] theorem ev_move {i : Nat} : evF G call (.move i) ⟨s0 :: r, h⟩ = (Out.of ⟨s0 :: r, h⟩ (((s0 :: r)[i]?).bind ownC)).bind fun c st => .ok (.fr c) { st with r := st.r.set i .un } := by rw [evF]
@[simp] theorem ev_glo {x : String} : evF G call (.glo x) ⟨s0 :: r, h⟩ = Out.of ⟨s0 :: r, h⟩ ((G.con x).map .v) := by rw [evF]
@[simp] theorem ev_bin {op : Operator} {a b : CE} : evF G call (.bin op a b) ⟨s0 :: r, h⟩ = (vOf (evF G call a ⟨s0 :: r, h⟩)).bind fun x st => (vOf (evF G call b st)).bind fun y st => Out.of st (binS st op x y) := by rw [evF]
@[simp] theorem ev_neg {a : CE} : evF G call (.neg a) ⟨s0 :: r, h⟩ = (vOf (evF G call a ⟨s0 :: r, h⟩)).bind fun x st => Out.of st ((asI x).map fun i => .v (.int (-i))) := by rw [evF]
@[simp] theorem ev_cmp {op : CmpOp} {a b : CE} : evF G call (.cmp op a b) ⟨s0 :: r, h⟩ = (vOf (evF G call a ⟨s0 :: r, h⟩)).bind fun x st => (vOf (evF G call b st)).bind fun y st => Out.of st ((cmpS st op x y).map fun c => .v (.bl c)) := by rw [evF]
@[simp] theorem ev_chain {op op2 : CmpOp} {a b c : CE} : evF G call (.chain op op2 a b c) ⟨s0 :: r, h⟩ = (vOf (evF G call a ⟨s0 :: r, h⟩)).bind fun x st => (vOf (evF G call b st)).bind fun y st => (Out.of st (cmpS st op x y)).bind fun t st => if t = true then (vOf (evF G call c st)).bind fun z st => Out.of st ((cmpS st op2 y z).map fun c => .v (.bl c)) else .ok (.v (.bl false)) st := by rw [evF]
@[simp] theorem ev_boo {op : BoolOp} {es : List CE} : evF G call (.boo op es) ⟨s0 :: r, h⟩ = evB G call op es ⟨s0 :: r, h⟩ := by rw [evF]
@[simp] theorem ev_b1 {op : BoolOp} {c : CE} : evB G call op [c] ⟨s0 :: r, h⟩ = evF G call c ⟨s0 :: r, h⟩ := by rw [evB]
@[simp] theorem ev_b2 {op : BoolOp} {c c2 : CE} {cs : List CE} : evB G call op (c :: c2 :: cs) ⟨s0 :: r, h⟩ = (vOf (evF G call c ⟨s0 :: r, h⟩)).bind fun x st => (Out.of st (truth st x)).bind fun t st => if t = stops op then .ok (.v x) st else (vOf (evB G call op (c2 :: cs) st)).bind fun y st => .ok (.v y) st := by rw [evB]
@[simp] theorem ev_not {a : CE} : evF G call (.not a) ⟨s0 :: r, h⟩ = (tOf (evF G call a ⟨s0 :: r, h⟩)).bind fun c st => .ok (.v (.bl (!c))) st := by rw [evF]
@[simp] theorem ev_ife {c a b : CE} : evF G call (.ife c a b) ⟨s0 :: r, h⟩ = (tOf (evF G call c ⟨s0 :: r, h⟩)).bind fun c st => if c = true then (vOf (evF G call a st)).bind fun y st => .ok (.v y) st else (vOf (evF G call b st)).bind fun y st => .ok (.v y) st := by rw [evF]
@[simp] theorem ev_tup {es : List CE} : evF G call (.tup es) ⟨s0 :: r, h⟩ = (evs G call es ⟨s0 :: r, h⟩).bind fun xs st => if small xs.length then .ok (.v (.tup xs)) st else .bad := by rw [evF]
@[simp] theorem ev_lst {es : List CE} : evF G call (.lst es) ⟨s0 :: r, h⟩ = (evs G call es ⟨s0 :: r, h⟩).bind fun xs st => if small xs.length then .ok (.fr (.lst xs)) st else .bad := by rw [evF]
@[simp] theorem ev_dict0 : evF G call .dict0 ⟨s0 :: r, h⟩ = .ok (.fr (.dK [])) ⟨s0 :: r, h⟩ := by rw [evF]
@[simp] theorem ev_sub {a i : CE} : evF G call (.sub a i) ⟨s0 :: r, h⟩ = (vOf (evF G call a ⟨s0 :: r, h⟩)).bind fun x st => (vOf (evF G call i st)).bind fun k st => Out.of st ((subS st x k).map .v) := by rw [evF]
@[simp] theorem ev_slc {a : CE} {lo hi : Option CE} : evF G call (.slc a lo hi) ⟨s0 :: r, h⟩ = (vOf (evF G call a ⟨s0 :: r, h⟩)).bind fun x st => (evO G call lo st).bind fun l st => (evO G call hi st).bind fun u st => Out.of st (slcS st x l u) := by rw [evF]
@[simp] theorem ev_rev {a : CE} : evF G call (.rev a) ⟨s0 :: r, h⟩ = (vOf (evF G call a ⟨s0 :: r, h⟩)).bind fun x st => Out.of st ((seqL st x).map fun xs => .fr (.lst xs.reverse)) := by rw [evF]
@[simp] theorem ev_call {f : String} {es : List CE} : evF G call (.call f es) ⟨s0 :: r, h⟩ = (evs G call es ⟨s0 :: r, h⟩).bind fun xs st => callO st (call f xs st.h) := by rw [evF]
@[simp] theorem ev_bi {b : BI} {e : CE} : evF G call (.bi b e) ⟨s0 :: r, h⟩ = (vOf (evF G call e ⟨s0 :: r, h⟩)).bind fun x st => Out.of st (bi1 st b x) := by rw [evF]
@[simp] theorem ev_bi2 {b : BI} {e e2 : CE} : evF G call (.bi2 b e e2) ⟨s0 :: r, h⟩ = (vOf (evF G call e ⟨s0 :: r, h⟩)).bind fun x st => (vOf (evF G call e2 st)).bind fun y st => Out.of st (Ip.bi2 st b x y) := by rw [evF]
@[simp] theorem ev_cell {e : CE} : evF G call (.cell e) ⟨s0 :: r, h⟩ = (evF G call e ⟨s0 :: r, h⟩).bind fun r st => (Out.of st (asFr r)).bind fun c st => .ok (.v (.ref st.h.length)) { st with h := st.h ++ [some c] } := by rw [evF]
@[simp] theorem ev_app {o e : CE} : evF G call (.app o e) ⟨s0 :: r, h⟩ = (vOf (evF G call o ⟨s0 :: r, h⟩)).bind fun x st => (Out.of st (seqL st x)).bind fun _ st => (sOf (evF G call e st)).bind fun y st => (Out.of st (appS st x y)).bind fun st _ => .ok (.v .non) st := by rw [evF]
@[simp] theorem ev_dict1 {a b : CE} : evF G call (.dict1 a b) ⟨s0 :: r, h⟩ = (sOf (evF G call a ⟨s0 :: r, h⟩)).noX.bind fun k st => (Out.of st (asK k)).bind fun k st => (sOf (evF G call b st)).noX.bind fun y st => .ok (.fr (.dK [(k, y)])) st := by rw [evF]
@[simp] theorem ev_attr {e : CE} {f : String} : evF G call (.attr e f) ⟨s0 :: r, h⟩ = (vOf (evF G call e ⟨s0 :: r, h⟩)).bind fun x st => Out.of st ((attrS G st f x).map .v) := by rw [evF]
@[simp] theorem ev_meth {o : CE} {m : String} {es : List CE} : evF G call (.meth o m es) ⟨s0 :: r, h⟩ = (sOf (evF G call o ⟨s0 :: r, h⟩)).bind fun x st => (Out.of st (methS G st m x)).bind fun f st => (evs G call es st).bind fun xs st => callO st (call f (x :: xs) st.h) := by rw [evF]
@[simp] theorem ev_mk {keep : Bool} {c : String} {es kes : List CE} {ks : List String} {o : List Ar} : evF G call (.mk keep c es kes ks o) ⟨s0 :: r, h⟩ = (evs G call es ⟨s0 :: r, h⟩).bind fun xs st => (evs G call kes st).bind fun zs st => (Out.of st (arr (.ref st.h.length :: (xs ++ zs)) o)).bind fun ys st => mkO keep st (call (c ++ ".__init__") ys (st.h ++ [some (.obj c [])])) := by rw [evF]
@[simp] theorem ev_callB {f : String} {es kes : List CE} {ks : List String} {o : List Ar} : evF G call (.callB f es kes ks o) ⟨s0 :: r, h⟩ = (evs G call es ⟨s0 :: r, h⟩).bind fun xs st => (evs G call kes st).bind fun zs st => (Out.of st (arr (xs ++ zs) o)).bind fun ys st => callO st (call f ys st.h) := by rw [evF]
@[simp] theorem ev_methB {a : CE} {m : String} {es kes : List CE} {ks : List String} {o : List Ar} : evF G call (.methB a m es kes ks o) ⟨s0 :: r, h⟩ = (sOf (evF G call a ⟨s0 :: r, h⟩)).bind fun x st => (Out.of st (methS G st m x)).bind fun f st => (evs G call es st).bind fun xs st => (evs G call kes st).bind fun zs st => (Out.of st (arr (x :: (xs ++ zs)) o)).bind fun ys st => callO st (call f ys st.h) := by rw [evF]
@[simp] theorem ev_pop1 {o i : CE} : evF G call (.pop1 o i) ⟨s0 :: r, h⟩ = (vOf (evF G call o ⟨s0 :: r, h⟩)).bind fun x st => (Out.of st (seqL st x)).bind fun _ st => (vOf (evF G call i st)).bind fun k st => (Out.of st (popS st x k)).bind fun p _ => .ok (.v p.1) p.2 := by rw [evF]
@[simp] theorem ev_get2 {o k d : CE} : evF G call (.get2 o k d) ⟨s0 :: r, h⟩ = (vOf (evF G call o ⟨s0 :: r, h⟩)).bind fun x st => (Out.of st ((cont st x).bind asDK)).bind fun _ st => (vOf (evF G call k st)).bind fun k st => (sOf (evF G call d st)).bind fun d st => Out.of st (get2S st x k d) := by rw [evF]
@[simp] theorem ev_index {o e : CE} : evF G call (.index o e) ⟨s0 :: r, h⟩ = (vOf (evF G call o ⟨s0 :: r, h⟩)).bind fun x st => (Out.of st (seqL st x)).bind fun _ st => (vOf (evF G call e st)).bind fun y st => Out.of st (indexS st x y) := by rw [evF]
@[simp] theorem evTo_none : evTo G call none ⟨s0 :: r, h⟩ = .ok true ⟨s0 :: r, h⟩ := by rw [evTo]
@[simp] theorem evTo_some {e : CE} : evTo G call (some e) ⟨s0 :: r, h⟩ = tOf (evF G call e ⟨s0 :: r, h⟩) := by rw [evTo]
@[simp] theorem evO_none : evO G call none ⟨s0 :: r, h⟩ = .ok none ⟨s0 :: r, h⟩ := by rw [evO]
@[simp] theorem evO_some {e : CE} : evO G call (some e) ⟨s0 :: r, h⟩ = (vOf (evF G call e ⟨s0 :: r, h⟩)).bind fun x st => Out.of st ((asI x).map some) := by rw [evO]
@[simp] theorem evs_nil : evs G call [] ⟨s0 :: r, h⟩ = .ok [] ⟨s0 :: r, h⟩ := by rw [evs]
@[simp] theorem evs_cons {e : CE} {es : List CE} : evs G call (e :: es) ⟨s0 :: r, h⟩ = (sOf (evF G call e ⟨s0 :: r, h⟩)).bind fun x st => (evs G call es st).bind fun xs st => .ok (x :: xs) st := by rw [evs]
@[simp] theorem evW_it {e : CE} : evW G call (.it e) ⟨s0 :: r, h⟩ = (vOf (evF G call e ⟨s0 :: r, h⟩)).bind fun x st => Out.of st (walkOf st x) := by rw [evW]
@[simp] theorem evW_rng1 {e : CE} : evW G call (.rng1 e) ⟨s0 :: r, h⟩ = (vOf (evF G call e ⟨s0 :: r, h⟩)).bind fun x st => Out.of st ((asI x).bind fun n => if i62 n then some (.items (rangeI 0 n.toNat)) else none) := by rw [evW]
@[simp] theorem evW_rng2 {a b : CE} : evW G call (.rng2 a b) ⟨s0 :: r, h⟩ = (vOf (evF G call a ⟨s0 :: r, h⟩)).bind fun x st => (vOf (evF G call b st)).bind fun y st => Out.of st ((asI x).bind fun l => (asI y).bind fun n => if i62 n && i62 l then some (.items (rangeI l (n - l).toNat)) else none) := by rw [evW]
@[simp] theorem evW_enum {e : CE} : evW G call (.enum e) ⟨s0 :: r, h⟩ = (vOf (evF G call e ⟨s0 :: r, h⟩)).bind fun x st => Out.of st ((asL x).map fun xs => .items (enumI 0 xs)) := by rw [evW]
@[simp] theorem evW_zip {a b : CE} : evW G call (.zip a b) ⟨s0 :: r, h⟩ = (vOf (evF G call a ⟨s0 :: r, h⟩)).bind fun x st => (vOf (evF G call b st)).bind fun y st => Out.of st ((asL x).bind fun xs => (asL y).map fun ys => .items (zipI xs ys)) := by rw [evW]
@[simp] theorem ex_expr {e : CE} : ex G call (.expr e) ⟨s0 :: r, h⟩ = (evF G call e ⟨s0 :: r, h⟩).toS fun _ st => .next st := by rw [ex]
@[simp] theorem ex_ret {e : CE} : ex G call (.ret e) ⟨s0 :: r, h⟩ = (evF G call e ⟨s0 :: r, h⟩).toS fun r st => if stor r.get then .ret r st else .bad := by rw [ex]
@[simp] theorem ex_ret0 : ex G call .ret0 ⟨s0 :: r, h⟩ = .ret (.v .non) ⟨s0 :: r, h⟩ := by rw [ex]
@[simp] theorem ex_tgt {t : Tgt} {e : CE} : ex G call (.asg (.tgt t) e) ⟨s0 :: r, h⟩ = (sOf (evF G call e ⟨s0 :: r, h⟩)).toS fun x st => optS (bindT t x st) := by rw [ex]
@[simp] theorem ex_own {i : Nat} {e : CE} : ex G call (.asg (.own i) e) ⟨s0 :: r, h⟩ = (evF G call e ⟨s0 :: r, h⟩).toS fun r st => (Out.of st (asFr r)).toS fun c st => if i < st.r.length then .next { st with r := st.r.set i (.own c) } else .bad := by rw [ex]
@[simp] theorem ex_asub {o i e : CE} : ex G call (.asg (.sub o i) e) ⟨s0 :: r, h⟩ = (sOf (evF G call e ⟨s0 :: r, h⟩)).toS fun y st => (vOf (evF G call o st)).toS fun o st => (vOf (evF G call i st)).toS fun i st => optS (setS st o i y) := by rw [ex]
@[simp] theorem ex_par {i j : Nat} {a b : CE} : ex G call (.par i j a b) ⟨s0 :: r, h⟩ = (sOf (evF G call a ⟨s0 :: r, h⟩)).toS fun x st => (sOf (evF G call b st)).toS fun y st => if i < st.r.length ∧ j < st.r.length then .next { st with r := (st.r.set i (.val x)).set j (.val y) } else .bad := by rw [ex]
@[simp] theorem ex_swap {o1 i1 o2 i2 a b : CE} : ex G call (.swap o1 i1 o2 i2 a b) ⟨s0 :: r, h⟩ = (sOf (evF G call a ⟨s0 :: r, h⟩)).toS fun x st => (sOf (evF G call b st)).toS fun y st => (vOf (evF G call o1 st)).toS fun o st => (vOf (evF G call i1 st)).toS fun i st => (optS (setS st o i x)).then fun st => (vOf (evF G call o2 st)).toS fun o st => (vOf (evF G call i2 st)).toS fun i st => optS (setS st o i y) := by rw [ex]
@[simp] theorem ex_ite {c : CE} {a b : List CS} : ex G call (.ite c a b) ⟨s0 :: r, h⟩ = (tOf (evF G call c ⟨s0 :: r, h⟩)).toS fun t st => if t = true then exs G call a st else exs G call b st := by rw [ex]
@[simp] theorem ex_whl {m : Nat} {c : CE} {b : List CS} : ex G call (.whl m c b) ⟨s0 :: r, h⟩ = whlL (fun st => tOf (evF G call c st)) (exs G call b) m ⟨s0 :: r, h⟩ := by rw [ex]
@[simp] theorem ex_for {t : Tgt} {it : IT} {b : List CS} : ex G call (.for t it b) ⟨s0 :: r, h⟩ = (evW G call it ⟨s0 :: r, h⟩).toS fun w st => forWalk (forTurn t (exs G call b)) w st := by rw [ex]
@[simp] theorem ex_brk : ex G call .brk ⟨s0 :: r, h⟩ = .brk ⟨s0 :: r, h⟩ := by rw [ex]
@[simp] theorem ex_cont : ex G call .cont ⟨s0 :: r, h⟩ = .cont ⟨s0 :: r, h⟩ := by rw [ex]
@[simp] theorem ex_pass : ex G call .pass ⟨s0 :: r, h⟩ = .next ⟨s0 :: r, h⟩ := by rw [ex]
@[simp] theorem ex_frz {i : Nat} : ex G call (.frz i) ⟨s0 :: r, h⟩ = (Out.of ⟨s0 :: r, h⟩ (((s0 :: r)[i]?).bind ownC)).toS fun c st => .next { st with r := st.r.set i (.val c) } := by rw [ex]
@[simp] theorem ex_forD {t : Tgt} {i : Nat} {b : List CS} : ex G call (.forD t i b) ⟨s0 :: r, h⟩ = (Out.of ⟨s0 :: r, h⟩ (((s0 :: r)[i]?).bind keysOf)).toS fun xs st => forItems (forTurn t (exs G call b)) xs st := by rw [ex]
@[simp] theorem exs_nil : exs G call [] ⟨s0 :: r, h⟩ = .next ⟨s0 :: r, h⟩ := by rw [exs]
@[simp] theorem exs_cons {c : CS} {cs : List CS} : exs G call (c :: cs) ⟨s0 :: r, h⟩ = (ex G call c ⟨s0 :: r, h⟩).then (exs G call cs) := by rw [exs]
@[simp] theorem bindT_name {i : Nat} {x : IV} : bindT (.name i) x st = if stor x && decide (i < st.r.length) then some { st with r := st.r.set i (.val x) } else none := by rw [bindT]
@[simp] theorem bindT_tup {ts : List Tgt} {xs : List IV} : bindT (.tup ts) (.tup xs) st = bindTs ts xs st := by rw [bindT]
@[simp] theorem bindTs_nil : bindTs [] [] st = some st := by rw [bindTs]
@[simp] theorem bindTs_cons {t : Tgt} {ts : List Tgt} {x : IV} {xs : List IV} : bindTs (t :: ts) (x :: xs) st = (bindT t x st).bind (bindTs ts xs) := by rw [bindTs]
@[simp] theorem forTurn_eq {t : Tgt} {b : IS → SOut} {x : IV} : forTurn t b x st = (optS (bindT t x st)).then b := rfl
@[simp] theorem seqL_lst {xs : List IV} : seqL st (.lst xs) = some xs := rfl
@[simp] theorem truth_bl {b : Bool} : truth st (.bl b) = some b := rfl
@[simp] theorem truth_int {b : Int} : truth st (.int b) = some (b != 0) := rfl
@[simp] theorem truth_non : truth st .non = some false := rfl
@[simp] theorem truth_lst {xs : List IV} : truth st (.lst xs) = some (!xs.isEmpty) := rfl
/-- without a test -/
theorem ev_map {e : CE} {t : Tgt} {it : IT} {own : List (String × Nat)} {x : IV} {xs : List IV} (g : IV → IV) (hw : evW G call it st = Out.of st (walkOf st x)) (hx : Sq st.h x xs) (hf : freeI st.r (own.map (·.2)) = true)
    (hs : small xs.length = true) (ht : ∀ y ∈ xs, Pt t (evTo G call none) (evF G call e) (own.map (·.2)) st (fun _ => true) g y) : evF G call (.lc e t it none own) st = .ok (.fr (.lst (xs.map g))) st := by
  have := ev_lc (fun _ => true) g hw hx hf hs ht
  rw [this, List.filter_eq_self.mpr (fun _ _ => rfl)]
end

/-! ### data, slices -/
@[simp] theorem toDrs_ints (st : IS) (xs : List Int) : toDrs st (xs.map .int) = some (xs.map .int) := by
  induction xs with
  | nil => rfl
  | cons x r ih => simp [toDrs, toDr, ih]
@[simp] theorem toDs_ints (xs : List Int) : toDs (xs.map .int) = some (xs.map .int) := by
  induction xs with
  | nil => rfl
  | cons x r ih => simp [toDs, toDs, toD0, ih]
@[simp] theorem toD_int (st : IS) (x : Int) : toD st (.int x) = some (.int x) := rfl
theorem dOk_int (i : Int) : dOk (.int i) = true := rfl
theorem eqv_int (i j : Int) : PyData.eqv (.int i) (.int j) = (i == j) := rfl
theorem inD_ints (x : Int) (ys : List Int) : inD (.int x) (ys.map .int) = some (decide (x ∈ ys)) := by
  have h : (ys.map PyData.int).all dOk = true := by simp [dOk_int]
  unfold inD
  simp only [dOk_int, h, Bool.true_and, if_true]
  congr 1
  induction ys with
  | nil => rfl
  | cons y r ih =>
    have h' : (r.map PyData.int).all dOk = true := by simp [dOk_int]
    simp only [List.map_cons, List.any_cons, eqv_int, ih h', List.mem_cons, Bool.decide_or]
    congr 1
    simp [Bool.beq_eq_decide_eq, eq_comm]
@[simp] theorem inS_ints (st : IS) (x : Int) (ys : List Int) : inS st (.int x) (ys.map .int) = some (decide (x ∈ ys)) := by
  unfold inS
  simp [inD_ints]
theorem cutI_drop (xs : List IV) (k : Nat) : cutI xs (some (k : Int)) none = xs.drop k := by
  unfold cutI
  rw [HT.sIx_nat, HT.sIx_none]
  by_cases h : k ≤ xs.length
  · rw [Nat.min_eq_left h]; exact List.take_of_length_le (by simp)
  · rw [Nat.min_eq_right (by omega), List.drop_eq_nil_of_le (Nat.le_refl _), List.drop_eq_nil_of_le (by omega)]; simp
theorem cutI_take (xs : List IV) (k : Nat) : cutI xs none (some (k : Int)) = xs.take k := by
  unfold cutI
  rw [HT.sIx_nat, HT.sIx_none]
  by_cases h : k ≤ xs.length
  · rw [Nat.min_eq_left h]; simp
  · rw [Nat.min_eq_right (by omega), Nat.sub_zero, List.drop_zero, List.take_of_length_le (Nat.le_refl _), List.take_of_length_le (by omega)]
@[simp] theorem cutI_drop1 (xs : List IV) : cutI xs (some 1) none = xs.drop 1 := cutI_drop xs 1
@[simp] theorem cutI_take1 (xs : List IV) : cutI xs none (some 1) = xs.take 1 := cutI_take xs 1
@[simp] theorem slcS_lst (st : IS) (xs : List IV) (lo hi : Option Int) : slcS st (.lst xs) lo hi = some (.fr (.lst (cutI xs lo hi))) := rfl

/-! ### lists of ints as data -/
theorem canLay_ints (xs : List Int) : PyData.canLayAll0 (xs.map .int) = true := by
  induction xs with
  | nil => unfold PyData.canLayAll0; rfl
  | cons x r ih => rw [List.map_cons]; unfold PyData.canLayAll0; rw [ih]; unfold PyData.canLay0; rfl
theorem depth_ints (xs : List Int) : PyData.depthAll (xs.map .int) = 0 := by
  induction xs with
  | nil => unfold PyData.depthAll; rfl
  | cons x r ih => rw [List.map_cons]; unfold PyData.depthAll; rw [ih]; unfold PyData.depth; rfl
@[simp] theorem dOk_ints (xs : List Int) : dOk (.list (xs.map .int)) = true := by
  unfold dOk SeqAt.shaped PyData.canLay0 PyData.depth
  rw [canLay_ints, depth_ints]; rfl
theorem eqv_ints : ∀ (xs ys : List Int), PyData.eqvAll (xs.map .int) (ys.map .int) = decide (xs = ys)
  | [], [] => by unfold PyData.eqvAll; rfl
  | [], _ :: _ => by rw [List.map_nil, List.map_cons]; unfold PyData.eqvAll; simp
  | _ :: _, [] => by rw [List.map_nil, List.map_cons]; unfold PyData.eqvAll; simp
  | x :: xs, y :: ys => by
    rw [List.map_cons, List.map_cons]
    unfold PyData.eqvAll
    rw [eqv_ints xs ys, eqv_int]
    by_cases h1 : x = y <;> by_cases h2 : xs = ys <;> simp [h1, h2]
@[simp] theorem toD_ints (st : IS) (xs : List Int) : toD st (.lst (xs.map .int)) = some (.list (xs.map .int)) := by
  unfold toD
  simp [toDr]
theorem eqS_ints (st : IS) (xs ys : List Int) : eqS st (.lst (xs.map .int)) (.lst (ys.map .int)) = some (decide (xs = ys)) := by
  unfold eqS eqD
  simp only [toD_ints, Option.bind_some, dOk_ints, Bool.and_self, if_true]
  congr 1
  unfold PyData.eqv
  exact eqv_ints xs ys
theorem eqS_ints_nil (st : IS) (xs : List Int) : eqS st (.lst (xs.map .int)) (.lst []) = some (decide (xs = [])) := eqS_ints st xs []
theorem eqS_int (st : IS) (x y : Int) : eqS st (.int x) (.int y) = some (decide (x = y)) := by
  unfold eqS eqD
  simp [dOk_int, eqv_int, Bool.beq_eq_decide_eq]
@[simp] theorem eqS_nil_nil (st : IS) : eqS st (.lst []) (.lst []) = some true := eqS_ints_nil st []
@[simp] theorem eqS_cons_nil (st : IS) (a : Int) (l : List Int) : eqS st (.lst (.int a :: l.map .int)) (.lst []) = some false := eqS_ints_nil st (a :: l)
@[simp] theorem small_nil : small 0 = true := rfl
/-- back from values -/
def unN : IV → Int
  | .int i => i
  | _ => 0
def unI : IV → List Int
  | .lst xs => xs.map unN
  | _ => []
@[simp] theorem unN_int (i : Int) : unN (.int i) = i := rfl
@[simp] theorem unI_ints (l : List Int) : unI (.lst (l.map .int)) = l := by
  show (l.map .int).map unN = l
  rw [List.map_map]
  exact (List.map_congr_left fun _ _ => rfl).trans (List.map_id l)
@[simp] theorem eqS_one_one (st : IS) (a b : Int) : eqS st (.lst [.int a]) (.lst [.int b]) = some (decide (a = b)) := by
  have := eqS_ints st [a] [b]
  simpa using this
@[simp] theorem eqS_nil_one (st : IS) (b : Int) : eqS st (.lst []) (.lst [.int b]) = some false := eqS_ints st [] [b]
theorem atI_last (xs : List Int) (h : xs ≠ []) : L2.atI (xs.map IV.int) (-1) = some (.int (xs.getLastD 0)) := by
  have hl : 0 < xs.length := List.length_pos_iff.mpr h
  unfold L2.atI L2.ixN
  rw [List.length_map, if_neg (by omega), if_pos (by omega)]
  have e : ((-1 : Int) + (xs.length : Int)).toNat = xs.length - 1 := by omega
  show (xs.map IV.int)[((-1 : Int) + (xs.length : Int)).toNat]? = _
  rw [e, List.getElem?_map, List.getElem?_eq_getElem (by omega)]
  have : xs.getLastD 0 = xs[xs.length - 1] := by rw [List.getLastD_eq_getLast?, List.getLast?_eq_getElem?, List.getElem?_eq_getElem (by omega)]; rfl
  rw [this]; rfl
theorem atI_nat {α : Type} (xs : List α) (k : Nat) : L2.atI xs (k : Int) = xs[k]? := by
  unfold L2.atI L2.ixN
  rw [if_pos (by omega)]
  by_cases h : k < xs.length
  · rw [if_pos (by omega)]; simp
  · rw [if_neg (by omega), List.getElem?_eq_none (by omega)]; rfl
theorem findIdx_ints (xs : List Int) (x : Int) : (xs.map PyData.int).findIdx? (fun e => PyData.eqv e (.int x)) = if x ∈ xs then some (xs.idxOf x) else none := by
  induction xs with
  | nil => rfl
  | cons y r ih =>
    rw [List.map_cons, List.findIdx?_cons, eqv_int, ih]
    by_cases h : y = x
    · subst h; simp
    · have h2 : ¬ x = y := fun z => h z.symm
      have h3 : (y == x) = false := by simpa using h
      rw [h3, if_neg (by simp), List.idxOf_cons, h3]
      by_cases hx : x ∈ r
      · simp [hx, h2]
      · simp [hx, h2]
theorem zipI_pairs : ∀ (xs : List Int) (ks : List Nat), zipI (xs.map .int) (ks.map fun (k : Nat) => IV.int (k : Int)) = (List.zip xs ks).map fun p => .tup [.int p.1, .int (p.2 : Nat)]
  | [], _ => by simp [zipI]
  | _ :: _, [] => by simp [zipI]
  | x :: xs, k :: ks => by simp [zipI, zipI_pairs xs ks]
end Ip

/-! Pg1: merge and what it calls (printed by comp.py from the program's defs), and what they compute. -/
namespace Pg
open PySem Ip
def is_integer_c : List CS := [.ret (.boo .And [(.bi (.isi "int") (.slot 0)), (.not (.bi (.isi "bool") (.slot 0)))])]
def is_integer_d : FnDef := ⟨"is_integer", 1, ["value"], is_integer_c⟩
def are_integers_e1 : CE := (.call "is_integer" [(.slot 1)])
def are_integers_c : List CS := [.ret (.boo .And [(.bi (.isi "list") (.slot 0)), (.bi .all (.lc are_integers_e1 (.name 1) (.it (.slot 0)) none [("item", 1)]))])]
def are_integers_d : FnDef := ⟨"are_integers", 1, ["value", "item"], are_integers_c⟩
def check_lists_e1 : CE := (.call "are_integers" [(.slot 1)])
def check_lists_e2 : CE := (.cmp .Gt (.bi .len (.slot 1)) (.glo "MOST_ITEMS"))
def check_lists_b3 : List CS := [.ite (.cmp .In (.slot 3) (.slc (.slot 1) none (some (.slot 2)))) [.never] []]
def check_lists_b4 : List CS := [.for (.tup [(.name 2), (.name 3)]) (.enum (.slot 1)) check_lists_b3]
def check_lists_c : List CS := [.ite (.boo .Or [(.not (.bi (.isi "list") (.slot 0))), (.not (.bi .all (.lc check_lists_e1 (.name 1) (.it (.slot 0)) none [("one", 1)])))]) [.never] [], .ite (.boo .Or [(.cmp .Gt (.bi .len (.slot 0)) (.glo "MOST_LISTS")), (.bi .any (.lc check_lists_e2 (.name 1) (.it (.slot 0)) none [("one", 1)]))]) [.never] [], .for (.name 1) (.it (.slot 0)) check_lists_b4]
def check_lists_d : FnDef := ⟨"check_lists", 1, ["lists", "one", "at", "item"], check_lists_c⟩
def list_behind_b1 : List CS := [.ite (.cmp .In (.slot 1) (.slc (.slot 3) (some (.lit (.int 1))) none)) [.ret (.slot 2)] []]
def list_behind_c : List CS := [.for (.tup [(.name 2), (.name 3)]) (.enum (.slot 0)) list_behind_b1, .ret (.lit .non)]
def list_behind_d : FnDef := ⟨"list_behind", 2, ["left", "item", "at", "one"], list_behind_c⟩
def ring_in_e1 : CE := (.sub (.slot 2) (.lit (.int 0)))
def ring_in_i2 : CE := (.cmp .NotEq (.slot 2) (.lst []))
def ring_in_w3 : List CS := [.asg (.tgt (.name 4)) (.boo .Or [(.call "list_behind" [(.slot 0), (.sub (.slot 1) (.neg (.lit (.int 1))))]), (.lit (.int 0))]), .asg (.tgt (.name 5)) (.sub (.sub (.slot 0) (.slot 4)) (.lit (.int 0))), .ite (.cmp .In (.slot 5) (.slot 1)) [.asg (.tgt (.name 6)) (.index (.slot 1) (.slot 5)), .ret (.bin .Add (.lst [(.tup [(.slot 5), (.slot 4)])]) (.rev (.bi2 .zipl (.slc (.slot 1) (some (.bin .Add (.slot 6) (.lit (.int 1)))) none) (.slc (.slot 3) (some (.slot 6)) none))))] [], .expr (.app (.slot 1) (.slot 5)), .expr (.app (.slot 3) (.slot 4))]
def ring_in_c : List CS := [.asg (.own 1) (.lst [(.sub (.lc ring_in_e1 (.name 2) (.it (.slot 0)) (some ring_in_i2) [("one", 2)]) (.lit (.int 0)))]), .asg (.own 3) (.lst []), .whl 100000 (.lit (.bl true)) ring_in_w3]
def ring_in_d : FnDef := ⟨"ring_in", 1, ["left", "walk", "one", "via", "at", "ahead", "first"], ring_in_c⟩
def merge_e1 : CE := (.bi .list (.slot 2))
def merge_e2 : CE := (.sub (.slot 2) (.lit (.int 0)))
def merge_i3 : CE := (.boo .And [(.cmp .NotEq (.slot 2) (.lst [])), (.cmp .Is (.call "list_behind" [(.slot 1), (.sub (.slot 2) (.lit (.int 0)))]) (.lit .non))])
def merge_e4 : CE := (.ife (.cmp .Eq (.slc (.slot 2) none (some (.lit (.int 1)))) (.slc (.slot 4) none (some (.lit (.int 1))))) (.slc (.slot 2) (some (.lit (.int 1))) none) (.slot 2))
def merge_w5 : List CS := [.asg (.tgt (.name 4)) (.lc merge_e2 (.name 2) (.it (.slot 1)) (some merge_i3) [("one", 2)]), .ite (.cmp .Eq (.slot 4) (.lst [])) [.ret (.tup [(.lit (.str (sO "ring"))), (.call "ring_in" [(.slot 1)])])] [], .expr (.app (.slot 3) (.sub (.slot 4) (.lit (.int 0)))), .asg (.tgt (.name 1)) (.lc merge_e4 (.name 2) (.it (.slot 1)) none [("one", 2)])]
def merge_c : List CS := [.expr (.call "check_lists" [(.slot 0)]), .asg (.tgt (.name 1)) (.lc merge_e1 (.name 2) (.it (.slot 0)) none [("one", 2)]), .asg (.own 3) (.lst []), .whl 100000 (.bi .any (.slot 1)) merge_w5, .ret (.tup [(.lit (.str (sO "order"))), (.move 3)])]
def merge_d : FnDef := ⟨"merge", 1, ["lists", "left", "one", "found", "free"], merge_c⟩
def iL (xs : List Int) : IV := .lst (xs.map .int)
def iLs (L : List (List Int)) : List IV := L.map iL
@[simp] theorem iLs_nil : iLs [] = [] := rfl
@[simp] theorem iLs_cons (l : List Int) (L : List (List Int)) : iLs (l :: L) = iL l :: iLs L := rfl
@[simp] theorem iLs_len (L : List (List Int)) : (iLs L).length = L.length := by simp [iLs]
theorem mem_iLs {x : IV} {L : List (List Int)} : x ∈ iLs L ↔ ∃ l ∈ L, iL l = x := by simp [iLs]
section
variable {G : Prog} {n : Nat} {h : IHeap}
theorem is_integer_ok (hf : G.fn "is_integer" = some is_integer_d) (i : Int) : callF G (n + 1) "is_integer" [.int i] h = .ok (.v (.bl true)) h := by
  rw [callF_of hf rfl]
  simp [is_integer_d, is_integer_c, startI, isiC]
theorem bools_true {α : Type} (xs : List α) : bools? (xs.map fun _ => IV.bl true) = some (xs.map fun _ => true) := by
  induction xs with
  | nil => rfl
  | cons x r ih => simp [bools?, ih]
theorem are_integers_ok (hf : G.fn "are_integers" = some are_integers_d) (hi : G.fn "is_integer" = some is_integer_d) {xs : List Int} (hs : small xs.length = true) : callF G (n + 2) "are_integers" [iL xs] h = .ok (.v (.bl true)) h := by
  rw [callF_of hf rfl]
  have lc := ev_map (G := G) (call := callF G (n + 1)) (e := are_integers_e1) (t := .name 1) (it := .it (.slot 0)) (own := [("item", 1)]) (st := ⟨[.val (iL xs), .un], h⟩) (x := iL xs) (xs := xs.map .int) (fun _ => .bl true)
    (by simp) (.inl rfl) rfl (by simpa using hs) (fun y hy => ⟨by
      obtain ⟨i, _, rfl⟩ := List.mem_map.mp hy
      exact ⟨[.val (iL xs), .val (.int i)], by simp, by simp, by simp, fun _ => ⟨.v (.bl true), by simp [are_integers_e1, is_integer_ok hi], rfl, rfl⟩⟩⟩)
  simp [are_integers_d, are_integers_c, startI, isiC, iL] at lc ⊢
  simp [lc, bools_true, Function.comp_def]
/-! ### list_behind -/
def oI : Option Nat → IV
  | some k => .int k
  | none => .non
def behind (x : Int) : Nat → List (List Int) → Option Nat
  | _, [] => none
  | k, l :: r => if x ∈ l.drop 1 then some k else behind x (k + 1) r
theorem list_behind_ok (hf : G.fn "list_behind" = some list_behind_d) (left : List (List Int)) (x : Int) : callF G (n + 1) "list_behind" [.lst (iLs left), .int x] h = .ok (.v (oI (behind x 0 left))) h := by
  rw [callF_of hf rfl]
  have turn : ∀ (l : List Int) (k : Nat) (a b : Slot), forTurn (Tgt.tup [Tgt.name 2, Tgt.name 3]) (exs G (callF G n) list_behind_b1) (.tup [.int k, iL l])
      ⟨[.val (.lst (iLs left)), .val (.int x), a, b], h⟩ = if x ∈ l.drop 1 then .ret (.v (.int k)) ⟨[.val (.lst (iLs left)), .val (.int x), .val (.int k), .val (iL l)], h⟩ else .next ⟨[.val (.lst (iLs left)), .val (.int x), .val (.int k), .val (iL l)], h⟩ := by
    intro l k a b
    by_cases hx : x ∈ l.tail <;> simp [list_behind_b1, iL, ← List.map_tail, hx]
  have loop : ∀ (l : List (List Int)) (k : Nat) (a b : Slot), ∃ r,
      forItems (forTurn (Tgt.tup [Tgt.name 2, Tgt.name 3]) (exs G (callF G n) list_behind_b1))
       (enumI k (iLs l)) ⟨[.val (.lst (iLs left)), .val (.int x), a, b], h⟩ = (match behind x k l with | some k => .ret (.v (.int k)) ⟨r, h⟩ | none => .next ⟨r, h⟩) := by
    intro l
    induction l with
    | nil => intro k a b; exact ⟨_, rfl⟩
    | cons l r ih =>
      intro k a b
      obtain ⟨r', e⟩ := ih (k + 1) (.val (.int k)) (.val (iL l))
      rw [iLs_cons, enumI, forItems, turn, behind]
      by_cases hx : x ∈ l.drop 1
      · rw [if_pos hx, if_pos hx]; exact ⟨_, rfl⟩
      · rw [if_neg hx, if_neg hx]; exact ⟨r', e⟩
  obtain ⟨r, e⟩ := loop left 0 .un .un
  simp [list_behind_d, list_behind_c, startI, forWalk, -forTurn_eq]
  rw [e]
  cases behind x 0 left <;> simp [oI, exs_cons0, exs_nil0, ex_retG, ev_lit0]
/-! ### check_lists -/
structure Fine (L : List (List Int)) : Prop where
  n : L.length ≤ 30
  m : ∀ l ∈ L, l.length ≤ 30
  d : ∀ l ∈ L, l.Nodup
structure CkFns (G : Prog) : Prop where
  i : G.fn "is_integer" = some is_integer_d
  a : G.fn "are_integers" = some are_integers_d
  c : G.fn "check_lists" = some check_lists_d
  l : G.con "MOST_LISTS" = some (.int 30)
  m : G.con "MOST_ITEMS" = some (.int 30)
theorem small_of {k : Nat} (h : k ≤ 1000000) : small k = true := decide_eq_true h
theorem ck_inner {call : Caller} {x : IV} {l : List Int} (hl : l.Nodup) : ∀ (l2 l1 : List Int), l = l1 ++ l2 → ∀ a b : Slot, ∃ a' b', forItems (forTurn (.tup [.name 2, .name 3]) (exs G call check_lists_b3)) (enumI l1.length (l2.map .int)) ⟨[.val x, .val (iL l), a, b], h⟩ = .next ⟨[.val x, .val (iL l), a', b'], h⟩
  | [], l1, _, a, b => ⟨a, b, rfl⟩
  | i :: l2, l1, e, a, b => by
    have hi : i ∉ l.take l1.length := by
      rw [e, List.take_left' rfl]
      rw [e] at hl
      exact fun z => (List.nodup_append.mp hl).2.2 i z i List.mem_cons_self rfl
    have turn : forTurn (.tup [.name 2, .name 3]) (exs G call check_lists_b3) (.tup [.int (l1.length : Nat), .int i]) ⟨[.val x, .val (iL l), a, b], h⟩ = .next ⟨[.val x, .val (iL l), .val (.int (l1.length : Nat)), .val (.int i)], h⟩ := by
      simp [check_lists_b3, iL, cutI_take, ← List.map_take, hi]
    obtain ⟨a', b', e2⟩ := ck_inner hl l2 (l1 ++ [i]) (by rw [e]; simp) (.val (.int (l1.length : Nat))) (.val (.int i))
    refine ⟨a', b', ?_⟩
    rw [List.map_cons, enumI, forItems, turn]
    rw [List.length_append] at e2
    exact e2
theorem ck_turn {call : Caller} {x : IV} {l : List Int} (hl : l.Nodup) (a b c : Slot) : ∃ b' c', forTurn (.name 1) (exs G call check_lists_b4) (iL l) ⟨[.val x, a, b, c], h⟩ = .next ⟨[.val x, .val (iL l), b', c'], h⟩ := by
  obtain ⟨b', c', e⟩ := ck_inner (G := G) (call := call) (h := h) (x := x) hl l [] rfl b c
  refine ⟨b', c', ?_⟩
  rw [forTurn_eq]
  simp [iL, check_lists_b4, forWalk, -forTurn_eq] at e ⊢
  rw [e]; rfl
theorem ck_outer {call : Caller} {x : IV} : ∀ (L : List (List Int)), (∀ l ∈ L, l.Nodup) → ∀ a b c : Slot, ∃ a' b' c', forItems (forTurn (.name 1) (exs G call check_lists_b4)) (iLs L) ⟨[.val x, a, b, c], h⟩ = .next ⟨[.val x, a', b', c'], h⟩
  | [], _, a, b, c => ⟨a, b, c, rfl⟩
  | l :: L, hL, a, b, c => by
    obtain ⟨b', c', e⟩ := ck_turn (G := G) (call := call) (h := h) (x := x) (hL l List.mem_cons_self) a b c
    obtain ⟨a2, b2, c2, e2⟩ := ck_outer L (fun m hm => hL m (List.mem_cons_of_mem _ hm)) (.val (iL l)) b' c'
    exact ⟨a2, b2, c2, by rw [iLs_cons, forItems, e]; exact e2⟩
theorem check_lists_ok (F : CkFns G) {L : List (List Int)} (hL : Fine L) {x : IV} (hx : Sq h x (iLs L)) : callF G (n + 3) "check_lists" [x] h = .ok (.v .non) h := by
  rw [callF_of F.c rfl]
  have hn : small (iLs L).length = true := small_of (by simp; have := hL.n; omega)
  have lc1 := ev_map (G := G) (call := callF G (n + 2)) (e := check_lists_e1) (t := .name 1) (it := .it (.slot 0)) (own := [("one", 1)]) (st := ⟨[.val x, .un, .un, .un], h⟩) (x := x) (xs := iLs L) (fun _ => .bl true)
    (by simp) hx rfl hn (fun y hy => ⟨by
      obtain ⟨l, hl, rfl⟩ := mem_iLs.mp hy
      exact ⟨[.val x, .val (iL l), .un, .un], by simp [iL], by simp, by simp, fun _ => ⟨.v (.bl true), by simp [check_lists_e1, iL]; exact by have := are_integers_ok (n := n) (h := h) F.a F.i (xs := l) (small_of (by have := hL.m l hl; omega)); simpa [iL] using congrArg (callO ⟨[.val x, .val (iL l), .un, .un], h⟩) this, rfl, rfl⟩⟩⟩)
  have lc2 := ev_map (G := G) (call := callF G (n + 2)) (e := check_lists_e2) (t := .name 1) (it := .it (.slot 0)) (own := [("one", 1)]) (st := ⟨[.val x, .un, .un, .un], h⟩) (x := x) (xs := iLs L) (fun _ => .bl false)
    (by simp) hx rfl hn (fun y hy => ⟨by
      obtain ⟨l, hl, rfl⟩ := mem_iLs.mp hy
      have hm : ¬ (30 : Int) < l.length := by have := hL.m l hl; omega
      exact ⟨[.val x, .val (iL l), .un, .un], by simp [iL], by simp, by simp, fun _ => ⟨.v (.bl false), by simp [check_lists_e2, iL, F.m, hm], rfl, rfl⟩⟩⟩)
  have hc : ∀ r, cont ⟨r, h⟩ x = some (.lst (iLs L)) := hx.cont
  have hs : ∀ r, seqL ⟨r, h⟩ x = some (iLs L) := hx.seqL
  have hn2 : ¬ (30 : Int) < L.length := by have := hL.n; omega
  have tr : ∀ (xs : List IV) (st : IS), truths st (xs.map fun _ => .bl false) = some (xs.map fun _ => false) := fun xs st => by
    induction xs with
    | nil => rfl
    | cons y r ih => simp [truths, ih]
  obtain ⟨w, e1, e2⟩ := hx.each (f := forTurn (.name 1) (exs G (callF G (n + 2)) check_lists_b4)) (fun r => ∃ a b c, r = [.val x, a, b, c]) (fun y r st' hy ⟨a, b, c, er⟩ ef => by
    obtain ⟨l, hl, rfl⟩ := mem_iLs.mp hy
    subst er
    obtain ⟨b', c', e⟩ := ck_turn (G := G) (call := callF G (n + 2)) (h := h) (x := x) (hL.d l hl) a b c
    rw [e] at ef
    rcases ef with ef | ef
    · cases ef; exact ⟨rfl, _, _, _, rfl⟩
    · cases ef) (r := [.val x, .un, .un, .un]) ⟨_, _, _, rfl⟩
  obtain ⟨a', b', c', e3⟩ := ck_outer (G := G) (call := callF G (n + 2)) (h := h) (x := x) L hL.d .un .un .un
  rw [e3] at e2
  simp [check_lists_d, check_lists_c, startI, hc, isiC, lc1, lc2, bools_true, tr, F.l, hn2, e1, e2, -forTurn_eq]
/-! ### merge -/
def isFree (left : List (List Int)) (l : List Int) : Bool := !l.isEmpty && (behind (l.headD 0) 0 left).isNone
def frees (left : List (List Int)) : List Int := (left.filter (isFree left)).map (·.headD 0)
def stepL (f : Int) (left : List (List Int)) : List (List Int) := left.map fun l => if l.take 1 = [f] then l.drop 1 else l
/-- the rounds: what is found, or the lists that are stuck -/
def mgo : Nat → List (List Int) → List Int → (Option (List Int)) × List (List Int)
  | 0, left, found => (some found, left)
  | n + 1, left, found => if left.all (·.isEmpty) then (some found, left) else match frees left with
    | [] => (none, left)
    | f :: _ => mgo n (stepL f left) (found ++ [f])
def total (left : List (List Int)) : Nat := (left.map (·.length)).sum
theorem merge_free {call : Caller} (hb : ∀ (left : List (List Int)) (x : Int) (h : IHeap), call "list_behind" [.lst (iLs left), .int x] h = .ok (.v (oI (behind x 0 left))) h) (x : IV) (left : List (List Int)) (f s4 : Slot) (hf : ∀ c, f ≠ .val c) (hs : small left.length = true) :
    evF G call (.lc merge_e2 (.name 2) (.it (.slot 1)) (some merge_i3) [("one", 2)]) ⟨[.val x, .val (.lst (iLs left)), .un, f, s4], h⟩ = .ok (.fr (iL (frees left))) ⟨[.val x, .val (.lst (iLs left)), .un, f, s4], h⟩ := by
  have hun : ∀ l : List Int, unI (iL l) = l := unI_ints
  have lc := ev_lc (G := G) (call := call) (e := merge_e2) (t := .name 2) (it := .it (.slot 1)) (ifs := some merge_i3) (own := [("one", 2)]) (st := ⟨[.val x, .val (.lst (iLs left)), .un, f, s4], h⟩) (x := .lst (iLs left)) (xs := iLs left)
    (fun y => isFree left (unI y)) (fun y => .int ((unI y).headD 0)) (by simp) (.inl rfl) rfl (by simpa using hs) (fun y hy => ⟨by
      obtain ⟨l, hl, rfl⟩ := mem_iLs.mp hy
      refine ⟨[.val x, .val (.lst (iLs left)), .val (iL l), f, s4], by simp [iL], by simp, ?_, fun hp => ?_⟩
      · rw [hun]
        cases l with
        | nil => simp [merge_i3, iL, isFree]
        | cons a l =>
          cases hbh : behind a 0 left <;> simp [merge_i3, iL, isFree, subS, L2.atI, L2.ixN, hb, hbh, oI]
      · rw [hun] at hp ⊢
        cases l with
        | nil => simp [isFree] at hp
        | cons a l => exact ⟨.v (.int a), by simp [merge_e2, iL, subS, L2.atI, L2.ixN], rfl, rfl⟩⟩)
  rw [lc]
  have : ((iLs left).filter fun y => isFree left (unI y)).map (fun y => IV.int ((unI y).headD 0)) = (frees left).map .int := by
    unfold frees iLs
    rw [List.filter_map, List.map_map, List.map_map]
    congr 1
    · funext l; simp [hun]
    · congr 1
      funext l; simp [hun]
  rw [this]; rfl
theorem take1_eq {l : List Int} {f : Int} : l.take 1 = [f] ↔ ∃ r, l = f :: r := by
  cases l with
  | nil => simp
  | cons a l => simp
theorem total_cons (l : List Int) (left : List (List Int)) : total (l :: left) = l.length + total left := by unfold total; simp
theorem stepL_cons (f : Int) (l : List Int) (left : List (List Int)) : stepL f (l :: left) = (if l.take 1 = [f] then l.drop 1 else l) :: stepL f left := rfl
theorem stepL_le (f : Int) : ∀ left : List (List Int), total (stepL f left) ≤ total left
  | [] => Nat.le_refl _
  | l :: left => by
    rw [stepL_cons, total_cons, total_cons]
    have := stepL_le f left
    split
    · simp; omega
    · omega
theorem stepL_lt (f : Int) : ∀ left : List (List Int), (∃ r, (f :: r) ∈ left) → total (stepL f left) < total left
  | [], h => by obtain ⟨r, h⟩ := h; cases h
  | l :: left, h => by
    rw [stepL_cons, total_cons, total_cons]
    have h1 := stepL_le f left
    by_cases hl : l.take 1 = [f]
    · rw [if_pos hl]
      obtain ⟨r, rfl⟩ := take1_eq.mp hl
      simp; omega
    · rw [if_neg hl]
      obtain ⟨r, h⟩ := h
      rcases List.mem_cons.mp h with h | h
      · exact absurd (take1_eq.mpr ⟨r, h.symm⟩) hl
      · have := stepL_lt f left ⟨r, h⟩
        omega
theorem frees_mem {left : List (List Int)} {f : Int} (h : f ∈ frees left) : ∃ r, (f :: r) ∈ left := by
  unfold frees at h
  obtain ⟨l, h1, h2⟩ := List.mem_map.mp h
  obtain ⟨h3, h4⟩ := List.mem_filter.mp h1
  cases l with
  | nil => simp [isFree] at h4
  | cons a r => exact ⟨r, by rw [← h2]; exact h3⟩
theorem merge_next {call : Caller} (x : IV) (left : List (List Int)) (fo : Slot) (f : Int) (fs : List Int) (hs : small left.length = true) :
    evF G call (.lc merge_e4 (.name 2) (.it (.slot 1)) none [("one", 2)]) ⟨[.val x, .val (.lst (iLs left)), .un, fo, .val (iL (f :: fs))], h⟩ = .ok (.fr (.lst (iLs (stepL f left)))) ⟨[.val x, .val (.lst (iLs left)), .un, fo, .val (iL (f :: fs))], h⟩ := by
  have lc := ev_map (G := G) (call := call) (e := merge_e4) (t := .name 2) (it := .it (.slot 1)) (own := [("one", 2)]) (st := ⟨[.val x, .val (.lst (iLs left)), .un, fo, .val (iL (f :: fs))], h⟩) (x := .lst (iLs left)) (xs := iLs left)
    (fun y => iL (if (unI y).take 1 = [f] then (unI y).drop 1 else unI y)) (by simp) (.inl rfl) rfl (by simpa using hs) (fun y hy => ⟨by
      obtain ⟨l, hl, rfl⟩ := mem_iLs.mp hy
      refine ⟨[.val x, .val (.lst (iLs left)), .val (iL l), fo, .val (iL (f :: fs))], by simp [iL], by simp, by simp, fun _ => ?_⟩
      have e2 : unI (iL l) = l := unI_ints l
      rw [e2]
      cases l with
      | nil => exact ⟨.v (iL []), by simp [merge_e4, iL], rfl, rfl⟩
      | cons a l =>
        by_cases hl : a = f
        · subst hl
          exact ⟨.v (iL l), by simp [merge_e4, iL], by simp, by simp [iL]⟩
        · exact ⟨.v (iL (a :: l)), by simp [merge_e4, iL, hl], by simp [hl], by simp [hl, iL]⟩⟩)
  rw [lc]
  have : (iLs left).map (fun y => iL (if (unI y).take 1 = [f] then (unI y).drop 1 else unI y)) = iLs (stepL f left) := by
    unfold iLs stepL
    rw [List.map_map, List.map_map]
    refine List.map_congr_left fun l _ => ?_
    show iL (if (unI (iL l)).take 1 = [f] then (unI (iL l)).drop 1 else unI (iL l)) = _
    rw [show unI (iL l) = l from unI_ints l]; rfl
  rw [this]
theorem truths_lists (st : IS) : ∀ left : List (List Int), truths st (iLs left) = some (left.map fun l => !l.isEmpty)
  | [] => rfl
  | l :: left => by simp [truths, iL, truths_lists st left]
theorem merge_loop {call : Caller} {ringV : List (List Int) → IV} (hb : ∀ (left : List (List Int)) (x : Int) (h : IHeap), call "list_behind" [.lst (iLs left), .int x] h = .ok (.v (oI (behind x 0 left))) h) (x : IV)
    (hst : ∀ l, stor (ringV l) = true) (hr : ∀ (left : List (List Int)) (h : IHeap), left.length ≤ 30 → frees left = [] → left.all (·.isEmpty) = false → call "ring_in" [.lst (iLs left)] h = .ok (.fr (ringV left)) h) :
    ∀ (k m : Nat) (left : List (List Int)) (found : List Int) (s4 : Slot), total left ≤ k → k < m → left.length ≤ 30 → found.length + total left ≤ 1000 →
      ∃ s4' rr, whlL (fun st => tOf (evF G call (.bi .any (.slot 1)) st)) (exs G call merge_w5) m ⟨[.val x, .val (.lst (iLs left)), .un, .own (iL found), s4], h⟩ = match mgo (k + 1) left found with
        | (some o, lf) => .next ⟨[.val x, .val (.lst (iLs lf)), .un, .own (iL o), s4'], h⟩
        | (none, lf) => .ret (.v (.tup [.str (sO "ring"), ringV lf])) ⟨rr, h⟩ := by
  intro k
  induction k with
  | zero =>
    intro m left found s4 ht hm hs hb2
    obtain ⟨m, rfl⟩ : ∃ m', m = m' + 1 := ⟨m - 1, by omega⟩
    have hall : left.all (·.isEmpty) = true := by
      rw [List.all_eq_true]
      intro l hl
      have : l.length ≤ total left := by
        clear hs hb2 hm
        induction left with
        | nil => cases hl
        | cons a left ih =>
          rw [total_cons] at ht ⊢
          rcases List.mem_cons.mp hl with rfl | hl
          · omega
          · have := ih (by omega) hl; omega
      cases l with
      | nil => rfl
      | cons _ _ => simp at this; omega
    have hany : (left.map fun l => !l.isEmpty).any id = false := by
      rw [List.any_eq_false]
      intro b hb'
      obtain ⟨l, hl, rfl⟩ := List.mem_map.mp hb'
      have := List.all_eq_true.mp hall l hl
      simp at this ⊢; exact this
    refine ⟨s4, [], ?_⟩
    unfold mgo
    rw [if_pos hall, whlL]
    simp [truths_lists, hany]
  | succ k ih =>
    intro m left found s4 ht hm hs hb2
    obtain ⟨m, rfl⟩ : ∃ m', m = m' + 1 := ⟨m - 1, by omega⟩
    unfold mgo
    rw [whlL]
    by_cases hall : left.all (·.isEmpty) = true
    · have hany : (left.map fun l => !l.isEmpty).any id = false := by
        rw [List.any_eq_false]
        intro b hb'
        obtain ⟨l, hl, rfl⟩ := List.mem_map.mp hb'
        have := List.all_eq_true.mp hall l hl
        simp at this ⊢; exact this
      refine ⟨s4, [], ?_⟩
      rw [if_pos hall]
      simp [truths_lists, hany]
    · have hall' : left.all (·.isEmpty) = false := by simpa using hall
      have hany : (left.map fun l => !l.isEmpty).any id = true := by
        obtain ⟨l, hl, h2⟩ := List.all_eq_false.mp hall'
        exact List.any_eq_true.mpr ⟨_, List.mem_map.mpr ⟨l, hl, rfl⟩, by simpa using h2⟩
      have mf := merge_free (G := G) (h := h) hb x left (.own (iL found)) s4 (fun _ z => by cases z) (small_of (by omega))
      have cond : tOf (evF G call (.bi .any (.slot 1)) ⟨[.val x, .val (.lst (iLs left)), .un, .own (iL found), s4], h⟩) = .ok true ⟨[.val x, .val (.lst (iLs left)), .un, .own (iL found), s4], h⟩ := by
        simp [truths_lists, hany]
      simp only [cond, Out.toS_ok, if_true]
      rw [if_neg hall]
      cases hf : frees left with
      | nil =>
        rw [hf] at mf
        refine ⟨.val (iL []), [.val x, .val (.lst (iLs left)), .un, .own (iL found), .val (iL [])], ?_⟩
        have rg := hr left h hs hf hall'
        have body : exs G call merge_w5 ⟨[.val x, .val (.lst (iLs left)), .un, .own (iL found), s4], h⟩ = .ret (.v (.tup [.str (sO "ring"), ringV left])) ⟨[.val x, .val (.lst (iLs left)), .un, .own (iL found), .val (iL [])], h⟩ := by
          simp [iL] at mf ⊢
          simp [merge_w5, mf, rg, small, hst]
        rw [body]; rfl
      | cons f fs =>
        rw [hf] at mf
        have hlt := stepL_lt f left (frees_mem (by rw [hf]; exact List.mem_cons_self))
        have mn := merge_next (G := G) (h := h) (call := call) x left (.own (iL (found ++ [f]))) f fs (small_of (by omega))
        have body : exs G call merge_w5 ⟨[.val x, .val (.lst (iLs left)), .un, .own (iL found), s4], h⟩ = .next ⟨[.val x, .val (.lst (iLs (stepL f left))), .un, .own (iL (found ++ [f])), .val (iL (f :: fs))], h⟩ := by
          have hsm : small found.length = true := small_of (by omega)
          simp [iL] at mn mf ⊢
          simp [merge_w5, mf, iL, subS, L2.atI, L2.ixN, appS, seqL, setC, hsm, mn]
        obtain ⟨s4', rr, e⟩ := ih m (stepL f left) (found ++ [f]) (.val (iL (f :: fs))) (by omega) (by omega) (by simpa [stepL] using hs) (by simp; omega)
        refine ⟨s4', rr, ?_⟩
        rw [body]
        show whlL _ _ m _ = _
        rw [e]
structure MgFns (G : Prog) : Prop extends CkFns G where
  b : G.fn "list_behind" = some list_behind_d
  r : G.fn "ring_in" = some ring_in_d
  g : G.fn "merge" = some merge_d
/-- what merge gives: the order, or the lists that are stuck -/
def merged (L : List (List Int)) : (Option (List Int)) × List (List Int) := mgo (total L + 1) L []
theorem merge_of {ringV : List (List Int) → IV} (F : MgFns G) (hst : ∀ l, stor (ringV l) = true) (hr : ∀ (left : List (List Int)) (h : IHeap), left.length ≤ 30 → frees left = [] → left.all (·.isEmpty) = false → callF G (n + 3) "ring_in" [.lst (iLs left)] h = .ok (.fr (ringV left)) h)
    {L : List (List Int)} (hL : Fine L) (ht : total L ≤ 900) {x : IV} (hx : Sq h x (iLs L)) : callF G (n + 4) "merge" [x] h = match merged L with
      | (some o, _) => .ok (.v (.tup [.str (sO "order"), iL o])) h
      | (none, lf) => .ok (.v (.tup [.str (sO "ring"), ringV lf])) h := by
  rw [callF_of F.g rfl]
  have ck := check_lists_ok (n := n) (h := h) F.toCkFns hL hx
  have hn : small (iLs L).length = true := small_of (by simp; have := hL.n; omega)
  have lc := ev_map (G := G) (call := callF G (n + 3)) (e := merge_e1) (t := .name 2) (it := .it (.slot 0)) (own := [("one", 2)]) (st := ⟨[.val x, .un, .un, .un, .un], h⟩) (x := x) (xs := iLs L) (fun y => y)
    (by simp) hx rfl hn (fun y hy => ⟨by
      obtain ⟨l, hl, rfl⟩ := mem_iLs.mp hy
      exact ⟨[.val x, .un, .val (iL l), .un, .un], by simp [iL], by simp, by simp, fun _ => ⟨.fr (iL l), by simp [merge_e1, iL], rfl, rfl⟩⟩⟩)
  obtain ⟨s4', rr, e⟩ := merge_loop (G := G) (h := h) (call := callF G (n + 3)) (ringV := ringV) (fun left x h => list_behind_ok F.b left x) x hst hr (total L) 100000 L [] .un (Nat.le_refl _) (by omega) hL.n (by simp; omega)
  have st : stor x = true := hx.stor
  have e0 : (iL []) = IV.lst [] := rfl
  rw [e0] at e
  have lc' : evF G (callF G (n + 3)) (.lc merge_e1 (.name 2) (.it (.slot 0)) none [("one", 2)]) ⟨[.val x, .un, .un, .un, .un], h⟩ = .ok (.fr (.lst (iLs L))) ⟨[.val x, .un, .un, .un, .un], h⟩ := by simpa using lc
  have hw : exs G (callF G (n + 3)) merge_d.body (startI merge_d [x] h) = (whlL (fun st => tOf (evF G (callF G (n + 3)) (.bi .any (.slot 1)) st)) (exs G (callF G (n + 3)) merge_w5) 100000 ⟨[.val x, .val (.lst (iLs L)), .un, .own (.lst []), .un], h⟩).then (exs G (callF G (n + 3)) [.ret (.tup [(.lit (.str (sO "order"))), (.move 3)])]) := by
    simp [merge_d, merge_c, startI, st, ck, lc', -ev_bi, -exs_nil]
  rw [hw, e]
  unfold merged
  cases hm : mgo (total L + 1) L [] with
  | mk o lf =>
    cases o with
    | none => rfl
    | some o => simp [small, iL]
/-! ### ring_in -/
def pairV (p : Int × Nat) : IV := .tup [.int p.1, .int (p.2 : Nat)]
def atOf (left : List (List Int)) (w : Int) : Nat := (behind w 0 left).getD 0
def aheadOf (left : List (List Int)) (w : Int) : Int := (left.getD (atOf left w) []).headD 0
def rgo (left : List (List Int)) : Nat → List Int → List Nat → List (Int × Nat)
  | 0, _, _ => []
  | n + 1, walk, via => let at_ := atOf left (walk.getLastD 0); let ahead := aheadOf left (walk.getLastD 0)
    if ahead ∈ walk then (ahead, at_) :: (List.zip (walk.drop (walk.idxOf ahead + 1)) (via.drop (walk.idxOf ahead))).reverse else rgo left n (walk ++ [ahead]) (via ++ [at_])
def startW (left : List (List Int)) : Int := ((left.filter fun l => !l.isEmpty).map (·.headD 0)).headD 0
def ringOf (left : List (List Int)) : List (Int × Nat) := rgo left 100 [startW left] []
def ringV (left : List (List Int)) : IV := .lst ((ringOf left).map pairV)
end
end Pg

/-! Pg2: ring_in, and what it computes. -/
namespace Pg
open PySem Ip
section
variable {G : Prog} {n : Nat} {h : IHeap}
theorem ring_body {call : Caller} (hb : ∀ (left : List (List Int)) (x : Int) (h : IHeap), call "list_behind" [.lst (iLs left), .int x] h = .ok (.v (oI (behind x 0 left))) h) (left : List (List Int)) (walk : List Int) (via : List Nat) (s2 s4 s5 s6 : Slot)
    (hw : walk ≠ []) (hl : ∃ r, left[atOf left (walk.getLastD 0)]? = some (aheadOf left (walk.getLastD 0) :: r)) (hs : walk.length ≤ 1000) (hv : via.length ≤ 1000) :
    exs G call ring_in_w3 ⟨[.val (.lst (iLs left)), .own (iL walk), s2, .own (.lst (via.map fun (k : Nat) => .int (k : Int))), s4, s5, s6], h⟩ =
      if aheadOf left (walk.getLastD 0) ∈ walk then .ret (.fr (.lst (((aheadOf left (walk.getLastD 0), atOf left (walk.getLastD 0)) :: (List.zip (walk.drop (walk.idxOf (aheadOf left (walk.getLastD 0)) + 1)) (via.drop (walk.idxOf (aheadOf left (walk.getLastD 0))))).reverse).map pairV)))
          ⟨[.val (.lst (iLs left)), .own (iL walk), s2, .own (.lst (via.map fun (k : Nat) => .int (k : Int))), .val (.int (atOf left (walk.getLastD 0) : Nat)), .val (.int (aheadOf left (walk.getLastD 0))), .val (.int (walk.idxOf (aheadOf left (walk.getLastD 0)) : Nat))], h⟩
      else .next ⟨[.val (.lst (iLs left)), .own (iL (walk ++ [aheadOf left (walk.getLastD 0)])), s2, .own (.lst ((via ++ [atOf left (walk.getLastD 0)]).map fun (k : Nat) => .int (k : Int))), .val (.int (atOf left (walk.getLastD 0) : Nat)), .val (.int (aheadOf left (walk.getLastD 0))), s6], h⟩ := by
  obtain ⟨r, hl⟩ := hl
  generalize hw0 : walk.getLastD 0 = w0 at *
  have e1 : subS ⟨[.val (.lst (iLs left)), .own (iL walk), s2, .own (.lst (via.map fun (k : Nat) => .int (k : Int))), s4, s5, s6], h⟩ (.brw 1) (.int (-1)) = some (.int w0) := by
    have := atI_last walk hw
    rw [hw0] at this
    simp [subS, iL, this]
  have h1 : ∀ s4 s5 s6 : Slot, evF G call (.boo .Or [(.call "list_behind" [(.slot 0), (.sub (.slot 1) (.neg (.lit (.int 1))))]), (.lit (.int 0))]) ⟨[.val (.lst (iLs left)), .own (iL walk), s2, .own (.lst (via.map fun (k : Nat) => .int (k : Int))), s4, s5, s6], h⟩ =
      .ok (.v (.int (atOf left w0 : Nat))) ⟨[.val (.lst (iLs left)), .own (iL walk), s2, .own (.lst (via.map fun (k : Nat) => .int (k : Int))), s4, s5, s6], h⟩ := fun s4 s5 s6 => by
    have e1 : subS ⟨[.val (.lst (iLs left)), .own (iL walk), s2, .own (.lst (via.map fun (k : Nat) => .int (k : Int))), s4, s5, s6], h⟩ (.brw 1) (.int (-1)) = some (.int w0) := by
      have := atI_last walk hw
      rw [hw0] at this
      simp [subS, iL, this]
    cases hbh : behind w0 0 left with
    | none => simp [e1, hb, hbh, oI, atOf]
    | some k =>
      cases k with
      | zero => simp [e1, hb, hbh, oI, atOf]
      | succ k =>
        have t0 : ((k : Int) + 1 == 0) = false := by simp; omega
        have t1 : (0 : Int) ≠ (k : Int) + 1 := by omega
        have t2 : (k : Int) + 1 ≠ 0 := by omega
        simp [e1, hb, hbh, oI, atOf, t0, t1, t2]
  have h2 : L2.atI (iLs left) ((atOf left w0 : Nat) : Int) = some (iL (aheadOf left w0 :: r)) := by
    rw [atI_nat]; unfold iLs; rw [List.getElem?_map, hl]; rfl
  have h3 : L2.atI (IV.int (aheadOf left w0) :: List.map IV.int r) (0 : Int) = some (.int (aheadOf left w0)) := atI_nat _ 0
  generalize aheadOf left w0 = ah at *
  generalize atOf left w0 = at_ at *
  by_cases hin : ah ∈ walk
  · rw [if_pos hin]
    have hx : ∀ s4 s5 s6 : Slot, indexS ⟨[.val (.lst (iLs left)), .own (.lst (walk.map .int)), s2, .own (.lst (via.map fun (k : Nat) => .int (k : Int))), s4, s5, s6], h⟩ (.brw 1) (.int ah) = some (.v (.int (walk.idxOf ah : Nat))) := fun s4 s5 s6 => by
      have := findIdx_ints walk ah
      rw [if_pos hin, List.findIdx?_map] at this
      unfold indexS
      simp [seqL, dOk_int, this, hin]
    have hd : ∀ (xs : List IV) (k : Nat), cutI xs (some ((k : Int) + 1)) none = xs.drop (k + 1) := fun xs k => cutI_drop xs (k + 1)
    simp only [iL] at h1 hx
    simp [ring_in_w3, h1, iL, subS, h2, h3, hin, hx, seqL, hd, cutI_drop, pairV, unI, zipI_pairs, -ev_boo]
    have s2 : small 2 = true := rfl
    have s1 : small 1 = true := rfl
    have hs1 : small walk.length = true := small_of (by omega)
    have hs2 : small via.length = true := small_of (by omega)
    have hs3 : small (1 + min (walk.length - (List.idxOf ah walk + 1)) (via.length - List.idxOf ah walk)) = true := small_of (by omega)
    have hp : (fun p : Int × Nat => IV.tup [IV.int p.fst, IV.int p.snd]) = pairV := rfl
    simp [s1, s2, slcS, seqL, cont, asI, asL, hs1, hs2, hd, cutI_drop, binS, ← List.map_drop, zipI_pairs, hs3, hp]
    try rfl
  · rw [if_neg hin]
    have hs1 : small walk.length = true := small_of (by omega)
    have hs2 : small via.length = true := small_of (by omega)
    simp only [iL] at h1
    simp [ring_in_w3, h1, iL, subS, h2, h3, hin, appS, seqL, setC, hs1, hs2, -ev_boo]
/-! ### the loop of ring_in -/
def heads (left : List (List Int)) : List Int := (left.filter fun l => !l.isEmpty).map (·.headD 0)
theorem heads_len (left : List (List Int)) : (heads left).length ≤ left.length := by
  unfold heads; rw [List.length_map]; exact List.length_filter_le _ _
theorem mem_heads {left : List (List Int)} {x : Int} : x ∈ heads left ↔ ∃ r, (x :: r) ∈ left := by
  unfold heads
  constructor
  · intro h
    obtain ⟨l, h1, h2⟩ := List.mem_map.mp h
    obtain ⟨h3, h4⟩ := List.mem_filter.mp h1
    cases l with
    | nil => simp at h4
    | cons a r => exact ⟨r, by rw [← h2]; exact h3⟩
  · rintro ⟨r, h⟩
    exact List.mem_map.mpr ⟨x :: r, List.mem_filter.mpr ⟨h, rfl⟩, rfl⟩
theorem behind_some {x : Int} : ∀ {left : List (List Int)} {i k : Nat}, behind x i left = some k → i ≤ k ∧ ∃ l, left[k - i]? = some l ∧ x ∈ l.drop 1
  | [], _, _, h => by simp [behind] at h
  | l :: left, i, k, h => by
    unfold behind at h
    split at h
    · rename_i hx
      cases h
      exact ⟨Nat.le_refl _, l, by simp, by simpa using hx⟩
    · obtain ⟨h1, l', h2, h3⟩ := behind_some h
      refine ⟨by omega, l', ?_, h3⟩
      rw [show k - i = (k - (i + 1)) + 1 by omega, List.getElem?_cons_succ]; exact h2
theorem stuck_head {left : List (List Int)} (hf : frees left = []) {w : Int} (hw : w ∈ heads left) : ∃ r, left[atOf left w]? = some (aheadOf left w :: r) ∧ w ∈ r := by
  obtain ⟨r, hr⟩ := mem_heads.mp hw
  cases hb : behind w 0 left with
  | none =>
    have : w ∈ frees left := List.mem_map.mpr ⟨w :: r, List.mem_filter.mpr ⟨hr, by simp [isFree, hb]⟩, rfl⟩
    rw [hf] at this; cases this
  | some k =>
    obtain ⟨_, l, h2, h3⟩ := behind_some hb
    have e : atOf left w = k := by unfold atOf; rw [hb]; rfl
    cases l with
    | nil => cases h3
    | cons a r' =>
      have h2' : left[k]? = some (a :: r') := h2
      refine ⟨r', ?_, h3⟩
      unfold aheadOf
      rw [e, List.getD_eq_getElem?_getD, h2']; rfl
theorem ahead_head {left : List (List Int)} (hf : frees left = []) {w : Int} (hw : w ∈ heads left) : aheadOf left w ∈ heads left := by
  obtain ⟨r, h, _⟩ := stuck_head hf hw
  exact mem_heads.mpr ⟨r, List.mem_of_getElem? h⟩
theorem whl_t {call : Caller} {b : IS → SOut} {m : Nat} {st : IS} : whlL (fun st => tOf (evF G call (.lit (.bl true)) st)) b (m + 1) st = (b st).turn (whlL (fun st => tOf (evF G call (.lit (.bl true)) st)) b m) := rfl
theorem ring_loop {call : Caller} (hb : ∀ (left : List (List Int)) (x : Int) (h : IHeap), call "list_behind" [.lst (iLs left), .int x] h = .ok (.v (oI (behind x 0 left))) h) (left : List (List Int)) (hn : left.length ≤ 30) (hf : frees left = []) (s2 : Slot) :
    ∀ (k m : Nat) (walk : List Int) (via : List Nat) (s4 s5 s6 : Slot), walk.Nodup → (∀ w ∈ walk, w ∈ heads left) → walk ≠ [] → via.length + 1 = walk.length → left.length < k + walk.length → k ≤ m →
    ∃ st, st.h = h ∧ whlL (fun st => tOf (evF G call (.lit (.bl true)) st)) (exs G call ring_in_w3) m ⟨[.val (.lst (iLs left)), .own (iL walk), s2, .own (.lst (via.map fun (k : Nat) => .int (k : Int))), s4, s5, s6], h⟩ = .ret (.fr (.lst ((rgo left k walk via).map pairV))) st := by
  intro k
  induction k with
  | zero =>
    intro m walk via s4 s5 s6 hd hm _ _ hk _
    have := List.Nodup.length_le_of_subset hd (fun w hw => hm w hw)
    have := heads_len left
    omega
  | succ k ih =>
    intro m walk via s4 s5 s6 hd hm hw hv hk hkm
    obtain ⟨m, rfl⟩ : ∃ m', m = m' + 1 := ⟨m - 1, by omega⟩
    have hlen := List.Nodup.length_le_of_subset hd (fun w hw => hm w hw)
    have := heads_len left
    have hlast : walk.getLastD 0 ∈ walk := by
      rw [List.getLastD_eq_getLast?]
      cases hg : walk.getLast? with
      | none => rw [List.getLast?_eq_none_iff] at hg; exact absurd hg hw
      | some z => exact List.mem_of_getLast? hg
    have body := ring_body (G := G) (h := h) (call := call) hb left walk via s2 s4 s5 s6 hw (by obtain ⟨r, e, _⟩ := stuck_head hf (hm _ hlast); exact ⟨r, e⟩) (by omega) (by omega)
    by_cases hin : aheadOf left (walk.getLastD 0) ∈ walk
    · rw [if_pos hin] at body
      have w := whl_t (G := G) (call := call) (b := exs G call ring_in_w3) (m := m) (st := ⟨[.val (.lst (iLs left)), .own (iL walk), s2, .own (.lst (via.map fun (k : Nat) => .int (k : Int))), s4, s5, s6], h⟩)
      rw [body] at w
      have e : rgo left (k + 1) walk via = (aheadOf left (walk.getLastD 0), atOf left (walk.getLastD 0)) :: (List.zip (walk.drop (walk.idxOf (aheadOf left (walk.getLastD 0)) + 1)) (via.drop (walk.idxOf (aheadOf left (walk.getLastD 0))))).reverse := by
        rw [rgo]; exact if_pos hin
      rw [e]
      exact ⟨_, rfl, w⟩
    · rw [if_neg hin] at body
      have e : rgo left (k + 1) walk via = rgo left k (walk ++ [aheadOf left (walk.getLastD 0)]) (via ++ [atOf left (walk.getLastD 0)]) := by
        rw [rgo]; exact if_neg hin
      obtain ⟨st, h1, h2⟩ := ih m (walk ++ [aheadOf left (walk.getLastD 0)]) (via ++ [atOf left (walk.getLastD 0)]) (.val (.int (atOf left (walk.getLastD 0) : Nat))) (.val (.int (aheadOf left (walk.getLastD 0)))) s6
        (by rw [List.nodup_append]; exact ⟨hd, by simp, fun a ha b hb e => by rw [List.mem_singleton.mp hb] at e; rw [e] at ha; exact hin ha⟩)
        (fun w hw' => by
          rcases List.mem_append.mp hw' with h' | h'
          · exact hm w h'
          · rw [List.mem_singleton.mp h']; exact ahead_head hf (hm _ hlast))
        (by simp) (by simp; omega) (by simp; omega) (by omega)
      refine ⟨st, h1, ?_⟩
      rw [whlL]
      have cond : ∀ st : IS, tOf (evF G call (.lit (.bl true)) st) = .ok true st := fun st => rfl
      simp only [cond, Out.toS_ok, if_true]
      rw [body, e]
      exact h2
theorem ring_in_ok (hf : G.fn "ring_in" = some ring_in_d) (hl : G.fn "list_behind" = some list_behind_d) {left : List (List Int)} (hn : left.length ≤ 30) (hfr : frees left = []) (hne : left.all (·.isEmpty) = false) :
    callF G (n + 2) "ring_in" [.lst (iLs left)] h = .ok (.fr (ringV left)) h := by
  rw [callF_of hf rfl]
  have hun : ∀ l : List Int, unI (iL l) = l := unI_ints
  have lc := ev_lc (G := G) (call := callF G (n + 1)) (e := ring_in_e1) (t := .name 2) (it := .it (.slot 0)) (ifs := some ring_in_i2) (own := [("one", 2)]) (st := ⟨[.val (.lst (iLs left)), .un, .un, .un, .un, .un, .un], h⟩) (x := .lst (iLs left)) (xs := iLs left)
    (fun y => !(unI y).isEmpty) (fun y => .int ((unI y).headD 0)) (by simp) (.inl rfl) rfl (small_of (by simp; omega)) (fun y hy => ⟨by
      obtain ⟨l, hl, rfl⟩ := mem_iLs.mp hy
      refine ⟨[.val (.lst (iLs left)), .un, .val (iL l), .un, .un, .un, .un], by simp [iL], by simp, ?_, fun hp => ?_⟩
      · rw [hun]
        cases l with
        | nil => simp [ring_in_i2, iL]
        | cons a l => simp [ring_in_i2, iL]
      · rw [hun] at hp ⊢
        cases l with
        | nil => simp at hp
        | cons a l => exact ⟨.v (.int a), by simp [ring_in_e1, iL, subS, L2.atI, L2.ixN], rfl, rfl⟩⟩)
  have hh : ((iLs left).filter fun y => !(unI y).isEmpty).map (fun y => IV.int ((unI y).headD 0)) = (heads left).map .int := by
    unfold heads iLs
    rw [List.filter_map, List.map_map, List.map_map]
    congr 1
    · funext l; simp [hun]
    · congr 1
      funext l; simp [hun]
  rw [hh] at lc
  have hs : ∃ z zs, heads left = z :: zs := by
    obtain ⟨l, hl, h2⟩ := List.all_eq_false.mp hne
    cases l with
    | nil => simp at h2
    | cons a r =>
      have := mem_heads.mpr ⟨r, hl⟩
      cases hz : heads left with
      | nil => rw [hz] at this; cases this
      | cons z zs => exact ⟨z, zs, rfl⟩
  obtain ⟨z, zs, hz⟩ := hs
  have hst : startW left = z := by
    show (heads left).headD 0 = z
    rw [hz]; rfl
  obtain ⟨st, e1, e2⟩ := ring_loop (G := G) (h := h) (call := callF G (n + 1)) (fun left x h => list_behind_ok hl left x) left hn hfr .un 100 100000 [z] [] .un .un .un (by simp) (fun w hw => by rw [List.mem_singleton.mp hw, hz]; exact List.mem_cons_self) (by simp) (by simp) (by simp; omega) (by omega)
  rw [hz] at lc
  have hw : exs G (callF G (n + 1)) ring_in_d.body (startI ring_in_d [.lst (iLs left)] h) = (whlL (fun st => tOf (evF G (callF G (n + 1)) (.lit (.bl true)) st)) (exs G (callF G (n + 1)) ring_in_w3) 100000 ⟨[.val (.lst (iLs left)), .own (iL [z]), .un, .own (.lst ([].map fun (k : Nat) => .int (k : Int))), .un, .un, .un], h⟩).then (exs G (callF G (n + 1)) []) := by
    have s1 : small 1 = true := rfl
    simp at lc
    simp [ring_in_d, ring_in_c, startI, lc, subS, L2.atI, L2.ixN, s1, iL, -ev_bi, -exs_nil]
  rw [hw, e2]
  unfold ringV ringOf
  rw [hst]
  cases st
  cases e1
  rfl
theorem merge_ok (F : MgFns G) {L : List (List Int)} (hL : Fine L) (ht : total L ≤ 900) {x : IV} (hx : Sq h x (iLs L)) : callF G (n + 4) "merge" [x] h = match merged L with
      | (some o, _) => .ok (.v (.tup [.str (sO "order"), iL o])) h
      | (none, lf) => .ok (.v (.tup [.str (sO "ring"), ringV lf])) h :=
  merge_of F (fun _ => rfl) (fun _ _ h1 h2 h3 => ring_in_ok (n := n + 1) F.r F.b h1 h2 h3) hL ht hx
end
end Pg

/-! P1: loops with an invariant, comprehensions that draw. -/
namespace Ip
open PySem
section
variable {G : Prog} {call : Caller}
theorem ev_lcI {e : CE} {t : Tgt} {it : IT} {ifs : Option CE} {own : List (String × Nat)} {r : List Slot} {h h1 : IHeap} {xs : List IV} (I : Nat → List IV → IHeap → Prop) (hw : evW G call it ⟨r, h⟩ = .ok (.items xs) ⟨r, h1⟩)
    (hf : freeI r (own.map (·.2)) = true) (h0 : I 0 [] h1)
    (ht : ∀ k y acc h, xs[k]? = some y → I k acc h → ∃ r2, bindT t y ⟨wipeI r (own.map (·.2)), h⟩ = some ⟨r2, h⟩ ∧ wipeI r2 (own.map (·.2)) = wipeI r (own.map (·.2)) ∧
      ((∃ h', evTo G call ifs ⟨r2, h⟩ = .ok false ⟨r2, h'⟩ ∧ I (k + 1) acc h') ∨
       (∃ h' h'' v, evTo G call ifs ⟨r2, h⟩ = .ok true ⟨r2, h'⟩ ∧ evF G call e ⟨r2, h'⟩ = .ok v ⟨r2, h''⟩ ∧ stor v.get = true ∧ small acc.length = true ∧ I (k + 1) (acc ++ [v.get]) h''))) :
    ∃ ys h', I xs.length ys h' ∧ evF G call (.lc e t it ifs own) ⟨r, h⟩ = .ok (.fr (.lst ys)) ⟨r, h'⟩ := by
  have go : ∀ (zs : List IV) (k : Nat) (acc : List IV) (r' : List Slot) (h : IHeap), k + zs.length = xs.length → (∀ j, zs[j]? = xs[k + j]?) → wipeI r' (own.map (·.2)) = wipeI r (own.map (·.2)) → I k acc h →
      ∃ ys h' r'', I xs.length ys h' ∧ wipeI r'' (own.map (·.2)) = wipeI r (own.map (·.2)) ∧ foldW (lcTurn t (evTo G call ifs) (evF G call e) (own.map (·.2))) zs acc ⟨r', h⟩ = .ok ys ⟨r'', h'⟩ := by
    intro zs
    induction zs with
    | nil =>
      intro k acc r' h hk _ hr hI
      have : k = xs.length := by simpa using hk
      exact ⟨acc, h, r', this ▸ hI, hr, rfl⟩
    | cons z zs ih =>
      intro k acc r' h hk hz hr hI
      have hz0 : xs[k]? = some z := by have := hz 0; simpa using this.symm
      have hz1 : ∀ j, zs[j]? = xs[k + 1 + j]? := fun j => by have := hz (j + 1); rw [List.getElem?_cons_succ] at this; rw [this]; congr 1; omega
      obtain ⟨r2, e1, e2, e3⟩ := ht k z acc h hz0 hI
      rcases e3 with ⟨h', e4, e5⟩ | ⟨h', h'', v, e4, e5, e6, e7, e8⟩
      · obtain ⟨ys, hh, r'', q1, q2, q3⟩ := ih (k + 1) acc (wipeI r2 (own.map (·.2))) h' (by simp at hk; omega) hz1 (by rw [wipeI_idem, e2]) e5
        refine ⟨ys, hh, r'', q1, q2, ?_⟩
        rw [foldW]
        have : lcTurn t (evTo G call ifs) (evF G call e) (own.map (·.2)) acc z ⟨r', h⟩ = .ok acc ⟨wipeI r2 (own.map (·.2)), h'⟩ := by
          show (Out.of _ (bindT t z ⟨wipeI r' _, h⟩)).bind _ = _
          rw [hr, e1]
          show ((evTo G call ifs ⟨r2, h⟩).noX).bind _ = _
          rw [e4]; rfl
        rw [this]; exact q3
      · obtain ⟨ys, hh, r'', q1, q2, q3⟩ := ih (k + 1) (acc ++ [v.get]) (wipeI r2 (own.map (·.2))) h'' (by simp at hk; omega) hz1 (by rw [wipeI_idem, e2]) e8
        refine ⟨ys, hh, r'', q1, q2, ?_⟩
        rw [foldW]
        have : lcTurn t (evTo G call ifs) (evF G call e) (own.map (·.2)) acc z ⟨r', h⟩ = .ok (acc ++ [v.get]) ⟨wipeI r2 (own.map (·.2)), h''⟩ := by
          show (Out.of _ (bindT t z ⟨wipeI r' _, h⟩)).bind _ = _
          rw [hr, e1]
          show ((evTo G call ifs ⟨r2, h⟩).noX).bind _ = _
          rw [e4]
          show ((sOf (evF G call e ⟨r2, h'⟩)).noX).bind _ = _
          rw [e5, sOf_ok, if_pos e6]
          show (if small acc.length = true then _ else _) = _
          rw [if_pos e7]
        rw [this]; exact q3
  obtain ⟨ys, h', r'', q1, q2, q3⟩ := go xs 0 [] r h1 (by simp) (fun j => by simp) rfl h0
  refine ⟨ys, h', q1, ?_⟩
  unfold evF
  rw [hw]
  show (if freeI r (own.map (·.2)) = true then _ else _) = _
  rw [if_pos hf]
  show ((foldW _ xs [] ⟨r, h1⟩).bind _) = _
  rw [q3]
  show Out.ok _ _ = _
  rw [backI_wipe hf q2]
/-- a for loop that runs to its end -/
theorem forI {f : IV → IS → SOut} {xs : List IV} (I : Nat → List Slot → IHeap → Prop) {r : List Slot} {h : IHeap} (h0 : I 0 r h)
    (ht : ∀ k y r h, xs[k]? = some y → I k r h → ∃ r' h', (f y ⟨r, h⟩ = .next ⟨r', h'⟩ ∨ f y ⟨r, h⟩ = .cont ⟨r', h'⟩) ∧ I (k + 1) r' h') :
    ∃ r' h', forItems f xs ⟨r, h⟩ = .next ⟨r', h'⟩ ∧ I xs.length r' h' := by
  have go : ∀ (zs : List IV) (k : Nat) (r : List Slot) (h : IHeap), k + zs.length = xs.length → (∀ j, zs[j]? = xs[k + j]?) → I k r h → ∃ r' h', forItems f zs ⟨r, h⟩ = .next ⟨r', h'⟩ ∧ I xs.length r' h' := by
    intro zs
    induction zs with
    | nil =>
      intro k r h hk _ hI
      have : k = xs.length := by simpa using hk
      exact ⟨r, h, rfl, this ▸ hI⟩
    | cons z zs ih =>
      intro k r h hk hz hI
      have hz0 : xs[k]? = some z := by have := hz 0; simpa using this.symm
      have hz1 : ∀ j, zs[j]? = xs[k + 1 + j]? := fun j => by have := hz (j + 1); rw [List.getElem?_cons_succ] at this; rw [this]; congr 1; omega
      obtain ⟨r', h', e1, e2⟩ := ht k z r h hz0 hI
      obtain ⟨r'', h'', q1, q2⟩ := ih (k + 1) r' h' (by simp at hk; omega) hz1 e2
      refine ⟨r'', h'', ?_, q2⟩
      rw [forItems]
      rcases e1 with e1 | e1 <;> rw [e1] <;> exact q1
  exact go xs 0 r h (by simp) (fun j => by simp) h0
/-- a while loop with a measure -/
theorem whlI {c : IS → Out Bool} {b : IS → SOut} (I : Nat → IS → Prop) (Q : IS → Prop)
    (ht : ∀ k st, I k st → (∃ st1, c st = .ok false st1 ∧ Q st1) ∨ (∃ st1 st2 k', c st = .ok true st1 ∧ (b st1 = .next st2 ∨ b st1 = .cont st2) ∧ k' < k ∧ I k' st2)) :
    ∀ (k m : Nat) (st : IS), I k st → k < m → ∃ st', whlL c b m st = .next st' ∧ Q st' := by
  intro k
  induction k using Nat.strongRecOn with
  | ind k ih =>
    intro m st hI hm
    obtain ⟨m, rfl⟩ : ∃ m', m = m' + 1 := ⟨m - 1, by omega⟩
    rcases ht k st hI with ⟨st1, e1, e2⟩ | ⟨st1, st2, k', e1, e2, e3, e4⟩
    · exact ⟨st1, by rw [whlL, e1]; rfl, e2⟩
    · obtain ⟨st', q1, q2⟩ := ih k' e3 m st2 e4 (by omega)
      refine ⟨st', ?_, q2⟩
      rw [whlL, e1]
      simp only [Out.toS_ok, if_true]
      rcases e2 with e2 | e2 <;> rw [e2] <;> exact q1
end
end Ip

/-! Ld1: a law's cells, its source of numbers, its draws. -/
namespace Ld
open PySem Ip
def _law_cell_at_c : List CS := [.ite (.cmp .Lt (.slot 1) (.bi .len (.slot 0))) [.ret (.sub (.slot 0) (.slot 1))] [], .ret (.lit (.int 0))]
def _law_cell_at_d : FnDef := ⟨"_law_cell_at", 2, ["_law_script", "_law_k"], _law_cell_at_c⟩
def _law_source_c : List CS := [.ret (.cell (.lst [(.bin .Mult (.slot 0) (.bi .int1 (.cmp .GtE (.slot 0) (.bin .Pow (.lit (.int 10)) (.lit (.int 18)))))), (.bin .Mod (.slot 0) (.lit (.int 2147483647))), (.lit (.int 0))]))]
def _law_source_d : FnDef := ⟨"_law_source", 1, ["_law_cell"], _law_source_c⟩
def _law_draw_c : List CS := [.ite (.cmp .Gt (.sub (.slot 0) (.lit (.int 0))) (.lit (.int 0))) [.asg (.tgt (.name 2)) (.bin .Mod (.sub (.slot 0) (.lit (.int 0))) (.slot 1)), .asg (.sub (.slot 0) (.lit (.int 0))) (.bin .FloorDiv (.sub (.slot 0) (.lit (.int 0))) (.slot 1)), .ret (.slot 2)] [], .asg (.sub (.slot 0) (.lit (.int 2))) (.bin .Add (.sub (.slot 0) (.lit (.int 2))) (.lit (.int 1))), .asg (.tgt (.name 3)) (.bin .Mod (.bin .Pow (.bin .Add (.bin .Add (.sub (.slot 0) (.lit (.int 1))) (.bin .Mult (.lit (.int 7919)) (.sub (.slot 0) (.lit (.int 2))))) (.lit (.int 1))) (.lit (.int 5))) (.lit (.int 2147483629))), .asg (.tgt (.name 3)) (.bin .Mod (.bin .Mult (.slot 3) (.bin .Add (.bin .Add (.bin .FloorDiv (.slot 3) (.lit (.int 1009))) (.lit (.int 69621))) (.sub (.slot 0) (.lit (.int 2))))) (.lit (.int 2147483587))), .ret (.bin .Mod (.bin .FloorDiv (.bin .Mod (.bin .Mult (.slot 3) (.bin .Add (.bin .FloorDiv (.slot 3) (.lit (.int 2003))) (.lit (.int 40692)))) (.lit (.int 2147483579))) (.lit (.int 7))) (.slot 1))]
def _law_draw_d : FnDef := ⟨"_law_draw", 2, ["_law_source_here", "_law_size", "_law_digit", "_law_number"], _law_draw_c⟩
def _law_pick_c : List CS := [.ret (.sub (.slot 1) (.call "_law_draw" [(.slot 0), (.bi .len (.slot 1))]))]
def _law_pick_d : FnDef := ⟨"_law_pick", 2, ["_law_source_here", "_law_items_here"], _law_pick_c⟩
/-- cell s is a source, at most N draws old -/
def Src (s N : Nat) (h : IHeap) : Prop := ∃ (a b : Int) (c : Nat), h[s]? = some (some (.lst [.int a, .int b, .int (c : Int)])) ∧ 0 ≤ a ∧ 0 ≤ b ∧ b < 2147483648 ∧ c ≤ N
/-- h' is h but for cell s -/
structure Oth (s : Nat) (h h' : IHeap) : Prop where
  len : h'.length = h.length
  oth : ∀ t, t ≠ s → h'[t]? = h[t]?
theorem Oth.refl {s : Nat} {h : IHeap} : Oth s h h := ⟨rfl, fun _ _ => rfl⟩
theorem Oth.trans {s : Nat} {h h1 h2 : IHeap} (a : Oth s h h1) (b : Oth s h1 h2) : Oth s h h2 := ⟨b.len.trans a.len, fun t ht => (b.oth t ht).trans (a.oth t ht)⟩
theorem Src.mono {s N M : Nat} {h : IHeap} (H : Src s N h) (hm : N ≤ M) : Src s M h := by
  obtain ⟨a, b, c, h1, h2, h3, h4, h5⟩ := H
  exact ⟨a, b, c, h1, h2, h3, h4, by omega⟩
section
variable {G : Prog} {n : Nat} {h : IHeap}
/-- a draw: a number below m -/
def DrawOk (G : Prog) (n : Nat) (f : String) : Prop := ∀ (h : IHeap) (s N m : Nat), Src s N h → 0 < m → m < 1073741824 → N ≤ 1000000000000 →
  ∃ (d : Nat) (h' : IHeap), d < m ∧ Src s (N + 1) h' ∧ Oth s h h' ∧ callF G n f [.ref s, .int (m : Int)] h = .ok (.v (.int (d : Int))) h'
theorem toNat_lt {i : Int} {m : Nat} (h : 0 < m) : (i % (m : Int)).toNat < m := by
  have h1 := Int.emod_nonneg i (b := (m : Int)) (by omega)
  have h2 := Int.emod_lt_of_pos i (b := (m : Int)) (by omega)
  omega
theorem toNat_em {i : Int} {m : Nat} (h : 0 < m) : (((i % (m : Int)).toNat : Nat) : Int) = i % (m : Int) := Int.toNat_of_nonneg (Int.emod_nonneg i (by omega))
theorem i64_of {i : Int} (h : -(2 ^ 64) < i ∧ i < 2 ^ 64) : i64 i = true := i64_iff.mpr h
theorem draw_ok (hf : G.fn "_law_draw" = some _law_draw_d) : DrawOk G (n + 1) "_law_draw" := by
  intro h s N m ⟨a, b, c, h1, h2, h3, h4, h5⟩ hm hm2 hN
  have hs : s < h.length := by
    rcases Nat.lt_or_ge s h.length with z | z
    · exact z
    · rw [List.getElem?_eq_none z] at h1; cases h1
  have h1' : h[s] = some (.lst [.int a, .int b, .int (c : Int)]) := (List.getElem?_eq_some_iff.mp h1).2
  have hm3 : (0 : Int) < (m : Int) := by omega
  have hm4 : (m : Int) < 1073741824 := by omega
  by_cases ha : 0 < a
  · refine ⟨(a % (m : Int)).toNat, h.set s (some (.lst [.int (a / (m : Int)), .int b, .int (c : Int)])), toNat_lt hm, ⟨a / m, b, c, ?_, Int.ediv_nonneg h2 (by omega), h3, h4, by omega⟩, ⟨by simp, fun t ht => List.getElem?_set_ne (Ne.symm ht)⟩, ?_⟩
    · rw [List.getElem?_set_self hs]
    · rw [callF_of hf rfl, toNat_em hm]
      simp [_law_draw_d, _law_draw_c, startI, subS, h1', ha, L2.atI, L2.ixN, hm, hm2, hm3, hm4, binS, setS, setC, hs]
  · have e1 : i64 (b + 7919 * ((c : Int) + 1) + 1) = true := i64_of (by omega)
    generalize hg : (b + 7919 * ((c : Int) + 1) + 1) = g at e1
    have q1 : ∀ z : Int, 0 ≤ z % 2147483629 := fun z => Int.emod_nonneg z (by omega)
    have q2 : ∀ z : Int, z % 2147483629 < 2147483629 := fun z => Int.emod_lt_of_pos z (by omega)
    have q3 : ∀ z : Int, 0 ≤ z % 2147483587 := fun z => Int.emod_nonneg z (by omega)
    have q4 : ∀ z : Int, z % 2147483587 < 2147483587 := fun z => Int.emod_lt_of_pos z (by omega)
    have i1 : ∀ z : Int, i64 (z % 2147483629) = true := fun z => i64_of (by have := q1 z; have := q2 z; omega)
    have i2 : ∀ z : Int, i64 (z % 2147483587) = true := fun z => i64_of (by have := q3 z; have := q4 z; omega)
    have i3 : i64 7919 = true := rfl
    refine ⟨_, h.set s (some (.lst [.int a, .int b, .int ((c + 1 : Nat) : Int)])), toNat_lt (i := ?_) hm, ⟨a, b, c + 1, ?_, h2, h3, h4, by omega⟩, ⟨by simp, fun t ht => List.getElem?_set_ne (Ne.symm ht)⟩, ?_⟩
    rotate_left
    · rw [List.getElem?_set_self hs]
    · rw [callF_of hf rfl, toNat_em hm]
      simp [_law_draw_d, _law_draw_c, startI, subS, h1', ha, L2.atI, L2.ixN, hm, hm2, hm3, hm4, binS, setS, setC, hs, i1, i2, i3, hg, e1]
      rfl
theorem draw_list {m : Nat} (D : DrawOk G n "_law_draw") {s N : Nat} (hs : Src s N h) (hN : N ≤ 1000000000000) (hm : 0 < m) (hm2 : m < 1073741824) :
    ∃ (d : Nat) (h' : IHeap), d < m ∧ Src s (N + 1) h' ∧ Oth s h h' ∧ callF G n "_law_draw" [.ref s, .int (m : Int)] h = .ok (.v (.int (d : Int))) h' := D h s N m hs hm hm2 hN
theorem cell_at_ok (hf : G.fn "_law_cell_at" = some _law_cell_at_d) (ns : List Int) (k : Nat) (hs : ns.length < 1000) : callF G (n + 1) "_law_cell_at" [.lst (ns.map .int), .int (k : Int)] h = .ok (.v (.int (ns.getD k 0))) h := by
  rw [callF_of hf rfl]
  by_cases hk : k < ns.length
  · simp [_law_cell_at_d, _law_cell_at_c, startI, subS, atI_nat, hk]
  · have : ¬ (k : Int) < (ns.length : Int) := by omega
    simp [_law_cell_at_d, _law_cell_at_c, startI, hk]
theorem source_ok (hf : G.fn "_law_source" = some _law_source_d) (i : Int) : ∃ h', Src h.length 0 h' ∧ h'.length = h.length + 1 ∧ (∀ t, t < h.length → h'[t]? = h[t]?) ∧ callF G (n + 1) "_law_source" [.int i] h = .ok (.v (.ref h.length)) h' := by
  refine ⟨h ++ [some (.lst [.int (if 1000000000000000000 ≤ i then i else 0), .int (i % 2147483647), .int ((0 : Nat) : Int)])], ⟨if 1000000000000000000 ≤ i then i else 0, i % 2147483647, 0, by simp, ?_, ?_, ?_, by omega⟩, by simp, fun t ht => List.getElem?_append_left ht, ?_⟩
  · split <;> omega
  · omega
  · omega
  · rw [callF_of hf rfl]
    by_cases hi : 1000000000000000000 ≤ i
    · simp [_law_source_d, _law_source_c, startI, binS, hi, i64, small]
    · simp [_law_source_d, _law_source_c, startI, binS, hi, i64, small]
theorem pick_ok (hf : G.fn "_law_pick" = some _law_pick_d) (D : DrawOk G n "_law_draw") {s N : Nat} {xs : List IV} (hs : Src s N h) (hN : N ≤ 1000000000000) (hx : xs ≠ []) (hl : xs.length < 1073741824) (hst : ∀ x ∈ xs, stor x = true) :
    ∃ x h', x ∈ xs ∧ Src s (N + 1) h' ∧ Oth s h h' ∧ callF G (n + 1) "_law_pick" [.ref s, .lst xs] h = .ok (.v x) h' := by
  have h0 : 0 < xs.length := by cases xs with
    | nil => exact absurd rfl hx
    | cons _ _ => simp
  obtain ⟨d, h', hd, h1, h2, e⟩ := D h s N xs.length hs h0 hl hN
  refine ⟨xs[d], h', List.getElem_mem hd, h1, h2, ?_⟩
  rw [callF_of hf rfl]
  simp [_law_pick_d, _law_pick_c, startI, subS, e, atI_nat, hd, hst xs[d] (List.getElem_mem hd)]
end
end Ld

/-! P2: what is wanted of a run (wp), step by step. -/
namespace Ip
open PySem
abbrev Flds := List (String × IV)
abbrev XPost := String → Flds → IHeap → Prop
def NoX : XPost := fun _ _ _ => False
inductive Out.wp {α : Type} (Q : α → IS → Prop) (E : XPost) : Out α → Prop
  | ok {a : α} {s : IS} : Q a s → Out.wp Q E (.ok a s)
  | exc {c : String} {fs : Flds} {s : IS} : E c fs s.h → Out.wp Q E (.exc c fs s)
inductive COut.wp (Q : RV → IHeap → Prop) (E : XPost) : COut → Prop
  | ok {r : RV} {h : IHeap} : Q r h → COut.wp Q E (.ok r h)
  | exc {c : String} {fs : Flds} {h : IHeap} : E c fs h → COut.wp Q E (.exc c fs h)
structure SP where
  N : IS → Prop
  R : RV → IS → Prop
  E : XPost
  B : IS → Prop
  C : IS → Prop
inductive SOut.wp (P : SP) : SOut → Prop
  | next {s : IS} : P.N s → SOut.wp P (.next s)
  | brk {s : IS} : P.B s → SOut.wp P (.brk s)
  | cont {s : IS} : P.C s → SOut.wp P (.cont s)
  | ret {r : RV} {s : IS} : P.R r s → SOut.wp P (.ret r s)
  | exc {c : String} {fs : Flds} {s : IS} : P.E c fs s.h → SOut.wp P (.exc c fs s)
structure wpS (G : Prog) (call : Caller) (cs : List CS) (P : SP) (st : IS) : Prop where
  run : (exs G call cs st).wp P
theorem wpS_iff {G : Prog} {call : Caller} {cs : List CS} {P : SP} {st : IS} : wpS G call cs P st = (exs G call cs st).wp P := propext ⟨fun h => h.run, fun h => ⟨h⟩⟩
/-- what follows a call -/
def KC (st : IS) (Q : RV → IS → Prop) : RV → IHeap → Prop := fun r h => Q r ⟨st.r, h⟩
@[simp] theorem KC_eq {st : IS} {Q : RV → IS → Prop} {r : RV} {h : IHeap} : KC st Q r h = Q r ⟨st.r, h⟩ := rfl
def KB {α β : Type} (k : α → IS → Out β) (Q : β → IS → Prop) (E : XPost) : α → IS → Prop := fun a s => (k a s).wp Q E
def KT {α : Type} (k : α → IS → SOut) (P : SP) : α → IS → Prop := fun a s => (k a s).wp P
def KV (Q : IV → IS → Prop) : RV → IS → Prop := fun r s => Q r.get s
def KO (Q : IV → IS → Prop) : RV → IS → Prop := fun r s => stor r.get = true ∧ Q r.get s
def KTr (Q : Bool → IS → Prop) (E : XPost) : RV → IS → Prop := fun r s => (Out.of s (truth s r.get)).wp Q E
section
variable {α β : Type} {a : α} {s : IS} {r : RV} {k : α → IS → Out β} {k2 : α → IS → SOut} {Q : β → IS → Prop} {E : XPost} {P : SP} {QV : IV → IS → Prop} {QB : Bool → IS → Prop}
@[simp] theorem KB_eq : KB k Q E a s = (k a s).wp Q E := rfl
@[simp] theorem KT_eq : KT k2 P a s = (k2 a s).wp P := rfl
@[simp] theorem KV_eq : KV QV r s = QV r.get s := rfl
@[simp] theorem KO_eq : KO QV r s = (stor r.get = true ∧ QV r.get s) := rfl
@[simp] theorem KTr_eq : KTr QB E r s = (Out.of s (truth s r.get)).wp QB E := rfl
end
section
section
variable {α β : Type} {a : α} {s st : IS} {c : String} {fs : Flds} {Q : α → IS → Prop} {Q2 : β → IS → Prop} {E : XPost} {P : SP} {r : RV} {h : IHeap} {QC : RV → IHeap → Prop}
@[simp] theorem Out.wp_ok : (Out.ok a s).wp Q E = Q a s := propext ⟨fun z => (by cases z; assumption), .ok⟩
@[simp] theorem Out.wp_exc : (Out.exc c fs s : Out α).wp Q E = E c fs s.h := propext ⟨fun z => (by cases z; assumption), .exc⟩
@[simp] theorem Out.wp_bad : (Out.bad : Out α).wp Q E = False := eq_false fun z => nomatch z
@[simp] theorem COut.wp_ok : (COut.ok r h).wp QC E = QC r h := propext ⟨fun z => (by cases z; assumption), .ok⟩
@[simp] theorem COut.wp_exc : (COut.exc c fs h).wp QC E = E c fs h := propext ⟨fun z => (by cases z; assumption), .exc⟩
@[simp] theorem COut.wp_bad : COut.bad.wp QC E = False := eq_false fun z => nomatch z
@[simp] theorem SOut.wp_next : (SOut.next s).wp P = P.N s := propext ⟨fun z => (by cases z; assumption), .next⟩
@[simp] theorem SOut.wp_brk : (SOut.brk s).wp P = P.B s := propext ⟨fun z => (by cases z; assumption), .brk⟩
@[simp] theorem SOut.wp_cont : (SOut.cont s).wp P = P.C s := propext ⟨fun z => (by cases z; assumption), .cont⟩
@[simp] theorem SOut.wp_ret : (SOut.ret r s).wp P = P.R r s := propext ⟨fun z => (by cases z; assumption), .ret⟩
@[simp] theorem SOut.wp_exc : (SOut.exc c fs s).wp P = P.E c fs s.h := propext ⟨fun z => (by cases z; assumption), .exc⟩
@[simp] theorem SOut.wp_bad : SOut.bad.wp P = False := eq_false fun z => nomatch z
theorem Out.wp_bind0 {o : Out α} {k : α → IS → Out β} : (o.bind k).wp Q2 E = o.wp (fun a s => (k a s).wp Q2 E) E := by cases o <;> simp [endF]
@[simp] theorem Out.wp_bind {o : Out α} {k : α → IS → Out β} : (o.bind k).wp Q2 E = o.wp (KB k Q2 E) E := by cases o <;> simp [endF]
theorem Out.wp_toS0 {o : Out α} {k : α → IS → SOut} : (o.toS k).wp P = o.wp (fun a s => (k a s).wp P) P.E := by cases o <;> simp [endF]
@[simp] theorem Out.wp_toS {o : Out α} {k : α → IS → SOut} : (o.toS k).wp P = o.wp (KT k P) P.E := by cases o <;> simp [endF]
@[simp] theorem SOut.wp_then {o : SOut} {k : IS → SOut} : (o.then k).wp P = o.wp { P with N := fun s => (k s).wp P } := by cases o <;> simp [endF]
@[simp] theorem SOut.wp_turn {o : SOut} {k : IS → SOut} : (o.turn k).wp P = o.wp { P with N := fun s => (k s).wp P, C := fun s => (k s).wp P, B := P.N } := by cases o <;> simp [endF]
theorem wp_callO0 {o : COut} {Q : RV → IS → Prop} : (callO st o).wp Q E = o.wp (fun r h => Q r { st with h := h }) E := by cases o <;> simp [endF]
@[simp] theorem wp_callO {o : COut} {Q : RV → IS → Prop} : (callO st o).wp Q E = o.wp (KC st Q) E := by cases o <;> simp [endF]
@[simp] theorem wp_endF {o : SOut} : (endF o).wp QC E = o.wp ⟨fun s => QC (.v .non) s.h, fun r s => QC r s.h, E, fun _ => False, fun _ => False⟩ := by cases o <;> simp [endF]
theorem wp_vOf0 {o : Out RV} {Q : IV → IS → Prop} : (vOf o).wp Q E = o.wp (fun r s => Q r.get s) E := by cases o <;> simp [endF]
@[simp] theorem wp_vOf {o : Out RV} {Q : IV → IS → Prop} : (vOf o).wp Q E = o.wp (KV Q) E := by cases o <;> simp [endF]
theorem wp_tOf0 {o : Out RV} {Q : Bool → IS → Prop} : (tOf o).wp Q E = o.wp (fun r s => (Out.of s (truth s r.get)).wp Q E) E := by cases o <;> simp [endF]
@[simp] theorem wp_tOf {o : Out RV} {Q : Bool → IS → Prop} : (tOf o).wp Q E = o.wp (KTr Q E) E := by cases o <;> simp [endF]
theorem wp_sOf0 {o : Out RV} {Q : IV → IS → Prop} : (sOf o).wp Q E = o.wp (fun r s => stor r.get = true ∧ Q r.get s) E := by
  cases o with
  | ok r s => cases hs : stor r.get <;> simp [hs]
  | _ => simp
@[simp] theorem wp_sOf {o : Out RV} {Q : IV → IS → Prop} : (sOf o).wp Q E = o.wp (KO Q) E := wp_sOf0
@[simp] theorem wp_of {x : Option α} : (Out.of s x).wp Q E = ∃ a, x = some a ∧ Q a s := by cases x <;> simp
@[simp] theorem wp_ite {p : Prop} [Decidable p] {o o2 : Out α} : (if p then o else o2).wp Q E = if p then o.wp Q E else o2.wp Q E := by split <;> rfl
@[simp] theorem wp_iteS {p : Prop} [Decidable p] {o o2 : SOut} : (if p then o else o2).wp P = if p then o.wp P else o2.wp P := by split <;> rfl
theorem COut.wp_mono {o : COut} {Q Q' : RV → IHeap → Prop} (h : o.wp Q E) (m : ∀ r h, Q r h → Q' r h) : o.wp Q' E := by
  cases h with
  | ok h => exact .ok (m _ _ h)
  | exc h => exact .exc h
theorem SOut.wp_mono {o : SOut} {P P' : SP} (h : o.wp P) (n : ∀ s, P.N s → P'.N s) (r : ∀ v s, P.R v s → P'.R v s) (e : ∀ c f h, P.E c f h → P'.E c f h) (b : ∀ s, P.B s → P'.B s) (cc : ∀ s, P.C s → P'.C s) : o.wp P' := by
  cases h with
  | next h => exact .next (n _ h)
  | brk h => exact .brk (b _ h)
  | cont h => exact .cont (cc _ h)
  | ret h => exact .ret (r _ _ h)
  | exc h => exact .exc (e _ _ _ h)
end
/-! statements, one by one: what follows is kept shut -/
section
variable {G : Prog} {call : Caller}
def SP.seq (G : Prog) (call : Caller) (cs : List CS) (P : SP) : SP := { P with N := wpS G call cs P }
def SP.fin (Q : RV → IHeap → Prop) (E : XPost) : SP := ⟨fun s => Q (.v .non) s.h, fun r s => Q r s.h, E, fun _ => False, fun _ => False⟩
/-- a turn's end: I holds again -/
def SP.lp (I : IS → Prop) (P : SP) : SP := { P with N := I, C := I, B := P.N }
section
variable {cs : List CS} {P : SP} {st : IS} {r : RV} {c : String} {f : Flds} {h : IHeap} {Q : RV → IHeap → Prop} {E : XPost} {I : IS → Prop}
@[simp] theorem seq_N : (SP.seq G call cs P).N st = wpS G call cs P st := rfl
@[simp] theorem seq_R : (SP.seq G call cs P).R r st = P.R r st := rfl
@[simp] theorem seq_E : (SP.seq G call cs P).E = P.E := rfl
@[simp] theorem seq_B : (SP.seq G call cs P).B st = P.B st := rfl
@[simp] theorem seq_C : (SP.seq G call cs P).C st = P.C st := rfl
@[simp] theorem fin_N : (SP.fin Q E).N st = Q (.v .non) st.h := rfl
@[simp] theorem fin_R : (SP.fin Q E).R r st = Q r st.h := rfl
@[simp] theorem fin_E : (SP.fin Q E).E = E := rfl
@[simp] theorem fin_B : (SP.fin Q E).B st = False := rfl
@[simp] theorem fin_C : (SP.fin Q E).C st = False := rfl
@[simp] theorem lp_N : (SP.lp I P).N st = I st := rfl
@[simp] theorem lp_R : (SP.lp I P).R r st = P.R r st := rfl
@[simp] theorem lp_E : (SP.lp I P).E = P.E := rfl
@[simp] theorem lp_B : (SP.lp I P).B st = P.N st := rfl
@[simp] theorem lp_C : (SP.lp I P).C st = I st := rfl
end
theorem wp_fn {n : Nat} {f : String} {d : FnDef} {xs : List IV} {h : IHeap} {Q : RV → IHeap → Prop} {E : XPost} (e : G.fn f = some d) (l : xs.length = d.np) (k : wpS G (callF G n) d.body (SP.fin Q E) (startI d xs h)) : (callF G (n + 1) f xs h).wp Q E := by
  rw [callF_of e l, wp_endF]; exact k.run
variable {P : SP} {st : IS} {cs : List CS} {r : List Slot} {s0 : Slot} {h : IHeap}
@[simp] theorem wpS_nil : wpS G call [] P ⟨s0 :: r, h⟩ = P.N ⟨s0 :: r, h⟩ := by rw [wpS_iff]; simp
theorem wpS_cons {c : CS} : wpS G call (c :: cs) P st = (ex G call c st).wp (SP.seq G call cs P) := by
  rw [wpS_iff, exs_cons0, SOut.wp_then]
  unfold SP.seq
  congr 1; simp only [SP.mk.injEq, and_true]
  funext s; rw [wpS_iff]
def KSx (G : Prog) (call : Caller) (cs : List CS) (P : SP) : RV → IS → Prop := fun _ st => wpS G call cs P st
@[simp] theorem KSx_eq {r : RV} : KSx G call cs P r st = wpS G call cs P st := rfl
@[simp] theorem wpS_expr {e : CE} : wpS G call (.expr e :: cs) P ⟨s0 :: r, h⟩ = (evF G call e ⟨s0 :: r, h⟩).wp (KSx G call cs P) P.E := by rw [wpS_cons]; simp only [ex_expr, Out.wp_toS0, SOut.wp_next]; rfl
def KSr (P : SP) : RV → IS → Prop := fun r st => stor r.get = true ∧ P.R r st
@[simp] theorem KSr_eq {r : RV} : KSr P r st = (stor r.get = true ∧ P.R r st) := rfl
@[simp] theorem wpS_ret {e : CE} : wpS G call (.ret e :: cs) P ⟨s0 :: r, h⟩ = (evF G call e ⟨s0 :: r, h⟩).wp (KSr P) P.E := by
  rw [wpS_cons]; simp only [ex_ret, Out.wp_toS0]
  congr 1; funext r st; rw [KSr_eq]; cases stor r.get <;> simp
@[simp] theorem wpS_ret0 : wpS G call (.ret0 :: cs) P ⟨s0 :: r, h⟩ = P.R (.v .non) ⟨s0 :: r, h⟩ := by rw [wpS_cons]; simp
def KSt (G : Prog) (call : Caller) (t : Tgt) (cs : List CS) (P : SP) : RV → IS → Prop := fun r st => stor r.get = true ∧ ∃ st', bindT t r.get st = some st' ∧ wpS G call cs P st'
@[simp] theorem KSt_eq {t : Tgt} {r : RV} : KSt G call t cs P r st = (stor r.get = true ∧ ∃ st', bindT t r.get st = some st' ∧ wpS G call cs P st') := rfl
@[simp] theorem wpS_tgt {t : Tgt} {e : CE} : wpS G call (.asg (.tgt t) e :: cs) P ⟨s0 :: r, h⟩ = (evF G call e ⟨s0 :: r, h⟩).wp (KSt G call t cs P) P.E := by
  rw [wpS_cons]; simp only [ex_tgt, Out.wp_toS0, wp_sOf0, seq_E]
  congr 1; funext r st; rw [KSt_eq]; cases bindT t r.get st <;> simp
def KSn (G : Prog) (call : Caller) (i : Nat) (cs : List CS) (P : SP) : RV → IS → Prop := fun r st => stor r.get = true ∧ i < st.r.length ∧ wpS G call cs P ⟨st.r.set i (.val r.get), st.h⟩
@[simp] theorem KSn_eq {i : Nat} {r : RV} : KSn G call i cs P r st = (stor r.get = true ∧ i < st.r.length ∧ wpS G call cs P ⟨st.r.set i (.val r.get), st.h⟩) := rfl
@[simp] theorem wpS_name {i : Nat} {e : CE} : wpS G call (.asg (.tgt (.name i)) e :: cs) P ⟨s0 :: r, h⟩ = (evF G call e ⟨s0 :: r, h⟩).wp (KSn G call i cs P) P.E := by
  rw [wpS_tgt]
  congr 1; funext r st
  rw [KSt_eq, KSn_eq]
  by_cases h1 : stor r.get = true <;> by_cases h2 : i < st.r.length <;> simp [h1, h2]
def KSo (G : Prog) (call : Caller) (i : Nat) (cs : List CS) (P : SP) : RV → IS → Prop := fun r st => ∃ c, asFr r = some c ∧ i < st.r.length ∧ wpS G call cs P ⟨st.r.set i (.own c), st.h⟩
@[simp] theorem KSo_eq {i : Nat} {r : RV} : KSo G call i cs P r st = (∃ c, asFr r = some c ∧ i < st.r.length ∧ wpS G call cs P ⟨st.r.set i (.own c), st.h⟩) := rfl
@[simp] theorem wpS_own {i : Nat} {e : CE} : wpS G call (.asg (.own i) e :: cs) P ⟨s0 :: r, h⟩ = (evF G call e ⟨s0 :: r, h⟩).wp (KSo G call i cs P) P.E := by
  rw [wpS_cons]; simp only [ex_own, Out.wp_toS0, seq_E]
  congr 1; funext r st
  rw [KSo_eq]
  cases asFr r with
  | none => simp
  | some c => by_cases h2 : i < st.r.length <;> simp [h2]
def KSa3 (G : Prog) (call : Caller) (o y : RV) (cs : List CS) (P : SP) : RV → IS → Prop := fun i st => ∃ st', setS st o.get i.get y.get = some st' ∧ wpS G call cs P st'
def KSa2 (G : Prog) (call : Caller) (i : CE) (y : RV) (cs : List CS) (P : SP) : RV → IS → Prop := fun o st => (evF G call i st).wp (KSa3 G call o y cs P) P.E
def KSa1 (G : Prog) (call : Caller) (o i : CE) (cs : List CS) (P : SP) : RV → IS → Prop := fun y st => stor y.get = true ∧ (evF G call o st).wp (KSa2 G call i y cs P) P.E
@[simp] theorem KSa3_eq {o y i : RV} : KSa3 G call o y cs P i st = ∃ st', setS st o.get i.get y.get = some st' ∧ wpS G call cs P st' := rfl
@[simp] theorem KSa2_eq {i : CE} {o y : RV} : KSa2 G call i y cs P o st = (evF G call i st).wp (KSa3 G call o y cs P) P.E := rfl
@[simp] theorem KSa1_eq {o i : CE} {y : RV} : KSa1 G call o i cs P y st = (stor y.get = true ∧ (evF G call o st).wp (KSa2 G call i y cs P) P.E) := rfl
@[simp] theorem wpS_asub {o i e : CE} : wpS G call (.asg (.sub o i) e :: cs) P ⟨s0 :: r, h⟩ = (evF G call e ⟨s0 :: r, h⟩).wp (KSa1 G call o i cs P) P.E := by
  rw [wpS_cons]; simp only [ex_asub, Out.wp_toS0, wp_sOf0, seq_E, wp_vOf0]
  congr 1; funext y st; rw [KSa1_eq]; congr 2; funext o st; rw [KSa2_eq]; congr 1; funext i st
  rw [KSa3_eq]
  cases setS st o.get i.get y.get <;> simp
def KSp2 (G : Prog) (call : Caller) (i j : Nat) (x : RV) (cs : List CS) (P : SP) : RV → IS → Prop := fun y st => stor y.get = true ∧ i < st.r.length ∧ j < st.r.length ∧ wpS G call cs P ⟨(st.r.set i (.val x.get)).set j (.val y.get), st.h⟩
def KSp1 (G : Prog) (call : Caller) (i j : Nat) (b : CE) (cs : List CS) (P : SP) : RV → IS → Prop := fun x st => stor x.get = true ∧ (evF G call b st).wp (KSp2 G call i j x cs P) P.E
@[simp] theorem KSp2_eq {i j : Nat} {x y : RV} : KSp2 G call i j x cs P y st = (stor y.get = true ∧ i < st.r.length ∧ j < st.r.length ∧ wpS G call cs P ⟨(st.r.set i (.val x.get)).set j (.val y.get), st.h⟩) := rfl
@[simp] theorem KSp1_eq {i j : Nat} {b : CE} {x : RV} : KSp1 G call i j b cs P x st = (stor x.get = true ∧ (evF G call b st).wp (KSp2 G call i j x cs P) P.E) := rfl
@[simp] theorem wpS_par {i j : Nat} {a b : CE} : wpS G call (.par i j a b :: cs) P ⟨s0 :: r, h⟩ = (evF G call a ⟨s0 :: r, h⟩).wp (KSp1 G call i j b cs P) P.E := by
  rw [wpS_cons]; simp only [ex_par, Out.wp_toS0, wp_sOf0, seq_E]
  congr 1; funext y st; rw [KSp1_eq]; congr 2; funext o st
  rw [KSp2_eq]
  congr 1
  by_cases h1 : i < st.r.length <;> by_cases h2 : j < st.r.length <;> simp [h1, h2]
def KSw4 (G : Prog) (call : Caller) (o y : RV) (cs : List CS) (P : SP) : RV → IS → Prop := fun i st => ∃ st', setS st o.get i.get y.get = some st' ∧ wpS G call cs P st'
def KSw3 (G : Prog) (call : Caller) (i2 : CE) (y : RV) (cs : List CS) (P : SP) : RV → IS → Prop := fun o st => (evF G call i2 st).wp (KSw4 G call o y cs P) P.E
def KSw2 (G : Prog) (call : Caller) (o2 i2 : CE) (o x y : RV) (cs : List CS) (P : SP) : RV → IS → Prop := fun i st => ∃ st', setS st o.get i.get x.get = some st' ∧ (evF G call o2 st').wp (KSw3 G call i2 y cs P) P.E
def KSw1 (G : Prog) (call : Caller) (i1 o2 i2 : CE) (x y : RV) (cs : List CS) (P : SP) : RV → IS → Prop := fun o st => (evF G call i1 st).wp (KSw2 G call o2 i2 o x y cs P) P.E
def KSw0 (G : Prog) (call : Caller) (o1 i1 o2 i2 : CE) (x : RV) (cs : List CS) (P : SP) : RV → IS → Prop := fun y st => stor y.get = true ∧ (evF G call o1 st).wp (KSw1 G call i1 o2 i2 x y cs P) P.E
def KSw (G : Prog) (call : Caller) (o1 i1 o2 i2 b : CE) (cs : List CS) (P : SP) : RV → IS → Prop := fun x st => stor x.get = true ∧ (evF G call b st).wp (KSw0 G call o1 i1 o2 i2 x cs P) P.E
section
variable {o1 i1 o2 i2 a b : CE} {o x y i v : RV}
@[simp] theorem KSw4_eq : KSw4 G call o y cs P i st = ∃ st', setS st o.get i.get y.get = some st' ∧ wpS G call cs P st' := rfl
@[simp] theorem KSw3_eq : KSw3 G call i2 y cs P o st = (evF G call i2 st).wp (KSw4 G call o y cs P) P.E := rfl
@[simp] theorem KSw2_eq : KSw2 G call o2 i2 o x y cs P i st = ∃ st', setS st o.get i.get x.get = some st' ∧ (evF G call o2 st').wp (KSw3 G call i2 y cs P) P.E := rfl
@[simp] theorem KSw1_eq : KSw1 G call i1 o2 i2 x y cs P o st = (evF G call i1 st).wp (KSw2 G call o2 i2 o x y cs P) P.E := rfl
@[simp] theorem KSw0_eq : KSw0 G call o1 i1 o2 i2 x cs P y st = (stor y.get = true ∧ (evF G call o1 st).wp (KSw1 G call i1 o2 i2 x y cs P) P.E) := rfl
@[simp] theorem KSw_eq : KSw G call o1 i1 o2 i2 b cs P x st = (stor x.get = true ∧ (evF G call b st).wp (KSw0 G call o1 i1 o2 i2 x cs P) P.E) := rfl
@[simp] theorem wpS_swap : wpS G call (.swap o1 i1 o2 i2 a b :: cs) P ⟨s0 :: r, h⟩ = (evF G call a ⟨s0 :: r, h⟩).wp (KSw G call o1 i1 o2 i2 b cs P) P.E := by
  rw [wpS_cons]; simp only [ex_swap, Out.wp_toS0, wp_sOf0, seq_E, wp_vOf0, SOut.wp_then]
  congr 1; funext y st; rw [KSw_eq]; congr 2; funext o st; rw [KSw0_eq]; congr 2; funext i st; rw [KSw1_eq]; congr 1; funext j st
  rw [KSw2_eq]
  cases setS st i.get j.get y.get with
  | none => simp
  | some st' =>
    simp only [optS_some, SOut.wp_next, Option.some.injEq, exists_eq_left']
    congr 1; funext a st; rw [KSw3_eq]; congr 1; funext b st; rw [KSw4_eq]
    cases setS st a.get b.get o.get <;> simp
end
def KSi (G : Prog) (call : Caller) (a b cs : List CS) (P : SP) : RV → IS → Prop := fun r st => ∃ t, truth st r.get = some t ∧ if t = true then wpS G call a (SP.seq G call cs P) st else wpS G call b (SP.seq G call cs P) st
@[simp] theorem KSi_eq {a b : List CS} {r : RV} : KSi G call a b cs P r st = ∃ t, truth st r.get = some t ∧ if t = true then wpS G call a (SP.seq G call cs P) st else wpS G call b (SP.seq G call cs P) st := rfl
@[simp] theorem wpS_ite {c : CE} {a b : List CS} : wpS G call (.ite c a b :: cs) P ⟨s0 :: r, h⟩ = (evF G call c ⟨s0 :: r, h⟩).wp (KSi G call a b cs P) P.E := by
  rw [wpS_cons]; simp only [ex_ite, Out.wp_toS0, wp_tOf0, seq_E]
  congr 1; funext r st
  rw [KSi_eq]
  cases truth st r.get with
  | none => simp
  | some t => cases t <;> simp [wpS_iff]
theorem wpS_whl {m : Nat} {c : CE} {b : List CS} : wpS G call (.whl m c b :: cs) P st = (whlL (fun st => tOf (evF G call c st)) (exs G call b) m st).wp (SP.seq G call cs P) := by rw [wpS_cons, ex_whlG]
theorem wpS_for {t : Tgt} {it : IT} {b : List CS} : wpS G call (.for t it b :: cs) P st = (evW G call it st).wp (fun w st => (forWalk (forTurn t (exs G call b)) w st).wp (SP.seq G call cs P)) P.E := by rw [wpS_cons, ex_forG, Out.wp_toS0]; rfl
theorem wpS_forD {t : Tgt} {i : Nat} {b : List CS} : wpS G call (.forD t i b :: cs) P st = ∃ xs, (st.r[i]?).bind keysOf = some xs ∧ (forItems (forTurn t (exs G call b)) xs st).wp (SP.seq G call cs P) := by rw [wpS_cons]; simp [ex_forDG]
@[simp] theorem wpS_brk : wpS G call (.brk :: cs) P ⟨s0 :: r, h⟩ = P.B ⟨s0 :: r, h⟩ := by rw [wpS_cons]; simp
@[simp] theorem wpS_cont : wpS G call (.cont :: cs) P ⟨s0 :: r, h⟩ = P.C ⟨s0 :: r, h⟩ := by rw [wpS_cons]; simp
@[simp] theorem wpS_pass : wpS G call (.pass :: cs) P ⟨s0 :: r, h⟩ = wpS G call cs P ⟨s0 :: r, h⟩ := by rw [wpS_cons]; simp
@[simp] theorem wpS_frz {i : Nat} : wpS G call (.frz i :: cs) P ⟨s0 :: r, h⟩ = ∃ c, ((s0 :: r)[i]?).bind ownC = some c ∧ wpS G call cs P ⟨(s0 :: r).set i (.val c), h⟩ := by rw [wpS_cons]; simp
end
/-- what holds between two statements -/
def SP.to (J : IS → Prop) (P : SP) : SP := { P with N := J }
section
variable {J : IS → Prop} {P : SP} {st : IS} {r : RV}
@[simp] theorem to_N : (SP.to J P).N st = J st := rfl
@[simp] theorem to_R : (SP.to J P).R r st = P.R r st := rfl
@[simp] theorem to_E : (SP.to J P).E = P.E := rfl
@[simp] theorem to_B : (SP.to J P).B st = P.B st := rfl
@[simp] theorem to_C : (SP.to J P).C st = P.C st := rfl
end
theorem wpS_cut {G : Prog} {call : Caller} {c : CS} {cs : List CS} {P : SP} {st : IS} (M : IS → Prop) (h1 : ∀ J : IS → Prop, (∀ st, M st → J st) → wpS G call [c] (SP.to J P) st) (h2 : ∀ st, M st → wpS G call cs P st) : wpS G call (c :: cs) P st := by
  have := h1 (wpS G call cs P) h2
  rw [wpS_cons] at this ⊢
  refine SOut.wp_mono this (fun s hs => ?_) (fun _ _ z => z) (fun _ _ _ z => z) (fun _ z => z) (fun _ z => z)
  have hs' : wpS G call [] (SP.to (wpS G call cs P) P) s := hs
  rw [wpS_iff, exs_nil0, SOut.wp_next] at hs'
  exact hs'
/-! loops -/
section
variable {α : Type} {G : Prog} {call : Caller}
/-- a for over items at hand -/
theorem wp_for {f : IV → IS → SOut} {P : SP} (enc : α → IV) (I : List α → IS → Prop) {as : List α} {st : IS} (h0 : I [] st)
    (ht : ∀ a pre st (J : IS → Prop), a ∈ as → pre.length < as.length → I pre st → (∀ st, I (pre ++ [a]) st → J st) → (f (enc a) st).wp (SP.lp J P))
    (hz : ∀ st, I as st → P.N st) : (forItems f (as.map enc) st).wp P := by
  have go : ∀ (zs pre : List α) (st : IS), pre ++ zs = as → I pre st → (forItems f (zs.map enc) st).wp P := by
    intro zs
    induction zs with
    | nil =>
      intro pre st hk hI
      rw [List.append_nil] at hk
      subst hk
      rw [List.map_nil, forItems, SOut.wp_next]
      exact hz st hI
    | cons z zs ih =>
      intro pre st hk hI
      rw [List.map_cons, forItems, SOut.wp_turn]
      have := ht z pre st (I (pre ++ [z])) (by rw [← hk]; simp) (by rw [← hk]; simp) hI (fun _ z => z)
      exact SOut.wp_mono this (fun s hs => ih (pre ++ [z]) s (by simp [hk]) hs) (fun _ _ z => z) (fun _ _ _ z => z) (fun _ z => z) (fun s hs => ih (pre ++ [z]) s (by simp [hk]) hs)
  exact go as [] st rfl h0
/-- .. the statement: its items are as.map enc -/
theorem wpS_forI {t : Tgt} {it : IT} {b cs : List CS} {P : SP} {st : IS} (enc : α → IV) (as : List α) (I : List α → IS → Prop)
    (hw : ∀ J : Walk → IS → Prop, (∀ st, I [] st → J (.items (as.map enc)) st) → (evW G call it st).wp J P.E)
    (ht : ∀ a pre st (J : IS → Prop), a ∈ as → pre.length < as.length → I pre st → (∀ st, I (pre ++ [a]) st → J st) → ∃ st', bindT t (enc a) st = some st' ∧ wpS G call b (SP.lp J (SP.seq G call cs P)) st')
    (hz : ∀ st, I as st → wpS G call cs P st) : wpS G call (.for t it b :: cs) P st := by
  rw [wpS_for]
  have hw := hw (fun w st => w = .items (as.map enc) ∧ I [] st) (fun st z2 => ⟨rfl, z2⟩)
  cases hw' : evW G call it st with
  | bad => rw [hw', Out.wp_bad] at hw; exact hw.elim
  | exc c fs s => rw [hw', Out.wp_exc] at hw; rw [Out.wp_exc]; exact hw
  | ok w s =>
    rw [hw', Out.wp_ok] at hw
    rw [Out.wp_ok]
    obtain ⟨rfl, h0⟩ := hw
    refine wp_for enc I h0 (fun a pre st J ha hp hI hJ => ?_) hz
    obtain ⟨st', e1, e2⟩ := ht a pre st J ha hp hI hJ
    unfold forTurn
    rw [e1]
    simp only [optS_some, SOut.then_next]
    exact e2.run
/-- .. where the items are found on the way -/
theorem wpS_forE {t : Tgt} {it : IT} {b cs : List CS} {P : SP} {st : IS} (enc : α → IV) (A : List α → Prop) (I : List α → IS → Prop)
    (hw : ∀ J : Walk → IS → Prop, (∀ as st, A as → I [] st → J (.items (as.map enc)) st) → (evW G call it st).wp J P.E)
    (ht : ∀ as a pre st (J : IS → Prop), A as → a ∈ as → pre.length < as.length → I pre st → (∀ st, I (pre ++ [a]) st → J st) → ∃ st', bindT t (enc a) st = some st' ∧ wpS G call b (SP.lp J (SP.seq G call cs P)) st')
    (hz : ∀ as st, A as → I as st → wpS G call cs P st) : wpS G call (.for t it b :: cs) P st := by
  rw [wpS_for]
  have hw := hw (fun w st => ∃ as, w = .items (as.map enc) ∧ A as ∧ I [] st) (fun as st z1 z2 => ⟨as, rfl, z1, z2⟩)
  cases hw' : evW G call it st with
  | bad => rw [hw', Out.wp_bad] at hw; exact hw.elim
  | exc c fs s => rw [hw', Out.wp_exc] at hw; rw [Out.wp_exc]; exact hw
  | ok w s =>
    rw [hw', Out.wp_ok] at hw
    rw [Out.wp_ok]
    obtain ⟨as, rfl, hA, h0⟩ := hw
    refine wp_for enc I h0 (fun a pre st J ha hp hI hJ => ?_) (fun st => hz as st hA)
    obtain ⟨st', e1, e2⟩ := ht as a pre st J hA ha hp hI hJ
    unfold forTurn
    rw [e1]
    simp only [optS_some, SOut.then_next]
    exact e2.run
def KWh (G : Prog) (call : Caller) (b cs : List CS) (J : IS → Prop) (P : SP) : RV → IS → Prop := fun r s => ∃ t, truth s r.get = some t ∧ if t = true then wpS G call b (SP.lp J (SP.seq G call cs P)) s else wpS G call cs P s
@[simp] theorem KWh_eq {b cs : List CS} {J : IS → Prop} {P : SP} {r : RV} {s : IS} : KWh G call b cs J P r s = ∃ t, truth s r.get = some t ∧ if t = true then wpS G call b (SP.lp J (SP.seq G call cs P)) s else wpS G call cs P s := rfl
/-- a while by a measure -/
theorem wpS_whlI {m : Nat} {c : CE} {b cs : List CS} {P : SP} {st : IS} (I : Nat → IS → Prop) (k : Nat) (h0 : I k st) (hk : k < m)
    (ht : ∀ k st (J : IS → Prop), I k st → (∀ k' st', k' < k → I k' st' → J st') → (evF G call c st).wp (KWh G call b cs J P) P.E) : wpS G call (.whl m c b :: cs) P st := by
  rw [wpS_whl]
  revert m st
  induction k using Nat.strongRecOn with
  | ind k ih =>
    intro m st hI hm
    obtain ⟨m, rfl⟩ : ∃ m', m = m' + 1 := ⟨m - 1, by omega⟩
    have := ht k st (fun s => ∃ k', k' < k ∧ I k' s) hI (fun k' st' z1 z2 => ⟨k', z1, z2⟩)
    rw [whlL, Out.wp_toS0, wp_tOf0]
    cases hc : evF G call c st with
    | bad => rw [hc, Out.wp_bad] at this; exact this.elim
    | exc => rw [hc, Out.wp_exc] at this; rw [Out.wp_exc]; exact this
    | ok r s =>
      rw [hc] at this
      simp only [Out.wp_ok, KWh_eq] at this ⊢
      obtain ⟨t, e, this⟩ := this
      rw [e]
      simp only [Out.of_some, Out.wp_ok]
      by_cases htt : t = true
      · rw [if_pos htt] at this ⊢
        rw [SOut.wp_turn]
        refine SOut.wp_mono (P := SP.lp (fun s => ∃ k', k' < k ∧ I k' s) (SP.seq G call cs P)) this.run ?_ (fun _ _ z => z) (fun _ _ _ z => z) (fun _ z => z) ?_
        · rintro s ⟨k', h1, h2⟩; exact ih k' h1 h2 (by omega)
        · rintro s ⟨k', h1, h2⟩; exact ih k' h1 h2 (by omega)
      · rw [if_neg htt] at this ⊢
        rw [SOut.wp_next]; exact this
def KLe (r2 : List Slot) (acc : List IV) (J : List IV → IHeap → Prop) : RV → IS → Prop := fun v s => s.r = r2 ∧ stor v.get = true ∧ small acc.length = true ∧ J (acc ++ [v.get]) s.h
@[simp] theorem KLe_eq {r2 : List Slot} {acc : List IV} {J : List IV → IHeap → Prop} {v : RV} {s : IS} : KLe r2 acc J v s = (s.r = r2 ∧ stor v.get = true ∧ small acc.length = true ∧ J (acc ++ [v.get]) s.h) := rfl
def KLc (G : Prog) (call : Caller) (e : CE) (r2 : List Slot) (acc : List IV) (J : List IV → IHeap → Prop) : Bool → IS → Prop := fun c s => s.r = r2 ∧ if c = true then (evF G call e s).wp (KLe r2 acc J) NoX else J acc s.h
@[simp] theorem KLc_eq {e : CE} {r2 : List Slot} {acc : List IV} {J : List IV → IHeap → Prop} {c : Bool} {s : IS} : KLc G call e r2 acc J c s = (s.r = r2 ∧ if c = true then (evF G call e s).wp (KLe r2 acc J) NoX else J acc s.h) := rfl
/-- a comprehension over items at hand: acc is what is made so far -/
theorem wp_lc {e : CE} {t : Tgt} {it : IT} {ifs : Option CE} {own : List (String × Nat)} {r : List Slot} {h : IHeap} {Q : RV → IS → Prop} {E : XPost} (enc : α → IV) (as : List α) (I : List α → List IV → IHeap → Prop)
    (hw : ∀ J : Walk → IS → Prop, (∀ h, I [] [] h → J (.items (as.map enc)) ⟨r, h⟩) → (evW G call it ⟨r, h⟩).wp J E)
    (hf : freeI r (own.map (·.2)) = true)
    (ht : ∀ a pre acc h (J : List IV → IHeap → Prop), a ∈ as → I pre acc h → pre.length < as.length → acc.length ≤ pre.length → (∀ acc h, I (pre ++ [a]) acc h → J acc h) → ∃ r2, bindT t (enc a) ⟨wipeI r (own.map (·.2)), h⟩ = some ⟨r2, h⟩ ∧ wipeI r2 (own.map (·.2)) = wipeI r (own.map (·.2)) ∧
      (evTo G call ifs ⟨r2, h⟩).wp (KLc G call e r2 acc J) NoX)
    (hq : ∀ ys h', I as ys h' → ys.length ≤ as.length → Q (.fr (.lst ys)) ⟨r, h'⟩) : (evF G call (.lc e t it ifs own) ⟨r, h⟩).wp Q E := by
  have go : ∀ (zs pre : List α) (acc : List IV) (r' : List Slot) (h : IHeap), pre ++ zs = as → acc.length ≤ pre.length → wipeI r' (own.map (·.2)) = wipeI r (own.map (·.2)) → I pre acc h →
      ∃ ys h' r'', I as ys h' ∧ ys.length ≤ as.length ∧ wipeI r'' (own.map (·.2)) = wipeI r (own.map (·.2)) ∧ foldW (lcTurn t (evTo G call ifs) (evF G call e) (own.map (·.2))) (zs.map enc) acc ⟨r', h⟩ = .ok ys ⟨r'', h'⟩ := by
    intro zs
    induction zs with
    | nil =>
      intro pre acc r' h hk hl hr hI
      rw [List.append_nil] at hk
      subst hk
      exact ⟨acc, h, r', hI, hl, hr, rfl⟩
    | cons z zs ih =>
      intro pre acc r' h hk hl hr hI
      have hz : z ∈ as := by rw [← hk]; simp
      have hp : pre.length < as.length := by rw [← hk]; simp
      obtain ⟨r2, e1, e2, e3⟩ := ht z pre acc h (I (pre ++ [z])) hz hI hp hl (fun _ _ z => z)
      have turn : ∃ acc' h', lcTurn t (evTo G call ifs) (evF G call e) (own.map (·.2)) acc (enc z) ⟨r', h⟩ = .ok acc' ⟨wipeI r (own.map (·.2)), h'⟩ ∧ I (pre ++ [z]) acc' h' ∧ acc'.length ≤ pre.length + 1 := by
        have e4 : lcTurn t (evTo G call ifs) (evF G call e) (own.map (·.2)) acc (enc z) ⟨r', h⟩ = ((evTo G call ifs ⟨r2, h⟩).noX).bind fun c s3 =>
            if c = true then (sOf (evF G call e s3)).noX.bind fun y s4 => if small acc.length then .ok (acc ++ [y]) { s4 with r := wipeI s4.r (own.map (·.2)) } else .bad
            else .ok acc { s3 with r := wipeI s3.r (own.map (·.2)) } := by
          show (Out.of _ (bindT t (enc z) ⟨wipeI r' _, h⟩)).bind _ = _
          rw [hr, e1]; rfl
        rw [e4]
        cases hc : evTo G call ifs ⟨r2, h⟩ with
        | bad => rw [hc, Out.wp_bad] at e3; exact e3.elim
        | exc => rw [hc, Out.wp_exc] at e3; exact e3.elim
        | ok c s3 =>
          rw [hc] at e3
          simp only [Out.wp_ok, KLc_eq] at e3
          obtain ⟨q1, q2⟩ := e3
          cases c with
          | false => exact ⟨acc, s3.h, by simp only [Out.noX_ok, Out.bind_ok, q1, e2, Bool.false_eq_true, if_false], by simpa using q2, by omega⟩
          | true =>
            simp only [if_true] at q2
            cases he : evF G call e s3 with
            | bad => rw [he, Out.wp_bad] at q2; exact q2.elim
            | exc => rw [he, Out.wp_exc] at q2; exact q2.elim
            | ok v s4 =>
              rw [he] at q2
              simp only [Out.wp_ok, KLe_eq] at q2
              obtain ⟨p1, p2, p3, p4⟩ := q2
              refine ⟨acc ++ [v.get], s4.h, ?_, p4, by simp; omega⟩
              simp only [Out.noX_ok, Out.bind_ok, if_true, he, sOf_ok, p2, p3, p1, e2]
      obtain ⟨acc', h', t1, t2, t3⟩ := turn
      obtain ⟨ys, hh, r'', q1, q2, q3, q4⟩ := ih (pre ++ [z]) acc' (wipeI r (own.map (·.2))) h' (by simp [hk]) (by simp; omega) wipeI_idem t2
      exact ⟨ys, hh, r'', q1, q2, q3, by rw [List.map_cons, foldW, t1]; exact q4⟩
  have hw := hw (fun w s => w = .items (as.map enc) ∧ s.r = r ∧ I [] [] s.h) (fun h z => ⟨rfl, rfl, z⟩)
  cases hw' : evW G call it ⟨r, h⟩ with
  | bad => rw [hw', Out.wp_bad] at hw; exact hw.elim
  | exc c fs s =>
    rw [hw', Out.wp_exc] at hw
    have : evF G call (.lc e t it ifs own) ⟨r, h⟩ = .exc c fs s := by unfold evF; rw [hw']; rfl
    rw [this, Out.wp_exc]; exact hw
  | ok w s =>
    rw [hw', Out.wp_ok] at hw
    obtain ⟨rfl, q1, q2⟩ := hw
    obtain ⟨ys, h', r'', q3, q4, q5, q6⟩ := go as [] [] r s.h rfl (Nat.le_refl _) rfl q2
    have : evF G call (.lc e t it ifs own) ⟨r, h⟩ = .ok (.fr (.lst ys)) ⟨r, h'⟩ := by
      unfold evF
      rw [hw']
      obtain ⟨sr, sh⟩ := s
      cases (show sr = r from q1)
      show (if freeI r (own.map (·.2)) = true then _ else _) = _
      rw [if_pos hf]
      show ((foldW _ (as.map enc) [] ⟨r, sh⟩).bind _) = _
      rw [q6]
      show Out.ok _ _ = _
      rw [backI_wipe hf q5]
    rw [this, Out.wp_ok]
    exact hq ys h' q3 q4
end
end
end Ip
namespace Ip
open PySem
theorem small_eq (k : Nat) : (small k = true) = (k ≤ 1000000) := by unfold small; simp
theorem small_t {k : Nat} (h : k ≤ 1000000) : small k = true := decide_eq_true h
theorem i64_t {i : Int} (h : -(2 ^ 64) < i) (h2 : i < 2 ^ 64) : i64 i = true := i64_iff.mpr ⟨h, h2⟩
theorem i62_t {i : Int} (h : -(2 ^ 62) < i) (h2 : i < 2 ^ 62) : i62 i = true := i62_iff.mpr ⟨h, h2⟩
section
variable {st : IS} {x y k d o i : IV} {op : Operator} {lo hi : Option Int}
@[simp] theorem binS_eq : binS st op x y = (cont st x).bind fun a => (cont st y).bind fun b => binC op a b := rfl
@[simp] theorem subS_eq : subS st x i = (cont st x).bind fun a => subC a i := rfl
@[simp] theorem setS_eq : setS st o i y = (cont st o).bind (setB st o i y) := rfl
@[simp] theorem appS_eq : appS st x y = (seqL st x).bind fun xs => if small xs.length then setC st x (.lst (xs ++ [y])) else none := by rfl
@[simp] theorem popS_eq : popS st x k = (seqL st x).bind fun xs => if small xs.length then (asI k).bind fun k => (L2.ixN xs.length k).bind fun j => (xs[j]?).bind fun y => (setC st x (.lst (xs.eraseIdx j))).map fun st => (y, st) else none := by rfl
@[simp] theorem seqL_eq : seqL st x = (cont st x).bind asL := rfl
@[simp] theorem slcS_eq : slcS st x lo hi = (seqL st x).map fun xs => .fr (.lst (cutI xs lo hi)) := rfl
@[simp] theorem truth_eq : truth st x = (cont st x).bind truC := rfl
@[simp] theorem get2S_eq : get2S st x k d = ((cont st x).bind asDK).bind fun kvs => (asK k).map fun k => .v ((hasK k kvs).getD d) := rfl
@[simp] theorem toD_brw {n : Nat} : toD st (.brw n) = ((st.r[n]?).bind ownC).bind (toDr st) := rfl
theorem rangeI_eq : ∀ (m : Nat) (lo : Int), rangeI lo m = (List.range m).map fun k => IV.int (lo + (k : Nat))
  | 0, lo => rfl
  | m + 1, lo => by
    rw [rangeI, rangeI_eq m (lo + 1), List.range_succ_eq_map, List.map_cons, List.map_map]
    congr 1
    · simp
    · refine List.map_congr_left fun k _ => ?_
      show IV.int _ = IV.int _
      congr 1
      show lo + 1 + (k : Int) = lo + ((k + 1 : Nat) : Int)
      omega
theorem range0_eq (m : Nat) : rangeI 0 m = (List.range m).map fun k => IV.int (k : Nat) := by rw [rangeI_eq]; simp
@[simp] theorem ints_map (xs : List Int) : ints? (xs.map .int) = some xs := by
  induction xs with
  | nil => rfl
  | cons x r ih => simp [ints?, ih]
@[simp] theorem ints_nil : ints? [] = some [] := rfl
@[simp] theorem ints_cons (i : Int) (r : List IV) : ints? (.int i :: r) = (ints? r).map (i :: ·) := rfl
@[simp] theorem ints_append : ∀ (xs ys : List IV), ints? (xs ++ ys) = (ints? xs).bind fun a => (ints? ys).map (a ++ ·)
  | [], ys => by simp
  | x :: r, ys => by
    cases x <;> first | rfl | skip
    rw [List.cons_append, ints_cons, ints_cons, ints_append r ys]
    cases ints? r <;> cases ints? ys <;> rfl
@[simp] theorem toDr_int {z : Int} : toDr st (.int z) = some (.int z) := rfl
@[simp] theorem toDrs_nil : toDrs st [] = some [] := by simp [toDrs]
@[simp] theorem toDrs_cons {xs : List IV} : toDrs st (x :: xs) = (toDr st x).bind fun d => (toDrs st xs).map (d :: ·) := by simp [toDrs]
@[simp] theorem toDr_lst {xs : List IV} : toDr st (.lst xs) = (toDrs st xs).map .list := by simp [toDr]
@[simp] theorem toDr_tup {xs : List IV} : toDr st (.tup xs) = (toDrs st xs).map .tuple := by simp [toDr]
@[simp] theorem toDr_ref {n : Nat} : toDr st (.ref n) = (st.h[n]?).join.bind toD0 := by simp [toDr]
@[simp] theorem toDr_str {z : Str} : toDr st (.str z) = some (.str z) := by simp [toDr]
@[simp] theorem toDr_non : toDr st .non = some .none := by simp [toDr]
@[simp] theorem toDr_bl {b : Bool} : toDr st (.bl b) = some (.bool b) := by simp [toDr]
@[simp] theorem toD0_lst {xs : List IV} : toD0 (.lst xs) = (toDs xs).map .list := by simp [toD0]
@[simp] theorem toD0_tup {xs : List IV} : toD0 (.tup xs) = (toDs xs).map .tuple := by simp [toD0]
@[simp] theorem toD0_int {i : Int} : toD0 (.int i) = some (.int i) := by simp [toD0]
@[simp] theorem toD0_str {z : Str} : toD0 (.str z) = some (.str z) := by simp [toD0]
@[simp] theorem toD0_non : toD0 .non = some .none := by simp [toD0]
@[simp] theorem toDs_nil : toDs [] = some [] := by simp [toDs]
@[simp] theorem toDs_cons {xs : List IV} : toDs (x :: xs) = (toD0 x).bind fun d => (toDs xs).map (d :: ·) := by simp [toDs]
theorem toDr_ints {l : List Int} : toDr st (.lst (l.map .int)) = some (.list (l.map .int)) := by simp
@[simp] theorem toD_lst {xs : List IV} : toD st (.lst xs) = toDr st (.lst xs) := rfl
@[simp] theorem toD_tup {xs : List IV} : toD st (.tup xs) = toDr st (.tup xs) := rfl
@[simp] theorem toD_str {z : Str} : toD st (.str z) = some (.str z) := by unfold toD; simp
@[simp] theorem toD_non : toD st .non = some .none := by unfold toD; simp
@[simp] theorem toD_ref {n : Nat} : toD st (.ref n) = ((st.h[n]?).join).bind (toDr st) := rfl
theorem eqS_eq (h : ∀ a b, x = .str a → y = .str b → False) : eqS st x y = (toD st x).bind fun a => (toD st y).bind fun b => eqD a b := by
  cases x <;> cases y <;> first | rfl | exact (h _ _ rfl rfl).elim
@[simp] theorem eqS_lst {xs : List IV} : eqS st (.lst xs) y = (toD st (.lst xs)).bind fun a => (toD st y).bind fun b => eqD a b := eqS_eq (fun _ _ h => by cases h)
@[simp] theorem eqS_tup {xs : List IV} : eqS st (.tup xs) y = (toD st (.tup xs)).bind fun a => (toD st y).bind fun b => eqD a b := eqS_eq (fun _ _ h => by cases h)
@[simp] theorem eqS_ref {n : Nat} : eqS st (.ref n) y = (toD st (.ref n)).bind fun a => (toD st y).bind fun b => eqD a b := eqS_eq (fun _ _ h => by cases h)
@[simp] theorem eqS_non : eqS st .non y = (toD st .non).bind fun a => (toD st y).bind fun b => eqD a b := eqS_eq (fun _ _ h => by cases h)
@[simp] theorem toD_bl {b : Bool} : toD st (.bl b) = some (.bool b) := by unfold toD; simp
@[simp] theorem eqS_bl {b : Bool} : eqS st (.bl b) y = (toD st (.bl b)).bind fun a => (toD st y).bind fun b => eqD a b := eqS_eq (fun _ _ h => by cases h)
@[simp] theorem eqD_bool (a b : Bool) : eqD (.bool a) (.bool b) = some (a == b) := by cases a <;> cases b <;> rfl
@[simp] theorem eqS_brw {n : Nat} : eqS st (.brw n) y = (((st.r[n]?).bind ownC).bind (toDr st)).bind fun a => (toD st y).bind fun b => eqD a b := eqS_eq (fun _ _ h => by cases h)
@[simp] theorem eqD_ints (l m : List Int) : eqD (.list (l.map .int)) (.list (m.map .int)) = some (decide (l = m)) := by
  unfold eqD
  simp only [dOk_ints, Bool.and_self, if_true]
  congr 1
  unfold PyData.eqv
  exact eqv_ints l m
@[simp] theorem eqD_ints_nil (l : List Int) : eqD (.list (l.map .int)) (.list []) = some (decide (l = [])) := eqD_ints l []
@[simp] theorem eqD_nil_nil : eqD (.list []) (.list []) = some true := by simpa using eqD_ints [] []
@[simp] theorem eqD_cons_nil (i : Int) (l : List Int) : eqD (.list (.int i :: l.map .int)) (.list []) = some false := by simpa using eqD_ints (i :: l) []
@[simp] theorem eqD_int (i j : Int) : eqD (.int i) (.int j) = some (decide (i = j)) := by
  unfold eqD
  simp [dOk_int, eqv_int, Bool.beq_eq_decide_eq]
end
@[simp] theorem eqS_int2 {st : IS} (x y : Int) : eqS st (.int x) (.int y) = some (decide (x = y)) := eqS_int st x y
theorem map_erase {α β : Type} {f : α → β} : ∀ (l : List α) (d : Nat), (l.map f).eraseIdx d = (l.eraseIdx d).map f
  | [], d => rfl
  | a :: l, 0 => rfl
  | a :: l, d + 1 => by simp [map_erase l d]
theorem erase_perm {α : Type} : ∀ (l : List α) (d : Nat) (hd : d < l.length), (l[d] :: l.eraseIdx d).Perm l
  | a :: l, 0, _ => .refl _
  | a :: l, d + 1, hd => by
    have hd' : d < l.length := by simpa using hd
    have := erase_perm l d hd'
    show (l[d]'hd' :: a :: l.eraseIdx d).Perm _
    exact (List.Perm.swap _ _ _).trans (this.cons a)
theorem ixN_nat {n d : Nat} (h : d < n) : L2.ixN n (d : Int) = some d := by
  unfold L2.ixN
  rw [if_pos (by omega), if_pos (by omega)]; rfl
theorem atI_lt {α : Type} {xs : List α} {d : Nat} (h : d < xs.length) : L2.atI xs (d : Int) = some xs[d] := by
  rw [atI_nat, List.getElem?_eq_getElem h]
theorem atI_map {α β : Type} {f : α → β} {xs : List α} {d : Nat} (h : d < xs.length) : L2.atI (xs.map f) (d : Int) = some (f xs[d]) := by
  rw [atI_lt (by simpa using h)]; simp
@[simp] theorem atI_0 {α : Type} {x : α} {xs : List α} : L2.atI (x :: xs) 0 = some x := atI_nat _ 0
@[simp] theorem atI_1 {α : Type} {x y : α} {xs : List α} : L2.atI (x :: y :: xs) 1 = some y := atI_nat _ 1
@[simp] theorem atI_2 {α : Type} {x y z : α} {xs : List α} : L2.atI (x :: y :: z :: xs) 2 = some z := atI_nat _ 2
end Ip

/-! P3: loops and comprehensions over typed items, the heap standing still. -/
namespace Ip
open PySem
section
variable {α : Type} {G : Prog} {call : Caller}
theorem Out.wp_inv {β : Type} {o : Out β} {Q : β → IS → Prop} (h : o.wp Q NoX) : ∃ a s, o = .ok a s ∧ Q a s := by
  cases o with
  | ok a s => rw [Out.wp_ok] at h; exact ⟨a, s, rfl, h⟩
  | exc c fs s => rw [Out.wp_exc] at h; exact h.elim
  | bad => rw [Out.wp_bad] at h; exact h.elim
theorem COut.wp_inv {o : COut} {Q : RV → IHeap → Prop} (h : o.wp Q NoX) : ∃ r h, o = .ok r h ∧ Q r h := by
  cases o with
  | ok a s => rw [COut.wp_ok] at h; exact ⟨a, s, rfl, h⟩
  | exc c fs s => rw [COut.wp_exc] at h; exact h.elim
  | bad => rw [COut.wp_bad] at h; exact h.elim
theorem wipe_set1 {r : List Slot} {i : Nat} {x : Slot} : wipeI (r.set i x) [i] = wipeI r [i] := by simp
/-- a comprehension with one name whose test and item leave the state -/
theorem wp_lc1 {e : CE} {i : Nat} {nm : String} {it : IT} {ifs : Option CE} {r : List Slot} {h : IHeap} {Q : RV → IS → Prop} {E : XPost} (enc : α → IV) (as : List α) (p : α → Bool) (g : α → IV) {x : IV}
    (hw : evW G call it ⟨r, h⟩ = Out.of ⟨r, h⟩ (walkOf ⟨r, h⟩ x)) (hx : Sq h x (as.map enc)) (hi : freeI r [i] = true) (hs : as.length ≤ 1000000) (hst : ∀ a ∈ as, stor (enc a) = true)
    (hc : ∀ a ∈ as, ∀ J : Bool → IS → Prop, J (p a) ⟨r.set i (.val (enc a)), h⟩ → (evTo G call ifs ⟨r.set i (.val (enc a)), h⟩).wp J NoX)
    (he : ∀ a ∈ as, p a = true → ∀ J : RV → IS → Prop, (∀ v, v.get = g a → J v ⟨r.set i (.val (enc a)), h⟩) → (evF G call e ⟨r.set i (.val (enc a)), h⟩).wp J NoX) (hg : ∀ a ∈ as, p a = true → stor (g a) = true)
    (hq : Q (.fr (.lst ((as.filter p).map g))) ⟨r, h⟩) : (evF G call (.lc e (.name i) it ifs [(nm, i)]) ⟨r, h⟩).wp Q E := by
  have hil : i < r.length := by
    unfold freeI at hi
    rcases Nat.lt_or_ge i r.length with z | z
    · exact z
    · rw [List.getElem?_eq_none z] at hi; simp at hi
  have inv : ∀ y ∈ as.map enc, ∃ a ∈ as, enc a = y := fun y hy => by
    obtain ⟨a, h1, h2⟩ := List.mem_map.mp hy; exact ⟨a, h1, h2⟩
  have turn : ∀ a ∈ as, ∃ r2, bindT (.name i) (enc a) ⟨wipeI r [i], h⟩ = some ⟨r2, h⟩ ∧ r2 = r.set i (.val (enc a)) := fun a ha => by
    refine ⟨r.set i (.val (enc a)), ?_, rfl⟩
    simp [hst a ha, hil]
  have key : ∀ (zs : List α) (acc : List IV) (r' : List Slot), (∀ a ∈ zs, a ∈ as) → wipeI r' [i] = wipeI r [i] → acc.length + zs.length ≤ 1000000 →
      ∃ r'', wipeI r'' [i] = wipeI r [i] ∧ foldW (lcTurn (.name i) (evTo G call ifs) (evF G call e) [i]) (zs.map enc) acc ⟨r', h⟩ = .ok (acc ++ (zs.filter p).map g) ⟨r'', h⟩ := by
    intro zs
    induction zs with
    | nil => intro acc r' _ hr _; exact ⟨r', hr, by simp [foldW]⟩
    | cons a zs ih =>
      intro acc r' hm hr hl
      simp only [List.length_cons] at hl
      have ha := hm a List.mem_cons_self
      obtain ⟨r2, e1, e2⟩ := turn a ha
      obtain ⟨c, s, e3, e4⟩ := Out.wp_inv (hc a ha (fun c s => c = p a ∧ s = ⟨r.set i (.val (enc a)), h⟩) ⟨rfl, rfl⟩)
      obtain ⟨rfl, rfl⟩ := e4
      have wi : wipeI (r.set i (.val (enc a))) [i] = wipeI r [i] := wipe_set1
      have tn : lcTurn (.name i) (evTo G call ifs) (evF G call e) [i] acc (enc a) ⟨r', h⟩ = .ok (if p a = true then acc ++ [g a] else acc) ⟨wipeI r [i], h⟩ := by
        show (Out.of _ (bindT (.name i) (enc a) ⟨wipeI r' [i], h⟩)).bind _ = _
        rw [hr, e1, e2]
        show ((evTo G call ifs ⟨r.set i (.val (enc a)), h⟩).noX).bind _ = _
        rw [e3]
        by_cases hp : p a = true
        · obtain ⟨v, s, e5, e6⟩ := Out.wp_inv (he a ha hp (fun v s => v.get = g a ∧ s = ⟨r.set i (.val (enc a)), h⟩) fun v hv => ⟨hv, rfl⟩)
          obtain ⟨e6, rfl⟩ := e6
          rw [if_pos hp]
          show (if p a = true then ((sOf (evF G call e ⟨r.set i (.val (enc a)), h⟩)).noX).bind _ else _) = _
          rw [if_pos hp, e5, sOf_ok, e6, if_pos (hg a ha hp)]
          show (if small acc.length = true then Out.ok (acc ++ [g a]) { r := wipeI (r.set i (.val (enc a))) [i], h := h } else .bad) = _
          rw [if_pos (small_t (by omega)), wi]
        · rw [if_neg hp]
          show (if p a = true then _ else Out.ok acc { r := wipeI (r.set i (.val (enc a))) [i], h := h }) = _
          rw [if_neg hp, wi]
      obtain ⟨r'', q1, q2⟩ := ih (if p a = true then acc ++ [g a] else acc) (wipeI r [i]) (fun b hb => hm b (List.mem_cons_of_mem _ hb)) wipeI_idem (by split <;> (try simp) <;> omega)
      refine ⟨r'', q1, ?_⟩
      rw [List.map_cons, foldW, tn]
      show foldW _ _ _ _ = _
      rw [q2]
      by_cases hp : p a = true
      · rw [if_pos hp, List.filter_cons_of_pos hp]; simp
      · rw [if_neg hp, List.filter_cons_of_neg hp]
  obtain ⟨w, e1, e2⟩ := hx.fold (f := lcTurn (.name i) (evTo G call ifs) (evF G call e) [i]) (fun r' => wipeI r' [i] = wipeI r [i]) (fun acc y r' a' st' hy hr' ef => by
    obtain ⟨a, ha, rfl⟩ := inv y hy
    obtain ⟨r2, t1, t2⟩ := turn a ha
    obtain ⟨c, s, e3, e4⟩ := Out.wp_inv (hc a ha (fun c s => c = p a ∧ s = ⟨r.set i (.val (enc a)), h⟩) ⟨rfl, rfl⟩)
    obtain ⟨rfl, rfl⟩ := e4
    have wi : wipeI (r.set i (.val (enc a))) [i] = wipeI r [i] := wipe_set1
    have tn : lcTurn (.name i) (evTo G call ifs) (evF G call e) [i] acc (enc a) ⟨r', h⟩ = (if p a = true then (if small acc.length = true then .ok (acc ++ [g a]) ⟨wipeI r [i], h⟩ else .bad) else .ok acc ⟨wipeI r [i], h⟩) := by
      show (Out.of _ (bindT (.name i) (enc a) ⟨wipeI r' [i], h⟩)).bind _ = _
      rw [hr', t1, t2]
      show ((evTo G call ifs ⟨r.set i (.val (enc a)), h⟩).noX).bind _ = _
      rw [e3]
      by_cases hp : p a = true
      · obtain ⟨v, s, e5, e6⟩ := Out.wp_inv (he a ha hp (fun v s => v.get = g a ∧ s = ⟨r.set i (.val (enc a)), h⟩) fun v hv => ⟨hv, rfl⟩)
        obtain ⟨e6, rfl⟩ := e6
        rw [if_pos hp]
        show (if p a = true then ((sOf (evF G call e ⟨r.set i (.val (enc a)), h⟩)).noX).bind _ else _) = _
        rw [if_pos hp, e5, sOf_ok, e6, if_pos (hg a ha hp)]
        show (if small acc.length = true then Out.ok (acc ++ [g a]) { r := wipeI (r.set i (.val (enc a))) [i], h := h } else .bad) = _
        rw [wi]
      · rw [if_neg hp]
        show (if p a = true then _ else Out.ok acc { r := wipeI (r.set i (.val (enc a))) [i], h := h }) = _
        rw [if_neg hp, wi]
    rw [tn] at ef
    split at ef
    · split at ef
      · cases ef; exact ⟨rfl, wipeI_idem⟩
      · cases ef
    · cases ef; exact ⟨rfl, wipeI_idem⟩) [] (r := r) rfl
  obtain ⟨r', q1, q2⟩ := key as [] r (fun _ h => h) rfl (by simpa using hs)
  have : evF G call (.lc e (.name i) it ifs [(nm, i)]) ⟨r, h⟩ = .ok (.fr (.lst ((as.filter p).map g))) ⟨r, h⟩ := by
    unfold evF
    rw [hw, e1]
    show (if freeI r [i] = true then (foldWalk _ w [] ⟨r, h⟩).bind _ else _) = _
    rw [if_pos hi]
    show (foldWalk (lcTurn (.name i) (evTo G call ifs) (evF G call e) [i]) w [] ⟨r, h⟩).bind _ = _
    rw [e2, q2]
    show Out.ok _ ⟨backI r r' [i], h⟩ = _
    rw [backI_wipe hi q1]; simp
  rw [this, Out.wp_ok]; exact hq
/-- .. without a test -/
theorem wp_lcm {e : CE} {i : Nat} {nm : String} {it : IT} {r : List Slot} {h : IHeap} {Q : RV → IS → Prop} {E : XPost} (enc : α → IV) (as : List α) (g : α → IV) {x : IV}
    (hw : evW G call it ⟨r, h⟩ = Out.of ⟨r, h⟩ (walkOf ⟨r, h⟩ x)) (hx : Sq h x (as.map enc)) (hi : freeI r [i] = true) (hs : as.length ≤ 1000000) (hst : ∀ a ∈ as, stor (enc a) = true)
    (he : ∀ a ∈ as, ∀ J : RV → IS → Prop, (∀ v, v.get = g a → J v ⟨r.set i (.val (enc a)), h⟩) → (evF G call e ⟨r.set i (.val (enc a)), h⟩).wp J NoX) (hg : ∀ a ∈ as, stor (g a) = true)
    (hq : Q (.fr (.lst (as.map g))) ⟨r, h⟩) : (evF G call (.lc e (.name i) it none [(nm, i)]) ⟨r, h⟩).wp Q E :=
  wp_lc1 enc as (fun _ => true) g hw hx hi hs hst (fun a _ J hJ => by unfold evTo; rw [Out.wp_ok]; exact hJ) (fun a ha _ => he a ha) (fun a ha _ => hg a ha) (by rw [List.filter_eq_self.mpr fun _ _ => rfl]; exact hq)
/-- a for over items at hand; what is taken and what is left are told -/
theorem wpS_forP {t : Tgt} {it : IT} {b cs : List CS} {P : SP} {st : IS} (enc : α → IV) (A : List α → Prop) (I : List α → List α → IS → Prop)
    (hw : ∀ J : Walk → IS → Prop, (∀ as st, A as → I as [] st → J (.items (as.map enc)) st) → (evW G call it st).wp J P.E)
    (ht : ∀ a pre post st (J : IS → Prop), A (pre ++ a :: post) → I (pre ++ a :: post) pre st → (∀ st, I (pre ++ a :: post) (pre ++ [a]) st → J st) → ∃ st', bindT t (enc a) st = some st' ∧ wpS G call b (SP.lp J (SP.seq G call cs P)) st')
    (hz : ∀ as st, A as → I as as st → wpS G call cs P st) : wpS G call (.for t it b :: cs) P st := by
  rw [wpS_for]
  have hw := hw (fun w st => ∃ as, w = .items (as.map enc) ∧ A as ∧ I as [] st) (fun as st z1 z2 => ⟨as, rfl, z1, z2⟩)
  cases hw' : evW G call it st with
  | bad => rw [hw', Out.wp_bad] at hw; exact hw.elim
  | exc c fs s => rw [hw', Out.wp_exc] at hw; rw [Out.wp_exc]; exact hw
  | ok w s =>
    rw [hw', Out.wp_ok] at hw
    obtain ⟨as, rfl, hA, h0⟩ := hw
    rw [Out.wp_ok]
    have go : ∀ (zs pre : List α) (st : IS), pre ++ zs = as → I as pre st → (forItems (forTurn t (exs G call b)) (zs.map enc) st).wp (SP.seq G call cs P) := by
      intro zs
      induction zs with
      | nil =>
        intro pre st hk hI
        rw [List.append_nil] at hk
        subst hk
        rw [List.map_nil, forItems, SOut.wp_next]
        exact hz _ st hA hI
      | cons z zs ih =>
        intro pre st hk hI
        subst hk
        rw [List.map_cons, forItems, SOut.wp_turn]
        obtain ⟨st', e1, e2⟩ := ht z pre zs st (I (pre ++ z :: zs) (pre ++ [z])) hA hI (fun _ z => z)
        have e3 : forTurn t (exs G call b) (enc z) st = exs G call b st' := by unfold forTurn; rw [e1]; rfl
        rw [e3]
        exact SOut.wp_mono e2.run (fun s hs => ih (pre ++ [z]) s (by simp) hs) (fun _ _ z => z) (fun _ _ _ z => z) (fun _ z => z) (fun s hs => ih (pre ++ [z]) s (by simp) hs)
    show (forItems _ _ _).wp _
    exact go as [] s rfl h0
theorem wpS_forDP {t : Tgt} {j : Nat} {b cs : List CS} {P : SP} {st : IS} (enc : α → IV) (as : List α) (I : List α → IS → Prop) (hk : (st.r[j]?).bind keysOf = some (as.map enc)) (h0 : I [] st)
    (ht : ∀ a pre post st (J : IS → Prop), as = pre ++ a :: post → I pre st → (∀ st, I (pre ++ [a]) st → J st) → ∃ st', bindT t (enc a) st = some st' ∧ wpS G call b (SP.lp J (SP.seq G call cs P)) st')
    (hz : ∀ st, I as st → wpS G call cs P st) : wpS G call (.forD t j b :: cs) P st := by
  rw [wpS_forD]
  refine ⟨_, hk, ?_⟩
  have go : ∀ (zs pre : List α) (st : IS), pre ++ zs = as → I pre st → (forItems (forTurn t (exs G call b)) (zs.map enc) st).wp (SP.seq G call cs P) := by
    intro zs
    induction zs with
    | nil =>
      intro pre st hk hI
      rw [List.append_nil] at hk
      subst hk
      rw [List.map_nil, forItems, SOut.wp_next]
      exact hz st hI
    | cons z zs ih =>
      intro pre st hk hI
      rw [List.map_cons, forItems, SOut.wp_turn]
      obtain ⟨st', e1, e2⟩ := ht z pre zs st (I (pre ++ [z])) hk.symm hI (fun _ z => z)
      have e3 : forTurn t (exs G call b) (enc z) st = exs G call b st' := by unfold forTurn; rw [e1]; rfl
      rw [e3]
      exact SOut.wp_mono e2.run (fun s hs => ih (pre ++ [z]) s (by simp [hk]) hs) (fun _ _ z => z) (fun _ _ _ z => z) (fun _ z => z) (fun s hs => ih (pre ++ [z]) s (by simp [hk]) hs)
  exact go as [] st rfl h0
theorem enumI_map (enc : α → IV) : ∀ (as : List α) (k : Nat), enumI k (as.map enc) = (as.zipIdx k).map fun p => IV.tup [.int (p.2 : Nat), enc p.1]
  | [], k => rfl
  | a :: as, k => by rw [List.map_cons, enumI, enumI_map enc as (k + 1), List.zipIdx_cons, List.map_cons]
/-- a for over items, the heap standing still -/
theorem wpS_forS {t : Tgt} {it : IT} {b cs : List CS} {P : SP} {r : List Slot} {h : IHeap} (enc : α → IV) (as : List α) {x : IV} (I : List α → List Slot → Prop)
    (hw : evW G call it ⟨r, h⟩ = Out.of ⟨r, h⟩ (walkOf ⟨r, h⟩ x)) (hx : Sq h x (as.map enc)) (h0 : I [] r)
    (ht : ∀ a pre post r (J : IS → Prop), as = pre ++ a :: post → I pre r → (∀ r, I (pre ++ [a]) r → J ⟨r, h⟩) → ∃ r2, bindT t (enc a) ⟨r, h⟩ = some ⟨r2, h⟩ ∧ wpS G call b (SP.lp J (SP.seq G call cs P)) ⟨r2, h⟩)
    (hz : ∀ r, I as r → wpS G call cs P ⟨r, h⟩) : wpS G call (.for t it b :: cs) P ⟨r, h⟩ := by
  have tn : ∀ a pre post r, as = pre ++ a :: post → I pre r → (forTurn t (exs G call b) (enc a) ⟨r, h⟩).wp (SP.lp (fun s => s.h = h ∧ I (pre ++ [a]) s.r) (SP.seq G call cs P)) := fun a pre post r ha hI => by
    obtain ⟨r2, e1, e2⟩ := ht a pre post r (fun s => s.h = h ∧ I (pre ++ [a]) s.r) ha hI fun r hr => ⟨rfl, hr⟩
    unfold forTurn
    rw [e1]
    exact e2.run
  have go : ∀ (zs pre : List α) (r : List Slot), pre ++ zs = as → I pre r → (forItems (forTurn t (exs G call b)) (zs.map enc) ⟨r, h⟩).wp (SP.seq G call cs P) := by
    intro zs
    induction zs with
    | nil =>
      intro pre r hk hI
      rw [List.append_nil] at hk
      subst hk
      rw [List.map_nil, forItems, SOut.wp_next]
      exact hz r hI
    | cons z zs ih =>
      intro pre r hk hI
      rw [List.map_cons, forItems, SOut.wp_turn]
      refine SOut.wp_mono (tn z pre zs r hk.symm hI) ?_ (fun _ _ z => z) (fun _ _ _ z => z) (fun _ z => z) ?_
      · rintro ⟨r', h'⟩ ⟨e, hs⟩
        cases (show h' = h from e)
        exact ih (pre ++ [z]) r' (by simp [hk]) hs
      · rintro ⟨r', h'⟩ ⟨e, hs⟩
        cases (show h' = h from e)
        exact ih (pre ++ [z]) r' (by simp [hk]) hs
  rw [wpS_for, hw]
  rcases hx with rfl | ⟨n, rfl, e⟩
  · rw [walkOf_lst, Out.of_some, Out.wp_ok]
    exact go as [] r rfl h0
  · have sq : ∀ r', Ip.seqL ⟨r', h⟩ (.ref n) = some (as.map enc) := fun r' => by unfold Ip.seqL; show ((h[n]?).join).bind asL = _; rw [e]; rfl
    have live : ∀ (zs pre : List α) (r : List Slot), pre ++ zs = as → I pre r → (forLive (forTurn t (exs G call b)) (.ref n) zs.length pre.length ⟨r, h⟩).wp (SP.seq G call cs P) := by
      intro zs
      induction zs with
      | nil =>
        intro pre r hk hI
        rw [List.append_nil] at hk
        subst hk
        show (forLive _ _ 0 _ _).wp _
        rw [forLive, sq r]
        simp only [Out.of_some, Out.toS_ok, List.length_map, Nat.le_refl, if_true, SOut.wp_next]
        exact hz r hI
      | cons z zs ih =>
        intro pre r hk hI
        show (forLive _ _ (zs.length + 1) _ _).wp _
        have hg : ((Ip.seqL ⟨r, h⟩ (.ref n)).bind (·[pre.length]?)) = some (enc z) := by rw [sq r, ← hk]; simp
        rw [forLive, hg]
        simp only [Out.of_some, Out.toS_ok, SOut.wp_turn]
        refine SOut.wp_mono (tn z pre zs r hk.symm hI) ?_ (fun _ _ z => z) (fun _ _ _ z => z) (fun _ z => z) ?_
        · rintro ⟨r', h'⟩ ⟨e, hs⟩
          cases (show h' = h from e)
          have := ih (pre ++ [z]) r' (by simp [hk]) hs
          rw [List.length_append] at this; exact this
        · rintro ⟨r', h'⟩ ⟨e, hs⟩
          cases (show h' = h from e)
          have := ih (pre ++ [z]) r' (by simp [hk]) hs
          rw [List.length_append] at this; exact this
    have wo : walkOf ⟨r, h⟩ (.ref n) = some (.live (.ref n) as.length) := by
      show (Ip.seqL ⟨r, h⟩ (.ref n)).map _ = _
      rw [sq r]; simp
    rw [wo, Out.of_some, Out.wp_ok]
    exact live as [] r rfl h0
end
end Ip

/-! P4: data: equality, repr. -/
namespace Ip
open PySem
mutual
/-- no bools, no dicts -/
def noB : PyData → Bool
  | .bool _ => false
  | .dict _ => false
  | .list xs => noBs xs
  | .tuple xs => noBs xs
  | .none => true
  | .int _ => true
  | .str _ => true
def noBs : List PyData → Bool
  | [] => true
  | x :: xs => noB x && noBs xs
end
open Classical in
mutual
theorem eqv_nb : ∀ (a b : PyData), noB a = true → noB b = true → PyData.eqv a b = decide (a = b)
  | .none, b, _, hb => by cases b <;> simp_all [PyData.eqv, noB]
  | .bool _, b, ha, _ => by simp [noB] at ha
  | .dict _, b, ha, _ => by simp [noB] at ha
  | .int i, b, _, hb => by
    cases b <;> simp_all [PyData.eqv, noB, Bool.beq_eq_decide_eq]
  | .str i, b, _, hb => by
    cases b <;> simp_all [PyData.eqv, noB, Bool.beq_eq_decide_eq]
  | .list xs, b, ha, hb => by
    cases b with
    | list ys =>
      have := eqvs_nb xs ys (by simpa [noB] using ha) (by simpa [noB] using hb)
      simp [PyData.eqv, this]
    | _ => simp_all [PyData.eqv, noB]
  | .tuple xs, b, ha, hb => by
    cases b with
    | tuple ys =>
      have := eqvs_nb xs ys (by simpa [noB] using ha) (by simpa [noB] using hb)
      simp [PyData.eqv, this]
    | _ => simp_all [PyData.eqv, noB]
theorem eqvs_nb : ∀ (a b : List PyData), noBs a = true → noBs b = true → PyData.eqvAll a b = decide (a = b)
  | [], [], _, _ => by simp [PyData.eqvAll]
  | [], _ :: _, _, _ => by simp [PyData.eqvAll]
  | _ :: _, [], _, _ => by simp [PyData.eqvAll]
  | x :: xs, y :: ys, ha, hb => by
    have ha' : noB x = true ∧ noBs xs = true := by simpa [noBs] using ha
    have hb' : noB y = true ∧ noBs ys = true := by simpa [noBs] using hb
    rw [PyData.eqvAll, eqv_nb x y ha'.1 hb'.1, eqvs_nb xs ys ha'.2 hb'.2]
    simp
end
/-- a whole number whose text is short -/
@[irreducible] def shortI (i : Int) : Prop := i.natAbs < 10 ^ 40
theorem shortI_of {i : Int} (h : i.natAbs < 10 ^ 40) : shortI i := by unfold shortI; exact h
theorem shortI_len {i : Int} (h : shortI i) : (PyData.shown (.int i)).length ≤ 41 := by
  unfold shortI at h
  have := int_text_length_le10 (k := 40) (by decide) h
  have e : (PyData.shown (.int i)).length = (toString i).length := by
    show (PySem.Str.ofString (toString i)).length = _
    exact ofString_length _
  rw [e]; exact this
theorem shortI_log {i : Int} (h : shortI i) : i.natAbs.log2 < 1920 := by
  unfold shortI at h
  by_cases z : i.natAbs = 0
  · rw [z]; decide
  · rw [Nat.log2_lt z]
    refine Nat.lt_trans h ?_
    decide +kernel
/-- data of depth at most k and bulk at most m, shown in little room -/
structure Dg (k m : Nat) (d : PyData) : Prop where
  c : d.canLay0 = true
  k : d.depth ≤ k
  i : d.intsShort 41 = true
  s : d.showable = true
  b : d.bulk ≤ m
  n : noB d = true
structure Dgs (k m n : Nat) (ds : List PyData) : Prop where
  c : PyData.canLayAll0 ds = true
  k : PyData.depthAll ds ≤ k
  i : PyData.intsShortAll 41 ds = true
  s : PyData.showableAll ds = true
  b : PyData.bulkAll ds ≤ n * (m + 1)
  n : noBs ds = true
theorem Dg.mono {k m k' m' : Nat} {d : PyData} (h : Dg k m d) (a : k ≤ k') (b : m ≤ m') : Dg k' m' d := ⟨h.c, Nat.le_trans h.k a, h.i, h.s, Nat.le_trans h.b b, h.n⟩
theorem Dg.int {k m : Nat} {i : Int} (h : shortI i) : Dg k m (.int i) where
  c := by simp [PyData.canLay0]
  k := by simp [PyData.depth]
  i := by simpa [PyData.intsShort] using shortI_len h
  s := by simpa [PyData.showable] using shortI_log h
  b := by simp [PyData.bulk]
  n := by simp [noB]
theorem Dg.none {k m : Nat} : Dg k m .none := ⟨by simp [PyData.canLay0], by simp [PyData.depth], by simp [PyData.intsShort], by simp [PyData.showable], by simp [PyData.bulk], by simp [noB]⟩
theorem Dg.str {k m : Nat} {x : Str} (h : PyData.strOk x = true) (h2 : x.length ≤ m) : Dg k m (.str x) where
  c := by simpa [PyData.canLay0] using h
  k := by simp [PyData.depth]
  i := by simp [PyData.intsShort]
  s := by simp [PyData.showable]
  b := by simp only [PyData.bulk]; exact h2
  n := by simp [noB]
theorem Dgs.of {k m : Nat} : ∀ {ds : List PyData}, (∀ d ∈ ds, Dg k m d) → Dgs k m ds.length ds
  | [], _ => ⟨by simp [PyData.canLayAll0], by simp [PyData.depthAll], by simp [PyData.intsShortAll], by simp [PyData.showableAll], by simp [PyData.bulkAll], by simp [noBs]⟩
  | d :: ds, h => by
    have h1 := h d List.mem_cons_self
    have h2 := Dgs.of (ds := ds) fun e he => h e (List.mem_cons_of_mem _ he)
    refine ⟨?_, ?_, ?_, ?_, ?_, ?_⟩
    · simp [PyData.canLayAll0, h1.c, h2.c]
    · simp [PyData.depthAll]; exact Nat.max_le.mpr ⟨h1.k, h2.k⟩
    · simp [PyData.intsShortAll, h1.i, h2.i]
    · simp [PyData.showableAll, h1.s, h2.s]
    · simp only [PyData.bulkAll, List.length_cons, Nat.add_mul, Nat.one_mul]
      have := h1.b; have := h2.b; omega
    · simp [noBs, h1.n, h2.n]
theorem Dg.list {k m n : Nat} {ds : List PyData} (h : ∀ d ∈ ds, Dg k m d) (hn : ds.length ≤ n) : Dg (k + 1) (n * (m + 1)) (.list ds) := by
  have := Dgs.of h
  refine ⟨by simpa [PyData.canLay0] using this.c, by simpa [PyData.depth] using this.k, by simpa [PyData.intsShort] using this.i, by simpa [PyData.showable] using this.s, ?_, by simpa [noB] using this.n⟩
  simp only [PyData.bulk]
  exact Nat.le_trans this.b (Nat.mul_le_mul_right _ hn)
theorem Dg.tup {k m n : Nat} {ds : List PyData} (h : ∀ d ∈ ds, Dg k m d) (hn : ds.length ≤ n) : Dg (k + 1) (n * (m + 1)) (.tuple ds) := by
  have := Dgs.of h
  refine ⟨by simpa [PyData.canLay0] using this.c, by simpa [PyData.depth] using this.k, by simpa [PyData.intsShort] using this.i, by simpa [PyData.showable] using this.s, ?_, by simpa [noB] using this.n⟩
  simp only [PyData.bulk]
  exact Nat.le_trans this.b (Nat.mul_le_mul_right _ hn)
theorem Dg.ok {k m : Nat} {d : PyData} (h : Dg k m d) (hk : k ≤ 64) : dOk d = true := by
  unfold dOk SeqAt.shaped
  rw [h.c]; simp; exact Nat.le_trans h.k hk
open Classical in
theorem eqD_Dg {k m k' m' : Nat} {a b : PyData} (h : Dg k m a) (h' : Dg k' m' b) (hk : k ≤ 64) (hk' : k' ≤ 64) : eqD a b = some (decide (a = b)) := by
  unfold eqD
  rw [h.ok hk, h'.ok hk', eqv_nb a b h.n h'.n]; rfl
theorem Dg.small {k m : Nat} {d : PyData} (h : Dg k m d) (hm : m ≤ 20000) : small d.shown.length = true := by
  have := PyData.shown_le_bulk 41 (by omega) d (PyData.leavesShort_of_canLay0 41 d h.c h.i)
  have := h.b
  exact small_t (by omega)
theorem repr_Dg {k m : Nat} {st : IS} {x : IV} {d : PyData} (e : toD st x = some d) (h : Dg k m d) (hk : k ≤ 64) (hm : m ≤ 20000) (hr : repOk d = true) : bi1 st .repr x = some (.v (.str d.shown)) := by
  rw [bi1_repr, e]
  show (if dOk d && d.showable && Ip.small d.shown.length && repOk d then _ else _) = _
  rw [h.ok hk, h.s, h.small hm, hr]; rfl
theorem toDrs_map {α : Type} {st : IS} {enc : α → IV} {dat : α → PyData} : ∀ {as : List α}, (∀ a ∈ as, toDr st (enc a) = some (dat a)) → toDrs st (as.map enc) = some (as.map dat)
  | [], _ => by simp [toDrs]
  | a :: as, h => by
    rw [List.map_cons, toDrs, h a List.mem_cons_self, toDrs_map fun b hb => h b (List.mem_cons_of_mem _ hb)]; rfl
theorem toDs_map {α : Type} {enc : α → IV} {dat : α → PyData} : ∀ {as : List α}, (∀ a ∈ as, toD0 (enc a) = some (dat a)) → toDs (as.map enc) = some (as.map dat)
  | [], _ => by simp [toDs]
  | a :: as, h => by
    rw [List.map_cons, toDs, h a List.mem_cons_self, toDs_map fun b hb => h b (List.mem_cons_of_mem _ hb)]; rfl
end Ip

/-! Mg: plain facts about merging: the ring, cycles, the law's own merge. -/
namespace Pg
open PySem Ip
/-- b stands behind a in some list -/
def R (L : List (List Int)) (a b : Int) : Prop := ∃ l ∈ L, [a, b].Sublist l
inductive Tr (L : List (List Int)) : Int → Int → Prop
  | one {a b : Int} : R L a b → Tr L a b
  | cons {a b c : Int} : R L a b → Tr L b c → Tr L a c
theorem Tr.trans {L : List (List Int)} {a b c : Int} (h : Tr L a b) (k : Tr L b c) : Tr L a c := by
  induction h with
  | one h => exact .cons h k
  | cons h _ ih => exact .cons h (ih k)
theorem Tr.last {L : List (List Int)} {a b : Int} (h : Tr L a b) : ∃ c, R L c b := by
  induction h with
  | one h => exact ⟨_, h⟩
  | cons _ _ ih => exact ih
def Cyc (L : List (List Int)) : Prop := ∃ a, Tr L a a
theorem sub2_cons {a b x : Int} {r : List Int} : [a, b].Sublist (x :: r) ↔ (a = x ∧ b ∈ r) ∨ [a, b].Sublist r := by
  rw [List.sublist_cons_iff]
  constructor
  · rintro (h | ⟨r', e, h⟩)
    · exact .inr h
    · cases e; exact .inl ⟨rfl, List.singleton_sublist.mp h⟩
  · rintro (⟨rfl, h⟩ | h)
    · exact .inr ⟨[b], rfl, List.singleton_sublist.mpr h⟩
    · exact .inl h
theorem behind_none {x : Int} : ∀ {left : List (List Int)} {i : Nat}, behind x i left = none ↔ ∀ l ∈ left, x ∉ l.drop 1
  | [], i => by simp [behind]
  | l :: left, i => by
    rw [behind]
    by_cases h : x ∈ l.drop 1
    · rw [if_pos h]
      constructor
      · intro z; cases z
      · intro z; exact absurd h (z l List.mem_cons_self)
    · rw [if_neg h, behind_none]
      constructor
      · intro z m hm
        rcases List.mem_cons.mp hm with rfl | hm
        · exact h
        · exact z m hm
      · intro z m hm
        exact z m (List.mem_cons_of_mem _ hm)
theorem free_iff {left : List (List Int)} {f : Int} : f ∈ frees left ↔ (∃ r, (f :: r) ∈ left) ∧ ∀ l ∈ left, f ∉ l.drop 1 := by
  constructor
  · intro h
    refine ⟨frees_mem h, ?_⟩
    unfold frees at h
    obtain ⟨l, h1, h2⟩ := List.mem_map.mp h
    obtain ⟨h3, h4⟩ := List.mem_filter.mp h1
    unfold isFree at h4
    rw [h2] at h4
    exact behind_none.mp (Option.isNone_iff_eq_none.mp (Bool.and_eq_true_iff.mp h4).2)
  · rintro ⟨⟨r, h⟩, h2⟩
    refine List.mem_map.mpr ⟨f :: r, List.mem_filter.mpr ⟨h, ?_⟩, rfl⟩
    unfold isFree
    rw [show behind ((f :: r).headD 0) 0 left = none from behind_none.mpr h2]; rfl
theorem no_R {left : List (List Int)} {f : Int} (h : ∀ l ∈ left, f ∉ l.drop 1) (a : Int) : ¬ R left a f := by
  rintro ⟨l, hl, hs⟩
  cases l with
  | nil => simp at hs
  | cons x r =>
    rcases sub2_cons.mp hs with ⟨_, hb⟩ | hb
    · exact h _ hl hb
    · exact h _ hl (hb.mem (by simp))
theorem step_R {left : List (List Int)} {f a b : Int} (ha : a ≠ f) (h : R left a b) : R (stepL f left) a b := by
  obtain ⟨l, hl, hs⟩ := h
  refine ⟨_, List.mem_map.mpr ⟨l, hl, rfl⟩, ?_⟩
  by_cases ht : l.take 1 = [f]
  · rw [if_pos ht]
    obtain ⟨r, rfl⟩ := take1_eq.mp ht
    rcases sub2_cons.mp hs with ⟨z, _⟩ | hb
    · exact absurd z ha
    · exact hb
  · rw [if_neg ht]; exact hs
theorem step_Tr {left : List (List Int)} {f : Int} (hf : ∀ l ∈ left, f ∉ l.drop 1) {a b : Int} (h : Tr left a b) (ha : a ≠ f) : Tr (stepL f left) a b := by
  induction h with
  | one h => exact .one (step_R ha h)
  | cons h _ ih => exact .cons (step_R ha h) (ih fun z => no_R hf _ (z ▸ h))
theorem step_Cyc {left : List (List Int)} {f : Int} (hf : f ∈ frees left) (h : Cyc left) : Cyc (stepL f left) := by
  have h1 := (free_iff.mp hf).2
  obtain ⟨a, h⟩ := h
  obtain ⟨c, hc⟩ := h.last
  exact ⟨a, step_Tr h1 h fun z => no_R h1 c (z ▸ hc)⟩
theorem mgo_some : ∀ (n : Nat) (left : List (List Int)) (found o : List Int) (lf : List (List Int)), total left < n → mgo n left found = (some o, lf) → ¬ Cyc left
  | 0, left, found, o, lf, h, _ => by omega
  | n + 1, left, found, o, lf, h, e => by
    rw [mgo] at e
    split at e
    · rename_i hall
      rintro ⟨a, ht⟩
      obtain ⟨c, l, hl, hs⟩ := ht.last
      have := List.all_eq_true.mp hall l hl
      cases l with
      | nil => simp at hs
      | cons _ _ => simp at this
    · split at e
      · cases e
      · rename_i f fs hf
        have hm : f ∈ frees left := by rw [hf]; exact List.mem_cons_self
        have := mgo_some n (stepL f left) _ o lf (by have := stepL_lt f left (frees_mem hm); omega) e
        exact fun z => this (step_Cyc hm z)
/-- each list is the end of its list -/
def Ends (L lf : List (List Int)) : Prop := ∀ i : Nat, ∀ l, lf[i]? = some l → ∃ p, L[i]? = some (p ++ l)
theorem Ends.refl {L : List (List Int)} : Ends L L := fun i l h => ⟨[], h⟩
theorem Ends.step {L lf : List (List Int)} (h : Ends L lf) (f : Int) : Ends L (stepL f lf) := by
  intro i l hl
  unfold stepL at hl
  rw [List.getElem?_map] at hl
  cases hi : lf[i]? with
  | none => rw [hi] at hl; cases hl
  | some m =>
    rw [hi] at hl
    obtain ⟨p, hp⟩ := h i m hi
    have hl' : (if m.take 1 = [f] then m.drop 1 else m) = l := Option.some.inj hl
    split at hl'
    · rename_i ht
      obtain ⟨r, rfl⟩ := take1_eq.mp ht
      refine ⟨p ++ [f], ?_⟩
      rw [hp, ← hl']; simp
    · exact ⟨p, by rw [hp, hl']⟩
theorem stepL_len (f : Int) (left : List (List Int)) : (stepL f left).length = left.length := by simp [stepL]
theorem mgo_none {L : List (List Int)} : ∀ (n : Nat) (left : List (List Int)) (found : List Int) (lf : List (List Int)), total left < n → Ends L left → mgo n left found = (none, lf) → Ends L lf ∧ frees lf = [] ∧ lf.all (·.isEmpty) = false ∧ lf.length = left.length
  | 0, left, found, lf, h, _, _ => by omega
  | n + 1, left, found, lf, h, he, e => by
    rw [mgo] at e
    split at e
    · cases e
    · rename_i hall
      split at e
      · rename_i hf
        cases e
        exact ⟨he, hf, by simpa using hall, rfl⟩
      · rename_i f fs hf
        have hm : f ∈ frees left := by rw [hf]; exact List.mem_cons_self
        obtain ⟨h1, h2, h3, h4⟩ := mgo_none n (stepL f left) _ lf (by have := stepL_lt f left (frees_mem hm); omega) (he.step f) e
        exact ⟨h1, h2, h3, by rw [h4, stepL_len]⟩
/-- a ring of lists: each item stands ahead of the next one in the list beside it -/
structure IsRing (L : List (List Int)) (ring : List (Int × Nat)) : Prop where
  two : 2 ≤ ring.length
  nd : (ring.map (·.1)).Nodup
  ok : ∀ k : Nat, ∀ p q, ring[k]? = some p → ring[(k + 1) % ring.length]? = some q → ∃ l, L[p.2]? = some l ∧ [p.1, q.1].Sublist l
/-- what ring_in has gone: each item is ahead of the one before it -/
def Way (lf : List (List Int)) (walk : List Int) (via : List Nat) : Prop := via.length + 1 = walk.length ∧ ∀ j : Nat, ∀ a w v, via[j]? = some a → walk[j]? = some w → walk[j + 1]? = some v → ∃ r, lf[a]? = some (v :: r) ∧ w ∈ r
theorem Way.snoc {lf : List (List Int)} {walk : List Int} {via : List Nat} (h : Way lf walk via) {v : Int} {a : Nat} (e : ∃ r, lf[a]? = some (v :: r) ∧ walk.getLastD 0 ∈ r) : Way lf (walk ++ [v]) (via ++ [a]) := by
  obtain ⟨hl, h⟩ := h
  refine ⟨by simp; omega, fun j a' w v' h1 h2 h3 => ?_⟩
  by_cases hj : j < via.length
  · rw [List.getElem?_append_left hj] at h1
    rw [List.getElem?_append_left (by omega)] at h2 h3
    exact h j a' w v' h1 h2 h3
  · have hj' : j = via.length := by
      have := (List.getElem?_eq_some_iff.mp h1).1
      simp at this; omega
    subst hj'
    simp at h1
    rw [List.getElem?_append_left (by omega)] at h2
    rw [hl] at h3
    simp at h3
    have : walk.getLastD 0 = w := by
      rw [List.getLastD_eq_getLast?, List.getLast?_eq_getElem?, show walk.length - 1 = via.length by omega, h2]; rfl
    rw [← this, ← h1, ← h3]; exact e
theorem ring_of_way {L lf : List (List Int)} (hd : ∀ l ∈ L, l.Nodup) (he : Ends L lf) {walk : List Int} {via : List Nat} (hw : Way lf walk via) (hn : walk.Nodup) {v : Int} {a : Nat} (e : ∃ r, lf[a]? = some (v :: r) ∧ walk.getLastD 0 ∈ r) (hv : v ∈ walk) :
    IsRing L ((v, a) :: (List.zip (walk.drop (walk.idxOf v + 1)) (via.drop (walk.idxOf v))).reverse) := by
  have sub : ∀ {i : Nat} {x y : Int} {r : List Int}, lf[i]? = some (x :: r) → y ∈ r → ∃ l, L[i]? = some l ∧ [x, y].Sublist l := by
    intro i x y r h1 h2
    obtain ⟨p, hp⟩ := he i _ h1
    refine ⟨_, hp, List.Sublist.trans ?_ (List.sublist_append_right p _)⟩
    exact List.Sublist.cons_cons x (List.singleton_sublist.mpr h2)
  have hx : walk.idxOf v < walk.length := List.idxOf_lt_length_of_mem hv
  have hxv : walk[walk.idxOf v] = v := List.getElem_idxOf hx
  generalize hf : walk.idxOf v = f at *
  obtain ⟨hl, hj⟩ := hw
  have hlen : (List.zip (walk.drop (f + 1)) (via.drop f)).length = via.length - f := by simp; omega
  have hne : via.length - f ≠ 0 := by
    intro z
    have hfe : f = walk.length - 1 := by omega
    obtain ⟨r, h1, h2⟩ := e
    have : walk.getLastD 0 = v := by
      rw [List.getLastD_eq_getLast?, List.getLast?_eq_getElem?, ← hfe, List.getElem?_eq_getElem hx, hxv]; rfl
    rw [this] at h2
    obtain ⟨p, hp⟩ := he _ _ h1
    have := hd _ (List.mem_of_getElem? hp)
    have := (List.nodup_append.mp this).2.1
    exact (List.nodup_cons.mp this).1 h2
  -- the k-th link
  have link : ∀ k : Nat, k < via.length - f + 1 → ((v, a) :: (List.zip (walk.drop (f + 1)) (via.drop f)).reverse)[k]? = if k = 0 then some (v, a) else some (walk.getD (walk.length - k) 0, via.getD (via.length - k) 0) := by
    intro k hk
    cases k with
    | zero => rfl
    | succ k =>
      rw [List.getElem?_cons_succ, if_neg (by omega), List.getElem?_reverse (by rw [hlen]; omega), hlen, List.getElem?_zip_eq_some.mpr]
      constructor
      · show (walk.drop (f + 1))[via.length - f - 1 - k]? = some (walk.getD (walk.length - (k + 1)) 0)
        rw [List.getElem?_drop, List.getD_eq_getElem?_getD, show f + 1 + (via.length - f - 1 - k) = walk.length - (k + 1) by omega, List.getElem?_eq_getElem (by omega)]; rfl
      · show (via.drop f)[via.length - f - 1 - k]? = some (via.getD (via.length - (k + 1)) 0)
        rw [List.getElem?_drop, List.getD_eq_getElem?_getD, show f + (via.length - f - 1 - k) = via.length - (k + 1) by omega, List.getElem?_eq_getElem (by omega)]; rfl
  have hrl : ((v, a) :: (List.zip (walk.drop (f + 1)) (via.drop f)).reverse).length = via.length - f + 1 := by simp; omega
  refine ⟨by rw [hrl]; omega, ?_, fun k p q h1 h2 => ?_⟩
  · rw [List.map_cons, List.map_reverse, List.map_fst_zip (by simp; omega), List.nodup_cons]
    refine ⟨fun z => ?_, (List.reverse_perm _).nodup_iff.mpr (hn.sublist (List.drop_sublist _ _))⟩
    have z' := List.mem_reverse.mp z
    obtain ⟨i, hi, hiv⟩ := List.getElem_of_mem z'
    rw [List.getElem_drop] at hiv
    have hi' : f + 1 + i < walk.length := by simp at hi; omega
    have hp := List.pairwise_iff_getElem.mp hn
    exact hp f (f + 1 + i) hx hi' (by omega) (by rw [hiv, hxv])
  · rw [hrl] at h2
    have hk : k < via.length - f + 1 := by
      have := (List.getElem?_eq_some_iff.mp h1).1
      rw [hrl] at this; exact this
    rw [link k hk] at h1
    have gw : ∀ i, i < walk.length → walk[i]? = some (walk.getD i 0) := fun i hi => by rw [List.getD_eq_getElem?_getD, List.getElem?_eq_getElem hi]; rfl
    have gv : ∀ i, i < via.length → via[i]? = some (via.getD i 0) := fun i hi => by rw [List.getD_eq_getElem?_getD, List.getElem?_eq_getElem hi]; rfl
    by_cases hk0 : k = 0
    · subst hk0
      rw [if_pos rfl] at h1
      cases h1
      rw [show (0 + 1) % (via.length - f + 1) = 1 from Nat.mod_eq_of_lt (by omega), link 1 (by omega), if_neg (by omega)] at h2
      cases h2
      obtain ⟨r, e1, e2⟩ := e
      refine sub e1 ?_
      have : walk.getLastD 0 = walk.getD (walk.length - 1) 0 := by
        rw [List.getLastD_eq_getLast?, List.getLast?_eq_getElem?, List.getD_eq_getElem?_getD]
      rw [← this]; exact e2
    · rw [if_neg hk0] at h1
      cases h1
      have key : ∃ r, lf[via.getD (via.length - k) 0]? = some (walk.getD (walk.length - k) 0 :: r) ∧ walk.getD (walk.length - k - 1) 0 ∈ r := by
        refine hj (via.length - k) _ _ _ (gv _ (by omega)) ?_ ?_
        · rw [show via.length - k = walk.length - k - 1 by omega]; exact gw _ (by omega)
        · rw [show via.length - k + 1 = walk.length - k by omega]; exact gw _ (by omega)
      obtain ⟨r, k1, k2⟩ := key
      by_cases hke : k + 1 = via.length - f + 1
      · rw [hke, Nat.mod_self, link 0 (by omega), if_pos rfl] at h2
        cases h2
        have : walk.getD (walk.length - k - 1) 0 = v := by
          rw [show walk.length - k - 1 = f by omega, List.getD_eq_getElem?_getD, List.getElem?_eq_getElem hx, hxv]; rfl
        rw [this] at k2
        exact sub k1 k2
      · rw [Nat.mod_eq_of_lt (by omega), link (k + 1) (by omega), if_neg (by omega)] at h2
        cases h2
        exact sub k1 k2
theorem rgo_ring {L lf : List (List Int)} (hd : ∀ l ∈ L, l.Nodup) (he : Ends L lf) (hf : frees lf = []) : ∀ (n : Nat) (walk : List Int) (via : List Nat), walk.Nodup → (∀ w ∈ walk, w ∈ heads lf) → walk ≠ [] → Way lf walk via → lf.length < n + walk.length → IsRing L (rgo lf n walk via)
  | 0, walk, via, hn, hh, h0, _, hlt => by
    have := List.Nodup.length_le_of_subset hn (fun w hw => hh w hw)
    have := heads_len lf
    omega
  | n + 1, walk, via, hn, hh, h0, hw, hlt => by
    have hlast : walk.getLastD 0 ∈ walk := by
      rw [List.getLastD_eq_getLast?]
      cases hg : walk.getLast? with
      | none => rw [List.getLast?_eq_none_iff] at hg; exact absurd hg h0
      | some z => exact List.mem_of_getLast? hg
    have e := stuck_head hf (hh _ hlast)
    rw [rgo]
    by_cases hin : aheadOf lf (walk.getLastD 0) ∈ walk
    · show IsRing L (if aheadOf lf (walk.getLastD 0) ∈ walk then _ else _)
      rw [if_pos hin]
      exact ring_of_way hd he hw hn e hin
    · show IsRing L (if aheadOf lf (walk.getLastD 0) ∈ walk then _ else _)
      rw [if_neg hin]
      refine rgo_ring hd he hf n _ _ ?_ ?_ (by simp) (hw.snoc e) (by simp; omega)
      · rw [List.nodup_append]
        exact ⟨hn, by simp, fun a ha b hb e => by rw [List.mem_singleton.mp hb] at e; rw [e] at ha; exact hin ha⟩
      · intro w hw'
        rcases List.mem_append.mp hw' with h' | h'
        · exact hh w h'
        · rw [List.mem_singleton.mp h']; exact ahead_head hf (hh _ hlast)
theorem merged_ring {L lf : List (List Int)} (hd : ∀ l ∈ L, l.Nodup) (hl : L.length ≤ 30) (e : merged L = (none, lf)) : IsRing L (ringOf lf) := by
  unfold merged at e
  obtain ⟨he, hf, hne, hlen⟩ := mgo_none (total L + 1) L [] lf (by omega) Ends.refl e
  have hs : startW lf ∈ heads lf := by
    obtain ⟨l, hl, h2⟩ := List.all_eq_false.mp hne
    cases l with
    | nil => simp at h2
    | cons a r =>
      have := mem_heads.mpr ⟨r, hl⟩
      have e : startW lf = (heads lf).headD 0 := rfl
      rw [e]
      cases hz : heads lf with
      | nil => rw [hz] at this; cases this
      | cons z zs => exact List.mem_cons_self
  exact rgo_ring hd he hf 100 [startW lf] [] (by simp) (fun w hw => by rw [List.mem_singleton.mp hw]; exact hs) (by simp) ⟨rfl, fun j a w v h => by simp at h⟩ (by simp; omega)
theorem IsRing.step {L : List (List Int)} {ring : List (Int × Nat)} (h : IsRing L ring) {k : Nat} {p q : Int × Nat} (h1 : ring[k]? = some p) (h2 : ring[(k + 1) % ring.length]? = some q) : R L p.1 q.1 := by
  obtain ⟨l, hl, hs⟩ := h.ok k p q h1 h2
  exact ⟨l, List.mem_of_getElem? hl, hs⟩
theorem IsRing.cyc {L : List (List Int)} {ring : List (Int × Nat)} (h : IsRing L ring) : Cyc L := by
  have h2 := h.two
  have e0 : ring[0]? = some ring[0] := List.getElem?_eq_getElem (by omega)
  have go : ∀ k : Nat, 0 < k → (hk : k < ring.length) → Tr L ring[0].1 (ring[k]'hk).1 := by
    intro k
    induction k with
    | zero => intro h; omega
    | succ k ih =>
      intro _ hk
      have s : R L (ring[k]'(by omega)).1 (ring[k + 1]'hk).1 := h.step (k := k) (List.getElem?_eq_getElem (by omega)) (by rw [Nat.mod_eq_of_lt hk]; exact List.getElem?_eq_getElem hk)
      by_cases hk0 : k = 0
      · subst hk0; exact .one s
      · exact (ih (by omega) (by omega)).trans (.one s)
  have s : R L (ring[ring.length - 1]'(by omega)).1 ring[0].1 := h.step (k := ring.length - 1) (List.getElem?_eq_getElem (by omega)) (by rw [show ring.length - 1 + 1 = ring.length by omega, Nat.mod_self]; exact e0)
  exact ⟨_, (go (ring.length - 1) (by omega) (by omega)).trans (.one s)⟩
/-- there is a ring exactly if some item comes round -/
theorem merged_none_iff {L : List (List Int)} (hd : ∀ l ∈ L, l.Nodup) (hl : L.length ≤ 30) : (merged L).1 = none ↔ Cyc L := by
  cases e : merged L with
  | mk o lf =>
    cases o with
    | none => exact ⟨fun _ => (merged_ring hd hl e).cyc, fun _ => rfl⟩
    | some o => exact ⟨fun z => (by cases z), fun z => absurd z (mgo_some _ L [] o lf (by omega) e)⟩
/-! ### the law's own merge -/
def lfree (left : List (List Int)) : List Int := (left.filter fun l => left.all fun o => !decide (l.headD 0 ∈ o.drop 1)).map (·.headD 0)
def lstep (f : Int) (left : List (List Int)) : List (List Int) := (left.map fun l => l.filter (· != f)).filter fun l => !l.isEmpty
def lgo : Nat → List (List Int) → List Int → Option (List Int)
  | 0, _, found => some found
  | n + 1, left, found => if left = [] then some found else match lfree left with
    | [] => none
    | f :: _ => lgo n (lstep f left) (found ++ [f])
def ne (left : List (List Int)) : List (List Int) := left.filter fun l => !l.isEmpty
theorem ne_nil {left : List (List Int)} : ne left = [] ↔ left.all (·.isEmpty) = true := by
  unfold ne; rw [List.filter_eq_nil_iff, List.all_eq_true]; simp
theorem lfree_eq (left : List (List Int)) : lfree (ne left) = frees left := by
  unfold lfree frees ne
  rw [List.filter_filter]
  congr 1
  refine List.filter_congr fun l hl => ?_
  unfold isFree
  cases l with
  | nil => simp
  | cons a r =>
    have e : (behind ((a :: r).headD 0) 0 left).isNone = (left.all fun o => !decide (a ∈ o.drop 1)) := by
      rw [Bool.eq_iff_iff, Option.isNone_iff_eq_none, behind_none]
      simp
    rw [e]
    simp only [List.headD_cons, List.isEmpty_cons, Bool.not_false, Bool.and_true, Bool.true_and]
    rw [Bool.eq_iff_iff]
    simp only [List.all_eq_true, List.mem_filter]
    constructor
    · intro h o ho
      cases o with
      | nil => simp
      | cons b s => exact h _ ⟨ho, rfl⟩
    · intro h o ho; exact h o ho.1
theorem lstep_eq {left : List (List Int)} (hd : ∀ l ∈ left, l.Nodup) {f : Int} (hf : ∀ l ∈ left, f ∉ l.drop 1) : lstep f (ne left) = ne (stepL f left) := by
  have e : ∀ l ∈ left, l.filter (· != f) = if l.take 1 = [f] then l.drop 1 else l := by
    intro l hl
    have h1 := hf l hl
    cases l with
    | nil => simp
    | cons a r =>
      have hr : r.filter (· != f) = r := List.filter_eq_self.mpr fun x hx => by
        have : x ≠ f := fun z => h1 (z ▸ hx)
        simpa using this
      by_cases ha : a = f
      · subst ha; simpa using hr
      · simp [ha, hr]
  unfold lstep ne stepL
  clear hd
  induction left with
  | nil => rfl
  | cons l left ih =>
    have ih := ih (fun m hm => hf m (List.mem_cons_of_mem _ hm)) (fun m hm => e m (List.mem_cons_of_mem _ hm))
    have el := e l List.mem_cons_self
    cases l with
    | nil => simpa using ih
    | cons a r =>
      rw [List.filter_cons_of_pos (by rfl), List.map_cons, List.map_cons, el, List.filter_cons, List.filter_cons, ih]
theorem stepL_nodup {left : List (List Int)} (hd : ∀ l ∈ left, l.Nodup) (f : Int) : ∀ l ∈ stepL f left, l.Nodup := by
  intro l hl
  obtain ⟨m, hm, rfl⟩ := List.mem_map.mp hl
  show List.Nodup (if _ then _ else _)
  split
  · exact (hd m hm).sublist (List.drop_sublist _ _)
  · exact hd m hm
theorem lgo_eq : ∀ (n : Nat) (left : List (List Int)) (found : List Int), (∀ l ∈ left, l.Nodup) → lgo n (ne left) found = (mgo n left found).1
  | 0, left, found, _ => rfl
  | n + 1, left, found, hd => by
    rw [lgo, mgo]
    by_cases h : left.all (·.isEmpty) = true
    · rw [if_pos h, if_pos (ne_nil.mpr h)]
    · rw [if_neg h, if_neg (fun z => h (ne_nil.mp z)), lfree_eq]
      cases hf : frees left with
      | nil => rfl
      | cons f fs =>
        have hm : f ∈ frees left := by rw [hf]; exact List.mem_cons_self
        show lgo n (lstep f (ne left)) _ = (mgo n (stepL f left) _).1
        rw [lstep_eq hd (free_iff.mp hm).2]
        exact lgo_eq n _ _ (stepL_nodup hd f)
def lmerged (L : List (List Int)) : Option (List Int) := lgo (total L + 1) (ne L) []
theorem lmerged_eq {L : List (List Int)} (hd : ∀ l ∈ L, l.Nodup) : lmerged L = (merged L).1 := lgo_eq _ L [] hd
end Pg

/-! Ld2: k01's lists of items. -/
namespace Ld
open PySem Ip
def _law_items_e1 : CE := (.bin .Sub (.bin .Mult (.slot 3) (.call "_law_pick" [(.slot 0), (.lst [(.lit (.int 1)), (.lit (.int 7))])])) (.bin .Mult (.call "_law_draw" [(.slot 0), (.lit (.int 3))]) (.lit (.int 100))))
def _law_items_w2 : List CS := [.expr (.app (.slot 4) (.pop1 (.slot 2) (.call "_law_draw" [(.slot 0), (.bi .len (.slot 2))])))]
def _law_items_c : List CS := [.asg (.own 2) (.lc _law_items_e1 (.name 3) (.rng1 (.slot 1)) none [("_law_k", 3)]), .asg (.own 2) (.bi .sortedSet (.bin .Add (.slot 2) (.lst [(.bin .Pow (.lit (.int 10)) (.lit (.int 30))), (.bin .Sub (.lit (.int 0)) (.bin .Pow (.lit (.int 10)) (.lit (.int 20))))]))), .asg (.own 4) (.lst []), .whl 100000 (.cmp .NotEq (.slot 2) (.lst [])) _law_items_w2, .ret (.move 4)]
def _law_items_d : FnDef := ⟨"_law_items", 2, ["_law_source_here", "_law_count", "_law_left", "_law_k", "_law_found"], _law_items_c⟩
def _law_some_e1 : CE := (.slot 3)
def _law_some_i2 : CE := (.cmp .Lt (.call "_law_draw" [(.slot 0), (.lit (.int 4))]) (.slot 2))
def _law_some_c : List CS := [.asg (.tgt (.name 2)) (.bin .Add (.lit (.int 1)) (.call "_law_draw" [(.slot 0), (.lit (.int 4))])), .ret (.lc _law_some_e1 (.name 3) (.it (.slot 1)) (some _law_some_i2) [("_law_item", 3)])]
def _law_some_d : FnDef := ⟨"_law_some", 2, ["_law_source_here", "_law_items_here", "_law_share", "_law_item"], _law_some_c⟩
def _law_turned_c : List CS := [.asg (.own 2) (.bi .list (.slot 1)), .ite (.cmp .Gt (.bi .len (.slot 2)) (.lit (.int 1))) [.asg (.tgt (.name 3)) (.call "_law_draw" [(.slot 0), (.bin .Sub (.bi .len (.slot 2)) (.lit (.int 1)))]), .asg (.tgt (.name 4)) (.call "_law_pick" [(.slot 0), (.lst [(.bin .Add (.slot 3) (.lit (.int 1))), (.call "_law_draw" [(.slot 0), (.bi .len (.slot 2))])])]), .swap (.slot 2) (.slot 3) (.slot 2) (.slot 4) (.sub (.slot 2) (.slot 4)) (.sub (.slot 2) (.slot 3))] [], .ret (.move 2)]
def _law_turned_d : FnDef := ⟨"_law_turned", 2, ["_law_source_here", "_law_items_here", "_law_found", "_law_at", "_law_other"], _law_turned_c⟩
def _law_lists_b1 : List CS := [.asg (.tgt (.name 6)) (.call "_law_some" [(.slot 0), (.slot 2)]), .ite (.boo .Or [(.boo .And [(.cmp .Eq (.slot 3) (.lit (.int 1))), (.cmp .Eq (.slot 5) (.lit (.int 1)))]), (.boo .And [(.cmp .Eq (.slot 3) (.lit (.int 2))), (.cmp .Eq (.call "_law_draw" [(.slot 0), (.lit (.int 4))]) (.lit (.int 0)))])]) [.asg (.tgt (.name 6)) (.call "_law_turned" [(.slot 0), (.slot 6)])] [], .ite (.cmp .Eq (.slot 3) (.lit (.int 3))) [.asg (.tgt (.name 6)) (.call "_law_some" [(.slot 0), (.call "_law_items" [(.slot 0), (.lit (.int 5))])])] [], .expr (.app (.slot 4) (.slot 6))]
def _law_lists_c : List CS := [.asg (.tgt (.name 2)) (.call "_law_items" [(.slot 0), (.bin .Add (.lit (.int 1)) (.call "_law_draw" [(.slot 0), (.lit (.int 10))]))]), .asg (.tgt (.name 3)) (.call "_law_draw" [(.slot 0), (.lit (.int 4))]), .asg (.own 4) (.lst []), .for (.name 5) (.rng1 (.call "_law_draw" [(.slot 0), (.bin .Add (.slot 1) (.lit (.int 1)))])) _law_lists_b1, .ret (.move 4)]
def _law_lists_d : FnDef := ⟨"_law_lists", 2, ["_law_source_here", "_law_most", "_law_items_here", "_law_way", "_law_found", "_law_k", "_law_some_here"], _law_lists_c⟩
section
variable {G : Prog} {n : Nat} {h : IHeap}
structure LdB (G : Prog) : Prop where
  c : G.fn "_law_cell_at" = some _law_cell_at_d
  s : G.fn "_law_source" = some _law_source_d
  d : G.fn "_law_draw" = some _law_draw_d
  p : G.fn "_law_pick" = some _law_pick_d
structure LdFns (G : Prog) : Prop extends LdB G where
  i : G.fn "_law_items" = some _law_items_d
  o : G.fn "_law_some" = some _law_some_d
  t : G.fn "_law_turned" = some _law_turned_d
  l : G.fn "_law_lists" = some _law_lists_d
/-- a draw, as a step -/
theorem wp_drawB {Q : RV → IHeap → Prop} {E : XPost} {s N m : Nat} {i : Int} (F : LdB G) (hs : Src s N h) (hi : i = (m : Int)) (hm : 0 < m) (hm2 : m < 1073741824) (hN : N ≤ 1000000000000)
    (k : ∀ (d : Nat) h', d < m → Src s (N + 1) h' → Oth s h h' → Q (.v (.int d)) h') : (callF G (n + 1) "_law_draw" [.ref s, .int i] h).wp Q E := by
  subst hi
  obtain ⟨d, h', h1, h2, h3, e⟩ := draw_ok (n := n) F.d h s N m hs hm hm2 hN
  rw [e, COut.wp_ok]; exact k d h' h1 h2 h3
theorem wp_pickB {Q : RV → IHeap → Prop} {E : XPost} {s N : Nat} {xs : List IV} (F : LdB G) (hs : Src s N h) (hN : N ≤ 1000000000000) (hx : xs ≠ []) (hl : xs.length < 1073741824) (hst : ∀ x ∈ xs, stor x = true)
    (k : ∀ x h', x ∈ xs → Src s (N + 1) h' → Oth s h h' → Q (.v x) h') : (callF G (n + 2) "_law_pick" [.ref s, .lst xs] h).wp Q E := by
  obtain ⟨x, h', h1, h2, h3, e⟩ := pick_ok (n := n + 1) F.p (draw_ok F.d) hs hN hx hl hst
  rw [e, COut.wp_ok]; exact k x h' h1 h2 h3
theorem wp_draw {Q : RV → IHeap → Prop} {E : XPost} {s N m : Nat} {i : Int} (F : LdFns G) (hs : Src s N h) (hi : i = (m : Int)) (hm : 0 < m) (hm2 : m < 1073741824) (hN : N ≤ 1000000000000)
    (k : ∀ (d : Nat) h', d < m → Src s (N + 1) h' → Oth s h h' → Q (.v (.int d)) h') : (callF G (n + 1) "_law_draw" [.ref s, .int i] h).wp Q E := wp_drawB F.toLdB hs hi hm hm2 hN k
theorem wp_pick {Q : RV → IHeap → Prop} {E : XPost} {s N : Nat} {xs : List IV} (F : LdFns G) (hs : Src s N h) (hN : N ≤ 1000000000000) (hx : xs ≠ []) (hl : xs.length < 1073741824) (hst : ∀ x ∈ xs, stor x = true)
    (k : ∀ x h', x ∈ xs → Src s (N + 1) h' → Oth s h h' → Q (.v x) h') : (callF G (n + 2) "_law_pick" [.ref s, .lst xs] h).wp Q E := wp_pickB F.toLdB hs hN hx hl hst k
@[irreducible] def bigA : Int := 10 ^ 30
@[irreducible] def bigB : Int := 10 ^ 20
theorem big_ab : 300 ≤ bigB ∧ bigB ≤ bigA := by unfold bigA bigB; constructor <;> decide +kernel
def big (x : Int) : Prop := -bigA ≤ x ∧ x ≤ bigA
theorem items_ok {Q : RV → IHeap → Prop} {E : XPost} {s N c : Nat} {i : Int} (F : LdFns G) (hs : Src s N h) (hN : N ≤ 100000000000) (hi : i = (c : Int)) (hc : c ≤ 20)
    (k : ∀ (l : List Int) h', l.Nodup → l.length ≤ c + 2 → (∀ x ∈ l, big x) → Src s (N + 100) h' → Oth s h h' → Q (.fr (.lst (l.map .int))) h') : (callF G (n + 3) "_law_items" [.ref s, .int i] h).wp Q E := by
  subst hi
  refine wp_fn F.i rfl ?_
  simp (disch := omega) [small_t, i64_t, i62_t, ixN_nat, atI_lt, atI_map, map_erase, List.getElem?_cons_zero, List.getElem?_eq_getElem, and_assoc, ← List.map_tail, ← List.map_drop, ← List.map_take, _law_items_d, _law_items_c, startI, -Int.reducePow]
  refine wp_lc (fun k : Nat => .int (k : Nat)) (List.range c) (fun pre acc h2 => ∃ l : List Int, acc = l.map .int ∧ (∀ x ∈ l, -300 ≤ x ∧ x ≤ 300) ∧ l.length = pre.length ∧ Src s (N + 2 * pre.length) h2 ∧ Oth s h h2) ?_ rfl ?_ ?_
  · intro J hJ
    simp (disch := omega) [small_t, i64_t, i62_t, ixN_nat, atI_lt, atI_map, map_erase, List.getElem?_cons_zero, List.getElem?_eq_getElem, and_assoc, ← List.map_tail, ← List.map_drop, ← List.map_take, range0_eq]
    exact hJ _ ⟨[], rfl, by simp, rfl, hs, .refl⟩
  · rintro k pre acc h2 J hk ⟨l, rfl, hl, hlen, hs2, ho2⟩ hp ha hJ
    have hk' : k < c := by simpa using hk
    simp at hp
    refine ⟨[.val (.ref s), .val (.int c), .un, .val (.int k), .un], by simp, by simp, ?_⟩
    simp (disch := omega) [small_t, i64_t, i62_t, ixN_nat, atI_lt, atI_map, map_erase, List.getElem?_cons_zero, List.getElem?_eq_getElem, and_assoc, ← List.map_tail, ← List.map_drop, ← List.map_take, _law_items_e1]
    refine wp_pick F hs2 (by omega) (by simp) (by simp) (by simp) fun x h3 hx hs3 ho3 => ?_
    have hx' : ∃ p : Int, x = .int p ∧ 1 ≤ p ∧ p ≤ 7 := by
      rcases List.mem_cons.mp hx with rfl | hx
      · exact ⟨1, rfl, by omega, by omega⟩
      · rw [List.mem_singleton.mp hx]; exact ⟨7, rfl, by omega, by omega⟩
    obtain ⟨p, rfl, p1, p2⟩ := hx'
    simp (disch := omega) [small_t, i64_t, i62_t, ixN_nat, atI_lt, atI_map, map_erase, List.getElem?_cons_zero, List.getElem?_eq_getElem, and_assoc, ← List.map_tail, ← List.map_drop, ← List.map_take]
    refine wp_draw F hs3 (m := 3) rfl (by omega) (by omega) (by omega) fun d h4 hd hs4 ho4 => ?_
    simp (disch := omega) [small_t, i64_t, i62_t, ixN_nat, atI_lt, atI_map, map_erase, List.getElem?_cons_zero, List.getElem?_eq_getElem, and_assoc, ← List.map_tail, ← List.map_drop, ← List.map_take]
    refine hJ _ _ ⟨l ++ [(k : Int) * p - d * 100], by simp, fun x hx => ?_, by simp [hlen], hs4.mono (by simp; omega), ho2.trans (ho3.trans ho4)⟩
    rcases List.mem_append.mp hx with hx | hx
    · exact hl x hx
    · rw [List.mem_singleton.mp hx]
      have : (k : Int) * p ≤ 20 * 7 := Int.mul_le_mul (by omega) p2 (by omega) (by omega)
      have : 0 ≤ (k : Int) * p := Int.mul_nonneg (by omega) (by omega)
      omega
  · rintro ys h2 ⟨l, rfl, hl, hlen, hs2, ho2⟩ _
    simp at hlen hs2
    have q1 : (10 : Int) ^ 30 = bigA := by unfold bigA; rfl
    have q2 : (10 : Int) ^ 20 = bigB := by unfold bigB; rfl
    have q6 : (firsts (l ++ [bigA, -bigB])).length < 64 := by
      have := firsts_len (l ++ [bigA, -bigB])
      simp at this; omega
    have q7 : l.length + 2 < 4000 := by omega
    have q9 := big_ab
    simp (disch := omega) [small_t, i64_t, i62_t, ixN_nat, atI_lt, atI_map, map_erase, List.getElem?_cons_zero, List.getElem?_eq_getElem, and_assoc, ← List.map_tail, ← List.map_drop, ← List.map_take, q1, q2, q6, q7, -Int.reducePow]
    have hp := sortI_perm (firsts (l ++ [bigA, -bigB]))
    have hlen2 := firsts_len (l ++ [bigA, -bigB])
    have hnd := firsts_nodup (l ++ [bigA, -bigB])
    have hmem := firsts_mem (l ++ [bigA, -bigB])
    generalize firsts (l ++ [bigA, -bigB]) = fi at *
    generalize sortI fi = so at *
    have hso : so.Nodup := hp.nodup_iff.mpr hnd
    have hsl : so.length ≤ c + 2 := by rw [hp.length_eq]; simp at hlen2; omega
    have hsb : ∀ x ∈ so, big x := fun x hx => by
      have := (hmem x).mp (hp.mem_iff.mp hx)
      rcases List.mem_append.mp this with h' | h'
      · have := hl x h'; unfold big; omega
      · simp at h'
        rcases h' with rfl | rfl <;> unfold big <;> omega
    refine wpS_whlI (fun m st => ∃ (l1 l2 : List Int) (h3 : IHeap) (x : Slot), st = ⟨[.val (.ref s), .val (.int c), .own (.lst (l1.map .int)), x, .own (.lst (l2.map .int))], h3⟩ ∧ m = l1.length ∧ (l1 ++ l2).Perm so ∧ Src s (N + 50 + l2.length) h3 ∧ Oth s h h3) so.length ⟨so, [], h2, .un, rfl, rfl, by simp, hs2.mono (by simp; omega), ho2⟩ (Nat.lt_of_le_of_lt hsl (by omega)) ?_
    rintro m st J ⟨l1, l2, h3, x, rfl, rfl, pe, hs3, ho3⟩ hJ
    have e0 := pe.length_eq
    simp at e0
    simp (disch := omega) [small_t, i64_t, i62_t, ixN_nat, atI_lt, atI_map, map_erase, List.getElem?_cons_zero, List.getElem?_eq_getElem, and_assoc, ← List.map_tail, ← List.map_drop, ← List.map_take]
    by_cases hl1 : l1 = []
    · subst hl1
      simp at pe e0
      simp
      exact k l2 h3 (pe.nodup_iff.mpr hso) (by omega) (fun x hx => hsb x (pe.mem_iff.mp hx)) (hs3.mono (by omega)) ho3
    · have h0 : 0 < l1.length := List.length_pos_iff.mpr hl1
      simp (disch := omega) [small_t, i64_t, i62_t, ixN_nat, atI_lt, atI_map, map_erase, List.getElem?_cons_zero, List.getElem?_eq_getElem, and_assoc, ← List.map_tail, ← List.map_drop, ← List.map_take, hl1, _law_items_w2]
      refine wp_draw F hs3 rfl h0 (by omega) (by omega) fun d h4 hd hs4 ho4 => ?_
      simp (disch := omega) [small_t, i64_t, i62_t, ixN_nat, atI_lt, atI_map, map_erase, List.getElem?_cons_zero, List.getElem?_eq_getElem, and_assoc, ← List.map_tail, ← List.map_drop, ← List.map_take]
      have hpe : (l1.eraseIdx d ++ (l2 ++ [l1[d]])).Perm so := by
        refine List.Perm.trans ?_ pe
        have := (erase_perm l1 d hd).append_right l2
        refine List.Perm.trans ?_ this
        rw [← List.append_assoc, List.cons_append]
        exact List.perm_append_singleton _ _
      refine hJ (l1.length - 1) _ (by omega) ⟨l1.eraseIdx d, l2 ++ [l1[d]], h4, _, by simp; rfl, (by rw [List.length_eraseIdx_of_lt hd]), hpe, hs4.mono (by simp; omega), ho3.trans ho4⟩
abbrev iL (l : List Int) : IV := .lst (l.map .int)
theorem some_ok {Q : RV → IHeap → Prop} {E : XPost} {s N : Nat} (F : LdFns G) (hs : Src s N h) (hN : N ≤ 100000000000) {l : List Int} (hl : l.length ≤ 30)
    (k : ∀ (m : List Int) h', m.Sublist l → Src s (N + 40) h' → Oth s h h' → Q (.fr (iL m)) h') : (callF G (n + 3) "_law_some" [.ref s, iL l] h).wp Q E := by
  refine wp_fn F.o rfl ?_
  simp (disch := omega) [small_t, i64_t, i62_t, ixN_nat, atI_lt, atI_map, map_erase, List.getElem?_cons_zero, List.getElem?_eq_getElem, and_assoc, ← List.map_tail, ← List.map_drop, ← List.map_take, _law_some_d, _law_some_c, startI, iL]
  refine wp_draw F hs (m := 4) rfl (by omega) (by omega) (by omega) fun d h1 hd hs1 ho1 => ?_
  simp (disch := omega) [small_t, i64_t, i62_t, ixN_nat, atI_lt, atI_map, map_erase, List.getElem?_cons_zero, List.getElem?_eq_getElem, and_assoc, ← List.map_tail, ← List.map_drop, ← List.map_take]
  refine wp_lc IV.int l (fun pre acc h2 => ∃ m : List Int, acc = m.map .int ∧ m.Sublist pre ∧ Src s (N + 1 + pre.length) h2 ∧ Oth s h h2) ?_ rfl ?_ ?_
  · intro J hJ
    simp (disch := omega) [small_t, i64_t, i62_t, ixN_nat, atI_lt, atI_map, map_erase, List.getElem?_cons_zero, List.getElem?_eq_getElem, and_assoc, ← List.map_tail, ← List.map_drop, ← List.map_take]
    exact hJ _ ⟨[], rfl, .slnil, hs1, ho1⟩
  · rintro x pre acc h2 J hx ⟨m, rfl, hm, hs2, ho2⟩ hp ha hJ
    simp at ha
    refine ⟨[.val (.ref s), .val (.lst (l.map .int)), .val (.int (1 + d)), .val (.int x)], by simp, by simp, ?_⟩
    simp (disch := omega) [small_t, i64_t, i62_t, ixN_nat, atI_lt, atI_map, map_erase, List.getElem?_cons_zero, List.getElem?_eq_getElem, and_assoc, ← List.map_tail, ← List.map_drop, ← List.map_take, _law_some_i2, _law_some_e1]
    refine wp_draw F hs2 (m := 4) rfl (by omega) (by omega) (by omega) fun d2 h3 hd2 hs3 ho3 => ?_
    by_cases hc : (d2 : Int) < 1 + d
    · simp (disch := omega) [small_t, i64_t, i62_t, ixN_nat, atI_lt, atI_map, map_erase, List.getElem?_cons_zero, List.getElem?_eq_getElem, and_assoc, ← List.map_tail, ← List.map_drop, ← List.map_take, hc]
      refine hJ _ _ ?_
      exact ⟨m ++ [x], by simp, hm.append (List.Sublist.refl _), hs3.mono (by simp; omega), ho2.trans ho3⟩
    · simp (disch := omega) [small_t, i64_t, i62_t, ixN_nat, atI_lt, atI_map, map_erase, List.getElem?_cons_zero, List.getElem?_eq_getElem, and_assoc, ← List.map_tail, ← List.map_drop, ← List.map_take, hc]
      refine hJ _ _ ?_
      exact ⟨m, rfl, hm.trans (List.sublist_append_left _ _), hs3.mono (by simp; omega), ho2.trans ho3⟩
  · rintro ys h2 ⟨m, rfl, hm, hs2, ho2⟩ _
    simp (disch := omega) [small_t, i64_t, i62_t, ixN_nat, atI_lt, atI_map, map_erase, List.getElem?_cons_zero, List.getElem?_eq_getElem, and_assoc, ← List.map_tail, ← List.map_drop, ← List.map_take]
    exact k m h2 hm (hs2.mono (by omega)) ho2
theorem turned_ok {Q : RV → IHeap → Prop} {E : XPost} {s N : Nat} (F : LdFns G) (hs : Src s N h) (hN : N ≤ 100000000000) {l : List Int} (hl : l.length ≤ 30)
    (k : ∀ (m : List Int) h', m.Perm l → Src s (N + 10) h' → Oth s h h' → Q (.fr (iL m)) h') : (callF G (n + 3) "_law_turned" [.ref s, iL l] h).wp Q E := by
  refine wp_fn F.t rfl ?_
  by_cases h1 : 1 < (l.length : Int)
  · simp (disch := omega) [small_t, i64_t, i62_t, ixN_nat, atI_lt, atI_map, map_erase, List.getElem?_cons_zero, List.getElem?_eq_getElem, and_assoc, ← List.map_tail, ← List.map_drop, ← List.map_take, _law_turned_d, _law_turned_c, startI, iL, h1]
    refine wp_draw F hs (m := l.length - 1) (by omega) (by omega) (by omega) (by omega) fun d h1 hd hs1 ho1 => ?_
    simp (disch := omega) [small_t, i64_t, i62_t, ixN_nat, atI_lt, atI_map, map_erase, List.getElem?_cons_zero, List.getElem?_eq_getElem, and_assoc, ← List.map_tail, ← List.map_drop, ← List.map_take]
    refine wp_draw F hs1 (m := l.length) rfl (by omega) (by omega) (by omega) fun d2 h2 hd2 hs2 ho2 => ?_
    simp (disch := omega) [small_t, i64_t, i62_t, ixN_nat, atI_lt, atI_map, map_erase, List.getElem?_cons_zero, List.getElem?_eq_getElem, and_assoc, ← List.map_tail, ← List.map_drop, ← List.map_take]
    refine wp_pick F hs2 (by omega) (by simp) (by simp) (by simp) fun x h3 hx hs3 ho3 => ?_
    have hx' : ∃ p : Nat, x = .int p ∧ p < l.length := by
      rcases List.mem_cons.mp hx with rfl | hx
      · exact ⟨d + 1, rfl, by omega⟩
      · rw [List.mem_singleton.mp hx]; exact ⟨d2, rfl, hd2⟩
    obtain ⟨p, rfl, hp⟩ := hx'
    simp (disch := omega) [small_t, i64_t, i62_t, ixN_nat, atI_lt, atI_map, map_erase, List.getElem?_cons_zero, List.getElem?_eq_getElem, and_assoc, ← List.map_tail, ← List.map_drop, ← List.map_take]
    simpa [iL] using k ((l.set d l[p]).set p l[d]) h3 (List.set_set_perm _ _) (hs3.mono (by omega)) (ho1.trans (ho2.trans ho3))
  · simp (disch := omega) [small_t, i64_t, i62_t, ixN_nat, atI_lt, atI_map, map_erase, List.getElem?_cons_zero, List.getElem?_eq_getElem, and_assoc, ← List.map_tail, ← List.map_drop, ← List.map_take, _law_turned_d, _law_turned_c, startI, iL, h1]
    exact k l h (.refl _) (hs.mono (by omega)) .refl
structure Item12 (l : List Int) : Prop where
  d : l.Nodup
  n : l.length ≤ 12
  b : ∀ x ∈ l, big x
theorem Item12.sub {l m : List Int} (h : Item12 l) (s : m.Sublist l) : Item12 m := ⟨h.d.sublist s, Nat.le_trans s.length_le h.n, fun x hx => h.b x (s.mem hx)⟩
theorem Item12.perm {l m : List Int} (h : Item12 l) (s : m.Perm l) : Item12 m := ⟨s.nodup_iff.mpr h.d, by rw [s.length_eq]; exact h.n, fun x hx => h.b x (s.mem_iff.mp hx)⟩
theorem lists_ok {Q : RV → IHeap → Prop} {E : XPost} {s N most : Nat} (F : LdFns G) (hs : Src s N h) (hN : N ≤ 10000000000) (hm : most ≤ 8)
    (k : ∀ (L : List (List Int)) h', L.length ≤ most → (∀ l ∈ L, Item12 l) → (∃ U : List Int, U.Nodup ∧ U.length ≤ 63 ∧ ∀ l ∈ L, ∀ x ∈ l, x ∈ U) → Src s (N + 10000) h' → Oth s h h' → Q (.fr (.lst (L.map iL))) h') : (callF G (n + 4) "_law_lists" [.ref s, .int most] h).wp Q E := by
  refine wp_fn F.l rfl ?_
  simp (disch := omega) [small_t, i64_t, i62_t, ixN_nat, atI_lt, atI_map, map_erase, List.getElem?_cons_zero, List.getElem?_eq_getElem, and_assoc, ← List.map_tail, ← List.map_drop, ← List.map_take, _law_lists_d, _law_lists_c, startI]
  refine wp_draw F hs (m := 10) rfl (by omega) (by omega) (by omega) fun d h1 hd hs1 ho1 => ?_
  simp (disch := omega) [small_t, i64_t, i62_t, ixN_nat, atI_lt, atI_map, map_erase, List.getElem?_cons_zero, List.getElem?_eq_getElem, and_assoc, ← List.map_tail, ← List.map_drop, ← List.map_take]
  refine items_ok F hs1 (c := 1 + d) (by omega) (by omega) (by omega) fun l h2 l1 l2 l3 hs2 ho2 => ?_
  have hl : Item12 l := ⟨l1, by omega, l3⟩
  simp (disch := omega) [small_t, i64_t, i62_t, ixN_nat, atI_lt, atI_map, map_erase, List.getElem?_cons_zero, List.getElem?_eq_getElem, and_assoc, ← List.map_tail, ← List.map_drop, ← List.map_take]
  refine wp_draw F hs2 (m := 4) rfl (by omega) (by omega) (by omega) fun way h3 hw hs3 ho3 => ?_
  simp (disch := omega) [small_t, i64_t, i62_t, ixN_nat, atI_lt, atI_map, map_erase, List.getElem?_cons_zero, List.getElem?_eq_getElem, and_assoc, ← List.map_tail, ← List.map_drop, ← List.map_take]
  refine wpS_forE (fun k : Nat => .int (k : Nat)) (fun as => as.length ≤ most) (fun pre st => ∃ (L : List (List Int)) (h2 : IHeap) (a b : Slot), st = ⟨[.val (.ref s), .val (.int most), .val (iL l), .val (.int way), .own (.lst (L.map iL)), a, b], h2⟩ ∧ L.length = pre.length ∧ (∀ m ∈ L, Item12 m ∧ (way = 3 → m.length ≤ 7) ∧ (way ≠ 3 → ∀ x ∈ m, x ∈ l)) ∧ Src s (N + 200 + 500 * pre.length) h2 ∧ Oth s h h2) ?_ ?_ ?_
  · intro J hJ
    simp (disch := omega) [small_t, i64_t, i62_t, ixN_nat, atI_lt, atI_map, map_erase, List.getElem?_cons_zero, List.getElem?_eq_getElem, and_assoc, ← List.map_tail, ← List.map_drop, ← List.map_take]
    refine wp_draw F hs3 (m := most + 1) (by omega) (by omega) (by omega) (by omega) fun d h4 hd hs4 ho4 => ?_
    simp (disch := omega) [small_t, i64_t, i62_t, ixN_nat, atI_lt, atI_map, map_erase, List.getElem?_cons_zero, List.getElem?_eq_getElem, and_assoc, ← List.map_tail, ← List.map_drop, ← List.map_take, range0_eq]
    refine hJ (List.range d) _ (by simp; omega) ⟨[], h4, .un, .un, by simp [iL], rfl, by simp, hs4.mono (by omega), ho1.trans (ho2.trans (ho3.trans ho4))⟩
  · rintro as a pre st J hA ha hp ⟨L, h4, s5, s6, rfl, hL, hI, hs4, ho4⟩ hJ
    refine ⟨⟨[.val (.ref s), .val (.int most), .val (iL l), .val (.int way), .own (.lst (L.map iL)), .val (.int (a : Nat)), s6], h4⟩, by simp, ?_⟩
    unfold _law_lists_b1
    have M : ∀ c : Nat, ∃ M : IS → Prop, M = fun st => ∃ m h5, (Item12 m ∧ (c = 300 → way = 3 → m.length ≤ 7) ∧ ((c = 300 → way ≠ 3) → ∀ x ∈ m, x ∈ l)) ∧ Src s (N + 200 + 500 * pre.length + c) h5 ∧ Oth s h4 h5 ∧ st = ⟨[.val (.ref s), .val (.int most), .val (iL l), .val (.int way), .own (.lst (L.map iL)), .val (.int (a : Nat)), .val (iL m)], h5⟩ := fun c => ⟨_, rfl⟩
    obtain ⟨M1, e1⟩ := M 40
    obtain ⟨M2, e2⟩ := M 80
    obtain ⟨M3, e3⟩ := M 300
    refine wpS_cut M1 (fun J hJ => ?_) fun st hM => wpS_cut M2 (fun J hJ => ?_) fun st hM => wpS_cut M3 (fun J hJ => ?_) fun st hM => ?_
    · simp (disch := omega) [small_t, i64_t, i62_t, ixN_nat, atI_lt, atI_map, map_erase, List.getElem?_cons_zero, List.getElem?_eq_getElem, and_assoc, ← List.map_tail, ← List.map_drop, ← List.map_take]
      refine some_ok F hs4 (by omega) (l := l) (by omega) fun m h5 hm hs5 ho5 => ?_
      simp (disch := omega) [small_t, i64_t, i62_t, ixN_nat, atI_lt, atI_map, map_erase, List.getElem?_cons_zero, List.getElem?_eq_getElem, and_assoc, ← List.map_tail, ← List.map_drop, ← List.map_take]
      exact hJ _ (e1 ▸ ⟨m, h5, ⟨hl.sub hm, by omega, fun _ x hx => hm.mem hx⟩, hs5, ho5, rfl⟩)
    · rw [e1] at hM
      obtain ⟨m, h5, ⟨hm, _, hml⟩, hs5, ho5, rfl⟩ := hM
      have hml := hml (by omega)
      have turn : ∀ h6, Src s (N + 200 + 500 * pre.length + 60) h6 → Oth s h4 h6 → ∀ (Q : RV → IHeap → Prop), (∀ m2 h7, (Item12 m2 ∧ (80 = 300 → way = 3 → m2.length ≤ 7) ∧ ((80 = 300 → way ≠ 3) → ∀ x ∈ m2, x ∈ l)) → Src s (N + 200 + 500 * pre.length + 80) h7 → Oth s h4 h7 → Q (.fr (iL m2)) h7) → (callF G (n + 3) "_law_turned" [.ref s, iL m] h6).wp Q E := fun h6 hs6 ho6 Q hQ =>
        turned_ok F hs6 (by omega) (l := m) (Nat.le_trans hm.n (by omega)) fun m2 h7 hp2 hs7 ho7 => hQ m2 h7 ⟨hm.perm hp2, by omega, fun _ x hx => hml x (hp2.mem_iff.mp hx)⟩ (hs7.mono (by omega)) (ho6.trans ho7)
      by_cases c1 : (way : Int) = 1
      · by_cases c2 : (a : Int) = 1
        · simp (disch := omega) [small_t, i64_t, i62_t, ixN_nat, atI_lt, atI_map, map_erase, List.getElem?_cons_zero, List.getElem?_eq_getElem, and_assoc, ← List.map_tail, ← List.map_drop, ← List.map_take, c1, c2]
          refine turn h5 (hs5.mono (by omega)) ho5 _ fun m2 h7 hm2 hs7 ho7 => ?_
          simp (disch := omega) [small_t, i64_t, i62_t, ixN_nat, atI_lt, atI_map, map_erase, List.getElem?_cons_zero, List.getElem?_eq_getElem, and_assoc, ← List.map_tail, ← List.map_drop, ← List.map_take]
          refine hJ _ ?_
          rw [e2]; exact ⟨m2, h7, hm2, hs7, ho7, by simp [c1, c2]⟩
        · simp (disch := omega) [small_t, i64_t, i62_t, ixN_nat, atI_lt, atI_map, map_erase, List.getElem?_cons_zero, List.getElem?_eq_getElem, and_assoc, ← List.map_tail, ← List.map_drop, ← List.map_take, c1, c2]
          refine hJ _ ?_
          rw [e2]; exact ⟨m, h5, ⟨hm, by omega, fun _ => hml⟩, hs5.mono (by omega), ho5, by simp [c1]⟩
      · by_cases c2 : (way : Int) = 2
        · simp (disch := omega) [small_t, i64_t, i62_t, ixN_nat, atI_lt, atI_map, map_erase, List.getElem?_cons_zero, List.getElem?_eq_getElem, and_assoc, ← List.map_tail, ← List.map_drop, ← List.map_take, c1, c2]
          refine wp_draw F hs5 (m := 4) rfl (by omega) (by omega) (by omega) fun d2 h6 hd2 hs6 ho6 => ?_
          by_cases c3 : d2 = 0
          · simp (disch := omega) [small_t, i64_t, i62_t, ixN_nat, atI_lt, atI_map, map_erase, List.getElem?_cons_zero, List.getElem?_eq_getElem, and_assoc, ← List.map_tail, ← List.map_drop, ← List.map_take, c3]
            refine turn h6 (hs6.mono (by omega)) (ho5.trans ho6) _ fun m2 h7 hm2 hs7 ho7 => ?_
            simp (disch := omega) [small_t, i64_t, i62_t, ixN_nat, atI_lt, atI_map, map_erase, List.getElem?_cons_zero, List.getElem?_eq_getElem, and_assoc, ← List.map_tail, ← List.map_drop, ← List.map_take]
            exact hJ _ (e2 ▸ ⟨m2, h7, hm2, hs7, ho7, by simp [c2]⟩)
          · simp (disch := omega) [small_t, i64_t, i62_t, ixN_nat, atI_lt, atI_map, map_erase, List.getElem?_cons_zero, List.getElem?_eq_getElem, and_assoc, ← List.map_tail, ← List.map_drop, ← List.map_take, c3]
            exact hJ _ (e2 ▸ ⟨m, h6, ⟨hm, by omega, fun _ => hml⟩, hs6.mono (by omega), ho5.trans ho6, by simp [c2]⟩)
        · simp (disch := omega) [small_t, i64_t, i62_t, ixN_nat, atI_lt, atI_map, map_erase, List.getElem?_cons_zero, List.getElem?_eq_getElem, and_assoc, ← List.map_tail, ← List.map_drop, ← List.map_take, c1, c2]
          exact hJ _ (e2 ▸ ⟨m, h5, ⟨hm, by omega, fun _ => hml⟩, hs5.mono (by omega), ho5, rfl⟩)
    · rw [e2] at hM
      obtain ⟨m, h5, ⟨hm, _, hml⟩, hs5, ho5, rfl⟩ := hM
      have hml := hml (by omega)
      by_cases c1 : (way : Int) = 3
      · simp (disch := omega) [small_t, i64_t, i62_t, ixN_nat, atI_lt, atI_map, map_erase, List.getElem?_cons_zero, List.getElem?_eq_getElem, and_assoc, ← List.map_tail, ← List.map_drop, ← List.map_take, c1]
        refine items_ok F hs5 (c := 5) (by omega) rfl (by omega) fun l' h7 q1 q2 q3 hs7 ho7 => ?_
        have hl' : Item12 l' := ⟨q1, by omega, q3⟩
        simp (disch := omega) [small_t, i64_t, i62_t, ixN_nat, atI_lt, atI_map, map_erase, List.getElem?_cons_zero, List.getElem?_eq_getElem, and_assoc, ← List.map_tail, ← List.map_drop, ← List.map_take]
        refine some_ok F hs7 (by omega) (l := l') (by omega) fun m3 h8 hm3 hs8 ho8 => ?_
        simp (disch := omega) [small_t, i64_t, i62_t, ixN_nat, atI_lt, atI_map, map_erase, List.getElem?_cons_zero, List.getElem?_eq_getElem, and_assoc, ← List.map_tail, ← List.map_drop, ← List.map_take]
        exact hJ _ (e3 ▸ ⟨m3, h8, ⟨hl'.sub hm3, fun _ _ => by have := hm3.length_le; omega, fun z => absurd c1 (by have := z rfl; omega)⟩, hs8.mono (by omega), ho5.trans (ho7.trans ho8), by simp [c1]⟩)
      · simp (disch := omega) [small_t, i64_t, i62_t, ixN_nat, atI_lt, atI_map, map_erase, List.getElem?_cons_zero, List.getElem?_eq_getElem, and_assoc, ← List.map_tail, ← List.map_drop, ← List.map_take, c1]
        exact hJ _ (e3 ▸ ⟨m, h5, ⟨hm, fun _ z => absurd z (by omega), fun _ => hml⟩, hs5.mono (by omega), ho5, rfl⟩)
    · rw [e3] at hM
      obtain ⟨m, h5, hm, hs5, ho5, rfl⟩ := hM
      have hm : Item12 m ∧ (way = 3 → m.length ≤ 7) ∧ (way ≠ 3 → ∀ x ∈ m, x ∈ l) := ⟨hm.1, hm.2.1 rfl, fun z => hm.2.2 fun _ => z⟩
      have sz : small L.length = true := small_t (by omega)
      simp (disch := omega) [small_t, i64_t, i62_t, ixN_nat, atI_lt, atI_map, map_erase, List.getElem?_cons_zero, List.getElem?_eq_getElem, and_assoc, ← List.map_tail, ← List.map_drop, ← List.map_take, sz]
      refine hJ _ ⟨L ++ [m], h5, _, _, by simp; exact ⟨rfl, rfl⟩, by simp [hL], fun x hx => ?_, hs5.mono (by simp; omega), ho4.trans ho5⟩
      rcases List.mem_append.mp hx with hx | hx
      · exact hI x hx
      · rw [List.mem_singleton.mp hx]; exact hm
  · rintro as st hA ⟨L, h4, s5, s6, rfl, hL, hI, hs4, ho4⟩
    simp (disch := omega) [small_t, i64_t, i62_t, ixN_nat, atI_lt, atI_map, map_erase, List.getElem?_cons_zero, List.getElem?_eq_getElem, and_assoc, ← List.map_tail, ← List.map_drop, ← List.map_take]
    refine k L h4 (by omega) (fun m hm => (hI m hm).1) ?_ (hs4.mono (by omega)) ho4
    by_cases hw3 : way = 3
    · refine ⟨firsts L.flatten, firsts_nodup _, ?_, fun m hm x hx => (firsts_mem _ x).mpr (List.mem_flatten.mpr ⟨m, hm, hx⟩)⟩
      have h1 := firsts_len L.flatten
      have h2 : ∀ M : List (List Int), (∀ m ∈ M, m.length ≤ 7) → M.flatten.length ≤ 7 * M.length := by
        intro M
        induction M with
        | nil => intro _; simp
        | cons m M ih =>
          intro z
          have := z m List.mem_cons_self
          have := ih fun y hy => z y (List.mem_cons_of_mem _ hy)
          rw [List.flatten_cons, List.length_append, List.length_cons]; omega
      have := h2 L fun m hm => (hI m hm).2.1 hw3
      omega
    · exact ⟨l, hl.d, by omega, fun m hm => (hI m hm).2.2 hw3⟩
end
end Ld

/-! Ld3: k01's own merge, its look at rings, its going round. -/
namespace Ld
open PySem Ip Pg
def _law_merged_e1 : CE := (.slot 2)
def _law_merged_i2 : CE := (.cmp .NotEq (.slot 2) (.lst []))
def _law_merged_e3 : CE := (.sub (.slot 2) (.lit (.int 0)))
def _law_merged_e4 : CE := (.slot 5)
def _law_merged_i5 : CE := (.cmp .In (.sub (.slot 2) (.lit (.int 0))) (.slc (.slot 5) (some (.lit (.int 1))) none))
def _law_merged_i6 : CE := (.cmp .Eq (.lc _law_merged_e4 (.name 5) (.it (.slot 1)) (some _law_merged_i5) [("_law_other", 5)]) (.lst []))
def _law_merged_e7 : CE := (.slot 6)
def _law_merged_i8 : CE := (.cmp .NotEq (.slot 6) (.sub (.slot 4) (.lit (.int 0))))
def _law_merged_e9 : CE := (.lc _law_merged_e7 (.name 6) (.it (.slot 2)) (some _law_merged_i8) [("_law_item", 6)])
def _law_merged_e10 : CE := (.slot 2)
def _law_merged_i11 : CE := (.cmp .NotEq (.slot 2) (.lst []))
def _law_merged_w12 : List CS := [.asg (.tgt (.name 4)) (.lc _law_merged_e3 (.name 2) (.it (.slot 1)) (some _law_merged_i6) [("_law_one", 2)]), .ite (.cmp .Eq (.slot 4) (.lst [])) [.ret (.lit .non)] [], .expr (.app (.slot 3) (.sub (.slot 4) (.lit (.int 0)))), .asg (.tgt (.name 1)) (.lc _law_merged_e9 (.name 2) (.it (.slot 1)) none [("_law_one", 2)]), .asg (.tgt (.name 1)) (.lc _law_merged_e10 (.name 2) (.it (.slot 1)) (some _law_merged_i11) [("_law_one", 2)])]
def _law_merged_c : List CS := [.asg (.tgt (.name 1)) (.lc _law_merged_e1 (.name 2) (.it (.slot 0)) (some _law_merged_i2) [("_law_one", 2)]), .asg (.own 3) (.lst []), .whl 100000 (.cmp .NotEq (.slot 1) (.lst [])) _law_merged_w12, .ret (.move 3)]
def _law_merged_d : FnDef := ⟨"_law_merged", 1, ["_law_lists_here", "_law_left", "_law_one", "_law_found", "_law_free", "_law_other", "_law_item"], _law_merged_c⟩
def _law_is_integer_c : List CS := [.ret (.boo .And [(.bi (.isi "int") (.slot 0)), (.not (.bi (.isi "bool") (.slot 0)))])]
def _law_is_integer_d : FnDef := ⟨"_law_is_integer", 1, ["_law_value"], _law_is_integer_c⟩
def _law_is_ring_b1 : List CS := [.ite (.boo .Or [(.not (.bi (.isi "tuple") (.slot 2))), (.cmp .NotEq (.bi .len (.slot 2)) (.lit (.int 2)))]) [.ret (.lit (.bl false))] [], .ite (.boo .Or [(.not (.call "_law_is_integer" [(.sub (.slot 2) (.lit (.int 0)))])), (.not (.call "_law_is_integer" [(.sub (.slot 2) (.lit (.int 1)))]))]) [.ret (.lit (.bl false))] [], .ite (.not (.chain .LtE .Lt (.lit (.int 0)) (.sub (.slot 2) (.lit (.int 1))) (.bi .len (.slot 0)))) [.ret (.lit (.bl false))] []]
def _law_is_ring_e2 : CE := (.sub (.slot 2) (.lit (.int 0)))
def _law_is_ring_b3 : List CS := [.asg (.tgt (.name 5)) (.sub (.slot 0) (.sub (.sub (.slot 1) (.slot 4)) (.lit (.int 1)))), .par 6 7 (.sub (.slot 3) (.slot 4)) (.sub (.slot 3) (.bin .Mod (.bin .Add (.slot 4) (.lit (.int 1))) (.bi .len (.slot 1)))), .ite (.boo .Or [(.cmp .NotIn (.slot 6) (.slot 5)), (.cmp .NotIn (.slot 7) (.slot 5)), (.cmp .GtE (.index (.slot 5) (.slot 6)) (.index (.slot 5) (.slot 7)))]) [.ret (.lit (.bl false))] []]
def _law_is_ring_c : List CS := [.ite (.boo .Or [(.not (.bi (.isi "list") (.slot 1))), (.cmp .Lt (.bi .len (.slot 1)) (.lit (.int 2)))]) [.ret (.lit (.bl false))] [], .for (.name 2) (.it (.slot 1)) _law_is_ring_b1, .asg (.tgt (.name 3)) (.lc _law_is_ring_e2 (.name 2) (.it (.slot 1)) none [("_law_link", 2)]), .ite (.cmp .Lt (.bi .lenSet (.slot 3)) (.bi .len (.slot 3))) [.ret (.lit (.bl false))] [], .for (.name 4) (.rng1 (.bi .len (.slot 1))) _law_is_ring_b3, .ret (.lit (.bl true))]
def _law_is_ring_d : FnDef := ⟨"_law_is_ring", 2, ["_law_lists_here", "_law_ring", "_law_link", "_law_items_here", "_law_k", "_law_one", "_law_ahead", "_law_behind"], _law_is_ring_c⟩
def _law_comes_round_b1 : List CS := [.asg (.sub (.slot 1) (.slot 4)) (.bin .Add (.get2 (.slot 1) (.slot 4) (.lst [])) (.slc (.slot 2) (some (.bin .Add (.slot 3) (.lit (.int 1)))) none))]
def _law_comes_round_b2 : List CS := [.for (.tup [(.name 3), (.name 4)]) (.enum (.slot 2)) _law_comes_round_b1]
def _law_comes_round_e3 : CE := (.slot 6)
def _law_comes_round_i4 : CE := (.cmp .NotIn (.slot 6) (.slot 5))
def _law_comes_round_w5 : List CS := [.asg (.tgt (.name 5)) (.bin .Add (.slot 5) (.lc _law_comes_round_e3 (.name 6) (.it (.bi .sortedSet (.sub (.slot 1) (.sub (.slot 5) (.slot 3))))) (some _law_comes_round_i4) [("_law_other", 6)])), .asg (.tgt (.name 3)) (.bin .Add (.slot 3) (.lit (.int 1)))]
def _law_comes_round_b6 : List CS := [.asg (.tgt (.name 5)) (.bi .list (.sub (.slot 1) (.slot 4))), .asg (.tgt (.name 3)) (.lit (.int 0)), .whl 100000 (.cmp .Lt (.slot 3) (.bi .len (.slot 5))) _law_comes_round_w5, .ite (.cmp .In (.slot 4) (.slot 5)) [.ret (.lit (.bl true))] []]
def _law_comes_round_c : List CS := [.asg (.own 1) .dict0, .for (.name 2) (.it (.slot 0)) _law_comes_round_b2, .frz 1, .forD (.name 4) 1 _law_comes_round_b6, .ret (.lit (.bl false))]
def _law_comes_round_d : FnDef := ⟨"_law_comes_round", 1, ["_law_lists_here", "_law_ahead", "_law_one", "_law_at", "_law_item", "_law_found", "_law_other"], _law_comes_round_c⟩
section
variable {G : Prog} {n : Nat} {h : IHeap}
structure Lf2 (G : Prog) : Prop where
  ld : LdFns G
  mg : MgFns G
  me : G.fn "_law_merged" = some _law_merged_d
  ii : G.fn "_law_is_integer" = some _law_is_integer_d
  ri : G.fn "_law_is_ring" = some _law_is_ring_d
  co : G.fn "_law_comes_round" = some _law_comes_round_d
/-! lists of lists as data -/
def datL (l : List Int) : PyData := .list (l.map .int)
@[simp] theorem toDrs_iLs (st : IS) (M : List (List Int)) : toDrs st (M.map iL) = some (M.map datL) := toDrs_map fun a _ => toDr_ints
@[simp] theorem toDs_iLs (M : List (List Int)) : toDs (M.map iL) = some (M.map datL) := toDs_map fun a _ => by simp [datL]
theorem noB_ints (l : List Int) : noBs (l.map .int) = true := by
  induction l with
  | nil => simp [noBs]
  | cons a l ih => simp [noBs, noB, ih]
theorem noB_iLs (M : List (List Int)) : noBs (M.map datL) = true := by
  induction M with
  | nil => simp [noBs]
  | cons a l ih => simp [noBs, noB, datL, noB_ints, ih]
theorem lay_iLs (M : List (List Int)) : PyData.canLayAll0 (M.map datL) = true := by
  induction M with
  | nil => simp [PyData.canLayAll0]
  | cons a l ih => simp [PyData.canLayAll0, PyData.canLay0, datL, canLay_ints, ih]
theorem dep_iLs (M : List (List Int)) : PyData.depthAll (M.map datL) ≤ 1 := by
  induction M with
  | nil => simp [PyData.depthAll]
  | cons a l ih => simp [PyData.depthAll, PyData.depth, datL, depth_ints]; exact Nat.max_le.mpr ⟨by omega, ih⟩
theorem dOk_iLs (M : List (List Int)) : dOk (.list (M.map datL)) = true := by
  unfold dOk SeqAt.shaped
  have := dep_iLs M
  simp [PyData.canLay0, lay_iLs, PyData.depth]; omega
@[simp] theorem eqD_iLs_nil (M : List (List Int)) : eqD (.list (M.map datL)) (.list []) = some (decide (M = [])) := by
  unfold eqD
  rw [dOk_iLs, show dOk (.list []) = true from rfl]
  simp only [Bool.and_self, if_true]
  rw [eqv_nb _ _ (by simp [noB, noB_iLs]) (by simp [noB, noBs])]
  simp
theorem lstep_ne (f : Int) (left : List (List Int)) : ∀ l ∈ lstep f left, l ≠ [] := fun l hl => by
  have := (List.mem_filter.mp hl).2
  cases l with
  | nil => simp at this
  | cons _ _ => simp
theorem lstep_lt (left : List (List Int)) (f : Int) (h : ∃ l ∈ left, f ∈ l) : total (lstep f left) < total left := by
  have fl : ∀ l : List Int, (l.filter (· != f)).length ≤ l.length := fun l => List.length_filter_le _ _
  have ge : ∀ M : List (List Int), total (M.filter fun l => !l.isEmpty) = total M := by
    intro M
    induction M with
    | nil => rfl
    | cons l M ih =>
      cases l with
      | nil => rw [List.filter_cons_of_neg (by simp), ih, total_cons]; simp
      | cons a r => rw [List.filter_cons_of_pos (by simp), total_cons, total_cons, ih]
  unfold lstep
  rw [ge]
  have le : ∀ M : List (List Int), total (M.map fun l => l.filter (· != f)) ≤ total M := by
    intro M
    induction M with
    | nil => exact Nat.le_refl _
    | cons l M ih => rw [List.map_cons, total_cons, total_cons]; have := fl l; omega
  induction left with
  | nil => obtain ⟨l, hl, _⟩ := h; cases hl
  | cons l left ih =>
    rw [List.map_cons, total_cons, total_cons]
    obtain ⟨m, hm, hfm⟩ := h
    rcases List.mem_cons.mp hm with rfl | hm
    · have := le left
      have : (m.filter (· != f)).length < m.length := List.length_filter_lt_length_iff_exists.mpr ⟨f, hfm, by simp⟩
      omega
    · have := ih ⟨m, hm, hfm⟩
      have := fl l
      omega
theorem lgo_fuel : ∀ (n m : Nat) (left : List (List Int)) (found : List Int), (∀ l ∈ left, l ≠ []) → total left < n → total left < m → lgo n left found = lgo m left found
  | 0, m, left, found, _, h, _ => by omega
  | n + 1, 0, left, found, _, _, h => by omega
  | n + 1, m + 1, left, found, hne, h1, h2 => by
    rw [lgo, lgo]
    by_cases hl : left = []
    · rw [if_pos hl, if_pos hl]
    · rw [if_neg hl, if_neg hl]
      cases hf : lfree left with
      | nil => rfl
      | cons f fs =>
        have ht := lstep_lt left f (by
          have : f ∈ lfree left := by rw [hf]; exact List.mem_cons_self
          unfold lfree at this
          obtain ⟨l, q1, q2⟩ := List.mem_map.mp this
          have q3 := (List.mem_filter.mp q1).1
          cases l with
          | nil => exact absurd rfl (hne _ q3)
          | cons a r => exact ⟨a :: r, q3, by rw [← q2]; exact List.mem_cons_self⟩)
        exact lgo_fuel n m _ _ (lstep_ne f left) (by omega) (by omega)
theorem total_mem {M : List (List Int)} {l : List Int} (h : l ∈ M) : l.length ≤ total M := by
  induction M with
  | nil => cases h
  | cons a M ih =>
    rw [total_cons]
    rcases List.mem_cons.mp h with rfl | h
    · omega
    · have := ih h; omega
/-- the law's own merge -/
theorem lmerged_okB {Q : RV → IHeap → Prop} {E : XPost} (hme : G.fn "_law_merged" = some _law_merged_d) {L : List (List Int)} {x : IV} (hx : Sq h x (L.map iL)) (hL : L.length ≤ 30) (ht : total L ≤ 900)
    (k : Q (match lmerged L with | some o => .fr (iL o) | none => .v .non) h) : (callF G (n + 1) "_law_merged" [x] h).wp Q E := by
  refine wp_fn hme rfl ?_
  have st1 := hx.stor
  simp (disch := omega) [small_t, i64_t, i62_t, ixN_nat, atI_lt, atI_map, map_erase, List.getElem?_cons_zero, List.getElem?_eq_getElem, and_assoc, ← List.map_tail, ← List.map_drop, ← List.map_take, _law_merged_d, _law_merged_c, startI]
  refine wp_lc1 iL L (fun l => !l.isEmpty) iL (by simp) hx rfl (by omega) (fun _ _ => rfl) ?_ ?_ (fun _ _ _ => rfl) ?_
  · intro l hl J hJ
    simp (disch := omega) [small_t, i64_t, i62_t, ixN_nat, atI_lt, atI_map, map_erase, List.getElem?_cons_zero, List.getElem?_eq_getElem, and_assoc, ← List.map_tail, ← List.map_drop, ← List.map_take, _law_merged_i2]
    cases l <;> simpa using hJ
  · intro l hl _ J hJ
    simp (disch := omega) [small_t, i64_t, i62_t, ixN_nat, atI_lt, atI_map, map_erase, List.getElem?_cons_zero, List.getElem?_eq_getElem, and_assoc, ← List.map_tail, ← List.map_drop, ← List.map_take, _law_merged_e1]
    exact hJ _ (by first | rfl | simp)
  simp (disch := omega) [small_t, i64_t, i62_t, ixN_nat, atI_lt, atI_map, map_erase, List.getElem?_cons_zero, List.getElem?_eq_getElem, and_assoc, ← List.map_tail, ← List.map_drop, ← List.map_take]
  have ht2 : total (ne L) ≤ total L := by
    unfold ne
    clear ht hx hL k
    induction L with
    | nil => exact Nat.le_refl _
    | cons l M ih =>
      rw [List.filter_cons, total_cons]
      split
      · rw [total_cons]; omega
      · omega
  refine wpS_whlI (fun k st => ∃ (left : List (List Int)) (found : List Int) (s4 : Ip.Slot), st = ⟨[.val x, .val (.lst (left.map iL)), .un, .own (.lst (found.map .int)), s4, .un, .un], h⟩ ∧ (∀ c, s4 ≠ .own c) ∧ k = total left ∧ left.length ≤ 30 ∧ (∀ l ∈ left, l ≠ []) ∧ found.length + total left ≤ 900 ∧ lgo (total left + 1) left found = lmerged L) (total (ne L)) ⟨ne L, [], .un, rfl, by simp, rfl, ?_, ?_, ?_, ?_⟩ (by omega) ?_
  · exact Nat.le_trans (List.length_filter_le _ _) hL
  · intro l hl
    have := (List.mem_filter.mp hl).2
    cases l with
    | nil => simp at this
    | cons _ _ => simp
  · simp; omega
  · unfold lmerged
    refine lgo_fuel _ _ _ _ (fun l hl => ?_) (by omega) (by omega)
    have := (List.mem_filter.mp hl).2
    cases l with
    | nil => simp at this
    | cons _ _ => simp
  rintro m st J ⟨left, found, s4, rfl, h4, rfl, hlen, hne, hb, hgo⟩ hJ
  simp (disch := omega) [small_t, i64_t, i62_t, ixN_nat, atI_lt, atI_map, map_erase, List.getElem?_cons_zero, List.getElem?_eq_getElem, and_assoc, ← List.map_tail, ← List.map_drop, ← List.map_take]
  by_cases hl : left = []
  · subst hl
    rw [lgo, if_pos rfl] at hgo
    rw [← hgo] at k
    simp (disch := omega) [small_t, i64_t, i62_t, ixN_nat, atI_lt, atI_map, map_erase, List.getElem?_cons_zero, List.getElem?_eq_getElem, and_assoc, ← List.map_tail, ← List.map_drop, ← List.map_take]
    exact k
  · simp (disch := omega) [small_t, i64_t, i62_t, ixN_nat, atI_lt, atI_map, map_erase, List.getElem?_cons_zero, List.getElem?_eq_getElem, and_assoc, ← List.map_tail, ← List.map_drop, ← List.map_take, hl, _law_merged_w12]
    have hfr : freeI [Slot.val x, Slot.val (IV.lst (left.map iL)), Slot.un, Slot.own (IV.lst (found.map .int)), s4, Slot.un, Slot.un] [2] = true := rfl
    refine wp_lc1 iL left (fun l => left.all fun o => !decide (l.headD 0 ∈ o.drop 1)) (fun l => .int (l.headD 0)) (by simp) (.inl rfl) hfr (by omega) (fun _ _ => rfl) ?_ ?_ (fun _ _ _ => rfl) ?_
    · intro l hl2 J2 hJ2
      simp (disch := omega) [small_t, i64_t, i62_t, ixN_nat, atI_lt, atI_map, map_erase, List.getElem?_cons_zero, List.getElem?_eq_getElem, and_assoc, ← List.map_tail, ← List.map_drop, ← List.map_take, _law_merged_i6]
      refine wp_lc1 iL left (fun o => decide (l.headD 0 ∈ o.drop 1)) iL (by simp) (.inl rfl) rfl (by omega) (fun _ _ => rfl) ?_ ?_ (fun _ _ _ => rfl) ?_
      · intro o ho J3 hJ3
        cases l with
        | nil => exact absurd rfl (hne _ hl2)
        | cons a r =>
          simp (disch := omega) [small_t, i64_t, i62_t, ixN_nat, atI_lt, atI_map, map_erase, List.getElem?_cons_zero, List.getElem?_eq_getElem, and_assoc, ← List.map_tail, ← List.map_drop, ← List.map_take, _law_merged_i5]
          simpa using hJ3
      · intro o ho _ J3 hJ3
        simp (disch := omega) [small_t, i64_t, i62_t, ixN_nat, atI_lt, atI_map, map_erase, List.getElem?_cons_zero, List.getElem?_eq_getElem, and_assoc, ← List.map_tail, ← List.map_drop, ← List.map_take, _law_merged_e4]
        exact hJ3 _ (by first | rfl | simp)
      · simp (disch := omega) [small_t, i64_t, i62_t, ixN_nat, atI_lt, atI_map, map_erase, List.getElem?_cons_zero, List.getElem?_eq_getElem, and_assoc, ← List.map_tail, ← List.map_drop, ← List.map_take]
        have : decide (∀ a ∈ left, l.headD 0 ∉ a.drop 1) = left.all fun o => !decide (l.headD 0 ∈ o.drop 1) := by
          rw [Bool.eq_iff_iff]; simp
        rw [← this] at hJ2
        simpa using hJ2
    · intro l hl2 _ J2 hJ2
      cases l with
      | nil => exact absurd rfl (hne _ hl2)
      | cons a r =>
        simp (disch := omega) [small_t, i64_t, i62_t, ixN_nat, atI_lt, atI_map, map_erase, List.getElem?_cons_zero, List.getElem?_eq_getElem, and_assoc, ← List.map_tail, ← List.map_drop, ← List.map_take, _law_merged_e3]
        exact hJ2 _ (by first | rfl | simp)
    · have ef : ((left.filter fun l => left.all fun o => !decide (l.headD 0 ∈ o.drop 1)).map fun l => IV.int (l.headD 0)) = (lfree left).map .int := by
        unfold lfree; rw [List.map_map]; rfl
      rw [ef]
      rw [lgo, if_neg hl] at hgo
      cases hf : lfree left with
      | nil =>
        rw [hf] at hgo
        rw [← hgo] at k
        simp (disch := omega) [small_t, i64_t, i62_t, ixN_nat, atI_lt, atI_map, map_erase, List.getElem?_cons_zero, List.getElem?_eq_getElem, and_assoc, ← List.map_tail, ← List.map_drop, ← List.map_take]
        exact k
      | cons f fs =>
        rw [hf] at hgo
        have hstep : ∀ l ∈ lstep f left, l ≠ [] := lstep_ne f left
        have hlt : total (lstep f left) < total left := lstep_lt left f (by
          have : f ∈ lfree left := by rw [hf]; exact List.mem_cons_self
          unfold lfree at this
          obtain ⟨l, q1, q2⟩ := List.mem_map.mp this
          have q3 := (List.mem_filter.mp q1).1
          cases l with
          | nil => exact absurd rfl (hne _ q3)
          | cons a r => exact ⟨a :: r, q3, by rw [← q2]; exact List.mem_cons_self⟩)
        have hsz : small found.length = true := small_t (by
          have : 0 < total left := by omega
          omega)
        simp (disch := omega) [small_t, i64_t, i62_t, ixN_nat, atI_lt, atI_map, map_erase, List.getElem?_cons_zero, List.getElem?_eq_getElem, and_assoc, ← List.map_tail, ← List.map_drop, ← List.map_take, hsz]
        refine wp_lcm iL left (fun l => iL (l.filter (· != f))) (by simp) (.inl rfl) rfl (by omega) (fun _ _ => rfl) ?_ (fun _ _ => rfl) ?_
        · intro l hl2 J2 hJ2
          simp (disch := omega) [small_t, i64_t, i62_t, ixN_nat, atI_lt, atI_map, map_erase, List.getElem?_cons_zero, List.getElem?_eq_getElem, and_assoc, ← List.map_tail, ← List.map_drop, ← List.map_take, _law_merged_e9]
          refine wp_lc1 IV.int l (fun y => y != f) IV.int (by simp) (.inl rfl) rfl ?_ (fun _ _ => rfl) ?_ ?_ (fun _ _ _ => rfl) ?_
          · have := total_mem hl2; omega
          · intro y hy J3 hJ3
            simp (disch := omega) [small_t, i64_t, i62_t, ixN_nat, atI_lt, atI_map, map_erase, List.getElem?_cons_zero, List.getElem?_eq_getElem, and_assoc, ← List.map_tail, ← List.map_drop, ← List.map_take, _law_merged_i8]
            exact hJ3
          · intro y hy _ J3 hJ3
            simp (disch := omega) [small_t, i64_t, i62_t, ixN_nat, atI_lt, atI_map, map_erase, List.getElem?_cons_zero, List.getElem?_eq_getElem, and_assoc, ← List.map_tail, ← List.map_drop, ← List.map_take, _law_merged_e7]
            exact hJ3 _ (by first | rfl | simp)
          · exact hJ2 _ (by first | rfl | simp)
        obtain ⟨left2, hl2⟩ : ∃ left2, left2 = left.map fun l => l.filter (· != f) := ⟨_, rfl⟩
        rw [show (left.map fun l => iL (l.filter (· != f))) = left2.map iL by simp [hl2]]
        have hn2 : left2.length ≤ 30 := by simpa [hl2] using hlen
        simp (disch := omega) [small_t, i64_t, i62_t, ixN_nat, atI_lt, atI_map, map_erase, List.getElem?_cons_zero, List.getElem?_eq_getElem, and_assoc, ← List.map_tail, ← List.map_drop, ← List.map_take]
        refine wp_lc1 iL left2 (fun l => !l.isEmpty) iL (by simp) (.inl rfl) rfl (by omega) (fun _ _ => rfl) ?_ ?_ (fun _ _ _ => rfl) ?_
        · intro l hl J2 hJ2
          simp (disch := omega) [small_t, i64_t, i62_t, ixN_nat, atI_lt, atI_map, map_erase, List.getElem?_cons_zero, List.getElem?_eq_getElem, and_assoc, ← List.map_tail, ← List.map_drop, ← List.map_take, _law_merged_i11]
          cases l <;> simpa using hJ2
        · intro l hl _ J2 hJ2
          simp (disch := omega) [small_t, i64_t, i62_t, ixN_nat, atI_lt, atI_map, map_erase, List.getElem?_cons_zero, List.getElem?_eq_getElem, and_assoc, ← List.map_tail, ← List.map_drop, ← List.map_take, _law_merged_e10]
          apply hJ2; rfl
        have e2 : lstep f left = left2.filter fun l => !l.isEmpty := by rw [hl2]; rfl
        rw [← e2]
        simp (disch := omega) [small_t, i64_t, i62_t, ixN_nat, atI_lt, atI_map, map_erase, List.getElem?_cons_zero, List.getElem?_eq_getElem, and_assoc, ← List.map_tail, ← List.map_drop, ← List.map_take]
        refine hJ (total (lstep f left)) _ (by omega) ⟨lstep f left, found ++ [f], _, by simp; rfl, by simp, rfl, ?_, hstep, by simp; omega, ?_⟩
        · unfold lstep
          exact Nat.le_trans (List.length_filter_le _ _) (by simpa using hlen)
        · rw [← hgo]
          exact lgo_fuel _ _ _ _ hstep (by omega) (by omega)
theorem lmerged_ok {Q : RV → IHeap → Prop} {E : XPost} (F : Lf2 G) {L : List (List Int)} {x : IV} (hx : Sq h x (L.map iL)) (hL : L.length ≤ 30) (ht : total L ≤ 900)
    (k : Q (match lmerged L with | some o => .fr (iL o) | none => .v .non) h) : (callF G (n + 1) "_law_merged" [x] h).wp Q E := lmerged_okB F.me hx hL ht k
theorem is_int_ok (hf : G.fn "_law_is_integer" = some _law_is_integer_d) (i : Int) : callF G (n + 1) "_law_is_integer" [.int i] h = .ok (.v (.bl true)) h := by
  rw [callF_of hf rfl]
  simp [_law_is_integer_d, _law_is_integer_c, startI, isiC]
theorem firsts_of_nodup : ∀ {l : List Int}, l.Nodup → firsts l = l
  | [], _ => rfl
  | a :: l, hd => by
    have h1 := List.nodup_cons.mp hd
    rw [firsts, firsts_of_nodup h1.2]
    congr 1
    exact List.filter_eq_self.mpr fun x hx => by
      have : x ≠ a := fun z => h1.1 (z ▸ hx)
      simpa using this
theorem sub2_idx {a b : Int} : ∀ {l : List Int}, l.Nodup → [a, b].Sublist l → a ∈ l ∧ b ∈ l ∧ l.idxOf a < l.idxOf b
  | [], _, h => by simp at h
  | x :: l, hd, h => by
    have h1 := List.nodup_cons.mp hd
    rcases sub2_cons.mp h with ⟨rfl, hb⟩ | h
    · refine ⟨List.mem_cons_self, List.mem_cons_of_mem _ hb, ?_⟩
      have : b ≠ a := fun z => h1.1 (z ▸ hb)
      have q : (a == b) = false := by simpa using Ne.symm this
      rw [List.idxOf_cons_self, List.idxOf_cons, q]; simp
    · obtain ⟨q1, q2, q3⟩ := sub2_idx h1.2 h
      have n1 : x ≠ a := fun z => h1.1 (z ▸ q1)
      have n2 : x ≠ b := fun z => h1.1 (z ▸ q2)
      refine ⟨List.mem_cons_of_mem _ q1, List.mem_cons_of_mem _ q2, ?_⟩
      have r1 : (x == a) = false := by simpa using n1
      have r2 : (x == b) = false := by simpa using n2
      rw [List.idxOf_cons, List.idxOf_cons, r1, r2]; simp; omega
theorem indexS_ints {st : IS} {l : List Int} {x : Int} (hx : x ∈ l) : indexS st (.lst (l.map .int)) (.int x) = some (.v (.int (l.idxOf x : Nat))) := by
  have := findIdx_ints l x
  rw [if_pos hx] at this
  unfold indexS
  simp [dOk_int] at this ⊢
  rw [this]; simp
theorem is_ring_okB {Q : RV → IHeap → Prop} {E : XPost} (hii : G.fn "_law_is_integer" = some _law_is_integer_d) (hri : G.fn "_law_is_ring" = some _law_is_ring_d) {L : List (List Int)} {ring : List (Int × Nat)} {x y : IV} (hx : Sq h x (L.map iL)) (hy : Sq h y (ring.map pairV)) (hr : IsRing L ring) (hL : L.length ≤ 30) (hd : ∀ l ∈ L, l.Nodup) (hl : ring.length ≤ 100)
    (k : Q (.v (.bl true)) h) : (callF G (n + 2) "_law_is_ring" [x, y] h).wp Q E := by
  refine wp_fn hri rfl ?_
  have st1 := hx.stor
  have st2 := hy.stor
  have cx : ∀ r, cont ⟨r, h⟩ x = some (.lst (L.map iL)) := hx.cont
  have cy : ∀ r, cont ⟨r, h⟩ y = some (.lst (ring.map pairV)) := hy.cont
  have two : ¬ (ring.length : Int) < 2 := by have := hr.two; omega
  have isl : ∀ xs, isiC (.lst xs) "list" = some true := fun _ => rfl
  have ist : ∀ xs, isiC (.tup xs) "tuple" = some true := fun _ => rfl
  have atL : ∀ p ∈ ring, p.2 < L.length := fun p hp => by
    obtain ⟨k, hk, e⟩ := List.getElem_of_mem hp
    have hm : (k + 1) % ring.length < ring.length := Nat.mod_lt _ (by omega)
    obtain ⟨l, h1, h2⟩ := hr.ok k p _ (by rw [← e]; exact List.getElem?_eq_getElem hk) (List.getElem?_eq_getElem hm)
    exact (List.getElem?_eq_some_iff.mp h1).1
  simp (disch := omega) [small_t, i64_t, i62_t, ixN_nat, atI_lt, atI_map, map_erase, List.getElem?_cons_zero, List.getElem?_eq_getElem, and_assoc, ← List.map_tail, ← List.map_drop, ← List.map_take, _law_is_ring_d, _law_is_ring_c, startI, cx, cy, two, isl]
  refine wpS_forS pairV ring (fun pre r => ∃ s2, (s2 = .un ∨ ∃ v, s2 = .val v) ∧ r = [.val x, .val y, s2, .un, .un, .un, .un, .un]) (by simp) hy ⟨_, .inl rfl, rfl⟩ ?_ ?_
  · rintro p pre post r J hsp ⟨s2, hs2, rfl⟩ hJ
    have hp := atL p (by rw [hsp]; simp)
    refine ⟨[.val x, .val y, .val (pairV p), .un, .un, .un, .un, .un], by simp [pairV], ?_⟩
    have e1 := is_int_ok (n := n) (h := h) hii p.1
    have e2 := is_int_ok (n := n) (h := h) hii (p.2 : Nat)
    have c1 : (0 : Int) ≤ (p.2 : Int) := by omega
    have c2 : (p.2 : Int) < (L.length : Int) := by omega
    simp (disch := omega) [small_t, i64_t, i62_t, ixN_nat, atI_lt, atI_map, map_erase, List.getElem?_cons_zero, List.getElem?_eq_getElem, and_assoc, ← List.map_tail, ← List.map_drop, ← List.map_take, _law_is_ring_b1, pairV, ist, e1, e2, c1, c2, cx]
    exact hJ _ ⟨_, .inr ⟨_, rfl⟩, rfl⟩
  rintro r ⟨s2, hs2, rfl⟩
  simp (disch := omega) [small_t, i64_t, i62_t, ixN_nat, atI_lt, atI_map, map_erase, List.getElem?_cons_zero, List.getElem?_eq_getElem, and_assoc, ← List.map_tail, ← List.map_drop, ← List.map_take]
  refine wp_lcm pairV ring (fun p => .int p.1) (by simp) hy (by rcases hs2 with rfl | ⟨v, rfl⟩ <;> rfl) (by omega) (fun _ _ => rfl) ?_ (fun _ _ => rfl) ?_
  · intro p hp J hJ
    simp (disch := omega) [small_t, i64_t, i62_t, ixN_nat, atI_lt, atI_map, map_erase, List.getElem?_cons_zero, List.getElem?_eq_getElem, and_assoc, ← List.map_tail, ← List.map_drop, ← List.map_take, _law_is_ring_e2, pairV]
    apply hJ; rfl
  have e3 : (ring.map fun p => IV.int p.1) = (ring.map (·.1)).map .int := by simp
  have nd := hr.nd
  have ln : (ring.map (·.1)).length = ring.length := by simp
  rw [e3]
  have gi : ∀ k : Nat, (hk : k < ring.length) → ring[k]? = some ring[k] := fun k hk => List.getElem?_eq_getElem hk
  generalize hns : ring.map (·.1) = ns at *
  have fo := firsts_of_nodup nd
  have f4 : ns.length < 4000 := by omega
  simp (disch := omega) [small_t, i64_t, i62_t, ixN_nat, atI_lt, atI_map, map_erase, List.getElem?_cons_zero, List.getElem?_eq_getElem, and_assoc, ← List.map_tail, ← List.map_drop, ← List.map_take, fo, f4]
  refine wpS_forI (fun k : Nat => .int (k : Nat)) (List.range ring.length) (fun pre st => ∃ s4 s5 s6 s7, st = ⟨[.val x, .val y, s2, .val (.lst (ns.map .int)), s4, s5, s6, s7], h⟩) ?_ ?_ ?_
  · intro J hJ
    simp (disch := omega) [small_t, i64_t, i62_t, ixN_nat, atI_lt, atI_map, map_erase, List.getElem?_cons_zero, List.getElem?_eq_getElem, and_assoc, ← List.map_tail, ← List.map_drop, ← List.map_take, cy, range0_eq]
    exact hJ _ ⟨_, _, _, _, rfl⟩
  · rintro k pre st J hk hp ⟨s4, s5, s6, s7, rfl⟩ hJ
    have hk : k < ring.length := by simpa using hk
    refine ⟨⟨[.val x, .val y, s2, .val (.lst (ns.map .int)), .val (.int (k : Nat)), s5, s6, s7], h⟩, by simp, ?_⟩
    have hm : (k + 1) % ring.length < ring.length := Nat.mod_lt _ (by omega)
    obtain ⟨l, h1, h2⟩ := hr.ok k _ _ (gi k hk) (gi _ hm)
    obtain ⟨q1, q2, q3⟩ := sub2_idx (hd l (List.mem_of_getElem? h1)) h2
    have a1 : L2.atI (ring.map pairV) (k : Int) = some (pairV ring[k]) := by rw [atI_nat, List.getElem?_map, gi k hk]; rfl
    have a2 : L2.atI (L.map iL) ((ring[k].2 : Nat) : Int) = some (iL l) := by rw [atI_nat, List.getElem?_map, h1]; rfl
    have a3 : L2.atI (ns.map IV.int) (k : Int) = some (.int ring[k].1) := by rw [atI_nat, ← hns]; simp [gi k hk]
    have a4 : L2.atI (ns.map IV.int) (((k : Int) + 1) % (ring.length : Int)) = some (.int ring[(k + 1) % ring.length].1) := by
      have : ((k : Int) + 1) % (ring.length : Int) = (((k + 1) % ring.length : Nat) : Int) := by simp
      rw [this, atI_nat, ← hns]; simp [gi _ hm]
    have c0 : 0 < (ring.length : Int) := by omega
    have i1 := fun st => indexS_ints (st := st) q1
    have i2 := fun st => indexS_ints (st := st) q2
    have c3 : ¬ (((l.idxOf ring[(k + 1) % ring.length].1 : Nat) : Int) ≤ (l.idxOf ring[k].1 : Nat)) := by omega
    simp (disch := omega) [small_t, i64_t, i62_t, ixN_nat, atI_lt, atI_map, map_erase, List.getElem?_cons_zero, List.getElem?_eq_getElem, and_assoc, ← List.map_tail, ← List.map_drop, ← List.map_take, _law_is_ring_b3, cx, cy, a1, a2, a3, a4, c0, pairV, q1, q2, i1, i2, c3]
    exact ⟨by omega, hJ _ ⟨_, _, _, _, rfl⟩⟩
  · rintro st ⟨s4, s5, s6, s7, rfl⟩
    simp (disch := omega) [small_t, i64_t, i62_t, ixN_nat, atI_lt, atI_map, map_erase, List.getElem?_cons_zero, List.getElem?_eq_getElem, and_assoc, ← List.map_tail, ← List.map_drop, ← List.map_take]
    exact k
theorem is_ring_ok {Q : RV → IHeap → Prop} {E : XPost} (F : Lf2 G) {L : List (List Int)} {ring : List (Int × Nat)} {x y : IV} (hx : Sq h x (L.map iL)) (hy : Sq h y (ring.map pairV)) (hr : IsRing L ring) (hL : L.length ≤ 30) (hd : ∀ l ∈ L, l.Nodup) (hl : ring.length ≤ 100)
    (k : Q (.v (.bl true)) h) : (callF G (n + 2) "_law_is_ring" [x, y] h).wp Q E := is_ring_okB F.ii F.ri hx hy hr hL hd hl k
end
end Ld

/-! Ld5: lists that a law judges, as data. -/
namespace Ld
open PySem Ip Pg
section
variable {G : Prog} {n : Nat} {h : IHeap}
/-- lists that the law judges -/
structure Good (L : List (List Int)) : Prop where
  n : L.length ≤ 8
  i : ∀ l ∈ L, Item12 l
  u : ∃ U : List Int, U.Nodup ∧ U.length ≤ 63 ∧ ∀ l ∈ L, ∀ x ∈ l, x ∈ U
theorem Good.fine {L : List (List Int)} (g : Good L) : Fine L := ⟨Nat.le_trans g.n (by omega), fun l hl => Nat.le_trans (g.i l hl).n (by omega), fun l hl => (g.i l hl).d⟩
theorem total_le {L : List (List Int)} {c : Nat} (h : ∀ l ∈ L, l.length ≤ c) : total L ≤ c * L.length := by
  induction L with
  | nil => simp [total]
  | cons l L ih =>
    rw [total_cons]
    have := h l List.mem_cons_self
    have := ih fun m hm => h m (List.mem_cons_of_mem _ hm)
    rw [List.length_cons, Nat.mul_add]; omega
theorem Good.total {L : List (List Int)} (g : Good L) : total L ≤ 96 := by
  have := total_le (c := 12) fun l hl => (g.i l hl).n
  have := g.n
  omega
theorem big_short {x : Int} (h : big x) : shortI x := by
  unfold big bigA at h
  refine shortI_of ?_
  have e : (10 : Nat) ^ 40 = 10 ^ 30 * 10 ^ 10 := by rw [← Nat.pow_add]
  have e2 : ((10 : Int) ^ 30) = ((10 ^ 30 : Nat) : Int) := by simp
  rw [e2] at h
  rw [e]
  generalize 10 ^ 30 = A at *
  omega
theorem mgo_mem : ∀ (n : Nat) (left : List (List Int)) (found o : List Int) (lf : List (List Int)), mgo n left found = (some o, lf) → (∀ x ∈ o, x ∈ found ∨ ∃ l ∈ left, x ∈ l) ∧ o.length ≤ found.length + n
  | 0, left, found, o, lf, e => by
    cases e
    exact ⟨fun x hx => .inl hx, by omega⟩
  | n + 1, left, found, o, lf, e => by
    rw [mgo] at e
    split at e
    · cases e; exact ⟨fun x hx => .inl hx, by omega⟩
    · split at e
      · cases e
      · rename_i f fs hf
        obtain ⟨h1, h2⟩ := mgo_mem n _ _ o lf e
        obtain ⟨r, hr⟩ := frees_mem (show f ∈ frees left by rw [hf]; exact List.mem_cons_self)
        refine ⟨fun x hx => ?_, by simp at h2; omega⟩
        rcases h1 x hx with h | ⟨l, hl, hx2⟩
        · rcases List.mem_append.mp h with h | h
          · exact .inl h
          · rw [List.mem_singleton.mp h]; exact .inr ⟨_, hr, List.mem_cons_self⟩
        · obtain ⟨m, hm, rfl⟩ := List.mem_map.mp hl
          refine .inr ⟨m, hm, ?_⟩
          split at hx2
          · exact List.mem_of_mem_drop hx2
          · exact hx2
theorem Good.order {L lf : List (List Int)} {o : List Int} (g : Good L) (e : merged L = (some o, lf)) : (∀ x ∈ o, shortI x) ∧ o.length ≤ 97 := by
  obtain ⟨h1, h2⟩ := mgo_mem _ _ _ _ _ e
  refine ⟨fun x hx => ?_, by have := g.total; simp at h2; omega⟩
  rcases h1 x hx with h | ⟨l, hl, hx⟩
  · cases h
  · exact big_short ((g.i l hl).b x hx)
theorem ring_mem {L : List (List Int)} {ring : List (Int × Nat)} (hr : IsRing L ring) : ∀ p ∈ ring, p.2 < L.length ∧ ∃ l ∈ L, p.1 ∈ l := fun p hp => by
  obtain ⟨k, hk, e⟩ := List.getElem_of_mem hp
  have hm : (k + 1) % ring.length < ring.length := Nat.mod_lt _ (by omega)
  obtain ⟨l, h1, h2⟩ := hr.ok k p _ (by rw [← e]; exact List.getElem?_eq_getElem hk) (List.getElem?_eq_getElem hm)
  exact ⟨(List.getElem?_eq_some_iff.mp h1).1, l, List.mem_of_getElem? h1, h2.mem (by simp)⟩
def datP (p : Int × Nat) : PyData := .tuple [.int p.1, .int (p.2 : Nat)]
theorem toDs_pairs (ring : List (Int × Nat)) : toDs (ring.map pairV) = some (ring.map datP) := toDs_map fun p _ => by simp [pairV, datP]
theorem Dg_datL {l : List Int} {m : Nat} (h : ∀ x ∈ l, shortI x) (hl : l.length ≤ m) : Dg 1 m (datL l) := by
  have := Dg.list (k := 0) (m := 0) (n := m) (ds := l.map .int) (fun d hd => by
    obtain ⟨x, hx, rfl⟩ := List.mem_map.mp hd
    exact Dg.int (h x hx)) (by simpa using hl)
  simpa [datL] using this
theorem Dg_lists {L : List (List Int)} (g : Good L) : Dg 2 104 (.list (L.map datL)) := by
  have := Dg.list (k := 1) (m := 12) (n := 8) (ds := L.map datL) (fun d hd => by
    obtain ⟨l, hl, rfl⟩ := List.mem_map.mp hd
    exact Dg_datL (fun x hx => big_short ((g.i l hl).b x hx)) (g.i l hl).n) (by simpa using g.n)
  simpa using this
theorem short_nat {n : Nat} (h : n ≤ 1000000) : shortI (n : Int) := shortI_of (by
  have : (10 : Nat) ^ 40 = 10 ^ 7 * 10 ^ 33 := by rw [← Nat.pow_add]
  have h2 : 0 < (10 : Nat) ^ 33 := Nat.pow_pos (by omega)
  rw [this]
  generalize 10 ^ 33 = A at *
  have : 1 * 10 ^ 7 ≤ A * 10 ^ 7 := Nat.mul_le_mul_right _ h2
  rw [Nat.mul_comm]
  have e : (10 : Nat) ^ 7 = 10000000 := by decide
  rw [e] at this ⊢
  omega)
theorem Dg_word {w : String} {d : PyData} {k m : Nat} (h : Dg k m d) (hw : PyData.strOk (sO w) = true) (hl : (sO w).length ≤ 10) (hm : 10 ≤ m) : Dg (k + 1) (2 * (m + 1)) (.tuple [.str (sO w), d]) := by
  refine Dg.tup (fun e he => ?_) (by simp)
  simp at he
  rcases he with rfl | rfl
  · exact (Dg.str (k := 0) hw hl).mono (by omega) hm
  · exact h
theorem Dg_ring {L : List (List Int)} {ring : List (Int × Nat)} (g : Good L) (hr : IsRing L ring) (hl : ring.length ≤ 100) : Dg 2 300 (.list (ring.map datP)) := by
  have := Dg.list (k := 1) (m := 2) (n := 100) (ds := ring.map datP) (fun d hd => by
    obtain ⟨p, hp, rfl⟩ := List.mem_map.mp hd
    obtain ⟨h1, l, h2, h3⟩ := ring_mem hr p hp
    have := Dg.tup (k := 0) (m := 0) (n := 2) (ds := [.int p.1, .int (p.2 : Nat)]) (fun d hd => by
      simp at hd
      have := g.n
      rcases hd with rfl | rfl
      · exact Dg.int (big_short ((g.i l h2).b _ h3))
      · exact Dg.int (short_nat (by omega))) (by simp)
    simpa [datP] using this) (by simpa using hl)
  simpa using this
theorem ring_len {L : List (List Int)} {ring : List (Int × Nat)} (g : Good L) (hr : IsRing L ring) : ring.length ≤ 63 := by
  obtain ⟨U, u1, u2, u3⟩ := g.u
  have := List.Nodup.length_le_of_subset hr.nd (fun x hx => by
    obtain ⟨p, hp, rfl⟩ := List.mem_map.mp hx
    obtain ⟨_, l, h2, h3⟩ := ring_mem hr p hp
    exact u3 l h2 _ h3 : ring.map (·.1) ⊆ U)
  simp at this; omega
theorem get_last {h : IHeap} {c : Option IV} : (h ++ [c])[h.length]? = some c := by simp
theorem get_two {h : IHeap} {c d : Option IV} : (h ++ [c, d])[h.length + 1]? = some d := by rw [List.getElem?_append_right (by omega)]; simp
theorem get_fst {h : IHeap} {c d : Option IV} : (h ++ [c, d])[h.length]? = some c := by simp
theorem get3_0 {h : IHeap} {c d e : Option IV} : (h ++ [c, d, e])[h.length]? = some c := by simp
theorem get3_2 {h : IHeap} {c d e : Option IV} : (h ++ [c, d, e])[h.length + 2]? = some e := by rw [List.getElem?_append_right (by omega)]; simp
theorem set_fst {h : IHeap} {c d e : Option IV} : (h ++ [c, d]).set h.length e = h ++ [e, d] := by simp
theorem set_last {h : IHeap} {c d : Option IV} : (h ++ [c]).set h.length d = h ++ [d] := by simp
theorem get_old {h g : IHeap} {t : Nat} (ht : t < h.length) : (h ++ g)[t]? = h[t]? := List.getElem?_append_left ht
end
end Ld

/-! Pg3: the judges of papers, at right papers. -/
namespace Ip
open PySem
/-- the length of a set comprehension over items at hand, without a test -/
theorem wp_lsc {α : Type} {G : Prog} {call : Caller} {e : CE} {t : Tgt} {it : IT} {own : List (String × Nat)} {r : List Slot} {h : IHeap} {Q : RV → IS → Prop} {E : XPost} (enc : α → IV) (f : α → Int) (as : List α)
    (hw : evW G call it ⟨r, h⟩ = .ok (.items (as.map enc)) ⟨r, h⟩) (hf : freeI r (own.map (·.2)) = true) (hs : as.length ≤ 4000)
    (ht : ∀ a ∈ as, ∃ r2, bindT t (enc a) ⟨wipeI r (own.map (·.2)), h⟩ = some ⟨r2, h⟩ ∧ wipeI r2 (own.map (·.2)) = wipeI r (own.map (·.2)) ∧ ∀ J : RV → IS → Prop, (∀ v, v.get = .int (f a) → J v ⟨r2, h⟩) → (evF G call e ⟨r2, h⟩).wp J NoX)
    (hq : Q (.v (.int (firsts (as.map f).reverse).length)) ⟨r, h⟩) : (evF G call (.lsc e t it none own) ⟨r, h⟩).wp Q E := by
  have go : ∀ (zs : List α) (acc : List Int) (r' : List Slot), (∀ a ∈ zs, a ∈ as) → acc.length + zs.length ≤ 4000 → wipeI r' (own.map (·.2)) = wipeI r (own.map (·.2)) →
      ∃ r'', wipeI r'' (own.map (·.2)) = wipeI r (own.map (·.2)) ∧ foldW (scTurn t (evTo G call none) (evF G call e) (own.map (·.2))) (zs.map enc) acc ⟨r', h⟩ = .ok ((zs.map f).reverse ++ acc) ⟨r'', h⟩ := by
    intro zs
    induction zs with
    | nil => intro acc r' _ _ hr; exact ⟨r', hr, rfl⟩
    | cons z zs ih =>
      intro acc r' hm hl hr
      simp only [List.length_cons] at hl
      obtain ⟨r2, e1, e2, e3⟩ := ht z (hm z List.mem_cons_self)
      obtain ⟨v, s, e4, e5⟩ := Out.wp_inv (e3 (fun v s => v.get = .int (f z) ∧ s = ⟨r2, h⟩) fun v hv => ⟨hv, rfl⟩)
      obtain ⟨e5, rfl⟩ := e5
      have tn : scTurn t (evTo G call none) (evF G call e) (own.map (·.2)) acc (enc z) ⟨r', h⟩ = .ok (f z :: acc) ⟨wipeI r (own.map (·.2)), h⟩ := by
        unfold scTurn
        rw [hr, e1]
        have t0 : evTo G call none ⟨r2, h⟩ = .ok true ⟨r2, h⟩ := by rw [evTo]
        simp only [Out.of_some, Out.bind_ok, t0, Out.noX_ok, if_true, e4, sOf_ok, e5, stor_int]
        rw [if_pos (show acc.length < 4000 by omega), e2]
      obtain ⟨r'', q1, q2⟩ := ih (f z :: acc) (wipeI r (own.map (·.2))) (fun a ha => hm a (List.mem_cons_of_mem _ ha)) (by simp only [List.length_cons]; omega) wipeI_idem
      refine ⟨r'', q1, ?_⟩
      rw [List.map_cons, foldW, tn]
      show foldW _ _ _ _ = _
      rw [q2]; simp
  obtain ⟨r', q1, q2⟩ := go as [] r (fun _ h => h) (by simpa using hs) rfl
  have : evF G call (.lsc e t it none own) ⟨r, h⟩ = .ok (.v (.int (firsts (as.map f).reverse).length)) ⟨r, h⟩ := by
    unfold evF
    rw [hw]
    show (if freeI r (own.map (·.2)) = true then (foldW (scTurn t (evTo G call none) (evF G call e) (own.map (·.2))) (as.map enc) [] ⟨r, h⟩).bind _ else _) = _
    rw [if_pos hf, q2]
    show Out.ok _ ⟨backI r r' (own.map (·.2)), h⟩ = _
    rw [backI_wipe hf q1]; simp
  rw [this, Out.wp_ok]; exact hq
end Ip
namespace Jg
open PySem Ip Ld Pg
abbrev iL (l : List Int) : IV := .lst (l.map .int)
def is_link_e1 : CE := (.call "is_integer" [(.slot 2)])
def is_link_c : List CS := [.ite (.boo .Or [(.not (.bi (.isi "tuple") (.slot 1))), (.cmp .NotEq (.bi .len (.slot 1)) (.lit (.int 2))), (.not (.bi .all (.lc is_link_e1 (.name 2) (.it (.slot 1)) none [("part", 2)])))]) [.ret (.lit (.bl false))] [], .ret (.boo .And [(.chain .LtE .Lt (.lit (.int 0)) (.sub (.slot 1) (.lit (.int 1))) (.bi .len (.slot 0))), (.cmp .In (.sub (.slot 1) (.lit (.int 0))) (.sub (.slot 0) (.sub (.slot 1) (.lit (.int 1)))))])]
def is_link_d : FnDef := ⟨"is_link", 2, ["lists", "link", "part"], is_link_c⟩
def is_ring_e1 : CE := (.call "is_link" [(.slot 0), (.slot 2)])
def is_ring_e2 : CE := (.slot 3)
def is_ring_b3 : List CS := [.ite (.boo .Or [(.cmp .NotIn (.slot 5) (.sub (.slot 0) (.slot 4))), (.cmp .Gt (.index (.sub (.slot 0) (.slot 4)) (.slot 3)) (.index (.sub (.slot 0) (.slot 4)) (.slot 5)))]) [.ret (.lit (.bl false))] []]
def is_ring_c : List CS := [.ite (.boo .Or [(.not (.bi (.isi "list") (.slot 1))), (.cmp .Lt (.bi .len (.slot 1)) (.lit (.int 2))), (.not (.bi .all (.lc is_ring_e1 (.name 2) (.it (.slot 1)) none [("link", 2)])))]) [.ret (.lit (.bl false))] [], .ite (.cmp .Lt (.lsc is_ring_e2 (.tup [(.name 3), (.name 4)]) (.it (.slot 1)) none [("item", 3), ("at", 4)]) (.bi .len (.slot 1))) [.ret (.lit (.bl false))] [], .for (.tup [(.tup [(.name 3), (.name 4)]), (.tup [(.name 5), (.name 6)])]) (.zip (.slot 1) (.bin .Add (.slc (.slot 1) (some (.lit (.int 1))) none) (.slc (.slot 1) none (some (.lit (.int 1)))))) is_ring_b3, .ret (.lit (.bl true))]
def is_ring_d : FnDef := ⟨"is_ring", 2, ["lists", "ring", "link", "item", "at", "other", "place"], is_ring_c⟩
def shows_merge_c : List CS := [.asg (.tgt (.name 2)) (.call "merge" [(.slot 0)]), .ite (.boo .Or [(.not (.bi (.isi "tuple") (.slot 1))), (.cmp .NotEq (.bi .len (.slot 1)) (.lit (.int 2))), (.not (.bi (.isi "str") (.sub (.slot 1) (.lit (.int 0)))))]) [.ret (.lit (.bl false))] [], .ite (.cmp .Eq (.sub (.slot 1) (.lit (.int 0))) (.lit (.str (sO "ring")))) [.ret (.call "is_ring" [(.slot 0), (.sub (.slot 1) (.lit (.int 1)))])] [], .ret (.boo .And [(.cmp .Eq (.sub (.slot 1) (.lit (.int 0))) (.lit (.str (sO "order")))), (.call "are_integers" [(.sub (.slot 1) (.lit (.int 1)))]), (.cmp .Eq (.slot 1) (.slot 2))])]
def shows_merge_d : FnDef := ⟨"shows_merge", 2, ["lists", "paper", "found"], shows_merge_c⟩
section
variable {G : Prog} {n : Nat} {h : IHeap}
structure JgFns (G : Prog) : Prop where
  m : MgFns G
  k : G.fn "is_link" = some is_link_d
  r : G.fn "is_ring" = some is_ring_d
  s : G.fn "shows_merge" = some shows_merge_d
theorem bools_all {α : Type} (xs : List α) : bools? (xs.map fun _ => IV.bl true) = some (xs.map fun _ => true) := bools_true xs
theorem is_link_ok {Q : RV → IHeap → Prop} {E : XPost} (F : JgFns G) {L : List (List Int)} {p : Int × Nat} {l : List Int} (hl : L[p.2]? = some l) (hp : p.1 ∈ l) (k : Q (.v (.bl true)) h) : (callF G (n + 2) "is_link" [.lst (L.map iL), pairV p] h).wp Q E := by
  refine wp_fn F.k rfl ?_
  have ist : ∀ xs, isiC (.tup xs) "tuple" = some true := fun _ => rfl
  obtain ⟨hk, hl2⟩ := List.getElem?_eq_some_iff.mp hl
  have a2 : L2.atI (L.map iL) ((p.2 : Nat) : Int) = some (iL l) := by rw [atI_nat, List.getElem?_map, hl]; rfl
  have c1 : (0 : Int) ≤ (p.2 : Int) := by omega
  have c2 : (p.2 : Int) < (L.length : Int) := by omega
  simp (disch := omega) [small_t, i64_t, i62_t, ixN_nat, atI_lt, atI_map, map_erase, List.getElem?_cons_zero, List.getElem?_eq_getElem, and_assoc, ← List.map_tail, ← List.map_drop, ← List.map_take, is_link_d, is_link_c, startI, pairV, ist]
  refine wp_lc IV.int [p.1, (p.2 : Int)] (fun pre acc h' => h' = h ∧ acc = pre.map fun _ => .bl true) ?_ rfl ?_ ?_
  · intro J hJ
    simp (disch := omega) [small_t, i64_t, i62_t, ixN_nat, atI_lt, atI_map, map_erase, List.getElem?_cons_zero, List.getElem?_eq_getElem, and_assoc, ← List.map_tail, ← List.map_drop, ← List.map_take]
    exact hJ h ⟨rfl, rfl⟩
  · rintro a pre acc h' J ha ⟨rfl, rfl⟩ hp1 hp2 hJ
    refine ⟨[.val (.lst (L.map iL)), .val (.tup [.int p.1, .int (p.2 : Nat)]), .val (.int a)], by simp, by simp, ?_⟩
    have e1 := is_integer_ok (n := n) (h := h') F.m.i a
    simp at hp1
    simp (disch := omega) [small_t, i64_t, i62_t, ixN_nat, atI_lt, atI_map, map_erase, List.getElem?_cons_zero, List.getElem?_eq_getElem, and_assoc, ← List.map_tail, ← List.map_drop, ← List.map_take, is_link_e1, e1]
    first | exact hJ _ _ ⟨rfl, by simp⟩ | skip
  · rintro ys h' ⟨rfl, rfl⟩ hl3
    have b1 := bools_true [p.1, (p.2 : Int)]
    simp at b1
    simp (disch := omega) [small_t, i64_t, i62_t, ixN_nat, atI_lt, atI_map, map_erase, List.getElem?_cons_zero, List.getElem?_eq_getElem, and_assoc, ← List.map_tail, ← List.map_drop, ← List.map_take, b1, a2, c1, c2, hp]
    exact k
theorem rot_get {α : Type} {xs : List α} {k : Nat} (hk : k < xs.length) : (xs.drop 1 ++ xs.take 1)[k]? = xs[(k + 1) % xs.length]? := by
  by_cases h : k + 1 < xs.length
  · rw [List.getElem?_append_left (by simp; omega), Nat.mod_eq_of_lt h, List.getElem?_drop, Nat.add_comm]
  · have e : k + 1 = xs.length := by omega
    rw [List.getElem?_append_right (by simp; omega), e, Nat.mod_self, List.length_drop, List.getElem?_take]
    simp
    split
    · congr 1
    · omega
theorem zipI_map {α β : Type} (f : α → IV) (g : β → IV) : ∀ (xs : List α) (ys : List β), zipI (xs.map f) (ys.map g) = (xs.zip ys).map fun p => .tup [f p.1, g p.2]
  | [], ys => by cases ys <;> rfl
  | x :: xs, [] => rfl
  | x :: xs, y :: ys => by rw [List.map_cons, List.map_cons, zipI, zipI_map f g xs ys]; rfl
theorem is_ring_ok {Q : RV → IHeap → Prop} {E : XPost} (F : JgFns G) {L : List (List Int)} {ring : List (Int × Nat)} (hr : IsRing L ring) (hL : L.length ≤ 30) (hd : ∀ l ∈ L, l.Nodup) (hl : ring.length ≤ 100)
    (k : Q (.v (.bl true)) h) : (callF G (n + 3) "is_ring" [.lst (L.map iL), .lst (ring.map pairV)] h).wp Q E := by
  refine wp_fn F.r rfl ?_
  have stP : ∀ p, stor (pairV p) = true := fun _ => rfl
  have two : ¬ (ring.length : Int) < 2 := by have := hr.two; omega
  have isl : ∀ xs, isiC (.lst xs) "list" = some true := fun _ => rfl
  have gi : ∀ k : Nat, (hk : k < ring.length) → ring[k]? = some ring[k] := fun k hk => List.getElem?_eq_getElem hk
  simp (disch := omega) [small_t, i64_t, i62_t, ixN_nat, atI_lt, atI_map, map_erase, List.getElem?_cons_zero, List.getElem?_eq_getElem, and_assoc, ← List.map_tail, ← List.map_drop, ← List.map_take, is_ring_d, is_ring_c, startI, two, isl]
  refine wp_lcm pairV ring (fun _ => .bl true) (by simp) (.inl rfl) rfl (by omega) (fun _ _ => rfl) ?_ (fun _ _ => rfl) ?_
  · intro p hp J hJ
    obtain ⟨i, hi, e⟩ := List.getElem_of_mem hp
    have hm : (i + 1) % ring.length < ring.length := Nat.mod_lt _ (by omega)
    obtain ⟨l, h1, h2⟩ := hr.ok i p _ (by rw [← e]; exact gi i hi) (gi _ hm)
    simp (disch := omega) [small_t, i64_t, i62_t, ixN_nat, atI_lt, atI_map, map_erase, List.getElem?_cons_zero, List.getElem?_eq_getElem, and_assoc, ← List.map_tail, ← List.map_drop, ← List.map_take, is_ring_e1, stP]
    refine is_link_ok (n := n) F h1 (h2.mem (by simp)) ?_
    simp (disch := omega) [small_t, i64_t, i62_t, ixN_nat, atI_lt, atI_map, map_erase, List.getElem?_cons_zero, List.getElem?_eq_getElem, and_assoc, ← List.map_tail, ← List.map_drop, ← List.map_take]
    exact hJ _ rfl
  have b1 := bools_true ring
  have b2 : (ring.map fun _ => true).all id = true := by simp
  simp (disch := omega) [small_t, i64_t, i62_t, ixN_nat, atI_lt, atI_map, map_erase, List.getElem?_cons_zero, List.getElem?_eq_getElem, and_assoc, ← List.map_tail, ← List.map_drop, ← List.map_take, b1, b2]
  refine wp_lsc pairV (·.1) ring (by simp (disch := omega) [small_t, i64_t, i62_t, ixN_nat, atI_lt, atI_map, map_erase, List.getElem?_cons_zero, List.getElem?_eq_getElem, and_assoc, ← List.map_tail, ← List.map_drop, ← List.map_take]) rfl (by omega) ?_ ?_
  · intro p hp
    refine ⟨[.val (.lst (L.map iL)), .val (.lst (ring.map pairV)), .un, .val (.int p.1), .val (.int (p.2 : Nat)), .un, .un], by simp [pairV], by simp, fun J hJ => ?_⟩
    simp (disch := omega) [small_t, i64_t, i62_t, ixN_nat, atI_lt, atI_map, map_erase, List.getElem?_cons_zero, List.getElem?_eq_getElem, and_assoc, ← List.map_tail, ← List.map_drop, ← List.map_take, is_ring_e2]
    exact hJ _ rfl
  have fo := firsts_of_nodup (l := (ring.map (·.1)).reverse) ((List.reverse_perm _).nodup_iff.mpr hr.nd)
  rw [fo]
  have ln : (ring.map (·.1)).reverse.length = ring.length := by simp
  simp (disch := omega) [small_t, i64_t, i62_t, ixN_nat, atI_lt, atI_map, map_erase, List.getElem?_cons_zero, List.getElem?_eq_getElem, and_assoc, ← List.map_tail, ← List.map_drop, ← List.map_take, ln]
  refine wpS_forI (fun q : (Int × Nat) × (Int × Nat) => .tup [pairV q.1, pairV q.2]) (ring.zip (ring.drop 1 ++ ring.take 1)) (fun pre st => ∃ s2 s3 s4 s5 s6, st = ⟨[.val (.lst (L.map iL)), .val (.lst (ring.map pairV)), s2, s3, s4, s5, s6], h⟩) ?_ ?_ ?_
  · intro J hJ
    have e1 : (ring.map pairV).drop 1 ++ (ring.map pairV).take 1 = (ring.drop 1 ++ ring.take 1).map pairV := by simp
    have sz : small (ring.length - 1 + min 1 ring.length) = true := small_t (by omega)
    simp (disch := omega) [small_t, i64_t, i62_t, ixN_nat, atI_lt, atI_map, map_erase, List.getElem?_cons_zero, List.getElem?_eq_getElem, and_assoc, ← List.map_tail, ← List.map_drop, ← List.map_take, sz]
    have := hJ ⟨[.val (.lst (L.map iL)), .val (.lst (ring.map pairV)), .un, .un, .un, .un, .un], h⟩ ⟨_, _, _, _, _, rfl⟩
    rw [← zipI_map, ← e1] at this
    simp (disch := omega) [small_t, i64_t, i62_t, ixN_nat, atI_lt, atI_map, map_erase, List.getElem?_cons_zero, List.getElem?_eq_getElem, and_assoc, ← List.map_tail, ← List.map_drop, ← List.map_take] at this
    first | exact this | (trace_state; skip)
  · rintro ⟨p, q⟩ pre st J hpq hlen ⟨s2, s3, s4, s5, s6, rfl⟩ hJ
    refine ⟨⟨[.val (.lst (L.map iL)), .val (.lst (ring.map pairV)), s2, .val (.int p.1), .val (.int (p.2 : Nat)), .val (.int q.1), .val (.int (q.2 : Nat))], h⟩, by simp [pairV], ?_⟩
    obtain ⟨i, hi, e⟩ := List.getElem_of_mem hpq
    have hi1 : i < ring.length := by simp at hi; omega
    have e1 : ring[i]? = some p := by
      rw [List.getElem_zip] at e
      rw [gi i hi1]; exact congrArg some (congrArg Prod.fst e)
    have e2 : ring[(i + 1) % ring.length]? = some q := by
      rw [List.getElem_zip] at e
      rw [← rot_get hi1]
      have : i < (ring.drop 1 ++ ring.take 1).length := by simp; omega
      rw [List.getElem?_eq_getElem this]; exact congrArg some (congrArg Prod.snd e)
    obtain ⟨l, h1, h2⟩ := hr.ok i p q e1 e2
    obtain ⟨q1, q2, q3⟩ := sub2_idx (hd l (List.mem_of_getElem? h1)) h2
    have a2 : L2.atI (L.map iL) ((p.2 : Nat) : Int) = some (iL l) := by rw [atI_nat, List.getElem?_map, h1]; rfl
    have i1 := fun st => indexS_ints (st := st) q1
    have i2 := fun st => indexS_ints (st := st) q2
    have c3 : ¬ (((l.idxOf q.1 : Nat) : Int) < (l.idxOf p.1 : Nat)) := by omega
    simp (disch := omega) [small_t, i64_t, i62_t, ixN_nat, atI_lt, atI_map, map_erase, List.getElem?_cons_zero, List.getElem?_eq_getElem, and_assoc, ← List.map_tail, ← List.map_drop, ← List.map_take, is_ring_b3, a2, q2, i1, i2, c3]
    exact hJ _ ⟨_, _, _, _, _, rfl⟩
  · rintro st ⟨s2, s3, s4, s5, s6, rfl⟩
    simp (disch := omega) [small_t, i64_t, i62_t, ixN_nat, atI_lt, atI_map, map_erase, List.getElem?_cons_zero, List.getElem?_eq_getElem, and_assoc, ← List.map_tail, ← List.map_drop, ← List.map_take]
    exact k
/-- the paper that merge gives is right -/
theorem shows_order_ok {Q : RV → IHeap → Prop} {E : XPost} (F : JgFns G) {L lf : List (List Int)} {o : List Int} (hL : Fine L) (ht : total L ≤ 900) (e : merged L = (some o, lf)) (ho : ∀ x ∈ o, shortI x)
    (k : Q (.v (.bl true)) h) : (callF G (n + 5) "shows_merge" [.lst (L.map iL), .tup [.str (sO "order"), iL o]] h).wp Q E := by
  refine wp_fn F.s rfl ?_
  have m1 := merge_ok (n := n) (h := h) F.m hL ht (x := .lst (L.map iL)) (.inl rfl)
  rw [e] at m1
  obtain ⟨om, ol⟩ := mgo_mem _ _ _ _ _ e
  have ol : o.length ≤ 901 := by simp at ol; omega
  have d1 : Dg 2 1804 (.tuple [.str (sO "order"), datL o]) := Dg_word (w := "order") (Dg_datL ho ol) (by decide +kernel) (by decide +kernel) (by omega)
  have q1 : eqD (.tuple [.str (sO "order"), datL o]) (.tuple [.str (sO "order"), datL o]) = some true := by
    have := eqD_Dg d1 d1 (by omega) (by omega)
    simpa using this
  have ist : ∀ xs, isiC (.tup xs) "tuple" = some true := fun _ => rfl
  have iss : ∀ x, isiC (.str x) "str" = some true := fun _ => rfl
  have ne : ¬ sO "order" = sO "ring" := by decide +kernel
  have ai := are_integers_ok (n := n + 2) (h := h) F.m.a F.m.i (xs := o) (small_t (by omega))
  simp only [datL, Pg.iL] at *
  simp (disch := omega) [small_t, i64_t, i62_t, ixN_nat, atI_lt, atI_map, map_erase, List.getElem?_cons_zero, List.getElem?_eq_getElem, and_assoc, ← List.map_tail, ← List.map_drop, ← List.map_take, shows_merge_d, shows_merge_c, startI, m1, ist, iss, ne, ai, q1]
  exact k
theorem shows_ring_ok {Q : RV → IHeap → Prop} {E : XPost} (F : JgFns G) {L lf : List (List Int)} (hL : Fine L) (ht : total L ≤ 900) (e : merged L = (none, lf)) (hl : (ringOf lf).length ≤ 100)
    (k : Q (.v (.bl true)) h) : (callF G (n + 5) "shows_merge" [.lst (L.map iL), .tup [.str (sO "ring"), ringV lf]] h).wp Q E := by
  refine wp_fn F.s rfl ?_
  have m1 := merge_ok (n := n) (h := h) F.m hL ht (x := .lst (L.map iL)) (.inl rfl)
  rw [e] at m1
  have hr := merged_ring hL.d hL.n e
  have ist : ∀ xs, isiC (.tup xs) "tuple" = some true := fun _ => rfl
  have iss : ∀ x, isiC (.str x) "str" = some true := fun _ => rfl
  simp only [ringV] at *
  simp (disch := omega) [small_t, i64_t, i62_t, ixN_nat, atI_lt, atI_map, map_erase, List.getElem?_cons_zero, List.getElem?_eq_getElem, and_assoc, ← List.map_tail, ← List.map_drop, ← List.map_take, shows_merge_d, shows_merge_c, startI, m1, ist, iss]
  refine is_ring_ok (n := n + 1) F hr hL.n hL.d hl ?_
  simp (disch := omega) [small_t, i64_t, i62_t, ixN_nat, atI_lt, atI_map, map_erase, List.getElem?_cons_zero, List.getElem?_eq_getElem, and_assoc, ← List.map_tail, ← List.map_drop, ← List.map_take]
  exact k
end
end Jg

namespace K04
open PySem PySem.Spec PyProof.Rows L2 Ip
def is_integer_c : List CS := [.ret (.boo .And [(.bi (.isi "int") (.slot 0)), (.not (.bi (.isi "bool") (.slot 0)))])]
def is_integer_d : FnDef := ⟨"is_integer", 1, ["value"], is_integer_c⟩
def are_integers_e1 : CE := (.call "is_integer" [(.slot 1)])
def are_integers_c : List CS := [.ret (.boo .And [(.bi (.isi "list") (.slot 0)), (.bi .all (.lc are_integers_e1 (.name 1) (.it (.slot 0)) none [("item", 1)]))])]
def are_integers_d : FnDef := ⟨"are_integers", 1, ["value", "item"], are_integers_c⟩
def check_lists_e1 : CE := (.call "are_integers" [(.slot 1)])
def check_lists_e2 : CE := (.cmp .Gt (.bi .len (.slot 1)) (.glo "MOST_ITEMS"))
def check_lists_b3 : List CS := [.ite (.cmp .In (.slot 3) (.slc (.slot 1) none (some (.slot 2)))) [.never] []]
def check_lists_b4 : List CS := [.for (.tup [(.name 2), (.name 3)]) (.enum (.slot 1)) check_lists_b3]
def check_lists_c : List CS := [.ite (.boo .Or [(.not (.bi (.isi "list") (.slot 0))), (.not (.bi .all (.lc check_lists_e1 (.name 1) (.it (.slot 0)) none [("one", 1)])))]) [.never] [], .ite (.boo .Or [(.cmp .Gt (.bi .len (.slot 0)) (.glo "MOST_LISTS")), (.bi .any (.lc check_lists_e2 (.name 1) (.it (.slot 0)) none [("one", 1)]))]) [.never] [], .for (.name 1) (.it (.slot 0)) check_lists_b4]
def check_lists_d : FnDef := ⟨"check_lists", 1, ["lists", "one", "at", "item"], check_lists_c⟩
def list_behind_b1 : List CS := [.ite (.cmp .In (.slot 1) (.slc (.slot 3) (some (.lit (.int 1))) none)) [.ret (.slot 2)] []]
def list_behind_c : List CS := [.for (.tup [(.name 2), (.name 3)]) (.enum (.slot 0)) list_behind_b1, .ret (.lit .non)]
def list_behind_d : FnDef := ⟨"list_behind", 2, ["left", "item", "at", "one"], list_behind_c⟩
def ring_in_e1 : CE := (.sub (.slot 2) (.lit (.int 0)))
def ring_in_i2 : CE := (.cmp .NotEq (.slot 2) (.lst []))
def ring_in_w3 : List CS := [.asg (.tgt (.name 4)) (.boo .Or [(.call "list_behind" [(.slot 0), (.sub (.slot 1) (.neg (.lit (.int 1))))]), (.lit (.int 0))]), .asg (.tgt (.name 5)) (.sub (.sub (.slot 0) (.slot 4)) (.lit (.int 0))), .ite (.cmp .In (.slot 5) (.slot 1)) [.asg (.tgt (.name 6)) (.index (.slot 1) (.slot 5)), .ret (.bin .Add (.lst [(.tup [(.slot 5), (.slot 4)])]) (.rev (.bi2 .zipl (.slc (.slot 1) (some (.bin .Add (.slot 6) (.lit (.int 1)))) none) (.slc (.slot 3) (some (.slot 6)) none))))] [], .expr (.app (.slot 1) (.slot 5)), .expr (.app (.slot 3) (.slot 4))]
def ring_in_c : List CS := [.asg (.own 1) (.lst [(.sub (.lc ring_in_e1 (.name 2) (.it (.slot 0)) (some ring_in_i2) [("one", 2)]) (.lit (.int 0)))]), .asg (.own 3) (.lst []), .whl 100000 (.lit (.bl true)) ring_in_w3]
def ring_in_d : FnDef := ⟨"ring_in", 1, ["left", "walk", "one", "via", "at", "ahead", "first"], ring_in_c⟩
def merge_e1 : CE := (.bi .list (.slot 2))
def merge_e2 : CE := (.sub (.slot 2) (.lit (.int 0)))
def merge_i3 : CE := (.boo .And [(.cmp .NotEq (.slot 2) (.lst [])), (.cmp .Is (.call "list_behind" [(.slot 1), (.sub (.slot 2) (.lit (.int 0)))]) (.lit .non))])
def merge_e4 : CE := (.ife (.cmp .Eq (.slc (.slot 2) none (some (.lit (.int 1)))) (.slc (.slot 4) none (some (.lit (.int 1))))) (.slc (.slot 2) (some (.lit (.int 1))) none) (.slot 2))
def merge_w5 : List CS := [.asg (.tgt (.name 4)) (.lc merge_e2 (.name 2) (.it (.slot 1)) (some merge_i3) [("one", 2)]), .ite (.cmp .Eq (.slot 4) (.lst [])) [.ret (.tup [(.lit (.str (sO "ring"))), (.call "ring_in" [(.slot 1)])])] [], .expr (.app (.slot 3) (.sub (.slot 4) (.lit (.int 0)))), .asg (.tgt (.name 1)) (.lc merge_e4 (.name 2) (.it (.slot 1)) none [("one", 2)])]
def merge_c : List CS := [.expr (.call "check_lists" [(.slot 0)]), .asg (.tgt (.name 1)) (.lc merge_e1 (.name 2) (.it (.slot 0)) none [("one", 2)]), .asg (.own 3) (.lst []), .whl 100000 (.bi .any (.slot 1)) merge_w5, .ret (.tup [(.lit (.str (sO "order"))), (.move 3)])]
def merge_d : FnDef := ⟨"merge", 1, ["lists", "left", "one", "found", "free"], merge_c⟩
def is_link_e1 : CE := (.call "is_integer" [(.slot 2)])
def is_link_c : List CS := [.ite (.boo .Or [(.not (.bi (.isi "tuple") (.slot 1))), (.cmp .NotEq (.bi .len (.slot 1)) (.lit (.int 2))), (.not (.bi .all (.lc is_link_e1 (.name 2) (.it (.slot 1)) none [("part", 2)])))]) [.ret (.lit (.bl false))] [], .ret (.boo .And [(.chain .LtE .Lt (.lit (.int 0)) (.sub (.slot 1) (.lit (.int 1))) (.bi .len (.slot 0))), (.cmp .In (.sub (.slot 1) (.lit (.int 0))) (.sub (.slot 0) (.sub (.slot 1) (.lit (.int 1)))))])]
def is_link_d : FnDef := ⟨"is_link", 2, ["lists", "link", "part"], is_link_c⟩
def is_ring_e1 : CE := (.call "is_link" [(.slot 0), (.slot 2)])
def is_ring_e2 : CE := (.slot 3)
def is_ring_b3 : List CS := [.ite (.boo .Or [(.cmp .NotIn (.slot 5) (.sub (.slot 0) (.slot 4))), (.cmp .Gt (.index (.sub (.slot 0) (.slot 4)) (.slot 3)) (.index (.sub (.slot 0) (.slot 4)) (.slot 5)))]) [.ret (.lit (.bl false))] []]
def is_ring_c : List CS := [.ite (.boo .Or [(.not (.bi (.isi "list") (.slot 1))), (.cmp .Lt (.bi .len (.slot 1)) (.lit (.int 2))), (.not (.bi .all (.lc is_ring_e1 (.name 2) (.it (.slot 1)) none [("link", 2)])))]) [.ret (.lit (.bl false))] [], .ite (.cmp .Lt (.lsc is_ring_e2 (.tup [(.name 3), (.name 4)]) (.it (.slot 1)) none [("item", 3), ("at", 4)]) (.bi .len (.slot 1))) [.ret (.lit (.bl false))] [], .for (.tup [(.tup [(.name 3), (.name 4)]), (.tup [(.name 5), (.name 6)])]) (.zip (.slot 1) (.bin .Add (.slc (.slot 1) (some (.lit (.int 1))) none) (.slc (.slot 1) none (some (.lit (.int 1)))))) is_ring_b3, .ret (.lit (.bl true))]
def is_ring_d : FnDef := ⟨"is_ring", 2, ["lists", "ring", "link", "item", "at", "other", "place"], is_ring_c⟩
def shows_merge_c : List CS := [.asg (.tgt (.name 2)) (.call "merge" [(.slot 0)]), .ite (.boo .Or [(.not (.bi (.isi "tuple") (.slot 1))), (.cmp .NotEq (.bi .len (.slot 1)) (.lit (.int 2))), (.not (.bi (.isi "str") (.sub (.slot 1) (.lit (.int 0)))))]) [.ret (.lit (.bl false))] [], .ite (.cmp .Eq (.sub (.slot 1) (.lit (.int 0))) (.lit (.str (sO "ring")))) [.ret (.call "is_ring" [(.slot 0), (.sub (.slot 1) (.lit (.int 1)))])] [], .ret (.boo .And [(.cmp .Eq (.sub (.slot 1) (.lit (.int 0))) (.lit (.str (sO "order")))), (.call "are_integers" [(.sub (.slot 1) (.lit (.int 1)))]), (.cmp .Eq (.slot 1) (.slot 2))])]
def shows_merge_d : FnDef := ⟨"shows_merge", 2, ["lists", "paper", "found"], shows_merge_c⟩
def _law_cell_at_c : List CS := [.ite (.cmp .Lt (.slot 1) (.bi .len (.slot 0))) [.ret (.sub (.slot 0) (.slot 1))] [], .ret (.lit (.int 0))]
def _law_cell_at_d : FnDef := ⟨"_law_cell_at", 2, ["_law_script", "_law_k"], _law_cell_at_c⟩
def _law_source_c : List CS := [.ret (.cell (.lst [(.bin .Mult (.slot 0) (.bi .int1 (.cmp .GtE (.slot 0) (.bin .Pow (.lit (.int 10)) (.lit (.int 18)))))), (.bin .Mod (.slot 0) (.lit (.int 2147483647))), (.lit (.int 0))]))]
def _law_source_d : FnDef := ⟨"_law_source", 1, ["_law_cell"], _law_source_c⟩
def _law_draw_c : List CS := [.ite (.cmp .Gt (.sub (.slot 0) (.lit (.int 0))) (.lit (.int 0))) [.asg (.tgt (.name 2)) (.bin .Mod (.sub (.slot 0) (.lit (.int 0))) (.slot 1)), .asg (.sub (.slot 0) (.lit (.int 0))) (.bin .FloorDiv (.sub (.slot 0) (.lit (.int 0))) (.slot 1)), .ret (.slot 2)] [], .asg (.sub (.slot 0) (.lit (.int 2))) (.bin .Add (.sub (.slot 0) (.lit (.int 2))) (.lit (.int 1))), .asg (.tgt (.name 3)) (.bin .Mod (.bin .Pow (.bin .Add (.bin .Add (.sub (.slot 0) (.lit (.int 1))) (.bin .Mult (.lit (.int 7919)) (.sub (.slot 0) (.lit (.int 2))))) (.lit (.int 1))) (.lit (.int 5))) (.lit (.int 2147483629))), .asg (.tgt (.name 3)) (.bin .Mod (.bin .Mult (.slot 3) (.bin .Add (.bin .Add (.bin .FloorDiv (.slot 3) (.lit (.int 1009))) (.lit (.int 69621))) (.sub (.slot 0) (.lit (.int 2))))) (.lit (.int 2147483587))), .ret (.bin .Mod (.bin .FloorDiv (.bin .Mod (.bin .Mult (.slot 3) (.bin .Add (.bin .FloorDiv (.slot 3) (.lit (.int 2003))) (.lit (.int 40692)))) (.lit (.int 2147483579))) (.lit (.int 7))) (.slot 1))]
def _law_draw_d : FnDef := ⟨"_law_draw", 2, ["_law_source_here", "_law_size", "_law_digit", "_law_number"], _law_draw_c⟩
def _law_pick_c : List CS := [.ret (.sub (.slot 1) (.call "_law_draw" [(.slot 0), (.bi .len (.slot 1))]))]
def _law_pick_d : FnDef := ⟨"_law_pick", 2, ["_law_source_here", "_law_items_here"], _law_pick_c⟩
def _law_merged_e1 : CE := (.slot 2)
def _law_merged_i2 : CE := (.cmp .NotEq (.slot 2) (.lst []))
def _law_merged_e3 : CE := (.sub (.slot 2) (.lit (.int 0)))
def _law_merged_e4 : CE := (.slot 5)
def _law_merged_i5 : CE := (.cmp .In (.sub (.slot 2) (.lit (.int 0))) (.slc (.slot 5) (some (.lit (.int 1))) none))
def _law_merged_i6 : CE := (.cmp .Eq (.lc _law_merged_e4 (.name 5) (.it (.slot 1)) (some _law_merged_i5) [("_law_other", 5)]) (.lst []))
def _law_merged_e7 : CE := (.slot 6)
def _law_merged_i8 : CE := (.cmp .NotEq (.slot 6) (.sub (.slot 4) (.lit (.int 0))))
def _law_merged_e9 : CE := (.lc _law_merged_e7 (.name 6) (.it (.slot 2)) (some _law_merged_i8) [("_law_item", 6)])
def _law_merged_e10 : CE := (.slot 2)
def _law_merged_i11 : CE := (.cmp .NotEq (.slot 2) (.lst []))
def _law_merged_w12 : List CS := [.asg (.tgt (.name 4)) (.lc _law_merged_e3 (.name 2) (.it (.slot 1)) (some _law_merged_i6) [("_law_one", 2)]), .ite (.cmp .Eq (.slot 4) (.lst [])) [.ret (.lit .non)] [], .expr (.app (.slot 3) (.sub (.slot 4) (.lit (.int 0)))), .asg (.tgt (.name 1)) (.lc _law_merged_e9 (.name 2) (.it (.slot 1)) none [("_law_one", 2)]), .asg (.tgt (.name 1)) (.lc _law_merged_e10 (.name 2) (.it (.slot 1)) (some _law_merged_i11) [("_law_one", 2)])]
def _law_merged_c : List CS := [.asg (.tgt (.name 1)) (.lc _law_merged_e1 (.name 2) (.it (.slot 0)) (some _law_merged_i2) [("_law_one", 2)]), .asg (.own 3) (.lst []), .whl 100000 (.cmp .NotEq (.slot 1) (.lst [])) _law_merged_w12, .ret (.move 3)]
def _law_merged_d : FnDef := ⟨"_law_merged", 1, ["_law_lists_here", "_law_left", "_law_one", "_law_found", "_law_free", "_law_other", "_law_item"], _law_merged_c⟩
def _law_is_integer_c : List CS := [.ret (.boo .And [(.bi (.isi "int") (.slot 0)), (.not (.bi (.isi "bool") (.slot 0)))])]
def _law_is_integer_d : FnDef := ⟨"_law_is_integer", 1, ["_law_value"], _law_is_integer_c⟩
def _law_is_ring_b1 : List CS := [.ite (.boo .Or [(.not (.bi (.isi "tuple") (.slot 2))), (.cmp .NotEq (.bi .len (.slot 2)) (.lit (.int 2)))]) [.ret (.lit (.bl false))] [], .ite (.boo .Or [(.not (.call "_law_is_integer" [(.sub (.slot 2) (.lit (.int 0)))])), (.not (.call "_law_is_integer" [(.sub (.slot 2) (.lit (.int 1)))]))]) [.ret (.lit (.bl false))] [], .ite (.not (.chain .LtE .Lt (.lit (.int 0)) (.sub (.slot 2) (.lit (.int 1))) (.bi .len (.slot 0)))) [.ret (.lit (.bl false))] []]
def _law_is_ring_e2 : CE := (.sub (.slot 2) (.lit (.int 0)))
def _law_is_ring_b3 : List CS := [.asg (.tgt (.name 5)) (.sub (.slot 0) (.sub (.sub (.slot 1) (.slot 4)) (.lit (.int 1)))), .par 6 7 (.sub (.slot 3) (.slot 4)) (.sub (.slot 3) (.bin .Mod (.bin .Add (.slot 4) (.lit (.int 1))) (.bi .len (.slot 1)))), .ite (.boo .Or [(.cmp .NotIn (.slot 6) (.slot 5)), (.cmp .NotIn (.slot 7) (.slot 5)), (.cmp .GtE (.index (.slot 5) (.slot 6)) (.index (.slot 5) (.slot 7)))]) [.ret (.lit (.bl false))] []]
def _law_is_ring_c : List CS := [.ite (.boo .Or [(.not (.bi (.isi "list") (.slot 1))), (.cmp .Lt (.bi .len (.slot 1)) (.lit (.int 2)))]) [.ret (.lit (.bl false))] [], .for (.name 2) (.it (.slot 1)) _law_is_ring_b1, .asg (.tgt (.name 3)) (.lc _law_is_ring_e2 (.name 2) (.it (.slot 1)) none [("_law_link", 2)]), .ite (.cmp .Lt (.bi .lenSet (.slot 3)) (.bi .len (.slot 3))) [.ret (.lit (.bl false))] [], .for (.name 4) (.rng1 (.bi .len (.slot 1))) _law_is_ring_b3, .ret (.lit (.bl true))]
def _law_is_ring_d : FnDef := ⟨"_law_is_ring", 2, ["_law_lists_here", "_law_ring", "_law_link", "_law_items_here", "_law_k", "_law_one", "_law_ahead", "_law_behind"], _law_is_ring_c⟩
def _law_inside_e1 : CE := (.slot 2)
def _law_inside_i2 : CE := (.cmp .In (.slot 2) (.slot 0))
def _law_inside_c : List CS := [.ret (.cmp .Eq (.lc _law_inside_e1 (.name 2) (.it (.slot 1)) (some _law_inside_i2) [("_law_item", 2)]) (.slot 0))]
def _law_inside_d : FnDef := ⟨"_law_inside", 2, ["_law_part", "_law_whole", "_law_item"], _law_inside_c⟩
def law_b1 : List CS := [.ite (.cmp .NotEq (.slot 5) (.lst [])) [.expr (.app (.slot 6) (.pop1 (.slot 5) (.call "_law_pick" [(.slot 2), (.lst [(.neg (.lit (.int 1))), (.call "_law_draw" [(.slot 2), (.bi .len (.slot 5))])])])))] []]
def law_e2 : CE := (.sub (.slot 3) (.slot 9))
def law_e3 : CE := (.slot 13)
def law_i4 : CE := (.not (.call "_law_inside" [(.slot 13), (.slot 12)]))
def law_b5 : List CS := [.asg (.own 5) (.bi .sortedD (.slot 3)), .asg (.own 6) (.lst []), .for (.name 7) (.rng1 (.bin .Add (.lit (.int 1)) (.call "_law_draw" [(.slot 2), (.lit (.int 4))]))) law_b1, .frz 6, .asg (.tgt (.name 8)) (.bin .Add (.lc law_e2 (.name 9) (.it (.slot 6)) none [("_law_base", 9)]) (.lst [(.slot 6)])), .asg (.tgt (.name 10)) (.bi .repr (.slot 8)), .asg (.tgt (.tup [(.name 11), (.name 12)])) (.tup [(.call "merge" [(.slot 8)]), (.call "_law_merged" [(.slot 8)])]), .ite (.boo .Or [(.cmp .IsNot (.call "shows_merge" [(.slot 8), (.slot 11)]) (.lit (.bl true))), (.cmp .NotEq (.bi .repr (.slot 8)) (.slot 10))]) [.ret (.lit (.bl false))] [], .ite (.boo .And [(.cmp .Is (.slot 12) (.lit .non)), (.not (.call "_law_is_ring" [(.slot 8), (.sub (.slot 11) (.lit (.int 1)))]))]) [.ret (.lit (.bl false))] [], .ite (.cmp .IsNot (.slot 12) (.lit .non)) [.ite (.boo .Or [(.cmp .NotEq (.bi .repr (.slot 11)) (.bi .repr (.tup [(.lit (.str (sO "order"))), (.slot 12)]))), (.cmp .NotEq (.sub (.slot 12) (.lit (.int 0))) (.sub (.slot 6) (.lit (.int 0))))]) [.ret (.lit (.bl false))] [], .ite (.cmp .NotEq (.lc law_e3 (.name 13) (.it (.slot 8)) (some law_i4) [("_law_one", 13)]) (.lst [])) [.ret (.lit (.bl false))] [], .asg (.sub (.slot 3) (.slot 4)) (.bin .Add (.lst [(.slot 4)]) (.slot 12))] []]
def law_b6 : List CS := [.asg (.tgt (.name 2)) (.call "_law_source" [(.slot 1)]), .asg (.own 3) (.dict1 (.lit (.int 0)) (.lst [(.lit (.int 0))])), .for (.name 4) (.rng2 (.lit (.int 1)) (.bin .Add (.lit (.int 2)) (.call "_law_draw" [(.slot 2), (.lit (.int 13))]))) law_b5]
def law_c : List CS := [.for (.name 1) (.it (.bin .Add (.lst [(.call "_law_cell_at" [(.slot 0), (.lit (.int 0))])]) (.slc (.slot 0) (some (.lit (.int 1))) (some (.lit (.int 5)))))) law_b6, .ret (.lit (.bl true))]
def law_d : FnDef := ⟨"law", 1, ["_law_script", "_law_cell", "_law_source_here", "_law_orders", "_law_number", "_law_left", "_law_bases", "_law_k", "_law_lists_here", "_law_base", "_law_original", "_law_told", "_law_due", "_law_one"], law_c⟩
def top (i : Nat) : Stmt := PySem.Challenge.pw_layoutline_k04_whole_hierarchies_merged.main.body.getD i (.Pass ⟨0, 0, 0, 0⟩)
def it_is_integer : Item := ⟨is_integer_d, top 8, ("is_integer", none), [], []⟩
def it_are_integers : Item := ⟨are_integers_d, top 9, ("are_integers", none), [], []⟩
def it_check_lists : Item := ⟨check_lists_d, top 10, ("check_lists", none), [], []⟩
def it_list_behind : Item := ⟨list_behind_d, top 11, ("list_behind", none), [], []⟩
def it_ring_in : Item := ⟨ring_in_d, top 12, ("ring_in", none), [], []⟩
def it_merge : Item := ⟨merge_d, top 13, ("merge", none), [], []⟩
def it_is_link : Item := ⟨is_link_d, top 14, ("is_link", none), [], []⟩
def it_is_ring : Item := ⟨is_ring_d, top 15, ("is_ring", none), [], []⟩
def it_shows_merge : Item := ⟨shows_merge_d, top 16, ("shows_merge", none), [], []⟩
def it__law_cell_at : Item := ⟨_law_cell_at_d, top 18, ("_law_cell_at", none), [], []⟩
def it__law_source : Item := ⟨_law_source_d, top 19, ("_law_source", none), [], []⟩
def it__law_draw : Item := ⟨_law_draw_d, top 20, ("_law_draw", none), [], []⟩
def it__law_pick : Item := ⟨_law_pick_d, top 21, ("_law_pick", none), [], []⟩
def it__law_merged : Item := ⟨_law_merged_d, top 26, ("_law_merged", none), [], []⟩
def it__law_is_integer : Item := ⟨_law_is_integer_d, top 27, ("_law_is_integer", none), [], []⟩
def it__law_is_ring : Item := ⟨_law_is_ring_d, top 28, ("_law_is_ring", none), [], []⟩
def it__law_inside : Item := ⟨_law_inside_d, top 29, ("_law_inside", none), [], []⟩
def it_law : Item := ⟨law_d, top 30, ("law", none), [], []⟩
def items : List Item := [it_is_integer, it_are_integers, it_check_lists, it_list_behind, it_ring_in, it_merge, it_is_link, it_is_ring, it_shows_merge, it__law_cell_at, it__law_source, it__law_draw, it__law_pick, it__law_merged, it__law_is_integer, it__law_is_ring, it__law_inside, it_law]
def consI : List (String × Int) := [("MOST_LISTS", 30), ("MOST_ITEMS", 30)]
def Tb : Tabs := ⟨items, consI, [], ["is_integer", "are_integers", "check_lists", "list_behind", "ring_in", "merge", "is_link", "is_ring", "shows_merge", "_law_cell_at", "_law_source", "_law_draw", "_law_pick", "_law_merged", "_law_is_integer", "_law_is_ring", "_law_inside", "law"], []⟩
def G : Prog := Tb.prog
theorem tabs_ok : Tb.ok = true := by decide +kernel
end K04

/-! K04b: the law of merged hierarchies. -/
namespace K04
open PySem Ip Ld
/-! what merging keeps -/
theorem mgo_sub : ∀ (n : Nat) (left : List (List Int)) (found o : List Int) (lf : List (List Int)), Pg.total left < n → (∀ l ∈ left, l.Nodup) → Pg.mgo n left found = (some o, lf) → ∃ t, o = found ++ t ∧ t.Nodup ∧ (∀ l ∈ left, l.Sublist t) ∧ ∀ x ∈ t, ∃ l ∈ left, x ∈ l
  | 0, left, found, o, lf, ht, _, _ => by omega
  | n + 1, left, found, o, lf, ht, hd, e => by
    rw [Pg.mgo] at e
    split at e
    · rename_i hall
      cases e
      refine ⟨[], by simp, by simp, fun l hl => ?_, fun x hx => by cases hx⟩
      have := List.all_eq_true.mp hall l hl
      have : l = [] := by simpa using this
      rw [this]; exact List.nil_sublist _
    · split at e
      · cases e
      · rename_i f fs hf
        have hm : f ∈ Pg.frees left := by rw [hf]; exact List.mem_cons_self
        have hfr := Pg.free_iff.mp hm
        have lt := Pg.stepL_lt f left (Pg.frees_mem hm)
        obtain ⟨t, h1, h2, h3, h4⟩ := mgo_sub n (Pg.stepL f left) (found ++ [f]) o lf (by omega) (Pg.stepL_nodup hd f) e
        have hno : ∀ l ∈ Pg.stepL f left, f ∉ l := fun l hl hfl => by
          obtain ⟨m, hm, rfl⟩ := List.mem_map.mp hl
          split at hfl
          · exact hfr.2 m hm hfl
          · rename_i hne
            cases m with
            | nil => cases hfl
            | cons a r =>
              rcases List.mem_cons.mp hfl with z | z
              · exact hne (by rw [z]; rfl)
              · exact hfr.2 _ hm (by simpa using z)
        refine ⟨f :: t, by simp [h1], List.nodup_cons.mpr ⟨fun hft => ?_, h2⟩, fun l hl => ?_, fun x hx => ?_⟩
        · obtain ⟨l, hl, hfl⟩ := h4 f hft
          exact hno l hl hfl
        · have hs := h3 _ (List.mem_map.mpr ⟨l, hl, rfl⟩)
          split at hs
          · rename_i ht1
            obtain ⟨r, rfl⟩ := Pg.take1_eq.mp ht1
            exact List.Sublist.cons_cons f (by simpa using hs)
          · exact hs.cons f
        · rcases List.mem_cons.mp hx with rfl | hx
          · obtain ⟨r, hr⟩ := hfr.1
            exact ⟨_, hr, List.mem_cons_self⟩
          · obtain ⟨l, hl, hxl⟩ := h4 x hx
            obtain ⟨m, hm, rfl⟩ := List.mem_map.mp hl
            refine ⟨m, hm, ?_⟩
            split at hxl
            · exact List.mem_of_mem_drop hxl
            · exact hxl
theorem merged_sub {L lf : List (List Int)} {o : List Int} (hd : ∀ l ∈ L, l.Nodup) (e : Pg.merged L = (some o, lf)) : o.Nodup ∧ (∀ l ∈ L, l.Sublist o) ∧ ∀ x ∈ o, ∃ l ∈ L, x ∈ l := by
  obtain ⟨t, h1, h2, h3, h4⟩ := mgo_sub _ L [] o lf (by omega) hd e
  rw [List.nil_append] at h1
  subst h1
  exact ⟨h2, h3, h4⟩
theorem filter_sub : ∀ {l o : List Int}, l.Sublist o → o.Nodup → (o.filter fun x => decide (x ∈ l)) = l := by
  intro l o hs
  induction hs with
  | slnil => intro _; rfl
  | cons a hs ih =>
    rename_i l o
    intro hd
    have h1 := List.nodup_cons.mp hd
    rw [List.filter_cons_of_neg (by simpa using fun z => h1.1 (hs.mem z))]
    exact ih h1.2
  | cons_cons a hs ih =>
    rename_i l o
    intro hd
    have h1 := List.nodup_cons.mp hd
    rw [List.filter_cons_of_pos (by simp)]
    congr 1
    rw [← ih h1.2]
    refine List.filter_congr fun x hx => ?_
    have : x ≠ a := fun z => h1.1 (z ▸ hx)
    rw [ih h1.2]
    simp [this]
/-- what is merged begins with the first base -/
theorem merged_head {O lf : List (List Int)} {b : Int} {bs o : List Int} (hO : ∀ l ∈ O, ∃ c r, l = c :: r ∧ c ∈ b :: bs) (hd : ∀ l ∈ O ++ [b :: bs], l.Nodup) (e : Pg.merged (O ++ [b :: bs]) = (some o, lf)) : ∃ t, o = b :: t := by
  have e0 := e
  unfold Pg.merged at e
  rw [Pg.mgo] at e
  have hm : (b :: bs) ∈ O ++ [b :: bs] := by simp
  split at e
  · rename_i hall
    have := List.all_eq_true.mp hall _ hm
    simp at this
  · split at e
    · cases e
    · rename_i f fs hf
      have hmf : f ∈ Pg.frees (O ++ [b :: bs]) := by rw [hf]; exact List.mem_cons_self
      obtain ⟨⟨r, hr⟩, hfr⟩ := Pg.free_iff.mp hmf
      have lt := Pg.stepL_lt f _ (Pg.frees_mem hmf)
      obtain ⟨t, h1, _⟩ := mgo_sub _ _ _ o lf (by omega) (Pg.stepL_nodup hd f) e
      have hfb : f ∈ b :: bs := by
        rcases List.mem_append.mp hr with h | h
        · obtain ⟨c, r', h2, h3⟩ := hO _ h
          cases h2; exact h3
        · rw [List.mem_singleton.mp h |> fun z => (List.cons.inj z).1]; exact List.mem_cons_self
      have hnb : f ∉ bs := by simpa using hfr _ hm
      have : f = b := by
        rcases List.mem_cons.mp hfb with z | z
        · exact z
        · exact absurd z hnb
      subst this
      exact ⟨t, by simpa using h1⟩
/-! the law's functions -/
structure F4 (G : Prog) : Prop where
  ld : LdB G
  jg : Jg.JgFns G
  me : G.fn "_law_merged" = some Ld._law_merged_d
  ii : G.fn "_law_is_integer" = some Ld._law_is_integer_d
  ri : G.fn "_law_is_ring" = some Ld._law_is_ring_d
  ins : G.fn "_law_inside" = some _law_inside_d
  lw : G.fn "law" = some law_d
section
variable {G : Prog} {n : Nat} {h : IHeap}
theorem inside_ok {Q : RV → IHeap → Prop} {E : XPost} (F : F4 G) {l o : List Int} (hs : l.Sublist o) (hd : o.Nodup) (hl : o.length ≤ 1000) (k : Q (.v (.bl true)) h) : (callF G (n + 1) "_law_inside" [Ld.iL l, Ld.iL o] h).wp Q E := by
  refine wp_fn F.ins rfl ?_
  simp (disch := omega) [small_t, i64_t, i62_t, ixN_nat, atI_lt, atI_map, map_erase, List.getElem?_cons_zero, List.getElem?_eq_getElem, and_assoc, ← List.map_tail, ← List.map_drop, ← List.map_take, _law_inside_d, _law_inside_c, startI]
  refine wp_lc1 IV.int o (fun x => decide (x ∈ l)) IV.int (x := Ld.iL o) (by simp) (.inl rfl) rfl (by omega) (fun _ _ => rfl) ?_ ?_ (fun _ _ _ => rfl) ?_
  · intro a ha J hJ
    simp (disch := omega) [small_t, i64_t, i62_t, ixN_nat, atI_lt, atI_map, map_erase, List.getElem?_cons_zero, List.getElem?_eq_getElem, and_assoc, ← List.map_tail, ← List.map_drop, ← List.map_take, _law_inside_i2]
    exact hJ
  · intro a ha _ J hJ
    simp (disch := omega) [small_t, i64_t, i62_t, ixN_nat, atI_lt, atI_map, map_erase, List.getElem?_cons_zero, List.getElem?_eq_getElem, and_assoc, ← List.map_tail, ← List.map_drop, ← List.map_take, _law_inside_e1]
    exact hJ _ rfl
  rw [filter_sub hs hd]
  simp (disch := omega) [small_t, i64_t, i62_t, ixN_nat, atI_lt, atI_map, map_erase, List.getElem?_cons_zero, List.getElem?_eq_getElem, and_assoc, ← List.map_tail, ← List.map_drop, ← List.map_take]
  exact k
/-- an order of class c -/
structure Ord (c : Nat) (l : List Int) : Prop where
  hd : ∃ t, l = (c : Int) :: t
  nd : l.Nodup
  bd : ∀ x ∈ l, 0 ≤ x ∧ x ≤ c
theorem Ord.len {c : Nat} {l : List Int} (h : Ord c l) : l.length ≤ c + 1 := by
  have : (l.map Int.toNat).Nodup := by
    refine (List.pairwise_map.mpr ?_)
    refine List.Pairwise.imp_of_mem ?_ h.nd
    intro a b ha hb hab z
    have := h.bd a ha; have := h.bd b hb
    exact hab (by omega)
  have := List.Nodup.length_le_of_subset this (l₂ := List.range (c + 1)) fun x hx => by
    obtain ⟨y, hy, rfl⟩ := List.mem_map.mp hx
    have := h.bd y hy
    exact List.mem_range.mpr (by omega)
  simpa using this
/-- the orders: of classes below m -/
structure Ords (m : Nat) (D : List (Nat × List Int)) : Prop where
  z : 0 ∈ D.map (·.1)
  nd : (D.map (·.1)).Nodup
  o : ∀ p ∈ D, p.1 < m ∧ Ord p.1 p.2
def encO (D : List (Nat × List Int)) : List (Key × IV) := D.map fun p => (.inl (p.1 : Int), Ld.iL p.2)
theorem keysInt_enc : ∀ D, keysInt (encO D) = some (D.map fun p => (p.1 : Int))
  | [] => rfl
  | p :: D => by show (keysInt (encO D)).map _ = _; rw [keysInt_enc D]; rfl
theorem hasK_enc {D : List (Nat × List Int)} {k : Nat} {l : List Int} (hd : (D.map (·.1)).Nodup) (h : (k, l) ∈ D) : hasK (Sum.inl (k : Int) : Key) (encO D) = some (Ld.iL l) := by
  induction D with
  | nil => cases h
  | cons p D ih =>
    have h1 := List.nodup_cons.mp (show (p.1 :: D.map (·.1)).Nodup from hd)
    rcases List.mem_cons.mp h with rfl | h
    · simp [encO, hasK]
    · have : p.1 ≠ k := fun z => h1.1 (z ▸ List.mem_map.mpr ⟨_, h, rfl⟩)
      have i := ih h1.2 h
      have q : ¬ (p.1 : Int) = (k : Int) := by omega
      unfold encO hasK at i ⊢
      simp [q] at i ⊢
      exact i
theorem putK_new {D : List (Nat × List Int)} {k : Nat} {l : List Int} (h : k ∉ D.map (·.1)) : putK (Sum.inl (k : Int) : Key) (Ld.iL l) (encO D) = encO (D ++ [(k, l)]) := by
  unfold putK
  rw [if_neg]
  · simp [encO]
  · intro z
    obtain ⟨p, hp, e⟩ := List.any_eq_true.mp z
    obtain ⟨q, hq, rfl⟩ := List.mem_map.mp hp
    have : (q.1 : Int) = (k : Int) := by simpa using e
    exact h (List.mem_map.mpr ⟨q, hq, by omega⟩)
theorem mem_insI {x y : Int} : ∀ {l : List Int}, x ∈ insI y l ↔ x = y ∨ x ∈ l
  | [] => by simp [insI]
  | z :: l => by
    unfold insI
    split
    · simp
    · rw [List.mem_cons, mem_insI, List.mem_cons]
      constructor
      · rintro (h | h | h) <;> simp [h]
      · rintro (h | h | h) <;> simp [h]
theorem perm_insI {y : Int} : ∀ {l : List Int}, (insI y l).Perm (y :: l)
  | [] => .refl _
  | z :: l => by
    unfold insI
    split
    · exact .refl _
    · exact (perm_insI.cons z).trans (.swap _ _ _)
theorem perm_sortI : ∀ {l : List Int}, (sortI l).Perm l
  | [] => .refl _
  | x :: l => perm_insI.trans (perm_sortI.cons x)
theorem Ords.len {m : Nat} {D : List (Nat × List Int)} (h : Ords m D) : D.length ≤ m := by
  have := List.Nodup.length_le_of_subset h.nd (l₂ := List.range m) fun x hx => by
    obtain ⟨y, hy, rfl⟩ := List.mem_map.mp hx
    exact List.mem_range.mpr (h.o y hy).1
  simpa using this
/-- the order of a class -/
def ordOf (D : List (Nat × List Int)) (b : Int) : List Int := ((D.find? fun p => decide ((p.1 : Int) = b)).map (·.2)).getD []
theorem ordOf_mem {D : List (Nat × List Int)} {b : Int} (h : b ∈ D.map fun p => (p.1 : Int)) : ∃ k : Nat, b = (k : Int) ∧ (k, ordOf D b) ∈ D := by
  induction D with
  | nil => cases h
  | cons p D ih =>
    by_cases hp : (p.1 : Int) = b
    · exact ⟨p.1, hp.symm, by unfold ordOf; simp [hp]⟩
    · rcases List.mem_cons.mp h with z | z
      · exact absurd z.symm hp
      · obtain ⟨k, e1, e2⟩ := ih z
        refine ⟨k, e1, List.mem_cons_of_mem _ ?_⟩
        have : ordOf (p :: D) b = ordOf D b := by unfold ordOf; simp [hp]
        rw [this]; exact e2
theorem ix_pick {n d : Nat} {x : IV} (hn : d < n) (hx : x ∈ [IV.int (-1), IV.int (d : Int)]) : ∃ i j, x = .int i ∧ j < n ∧ L2.ixN n i = some j := by
  simp at hx
  rcases hx with rfl | rfl
  · refine ⟨-1, n - 1, rfl, by omega, ?_⟩
    unfold L2.ixN
    rw [if_neg (by omega), if_pos (by omega)]
    congr 1; omega
  · exact ⟨d, d, rfl, hn, ixN_nat hn⟩
theorem step_ok {P : SP} {cs : List CS} {s N m : Nat} {z : Int} {script cell : IV} {D : List (Nat × List Int)} {s4 s5 s6 s7 s8 s10 s11 s12 : Slot} (F : F4 G) (hD : Ords m D) (hm : 0 < m) (hm2 : m ≤ 14) (hz : z = (m : Int)) (hs : Src s N h) (hN : N ≤ 100000)
    (k : ∀ D' h' s5 s6 s7 s8 s10 s11 s12, Ords (m + 1) D' → Src s (N + 20) h' → wpS G (callF G (n + 5)) cs P ⟨[.val script, .val cell, .val (.ref s), .own (.dK (encO D')), .val (.int z), s5, s6, s7, s8, .un, s10, s11, s12, .un], h'⟩) :
    wpS G (callF G (n + 5)) (law_b5 ++ cs) P ⟨[.val script, .val cell, .val (.ref s), .own (.dK (encO D)), .val (.int z), s5, s6, s7, s8, .un, s10, s11, s12, .un], h⟩ := by
  subst hz
  have kl := keysInt_enc D
  have dl := hD.len
  have kd : (D.map fun p => (p.1 : Int)).Nodup := by
    have := List.pairwise_map.mpr (List.Pairwise.imp (R := fun a b => a ≠ b) (S := fun a b : Nat => (a : Int) ≠ (b : Int)) (by intro a b z w; exact z (by omega)) hD.nd)
    rw [List.map_map] at this
    exact this
  simp (disch := omega) [small_t, i64_t, i62_t, ixN_nat, atI_lt, atI_map, map_erase, List.getElem?_cons_zero, List.getElem?_eq_getElem, and_assoc, ← List.map_tail, ← List.map_drop, ← List.map_take, law_b5, kl]
  refine ⟨by omega, ?_⟩
  refine wpS_forE (fun k : Nat => .int (k : Nat)) (fun as => 1 ≤ as.length ∧ as.length ≤ 4) (fun pre st => ∃ (l1 l2 : List Int) (h3 : IHeap) (s7 : Slot), st = ⟨[.val script, .val cell, .val (.ref s), .own (.dK (encO D)), .val (.int m), .own (.lst (l1.map .int)), .own (.lst (l2.map .int)), s7, s8, .un, s10, s11, s12, .un], h3⟩ ∧ (l1 ++ l2).Perm (D.map fun p => (p.1 : Int)) ∧ l2.length ≤ pre.length ∧ (1 ≤ pre.length → l2 ≠ []) ∧ Src s (N + 1 + 2 * pre.length) h3) ?_ ?_ ?_
  · intro J hJ
    simp (disch := omega) [small_t, i64_t, i62_t, ixN_nat, atI_lt, atI_map, map_erase, List.getElem?_cons_zero, List.getElem?_eq_getElem, and_assoc, ← List.map_tail, ← List.map_drop, ← List.map_take]
    refine wp_drawB F.ld hs (m := 4) rfl (by omega) (by omega) (by omega) fun d h1 hd hs1 ho1 => ?_
    have i62 : i62 (1 + (d : Int)) = true := i62_t (by omega) (by omega)
    have e1 : (1 + (d : Int)).toNat = 1 + d := by omega
    simp (disch := omega) [small_t, i64_t, i62_t, ixN_nat, atI_lt, atI_map, map_erase, List.getElem?_cons_zero, List.getElem?_eq_getElem, and_assoc, ← List.map_tail, ← List.map_drop, ← List.map_take, i62, e1, range0_eq]
    refine hJ (List.range (1 + d)) _ (by simp; omega) ?_
    exact ⟨_, [], h1, _, rfl, by simpa using perm_sortI, by simp, by simp, hs1.mono (by simp)⟩
  · rintro as a pre st J ⟨hA1, hA2⟩ ha hp ⟨l1, l2, h3, s7, rfl, pe, hl2, hne, hs3⟩ hJ
    refine ⟨⟨[.val script, .val cell, .val (.ref s), .own (.dK (encO D)), .val (.int m), .own (.lst (l1.map .int)), .own (.lst (l2.map .int)), .val (.int (a : Nat)), s8, .un, s10, s11, s12, .un], h3⟩, by simp, ?_⟩
    have e0 := pe.length_eq
    simp at e0
    by_cases hl1 : l1 = []
    · subst hl1
      have : l2 ≠ [] := fun z => by
        subst z
        have := List.mem_map.mp hD.z
        obtain ⟨p, hp, _⟩ := this
        cases D with
        | nil => cases hp
        | cons _ _ => simp at e0
      simp (disch := omega) [small_t, i64_t, i62_t, ixN_nat, atI_lt, atI_map, map_erase, List.getElem?_cons_zero, List.getElem?_eq_getElem, and_assoc, ← List.map_tail, ← List.map_drop, ← List.map_take, law_b1]
      exact hJ _ ⟨[], l2, h3, _, rfl, pe, by simp; omega, fun _ => this, hs3.mono (by simp; omega)⟩
    · have h0 : 0 < l1.length := List.length_pos_iff.mpr hl1
      simp (disch := omega) [small_t, i64_t, i62_t, ixN_nat, atI_lt, atI_map, map_erase, List.getElem?_cons_zero, List.getElem?_eq_getElem, and_assoc, ← List.map_tail, ← List.map_drop, ← List.map_take, hl1, law_b1]
      refine wp_drawB F.ld hs3 (m := l1.length) rfl h0 (by omega) (by omega) fun d2 h4 hd2 hs4 ho4 => ?_
      simp (disch := omega) [small_t, i64_t, i62_t, ixN_nat, atI_lt, atI_map, map_erase, List.getElem?_cons_zero, List.getElem?_eq_getElem, and_assoc, ← List.map_tail, ← List.map_drop, ← List.map_take]
      refine wp_pickB (n := n + 3) (xs := [.int (-1), .int (d2 : Int)]) F.ld hs4 (by omega) (by simp) (by simp) (by simp) fun x h5 hx hs5 ho5 => ?_
      obtain ⟨i, j, rfl, hj, hix⟩ := ix_pick hd2 hx
      simp (disch := omega) [small_t, i64_t, i62_t, ixN_nat, atI_lt, atI_map, map_erase, List.getElem?_cons_zero, List.getElem?_eq_getElem, and_assoc, ← List.map_tail, ← List.map_drop, ← List.map_take, hix]
      have hpe : (l1.eraseIdx j ++ (l2 ++ [l1[j]])).Perm (D.map fun p => (p.1 : Int)) := by
        refine List.Perm.trans ?_ pe
        have := (erase_perm l1 j hj).append_right l2
        refine List.Perm.trans ?_ this
        rw [← List.append_assoc, List.cons_append]
        exact List.perm_append_singleton _ _
      exact hJ _ ⟨l1.eraseIdx j, l2 ++ [l1[j]], h5, .val (.int (a : Nat)), by simp, hpe, by simp; omega, fun _ => by simp, hs5.mono (by simp; omega)⟩
  rintro as st ⟨hA1, hA2⟩ ⟨l1, bs, h3, s7', rfl, pe, hl2, hne, hs3⟩
  have hne := hne hA1
  have bn : bs.Nodup := (List.nodup_append.mp (pe.nodup_iff.mpr kd)).2.1
  have bm : ∀ b ∈ bs, b ∈ D.map fun p => (p.1 : Int) := fun b hb => pe.mem_iff.mp (List.mem_append_right _ hb)
  have bo : ∀ b ∈ bs, ∃ c : Nat, b = (c : Int) ∧ c < m ∧ Ord c (ordOf D b) ∧ hasK (Sum.inl b : Key) (encO D) = some (Ld.iL (ordOf D b)) := fun b hb => by
    obtain ⟨c, e1, e2⟩ := ordOf_mem (bm b hb)
    obtain ⟨e3, e4⟩ := hD.o _ e2
    exact ⟨c, e1, e3, e4, by rw [e1]; rw [e1] at e2; exact hasK_enc hD.nd e2⟩
  obtain ⟨L, hLd⟩ : ∃ L, L = bs.map (ordOf D) ++ [bs] := ⟨_, rfl⟩
  have lm : ∀ l ∈ L, l.Nodup ∧ l.length ≤ 14 ∧ ∀ x ∈ l, 0 ≤ x ∧ x < m := fun l hl => by
    rw [hLd] at hl
    rcases List.mem_append.mp hl with hl | hl
    · obtain ⟨b, hb, rfl⟩ := List.mem_map.mp hl
      obtain ⟨c, rfl, e2, e3, _⟩ := bo b hb
      exact ⟨e3.nd, Nat.le_trans e3.len (by omega), fun x hx => by have := e3.bd x hx; omega⟩
    · rw [List.mem_singleton.mp hl]
      exact ⟨bn, by omega, fun x hx => by obtain ⟨c, rfl, e2, _⟩ := bo x hx; omega⟩
  have ll : L.length ≤ 5 := by rw [hLd]; simp; omega
  have fine : Pg.Fine L := ⟨by omega, fun l hl => Nat.le_trans (lm l hl).2.1 (by omega), fun l hl => (lm l hl).1⟩
  have tot : Pg.total L ≤ 900 := by
    have := total_le (c := 14) (L := L) fun l hl => (lm l hl).2.1
    have := Nat.mul_le_mul_left 14 ll
    omega
  have sh : ∀ l ∈ L, ∀ x ∈ l, shortI x := fun l hl x hx => by
    have := (lm l hl).2.2 x hx
    obtain ⟨y, rfl⟩ : ∃ y : Nat, x = (y : Int) := ⟨x.toNat, by omega⟩
    exact short_nat (by omega)
  have dL : Dg 2 75 (.list (L.map datL)) := by
    have := Dg.list (k := 1) (m := 14) (n := 5) (ds := L.map datL) (fun d hd => by
      obtain ⟨l, hl, rfl⟩ := List.mem_map.mp hd
      exact Dg_datL (sh l hl) (lm l hl).2.1) (by simpa using ll)
    simpa using this
  have r0 : ∀ st, bi1 st .repr (.lst (L.map Ld.iL)) = some (.v (.str (PyData.shown (.list (L.map datL))))) := fun st => repr_Dg (by simp) dL (by omega) (by omega) rfl
  have m1 : ∀ h, callF G (n + 5) "merge" [.lst (L.map Ld.iL)] h = _ := fun h => Pg.merge_ok (n := n + 1) (h := h) F.jg.m fine tot (x := .lst (L.map Ld.iL)) (.inl rfl)
  have lme := Pg.lmerged_eq (L := L) fine.d
  obtain ⟨b0, bs', hbs⟩ : ∃ b0 bs', bs = b0 :: bs' := by
    cases bs with
    | nil => exact absurd rfl hne
    | cons b0 bs' => exact ⟨_, _, rfl⟩
  have hL2 : L.map Ld.iL = (bs.map fun b => Ld.iL (ordOf D b)) ++ [Ld.iL bs] := by rw [hLd]; simp
  simp (disch := omega) [small_t, i64_t, i62_t, ixN_nat, atI_lt, atI_map, map_erase, List.getElem?_cons_zero, List.getElem?_eq_getElem, and_assoc, ← List.map_tail, ← List.map_drop, ← List.map_take]
  refine wp_lcm IV.int bs (fun b => Ld.iL (ordOf D b)) (x := Ld.iL bs) (by simp) (.inl rfl) rfl (by omega) (fun _ _ => rfl) ?_ (fun _ _ => rfl) ?_
  · intro b hb J hJ
    obtain ⟨c, _, _, _, e4⟩ := bo b hb
    simp (disch := omega) [small_t, i64_t, i62_t, ixN_nat, atI_lt, atI_map, map_erase, List.getElem?_cons_zero, List.getElem?_eq_getElem, and_assoc, ← List.map_tail, ← List.map_drop, ← List.map_take, law_e2, e4]
    exact hJ _ rfl
  cases e : Pg.merged L with
  | mk o lf =>
    rw [e] at m1 lme
    cases o with
    | some o =>
      obtain ⟨o1, o2, o3⟩ := merged_sub fine.d e
      have os : ∀ x ∈ o, 0 ≤ x ∧ x < m := fun x hx => by obtain ⟨l, hl, hx⟩ := o3 x hx; exact (lm l hl).2.2 x hx
      have osh : ∀ x ∈ o, shortI x := fun x hx => by obtain ⟨l, hl, hx⟩ := o3 x hx; exact sh l hl x hx
      obtain ⟨t, rfl⟩ := merged_head (O := bs.map (ordOf D)) (b := b0) (bs := bs') (by
        intro l hl
        obtain ⟨b, hb, rfl⟩ := List.mem_map.mp hl
        obtain ⟨c, rfl, _, e3, _⟩ := bo b hb
        obtain ⟨t, ht⟩ := e3.hd
        exact ⟨_, t, ht, by rw [← hbs]; exact hb⟩) (by rw [← hbs, ← hLd]; exact fine.d) (by rw [← hbs, ← hLd]; exact e)
      have ordm : Ord m ((m : Int) :: b0 :: t) := ⟨⟨_, rfl⟩, List.nodup_cons.mpr ⟨fun hx => by have := os _ hx; omega, o1⟩, fun x hx => by
        rcases List.mem_cons.mp hx with rfl | hx
        · omega
        · have := os _ hx; omega⟩
      have ol : (b0 :: t).length ≤ 15 := by have := ordm.len; simp at this ⊢; omega
      have d1 : Dg 2 32 (.tuple [.str (sO "order"), datL (b0 :: t)]) := by
        have := Dg_word (w := "order") (Dg_datL osh ol) (by decide +kernel) (by decide +kernel) (by omega)
        simpa using this
      have r1 : ∀ st, bi1 st .repr (.tup [.str (sO "order"), Ld.iL (b0 :: t)]) = some (.v (.str (PyData.shown (.tuple [.str (sO "order"), datL (b0 :: t)])))) := fun st => repr_Dg (by simp [datL]) d1 (by omega) (by omega) rfl
      obtain ⟨o, ho⟩ : ∃ o, o = b0 :: t := ⟨_, rfl⟩
      have at0 : L2.atI (o.map IV.int) 0 = some (.int b0) := by rw [ho]; simp
      have at1 : L2.atI (bs.map IV.int) 0 = some (.int b0) := by rw [hbs]; simp
      have km : m ∉ D.map (·.1) := fun hx => by
        obtain ⟨p, hp, e⟩ := List.mem_map.mp hx
        have := (hD.o p hp).1
        omega
      rw [← ho] at m1 lme r1 ol d1 e o1 o2 ordm osh
      simp only [Pg.iL] at m1
      have kk := putK_new (D := D) (k := m) (l := (m : Int) :: o) km
      have sz : small (encO D).length = true := small_t (by simp [encO]; omega)
      have sz2 : small (1 + o.length) = true := small_t (by omega)
      have sz3 : small (o.length + 1) = true := small_t (by omega)
      have sz4 : small 2 = true := rfl
      simp (disch := omega) [small_t, i64_t, i62_t, ixN_nat, atI_lt, atI_map, map_erase, List.getElem?_cons_zero, List.getElem?_eq_getElem, and_assoc, ← List.map_tail, ← List.map_drop, ← List.map_take, ← hL2, r0, -bi1_repr, m1]
      refine lmerged_okB F.me (.inl rfl) (by omega) tot ?_
      rw [lme]
      simp (disch := omega) [small_t, i64_t, i62_t, ixN_nat, atI_lt, atI_map, map_erase, List.getElem?_cons_zero, List.getElem?_eq_getElem, and_assoc, ← List.map_tail, ← List.map_drop, ← List.map_take, sz4]
      refine Jg.shows_order_ok F.jg fine tot e osh ?_
      simp (disch := omega) [small_t, i64_t, i62_t, ixN_nat, atI_lt, atI_map, map_erase, List.getElem?_cons_zero, List.getElem?_eq_getElem, and_assoc, ← List.map_tail, ← List.map_drop, ← List.map_take, r0, r1, -bi1_repr, at0, at1]
      refine wp_lc1 Ld.iL L (fun l => false) Ld.iL (x := .lst (L.map Ld.iL)) (by simp) (.inl rfl) rfl (by omega) (fun _ _ => rfl) ?_ ?_ (fun _ _ _ => rfl) ?_
      · intro l hl J hJ
        simp (disch := omega) [small_t, i64_t, i62_t, ixN_nat, atI_lt, atI_map, map_erase, List.getElem?_cons_zero, List.getElem?_eq_getElem, and_assoc, ← List.map_tail, ← List.map_drop, ← List.map_take, law_i4]
        refine inside_ok F (o2 l hl) o1 (by omega) ?_
        simp (disch := omega) [small_t, i64_t, i62_t, ixN_nat, atI_lt, atI_map, map_erase, List.getElem?_cons_zero, List.getElem?_eq_getElem, and_assoc, ← List.map_tail, ← List.map_drop, ← List.map_take]
        exact hJ
      · intro l hl hf
        cases hf
      simp only [Ld.iL, List.map_cons] at kk
      simp (disch := omega) [small_t, i64_t, i62_t, ixN_nat, atI_lt, atI_map, map_erase, List.getElem?_cons_zero, List.getElem?_eq_getElem, and_assoc, ← List.map_tail, ← List.map_drop, ← List.map_take, sz, sz2, sz3, kk]
      refine k (D ++ [(m, (m : Int) :: o)]) h3 _ _ _ _ _ _ _ ⟨?_, ?_, ?_⟩ (hs3.mono (by omega))
      · simp; exact .inl (by simpa using hD.z)
      · rw [List.map_append, List.nodup_append]
        refine ⟨hD.nd, by simp, fun a ha b hb z => ?_⟩
        simp at hb
        exact km (by rw [← hb, ← z]; exact ha)
      · intro p hp
        rcases List.mem_append.mp hp with hp | hp
        · exact ⟨by have := (hD.o p hp).1; omega, (hD.o p hp).2⟩
        · rw [List.mem_singleton.mp hp]; exact ⟨by simp, ordm⟩
    | none =>
      have hr := Pg.merged_ring fine.d fine.n e
      have hrl : (Pg.ringOf lf).length ≤ 100 := by
        have := List.Nodup.length_le_of_subset (l₂ := (List.range m).map fun k : Nat => (k : Int)) hr.nd (fun x hx => by
          obtain ⟨p, hp, rfl⟩ := List.mem_map.mp hx
          obtain ⟨_, l, q2, q3⟩ := ring_mem hr p hp
          have := (lm l q2).2.2 _ q3
          exact List.mem_map.mpr ⟨p.1.toNat, List.mem_range.mpr (by omega), by omega⟩)
        simp at this; omega
      obtain ⟨ring, hring⟩ : ∃ ring, ring = Pg.ringOf lf := ⟨_, rfl⟩
      have hrv : Pg.ringV lf = .lst (ring.map Pg.pairV) := by rw [hring]; rfl
      simp only [hrv] at m1
      simp (disch := omega) [small_t, i64_t, i62_t, ixN_nat, atI_lt, atI_map, map_erase, List.getElem?_cons_zero, List.getElem?_eq_getElem, and_assoc, ← List.map_tail, ← List.map_drop, ← List.map_take, ← hL2, r0, -bi1_repr, m1]
      refine lmerged_okB F.me (.inl rfl) (by omega) tot ?_
      rw [lme]
      have sz4 : small 2 = true := rfl
      simp (disch := omega) [small_t, i64_t, i62_t, ixN_nat, atI_lt, atI_map, map_erase, List.getElem?_cons_zero, List.getElem?_eq_getElem, and_assoc, ← List.map_tail, ← List.map_drop, ← List.map_take, sz4]
      rw [← hrv]
      refine Jg.shows_ring_ok F.jg fine tot e hrl ?_
      rw [hrv]
      simp (disch := omega) [small_t, i64_t, i62_t, ixN_nat, atI_lt, atI_map, map_erase, List.getElem?_cons_zero, List.getElem?_eq_getElem, and_assoc, ← List.map_tail, ← List.map_drop, ← List.map_take, r0, -bi1_repr]
      refine Ld.is_ring_okB F.ii F.ri (.inl rfl) (.inl rfl) (hring ▸ hr) (by omega) fine.d (hring ▸ hrl) ?_
      simp (disch := omega) [small_t, i64_t, i62_t, ixN_nat, atI_lt, atI_map, map_erase, List.getElem?_cons_zero, List.getElem?_eq_getElem, and_assoc, ← List.map_tail, ← List.map_drop, ← List.map_take]
      exact k D h3 _ _ _ _ _ _ _ ⟨hD.z, hD.nd, fun p hp => ⟨by have := (hD.o p hp).1; omega, (hD.o p hp).2⟩⟩ (hs3.mono (by omega))
theorem law_ok (F : F4 G) (ns : List Int) (hn : ns.length ≤ 63) : (callF G (n + 6) "law" [.lst (ns.map .int)] h).wp (fun r _ => r = .v (.bl true)) NoX := by
  refine wp_fn F.lw rfl ?_
  have cut : ∃ m : List Int, cutI (ns.map IV.int) (some 1) (some 5) = m.map .int ∧ m.length ≤ 63 := by
    unfold cutI
    refine ⟨(ns.drop _).take _, by rw [List.map_take, List.map_drop], ?_⟩
    have := List.length_take_le (HT.sIx (ns.map IV.int).length (ns.map IV.int).length (some 5) - HT.sIx (ns.map IV.int).length 0 (some 1)) (ns.drop (HT.sIx (ns.map IV.int).length 0 (some 1)))
    simp at this ⊢
    omega
  obtain ⟨m, hm, hml⟩ := cut
  have c0 : ∀ h, callF G (n + 5) "_law_cell_at" [.lst (ns.map .int), .int 0] h = .ok (.v (.int (ns.getD 0 0))) h := fun h => cell_at_ok (n := n + 4) (h := h) F.ld.c ns 0 (by omega)
  obtain ⟨z, hz⟩ : ∃ z, ns.getD 0 0 = z := ⟨_, rfl⟩
  rw [hz] at c0
  simp (disch := omega) [small_t, i64_t, i62_t, ixN_nat, atI_lt, atI_map, map_erase, List.getElem?_cons_zero, List.getElem?_eq_getElem, and_assoc, ← List.map_tail, ← List.map_drop, ← List.map_take, law_d, law_c, startI]
  refine wpS_forP IV.int (fun as => as.length ≤ 64) (fun _ _ st => ∃ s1 s2 s3 s4 s5 s6 s7 s8 s10 s11 s12 h, st = ⟨[.val (.lst (ns.map .int)), s1, s2, s3, s4, s5, s6, s7, s8, .un, s10, s11, s12, .un], h⟩) ?_ ?_ ?_
  · intro J hJ
    have sz : small (1 + m.length) = true := small_t (by omega)
    have sz2 : small (m.length + 1) = true := small_t (by omega)
    simp (disch := omega) [small_t, i64_t, i62_t, ixN_nat, atI_lt, atI_map, map_erase, List.getElem?_cons_zero, List.getElem?_eq_getElem, and_assoc, ← List.map_tail, ← List.map_drop, ← List.map_take, c0, hm, sz, sz2]
    exact hJ (z :: m) _ (by simp; omega) ⟨_, _, _, _, _, _, _, _, _, _, _, _, rfl⟩
  · rintro cell pre post st J hA ⟨s1, s2, s3, s4, s5, s6, s7, s8, s10, s11, s12, h3, rfl⟩ hJ
    refine ⟨⟨[.val (.lst (ns.map .int)), .val (.int cell), s2, s3, s4, s5, s6, s7, s8, .un, s10, s11, s12, .un], h3⟩, by simp, ?_⟩
    obtain ⟨h4, q1, q2, q3, e4⟩ := source_ok (n := n + 4) (h := h3) F.ld.s cell
    have sz1 : small 1 = true := rfl
    simp (disch := omega) [small_t, i64_t, i62_t, ixN_nat, atI_lt, atI_map, map_erase, List.getElem?_cons_zero, List.getElem?_eq_getElem, and_assoc, ← List.map_tail, ← List.map_drop, ← List.map_take, law_b6, e4, sz1]
    refine wpS_forP (fun k : Nat => .int (1 + (k : Int))) (fun as => ∃ d, d ≤ 13 ∧ as = List.range d) (fun _ pre st => ∃ D s4 s5 s6 s7 s8 s10 s11 s12 h4, st = ⟨[.val (.lst (ns.map .int)), .val (.int cell), .val (.ref h3.length), .own (.dK (encO D)), s4, s5, s6, s7, s8, .un, s10, s11, s12, .un], h4⟩ ∧ Ords (1 + pre.length) D ∧ Src h3.length (1 + 20 * pre.length) h4) ?_ ?_ ?_
    · intro J hJ
      simp (disch := omega) [small_t, i64_t, i62_t, ixN_nat, atI_lt, atI_map, map_erase, List.getElem?_cons_zero, List.getElem?_eq_getElem, and_assoc, ← List.map_tail, ← List.map_drop, ← List.map_take]
      refine wp_drawB F.ld q1 (m := 13) rfl (by omega) (by omega) (by omega) fun d h5 hd hs1 ho1 => ?_
      have i62 : i62 (2 + (d : Int)) = true := i62_t (by omega) (by omega)
      have i1 : Ip.i62 1 = true := rfl
      have e1 : (2 + (d : Int)).toNat - 1 = 1 + d := by omega
      simp (disch := omega) [small_t, i64_t, i62_t, ixN_nat, atI_lt, atI_map, map_erase, List.getElem?_cons_zero, List.getElem?_eq_getElem, and_assoc, ← List.map_tail, ← List.map_drop, ← List.map_take, i62, i1, e1, rangeI_eq]
      refine hJ (List.range (1 + d)) _ ⟨1 + d, by omega, rfl⟩ ?_
      refine ⟨[(0, [0])], _, _, _, _, _, _, _, _, h5, rfl, ⟨by simp, by simp, fun p hp => ?_⟩, hs1.mono (by omega)⟩
      rw [List.mem_singleton.mp hp]
      exact ⟨by simp, ⟨_, rfl⟩, by simp, by simp⟩
    · rintro a pre post st J ⟨d, hd, hA⟩ ⟨D, s4, s5, s6, s7, s8, s10, s11, s12, h4, rfl, hD, hs4⟩ hJ
      refine ⟨⟨[.val (.lst (ns.map .int)), .val (.int cell), .val (.ref h3.length), .own (.dK (encO D)), .val (.int (1 + (a : Int))), s5, s6, s7, s8, .un, s10, s11, s12, .un], h4⟩, by simp, ?_⟩
      have hal : pre.length < d := by have := congrArg List.length hA; simp at this; omega
      have ha : a = pre.length := by
        have := congrArg (·[pre.length]?) hA
        simp [hal] at this
        exact this
      rw [← List.append_nil law_b5]
      refine step_ok (m := 1 + pre.length) (s4 := s4) F hD (by omega) (by omega) (by omega) hs4 (by omega) fun D' h' s5 s6 s7 s8 s10 s11 s12 hD' hs' => ?_
      simp (disch := omega) [small_t, i64_t, i62_t, ixN_nat, atI_lt, atI_map, map_erase, List.getElem?_cons_zero, List.getElem?_eq_getElem, and_assoc, ← List.map_tail, ← List.map_drop, ← List.map_take]
      exact hJ _ ⟨D', _, _, _, _, _, _, _, _, h', rfl, by simpa [Nat.add_assoc, Nat.add_comm] using hD', hs'.mono (by simp; omega)⟩
    · rintro as st ⟨d, hd, rfl⟩ ⟨D, s4, s5, s6, s7, s8, s10, s11, s12, h4, rfl, hD, hs4⟩
      simp (disch := omega) [small_t, i64_t, i62_t, ixN_nat, atI_lt, atI_map, map_erase, List.getElem?_cons_zero, List.getElem?_eq_getElem, and_assoc, ← List.map_tail, ← List.map_drop, ← List.map_take]
      exact hJ _ ⟨_, _, _, _, _, _, _, _, _, _, _, _, rfl⟩
  rintro as st hA ⟨s1, s2, s3, s4, s5, s6, s7, s8, s10, s11, s12, h3, rfl⟩
  simp (disch := omega) [small_t, i64_t, i62_t, ixN_nat, atI_lt, atI_map, map_erase, List.getElem?_cons_zero, List.getElem?_eq_getElem, and_assoc, ← List.map_tail, ← List.map_drop, ← List.map_take]
end
end K04

namespace K04
open PySem Ip Pg Ld
theorem fns : F4 Tb.prog where
  ld := ⟨rfl, rfl, rfl, rfl⟩
  jg := ⟨{ i := rfl, a := rfl, c := rfl, l := rfl, m := rfl, b := rfl, r := rfl, g := rfl }, rfl, rfl, rfl⟩
  me := rfl
  ii := rfl
  ri := rfl
  ins := rfl
  lw := rfl
theorem plain : ∀ ns : List Int, ns.length ≤ 63 → ∃ h', Ip.callF Tb.prog 12 "law" [.lst (ns.map .int)] [] = .ok (.v (.bl true)) h' := by
  intro ns hn
  obtain ⟨r, h', e, q⟩ := COut.wp_inv (law_ok (n := 6) (h := []) fns ns hn)
  exact ⟨h', by rw [e, q]⟩
end K04
namespace K04
open PySem PySem.Spec PyProof.Rows L2 Ip
theorem b0_is_integer (kV doc pm : Value) (an : Option Addr) (cdv ct : Value) (us : List Value) (hl : us.length = it_is_integer.ps.length) : bindArgs (PySem.W.fnOf (sO it_is_integer.nm) (sO it_is_integer.qn) (defArgs it_is_integer.st) (defBody it_is_integer.st) it_is_integer.sc .none kV doc pm an cdv ct) ⟨us, []⟩ = pure (it_is_integer.ps.zip us) := match us, hl with | [_], _ => rfl
theorem b_is_integer : BindP Tb it_is_integer := fun K fd F => ⟨fun _ => FunD.bindsN F b0_is_integer, fun q hq => absurd (show q ∈ ([] : List (Nat × List String × List Ar)) from hq) (by simp)⟩
theorem b0_are_integers (kV doc pm : Value) (an : Option Addr) (cdv ct : Value) (us : List Value) (hl : us.length = it_are_integers.ps.length) : bindArgs (PySem.W.fnOf (sO it_are_integers.nm) (sO it_are_integers.qn) (defArgs it_are_integers.st) (defBody it_are_integers.st) it_are_integers.sc .none kV doc pm an cdv ct) ⟨us, []⟩ = pure (it_are_integers.ps.zip us) := match us, hl with | [_], _ => rfl
theorem b_are_integers : BindP Tb it_are_integers := fun K fd F => ⟨fun _ => FunD.bindsN F b0_are_integers, fun q hq => absurd (show q ∈ ([] : List (Nat × List String × List Ar)) from hq) (by simp)⟩
theorem b0_check_lists (kV doc pm : Value) (an : Option Addr) (cdv ct : Value) (us : List Value) (hl : us.length = it_check_lists.ps.length) : bindArgs (PySem.W.fnOf (sO it_check_lists.nm) (sO it_check_lists.qn) (defArgs it_check_lists.st) (defBody it_check_lists.st) it_check_lists.sc .none kV doc pm an cdv ct) ⟨us, []⟩ = pure (it_check_lists.ps.zip us) := match us, hl with | [_], _ => rfl
theorem b_check_lists : BindP Tb it_check_lists := fun K fd F => ⟨fun _ => FunD.bindsN F b0_check_lists, fun q hq => absurd (show q ∈ ([] : List (Nat × List String × List Ar)) from hq) (by simp)⟩
theorem b0_list_behind (kV doc pm : Value) (an : Option Addr) (cdv ct : Value) (us : List Value) (hl : us.length = it_list_behind.ps.length) : bindArgs (PySem.W.fnOf (sO it_list_behind.nm) (sO it_list_behind.qn) (defArgs it_list_behind.st) (defBody it_list_behind.st) it_list_behind.sc .none kV doc pm an cdv ct) ⟨us, []⟩ = pure (it_list_behind.ps.zip us) := match us, hl with | [_, _], _ => rfl
theorem b_list_behind : BindP Tb it_list_behind := fun K fd F => ⟨fun _ => FunD.bindsN F b0_list_behind, fun q hq => absurd (show q ∈ ([] : List (Nat × List String × List Ar)) from hq) (by simp)⟩
theorem b0_ring_in (kV doc pm : Value) (an : Option Addr) (cdv ct : Value) (us : List Value) (hl : us.length = it_ring_in.ps.length) : bindArgs (PySem.W.fnOf (sO it_ring_in.nm) (sO it_ring_in.qn) (defArgs it_ring_in.st) (defBody it_ring_in.st) it_ring_in.sc .none kV doc pm an cdv ct) ⟨us, []⟩ = pure (it_ring_in.ps.zip us) := match us, hl with | [_], _ => rfl
theorem b_ring_in : BindP Tb it_ring_in := fun K fd F => ⟨fun _ => FunD.bindsN F b0_ring_in, fun q hq => absurd (show q ∈ ([] : List (Nat × List String × List Ar)) from hq) (by simp)⟩
theorem b0_merge (kV doc pm : Value) (an : Option Addr) (cdv ct : Value) (us : List Value) (hl : us.length = it_merge.ps.length) : bindArgs (PySem.W.fnOf (sO it_merge.nm) (sO it_merge.qn) (defArgs it_merge.st) (defBody it_merge.st) it_merge.sc .none kV doc pm an cdv ct) ⟨us, []⟩ = pure (it_merge.ps.zip us) := match us, hl with | [_], _ => rfl
theorem b_merge : BindP Tb it_merge := fun K fd F => ⟨fun _ => FunD.bindsN F b0_merge, fun q hq => absurd (show q ∈ ([] : List (Nat × List String × List Ar)) from hq) (by simp)⟩
theorem b0_is_link (kV doc pm : Value) (an : Option Addr) (cdv ct : Value) (us : List Value) (hl : us.length = it_is_link.ps.length) : bindArgs (PySem.W.fnOf (sO it_is_link.nm) (sO it_is_link.qn) (defArgs it_is_link.st) (defBody it_is_link.st) it_is_link.sc .none kV doc pm an cdv ct) ⟨us, []⟩ = pure (it_is_link.ps.zip us) := match us, hl with | [_, _], _ => rfl
theorem b_is_link : BindP Tb it_is_link := fun K fd F => ⟨fun _ => FunD.bindsN F b0_is_link, fun q hq => absurd (show q ∈ ([] : List (Nat × List String × List Ar)) from hq) (by simp)⟩
theorem b0_is_ring (kV doc pm : Value) (an : Option Addr) (cdv ct : Value) (us : List Value) (hl : us.length = it_is_ring.ps.length) : bindArgs (PySem.W.fnOf (sO it_is_ring.nm) (sO it_is_ring.qn) (defArgs it_is_ring.st) (defBody it_is_ring.st) it_is_ring.sc .none kV doc pm an cdv ct) ⟨us, []⟩ = pure (it_is_ring.ps.zip us) := match us, hl with | [_, _], _ => rfl
theorem b_is_ring : BindP Tb it_is_ring := fun K fd F => ⟨fun _ => FunD.bindsN F b0_is_ring, fun q hq => absurd (show q ∈ ([] : List (Nat × List String × List Ar)) from hq) (by simp)⟩
theorem b0_shows_merge (kV doc pm : Value) (an : Option Addr) (cdv ct : Value) (us : List Value) (hl : us.length = it_shows_merge.ps.length) : bindArgs (PySem.W.fnOf (sO it_shows_merge.nm) (sO it_shows_merge.qn) (defArgs it_shows_merge.st) (defBody it_shows_merge.st) it_shows_merge.sc .none kV doc pm an cdv ct) ⟨us, []⟩ = pure (it_shows_merge.ps.zip us) := match us, hl with | [_, _], _ => rfl
theorem b_shows_merge : BindP Tb it_shows_merge := fun K fd F => ⟨fun _ => FunD.bindsN F b0_shows_merge, fun q hq => absurd (show q ∈ ([] : List (Nat × List String × List Ar)) from hq) (by simp)⟩
theorem b0__law_cell_at (kV doc pm : Value) (an : Option Addr) (cdv ct : Value) (us : List Value) (hl : us.length = it__law_cell_at.ps.length) : bindArgs (PySem.W.fnOf (sO it__law_cell_at.nm) (sO it__law_cell_at.qn) (defArgs it__law_cell_at.st) (defBody it__law_cell_at.st) it__law_cell_at.sc .none kV doc pm an cdv ct) ⟨us, []⟩ = pure (it__law_cell_at.ps.zip us) := match us, hl with | [_, _], _ => rfl
theorem b__law_cell_at : BindP Tb it__law_cell_at := fun K fd F => ⟨fun _ => FunD.bindsN F b0__law_cell_at, fun q hq => absurd (show q ∈ ([] : List (Nat × List String × List Ar)) from hq) (by simp)⟩
theorem b0__law_source (kV doc pm : Value) (an : Option Addr) (cdv ct : Value) (us : List Value) (hl : us.length = it__law_source.ps.length) : bindArgs (PySem.W.fnOf (sO it__law_source.nm) (sO it__law_source.qn) (defArgs it__law_source.st) (defBody it__law_source.st) it__law_source.sc .none kV doc pm an cdv ct) ⟨us, []⟩ = pure (it__law_source.ps.zip us) := match us, hl with | [_], _ => rfl
theorem b__law_source : BindP Tb it__law_source := fun K fd F => ⟨fun _ => FunD.bindsN F b0__law_source, fun q hq => absurd (show q ∈ ([] : List (Nat × List String × List Ar)) from hq) (by simp)⟩
theorem b0__law_draw (kV doc pm : Value) (an : Option Addr) (cdv ct : Value) (us : List Value) (hl : us.length = it__law_draw.ps.length) : bindArgs (PySem.W.fnOf (sO it__law_draw.nm) (sO it__law_draw.qn) (defArgs it__law_draw.st) (defBody it__law_draw.st) it__law_draw.sc .none kV doc pm an cdv ct) ⟨us, []⟩ = pure (it__law_draw.ps.zip us) := match us, hl with | [_, _], _ => rfl
theorem b__law_draw : BindP Tb it__law_draw := fun K fd F => ⟨fun _ => FunD.bindsN F b0__law_draw, fun q hq => absurd (show q ∈ ([] : List (Nat × List String × List Ar)) from hq) (by simp)⟩
theorem b0__law_pick (kV doc pm : Value) (an : Option Addr) (cdv ct : Value) (us : List Value) (hl : us.length = it__law_pick.ps.length) : bindArgs (PySem.W.fnOf (sO it__law_pick.nm) (sO it__law_pick.qn) (defArgs it__law_pick.st) (defBody it__law_pick.st) it__law_pick.sc .none kV doc pm an cdv ct) ⟨us, []⟩ = pure (it__law_pick.ps.zip us) := match us, hl with | [_, _], _ => rfl
theorem b__law_pick : BindP Tb it__law_pick := fun K fd F => ⟨fun _ => FunD.bindsN F b0__law_pick, fun q hq => absurd (show q ∈ ([] : List (Nat × List String × List Ar)) from hq) (by simp)⟩
theorem b0__law_merged (kV doc pm : Value) (an : Option Addr) (cdv ct : Value) (us : List Value) (hl : us.length = it__law_merged.ps.length) : bindArgs (PySem.W.fnOf (sO it__law_merged.nm) (sO it__law_merged.qn) (defArgs it__law_merged.st) (defBody it__law_merged.st) it__law_merged.sc .none kV doc pm an cdv ct) ⟨us, []⟩ = pure (it__law_merged.ps.zip us) := match us, hl with | [_], _ => rfl
theorem b__law_merged : BindP Tb it__law_merged := fun K fd F => ⟨fun _ => FunD.bindsN F b0__law_merged, fun q hq => absurd (show q ∈ ([] : List (Nat × List String × List Ar)) from hq) (by simp)⟩
theorem b0__law_is_integer (kV doc pm : Value) (an : Option Addr) (cdv ct : Value) (us : List Value) (hl : us.length = it__law_is_integer.ps.length) : bindArgs (PySem.W.fnOf (sO it__law_is_integer.nm) (sO it__law_is_integer.qn) (defArgs it__law_is_integer.st) (defBody it__law_is_integer.st) it__law_is_integer.sc .none kV doc pm an cdv ct) ⟨us, []⟩ = pure (it__law_is_integer.ps.zip us) := match us, hl with | [_], _ => rfl
theorem b__law_is_integer : BindP Tb it__law_is_integer := fun K fd F => ⟨fun _ => FunD.bindsN F b0__law_is_integer, fun q hq => absurd (show q ∈ ([] : List (Nat × List String × List Ar)) from hq) (by simp)⟩
theorem b0__law_is_ring (kV doc pm : Value) (an : Option Addr) (cdv ct : Value) (us : List Value) (hl : us.length = it__law_is_ring.ps.length) : bindArgs (PySem.W.fnOf (sO it__law_is_ring.nm) (sO it__law_is_ring.qn) (defArgs it__law_is_ring.st) (defBody it__law_is_ring.st) it__law_is_ring.sc .none kV doc pm an cdv ct) ⟨us, []⟩ = pure (it__law_is_ring.ps.zip us) := match us, hl with | [_, _], _ => rfl
theorem b__law_is_ring : BindP Tb it__law_is_ring := fun K fd F => ⟨fun _ => FunD.bindsN F b0__law_is_ring, fun q hq => absurd (show q ∈ ([] : List (Nat × List String × List Ar)) from hq) (by simp)⟩
theorem b0__law_inside (kV doc pm : Value) (an : Option Addr) (cdv ct : Value) (us : List Value) (hl : us.length = it__law_inside.ps.length) : bindArgs (PySem.W.fnOf (sO it__law_inside.nm) (sO it__law_inside.qn) (defArgs it__law_inside.st) (defBody it__law_inside.st) it__law_inside.sc .none kV doc pm an cdv ct) ⟨us, []⟩ = pure (it__law_inside.ps.zip us) := match us, hl with | [_, _], _ => rfl
theorem b__law_inside : BindP Tb it__law_inside := fun K fd F => ⟨fun _ => FunD.bindsN F b0__law_inside, fun q hq => absurd (show q ∈ ([] : List (Nat × List String × List Ar)) from hq) (by simp)⟩
theorem b0_law (kV doc pm : Value) (an : Option Addr) (cdv ct : Value) (us : List Value) (hl : us.length = it_law.ps.length) : bindArgs (PySem.W.fnOf (sO it_law.nm) (sO it_law.qn) (defArgs it_law.st) (defBody it_law.st) it_law.sc .none kV doc pm an cdv ct) ⟨us, []⟩ = pure (it_law.ps.zip us) := match us, hl with | [_], _ => rfl
theorem b_law : BindP Tb it_law := fun K fd F => ⟨fun _ => FunD.bindsN F b0_law, fun q hq => absurd (show q ∈ ([] : List (Nat × List String × List Ar)) from hq) (by simp)⟩
theorem binds : ∀ it ∈ Tb.items, BindP Tb it := by
  intro it h
  simp only [Tb, items, List.mem_cons, List.not_mem_nil, or_false] at h
  rcases h with rfl | rfl | rfl | rfl | rfl | rfl | rfl | rfl | rfl | rfl | rfl | rfl | rfl | rfl | rfl | rfl | rfl | rfl
  · exact b_is_integer
  · exact b_are_integers
  · exact b_check_lists
  · exact b_list_behind
  · exact b_ring_in
  · exact b_merge
  · exact b_is_link
  · exact b_is_ring
  · exact b_shows_merge
  · exact b__law_cell_at
  · exact b__law_source
  · exact b__law_draw
  · exact b__law_pick
  · exact b__law_merged
  · exact b__law_is_integer
  · exact b__law_is_ring
  · exact b__law_inside
  · exact b_law
abbrev R : PySem.W.OpenRow := PySem.W.OpenLaw.row PySem.Challenge.rw_layoutline_k04_whole_hierarchies_merged
abbrev hk : PySem.W.Hook := He.hookD 4 (faOf Tb.items Tb.con Tb.cls) (Tb.items.map dOf)
def ob (s : PySem.W.SharedT) : He.AlD := He.obsDG 4 (faOf Tb.items Tb.con Tb.cls) (Tb.items.map dOf) (HandSHeadRun.getT s)
theorem ob_eq (s : PySem.W.SharedT) : ob s = hk.obs s.abs := He.obsDG_eq (HandSHeadRun.getT_eq s)
def names : List PySem.Str := ["LineError", "BadList", "Duplicate", "TooMany", "MOST_LISTS", "MOST_ITEMS", "is_integer", "are_integers", "check_lists", "list_behind", "ring_in", "merge", "is_link", "is_ring", "shows_merge", "_law_cell_at", "_law_source", "_law_draw", "_law_pick", "_law_items", "_law_some", "_law_turned", "_law_lists", "_law_merged", "_law_is_integer", "_law_is_ring", "_law_inside"]
theorem run (w : World) : HandSHeadRun.RunEq R (PySem.W.view R.prog [30]) hk ob 6000 names w := by
  intro os
  kernel_rfl
end K04
open PySem PySem.W PySem.Calls PyProof.Rows
theorem K04.holds : PySem.Challenge.rw_layoutline_k04_whole_hierarchies_merged.Holds := by
  w_on; o_law
  refine HandSHeadRun.head_any (r := OpenLaw.row PySem.Challenge.rw_layoutline_k04_whole_hierarchies_merged) (q := view (OpenLaw.row PySem.Challenge.rw_layoutline_k04_whole_hierarchies_merged).prog [30]) (H := K04.hk) (ob := K04.ob) (M := 6000) (loose := K04.names) (d := HandSHeadRun.topDef (OpenLaw.row PySem.Challenge.rw_layoutline_k04_whole_hierarchies_merged).prog 30) (kwd := []) K04.ob_eq
    (by kernel_rfl) (fun s => by kernel_rfl) K04.run (by kernel_rfl) (by kernel_rfl) (by kernel_rfl) (by rfl) (by first | assumption | decide +kernel) (by decide +kernel) ⟨rfl, rfl, rfl, rfl, rfl, by decide +kernel⟩ ?hw ?hc
  case hw => w_witness2
  case hc =>
    refine Ip.walk_ofI (l := PySem.Challenge.rw_layoutline_k04_whole_hierarchies_merged) (n := 63) (k := 2 * 12) (x := Ip.sO "_law_script") rfl (by decide) (by kernel_rfl) ⟨⟨rfl, by decide, by decide⟩, rfl⟩ ?F
    intro w mg fa h Y G hmg0
    obtain ⟨K, KX, c⟩ := Y
    have hmg : mg (Ip.sO "law") = some (.ref fa) := by
      have e : (HandSHeadRun.topDef (OpenLaw.row PySem.Challenge.rw_layoutline_k04_whole_hierarchies_merged).prog 30).name = Ip.sO "law" := by kernel_rfl
      rw [← e]
      exact hmg0
    exact Ip.law_of (it := K04.it_law) (t := K04.Tb) (by simp [K04.Tb, K04.items]) rfl rfl ⟨rfl, rfl⟩ rfl (by kernel_rfl) KX G c K04.tabs_ok K04.binds hmg K04.b0_law K04.plain

theorem PySem.Challenge.cw_layoutline_k04_whole_hierarchies_merged_holds : PySem.Challenge.rw_layoutline_k04_whole_hierarchies_merged.Holds :=
  K04.holds
