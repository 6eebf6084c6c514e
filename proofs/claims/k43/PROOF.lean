import PyProof.Rows.All
import Wide.All
import OpenK.AllK
import Wide.FinOn
import HandS.ForMost
import HandS.ForExc
import HandS.Zip
import HandS.TupAny
import HandS.Style
import HandS.IsInst
import HandS.WordsDict
import HandS.TupLen
import HandS.SortInts
import PyProof.EnumIter
import HandS.TupMul
import KE.GoesMore
import HandS.EndBits
import HandS.Codes
import PySem.Challenge.RW_lonehost_k43_rows_of_powers
set_option Elab.async false
set_option linter.all false
set_option maxRecDepth 100000
/-! a small functional reading of the programs: values, states, an evaluator -/
namespace Mp
open PySem

/-- values: immutable data as trees, mutable objects by number -/
inductive D where
  | non | bl (b : Bool) | int (i : Int) | str (s : Str) | tup (ds : List D) | lst (ds : List D) | lck (ds : List D) | ktp (ds : List D) | ref (n : Nat)

/-- a mutable object -/
inductive AO where
  | lst (ds : List D)
  | dK (kvs : List (L2.Key × D))
  | dT (kvs : List (List L2.Key × D))
  | ins (c : Nat) (fs : List (Str × D))

inductive Slot where
  | un | val (d : D) | own (o : AO)

inductive RV where
  | val (d : D) | own (o : AO)

inductive R (α : Type) where
  | ok (a : α) (ρ : List Slot) (η : List AO)
  | exc (c : Nat) (fs : List (Str × D)) (ρ : List Slot) (η : List AO)
  | fail

abbrev M (α : Type) := List Slot → List AO → R α

def R.bind {α β : Type} (r : R α) (k : α → M β) : R β := match r with
  | .ok a ρ η => k a ρ η
  | .exc c fs ρ η => .exc c fs ρ η
  | .fail => .fail
def M.ret {α : Type} (a : α) : M α := fun ρ η => .ok a ρ η
def M.bind {α β : Type} (m : M α) (k : α → M β) : M β := fun ρ η => (m ρ η).bind k
def M.fail {α : Type} : M α := fun _ _ => .fail
def M.opt {α : Type} (o : Option α) : M α := fun ρ η => match o with | some a => .ok a ρ η | none => .fail

/-- a def's end -/
inductive FR where
  | ret (r : RV) (η : List AO)
  | exc (c : Nat) (fs : List (Str × D)) (η : List AO)
  | fail
abbrev Fn := List D → List AO → FR

inductive BOp where
  | add | sub | mul | fdiv | mod | pow
  deriving DecidableEq
inductive COp where
  | eq | ne | lt | le | gt | ge | isin | notin | is | isnot
  deriving DecidableEq
inductive Ty where
  | int | bool | str | tup | lst
  deriving DecidableEq
inductive Bi where
  | len | abs | int | tuple | list | sum | min | max | sorted
  deriving DecidableEq
inductive LM where
  | append | extend | pop
  deriving DecidableEq
/-- what a for walks -/
inductive IK where
  | of | rng1 | rng2 | rng3 | enum | zip
  deriving DecidableEq
/-- targets: one name, or several -/
inductive Tg where
  | nm (i : Nat) | tp (is : List Nat)
  deriving DecidableEq

inductive CE where
  | cst (d : D)
  | var (i : Nat)
  | bin (o : BOp) (a b : CE)
  | neg (a : CE)
  | cmp (o : COp) (a b : CE)
  | chn (o o' : COp) (a b c : CE)
  | and (a b : CE)
  | or (a b : CE)
  | not (a : CE)
  | ite (c a b : CE)
  | tup (es : List CE)
  | lst (es : List CE)
  | dic (t : Bool)
  | box (e : CE)
  | idx (a i : CE)
  | slc (a : CE) (bl : Bool) (lo : CE) (bh : Bool) (hi : CE)
  | call (f : Nat) (es : List CE)
  | bi1 (b : Bi) (e : CE)
  | bi2 (b : Bi) (x y : CE)
  | isi (a : CE) (ts : List Ty)
  | lc (elt : CE) (tg : Tg) (ik : IK) (es : List CE) (cs : List CE)
  | mth (m : LM) (a : CE) (es : List CE)

inductive CS where
  | set (i : Nat) (e : CE)
  | setT (is : List Nat) (e : CE)
  | setI (a i e : CE)
  | aug (i : Nat) (o : BOp) (e : CE)
  | ex (e : CE)
  | iff (c : CE) (a b : List CS)
  | for_ (tg : Tg) (ik : IK) (es : List CE) (body : List CS)
  | forR (tg : Tg) (e : CE) (body : List CS)
  | whl (c : CE) (body : List CS)
  | ret (e : CE)
  | retN
  | brk
  | cnt
  | pss
  | bad

@[simp] def CE.var? : CE → Option Nat
  | .var i => some i
  | _ => none

/-! ### data -/
def Slot.D? : Slot → Option D
  | .val d => some d
  | _ => none
def AO.D? : AO → Option D
  | .lst ds => some (.lst ds)
  | _ => none
/-- what is seen at a value -/
inductive Vw where
  | d (x : D) | o (x : AO)
def vwD (η : List AO) : D → Option Vw
  | .ref n => match η[n]? with | some o => some (.o o) | none => none
  | d => some (.d d)
def vwS (η : List AO) : Slot → Option Vw
  | .un => none
  | .val d => vwD η d
  | .own o => some (.o o)
def vwR (η : List AO) : RV → Option Vw
  | .val d => vwD η d
  | .own o => some (.o o)
/-- the items of a list or tuple -/
def Vw.seq? : Vw → Option (List D)
  | .d (.lst ds) => some ds
  | .d (.lck ds) => some ds
  | .d (.tup ds) => some ds
  | .d (.ktp ds) => some ds
  | .o (.lst ds) => some ds
  | _ => none

mutual
/-- pure data as the library's -/
def D.py : D → Option PyData
  | .non => some .none
  | .bl b => some (.bool b)
  | .int i => some (.int i)
  | .str s => some (.str s)
  | .tup ds => match D.pys ds with | some xs => some (.tuple xs) | none => none
  | .lst ds => match D.pys ds with | some xs => some (.list xs) | none => none
  | .lck _ => none
  | .ktp _ => none
  | .ref _ => none
def D.pys : List D → Option (List PyData)
  | [] => some []
  | d :: ds => match D.py d, D.pys ds with | some x, some xs => some (x :: xs) | _, _ => none
end
def eqD : D → D → Option Bool
  | .int i, .int j => some (decide (i = j))
  | .bl i, .bl j => some (decide (i = j))
  | .str i, .str j => some (decide (i = j))
  | x, y => match x.py, y.py with
    | some a, some b => if SeqAt.shaped a && SeqAt.shaped b then some (PyData.eqv a b) else none
    | _, _ => none

/-! ### operators -/
def mulOk (i j : Int) : Bool := decide (-(2 ^ 64) < i ∧ i < 2 ^ 64) || decide (-(2 ^ 64) < j ∧ j < 2 ^ 64)
def binD : BOp → D → D → Option RV
  | .add, .int i, .int j => some (.val (.int (i + j)))
  | .add, .str a, .str b => if a.length + b.length ≤ sizeLine then some (.val (.str (a ++ b))) else none
  | .add, .tup a, .tup b => if a.length + b.length ≤ sizeLine then some (.val (.tup (a ++ b))) else none
  | .add, .lst a, .lst b => if a.length + b.length ≤ sizeLine then some (.own (.lst (a ++ b))) else none
  | .sub, .int i, .int j => some (.val (.int (i - j)))
  | .mul, .int i, .int j => if mulOk i j then some (.val (.int (i * j))) else none
  | .mul, .lst a, .int k => if k < 2 ^ 63 ∧ -(2 ^ 63) ≤ k ∧ a.length * k.toNat ≤ sizeLine then some (.own (.lst (List.replicate k.toNat a).flatten)) else none
  | .mul, .tup a, .int k => if a ≠ [] ∧ k ≤ 1000 ∧ -(2 ^ 62) ≤ k ∧ a.length ≤ 1000 then some (.val (.tup (List.replicate k.toNat a).flatten)) else none
  | .fdiv, .int i, .int j => if 0 < j ∧ j < 1073741824 then some (.val (.int (i / j))) else none
  | .mod, .int i, .int j => if 0 < j then some (.val (.int (i % j))) else none
  | .pow, .int i, .int j => if 0 ≤ j ∧ j ≤ 1000000 ∧ i.natAbs < 2 ^ 64 then some (.val (.int (i ^ j.toNat))) else none
  | _, _, _ => none

/-- keys of dicts -/
def keyD : D → Option L2.Key
  | .int i => some (Sum.inl i)
  | .str s => some (Sum.inr s)
  | _ => none
def keysD : List D → Option (List L2.Key)
  | [] => some []
  | d :: ds => match keyD d, keysD ds with | some k, some r => some (k :: r) | _, _ => none
def keyT : D → Option (List L2.Key)
  | .tup ds => keysD ds
  | _ => none
def lookK {κ : Type} [DecidableEq κ] (kvs : List (κ × D)) (k : κ) : Option D := (kvs.find? fun kv => decide (kv.1 = k)).map (·.2)
def putK {κ : Type} [DecidableEq κ] (kvs : List (κ × D)) (k : κ) (v : D) : List (κ × D) :=
  if (kvs.any fun kv => decide (kv.1 = k)) = true then kvs.map (fun kv => if kv.1 = k then (kv.1, v) else kv) else kvs ++ [(k, v)]
def dropK {κ : Type} [DecidableEq κ] (kvs : List (κ × D)) (k : κ) : List (κ × D) := kvs.filter fun kv => decide (kv.1 ≠ k)
/-- x op= y of things that never change -/
def augD : BOp → D → D → Option D
  | .add, .int i, .int j => some (.int (i + j))
  | .sub, .int i, .int j => some (.int (i - j))
  | .add, .str a, .str b => if a.length + b.length ≤ sizeLine then some (.str (a ++ b)) else none
  | _, _, _ => none
/-- the index i of n places -/
abbrev ixN := L2.ixN
def atD (v : Vw) (k : D) : Option D := match v, k with
  | .d (.lst ds), .int i => L2.atI ds i
  | .d (.lck ds), .int i => L2.atI ds i
  | .d (.tup ds), .int i => L2.atI ds i
  | .d (.ktp ds), .int i => L2.atI ds i
  | .o (.lst ds), .int i => L2.atI ds i
  | .d (.str s), .int i => if s.length ≤ sizeLine then (L2.atI s.cps.toList i).map (fun c => .str ⟨#[c]⟩) else none
  | .o (.dK kvs), k => (match keyD k with | some k => lookK kvs k | none => none)
  | .o (.dT kvs), k => (match keyT k with | some k => lookK kvs k | none => none)
  | _, _ => none
def cutL {α : Type} (xs : List α) (lo hi : Option Int) : List α := (xs.drop (HT.sIx xs.length 0 lo)).take (HT.sIx xs.length xs.length hi - HT.sIx xs.length 0 lo)
def cutD (v : Vw) (l h : Option Int) : Option RV := match v with
    | .d (.lst ds) => some (.own (.lst (cutL ds l h)))
    | .d (.lck ds) => some (.own (.lst (cutL ds l h)))
    | .o (.lst ds) => some (.own (.lst (cutL ds l h)))
    | .d (.tup ds) => some (.val (.tup (cutL ds l h)))
    | _ => none
def flatD : D → Bool
  | .non => true
  | .bl _ => true
  | .int _ => true
  | .str _ => true
  | _ => false
def eqF : D → D → Bool
  | .non, .non => true
  | .bl a, .bl b => decide (a = b)
  | .bl a, .int j => decide ((if a then 1 else 0) = j)
  | .int i, .bl b => decide (i = (if b then 1 else 0))
  | .int i, .int j => decide (i = j)
  | .str a, .str b => decide (a = b)
  | _, _ => false
def inD (x : D) (v : Vw) : Option Bool := match v with
  | .o (.dK kvs) => (match keyD x with | some k => some (lookK kvs k).isSome | none => none)
  | .o (.dT kvs) => (match keyT x with | some k => some (lookK kvs k).isSome | none => none)
  | .d (.str s) => (match x with
    | .str t => some (!(Builtin.Str.occurrences s t 0 s.length 1).isEmpty)
    | _ => none)
  | v => (match v.seq? with
    | some ds => if flatD x && ds.all flatD then some (ds.any fun y => eqF y x) else none
    | none => none)
/-- comparisons of values (no in) -/
def cmpD : COp → D → D → Option Bool
  | .eq, x, y => eqD x y
  | .ne, x, y => (eqD x y).map (!·)
  | .lt, .int i, .int j => some (decide (i < j))
  | .le, .int i, .int j => some (decide (i ≤ j))
  | .gt, .int i, .int j => some (decide (j < i))
  | .ge, .int i, .int j => some (decide (j ≤ i))
  | .is, x, .non => some (match x with | .non => true | _ => false)
  | .isnot, x, .non => some (match x with | .non => false | _ => true)
  | .is, .bl x, .bl y => some (decide (x = y))
  | .isnot, .bl x, .bl y => some (!decide (x = y))
  | _, _, _ => none
def tyD (d : D) (t : Ty) : Option Bool := match d, t with
  | .ref _, _ => none
  | .lck _, _ => none
  | .ktp _, _ => none
  | .int _, .int => some true
  | .bl _, .int => some true
  | .bl _, .bool => some true
  | .str _, .str => some true
  | .tup _, .tup => some true
  | .lst _, .lst => some true
  | _, _ => some false
def intsD : List D → Option (List Int)
  | [] => some []
  | .int i :: ds => match intsD ds with | some r => some (i :: r) | none => none
  | _ :: _ => none
/-- built-in functions of one seen thing -/
def bi1 : Bi → Vw → Option RV
  | .len, .d (.str s) => if s.length ≤ sizeLine then some (.val (.int s.length)) else none
  | .len, .o (.dK kvs) => some (.val (.int kvs.length))
  | .len, .o (.dT kvs) => some (.val (.int kvs.length))
  | .len, v => (match v.seq? with | some ds => some (.val (.int ds.length)) | none => none)
  | .abs, .d (.int i) => some (.val (.int (if i < 0 then -i else i)))
  | .int, .d (.int i) => some (.val (.int i))
  | .int, .d (.bl b) => some (.val (.int (if b then 1 else 0)))
  | .tuple, .d (.ktp ds) => some (.val (.ktp ds))
  | .tuple, v => (match v.seq? with | some ds => some (.val (.tup ds)) | none => none)
  | .list, v => (match v.seq? with | some ds => some (.own (.lst ds)) | none => none)
  | .sum, .d (.lck ds) => (match intsD ds with | some r => some (.val (.int r.sum)) | none => none)
  | .sum, .d (.lst ds) => (match intsD ds with | some r => some (.val (.int r.sum)) | none => none)
  | .sum, .o (.lst ds) => (match intsD ds with | some r => some (.val (.int r.sum)) | none => none)
  | .min, .o (.lst ds) => (match intsD ds with | some (n :: r) => some (.val (.int (r.foldl min n))) | _ => none)
  | .max, .o (.lst ds) => (match intsD ds with | some (n :: r) => some (.val (.int (r.foldl max n))) | _ => none)
  | .min, .d (.lst ds) => (match intsD ds with | some (n :: r) => some (.val (.int (r.foldl min n))) | _ => none)
  | .max, .d (.lst ds) => (match intsD ds with | some (n :: r) => some (.val (.int (r.foldl max n))) | _ => none)
  | _, _ => none
def bi2 : Bi → D → D → Option RV
  | .min, .int i, .int j => some (.val (.int (if j < i then j else i)))
  | .max, .int i, .int j => some (.val (.int (if j > i then j else i)))
  | _, _, _ => none

/-! ### state -/
def getS (i : Nat) : M Slot := fun ρ η => match ρ[i]? with | some s => .ok s ρ η | none => .fail
/-- a value that is kept by several: an own list stands still from now on -/
def rdVar (i : Nat) : M D := fun ρ η => match ρ[i]? with
  | some (.val d) => .ok d ρ η
  | some (.own (.lst ds)) => .ok (.lst ds) (ρ.set i (.val (.lst ds))) η
  | _ => .fail
def frz (r : RV) : M D := fun ρ η => match r with
  | .val d => .ok d ρ η
  | .own (.lst ds) => .ok (.lst ds) ρ η
  | _ => .fail
def vwVar (i : Nat) : M Vw := fun ρ η => match ρ[i]? with
  | some s => (match vwS η s with | some v => .ok v ρ η | none => .fail)
  | none => .fail
def vwOf (r : RV) : M Vw := fun ρ η => match vwR η r with | some v => .ok v ρ η | none => .fail
def slotOf : RV → Slot
  | .val d => .val d
  | .own o => .own o
def setS (i : Nat) (s : Slot) : M Unit := fun ρ η => if i < ρ.length then .ok () (ρ.set i s) η else .fail
def boxed (r : RV) : M RV := fun ρ η => match r with
  | .own o => .ok (.val (.ref η.length)) ρ (η ++ [o])
  | .val _ => .fail
def boolD : D → M Bool
  | .bl b => M.ret b
  | _ => M.fail
def Tg.slots : Tg → List Nat
  | .nm i => [i]
  | .tp is => is
def setAll : List Nat → List D → M Unit
  | [], [] => M.ret ()
  | i :: is, d :: ds => (setS i (.val d)).bind fun _ => setAll is ds
  | _, _ => M.fail
def Tg.put (tg : Tg) (d : D) : M Unit := match tg with
  | .nm i => setS i (.val d)
  | .tp is => (match d with
    | .tup ds => if ds.length = is.length then setAll is ds else M.fail
    | _ => M.fail)
def wipeL (ρ : List Slot) : List Nat → List Slot
  | [] => ρ
  | i :: is => (wipeL ρ is).set i .un
/-- the slots at is as they were in ρ₀ -/
def backL (ρ₀ ρ : List Slot) : List Nat → List Slot
  | [] => ρ
  | i :: is => (backL ρ₀ ρ is).set i (ρ₀.getD i .un)

def rngD (lo hi : Int) : List D := (List.range (hi - lo).toNat).map fun (k : Nat) => D.int (lo + k)
def rngS (lo hi c : Int) : List D := (List.range (Builtin.Range.rangeSize lo hi c).toNat).map fun (k : Nat) => D.int (lo + (k : Int) * c)
def small62 (i : Int) : Bool := decide (-(2 ^ 62) ≤ i ∧ i < 2 ^ 62)
def tgOk (ik : IK) (tg : Tg) : Bool := match ik, tg with
  | .enum, .nm _ => false
  | .zip, .nm _ => false
  | _, _ => true
def enumD : Nat → List D → List D
  | _, [] => []
  | n, d :: ds => .tup [.int n, d] :: enumD (n + 1) ds
/-- the items that a walk yields -/
def wOf : List D → Option (List D)
  | [.lst ds] => some ds
  | [.lck ds] => some ds
  | [.tup ds] => some ds
  | [.ktp ds] => some ds
  | [.str s] => some (s.cps.toList.map fun c => .str ⟨#[c]⟩)
  | _ => none
def wR1 : List D → Option (List D)
  | [.int hi] => if small62 hi then some (rngD 0 hi) else none
  | _ => none
def wR2 : List D → Option (List D)
  | [.int lo, .int hi] => if small62 lo && small62 hi then some (rngD lo hi) else none
  | _ => none
def wR3 : List D → Option (List D)
  | [.int lo, .int hi, .int c] => if c ≠ 0 ∧ c.natAbs < 1073741824 ∧ Builtin.Range.small lo hi c = true ∧ Builtin.Range.rangeSize lo hi c = ((Builtin.Range.rangeSize lo hi c).toNat : Nat) then some (rngS lo hi c) else none
  | _ => none
def wEn : List D → Option (List D)
  | [.lst ds] => some (enumD 0 ds)
  | [.lck ds] => some (enumD 0 ds)
  | [.tup ds] => some (enumD 0 ds)
  | _ => none
def wZp : List D → Option (List D)
  | [.lst a, .lst b] => some ((a.zip b).map fun p => D.tup [p.1, p.2])
  | [.tup a, .tup b] => some ((a.zip b).map fun p => D.tup [p.1, p.2])
  | [.tup a, .lst b] => some ((a.zip b).map fun p => D.tup [p.1, p.2])
  | _ => none
def walkD : IK → List D → Option (List D)
  | .of => wOf
  | .rng1 => wR1
  | .rng2 => wR2
  | .rng3 => wR3
  | .enum => wEn
  | .zip => wZp

/-- a list comprehension's turns -/
def lcStep (tg : Tg) (cond : M Bool) (elt : M D) (d : D) : M (Option D) := (tg.put d).bind fun _ => cond.bind fun b => if b then elt.bind fun x => M.ret (some x) else M.ret none
def lcGo (tg : Tg) (cond : M Bool) (elt : M D) : List D → List D → M (List D)
  | [], acc => M.ret acc
  | d :: ds, acc => fun ρ η => (lcStep tg cond elt d ρ η).bind fun o ρ' η' => match o with
      | some x => if acc.length < sizeLine then lcGo tg cond elt ds (acc ++ [x]) (wipeL ρ' tg.slots) η' else .fail
      | none => lcGo tg cond elt ds acc (wipeL ρ' tg.slots) η'
def freeS (ρ : List Slot) (is : List Nat) : Bool := is.all (fun i => match ρ[i]? with | some (.own _) => false | some _ => true | none => false)
def lcAll (tg : Tg) (items : List D) (cond : M Bool) (elt : M D) : M RV := fun ρ η => if freeS ρ tg.slots then (match lcGo tg cond elt items [] (wipeL ρ tg.slots) η with
  | .ok acc ρ' η' => .ok (.own (.lst acc)) (backL ρ ρ' tg.slots) η'
  | _ => .fail) else .fail

/-! ### mutation -/
inductive Tgt where
  | slot (i : Nat) | at (n : Nat)
def seen (t : Tgt) : M AO := fun ρ η => match t with
  | .slot i => (match ρ[i]? with | some (.own o) => .ok o ρ η | _ => .fail)
  | .at n => (match η[n]? with | some o => .ok o ρ η | none => .fail)
def store (t : Tgt) (o : AO) : M Unit := fun ρ η => match t with
  | .slot i => .ok () (ρ.set i (.own o)) η
  | .at n => .ok () ρ (η.set n o)
def tgtD : D → M Tgt
  | .ref n => M.ret (.at n)
  | _ => M.fail
/-- a local's own object, or the object that it is bound to -/
def tgtVar (i : Nat) : M Tgt := fun ρ η => match ρ[i]? with
  | some (.own _) => .ok (.slot i) ρ η
  | some (.val (.ref n)) => .ok (.at n) ρ η
  | _ => .fail
def isLst : AO → Bool
  | .lst _ => true
  | _ => false
def appAct : AO → List D → Option (D × AO)
  | .lst ds, [d] => if ds.length < sizeLine then some (.non, .lst (ds ++ [d])) else none
  | _, _ => none
def extAct : AO → List D → Option (D × AO)
  | .lst ds, [.lst es] => if ds.length + es.length ≤ sizeLine then some (.non, .lst (ds ++ es)) else none
  | .lst ds, [.tup es] => if ds.length + es.length ≤ sizeLine then some (.non, .lst (ds ++ es)) else none
  | _, _ => none
def popAct : AO → List D → Option (D × AO)
  | .lst ds, [] => (match ds[ds.length - 1]? with | some d => some (d, .lst ds.dropLast) | none => none)
  | .lst ds, [.int i] => if -(2 ^ 63) ≤ i ∧ i < 2 ^ 63 then (match L2.ixN ds.length i with
      | some k => (match ds[k]? with | some d => some (d, .lst (ds.eraseIdx k)) | none => none)
      | none => none) else none
  | _, _ => none
def lmAct : LM → AO → List D → Option (D × AO)
  | .append => appAct
  | .extend => extAct
  | .pop => popAct
def setAct (o : AO) (k d : D) : Option AO := match o with
  | .lst ds => (match k with
    | .int i => (match L2.ixN ds.length i with | some j => some (.lst (ds.set j d)) | none => none)
    | _ => none)
  | .dK kvs => (match keyD k with | some k => if kvs.length < sizeLine then some (.dK (putK kvs k d)) else none | none => none)
  | .dT kvs => (match keyT k with | some k => if kvs.length < sizeLine then some (.dT (putK kvs k d)) else none | none => none)
  | _ => none

/-- the fuel of whiles: more turns than any run makes -/
def fuelW : Nat := 1000000000000

section
variable (Φ : Nat → Fn)
def callF (f : Nat) (ds : List D) : M RV := fun ρ η => match Φ f ds η with
  | .ret r η' => .ok r ρ η'
  | .exc c fs η' => .exc c fs ρ η'
  | .fail => .fail

def hasS (i : Nat) : M Unit := fun ρ η => match ρ[i]? with
  | some (.val _) => .ok () ρ η
  | some (.own _) => .ok () ρ η
  | _ => .fail
def vwE (v : Option Nat) (m : M RV) : M Vw := match v with | some j => vwVar j | none => m.bind vwOf
def idxE (v : Option Nat) (ma mi : M RV) : M RV := match v with
  | some j => (hasS j).bind fun _ => (mi.bind frz).bind fun k => (vwVar j).bind fun v => (M.opt (atD v k)).bind fun d => M.ret (.val d)
  | none => (ma.bind frz).bind fun x => (mi.bind frz).bind fun k => (vwOf (.val x)).bind fun v => (M.opt (atD v k)).bind fun d => M.ret (.val d)
def partE (b : Bool) (m : M RV) : M (Option Int) := if b then (m.bind frz).bind fun d => (match d with | .int i => M.ret (some i) | _ => M.fail) else M.ret none
def slcE (v : Option Nat) (ma : M RV) (ml mh : M (Option Int)) : M RV := match v with
  | some j => (hasS j).bind fun _ => ml.bind fun l => mh.bind fun h => (vwVar j).bind fun v => M.opt (cutD v l h)
  | none => (ma.bind frz).bind fun x => ml.bind fun l => mh.bind fun h => (vwOf (.val x)).bind fun v => M.opt (cutD v l h)
def actE (m : LM) (t : Tgt) (args : M (List D)) : M RV := (seen t).bind fun o => if isLst o then args.bind fun xs => (seen t).bind fun o => (M.opt (lmAct m o xs)).bind fun p => (store t p.2).bind fun _ => M.ret (.val p.1) else M.fail
def mthE (m : LM) (v : Option Nat) (ma : M RV) (args : M (List D)) : M RV := match v with
  | some j => (tgtVar j).bind fun t => actE m t args
  | none => ((ma.bind frz).bind tgtD).bind fun t => actE m t args
mutual
def evR : CE → M RV
  | .cst d => M.ret (.val d)
  | .var i => (rdVar i).bind fun d => M.ret (.val d)
  | .bin o a b => ((evR a).bind frz).bind fun x => ((evR b).bind frz).bind fun y => M.opt (binD o x y)
  | .neg a => ((evR a).bind frz).bind fun x => match x with | .int i => M.ret (.val (.int (-i))) | _ => M.fail
  | .cmp o a b => match o with
    | .isin => ((evR a).bind frz).bind fun x => (vwE b.var? (evR b)).bind fun v => (M.opt (inD x v)).bind fun r => M.ret (.val (.bl r))
    | .notin => ((evR a).bind frz).bind fun x => (vwE b.var? (evR b)).bind fun v => (M.opt (inD x v)).bind fun r => M.ret (.val (.bl (!r)))
    | o => ((evR a).bind frz).bind fun x => ((evR b).bind frz).bind fun y => (M.opt (cmpD o x y)).bind fun r => M.ret (.val (.bl r))
  | .chn o o' a b c => ((evR a).bind frz).bind fun x => ((evR b).bind frz).bind fun y => (M.opt (cmpD o x y)).bind fun r =>
      if r then ((evR c).bind frz).bind fun z => (M.opt (cmpD o' y z)).bind fun r' => M.ret (.val (.bl r')) else M.ret (.val (.bl false))
  | .and a b => (((evR a).bind frz).bind boolD).bind fun p => if p then (((evR b).bind frz).bind boolD).bind fun q => M.ret (.val (.bl q)) else M.ret (.val (.bl false))
  | .or a b => (((evR a).bind frz).bind boolD).bind fun p => if p then M.ret (.val (.bl true)) else (((evR b).bind frz).bind boolD).bind fun q => M.ret (.val (.bl q))
  | .not a => (((evR a).bind frz).bind boolD).bind fun p => M.ret (.val (.bl (!p)))
  | .ite c a b => (((evR c).bind frz).bind boolD).bind fun p => if p then evR a else evR b
  | .tup es => (evDs es).bind fun ds => if ds.length ≤ sizeLine then M.ret (.val (.tup ds)) else M.fail
  | .lst es => (evDs es).bind fun ds => if ds.length ≤ sizeLine then M.ret (.own (.lst ds)) else M.fail
  | .dic t => M.ret (.own (if t then .dT [] else .dK []))
  | .box e => (evR e).bind boxed
  | .idx a i => idxE a.var? (evR a) (evR i)
  | .slc a bl lo bh hi => slcE a.var? (evR a) (partE bl (evR lo)) (partE bh (evR hi))
  | .call f es => (evDs es).bind fun ds => callF Φ f ds
  | .bi1 b e => (vwE e.var? (evR e)).bind fun v => M.opt (bi1 b v)
  | .bi2 b x y => ((evR x).bind frz).bind fun d => ((evR y).bind frz).bind fun d' => M.opt (bi2 b d d')
  | .isi a ts => ((evR a).bind frz).bind fun x => match ts.mapM (tyD x) with | some bs => M.ret (.val (.bl (bs.any id))) | none => M.fail
  | .lc elt tg ik es cs => (evDs es).bind fun ds => (M.opt (walkD ik ds)).bind fun items => lcAll tg items (evCs cs) ((evR elt).bind frz)
  | .mth m a es => mthE m a.var? (evR a) (evDs es)
def evDs : List CE → M (List D)
  | [] => M.ret []
  | e :: es => ((evR e).bind frz).bind fun d => (evDs es).bind fun ds => M.ret (d :: ds)
def evCs : List CE → M Bool
  | [] => M.ret true
  | c :: cs => (((evR c).bind frz).bind boolD).bind fun b => if b then evCs cs else M.ret false
end

/-! ### statements -/
inductive Fl where
  | next | ret (r : RV) | brk | cnt
def forGo (put : D → M Unit) (body : M Fl) : List D → M Fl
  | [] => M.ret .next
  | d :: ds => (put d).bind fun _ => body.bind fun f => match f with
    | .next => forGo put body ds
    | .cnt => forGo put body ds
    | .brk => M.ret .next
    | .ret r => M.ret (.ret r)
/-- over a numbered list, as it stands at each turn -/
def refGo (put : D → M Unit) (body : M Fl) (n : Nat) : Nat → Nat → M Fl
  | 0, _ => M.fail
  | f + 1, i => fun ρ η => match η[n]? with
    | some (.lst ds) => (match ds[i]? with
      | some d => ((put d).bind fun _ => body.bind fun fl => match fl with
        | .next => refGo put body n f (i + 1)
        | .cnt => refGo put body n f (i + 1)
        | .brk => M.ret .next
        | .ret r => M.ret (.ret r)) ρ η
      | none => .ok .next ρ η)
    | _ => .fail
def whlGo (c : M Bool) (body : M Fl) : Nat → M Fl
  | 0 => M.fail
  | n + 1 => c.bind fun b => if b then body.bind fun f => (match f with
    | .next => whlGo c body n
    | .cnt => whlGo c body n
    | .brk => M.ret .next
    | .ret r => M.ret (.ret r)) else M.ret .next
/-- a statement, then the rest -/
def seqK (k : M Fl) : Fl → M Fl
  | .next => k
  | .cnt => M.ret .cnt
  | .brk => M.ret .brk
  | .ret r => M.ret (.ret r)
def setIE (v : Option Nat) (me ma mi : M RV) : M Fl := (me.bind frz).bind fun d => match v with
  | some j => (hasS j).bind fun _ => (mi.bind frz).bind fun k => (tgtVar j).bind fun t => (seen t).bind fun o => (M.opt (setAct o k d)).bind fun o' => (store t o').bind fun _ => M.ret .next
  | none => (ma.bind frz).bind fun x => (mi.bind frz).bind fun k => (tgtD x).bind fun t => (seen t).bind fun o => (M.opt (setAct o k d)).bind fun o' => (store t o').bind fun _ => M.ret .next
def retE (v : Option Nat) (me : M RV) : M Fl := match v with
  | some j => (getS j).bind fun s => match s with
    | .own o => M.ret (.ret (.own o))
    | .val d => M.ret (.ret (.val d))
    | .un => M.fail
  | none => me.bind fun r => M.ret (.ret r)
/-- a local's value, not an own object -/
def valS (i : Nat) : M D := fun ρ η => match ρ[i]? with
  | some (.val d) => .ok d ρ η
  | _ => .fail
def refE (put : D → M Unit) (body : M Fl) (d : D) : M Fl := match d with
  | .ref n => refGo put body n fuelW 0
  | _ => M.fail
def unpack (is : List Nat) (d : D) : M Unit := Tg.put (.tp is) d
mutual
def exS : CS → M Fl
  | .set i e => (evR Φ e).bind fun r => (setS i (slotOf r)).bind fun _ => M.ret .next
  | .setT is e => ((evR Φ e).bind frz).bind fun d => (unpack is d).bind fun _ => M.ret .next
  | .setI a i e => setIE a.var? (evR Φ e) (evR Φ a) (evR Φ i)
  | .aug i o e => (valS i).bind fun x => ((evR Φ e).bind frz).bind fun y => (M.opt (augD o x y)).bind fun z => (setS i (.val z)).bind fun _ => M.ret .next
  | .ex e => (evR Φ e).bind fun _ => M.ret .next
  | .iff c a b => (((evR Φ c).bind frz).bind boolD).bind fun p => if p then exSs a else exSs b
  | .for_ tg ik es body => (evDs Φ es).bind fun ds => (M.opt (walkD ik ds)).bind fun items => forGo tg.put (exSs body) items
  | .forR tg e body => ((evR Φ e).bind frz).bind fun d => refE tg.put (exSs body) d
  | .whl c body => whlGo (((evR Φ c).bind frz).bind boolD) (exSs body) fuelW
  | .ret e => retE e.var? (evR Φ e)
  | .retN => M.ret (.ret (.val .non))
  | .brk => M.ret .brk
  | .cnt => M.ret .cnt
  | .pss => M.ret .next
  | .bad => M.fail
def exSs : List CS → M Fl
  | [] => M.ret .next
  | s :: ss => (exS s).bind (seqK (exSs ss))
end
def runF (n : Nat) (body : List CS) : Fn := fun ds η => match exSs Φ body (ds.map .val ++ List.replicate (n - ds.length) .un) η with
  | .ok .next _ η' => .ret (.val .non) η'
  | .ok (.ret r) _ η' => .ret r η'
  | .exc c fs _ η' => .exc c fs η'
  | _ => .fail
end
/-- a def: its slots, its parameters, its body -/
structure Fd where
  n : Nat
  np : Nat
  body : List CS
/-- what the defs do, to a depth of calls -/
def den (P : List Fd) : Nat → Nat → Fn
  | 0, _ => fun _ _ => .fail
  | k + 1, f => match P[f]? with
    | some d => fun ds η => if ds.length = d.np then runF (den P k) d.n d.body ds η else .fail
    | none => fun _ _ => .fail

/-! ### from the text -/
structure CT where
  funs : List Str
  consts : List (Str × D)
  bx : List (Nat × Nat)
  dt : List (Nat × Nat)
  blts : List Str
def binOf : Operator → Option BOp
  | .Add => some .add | .Sub => some .sub | .Mult => some .mul | .FloorDiv => some .fdiv | .Mod => some .mod | .Pow => some .pow
  | _ => none
def cmpOf : CmpOp → COp
  | .Eq => .eq | .NotEq => .ne | .Lt => .lt | .LtE => .le | .Gt => .gt | .GtE => .ge | .Is => .is | .IsNot => .isnot | .In => .isin | .NotIn => .notin
def plainN (x : Str) : Bool := !(x == ("__debug__" : Str)) && !(x == ("__classdict__" : Str)) && !(x == ("__name__" : Str))
inductive Res where
  | slot (i : Nat) | fn (f : Nat) | cst (d : D) | blt (b : Str)
def ixOf (x : Str) : List Str → Option Nat
  | [] => none
  | y :: r => if y = x then some 0 else (ixOf x r).map (· + 1)
/-- what a name is -/
def resN (T : CT) (N : List Str) (sc : Scope) (x : Str) : Option Res := if plainN x then (match sc.names.lookup x with
    | some .local => (ixOf x N).map .slot
    | some .cell => (ixOf x N).map .slot
    | some .free => (ixOf x N).map .slot
    | some .globalImplicit => (match ixOf x T.funs with
      | some f => some (.fn f)
      | none => (match T.consts.lookup x with
        | some d => some (.cst d)
        | none => if T.blts.contains x then some (.blt x) else none))
    | _ => none) else none
def slotN (T : CT) (N : List Str) (sc : Scope) (x : Str) : Option Nat := if sc.names.lookup x = some .free then none else match resN T N sc x with | some (.slot i) => some i | _ => none
def isIf : Expr → Bool
  | .IfExp .. => true
  | _ => false
def isLC : Expr → Bool
  | .ListComp .. => true
  | _ => false
def isTup : Expr → Bool
  | .Tuple .. => true
  | _ => false
def isSlice : Expr → Bool
  | .Slice .. => true
  | .Starred .. => true
  | _ => false
def biOf (b : Str) : Option Bi :=
  if b = "len" then some .len else if b = "abs" then some .abs else if b = "int" then some .int else if b = "tuple" then some .tuple
  else if b = "list" then some .list else if b = "sum" then some .sum else if b = "min" then some .min else if b = "max" then some .max else none
def ikOf (b : Str) (n : Nat) : Option IK :=
  if b = "range" then (match n with | 1 => some .rng1 | 2 => some .rng2 | 3 => some .rng3 | _ => none) else if b = "enumerate" then (match n with | 1 => some .enum | _ => none) else if b = "zip" then (match n with | 2 => some .zip | _ => none) else none
def tyOf (b : Str) : Option Ty :=
  if b = "int" then some .int else if b = "bool" then some .bool else if b = "str" then some .str else if b = "tuple" then some .tup else if b = "list" then some .lst else none
def lmOf (m : Str) : Option LM := if m = "append" then some .append else if m = "extend" then some .extend else if m = "pop" then some .pop else none
def wrapB (T : CT) (p : Pos) (e : CE) : CE := if T.bx.contains (p.line, p.col) then .box e else e
def relS (scope sc : Scope) : Scope := L2.relS scope sc
mutual
def cE (T : CT) (N : List Str) : Nat → Scope → Expr → Option CE
  | 0, _, _ => none
  | n + 1, sc, e => match e with
    | .Constant (.int i) _ _ => some (.cst (.int i))
    | .Constant (.bool b) _ _ => some (.cst (.bl b))
    | .Constant .none _ _ => some (.cst .non)
    | .Constant (.str s) _ _ => some (.cst (.str s))
    | .Name x _ => (match resN T N sc x with
      | some (.slot i) => some (.var i)
      | some (.cst d) => some (.cst d)
      | _ => none)
    | .BinOp a op b p => do let o ← binOf op; let a ← cE T N n sc a; let b ← cE T N n sc b; some (wrapB T p (.bin o a b))
    | .UnaryOp .USub a _ => do let a ← cE T N n sc a; some (.neg a)
    | .UnaryOp .Not a _ => if isIf a then none else do let a ← cE T N n sc a; some (.not a)
    | .BoolOp _ [a] _ => if isIf a then none else cE T N n sc a
    | .BoolOp .And (a :: b :: r) p => if isIf a then none else do let a ← cE T N n sc a; let b ← cE T N n sc (.BoolOp .And (b :: r) p); some (.and a b)
    | .BoolOp .Or (a :: b :: r) p => if isIf a then none else do let a ← cE T N n sc a; let b ← cE T N n sc (.BoolOp .Or (b :: r) p); some (.or a b)
    | .Compare a [op] [b] _ => do let a ← cE T N n sc a; let b ← cE T N n sc b; some (.cmp (cmpOf op) a b)
    | .Compare a [op, op'] [b, c] _ => if decide (op = .In) || decide (op = .NotIn) || decide (op' = .In) || decide (op' = .NotIn) then none else do let a ← cE T N n sc a; let b ← cE T N n sc b; let c ← cE T N n sc c; some (.chn (cmpOf op) (cmpOf op') a b c)
    | .IfExp c a b _ => if isIf c then none else do let c ← cE T N n sc c; let a ← cE T N n sc a; let b ← cE T N n sc b; some (.ite c a b)
    | .Tuple es _ _ => do let es ← cEs T N n sc es; some (.tup es)
    | .Dict [] [] p => some (wrapB T p (.dic (T.dt.contains (p.line, p.col))))
    | .List es p => do let es ← cEs T N n sc es; some (wrapB T p (.lst es))
    | .Subscript a (.Slice lo hi none _) p => do let a ← cE T N n sc a; let lo' ← cO T N n sc lo; let hi' ← cO T N n sc hi; some (wrapB T p (.slc a lo.isSome lo' hi.isSome hi'))
    | .Subscript a i _ => if isSlice i then none else do let a ← cE T N n sc a; let i ← cE T N n sc i; some (.idx a i)
    | .ListComp elt [⟨tg, iter, ifs, 0⟩] scope p => do
      let (ik, es) ← cI T N n sc iter
      let tg ← cTg T N n (relS scope sc) tg
      if tgOk ik tg && L2.blkC N sc scope (tg.slots.map fun i => (N.getD i "", i)) && decide (ifs.length ≤ 1) && !(ifs.any isIf) && (tg.slots.all fun i => match scope.names.lookup (N.getD i "") with | some .local => true | some .cell => true | _ => false) then do
        let elt ← cE T N n (relS scope sc) elt
        let cs ← cEs T N n (relS scope sc) ifs
        some (wrapB T p (.lc elt tg ik es cs))
      else none
    | .Call (.Name f _) args [] p => (match resN T N sc f with
      | some (.fn f) => do let es ← cEs T N n sc args; some (wrapB T p (.call f es))
      | some (.blt b) =>
        if b = "isinstance" then (match args with
          | [a, .Name t _] => (match resN T N sc t with
            | some (.blt t) => do let t ← tyOf t; let a ← cE T N n sc a; some (.isi a [t])
            | _ => none)
          | _ => none)
        else (match args with
        | [a] => do let b ← biOf b; let a ← cE T N n sc a; some (wrapB T p (.bi1 b a))
        | [a, c] => if b = "min" then (do let a ← cE T N n sc a; let c ← cE T N n sc c; some (.bi2 .min a c)) else if b = "max" then (do let a ← cE T N n sc a; let c ← cE T N n sc c; some (.bi2 .max a c)) else none
        | _ => none)
      | _ => none)
    | .Call (.Attribute o m ap) args [] p => if (ap.endLine == p.line) && decide (args.length < 20) then do let m ← lmOf m; let o ← cE T N n sc o; let es ← cEs T N n sc args; some (.mth m o es) else none
    | _ => none
def cEs (T : CT) (N : List Str) : Nat → Scope → List Expr → Option (List CE)
  | _, _, [] => some []
  | 0, _, _ => none
  | n + 1, sc, e :: es => do let c ← cE T N n sc e; let cs ← cEs T N n sc es; some (c :: cs)
def cO (T : CT) (N : List Str) : Nat → Scope → Option Expr → Option CE
  | 0, _, _ => none
  | _ + 1, _, none => some (.cst .non)
  | n + 1, sc, some e => cE T N n sc e
def cI (T : CT) (N : List Str) : Nat → Scope → Expr → Option (IK × List CE)
  | 0, _, _ => none
  | n + 1, sc, e => match e with
    | .Call (.Name f _) args [] _ => (match resN T N sc f with
      | some (.blt b) => (match ikOf b args.length with
        | some k => do let es ← cEs T N n sc args; some (k, es)
        | none => do let c ← cE T N n sc e; some (.of, [c]))
      | _ => do let c ← cE T N n sc e; some (.of, [c]))
    | e => do let c ← cE T N n sc e; some (.of, [c])
def cTg (T : CT) (N : List Str) : Nat → Scope → Expr → Option Tg
  | 0, _, _ => none
  | _ + 1, sc, .Name x _ => do let i ← slotN T N sc x; some (.nm i)
  | _ + 1, sc, .Tuple es _ _ => do let is ← es.mapM (fun e => match e with | .Name x _ => slotN T N sc x | _ => none); if is.Nodup then some (.tp is) else none
  | _, _, _ => none
end
mutual
def cS (T : CT) (N : List Str) : Nat → Scope → Stmt → Option CS
  | 0, _, _ => none
  | n + 1, sc, s => match s with
    | .Assign [.Name x _] e _ => do let i ← slotN T N sc x; let e ← cE T N n sc e; some (.set i e)
    | .Assign [.Tuple es k p] e _ => do let tg ← cTg T N n sc (.Tuple es k p); if isTup e || isLC e then none else do let e ← cE T N n sc e; match tg with | .tp is => some (.setT is e) | _ => none
    | .Assign [.Subscript a i _] e _ => if isSlice i then none else do let e ← cE T N n sc e; let a ← cE T N n sc a; let i ← cE T N n sc i; some (.setI a i e)
    | .AugAssign (.Name x _) op e _ => do let i ← slotN T N sc x; let o ← (match op with | .Add => some BOp.add | .Sub => some BOp.sub | _ => none); let e ← cE T N n sc e; some (.aug i o e)
    | .Expr e _ => if isLC e then none else do let e ← cE T N n sc e; some (.ex e)
    | .If c a b _ => if isIf c then none else do let c ← cE T N n sc c; let a ← cSs T N n sc a; let b ← cSs T N n sc b; some (.iff c a b)
    | .For tg iter body [] p => if T.bx.contains (p.line, p.col) then (do let tg ← cTg T N n sc tg; let e ← cE T N n sc iter; let b ← cSs T N n sc body; some (.forR tg e b)) else do let tg ← cTg T N n sc tg; let (ik, es) ← cI T N n sc iter; let b ← cSs T N n sc body; if tgOk ik tg then some (.for_ tg ik es b) else none
    | .While c body [] _ => if isIf c then none else do let c ← cE T N n sc c; let b ← cSs T N n sc body; some (.whl c b)
    | .Return (some e) _ => do let e ← cE T N n sc e; some (.ret e)
    | .Return none _ => some .retN
    | .Break _ => some .brk
    | .Continue _ => some .cnt
    | .Pass _ => some .pss
    | _ => none
def cSs (T : CT) (N : List Str) : Nat → Scope → List Stmt → Option (List CS)
  | _, _, [] => some []
  | 0, _, _ => none
  | n + 1, sc, s :: ss => do let cs ← cSs T N n sc ss; some ((cS T N n sc s).getD .bad :: cs)
end
end Mp

/-! the evaluator's states and the layer's -/
namespace Mp
open PySem L2

theorem Same.sqt {K : PySem.W.Frag} {H H' : Hp} {a : Addr} {xs : List V} (e : Same H H') (h : SqT K H a xs) : SqT K H' a xs := by
  rcases h with (h | ⟨o, h⟩) | h
  · exact .inl (.inl (e _ _ h))
  · exact .inl (.inr ⟨o, e _ _ h⟩)
  · exact .inr h

/-- what is fixed: the written part, the classes' addresses -/
structure Gc where
  K : PySem.W.Frag
  cad : Nat → Addr

section
variable (K : PySem.W.Frag) (S : Hp) (ι : List Addr)
mutual
def RelD : D → V → Prop
  | .non, v => v = .non
  | .bl b, v => v = .bl b
  | .int i, v => v = .int i
  | .str s, v => v = .str s
  | .tup ds, v => ∃ a vs, v = .ref a ∧ S a = some (.tup vs) ∧ RelDs ds vs
  | .ktp ds, v => ∃ a vs, v = .ref a ∧ SqT K S a vs ∧ RelDs ds vs
  | .lst ds, v => ∃ a vs, v = .ref a ∧ S a = some (.lst vs) ∧ RelDs ds vs
  | .lck ds, v => ∃ a vs, v = .ref a ∧ SqL K S a vs ∧ RelDs ds vs
  | .ref n, v => ∃ a, ι[n]? = some a ∧ v = .ref a
def RelDs : List D → List V → Prop
  | [], vs => vs = []
  | d :: ds, vs => ∃ v r, vs = v :: r ∧ RelD d v ∧ RelDs ds r
end
end
mutual
theorem RelD.mono {K : PySem.W.Frag} {S S' : Hp} {ι ι' : List Addr} (s : Same S S') (p : ι <+: ι') : ∀ {d : D} {v : V}, RelD K S ι d v → RelD K S' ι' d v
  | .non, _, h => h
  | .bl _, _, h => h
  | .int _, _, h => h
  | .str _, _, h => h
  | .tup ds, v, h => by
    unfold RelD at h ⊢
    obtain ⟨a, vs, e, q, r⟩ := h
    exact ⟨a, vs, e, s _ _ q, RelDs.mono s p r⟩
  | .ktp ds, v, h => by
    unfold RelD at h ⊢
    obtain ⟨a, vs, e, q, r⟩ := h
    exact ⟨a, vs, e, Same.sqt s q, RelDs.mono s p r⟩
  | .lst ds, v, h => by
    unfold RelD at h ⊢
    obtain ⟨a, vs, e, q, r⟩ := h
    exact ⟨a, vs, e, s _ _ q, RelDs.mono s p r⟩
  | .lck ds, v, h => by
    unfold RelD at h ⊢
    obtain ⟨a, vs, e, q, r⟩ := h
    exact ⟨a, vs, e, s.seq q, RelDs.mono s p r⟩
  | .ref n, v, h => by
    unfold RelD at h ⊢
    obtain ⟨a, e, e2⟩ := h
    obtain ⟨t, rfl⟩ := p
    exact ⟨a, by rw [List.getElem?_append_left (List.getElem?_eq_some_iff.mp e).1]; exact e, e2⟩
theorem RelDs.mono {K : PySem.W.Frag} {S S' : Hp} {ι ι' : List Addr} (s : Same S S') (p : ι <+: ι') : ∀ {ds : List D} {vs : List V}, RelDs K S ι ds vs → RelDs K S' ι' ds vs
  | [], _, h => h
  | d :: ds, vs, h => by
    unfold RelDs at h ⊢
    obtain ⟨v, r, e, h1, h2⟩ := h
    exact ⟨v, r, e, RelD.mono s p h1, RelDs.mono s p h2⟩
end
section
variable {K : PySem.W.Frag} {S : Hp} {ι : List Addr}
theorem RelDs.nil : RelDs K S ι [] [] := rfl
theorem RelDs.cons {d : D} {v : V} {ds : List D} {vs : List V} (h : RelD K S ι d v) (t : RelDs K S ι ds vs) : RelDs K S ι (d :: ds) (v :: vs) := ⟨v, vs, rfl, h, t⟩
theorem RelDs.length : ∀ {ds : List D} {vs : List V}, RelDs K S ι ds vs → ds.length = vs.length
  | [], _, h => by cases (show _ = [] from h); rfl
  | d :: ds, _, ⟨v, r, e, _, t⟩ => by subst e; simp [RelDs.length t]
theorem RelDs.get : ∀ {ds : List D} {vs : List V} {i : Nat} {d : D}, RelDs K S ι ds vs → ds[i]? = some d → ∃ v, vs[i]? = some v ∧ RelD K S ι d v
  | [], _, _, _, _, e => by simp at e
  | d :: ds, _, 0, d', ⟨v, r, e, h, t⟩, q => by
    subst e
    simp at q
    subst q
    exact ⟨v, rfl, h⟩
  | d :: ds, _, i + 1, d', ⟨v, r, e, h, t⟩, q => by
    subst e
    obtain ⟨w, h1, h2⟩ := RelDs.get (i := i) t (by simpa using q)
    exact ⟨w, by simpa using h1, h2⟩
theorem RelDs.none : ∀ {ds : List D} {vs : List V} {i : Nat}, RelDs K S ι ds vs → ds[i]? = none → vs[i]? = none := fun {ds vs i} h e => by
  have := h.length
  rw [List.getElem?_eq_none_iff] at e ⊢
  omega
theorem RelDs.append : ∀ {ds es : List D} {vs ws : List V}, RelDs K S ι ds vs → RelDs K S ι es ws → RelDs K S ι (ds ++ es) (vs ++ ws)
  | [], _, _, _, h, t => by cases (show _ = [] from h); exact t
  | d :: ds, _, _, _, ⟨v, r, e, h, t⟩, q => by subst e; exact RelDs.cons h (RelDs.append t q)
theorem RelDs.take : ∀ {ds : List D} {vs : List V} (n : Nat), RelDs K S ι ds vs → RelDs K S ι (ds.take n) (vs.take n)
  | [], _, n, h => by cases (show _ = [] from h); simp [RelDs.nil]
  | d :: ds, _, 0, ⟨v, r, e, h, t⟩ => by subst e; exact RelDs.nil
  | d :: ds, _, n + 1, ⟨v, r, e, h, t⟩ => by subst e; exact RelDs.cons h (RelDs.take n t)
theorem RelDs.drop : ∀ {ds : List D} {vs : List V} (n : Nat), RelDs K S ι ds vs → RelDs K S ι (ds.drop n) (vs.drop n)
  | [], _, n, h => by cases (show _ = [] from h); simp [RelDs.nil]
  | d :: ds, _, 0, ⟨v, r, e, h, t⟩ => by subst e; exact RelDs.cons h t
  | d :: ds, _, n + 1, ⟨v, r, e, h, t⟩ => by subst e; exact RelDs.drop n t
theorem RelDs.set : ∀ {ds : List D} {vs : List V} (n : Nat) {d : D} {v : V}, RelDs K S ι ds vs → RelD K S ι d v → RelDs K S ι (ds.set n d) (vs.set n v)
  | [], _, n, _, _, h, _ => by cases (show _ = [] from h); simp [RelDs.nil]
  | d :: ds, _, 0, _, _, ⟨v, r, e, h, t⟩, q => by subst e; exact RelDs.cons q t
  | d :: ds, _, n + 1, _, _, ⟨v, r, e, h, t⟩, q => by subst e; exact RelDs.cons h (RelDs.set n t q)
theorem RelDs.eraseIdx : ∀ {ds : List D} {vs : List V} (n : Nat), RelDs K S ι ds vs → RelDs K S ι (ds.eraseIdx n) (vs.eraseIdx n)
  | [], _, n, h => by cases (show _ = [] from h); simp [RelDs.nil]
  | d :: ds, _, 0, ⟨v, r, e, h, t⟩ => by subst e; exact t
  | d :: ds, _, n + 1, ⟨v, r, e, h, t⟩ => by subst e; exact RelDs.cons h (RelDs.eraseIdx n t)
theorem RelDs.dropLast {ds : List D} {vs : List V} (h : RelDs K S ι ds vs) : RelDs K S ι ds.dropLast vs.dropLast := by
  rw [List.dropLast_eq_take, List.dropLast_eq_take, h.length]
  exact h.take _
theorem RelDs.rep {ds : List D} {vs : List V} (h : RelDs K S ι ds vs) : ∀ k : Nat, RelDs K S ι (List.replicate k ds).flatten (List.replicate k vs).flatten
  | 0 => RelDs.nil
  | k + 1 => by
    rw [List.replicate_succ, List.replicate_succ, List.flatten_cons, List.flatten_cons]
    exact h.append (RelDs.rep h k)
theorem RelDs.at {ds : List D} {vs : List V} {i : Int} {d : D} (h : RelDs K S ι ds vs) (e : atI ds i = some d) : ∃ v, atI vs i = some v ∧ RelD K S ι d v := by
  unfold atI at e ⊢
  rw [← h.length]
  cases q : L2.ixN ds.length i with
  | none => rw [q] at e; cases e
  | some j =>
    rw [q] at e
    obtain ⟨v, h1, h2⟩ := h.get e
    exact ⟨v, h1, h2⟩
theorem RelDs.intsOf : ∀ {ns : List Int} {vs : List V}, RelDs K S ι (ns.map D.int) vs → vs = ns.map V.int
  | [], _, h => h
  | n :: ns, _, ⟨v, r, e, h, t⟩ => by
    subst e
    rw [show v = V.int n from h, RelDs.intsOf t]
    rfl
theorem RelDs.ofInts : ∀ (ns : List Int), RelDs K S ι (ns.map D.int) (ns.map V.int)
  | [] => RelDs.nil
  | n :: ns => RelDs.cons rfl (RelDs.ofInts ns)
end

/-! ### objects -/
def RelFs (K : PySem.W.Frag) (S : Hp) (ι : List Addr) : List (Str × D) → List (Str × V) → Prop
  | [], vs => vs = []
  | p :: ps, vs => ∃ v r, vs = (p.1, v) :: r ∧ RelD K S ι p.2 v ∧ RelFs K S ι ps r
def RelKs {κ : Type} (K : PySem.W.Frag) (S : Hp) (ι : List Addr) : List (κ × D) → List (κ × V) → Prop
  | [], vs => vs = []
  | p :: ps, vs => ∃ v r, vs = (p.1, v) :: r ∧ RelD K S ι p.2 v ∧ RelKs K S ι ps r
theorem RelFs.mono {K : PySem.W.Frag} {S S' : Hp} {ι ι' : List Addr} (s : Same S S') (p : ι <+: ι') : ∀ {fs : List (Str × D)} {vs : List (Str × V)}, RelFs K S ι fs vs → RelFs K S' ι' fs vs
  | [], _, h => h
  | _ :: _, _, ⟨v, r, e, h, t⟩ => ⟨v, r, e, h.mono s p, RelFs.mono s p t⟩
theorem RelKs.mono {κ : Type} {K : PySem.W.Frag} {S S' : Hp} {ι ι' : List Addr} (s : Same S S') (p : ι <+: ι') : ∀ {fs : List (κ × D)} {vs : List (κ × V)}, RelKs K S ι fs vs → RelKs K S' ι' fs vs
  | [], _, h => h
  | _ :: _, _, ⟨v, r, e, h, t⟩ => ⟨v, r, e, h.mono s p, RelKs.mono s p t⟩
theorem RelKs.look {κ : Type} [DecidableEq κ] {K : PySem.W.Frag} {S : Hp} {ι : List Addr} {k : κ} : ∀ {fs : List (κ × D)} {vs : List (κ × V)}, RelKs K S ι fs vs →
    (∀ d, lookK fs k = some d → ∃ v, valV vs k = some v ∧ RelD K S ι d v) ∧ (lookK fs k = none → valV vs k = none)
  | [], _, h => by
    cases (show _ = [] from h)
    refine ⟨fun d e => ?_, fun _ => rfl⟩
    cases e
  | (k', d') :: fs, _, ⟨v, r, e, h, t⟩ => by
    subst e
    have ih := RelKs.look (k := k) t
    by_cases q : k' = k
    · subst q
      refine ⟨fun d e => ⟨v, valV_pos rfl, ?_⟩, fun e => ?_⟩
      · simp [lookK] at e
        subst e
        exact h
      · simp [lookK] at e
    · have e1 : lookK ((k', d') :: fs) k = lookK fs k := by simp [lookK, List.find?_cons, q]
      have e2 : valV ((k', v) :: r) k = valV r k := valV_neg q
      rw [e1, e2]
      exact ih
theorem RelKs.put {κ : Type} [DecidableEq κ] {K : PySem.W.Frag} {S : Hp} {ι : List Addr} {k : κ} {d : D} {v : V} {fs : List (κ × D)} {vs : List (κ × V)} (h : RelKs K S ι fs vs) (r : RelD K S ι d v) : RelKs K S ι (putK fs k d) (L2.putK vs k v) := by
  have an : ∀ {fs : List (κ × D)} {vs : List (κ × V)}, RelKs K S ι fs vs → (fs.any fun kv => decide (kv.1 = k)) = vs.any fun kv => decide (kv.1 = k) := fun {fs} => by
    induction fs with
    | nil => intro vs h; cases (show _ = [] from h); rfl
    | cons p fs ih =>
      intro vs h
      obtain ⟨v, r, e, _, t⟩ := h
      subst e
      simp [List.any_cons, ih t]
  have mp : ∀ {fs : List (κ × D)} {vs : List (κ × V)}, RelKs K S ι fs vs → RelKs K S ι (fs.map fun kv => if kv.1 = k then (kv.1, d) else kv) (vs.map fun kv => if kv.1 = k then (kv.1, v) else kv) := fun {fs} => by
    induction fs with
    | nil => intro vs h; cases (show _ = [] from h); exact rfl
    | cons p fs ih =>
      intro vs h
      obtain ⟨v', r', e, h1, t⟩ := h
      subst e
      by_cases q : p.1 = k
      · exact ⟨v, _, by simp [q], by simpa [q] using r, ih t⟩
      · exact ⟨v', _, by simp [q], by simpa [q] using h1, ih t⟩
  have ap : ∀ {fs : List (κ × D)} {vs : List (κ × V)}, RelKs K S ι fs vs → RelKs K S ι (fs ++ [(k, d)]) (vs ++ [(k, v)]) := fun {fs} => by
    induction fs with
    | nil => intro vs h; cases (show _ = [] from h); exact ⟨v, [], rfl, r, rfl⟩
    | cons p fs ih =>
      intro vs h
      obtain ⟨v', r', e, h1, t⟩ := h
      subst e
      exact ⟨v', _, rfl, h1, ih t⟩
  unfold putK L2.putK
  rw [an h]
  split
  · exact mp h
  · exact ap h
theorem RelKs.drop {κ : Type} [DecidableEq κ] {K : PySem.W.Frag} {S : Hp} {ι : List Addr} {k : κ} : ∀ {fs : List (κ × D)} {vs : List (κ × V)}, RelKs K S ι fs vs → RelKs K S ι (dropK fs k) (L2.dropK vs k)
  | [], _, h => by cases (show _ = [] from h); exact rfl
  | p :: fs, _, ⟨v, r, e, h, t⟩ => by
    subst e
    have ih := RelKs.drop (k := k) t
    by_cases q : p.1 = k
    · simpa [dropK, L2.dropK, List.filter_cons, q] using ih
    · have e1 : dropK (p :: fs) k = p :: dropK fs k := by simp [dropK, List.filter_cons, q]
      have e2 : L2.dropK ((p.1, v) :: r) k = (p.1, v) :: L2.dropK r k := by simp [L2.dropK, List.filter_cons, q]
      rw [e1, e2]
      exact ⟨v, _, rfl, h, ih⟩
theorem RelKs.length {κ : Type} {K : PySem.W.Frag} {S : Hp} {ι : List Addr} : ∀ {fs : List (κ × D)} {vs : List (κ × V)}, RelKs K S ι fs vs → fs.length = vs.length
  | [], _, h => by cases (show _ = [] from h); rfl
  | _ :: _, _, ⟨v, r, e, h, t⟩ => by subst e; simp [RelKs.length t]

/-- a mutable object -/
def RelA (G : Gc) (S : Hp) (ι : List Addr) : AO → HO → Prop
  | .lst ds, h => ∃ vs, h = .lst vs ∧ RelDs G.K S ι ds vs
  | .dK kvs, h => ∃ vs, h = .dK vs ∧ RelKs G.K S ι kvs vs
  | .dT kvs, h => ∃ vs, h = .dT vs ∧ RelKs G.K S ι kvs vs
  | .ins c fs, h => ∃ dx vs, h = .ins (G.cad c) dx vs ∧ RelFs G.K S ι fs vs
theorem RelA.mono {G : Gc} {S S' : Hp} {ι ι' : List Addr} (s : Same S S') (p : ι <+: ι') : ∀ {o : AO} {h : HO}, RelA G S ι o h → RelA G S' ι' o h
  | .lst _, _, ⟨vs, e, r⟩ => ⟨vs, e, r.mono s p⟩
  | .dK _, _, ⟨vs, e, r⟩ => ⟨vs, e, r.mono s p⟩
  | .dT _, _, ⟨vs, e, r⟩ => ⟨vs, e, r.mono s p⟩
  | .ins _ _, _, ⟨dx, vs, e, r⟩ => ⟨dx, vs, e, r.mono s p⟩

/-- F: what others hold; S: what stands still; ι: where the numbered objects stand -/
structure Base (G : Gc) (F : Hp) (η : List AO) (H S : Hp) (ι : List Addr) : Prop where
  sub : Same S H
  frm : Same F H
  fs : ∀ a, F a ≠ none → S a = none
  fi : ∀ a ∈ ι, F a = none
  si : ∀ a ∈ ι, S a = none
  nd : ι.Nodup
  len : ι.length = η.length
  heap : ∀ (n : Nat) (o : AO), η[n]? = some o → ∃ a h, ι[n]? = some a ∧ H a = some h ∧ RelA G S ι o h

/-- an address of our own alone -/
structure Mine (F H S : Hp) (ι : List Addr) (a : Addr) : Prop where
  s : S a = none
  f : F a = none
  i : a ∉ ι
section
variable {G : Gc} {F : Hp} {η : List AO} {H S : Hp} {ι : List Addr} {p a : Addr} {o h : HO}
theorem Base.inι (B : Base G F η H S ι) (e : a ∈ ι) : ∃ h, H a = some h := by
  obtain ⟨n, hn, e1⟩ := List.getElem_of_mem e
  have h2 : n < η.length := by rw [← B.len]; exact hn
  obtain ⟨b, h, q1, q2, _⟩ := B.heap n η[n] (List.getElem?_eq_getElem h2)
  rw [List.getElem?_eq_getElem hn, e1] at q1
  cases q1
  exact ⟨h, q2⟩
theorem Base.new (B : Base G F η H S ι) (e : H p = none) : Mine F H S ι p :=
  ⟨B.sub.free e, B.frm.free e, fun q => by
    obtain ⟨h, z⟩ := B.inι q
    rw [e] at z
    cases z⟩
theorem same_new {H : Hp} {p : Addr} {o : HO} (e : H p = none) : Same H (upd H p o) := fun b x q => by
  rw [upd_ne (ne_of_none q e)]
  exact q
theorem same_upd2 {S H : Hp} {a : Addr} {o : HO} (s : Same S H) : Same (upd S a o) (upd H a o) := fun b x q => by
  by_cases z : b = a
  · subst z
    rw [upd_same] at q ⊢
    exact q
  · rw [upd_ne z] at q ⊢
    exact s _ _ q
theorem Base.keepH (B : Base G F η H S ι) {H' S' : Hp} (s : Same S S') (h1 : Same S' H') (h2 : Same F H') (h3 : ∀ a, F a ≠ none → S' a = none) (h4 : ∀ a ∈ ι, S' a = none) (h5 : ∀ a ∈ ι, H' a = H a) : Base G F η H' S' ι :=
  ⟨h1, h2, h3, B.fi, h4, B.nd, B.len, fun n o e => by
    obtain ⟨a, h, e1, e2, r⟩ := B.heap n o e
    exact ⟨a, h, e1, (h5 a (List.mem_of_getElem? e1)).trans e2, r.mono s (List.prefix_refl _)⟩⟩
/-- a new thing that stands still -/
theorem Base.still (B : Base G F η H S ι) (e : H p = none) : Base G F η (upd H p o) (upd S p o) ι := by
  have m := B.new e
  refine B.keepH (same_new m.s) (same_upd2 B.sub) (B.frm.trans (same_new e)) (fun a h => ?_) (fun a h => ?_) fun a h => ?_
  · by_cases z : a = p
    · subst z; exact absurd m.f h
    · rw [upd_ne z]; exact B.fs a h
  · rw [upd_ne (show a ≠ p from fun z => m.i (z ▸ h))]; exact B.si a h
  · exact upd_ne (fun z => m.i (z ▸ h))
/-- a thing of our own changes (or is new) -/
theorem Base.mine (B : Base G F η H S ι) (m : Mine F H S ι p) : Base G F η (upd H p o) S ι := by
  refine B.keepH (fun _ _ q => q) (fun b x q => ?_) (fun b x q => ?_) B.fs B.si fun a h => upd_ne (fun z => m.i (z ▸ h))
  · rw [upd_ne (ne_of_none q m.s)]; exact B.sub _ _ q
  · rw [upd_ne (ne_of_none q m.f)]; exact B.frm _ _ q
/-- a thing of our own stands still from now on -/
theorem Base.freeze (B : Base G F η H S ι) (m : Mine F H S ι p) (e : H p = some h) : Base G F η H (upd S p h) ι := by
  refine B.keepH (same_new m.s) (fun b x q => ?_) B.frm (fun a z => ?_) (fun a z => ?_) fun _ _ => rfl
  · by_cases z : b = p
    · subst z; rw [upd_same] at q; rw [e]; exact q
    · rw [upd_ne z] at q; exact B.sub _ _ q
  · by_cases y : a = p
    · subst y; exact absurd m.f z
    · rw [upd_ne y]; exact B.fs a z
  · rw [upd_ne (show a ≠ p from fun y => m.i (y ▸ z))]; exact B.si a z
/-- a thing of our own gets a number -/
theorem Base.box {x : AO} (B : Base G F η H S ι) (m : Mine F H S ι p) (e : H p = some h) (r : RelA G S ι x h) : Base G F (η ++ [x]) H S (ι ++ [p]) := by
  have pre : ι <+: ι ++ [p] := List.prefix_append _ _
  refine ⟨B.sub, B.frm, B.fs, fun a z => ?_, fun a z => ?_, ?_, by simp [B.len], fun n o q => ?_⟩
  · rcases List.mem_append.mp z with z | z
    · exact B.fi a z
    · rw [List.mem_singleton.mp z]; exact m.f
  · rcases List.mem_append.mp z with z | z
    · exact B.si a z
    · rw [List.mem_singleton.mp z]; exact m.s
  · refine List.nodup_append.mpr ⟨B.nd, by simp, fun a h1 b h2 z => ?_⟩
    rw [List.mem_singleton.mp h2] at z
    exact m.i (z ▸ h1)
  · by_cases hn : n < η.length
    · rw [List.getElem?_append_left hn] at q
      obtain ⟨a, h, e1, e2, r⟩ := B.heap n o q
      exact ⟨a, h, by rw [List.getElem?_append_left (by rw [B.len]; exact hn)]; exact e1, e2, r.mono (fun _ _ q => q) pre⟩
    · have hn2 : n = η.length := by
        have := (List.getElem?_eq_some_iff.mp q).1
        simp at this
        omega
      subst hn2
      rw [List.getElem?_append_right (Nat.le_refl _)] at q
      simp at q
      subst q
      exact ⟨p, h, by rw [← B.len, List.getElem?_append_right (Nat.le_refl _)]; simp, e, r.mono (fun _ _ q => q) pre⟩
/-- a numbered object changes -/
theorem Base.write {n : Nat} {x : AO} (B : Base G F η H S ι) (e : ι[n]? = some a) (r : RelA G S ι x h) : Base G F (η.set n x) (upd H a h) S ι := by
  have ha : a ∈ ι := List.mem_of_getElem? e
  refine ⟨fun b y q => ?_, fun b y q => ?_, B.fs, B.fi, B.si, B.nd, by simp [B.len], fun m o q => ?_⟩
  · rw [upd_ne (ne_of_none q (B.si a ha))]; exact B.sub _ _ q
  · rw [upd_ne (ne_of_none q (B.fi a ha))]; exact B.frm _ _ q
  · by_cases z : n = m
    · subst z
      have hn : n < η.length := by rw [← B.len]; exact (List.getElem?_eq_some_iff.mp e).1
      rw [List.getElem?_set_self hn] at q
      cases q
      exact ⟨a, h, e, upd_same, r⟩
    · rw [List.getElem?_set_ne z] at q
      obtain ⟨b, h', e1, e2, r'⟩ := B.heap m o q
      refine ⟨b, h', e1, ?_, r'⟩
      rw [upd_ne (fun y => z ?_)]
      · exact e2
      · subst y
        exact (List.getElem?_inj (List.getElem?_eq_some_iff.mp e).1 B.nd).mp (e.trans e1.symm)
end

/-! ### the slots -/
structure Slots (G : Gc) (F : Hp) (ρ : List Slot) (σ : St) (H S : Hp) (ι : List Addr) : Prop where
  len : ρ.length = σ.length
  val : ∀ (i : Nat) d, ρ[i]? = some (.val d) → ∃ v, σ[i]? = some (some v) ∧ RelD G.K S ι d v
  own : ∀ (i : Nat) o, ρ[i]? = some (.own o) → ∃ a h, σ[i]? = some (some (.ref a)) ∧ H a = some h ∧ RelA G S ι o h ∧ Mine F H S ι a
  dist : ∀ (i j : Nat) o o' a, ρ[i]? = some (.own o) → ρ[j]? = some (.own o') → σ[i]? = some (some (V.ref a)) → σ[j]? = some (some (V.ref a)) → i = j
/-- a is no own slot's -/
def Apart (ρ : List Slot) (σ : St) (a : Addr) : Prop := ∀ (i : Nat) o, ρ[i]? = some (.own o) → σ[i]? ≠ some (some (V.ref a))
structure Rel (G : Gc) (F : Hp) (ρ : List Slot) (η : List AO) (σ : St) (H S : Hp) (ι : List Addr) : Prop where
  base : Base G F η H S ι
  slots : Slots G F ρ σ H S ι
section
variable {G : Gc} {F : Hp} {ρ : List Slot} {η : List AO} {σ : St} {H S H' S' : Hp} {ι ι' : List Addr} {p a : Addr} {o h : HO}
theorem Slots.step (T : Slots G F ρ σ H S ι) (s : Same S S') (pr : ι <+: ι') (h : ∀ a, ¬ Apart ρ σ a → Mine F H S ι a → H' a = H a ∧ S' a = none ∧ a ∉ ι') : Slots G F ρ σ H' S' ι' :=
  ⟨T.len, fun i d e => by
    obtain ⟨v, e1, r⟩ := T.val i d e
    exact ⟨v, e1, r.mono s pr⟩, fun i o e => by
    obtain ⟨a, b, e1, e2, r, m⟩ := T.own i o e
    obtain ⟨h1, h2, h3⟩ := h a (fun z => z i o e e1) m
    exact ⟨a, b, e1, h1.trans e2, r.mono s pr, ⟨h2, m.f, h3⟩⟩, T.dist⟩
theorem Slots.there (T : Slots G F ρ σ H S ι) (z : ¬ Apart ρ σ a) : ∃ h, H a = some h := by
  by_cases q : ∃ h, H a = some h
  · exact q
  · refine absurd (fun i o e1 e2 => ?_) z
    obtain ⟨b, h, e3, e4, _⟩ := T.own i o e1
    rw [e2] at e3
    cases e3
    exact q ⟨h, e4⟩
theorem Rel.new (R : Rel G F ρ η σ H S ι) (e : H p = none) : Mine F H S ι p ∧ Apart ρ σ p :=
  ⟨R.base.new e, fun i o e1 e2 => by
    obtain ⟨b, h, e3, e4, _⟩ := R.slots.own i o e1
    rw [e2] at e3
    cases e3
    rw [e] at e4
    cases e4⟩
theorem Rel.still (R : Rel G F ρ η σ H S ι) (e : H p = none) : Rel G F ρ η σ (upd H p o) (upd S p o) ι := by
  obtain ⟨m, ap⟩ := R.new e
  refine ⟨R.base.still e, R.slots.step (same_new m.s) (List.prefix_refl _) fun a na mm => ?_⟩
  have : a ≠ p := fun z => na (z ▸ ap)
  exact ⟨upd_ne this, by rw [upd_ne this]; exact mm.s, mm.i⟩
theorem Rel.mine (R : Rel G F ρ η σ H S ι) (m : Mine F H S ι p) (ap : Apart ρ σ p) : Rel G F ρ η σ (upd H p o) S ι := by
  refine ⟨R.base.mine m, R.slots.step (fun _ _ q => q) (List.prefix_refl _) fun a na mm => ?_⟩
  have : a ≠ p := fun z => na (z ▸ ap)
  exact ⟨upd_ne this, mm.s, mm.i⟩
theorem Rel.freeze (R : Rel G F ρ η σ H S ι) (m : Mine F H S ι p) (ap : Apart ρ σ p) (e : H p = some h) : Rel G F ρ η σ H (upd S p h) ι := by
  refine ⟨R.base.freeze m e, R.slots.step (same_new m.s) (List.prefix_refl _) fun a na mm => ?_⟩
  have : a ≠ p := fun z => na (z ▸ ap)
  exact ⟨rfl, by rw [upd_ne this]; exact mm.s, mm.i⟩
theorem Rel.box {x : AO} (R : Rel G F ρ η σ H S ι) (m : Mine F H S ι p) (ap : Apart ρ σ p) (e : H p = some h) (r : RelA G S ι x h) : Rel G F ρ (η ++ [x]) σ H S (ι ++ [p]) := by
  refine ⟨R.base.box m e r, R.slots.step (fun _ _ q => q) (List.prefix_append _ _) fun a na mm => ⟨rfl, mm.s, fun z => ?_⟩⟩
  rcases List.mem_append.mp z with z | z
  · exact mm.i z
  · exact na (List.mem_singleton.mp z ▸ ap)
theorem Rel.write {n : Nat} {x : AO} (R : Rel G F ρ η σ H S ι) (e : ι[n]? = some a) (r : RelA G S ι x h) : Rel G F ρ (η.set n x) σ (upd H a h) S ι := by
  refine ⟨R.base.write e r, R.slots.step (fun _ _ q => q) (List.prefix_refl _) fun b na mm => ⟨upd_ne fun z => mm.i (z ▸ List.mem_of_getElem? e), mm.s, mm.i⟩⟩
/-- an own slot's object changes -/
theorem Rel.writeOwn {i : Nat} {x x' : AO} (R : Rel G F ρ η σ H S ι) (e : ρ[i]? = some (.own x)) (e2 : σ[i]? = some (some (.ref a))) (r : RelA G S ι x' h) : Rel G F (ρ.set i (.own x')) η σ (upd H a h) S ι := by
  obtain ⟨b, h0, e3, e4, r0, m⟩ := R.slots.own i x e
  rw [e2] at e3
  cases e3
  have hi : i < ρ.length := (List.getElem?_eq_some_iff.mp e).1
  refine ⟨R.base.mine m, ⟨by simp [R.slots.len], fun j d q => ?_, fun j o q => ?_, fun j k o o' b q1 q2 q3 q4 => ?_⟩⟩
  · by_cases z : i = j
    · subst z; rw [List.getElem?_set_self hi] at q; cases q
    · rw [List.getElem?_set_ne z] at q; exact R.slots.val j d q
  · by_cases z : i = j
    · subst z
      rw [List.getElem?_set_self hi] at q
      cases q
      exact ⟨a, h, e2, upd_same, r, ⟨m.s, m.f, m.i⟩⟩
    · rw [List.getElem?_set_ne z] at q
      obtain ⟨b, h', q1, q2, q3, q4⟩ := R.slots.own j o q
      refine ⟨b, h', q1, ?_, q3, ⟨q4.s, q4.f, q4.i⟩⟩
      rw [upd_ne (fun y => z ?_)]
      · exact q2
      · subst y
        exact R.slots.dist i j x o b e q e2 q1
  · have f : ∀ (l : Nat) (u : AO), (ρ.set i (.own x'))[l]? = some (.own u) → ∃ u', ρ[l]? = some (.own u') := fun l u w => by
      by_cases z : i = l
      · subst z; exact ⟨x, e⟩
      · rw [List.getElem?_set_ne z] at w; exact ⟨u, w⟩
    obtain ⟨u1, w1⟩ := f j o q1
    obtain ⟨u2, w2⟩ := f k o' q2
    exact R.slots.dist j k u1 u2 b w1 w2 q3 q4
end
end Mp

/-! the evaluator is right: expressions -/
namespace Mp
open PySem L2

theorem pe_mono {X : Cx} {e : Expr} {t t' : TE} (h : PE X e t) (m : ∀ σ H Q, t' σ H Q → t σ H Q) : PE X e t' := ⟨fun pins s σ H Q I w => h.run pins s σ H Q I (m _ _ _ w)⟩
theorem pt_mono {X : Cx} {e : Expr} {t t' : TT} (h : PT X e t) (m : ∀ σ H Q, t' σ H Q → t σ H Q) : PT X e t' := ⟨fun pins s σ H Q I w => h.run pins s σ H Q I (m _ _ _ w)⟩
theorem pw_mono {X : Cx} {e : Expr} {t t' : TT} (h : PW X e t) (m : ∀ σ H Q, t' σ H Q → t σ H Q) : PW X e t' := ⟨fun wh pins s σ H Q I w => h.run wh pins s σ H Q I (m _ _ _ w)⟩
theorem pa_mono {X : Cx} {es : List Expr} {t t' : TA} (h : PA X es t) (m : ∀ σ H Q, t' σ H Q → t σ H Q) : PA X es t' := ⟨fun pos pins s σ H Q I w => h.run pos pins s σ H Q I (m _ _ _ w)⟩
theorem ps_mono {X : Cx} {st : Stmt} {t t' : TS} (h : PS X st t) (m : ∀ D σ H, t' D σ H → t D σ H) : PS X st t' := ⟨fun pins s σ H D I w => h.run pins s σ H D I (m _ _ _ w)⟩
theorem pss_mono {X : Cx} {st : List Stmt} {t t' : TS} (h : PSs X st t) (m : ∀ D σ H, t' D σ H → t D σ H) : PSs X st t' := ⟨fun pins s σ H D I w => h.run pins s σ H D I (m _ _ _ w)⟩

/-- how a result lies -/
abbrev RelT (α β : Type) := Hp → List Slot → St → Hp → Hp → List Addr → α → β → Prop
section
variable (G : Gc) (W : WX)
def PostM {α β : Type} (rel : RelT α β) (F : Hp) (σ : St) (Q : β → Hp → Prop) (S : Hp) (ι : List Addr) : R α → Prop
  | .ok r ρ' η' => ∀ v H' S' ι', Rel G F ρ' η' σ H' S' ι' → Same S S' → ι <+: ι' → rel F ρ' σ H' S' ι' r v → Q v H'
  | .exc c fs ρ' η' => ∀ d H' S' ι' fs', Rel G F ρ' η' σ H' S' ι' → Same S S' → ι <+: ι' → H' d = some (.xd fs') → RelFs G.K S' ι' fs fs' → W (.ref (G.cad c)) (some d) σ H'
  | .fail => False
def tM {α β : Type} (rel : RelT α β) (m : M α) : St → Hp → (β → Hp → Prop) → Prop := fun σ H Q => ∃ F ρ η S ι, Rel G F ρ η σ H S ι ∧ PostM G W rel F σ Q S ι (m ρ η)
def relD : RelT D V := fun _ _ _ _ S ι d v => RelD G.K S ι d v
def relDs : RelT (List D) (List V) := fun _ _ _ _ S ι d v => RelDs G.K S ι d v
def relR : RelT RV V := fun F ρ σ H S ι r v => match r with
  | .val d => RelD G.K S ι d v
  | .own o => ∃ a h, v = .ref a ∧ H a = some h ∧ RelA G S ι o h ∧ Mine F H S ι a ∧ Apart ρ σ a
def relB : RelT Bool V := fun _ _ _ _ _ _ b v => v = .bl b
def relT : RelT Bool Bool := fun _ _ _ _ _ _ b c => c = b
/-- what is seen at a value -/
def RelW (H S : Hp) (ι : List Addr) : Vw → V → Prop
  | .d d, v => RelD G.K S ι d v
  | .o o, v => ∃ a h, v = .ref a ∧ H a = some h ∧ RelA G S ι o h
def relW : RelT Vw V := fun _ _ _ H S ι w v => RelW G H S ι w v
end
section
variable {G : Gc} {W : WX} {α β γ δ : Type} {rel : RelT α β} {rel2 : RelT γ δ} {F : Hp} {σ : St} {S S' : Hp} {ι ι' : List Addr} {Q : β → Hp → Prop} {Q2 : δ → Hp → Prop} {r : R α}
theorem PostM.imp {Q' : β → Hp → Prop} (h : PostM G W rel F σ Q S ι r) (m : ∀ v H, Q v H → Q' v H) : PostM G W rel F σ Q' S ι r := by
  cases r with
  | ok a ρ η => exact fun v H' S' ι' R s p q => m _ _ (h v H' S' ι' R s p q)
  | exc c fs ρ η => exact h
  | fail => exact h
theorem PostM.anti (s : Same S S') (p : ι <+: ι') (h : PostM G W rel F σ Q S ι r) : PostM G W rel F σ Q S' ι' r := by
  cases r with
  | ok a ρ η => exact fun v H' S2 ι2 R s2 p2 q => h v H' S2 ι2 R (s.trans s2) (p.trans p2) q
  | exc c fs ρ η => exact fun d H' S2 ι2 fs' R s2 p2 q => h d H' S2 ι2 fs' R (s.trans s2) (p.trans p2) q
  | fail => exact h
/-- what is wanted behind a part -/
def Then (G : Gc) (W : WX) (rel : RelT α β) (rel2 : RelT γ δ) (k : α → M γ) (F : Hp) (σ : St) (Q2 : δ → Hp → Prop) (S : Hp) (ι : List Addr) : β → Hp → Prop := fun v H1 =>
  ∃ a ρ1 η1 S1 ι1, Rel G F ρ1 η1 σ H1 S1 ι1 ∧ Same S S1 ∧ ι <+: ι1 ∧ rel F ρ1 σ H1 S1 ι1 a v ∧ PostM G W rel2 F σ Q2 S1 ι1 (k a ρ1 η1)
theorem PostM.bind {k : α → M γ} (h : PostM G W rel2 F σ Q2 S ι (r.bind k)) : PostM G W rel F σ (Then G W rel rel2 k F σ Q2 S ι) S ι r := by
  cases r with
  | ok a ρ η => exact fun v H1 S1 ι1 R s p q => ⟨a, ρ, η, S1, ι1, R, s, p, q, h.anti s p⟩
  | exc c fs ρ η => exact h
  | fail => exact h
/-- a part, then the rest -/
theorem PostM.thn {k : α → M γ} {Q : β → Hp → Prop} (h : PostM G W rel2 F σ Q2 S ι (r.bind k))
    (m : ∀ v H1 a ρ1 η1 S1 ι1, Rel G F ρ1 η1 σ H1 S1 ι1 → Same S S1 → ι <+: ι1 → rel F ρ1 σ H1 S1 ι1 a v → PostM G W rel2 F σ Q2 S1 ι1 (k a ρ1 η1) → Q v H1) : PostM G W rel F σ Q S ι r :=
  h.bind.imp fun v H1 ⟨a, ρ1, η1, S1, ι1, R, s, p, q, z⟩ => m v H1 a ρ1 η1 S1 ι1 R s p q z
theorem bind_assoc {r : R α} {k : α → M β} {l : β → M γ} : (r.bind k).bind l = r.bind fun a ρ η => (k a ρ η).bind l := by
  cases r <;> rfl
end

section
variable {X : Cx} {cad : Nat → Addr} {W : WX}
abbrev gc (X : Cx) (cad : Nat → Addr) : Gc := ⟨X.K, cad⟩
abbrev TR (X : Cx) (cad : Nat → Addr) (W : WX) (m : M RV) : TE := tM (gc X cad) W (relR (gc X cad)) m
abbrev TD (X : Cx) (cad : Nat → Addr) (W : WX) (m : M D) : TE := tM (gc X cad) W (relD (gc X cad)) m
abbrev TB (X : Cx) (cad : Nat → Addr) (W : WX) (m : M Bool) : TE := tM (gc X cad) W relB m
abbrev TTb (X : Cx) (cad : Nat → Addr) (W : WX) (m : M Bool) : TT := tM (gc X cad) W relT m
abbrev TDs (X : Cx) (cad : Nat → Addr) (W : WX) (m : M (List D)) : TA := tM (gc X cad) W (relDs (gc X cad)) m
abbrev TW (X : Cx) (cad : Nat → Addr) (W : WX) (m : M Vw) : TE := tM (gc X cad) W (relW (gc X cad)) m

variable {e a b : Expr} {m ma mb : M RV} {pos : Pos}
/-- kept by several from now on -/
theorem s_frz (h : PE X e (TR X cad W m)) : PE X e (TD X cad W (m.bind frz)) := by
  refine pe_mono h fun σ H Q ⟨F, ρ, η, S, ι, R, p⟩ => ⟨F, ρ, η, S, ι, R, PostM.thn p fun v H1 r ρ1 η1 S1 ι1 R1 s1 p1 q1 z => ?_⟩
  cases r with
  | val d => exact z v H1 S1 ι1 R1 (fun _ _ q => q) (List.prefix_refl _) q1
  | own o =>
    cases o with
    | lst ds =>
      obtain ⟨x, h, rfl, e1, ⟨vs, rfl, rd⟩, mi, ap⟩ := q1
      have R2 := R1.freeze mi ap e1
      exact z _ H1 _ ι1 R2 (same_new mi.s) (List.prefix_refl _) ⟨x, vs, rfl, upd_same, rd.mono (same_new mi.s) (List.prefix_refl _)⟩
    | dK kvs => exact z.elim
    | dT kvs => exact z.elim
    | ins c fs => exact z.elim
/-- a bool -/
theorem s_bool {m : M D} (h : PE X e (TD X cad W m)) : PE X e (TB X cad W (m.bind boolD)) := by
  refine pe_mono h fun σ H Q ⟨F, ρ, η, S, ι, R, p⟩ => ⟨F, ρ, η, S, ι, R, PostM.thn p fun v H1 r ρ1 η1 S1 ι1 R1 s1 p1 q1 z => ?_⟩
  cases r with
  | bl b => exact z v H1 S1 ι1 R1 (fun _ _ q => q) (List.prefix_refl _) q1
  | _ => exact z.elim
/-- .. as a test -/
theorem s_test {m : M Bool} (h : PE X e (TB X cad W m)) (he : ∀ whole, isTrue e X.env whole = (do let v ← whole; standAt e.pos; holding [v] (truthy v))) : PT X e (TTb X cad W m) := by
  refine pt_mono (pt_val h he) fun σ H Q ⟨F, ρ, η, S, ι, R, p⟩ => ⟨F, ρ, η, S, ι, R, ?_⟩
  generalize m ρ η = r at p
  cases r with
  | ok b ρ1 η1 => exact fun v H1 S1 ι1 R1 s1 p1 q1 => ⟨b, q1, p b H1 S1 ι1 R1 s1 p1 rfl⟩
  | exc c fs ρ1 η1 => exact p
  | fail => exact p
theorem s_cst {d : D} {v : V} (h : PE X e (tC v)) (r : ∀ S ι, RelD X.K S ι d v) : PE X e (TR X cad W (M.ret (.val d))) :=
  pe_mono h fun σ H Q ⟨F, ρ, η, S, ι, R, p⟩ => p v H S ι R (fun _ _ q => q) (List.prefix_refl _) (r S ι)
/-- a local name, as a value -/
theorem s_var {i : Nat} (h : PE X e (tVar i)) : PE X e (TR X cad W ((rdVar i).bind fun d => M.ret (.val d))) := by
  refine pe_mono h fun σ H Q ⟨F, ρ, η, S, ι, R, p⟩ => ?_
  unfold M.bind rdVar at p
  cases e1 : ρ[i]? with
  | none => rw [e1] at p; exact p.elim
  | some s =>
    rw [e1] at p
    cases s with
    | un => exact p.elim
    | val d =>
      obtain ⟨v, e2, rd⟩ := R.slots.val i d e1
      exact ⟨v, e2, p v H S ι R (fun _ _ q => q) (List.prefix_refl _) rd⟩
    | own o =>
      cases o with
      | lst ds =>
        obtain ⟨x, h, e2, e3, ⟨vs, rfl, rd⟩, mi⟩ := R.slots.own i _ e1
        refine ⟨.ref x, e2, ?_⟩
        have hi : i < ρ.length := (List.getElem?_eq_some_iff.mp e1).1
        have sm : Same S (upd S x (.lst vs)) := same_new mi.s
        have rd' := rd.mono sm (List.prefix_refl ι)
        have me : RelD X.K (upd S x (.lst vs)) ι (.lst ds) (.ref x) := ⟨x, vs, rfl, upd_same, rd'⟩
        refine p (.ref x) H (upd S x (.lst vs)) ι ⟨R.base.freeze mi e3, ?_⟩ sm (List.prefix_refl _) me
        refine ⟨by simp [R.slots.len], fun j d q => ?_, fun j o q => ?_, fun j k o o' y q1 q2 q3 q4 => ?_⟩
        · by_cases z : i = j
          · subst z; rw [List.getElem?_set_self hi] at q; cases q; exact ⟨.ref x, e2, me⟩
          · rw [List.getElem?_set_ne z] at q
            obtain ⟨v, y1, y2⟩ := R.slots.val j d q
            exact ⟨v, y1, y2.mono sm (List.prefix_refl _)⟩
        · by_cases z : i = j
          · subst z; rw [List.getElem?_set_self hi] at q; cases q
          · rw [List.getElem?_set_ne z] at q
            obtain ⟨y, h', y1, y2, y3, y4⟩ := R.slots.own j o q
            have : y ≠ x := fun w => z (R.slots.dist i j _ o x e1 q e2 (w ▸ y1))
            exact ⟨y, h', y1, y2, y3.mono sm (List.prefix_refl _), ⟨by rw [upd_ne this]; exact y4.s, y4.f, y4.i⟩⟩
        · have f : ∀ (l : Nat) (u : AO), (ρ.set i (.val (.lst ds)))[l]? = some (.own u) → ρ[l]? = some (.own u) := fun l u w => by
            by_cases z : i = l
            · subst z; rw [List.getElem?_set_self hi] at w; cases w
            · rw [List.getElem?_set_ne z] at w; exact w
          exact R.slots.dist j k o o' y (f j o q1) (f k o' q2) q3 q4
      | dK kvs => exact p.elim
      | dT kvs => exact p.elim
      | ins c fs => exact p.elim
/-- a local name, seen -/
theorem vw_of_val {K : PySem.W.Frag} {F H S : Hp} {ι : List Addr} {η : List AO} {d : D} {v : V} {w : Vw} (B : Base ⟨K, cad⟩ F η H S ι) (r : RelD K S ι d v) (e : vwD η d = some w) : RelW ⟨K, cad⟩ H S ι w v := by
  cases d with
  | ref n =>
    unfold vwD at e
    simp only at e
    cases q : η[n]? with
    | none => rw [q] at e; cases e
    | some o =>
      rw [q] at e
      cases e
      obtain ⟨x, h, e1, e2, e3⟩ := B.heap n o q
      obtain ⟨y, y1, y2⟩ := r
      rw [e1] at y1
      cases y1
      exact ⟨x, h, y2, e2, e3⟩
  | _ => cases e; exact r
theorem s_vwVar {i : Nat} (h : PE X e (tVar i)) : PE X e (TW X cad W (vwVar i)) := by
  refine pe_mono h fun σ H Q ⟨F, ρ, η, S, ι, R, p⟩ => ?_
  unfold vwVar at p
  cases e1 : ρ[i]? with
  | none => rw [e1] at p; exact p.elim
  | some s =>
    rw [e1] at p
    simp only at p
    cases e2 : vwS η s with
    | none => rw [e2] at p; exact p.elim
    | some w =>
      rw [e2] at p
      cases s with
      | un => cases e2
      | val d =>
        obtain ⟨v, e3, rd⟩ := R.slots.val i d e1
        exact ⟨v, e3, p v H S ι R (fun _ _ q => q) (List.prefix_refl _) (vw_of_val R.base rd e2)⟩
      | own o =>
        cases e2
        obtain ⟨x, h, e3, e4, ra, mi⟩ := R.slots.own i _ e1
        exact ⟨.ref x, e3, p _ H S ι R (fun _ _ q => q) (List.prefix_refl _) ⟨x, h, rfl, e4, ra⟩⟩
theorem s_vw (h : PE X e (TR X cad W m)) : PE X e (TW X cad W (m.bind vwOf)) := by
  refine pe_mono h fun σ H Q ⟨F, ρ, η, S, ι, R, p⟩ => ⟨F, ρ, η, S, ι, R, PostM.thn p fun v H1 r ρ1 η1 S1 ι1 R1 s1 p1 q1 z => ?_⟩
  unfold vwOf at z
  cases r with
  | val d =>
    simp only [vwR] at z
    cases e2 : vwD η1 d with
    | none => rw [e2] at z; exact z.elim
    | some w => rw [e2] at z; exact z v H1 S1 ι1 R1 (fun _ _ q => q) (List.prefix_refl _) (vw_of_val R1.base q1 e2)
  | own o =>
    obtain ⟨x, h, rfl, e4, ra, mi, ap⟩ := q1
    exact z _ H1 S1 ι1 R1 (fun _ _ q => q) (List.prefix_refl _) ⟨x, h, rfl, e4, ra⟩
end
end Mp

/-! the evaluator is right: operators -/
namespace Mp
open PySem L2

section
variable {X : Cx} {cad : Nat → Addr} {W : WX}
/-- the wish behind an operation that leaves the slots -/
def Want (G : Gc) (F : Hp) (ρ : List Slot) (η : List AO) (σ : L2.St) (S : Hp) (ι : List Addr) (z : RV) (Q : VK) : Prop :=
  ∀ v H' S' ι', Rel G F ρ η σ H' S' ι' → Same S S' → ι <+: ι' → relR G F ρ σ H' S' ι' z v → Q v H'
theorem Want.here {G : Gc} {F : Hp} {ρ : List Slot} {η : List AO} {σ : L2.St} {H S : Hp} {ι : List Addr} {d : D} {v : V} {Q : VK} (w : Want G F ρ η σ S ι (.val d) Q) (R : Rel G F ρ η σ H S ι) (r : RelD G.K S ι d v) : Q v H :=
  w v H S ι R (fun _ _ q => q) (List.prefix_refl _) r
/-- a new list of our own -/
theorem Want.own {G : Gc} {F : Hp} {ρ : List Slot} {η : List AO} {σ : L2.St} {H S : Hp} {ι : List Addr} {o : AO} {h : HO} {p : Addr} {Q : VK} (w : Want G F ρ η σ S ι (.own o) Q) (R : Rel G F ρ η σ H S ι) (e : H p = none) (r : RelA G S ι o h) : Q (.ref p) (upd H p h) := by
  obtain ⟨m, ap⟩ := R.new e
  exact w _ _ S ι (R.mine m ap) (fun _ _ q => q) (List.prefix_refl _) ⟨p, h, rfl, upd_same, r, ⟨m.s, m.f, m.i⟩, ap⟩
/-- a new tuple -/
theorem Want.tup {G : Gc} {F : Hp} {ρ : List Slot} {η : List AO} {σ : L2.St} {H S : Hp} {ι : List Addr} {ds : List D} {vs : List V} {p : Addr} {Q : VK} (w : Want G F ρ η σ S ι (.val (.tup ds)) Q) (R : Rel G F ρ η σ H S ι) (e : H p = none) (r : RelDs G.K S ι ds vs) : Q (.ref p) (upd H p (.tup vs)) := by
  obtain ⟨m, ap⟩ := R.new e
  exact w _ _ _ ι (R.still e) (same_new m.s) (List.prefix_refl _) ⟨p, vs, rfl, upd_same, r.mono (same_new m.s) (List.prefix_refl _)⟩
/-- an operation on values that keep standing -/
def Ok2 (X : Cx) (cad : Nat → Addr) (g : D → D → Option RV) (r : R2) : Prop := ∀ F ρ η σ H S ι d e v w z Q, Rel (gc X cad) F ρ η σ H S ι → RelD X.K S ι d v → RelD X.K S ι e w → g d e = some z → Want (gc X cad) F ρ η σ S ι z Q → r v w H Q
variable {a b : Expr} {ma mb : M D} {pos : Pos}
theorem s_two {g : D → D → Option RV} {r : R2} (hr : Ok2 X cad g r) (σ : L2.St) (H : Hp) (Q : VK) (h : TR X cad W (ma.bind fun x => mb.bind fun y => M.opt (g x y)) σ H Q) : tOp r (TD X cad W ma) (TD X cad W mb) σ H Q := by
  obtain ⟨F, ρ, η, S, ι, R, p⟩ := h
  refine ⟨F, ρ, η, S, ι, R, PostM.thn p fun v H1 d ρ1 η1 S1 ι1 R1 s1 p1 q1 z => ⟨F, ρ1, η1, S1, ι1, R1, PostM.thn z fun w H2 e ρ2 η2 S2 ι2 R2 s2 p2 q2 z2 => ?_⟩⟩
  unfold M.opt at z2
  cases eg : g d e with
  | none => rw [eg] at z2; exact z2.elim
  | some y =>
    rw [eg] at z2
    exact hr F ρ2 η2 σ H2 S2 ι2 d e v w y Q R2 (RelD.mono s2 p2 q1) q2 eg z2
theorem Ok2.or1 {g : D → D → Option RV} {r r' : R2} (h : Ok2 X cad g r) : Ok2 X cad g (fun x y H Q => r x y H Q ∨ r' x y H Q) := fun F ρ η σ H S ι d e v w z Q R q1 q2 q3 q4 => .inl (h F ρ η σ H S ι d e v w z Q R q1 q2 q3 q4)

theorem ok_add : Ok2 X cad (binD .add) (fun x y H Q => (rI0 fun i j => V.int (i + j)) x y H Q ∨ (fun x y H Q => ∃ i j, x = .str i ∧ y = .str j ∧ i.length + j.length ≤ sizeLine ∧ Q (V.str (i ++ j)) H) x y H Q ∨ rCatA X.K x y H Q ∨ rCat x y H Q) := by
  intro F ρ η σ H S ι d e v w z Q R q1 q2 q3 q4
  cases d <;> cases e <;> first | (cases q3; done) | skip
  · cases q3; cases q1; cases q2
    exact .inl ⟨_, _, rfl, rfl, q4.here R rfl⟩
  · rename_i i j
    unfold binD at q3
    simp only at q3
    split at q3
    · cases q3; cases q1; cases q2
      exact .inr (.inl ⟨i, j, rfl, rfl, by assumption, q4.here R rfl⟩)
    · cases q3
  · rename_i ds es
    unfold binD at q3
    simp only at q3
    split at q3
    · rename_i hz
      cases q3
      obtain ⟨p1, vs, rfl, h1, r1⟩ := q1
      obtain ⟨p2, ws, rfl, h2, r2⟩ := q2
      refine .inr (.inr (.inl ⟨p1, p2, vs, ws, rfl, rfl, .of (R.base.sub _ _ h1), .of (R.base.sub _ _ h2), by rw [← r1.length, ← r2.length]; exact hz, fun e => ?_, fun _ e => ?_, fun _ _ p e => ?_⟩))
      · subst e
        have : ds = [] := List.eq_nil_of_length_eq_zero r1.length
        subst this
        exact q4.here R ⟨p2, ws, rfl, h2, by simpa using r2⟩
      · subst e
        have : es = [] := List.eq_nil_of_length_eq_zero r2.length
        subst this
        exact q4.here R ⟨p1, vs, rfl, h1, by simpa using r1⟩
      · exact q4.tup R e (r1.append r2)
    · cases q3
  · rename_i ds es
    unfold binD at q3
    simp only at q3
    split at q3
    · rename_i hz
      cases q3
      obtain ⟨p1, vs, rfl, h1, r1⟩ := q1
      obtain ⟨p2, ws, rfl, h2, r2⟩ := q2
      exact .inr (.inr (.inr ⟨p1, p2, vs, ws, rfl, rfl, R.base.sub _ _ h1, R.base.sub _ _ h2, by rw [← r1.length, ← r2.length]; exact hz, fun p e => q4.own R e ⟨_, rfl, r1.append r2⟩⟩))
    · cases q3
theorem ok_sub : Ok2 X cad (binD .sub) (rI0 fun i j => V.int (i - j)) := by
  intro F ρ η σ H S ι d e v w z Q R q1 q2 q3 q4
  cases d <;> cases e <;> first | (cases q3; done) | skip
  cases q3; cases q1; cases q2
  exact ⟨_, _, rfl, rfl, q4.here R rfl⟩
theorem ok_mul_ {r' : R2} (hr' : ∀ F ρ η σ H S ι ds k v w z Q, Rel (gc X cad) F ρ η σ H S ι → RelD X.K S ι (.tup ds) v → RelD X.K S ι (.int k) w → binD .mul (.tup ds) (.int k) = some z → Want (gc X cad) F ρ η σ S ι z Q → r' v w H Q) :
    Ok2 X cad (binD .mul) (fun x y H Q => rI CMul (fun i j => V.int (i * j)) x y H Q ∨ rRep x y H Q ∨ r' x y H Q) := by
  intro F ρ η σ H S ι d e v w z Q R q1 q2 q3 q4
  cases d <;> cases e <;> first | (cases q3; done) | skip
  · rename_i i j
    unfold binD at q3
    simp only at q3
    split at q3
    · rename_i hm
      cases q3; cases q1; cases q2
      refine .inl ⟨i, j, rfl, rfl, ?_, q4.here R rfl⟩
      unfold mulOk at hm
      simp only [Bool.or_eq_true, decide_eq_true_eq] at hm
      exact hm
    · cases q3
  · exact .inr (.inr (hr' F ρ η σ H S ι _ _ v w z Q R q1 q2 q3 q4))
  · rename_i ds k
    unfold binD at q3
    simp only at q3
    split at q3
    · rename_i hz
      cases q3; cases q2
      obtain ⟨p1, vs, rfl, h1, r1⟩ := q1
      exact .inr (.inl ⟨p1, k, vs, rfl, rfl, R.base.sub _ _ h1, hz.2.1, hz.1, by rw [← r1.length]; exact hz.2.2, fun p e => q4.own R e ⟨_, rfl, r1.rep _⟩⟩)
    · cases q3
theorem ok_fdiv : Ok2 X cad (binD .fdiv) (rI CDiv fun i j => V.int (i / j)) := by
  intro F ρ η σ H S ι d e v w z Q R q1 q2 q3 q4
  cases d <;> cases e <;> first | (cases q3; done) | skip
  unfold binD at q3
  simp only at q3
  split at q3
  · rename_i hz
    cases q3; cases q1; cases q2
    exact ⟨_, _, rfl, rfl, hz, q4.here R rfl⟩
  · cases q3
theorem ok_mod : Ok2 X cad (binD .mod) (rI (fun _ j => 0 < j) fun i j => V.int (i % j)) := by
  intro F ρ η σ H S ι d e v w z Q R q1 q2 q3 q4
  cases d <;> cases e <;> first | (cases q3; done) | skip
  unfold binD at q3
  simp only at q3
  split at q3
  · rename_i hz
    cases q3; cases q1; cases q2
    exact ⟨_, _, rfl, rfl, hz, q4.here R rfl⟩
  · cases q3
theorem ok_pow : Ok2 X cad (binD .pow) (rI CPow fun i j => V.int (i ^ j.toNat)) := by
  intro F ρ η σ H S ι d e v w z Q R q1 q2 q3 q4
  cases d <;> cases e <;> first | (cases q3; done) | skip
  unfold binD at q3
  simp only at q3
  split at q3
  · rename_i hz
    cases q3; cases q1; cases q2
    exact ⟨_, _, rfl, rfl, hz, q4.here R rfl⟩
  · cases q3

/-! ### comparisons -/
mutual
theorem dp_of {K : PySem.W.Frag} {S H : Hp} {ι : List Addr} (s : Same S H) : ∀ (d : D) (v : V) (x : PyData), RelD K S ι d v → d.py = some x → Dp K H v x
  | .non, v, x, r, e => by cases e; cases (show v = .non from r); exact .non
  | .bl b, v, x, r, e => by cases e; cases (show v = .bl b from r); exact .bl b
  | .int i, v, x, r, e => by cases e; cases (show v = .int i from r); exact .int i
  | .str t, v, x, r, e => by cases e; cases (show v = .str t from r); exact .str t
  | .tup ds, v, x, r, e => by
    obtain ⟨a, vs, rfl, h, rs⟩ := r
    unfold D.py at e
    split at e
    · rename_i xs ex
      cases e
      exact .tup (.of (s _ _ h)) (dps_of s ds vs xs rs ex)
    · cases e
  | .lst ds, v, x, r, e => by
    obtain ⟨a, vs, rfl, h, rs⟩ := r
    unfold D.py at e
    split at e
    · rename_i xs ex
      cases e
      exact .lst (.of (s _ _ h)) (dps_of s ds vs xs rs ex)
    · cases e
  | .lck ds, v, x, r, e => by cases e
  | .ktp ds, v, x, r, e => by cases e
  | .ref n, v, x, r, e => by cases e
theorem dps_of {K : PySem.W.Frag} {S H : Hp} {ι : List Addr} (s : Same S H) : ∀ (ds : List D) (vs : List V) (xs : List PyData), RelDs K S ι ds vs → D.pys ds = some xs → DpAll K H vs xs
  | [], vs, xs, r, e => by cases e; cases (show vs = [] from r); exact .nil
  | d :: ds, vs, xs, r, e => by
    obtain ⟨v, r', rfl, h, t⟩ := r
    unfold D.pys at e
    split at e
    · rename_i y ys e1 e2
      cases e
      exact .cons (dp_of s d v y h e1) (dps_of s ds r' ys t e2)
    · cases e
end
def blR (o : Option Bool) : Option RV := o.map fun b => .val (.bl b)
theorem ok_eq : Ok2 X cad (fun d e => blR (eqD d e)) (fun x y H Q => rEq x y H Q ∨ rEqD X.K x y H Q) := by
  intro F ρ η σ H S ι d e v w z Q R q1 q2 q3 q4
  have gen : (match d.py, e.py with | some a, some b => if SeqAt.shaped a && SeqAt.shaped b then some (PyData.eqv a b) else none | _, _ => none) = eqD d e → rEqD X.K v w H Q := fun ee => by
    replace q3 : blR (eqD d e) = some z := q3
    rw [← ee] at q3
    cases e1 : d.py with
    | none => rw [e1] at q3; cases q3
    | some a =>
      cases e2 : e.py with
      | none => rw [e1, e2] at q3; cases q3
      | some b =>
        rw [e1, e2] at q3
        simp only at q3
        split at q3
        · rename_i hs
          cases q3
          simp only [Bool.and_eq_true] at hs
          exact ⟨a, b, dp_of R.base.sub d v a q1 e1, dp_of R.base.sub e w b q2 e2, hs.1, hs.2, q4.here R rfl⟩
        · cases q3
  cases d <;> cases e <;> first | exact .inr (gen rfl) | skip
  · cases q1; cases q2; cases q3
    refine .inl ⟨rfl, ?_⟩
    have := q4.here R rfl
    simpa using this
theorem ok_ne : Ok2 X cad (fun d e => blR ((eqD d e).map (!·))) (fun x y H Q => rNe x y H Q ∨ rNeD X.K x y H Q) := by
  intro F ρ η σ H S ι d e v w z Q R q1 q2 q3 q4
  have gen : (match d.py, e.py with | some a, some b => if SeqAt.shaped a && SeqAt.shaped b then some (PyData.eqv a b) else none | _, _ => none) = eqD d e → rNeD X.K v w H Q := fun ee => by
    replace q3 : blR ((eqD d e).map (!·)) = some z := q3
    rw [← ee] at q3
    cases e1 : d.py with
    | none => rw [e1] at q3; cases q3
    | some a =>
      cases e2 : e.py with
      | none => rw [e1, e2] at q3; cases q3
      | some b =>
        rw [e1, e2] at q3
        simp only at q3
        split at q3
        · rename_i hs
          cases q3
          simp only [Bool.and_eq_true] at hs
          exact ⟨a, b, dp_of R.base.sub d v a q1 e1, dp_of R.base.sub e w b q2 e2, hs.1, hs.2, q4.here R rfl⟩
        · cases q3
  cases d <;> cases e <;> first | exact .inr (gen rfl) | skip
  · cases q1; cases q2; cases q3
    refine .inl ⟨rfl, ?_⟩
    have := q4.here R rfl
    simpa using this
theorem ok_lt : Ok2 X cad (fun d e => blR (cmpD .lt d e)) (rI0 fun i j => .bl (decide (i < j))) := by
  intro F ρ η σ H S ι d e v w z Q R q1 q2 q3 q4
  cases d <;> cases e <;> first | (cases q3; done) | skip
  cases q3; cases q1; cases q2
  exact ⟨_, _, rfl, rfl, q4.here R rfl⟩
theorem ok_le : Ok2 X cad (fun d e => blR (cmpD .le d e)) (rI0 fun i j => .bl (decide (i ≤ j))) := by
  intro F ρ η σ H S ι d e v w z Q R q1 q2 q3 q4
  cases d <;> cases e <;> first | (cases q3; done) | skip
  cases q3; cases q1; cases q2
  exact ⟨_, _, rfl, rfl, q4.here R rfl⟩
theorem ok_gt : Ok2 X cad (fun d e => blR (cmpD .gt d e)) (rI0 fun i j => .bl (decide (j < i))) := by
  intro F ρ η σ H S ι d e v w z Q R q1 q2 q3 q4
  cases d <;> cases e <;> first | (cases q3; done) | skip
  cases q3; cases q1; cases q2
  exact ⟨_, _, rfl, rfl, q4.here R rfl⟩
theorem ok_ge : Ok2 X cad (fun d e => blR (cmpD .ge d e)) (rI0 fun i j => .bl (decide (j ≤ i))) := by
  intro F ρ η σ H S ι d e v w z Q R q1 q2 q3 q4
  cases d <;> cases e <;> first | (cases q3; done) | skip
  cases q3; cases q1; cases q2
  exact ⟨_, _, rfl, rfl, q4.here R rfl⟩
theorem ok_is : Ok2 X cad (fun d e => blR (cmpD .is d e)) (fun x y H Q => (fun x y H Q => y = .non ∧ Q (V.bl (decide (x = .non))) H) x y H Q ∨ rIsB x y H Q) := by
  intro F ρ η σ H S ι d e v w z Q R q1 q2 q3 q4
  cases e with
  | non =>
    cases q2
    refine .inl ⟨rfl, ?_⟩
    cases d <;> cases q3 <;> first
      | (obtain ⟨a, vs, rfl, _⟩ := q1; exact q4.here R rfl)
      | (obtain ⟨a, _, rfl⟩ := q1; exact q4.here R rfl)
      | (cases q1; exact q4.here R rfl)
  | bl b =>
    cases d <;> first | (cases q3; done) | skip
    cases q3; cases q1; cases q2
    exact .inr ⟨_, _, rfl, rfl, q4.here R rfl⟩
  | _ => cases d <;> cases q3
theorem ok_isnot : Ok2 X cad (fun d e => blR (cmpD .isnot d e)) (fun x y H Q => (fun x y H Q => y = .non ∧ Q (V.bl (!decide (x = .non))) H) x y H Q ∨ rNotB x y H Q) := by
  intro F ρ η σ H S ι d e v w z Q R q1 q2 q3 q4
  cases e with
  | non =>
    cases q2
    refine .inl ⟨rfl, ?_⟩
    cases d <;> cases q3 <;> first
      | (obtain ⟨a, vs, rfl, _⟩ := q1; exact q4.here R rfl)
      | (obtain ⟨a, _, rfl⟩ := q1; exact q4.here R rfl)
      | (cases q1; exact q4.here R rfl)
  | bl b =>
    cases d <;> first | (cases q3; done) | skip
    cases q3; cases q1; cases q2
    exact .inr ⟨_, _, rfl, rfl, q4.here R rfl⟩
  | _ => cases d <;> cases q3
end
end Mp

/-! the evaluator is right: subscripts, slices, displays, built-ins -/
namespace Mp
open PySem L2

section
variable {X : Cx} {cad : Nat → Addr} {W : WX}
/-! ### and, or, not, if -/
variable {a b c : Expr} {pos : Pos} {rest : List Expr}
theorem boolD_bind {m : M D} {b : Bool} : (m.bind boolD) = fun ρ η => (m ρ η).bind fun d => boolD d := rfl
theorem s_andT {ma mb : M Bool} (ha : PT X a (TTb X cad W ma)) (hb : PW X (.BoolOp .And (b :: rest) pos) (TTb X cad W mb)) :
    PW X (.BoolOp .And (a :: b :: rest) pos) (TTb X cad W (ma.bind fun p => if p then mb else M.ret false)) := by
  refine pw_mono (pw_and ha hb) fun σ H Q ⟨F, ρ, η, S, ι, R, p⟩ => ⟨F, ρ, η, S, ι, R, PostM.thn p fun v H1 r ρ1 η1 S1 ι1 R1 s1 p1 q1 z => ?_⟩
  cases q1
  cases v with
  | true => exact iteT ⟨F, ρ1, η1, S1, ι1, R1, z⟩
  | false => exact iteF (z false H1 S1 ι1 R1 (fun _ _ q => q) (List.prefix_refl _) rfl)
theorem s_orT {ma mb : M Bool} (ha : PT X a (TTb X cad W ma)) (hb : PW X (.BoolOp .Or (b :: rest) pos) (TTb X cad W mb)) :
    PW X (.BoolOp .Or (a :: b :: rest) pos) (TTb X cad W (ma.bind fun p => if p then M.ret true else mb)) := by
  refine pw_mono (pw_or ha hb) fun σ H Q ⟨F, ρ, η, S, ι, R, p⟩ => ⟨F, ρ, η, S, ι, R, PostM.thn p fun v H1 r ρ1 η1 S1 ι1 R1 s1 p1 q1 z => ?_⟩
  cases q1
  cases v with
  | true => exact iteT (z true H1 S1 ι1 R1 (fun _ _ q => q) (List.prefix_refl _) rfl)
  | false => exact iteF ⟨F, ρ1, η1, S1, ι1, R1, z⟩
theorem s_notT {ma : M Bool} (ha : PT X a (TTb X cad W ma)) : PT X (.UnaryOp .Not a pos) (TTb X cad W (ma.bind fun p => M.ret (!p))) := by
  refine pt_mono (pt_not ha) fun σ H Q ⟨F, ρ, η, S, ι, R, p⟩ => ⟨F, ρ, η, S, ι, R, PostM.thn p fun v H1 r ρ1 η1 S1 ι1 R1 s1 p1 q1 z => ?_⟩
  cases q1
  exact z _ H1 S1 ι1 R1 (fun _ _ q => q) (List.prefix_refl _) rfl
theorem s_andE {ma mb : M Bool} (ha : PE X a (TB X cad W ma)) (hb : PE X (.BoolOp .And (b :: rest) pos) (TB X cad W mb)) :
    PE X (.BoolOp .And (a :: b :: rest) pos) (TR X cad W (ma.bind fun p => if p then mb.bind fun q => M.ret (.val (.bl q)) else M.ret (.val (.bl false)))) := by
  refine pe_mono (pe_and ha hb) fun σ H Q ⟨F, ρ, η, S, ι, R, p⟩ => ⟨F, ρ, η, S, ι, R, PostM.thn p fun v H1 r ρ1 η1 S1 ι1 R1 s1 p1 q1 z => ⟨r, q1, ?_⟩⟩
  cases r with
  | true => exact iteT ⟨F, ρ1, η1, S1, ι1, R1, PostM.thn z fun w H2 r2 ρ2 η2 S2 ι2 R2 s2 p2 q2 z2 => z2 w H2 S2 ι2 R2 (fun _ _ q => q) (List.prefix_refl _) q2⟩
  | false => exact iteF (z _ H1 S1 ι1 R1 (fun _ _ q => q) (List.prefix_refl _) rfl)
theorem s_orE {ma mb : M Bool} (ha : PE X a (TB X cad W ma)) (hb : PE X (.BoolOp .Or (b :: rest) pos) (TB X cad W mb)) :
    PE X (.BoolOp .Or (a :: b :: rest) pos) (TR X cad W (ma.bind fun p => if p then M.ret (.val (.bl true)) else mb.bind fun q => M.ret (.val (.bl q)))) := by
  refine pe_mono (pe_or ha hb) fun σ H Q ⟨F, ρ, η, S, ι, R, p⟩ => ⟨F, ρ, η, S, ι, R, PostM.thn p fun v H1 r ρ1 η1 S1 ι1 R1 s1 p1 q1 z => ⟨r, q1, ?_⟩⟩
  cases r with
  | true => exact iteT (z _ H1 S1 ι1 R1 (fun _ _ q => q) (List.prefix_refl _) rfl)
  | false => exact iteF ⟨F, ρ1, η1, S1, ι1, R1, PostM.thn z fun w H2 r2 ρ2 η2 S2 ι2 R2 s2 p2 q2 z2 => z2 w H2 S2 ι2 R2 (fun _ _ q => q) (List.prefix_refl _) q2⟩
theorem s_notE {ma : M Bool} (ha : PE X a (TB X cad W ma)) : PE X (.UnaryOp .Not a pos) (TR X cad W (ma.bind fun p => M.ret (.val (.bl (!p))))) := by
  refine pe_mono (pe_not ha) fun σ H Q ⟨F, ρ, η, S, ι, R, p⟩ => ⟨F, ρ, η, S, ι, R, PostM.thn p fun v H1 r ρ1 η1 S1 ι1 R1 s1 p1 q1 z => ⟨r, q1, ?_⟩⟩
  exact z _ H1 S1 ι1 R1 (fun _ _ q => q) (List.prefix_refl _) rfl
theorem s_ite {mc : M Bool} {ma mb : M RV} (hc : PT X c (TTb X cad W mc)) (ha : PE X a (TR X cad W ma)) (hb : PE X b (TR X cad W mb)) :
    PE X (.IfExp c a b pos) (TR X cad W (mc.bind fun p => if p then ma else mb)) := by
  refine pe_mono (pe_ifExp hc ha hb) fun σ H Q ⟨F, ρ, η, S, ι, R, p⟩ => ⟨F, ρ, η, S, ι, R, PostM.thn p fun v H1 r ρ1 η1 S1 ι1 R1 s1 p1 q1 z => ?_⟩
  cases q1
  cases v with
  | true => exact iteT ⟨F, ρ1, η1, S1, ι1, R1, z⟩
  | false => exact iteF ⟨F, ρ1, η1, S1, ι1, R1, z⟩
theorem s_neg {ma : M D} (ha : PE X a (TD X cad W ma)) : PE X (.UnaryOp .USub a pos) (TR X cad W (ma.bind fun x => match x with | .int i => M.ret (.val (.int (-i))) | _ => M.fail)) := by
  refine pe_mono (pe_un un_neg ha) fun σ H Q ⟨F, ρ, η, S, ι, R, p⟩ => ⟨F, ρ, η, S, ι, R, PostM.thn p fun v H1 r ρ1 η1 S1 ι1 R1 s1 p1 q1 z => ?_⟩
  cases r with
  | int i =>
    cases (show v = .int i from q1)
    exact ⟨i, rfl, z _ H1 S1 ι1 R1 (fun _ _ q => q) (List.prefix_refl _) rfl⟩
  | _ => exact z.elim

/-! ### argument lists, displays -/
theorem s_nil : PA X [] (TDs X cad W (M.ret [])) :=
  pa_mono pa_nil fun σ H Q ⟨F, ρ, η, S, ι, R, p⟩ => p [] H S ι R (fun _ _ q => q) (List.prefix_refl _) RelDs.nil
theorem s_cons {e : Expr} {es : List Expr} {m : M D} {ms : M (List D)} (h : PE X e (TD X cad W m)) (hs : PA X es (TDs X cad W ms)) (hst : starEach (e :: es) X.env = (false, eval e X.env) :: starEach es X.env) :
    PA X (e :: es) (TDs X cad W (m.bind fun d => ms.bind fun ds => M.ret (d :: ds))) := by
  refine pa_mono (pa_cons h hs hst) fun σ H Q ⟨F, ρ, η, S, ι, R, p⟩ => ⟨F, ρ, η, S, ι, R, PostM.thn p fun v H1 r ρ1 η1 S1 ι1 R1 s1 p1 q1 z => ⟨F, ρ1, η1, S1, ι1, R1, PostM.thn z fun vs H2 rs ρ2 η2 S2 ι2 R2 s2 p2 q2 z2 => ?_⟩⟩
  exact z2 _ H2 S2 ι2 R2 (fun _ _ q => q) (List.prefix_refl _) (RelDs.cons (RelD.mono s2 p2 q1) q2)
theorem s_tup {es : List Expr} {ms : M (List D)} {x1 : Nat} (hs : PA X es (TDs X cad W ms)) : PE X (.Tuple es x1 pos) (TR X cad W (ms.bind fun ds => if ds.length ≤ sizeLine then M.ret (.val (.tup ds)) else M.fail)) := by
  refine pe_mono (pe_tup hs) fun σ H Q ⟨F, ρ, η, S, ι, R, p⟩ => ⟨F, ρ, η, S, ι, R, PostM.thn p fun v H1 r ρ1 η1 S1 ι1 R1 s1 p1 q1 z => ?_⟩
  split at z
  · rename_i hz
    exact ⟨by rw [← q1.length]; exact hz, fun q e => Want.tup (G := gc X cad) (ρ := ρ1) (η := η1) (F := F) z R1 e q1⟩
  · exact z.elim
theorem s_lst {es : List Expr} {ms : M (List D)} (hs : PA X es (TDs X cad W ms)) : PE X (.List es pos) (TR X cad W (ms.bind fun ds => if ds.length ≤ sizeLine then M.ret (.own (.lst ds)) else M.fail)) := by
  refine pe_mono (pe_lst hs) fun σ H Q ⟨F, ρ, η, S, ι, R, p⟩ => ⟨F, ρ, η, S, ι, R, PostM.thn p fun v H1 r ρ1 η1 S1 ι1 R1 s1 p1 q1 z => ?_⟩
  split at z
  · rename_i hz
    exact ⟨by rw [← q1.length]; exact hz, fun q e => Want.own (G := gc X cad) (ρ := ρ1) (η := η1) (F := F) z R1 e ⟨_, rfl, q1⟩⟩
  · exact z.elim
theorem s_dic {t : Bool} : PE X (.Dict [] [] pos) (TR X cad W (M.ret (.own (if t then .dT [] else .dK [])))) := by
  cases t with
  | true => exact pe_mono pe_dnewT fun σ H Q ⟨F, ρ, η, S, ι, R, p⟩ => fun q e => Want.own (G := gc X cad) (ρ := ρ) (η := η) (F := F) p R e ⟨[], rfl, rfl⟩
  | false => exact pe_mono pe_dnewK fun σ H Q ⟨F, ρ, η, S, ι, R, p⟩ => fun q e => Want.own (G := gc X cad) (ρ := ρ) (η := η) (F := F) p R e ⟨[], rfl, rfl⟩
/-- a temporary gets a number -/
theorem box_imp {m : M RV} (σ : L2.St) (H : Hp) (Q : VK) : TR X cad W (m.bind boxed) σ H Q → TR X cad W m σ H Q := fun ⟨F, ρ, η, S, ι, R, p⟩ => by
  refine ⟨F, ρ, η, S, ι, R, PostM.thn p fun v H1 r ρ1 η1 S1 ι1 R1 s1 p1 q1 z => ?_⟩
  cases r with
  | val d => exact z.elim
  | own o =>
    obtain ⟨x, h, rfl, e1, ra, mi, ap⟩ := q1
    exact z _ H1 S1 (ι1 ++ [x]) (R1.box mi ap e1 ra) (fun _ _ q => q) (List.prefix_append _ _) ⟨x, by
      rw [List.getElem?_append_right (by rw [R1.base.len]; exact Nat.le_refl _), R1.base.len, Nat.sub_self]
      rfl, rfl⟩
theorem s_box {m : M RV} (h : PE X a (TR X cad W m)) : PE X a (TR X cad W (m.bind boxed)) := pe_mono h fun σ H Q => box_imp σ H Q

/-! ### what is seen -/
theorem RelW.seq {K : PySem.W.Frag} {H S : Hp} {ι : List Addr} {w : Vw} {v : V} {ds : List D} (s : Same S H) (r : RelW ⟨K, cad⟩ H S ι w v) (e : w.seq? = some ds) : ∃ p vs, v = .ref p ∧ (SqL K H p vs ∨ SqT K H p vs) ∧ RelDs K S ι ds vs := by
  cases w with
  | d x =>
    cases x <;> cases e
    · obtain ⟨p, vs, rfl, h, q⟩ := r; exact ⟨p, vs, rfl, .inr (.of (s _ _ h)), q⟩
    · obtain ⟨p, vs, rfl, h, q⟩ := r; exact ⟨p, vs, rfl, .inl (.of (s _ _ h)), q⟩
    · obtain ⟨p, vs, rfl, h, q⟩ := r; exact ⟨p, vs, rfl, .inl (s.seq h), q⟩
    · obtain ⟨p, vs, rfl, h, q⟩ := r; exact ⟨p, vs, rfl, .inr (Same.sqt s h), q⟩
  | o x =>
    cases x <;> cases e
    obtain ⟨p, h, rfl, e1, vs, rfl, q⟩ := r
    exact ⟨p, vs, rfl, .inl (.of e1), q⟩
theorem keyD_of {K : PySem.W.Frag} {S : Hp} {ι : List Addr} {d : D} {v : V} {k : Key} (r : RelD K S ι d v) (e : keyD d = some k) : v = kV k := by
  cases d <;> cases e
  · exact r
  · exact r
theorem keysD_of {K : PySem.W.Frag} {S : Hp} {ι : List Addr} : ∀ {ds : List D} {vs : List V} {ks : List Key}, RelDs K S ι ds vs → keysD ds = some ks → vs = ks.map kV
  | [], vs, ks, r, e => by cases e; exact r
  | d :: ds, vs, ks, r, e => by
    obtain ⟨v, r', rfl, h, t⟩ := r
    unfold keysD at e
    split at e
    · rename_i k q e1 e2
      cases e
      rw [keyD_of h e1, keysD_of t e2]
      rfl
    · cases e
theorem keyT_of {K : PySem.W.Frag} {S : Hp} {ι : List Addr} {d : D} {v : V} {k : List Key} (r : RelD K S ι d v) (e : keyT d = some k) : ∃ b, v = .ref b ∧ S b = some (.tup (k.map kV)) := by
  cases d with
  | tup ds =>
    obtain ⟨p, vs, rfl, h, q⟩ := r
    rw [keysD_of q e] at h
    exact ⟨p, rfl, h⟩
  | _ => cases e

/-! ### in -/
def rInD : R2 := fun y x H Q => ∃ a o, x = .ref a ∧ DGet H a y o ∧ Q (.bl o.isSome) H
theorem op_inD (hu : X.A.units + 1 < cLine) : OpR X (compareOp .In) rInD := by
  intro pins s σ H x y v u Q I rx ry h
  obtain ⟨a, o, rfl, g, q⟩ := h
  cases ry
  exact d_in hu I g rx fun s3 I3 => ⟨.bl o.isSome, H, I3, rfl, q⟩
def rNotInD : R2 := fun y x H Q => ∃ a o, x = .ref a ∧ DGet H a y o ∧ Q (.bl (!o.isSome)) H
theorem op_notInD (hu : X.A.units + 1 < cLine) : OpR X (compareOp .NotIn) rNotInD := by
  intro pins s σ H x y v u Q I rx ry h
  obtain ⟨a, o, rfl, g, q⟩ := h
  cases ry
  exact d_notIn hu I g rx fun s3 I3 => ⟨.bl (!o.isSome), H, I3, rfl, q⟩
theorem flat_of {K : PySem.W.Frag} {S : Hp} {ι : List Addr} {d : D} {v : V} (r : RelD K S ι d v) (f : flatD d = true) : flatV v = true := by
  cases d <;> first | (cases f; done) | (cases r; rfl)
theorem flats_of {K : PySem.W.Frag} {S : Hp} {ι : List Addr} : ∀ {ds : List D} {vs : List V}, RelDs K S ι ds vs → ds.all flatD = true → vs.all flatV = true
  | [], vs, r, _ => by cases (show vs = [] from r); rfl
  | d :: ds, vs, r, f => by
    obtain ⟨v, r', rfl, h, t⟩ := r
    simp only [List.all_cons, Bool.and_eq_true] at f ⊢
    exact ⟨flat_of h f.1, flats_of t f.2⟩
theorem eqF_of {K : PySem.W.Frag} {S : Hp} {ι : List Addr} {d e : D} {v w : V} (r : RelD K S ι d v) (q : RelD K S ι e w) (f : flatD d = true) (g : flatD e = true) : eqF d e = eqV v w := by
  cases d <;> first | (cases f; done) | skip
  all_goals (cases e <;> first | (cases g; done) | (cases r; cases q; rfl) | (cases r; cases q; simp [eqF, eqV, Bool.beq_eq_decide_eq]))
theorem inF_of {K : PySem.W.Frag} {S : Hp} {ι : List Addr} {x : D} {xv : V} (rx : RelD K S ι x xv) (fx : flatD x = true) : ∀ {ds : List D} {vs : List V}, RelDs K S ι ds vs → ds.all flatD = true → (ds.any fun y => eqF y x) = inV xv vs
  | [], vs, r, _ => by cases (show vs = [] from r); rfl
  | d :: ds, vs, r, f => by
    obtain ⟨v, r', rfl, h, t⟩ := r
    simp only [List.all_cons, Bool.and_eq_true] at f
    unfold inV
    rw [List.any_cons, List.any_cons, eqF_of h rx f.1 fx, inF_of rx fx t f.2]
    rfl
/-- what a look into a container asks -/
theorem in_of {F : Hp} {ρ : List Slot} {η : List AO} {σ : L2.St} {H S : Hp} {ι : List Addr} {x : D} {xv v : V} {w : Vw} {b : Bool} (R : Rel (gc X cad) F ρ η σ H S ι) (rx : RelD X.K S ι x xv) (rw : RelW (gc X cad) H S ι w v) (e : inD x w = some b) :
    (∃ s t, w = .d (.str s) ∧ x = .str t ∧ b = !(Builtin.Str.occurrences s t 0 s.length 1).isEmpty) ∨ (∃ a o, v = .ref a ∧ DGet H a xv o ∧ b = o.isSome) ∨
      ∃ p xs, v = .ref p ∧ (SqL X.K H p xs ∨ SqT X.K H p xs) ∧ flatV xv = true ∧ xs.all flatV = true ∧ b = inV xv xs := by
  have seq : ∀ ds, w.seq? = some ds → (if flatD x && ds.all flatD then some (ds.any fun y => eqF y x) else none) = some b → ∃ p xs, v = .ref p ∧ (SqL X.K H p xs ∨ SqT X.K H p xs) ∧ flatV xv = true ∧ xs.all flatV = true ∧ b = inV xv xs := fun ds e1 e2 => by
    obtain ⟨p, vs, rfl, q, r⟩ := RelW.seq R.base.sub rw e1
    split at e2
    · rename_i hf
      cases e2
      simp only [Bool.and_eq_true] at hf
      exact ⟨p, vs, rfl, q, flat_of rx hf.1, flats_of r hf.2, inF_of rx hf.1 r hf.2⟩
    · cases e2
  cases w with
  | d y =>
    cases y with
    | str s =>
      unfold inD at e
      cases x <;> cases e
      exact .inl ⟨s, _, rfl, rfl, rfl⟩
    | tup ds => exact .inr (.inr (seq ds rfl e))
    | lst ds => exact .inr (.inr (seq ds rfl e))
    | lck ds => exact .inr (.inr (seq ds rfl e))
    | ktp ds => exact .inr (.inr (seq ds rfl e))
    | _ => cases e
  | o y =>
    obtain ⟨p, h, rfl, e1, ra⟩ := id rw
    cases y with
    | lst ds => exact .inr (.inr (seq ds rfl e))
    | dK kvs =>
      obtain ⟨vs, rfl, rk⟩ := ra
      unfold inD at e
      simp only at e
      split at e
      · rename_i k ek
        cases e
        refine .inr (.inl ⟨p, valV vs k, rfl, .inl ⟨vs, k, .inl e1, keyD_of rx ek, rfl⟩, ?_⟩)
        have q := rk.look (k := k)
        cases el : lookK kvs k with
        | none => rw [q.2 el]; rfl
        | some d => obtain ⟨v, e2, _⟩ := q.1 d el; rw [e2]; rfl
      · cases e
    | dT kvs =>
      obtain ⟨vs, rfl, rk⟩ := ra
      unfold inD at e
      simp only at e
      split at e
      · rename_i k ek
        cases e
        obtain ⟨b, eb, hb⟩ := keyT_of rx ek
        refine .inr (.inl ⟨p, valV vs k, rfl, .inr ⟨vs, k, b, .inl e1, eb, R.base.sub _ _ hb, rfl⟩, ?_⟩)
        have q := rk.look (k := k)
        cases el : lookK kvs k with
        | none => rw [q.2 el]; rfl
        | some d => obtain ⟨v, e2, _⟩ := q.1 d el; rw [e2]; rfl
      · cases e
    | ins c fs => cases e
theorem s_in {ma : M D} {mv : M Vw} (σ : L2.St) (H : Hp) (Q : VK) (h : TR X cad W (ma.bind fun x => mv.bind fun v => (M.opt (inD x v)).bind fun r => M.ret (.val (.bl r))) σ H Q) : tOp (fun x y H Q => (fun x y H Q => ∃ i j, x = V.str i ∧ y = V.str j ∧ Q (.bl (!(Builtin.Str.occurrences j i 0 j.length 1).isEmpty)) H) x y H Q ∨ rInD x y H Q ∨ rIn X.K false x y H Q) (TD X cad W ma) (TW X cad W mv) σ H Q := by
  obtain ⟨F, ρ, η, S, ι, R, p⟩ := h
  refine ⟨F, ρ, η, S, ι, R, PostM.thn p fun v H1 x ρ1 η1 S1 ι1 R1 s1 p1 q1 z => ⟨F, ρ1, η1, S1, ι1, R1, PostM.thn z fun u H2 w ρ2 η2 S2 ι2 R2 s2 p2 q2 z2 => ?_⟩⟩
  cases e : inD x w with
  | none => rw [e] at z2; exact z2.elim
  | some r =>
    rw [e] at z2
    have done : Q (.bl r) H2 := z2 _ H2 S2 ι2 R2 (fun _ _ q => q) (List.prefix_refl _) rfl
    rcases in_of R2 (RelD.mono s2 p2 q1) q2 e with ⟨s, t, rfl, rfl, rfl⟩ | ⟨p, o, rfl, g, rfl⟩ | ⟨p, xs, rfl, h1, h2, h3, rfl⟩
    · cases (show v = .str t from q1)
      cases (show u = .str s from q2)
      exact .inl ⟨t, s, rfl, rfl, done⟩
    · exact .inr (.inl ⟨p, o, rfl, g, done⟩)
    · exact .inr (.inr ⟨p, xs, rfl, h1, h2, h3, done⟩)
theorem s_notin {ma : M D} {mv : M Vw} (σ : L2.St) (H : Hp) (Q : VK) (h : TR X cad W (ma.bind fun x => mv.bind fun v => (M.opt (inD x v)).bind fun r => M.ret (.val (.bl (!r)))) σ H Q) : tOp (fun x y H Q => (fun x y H Q => ∃ i j, x = V.str i ∧ y = V.str j ∧ Q (.bl (!(!(Builtin.Str.occurrences j i 0 j.length 1).isEmpty))) H) x y H Q ∨ rNotInD x y H Q ∨ rIn X.K true x y H Q) (TD X cad W ma) (TW X cad W mv) σ H Q := by
  obtain ⟨F, ρ, η, S, ι, R, p⟩ := h
  refine ⟨F, ρ, η, S, ι, R, PostM.thn p fun v H1 x ρ1 η1 S1 ι1 R1 s1 p1 q1 z => ⟨F, ρ1, η1, S1, ι1, R1, PostM.thn z fun u H2 w ρ2 η2 S2 ι2 R2 s2 p2 q2 z2 => ?_⟩⟩
  cases e : inD x w with
  | none => rw [e] at z2; exact z2.elim
  | some r =>
    rw [e] at z2
    have done : Q (.bl (!r)) H2 := z2 _ H2 S2 ι2 R2 (fun _ _ q => q) (List.prefix_refl _) rfl
    rcases in_of R2 (RelD.mono s2 p2 q1) q2 e with ⟨s, t, rfl, rfl, rfl⟩ | ⟨p, o, rfl, g, rfl⟩ | ⟨p, xs, rfl, h1, h2, h3, rfl⟩
    · cases (show v = .str t from q1)
      cases (show u = .str s from q2)
      exact .inl ⟨t, s, rfl, rfl, done⟩
    · exact .inr (.inl ⟨p, o, rfl, g, done⟩)
    · exact .inr (.inr ⟨p, xs, rfl, h1, h2, h3, done⟩)

/-! ### items -/
def rIxD : R2 := fun x y H Q => ∃ a v, x = .ref a ∧ DGet H a y (some v) ∧ Q v H
theorem ix_dict (hu : X.A.units + 1 < cLine) : IxR X rIxD := by
  intro value slice pins s σ H x y v u Q I rx ry h hs
  obtain ⟨a, w, rfl, g, q⟩ := h
  cases rx
  exact PyProof.Rows.tail_any (dict_typeIs I g) PySem.F.slot_dict_getitem.lookup (d_getItem hu I g ry fun w' s3 I3 rw' => ⟨w, H, I3, rw', q⟩) hs
theorem at_of {F : Hp} {ρ : List Slot} {η : List AO} {σ : L2.St} {H S : Hp} {ι : List Addr} {k d : D} {kv v : V} {w : Vw} {Q : VK} (R : Rel (gc X cad) F ρ η σ H S ι) (rk : RelD X.K S ι k kv) (rw : RelW (gc X cad) H S ι w v) (e : atD w k = some d)
    (q : ∀ u, RelD X.K S ι d u → Q u H) : (fun x y H Q => rIx X.K x y H Q ∨ rIxD x y H Q) v kv H Q := by
  have seqL : ∀ (p : Addr) (vs : List V) (ds : List D) (i : Int), v = .ref p → SqL X.K H p vs → RelDs X.K S ι ds vs → k = .int i → L2.atI ds i = some d → rIx X.K v kv H Q := fun p vs ds i e1 h r e2 e3 => by
    subst e1 e2
    cases (show kv = .int i from rk)
    obtain ⟨u, h1, h2⟩ := r.at e3
    exact .inl ⟨p, vs, i, u, rfl, rfl, h, h1, q u h2⟩
  have seqT : ∀ (p : Addr) (vs : List V) (ds : List D) (i : Int), v = .ref p → SqT X.K H p vs → RelDs X.K S ι ds vs → k = .int i → L2.atI ds i = some d → rIx X.K v kv H Q := fun p vs ds i e1 h r e2 e3 => by
    subst e1 e2
    cases (show kv = .int i from rk)
    obtain ⟨u, h1, h2⟩ := r.at e3
    exact .inr (.inl ⟨p, vs, i, u, rfl, rfl, h, h1, q u h2⟩)
  cases w with
  | d x =>
    cases x with
    | lst ds =>
      cases k <;> first | (cases e; done) | skip
      obtain ⟨p, vs, e1, h, r⟩ := rw
      exact .inl (seqL p vs ds _ e1 (.of (R.base.sub _ _ h)) r rfl e)
    | lck ds =>
      cases k <;> first | (cases e; done) | skip
      obtain ⟨p, vs, e1, h, r⟩ := rw
      exact .inl (seqL p vs ds _ e1 (R.base.sub.seq h) r rfl e)
    | tup ds =>
      cases k <;> first | (cases e; done) | skip
      obtain ⟨p, vs, e1, h, r⟩ := rw
      exact .inl (seqT p vs ds _ e1 (.of (R.base.sub _ _ h)) r rfl e)
    | ktp ds =>
      cases k <;> first | (cases e; done) | skip
      obtain ⟨p, vs, e1, h, r⟩ := rw
      exact .inl (seqT p vs ds _ e1 (Same.sqt R.base.sub h) r rfl e)
    | str s =>
      cases k <;> first | (cases e; done) | skip
      rename_i i
      unfold atD at e
      simp only at e
      split at e
      · rename_i hz
        cases ec : L2.atI s.cps.toList i with
        | none => rw [ec] at e; cases e
        | some c =>
          rw [ec] at e
          cases e
          cases (show kv = .int i from rk)
          cases (show v = .str s from rw)
          exact .inl (.inr (.inr ⟨s, i, c, rfl, rfl, hz, ec, q _ rfl⟩))
      · cases e
    | _ => cases e
  | o x =>
    obtain ⟨p, h, rfl, e1, ra⟩ := id rw
    cases x with
    | lst ds =>
      cases k <;> first | (cases e; done) | skip
      obtain ⟨vs, rfl, r⟩ := ra
      exact .inl (seqL p vs ds _ rfl (.of e1) r rfl e)
    | dK kvs =>
      obtain ⟨vs, rfl, rks⟩ := ra
      unfold atD at e
      simp only at e
      split at e
      · rename_i kk ek
        obtain ⟨u, h1, h2⟩ := rks.look.1 d e
        exact .inr ⟨p, u, rfl, .inl ⟨vs, kk, .inl e1, keyD_of rk ek, h1.symm⟩, q u h2⟩
      · cases e
    | dT kvs =>
      obtain ⟨vs, rfl, rks⟩ := ra
      unfold atD at e
      simp only at e
      split at e
      · rename_i kk ek
        obtain ⟨u, h1, h2⟩ := rks.look.1 d e
        obtain ⟨b, eb, hb⟩ := keyT_of rk ek
        exact .inr ⟨p, u, rfl, .inr ⟨vs, kk, b, .inl e1, eb, R.base.sub _ _ hb, h1.symm⟩, q u h2⟩
      · cases e
    | ins c fs => cases e
/-- a slot that is set holds something -/
theorem Slots.has {G : Gc} {F : Hp} {ρ : List Slot} {σ : L2.St} {H S : Hp} {ι : List Addr} {η : List AO} {j : Nat} {α : Type} {k : Unit → M α} {β : Type} {rel : RelT α β} {Q : β → Hp → Prop} (T : Slots G F ρ σ H S ι) (p : PostM G W rel F σ Q S ι ((hasS j ρ η).bind k)) :
    (∃ v, σ[j]? = some (some v)) ∧ PostM G W rel F σ Q S ι (k () ρ η) := by
  unfold hasS at p
  cases e : ρ[j]? with
  | none => rw [e] at p; exact p.elim
  | some s =>
    rw [e] at p
    cases s with
    | un => exact p.elim
    | val d => obtain ⟨v, h, _⟩ := T.val j d e; exact ⟨⟨v, h⟩, p⟩
    | own o => obtain ⟨x, h, e2, _⟩ := T.own j o e; exact ⟨⟨_, e2⟩, p⟩
/-- the slot's thing, seen now -/
theorem vwVar_at {F : Hp} {ρ : List Slot} {η : List AO} {σ : L2.St} {H S : Hp} {ι : List Addr} {j : Nat} {x : V} {α β : Type} {k : Vw → M α} {rel : RelT α β} {Q : β → Hp → Prop} (R : Rel (gc X cad) F ρ η σ H S ι) (hx : σ[j]? = some (some x)) (p : PostM (gc X cad) W rel F σ Q S ι ((vwVar j ρ η).bind k)) :
    ∃ w, RelW (gc X cad) H S ι w x ∧ PostM (gc X cad) W rel F σ Q S ι (k w ρ η) := by
  unfold vwVar at p
  cases e1 : ρ[j]? with
  | none => rw [e1] at p; exact p.elim
  | some s =>
    rw [e1] at p
    simp only at p
    cases e2 : vwS η s with
    | none => rw [e2] at p; exact p.elim
    | some w =>
      rw [e2] at p
      refine ⟨w, ?_, p⟩
      cases s with
      | un => cases e2
      | val d =>
        obtain ⟨v, e3, rd⟩ := R.slots.val j d e1
        rw [hx] at e3
        cases e3
        exact vw_of_val R.base rd e2
      | own o =>
        cases e2
        obtain ⟨y, h, e3, e4, ra, mi⟩ := R.slots.own j _ e1
        rw [hx] at e3
        cases e3
        exact ⟨y, h, rfl, e4, ra⟩
theorem vwVal_at {F : Hp} {ρ : List Slot} {η : List AO} {σ : L2.St} {H S : Hp} {ι : List Addr} {d : D} {x : V} {α β : Type} {k : Vw → M α} {rel : RelT α β} {Q : β → Hp → Prop} (R : Rel (gc X cad) F ρ η σ H S ι) (hx : RelD X.K S ι d x) (p : PostM (gc X cad) W rel F σ Q S ι ((vwOf (.val d) ρ η).bind k)) :
    ∃ w, RelW (gc X cad) H S ι w x ∧ PostM (gc X cad) W rel F σ Q S ι (k w ρ η) := by
  unfold vwOf at p
  simp only [vwR] at p
  cases e2 : vwD η d with
  | none => rw [e2] at p; exact p.elim
  | some w => rw [e2] at p; exact ⟨w, vw_of_val R.base hx e2, p⟩
theorem s_idx {ma mi : M RV} (hu : X.A.units + 1 < cLine) (ha : PE X a (TR X cad W ma)) (hi : PE X b (TR X cad W mi)) (hs : PlainIx b) : PE X (.Subscript a b pos) (TR X cad W (idxE none ma mi)) := by
  refine pe_mono (pe_ix (ix_seq.or (ix_dict hu)) (s_frz ha) (s_frz hi) hs) fun σ H Q ⟨F, ρ, η, S, ι, R, p⟩ => ⟨F, ρ, η, S, ι, R, PostM.thn p fun v H1 x ρ1 η1 S1 ι1 R1 s1 p1 q1 z => ⟨F, ρ1, η1, S1, ι1, R1, PostM.thn z fun u H2 k ρ2 η2 S2 ι2 R2 s2 p2 q2 z2 => ?_⟩⟩
  obtain ⟨w, rw, z3⟩ := vwVal_at R2 (RelD.mono s2 p2 q1) z2
  cases e : atD w k with
  | none => rw [e] at z3; exact z3.elim
  | some d =>
    rw [e] at z3
    exact at_of R2 q2 rw e fun y ry => z3 y H2 S2 ι2 R2 (fun _ _ q => q) (List.prefix_refl _) ry
theorem s_idxV {j : Nat} {ma mi : M RV} (hu : X.A.units + 1 < cLine) (ha : PE X a (tVar j)) (hi : PE X b (TR X cad W mi)) (hs : PlainIx b) : PE X (.Subscript a b pos) (TR X cad W (idxE (some j) ma mi)) := by
  refine pe_mono (pe_ix (ix_seq.or (ix_dict hu)) ha (s_frz hi) hs) fun σ H Q ⟨F, ρ, η, S, ι, R, p⟩ => ?_
  obtain ⟨⟨x, hx⟩, p⟩ := R.slots.has p
  refine ⟨x, hx, F, ρ, η, S, ι, R, PostM.thn p fun u H2 k ρ2 η2 S2 ι2 R2 s2 p2 q2 z2 => ?_⟩
  obtain ⟨w, rw, z3⟩ := vwVar_at R2 hx z2
  cases e : atD w k with
  | none => rw [e] at z3; exact z3.elim
  | some d =>
    rw [e] at z3
    exact at_of R2 q2 rw e fun y ry => z3 y H2 S2 ι2 R2 (fun _ _ q => q) (List.prefix_refl _) ry
end
end Mp

/-! the evaluator is right: slices, built-ins, methods of lists -/
namespace Mp
open PySem L2

section
variable {X : Cx} {cad : Nat → Addr} {W : WX}
variable {a b c : Expr} {pos p2 : Pos} {rest : List Expr}
/-! ### slices -/
theorem sl_any : SlR X (fun x lo hi H Q => rSlL X.K x lo hi H Q ∨ rSlA X.K x lo hi H Q) := sl_list.or sl_tupA
theorem cut_of {F : Hp} {ρ : List Slot} {η : List AO} {σ : L2.St} {H S : Hp} {ι : List Addr} {v : V} {w : Vw} {z : RV} {lo hi : Option Int} {Q : VK} (R : Rel (gc X cad) F ρ η σ H S ι) (rw : RelW (gc X cad) H S ι w v) (e : cutD w lo hi = some z) (q : Want (gc X cad) F ρ η σ S ι z Q) : rSlL X.K v lo hi H Q ∨ rSlA X.K v lo hi H Q := by
  have cutR : ∀ {ds : List D} {vs : List V}, RelDs X.K S ι ds vs → RelDs X.K S ι (cutL ds lo hi) (cutV vs lo hi) := fun {ds vs} r => by
    unfold cutL cutV
    rw [r.length]
    exact (r.drop _).take _
  cases w with
  | d x =>
    cases x with
    | lst ds =>
      cases e
      obtain ⟨p, vs, rfl, h, r⟩ := rw
      exact .inl ⟨p, vs, rfl, .of (R.base.sub _ _ h), fun y e => q.own R e ⟨_, rfl, cutR r⟩⟩
    | lck ds =>
      cases e
      obtain ⟨p, vs, rfl, h, r⟩ := rw
      exact .inl ⟨p, vs, rfl, R.base.sub.seq h, fun y e => q.own R e ⟨_, rfl, cutR r⟩⟩
    | tup ds =>
      cases e
      obtain ⟨p, vs, rfl, h, r⟩ := rw
      refine .inr ⟨p, vs, rfl, .of (R.base.sub _ _ h), fun hw => ?_, fun _ y e => q.tup R e (cutR r)⟩
      refine q.here R ⟨p, vs, rfl, h, ?_⟩
      have : cutL ds lo hi = ds := by
        unfold cutL
        rw [r.length, hw.1, hw.2, List.drop_zero, ← r.length]
        simp
      rw [this]
      exact r
    | _ => cases e
  | o x =>
    obtain ⟨p, h, rfl, e1, ra⟩ := id rw
    cases x with
    | lst ds =>
      cases e
      obtain ⟨vs, rfl, r⟩ := ra
      exact .inl ⟨p, vs, rfl, .of e1, fun y e => q.own R e ⟨_, rfl, cutR r⟩⟩
    | _ => cases e

/-- a slice's part: left out, or an int -/
abbrev TPt (X : Cx) (cad : Nat → Addr) (W : WX) (m : M (Option Int)) : TO := tM (gc X cad) W (fun _ _ _ _ _ _ o o' => o' = o) m
theorem po_mono {e : Option Expr} {t t' : TO} (h : PO X e t) (m : ∀ σ H Q, t' σ H Q → t σ H Q) : PO X e t' := ⟨fun pins s σ H Q I w => h.run pins s σ H Q I (m _ _ _ w)⟩
theorem s_partN {m : M RV} : PO X none (TPt X cad W (partE false m)) :=
  po_mono po_none fun σ H Q ⟨F, ρ, η, S, ι, R, p⟩ => p Option.none H S ι R (fun _ _ q => q) (List.prefix_refl _) rfl
theorem s_partS {m : M RV} (h : PE X a (TR X cad W m)) : PO X (some a) (TPt X cad W (partE true m)) := by
  refine po_mono (po_some (s_frz h)) fun σ H Q ⟨F, ρ, η, S, ι, R, p⟩ => ⟨F, ρ, η, S, ι, R, PostM.thn p fun v H1 x ρ1 η1 S1 ι1 R1 s1 p1 q1 z => ?_⟩
  cases x with
  | int i => exact ⟨i, q1, z _ H1 S1 ι1 R1 (fun _ _ q => q) (List.prefix_refl _) rfl⟩
  | _ => exact z.elim
variable {lo hi : Option Expr} {ml mh : M (Option Int)}
theorem s_slc {ma : M RV} (ha : PE X a (TR X cad W ma)) (hl : PO X lo (TPt X cad W ml)) (hh : PO X hi (TPt X cad W mh)) : PE X (.Subscript a (.Slice lo hi none p2) pos) (TR X cad W (slcE none ma ml mh)) := by
  refine pe_mono (pe_slice sl_any (s_frz ha) hl hh) fun σ H Q ⟨F, ρ, η, S, ι, R, p⟩ => ⟨F, ρ, η, S, ι, R, PostM.thn p fun v H1 x ρ1 η1 S1 ι1 R1 s1 p1 q1 z => ⟨F, ρ1, η1, S1, ι1, R1, PostM.thn z fun l H2 l' ρ2 η2 S2 ι2 R2 s2 p2 q2 z2 => ⟨F, ρ2, η2, S2, ι2, R2, PostM.thn z2 fun u H3 u' ρ3 η3 S3 ι3 R3 s3 p3 q3 z3 => ?_⟩⟩⟩
  cases q2; cases q3
  obtain ⟨w, rw, z4⟩ := vwVal_at R3 (RelD.mono (s2.trans s3) (p2.trans p3) q1) z3
  cases e : cutD w l u with
  | none => rw [e] at z4; exact z4.elim
  | some r =>
    rw [e] at z4
    exact cut_of R3 rw e z4
theorem s_slcV {j : Nat} {ma : M RV} (ha : PE X a (tVar j)) (hl : PO X lo (TPt X cad W ml)) (hh : PO X hi (TPt X cad W mh)) : PE X (.Subscript a (.Slice lo hi none p2) pos) (TR X cad W (slcE (some j) ma ml mh)) := by
  refine pe_mono (pe_slice sl_any ha hl hh) fun σ H Q ⟨F, ρ, η, S, ι, R, p⟩ => ?_
  obtain ⟨⟨x, hx⟩, p⟩ := R.slots.has p
  refine ⟨x, hx, F, ρ, η, S, ι, R, PostM.thn p fun l H2 l' ρ2 η2 S2 ι2 R2 s2 p2 q2 z2 => ⟨F, ρ2, η2, S2, ι2, R2, PostM.thn z2 fun u H3 u' ρ3 η3 S3 ι3 R3 s3 p3 q3 z3 => ?_⟩⟩
  cases q2; cases q3
  obtain ⟨w, rw, z4⟩ := vwVar_at R3 hx z3
  cases e : cutD w l u with
  | none => rw [e] at z4; exact z4.elim
  | some r =>
    rw [e] at z4
    exact cut_of R3 rw e z4

/-! ### built-ins of one seen thing -/
theorem intsD_of : ∀ {ds : List D} {ns : List Int}, intsD ds = some ns → ds = ns.map D.int
  | [], ns, e => by cases e; rfl
  | .int i :: ds, ns, e => by
    unfold intsD at e
    split at e
    · rename_i r er
      cases e
      rw [intsD_of er]
      rfl
    · cases e
  | .non :: _, _, e => by cases e
  | .bl _ :: _, _, e => by cases e
  | .str _ :: _, _, e => by cases e
  | .tup _ :: _, _, e => by cases e
  | .lst _ :: _, _, e => by cases e
  | .lck _ :: _, _, e => by cases e
  | .ktp _ :: _, _, e => by cases e
  | .ref _ :: _, _, e => by cases e
theorem foldl_min_le : ∀ (r : List Int) (n : Int), r.foldl min n ≤ n ∧ (∀ y ∈ r, r.foldl min n ≤ y) ∧ (r.foldl min n = n ∨ r.foldl min n ∈ r)
  | [], n => ⟨Int.le_refl _, fun y h => absurd h (by simp), .inl rfl⟩
  | x :: r, n => by
    obtain ⟨h1, h2, h3⟩ := foldl_min_le r (min n x)
    simp only [List.foldl_cons]
    refine ⟨by omega, fun y hy => ?_, ?_⟩
    · rcases List.mem_cons.mp hy with rfl | hy
      · omega
      · exact h2 y hy
    · rcases h3 with h3 | h3
      · rw [h3]
        by_cases q : n ≤ x
        · exact .inl (by omega)
        · exact .inr (by rw [show min n x = x by omega]; exact List.mem_cons_self)
      · exact .inr (List.mem_cons_of_mem _ h3)
theorem foldl_max_ge : ∀ (r : List Int) (n : Int), n ≤ r.foldl max n ∧ (∀ y ∈ r, y ≤ r.foldl max n) ∧ (r.foldl max n = n ∨ r.foldl max n ∈ r)
  | [], n => ⟨Int.le_refl _, fun y h => absurd h (by simp), .inl rfl⟩
  | x :: r, n => by
    obtain ⟨h1, h2, h3⟩ := foldl_max_ge r (max n x)
    simp only [List.foldl_cons]
    refine ⟨by omega, fun y hy => ?_, ?_⟩
    · rcases List.mem_cons.mp hy with rfl | hy
      · omega
      · exact h2 y hy
    · rcases h3 with h3 | h3
      · rw [h3]
        by_cases q : x ≤ n
        · exact .inl (by omega)
        · exact .inr (by rw [show max n x = x by omega]; exact List.mem_cons_self)
      · exact .inr (List.mem_cons_of_mem _ h3)
theorem is_min {n : Int} {r : List Int} {m : Int} (h1 : m ∈ n :: r) (h2 : ∀ y ∈ n :: r, m ≤ y) : m = r.foldl min n := by
  obtain ⟨a, b, c⟩ := foldl_min_le r n
  have := h2 n List.mem_cons_self
  have d : m ≤ r.foldl min n := by
    rcases c with c | c
    · omega
    · exact h2 _ (List.mem_cons_of_mem _ c)
  rcases List.mem_cons.mp h1 with e | e
  · omega
  · have := b m e; omega
theorem is_max {n : Int} {r : List Int} {m : Int} (h1 : m ∈ n :: r) (h2 : ∀ y ∈ n :: r, y ≤ m) : m = r.foldl max n := by
  obtain ⟨a, b, c⟩ := foldl_max_ge r n
  have := h2 n List.mem_cons_self
  have d : r.foldl max n ≤ m := by
    rcases c with c | c
    · omega
    · exact h2 _ (List.mem_cons_of_mem _ c)
  rcases List.mem_cons.mp h1 with e | e
  · omega
  · have := b m e; omega
/-- a built-in of one seen thing, by its call's rule -/
def OkB (X : Cx) (cad : Nat → Addr) (b : Bi) (r : List V → Hp → VK → Prop) : Prop := ∀ F ρ η σ H S ι w v z Q, Rel (gc X cad) F ρ η σ H S ι → RelW (gc X cad) H S ι w v → bi1 b w = some z → Want (gc X cad) F ρ η σ S ι z Q → r [v] H Q
theorem s_one {m : M Vw} {b : Bi} {r : List V → Hp → VK → Prop} (ho : PE X a (tCB r (tCons (TW X cad W m) tNil))) (hr : OkB X cad b r) : PE X a (TR X cad W (m.bind fun v => M.opt (bi1 b v))) := by
  refine pe_mono ho fun σ H Q ⟨F, ρ, η, S, ι, R, p⟩ => ⟨F, ρ, η, S, ι, R, PostM.thn p fun v H1 w ρ1 η1 S1 ι1 R1 s1 p1 q1 z => ?_⟩
  cases e : bi1 b w with
  | none => rw [show (M.opt (bi1 b w)) ρ1 η1 = Mp.R.fail by unfold M.opt; rw [e]] at z; exact z.elim
  | some r =>
    rw [show (M.opt (bi1 b w)) ρ1 η1 = Mp.R.ok r ρ1 η1 by unfold M.opt; rw [e]] at z
    exact hr F ρ1 η1 σ H1 S1 ι1 w v r Q R1 q1 e z

variable {F : Hp} {ρ : List Slot} {η : List AO} {σ : L2.St} {H S : Hp} {ι : List Addr}
theorem ok_len : OkB X cad .len (fun xs H Q => (∃ p ys, xs = [V.ref p] ∧ (SqL X.K H p ys ∨ SqT X.K H p ys) ∧ Q (.int ys.length) H) ∨ (∃ z, xs = [V.str z] ∧ z.length ≤ sizeLine ∧ Q (.int z.length) H) ∨ (∃ a kvs, xs = [V.ref a] ∧ H a = some (.dK kvs) ∧ Q (.int kvs.length) H) ∨ L2.rLenT xs H Q) := by
  intro F ρ η σ H S ι w v z Q R rw e q
  have seq : ∀ ds, w.seq? = some ds → z = .val (.int ds.length) → ∃ p ys, [v] = [V.ref p] ∧ (SqL X.K H p ys ∨ SqT X.K H p ys) ∧ Q (.int ys.length) H := fun ds e1 e2 => by
    subst e2
    obtain ⟨p, vs, rfl, h, r⟩ := RelW.seq R.base.sub rw e1
    exact ⟨p, vs, rfl, h, by rw [← r.length]; exact q.here R rfl⟩
  cases w with
  | d x =>
    cases x with
    | str s =>
      unfold bi1 at e
      simp only at e
      split at e
      · rename_i hz
        cases e
        cases (show v = .str s from rw)
        exact .inr (.inl ⟨s, rfl, hz, q.here R rfl⟩)
      · cases e
    | tup ds => cases e; exact .inl (seq ds rfl rfl)
    | lst ds => cases e; exact .inl (seq ds rfl rfl)
    | lck ds => cases e; exact .inl (seq ds rfl rfl)
    | ktp ds => cases e; exact .inl (seq ds rfl rfl)
    | _ => cases e
  | o x =>
    obtain ⟨p, h, rfl, e1, ra⟩ := id rw
    cases x with
    | lst ds => cases e; exact .inl (seq ds rfl rfl)
    | dK kvs =>
      cases e
      obtain ⟨vs, rfl, rk⟩ := ra
      exact .inr (.inr (.inl ⟨p, vs, rfl, e1, by rw [← rk.length]; exact q.here R rfl⟩))
    | dT kvs =>
      cases e
      obtain ⟨vs, rfl, rk⟩ := ra
      exact .inr (.inr (.inr ⟨p, vs, rfl, e1, by rw [← rk.length]; exact q.here R rfl⟩))
    | ins c fs => cases e

theorem ok_abs : OkB X cad .abs (fun xs H Q => ∃ i, xs = [.int i] ∧ Q (.int (if i < 0 then -i else i)) H) := by
  intro F ρ η σ H S ι w v z Q R rw e q
  cases w with
  | d x =>
    cases x <;> first | (cases e; done) | skip
    cases e
    cases (show v = .int _ from rw)
    exact ⟨_, rfl, q.here R rfl⟩
  | o x => cases x <;> cases e
theorem ok_int : OkB X cad .int (fun xs H Q => (∃ i, xs = [.int i] ∧ Q (.int i) H) ∨ ∃ k, xs = [.bl k] ∧ Q (.int (if k then 1 else 0)) H) := by
  intro F ρ η σ H S ι w v z Q R rw e q
  cases w with
  | d x =>
    cases x <;> first | (cases e; done) | skip
    · cases e
      cases (show v = .bl _ from rw)
      exact .inr ⟨_, rfl, q.here R rfl⟩
    · cases e
      cases (show v = .int _ from rw)
      exact .inl ⟨_, rfl, q.here R rfl⟩
  | o x => cases x <;> cases e
theorem ok_tuple : OkB X cad .tuple (fun xs H Q => ∃ p ys, xs = [.ref p] ∧ ((SqL X.K H p ys ∧ ∀ l, H l = none → Q (.ref l) (upd H l (.tup ys))) ∨ (SqT X.K H p ys ∧ Q (.ref p) H))) := by
  intro F ρ η σ H S ι w v z Q R rw e q
  cases w with
  | d x =>
    cases x <;> first | (cases e; done) | skip
    · cases e
      obtain ⟨p, vs, rfl, h, r⟩ := rw
      exact ⟨p, vs, rfl, .inr ⟨.of (R.base.sub _ _ h), q.here R ⟨p, vs, rfl, h, r⟩⟩⟩
    · cases e
      obtain ⟨p, vs, rfl, h, r⟩ := rw
      exact ⟨p, vs, rfl, .inl ⟨.of (R.base.sub _ _ h), fun l e => q.tup R e r⟩⟩
    · cases e
      obtain ⟨p, vs, rfl, h, r⟩ := rw
      exact ⟨p, vs, rfl, .inl ⟨R.base.sub.seq h, fun l e => q.tup R e r⟩⟩
    · cases e
      obtain ⟨p, vs, rfl, h, r⟩ := rw
      exact ⟨p, vs, rfl, .inr ⟨Same.sqt R.base.sub h, q.here R ⟨p, vs, rfl, h, r⟩⟩⟩
  | o x =>
    cases x <;> first | (cases e; done) | skip
    cases e
    obtain ⟨p, h, rfl, e1, vs, rfl, r⟩ := rw
    exact ⟨p, vs, rfl, .inl ⟨.of e1, fun l e => q.tup R e r⟩⟩
theorem ok_list : OkB X cad .list (fun xs H Q => ∃ p ys, xs = [.ref p] ∧ (SqL X.K H p ys ∨ SqT X.K H p ys) ∧ ∀ l, H l = none → Q (.ref l) (upd H l (.lst ys))) := by
  intro F ρ η σ H S ι w v z Q R rw e q
  have seq : ∀ ds, w.seq? = some ds → z = .own (.lst ds) → ∃ p ys, [v] = [V.ref p] ∧ (SqL X.K H p ys ∨ SqT X.K H p ys) ∧ ∀ l, H l = none → Q (.ref l) (upd H l (.lst ys)) := fun ds e1 e2 => by
    subst e2
    obtain ⟨p, vs, rfl, h, r⟩ := RelW.seq R.base.sub rw e1
    exact ⟨p, vs, rfl, h, fun l e => q.own R e ⟨_, rfl, r⟩⟩
  unfold bi1 at e
  simp only at e
  split at e
  · rename_i ds es
    cases e
    exact seq ds es rfl
  · cases e
theorem sum_of {w : Vw} {v : V} {ds : List D} {ns : List Int} (R : Rel (gc X cad) F ρ η σ H S ι) (rw : RelW (gc X cad) H S ι w v) (e1 : (∃ ds, w = .d (.lst ds)) ∨ (∃ ds, w = .d (.lck ds)) ∨ ∃ ds, w = .o (.lst ds)) (e : w.seq? = some ds) (e2 : intsD ds = some ns) : ∃ a, v = .ref a ∧ SqL X.K H a (ns.map V.int) := by
  obtain rfl := intsD_of e2
  rcases e1 with ⟨_, rfl⟩ | ⟨_, rfl⟩ | ⟨_, rfl⟩
  · cases e
    obtain ⟨p, vs, rfl, h, r⟩ := rw
    rw [r.intsOf] at h
    exact ⟨p, rfl, .of (R.base.sub _ _ h)⟩
  · cases e
    obtain ⟨p, vs, rfl, h, r⟩ := rw
    rw [r.intsOf] at h
    exact ⟨p, rfl, R.base.sub.seq h⟩
  · cases e
    obtain ⟨p, h, rfl, e1, vs, rfl, r⟩ := rw
    rw [r.intsOf] at e1
    exact ⟨p, rfl, .of e1⟩
theorem ok_sum : OkB X cad .sum (rSum X.K) := by
  intro F ρ η σ H S ι w v z Q R rw e q
  have fin : ∀ ds ns, ((∃ ds, w = .d (.lst ds)) ∨ (∃ ds, w = .d (.lck ds)) ∨ ∃ ds, w = .o (.lst ds)) → w.seq? = some ds → intsD ds = some ns → z = .val (.int ns.sum) → rSum X.K [v] H Q := fun ds ns h1 h2 h3 h4 => by
    subst h4
    obtain ⟨a, rfl, h⟩ := sum_of R rw h1 h2 h3
    exact ⟨a, ns, rfl, h, q.here R rfl⟩
  cases w with
  | d x =>
    cases x <;> first | (cases e; done) | skip
    · unfold bi1 at e; simp only at e; split at e
      · cases e; exact fin _ _ (.inl ⟨_, rfl⟩) rfl (by assumption) rfl
      · cases e
    · unfold bi1 at e; simp only at e; split at e
      · cases e; exact fin _ _ (.inr (.inl ⟨_, rfl⟩)) rfl (by assumption) rfl
      · cases e
  | o x =>
    cases x <;> first | (cases e; done) | skip
    unfold bi1 at e; simp only at e; split at e
    · cases e; exact fin _ _ (.inr (.inr ⟨_, rfl⟩)) rfl (by assumption) rfl
    · cases e
theorem ok_min : OkB X cad .min (rMin X.K) := by
  intro F ρ η σ H S ι w v z Q R rw e q
  have fin : ∀ ds n r, ((∃ ds, w = .d (.lst ds)) ∨ (∃ ds, w = .d (.lck ds)) ∨ ∃ ds, w = .o (.lst ds)) → w.seq? = some ds → intsD ds = some (n :: r) → z = .val (.int (r.foldl min n)) → rMin X.K [v] H Q := fun ds n r h1 h2 h3 h4 => by
    subst h4
    obtain ⟨a, rfl, h⟩ := sum_of R rw h1 h2 h3
    exact ⟨a, n :: r, rfl, h, by simp, fun m m1 m2 => by rw [is_min m1 m2]; exact q.here R rfl⟩
  cases w with
  | d x =>
    cases x <;> first | (cases e; done) | skip
    unfold bi1 at e; simp only at e; split at e
    · cases e; exact fin _ _ _ (.inl ⟨_, rfl⟩) rfl (by assumption) rfl
    · cases e
  | o x =>
    cases x <;> first | (cases e; done) | skip
    unfold bi1 at e; simp only at e; split at e
    · cases e; exact fin _ _ _ (.inr (.inr ⟨_, rfl⟩)) rfl (by assumption) rfl
    · cases e
theorem ok_max : OkB X cad .max (rMax X.K) := by
  intro F ρ η σ H S ι w v z Q R rw e q
  have fin : ∀ ds n r, ((∃ ds, w = .d (.lst ds)) ∨ (∃ ds, w = .d (.lck ds)) ∨ ∃ ds, w = .o (.lst ds)) → w.seq? = some ds → intsD ds = some (n :: r) → z = .val (.int (r.foldl max n)) → rMax X.K [v] H Q := fun ds n r h1 h2 h3 h4 => by
    subst h4
    obtain ⟨a, rfl, h⟩ := sum_of R rw h1 h2 h3
    exact ⟨a, n :: r, rfl, h, by simp, fun m m1 m2 => by rw [is_max m1 m2]; exact q.here R rfl⟩
  cases w with
  | d x =>
    cases x <;> first | (cases e; done) | skip
    unfold bi1 at e; simp only at e; split at e
    · cases e; exact fin _ _ _ (.inl ⟨_, rfl⟩) rfl (by assumption) rfl
    · cases e
  | o x =>
    cases x <;> first | (cases e; done) | skip
    unfold bi1 at e; simp only at e; split at e
    · cases e; exact fin _ _ _ (.inr (.inr ⟨_, rfl⟩)) rfl (by assumption) rfl
    · cases e
/-- two ints -/
theorem s_min2 {ma mb : M D} (ho : PE X c (tCB (fun xs H Q => ∃ i j, xs = [.int i, .int j] ∧ Q (.int (if j < i then j else i)) H) (tCons (TD X cad W ma) (tCons (TD X cad W mb) tNil)))) :
    PE X c (TR X cad W (ma.bind fun x => mb.bind fun y => M.opt (bi2 .min x y))) := by
  refine pe_mono ho fun σ H Q ⟨F, ρ, η, S, ι, R, p⟩ => ⟨F, ρ, η, S, ι, R, PostM.thn p fun v H1 x ρ1 η1 S1 ι1 R1 s1 p1 q1 z => ⟨F, ρ1, η1, S1, ι1, R1, PostM.thn z fun w H2 y ρ2 η2 S2 ι2 R2 s2 p2 q2 z2 => ?_⟩⟩
  cases x <;> cases y <;> first | (exact z2.elim) | skip
  cases (show v = .int _ from q1)
  cases (show w = .int _ from q2)
  exact ⟨_, _, rfl, z2 _ H2 S2 ι2 R2 (fun _ _ q => q) (List.prefix_refl _) rfl⟩
theorem s_max2 {ma mb : M D} (ho : PE X c (tCB (fun xs H Q => ∃ i j, xs = [.int i, .int j] ∧ Q (.int (if j > i then j else i)) H) (tCons (TD X cad W ma) (tCons (TD X cad W mb) tNil)))) :
    PE X c (TR X cad W (ma.bind fun x => mb.bind fun y => M.opt (bi2 .max x y))) := by
  refine pe_mono ho fun σ H Q ⟨F, ρ, η, S, ι, R, p⟩ => ⟨F, ρ, η, S, ι, R, PostM.thn p fun v H1 x ρ1 η1 S1 ι1 R1 s1 p1 q1 z => ⟨F, ρ1, η1, S1, ι1, R1, PostM.thn z fun w H2 y ρ2 η2 S2 ι2 R2 s2 p2 q2 z2 => ?_⟩⟩
  cases x <;> cases y <;> first | (exact z2.elim) | skip
  cases (show v = .int _ from q1)
  cases (show w = .int _ from q2)
  exact ⟨_, _, rfl, z2 _ H2 S2 ι2 R2 (fun _ _ q => q) (List.prefix_refl _) rfl⟩
end
end Mp

/-! the evaluator is right: calls, methods of lists -/
namespace Mp
open PySem L2

/-! ### a def's promise, by its function -/
def RetR (G : Gc) (F H S : Hp) (ι : List Addr) : RV → V → Prop
  | .val d, v => RelD G.K S ι d v
  | .own o, v => ∃ a h, v = .ref a ∧ H a = some h ∧ RelA G S ι o h ∧ Mine F H S ι a
def PostF (G : Gc) (F S : Hp) (ι : List Addr) (Q : VK) (E : XK) : FR → Prop
  | .ret r η' => ∀ v H' S' ι', Base G F η' H' S' ι' → Same S S' → ι <+: ι' → RetR G F H' S' ι' r v → Q v H'
  | .exc c fs η' => ∀ d H' S' ι' fs', Base G F η' H' S' ι' → Same S S' → ι <+: ι' → H' d = some (.xd fs') → RelFs G.K S' ι' fs fs' → E (.ref (G.cad c)) (some d) H'
  | .fail => False
def spF (G : Gc) (np : Nat) (fn : Fn) : Sp := fun vs H Q E => vs.length = np ∧ ∃ ds η F S ι, Base G F η H S ι ∧ RelDs G.K S ι ds vs ∧ PostF G F S ι Q E (fn ds η)

/-- what a callee may not touch -/
noncomputable def Fc (H S : Hp) (ι : List Addr) : Hp := fun a => open Classical in if a ∈ ι ∨ S a ≠ none then none else H a
section
variable {G : Gc} {F : Hp} {ρ : List Slot} {η η' : List AO} {σ : L2.St} {H S H' S' : Hp} {ι ι' : List Addr} {a : Addr} {o : HO}
theorem Fc_in (h : a ∈ ι) : Fc H S ι a = none := by unfold Fc; rw [if_pos (.inl h)]
theorem Fc_S (h : S a ≠ none) : Fc H S ι a = none := by unfold Fc; rw [if_pos (.inr h)]
theorem Fc_at (h1 : a ∉ ι) (h2 : S a = none) : Fc H S ι a = H a := by
  unfold Fc
  rw [if_neg]
  rintro (h | h)
  · exact h1 h
  · exact h h2
theorem Fc_sub : Same (Fc H S ι) H := fun a o e => by
  by_cases h : a ∈ ι ∨ S a ≠ none
  · unfold Fc at e; rw [if_pos h] at e; cases e
  · unfold Fc at e; rw [if_neg h] at e; exact e
theorem Base.call (B : Base G F η H S ι) : Base G (Fc H S ι) η H S ι :=
  ⟨B.sub, Fc_sub, fun a h => by
    cases e : S a with
    | none => rfl
    | some o => exact absurd (Fc_S (by rw [e]; simp)) h, fun a h => Fc_in h, B.si, B.nd, B.len, B.heap⟩
theorem Base.fc (B : Base G F η H S ι) : Same F (Fc H S ι) := fun a o e => by
  have h1 : a ∉ ι := fun z => by rw [B.fi a z] at e; cases e
  have h2 : S a = none := B.fs a (by rw [e]; simp)
  rw [Fc_at h1 h2]
  exact B.frm a o e
/-- behind a call -/
theorem Rel.back (R : Rel G F ρ η σ H S ι) (B : Base G (Fc H S ι) η' H' S' ι') (s : Same S S') (p : ι <+: ι') : Rel G F ρ η' σ H' S' ι' := by
  have fc := R.base.fc
  refine ⟨⟨B.sub, fc.trans B.frm, fun a h => B.fs a fun z => h ?_, fun a h => ?_, B.si, B.nd, B.len, B.heap⟩, R.slots.step s p fun b na mm => ?_⟩
  · cases e : F a with
    | none => rfl
    | some o => rw [fc a o e] at z; cases z
  · cases e : F a with
    | none => rfl
    | some o => have := B.fi a h; rw [fc a o e] at this; cases this
  · obtain ⟨h, e⟩ := R.slots.there na
    have e2 : Fc H S ι b = some h := by rw [Fc_at mm.i mm.s]; exact e
    refine ⟨(B.frm b h e2).trans e.symm, B.fs b (by rw [e2]; simp), fun z => ?_⟩
    have := B.fi b z
    rw [e2] at this
    cases this
theorem RetR.back {r : RV} {v : V} (R : Rel G F ρ η σ H S ι) (h : RetR G (Fc H S ι) H' S' ι' r v) : relR G F ρ σ H' S' ι' r v := by
  cases r with
  | val d => exact h
  | own o =>
    obtain ⟨a, x, rfl, e1, r, m⟩ := h
    refine ⟨a, x, rfl, e1, r, ⟨m.s, ?_, m.i⟩, fun i u e2 e3 => ?_⟩
    · cases e : F a with
      | none => rfl
      | some o => have := m.f; rw [R.base.fc a o e] at this; cases this
    · obtain ⟨b, y, q1, q2, q3, q4⟩ := R.slots.own i u e2
      rw [e3] at q1
      cases q1
      have := m.f
      rw [Fc_at q4.i q4.s, q2] at this
      cases this
end

/-! ### what is known where a def's body stands -/
structure FnFact (X : Cx) (cad : Nat → Addr) (k : Nat) (fa : Addr) (np : Nat) (fn : Fn) : Prop where
  ok : ∃ fd ps, Binds X.K fd ps [] ∧ FnOk X.prog X.w X.K X.mg X.base (L2.CX X.prog X.w) k fa fd ps (spF (gc X cad) np fn)
  kp : PySem.W.keepIn X.K (.ref fa) = true
  len : ∀ ds η, fn ds η ≠ .fail → ds.length = np
structure Ctx (X : Cx) (cad : Nat → Addr) (W : WX) (T : CT) (Φ : Nat → Fn) (k : Nat) : Prop where
  room : Room k X.A
  calm : X.calm = true
  nd : X.N.Nodup
  takes : Takes X W
  pass : PassesOwn (model X.prog X.w) X.A X.env X.xe
  kind : X.env.scope.kind = .function
  funs : ∀ (f : Nat) (x : Str), T.funs[f]? = some x → ∃ fa np, X.mg x = some (.ref fa) ∧ FnFact X cad k fa np (Φ f)
  consts : ∀ (x : Str) (d : D), T.consts.lookup x = some d → ∃ v u, X.mg x = some u ∧ RelV v u ∧ ∀ S ι, RelD X.K S ι d v
  blts : ∀ x ∈ T.blts, X.mg x = none
  nosup : ("super" : Str) ∉ T.funs
section
variable {X : Cx} {cad : Nat → Addr} {W : WX} {T : CT} {Φ : Nat → Fn} {k : Nat}
theorem Ctx.hu (C : Ctx X cad W T Φ k) : X.A.units + 1 < cLine := hu_of C.room
variable {x : Str} {p pos apos : Pos} {e o : Expr} {es : List Expr} {ms : M (List D)} {f : Nat} {fa : Addr} {np : Nat}
theorem callF_of {ds : List D} {vs : List V} {F : Hp} {ρ : List Slot} {η : List AO} {σ : L2.St} {H S : Hp} {ι : List Addr} {Q : VK} (hn : ∀ ds η, Φ f ds η ≠ .fail → ds.length = np) (R : Rel (gc X cad) F ρ η σ H S ι) (r : RelDs X.K S ι ds vs)
    (z : PostM (gc X cad) W (relR (gc X cad)) F σ Q S ι (callF Φ f ds ρ η)) : spF (gc X cad) np (Φ f) vs H Q (WE W σ) := by
  have nf : Φ f ds η ≠ .fail := fun e => by
    unfold callF at z
    rw [e] at z
    exact z.elim
  refine ⟨by rw [← r.length]; exact hn ds η nf, ds, η, Fc H S ι, S, ι, R.base.call, r, ?_⟩
  unfold callF at z
  cases e : Φ f ds η with
  | ret r η' =>
    rw [e] at z
    exact fun v H' S' ι' B s p q => z v H' S' ι' (R.back B s p) s p (q.back R)
  | exc c fs η' =>
    rw [e] at z
    exact fun d H' S' ι' fs' B s p q1 q2 => z d H' S' ι' fs' (R.back B s p) s p q1 q2
  | fail => rw [e] at z; exact z.elim
theorem s_call (C : Ctx X cad W T Φ k) (hm : X.mg x = some (.ref fa)) (G : FnFact X cad k fa np (Φ f)) (hg : Gl X x) (hdb : (x == ("__debug__" : Str)) = false) (ha : PA X (e :: es) (TDs X cad W ms))
    (he : starEach (e :: es) X.env = (false, eval e X.env) :: starEach es X.env) (hpl : (backTo pos (starEach es X.env)).any (·.1) = false) : PE X (.Call (.Name x p) (e :: es) [] pos) (TR X cad W (ms.bind fun ds => callF Φ f ds)) := by
  obtain ⟨fd, ps, hb, hf⟩ := G.ok
  refine pe_mono (pe_callS hf C.room hg hm G.kp hb (fun σ => passAt C.takes σ) ha hdb he hpl) fun σ H Q ⟨F, ρ, η, S, ι, R, p⟩ => ⟨F, ρ, η, S, ι, R, PostM.thn p fun v H1 ds ρ1 η1 S1 ι1 R1 s1 p1 q1 z => ?_⟩
  exact callF_of G.len R1 q1 z
theorem s_call0 (C : Ctx X cad W T Φ k) (hm : X.mg x = some (.ref fa)) (G : FnFact X cad k fa np (Φ f)) (hg : Gl X x) (hdb : (x == ("__debug__" : Str)) = false) : PE X (.Call (.Name x p) [] [] pos) (TR X cad W ((M.ret []).bind fun ds => callF Φ f ds)) := by
  obtain ⟨fd, ps, hb, hf⟩ := G.ok
  refine ⟨fun pins s σ H Q I ⟨F, ρ, η, S, ι, R, p⟩ => ?_⟩
  refine wpAny_Call_Name_kw (ld_glob I hg hm ?_ hdb)
  exact PySem.W.callWith_K0 I.kIn G.kp (run_fnS (us := []) hf C.room hb (passAt C.takes σ) I .nil (callF_of G.len R RelDs.nil p))

/-! ### isinstance -/
def tyName : Ty → String
  | .int => "int" | .bool => "bool" | .str => "str" | .tup => "tuple" | .lst => "list"
theorem ty_of {H S : Hp} {ι : List Addr} {d : D} {v : V} {t : Ty} {b : Bool} (s : Same S H) (r : RelD X.K S ι d v) (e : tyD d t = some b) : ∃ tv, TyX X.K H v tv ∧ PySem.W.kitOne X.K tv (.type (tyName t)) = some b := by
  cases d with
  | non => cases r; exact ⟨_, .base .non, kit_ty (by cases t <;> cases e <;> decide +kernel)⟩
  | bl x => cases r; exact ⟨_, .base (.bl x), kit_ty (by cases t <;> cases e <;> decide +kernel)⟩
  | int x => cases r; exact ⟨_, .base (.int x), kit_ty (by cases t <;> cases e <;> decide +kernel)⟩
  | str x => cases r; exact ⟨_, .base (.str x), kit_ty (by cases t <;> cases e <;> decide +kernel)⟩
  | tup ds =>
    obtain ⟨p, vs, rfl, h, _⟩ := r
    exact ⟨_, .base (.tup (s _ _ h)), kit_ty (by cases t <;> cases e <;> decide +kernel)⟩
  | lst ds =>
    obtain ⟨p, vs, rfl, h, _⟩ := r
    exact ⟨_, .base (.lst (s _ _ h)), kit_ty (by cases t <;> cases e <;> decide +kernel)⟩
  | lck ds => cases e
  | ktp ds => cases e
  | ref n => cases e
theorem s_isi1 {a : Expr} {m : M D} {t : Ty} (ho : PE X e (tCB (rIsi X.K) (tCons (TD X cad W m) (tCons (tC (.ty (tyName t))) tNil)))) : PE X e (TR X cad W (m.bind fun x => match [t].mapM (tyD x) with | some bs => M.ret (.val (.bl (bs.any id))) | none => M.fail)) := by
  refine pe_mono ho fun σ H Q ⟨F, ρ, η, S, ι, R, p⟩ => ⟨F, ρ, η, S, ι, R, PostM.thn p fun v H1 d ρ1 η1 S1 ι1 R1 s1 p1 q1 z => ?_⟩
  have e0 : [t].mapM (tyD d) = (tyD d t).map fun b => [b] := by
    rw [List.mapM_cons, List.mapM_nil]
    cases tyD d t <;> rfl
  rw [e0] at z
  cases e1 : tyD d t with
  | none => rw [e1] at z; exact z.elim
  | some b =>
    rw [e1] at z
    obtain ⟨tv, h1, h2⟩ := ty_of R1.base.sub q1 e1
    refine ⟨v, .ty (tyName t), tv, .type (tyName t), b, rfl, .ty _, h1, h2, z _ H1 S1 ι1 R1 (fun _ _ q => q) (List.prefix_refl _) ?_⟩
    show V.bl b = V.bl ([b].any id)
    simp

/-! ### a list's methods -/
/-- where a target stands -/
def TgtAt (ρ : List Slot) (σ : L2.St) (ι : List Addr) : Tgt → Addr → Prop
  | .slot i, a => σ[i]? = some (some (.ref a))
  | .at n, a => ι[n]? = some a
theorem seen_at {F : Hp} {ρ : List Slot} {η : List AO} {σ : L2.St} {H S : Hp} {ι : List Addr} {t : Tgt} {a : Addr} {α β : Type} {kk : AO → M α} {rel : RelT α β} {Q : β → Hp → Prop} (R : Rel (gc X cad) F ρ η σ H S ι) (ht : TgtAt ρ σ ι t a)
    (p : PostM (gc X cad) W rel F σ Q S ι ((seen t ρ η).bind kk)) : ∃ o h, seen t ρ η = .ok o ρ η ∧ H a = some h ∧ RelA (gc X cad) S ι o h ∧ PostM (gc X cad) W rel F σ Q S ι (kk o ρ η) := by
  cases t with
  | slot i =>
    unfold seen at p ⊢
    simp only at p ⊢
    cases e : ρ[i]? with
    | none => rw [e] at p; exact p.elim
    | some s =>
      rw [e] at p
      cases s with
      | own o =>
        obtain ⟨b, h, e2, e3, r, m⟩ := R.slots.own i o e
        rw [show σ[i]? = some (some (V.ref a)) from ht] at e2
        cases e2
        exact ⟨o, h, rfl, e3, r, p⟩
      | un => exact p.elim
      | val d => exact p.elim
  | «at» n =>
    unfold seen at p ⊢
    simp only at p ⊢
    cases e : η[n]? with
    | none => rw [e] at p; exact p.elim
    | some o =>
      rw [e] at p
      obtain ⟨b, h, e2, e3, r⟩ := R.base.heap n o e
      rw [show ι[n]? = some a from ht] at e2
      cases e2
      exact ⟨o, h, rfl, e3, r, p⟩
theorem store_at {F : Hp} {ρ : List Slot} {η : List AO} {σ : L2.St} {H S : Hp} {ι : List Addr} {t : Tgt} {a : Addr} {o o' : AO} {h' : HO} {α β : Type} {kk : Unit → M α} {rel : RelT α β} {Q : β → Hp → Prop} (R : Rel (gc X cad) F ρ η σ H S ι) (ht : TgtAt ρ σ ι t a) (hs : seen t ρ η = .ok o ρ η) (r : RelA (gc X cad) S ι o' h')
    (p : PostM (gc X cad) W rel F σ Q S ι ((store t o' ρ η).bind kk)) : ∃ ρ' η', Rel (gc X cad) F ρ' η' σ (upd H a h') S ι ∧ PostM (gc X cad) W rel F σ Q S ι (kk () ρ' η') := by
  cases t with
  | slot i =>
    unfold seen at hs
    simp only at hs
    cases e : ρ[i]? with
    | none => rw [e] at hs; cases hs
    | some s =>
      rw [e] at hs
      cases s with
      | own x => exact ⟨_, _, R.writeOwn e ht r, p⟩
      | un => cases hs
      | val d => cases hs
  | «at» n => exact ⟨_, _, R.write ht r, p⟩
/-- the call of a list's method, behind the receiver -/
def OkM (X : Cx) (cad : Nat → Addr) (m : LM) (r : V → List V → Hp → VK → Prop) : Prop := ∀ F ρ η σ H S ι o h a xs vs d o' Q, Rel (gc X cad) F ρ η σ H S ι → H a = some h → RelA (gc X cad) S ι o h → RelDs X.K S ι xs vs → lmAct m o xs = some (d, o') →
  (∀ h' u, RelA (gc X cad) S ι o' h' → RelD X.K S ι d u → Q u (upd H a h')) → r (.ref a) vs H Q
theorem act_of {m : LM} {r : V → List V → Hp → VK → Prop} (hr : OkM X cad m r) {F : Hp} {ρ : List Slot} {η : List AO} {σ : L2.St} {H S : Hp} {ι : List Addr} {t : Tgt} {a : Addr} {args : M (List D)} {Q : VK} {tA : TA} (R : Rel (gc X cad) F ρ η σ H S ι) (ht : TgtAt ρ σ ι t a)
    (p : PostM (gc X cad) W (relR (gc X cad)) F σ Q S ι (actE m t args ρ η)) (hA : ∀ Q', TDs X cad W args σ H Q' → tA σ H Q') : tyV X.K "list" (.ref a) H ∧ tA σ H fun xs H2 => r (.ref a) xs H2 Q := by
  unfold actE at p
  obtain ⟨o, h, e0, e1, ra, p⟩ := seen_at R ht p
  split at p
  · rename_i il
    cases o with
    | lst ds =>
      obtain ⟨vs, rfl, rd⟩ := id ra
      refine ⟨.inl ⟨rfl, vs, .of e1⟩, hA _ ⟨F, ρ, η, S, ι, R, PostM.thn p fun xs H2 ds2 ρ2 η2 S2 ι2 R2 s2 p2 q2 z => ?_⟩⟩
      have ht2 : TgtAt ρ2 σ ι2 t a := by
        cases t with
        | slot i => exact ht
        | «at» n =>
          obtain ⟨l, rfl⟩ := p2
          show (ι ++ l)[n]? = some a
          rw [List.getElem?_append_left (List.getElem?_eq_some_iff.mp ht).1]
          exact ht
      obtain ⟨o2, h2, e2, e3, ra2, z⟩ := seen_at R2 ht2 z
      cases el : lmAct m o2 ds2 with
      | none => rw [el] at z; exact z.elim
      | some q =>
        rw [el] at z
        refine hr F ρ2 η2 σ H2 S2 ι2 o2 h2 a ds2 xs q.1 q.2 Q R2 e3 ra2 q2 el fun h' u rh ru => ?_
        obtain ⟨ρ3, η3, R3, z3⟩ := store_at R2 ht2 e2 rh z
        exact z3 u _ S2 ι2 R3 (fun _ _ q => q) (List.prefix_refl _) ru
    | _ => cases il
  · exact p.elim
end
end Mp

/-! the evaluator is right: the methods of lists one by one -/
namespace Mp
open PySem L2 PySem.MeetsSeq PySem.AutoSeq1

theorem ext_tupG (l b : Addr) (its its2 : Array Value) (n n2 : Nat) (dd : Option Addr) (sl : Array (Option Value)) (h0 : ¬(!its.isEmpty && Builtin.List.listTooLong (its.size + its2.size)) = true) (h1 : its.size ≤ sizeLine) (h2 : its.size + its2.size ≤ sizeLine + 1) :
    Meets (Builtin.«list.extend» ⟨[.ref l, .ref b], []⟩) (fun _ R s => s.heap.get? l = some { cls := .type "list", data := .seq its n } ∧ s.heap.get? b = some { cls := .type "tuple", dict := dd, data := .seq its2 n2, slots := sl } ∧
      R (.ok (.ret Value.none)) { s with heap := s.heap.update l (Obj.mapSeq fun x => x ++ its2), toks := s.toks }) :=
  .of_wp fun prog w A R s h => by
    obtain ⟨hp, g, d, tk, os⟩ := s
    obtain ⟨hl, hb, h⟩ := h
    have f1 := idx_int
    have f2 := sub_tuple_tuple
    have f3 := sub_list_list
    have f4 := sub_tuple_list
    have f5 := sub_list_tuple
    have hz' : (its ++ its2).size ≤ sizeLine + 1 := by rw [Array.size_append]; exact h2
    wp_walk using (wpAny_updateSeq hl rfl (hz := h1) (_hz' := hz')), wpAny_loadPart' hl, wpAny_loadPart' hb
    exact ⟨_, rfl, h⟩
end Mp
namespace Mp
open PySem L2
section
variable {X : Cx} {cad : Nat → Addr} {W : WX}
def rExtT : V → List V → Hp → VK → Prop := fun x vs H Q => ∃ l b xs zs, x = .ref l ∧ vs = [.ref b] ∧ H l = some (.lst xs) ∧ H b = some (.tup zs) ∧ xs.length + zs.length ≤ sizeLine ∧ Q .non (upd H l (.lst (xs ++ zs)))
theorem mt_extT : MtM X "list.extend" rExtT := by
  intro pins s σ H x vs v us Q I rx rv h
  obtain ⟨l, b, xs, zs, rfl, rfl, hH, hB, hz, q⟩ := h
  cases rx
  obtain ⟨u, rfl, ru⟩ := rv.one
  cases ru
  obtain ⟨z, its, n, r, hl, e⟩ := I.lstM hH
  obtain ⟨z2, its2, r2, o, ho, hc, n2, hd⟩ := I.hok b _ hB
  obtain ⟨c2, d2, dt2, sl2⟩ := o
  simp only at hc hd
  subst hc hd
  have hl2 := r2.length
  have hsz : its.toArray.size + its2.toArray.size ≤ sizeLine := by rw [List.size_toArray, List.size_toArray]; omega
  have hlong : ¬ (!its.toArray.isEmpty && Builtin.List.listTooLong (its.toArray.size + its2.toArray.size)) = true := by
    rw [notLongL hsz, Bool.and_false]
    exact Bool.false_ne_true
  refine PySem.call_meets PySem.F.slot_list_extend ⟨_, e, rfl⟩ PySem.F.entry_list_extend (PySem.F.args_list_extend_2 _ _) (ext_tupG l b its.toArray its2.toArray n n2 d2 sl2 hlong (by rw [List.size_toArray]; omega) (by omega)) ⟨e, ho, ?_⟩
  refine ⟨.non, _, I.lset (its' := its ++ its2) hH e (by simp) (r.append r2) ?_, rfl, q⟩
  rw [List.length_append]
  omega
theorem okm_append : OkM X cad .append rAppend := by
  intro F ρ η σ H S ι o h a xs vs d o' Q R e1 ra rx el q
  cases o <;> first | (cases el; done) | skip
  match xs, rx, el with
  | [x], ⟨y, r', e2, ry, e3⟩, el =>
    cases (show r' = [] from e3)
    subst e2
    unfold lmAct appAct at el
    simp only at el
    split at el
    · rename_i hz
      cases el
      obtain ⟨ws, rfl, rd⟩ := ra
      exact ⟨a, ws, y, rfl, rfl, e1, by rw [← rd.length]; exact hz, q _ _ ⟨_, rfl, rd.append (RelDs.cons ry RelDs.nil)⟩ rfl⟩
    · cases el
  | [], _, el => cases el
  | _ :: _ :: _, _, el => cases el
theorem okm_extend : OkM X cad .extend (fun x vs H Q => rExtend x vs H Q ∨ rExtT x vs H Q) := by
  intro F ρ η σ H S ι o h a xs vs d o' Q R e1 ra rx el q
  cases o <;> first | (cases el; done) | skip
  rename_i ds
  match xs, rx, el with
  | [x], ⟨y, r', e2, ry, e3⟩, el =>
    cases (show r' = [] from e3)
    subst e2
    have fin : ∀ (es : List D) (P : Prop), (if ds.length + es.length ≤ sizeLine then some (D.non, AO.lst (ds ++ es)) else none) = some (d, o') → (ds.length + es.length ≤ sizeLine → d = D.non → o' = AO.lst (ds ++ es) → P) → P := fun es P e hP => by
      split at e
      · rename_i hz
        cases e
        exact hP hz rfl rfl
      · cases e
    obtain ⟨ws, rfl, rd⟩ := ra
    cases x <;> first | (cases el; done) | skip
    · rename_i es
      obtain ⟨p, us, rfl, h2, rs⟩ := ry
      refine fin es _ el fun hz e5 e6 => ?_
      subst e5 e6
      exact .inr ⟨a, p, ws, us, rfl, rfl, e1, R.base.sub _ _ h2, by rw [← rd.length, ← rs.length]; exact hz, q _ _ ⟨_, rfl, rd.append rs⟩ rfl⟩
    · rename_i es
      obtain ⟨p, us, rfl, h2, rs⟩ := ry
      refine fin es _ el fun hz e5 e6 => ?_
      subst e5 e6
      exact .inl ⟨a, p, ws, us, rfl, rfl, e1, R.base.sub _ _ h2, by rw [← rd.length, ← rs.length]; exact hz, q _ _ ⟨_, rfl, rd.append rs⟩ rfl⟩
  | [], _, el => cases el
  | x :: _ :: _, _, el => cases x <;> cases el
theorem ixN_of {n : Nat} {i : Int} {k : Nat} (e : L2.ixN n i = some k) : seqIndex? i n = some k := (ixN_seq e).1
theorem okm_pop : OkM X cad .pop (fun x vs H Q => rPop x vs H Q ∨ rPopAt x vs H Q) := by
  intro F ρ η σ H S ι o h a xs vs d o' Q R e1 ra rx el q
  cases o <;> first | (cases el; done) | skip
  rename_i ds
  match xs, rx, el with
  | [], rx, el =>
    cases (show vs = [] from rx)
    unfold lmAct popAct at el
    simp only at el
    split at el
    · rename_i y ey
      cases el
      obtain ⟨ws, rfl, rd⟩ := ra
      obtain ⟨u, h1, h2⟩ := rd.get ey
      exact .inl ⟨a, ws, u, rfl, rfl, e1, by rw [← rd.length]; exact h1, q _ _ ⟨_, rfl, rd.dropLast⟩ h2⟩
    · cases el
  | [x], ⟨y, r', e2, ry, e3⟩, el =>
    cases (show r' = [] from e3)
    subst e2
    unfold lmAct popAct at el
    simp only at el
    cases x <;> first | (cases el; done) | skip
    rename_i i
    simp only at el
    split at el
    · rename_i hb
      split at el
      · rename_i k ek
        split at el
        · rename_i w ew
          cases el
          cases (show y = .int i from ry)
          obtain ⟨ws, rfl, rd⟩ := ra
          obtain ⟨u, h1, h2⟩ := rd.get ew
          exact .inr ⟨a, ws, i, k, u, rfl, rfl, e1, hb.1, hb.2, by rw [← rd.length]; exact ixN_of ek, h1, q _ _ ⟨_, rfl, rd.eraseIdx k⟩ h2⟩
        · cases el
      · cases el
    · cases el
  | x :: _ :: _, _, el => cases x <;> cases el

/-! ### the calls -/
variable {o e : Expr} {es : List Expr} {pos apos : Pos} {args : M (List D)}
theorem tgtVar_at {F : Hp} {ρ : List Slot} {η : List AO} {σ : L2.St} {H S : Hp} {ι : List Addr} {j : Nat} {α β : Type} {kk : Tgt → M α} {rel : RelT α β} {Q : β → Hp → Prop} (R : Rel (gc X cad) F ρ η σ H S ι)
    (p : PostM (gc X cad) W rel F σ Q S ι ((tgtVar j ρ η).bind kk)) : ∃ t a, σ[j]? = some (some (.ref a)) ∧ TgtAt ρ σ ι t a ∧ PostM (gc X cad) W rel F σ Q S ι (kk t ρ η) := by
  unfold tgtVar at p
  cases e : ρ[j]? with
  | none => rw [e] at p; exact p.elim
  | some s =>
    rw [e] at p
    cases s with
    | un => exact p.elim
    | val d =>
      cases d <;> first | (exact p.elim) | skip
      obtain ⟨v, e2, x, e3, rfl⟩ := R.slots.val j _ e
      exact ⟨.at _, x, e2, e3, p⟩
    | own o =>
      obtain ⟨x, h, e2, _⟩ := R.slots.own j o e
      exact ⟨.slot j, x, e2, e2, p⟩
theorem tgtD_at {F : Hp} {ρ : List Slot} {η : List AO} {σ : L2.St} {H S : Hp} {ι : List Addr} {d : D} {v : V} {α β : Type} {kk : Tgt → M α} {rel : RelT α β} {Q : β → Hp → Prop} (r : RelD X.K S ι d v)
    (p : PostM (gc X cad) W rel F σ Q S ι ((tgtD d ρ η).bind kk)) : ∃ t a, v = .ref a ∧ TgtAt ρ σ ι t a ∧ PostM (gc X cad) W rel F σ Q S ι (kk t ρ η) := by
  cases d <;> first | (exact p.elim) | skip
  obtain ⟨x, e, rfl⟩ := r
  exact ⟨.at _, x, rfl, e, p⟩
/-- from the receiver's reading to the method's -/
theorem mth_var {m : LM} {j : Nat} {ma : M RV} {r : V → List V → Hp → VK → Prop} {tA : TA} (hr : OkM X cad m r) (hA : ∀ σ H Q', TDs X cad W args σ H Q' → tA σ H Q') (ho : PE X e (tBM X.K "list" r (tVar j) tA)) : PE X e (TR X cad W (mthE m (some j) ma args)) := by
  refine pe_mono ho fun σ H Q ⟨F, ρ, η, S, ι, R, p⟩ => ?_
  obtain ⟨t, a, e1, ht, p⟩ := tgtVar_at R p
  exact ⟨.ref a, e1, act_of hr R ht p fun Q' => hA σ H Q'⟩
theorem mth_gen {m : LM} {ma : M RV} {r : V → List V → Hp → VK → Prop} {tA : TA} (hr : OkM X cad m r) (hA : ∀ σ H Q', TDs X cad W args σ H Q' → tA σ H Q') (ho : PE X e (tBM X.K "list" r (TD X cad W (ma.bind frz)) tA)) : PE X e (TR X cad W (mthE m none ma args)) := by
  refine pe_mono ho fun σ H Q ⟨F, ρ, η, S, ι, R, p⟩ => ⟨F, ρ, η, S, ι, R, ?_⟩
  unfold mthE at p
  simp only at p
  have p' : PostM (gc X cad) W (relR (gc X cad)) F σ Q S ι (((ma.bind frz) ρ η).bind fun d ρ1 η1 => (tgtD d ρ1 η1).bind fun t => actE m t args) := by
    have e : ((M.bind (M.bind ma frz) tgtD).bind fun t => actE m t args) ρ η = (((ma.bind frz) ρ η).bind fun d ρ1 η1 => (tgtD d ρ1 η1).bind fun t => actE m t args) := by
      unfold M.bind
      rw [bind_assoc]
    rw [← e]
    exact p
  refine PostM.thn p' fun v H1 d ρ1 η1 S1 ι1 R1 s1 p1 q1 z => ?_
  obtain ⟨t, a, rfl, ht, z⟩ := tgtD_at (σ := σ) (H := H1) q1 z
  exact act_of hr R1 ht z fun Q' => hA σ H1 Q'
end
end Mp

/-! the evaluator is right: targets, what a for walks -/
namespace Mp
open PySem L2

section
variable {G : Gc} {F : Hp} {ρ : List Slot} {η : List AO} {σ σ' : L2.St} {H S : Hp} {ι : List Addr}
/-- slots forgotten, others as they were -/
theorem Rel.weak {ρ' : List Slot} (R : Rel G F ρ η σ H S ι) (hl : ρ'.length = σ'.length) (h : ∀ (i : Nat) s, ρ'[i]? = some s → s ≠ .un → ρ[i]? = some s ∧ σ'[i]? = σ[i]?) : Rel G F ρ' η σ' H S ι :=
  ⟨R.base, ⟨hl, fun i d e => by
    obtain ⟨h1, h2⟩ := h i _ e (fun z => nomatch z)
    rw [h2]
    exact R.slots.val i d h1, fun i o e => by
    obtain ⟨h1, h2⟩ := h i _ e (fun z => nomatch z)
    rw [h2]
    exact R.slots.own i o h1, fun i j o o' a e1 e2 e3 e4 => by
    obtain ⟨h1, h2⟩ := h i _ e1 (fun z => nomatch z)
    obtain ⟨h3, h4⟩ := h j _ e2 (fun z => nomatch z)
    rw [h2] at e3
    rw [h4] at e4
    exact R.slots.dist i j o o' a h1 h3 e3 e4⟩⟩
theorem Rel.setVal {i : Nat} {d : D} {v : V} (R : Rel G F ρ η σ H S ι) (hi : i < ρ.length) (r : RelD G.K S ι d v) : Rel G F (ρ.set i (.val d)) η (σ.set i (some v)) H S ι := by
  have hi2 : i < σ.length := by rw [← R.slots.len]; exact hi
  have own : ∀ (j : Nat) o, (ρ.set i (.val d))[j]? = some (.own o) → i ≠ j ∧ ρ[j]? = some (.own o) := fun j o e => by
    by_cases z : i = j
    · subst z; rw [List.getElem?_set_self hi] at e; cases e
    · rw [List.getElem?_set_ne z] at e; exact ⟨z, e⟩
  refine ⟨R.base, ⟨by simp [R.slots.len], fun j d' e => ?_, fun j o e => ?_, fun j k o o' a e1 e2 e3 e4 => ?_⟩⟩
  · by_cases z : i = j
    · subst z
      rw [List.getElem?_set_self hi] at e
      cases e
      exact ⟨v, by rw [List.getElem?_set_self hi2], r⟩
    · rw [List.getElem?_set_ne z] at e ⊢
      exact R.slots.val j d' e
  · obtain ⟨z, e⟩ := own j o e
    rw [List.getElem?_set_ne z]
    exact R.slots.own j o e
  · obtain ⟨z1, e1⟩ := own j o e1
    obtain ⟨z2, e2⟩ := own k o' e2
    rw [List.getElem?_set_ne z1] at e3
    rw [List.getElem?_set_ne z2] at e4
    exact R.slots.dist j k o o' a e1 e2 e3 e4
theorem Rel.setOwn {i : Nat} {o : AO} {h : HO} {a : Addr} (R : Rel G F ρ η σ H S ι) (hi : i < ρ.length) (e0 : H a = some h) (r : RelA G S ι o h) (m : Mine F H S ι a) (ap : Apart ρ σ a) : Rel G F (ρ.set i (.own o)) η (σ.set i (some (.ref a))) H S ι := by
  have hi2 : i < σ.length := by rw [← R.slots.len]; exact hi
  refine ⟨R.base, ⟨by simp [R.slots.len], fun j d' e => ?_, fun j o' e => ?_, fun j k o1 o2 b e1 e2 e3 e4 => ?_⟩⟩
  · by_cases z : i = j
    · subst z; rw [List.getElem?_set_self hi] at e; cases e
    · rw [List.getElem?_set_ne z] at e ⊢; exact R.slots.val j d' e
  · by_cases z : i = j
    · subst z
      rw [List.getElem?_set_self hi] at e
      cases e
      exact ⟨a, h, by rw [List.getElem?_set_self hi2], e0, r, m⟩
    · rw [List.getElem?_set_ne z] at e ⊢; exact R.slots.own j o' e
  · by_cases z1 : i = j
    · by_cases z2 : i = k
      · exact z1.symm.trans z2
      · subst z1
        rw [List.getElem?_set_self hi2] at e3
        cases e3
        rw [List.getElem?_set_ne z2] at e2 e4
        exact absurd e4 (ap k o2 e2)
    · rw [List.getElem?_set_ne z1] at e1 e3
      by_cases z2 : i = k
      · subst z2
        rw [List.getElem?_set_self hi2] at e4
        cases e4
        exact absurd e3 (ap j o1 e1)
      · rw [List.getElem?_set_ne z2] at e2 e4
        exact R.slots.dist j k o1 o2 b e1 e2 e3 e4
end

/-! ### targets -/
def gNames : List Nat → TGs
  | [] => gNil
  | i :: is => gCons (gName i) (gNames is)
def tgG (K : PySem.W.Frag) : Tg → TG
  | .nm i => gName i
  | .tp is => gTup K is.length (gNames is)
/-- the slots outside are as they were -/
def SameOut (is : List Nat) (σ σ' : L2.St) : Prop := σ'.length = σ.length ∧ ∀ i, i ∉ is → σ'[i]? = σ[i]?
theorem SameOut.refl (is : List Nat) (σ : L2.St) : SameOut is σ σ := ⟨rfl, fun _ _ => rfl⟩
section
variable {X : Cx} {cad : Nat → Addr} {W : WX}
variable {F : Hp} {ρ : List Slot} {η : List AO} {σ : L2.St} {H S : Hp} {ι : List Addr}
theorem setS_ok {i : Nat} {s : Slot} {ρ' : List Slot} {η' : List AO} {u : Unit} (h : setS i s ρ η = .ok u ρ' η') : i < ρ.length ∧ ρ' = ρ.set i s ∧ η' = η := by
  unfold setS at h
  split at h
  · cases h; exact ⟨by assumption, rfl, rfl⟩
  · cases h
theorem setAll_at : ∀ {is : List Nat} {ds : List D} {vs : List V} {ρ ρ' : List Slot} {η' : List AO} {σ : L2.St} {u : Unit}, Rel (gc X cad) F ρ η σ H S ι → RelDs X.K S ι ds vs → setAll is ds ρ η = .ok u ρ' η' →
    ∃ σ', Rel (gc X cad) F ρ' η σ' H S ι ∧ η' = η ∧ SameOut is σ σ' ∧ ∀ Q, Q σ' H → gNames is vs σ H Q
  | [], [], vs, ρ, ρ', η', σ, u, R, r, h => by
    cases h
    cases (show vs = [] from r)
    exact ⟨σ, R, rfl, SameOut.refl _ _, fun Q q => ⟨rfl, q⟩⟩
  | [], _ :: _, _, _, _, _, _, _, _, _, h => by cases h
  | _ :: _, [], _, _, _, _, _, _, _, _, h => by cases h
  | i :: is, d :: ds, vs, ρ, ρ', η', σ, u, R, r, h => by
    obtain ⟨v, vr, rfl, r1, r2⟩ := r
    unfold setAll M.bind at h
    cases e : setS i (.val d) ρ η with
    | ok u1 ρ1 η1 =>
      rw [e] at h
      obtain ⟨hi, e2, e3⟩ := setS_ok e
      rw [e2, e3] at h
      obtain ⟨σ', R', e4, so, hQ⟩ := setAll_at (R.setVal hi r1) r2 h
      refine ⟨σ', R', e4, ⟨by rw [so.1]; simp, fun j hj => ?_⟩, fun Q q => ⟨v, vr, rfl, hQ Q q⟩⟩
      rw [so.2 j (fun z => hj (List.mem_cons_of_mem _ z)), List.getElem?_set_ne (show i ≠ j from fun z => hj (by rw [z]; exact List.mem_cons_self))]
    | exc c fs ρ1 η1 => rw [e] at h; cases h
    | fail => rw [e] at h; cases h
/-- a value is stored at a target -/
theorem put_at {tg : Tg} {d : D} {v : V} {ρ' : List Slot} {η' : List AO} {u : Unit} (R : Rel (gc X cad) F ρ η σ H S ι) (r : RelD X.K S ι d v) (h : tg.put d ρ η = .ok u ρ' η') :
    ∃ σ', Rel (gc X cad) F ρ' η σ' H S ι ∧ η' = η ∧ SameOut tg.slots σ σ' ∧ ∀ Q, Q σ' H → tgG X.K tg v σ H Q := by
  cases tg with
  | nm i =>
    obtain ⟨hi, rfl, rfl⟩ := setS_ok h
    refine ⟨_, R.setVal hi r, rfl, ⟨by simp, fun j hj => ?_⟩, fun Q q => q⟩
    rw [List.getElem?_set_ne (show i ≠ j from fun z => hj (by rw [z]; exact List.mem_cons_self))]
  | tp is =>
    cases d <;> first | (cases h; done) | skip
    rename_i ds
    obtain ⟨a, vs, rfl, h1, rs⟩ := r
    unfold Tg.put at h
    simp only at h
    split at h
    · rename_i hl
      obtain ⟨σ', R', e, so, hQ⟩ := setAll_at R rs h
      exact ⟨σ', R', e, so, fun Q q => ⟨a, vs, rfl, .of (R.base.sub _ _ h1), by rw [← rs.length]; exact hl, hQ Q q⟩⟩
    · cases h
theorem put_noexc {tg : Tg} {d : D} {c : Nat} {fs : List (Str × D)} {ρ' : List Slot} {η' : List AO} : tg.put d ρ η ≠ .exc c fs ρ' η' := by
  have all : ∀ (is : List Nat) (ds : List D) (ρ : List Slot), setAll is ds ρ η ≠ .exc c fs ρ' η' := fun is => by
    induction is with
    | nil => intro ds ρ h; cases ds <;> cases h
    | cons i is ih =>
      intro ds ρ h
      cases ds with
      | nil => cases h
      | cons d ds =>
        unfold setAll M.bind at h
        unfold setS at h
        split at h
        · exact ih ds _ h
        · cases h
  intro h
  cases tg with
  | nm i => unfold Tg.put setS at h; simp only at h; split at h <;> cases h
  | tp is =>
    cases d <;> first | (cases h; done) | skip
    unfold Tg.put at h
    simp only at h
    split at h
    · exact all _ _ _ h
    · cases h

/-! ### what a for walks -/
/-- J yields these items while S stands -/
structure Gives (K : PySem.W.Frag) (S : Hp) (ι : List Addr) (J : It) (items : List D) : Prop where
  go : ∀ i H, Same S H → i < items.length → J.go i H
  stop : ∀ i H, Same S H → items.length ≤ i → J.stop i H
  yld : ∀ (i : Nat) H x H' d, Same S H → items[i]? = some d → J.yld i H x H' → (H' = H ∧ RelD K S ι d x) ∨ ∃ T vs ds, H T = none ∧ H' = upd H T (.tup vs) ∧ x = .ref T ∧ d = .tup ds ∧ RelDs K S ι ds vs
theorem gives_list {K : PySem.W.Frag} {ds : List D} {vs : List V} {a : Addr} (h : SqL K S a vs) (r : RelDs K S ι ds vs) : Gives K S ι (Itl K a) ds where
  go := fun i H s hi => ⟨vs, vs[i]'(by rw [← r.length]; exact hi), s.seq h, List.getElem?_eq_getElem _⟩
  stop := fun i H s hi => ⟨vs, s.seq h, by rw [← r.length]; exact hi⟩
  yld := fun i H x H' d s e ⟨e2, q⟩ => by
    obtain ⟨v, h1, h2⟩ := r.get e
    have := q vs (s.seq h)
    rw [h1] at this
    cases this
    exact .inl ⟨e2, h2⟩
theorem gives_tup {K : PySem.W.Frag} {ds : List D} {vs : List V} {a : Addr} (h : SqT K S a vs) (r : RelDs K S ι ds vs) : Gives K S ι (Itt K a) ds where
  go := fun i H s hi => ⟨vs, vs[i]'(by rw [← r.length]; exact hi), Same.sqt s h, List.getElem?_eq_getElem _⟩
  stop := fun i H s hi => ⟨vs, Same.sqt s h, by rw [← r.length]; exact hi⟩
  yld := fun i H x H' d s e ⟨e2, q⟩ => by
    obtain ⟨v, h1, h2⟩ := r.get e
    have := q vs (Same.sqt s h)
    rw [h1] at this
    cases this
    exact .inl ⟨e2, h2⟩
theorem gives_rng {K : PySem.W.Frag} (lo : Int) (n : Nat) : Gives K S ι (Itr lo n) ((List.range n).map fun (k : Nat) => D.int (lo + k)) where
  go := fun i H s hi => by
    have h : i < n := by simpa using hi
    exact h
  stop := fun i H s hi => by
    have h : n ≤ i := by simpa using hi
    exact h
  yld := fun i H x H' d s e ⟨e2, q⟩ => by
    rw [List.getElem?_map] at e
    cases e3 : (List.range n)[i]? with
    | none => rw [e3] at e; cases e
    | some k =>
      rw [e3] at e
      cases e
      obtain ⟨h1, h2⟩ := List.getElem?_eq_some_iff.mp e3
      rw [List.getElem_range] at h2
      subst h2
      exact .inl ⟨e2, q⟩
theorem gives_rngC {K : PySem.W.Frag} (lo c : Int) (n : Nat) : Gives K S ι (Itc lo c n) ((List.range n).map fun (k : Nat) => D.int (lo + (k : Int) * c)) where
  go := fun i H s hi => by
    have h : i < n := by simpa using hi
    exact h
  stop := fun i H s hi => by
    have h : n ≤ i := by simpa using hi
    exact h
  yld := fun i H x H' d s e ⟨e2, q⟩ => by
    rw [List.getElem?_map] at e
    cases e3 : (List.range n)[i]? with
    | none => rw [e3] at e; cases e
    | some k =>
      rw [e3] at e
      cases e
      obtain ⟨h1, h2⟩ := List.getElem?_eq_some_iff.mp e3
      rw [List.getElem_range] at h2
      subst h2
      exact .inl ⟨e2, q⟩
theorem enumD_len : ∀ (ds : List D) (n : Nat), (enumD n ds).length = ds.length
  | [], _ => rfl
  | d :: ds, n => by simp [enumD, enumD_len ds (n + 1)]
theorem enumD_get : ∀ (ds : List D) (n i : Nat), (enumD n ds)[i]? = ds[i]?.map fun d => D.tup [.int ((n + i : Nat) : Int), d]
  | [], _, _ => rfl
  | d :: ds, n, 0 => by simp [enumD]
  | d :: ds, n, i + 1 => by
    show (enumD (n + 1) ds)[i]? = ds[i]?.map _
    rw [enumD_get ds (n + 1) i, show n + 1 + i = n + (i + 1) by omega]
theorem gives_enum {K : PySem.W.Frag} {ds : List D} {vs : List V} {a : Addr} (h : SqL K S a vs) (r : RelDs K S ι ds vs) : Gives K S ι (Ite K a) (enumD 0 ds) where
  go := fun i H s hi => ⟨vs, vs[i]'(by rw [← r.length, ← enumD_len ds 0]; exact hi), s.seq h, List.getElem?_eq_getElem _⟩
  stop := fun i H s hi => ⟨vs, s.seq h, by rw [← r.length, ← enumD_len ds 0]; exact hi⟩
  yld := fun i H x H' d s e ⟨T, x', e1, e2, e3, q⟩ => by
    rw [enumD_get] at e
    cases e4 : ds[i]? with
    | none => rw [e4] at e; cases e
    | some y =>
      rw [e4] at e
      cases e
      obtain ⟨v, h1, h2⟩ := r.get e4
      have this := q vs (s.seq h)
      rw [h1] at this
      obtain rfl : v = x' := Option.some.inj this
      exact .inr ⟨T, [.int (i : Nat), v], [.int ((0 + i : Nat) : Int), y], e2, e3, e1, rfl, RelDs.cons (by rw [Nat.zero_add]; exact rfl) (RelDs.cons h2 RelDs.nil)⟩
theorem zip_get {α β : Type} : ∀ (xs : List α) (ys : List β) (i : Nat), (xs.zip ys)[i]? = (match xs[i]?, ys[i]? with | some x, some y => some (x, y) | _, _ => none)
  | [], _, i => by simp
  | _ :: _, [], i => by
    simp only [List.zip_nil_right, List.getElem?_nil]
    split <;> first | rfl | (rename_i h; cases h)
  | x :: xs, y :: ys, 0 => rfl
  | x :: xs, y :: ys, i + 1 => by simpa using zip_get xs ys i
theorem gives_zipL {K : PySem.W.Frag} {ds es : List D} {vs ws : List V} {a b : Addr} (h : SqL K S a vs) (r : RelDs K S ι ds vs) (h' : SqL K S b ws) (r' : RelDs K S ι es ws) : Gives K S ι (Itz K a b) ((ds.zip es).map fun p => D.tup [p.1, p.2]) where
  go := fun i H s hi => by
    simp only [List.length_map, List.length_zip] at hi
    have h1 : i < vs.length := by rw [← r.length]; omega
    have h2 : i < ws.length := by rw [← r'.length]; omega
    exact ⟨vs, ws, vs[i], ws[i], s.seq h, s.seq h', List.getElem?_eq_getElem _, List.getElem?_eq_getElem _⟩
  stop := fun i H s hi => ⟨vs, ws, s.seq h, s.seq h', by
    simp only [List.length_map, List.length_zip] at hi
    rw [← r.length, ← r'.length]
    omega⟩
  yld := fun i H x H' d s e ⟨T, x', y', e1, e2, e3, q1, q2⟩ => by
    rw [List.getElem?_map, zip_get] at e
    cases e4 : ds[i]? with
    | none => rw [e4] at e; cases e
    | some y =>
      cases e5 : es[i]? with
      | none => rw [e4, e5] at e; cases e
      | some z =>
        rw [e4, e5] at e
        cases e
        obtain ⟨v, h1, h2⟩ := r.get e4
        obtain ⟨w, h3, h4⟩ := r'.get e5
        have a1 := q1 vs (s.seq h)
        have a2 := q2 ws (s.seq h')
        rw [h1] at a1
        rw [h3] at a2
        obtain rfl : v = x' := Option.some.inj a1
        obtain rfl : w = y' := Option.some.inj a2
        exact .inr ⟨T, [v, w], [y, z], e2, e3, e1, rfl, RelDs.cons h2 (RelDs.cons h4 RelDs.nil)⟩
theorem gives_zipT {K : PySem.W.Frag} {ds es : List D} {vs ws : List V} {a b : Addr} (h : SqT K S a vs) (r : RelDs K S ι ds vs) (h' : SqT K S b ws) (r' : RelDs K S ι es ws) : Gives K S ι (RZ.ItzT K a b) ((ds.zip es).map fun p => D.tup [p.1, p.2]) where
  go := fun i H s hi => by
    simp only [List.length_map, List.length_zip] at hi
    have h1 : i < vs.length := by rw [← r.length]; omega
    have h2 : i < ws.length := by rw [← r'.length]; omega
    exact ⟨vs, ws, vs[i], ws[i], Same.sqt s h, Same.sqt s h', List.getElem?_eq_getElem _, List.getElem?_eq_getElem _⟩
  stop := fun i H s hi => ⟨vs, ws, Same.sqt s h, Same.sqt s h', by
    simp only [List.length_map, List.length_zip] at hi
    rw [← r.length, ← r'.length]
    omega⟩
  yld := fun i H x H' d s e ⟨T, x', y', e1, e2, e3, q1, q2⟩ => by
    rw [List.getElem?_map, zip_get] at e
    cases e4 : ds[i]? with
    | none => rw [e4] at e; cases e
    | some y =>
      cases e5 : es[i]? with
      | none => rw [e4, e5] at e; cases e
      | some z =>
        rw [e4, e5] at e
        cases e
        obtain ⟨v, h1, h2⟩ := r.get e4
        obtain ⟨w, h3, h4⟩ := r'.get e5
        have a1 := q1 vs (Same.sqt s h)
        have a2 := q2 ws (Same.sqt s h')
        rw [h1] at a1
        rw [h3] at a2
        obtain rfl : v = x' := Option.some.inj a1
        obtain rfl : w = y' := Option.some.inj a2
        exact .inr ⟨T, [v, w], [y, z], e2, e3, e1, rfl, RelDs.cons h2 (RelDs.cons h4 RelDs.nil)⟩
theorem gives_str {K : PySem.W.Frag} (s : Str) : Gives K S ι (Its s) (s.cps.toList.map fun c => D.str ⟨#[c]⟩) where
  go := fun i H _ hi => by
    have h : i < s.cps.size := by simpa using hi
    exact h
  stop := fun i H _ hi => by
    have h : s.cps.size ≤ i := by simpa using hi
    exact h
  yld := fun i H x H' d _ e ⟨e2, c, q1, q2⟩ => by
    rw [List.getElem?_map, Array.getElem?_toList, q1] at e
    cases e
    exact .inl ⟨e2, q2⟩
theorem Gives.mono {K : PySem.W.Frag} {S' : Hp} {ι' : List Addr} {J : It} {items : List D} (g : Gives K S ι J items) (s : Same S S') (p : ι <+: ι') : Gives K S' ι' J items where
  go := fun i H q => g.go i H (s.trans q)
  stop := fun i H q => g.stop i H (s.trans q)
  yld := fun i H x H' d q e y => by
    rcases g.yld i H x H' d (s.trans q) e y with ⟨h1, h2⟩ | ⟨T, vs, ds, h1, h2, h3, h4, h5⟩
    · exact .inl ⟨h1, h2.mono s p⟩
    · exact .inr ⟨T, vs, ds, h1, h2, h3, h4, h5.mono s p⟩
/-- what is walked, by the evaluator's items -/
abbrev RelT2 := Hp → List Slot → L2.St → Hp → Hp → List Addr → List D → It → Prop
def relI (K : PySem.W.Frag) : RelT (List D) It := fun _ _ _ _ S ι items J => Gives K S ι J items
abbrev TIt (X : Cx) (cad : Nat → Addr) (W : WX) (m : M (List D)) : TI := tM (gc X cad) W (relI X.K) m
theorem pi_mono {tg iter : Expr} {w w' : TI} (h : PI X tg iter w) (m : ∀ σ H R, w' σ H R → w σ H R) : PI X tg iter w' := ⟨fun pins s σ H R I q => h.run pins s σ H R I (m _ _ _ q)⟩
variable {tg e : Expr} {p pos : Pos}
theorem small_of {i : Int} (h : small62 i = true) : -(2 ^ 62) ≤ i ∧ i < 2 ^ 62 := of_decide_eq_true h
theorem walk_of_ {ik : IK} {F : Hp} {ρ : List Slot} {η : List AO} {σ : L2.St} {H S : Hp} {ι : List Addr} {ds : List D} {R : It → Hp → Prop} {J : It}
    (r : Rel (gc X cad) F ρ η σ H S ι) (z : PostM (gc X cad) W (relI X.K) F σ R S ι (M.opt (walkD ik ds) ρ η)) (g : ∀ items, walkD ik ds = some items → Gives X.K S ι J items) : R J H := by
  unfold M.opt at z
  cases e : walkD ik ds with
  | none => rw [e] at z; exact z.elim
  | some items => rw [e] at z; exact z J H S ι r (fun _ _ q => q) (List.prefix_refl _) (g items e)
end
end Mp

/-! zip of any two: a list or a tuple each -/
namespace ZG
open PySem
section
variable {prog : Program} {w : World} {A : Around} {E : Value → Shared → Prop} {s : Shared} {t t1 t2 : Bool} {h h' : Heap} {c i a z TI TO i1 i2 l1 l2 : Addr} {k k1 k2 : Nat} {xs ys : Array Value} {x y u v : Value}
/-- an iterator of a tuple (t) or of a list, at place k of xs -/
def Itr (t : Bool) (h : Heap) (i a : Addr) (k : Nat) (xs : Array Value) : Prop := match t with
  | true => h.IsTupleIter i a k ∧ h.IsTuple a xs
  | false => h.IsListIter i a k ∧ h.IsList a xs
theorem Itr.ext (g : Itr t h i a k xs) (e : Heap.ExtBut c h h') (n1 : i ≠ c) (n2 : a ≠ c) : Itr t h' i a k xs := by
  cases t with
  | true => exact ⟨g.1.extBut e n1, g.2.extBut e n2⟩
  | false => exact ⟨g.1.extBut e n1, g.2.extBut e n2⟩
theorem nx_item {Q : Value → Shared → Prop} (g : Itr t s.heap i a k xs) (n : a ≠ i) (hx : xs[k]? = some x) (q : ∀ h', Itr t h' i a (k + 1) xs → Heap.SameBut i s.heap h' → Q x { s with heap := h' }) :
    wpAny (model prog w) A (Builtin.SmallTypes.nextOf (.ref i)) Q E s := by
  cases t with
  | true => exact RZ.nextOf_tuple_item g.1 g.2 hx fun h' r sb => q h' ⟨r, g.2.extBut sb.extBut n⟩ sb
  | false => exact wpAny_nextOf_list_item g.1 g.2 hx fun h' r sb => q h' ⟨r, g.2.extBut sb.extBut n⟩ sb
theorem nx_end {Q : Value → Shared → Prop} (hh : A.handled = none) (g : Itr t s.heap i a k xs) (hx : xs[k]? = none) (q : ∀ h' e, Heap.ExtBut i s.heap h' → (∃ o, h'.get? e = some o ∧ o.cls = .type "StopIteration") → E (.ref e) { s with heap := h' }) :
    wpAny (model prog w) A (Builtin.SmallTypes.nextOf (.ref i)) Q E s := by
  cases t with
  | true => exact RZ.nextOf_tuple_end hh g.1 g.2 hx q
  | false => exact wpAny_nextOf_list_end hh g.1 g.2 hx q
theorem zip_item {Q : Value → Shared → Prop} (D : ZipApart z TI TO i1 i2 l1 l2) (hz : IsZip s.heap z TI TO .none) (hTI : IsPair s.heap TI (.ref i1) (.ref i2)) (hTO : IsPair s.heap TO u v)
    (g1 : Itr t1 s.heap i1 l1 k1 xs) (g2 : Itr t2 s.heap i2 l2 k2 ys) (hx : xs[k1]? = some x) (hy : ys[k2]? = some y)
    (q : ∀ h', IsZip h' z TI TO (rawInt s.heap.objs.size) → IsPair h' TO x y → Itr t1 h' i1 l1 (k1 + 1) xs → Itr t2 h' i2 l2 (k2 + 1) ys → IsPair h' s.heap.objs.size x y → h'.objs.size = s.heap.objs.size + 1 →
      (∀ c o, c ≠ z → c ≠ TO → c ≠ i1 → c ≠ i2 → s.heap.get? c = some o → h'.get? c = some o) → Q (.ref s.heap.objs.size) { s with heap := h' }) :
    wpAny (model prog w) A (Builtin.«zip.__next__» ⟨[.ref z], []⟩) (fun fin s' => ∃ r, fin = .done (.ret r) ∧ Q r s') E s := by
  show wpAny _ _ (field (.ref z) 2 >>= _) _ _ _
  refine wpAny_bind (wpAny_field hz rfl (x := .bool false) rfl ?_)
  show wpAny _ _ (field (.ref z) 3 >>= _) _ _ _
  refine wpAny_bind (wpAny_field hz rfl (x := .ref TI) rfl (wpAny_bind (wpAny_seqItems hTI rfl ?_)))
  show wpAny _ _ (Builtin.SmallTypes.ownedTupleIsFree (.ref z) >>= _) _ _ _
  refine wpAny_bind ?_
  unfold Builtin.SmallTypes.ownedTupleIsFree
  refine wpAny_bind (wpAny_field hz rfl (x := .none) rfl (wpAny_pure ?_))
  simp only [if_true]
  refine wpAny_bind (wpAny_rule (wpAny_bind (wpAny_field hz rfl (x := .ref TO) rfl ?_)))
  refine wpAny_bind (wpAny_setField_rec hz (by simp) fun ha za sa => ?_)
  replace za : IsZip ha z TI TO .ellipsis := za
  refine wpAny_bind ?_
  simp only [List.zipIdx_cons, List.zipIdx_nil, List.forIn_cons, List.forIn_nil]
  -- the first part
  refine wpAny_bind (wpAny_bind (wpAny_onRaise ?_))
  show wpAny _ _ (Builtin.SmallTypes.nextOf (.ref i1) >>= _) _ _ _
  refine wpAny_bind (nx_item (g1.ext sa.extBut D.i1z D.l1z) D.l1i1 hx fun hb b1 sb => wpAny_pure ?_)
  have Tb : IsPair hb TO u v := sb.extBut _ _ D.TOi1 (sa.extBut _ _ D.TOz hTO)
  refine wpAny_bind (wpAny_seqItems Tb rfl (wpAny_bind (wpAny_updateSeq_pair Tb fun hc Tc sc => ?_)))
  replace Tc : IsPair hc TO x v := Tc
  refine wpAny_bind (wpAny_letGo (wpAny_pure ?_))
  -- the second part
  refine wpAny_bind (wpAny_bind (wpAny_onRaise ?_))
  show wpAny _ _ (Builtin.SmallTypes.nextOf (.ref i2) >>= _) _ _ _
  refine wpAny_bind (nx_item (((g2.ext sa.extBut D.i2z D.l2z).ext sb.extBut D.i12.symm D.l2i1).ext sc.extBut D.TOi2.symm D.l2TO) D.l2i2 hy fun hd d2 sd => wpAny_pure ?_)
  have Td : IsPair hd TO x v := sd.extBut _ _ D.TOi2 Tc
  refine wpAny_bind (wpAny_seqItems Td rfl (wpAny_bind (wpAny_updateSeq_pair Td fun he Te se => ?_)))
  replace Te : IsPair he TO x y := Te
  refine wpAny_bind (wpAny_letGo (wpAny_pure (wpAny_pure ?_)))
  refine wpAny_bind (wpAny_seqItems Te rfl (wpAny_bind (wpAny_newTuple ?_)))
  have sz : he.objs.size = s.heap.objs.size := by rw [se.1, sd.1, sc.1, sb.1, sa.1]
  have ze : IsZip he z TI TO .ellipsis := se.extBut _ _ D.TOz.symm (sd.extBut _ _ D.i2z.symm (sc.extBut _ _ D.TOz.symm (sb.extBut _ _ D.i1z.symm za)))
  have old : ∀ c o, c ≠ z → c ≠ TO → c ≠ i1 → c ≠ i2 → s.heap.get? c = some o → he.get? c = some o := fun c o n1 n2 n3 n4 e => se.extBut _ _ n2 (sd.extBut _ _ n4 (sc.extBut _ _ n2 (sb.extBut _ _ n3 (sa.extBut _ _ n1 e))))
  have e1 : Itr t1 he i1 l1 (k1 + 1) xs := ((b1.ext sc.extBut D.TOi1.symm D.l1TO).ext sd.extBut D.i12 D.l1i2).ext se.extBut D.TOi1.symm D.l1TO
  have e2 : Itr t2 he i2 l2 (k2 + 1) ys := d2.ext se.extBut D.TOi2.symm D.l2TO
  have zl : z < he.objs.size := Heap.lt_size ze
  show wpAny _ _ (Builtin.SmallTypes.ownedTupleHandOut (.ref z) (.ref he.objs.size) >>= _) _ _ _
  refine wpAny_bind ?_
  unfold Builtin.SmallTypes.ownedTupleHandOut
  have zf : IsZip (he.push { cls := .type "tuple", data := .seq #[x, y] }) z TI TO .ellipsis := Heap.get?_push_of_some _ ze
  refine wpAny_bind (wpAny_setField_rec zf (by simp) fun hg zg sg => ?_)
  replace zg : IsZip hg z TI TO (rawInt he.objs.size) := zg
  refine wpAny_setField_rec zg (by simp) fun hk zk sk => ?_
  replace zk : IsZip hk z TI TO (rawInt he.objs.size) := zk
  have pe : Heap.ExtBut z he hk := fun c o n e => sk.extBut _ _ n (sg.extBut _ _ n (Heap.get?_push_of_some _ e))
  have Tk : IsPair hk he.objs.size x y := sk.extBut _ _ (Nat.ne_of_gt zl) (sg.extBut _ _ (Nat.ne_of_gt zl) (Heap.get?_push_size _ rfl))
  have nk : hk.objs.size = he.objs.size + 1 := by rw [sk.1, sg.1, Heap.size_push]
  rw [sz] at zk Tk nk
  refine wpAny_pure ⟨_, rfl, ?_⟩
  show Q (.ref he.objs.size) _
  rw [sz]
  exact q hk zk (pe _ _ D.TOz Te) (e1.ext pe D.i1z D.l1z) (e2.ext pe D.i2z D.l2z) Tk nk fun c o n1 n2 n3 n4 e => pe _ _ n1 (old c o n1 n2 n3 n4 e)
theorem zip_stop {Q : Fin → Shared → Prop} (hh : A.handled = none) (D : ZipApart z TI TO i1 i2 l1 l2) (hz : IsZip s.heap z TI TO .none) (hTI : IsPair s.heap TI (.ref i1) (.ref i2)) (hTO : IsPair s.heap TO u v)
    (g1 : Itr t1 s.heap i1 l1 k1 xs) (g2 : Itr t2 s.heap i2 l2 k2 ys) (he : xs[k1]? = none ∨ ys[k2]? = none)
    (q : ∀ h' e, (∀ c o, c ≠ z → c ≠ TO → c ≠ i1 → c ≠ i2 → s.heap.get? c = some o → h'.get? c = some o) → (∃ o, h'.get? e = some o ∧ o.cls = .type "StopIteration") → E (.ref e) { s with heap := h' }) :
    wpAny (model prog w) A (Builtin.«zip.__next__» ⟨[.ref z], []⟩) Q E s := by
  show wpAny _ _ (field (.ref z) 2 >>= _) _ _ _
  refine wpAny_bind (wpAny_field hz rfl (x := .bool false) rfl ?_)
  show wpAny _ _ (field (.ref z) 3 >>= _) _ _ _
  refine wpAny_bind (wpAny_field hz rfl (x := .ref TI) rfl (wpAny_bind (wpAny_seqItems hTI rfl ?_)))
  show wpAny _ _ (Builtin.SmallTypes.ownedTupleIsFree (.ref z) >>= _) _ _ _
  refine wpAny_bind ?_
  unfold Builtin.SmallTypes.ownedTupleIsFree
  refine wpAny_bind (wpAny_field hz rfl (x := .none) rfl (wpAny_pure ?_))
  simp only [if_true]
  refine wpAny_bind (wpAny_rule (wpAny_bind (wpAny_field hz rfl (x := .ref TO) rfl ?_)))
  refine wpAny_bind (wpAny_setField_rec hz (by simp) fun ha za sa => ?_)
  replace za : IsZip ha z TI TO .ellipsis := za
  refine wpAny_bind ?_
  simp only [List.zipIdx_cons, List.zipIdx_nil, List.forIn_cons, List.forIn_nil]
  refine wpAny_bind (wpAny_bind (wpAny_onRaise ?_))
  show wpAny _ _ (Builtin.SmallTypes.nextOf (.ref i1) >>= _) _ _ _
  -- an exception is no zip
  have apart : ∀ {hb : Heap} {e : Addr} {oe : Obj}, IsZip hb z TI TO .ellipsis → hb.get? e = some oe → oe.cls = .type "StopIteration" → e ≠ z := fun zb q1 q2 e => by
    subst e
    rw [zb] at q1
    cases q1
    simp at q2
  cases hx : xs[k1]? with
  | none =>
    refine wpAny_bind (nx_end hh (g1.ext sa.extBut D.i1z D.l1z) hx fun hb e sb ⟨oe, e1, e2⟩ => ?_)
    have zb : IsZip hb z TI TO .ellipsis := sb _ _ D.i1z.symm za
    refine wpAny_setField_rec zb (by simp) fun hc _ sc => q hc e (fun c o n1 _ n3 _ x => sc.extBut _ _ n1 (sb _ _ n3 (sa.extBut _ _ n1 x))) ⟨oe, sc.extBut _ _ (apart zb e1 e2) e1, e2⟩
  | some x =>
    have hy : ys[k2]? = none := he.resolve_left (by rw [hx]; simp)
    refine wpAny_bind (nx_item (g1.ext sa.extBut D.i1z D.l1z) D.l1i1 hx fun hb b1 sb => wpAny_pure ?_)
    have Tb : IsPair hb TO u v := sb.extBut _ _ D.TOi1 (sa.extBut _ _ D.TOz hTO)
    refine wpAny_bind (wpAny_seqItems Tb rfl (wpAny_bind (wpAny_updateSeq_pair Tb fun hc Tc sc => ?_)))
    refine wpAny_bind (wpAny_letGo (wpAny_pure ?_))
    refine wpAny_bind (wpAny_bind (wpAny_onRaise ?_))
    show wpAny _ _ (Builtin.SmallTypes.nextOf (.ref i2) >>= _) _ _ _
    refine wpAny_bind (nx_end hh (((g2.ext sa.extBut D.i2z D.l2z).ext sb.extBut D.i12.symm D.l2i1).ext sc.extBut D.TOi2.symm D.l2TO) hy fun hd e sd ⟨oe, e1, e2⟩ => ?_)
    have zd : IsZip hd z TI TO .ellipsis := sd _ _ D.i2z.symm (sc.extBut _ _ D.TOz.symm (sb.extBut _ _ D.i1z.symm za))
    refine wpAny_setField_rec zd (by simp) fun hf _ sf => q hf e (fun c o n1 n2 n3 n4 x => sf.extBut _ _ n1 (sd _ _ n4 (sc.extBut _ _ n2 (sb.extBut _ _ n3 (sa.extBut _ _ n1 x))))) ⟨oe, sf.extBut _ _ (apart zd e1 e2) e1, e2⟩
theorem next_item {Q : Option Value → Shared → Prop} (D : ZipApart z TI TO i1 i2 l1 l2) (hz : IsZip s.heap z TI TO .none) (hTI : IsPair s.heap TI (.ref i1) (.ref i2)) (hTO : IsPair s.heap TO u v)
    (g1 : Itr t1 s.heap i1 l1 k1 xs) (g2 : Itr t2 s.heap i2 l2 k2 ys) (hx : xs[k1]? = some x) (hy : ys[k2]? = some y)
    (q : ∀ h', IsZip h' z TI TO (rawInt s.heap.objs.size) → IsPair h' TO x y → Itr t1 h' i1 l1 (k1 + 1) xs → Itr t2 h' i2 l2 (k2 + 1) ys → IsPair h' s.heap.objs.size x y → h'.objs.size = s.heap.objs.size + 1 →
      (∀ c o, c ≠ z → c ≠ TO → c ≠ i1 → c ≠ i2 → s.heap.get? c = some o → h'.get? c = some o) → Q (some (.ref s.heap.objs.size)) { s with heap := h' }) : wpAny (model prog w) A (pyNext (.ref z)) Q E s := by
  have T : s.TypeIs (.ref z) "zip" := ⟨_, hz, rfl⟩
  unfold pyNext
  refine wpAny_bind (wpAny_attempt (wpAny_callSpecial?_slot (name := Str.ofString "__next__") T F.slot_zip_next (wpAny_call_entry F.slot_zip_next T F.entry_zip_next ?_ (F.args_zip_next_1 _))))
  exact zip_item D hz hTI hTO g1 g2 hx hy fun h' a1 a2 a3 a4 a5 a6 a7 => wpAny_pure (q h' a1 a2 a3 a4 a5 a6 a7)
theorem next_stop {Q : Option Value → Shared → Prop} (hh : A.handled = none) (D : ZipApart z TI TO i1 i2 l1 l2) (hz : IsZip s.heap z TI TO .none) (hTI : IsPair s.heap TI (.ref i1) (.ref i2)) (hTO : IsPair s.heap TO u v)
    (g1 : Itr t1 s.heap i1 l1 k1 xs) (g2 : Itr t2 s.heap i2 l2 k2 ys) (he : xs[k1]? = none ∨ ys[k2]? = none)
    (q : ∀ h', (∀ c o, c ≠ z → c ≠ TO → c ≠ i1 → c ≠ i2 → s.heap.get? c = some o → h'.get? c = some o) → Q none { s with heap := h' }) : wpAny (model prog w) A (pyNext (.ref z)) Q E s := by
  have T : s.TypeIs (.ref z) "zip" := ⟨_, hz, rfl⟩
  unfold pyNext
  refine wpAny_bind (wpAny_attempt (wpAny_callSpecial?_slot (name := Str.ofString "__next__") T F.slot_zip_next (wpAny_call_entry F.slot_zip_next T F.entry_zip_next ?_ (F.args_zip_next_1 _))))
  refine zip_stop hh D hz hTI hTO g1 g2 he fun h' e hk ⟨o, ho, hc⟩ => ?_
  exact wpAny_bind (wpAny_isInstance (T := "StopIteration") (b := true) ⟨o, ho, hc⟩ isSubtype_stop (wpAny_pure (q _ hk)))
end
/-- zip(a tuple, a list), made -/
def itO (t : Bool) (a : Addr) : Obj := { cls := .type (if t then "tuple_iterator" else "list_iterator"), data := .fields #[.ref a, .int 0 0] }
def zh2 (h : Heap) (t1 t2 : Bool) (l1 l2 : Addr) : Heap := (h.push (itO t1 l1)).push (itO t2 l2)
def zh4 (h : Heap) (t1 t2 : Bool) (l1 l2 : Addr) : Heap := ((zh2 h t1 t2 l1 l2).push { cls := .type "tuple", data := .seq #[.ref h.objs.size, .ref (h.push (itO t1 l1)).objs.size] }).push { cls := .type "tuple", data := .seq #[.none, .none] }
def zh5 (h : Heap) (t1 t2 : Bool) (l1 l2 : Addr) : Heap := (zh4 h t1 t2 l1 l2).push { cls := .type "zip", data := .fields #[.none, .bool false, .bool false, .ref (zh2 h t1 t2 l1 l2).objs.size, .ref ((zh2 h t1 t2 l1 l2).push { cls := .type "tuple", data := .seq #[.ref h.objs.size, .ref (h.push (itO t1 l1)).objs.size] }).objs.size] }
theorem new_TL (l1 l2 : Addr) (xs ys : Array Value) : Meets (Builtin.«zip.__new__» ⟨[.type "zip", .ref l1, .ref l2], []⟩) (fun _ R s => s.heap.IsTuple l1 xs ∧ s.heap.IsList l2 ys ∧
      R (.ok (.ret (.ref (zh4 s.heap true false l1 l2).objs.size))) { s with heap := zh5 s.heap true false l1 l2 }) :=
  .of_wp fun prog w A R s q => by
    obtain ⟨hp, g, d, tk, os⟩ := s
    obtain ⟨h1, h2, q⟩ := q
    have subZ := sub_zip
    have w1 : Heap.IsTuple (Shared.heap ⟨hp, g, d, tk, os⟩) l1 xs := h1
    have w2 : Heap.IsList (Shared.heap ⟨hp.push { cls := .type "tuple_iterator", data := .fields #[.ref l1, .int 0 0] }, g, d, tk, os⟩) l2 ys := Heap.IsList.push h2 _
    wp_walk using wpAny_pyIter_tuple w1, wpAny_pyIter_list w2
    exact ⟨_, rfl, q⟩
section
variable {prog : Program} {w : World} {A : Around} {E : Value → Shared → Prop} {s : Shared}
theorem call_TL {l1 l2 : Addr} {xs ys : Array Value} {Q : Value → Shared → Prop} (h1 : s.heap.IsTuple l1 xs) (h2 : s.heap.IsList l2 ys)
    (q : ∀ h', IsZip h' (s.heap.objs.size + 4) (s.heap.objs.size + 2) (s.heap.objs.size + 3) .none → IsPair h' (s.heap.objs.size + 2) (.ref s.heap.objs.size) (.ref (s.heap.objs.size + 1)) → IsPair h' (s.heap.objs.size + 3) .none .none →
      h'.IsTupleIter s.heap.objs.size l1 0 → h'.IsListIter (s.heap.objs.size + 1) l2 0 → (∀ c o, s.heap.get? c = some o → h'.get? c = some o) → Q (.ref (s.heap.objs.size + 4)) { s with heap := h' }) :
    wpAny (model prog w) A (call (.type "zip") [.ref l1, .ref l2]) Q E s := by
  refine callType_new F.called_zip (by decide) (F.typeCall_zip_2 _ _) (F.newCall_zip_2 _ _) (fun obj => F.args_object_init_3 obj _ _) F.entry_zip_new (new_TL l1 l2 xs ys) ⟨h1, h2, ?_⟩
  have up : ∀ {h : Heap} {o o' : Obj} {c : Addr}, h.get? c = some o → (h.push o').get? c = some o := fun e => Heap.get?_push_of_some _ e
  have n1 : (s.heap.push (itO true l1)).objs.size = s.heap.objs.size + 1 := Heap.size_push ..
  have n2 : (zh2 s.heap true false l1 l2).objs.size = s.heap.objs.size + 2 := by
    unfold zh2
    rw [Heap.size_push, n1]
  have n4 : (zh4 s.heap true false l1 l2).objs.size = s.heap.objs.size + 4 := by
    unfold zh4
    rw [Heap.size_push, Heap.size_push, n2]
  have k5 : (zh5 s.heap true false l1 l2).get? (s.heap.objs.size + 4) = some { cls := .type "zip", data := .fields #[.none, .bool false, .bool false, .ref (zh2 s.heap true false l1 l2).objs.size, .ref ((zh2 s.heap true false l1 l2).push { cls := .type "tuple", data := .seq #[.ref s.heap.objs.size, .ref (s.heap.push (itO true l1)).objs.size] }).objs.size] } := by
    rw [← n4]
    exact Heap.get?_push_size _ rfl
  have k4 : (zh5 s.heap true false l1 l2).get? (s.heap.objs.size + 3) = some { cls := .type "tuple", data := .seq #[.none, .none] } := by
    refine up (h := zh4 s.heap true false l1 l2) ?_
    rw [show s.heap.objs.size + 3 = ((zh2 s.heap true false l1 l2).push { cls := .type "tuple", data := .seq #[.ref s.heap.objs.size, .ref (s.heap.push (itO true l1)).objs.size] }).objs.size from by rw [Heap.size_push, n2]]
    exact Heap.get?_push_size _ rfl
  have k3 : (zh5 s.heap true false l1 l2).get? (s.heap.objs.size + 2) = some { cls := .type "tuple", data := .seq #[.ref s.heap.objs.size, .ref (s.heap.push (itO true l1)).objs.size] } := by
    rw [← n2]
    exact up (up (Heap.get?_push_size _ rfl))
  have k2 : (zh5 s.heap true false l1 l2).get? (s.heap.objs.size + 1) = some (itO false l2) := by
    rw [← n1]
    exact up (up (up (Heap.get?_push_size _ rfl)))
  have k1 : (zh5 s.heap true false l1 l2).get? s.heap.objs.size = some (itO true l1) := up (up (up (up (Heap.get?_push_size _ rfl))))
  rw [n1] at k3
  have n3 : ((zh2 s.heap true false l1 l2).push { cls := .type "tuple", data := .seq #[.ref s.heap.objs.size, .ref (s.heap.push (itO true l1)).objs.size] }).objs.size = s.heap.objs.size + 3 := by rw [Heap.size_push, n2]
  rw [n2, n3] at k5
  show _ ∧ _
  rw [n4]
  exact ⟨⟨_, k5, rfl⟩, q _ k5 k3 k4 ⟨_, k1, rfl, rfl⟩ ⟨_, k2, rfl, rfl⟩ fun c o e => up (up (up (up (up e))))⟩
end
end ZG
namespace Mp
open PySem L2
open PyProof.Rows hiding St
/-- a tuple's and a list's items in pairs -/
def ItzM (K : PySem.W.Frag) (a b : Addr) : It :=
  ⟨fun i H => ∃ (xs ys : List V) (x y : V), SqT K H a xs ∧ SqL K H b ys ∧ xs[i]? = some x ∧ ys[i]? = some y,
   fun i H v H' => ∃ T x y, v = .ref T ∧ H T = none ∧ H' = upd H T (.tup [x, y]) ∧ (∀ xs, SqT K H a xs → xs[i]? = some x) ∧ ∀ ys, SqL K H b ys → ys[i]? = some y,
   fun i H => ∃ xs ys : List V, SqT K H a xs ∧ SqL K H b ys ∧ (xs.length ≤ i ∨ ys.length ≤ i)⟩
theorem turn_zipM {P : Program} {w : World} {K : PySem.W.Frag} {elts : List Expr} {kk : Nat} {tpos : Pos} {a b z TI TO i1 i2 : Addr} (D : ZipApart z TI TO i1 i2 a b) :
    Turn P w K (.Tuple elts kk tpos) (ItzM K a b) [z, TI, TO, i1, i2] z (fun i h => IsZip h z TI TO .none ∧ IsPair h TI (.ref i1) (.ref i2) ∧ (∃ x y, IsPair h TO x y) ∧ h.IsTupleIter i1 a i ∧ h.IsListIter i2 b i) where
  mem := by simp
  obj := fun i h st c hc => by
    obtain ⟨hz, hTI, ⟨x, y, hTO⟩, ⟨o1, e1, _, d1⟩, o2, e2, _, d2⟩ := st
    simp only [List.mem_cons, List.not_mem_nil, or_false] at hc
    rcases hc with rfl | rfl | rfl | rfl | rfl
    · exact ⟨_, hz, fun v q => nomatch q⟩
    · exact ⟨_, hTI, fun v q => nomatch q⟩
    · exact ⟨_, hTO, fun v q => nomatch q⟩
    · exact ⟨o1, e1, fun v q => by rw [d1] at q; cases q⟩
    · exact ⟨o2, e2, fun v q => by rw [d2] at q; cases q⟩
  keep := fun i h h' ⟨hz, hTI, ⟨x, y, hTO⟩, h1, h2⟩ kp =>
    ⟨kp z (by simp) _ hz, kp TI (by simp) _ hTI, ⟨x, y, kp TO (by simp) _ hTO⟩, h1.at fun o q => kp i1 (by simp) o q, h2.at fun o q => kp i2 (by simp) o q⟩
  item := by
    intro X hP hw hK hc i pins s σ H E I hf ⟨hz, hTI, ⟨x0, y0, hTO⟩, h1, h2⟩ ⟨xs, ys, x, y, qx, qy, hx, hy⟩
    subst hP hw hK
    obtain ⟨its, rv, p1, _⟩ := I.tuple qx
    obtain ⟨jts, rw_, p2, _⟩ := I.list qy
    obtain ⟨u, hu, ru⟩ := rv.get hx
    obtain ⟨v, hv, rv_⟩ := rw_.get hy
    have zl : z < s.heap.objs.size := Heap.lt_size hz
    refine ZG.next_item (t1 := true) (t2 := false) D hz hTI hTO ⟨h1, p1⟩ ⟨h2, p2.isList⟩ (x := u) (y := v) (by simpa using hu) (by simpa using hv) fun h' z' TO' g1 g2 hT hsz hk => ?_
    refine ⟨_, rfl, wpAny_letOwnedTupleGo_zip (s := { s with heap := h' }) z' fun h2' z2 sb => ?_⟩
    have T2 : h2'.get? s.heap.objs.size = some { cls := .type "tuple", data := .seq #[u, v] } := (sb.2 _ (Nat.ne_of_gt zl)).trans hT
    have new : ObjOk X.prog X.w (upd H s.heap.objs.size (.tup [x, y])) h2' s.heap.objs.size (.tup [x, y]) := ⟨by show 2 ≤ sizeLine; decide, [u, v], .cons ru (.cons rv_ .nil), _, T2, rfl, _, rfl⟩
    have out : ∀ {c : Addr}, c ∉ [z, TI, TO, i1, i2] → c ≠ z ∧ c ≠ TO ∧ c ≠ i1 ∧ c ≠ i2 := fun {c} n => by
      simp only [List.mem_cons, List.not_mem_nil, or_false, not_or] at n
      exact ⟨n.1, n.2.2.1, n.2.2.2.1, n.2.2.2.2⟩
    have I1 : Inv X pins σ (upd H s.heap.objs.size (.tup [x, y])) { s with heap := h2' } :=
      I.turnedNew (t' := s.toks) (ch := [z, TI, TO, i1, i2]) (fun c o hb q => (sb.2 c (out hb).1).trans (hk c o (out hb).1 (out hb).2.1 (out hb).2.2.1 (out hb).2.2.2 q)) hf (Nat.le_refl _) new
    refine ⟨.ref s.heap.objs.size, _, I1, rfl, ⟨_, x, y, rfl, I.hok.fresh (Nat.le_refl _), rfl, fun l hl => by rw [I.tuple_inj hl qx]; exact hx, fun l hl => by rw [I.list_inj hl qy]; exact hy⟩, ⟨z2, ?_, ⟨u, v, ?_⟩, ?_, ?_⟩, fun c hcm => ?_⟩
    · exact (sb.2 _ D.TIz).trans (hk _ _ D.TIz D.TITO D.TIi1 D.TIi2 hTI)
    · exact (sb.2 _ D.TOz).trans TO'
    · exact g1.1.at fun o q => (sb.2 _ D.i1z).trans q
    · exact g2.1.at fun o q => (sb.2 _ D.i2z).trans q
    · have lt : c < s.heap.objs.size := by
        simp only [List.mem_cons, List.not_mem_nil, or_false] at hcm
        rcases hcm with rfl | rfl | rfl | rfl | rfl
        · exact zl
        · exact Heap.lt_size hTI
        · exact Heap.lt_size hTO
        · obtain ⟨_, e1, _⟩ := h1; exact Heap.lt_size e1
        · obtain ⟨_, e2, _⟩ := h2; exact Heap.lt_size e2
      rw [upd_ne (Nat.ne_of_lt lt)]
      exact (hf c hcm).1
  done := by
    intro X hP hw hK hc i pins s σ H E I hf ⟨hz, hTI, ⟨x0, y0, hTO⟩, h1, h2⟩ ⟨xs, ys, qx, qy, hend⟩
    subst hP hw hK
    obtain ⟨its, rv, p1, _⟩ := I.tuple qx
    obtain ⟨jts, rw_, p2, _⟩ := I.list qy
    have l1 := rv.length
    have l2 := rw_.length
    have he : its.toArray[i]? = none ∨ jts.toArray[i]? = none := by
      rcases hend with q | q
      · exact .inl (by simp; omega)
      · exact .inr (by simp; omega)
    have out : ∀ {c : Addr}, c ∉ [z, TI, TO, i1, i2] → c ≠ z ∧ c ≠ TO ∧ c ≠ i1 ∧ c ≠ i2 := fun {c} n => by
      simp only [List.mem_cons, List.not_mem_nil, or_false, not_or] at n
      exact ⟨n.1, n.2.2.1, n.2.2.2.1, n.2.2.2.2⟩
    exact ZG.next_stop (t1 := true) (t2 := false) (I.ok.hd hc) D hz hTI hTO ⟨h1, p1⟩ ⟨h2, p2.isList⟩ he fun h' hk => ⟨rfl, I.turnedL (t' := s.toks) (ch := [z, TI, TO, i1, i2]) (fun c o hb q => hk c o (out hb).1 (out hb).2.1 (out hb).2.2.1 (out hb).2.2.2 q) hf⟩
  self := fun A i s Q E st q => wpAny_pyIter_zip st.1 q
/-- two of a kind, or a tuple and a list -/
def iZipB (K : PySem.W.Frag) (ta : TA) : TI := fun σ H R => ta σ H fun vs H1 => ∃ a b xs ys, vs = [.ref a, .ref b] ∧ ((SqL K H1 a xs ∧ SqL K H1 b ys ∧ R (Itz K a b) H1) ∨ (SqT K H1 a xs ∧ SqT K H1 b ys ∧ R (RZ.ItzT K a b) H1) ∨ (SqT K H1 a xs ∧ SqL K H1 b ys ∧ R (ItzM K a b) H1))
theorem pi_zipB {X : Cx} {e e2 : Expr} {ta : TA} {p pos tpos : Pos} {elts : List Expr} {kk : Nat} (hg : Gl X "zip") (hm : X.mg "zip" = none) (ha : PA X [e, e2] ta) (hs : starEach [e, e2] X.env = (false, eval e X.env) :: starEach [e2] X.env) (hpl : (backTo pos (starEach [e2] X.env)).any (·.1) = false) :
    PI X (.Tuple elts kk tpos) (.Call (.Name "zip" p) [e, e2] [] pos) (iZipB X.K ta) := by
  refine ⟨fun pins s σ H R I h => Call_ (ld_blt I hg hm PyProof.Rows.boot_zip (PyProof.Rows.callWith_type1 (thn (ha.run pos pins s σ H _ I h) fun us s1 ⟨vs, H1, I1, r1, a, b, xs, ys, ex, q1⟩ => ?_) hs hpl))⟩
  subst ex
  obtain ⟨ua, ub, rfl, ra, rb⟩ : ∃ ua ub, us = [ua, ub] ∧ RelV (.ref a) ua ∧ RelV (.ref b) ub := by
    cases r1 with
    | cons r rr =>
      cases rr with
      | cons r' rr =>
        cases rr
        exact ⟨_, _, rfl, r, r'⟩
  cases ra
  cases rb
  have fresh : ∀ c, c ∈ [s1.heap.objs.size + 4, s1.heap.objs.size + 2, s1.heap.objs.size + 3, s1.heap.objs.size, s1.heap.objs.size + 1] → FpOk X pins H1 c := fun c hc => by
    have le : s1.heap.objs.size ≤ c := by
      simp only [List.mem_cons, List.not_mem_nil, or_false] at hc
      omega
    exact I1.fpOk le (I1.hok.fresh le)
  rcases q1 with ⟨qx, qy, q⟩ | ⟨qx, qy, q⟩ | ⟨qx, qy, q⟩
  · obtain ⟨its, rv, p1, _⟩ := I1.list qx
    obtain ⟨jts, rw_, p2, _⟩ := I1.list qy
    refine call_zip_2 p1.isList p2.isList fun h' hz hTI hTO h1 h2 _ hk => wpAny_pyIter_zip hz ?_
    exact ⟨_, _, _, _, H1, rfl, I1.kept (t' := s1.toks) hk, turn_zip (PySem.W.ktu_apart s1.heap.objs.size a b p1.lt p2.lt), ⟨hz, hTI, ⟨_, _, hTO⟩, h1, h2⟩, fresh, q⟩
  · obtain ⟨its, rv, p1, _⟩ := I1.tuple qx
    obtain ⟨jts, rw_, p2, _⟩ := I1.tuple qy
    obtain ⟨o1, e1, _⟩ := id p1
    obtain ⟨o2, e2, _⟩ := id p2
    refine RZ.call_zipT (show s1.heap.IsTuple a its.toArray from p1) (show s1.heap.IsTuple b jts.toArray from p2) fun h' hz hTI hTO h1 h2 _ hk => wpAny_pyIter_zip hz ?_
    exact ⟨_, _, _, _, H1, rfl, I1.kept (t' := s1.toks) hk, RZ.turn_zipT (PySem.W.ktu_apart s1.heap.objs.size a b (Heap.lt_size e1) (Heap.lt_size e2)), ⟨hz, hTI, ⟨_, _, hTO⟩, h1, h2⟩, fresh, q⟩
  · obtain ⟨its, rv, p1, _⟩ := I1.tuple qx
    obtain ⟨jts, rw_, p2, _⟩ := I1.list qy
    obtain ⟨o1, e1, _⟩ := id p1
    refine ZG.call_TL (show s1.heap.IsTuple a its.toArray from p1) p2.isList fun h' hz hTI hTO h1 h2 hk => wpAny_pyIter_zip hz ?_
    exact ⟨_, _, _, _, H1, rfl, I1.kept (t' := s1.toks) hk, turn_zipM (PySem.W.ktu_apart s1.heap.objs.size a b (Heap.lt_size e1) p2.lt), ⟨hz, hTI, ⟨_, _, hTO⟩, h1, h2⟩, fresh, q⟩
theorem gives_zipM {K : PySem.W.Frag} {S : Hp} {ι : List Addr} {ds es : List D} {vs ws : List V} {a b : Addr} (h : SqT K S a vs) (r : RelDs K S ι ds vs) (h' : SqL K S b ws) (r' : RelDs K S ι es ws) : Gives K S ι (ItzM K a b) ((ds.zip es).map fun p => D.tup [p.1, p.2]) where
  go := fun i H s hi => by
    simp only [List.length_map, List.length_zip] at hi
    have h1 : i < vs.length := by rw [← r.length]; omega
    have h2 : i < ws.length := by rw [← r'.length]; omega
    exact ⟨vs, ws, vs[i], ws[i], Same.sqt s h, s.seq h', List.getElem?_eq_getElem _, List.getElem?_eq_getElem _⟩
  stop := fun i H s hi => ⟨vs, ws, Same.sqt s h, s.seq h', by
    simp only [List.length_map, List.length_zip] at hi
    rw [← r.length, ← r'.length]
    omega⟩
  yld := fun i H x H' d s e ⟨T, x', y', e1, e2, e3, q1, q2⟩ => by
    rw [List.getElem?_map, zip_get] at e
    cases e4 : ds[i]? with
    | none => rw [e4] at e; cases e
    | some y =>
      cases e5 : es[i]? with
      | none => rw [e4, e5] at e; cases e
      | some z =>
        rw [e4, e5] at e
        cases e
        obtain ⟨v, h1, h2⟩ := r.get e4
        obtain ⟨w, h3, h4⟩ := r'.get e5
        have a1 := q1 vs (Same.sqt s h)
        have a2 := q2 ws (s.seq h')
        rw [h1] at a1
        rw [h3] at a2
        obtain rfl : v = x' := Option.some.inj a1
        obtain rfl : w = y' := Option.some.inj a2
        exact .inr ⟨T, [v, w], [y, z], e2, e3, e1, rfl, RelDs.cons h2 (RelDs.cons h4 RelDs.nil)⟩
end Mp

/-! the evaluator is right: what a for walks, comprehensions -/
namespace Mp
open PySem L2 PySem.Spec
open PyProof.Rows hiding St

section
variable {X : Cx} {cad : Nat → Addr} {W : WX}
variable {tg e : Expr} {p pos : Pos}
/-- a list or a tuple that stands still -/
def iSeq (K : PySem.W.Frag) (tl : TE) : TI := fun σ H R => tl σ H fun x H1 => (∃ a, x = .ref a ∧ (((∃ xs, SqL K H1 a xs) ∧ R (Itl K a) H1) ∨ ((∃ xs, SqT K H1 a xs) ∧ R (Itt K a) H1))) ∨ ∃ y, x = .str y ∧ R (Its y) H1
theorem pi_seq {l : Expr} {tl : TE} (hl : PE X l tl) : PI X tg l (iSeq X.K tl) := by
  refine ⟨fun pins s σ H R I h => ?_⟩
  refine thn (hl.run pins s σ H _ I h) fun v s1 ⟨x, H1, I1, r1, q⟩ => ?_
  rcases q with ⟨a, e, q⟩ | ⟨y, e, q⟩
  case inr =>
    subst e
    obtain ⟨t, rfl⟩ := r1
    cases ha : y.cps.all (· < 128)
    · exact wpAny_pyIter_wide ha (pi_one (tk := s1.toks) I1 _ (turn_str _ y t "str_iterator" (.inr rfl)) ⟨_, Heap.get?_push_size _ rfl, rfl, rfl⟩ q)
    · exact wpAny_pyIter_ascii ha (pi_one (tk := s1.toks) I1 _ (turn_str _ y t "str_ascii_iterator" (.inl rfl)) ⟨_, Heap.get?_push_size _ rfl, rfl, rfl⟩ q)
  subst e
  cases r1
  have fr : ∀ b, b ∈ [s1.heap.objs.size] → FpOk X pins H1 b := fun b hb => by
    have e : b = s1.heap.objs.size := by simpa using hb
    subst e
    exact I1.fpOk (Nat.le_refl _) (I1.hok.fresh (Nat.le_refl _))
  rcases q with ⟨⟨xs, hq⟩, q⟩ | ⟨⟨xs, hq⟩, q⟩
  · obtain ⟨its, rv, p, hz⟩ := I1.list hq
    refine PySem.wpAny_pyIter_list p.isList ?_
    exact ⟨s1.heap.objs.size, [s1.heap.objs.size], _, _, H1, rfl, I1.kept (t' := s1.toks) fun b o e => Heap.get?_push_of_some _ e, turn_list a _, ⟨_, Heap.get?_push_size _ rfl, rfl, rfl⟩, fr, q⟩
  · obtain ⟨its, rv, p, hz⟩ := I1.tuple hq
    refine PySem.wpAny_pyIter_tuple (show s1.heap.IsTuple a its.toArray from p) ?_
    exact ⟨s1.heap.objs.size, [s1.heap.objs.size], _, _, H1, rfl, I1.kept (t' := s1.toks) fun b o e => Heap.get?_push_of_some _ e, turn_tuple a _, ⟨_, Heap.get?_push_size _ rfl, rfl, rfl⟩, fr, q⟩
theorem s_wOf {m : M D} (h : PE X e (TD X cad W m)) : PI X tg e (TIt X cad W ((m.bind fun d => (M.ret []).bind fun ds => M.ret (d :: ds)).bind fun ds => M.opt (walkD .of ds))) := by
  refine pi_mono (pi_seq h) fun σ H R ⟨F, ρ, η, S, ι, RR, p⟩ => ⟨F, ρ, η, S, ι, RR, ?_⟩
  have p' : PostM (gc X cad) W (relI X.K) F σ R S ι ((m ρ η).bind fun d => M.opt (walkD .of [d])) := by
    have e : ((m.bind fun d => (M.ret []).bind fun ds => M.ret (d :: ds)).bind fun ds => M.opt (walkD .of ds)) ρ η = (m ρ η).bind fun d => M.opt (walkD .of [d]) := by
      show ((m ρ η).bind _).bind _ = _
      rw [bind_assoc]
      rfl
    rw [← e]
    exact p
  refine PostM.thn p' fun v H1 d ρ1 η1 S1 ι1 R1 s1 p1 q1 z => ?_
  cases d with
  | lst ds =>
    obtain ⟨a, vs, rfl, h1, r⟩ := q1
    exact .inl ⟨a, rfl, .inl ⟨⟨vs, .of (R1.base.sub _ _ h1)⟩, walk_of_ R1 z fun items e => by cases e; exact gives_list (.of h1) r⟩⟩
  | lck ds =>
    obtain ⟨a, vs, rfl, h1, r⟩ := q1
    exact .inl ⟨a, rfl, .inl ⟨⟨vs, R1.base.sub.seq h1⟩, walk_of_ R1 z fun items e => by cases e; exact gives_list h1 r⟩⟩
  | tup ds =>
    obtain ⟨a, vs, rfl, h1, r⟩ := q1
    exact .inl ⟨a, rfl, .inr ⟨⟨vs, .of (R1.base.sub _ _ h1)⟩, walk_of_ R1 z fun items e => by cases e; exact gives_tup (.of h1) r⟩⟩
  | ktp ds =>
    obtain ⟨a, vs, rfl, h1, r⟩ := q1
    exact .inl ⟨a, rfl, .inr ⟨⟨vs, Same.sqt R1.base.sub h1⟩, walk_of_ R1 z fun items e => by cases e; exact gives_tup h1 r⟩⟩
  | str s =>
    cases (show v = .str s from q1)
    exact .inr ⟨s, rfl, walk_of_ R1 z fun items e => by cases e; exact gives_str s⟩
  | _ => exact z.elim
theorem bind_assoc' {α β γ : Type} {m : M α} {k : α → M β} {l : β → M γ} : ((m.bind k).bind l) = m.bind fun a => (k a).bind l := by
  funext ρ η
  exact bind_assoc
variable {ms : M (List D)} {a b c : Expr}
theorem wR1_inv {ds items : List D} (e : wR1 ds = some items) : ∃ hi, ds = [.int hi] ∧ small62 hi = true ∧ items = rngD 0 hi := by
  unfold wR1 at e
  split at e
  · split at e
    · cases e; exact ⟨_, rfl, by assumption, rfl⟩
    · cases e
  · cases e
theorem wR2_inv {ds items : List D} (e : wR2 ds = some items) : ∃ lo hi, ds = [.int lo, .int hi] ∧ small62 lo = true ∧ small62 hi = true ∧ items = rngD lo hi := by
  unfold wR2 at e
  split at e
  · split at e
    · rename_i h
      simp only [Bool.and_eq_true] at h
      cases e; exact ⟨_, _, rfl, h.1, h.2, rfl⟩
    · cases e
  · cases e
theorem wR3_inv {ds items : List D} (e : wR3 ds = some items) : ∃ lo hi c, ds = [.int lo, .int hi, .int c] ∧ (c ≠ 0 ∧ c.natAbs < 1073741824 ∧ Builtin.Range.small lo hi c = true ∧ Builtin.Range.rangeSize lo hi c = ((Builtin.Range.rangeSize lo hi c).toNat : Nat)) ∧ items = rngS lo hi c := by
  unfold wR3 at e
  split at e
  · split at e
    · rename_i h
      cases e; exact ⟨_, _, _, rfl, h, rfl⟩
    · cases e
  · cases e
theorem RelDs.one {K : PySem.W.Frag} {S : Hp} {ι : List Addr} {i : D} {vs : List V} (r : RelDs K S ι [i] vs) : ∃ v, vs = [v] ∧ RelD K S ι i v := by
  obtain ⟨v, r', e, h, t⟩ := r
  cases (show r' = [] from t)
  exact ⟨v, e, h⟩
theorem RelDs.two {K : PySem.W.Frag} {S : Hp} {ι : List Addr} {i j : D} {vs : List V} (r : RelDs K S ι [i, j] vs) : ∃ v w, vs = [v, w] ∧ RelD K S ι i v ∧ RelD K S ι j w := by
  obtain ⟨v, r', e, h, t⟩ := r
  obtain ⟨w, rfl, h2⟩ := RelDs.one t
  exact ⟨v, w, e, h, h2⟩
theorem s_wRng1 (hg : Gl X "range") (hm : X.mg "range" = none) (ha : PA X [a] (TDs X cad W ms)) (hs : starEach [a] X.env = [(false, eval a X.env)]) : PI X tg (.Call (.Name "range" p) [a] [] pos) (TIt X cad W (ms.bind fun ds => M.opt (walkD .rng1 ds))) := by
  refine pi_mono (pi_range1 hg hm ha hs) fun σ H R ⟨F, ρ, η, S, ι, RR, p⟩ => ⟨F, ρ, η, S, ι, RR, PostM.thn p fun vs H1 ds ρ1 η1 S1 ι1 R1 s1 p1 q1 z => ?_⟩
  unfold M.opt at z
  cases e : walkD .rng1 ds with
  | none => rw [e] at z; exact z.elim
  | some items =>
    rw [e] at z
    obtain ⟨hi, rfl, h, rfl⟩ := wR1_inv e
    obtain ⟨v, rfl, r1⟩ := RelDs.one q1
    cases (show v = .int hi from r1)
    have h := small_of h
    refine ⟨hi, rfl, h.1, h.2, z _ H1 S1 ι1 R1 (fun _ _ q => q) (List.prefix_refl _) ?_⟩
    have g := gives_rng (K := X.K) (S := S1) (ι := ι1) 0 hi.toNat
    show Gives X.K S1 ι1 (Itr 0 hi.toNat) (rngD 0 hi)
    unfold rngD
    rw [Int.sub_zero]
    exact g
theorem s_wRng2 (hg : Gl X "range") (hm : X.mg "range" = none) (ha : PA X [a, b] (TDs X cad W ms)) (hs : starEach [a, b] X.env = [(false, eval a X.env), (false, eval b X.env)]) (hs2 : starEach [b] X.env = [(false, eval b X.env)]) :
    PI X tg (.Call (.Name "range" p) [a, b] [] pos) (TIt X cad W (ms.bind fun ds => M.opt (walkD .rng2 ds))) := by
  refine pi_mono (pi_range2 hg hm ha hs hs2) fun σ H R ⟨F, ρ, η, S, ι, RR, p⟩ => ⟨F, ρ, η, S, ι, RR, PostM.thn p fun vs H1 ds ρ1 η1 S1 ι1 R1 s1 p1 q1 z => ?_⟩
  unfold M.opt at z
  cases e : walkD .rng2 ds with
  | none => rw [e] at z; exact z.elim
  | some items =>
    rw [e] at z
    obtain ⟨lo, hi, rfl, h, h', rfl⟩ := wR2_inv e
    obtain ⟨v, w, rfl, r1, r2⟩ := RelDs.two q1
    cases (show v = .int lo from r1)
    cases (show w = .int hi from r2)
    have h := small_of h
    have h' := small_of h'
    exact ⟨lo, hi, rfl, ⟨h.1, h.2, h'.1, h'.2⟩, z _ H1 S1 ι1 R1 (fun _ _ q => q) (List.prefix_refl _) (gives_rng lo _)⟩
theorem s_wRng3 (hg : Gl X "range") (hm : X.mg "range" = none) (ha : PA X [a, b, c] (TDs X cad W ms)) (hs : starEach [a, b, c] X.env = (false, eval a X.env) :: starEach [b, c] X.env) (hpl : (backTo pos (starEach [b, c] X.env)).any (·.1) = false) :
    PI X tg (.Call (.Name "range" p) [a, b, c] [] pos) (TIt X cad W (ms.bind fun ds => M.opt (walkD .rng3 ds))) := by
  refine pi_mono (pi_range3 hg hm ha hs hpl) fun σ H R ⟨F, ρ, η, S, ι, RR, p⟩ => ⟨F, ρ, η, S, ι, RR, PostM.thn p fun vs H1 ds ρ1 η1 S1 ι1 R1 s1 p1 q1 z => ?_⟩
  unfold M.opt at z
  cases e : walkD .rng3 ds with
  | none => rw [e] at z; exact z.elim
  | some items =>
    rw [e] at z
    obtain ⟨lo, hi, k, rfl, h, rfl⟩ := wR3_inv e
    obtain ⟨v, r', rfl, r1, r2⟩ := q1
    obtain ⟨w, u, rfl, r2, r3⟩ := RelDs.two r2
    cases (show v = .int lo from r1)
    cases (show w = .int hi from r2)
    cases (show u = .int k from r3)
    exact ⟨lo, hi, k, _, rfl, h, z _ H1 S1 ι1 R1 (fun _ _ q => q) (List.prefix_refl _) (gives_rngC lo k _)⟩
theorem wZp_inv {ds items : List D} (e : wZp ds = some items) : ∃ a b, (ds = [.lst a, .lst b] ∨ ds = [.tup a, .tup b] ∨ ds = [.tup a, .lst b]) ∧ items = (a.zip b).map fun p => D.tup [p.1, p.2] := by
  unfold wZp at e
  split at e
  · cases e; exact ⟨_, _, .inl rfl, rfl⟩
  · cases e; exact ⟨_, _, .inr (.inl rfl), rfl⟩
  · cases e; exact ⟨_, _, .inr (.inr rfl), rfl⟩
  · cases e
theorem s_wZip {elts : List Expr} {kk : Nat} {tpos : Pos} (hg : Gl X "zip") (hm : X.mg "zip" = none) (ha : PA X [a, b] (TDs X cad W ms)) (hs : starEach [a, b] X.env = (false, eval a X.env) :: starEach [b] X.env) (hpl : (backTo pos (starEach [b] X.env)).any (·.1) = false) :
    PI X (.Tuple elts kk tpos) (.Call (.Name "zip" p) [a, b] [] pos) (TIt X cad W (ms.bind fun ds => M.opt (walkD .zip ds))) := by
  refine pi_mono (pi_zipB hg hm ha hs hpl) fun σ H R ⟨F, ρ, η, S, ι, RR, p⟩ => ⟨F, ρ, η, S, ι, RR, PostM.thn p fun vs H1 ds ρ1 η1 S1 ι1 R1 s1 p1 q1 z => ?_⟩
  unfold M.opt at z
  cases e : walkD .zip ds with
  | none => rw [e] at z; exact z.elim
  | some items =>
    rw [e] at z
    obtain ⟨xs, ys, h | h | h, rfl⟩ := wZp_inv e
    · subst h
      obtain ⟨v, w, rfl, ⟨p1, vs, rfl, h1, r1⟩, ⟨p2, ws, rfl, h2, r2⟩⟩ := RelDs.two q1
      exact ⟨p1, p2, vs, ws, rfl, .inl ⟨.of (R1.base.sub _ _ h1), .of (R1.base.sub _ _ h2), z _ H1 S1 ι1 R1 (fun _ _ q => q) (List.prefix_refl _) (gives_zipL (.of h1) r1 (.of h2) r2)⟩⟩
    · subst h
      obtain ⟨v, w, rfl, ⟨p1, vs, rfl, h1, r1⟩, ⟨p2, ws, rfl, h2, r2⟩⟩ := RelDs.two q1
      exact ⟨p1, p2, vs, ws, rfl, .inr (.inl ⟨.of (R1.base.sub _ _ h1), .of (R1.base.sub _ _ h2), z _ H1 S1 ι1 R1 (fun _ _ q => q) (List.prefix_refl _) (gives_zipT (.of h1) r1 (.of h2) r2)⟩)⟩
    · subst h
      obtain ⟨v, w, rfl, ⟨p1, vs, rfl, h1, r1⟩, ⟨p2, ws, rfl, h2, r2⟩⟩ := RelDs.two q1
      exact ⟨p1, p2, vs, ws, rfl, .inr (.inr ⟨.of (R1.base.sub _ _ h1), .of (R1.base.sub _ _ h2), z _ H1 S1 ι1 R1 (fun _ _ q => q) (List.prefix_refl _) (gives_zipM (.of h1) r1 (.of h2) r2)⟩)⟩
end
end Mp

/-! the evaluator is right: list comprehensions -/
namespace Mp
open PySem L2

section
variable {G : Gc} {F : Hp} {ρ ρ' : List Slot} {η : List AO} {σ σ' : L2.St} {H S : Hp} {ι : List Addr} {p : Addr} {o : HO}
/-- a thing of our own, held from now on -/
theorem Rel.hold (R : Rel G F ρ η σ H S ι) (e : H p = some o) (m : Mine F H S ι p) (ap : Apart ρ σ p) : Rel G (upd F p o) ρ η σ H S ι := by
  have B := R.base
  refine ⟨⟨B.sub, fun b x q => ?_, fun a h => ?_, fun a h => ?_, B.si, B.nd, B.len, B.heap⟩, ⟨R.slots.len, R.slots.val, fun i u q => ?_, R.slots.dist⟩⟩
  · by_cases z : b = p
    · subst z; rw [upd_same] at q; rw [e]; exact q
    · rw [upd_ne z] at q; exact B.frm _ _ q
  · by_cases z : a = p
    · subst z; exact m.s
    · rw [upd_ne z] at h; exact B.fs a h
  · rw [upd_ne (show a ≠ p from fun z => m.i (z ▸ h))]; exact B.fi a h
  · obtain ⟨a, h, q1, q2, q3, q4⟩ := R.slots.own i u q
    have : a ≠ p := fun z => ap i u q (z ▸ q1)
    exact ⟨a, h, q1, q2, q3, ⟨q4.s, by rw [upd_ne this]; exact q4.f, q4.i⟩⟩
theorem Rel.unhold (R : Rel G (upd F p o) ρ η σ H S ι) (n : F p = none) : Rel G F ρ η σ H S ι ∧ Mine F H S ι p ∧ Apart ρ σ p ∧ H p = some o := by
  have B := R.base
  have le : Same F (upd F p o) := same_new n
  have hp : upd F p o p ≠ none := by rw [upd_same]; simp
  refine ⟨⟨⟨B.sub, le.trans B.frm, fun a h => B.fs a fun z => ?_, fun a h => ?_, B.si, B.nd, B.len, B.heap⟩, ⟨R.slots.len, R.slots.val, fun i u q => ?_, R.slots.dist⟩⟩, ⟨B.fs p hp, n, fun z => hp (B.fi p z)⟩, fun i u q1 q2 => ?_, B.frm _ _ upd_same⟩
  · cases e : F a with
    | none => exact h e
    | some x => rw [le a x e] at z; cases z
  · cases e : F a with
    | none => rfl
    | some x => have := B.fi a h; rw [le a x e] at this; cases this
  · obtain ⟨a, h, q1, q2, q3, q4⟩ := R.slots.own i u q
    refine ⟨a, h, q1, q2, q3, ⟨q4.s, ?_, q4.i⟩⟩
    cases e : F a with
    | none => rfl
    | some x => have := q4.f; rw [le a x e] at this; cases this
  · obtain ⟨a, h, w1, w2, w3, w4⟩ := R.slots.own i u q1
    rw [q2] at w1
    cases w1
    exact hp w4.f

/-! ### slots wiped, slots put back -/
theorem wipeL_len (ρ : List Slot) : ∀ is : List Nat, (wipeL ρ is).length = ρ.length
  | [] => rfl
  | i :: is => by unfold wipeL; rw [List.length_set, wipeL_len ρ is]
theorem wipeL_some {ρ : List Slot} {i : Nat} {s : Slot} : ∀ {is : List Nat}, (wipeL ρ is)[i]? = some s → s ≠ .un → ρ[i]? = some s ∧ i ∉ is
  | [], h, _ => ⟨h, by simp⟩
  | j :: is, h, n => by
    unfold wipeL at h
    by_cases z : j = i
    · subst z
      by_cases q : j < (wipeL ρ is).length
      · rw [List.getElem?_set_self q] at h
        cases h
        exact absurd rfl n
      · rw [List.getElem?_eq_none (by simpa using q)] at h
        cases h
    · rw [List.getElem?_set_ne z] at h
      obtain ⟨h1, h2⟩ := wipeL_some h n
      exact ⟨h1, by simp only [List.mem_cons, not_or]; exact ⟨fun e => z e.symm, h2⟩⟩
theorem wipe_out {σ : L2.St} {i : Nat} : ∀ {is : List Nat}, i ∉ is → (wipe σ is)[i]? = σ[i]?
  | [], _ => rfl
  | j :: is, h => by
    simp only [List.mem_cons, not_or] at h
    unfold wipe
    rw [List.getElem?_set_ne (fun z => h.1 z.symm)]
    exact wipe_out h.2
theorem wipe_in {σ : L2.St} {i : Nat} : ∀ {is : List Nat}, i ∈ is → (wipe σ is)[i]? = if i < σ.length then some none else none
  | j :: is, h => by
    unfold wipe
    by_cases z : j = i
    · subst z
      by_cases q : j < (wipe σ is).length
      · rw [List.getElem?_set_self q, if_pos (by rw [wipe_length] at q; exact q)]
      · rw [List.getElem?_eq_none (by simpa using q), if_neg (by rw [wipe_length] at q; exact q)]
    · rw [List.getElem?_set_ne z]
      rcases List.mem_cons.mp h with h | h
      · exact absurd h.symm z
      · exact wipe_in h
theorem wipe_eq {is : List Nat} (h : SameOut is σ σ') : wipe σ' is = wipe σ is := by
  refine List.ext_getElem? fun i => ?_
  by_cases q : i ∈ is
  · rw [wipe_in q, wipe_in q, h.1]
  · rw [wipe_out q, wipe_out q]; exact h.2 i q
theorem wipe_wipe {is : List Nat} : wipe (wipe σ is) is = wipe σ is := wipe_eq ⟨wipe_length σ is, fun i h => wipe_out h⟩
theorem Rel.wipe {is : List Nat} (R : Rel G F ρ η σ H S ι) : Rel G F (wipeL ρ is) η (L2.wipe σ is) H S ι :=
  R.weak (by rw [wipeL_len, wipe_length]; exact R.slots.len) fun i s e n => by
    obtain ⟨h1, h2⟩ := wipeL_some e n
    exact ⟨h1, wipe_out h2⟩
theorem backL_len (ρ₀ ρ : List Slot) : ∀ is : List Nat, (backL ρ₀ ρ is).length = ρ.length
  | [] => rfl
  | i :: is => by unfold backL; rw [List.length_set, backL_len ρ₀ ρ is]
theorem backL_out {ρ₀ ρ : List Slot} {i : Nat} : ∀ {is : List Nat}, i ∉ is → (backL ρ₀ ρ is)[i]? = ρ[i]?
  | [], _ => rfl
  | j :: is, h => by
    simp only [List.mem_cons, not_or] at h
    unfold backL
    rw [List.getElem?_set_ne (fun z => h.1 z.symm)]
    exact backL_out h.2
theorem backL_in {ρ₀ ρ : List Slot} {i : Nat} {s : Slot} : ∀ {is : List Nat}, i ∈ is → (backL ρ₀ ρ is)[i]? = some s → s = ρ₀.getD i .un
  | j :: is, h, e => by
    unfold backL at e
    by_cases z : j = i
    · subst z
      by_cases q : j < (backL ρ₀ ρ is).length
      · rw [List.getElem?_set_self q] at e
        cases e
        rfl
      · rw [List.getElem?_eq_none (by simpa using q)] at e
        cases e
    · rw [List.getElem?_set_ne z] at e
      rcases List.mem_cons.mp h with h | h
      · exact absurd h.symm z
      · exact backL_in h e
theorem freeS_at {ρ : List Slot} {is : List Nat} (h : freeS ρ is = true) {i : Nat} (hi : i ∈ is) : ∃ s, ρ[i]? = some s ∧ ∀ o, s ≠ .own o := by
  unfold freeS at h
  have q := List.all_eq_true.mp h i hi
  cases e : ρ[i]? with
  | none => rw [e] at q; cases q
  | some s =>
    rw [e] at q
    exact ⟨s, rfl, fun o z => by rw [z] at q; cases q⟩
/-- behind a comprehension: the block's names are what they were -/
theorem Rel.unwipe {is : List Nat} {S₀ : Hp} {ι₀ : List Addr} {H₀ : Hp} {ρ₀ : List Slot} (R : Rel G F ρ η (L2.wipe σ is) H S ι) (T : Slots G F ρ₀ σ H₀ S₀ ι₀) (hf : freeS ρ₀ is = true) (s : Same S₀ S) (pr : ι₀ <+: ι) : Rel G F (backL ρ₀ ρ is) η σ H S ι := by
  have own : ∀ (i : Nat) o, (backL ρ₀ ρ is)[i]? = some (.own o) → i ∉ is ∧ ρ[i]? = some (.own o) := fun i o e => by
    by_cases q : i ∈ is
    · have e2 := backL_in q e
      obtain ⟨s, h1, h2⟩ := freeS_at hf q
      rw [List.getD_eq_getElem?_getD, h1] at e2
      exact absurd e2.symm (h2 o)
    · rw [backL_out q] at e; exact ⟨q, e⟩
  refine ⟨R.base, ⟨by rw [backL_len, R.slots.len, wipe_length], fun i d e => ?_, fun i o e => ?_, fun i j o o' a e1 e2 e3 e4 => ?_⟩⟩
  · by_cases q : i ∈ is
    · have e2 := backL_in q e
      obtain ⟨s', h1, h2⟩ := freeS_at hf q
      rw [List.getD_eq_getElem?_getD, h1] at e2
      obtain ⟨v, v1, v2⟩ := T.val i d (by rw [h1]; exact congrArg some e2.symm)
      exact ⟨v, v1, v2.mono s pr⟩
    · rw [backL_out q] at e
      obtain ⟨v, v1, v2⟩ := R.slots.val i d e
      rw [wipe_out q] at v1
      exact ⟨v, v1, v2⟩
  · obtain ⟨q, e⟩ := own i o e
    obtain ⟨a, h, q1, q2⟩ := R.slots.own i o e
    rw [wipe_out q] at q1
    exact ⟨a, h, q1, q2⟩
  · obtain ⟨q1, e1⟩ := own i o e1
    obtain ⟨q2, e2⟩ := own j o' e2
    exact R.slots.dist i j o o' a e1 e2 (by rw [wipe_out q1]; exact e3) (by rw [wipe_out q2]; exact e4)
end
end Mp

/-! the evaluator is right: list comprehensions, the rule -/
namespace Mp
open PySem L2

abbrev W0 : WX := fun _ _ _ _ => False
section
variable {X : Cx} {cad : Nat → Addr} {W : WX}
variable {F : Hp} {ρ : List Slot} {η : List AO} {σ : L2.St} {H S : Hp} {ι : List Addr}
def relO (K : PySem.W.Frag) : RelT (Option D) (Option V) := fun _ _ _ _ S ι o v => match o, v with
  | some d, some u => RelD K S ι d u
  | none, none => True
  | _, _ => False
/-- a turn, from the item's store on -/
theorem step_of {tg : Tg} {mc : M Bool} {me : M D} {d : D} {x : V} {Qf : Option V → Hp → Prop} {vs : List Nat} (hvs : vs = tg.slots) (R : Rel (gc X cad) F ρ η (wipe σ vs) H S ι) (r : RelD X.K S ι d x)
    (h : ∀ σ2, SameOut vs (wipe σ vs) σ2 → PostM (gc X cad) W0 (relO X.K) F σ2 Qf S ι (lcStep tg mc me d ρ η)) :
    tgG X.K tg x (wipe σ vs) H fun σ2 H2 => wipe σ2 vs = wipe σ vs ∧ TTb X cad W0 mc σ2 H2 fun b H3 => if b = true then TD X cad W0 me σ2 H3 fun y H4 => Qf (some y) H4 else Qf none H3 := by
  cases e : tg.put d ρ η with
  | ok u ρ1 η1 =>
    obtain ⟨σ2, R1, e1, so, hQ⟩ := put_at R r e
    subst hvs
    refine hQ _ ⟨by rw [wipe_eq so, wipe_wipe], F, ρ1, η1, S, ι, by rw [e1]; exact R1, ?_⟩
    have h := h σ2 so
    unfold lcStep M.bind at h
    rw [e] at h
    refine PostM.thn h fun b H3 b' ρ2 η2 S2 ι2 R2 s2 p2 q2 z => ?_
    cases q2
    cases b with
    | true => exact iteT ⟨F, ρ2, η2, S2, ι2, R2, PostM.thn z fun y H4 y' ρ3 η3 S3 ι3 R3 s3 p3 q3 z3 => z3 (some y) H4 S3 ι3 R3 (fun _ _ q => q) (List.prefix_refl _) q3⟩
    | false => exact iteF (z none H3 S2 ι2 R2 (fun _ _ q => q) (List.prefix_refl _) trivial)
  | exc c fs ρ1 η1 => exact absurd e put_noexc
  | fail =>
    have h := h (wipe σ vs) (SameOut.refl _ _)
    unfold lcStep M.bind at h
    rw [e] at h
    exact h.elim
theorem s_lc {elt tgE iter : Expr} {ifs : List Expr} {scope : Scope} {own : List (Str × Nat)} {pos : Pos} {tg : Tg} {mi : M (List D)} {mc : M Bool} {me : M D} (hc : X.calm = true) (hN : X.N.Nodup) (hi : PI X tgE iter (TIt X cad W mi)) (ok : BlkOk X.N X.env.scope scope own) (hown : own.map (·.2) = tg.slots)
    (hg : ∀ (s : Shared) (H : Hp) (C : Addr) (cl : List (Str × Addr)) (fp : List Addr), PG (X.blk s H scope (compEnvC scope cl C X.env) fp) tgE (tgG X.K tg)) (ht : ∀ (s : Shared) (H : Hp) (C : Addr) (cl : List (Str × Addr)) (fp : List Addr), PTs (X.blk s H scope (compEnvC scope cl C X.env) fp) ifs (TTb X cad W0 mc))
    (he : ∀ (s : Shared) (H : Hp) (C : Addr) (cl : List (Str × Addr)) (fp : List Addr), PE (X.blk s H scope (compEnvC scope cl C X.env) fp) elt (TD X cad W0 me)) :
    ∀ σ H Q, TR X cad W (mi.bind fun items => lcAll tg items mc me) σ H Q → tLc (TIt X cad W mi) (tgG X.K tg) (TTb X cad W0 mc) (TD X cad W0 me) (own.map (·.2)) σ H Q := by
  intro σ H Q ⟨F, ρ, η, S, ι, R, p⟩
  refine ⟨F, ρ, η, S, ι, R, PostM.thn p fun J H1 items ρ1 η1 S1 ι1 R1 s1 p1 g z => fun D hD => ?_⟩
  rw [hown]
  unfold lcAll at z
  split at z
  case isFalse => exact z.elim
  rename_i hfree
  cases efin : lcGo tg mc me items [] (wipeL ρ1 tg.slots) η1 with
  | exc c fs ρ' η' => rw [efin] at z; exact z.elim
  | fail => rw [efin] at z; exact z.elim
  | ok accF ρF ηF =>
  rw [efin] at z
  simp only at z
  obtain ⟨mD, apD⟩ := R1.new hD
  -- what holds ahead of turn i
  refine ⟨fun i m H' => m = items.length - i ∧ i ≤ items.length ∧ ∃ acc av ρi ηi Si ιi, Rel (gc X cad) (upd F D (.lst av)) ρi ηi (wipe σ tg.slots) H' Si ιi ∧ Same S1 Si ∧ ι1 <+: ιi ∧ RelDs X.K Si ιi acc av ∧ lcGo tg mc me (items.drop i) acc ρi ηi = .ok accF ρF ηF,
    ⟨items.length, by simp, Nat.zero_le _, [], [], wipeL ρ1 tg.slots, η1, S1, ι1, ?_, fun _ _ q => q, List.prefix_refl _, RelDs.nil, by rw [List.drop_zero]; exact efin⟩, ?_⟩
  · have R2 := (R1.mine (o := .lst []) mD apD).hold upd_same ⟨mD.s, mD.f, mD.i⟩ apD
    exact R2.wipe
  rintro i m H' ⟨rfl, hi', acc, av, ρi, ηi, Si, ιi, Ri, si, pi, ra, ego⟩
  have subI : Same S1 H' := si.trans Ri.base.sub
  by_cases hlt : i < items.length
  · -- a turn
    refine .inr ⟨g.go i H' subI hlt, fun H'' => items.length - (i + 1) = items.length - (i + 1) ∧ i + 1 ≤ items.length ∧ ∃ acc av ρi ηi Si ιi, Rel (gc X cad) (upd F D (.lst av)) ρi ηi (wipe σ tg.slots) H'' Si ιi ∧ Same S1 Si ∧ ι1 <+: ιi ∧ RelDs X.K Si ιi acc av ∧ lcGo tg mc me (items.drop (i + 1)) acc ρi ηi = .ok accF ρF ηF,
      fun H'' ⟨a1, a2, a3⟩ => ⟨items.length - (i + 1), by omega, rfl, a2, a3⟩, fun x Hy hy => ?_⟩
    have hd : items.drop i = items[i] :: items.drop (i + 1) := List.drop_eq_getElem_cons hlt
    rw [hd] at ego
    unfold lcGo at ego
    obtain ⟨Sy, Ry, sy, rx⟩ : ∃ Sy, Rel (gc X cad) (upd F D (.lst av)) ρi ηi (wipe σ tg.slots) Hy Sy ιi ∧ Same Si Sy ∧ RelD X.K Sy ιi items[i] x := by
      rcases g.yld i H' x Hy items[i] subI (List.getElem?_eq_getElem hlt) hy with ⟨rfl, rx⟩ | ⟨T, vs, ds, hT, rfl, rfl, ed, rs⟩
      · exact ⟨Si, Ri, fun _ _ q => q, rx.mono si pi⟩
      · have sm : Same Si (upd Si T (.tup vs)) := same_new (Ri.new hT).1.s
        refine ⟨_, Ri.still hT, sm, ?_⟩
        rw [ed]
        exact ⟨T, vs, rfl, upd_same, rs.mono (si.trans sm) pi⟩
    cases es : lcStep tg mc me items[i] ρi ηi with
    | exc c fs ρ' η' => rw [es] at ego; cases ego
    | fail => rw [es] at ego; cases ego
    | ok o ρ' η' =>
      rw [es] at ego
      simp only [Mp.R.bind] at ego
      have key := step_of (X := X) (cad := cad) (σ := σ) (Qf := fun v H4 => match v with
        | some y => ∃ acc, H4 D = some (.lst acc) ∧ acc.length < sizeLine ∧ (items.length - (i + 1) = items.length - (i + 1) ∧ i + 1 ≤ items.length ∧ ∃ acc' av ρi ηi Si ιi, Rel (gc X cad) (upd F D (.lst av)) ρi ηi (wipe σ tg.slots) (upd H4 D (.lst (acc ++ [y]))) Si ιi ∧ Same S1 Si ∧ ι1 <+: ιi ∧ RelDs X.K Si ιi acc' av ∧ lcGo tg mc me (items.drop (i + 1)) acc' ρi ηi = .ok accF ρF ηF)
        | none => (items.length - (i + 1) = items.length - (i + 1) ∧ i + 1 ≤ items.length ∧ ∃ acc av ρi ηi Si ιi, Rel (gc X cad) (upd F D (.lst av)) ρi ηi (wipe σ tg.slots) H4 Si ιi ∧ Same S1 Si ∧ ι1 <+: ιi ∧ RelDs X.K Si ιi acc av ∧ lcGo tg mc me (items.drop (i + 1)) acc ρi ηi = .ok accF ρF ηF)) (tg := tg) (mc := mc) (me := me) rfl Ry rx fun σ2 so => by
        rw [es]
        intro v H4 S4 ι4 R4 s4 p4 q4
        obtain ⟨R5, m5, a5, e5⟩ := R4.unhold mD.f
        have weak : ∀ {F' : Hp} {H'' : Hp}, Rel (gc X cad) F' ρ' η' σ2 H'' S4 ι4 → Rel (gc X cad) F' (wipeL ρ' tg.slots) η' (wipe σ tg.slots) H'' S4 ι4 := fun R' => by
          have := R'.wipe (is := tg.slots)
          rw [show L2.wipe σ2 tg.slots = L2.wipe σ tg.slots by rw [wipe_eq so, wipe_wipe]] at this
          exact this
        have sAll := si.trans (sy.trans s4)
        have pAll := pi.trans p4
        cases o with
        | none =>
          cases v with
          | none => exact ⟨rfl, hlt, acc, av, _, _, S4, ι4, weak R4, sAll, pAll, ra.mono (sy.trans s4) p4, ego⟩
          | some y => exact q4.elim
        | some x' =>
          cases v with
          | none => exact q4.elim
          | some y =>
            simp only at ego
            split at ego
            · rename_i hz
              refine ⟨av, e5, by rw [← ra.length]; exact hz, rfl, hlt, acc ++ [x'], av ++ [y], _, _, S4, ι4, weak ((R5.mine (o := .lst (av ++ [y])) m5 a5).hold upd_same ⟨m5.s, m5.f, m5.i⟩ a5), sAll, pAll, ?_, ego⟩
              exact (ra.mono (sy.trans s4) p4).append (RelDs.cons q4 RelDs.nil)
            · cases ego
      exact key
  · -- the end
    have e : i = items.length := by omega
    subst e
    rw [List.drop_length] at ego
    cases ego
    obtain ⟨R5, m5, a5, e5⟩ := Ri.unhold mD.f
    refine .inl ⟨g.stop _ H' subI (Nat.le_refl _), z _ H' Si ιi (R5.unwipe R1.slots hfree si pi) si pi ⟨D, _, rfl, e5, ⟨av, rfl, ra⟩, m5, fun j u q1 q2 => ?_⟩⟩
    by_cases hj : j ∈ tg.slots
    · obtain ⟨s', h1, h2⟩ := freeS_at hfree hj
      have := backL_in hj q1
      rw [List.getD_eq_getElem?_getD, h1] at this
      exact h2 u this.symm
    · rw [backL_out hj] at q1
      exact a5 j u q1 (by rw [wipe_out hj]; exact q2)
end
end Mp

/-! the evaluator is right: statements -/
namespace Mp
open PySem L2

section
variable (G : Gc) (W : WX)
def PostS (F : Hp) (D : Ends) (S : Hp) (ι : List Addr) : R Fl → Prop
  | .ok .next ρ' η' => ∀ σ' H' S' ι', Rel G F ρ' η' σ' H' S' ι' → Same S S' → ι <+: ι' → D.nx σ' H'
  | .ok .brk ρ' η' => ∀ σ' H' S' ι', Rel G F ρ' η' σ' H' S' ι' → Same S S' → ι <+: ι' → D.bk σ' H'
  | .ok .cnt ρ' η' => ∀ σ' H' S' ι', Rel G F ρ' η' σ' H' S' ι' → Same S S' → ι <+: ι' → D.ct σ' H'
  | .ok (.ret r) _ η' => ∀ v H' S' ι', Base G F η' H' S' ι' → Same S S' → ι <+: ι' → RetR G F H' S' ι' r v → D.rt v H'
  | .exc c fs ρ' η' => ∀ σ' d H' S' ι' fs', Rel G F ρ' η' σ' H' S' ι' → Same S S' → ι <+: ι' → H' d = some (.xd fs') → RelFs G.K S' ι' fs fs' → W (.ref (G.cad c)) (some d) σ' H'
  | .fail => False
def tS (m : M Fl) : TS := fun D σ H => ∃ F ρ η S ι, Rel G F ρ η σ H S ι ∧ PostS G W F D S ι (m ρ η)
end
section
variable {G : Gc} {W : WX} {α : Type} {rel : RelT α V} {F : Hp} {σ : L2.St} {S S' : Hp} {ι ι' : List Addr} {D : Ends}
theorem PostS.anti {r : R Fl} (s : Same S S') (p : ι <+: ι') (h : PostS G W F D S ι r) : PostS G W F D S' ι' r := by
  cases r with
  | ok f ρ η =>
    cases f with
    | next => exact fun σ' H' S2 ι2 R s2 p2 => h σ' H' S2 ι2 R (s.trans s2) (p.trans p2)
    | brk => exact fun σ' H' S2 ι2 R s2 p2 => h σ' H' S2 ι2 R (s.trans s2) (p.trans p2)
    | cnt => exact fun σ' H' S2 ι2 R s2 p2 => h σ' H' S2 ι2 R (s.trans s2) (p.trans p2)
    | ret r => exact fun v H' S2 ι2 R s2 p2 => h v H' S2 ι2 R (s.trans s2) (p.trans p2)
  | exc c fs ρ η => exact fun σ' d H' S2 ι2 fs' R s2 p2 => h σ' d H' S2 ι2 fs' R (s.trans s2) (p.trans p2)
  | fail => exact h
/-- an expression's part, then the rest of the statement -/
theorem PostS.thn {β : Type} {rel : RelT α β} {r : R α} {k : α → M Fl} {Q : β → Hp → Prop} (h : PostS G W F D S ι (r.bind k))
    (m : ∀ v H1 a ρ1 η1 S1 ι1, Rel G F ρ1 η1 σ H1 S1 ι1 → Same S S1 → ι <+: ι1 → rel F ρ1 σ H1 S1 ι1 a v → PostS G W F D S1 ι1 (k a ρ1 η1) → Q v H1) : PostM G W rel F σ Q S ι r := by
  cases r with
  | ok a ρ η => exact fun v H1 S1 ι1 R s p q => m v H1 a ρ η S1 ι1 R s p q (h.anti s p)
  | exc c fs ρ η => exact fun d H' S' ι' fs' R => h σ d H' S' ι' fs' R
  | fail => exact h
theorem PostS.seq {r : R Fl} {k : M Fl} (h : PostS G W F D S ι (r.bind (seqK k))) : PostS G W F { D with nx := tS G W k D } S ι r := by
  cases r with
  | ok f ρ η =>
    cases f with
    | next => exact fun σ' H' S' ι' R s p => ⟨F, ρ, η, S', ι', R, PostS.anti (r := k ρ η) s p h⟩
    | brk => exact h
    | cnt => exact h
    | ret r => exact h
  | exc c fs ρ η => exact h
  | fail => exact h
end
section
variable {X : Cx} {cad : Nat → Addr} {W : WX}
abbrev TS1 (X : Cx) (cad : Nat → Addr) (W : WX) (m : M Fl) : TS := tS (gc X cad) W m
variable {st : Stmt} {sts rest : List Stmt} {e o i c : Expr} {m : M RV} {pos pos' : Pos} {x : Str} {j : Nat}
theorem ss_nil : PSs X [] (TS1 X cad W (M.ret .next)) := pss_mono pss_nil fun D σ H ⟨F, ρ, η, S, ι, R, p⟩ => p σ H S ι R (fun _ _ q => q) (List.prefix_refl _)
theorem ss_cons {ma mb : M Fl} (h1 : PS X st (TS1 X cad W ma)) (h2 : PSs X rest (TS1 X cad W mb)) : PSs X (st :: rest) (TS1 X cad W (ma.bind (seqK mb))) :=
  pss_mono (pss_cons h1 h2) fun D σ H ⟨F, ρ, η, S, ι, R, p⟩ => ⟨F, ρ, η, S, ι, R, PostS.seq p⟩
theorem ss_pass : PS X (.Pass pos) (TS1 X cad W (M.ret .next)) := ps_mono ps_pass fun D σ H ⟨F, ρ, η, S, ι, R, p⟩ => p σ H S ι R (fun _ _ q => q) (List.prefix_refl _)
theorem ss_break : PS X (.Break pos) (TS1 X cad W (M.ret .brk)) := ps_mono ps_break fun D σ H ⟨F, ρ, η, S, ι, R, p⟩ => p σ H S ι R (fun _ _ q => q) (List.prefix_refl _)
theorem ss_cont : PS X (.Continue pos) (TS1 X cad W (M.ret .cnt)) := ps_mono ps_continue fun D σ H ⟨F, ρ, η, S, ι, R, p⟩ => p σ H S ι R (fun _ _ q => q) (List.prefix_refl _)
/-- name = e, from the value on -/
theorem set_at {F : Hp} {ρ : List Slot} {η : List AO} {σ : L2.St} {H S : Hp} {ι : List Addr} {r : RV} {v : V} {D : Ends} (R : Rel (gc X cad) F ρ η σ H S ι) (q : relR (gc X cad) F ρ σ H S ι r v) (z : PostS (gc X cad) W F D S ι ((setS j (slotOf r) ρ η).bind fun _ => M.ret .next)) : D.nx (σ.set j (some v)) H := by
  cases e : setS j (slotOf r) ρ η with
  | ok u ρ1 η1 =>
    rw [e] at z
    obtain ⟨hi, rfl, rfl⟩ := setS_ok e
    cases r with
    | val d => exact z _ H S ι (R.setVal hi q) (fun _ _ q => q) (List.prefix_refl _)
    | own o =>
      obtain ⟨a, h, rfl, e0, ra, m, ap⟩ := q
      exact z _ H S ι (R.setOwn hi e0 ra m ap) (fun _ _ q => q) (List.prefix_refl _)
  | exc c fs ρ1 η1 => unfold setS at e; split at e <;> cases e
  | fail => rw [e] at z; exact z.elim
theorem s_setG {te : TE} (h : PS X st (tAsg te (gName j))) (hm : ∀ σ H Q, TR X cad W m σ H Q → te σ H Q) : PS X st (TS1 X cad W (m.bind fun r => (setS j (slotOf r)).bind fun _ => M.ret .next)) :=
  ps_mono h fun D σ H ⟨F, ρ, η, S, ι, R, p⟩ => hm σ H _ ⟨F, ρ, η, S, ι, R, PostS.thn p fun v H1 r ρ1 η1 S1 ι1 R1 s1 p1 q1 z => set_at R1 q1 z⟩
/-- targets, from the value on -/
theorem put_thn {F : Hp} {ρ : List Slot} {η : List AO} {σ : L2.St} {H S : Hp} {ι : List Addr} {tg : Tg} {d : D} {v : V} {D : Ends} {k : Unit → M Fl} {Q : L2.St → Hp → Prop} (R : Rel (gc X cad) F ρ η σ H S ι) (q : RelD X.K S ι d v) (z : PostS (gc X cad) W F D S ι ((tg.put d ρ η).bind k))
    (hQ : ∀ σ' ρ', Rel (gc X cad) F ρ' η σ' H S ι → PostS (gc X cad) W F D S ι (k () ρ' η) → Q σ' H) : tgG X.K tg v σ H Q := by
  cases e : tg.put d ρ η with
  | ok u ρ1 η1 =>
    rw [e] at z
    obtain ⟨σ', R', e1, so, h⟩ := put_at R q e
    subst e1
    exact h Q (hQ σ' ρ1 R' z)
  | exc c fs ρ1 η1 => exact absurd e put_noexc
  | fail => rw [e] at z; exact z.elim
theorem s_setT {es : List Expr} {k : Nat} {is : List Nat} {tgp : Pos} (hg : PG X (.Tuple es k tgp) (tgG X.K (.tp is))) (he : PE X e (TR X cad W m)) (hs : swapsWithSole [.Tuple es k tgp] e pos.line X.env = pure false) (hw : swappedStores [.Tuple es k tgp] e X.env = pure none)
    (h1 : (assignEach [.Tuple es k tgp] X.env).map (·.2) = [assign (.Tuple es k tgp) X.env]) : PS X (.Assign [.Tuple es k tgp] e pos) (TS1 X cad W ((m.bind frz).bind fun d => (unpack is d).bind fun _ => M.ret .next)) :=
  ps_mono (ps_asg (s_frz he) hg hs hw h1) fun D σ H ⟨F, ρ, η, S, ι, R, p⟩ => ⟨F, ρ, η, S, ι, R, PostS.thn p fun v H1 d ρ1 η1 S1 ι1 R1 s1 p1 q1 z =>
    put_thn R1 q1 z fun σ' ρ' R' z' => z' σ' H1 S1 ι1 R' (fun _ _ q => q) (List.prefix_refl _)⟩
theorem s_expr (he : PE X e (TR X cad W m)) (hs : swapsWith e none pos.line X.env = pure false) : PS X (.Expr e pos) (TS1 X cad W (m.bind fun _ => M.ret .next)) :=
  ps_mono (ps_expr he hs) fun D σ H ⟨F, ρ, η, S, ι, R, p⟩ => ⟨F, ρ, η, S, ι, R, PostS.thn p fun v H1 d ρ1 η1 S1 ι1 R1 s1 p1 q1 z => z σ H1 S1 ι1 R1 (fun _ _ q => q) (List.prefix_refl _)⟩
theorem s_if {mc : M Bool} {a b : List Stmt} {ma mb : M Fl} (hc : PT X c (TTb X cad W mc)) (ha : PSs X a (TS1 X cad W ma)) (hb : PSs X b (TS1 X cad W mb)) : PS X (.If c a b pos) (TS1 X cad W (mc.bind fun p => if p then ma else mb)) :=
  ps_mono (ps_if hc ha hb) fun D σ H ⟨F, ρ, η, S, ι, R, p⟩ => ⟨F, ρ, η, S, ι, R, PostS.thn p fun v H1 d ρ1 η1 S1 ι1 R1 s1 p1 q1 z => by
    cases q1
    cases v with
    | true => exact iteT ⟨F, ρ1, η1, S1, ι1, R1, z⟩
    | false => exact iteF ⟨F, ρ1, η1, S1, ι1, R1, z⟩⟩
theorem relR.ret {F : Hp} {ρ : List Slot} {σ : L2.St} {H S : Hp} {ι : List Addr} {r : RV} {v : V} (h : relR (gc X cad) F ρ σ H S ι r v) : RetR (gc X cad) F H S ι r v := by
  cases r with
  | val d => exact h
  | own o => obtain ⟨a, h, e, e1, r, m, _⟩ := h; exact ⟨a, h, e, e1, r, m⟩
theorem s_ret (he : PE X e (TR X cad W m)) : PS X (.Return (some e) pos) (TS1 X cad W (retE none m)) :=
  ps_mono (ps_ret he) fun D σ H ⟨F, ρ, η, S, ι, R, p⟩ => ⟨F, ρ, η, S, ι, R, PostS.thn p fun v H1 d ρ1 η1 S1 ι1 R1 s1 p1 q1 z => z v H1 S1 ι1 R1.base (fun _ _ q => q) (List.prefix_refl _) q1.ret⟩
theorem s_retV (he : PE X e (tVar j)) : PS X (.Return (some e) pos) (TS1 X cad W (retE (some j) m)) := by
  refine ps_mono (ps_ret he) fun D σ H ⟨F, ρ, η, S, ι, R, p⟩ => ?_
  unfold retE at p
  simp only at p
  unfold M.bind getS at p
  cases e1 : ρ[j]? with
  | none => rw [e1] at p; exact p.elim
  | some s =>
    rw [e1] at p
    cases s with
    | un => exact p.elim
    | val d =>
      obtain ⟨v, e2, rd⟩ := R.slots.val j d e1
      exact ⟨v, e2, p v H S ι R.base (fun _ _ q => q) (List.prefix_refl _) rd⟩
    | own o =>
      obtain ⟨a, h, e2, e3, ra, mi⟩ := R.slots.own j o e1
      exact ⟨_, e2, p _ H S ι R.base (fun _ _ q => q) (List.prefix_refl _) ⟨a, h, rfl, e3, ra, mi⟩⟩
theorem s_retN : PS X (.Return none pos) (TS1 X cad W (M.ret (.ret (.val .non)))) :=
  ps_mono ps_retN fun D σ H ⟨F, ρ, η, S, ι, R, p⟩ => p .non H S ι R.base (fun _ _ q => q) (List.prefix_refl _) rfl

/-! ### o[i] = e -/
def rSetD : V → V → V → Hp → (Hp → Prop) → Prop := fun o i v H Q => ∃ a H4, o = .ref a ∧ DPut H a i v H4 ∧ Q H4
theorem set_dict (hu : X.A.units + 1 < cLine) : PSet X rSetD := by
  intro pins s σ H o i v ov iv u Q I ro ri rv h
  obtain ⟨a, H4, rfl, g, q⟩ := h
  cases ro
  exact d_setItem hu I g ri rv fun s4 I4 => ⟨H4, I4, q⟩
theorem PSet.or {t t' : TSet} (h : PSet X t) (h' : PSet X t') : PSet X (fun o i v H Q => t o i v H Q ∨ t' o i v H Q) := by
  intro pins s σ H o i v ov iv u Q I ro ri rv q
  rcases q with q | q
  · exact h pins s σ H o i v ov iv u Q I ro ri rv q
  · exact h' pins s σ H o i v ov iv u Q I ro ri rv q
theorem setAct_of {F : Hp} {ρ : List Slot} {η : List AO} {σ : L2.St} {H S : Hp} {ι : List Addr} {ao ao' : AO} {h : HO} {a : Addr} {k d : D} {kv v : V} {Q : Hp → Prop} (R : Rel (gc X cad) F ρ η σ H S ι) (e1 : H a = some h) (ra : RelA (gc X cad) S ι ao h) (rk : RelD X.K S ι k kv) (rd : RelD X.K S ι d v) (e : setAct ao k d = some ao')
    (q : ∀ h', RelA (gc X cad) S ι ao' h' → Q (upd H a h')) : rSetL (.ref a) kv v H Q ∨ rSetD (.ref a) kv v H Q := by
  cases ao with
  | lst ds =>
    obtain ⟨vs, rfl, r⟩ := ra
    unfold setAct at e
    simp only at e
    split at e
    · rename_i i
      split at e
      · rename_i n en
        cases e
        cases (show kv = .int i from rk)
        exact .inl ⟨a, vs, i, n, rfl, rfl, e1, by rw [← r.length]; exact en, q _ ⟨_, rfl, r.set n rd⟩⟩
      · cases e
    · cases e
  | dK kvs =>
    obtain ⟨vs, rfl, r⟩ := ra
    unfold setAct at e
    simp only at e
    split at e
    · rename_i kk ek
      split at e
      · rename_i hz
        cases e
        refine .inr ⟨a, _, rfl, .inl ⟨vs, kk, e1, keyD_of rk ek, by rw [← r.length]; exact hz, rfl⟩, q _ ⟨_, rfl, r.put rd⟩⟩
      · cases e
    · cases e
  | dT kvs =>
    obtain ⟨vs, rfl, r⟩ := ra
    unfold setAct at e
    simp only at e
    split at e
    · rename_i kk ek
      split at e
      · rename_i hz
        cases e
        obtain ⟨b, eb, hb⟩ := keyT_of rk ek
        refine .inr ⟨a, _, rfl, .inr ⟨vs, kk, b, e1, eb, R.base.sub _ _ hb, by rw [← r.length]; exact hz, rfl⟩, q _ ⟨_, rfl, r.put rd⟩⟩
      · cases e
    · cases e
  | ins c fs => cases e
/-- from the target on -/
theorem setI_at {F : Hp} {ρ : List Slot} {η : List AO} {σ : L2.St} {H S : Hp} {ι : List Addr} {t : Tgt} {a : Addr} {k d : D} {kv v : V} {D : Ends} (R : Rel (gc X cad) F ρ η σ H S ι) (ht : TgtAt ρ σ ι t a) (rk : RelD X.K S ι k kv) (rd : RelD X.K S ι d v)
    (z : PostS (gc X cad) W F D S ι ((seen t ρ η).bind fun o => (M.opt (setAct o k d)).bind fun o' => (store t o').bind fun _ => M.ret .next)) : rSetL (.ref a) kv v H (fun H3 => D.nx σ H3) ∨ rSetD (.ref a) kv v H (fun H3 => D.nx σ H3) := by
  have key : ∃ ao h ao', seen t ρ η = .ok ao ρ η ∧ H a = some h ∧ RelA (gc X cad) S ι ao h ∧ setAct ao k d = some ao' ∧ PostS (gc X cad) W F D S ι ((store t ao' ρ η).bind fun _ => M.ret .next) := by
    have step : ∀ ao, PostS (gc X cad) W F D S ι (((M.opt (setAct ao k d)).bind fun o' => (store t o').bind fun _ => M.ret .next) ρ η) → ∃ ao', setAct ao k d = some ao' ∧ PostS (gc X cad) W F D S ι ((store t ao' ρ η).bind fun _ => M.ret .next) := fun ao y => by
      unfold M.bind M.opt at y
      cases es : setAct ao k d with
      | none => rw [es] at y; exact y.elim
      | some ao' => rw [es] at y; exact ⟨ao', rfl, y⟩
    cases t with
    | slot j =>
      unfold seen at z ⊢
      simp only at z ⊢
      cases e : ρ[j]? with
      | none => rw [e] at z; exact z.elim
      | some s =>
        rw [e] at z
        cases s with
        | own ao =>
          obtain ⟨b, h, e2, e3, r, m⟩ := R.slots.own j ao e
          rw [show σ[j]? = some (some (V.ref a)) from ht] at e2
          cases e2
          obtain ⟨ao', s1, s2⟩ := step ao z
          exact ⟨ao, h, ao', rfl, e3, r, s1, s2⟩
        | un => exact z.elim
        | val d => exact z.elim
    | «at» n =>
      unfold seen at z ⊢
      simp only at z ⊢
      cases e : η[n]? with
      | none => rw [e] at z; exact z.elim
      | some ao =>
        rw [e] at z
        obtain ⟨b, h, e2, e3, r⟩ := R.base.heap n ao e
        rw [show ι[n]? = some a from ht] at e2
        cases e2
        obtain ⟨ao', s1, s2⟩ := step ao z
        exact ⟨ao, h, ao', rfl, e3, r, s1, s2⟩
  obtain ⟨ao, h, ao', e0, e1, ra, ea, z⟩ := key
  refine setAct_of R e1 ra rk rd ea fun h' rh => ?_
  cases t with
  | slot j =>
    unfold seen at e0
    simp only at e0
    cases e : ρ[j]? with
    | none => rw [e] at e0; cases e0
    | some s =>
      rw [e] at e0
      cases s with
      | own x => exact z σ _ S ι (R.writeOwn e ht rh) (fun _ _ q => q) (List.prefix_refl _)
      | un => cases e0
      | val d => cases e0
  | «at» n => exact z σ _ S ι (R.write ht rh) (fun _ _ q => q) (List.prefix_refl _)
end
end Mp

/-! the evaluator is right: stores by index, loops -/
namespace Mp
open PySem L2

section
variable {X : Cx} {cad : Nat → Addr} {W : WX}
variable {st : Stmt} {sts rest : List Stmt} {e o i c : Expr} {me ma mi : M RV} {pos pos' : Pos} {x : Str} {j : Nat}
theorem Slots.hasSt {F : Hp} {ρ : List Slot} {η : List AO} {σ : L2.St} {H S : Hp} {ι : List Addr} {k : Unit → M Fl} {D : Ends} (T : Slots (gc X cad) F ρ σ H S ι) (p : PostS (gc X cad) W F D S ι ((hasS j ρ η).bind k)) :
    (∃ v, σ[j]? = some (some v)) ∧ PostS (gc X cad) W F D S ι (k () ρ η) := by
  unfold hasS at p
  cases e : ρ[j]? with
  | none => rw [e] at p; exact p.elim
  | some s =>
    rw [e] at p
    cases s with
    | un => exact p.elim
    | val d => obtain ⟨v, h, _⟩ := T.val j d e; exact ⟨⟨v, h⟩, p⟩
    | own o => obtain ⟨x, h, e2, _⟩ := T.own j o e; exact ⟨⟨_, e2⟩, p⟩
theorem tgtVar_st {F : Hp} {ρ : List Slot} {η : List AO} {σ : L2.St} {H S : Hp} {ι : List Addr} {kk : Tgt → M Fl} {D : Ends} (R : Rel (gc X cad) F ρ η σ H S ι)
    (p : PostS (gc X cad) W F D S ι ((tgtVar j ρ η).bind kk)) : ∃ t a, σ[j]? = some (some (.ref a)) ∧ TgtAt ρ σ ι t a ∧ PostS (gc X cad) W F D S ι (kk t ρ η) := by
  unfold tgtVar at p
  cases e : ρ[j]? with
  | none => rw [e] at p; exact p.elim
  | some s =>
    rw [e] at p
    cases s with
    | un => exact p.elim
    | val d =>
      cases d <;> first | (exact p.elim) | skip
      obtain ⟨v, e2, x, e3, rfl⟩ := R.slots.val j _ e
      exact ⟨.at _, x, e2, e3, p⟩
    | own o =>
      obtain ⟨x, h, e2, _⟩ := R.slots.own j o e
      exact ⟨.slot j, x, e2, e2, p⟩
theorem tgtD_st {F : Hp} {ρ : List Slot} {η : List AO} {σ : L2.St} {S : Hp} {ι : List Addr} {d : D} {v : V} {kk : Tgt → M Fl} {D : Ends} (r : RelD X.K S ι d v)
    (p : PostS (gc X cad) W F D S ι ((tgtD d ρ η).bind kk)) : ∃ t a, v = .ref a ∧ TgtAt ρ σ ι t a ∧ PostS (gc X cad) W F D S ι (kk t ρ η) := by
  cases d <;> first | (exact p.elim) | skip
  obtain ⟨x, e, rfl⟩ := r
  exact ⟨.at _, x, rfl, e, p⟩
theorem s_setIV (hu : X.A.units + 1 < cLine) (he : PE X e (TR X cad W me)) (ho : PE X o (tVar j)) (hi : PE X i (TR X cad W mi)) {hg : PG X (.Subscript o i pos') (gSub (tVar j) (TD X cad W (mi.bind frz)) fun o i v H Q => rSetL o i v H Q ∨ rSetD o i v H Q)}
    (hp : PS X st (tAsg (TD X cad W (me.bind frz)) (gSub (tVar j) (TD X cad W (mi.bind frz)) fun o i v H Q => rSetL o i v H Q ∨ rSetD o i v H Q))) : PS X st (TS1 X cad W (setIE (some j) me ma mi)) := by
  refine ps_mono hp fun D σ H ⟨F, ρ, η, S, ι, R, p⟩ => ⟨F, ρ, η, S, ι, R, PostS.thn p fun v H1 d ρ1 η1 S1 ι1 R1 s1 p1 q1 z => ?_⟩
  obtain ⟨⟨y, hy⟩, z⟩ := R1.slots.hasSt z
  refine ⟨y, hy, F, ρ1, η1, S1, ι1, R1, PostS.thn z fun kv H2 k ρ2 η2 S2 ι2 R2 s2 p2 q2 z2 => ?_⟩
  obtain ⟨t, a, e2, ht, z3⟩ := tgtVar_st R2 z2
  rw [hy] at e2
  cases e2
  exact setI_at R2 ht q2 (RelD.mono s2 p2 q1) z3
theorem s_setIG (hp : PS X st (tAsg (TD X cad W (me.bind frz)) (gSub (TD X cad W (ma.bind frz)) (TD X cad W (mi.bind frz)) fun o i v H Q => rSetL o i v H Q ∨ rSetD o i v H Q))) : PS X st (TS1 X cad W (setIE none me ma mi)) := by
  refine ps_mono hp fun D σ H ⟨F, ρ, η, S, ι, R, p⟩ => ⟨F, ρ, η, S, ι, R, PostS.thn p fun v H1 d ρ1 η1 S1 ι1 R1 s1 p1 q1 z => ⟨F, ρ1, η1, S1, ι1, R1, PostS.thn z fun w H2 y ρ2 η2 S2 ι2 R2 s2 p2 q2 z2 => ⟨F, ρ2, η2, S2, ι2, R2, PostS.thn z2 fun kv H3 k ρ3 η3 S3 ι3 R3 s3 p3 q3 z3 => ?_⟩⟩⟩
  obtain ⟨t, a, rfl, ht, z4⟩ := tgtD_st (X := X) (σ := σ) (RelD.mono s3 p3 q2) z3
  exact setI_at R3 ht q3 (RelD.mono (s2.trans s3) (p2.trans p3) q1) z4

/-! ### loops -/
/-- a loop's turn: what is wanted behind the body -/
theorem PostS.loop {F : Hp} {D : Ends} {S : Hp} {ι : List Addr} {r : R Fl} {k : Fl → M Fl} {N : L2.St → Hp → Prop} (h : PostS (gc X cad) W F D S ι (r.bind k)) (h1 : k .cnt = k .next) (h2 : k .brk = M.ret .next) (h3 : ∀ r, k (.ret r) = M.ret (.ret r))
    (hN : ∀ ρ' η' σ' H' S' ι', Rel (gc X cad) F ρ' η' σ' H' S' ι' → Same S S' → ι <+: ι' → PostS (gc X cad) W F D S' ι' (k .next ρ' η') → N σ' H') : PostS (gc X cad) W F { D with nx := N, ct := N, bk := D.nx } S ι r := by
  cases r with
  | ok f ρ η =>
    cases f with
    | next => exact fun σ' H' S' ι' R s p => hN ρ η σ' H' S' ι' R s p (PostS.anti (r := k .next ρ η) s p h)
    | cnt =>
      have h : PostS (gc X cad) W F D S ι (k .next ρ η) := by rw [← h1]; exact h
      exact fun σ' H' S' ι' R s p => hN ρ η σ' H' S' ι' R s p (PostS.anti s p h)
    | brk =>
      have h : PostS (gc X cad) W F D S ι (M.ret .next ρ η) := by rw [← h2]; exact h
      exact h
    | ret r =>
      have h : PostS (gc X cad) W F D S ι (M.ret (.ret r) ρ η) := by rw [← h3]; exact h
      exact h
  | exc c fs ρ η => exact h
  | fail => exact h
theorem s_for {tgE iter : Expr} {body : List Stmt} {tg : Tg} {mw : M (List D)} {mb : M Fl} (hp : PassesOwn (model X.prog X.w) X.A X.env X.xe) (hc : X.calm = true) (hi : PI X tgE iter (TIt X cad W mw)) (hg : PG X tgE (tgG X.K tg)) (hb : PSs X body (TS1 X cad W mb))
    (hs : ∀ x, foldedSetIterable iter X.env x = pure x) : PS X (.For tgE iter body [] pos) (TS1 X cad W (mw.bind fun items => forGo tg.put mb items)) := by
  refine ps_mono (ps_for hp hc hi hg hb hs) fun D σ H ⟨F, ρ, η, S, ι, R, p⟩ => ⟨F, ρ, η, S, ι, R, PostS.thn p fun J H1 items ρ1 η1 S1 ι1 R1 s1 p1 g z => ?_⟩
  refine ⟨fun i m σ' H' => m = items.length - i ∧ i ≤ items.length ∧ ∃ ρi ηi Si ιi, Rel (gc X cad) F ρi ηi σ' H' Si ιi ∧ Same S1 Si ∧ ι1 <+: ιi ∧ PostS (gc X cad) W F D Si ιi (forGo tg.put mb (items.drop i) ρi ηi),
    ⟨items.length, by simp, Nat.zero_le _, ρ1, η1, S1, ι1, R1, fun _ _ q => q, List.prefix_refl _, by rw [List.drop_zero]; exact z⟩, ?_⟩
  rintro i m σ' H' ⟨rfl, hi', ρi, ηi, Si, ιi, Ri, si, pi, zi⟩
  have subI : Same S1 H' := si.trans Ri.base.sub
  by_cases hlt : i < items.length
  · refine .inr ⟨g.go i H' subI hlt, fun σ'' H'' => ∃ ρi ηi Si ιi, Rel (gc X cad) F ρi ηi σ'' H'' Si ιi ∧ Same S1 Si ∧ ι1 <+: ιi ∧ PostS (gc X cad) W F D Si ιi (forGo tg.put mb (items.drop (i + 1)) ρi ηi), fun σ'' H'' n => ⟨items.length - (i + 1), by omega, rfl, hlt, n⟩, fun x Hy hy => ?_⟩
    have hd : items.drop i = items[i] :: items.drop (i + 1) := List.drop_eq_getElem_cons hlt
    rw [hd] at zi
    unfold forGo at zi
    obtain ⟨Sy, Ry, sy, rx⟩ : ∃ Sy, Rel (gc X cad) F ρi ηi σ' Hy Sy ιi ∧ Same Si Sy ∧ RelD X.K Sy ιi items[i] x := by
      rcases g.yld i H' x Hy items[i] subI (List.getElem?_eq_getElem hlt) hy with ⟨rfl, rx⟩ | ⟨T, vs, ds, hT, rfl, rfl, ed, rs⟩
      · exact ⟨Si, Ri, fun _ _ q => q, rx.mono si pi⟩
      · have sm : Same Si (upd Si T (.tup vs)) := same_new (Ri.new hT).1.s
        refine ⟨_, Ri.still hT, sm, ?_⟩
        rw [ed]
        exact ⟨T, vs, rfl, upd_same, rs.mono (si.trans sm) pi⟩
    refine put_thn Ry rx (PostS.anti sy (List.prefix_refl _) zi) fun σ2 ρ2 R2 z2 => ⟨F, ρ2, ηi, Sy, ιi, R2, PostS.loop z2 rfl rfl (fun _ => rfl) fun ρ' η' σ'' H'' S' ι' R' s' p' z' => ⟨ρ', η', S', ι', R', si.trans (sy.trans s'), pi.trans p', z'⟩⟩
  · have e : i = items.length := by omega
    subst e
    rw [List.drop_length] at zi
    exact .inl ⟨g.stop _ H' subI (Nat.le_refl _), zi σ' H' Si ιi Ri (fun _ _ q => q) (List.prefix_refl _)⟩
theorem s_forR {tgE iter : Expr} {body : List Stmt} {tg : Tg} {me : M D} {mb : M Fl} (hp : PassesOwn (model X.prog X.w) X.A X.env X.xe) (hc : X.calm = true) (hi : PE X iter (TD X cad W me)) (hg : PG X tgE (tgG X.K tg)) (hb : PSs X body (TS1 X cad W mb))
    (hs : ∀ x, foldedSetIterable iter X.env x = pure x) : PS X (.For tgE iter body [] pos) (TS1 X cad W (me.bind fun d => refE tg.put mb d)) := by
  refine ps_mono (ps_for hp hc (pi_seq hi) hg hb hs) fun D σ H ⟨F, ρ, η, S, ι, R, p⟩ => ⟨F, ρ, η, S, ι, R, PostS.thn p fun v H1 d ρ1 η1 S1 ι1 R1 s1 p1 q1 z => ?_⟩
  cases d with
  | ref n =>
    obtain ⟨a, ha, rfl⟩ := q1
    have z : PostS (gc X cad) W F D S1 ι1 (refGo tg.put mb n fuelW 0 ρ1 η1) := z
    have seq : ∀ {ηi : List AO} {H' Si : Hp} {ιi : List Addr} {ds : List Mp.D}, Base (gc X cad) F ηi H' Si ιi → ι1 <+: ιi → ηi[n]? = some (.lst ds) → ∃ vs, SqL X.K H' a vs ∧ RelDs X.K Si ιi ds vs := fun {ηi H' Si ιi ds} B pr e => by
      obtain ⟨b, h, e1, e2, vs, rfl, r⟩ := B.heap n _ e
      obtain ⟨t, rfl⟩ := pr
      rw [List.getElem?_append_left (List.getElem?_eq_some_iff.mp ha).1, ha] at e1
      cases e1
      exact ⟨vs, .of e2, r⟩
    have h0 : ∃ ds, η1[n]? = some (.lst ds) := by
      unfold fuelW at z
      rw [show (1000000000000 : Nat) = 999999999999 + 1 from rfl] at z
      unfold refGo at z
      split at z
      · next ds e => exact ⟨ds, e⟩
      · exact z.elim
    obtain ⟨ds0, e0⟩ := h0
    obtain ⟨vs0, hv0, _⟩ := seq R1.base (List.prefix_refl _) e0
    refine .inl ⟨a, rfl, .inl ⟨⟨vs0, hv0⟩, ?_⟩⟩
    refine ⟨fun i m σ' H' => ∃ ρi ηi Si ιi, Rel (gc X cad) F ρi ηi σ' H' Si ιi ∧ ι1 <+: ιi ∧ PostS (gc X cad) W F D Si ιi (refGo tg.put mb n m i ρi ηi),
      ⟨fuelW, ρ1, η1, S1, ι1, R1, List.prefix_refl _, z⟩, ?_⟩
    rintro i m σ' H' ⟨ρi, ηi, Si, ιi, Ri, pi, zi⟩
    cases m with
    | zero => exact zi.elim
    | succ f =>
      unfold refGo at zi
      split at zi
      case h_2 => exact zi.elim
      next ds e =>
      obtain ⟨vs, hv, rs⟩ := seq Ri.base pi e
      cases hd : ds[i]? with
      | none =>
        rw [hd] at zi
        have hlen := rs.none hd
        exact .inl ⟨⟨vs, hv, by rw [List.getElem?_eq_none_iff] at hlen; exact hlen⟩, zi σ' H' Si ιi Ri (fun _ _ q => q) (List.prefix_refl _)⟩
      | some d =>
        rw [hd] at zi
        obtain ⟨v, hv1, hv2⟩ := rs.get hd
        refine .inr ⟨⟨vs, v, hv, hv1⟩, fun σ'' H'' => ∃ ρi ηi Si ιi, Rel (gc X cad) F ρi ηi σ'' H'' Si ιi ∧ ι1 <+: ιi ∧ PostS (gc X cad) W F D Si ιi (refGo tg.put mb n f (i + 1) ρi ηi), fun σ'' H'' n => ⟨f, Nat.lt_succ_self _, n⟩, fun x Hy hy => ?_⟩
        obtain ⟨rfl, hy2⟩ := hy
        have := hy2 vs hv
        rw [hv1] at this
        cases this
        refine put_thn Ri hv2 zi fun σ2 ρ2 R2 z2 => ⟨F, ρ2, ηi, Si, ιi, R2, PostS.loop z2 rfl rfl (fun _ => rfl) fun ρ' η' σ'' H'' S' ι' R' s' p' z' => ⟨ρ', η', S', ι', R', pi.trans p', z'⟩⟩
  | _ => exact z.elim
theorem s_while {mc : M Bool} {body : List Stmt} {mb : M Fl} {n : Nat} (hp : PassesOwn (model X.prog X.w) X.A X.env X.xe) (hc : PT X c (TTb X cad W mc)) (hb : PSs X body (TS1 X cad W mb)) : PS X (.While c body [] pos) (TS1 X cad W (whlGo mc mb n)) := by
  refine ps_mono (ps_while hp hc hb) fun D σ H ⟨F, ρ, η, S, ι, R, p⟩ => ?_
  refine ⟨fun m σ' H' => ∃ ρi ηi Si ιi, Rel (gc X cad) F ρi ηi σ' H' Si ιi ∧ PostS (gc X cad) W F D Si ιi (whlGo mc mb m ρi ηi), ⟨n, ρ, η, S, ι, R, p⟩, ?_⟩
  rintro m σ' H' ⟨ρi, ηi, Si, ιi, Ri, z⟩
  cases m with
  | zero => exact z.elim
  | succ m =>
    unfold whlGo at z
    refine ⟨F, ρi, ηi, Si, ιi, Ri, PostS.thn z fun b H1 b' ρ1 η1 S1 ι1 R1 s1 p1 q1 z1 => ?_⟩
    cases q1
    cases b with
    | true =>
      refine iteT ⟨fun σ'' H'' => ∃ ρi ηi Si ιi, Rel (gc X cad) F ρi ηi σ'' H'' Si ιi ∧ PostS (gc X cad) W F D Si ιi (whlGo mc mb m ρi ηi), fun σ'' H'' n => ⟨m, Nat.lt_succ_self _, n⟩, F, ρ1, η1, S1, ι1, R1, PostS.loop (k := fun f => match f with
        | .next => whlGo mc mb m
        | .cnt => whlGo mc mb m
        | .brk => M.ret .next
        | .ret r => M.ret (.ret r)) z1 rfl rfl (fun _ => rfl) fun ρ' η' σ'' H'' S' ι' R' s' p' z' => ⟨ρ', η', S', ι', R', z'⟩⟩
    | false => exact iteF (z1 σ' H1 S1 ι1 R1 (fun _ _ q => q) (List.prefix_refl _))
end
end Mp

/-! a tuple times an int, a few times or none -/
namespace Mp
open PySem L2 PySem.AutoSeq1

theorem tup_mul1 (l : Addr) (its : Array Value) (n : Nat) (dd : Option Addr) (u : Tok) (sl : Array (Option Value)) :
    Meets (Builtin.«tuple.__mul__» ⟨[.ref l, .int 1 u], []⟩) (fun _ R s => s.heap.get? l = some { cls := .type "tuple", dict := dd, data := .seq its n, slots := sl } ∧ R (.ok (.ret (Value.ref l))) s) :=
  .of_wp fun prog w A R s h => by
    obtain ⟨hp, g, d, tk, os⟩ := s
    obtain ⟨hl, h⟩ := h
    have f1 := AutoSeq1.idx_int
    wp_walk using wpAny_loadPart' hl
    exact ⟨_, rfl, h⟩
theorem tup_mul0 (l : Addr) (its : Array Value) (n : Nat) (dd : Option Addr) (x : Int) (u : Tok) (sl : Array (Option Value)) (c0 : (decide (x < -(2 ^ 63)) || decide (x ≥ 2 ^ 63)) = false) (c1 : (its.isEmpty || x == 1) = false) (c2 : (decide (x ≤ 0) || its.isEmpty) = true) :
    Meets (Builtin.«tuple.__mul__» ⟨[.ref l, .int x u], []⟩) (fun _ R s => s.heap.get? l = some { cls := .type "tuple", dict := dd, data := .seq its n, slots := sl } ∧
      R (.ok (.ret (Value.ref s.heap.objs.size))) { s with heap := s.heap.push { cls := Value.type "tuple", data := Data.seq #[] }, toks := s.toks }) :=
  .of_wp fun prog w A R s h => by
    obtain ⟨hp, g, d, tk, os⟩ := s
    obtain ⟨hl, h⟩ := h
    have f1 := AutoSeq1.idx_int
    wp_walk using wpAny_loadPart' hl
    repeat (first
      | (refine wpAny_ite_false (decide_eq_false (by rw [c0]; exact Bool.false_ne_true)) ?_; wp_walk using wpAny_loadPart' hl)
      | (refine wpAny_ite_false (decide_eq_false (by rw [c1]; exact Bool.false_ne_true)) ?_; wp_walk using wpAny_loadPart' hl)
      | (refine wpAny_ite_true (decide_eq_true c2) ?_; wp_walk using wpAny_loadPart' hl))
    exact ⟨_, rfl, h⟩
def rRepT (K : PySem.W.Frag) : R2 := fun x y H Q => ∃ l k xs, x = .ref l ∧ y = .int k ∧ SqT K H l xs ∧ xs ≠ [] ∧ -(2 ^ 62) ≤ k ∧ k ≤ 1000 ∧ xs.length ≤ 1000 ∧ (k = 1 → Q (.ref l) H) ∧ (k ≤ 0 → ∀ p, H p = none → Q (.ref p) (upd H p (.tup []))) ∧
  (2 ≤ k → ∀ p, H p = none → Q (.ref p) (upd H p (.tup (List.replicate k.toNat xs).flatten)))
theorem op_repTg {X : Cx} : OpR X (binaryOp .Mult) (rRepT X.K) := by
  intro pins s σ H x y v u Q I rx ry h
  obtain ⟨l, k, xs, e1, e2, hT, hne, h1, h2, hz, q1, q0, q2⟩ := h
  by_cases hk : 2 ≤ k
  · exact L2.op_repT pins s σ H x y v u Q I rx ry ⟨l, k, xs, e1, e2, hT, hne, hk, h2, hz, q2 hk⟩
  · subst e1 e2
    cases rx
    obtain ⟨t, rfl⟩ := ry
    obtain ⟨its, r, ⟨⟨cls, dd, data, sl⟩, ho, hc, n, hd⟩, hs⟩ := I.tuple hT
    simp only at hc hd
    subst hc hd
    have hle : its.length = xs.length := r.length.symm
    have hi : its.toArray.isEmpty = false := by
      cases its with
      | nil => exact absurd (List.eq_nil_of_length_eq_zero hle.symm) hne
      | cons a b => rfl
    by_cases h3 : k = 1
    · subst h3
      exact PySem.wpAny_binaryOp_repeat_ref (T := "tuple") (U := "int") (by decide) ⟨_, ho, rfl⟩ (fun s' => PySem.typeIs_int s' 1 t) noFill_tuple_mul PySem.F.fills_int_mul PySem.F.slot_int_rmul repeat_tuple PySem.F.slot_int_index.lookup
        (PySem.call_meets PySem.F.slot_int_rmul (PySem.typeIs_int s 1 t) PySem.F.entry_int_rmul (PySem.F.args_int_rmul_2 _ _) (int_rmul_tuple 1 t l its.toArray n dd sl)
          ⟨ho, rfl, ⟨_, ho, rfl⟩, PySem.call_meets PySem.F.slot_tuple_mul ⟨_, ho, rfl⟩ PySem.F.entry_tuple_mul (PySem.F.args_tuple_mul_2 _ _) (tup_mul1 l its.toArray n dd t sl) ⟨ho, ⟨.ref l, H, I, rfl, q1 rfl⟩⟩⟩)
    · have h4 : k ≤ 0 := by omega
      have c0 : (decide (k < -(2 ^ 63)) || decide (k ≥ 2 ^ 63)) = false := by
        rw [decide_eq_false (by omega), decide_eq_false (by omega)]
        rfl
      have c1 : (its.toArray.isEmpty || k == 1) = false := by
        rw [hi, Bool.false_or]
        exact beq_eq_false_iff_ne.mpr h3
      have c2 : (decide (k ≤ 0) || its.toArray.isEmpty) = true := by
        rw [decide_eq_true h4]
        rfl
      refine PySem.wpAny_binaryOp_repeat_ref (T := "tuple") (U := "int") (by decide) ⟨_, ho, rfl⟩ (fun s' => PySem.typeIs_int s' k t) noFill_tuple_mul PySem.F.fills_int_mul PySem.F.slot_int_rmul repeat_tuple PySem.F.slot_int_index.lookup
        (PySem.call_meets PySem.F.slot_int_rmul (PySem.typeIs_int s k t) PySem.F.entry_int_rmul (PySem.F.args_int_rmul_2 _ _) (int_rmul_tuple k t l its.toArray n dd sl)
          ⟨ho, rfl, ⟨_, ho, rfl⟩, PySem.call_meets PySem.F.slot_tuple_mul ⟨_, ho, rfl⟩ PySem.F.entry_tuple_mul (PySem.F.args_tuple_mul_2 _ _) (tup_mul0 l its.toArray n dd k t sl c0 c1 c2) ⟨ho, ?_⟩⟩)
      refine ⟨.ref s.heap.objs.size, _, I.laid (t' := s.toks) (o := .tup []) (fun b ob q => Heap.get?_push_of_some _ q) (Nat.le_refl _) ?_, rfl, q0 h4 _ (I.hok.fresh (Nat.le_refl _))⟩
      exact ⟨Nat.zero_le _, [], .nil, PyProof.Rows.IsTup.new _ _⟩
section
variable {X : Cx} {cad : Nat → Addr}
theorem ok_mul : Ok2 X cad (binD .mul) (fun x y H Q => rI CMul (fun i j => V.int (i * j)) x y H Q ∨ rRep x y H Q ∨ rRepT X.K x y H Q) := by
  refine ok_mul_ fun F ρ η σ H S ι ds k v w z Q R q1 q2 q3 q4 => ?_
  unfold binD at q3
  simp only at q3
  split at q3
  · rename_i hz
    cases q3
    cases (show w = .int k from q2)
    obtain ⟨p, vs, rfl, h1, r1⟩ := q1
    refine ⟨p, k, vs, rfl, rfl, .of (R.base.sub _ _ h1), fun e => hz.1 (List.eq_nil_of_length_eq_zero (by rw [r1.length, e]; rfl)), hz.2.2.1, hz.2.1, by rw [← r1.length]; exact hz.2.2.2, fun e => ?_, fun e a ha => ?_, fun e a ha => ?_⟩
    · subst e
      refine q4.here R ?_
      rw [show (List.replicate (1 : Int).toNat ds).flatten = ds by simp]
      exact ⟨p, vs, rfl, h1, r1⟩
    · rw [show k.toNat = 0 by omega] at q4
      exact q4.tup R ha RelDs.nil
    · exact q4.tup R ha (r1.rep _)
  · cases q3
end
end Mp

/-! enumerate of a tuple -/
namespace Mp
open PySem L2 PySem.Spec
open PyProof.Rows hiding St

theorem enum_newT (l : Addr) (its : Array Value) (n : Nat) (dd : Option Addr) (sl : Array (Option Value)) :
    Meets (Builtin.«enumerate.__new__» ⟨[.type "enumerate", .ref l], []⟩) (fun _ R s => s.heap.get? l = some { cls := .type "tuple", dict := dd, data := .seq its n, slots := sl } ∧
      R (.ok (.ret (.ref (s.heap.push { cls := .type "tuple_iterator", data := .fields #[.ref l, .int 0 0] }).objs.size)))
        { s with heap := (s.heap.push { cls := .type "tuple_iterator", data := .fields #[.ref l, .int 0 0] }).push { cls := .type "enumerate", data := .fields #[.none, .bool false, .ref s.heap.objs.size, rawInt 0, .none, .none] } }) :=
  .of_wp fun prog w A R s h => by
    obtain ⟨hp, g, d, tk, os⟩ := s
    obtain ⟨hl, h⟩ := h
    have hsub := PySem.sub_enumerate
    have hL : Heap.IsTuple (Shared.heap ⟨hp, g, d, tk, os⟩) l its := ⟨_, hl, rfl, n, rfl⟩
    wp_walk using wpAny_loadPart' hl
    refine wpAny_stack_any fun st => wpAny_pure ?_
    split
    · rename_i c _ _ _ _ _
      cases (c == Value.type "enumerate")
      · wp_walk using wpAny_loadPart' hl, wpAny_pyIter_tuple hL
        exact ⟨_, rfl, h⟩
      · wp_walk using wpAny_loadPart' hl, wpAny_pyIter_tuple hL
        exact ⟨_, rfl, h⟩
    · wp_walk using wpAny_loadPart' hl, wpAny_pyIter_tuple hL
      exact ⟨_, rfl, h⟩
section
variable {prog : Program} {w : World} {A : Around} {E : Value → Shared → Prop} {s : Shared}
theorem call_enum_tup {l : Addr} {items : Array Value} {Q : Value → Shared → Prop} (hL : s.heap.IsTuple l items)
    (h : ∀ h', IsEnum h' (s.heap.objs.size + 1) s.heap.objs.size 0 .none → h'.IsTupleIter s.heap.objs.size l 0 → (∀ b o, s.heap.get? b = some o → h'.get? b = some o) → Q (.ref (s.heap.objs.size + 1)) { s with heap := h' }) :
    wpAny (model prog w) A (call (.type "enumerate") [.ref l]) Q E s := by
  obtain ⟨⟨c, dct, dt, sl⟩, hl, hc, n, hd⟩ := hL
  replace hc : c = .type "tuple" := hc
  replace hd : dt = .seq items n := hd
  subst hc hd
  refine callType_new F.called_enumerate (by decide) (F.typeCall_enumerate_1 _) (F.newCall_enumerate_1 _) (fun obj => F.args_object_init_2 obj _) F.entry_enumerate_new (enum_newT l items n dct sl) ⟨hl, ?_⟩
  have hz : (s.heap.push { cls := .type "tuple_iterator", data := .fields #[.ref l, .int 0 0] }).objs.size = s.heap.objs.size + 1 := Heap.size_push ..
  show _ ∧ _
  rw [hz]
  have he : IsEnum ((s.heap.push { cls := .type "tuple_iterator", data := .fields #[.ref l, .int 0 0] }).push { cls := .type "enumerate", data := .fields #[.none, .bool false, .ref s.heap.objs.size, rawInt 0, .none, .none] }) (s.heap.objs.size + 1) s.heap.objs.size 0 .none := by
    have := Heap.get?_push_size (s.heap.push { cls := .type "tuple_iterator", data := .fields #[.ref l, .int 0 0] }) (o := { cls := .type "enumerate", data := .fields #[.none, .bool false, .ref s.heap.objs.size, rawInt 0, .none, .none] }) rfl
    rw [hz] at this
    exact this
  exact ⟨⟨_, he, rfl⟩, h _ he ⟨_, Heap.get?_push_of_some _ (Heap.get?_push_size _ rfl), rfl, rfl⟩ fun b o x => Heap.get?_push_of_some _ (Heap.get?_push_of_some _ x)⟩
end

/-- enumerate of the tuple at a -/
def IteT (K : PySem.W.Frag) (a : Addr) : It :=
  ⟨fun i H => ∃ (xs : List V) (x : V), SqT K H a xs ∧ xs[i]? = some x, fun i H v H' => ∃ T x, v = .ref T ∧ H T = none ∧ H' = upd H T (.tup [.int (i : Nat), x]) ∧ ∀ xs, SqT K H a xs → xs[i]? = some x, fun i H => ∃ xs : List V, SqT K H a xs ∧ xs.length ≤ i⟩
theorem turn_enumT {P : Program} {w : World} {K : PySem.W.Frag} {elts : List Expr} {kk : Nat} {tpos : Pos} (a e it : Addr) :
    Turn P w K (.Tuple elts kk tpos) (IteT K a) [e, it] e (fun i h => (∃ old, IsEnum h e it ((i : Nat) : Int) old) ∧ h.IsTupleIter it a i ∧ e ≠ it ∧ a ≠ it ∧ a ≠ e) where
  mem := by simp
  obj := fun i h st b hb => by
    obtain ⟨⟨old, he⟩, ⟨o, ho, hc, hd⟩, _⟩ := st
    have e' : b = e ∨ b = it := by simpa using hb
    rcases e' with z | z
    · rw [z]; exact ⟨_, he, fun v q => nomatch q⟩
    · rw [z]; exact ⟨o, ho, fun v q => by rw [hd] at q; cases q⟩
  keep := fun i h h' st k => by
    obtain ⟨⟨old, he⟩, hi, hne⟩ := st
    exact ⟨⟨old, k e (by simp) _ he⟩, hi.at fun o q => k it (by simp) o q, hne⟩
  item := by
    intro X hP hw hK hc i pins s σ H E I hf st hg
    subst hP hw hK
    obtain ⟨⟨old, he⟩, hit, hne, hai, hae⟩ := st
    obtain ⟨xs, x, hq, hx⟩ := hg
    obtain ⟨its, rv, p, hz⟩ := I.tuple hq
    obtain ⟨u, hu, ru⟩ := rv.get hx
    have hel : e < s.heap.objs.size := Heap.lt_size he
    have hil : it < s.heap.objs.size := by obtain ⟨_, q, _⟩ := hit; exact Heap.lt_size q
    have pt : s.heap.IsTuple a its.toArray := p
    have lt : i < its.toArray.size := by
      have := (List.getElem?_eq_some_iff.mp hu).1
      simpa using this
    have Dr := PySem.Draws.tuple (prog := X.prog) (w := X.w) (A := X.A.in1) (I.ok.hd hc) it a hai its.toArray
    refine wpAny_pyNext_enum_itemD Dr he ⟨hit, pt⟩ lt hne (by simp [hne, Ne.symm hae]) fun y h' tk hy ho hit' hT hsz hk => ?_
    have ey : y = u := by
      have h1 : its.toArray[i]? = some u := by simpa using hu
      rw [h1] at hy
      exact (Option.some.inj hy).symm
    subst ey
    refine ⟨_, rfl, wpAny_letOwnedTupleGo_enum (s := { s with heap := h', toks := tk + 1 }) ho fun h'' he' sb => ?_⟩
    have hT2 : h''.get? s.heap.objs.size = some { cls := .type "tuple", data := .seq #[.int i tk, y] } := (sb.2 _ (Nat.ne_of_gt hel)).trans hT
    have new : ObjOk X.prog X.w (upd H s.heap.objs.size (.tup [.int (i : Nat), x])) h'' s.heap.objs.size (.tup [.int (i : Nat), x]) :=
      ⟨by show 2 ≤ sizeLine; decide, [.int i tk, y], .cons ⟨_, rfl⟩ (.cons ru .nil), ⟨_, hT2, rfl, _, rfl⟩⟩
    have I1 : Inv X pins σ (upd H s.heap.objs.size (.tup [.int (i : Nat), x])) { s with heap := h'', toks := tk + 1 } :=
      I.turnedNew (ch := [e, it]) (fun b ob hb q => (sb.2 b (fun z => hb (by simp [z]))).trans (hk b ob (fun z => hb (by simp [z])) (fun z => hb (by simp [z])) q)) hf (Nat.le_refl _) new
    refine ⟨.ref s.heap.objs.size, _, I1, rfl, ⟨_, x, rfl, I.hok.fresh (Nat.le_refl _), rfl, fun ys hy => by rw [I.tuple_inj hy hq]; exact hx⟩, ⟨⟨y, ?_⟩, hit'.1.at fun o q => (sb.2 it (Ne.symm hne)).trans q, hne, hai, hae⟩, fun b hb => ?_⟩
    · have e1 : ((i + 1 : Nat) : Int) = (i : Int) + 1 := by omega
      rw [e1]
      exact he'
    · have hb' : b < s.heap.objs.size := by
        have e' : b = e ∨ b = it := by simpa using hb
        rcases e' with z | z
        · rw [z]; exact hel
        · rw [z]; exact hil
      rw [upd_ne (Nat.ne_of_lt hb')]
      exact (hf b hb).1
  done := by
    intro X hP hw hK hc i pins s σ H E I hf st hg
    subst hP hw hK
    obtain ⟨⟨old, he⟩, hit, hne, hai, hae⟩ := st
    obtain ⟨xs, hq, hx⟩ := hg
    obtain ⟨its, rv, p, hz⟩ := I.tuple hq
    obtain ⟨f0, f1, f2, f3, f4, f5⟩ := hf it (by simp)
    have hl := rv.length
    have pt : s.heap.IsTuple a its.toArray := p
    unfold pyNext
    have hT : s.TypeIs (.ref e) "enumerate" := ⟨_, he, rfl⟩
    refine wpAny_bind (wpAny_attempt (wpAny_callSpecial?_slot (name := Str.ofString "__next__") hT F.slot_enumerate_next
      (wpAny_call_entry F.slot_enumerate_next hT F.entry_enumerate_next ?_ (F.args_enumerate_next_1 _))))
    show wpAny _ _ (field (.ref e) 2 >>= _) _ _ _
    refine wpAny_bind (wpAny_field he rfl (x := .ref it) rfl ?_)
    refine wpAny_bind (PySem.wpAny_nextOf_tuple_end (I.ok.hd hc) hit pt (by simp; omega) fun h' x he' hx' => ?_)
    obtain ⟨o, ho, hc'⟩ := hx'
    refine wpAny_bind (wpAny_isInstance (T := "StopIteration") (b := true) ⟨o, ho, hc'⟩ isSubtype_stop ?_)
    exact wpAny_pure ⟨rfl, I.turned (t' := s.toks) (fun b o hb q => he' b o hb q) f0 f1 f3 f4 f5⟩
  self := fun A i s Q E st h => by
    obtain ⟨⟨_, he⟩, _⟩ := st
    exact wpAny_pyIter_enum he h
def iEnA (K : PySem.W.Frag) (ta : TA) : TI := fun σ H R => ta σ H fun vs H1 => ∃ a, vs = [.ref a] ∧ (((∃ xs, SqL K H1 a xs) ∧ R (Ite K a) H1) ∨ ((∃ xs, SqT K H1 a xs) ∧ R (IteT K a) H1))
theorem pi_enumA {X : Cx} {e : Expr} {ta : TA} {p pos tpos : Pos} {elts : List Expr} {kk : Nat} (hg : Gl X "enumerate") (hm : X.mg "enumerate" = none) (ha : PA X [e] ta) (hs : starEach [e] X.env = [(false, eval e X.env)]) :
    PI X (.Tuple elts kk tpos) (.Call (.Name "enumerate" p) [e] [] pos) (iEnA X.K ta) := by
  refine ⟨fun pins s σ H R I h => ?_⟩
  refine Call_ (ld_blt I hg hm PyProof.Rows.boot_enumerate (PyProof.Rows.callWith_type1 (thn (ha.run pos pins s σ H _ I h) fun us s1 ⟨vs, H1, I1, r1, a, ex, q1⟩ => ?_) hs rfl))
  subst ex
  cases r1 with
  | cons r rr =>
    cases rr
    cases r
    have hle : ∀ b, b ∈ [s1.heap.objs.size + 1, s1.heap.objs.size] → FpOk X pins H1 b := fun b hb => by
      have e' : b = s1.heap.objs.size + 1 ∨ b = s1.heap.objs.size := by simpa using hb
      have hle : s1.heap.objs.size ≤ b := by
        rcases e' with z | z
        · rw [z]; exact Nat.le_add_right _ _
        · rw [z]; exact Nat.le_refl _
      exact I1.fpOk hle (I1.hok.fresh hle)
    rcases q1 with ⟨⟨xs, hq⟩, q⟩ | ⟨⟨xs, hq⟩, q⟩
    · obtain ⟨its, rv, p', hz⟩ := I1.list hq
      refine call_enumerate_list p'.isList fun h' he hit hsz hk => wpAny_pyIter_enum he ?_
      have I2 : Inv X pins σ H1 { s1 with heap := h' } := I1.kept (t' := s1.toks) hk
      exact ⟨s1.heap.objs.size + 1, [s1.heap.objs.size + 1, s1.heap.objs.size], _, _, H1, rfl, I2, turn_enum a (s1.heap.objs.size + 1) s1.heap.objs.size, ⟨⟨.none, he⟩, hit, Nat.succ_ne_self _⟩, hle, q⟩
    · obtain ⟨its, rv, p', hz⟩ := I1.tuple hq
      have la : a < s1.heap.objs.size := by obtain ⟨o, ho, _⟩ := id p'; exact Heap.lt_size ho
      refine call_enum_tup (show s1.heap.IsTuple a its.toArray from p') fun h' he hit hk => wpAny_pyIter_enum he ?_
      have I2 : Inv X pins σ H1 { s1 with heap := h' } := I1.kept (t' := s1.toks) hk
      exact ⟨s1.heap.objs.size + 1, [s1.heap.objs.size + 1, s1.heap.objs.size], _, _, H1, rfl, I2, turn_enumT a (s1.heap.objs.size + 1) s1.heap.objs.size, ⟨⟨.none, he⟩, hit, Nat.succ_ne_self _, Nat.ne_of_lt la, Nat.ne_of_lt (Nat.lt_succ_of_lt la)⟩, hle, q⟩
theorem gives_enumT {K : PySem.W.Frag} {S : Hp} {ι : List Addr} {ds : List D} {vs : List V} {a : Addr} (h : SqT K S a vs) (r : RelDs K S ι ds vs) : Gives K S ι (IteT K a) (enumD 0 ds) where
  go := fun i H s hi => ⟨vs, vs[i]'(by rw [← r.length, ← enumD_len ds 0]; exact hi), Same.sqt s h, List.getElem?_eq_getElem _⟩
  stop := fun i H s hi => ⟨vs, Same.sqt s h, by rw [← r.length, ← enumD_len ds 0]; exact hi⟩
  yld := fun i H x H' d s e ⟨T, x', e1, e2, e3, q⟩ => by
    rw [enumD_get] at e
    cases e4 : ds[i]? with
    | none => rw [e4] at e; cases e
    | some y =>
      rw [e4] at e
      cases e
      obtain ⟨v, h1, h2⟩ := r.get e4
      have this := q vs (Same.sqt s h)
      rw [h1] at this
      obtain rfl : v = x' := Option.some.inj this
      exact .inr ⟨T, [.int (i : Nat), v], [.int ((0 + i : Nat) : Int), y], e2, e3, e1, rfl, RelDs.cons (by rw [Nat.zero_add]; exact rfl) (RelDs.cons h2 RelDs.nil)⟩
section
variable {X : Cx} {cad : Nat → Addr} {W : WX} {a : Expr} {p pos : Pos} {ms : M (List D)}
theorem wEn_inv {ds items : List D} (e : wEn ds = some items) : ∃ xs, (ds = [.lst xs] ∨ ds = [.lck xs] ∨ ds = [.tup xs]) ∧ items = enumD 0 xs := by
  unfold wEn at e
  split at e
  · cases e; exact ⟨_, .inl rfl, rfl⟩
  · cases e; exact ⟨_, .inr (.inl rfl), rfl⟩
  · cases e; exact ⟨_, .inr (.inr rfl), rfl⟩
  · cases e
theorem s_wEn {elts : List Expr} {kk : Nat} {tpos : Pos} (hg : Gl X "enumerate") (hm : X.mg "enumerate" = none) (ha : PA X [a] (TDs X cad W ms)) (hs : starEach [a] X.env = [(false, eval a X.env)]) :
    PI X (.Tuple elts kk tpos) (.Call (.Name "enumerate" p) [a] [] pos) (TIt X cad W (ms.bind fun ds => M.opt (walkD .enum ds))) := by
  refine pi_mono (pi_enumA hg hm ha hs) fun σ H R ⟨F, ρ, η, S, ι, RR, p⟩ => ⟨F, ρ, η, S, ι, RR, PostM.thn p fun vs H1 ds ρ1 η1 S1 ι1 R1 s1 p1 q1 z => ?_⟩
  unfold M.opt at z
  cases e : walkD .enum ds with
  | none => rw [e] at z; exact z.elim
  | some items =>
    rw [e] at z
    obtain ⟨xs, h | h | h, rfl⟩ := wEn_inv e
    · subst h
      obtain ⟨v, rfl, p1, vs, rfl, h1, r1⟩ := RelDs.one q1
      exact ⟨p1, rfl, .inl ⟨⟨vs, .of (R1.base.sub _ _ h1)⟩, z _ H1 S1 ι1 R1 (fun _ _ q => q) (List.prefix_refl _) (gives_enum (.of h1) r1)⟩⟩
    · subst h
      obtain ⟨v, rfl, p1, vs, rfl, h1, r1⟩ := RelDs.one q1
      exact ⟨p1, rfl, .inl ⟨⟨vs, R1.base.sub.seq h1⟩, z _ H1 S1 ι1 R1 (fun _ _ q => q) (List.prefix_refl _) (gives_enum h1 r1)⟩⟩
    · subst h
      obtain ⟨v, rfl, p1, vs, rfl, h1, r1⟩ := RelDs.one q1
      exact ⟨p1, rfl, .inr ⟨⟨vs, .of (R1.base.sub _ _ h1)⟩, z _ H1 S1 ι1 R1 (fun _ _ q => q) (List.prefix_refl _) (gives_enumT (.of h1) r1)⟩⟩
end
end Mp

/-! from the text to the evaluator's terms: names, lists of arguments -/
namespace Mp
open PySem L2

theorem ixOf_get {x : Str} : ∀ {N : List Str} {i : Nat}, ixOf x N = some i → N[i]? = some x
  | [], _, h => by cases h
  | y :: r, i, h => by
    unfold ixOf at h
    split at h
    · rename_i e
      cases h
      rw [e]
      rfl
    · cases e : ixOf x r with
      | none => rw [e] at h; cases h
      | some j =>
        rw [e] at h
        cases h
        exact ixOf_get (N := r) e
theorem plainN_of {x : Str} (h : plainN x = true) : (x == ("__debug__" : Str)) = false ∧ (x == ("__classdict__" : Str)) = false ∧ x ≠ ("__name__" : Str) := by
  unfold plainN at h
  simp only [Bool.and_eq_true, Bool.not_eq_true'] at h
  exact ⟨h.1.1, h.1.2, fun e => by rw [e] at h; exact absurd h.2 (by simp)⟩
theorem resN_slot {T : CT} {N : List Str} {sc : Scope} {x : Str} {i : Nat} (h : resN T N sc x = some (.slot i)) : plainN x = true ∧ N[i]? = some x ∧ Vis sc x := by
  unfold resN at h
  split at h
  · rename_i hp
    refine ⟨hp, ?_⟩
    have fin : ∀ {k}, sc.names.lookup x = some k → (ixOf x N).map Res.slot = some (.slot i) → N[i]? = some x := fun {k} _ e => by
      cases q : ixOf x N with
      | none => rw [q] at e; cases e
      | some j => rw [q] at e; cases e; exact ixOf_get q
    split at h
    · rename_i e; exact ⟨fin e h, .inl e⟩
    · rename_i e; exact ⟨fin e h, .inr (.inl e)⟩
    · rename_i e; exact ⟨fin e h, .inr (.inr e)⟩
    · split at h
      · cases h
      · split at h
        · cases h
        · split at h <;> cases h
    · cases h
  · cases h
theorem resN_fn {T : CT} {N : List Str} {sc : Scope} {x : Str} {f : Nat} (h : resN T N sc x = some (.fn f)) : plainN x = true ∧ T.funs[f]? = some x ∧ sc.names.lookup x = some .globalImplicit := by
  unfold resN at h
  split at h
  · rename_i hp
    have no : ∀ o : Option Nat, o.map Res.slot ≠ some (.fn f) := fun o e => by cases o <;> cases e
    split at h
    · exact absurd h (no _)
    · exact absurd h (no _)
    · exact absurd h (no _)
    · rename_i e
      split at h
      · rename_i q; cases h; exact ⟨hp, ixOf_get q, e⟩
      · split at h
        · cases h
        · split at h <;> cases h
    · cases h
  · cases h
theorem resN_cst {T : CT} {N : List Str} {sc : Scope} {x : Str} {d : D} (h : resN T N sc x = some (.cst d)) : plainN x = true ∧ T.consts.lookup x = some d ∧ sc.names.lookup x = some .globalImplicit := by
  unfold resN at h
  split at h
  · rename_i hp
    have no : ∀ o : Option Nat, o.map Res.slot ≠ some (.cst d) := fun o e => by cases o <;> cases e
    split at h
    · exact absurd h (no _)
    · exact absurd h (no _)
    · exact absurd h (no _)
    · rename_i e
      split at h
      · cases h
      · split at h
        · rename_i q; cases h; exact ⟨hp, q, e⟩
        · split at h <;> cases h
    · cases h
  · cases h
theorem resN_blt {T : CT} {N : List Str} {sc : Scope} {x b : Str} (h : resN T N sc x = some (.blt b)) : b = x ∧ plainN x = true ∧ x ∈ T.blts ∧ sc.names.lookup x = some .globalImplicit := by
  unfold resN at h
  split at h
  · rename_i hp
    have no : ∀ o : Option Nat, o.map Res.slot ≠ some (.blt b) := fun o e => by cases o <;> cases e
    split at h
    · exact absurd h (no _)
    · exact absurd h (no _)
    · exact absurd h (no _)
    · rename_i e
      split at h
      · cases h
      · split at h
        · cases h
        · split at h
          · rename_i q; cases h; exact ⟨rfl, hp, by simpa using q, e⟩
          · cases h
    · cases h
  · cases h
theorem starEach_of {e : Expr} {es : List Expr} {env : Env} (h : isSlice e = false) : starEach (e :: es) env = (false, eval e env) :: starEach es env := by
  cases e <;> first | rfl | cases h
theorem plain_of {pos : Pos} {env : Env} : ∀ {es : List Expr}, (∀ e ∈ es, isSlice e = false) → (backTo pos (starEach es env)).any (·.1) = false
  | [], _ => rfl
  | e :: es, h => by
    rw [starEach_of (h e List.mem_cons_self)]
    show (false || (backTo pos (starEach es env)).any (·.1)) = false
    rw [plain_of fun x hx => h x (List.mem_cons_of_mem _ hx)]
    rfl
theorem plainIx_of {e : Expr} (h : isSlice e = false) : PlainIx e := by
  cases e <;> first | exact fun _ _ => rfl | cases h
theorem few_of {pos : Pos} {env : Env} : ∀ {es : List Expr}, (∀ e ∈ es, isSlice e = false) → (backTo pos (starEach es env)).all (fun x => !x.1) = true
  | [], _ => rfl
  | e :: es, h => by
    rw [starEach_of (h e List.mem_cons_self)]
    show (true && (backTo pos (starEach es env)).all (fun x => !x.1)) = true
    rw [few_of fun x hx => h x (List.mem_cons_of_mem _ hx)]
    rfl
/-- a test by the value -/
theorem tt_of {X : Cx} {cad : Nat → Addr} {W : WX} {m : M RV} {σ : L2.St} {H : Hp} {Q : Bool → Hp → Prop} (h : TTb X cad W ((m.bind frz).bind boolD) σ H Q) : TR X cad W m σ H fun x H' => ∃ k, x = .bl k ∧ Q k H' := by
  obtain ⟨F, ρ, η, S, ι, R, p⟩ := h
  refine ⟨F, ρ, η, S, ι, R, ?_⟩
  rw [bind_assoc'] at p
  refine PostM.thn p fun v H1 r ρ1 η1 S1 ι1 R1 s1 p1 q1 z => ?_
  cases r with
  | val d =>
    cases d <;> first | (exact z.elim) | skip
    rename_i b
    exact ⟨b, q1, z b H1 S1 ι1 R1 (fun _ _ q => q) (List.prefix_refl _) rfl⟩
  | own o =>
    cases o <;> exact z.elim
section
variable {X : Cx} {cad : Nat → Addr} {W : WX} {T : CT} {Φ : Nat → Fn} {k : Nat}
/-- an expression's term is right: as a value, as a test, as a chain of tests, as a name -/
structure ES (X : Cx) (cad : Nat → Addr) (W : WX) (Φ : Nat → Fn) (e : Expr) (c : CE) : Prop where
  pe : PE X e (TR X cad W (evR Φ c))
  pt : isIf e = false → PT X e (TTb X cad W (((evR Φ c).bind frz).bind boolD))
  pw : ∀ op vs p, e = .BoolOp op vs p → PW X e (TTb X cad W (((evR Φ c).bind frz).bind boolD))
  pv : ∀ j, c.var? = some j → PE X e (tVar j)
  sl : isSlice e = false
theorem ES.of {e : Expr} {c : CE} (h : PE X e (TR X cad W (evR Φ c))) (he : ∀ whole, isTrue e X.env whole = (do let v ← whole; standAt e.pos; holding [v] (truthy v))) (hb : ∀ op vs p, e ≠ .BoolOp op vs p) (hs : isSlice e = false) (hv : c.var? = none) : ES X cad W Φ e c :=
  ⟨h, fun _ => s_test (s_bool (s_frz h)) he, fun op vs p z => absurd z (hb op vs p), fun j q => (by rw [hv] at q; cases q), hs⟩
theorem PE.wrap {e : Expr} {c : CE} {p : Pos} (h : PE X e (TR X cad W (evR Φ c))) : PE X e (TR X cad W (evR Φ (wrapB T p c))) := by
  unfold wrapB
  split
  · exact s_box h
  · exact h
theorem wrap_var {c : CE} {p : Pos} (h : c.var? = none) : (wrapB T p c).var? = none := by
  unfold wrapB
  split
  · rfl
  · exact h
theorem bnd {α β : Type} {o : Option α} {f : α → Option β} {c : β} (h : (o >>= f) = some c) : ∃ a, o = some a ∧ f a = some c := by
  cases o with
  | none => cases h
  | some a => exact ⟨a, rfl, h⟩
end
end Mp

/-! expressions: the terms are right -/
namespace Mp
open PySem L2
section
variable {X : Cx} {cad : Nat → Addr} {W : WX} {T : CT} {Φ : Nat → Fn} {k : Nat}
theorem mark_of {op : CmpOp} {n : Nat} {N : List Str} {sc : Scope} {b : Expr} {c : CE} (h : cE T N n sc b = some c) : behindInMarks op b = false := by
  cases b <;> first | rfl | skip
  cases n <;> (unfold cE at h; cases h)
theorem sl_of {n : Nat} {N : List Str} {sc : Scope} {b : Expr} {c : CE} (h : cE T N n sc b = some c) : isSlice b = false := by
  cases b <;> first | rfl | skip
  all_goals (cases n <;> (unfold cE at h; cases h))
theorem fold_of {n : Nat} {N : List Str} {sc : Scope} {b : Expr} {c : CE} {env : Env} (h : cE T N n sc b = some c) : ∀ x, foldedSetIterable b env x = pure x := by
  cases b <;> first | exact fun _ => rfl | skip
  cases n <;> (unfold cE at h; cases h)
theorem base_ne {id : Str} {p pos : Pos} {m : Str} {env : Env} {w : Sem Value} (h : (id != "super") = true) : attributeBase (.Call (.Name id p) [] [] pos) m env w = w := by
  unfold attributeBase
  simp only [h, Bool.true_or, if_true]
  try rfl
theorem base_of {n : Nat} {N : List Str} {sc : Scope} {b : Expr} {c : CE} {env : Env} {m : Str} (h : cE T N n sc b = some c) (hs : ("super" : Str) ∉ T.funs) : attributeBase b m env (eval b env) = eval b env := by
  cases b with
  | Call f args kws p =>
    cases f <;> first | rfl | skip
    cases args <;> first | rfl | skip
    cases kws <;> first | rfl | skip
    rename_i x xp
    refine base_ne ?_
    by_cases e : x = ("super" : Str)
    · subst e
      exfalso
      cases n with
      | zero => unfold cE at h; cases h
      | succ n =>
        unfold cE at h
        simp only at h
        split at h
        · rename_i q
          exact hs (List.mem_of_getElem? (resN_fn q).2.1)
        · split at h <;> cases h
        · cases h
    · simpa using e
  | _ => rfl
/-- names -/
theorem lk_fn {C : Ctx X cad W T Φ k} {x : Str} {f : Nat} (h : resN T X.N X.env.scope x = some (.fn f)) : ∃ fa np, X.mg x = some (.ref fa) ∧ FnFact X cad k fa np (Φ f) := C.funs f x (resN_fn h).2.1
theorem blt_of {x b : Str} (C : Ctx X cad W T Φ k) (h : resN T X.N X.env.scope x = some (.blt b)) : b = x ∧ Gl X x ∧ X.mg x = none ∧ x ≠ "__name__" ∧ (x == ("__debug__" : Str)) = false := by
  obtain ⟨e, hp, hm, hl⟩ := resN_blt h
  obtain ⟨h1, h2, h3⟩ := plainN_of hp
  exact ⟨e, hl, C.blts x hm, h3, h1⟩
theorem pe_v {x : Str} {i : Nat} {p : Pos} (h : resN T X.N X.env.scope x = some (.slot i)) : PE X (.Name x p) (tVar i) := by
  obtain ⟨hp, hN, hv⟩ := resN_slot h
  obtain ⟨h1, h2, h3⟩ := plainN_of hp
  exact pe_var hN hv h1 h2
theorem pe_k {x : Str} {d : D} {p : Pos} (C : Ctx X cad W T Φ k) (h : resN T X.N X.env.scope x = some (.cst d)) : PE X (.Name x p) (TR X cad W (M.ret (.val d))) := by
  obtain ⟨hp, hc, hl⟩ := resN_cst h
  obtain ⟨h1, h2, h3⟩ := plainN_of hp
  obtain ⟨v, u, m, r, rd⟩ := C.consts x d hc
  exact s_cst (pe_glob hl m r h1) rd
theorem hu64 (C : Ctx X cad W T Φ k) : X.A.units + 64 < cLine := C.room.units

/-! ### comparisons -/
def MC (o : COp) (ma mb : M D) : M RV := ma.bind fun x => mb.bind fun y => (M.opt (cmpD o x y)).bind fun r => M.ret (.val (.bl r))
theorem opt_bl {o : Option Bool} : (M.opt (blR o)) = (M.opt o).bind fun r => M.ret (.val (.bl r)) := by
  funext ρ η
  cases o <;> rfl
theorem MC_eq {o : COp} {ma mb : M D} : MC o ma mb = ma.bind fun x => mb.bind fun y => M.opt (blR (cmpD o x y)) := by
  unfold MC
  congr 1
  funext x
  congr 1
  funext y
  exact opt_bl.symm
/-- the rules of the plain comparisons -/
structure CmpR (X : Cx) (cad : Nat → Addr) (o : COp) (op : CmpOp) (r : R2) : Prop where
  op : OpR X (compareOp op) r
  ok : Ok2 X cad (fun d e => blR (cmpD o d e)) r
theorem cmpR_of (C : Ctx X cad W T Φ k) (op : CmpOp) (h1 : op ≠ .In) (h2 : op ≠ .NotIn) : ∃ r, CmpR X cad (cmpOf op) op r := by
  cases op with
  | Eq => exact ⟨_, op_eq.or (op_eqD (hu64 C)), ok_eq⟩
  | NotEq => exact ⟨_, op_ne.or (op_neD (hu64 C)), ok_ne⟩
  | Lt => exact ⟨_, op_lt, ok_lt⟩
  | LtE => exact ⟨_, op_le, ok_le⟩
  | Gt => exact ⟨_, op_gt, ok_gt⟩
  | GtE => exact ⟨_, op_ge, ok_ge⟩
  | Is => exact ⟨_, op_isN.or op_isBl, ok_is⟩
  | IsNot => exact ⟨_, op_notN.or op_notBl, ok_isnot⟩
  | In => exact absurd rfl h1
  | NotIn => exact absurd rfl h2
variable {a b c : Expr} {pos : Pos}
theorem ES.cmp {e : Expr} {c : CE} (h : PE X e (TR X cad W (evR Φ c))) (ht : PT X e (TTb X cad W (((evR Φ c).bind frz).bind boolD))) (hb : ∀ op vs p, e ≠ .BoolOp op vs p) (hs : isSlice e = false) (hv : c.var? = none) : ES X cad W Φ e c :=
  ⟨h, fun _ => ht, fun op vs p z => absurd z (hb op vs p), fun j q => (by rw [hv] at q; cases q), hs⟩
theorem s_cmp {op : CmpOp} {o : COp} {r : R2} {ma mb : M D} (R : CmpR X cad o op r) (ha : PE X a (TD X cad W ma)) (hb : PE X b (TD X cad W mb)) (hm : behindInMarks op b = false) :
    PE X (.Compare a [op] [b] pos) (TR X cad W (MC o ma mb)) ∧ PT X (.Compare a [op] [b] pos) (TTb X cad W (((MC o ma mb).bind frz).bind boolD)) := by
  have key : ∀ σ H Q, TR X cad W (MC o ma mb) σ H Q → tOp r (TD X cad W ma) (TD X cad W mb) σ H Q := fun σ H Q h => by
    rw [MC_eq] at h
    exact s_two R.ok σ H Q h
  exact ⟨pe_mono (pe_cmpR R.op ha hb hm) key, pt_mono (pt_cmpR R.op ha hb hm) fun σ H Q h => key σ H _ (tt_of h)⟩
theorem s_inB {ma : M D} {mv : M Vw} (C : Ctx X cad W T Φ k) (ha : PE X a (TD X cad W ma)) (hb : PE X b (TW X cad W mv)) (hm : behindInMarks .In b = false) {m : M RV} (e : m = ma.bind fun x => mv.bind fun v => (M.opt (inD x v)).bind fun r => M.ret (.val (.bl r))) :
    PE X (.Compare a [.In] [b] pos) (TR X cad W m) ∧ PT X (.Compare a [.In] [b] pos) (TTb X cad W ((m.bind frz).bind boolD)) := by
  subst e
  have R := op_in_str.or ((op_inD (X := X) C.hu).or op_in_seq)
  exact ⟨pe_mono (pe_cmpR R ha hb hm) fun σ H Q h => s_in σ H Q h, pt_mono (pt_cmpR R ha hb hm) fun σ H Q h => s_in σ H _ (tt_of h)⟩
theorem s_notinB {ma : M D} {mv : M Vw} (C : Ctx X cad W T Φ k) (ha : PE X a (TD X cad W ma)) (hb : PE X b (TW X cad W mv)) (hm : behindInMarks .NotIn b = false) {m : M RV} (e : m = ma.bind fun x => mv.bind fun v => (M.opt (inD x v)).bind fun r => M.ret (.val (.bl (!r)))) :
    PE X (.Compare a [.NotIn] [b] pos) (TR X cad W m) ∧ PT X (.Compare a [.NotIn] [b] pos) (TTb X cad W ((m.bind frz).bind boolD)) := by
  subst e
  have R := op_notIn_str.or ((op_notInD (X := X) C.hu).or op_notIn_seq)
  exact ⟨pe_mono (pe_cmpR R ha hb hm) fun σ H Q h => s_notin σ H Q h, pt_mono (pt_cmpR R ha hb hm) fun σ H Q h => s_notin σ H _ (tt_of h)⟩
theorem s_vwE {e : Expr} {c : CE} (h : ES X cad W Φ e c) : PE X e (TW X cad W (vwE c.var? (evR Φ c))) := by
  unfold vwE
  cases q : c.var? with
  | none => exact s_vw h.pe
  | some j => exact s_vwVar (h.pv j q)
/-- a < b < c -/
theorem s_chn {op op' : CmpOp} {o o' : COp} {r r' : R2} {ma mb mc : M D} (R : CmpR X cad o op r) (R' : CmpR X cad o' op' r') (ha : PE X a (TD X cad W ma)) (hb : PE X b (TD X cad W mb)) (hc : PE X c (TD X cad W mc)) (hm : behindInMarks op' c = false)
    {m : M RV} (e : m = ma.bind fun x => mb.bind fun y => (M.opt (cmpD o x y)).bind fun r => if r then mc.bind fun z => (M.opt (cmpD o' y z)).bind fun r' => M.ret (.val (.bl r')) else M.ret (.val (.bl false))) :
    PE X (.Compare a [op, op'] [b, c] pos) (TR X cad W m) ∧ PT X (.Compare a [op, op'] [b, c] pos) (TTb X cad W ((m.bind frz).bind boolD)) := by
  subst e
  have key : ∀ σ H Q, TR X cad W (ma.bind fun x => mb.bind fun y => (M.opt (cmpD o x y)).bind fun r => if r then mc.bind fun z => (M.opt (cmpD o' y z)).bind fun r' => M.ret (.val (.bl r')) else M.ret (.val (.bl false))) σ H Q → tChain r r' (TD X cad W ma) (TD X cad W mb) (TD X cad W mc) σ H Q := by
    intro σ H Q ⟨F, ρ, η, S, ι, Rl, p⟩
    refine ⟨F, ρ, η, S, ι, Rl, PostM.thn p fun v H1 x ρ1 η1 S1 ι1 R1 s1 p1 q1 z => ⟨F, ρ1, η1, S1, ι1, R1, PostM.thn z fun w H2 y ρ2 η2 S2 ι2 R2 s2 p2 q2 z2 => ?_⟩⟩
    have q1' := RelD.mono s2 p2 q1
    cases e : cmpD o x y with
    | none =>
      rw [e] at z2
      exact z2.elim
    | some b0 =>
      rw [e] at z2
      refine R.ok F ρ2 η2 σ H2 S2 ι2 x y v w (.val (.bl b0)) _ R2 q1' q2 (by show blR (cmpD o x y) = _; rw [e]; rfl) fun v' H' S' ι' Rq s' p' q' => ?_
      cases (show v' = .bl b0 from q')
      refine ⟨b0, rfl, ?_⟩
      cases b0 with
      | false => exact z2 _ H' S' ι' Rq s' p' rfl
      | true =>
        refine ⟨F, ρ2, η2, S', ι', Rq, PostM.thn (PostM.anti s' p' z2) fun u H3 zz ρ3 η3 S3 ι3 R3 s3 p3 q3 z3 => ?_⟩
        cases e3 : cmpD o' y zz with
        | none =>
          rw [e3] at z3
          exact z3.elim
        | some b3 =>
          rw [e3] at z3
          refine R'.ok F ρ3 η3 σ H3 S3 ι3 y zz w u (.val (.bl b3)) _ R3 (RelD.mono (s'.trans s3) (p'.trans p3) q2) q3 (by show blR (cmpD o' y zz) = _; rw [e3]; rfl) fun v4 H4 S4 ι4 R4 s4 p4 q4 => ?_
          exact z3 _ H4 S4 ι4 R4 s4 p4 q4
  have hm' : lastMarks [op, op'] [b, c] = false := hm
  exact ⟨pe_mono (pe_chain R.op R'.op ha hb hc hm') key, pt_mono (pt_chain R.op R'.op ha hb hc hm') fun σ H Q h => key σ H _ (tt_of h)⟩
end
end Mp

/-! expressions: calls of built-ins, methods, comprehensions -/
namespace Mp
open PySem L2
section
variable {X : Cx} {cad : Nat → Addr} {W : WX} {T : CT} {Φ : Nat → Fn} {k : Nat} {a b c : Expr} {pos p apos : Pos}
/-- the rule of a built-in of one argument -/
theorem s_bi1 (C : Ctx X cad W T Φ k) {x y : Str} {o : Bi} {m : M Vw} (h : resN T X.N X.env.scope x = some (.blt y)) (hb : biOf y = some o) (ha : PE X a (TW X cad W m)) (hs : isSlice a = false) :
    PE X (.Call (.Name x p) [a] [] pos) (TR X cad W (m.bind fun v => M.opt (bi1 o v))) := by
  obtain ⟨rfl, hg, hm, hn, hd⟩ := blt_of C h
  have hst : starEach [a] X.env = (false, eval a X.env) :: starEach [] X.env := starEach_of hs
  have hA : PA X [a] (tCons (TW X cad W m) tNil) := pa_cons ha pa_nil hst
  unfold biOf at hb
  split at hb
  · rename_i e; cases hb; subst e
    exact s_one (pe_callB (call_len_seq.or (call_len_str.or (call_lenD.or call_len_dT))) hg hm (by decide +kernel) hA hn hd hst rfl) ok_len
  split at hb
  · rename_i e; cases hb; subst e
    exact s_one (pe_callB call_abs hg hm (by decide +kernel) hA hn hd hst rfl) ok_abs
  split at hb
  · rename_i e; cases hb; subst e
    exact s_one (pe_callTy call_int1 hg hm (by decide +kernel) hA hn hd hst rfl) ok_int
  split at hb
  · rename_i e; cases hb; subst e
    exact s_one (pe_callTy call_tuple_of hg hm (by decide +kernel) hA hn hd hst rfl) ok_tuple
  split at hb
  · rename_i e; cases hb; subst e
    exact s_one (pe_callTy call_list_of hg hm (by decide +kernel) hA hn hd hst rfl) ok_list
  split at hb
  · rename_i e; cases hb; subst e
    exact s_one (pe_callB (cr_sum C.calm) hg hm (by decide +kernel) hA hn hd hst rfl) ok_sum
  split at hb
  · rename_i e; cases hb; subst e
    exact s_one (pe_callB (cr_min C.calm) hg hm (by decide +kernel) hA hn hd hst rfl) ok_min
  split at hb
  · rename_i e; cases hb; subst e
    exact s_one (pe_callB (cr_max C.calm) hg hm (by decide +kernel) hA hn hd hst rfl) ok_max
  · cases hb
theorem s_bi2 (C : Ctx X cad W T Φ k) {x y : Str} {ma mb : M D} (h : resN T X.N X.env.scope x = some (.blt y)) (ha : PE X a (TD X cad W ma)) (hb : PE X b (TD X cad W mb)) (hs : isSlice a = false) (hs2 : isSlice b = false) :
    (y = "min" → PE X (.Call (.Name x p) [a, b] [] pos) (TR X cad W (ma.bind fun d => mb.bind fun d' => M.opt (bi2 .min d d')))) ∧ (y = "max" → PE X (.Call (.Name x p) [a, b] [] pos) (TR X cad W (ma.bind fun d => mb.bind fun d' => M.opt (bi2 .max d d')))) := by
  obtain ⟨rfl, hg, hm, hn, hd⟩ := blt_of C h
  have hst : starEach [a, b] X.env = (false, eval a X.env) :: starEach [b] X.env := starEach_of hs
  have hA : PA X [a, b] (tCons (TD X cad W ma) (tCons (TD X cad W mb) tNil)) := pa_cons ha (pa_cons hb pa_nil (starEach_of hs2)) hst
  have hpl : (backTo pos (starEach [b] X.env)).any (·.1) = false := plain_of fun z hz => by
    rw [List.mem_singleton] at hz
    subst hz
    exact hs2
  constructor
  · intro e; subst e
    exact s_min2 (pe_callB (call_min2 C.calm) hg hm (by decide +kernel) hA hn hd hst hpl)
  · intro e; subst e
    exact s_max2 (pe_callB (call_max2 C.calm) hg hm (by decide +kernel) hA hn hd hst hpl)
theorem pe_ty (C : Ctx X cad W T Φ k) {x y : Str} {t : Ty} (h : resN T X.N X.env.scope x = some (.blt y)) (ht : tyOf y = some t) : PE X (.Name x p) (tC (.ty (tyName t))) := by
  obtain ⟨rfl, hg, hm, hn, hd⟩ := blt_of C h
  unfold tyOf at ht
  split at ht
  · rename_i e; cases ht; subst e; exact pe_bltn (u := .type "int") hg hm (by decide +kernel) rfl hn hd
  split at ht
  · rename_i e; cases ht; subst e; exact pe_bltn (u := .type "bool") hg hm (by decide +kernel) rfl hn hd
  split at ht
  · rename_i e; cases ht; subst e; exact pe_bltn (u := .type "str") hg hm (by decide +kernel) rfl hn hd
  split at ht
  · rename_i e; cases ht; subst e; exact pe_bltn (u := .type "tuple") hg hm (by decide +kernel) rfl hn hd
  split at ht
  · rename_i e; cases ht; subst e; exact pe_bltn (u := .type "list") hg hm (by decide +kernel) rfl hn hd
  · cases ht
theorem s_isi (C : Ctx X cad W T Φ k) {x y u v : Str} {t : Ty} {m : M D} {p2 : Pos} (h : resN T X.N X.env.scope x = some (.blt y)) (hy : y = "isinstance") (h2 : resN T X.N X.env.scope u = some (.blt v)) (ht : tyOf v = some t) (ha : PE X a (TD X cad W m)) (hs : isSlice a = false) :
    PE X (.Call (.Name x p) [a, .Name u p2] [] pos) (TR X cad W (m.bind fun x => match [t].mapM (tyD x) with | some bs => M.ret (.val (.bl (bs.any id))) | none => M.fail)) := by
  obtain ⟨rfl, hg, hm, hn, hd⟩ := blt_of C h
  subst hy
  have hst : starEach [a, .Name u p2] X.env = (false, eval a X.env) :: starEach [.Name u p2] X.env := starEach_of hs
  exact s_isi1 (a := a) (pe_callB call_isi hg hm (by decide +kernel) (pa_cons ha (pa_cons (pe_ty C h2 ht) pa_nil rfl) hst) hn hd hst rfl)

/-! ### methods of lists -/
theorem s_mth {o : Expr} {co : CE} {m : Str} {l : LM} {ms : M (List D)} {es : List Expr} (ho : ES X cad W Φ o co) (hl : lmOf m = some l) (hbase : attributeBase o m X.env (eval o X.env) = eval o X.env) (hline : (apos.endLine == pos.line) = true) (hlen : es.length < 20) (hes : ∀ e ∈ es, isSlice e = false) (ha : PA X es (TDs X cad W ms)) (h0 : es = [] → ms = M.ret []) :
    PE X (.Call (.Attribute o m apos) es [] pos) (TR X cad W (mthE l co.var? (evR Φ co) ms)) := by
  have key : ∀ {id : String} {r : V → List V → Hp → VK → Prop} (slot : PySem.Slot "list" m id) (hty : typeOf (.builtin id) = pure (.type "method_descriptor")) (hm : MtR X id r) (ok : OkM X cad l r), PE X (.Call (.Attribute o m apos) es [] pos) (TR X cad W (mthE l co.var? (evR Φ co) ms)) := by
    intro id r slot hty hm ok
    have nil : ∀ σ H Q', TDs X cad W (M.ret []) σ H Q' → tNil σ H Q' := fun σ H Q' ⟨F, ρ, η, S, ι, R, p⟩ => p [] H S ι R (fun _ _ q => q) (List.prefix_refl _) RelDs.nil
    cases es with
    | nil =>
      rw [h0 rfl]
      cases q : co.var? with
      | some j => exact mth_var (tA := tNil) ok nil (pe_bm0 PySem.F.plainAttrs_list slot hty hm (ho.pv j q) hbase hline)
      | none => exact mth_gen (tA := tNil) ok nil (pe_bm0 PySem.F.plainAttrs_list slot hty hm (s_frz ho.pe) hbase hline)
    | cons e es =>
      have hst : starEach (e :: es) X.env = (false, eval e X.env) :: starEach es X.env := starEach_of (hes e List.mem_cons_self)
      have hpl : (backTo pos (starEach es X.env)).any (·.1) = false := plain_of fun z hz => hes z (List.mem_cons_of_mem _ hz)
      have hfew : ((backTo pos (starEach (e :: es) X.env)).all (fun x => !x.1) && (backToKw pos (keywordEach [] X.env)).all (fun x => x.1.isSome)
          && decide ((e :: es).length + ([] : List Keyword).length + (if ([] : List Keyword).isEmpty then 0 else 1) < 30)) = true := by
        rw [few_of hes]
        simp only [Bool.true_and, Bool.and_eq_true, decide_eq_true_eq]
        exact ⟨rfl, by simp only [List.length_cons, List.length_nil, List.isEmpty_nil, if_true] at hlen ⊢; omega⟩
      cases q : co.var? with
      | some j => exact mth_var (tA := TDs X cad W ms) ok (fun _ _ _ h => h) (pe_bm PySem.F.plainAttrs_list slot hty hm (ho.pv j q) ha hbase hfew hline hst hpl)
      | none => exact mth_gen (tA := TDs X cad W ms) ok (fun _ _ _ h => h) (pe_bm PySem.F.plainAttrs_list slot hty hm (s_frz ho.pe) ha hbase hfew hline hst hpl)
  unfold lmOf at hl
  split at hl
  · rename_i e; cases hl; subst e
    exact key PySem.F.slot_list_append PySem.F.type_list_append mt_append okm_append
  split at hl
  · rename_i e; cases hl; subst e
    exact key PySem.F.slot_list_extend PySem.F.type_list_extend (MtR.or mt_extend mt_extT) okm_extend
  split at hl
  · rename_i e; cases hl; subst e
    exact key PySem.F.slot_list_pop PySem.F.type_list_pop (MtR.or mt_pop mt_popAt) okm_pop
  · cases hl

/-! ### inside a comprehension -/
theorem Ctx.blk (C : Ctx X cad W T Φ k) {s : Shared} {H : Hp} {scope : Scope} {D : Addr} {cl : List (Str × Addr)} {fp : List Addr} (hk : scope.kind = .function) : Ctx (X.blk s H scope (compEnvC scope cl D X.env) fp) cad W0 T Φ k where
  room := C.room
  calm := C.calm
  nd := C.nd
  takes := fun u s' ⟨_, _, _, _, _, _, _, _, _, _, _, _, _, _, _, _, w⟩ => w.elim
  pass := fun _ _ h => h.elim
  kind := hk
  funs := fun f x h => by
    obtain ⟨fa, np, h1, h2⟩ := C.funs f x h
    exact ⟨fa, np, h1, h2.ok, h2.kp, h2.len⟩
  consts := C.consts
  blts := C.blts
  nosup := C.nosup
theorem slotN_of {N : List Str} {sc : Scope} {x : Str} {i : Nat} (h : slotN T N sc x = some i) : plainN x = true ∧ N[i]? = some x ∧ Loc sc x := by
  unfold slotN at h
  split at h
  · cases h
  · rename_i nf
    split at h
    · rename_i q
      cases h
      obtain ⟨h1, h2, h3⟩ := resN_slot q
      refine ⟨h1, h2, ?_⟩
      rcases h3 with h3 | h3 | h3
      · exact .inl h3
      · exact .inr h3
      · exact absurd h3 nf
    · cases h
theorem pgs_names {es : List Expr} {is : List Nat} (C : Ctx X cad W T Φ k) (h : es.mapM (fun e => match e with | .Name x _ => slotN T X.N X.env.scope x | _ => none) = some is) (hf : ∀ i ∈ is, ∀ x, X.N[i]? = some x → X.fn x = true ∨ X.env.scope.names.lookup x = some .local) :
    PGs X es (gNames is) ∧ (assignEach es X.env).length = is.length ∧ (assignEach es X.env).findIdx? (·.1) = none := by
  induction es generalizing is with
  | nil =>
    cases h
    exact ⟨pgs_nil, rfl, rfl⟩
  | cons e es ih =>
    rw [List.mapM_cons] at h
    obtain ⟨i, hi, h⟩ := bnd h
    obtain ⟨is', hes, h⟩ := bnd h
    cases h
    cases e <;> first | (cases hi; done) | skip
    rename_i x px
    obtain ⟨hp, hN, hv⟩ := slotN_of hi
    obtain ⟨i1, i2, i3⟩ := ih hes fun j hj => hf j (List.mem_cons_of_mem _ hj)
    refine ⟨pgs_cons (pg_name C.nd hN hv (hf i List.mem_cons_self x hN)) i1 rfl, ?_, ?_⟩
    · show (assignEach es X.env).length + 1 = _
      rw [i2]
      rfl
    · show List.findIdx? (·.1) ((false, _) :: assignEach es X.env) = none
      rw [List.findIdx?_cons, i3]
      rfl
theorem s_tg {n : Nat} {e : Expr} {tg : Tg} (C : Ctx X cad W T Φ k) (h : cTg T X.N n X.env.scope e = some tg) (hf : ∀ i ∈ tg.slots, ∀ x, X.N[i]? = some x → X.fn x = true ∨ X.env.scope.names.lookup x = some .local) : PG X e (tgG X.K tg) := by
  cases n with
  | zero => unfold cTg at h; cases h
  | succ n =>
    cases e <;> first | (unfold cTg at h; cases h; done) | skip
    · unfold cTg at h
      obtain ⟨i, hi, h⟩ := bnd h
      cases h
      obtain ⟨hp, hN, hv⟩ := slotN_of hi
      exact pg_name C.nd hN hv (hf i (by simp [Tg.slots]) _ hN)
    · unfold cTg at h
      obtain ⟨is, hi, h⟩ := bnd h
      split at h
      · cases h
        obtain ⟨h1, h2, h3⟩ := pgs_names C hi hf
        exact pg_tup C.calm h1 h2 h3
      · cases h
end
end Mp

/-! expressions: by induction on the fuel -/
namespace Mp
open PySem L2
section
variable {X : Cx} {cad : Nat → Addr} {W : WX} {T : CT} {Φ : Nat → Fn} {k : Nat} {a b c : Expr} {pos p apos : Pos}
/-- which operator rule -/
theorem bin_of {op : Operator} {o : BOp} {ca cb : CE} (C : Ctx X cad W T Φ k) (h : binOf op = some o) (ha : PE X a (TD X cad W ((evR Φ ca).bind frz))) (hb : PE X b (TD X cad W ((evR Φ cb).bind frz))) : PE X (.BinOp a op b pos) (TR X cad W (evR Φ (.bin o ca cb))) := by
  have key : ∀ {r : R2}, OpR X (binaryOp op) r → Ok2 X cad (binD o) r → PE X (.BinOp a op b pos) (TR X cad W (evR Φ (.bin o ca cb))) := fun ho ok => pe_mono (pe_op ho ha hb) fun σ H Q h => s_two ok σ H Q (by unfold evR at h; exact h)
  cases op <;> cases h
  · exact key (op_add.or (op_add_str.or (op_catA.or op_cat))) ok_add
  · exact key op_sub ok_sub
  · exact key (op_mul.or (op_rep.or op_repTg)) ok_mul
  · exact key op_mod ok_mod
  · exact key op_pow ok_pow
  · exact key op_fdiv ok_fdiv
theorem pts_of {ifs : List Expr} {cs : List CE} {n : Nat} {X' : Cx} {W' : WX} (hES : ∀ e c, cE T X'.N n X'.env.scope e = some c → ES X' cad W' Φ e c) (h : cEs T X'.N (n + 1) X'.env.scope ifs = some cs) (hl : ifs.length ≤ 1) (hi : ifs.any isIf = false) : PTs X' ifs (TTb X' cad W' (evCs Φ cs)) := by
  have mono : ∀ {es : List Expr} {t t' : TT}, PTs X' es t → (∀ σ H Q, t' σ H Q → t σ H Q) → PTs X' es t' := fun h m => ⟨fun pins s σ H Q I w => h.run pins s σ H Q I (m σ H Q w)⟩
  match ifs, hl, hi, h with
  | [], _, _, h =>
    unfold cEs at h
    cases h
    exact mono pts_nil fun σ H Q ⟨F, ρ, η, S, ι, R, p⟩ => by
      unfold evCs at p
      exact p true H S ι R (fun _ _ q => q) (List.prefix_refl _) rfl
  | [e], _, hi, h =>
    unfold cEs at h
    obtain ⟨c, hc, h⟩ := bnd h
    obtain ⟨cs', hcs, h⟩ := bnd h
    cases h
    have e0 : cs' = [] := by
      cases n <;> (unfold cEs at hcs; cases hcs; rfl)
    subst e0
    have hie : isIf e = false := by simpa using hi
    refine mono (pts_one ((hES e c hc).pt hie)) fun σ H Q ⟨F, ρ, η, S, ι, R, p⟩ => ⟨F, ρ, η, S, ι, R, ?_⟩
    unfold evCs at p
    refine PostM.thn p fun v H1 r ρ1 η1 S1 ι1 R1 s1 p1 q1 z => ?_
    have e1 : v = r := q1
    cases r with
    | true =>
      subst e1
      simp only [if_true] at z
      unfold evCs at z
      exact z true H1 S1 ι1 R1 (fun _ _ q => q) (List.prefix_refl _) rfl
    | false =>
      subst e1
      exact z false H1 S1 ι1 R1 (fun _ _ q => q) (List.prefix_refl _) rfl
  | _ :: _ :: _, hl, _, _ => simp at hl
structure AllS (T : CT) (Φ : Nat → Fn) (k : Nat) (cad : Nat → Addr) (n : Nat) : Prop where
  e : ∀ (X : Cx) (W : WX), Ctx X cad W T Φ k → ∀ e c, cE T X.N n X.env.scope e = some c → ES X cad W Φ e c
  es : ∀ (X : Cx) (W : WX), Ctx X cad W T Φ k → ∀ es cs, cEs T X.N n X.env.scope es = some cs → PA X es (TDs X cad W (evDs Φ cs)) ∧ (∀ e ∈ es, isSlice e = false) ∧ (es = [] → evDs Φ cs = M.ret []) ∧ cs.length = es.length
  pts : ∀ (X : Cx) (W : WX), Ctx X cad W T Φ k → ∀ ifs cs, cEs T X.N n X.env.scope ifs = some cs → ifs.length ≤ 1 → ifs.any isIf = false → PTs X ifs (TTb X cad W (evCs Φ cs))
  o : ∀ (X : Cx) (W : WX), Ctx X cad W T Φ k → ∀ o c, cO T X.N n X.env.scope o = some c → PO X o (TPt X cad W (partE o.isSome (evR Φ c)))
  i : ∀ (X : Cx) (W : WX), Ctx X cad W T Φ k → ∀ tgE tg e ik es m sc, cI T X.N n X.env.scope e = some (ik, es) → cTg T X.N m sc tgE = some tg → tgOk ik tg = true → PI X tgE e (TIt X cad W ((evDs Φ es).bind fun ds => M.opt (walkD ik ds))) ∧ ∀ x, foldedSetIterable e X.env x = pure x
theorem tg_tup {N : List Str} {sc : Scope} {m : Nat} {tgE : Expr} {tg : Tg} {ik : IK} (h : cTg T N m sc tgE = some tg) (ho : tgOk ik tg = true) (hi : ik = .enum ∨ ik = .zip) : ∃ es kk tp, tgE = .Tuple es kk tp := by
  cases m with
  | zero => unfold cTg at h; cases h
  | succ m =>
    cases tgE <;> first | (unfold cTg at h; cases h; done) | skip
    · exfalso
      unfold cTg at h
      obtain ⟨i, hi', h⟩ := bnd h
      cases h
      rcases hi with rfl | rfl <;> cases ho
    · exact ⟨_, _, _, rfl⟩
/-- what a for walks -/
theorem ik_of {x y : Str} {args : List Expr} {ik : IK} {es : List CE} {tgE : Expr} (C : Ctx X cad W T Φ k) (h : resN T X.N X.env.scope x = some (.blt y)) (hik : ikOf y args.length = some ik) (ha : PA X args (TDs X cad W (evDs Φ es))) (hes : ∀ e ∈ args, isSlice e = false)
    (ht : ik = .enum ∨ ik = .zip → ∃ es kk tp, tgE = .Tuple es kk tp) : PI X tgE (.Call (.Name x p) args [] pos) (TIt X cad W ((evDs Φ es).bind fun ds => M.opt (walkD ik ds))) := by
  obtain ⟨rfl, hg, hm, hn, hd⟩ := blt_of C h
  unfold ikOf at hik
  split at hik
  · rename_i e; subst e
    match args, hik, ha, hes with
    | [a], hik, ha, hes => cases hik; exact s_wRng1 hg hm ha (starEach_of (hes a (by simp)))
    | [a, b], hik, ha, hes =>
      cases hik
      have hb : starEach [b] X.env = [(false, eval b X.env)] := starEach_of (hes b (by simp))
      exact s_wRng2 hg hm ha (by rw [starEach_of (hes a (by simp)), hb]) hb
    | [a, b, c], hik, ha, hes =>
      cases hik
      exact s_wRng3 hg hm ha (starEach_of (hes a (by simp))) (plain_of fun z hz => hes z (List.mem_cons_of_mem _ hz))
  split at hik
  · rename_i e; subst e
    match args, hik, ha, hes with
    | [a], hik, ha, hes =>
      cases hik
      obtain ⟨es', kk, tp, rfl⟩ := ht (.inl rfl)
      exact s_wEn hg hm ha (starEach_of (hes a (by simp)))
  split at hik
  · rename_i e; subst e
    match args, hik, ha, hes with
    | [a, b], hik, ha, hes =>
      cases hik
      obtain ⟨es', kk, tp, rfl⟩ := ht (.inr rfl)
      exact s_wZip hg hm ha (starEach_of (hes a (by simp))) (plain_of fun z hz => hes z (List.mem_cons_of_mem _ hz))
  · cases hik
end
end Mp

/-! expressions: the induction -/
namespace Mp
open PySem L2
theorem tb_not {m : M Bool} : ((m.bind fun p => M.ret (.val (.bl (!p)))).bind frz).bind boolD = m.bind fun p => M.ret (!p) := by
  funext ρ η
  show (((m ρ η).bind _).bind _).bind _ = (m ρ η).bind _
  cases m ρ η <;> rfl
theorem tb_and {ma mb : M Bool} : ((ma.bind fun p => if p then mb.bind fun q => M.ret (.val (.bl q)) else M.ret (.val (.bl false))).bind frz).bind boolD = ma.bind fun p => if p then mb else M.ret false := by
  funext ρ η
  show (((ma ρ η).bind _).bind _).bind _ = (ma ρ η).bind _
  cases ma ρ η with
  | ok p ρ1 η1 =>
    cases p with
    | false => rfl
    | true =>
      show (((mb ρ1 η1).bind _).bind _).bind _ = mb ρ1 η1
      cases mb ρ1 η1 <;> rfl
  | exc c fs ρ1 η1 => rfl
  | fail => rfl
theorem tb_or {ma mb : M Bool} : ((ma.bind fun p => if p then M.ret (.val (.bl true)) else mb.bind fun q => M.ret (.val (.bl q))).bind frz).bind boolD = ma.bind fun p => if p then M.ret true else mb := by
  funext ρ η
  show (((ma ρ η).bind _).bind _).bind _ = (ma ρ η).bind _
  cases ma ρ η with
  | ok p ρ1 η1 =>
    cases p with
    | true => rfl
    | false =>
      show (((mb ρ1 η1).bind _).bind _).bind _ = mb ρ1 η1
      cases mb ρ1 η1 <;> rfl
  | exc c fs ρ1 η1 => rfl
  | fail => rfl
section
variable {T : CT} {Φ : Nat → Fn} {k : Nat} {cad : Nat → Addr} {X : Cx} {W : WX} {a b c : Expr} {ca cb cc : CE} {pos : Pos} {rest : List Expr}
theorem ES.var {x : Str} {i : Nat} (h : resN T X.N X.env.scope x = some (.slot i)) : ES X cad W Φ (.Name x pos) (.var i) := by
  have pv : PE X (.Name x pos) (tVar i) := pe_v h
  have pe : PE X (.Name x pos) (TR X cad W (evR Φ (.var i))) := by
    unfold evR
    exact s_var pv
  refine ⟨pe, fun _ => s_test (s_bool (s_frz pe)) fun _ => rfl, fun _ _ _ z => (by cases z), fun j e => ?_, rfl⟩
  cases e
  exact pv
theorem ES.not (E : ES X cad W Φ a ca) (hif : isIf a = false) : ES X cad W Φ (.UnaryOp .Not a pos) (.not ca) := by
  have e1 : evR Φ (.not ca) = ((((evR Φ ca).bind frz).bind boolD).bind fun p => M.ret (.val (.bl (!p)))) := by
    conv => lhs; unfold evR
  refine ES.cmp ?_ ?_ (fun _ _ _ z => by cases z) rfl rfl
  · rw [e1]
    exact s_notE (s_bool (s_frz E.pe))
  · rw [e1, tb_not]
    exact s_notT (E.pt hif)
theorem ES.and (E : ES X cad W Φ a ca) (hif : isIf a = false) (E2 : ES X cad W Φ (.BoolOp .And (b :: rest) pos) cb) : ES X cad W Φ (.BoolOp .And (a :: b :: rest) pos) (.and ca cb) := by
  have e1 : evR Φ (.and ca cb) = ((((evR Φ ca).bind frz).bind boolD).bind fun p => if p then (((evR Φ cb).bind frz).bind boolD).bind fun q => M.ret (.val (.bl q)) else M.ret (.val (.bl false))) := by
    conv => lhs; unfold evR
  have pw : PW X (.BoolOp .And (a :: b :: rest) pos) (TTb X cad W (((evR Φ (.and ca cb)).bind frz).bind boolD)) := by
    rw [e1, tb_and]
    exact s_andT (E.pt hif) (E2.pw _ _ _ rfl)
  refine ⟨?_, fun _ => ?_, fun op vs p z => pw, fun j e => (by cases e), rfl⟩
  · rw [e1]
    exact s_andE (s_bool (s_frz E.pe)) (s_bool (s_frz E2.pe))
  · exact pw.pt
theorem ES.or (E : ES X cad W Φ a ca) (hif : isIf a = false) (E2 : ES X cad W Φ (.BoolOp .Or (b :: rest) pos) cb) : ES X cad W Φ (.BoolOp .Or (a :: b :: rest) pos) (.or ca cb) := by
  have e1 : evR Φ (.or ca cb) = ((((evR Φ ca).bind frz).bind boolD).bind fun p => if p then M.ret (.val (.bl true)) else (((evR Φ cb).bind frz).bind boolD).bind fun q => M.ret (.val (.bl q))) := by
    conv => lhs; unfold evR
  have pw : PW X (.BoolOp .Or (a :: b :: rest) pos) (TTb X cad W (((evR Φ (.or ca cb)).bind frz).bind boolD)) := by
    rw [e1, tb_or]
    exact s_orT (E.pt hif) (E2.pw _ _ _ rfl)
  refine ⟨?_, fun _ => ?_, fun op vs p z => pw, fun j e => (by cases e), rfl⟩
  · rw [e1]
    exact s_orE (s_bool (s_frz E.pe)) (s_bool (s_frz E2.pe))
  · exact pw.pt
theorem ES.one {op : BoolOp} (E : ES X cad W Φ a ca) (hif : isIf a = false) : ES X cad W Φ (.BoolOp op [a] pos) ca := by
  have pw : PW X (.BoolOp op [a] pos) (TTb X cad W (((evR Φ ca).bind frz).bind boolD)) := by
    cases op with
    | And => exact pw_and1 (E.pt hif)
    | Or => exact pw_or1 (E.pt hif)
  exact ⟨pe_one E.pe, fun _ => pw.pt, fun op vs p z => pw, fun j e => pe_one (E.pv j e), rfl⟩
theorem ES.ite (E : ES X cad W Φ c cc) (hif : isIf c = false) (E1 : ES X cad W Φ a ca) (E2 : ES X cad W Φ b cb) : ES X cad W Φ (.IfExp c a b pos) (.ite cc ca cb) := by
  refine ⟨?_, fun h => (by cases h), fun _ _ _ z => (by cases z), fun j e => (by cases e), rfl⟩
  unfold evR
  exact s_ite (E.pt hif) E1.pe E2.pe
theorem s_tg2 {n : Nat} {e : Expr} {tg : Tg} {X' : Cx} (C : Ctx X' cad W0 T Φ k) (h : cTg T X'.N n X'.env.scope e = some tg) {scope : Scope} (hl : (tg.slots.all fun i => match scope.names.lookup (X'.N.getD i "") with | some .local => true | some .cell => true | _ => false) = true) (hs : X'.env.scope = relS scope X.env.scope) (hfn : X'.fn = fun x => scope.names.lookup x == some .cell) :
    PG X' e (tgG X'.K tg) := by
  refine s_tg C h fun i hi x hx => ?_
  have q := List.all_eq_true.mp hl i hi
  have e1 : X'.N.getD i "" = x := by
    rw [List.getD_eq_getElem?_getD, hx]
    rfl
  rw [e1] at q
  rw [hfn, hs]
  split at q
  · rename_i r
    exact .inr (by exact PySem.lookup_relabel_local (env := X.env) r)
  · rename_i r
    exact .inl (by simp [r])
  · cases q
/-- [.. for ..] -/
theorem s_lcE {n : Nat} (A : AllS T Φ k cad n) (C : Ctx X cad W T Φ k) {elt tgE iter : Expr} {ifs : List Expr} {scope : Scope} {p : Pos} {ik : IK} {es : List CE} {tg : Tg} {ce : CE} {cs : List CE}
    (h1 : cI T X.N n X.env.scope iter = some (ik, es)) (h2 : cTg T X.N n (relS scope X.env.scope) tgE = some tg) (hto : tgOk ik tg = true) (hb : L2.blkC X.N X.env.scope scope (tg.slots.map fun i => (X.N.getD i "", i)) = true) (hl : ifs.length ≤ 1) (hi : ifs.any isIf = false)
    (hv : (tg.slots.all fun i => match scope.names.lookup (X.N.getD i "") with | some .local => true | some .cell => true | _ => false) = true) (h3 : cE T X.N n (relS scope X.env.scope) elt = some ce) (h4 : cEs T X.N n (relS scope X.env.scope) ifs = some cs) :
    PI X tgE iter (TIt X cad W ((evDs Φ es).bind fun ds => M.opt (walkD ik ds))) ∧ BlkOk X.N X.env.scope scope (tg.slots.map fun i => (X.N.getD i "", i)) ∧ (∀ x, foldedSetIterable iter X.env x = pure x) ∧
    (∀ (s : Shared) (H : Hp) (C : Addr) (cl : List (Str × Addr)) (fp : List Addr), PG (X.blk s H scope (compEnvC scope cl C X.env) fp) tgE (tgG X.K tg)) ∧
    (∀ (s : Shared) (H : Hp) (C : Addr) (cl : List (Str × Addr)) (fp : List Addr), PTs (X.blk s H scope (compEnvC scope cl C X.env) fp) ifs (TTb X cad W0 (evCs Φ cs))) ∧
    (∀ (s : Shared) (H : Hp) (C : Addr) (cl : List (Str × Addr)) (fp : List Addr), PE (X.blk s H scope (compEnvC scope cl C X.env) fp) elt (TD X cad W0 ((evR Φ ce).bind frz))) ∧
    ∀ σ H Q, TR X cad W (evR Φ (.lc ce tg ik es cs)) σ H Q → tLc (TIt X cad W ((evDs Φ es).bind fun ds => M.opt (walkD ik ds))) (tgG X.K tg) (TTb X cad W0 (evCs Φ cs)) (TD X cad W0 ((evR Φ ce).bind frz)) ((tg.slots.map fun i => (X.N.getD i "", i)).map (·.2)) σ H Q := by
  have ok := blkOk_by hb
  have hk : scope.kind = .function := ok.kind
  obtain ⟨pi, hf⟩ := A.i X W C tgE tg iter ik es n _ h1 h2 hto
  have hg : ∀ (s : Shared) (H : Hp) (D : Addr) (cl : List (Str × Addr)) (fp : List Addr), PG (X.blk s H scope (compEnvC scope cl D X.env) fp) tgE (tgG X.K tg) := fun s H D cl fp => s_tg2 (X := X) (X' := X.blk s H scope (compEnvC scope cl D X.env) fp) (C.blk hk) h2 hv rfl rfl
  have ht : ∀ (s : Shared) (H : Hp) (D : Addr) (cl : List (Str × Addr)) (fp : List Addr), PTs (X.blk s H scope (compEnvC scope cl D X.env) fp) ifs (TTb X cad W0 (evCs Φ cs)) := fun s H D cl fp => A.pts (X.blk s H scope (compEnvC scope cl D X.env) fp) W0 (C.blk hk) ifs cs h4 hl hi
  have he : ∀ (s : Shared) (H : Hp) (D : Addr) (cl : List (Str × Addr)) (fp : List Addr), PE (X.blk s H scope (compEnvC scope cl D X.env) fp) elt (TD X cad W0 ((evR Φ ce).bind frz)) := fun s H D cl fp => s_frz (A.e (X.blk s H scope (compEnvC scope cl D X.env) fp) W0 (C.blk hk) elt ce h3).pe
  refine ⟨pi, ok, hf, hg, ht, he, fun σ H Q q => ?_⟩
  refine s_lc (pos := p) C.calm C.nd pi ok (by rw [List.map_map]; exact List.map_id _) hg ht he σ H Q ?_
  unfold evR at q
  rw [bind_assoc']
  exact q
theorem ES.pv0 {e : Expr} {c : CE} (pe : PE X e (TR X cad W (evR Φ c))) (he : ∀ whole, isTrue e X.env whole = (do let v ← whole; standAt e.pos; holding [v] (truthy v))) (hb : ∀ op vs p, e ≠ .BoolOp op vs p) (hs : isSlice e = false) (hv : c.var? = none) : ES X cad W Φ e c := ES.of pe he hb hs hv
theorem allE {n : Nat} (A : AllS T Φ k cad n) (C : Ctx X cad W T Φ k) {e : Expr} {ce : CE} (h : cE T X.N (n + 1) X.env.scope e = some ce) : ES X cad W Φ e ce := by
  have hbase : ∀ m, attributeBase e m X.env (eval e X.env) = eval e X.env := fun m => base_of h C.nosup
  have hsl := sl_of h
  unfold cE at h
  split at h
  · -- int
    cases h
    exact ES.of (by unfold evR; exact s_cst pe_int fun _ _ => rfl) (fun _ => rfl) (fun _ _ _ z => by cases z) hsl rfl
  · cases h
    exact ES.of (by unfold evR; exact s_cst pe_bl fun _ _ => rfl) (fun _ => rfl) (fun _ _ _ z => by cases z) hsl rfl
  · cases h
    exact ES.of (by unfold evR; exact s_cst pe_non fun _ _ => rfl) (fun _ => rfl) (fun _ _ _ z => by cases z) hsl rfl
  · cases h
    exact ES.of (by unfold evR; exact s_cst pe_str fun _ _ => rfl) (fun _ => rfl) (fun _ _ _ z => by cases z) hsl rfl
  · -- a name
    split at h
    · rename_i q
      cases h
      exact ES.var q
    · rename_i q
      cases h
      exact ES.of (by unfold evR; exact pe_k C q) (fun _ => rfl) (fun _ _ _ z => by cases z) hsl rfl
    · cases h
  · -- a binary operator
    obtain ⟨o, ho, h⟩ := bnd h
    obtain ⟨ca, ha, h⟩ := bnd h
    obtain ⟨cb, hb, h⟩ := bnd h
    cases h
    exact ES.of (PE.wrap (bin_of C ho (s_frz (A.e X W C _ _ ha).pe) (s_frz (A.e X W C _ _ hb).pe))) (fun _ => rfl) (fun _ _ _ z => by cases z) hsl (wrap_var rfl)
  · -- -a
    obtain ⟨ca, ha, h⟩ := bnd h
    cases h
    exact ES.of (by unfold evR; exact s_neg (s_frz (A.e X W C _ _ ha).pe)) (fun _ => rfl) (fun _ _ _ z => by cases z) hsl rfl
  · -- not a
    split at h
    · cases h
    rename_i hif
    obtain ⟨ca, ha, h⟩ := bnd h
    cases h
    exact ES.not (A.e X W C _ _ ha) (by simpa using hif)
  · -- and, or of one
    split at h
    · cases h
    rename_i hif
    exact ES.one (A.e X W C _ _ h) (by simpa using hif)
  · split at h
    · cases h
    rename_i hif
    obtain ⟨ca, ha, h⟩ := bnd h
    obtain ⟨cb, hb, h⟩ := bnd h
    cases h
    exact ES.and (A.e X W C _ _ ha) (by simpa using hif) (A.e X W C _ _ hb)
  · split at h
    · cases h
    rename_i hif
    obtain ⟨ca, ha, h⟩ := bnd h
    obtain ⟨cb, hb, h⟩ := bnd h
    cases h
    exact ES.or (A.e X W C _ _ ha) (by simpa using hif) (A.e X W C _ _ hb)
  · -- a comparison
    rename_i op b p
    obtain ⟨ca, ha, h⟩ := bnd h
    obtain ⟨cb, hb, h⟩ := bnd h
    cases h
    have Ea := A.e X W C _ _ ha
    have Eb := A.e X W C _ _ hb
    by_cases h1 : op = .In
    · subst h1
      obtain ⟨u, v⟩ := s_inB C (s_frz Ea.pe) (s_vwE Eb) (mark_of hb) (pos := p) (m := evR Φ (.cmp (cmpOf .In) ca cb)) (by conv => lhs; unfold evR; simp only [cmpOf])
      exact ES.cmp u v (fun _ _ _ z => by cases z) rfl rfl
    by_cases h2 : op = .NotIn
    · subst h2
      obtain ⟨u, v⟩ := s_notinB C (s_frz Ea.pe) (s_vwE Eb) (mark_of hb) (pos := p) (m := evR Φ (.cmp (cmpOf .NotIn) ca cb)) (by conv => lhs; unfold evR; simp only [cmpOf])
      exact ES.cmp u v (fun _ _ _ z => by cases z) rfl rfl
    · obtain ⟨r, R⟩ := cmpR_of C op h1 h2
      obtain ⟨u, v⟩ := s_cmp (pos := p) R (s_frz Ea.pe) (s_frz Eb.pe) (mark_of hb)
      have e1 : evR Φ (.cmp (cmpOf op) ca cb) = MC (cmpOf op) ((evR Φ ca).bind frz) ((evR Φ cb).bind frz) := by
        conv => lhs; unfold evR
        cases op <;> first | rfl | exact absurd rfl h1 | exact absurd rfl h2
      rw [← e1] at u v
      exact ES.cmp u v (fun _ _ _ z => by cases z) rfl rfl
  · -- a chain
    rename_i op op' b c p
    split at h
    · cases h
    rename_i hop
    obtain ⟨ca, ha, h⟩ := bnd h
    obtain ⟨cb, hb, h⟩ := bnd h
    obtain ⟨cc, hc, h⟩ := bnd h
    cases h
    simp only [Bool.or_eq_true, decide_eq_true_eq, not_or] at hop
    obtain ⟨r, R⟩ := cmpR_of C op hop.1.1.1 hop.1.1.2
    obtain ⟨r', R'⟩ := cmpR_of C op' hop.1.2 hop.2
    obtain ⟨u, v⟩ := s_chn (pos := p) R R' (s_frz (A.e X W C _ _ ha).pe) (s_frz (A.e X W C _ _ hb).pe) (s_frz (A.e X W C _ _ hc).pe) (mark_of hc) (m := evR Φ (.chn (cmpOf op) (cmpOf op') ca cb cc)) (by conv => lhs; unfold evR)
    exact ES.cmp u v (fun _ _ _ z => by cases z) rfl rfl
  · -- if
    split at h
    · cases h
    rename_i hif
    obtain ⟨cc, hc, h⟩ := bnd h
    obtain ⟨ca, ha, h⟩ := bnd h
    obtain ⟨cb, hb, h⟩ := bnd h
    cases h
    exact ES.ite (A.e X W C _ _ hc) (by simpa using hif) (A.e X W C _ _ ha) (A.e X W C _ _ hb)
  · -- a tuple
    obtain ⟨cs, hs, h⟩ := bnd h
    cases h
    exact ES.of (by unfold evR; exact s_tup (A.es X W C _ _ hs).1) (fun _ => rfl) (fun _ _ _ z => by cases z) hsl rfl
  · -- {}
    cases h
    exact ES.of (PE.wrap (by unfold evR; exact s_dic)) (fun _ => rfl) (fun _ _ _ z => by cases z) hsl (wrap_var rfl)
  · -- a list
    obtain ⟨cs, hs, h⟩ := bnd h
    cases h
    exact ES.of (PE.wrap (by unfold evR; exact s_lst (A.es X W C _ _ hs).1)) (fun _ => rfl) (fun _ _ _ z => by cases z) hsl (wrap_var rfl)
  · -- a slice
    obtain ⟨ca, ha, h⟩ := bnd h
    obtain ⟨cl, hl, h⟩ := bnd h
    obtain ⟨ch, hh, h⟩ := bnd h
    cases h
    have Ea := A.e X W C _ _ ha
    refine ES.of (PE.wrap ?_) (fun _ => rfl) (fun _ _ _ z => by cases z) hsl (wrap_var rfl)
    unfold evR
    cases q : ca.var? with
    | some j => exact s_slcV (Ea.pv j q) (A.o X W C _ _ hl) (A.o X W C _ _ hh)
    | none => exact s_slc Ea.pe (A.o X W C _ _ hl) (A.o X W C _ _ hh)
  · -- an item
    split at h
    · cases h
    rename_i hs
    obtain ⟨ca, ha, h⟩ := bnd h
    obtain ⟨ci, hi, h⟩ := bnd h
    cases h
    have Ea := A.e X W C _ _ ha
    have hs' := plainIx_of (sl_of hi)
    refine ES.of ?_ (fun _ => rfl) (fun _ _ _ z => by cases z) hsl rfl
    unfold evR
    cases q : ca.var? with
    | some j => exact s_idxV C.hu (Ea.pv j q) (A.e X W C _ _ hi).pe hs'
    | none => exact s_idx C.hu Ea.pe (A.e X W C _ _ hi).pe hs'
  · -- a comprehension
    obtain ⟨⟨ik, es⟩, h1, h⟩ := bnd h
    obtain ⟨tg, h2, h⟩ := bnd h
    split at h
    case isFalse => cases h
    rename_i hc
    simp only [Bool.and_eq_true, decide_eq_true_eq, Bool.not_eq_true'] at hc
    obtain ⟨ce, h3, h⟩ := bnd h
    obtain ⟨cs, h4, h⟩ := bnd h
    cases h
    obtain ⟨pi, ok, hf, hg, ht, he, key⟩ := s_lcE A C (p := by assumption) h1 h2 hc.1.1.1.1 hc.1.1.1.2 hc.1.1.2 hc.1.2 hc.2 h3 h4
    exact ES.of (PE.wrap (pe_mono (pe_lc C.calm C.nd pi ok hg ht he hf) key)) (fun _ => rfl) (fun _ _ _ z => by cases z) hsl (wrap_var rfl)
  · -- a call
    rename_i f fp args p
    split at h
    · -- of a def
      rename_i q
      obtain ⟨cs, hs, h⟩ := bnd h
      cases h
      obtain ⟨hp, hfn, hgl⟩ := resN_fn q
      obtain ⟨fa, np, hm, G⟩ := C.funs _ _ hfn
      obtain ⟨hd, _, _⟩ := plainN_of hp
      obtain ⟨PA1, sl, nil, _⟩ := A.es X W C _ _ hs
      refine ES.of (PE.wrap ?_) (fun _ => rfl) (fun _ _ _ z => by cases z) hsl (wrap_var rfl)
      unfold evR
      cases args with
      | nil =>
        rw [nil rfl]
        exact s_call0 C hm G hgl hd
      | cons e es => exact s_call C hm G hgl hd PA1 (starEach_of (sl e List.mem_cons_self)) (plain_of fun z hz => sl z (List.mem_cons_of_mem _ hz))
    · -- of a built-in
      rename_i b q
      split at h
      · rename_i hb
        split at h
        · rename_i a t tp
          split at h
          · rename_i bt q2
            obtain ⟨ty, hty, h⟩ := bnd h
            obtain ⟨ca, ha, h⟩ := bnd h
            cases h
            have Ea := A.e X W C _ _ ha
            refine ES.of ?_ (fun _ => rfl) (fun _ _ _ z => by cases z) hsl rfl
            unfold evR
            exact s_isi C q hb q2 hty (s_frz Ea.pe) Ea.sl
          · cases h
        · cases h
      · split at h
        · rename_i a
          obtain ⟨o, ho, h⟩ := bnd h
          obtain ⟨ca, ha, h⟩ := bnd h
          cases h
          have Ea := A.e X W C _ _ ha
          refine ES.of (PE.wrap ?_) (fun _ => rfl) (fun _ _ _ z => by cases z) hsl (wrap_var rfl)
          unfold evR
          exact s_bi1 C q ho (s_vwE Ea) Ea.sl
        · rename_i a c
          split at h
          · rename_i hb
            obtain ⟨ca, ha, h⟩ := bnd h
            obtain ⟨cc, hc, h⟩ := bnd h
            cases h
            have Ea := A.e X W C _ _ ha
            have Ec := A.e X W C _ _ hc
            refine ES.of ?_ (fun _ => rfl) (fun _ _ _ z => by cases z) hsl rfl
            unfold evR
            exact (s_bi2 C q (s_frz Ea.pe) (s_frz Ec.pe) Ea.sl Ec.sl).1 hb
          · split at h
            · rename_i hb
              obtain ⟨ca, ha, h⟩ := bnd h
              obtain ⟨cc, hc, h⟩ := bnd h
              cases h
              have Ea := A.e X W C _ _ ha
              have Ec := A.e X W C _ _ hc
              refine ES.of ?_ (fun _ => rfl) (fun _ _ _ z => by cases z) hsl rfl
              unfold evR
              exact (s_bi2 C q (s_frz Ea.pe) (s_frz Ec.pe) Ea.sl Ec.sl).2 hb
            · cases h
        · cases h
    · cases h
  · -- a method
    split at h
    case isFalse => cases h
    rename_i hc
    simp only [Bool.and_eq_true, decide_eq_true_eq] at hc
    obtain ⟨l, hl, h⟩ := bnd h
    obtain ⟨co, ho, h⟩ := bnd h
    obtain ⟨cs, hs, h⟩ := bnd h
    cases h
    obtain ⟨PA1, sl, nil, _⟩ := A.es X W C _ _ hs
    refine ES.of ?_ (fun _ => rfl) (fun _ _ _ z => by cases z) hsl rfl
    unfold evR
    exact s_mth (A.e X W C _ _ ho) hl (base_of ho C.nosup) hc.1 hc.2 sl PA1 nil
  · cases h
end
end Mp

/-! expressions: the induction's end; statements -/
namespace Mp
open PySem L2
section
variable {T : CT} {Φ : Nat → Fn} {k : Nat} {cad : Nat → Addr}
theorem es_nil {n : Nat} {N : List Str} {sc : Scope} {cs : List CE} (h : cEs T N n sc [] = some cs) : cs = [] := by
  cases n <;> (unfold cEs at h; cases h; rfl)
theorem es_ok {X : Cx} {W : WX} {es : List Expr} {cs : List CE} (h : es = [] ∧ cs = []) : PA X es (TDs X cad W (evDs Φ cs)) ∧ (∀ e ∈ es, isSlice e = false) ∧ (es = [] → evDs Φ cs = M.ret []) ∧ cs.length = es.length := by
  obtain ⟨rfl, rfl⟩ := h
  refine ⟨?_, fun e h => absurd h (by simp), fun _ => ?_, rfl⟩
  · unfold evDs
    exact s_nil
  · unfold evDs
    rfl
theorem AllS.all : ∀ n, AllS T Φ k cad n
  | 0 => by
    refine ⟨fun X W C e c h => ?_, fun X W C es cs h => ?_, fun X W C ifs cs h hl hi => ?_, fun X W C o c h => ?_, fun X W C tgE tg e ik es m sc h => ?_⟩
    · unfold cE at h
      cases h
    · cases es with
      | nil => exact es_ok ⟨rfl, es_nil h⟩
      | cons e es => unfold cEs at h; cases h
    · cases ifs with
      | nil =>
        rw [es_nil h]
        exact pts_of (T := T) (n := 0) (cs := []) (fun e c h => by unfold cE at h; cases h) (by unfold cEs; rfl) hl hi
      | cons e es => unfold cEs at h; cases h
    · unfold cO at h
      cases h
    · unfold cI at h
      cases h
  | n + 1 => by
    have A := AllS.all n
    refine ⟨fun X W C e c h => allE A C h, fun X W C es cs h => ?_, fun X W C ifs cs h hl hi => pts_of (A.e X W C) h hl hi, fun X W C o c h => ?_, fun X W C tgE tg e ik es m sc h ht ho => ?_⟩
    · cases es with
      | nil => exact es_ok ⟨rfl, es_nil h⟩
      | cons e es =>
        unfold cEs at h
        obtain ⟨c, hc, h⟩ := bnd h
        obtain ⟨cs', hcs, h⟩ := bnd h
        cases h
        have E := A.e X W C _ _ hc
        obtain ⟨h1, h2, h3, h4⟩ := A.es X W C _ _ hcs
        refine ⟨?_, fun z hz => ?_, fun z => (by cases z), by simp [h4]⟩
        · unfold evDs
          exact s_cons (s_frz E.pe) h1 (starEach_of E.sl)
        · rcases List.mem_cons.mp hz with rfl | hz
          · exact E.sl
          · exact h2 z hz
    · cases o with
      | none =>
        unfold cO at h
        cases h
        exact s_partN
      | some e =>
        unfold cO at h
        exact s_partS (A.e X W C _ _ h).pe
    · have of : ∀ {e : Expr} {c : CE}, cE T X.N n X.env.scope e = some c → PI X tgE e (TIt X cad W ((evDs Φ [c]).bind fun ds => M.opt (walkD .of ds))) ∧ ∀ x, foldedSetIterable e X.env x = pure x := fun {e c} h => by
        have := s_wOf (tg := tgE) (s_frz (A.e X W C _ _ h).pe)
        refine ⟨?_, fold_of h⟩
        unfold evDs
        rw [show evDs Φ [] = M.ret [] from by unfold evDs; rfl]
        exact this
      unfold cI at h
      split at h
      · rename_i f fp args p
        split at h
        · rename_i b q
          split at h
          · rename_i k' hk
            obtain ⟨cs, hcs, h⟩ := bnd h
            cases h
            obtain ⟨h1, h2, h3, h4⟩ := A.es X W C _ _ hcs
            exact ⟨ik_of C q hk h1 h2 fun z => tg_tup ht ho z, fun _ => rfl⟩
          · obtain ⟨c, hc, h⟩ := bnd h
            cases h
            exact of hc
        · obtain ⟨c, hc, h⟩ := bnd h
          cases h
          exact of hc
      · obtain ⟨c, hc, h⟩ := bnd h
        cases h
        exact of hc
end
end Mp

/-! statements: the terms are right -/
namespace Mp
open PySem L2
section
variable {T : CT} {Φ : Nat → Fn} {k : Nat} {cad : Nat → Addr} {X : Cx} {W : WX} {e o i c : Expr} {ce : CE} {pos pos' : Pos} {x : Str} {j : Nat}
theorem wrap_imp {p : Pos} {c : CE} (σ : L2.St) (H : Hp) (Q : VK) (h : TR X cad W (evR Φ (wrapB T p c)) σ H Q) : TR X cad W (evR Φ c) σ H Q := by
  unfold wrapB at h
  split at h
  · unfold evR at h
    exact box_imp σ H Q h
  · exact h
theorem sw_no {t : Option Expr} {l : Nat} {n : Nat} {N : List Str} {sc : Scope} {env : Env} (hc : cE T N n sc e = some ce) (h : isLC e = false) : swapsWith e t l env = pure false := by
  cases e <;> first | rfl | (cases h; done) | skip
  all_goals (cases n <;> (unfold cE at hc; cases hc))
theorem sw_sub {l : Nat} {n : Nat} {N : List Str} {sc : Scope} {env : Env} (hc : cE T N n sc e = some ce) : swapsWithSole [.Subscript o i pos'] e l env = pure false := by
  cases e <;> first | rfl | skip
  all_goals (cases n <;> (unfold cE at hc; cases hc))
theorem sw_st {env : Env} : swappedStores [.Subscript o i pos'] e env = pure none := by
  cases e <;> rfl
theorem sw_tup {es : List Expr} {kk : Nat} {env : Env} (h : isTup e = false) : swappedStores [.Tuple es kk pos'] e env = pure none := by
  cases e <;> first | rfl | cases h
theorem asg_sub {env : Env} (h : isSlice i = false) : ∀ v, assign (.Subscript o i pos) env v = (do
      let ov ← holding [v] (eval o env)
      let iv ← holding [v, ov] (eval i env)
      standAt pos
      holding [v, ov, iv] (setItem ov iv v)
      release [v, ov, iv] []) := by
  cases i <;> first | exact fun _ => rfl | cases h
/-! ### x op= e -/
def rAug : BOp → V → V → Hp → VK → Prop
  | .add => fun x y H Q => (∃ i j, x = .int i ∧ y = .int j ∧ Q (.int (i + j)) H) ∨ (∃ i j, x = .str i ∧ y = .str j ∧ i.length + j.length ≤ sizeLine ∧ Q (V.str (i ++ j)) H)
  | .sub => fun x y H Q => ∃ i j, x = .int i ∧ y = .int j ∧ Q (.int (i - j)) H
  | _ => fun _ _ _ _ => False
theorem aug_ok {K : PySem.W.Frag} {S : Hp} {ι : List Addr} {op : BOp} {d d' z : D} {v w : V} {H : Hp} {Q : VK} (r1 : RelD K S ι d v) (r2 : RelD K S ι d' w) (h : augD op d d' = some z) (q : ∀ u, RelD K S ι z u → Q u H) : rAug op v w H Q := by
  cases op <;> cases d <;> cases d' <;> first | (cases h; done) | skip
  · cases h; cases r1; cases r2
    exact .inl ⟨_, _, rfl, rfl, q _ rfl⟩
  · unfold augD at h
    simp only at h
    split at h
    · cases h; cases r1; cases r2
      exact .inr ⟨_, _, rfl, rfl, by assumption, q _ rfl⟩
    · cases h
  · cases h; cases r1; cases r2
    exact ⟨_, _, rfl, rfl, q _ rfl⟩
theorem pip_of {op : Operator} {b : BOp} (h : (match op with | .Add => some BOp.add | .Sub => some BOp.sub | _ => none) = some b) : PIp X op (rAug b) := by
  cases op <;> cases h
  · intro pins s σ H x y v u Q I r1 r2 h
    rcases h with ⟨i, j, e1, e2, q⟩ | h
    · exact ip_add pins s σ H x y v u Q I r1 r2 ⟨i, j, e1, e2, q⟩
    · exact iop_add_str pins s σ H x y v u Q I r1 r2 h
  · intro pins s σ H x y v u Q I r1 r2 ⟨i, j, e1, e2, q⟩
    exact ip_sub pins s σ H x y v u Q I r1 r2 ⟨i, j, e1, e2, q⟩
theorem s_aug {me : M RV} {st : Stmt} {b : BOp} (h : PS X st (tAug j (TD X cad W (me.bind frz)) (rAug b))) : PS X st (TS1 X cad W ((valS j).bind fun x => (me.bind frz).bind fun y => (M.opt (augD b x y)).bind fun z => (setS j (.val z)).bind fun _ => M.ret .next)) := by
  refine ps_mono h fun D σ H ⟨F, ρ, η, S, ι, R, p⟩ => ?_
  unfold M.bind valS at p
  cases e1 : ρ[j]? with
  | none => rw [e1] at p; exact p.elim
  | some s =>
    rw [e1] at p
    cases s with
    | un => exact p.elim
    | own o => exact p.elim
    | val d =>
      obtain ⟨v, e2, rd⟩ := R.slots.val j d e1
      refine ⟨v, e2, F, ρ, η, S, ι, R, ?_⟩
      refine PostS.thn p fun w H1 d' ρ1 η1 S1 ι1 R1 s1 p1 q1 z => ?_
      cases e3 : augD b d d' with
      | none => rw [e3] at z; exact z.elim
      | some zz =>
        rw [e3] at z
        refine aug_ok (RelD.mono s1 p1 rd) q1 e3 fun u ru => ?_
        exact set_at (r := .val zz) R1 ru z
/-- what a def's frame gives beyond Ctx -/
structure CtxF (X : Cx) (cad : Nat → Addr) (W : WX) (T : CT) (Φ : Nat → Fn) (k : Nat) : Prop extends Ctx X cad W T Φ k where
  fn : ∀ x, X.env.scope.names.lookup x = some .cell → X.fn x = true
theorem hf_of (C : CtxF X cad W T Φ k) {x : Str} (h : Loc X.env.scope x) : X.fn x = true ∨ X.env.scope.names.lookup x = some .local := by
  rcases h with h | h
  · exact .inr h
  · exact .inl (C.fn x h)
theorem s_tgF {n : Nat} {tg : Tg} (C : CtxF X cad W T Φ k) (h : cTg T X.N n X.env.scope e = some tg) : PG X e (tgG X.K tg) := by
  cases n with
  | zero => unfold cTg at h; cases h
  | succ n =>
    have h0 := h
    refine s_tg C.toCtx h fun i hi x hx => ?_
    cases e <;> first | (unfold cTg at h; cases h; done) | skip
    · unfold cTg at h
      obtain ⟨i', hi', h⟩ := bnd h
      cases h
      obtain ⟨hp, hN, hv⟩ := slotN_of hi'
      rw [show i = i' from by simpa [Tg.slots] using hi, hN] at hx
      cases hx
      exact hf_of C hv
    · unfold cTg at h
      obtain ⟨is, his, h⟩ := bnd h
      split at h
      · cases h
        have : ∀ {es : List Expr} {is : List Nat}, es.mapM (fun e => match e with | .Name x _ => slotN T X.N X.env.scope x | _ => none) = some is → ∀ i ∈ is, ∀ x, X.N[i]? = some x → Loc X.env.scope x := by
          intro es
          induction es with
          | nil => intro is h i hi; cases h; cases hi
          | cons e es ih =>
            intro is h i hi x hx
            rw [List.mapM_cons] at h
            obtain ⟨i', hi', h⟩ := bnd h
            obtain ⟨is', his', h⟩ := bnd h
            cases h
            cases e <;> first | (cases hi'; done) | skip
            obtain ⟨hp, hN, hv⟩ := slotN_of hi'
            rcases List.mem_cons.mp hi with rfl | hi
            · rw [hN] at hx
              cases hx
              exact hv
            · exact ih his' i hi x hx
        exact hf_of C (this his i hi x hx)
      · cases h
end
end Mp

/-! statements: the induction -/
namespace Mp
open PySem L2
section
variable {T : CT} {Φ : Nat → Fn} {k : Nat} {cad : Nat → Addr} {X : Cx} {W : WX}
structure AllT (T : CT) (Φ : Nat → Fn) (k : Nat) (cad : Nat → Addr) (X : Cx) (W : WX) (n : Nat) : Prop where
  s : ∀ st c, cS T X.N n X.env.scope st = some c → PS X st (TS1 X cad W (exS Φ c))
  ss : ∀ sts cs, cSs T X.N n X.env.scope sts = some cs → PSs X sts (TS1 X cad W (exSs Φ cs))
theorem swap_lc {elt tgE iter : Expr} {ifs : List Expr} {scope : Scope} {p px : Pos} {x : Str} {l : Nat} {env : Env} : swapsWith (.ListComp elt [⟨tgE, iter, ifs, 0⟩] scope p) (some (.Name x px)) l env = pure (env.blockKind == .function && env.kindOf x == some .local && px.line == p.line
      && !(scope.names.any fun (n, k) => n == x && (k == .local || k == .cell))) := rfl
theorem s_setN {n : Nat} (C : CtxF X cad W T Φ k) {x : Str} {px pos : Pos} {e : Expr} {i : Nat} {ce : CE} (hi : slotN T X.N X.env.scope x = some i) (h : cE T X.N n X.env.scope e = some ce) :
    PS X (.Assign [.Name x px] e pos) (TS1 X cad W ((evR Φ ce).bind fun r => (setS i (slotOf r)).bind fun _ => M.ret .next)) := by
  obtain ⟨hp, hN, hv⟩ := slotN_of hi
  have E := (AllS.all n).e X W C.toCtx e ce h
  by_cases hl : isLC e = true
  · cases e <;> first | (cases hl; done) | skip
    rename_i elt gens scope p
    cases n with
    | zero => unfold cE at h; cases h
    | succ n =>
      have h' := h
      unfold cE at h'
      split at h' <;> first | (cases h'; done) | skip
      all_goals (rename_i z; cases z)
      rename_i elt tgE iter ifs
      obtain ⟨⟨ik, es⟩, h1, h'⟩ := bnd h'
      obtain ⟨tg, h2, h'⟩ := bnd h'
      split at h'
      case isFalse => cases h'
      rename_i hc
      simp only [Bool.and_eq_true, decide_eq_true_eq, Bool.not_eq_true'] at hc
      obtain ⟨ce', h3, h'⟩ := bnd h'
      obtain ⟨cs, h4, h'⟩ := bnd h'
      cases h'
      obtain ⟨pi, ok, hf, hg, ht, he, key⟩ := s_lcE (AllS.all n) C.toCtx (p := p) h1 h2 hc.1.1.1.1 hc.1.1.1.2 hc.1.1.2 hc.1.2 hc.2 h3 h4
      by_cases sw : (X.env.blockKind == .function && X.env.kindOf x == some .local && px.line == p.line && !(scope.names.any fun (n, k) => n == x && (k == .local || k == .cell))) = true
      · have hloc : X.env.scope.names.lookup x = some .local := by
          simp only [Bool.and_eq_true, beq_iff_eq] at sw
          exact sw.1.1.2
        refine s_setG (ps_setLc C.calm C.nd hN hloc (by rw [swap_lc, sw]) pi ok hg ht he hf) fun σ H Q q => key σ H Q (wrap_imp σ H Q q)
      · refine s_setG (ps_set C.nd hN hv E.pe (by rw [swap_lc]; simp only [Bool.not_eq_true] at sw; rw [sw]) (hf_of C hv)) fun _ _ _ q => q
  · exact s_setG (ps_set C.nd hN hv E.pe (sw_no h (by simpa using hl)) (hf_of C hv)) fun _ _ _ q => q
theorem AllT.all (C : CtxF X cad W T Φ k) : ∀ n, AllT T Φ k cad X W n
  | 0 => by
    refine ⟨fun st c h => ?_, fun sts cs h => ?_⟩
    · unfold cS at h
      cases h
    · cases sts with
      | nil => unfold cSs at h; cases h; unfold exSs; exact ss_nil
      | cons st sts => unfold cSs at h; cases h
  | n + 1 => by
    have A := AllT.all C n
    have B : AllS T Φ k cad n := AllS.all n
    refine ⟨fun st c h => ?_, fun sts cs h => ?_⟩
    · unfold cS at h
      split at h
      · -- name = e
        obtain ⟨i, hi, h⟩ := bnd h
        obtain ⟨ce, he, h⟩ := bnd h
        cases h
        unfold exS
        exact s_setN C hi he
      · -- a, b = e
        obtain ⟨tg, ht, h⟩ := bnd h
        split at h
        · cases h
        rename_i hte
        simp only [Bool.or_eq_true, not_or, Bool.not_eq_true] at hte
        obtain ⟨ce, he, h⟩ := bnd h
        split at h
        · cases h
          unfold exS
          exact s_setT (s_tgF C ht) (B.e X W C.toCtx _ _ he).pe (by unfold swapsWithSole; exact sw_no he hte.2) (sw_tup hte.1) rfl
        · cases h
      · -- o[i] = e
        rename_i o0 i0 sp0 e0 p0
        split at h
        · cases h
        rename_i hs
        obtain ⟨ce, he, h⟩ := bnd h
        obtain ⟨ca, ha, h⟩ := bnd h
        obtain ⟨ci, hi, h⟩ := bnd h
        cases h
        have Ee := B.e X W C.toCtx _ _ he
        have Ea := B.e X W C.toCtx _ _ ha
        have Ei := B.e X W C.toCtx _ _ hi
        unfold exS
        have hset : PSet X (fun o i v H Q => rSetL o i v H Q ∨ rSetD o i v H Q) := PSet.or set_list (set_dict C.hu)
        cases q : ca.var? with
        | some j => exact s_setIV (pos' := sp0) (hg := pg_sub (Ea.pv j q) (s_frz Ei.pe) hset (asg_sub Ei.sl)) C.hu Ee.pe (Ea.pv j q) Ei.pe (ps_asg (s_frz Ee.pe) (pg_sub (Ea.pv j q) (s_frz Ei.pe) hset (asg_sub Ei.sl)) (sw_sub he) sw_st rfl)
        | none => exact s_setIG (ps_asg (s_frz Ee.pe) (pg_sub (s_frz Ea.pe) (s_frz Ei.pe) hset (asg_sub Ei.sl)) (sw_sub he) sw_st rfl)
      · -- x op= e
        obtain ⟨i, hi, h⟩ := bnd h
        obtain ⟨o, ho, h⟩ := bnd h
        obtain ⟨ce, he, h⟩ := bnd h
        cases h
        obtain ⟨hp, hN, hv⟩ := slotN_of hi
        unfold exS
        exact s_aug (ps_aug C.nd hN hv (s_frz (B.e X W C.toCtx _ _ he).pe) (pip_of ho) (hf_of C hv))
      · -- e
        split at h
        · cases h
        rename_i hl
        obtain ⟨ce, he, h⟩ := bnd h
        cases h
        unfold exS
        exact s_expr (B.e X W C.toCtx _ _ he).pe (sw_no he (by simpa using hl))
      · -- if
        split at h
        · cases h
        rename_i hif
        obtain ⟨cc, hc, h⟩ := bnd h
        obtain ⟨ca, ha, h⟩ := bnd h
        obtain ⟨cb, hb, h⟩ := bnd h
        cases h
        unfold exS
        exact s_if ((B.e X W C.toCtx _ _ hc).pt (by simpa using hif)) (A.ss _ _ ha) (A.ss _ _ hb)
      · -- for
        split at h
        · obtain ⟨tg, ht, h⟩ := bnd h
          obtain ⟨ce, he, h⟩ := bnd h
          obtain ⟨cb, hb, h⟩ := bnd h
          cases h
          unfold exS
          exact s_forR (pos := by assumption) C.pass C.calm (s_frz (B.e X W C.toCtx _ _ he).pe) (s_tgF C ht) (A.ss _ _ hb) (fold_of he)
        obtain ⟨tg, ht, h⟩ := bnd h
        obtain ⟨⟨ik, es⟩, hi, h⟩ := bnd h
        obtain ⟨cb, hb, h⟩ := bnd h
        split at h
        case isFalse => cases h
        rename_i hto
        cases h
        obtain ⟨pi, hf⟩ := B.i X W C.toCtx _ _ _ _ _ _ _ hi ht hto
        unfold exS
        have := s_for (pos := by assumption) C.pass C.calm pi (s_tgF C ht) (A.ss _ _ hb) hf
        rw [bind_assoc'] at this
        exact this
      · -- while
        split at h
        · cases h
        rename_i hif
        obtain ⟨cc, hc, h⟩ := bnd h
        obtain ⟨cb, hb, h⟩ := bnd h
        cases h
        unfold exS
        exact s_while C.pass ((B.e X W C.toCtx _ _ hc).pt (by simpa using hif)) (A.ss _ _ hb)
      · -- return e
        obtain ⟨ce, he, h⟩ := bnd h
        cases h
        have E := B.e X W C.toCtx _ _ he
        unfold exS
        cases q : ce.var? with
        | some j => exact s_retV (E.pv j q)
        | none => exact s_ret E.pe
      · cases h
        unfold exS
        exact s_retN
      · cases h
        unfold exS
        exact ss_break
      · cases h
        unfold exS
        exact ss_cont
      · cases h
        unfold exS
        exact ss_pass
      · cases h
    · cases sts with
      | nil => unfold cSs at h; cases h; unfold exSs; exact ss_nil
      | cons st sts =>
        unfold cSs at h
        obtain ⟨cs', hcs, h⟩ := bnd h
        cases h
        unfold exSs
        refine ss_cons ?_ (A.ss _ _ hcs)
        cases hc : cS T X.N n X.env.scope st with
        | some c => exact A.s _ _ hc
        | none =>
          refine ps_mono ps_never fun D σ H ⟨F, ρ, η, S, ι, R, p⟩ => ?_
          rw [Option.getD_none] at p
          unfold exS at p
          exact p.elim
end
end Mp

/-! the defs of a module by their terms; the end of a law row -/
namespace Mp
open PySem L2
/-- a def of the module: its name, its text, its slots, its parameters -/
structure FE where
  x : Str
  st : Stmt
  N : List Str
  ps : List Str
def cFn (T : CT) (e : FE) : Option Fd := match cSs T e.N 1000 (defScope e.st) (defBody e.st) with
  | some b => some ⟨e.N.length, e.ps.length, b⟩
  | none => none
/-- what the written part says of a def -/
structure FH (K : PySem.W.Frag) (mg : Str → Option Value) (e : FE) : Prop where
  ex : ∃ f fd, L2.Fun K e.x e.x e.st f fd ∧ mg e.x = some (.ref f) ∧ ∀ us : List Value, us.length = e.ps.length → bindArgs fd ⟨us, []⟩ = pure (e.ps.zip us)
theorem FH.mk' {K : PySem.W.Frag} {mg : Str → Option Value} {e : FE} {f : Addr} {oc kV doc pm cdv ct : Value} {od an : Option Addr} {osl : Array (Option Value)} (hm : mg e.x = some (.ref f))
    (l : K.lookup f = some ⟨oc, od, .func (PySem.W.fnOf e.x e.x (defArgs e.st) (defBody e.st) (defScope e.st) .none kV doc pm an cdv ct), osl⟩) (c : PySem.W.codeIn K cdv e.x = true) (k : PySem.W.keepIn K (.ref f) = true)
    (b : ∀ us : List Value, us.length = e.ps.length → bindArgs (PySem.W.fnOf e.x e.x (defArgs e.st) (defBody e.st) (defScope e.st) .none kV doc pm an cdv ct) ⟨us, []⟩ = pure (e.ps.zip us)) : FH K mg e :=
  ⟨f, _, ⟨⟨oc, od, kV, doc, pm, an, cdv, ct, osl, rfl, l, c⟩, k⟩, hm, b⟩
theorem fh_nil {K : PySem.W.Frag} {mg : Str → Option Value} : ∀ e ∈ ([] : List FE), FH K mg e := fun e h => absurd h (by simp)
theorem fh_cons {K : PySem.W.Frag} {mg : Str → Option Value} {e0 : FE} {r : List FE} (h : FH K mg e0) (t : ∀ e ∈ r, FH K mg e) : ∀ e ∈ e0 :: r, FH K mg e := fun e q => by
  rcases List.mem_cons.mp q with rfl | q
  · exact h
  · exact t e q
/-- a constant's reading -/
def Cst (K : PySem.W.Frag) (mg : Str → Option Value) (x : Str) (d : D) : Prop := ∃ v u, mg x = some u ∧ RelV v u ∧ ∀ S ι, RelD K S ι d v
theorem cst_int {K : PySem.W.Frag} {mg : Str → Option Value} {x : Str} {i : Int} {t : Tok} (h : mg x = some (.int i t)) : Cst K mg x (.int i) := ⟨.int i, _, h, ⟨t, rfl⟩, fun _ _ => rfl⟩
theorem cst_str {K : PySem.W.Frag} {mg : Str → Option Value} {x : Str} {i : Str} {t : Tok} (h : mg x = some (.str i t)) : Cst K mg x (.str i) := ⟨.str i, _, h, ⟨t, rfl⟩, fun _ _ => rfl⟩
theorem cst_bl {K : PySem.W.Frag} {mg : Str → Option Value} {x : Str} {b : Bool} (h : mg x = some (.bool b)) : Cst K mg x (.bl b) := ⟨.bl b, _, h, rfl, fun _ _ => rfl⟩
theorem cst_non {K : PySem.W.Frag} {mg : Str → Option Value} {x : Str} (h : mg x = some .none) : Cst K mg x .non := ⟨.non, _, h, rfl, fun _ _ => rfl⟩
theorem csts_nil {K : PySem.W.Frag} {mg : Str → Option Value} : ∀ (x : Str) (d : D), List.lookup x ([] : List (Str × D)) = some d → Cst K mg x d := fun _ _ h => by cases h
theorem csts_cons {K : PySem.W.Frag} {mg : Str → Option Value} {y : Str} {d0 : D} {r : List (Str × D)} (h0 : Cst K mg y d0) (t : ∀ (x : Str) (d : D), List.lookup x r = some d → Cst K mg x d) : ∀ (x : Str) (d : D), List.lookup x ((y, d0) :: r) = some d → Cst K mg x d := fun x d h => by
  rw [List.lookup_cons] at h
  split at h
  · rename_i e
    cases h
    have : x = y := by simpa using e
    rw [this]
    exact h0
  · exact t x d h
theorem blts_nil {mg : Str → Option Value} : ∀ x ∈ ([] : List Str), mg x = none := fun x h => absurd h (by simp)
theorem blts_cons {mg : Str → Option Value} {y : Str} {r : List Str} (h : mg y = none) (t : ∀ x ∈ r, mg x = none) : ∀ x ∈ y :: r, mg x = none := fun x q => by
  rcases List.mem_cons.mp q with rfl | q
  · exact h
  · exact t x q
structure Setup (K : PySem.W.Frag) (mg : Str → Option Value) (T : CT) (L : List FE) (Pd : List Fd) : Prop where
  funs : T.funs = L.map (·.x)
  comp : L.map (cFn T) = Pd.map some
  scs : (L.all fun e => C8.scC e.N e.ps (defScope e.st)) = true
  hs : ∀ e ∈ L, FH K mg e
  consts : ∀ (x : Str) (d : D), T.consts.lookup x = some d → ∃ v u, mg x = some u ∧ RelV v u ∧ ∀ S ι, RelD K S ι d v
  blts : ∀ x ∈ T.blts, mg x = none
  nosup : ("super" : Str) ∉ T.funs
theorem start_rel {K : PySem.W.Frag} {cad : Nat → Addr} {F : Hp} {η : List AO} {H S : Hp} {ι : List Addr} {ds : List D} {vs : List V} {N : List Str} (B : Base ⟨K, cad⟩ F η H S ι) (r : RelDs K S ι ds vs) :
    Rel ⟨K, cad⟩ F (ds.map .val ++ List.replicate (N.length - ds.length) .un) η (start N vs) H S ι := by
  have own : ∀ (i : Nat) (o : AO), ¬ (ds.map Slot.val ++ List.replicate (N.length - ds.length) .un)[i]? = some (.own o) := fun i o h => by
    rcases List.mem_append.mp (List.mem_of_getElem? h) with q | q
    · obtain ⟨d, _, e⟩ := List.mem_map.mp q
      cases e
    · cases (List.mem_replicate.mp q).2
  refine ⟨B, ⟨?_, fun i d h => ?_, fun i o h => absurd h (own i o), fun j k o o' y h => absurd h (own j o)⟩⟩
  · unfold L2.start
    simp [r.length]
  · unfold L2.start
    by_cases hi : i < ds.length
    · rw [List.getElem?_append_left (by simpa using hi), List.getElem?_map] at h
      cases e : ds[i]? with
      | none => rw [e] at h; cases h
      | some d' =>
        rw [e] at h
        cases h
        obtain ⟨v, h1, h2⟩ := r.get e
        refine ⟨v, ?_, h2⟩
        rw [List.getElem?_append_left (by rw [List.length_map, ← r.length]; exact hi), List.getElem?_map, h1]
        rfl
    · exfalso
      rw [List.getElem?_append_right (by simpa using hi)] at h
      cases (List.mem_replicate.mp (List.mem_of_getElem? h)).2
section
variable {P : Program} {w : World} {K : PySem.W.Frag} {mg : Str → Option Value} {base : Heap} {cad : Nat → Addr} {T : CT} {L : List FE} {Pd : List Fd}
/-- a def by its term, to a depth of calls -/
structure FnB (P : Program) (w : World) (K : PySem.W.Frag) (mg : Str → Option Value) (base : Heap) (cad : Nat → Addr) (k : Nat) (fa : Addr) (np : Nat) (fn : Fn) : Prop where
  ok : ∃ fd ps, Binds K fd ps [] ∧ FnOk P w K mg base (L2.CX P w) k fa fd ps (spF ⟨K, cad⟩ np fn)
  kp : PySem.W.keepIn K (.ref fa) = true
  len : ∀ ds η, fn ds η ≠ .fail → ds.length = np
theorem den_len {k j : Nat} {d : Fd} (h : Pd[j]? = some d) (ds : List D) (η : List AO) (q : den Pd k j ds η ≠ .fail) : ds.length = d.np := by
  cases k with
  | zero => exact absurd rfl q
  | succ k =>
    unfold den at q
    rw [h] at q
    simp only at q
    split at q
    · assumption
    · exact absurd rfl q
theorem comp_at (U : Setup K mg T L Pd) {j : Nat} {e : FE} (h : L[j]? = some e) : ∃ d, Pd[j]? = some d ∧ cFn T e = some d := by
  have q := congrArg (fun l => l[j]?) U.comp
  simp only [List.getElem?_map, h, Option.map_some] at q
  cases z : Pd[j]? with
  | none => rw [z] at q; cases q
  | some d =>
    rw [z] at q
    simp only [Option.map_some, Option.some.injEq] at q
    exact ⟨d, rfl, q⟩
theorem fn_step (U : Setup K mg T L Pd) {k : Nat} (ih : ∀ (j : Nat) (e : FE) (d : Fd), L[j]? = some e → Pd[j]? = some d → ∃ fa, mg e.x = some (.ref fa) ∧ FnB P w K mg base cad k fa d.np (den Pd k j))
    {j : Nat} {e : FE} {d : Fd} (hj : L[j]? = some e) (hd : Pd[j]? = some d) {f : Addr} {fd : FuncData} (F : L2.Fun K e.x e.x e.st f fd) : FnOk P w K mg base (L2.CX P w) (k + 1) f fd e.ps (spF ⟨K, cad⟩ d.np (den Pd (k + 1) j)) := by
  obtain ⟨d', hd', hc⟩ := comp_at U hj
  rw [hd] at hd'
  cases hd'
  unfold cFn at hc
  split at hc
  case h_2 => cases hc
  rename_i b hb
  cases hc
  have S : FnScope e.N e.ps (defScope e.st) := C8.fnScope_by (List.all_eq_true.mp U.scs e (List.mem_of_getElem? hj))
  refine F.okX S (fun vs H Q E h => h.1) fun cdv A outer s H vs Q E hr h => ?_
  have C : CtxF (cxOf (L2.CX P w) P w K mg base e.N e.x (defScope e.st) f cdv A outer s H E) cad (fun cls d _ H => E cls d H) T (den Pd k) k := by
    refine ⟨⟨hr, rfl, S.nd, takes_of rfl rfl rfl rfl, passes_of rfl, S.kind, fun i x hx => ?_, U.consts, U.blts, U.nosup⟩, fun _ _ => rfl⟩
    rw [U.funs, List.getElem?_map] at hx
    cases q : L[i]? with
    | none => rw [q] at hx; cases hx
    | some e' =>
      rw [q] at hx
      cases hx
      obtain ⟨d', hd', _⟩ := comp_at U q
      obtain ⟨fa, hm, B⟩ := ih i e' d' q hd'
      exact ⟨fa, d'.np, hm, B.ok, B.kp, B.len⟩
  refine ⟨_, (AllT.all C 1000).ss _ _ hb, ?_⟩
  obtain ⟨hl, ds, η, F0, S0, ι, B, r, z⟩ := h
  have hlen : ds.length = e.ps.length := r.length.trans hl
  unfold den at z
  rw [hd] at z
  simp only [hlen, if_true] at z
  unfold runF at z
  refine ⟨F0, _, η, S0, ι, start_rel (N := e.N) B r, ?_⟩
  cases q : exSs (den Pd k) b (ds.map .val ++ List.replicate (e.N.length - ds.length) .un) η with
  | ok fl ρ' η' =>
    rw [q] at z
    cases fl with
    | next => exact fun σ' H' S' ι' R s p => z .non H' S' ι' R.base s p rfl
    | ret r => exact fun v H' S' ι' B s p q => z v H' S' ι' B s p q
    | brk => exact z.elim
    | cnt => exact z.elim
  | exc c fs ρ' η' =>
    rw [q] at z
    exact fun σ' d H' S' ι' fs' R s p q1 q2 => z d H' S' ι' fs' R.base s p q1 q2
  | fail =>
    rw [q] at z
    exact z.elim
theorem fns_ok (U : Setup K mg T L Pd) : ∀ (k j : Nat) (e : FE) (d : Fd), L[j]? = some e → Pd[j]? = some d → ∃ fa, mg e.x = some (.ref fa) ∧ FnB P w K mg base cad k fa d.np (den Pd k j)
  | 0, j, e, d, hj, hd => by
    obtain ⟨f, fd, F, hm, hb⟩ := (U.hs e (List.mem_of_getElem? hj)).ex
    have no : ∀ {vs H Q E}, spF ⟨K, cad⟩ d.np (den Pd 0 j) vs H Q E → False := fun ⟨_, ds, η, F, S, ι, _, _, z⟩ => z
    exact ⟨f, hm, ⟨fd, e.ps, .all hb, fun vs H Q E h => (no h).elim, fun A outer s H args us vs Q E hr e0 hb r h => (no h).elim⟩, F.kp, fun ds η q => den_len hd ds η q⟩
  | k + 1, j, e, d, hj, hd => by
    obtain ⟨f, fd, F, hm, hb⟩ := (U.hs e (List.mem_of_getElem? hj)).ex
    exact ⟨f, hm, ⟨fd, e.ps, .all hb, fn_step U (fns_ok U k) hj hd F⟩, F.kp, fun ds η q => den_len hd ds η q⟩
/-- the law's def -/
theorem law_ok (U : Setup K mg T L Pd) {k j : Nat} {e : FE} {d : Fd} (hj : L[j]? = some e) (hd : Pd[j]? = some d) {fa : Addr} (hm : mg e.x = some (.ref fa)) {x : Str} (hps : e.ps = [x]) (hnp : d.np = 1) :
    ∃ fd : FuncData, (∀ (s : Shared) (u : Value), BindsTo s fd ⟨[u], []⟩ [(x, u)]) ∧ ∀ base : Heap, K.In base → base.Ns mainGlobals mg → FnOk P w K mg base (L2.CX P w) (k + 1) fa fd [x] (spF ⟨K, cad⟩ 1 (den Pd (k + 1) j)) := by
  obtain ⟨f, fd, F, hm', hb⟩ := (U.hs e (List.mem_of_getElem? hj)).ex
  rw [hm] at hm'
  cases hm'
  refine ⟨fd, fun s u => ?_, fun base _ _ => ?_⟩
  · have := hb [u] (by rw [hps]; rfl)
    rw [hps] at this
    exact .of_eq this
  · have q := fn_step (P := P) (w := w) (base := base) (cad := cad) U (fns_ok U k) hj hd F
    rw [hnp, hps] at q
    exact q
theorem den_true {k j : Nat} {H : Hp} {a : Addr} {ns : List Int} (hS : SqL K H a (ns.map V.int)) (h : ∃ η', den Pd k j [.lck (ns.map .int)] [] = .ret (.val (.bl true)) η') : spF ⟨K, cad⟩ 1 (den Pd k j) [.ref a] H (fun v _ => v = .bl true) fun _ _ _ => False := by
  obtain ⟨η', h⟩ := h
  refine ⟨rfl, [.lck (ns.map .int)], [], fun _ => none, H, [], ⟨fun _ _ q => q, fun _ _ q => (by cases q), fun _ q => absurd rfl q, fun _ q => absurd q (by simp), fun _ q => absurd q (by simp), List.nodup_nil, rfl, fun n o q => (by simp at q)⟩, ⟨_, [], rfl, ⟨a, _, rfl, hS, RelDs.ofInts ns⟩, rfl⟩, ?_⟩
  rw [h]
  exact fun v H' S' ι' _ _ _ q => q
end
end Mp

/-! the evaluator step by step, for simp -/
namespace Mp
open PySem L2
section
variable {Φ : Nat → Fn} {ρ : List Slot} {η : List AO} {α β : Type}
@[simp] theorem R.bind_ok {a : α} {k : α → M β} : (R.ok a ρ η).bind k = k a ρ η := (rfl)
@[simp] theorem R.bind_exc {c : Nat} {fs : List (Str × D)} {k : α → M β} : (R.exc c fs ρ η).bind k = .exc c fs ρ η := (rfl)
@[simp] theorem R.bind_fail {k : α → M β} : (R.fail : R α).bind k = .fail := (rfl)
@[simp] theorem M.bind_at {m : M α} {k : α → M β} : (m.bind k) ρ η = (m ρ η).bind k := (rfl)
@[simp] theorem M.ret_at {a : α} : (M.ret a) ρ η = .ok a ρ η := (rfl)
@[simp] theorem M.opt_some {a : α} : (M.opt (some a)) ρ η = .ok a ρ η := (rfl)
@[simp] theorem M.opt_none : (M.opt (none : Option α)) ρ η = .fail := (rfl)
@[simp] theorem M.fail_at : (M.fail : M α) ρ η = .fail := (rfl)
@[simp] theorem frz_val {d : D} : frz (.val d) ρ η = .ok d ρ η := (rfl)
@[simp] theorem frz_own {ds : List D} : frz (.own (.lst ds)) ρ η = .ok (.lst ds) ρ η := (rfl)
@[simp] theorem boolD_bl {b : Bool} : boolD (.bl b) ρ η = .ok b ρ η := (rfl)
@[simp] theorem rdVar_at {i : Nat} : rdVar i ρ η = (match ρ[i]? with
  | some (.val d) => .ok d ρ η
  | some (.own (.lst ds)) => .ok (.lst ds) (ρ.set i (.val (.lst ds))) η
  | _ => .fail) := (rfl)
@[simp] theorem valS_at {i : Nat} : valS i ρ η = (match ρ[i]? with
  | some (.val d) => .ok d ρ η
  | _ => .fail) := (rfl)
@[simp] theorem vwVar_at' {i : Nat} : vwVar i ρ η = (match ρ[i]? with
  | some s => (match vwS η s with | some v => .ok v ρ η | none => .fail)
  | none => .fail) := (rfl)
@[simp] theorem vwOf_at {r : RV} : vwOf r ρ η = (match vwR η r with | some v => .ok v ρ η | none => .fail) := (rfl)
@[simp] theorem vwS_val {d : D} : vwS η (.val d) = vwD η d := (rfl)
@[simp] theorem vwS_own {o : AO} : vwS η (.own o) = some (.o o) := (rfl)
@[simp] theorem vwR_val {d : D} : vwR η (.val d) = vwD η d := (rfl)
@[simp] theorem vwR_own {o : AO} : vwR η (.own o) = some (.o o) := (rfl)
@[simp] theorem vwD_non : vwD η .non = some (.d .non) := (rfl)
@[simp] theorem vwD_bl {b : Bool} : vwD η (.bl b) = some (.d (.bl b)) := (rfl)
@[simp] theorem vwD_int {b : Int} : vwD η (.int b) = some (.d (.int b)) := (rfl)
@[simp] theorem vwD_str {b : Str} : vwD η (.str b) = some (.d (.str b)) := (rfl)
@[simp] theorem vwD_tup {b : List D} : vwD η (.tup b) = some (.d (.tup b)) := (rfl)
@[simp] theorem vwD_ktp {b : List D} : vwD η (.ktp b) = some (.d (.ktp b)) := (rfl)
@[simp] theorem vwD_lst {b : List D} : vwD η (.lst b) = some (.d (.lst b)) := (rfl)
@[simp] theorem vwD_lck {b : List D} : vwD η (.lck b) = some (.d (.lck b)) := (rfl)
@[simp] theorem vwD_ref {n : Nat} : vwD η (.ref n) = (match η[n]? with | some o => some (.o o) | none => none) := (rfl)
@[simp] theorem getS_at {i : Nat} : getS i ρ η = (match ρ[i]? with | some s => .ok s ρ η | none => .fail) := (rfl)
@[simp] theorem hasS_at {i : Nat} : hasS i ρ η = (match ρ[i]? with
  | some (.val _) => .ok () ρ η
  | some (.own _) => .ok () ρ η
  | _ => .fail) := (rfl)
@[simp] theorem slotOf_val {d : D} : slotOf (.val d) = .val d := (rfl)
@[simp] theorem slotOf_own {o : AO} : slotOf (.own o) = .own o := (rfl)
@[simp] theorem setS_at {i : Nat} {s : Slot} : setS i s ρ η = if i < ρ.length then .ok () (ρ.set i s) η else .fail := (rfl)
@[simp] theorem boxed_own {o : AO} : boxed (.own o) ρ η = .ok (.val (.ref η.length)) ρ (η ++ [o]) := (rfl)
@[simp] theorem tgtVar_at'' {i : Nat} : tgtVar i ρ η = (match ρ[i]? with
  | some (.own _) => .ok (.slot i) ρ η
  | some (.val (.ref n)) => .ok (.at n) ρ η
  | _ => .fail) := (rfl)
@[simp] theorem tgtD_ref {n : Nat} : tgtD (.ref n) ρ η = .ok (.at n) ρ η := (rfl)
@[simp] theorem seen_slot {i : Nat} : seen (.slot i) ρ η = (match ρ[i]? with | some (.own o) => .ok o ρ η | _ => .fail) := (rfl)
@[simp] theorem seen_at' {n : Nat} : seen (.at n) ρ η = (match η[n]? with | some o => .ok o ρ η | none => .fail) := (rfl)
@[simp] theorem store_slot {i : Nat} {o : AO} : store (.slot i) o ρ η = .ok () (ρ.set i (.own o)) η := (rfl)
@[simp] theorem store_at' {n : Nat} {o : AO} : store (.at n) o ρ η = .ok () ρ (η.set n o) := (rfl)
@[simp] theorem isLst_lst {ds : List D} : isLst (.lst ds) = true := (rfl)
@[simp] theorem put_nm {i : Nat} {d : D} : Tg.put (.nm i) d = setS i (.val d) := (rfl)
@[simp] theorem put_tp {is : List Nat} {ds : List D} : Tg.put (.tp is) (.tup ds) = if ds.length = is.length then setAll is ds else M.fail := (rfl)
@[simp] theorem setAll_nil : setAll [] [] ρ η = .ok () ρ η := (rfl)
@[simp] theorem setAll_cons {i : Nat} {is : List Nat} {d : D} {ds : List D} : setAll (i :: is) (d :: ds) ρ η = (setS i (.val d) ρ η).bind fun _ => setAll is ds := (rfl)
@[simp] theorem unpack_at {is : List Nat} {d : D} : unpack is d = Tg.put (.tp is) d := (rfl)
@[simp] theorem callF_at {f : Nat} {ds : List D} : callF Φ f ds ρ η = (match Φ f ds η with
  | .ret r η' => .ok r ρ η'
  | .exc c fs η' => .exc c fs ρ η'
  | .fail => .fail) := (rfl)
@[simp] theorem vwE_none {m : M RV} : vwE none m ρ η = (m ρ η).bind vwOf := (rfl)
@[simp] theorem vwE_some {j : Nat} {m : M RV} : vwE (some j) m ρ η = vwVar j ρ η := (rfl)
@[simp] theorem idxE_some {j : Nat} {ma mi : M RV} : idxE (some j) ma mi ρ η = (hasS j ρ η).bind fun _ => (mi.bind frz).bind fun k => (vwVar j).bind fun v => (M.opt (atD v k)).bind fun d => M.ret (.val d) := (rfl)
@[simp] theorem idxE_none {ma mi : M RV} : idxE none ma mi ρ η = ((ma ρ η).bind frz).bind fun x => (mi.bind frz).bind fun k => (vwOf (.val x)).bind fun v => (M.opt (atD v k)).bind fun d => M.ret (.val d) := (rfl)
@[simp] theorem partE_true {m : M RV} : partE true m ρ η = ((m ρ η).bind frz).bind fun d => (match d with | .int i => M.ret (some i) | _ => M.fail) := (rfl)
@[simp] theorem partE_false {m : M RV} : partE false m ρ η = .ok none ρ η := (rfl)
@[simp] theorem slcE_some {j : Nat} {ma : M RV} {ml mh : M (Option Int)} : slcE (some j) ma ml mh ρ η = (hasS j ρ η).bind fun _ => ml.bind fun l => mh.bind fun h => (vwVar j).bind fun v => M.opt (cutD v l h) := (rfl)
@[simp] theorem slcE_none {ma : M RV} {ml mh : M (Option Int)} : slcE none ma ml mh ρ η = ((ma ρ η).bind frz).bind fun x => ml.bind fun l => mh.bind fun h => (vwOf (.val x)).bind fun v => M.opt (cutD v l h) := (rfl)
@[simp] theorem actE_at {m : LM} {t : Tgt} {args : M (List D)} : actE m t args ρ η = (seen t ρ η).bind fun o => if isLst o then args.bind fun xs => (seen t).bind fun o => (M.opt (lmAct m o xs)).bind fun p => (store t p.2).bind fun _ => M.ret (.val p.1) else M.fail := (rfl)
@[simp] theorem mthE_some {m : LM} {j : Nat} {ma : M RV} {args : M (List D)} : mthE m (some j) ma args ρ η = (tgtVar j ρ η).bind fun t => actE m t args := (rfl)
@[simp] theorem mthE_none {m : LM} {ma : M RV} {args : M (List D)} : mthE m none ma args ρ η = (((ma ρ η).bind frz).bind tgtD).bind fun t => actE m t args := (rfl)
@[simp] theorem var_var {i : Nat} : (CE.var i).var? = some i := (rfl)
@[simp] theorem retE_none {m : M RV} : retE none m ρ η = (m ρ η).bind fun r => M.ret (.ret r) := (rfl)
@[simp] theorem retE_some {j : Nat} {m : M RV} : retE (some j) m ρ η = (getS j ρ η).bind fun s => (match s with
    | .own o => M.ret (.ret (.own o))
    | .val d => M.ret (.ret (.val d))
    | .un => M.fail) := (rfl)
/-! terms -/
@[simp] theorem ev_cst {d : D} : evR Φ (.cst d) ρ η = .ok (.val d) ρ η := by unfold evR; rfl
@[simp] theorem ev_var {i : Nat} : evR Φ (.var i) ρ η = (rdVar i ρ η).bind fun d => M.ret (.val d) := by unfold evR; rfl
@[simp] theorem ev_bin {o : BOp} {a b : CE} : evR Φ (.bin o a b) ρ η = ((evR Φ a ρ η).bind frz).bind fun x => ((evR Φ b).bind frz).bind fun y => M.opt (binD o x y) := (rfl)
@[simp] theorem ev_neg {a : CE} : evR Φ (.neg a) ρ η = ((evR Φ a ρ η).bind frz).bind fun x => (match x with | .int i => M.ret (.val (.int (-i))) | _ => M.fail) := (rfl)
@[simp] theorem ev_eq {a b : CE} : evR Φ (.cmp .eq a b) ρ η = ((evR Φ a ρ η).bind frz).bind fun x => ((evR Φ b).bind frz).bind fun y => (M.opt (cmpD .eq x y)).bind fun r => M.ret (.val (.bl r)) := (rfl)
@[simp] theorem ev_ne {a b : CE} : evR Φ (.cmp .ne a b) ρ η = ((evR Φ a ρ η).bind frz).bind fun x => ((evR Φ b).bind frz).bind fun y => (M.opt (cmpD .ne x y)).bind fun r => M.ret (.val (.bl r)) := (rfl)
@[simp] theorem ev_lt {a b : CE} : evR Φ (.cmp .lt a b) ρ η = ((evR Φ a ρ η).bind frz).bind fun x => ((evR Φ b).bind frz).bind fun y => (M.opt (cmpD .lt x y)).bind fun r => M.ret (.val (.bl r)) := (rfl)
@[simp] theorem ev_le {a b : CE} : evR Φ (.cmp .le a b) ρ η = ((evR Φ a ρ η).bind frz).bind fun x => ((evR Φ b).bind frz).bind fun y => (M.opt (cmpD .le x y)).bind fun r => M.ret (.val (.bl r)) := (rfl)
@[simp] theorem ev_gt {a b : CE} : evR Φ (.cmp .gt a b) ρ η = ((evR Φ a ρ η).bind frz).bind fun x => ((evR Φ b).bind frz).bind fun y => (M.opt (cmpD .gt x y)).bind fun r => M.ret (.val (.bl r)) := (rfl)
@[simp] theorem ev_ge {a b : CE} : evR Φ (.cmp .ge a b) ρ η = ((evR Φ a ρ η).bind frz).bind fun x => ((evR Φ b).bind frz).bind fun y => (M.opt (cmpD .ge x y)).bind fun r => M.ret (.val (.bl r)) := (rfl)
@[simp] theorem ev_is {a b : CE} : evR Φ (.cmp .is a b) ρ η = ((evR Φ a ρ η).bind frz).bind fun x => ((evR Φ b).bind frz).bind fun y => (M.opt (cmpD .is x y)).bind fun r => M.ret (.val (.bl r)) := (rfl)
@[simp] theorem ev_isnot {a b : CE} : evR Φ (.cmp .isnot a b) ρ η = ((evR Φ a ρ η).bind frz).bind fun x => ((evR Φ b).bind frz).bind fun y => (M.opt (cmpD .isnot x y)).bind fun r => M.ret (.val (.bl r)) := (rfl)
@[simp] theorem ev_isin {a b : CE} : evR Φ (.cmp .isin a b) ρ η = ((evR Φ a ρ η).bind frz).bind fun x => (vwE b.var? (evR Φ b)).bind fun v => (M.opt (inD x v)).bind fun r => M.ret (.val (.bl r)) := (rfl)
@[simp] theorem ev_notin {a b : CE} : evR Φ (.cmp .notin a b) ρ η = ((evR Φ a ρ η).bind frz).bind fun x => (vwE b.var? (evR Φ b)).bind fun v => (M.opt (inD x v)).bind fun r => M.ret (.val (.bl (!r))) := (rfl)
@[simp] theorem ev_chn {o o' : COp} {a b c : CE} : evR Φ (.chn o o' a b c) ρ η = ((evR Φ a ρ η).bind frz).bind fun x => ((evR Φ b).bind frz).bind fun y => (M.opt (cmpD o x y)).bind fun r =>
      if r then ((evR Φ c).bind frz).bind fun z => (M.opt (cmpD o' y z)).bind fun r' => M.ret (.val (.bl r')) else M.ret (.val (.bl false)) := (rfl)
@[simp] theorem ev_and {a b : CE} : evR Φ (.and a b) ρ η = (((evR Φ a ρ η).bind frz).bind boolD).bind fun p => if p then (((evR Φ b).bind frz).bind boolD).bind fun q => M.ret (.val (.bl q)) else M.ret (.val (.bl false)) := (rfl)
@[simp] theorem ev_or {a b : CE} : evR Φ (.or a b) ρ η = (((evR Φ a ρ η).bind frz).bind boolD).bind fun p => if p then M.ret (.val (.bl true)) else (((evR Φ b).bind frz).bind boolD).bind fun q => M.ret (.val (.bl q)) := (rfl)
@[simp] theorem ev_not {a : CE} : evR Φ (.not a) ρ η = (((evR Φ a ρ η).bind frz).bind boolD).bind fun p => M.ret (.val (.bl (!p))) := (rfl)
@[simp] theorem ev_ite {c a b : CE} : evR Φ (.ite c a b) ρ η = (((evR Φ c ρ η).bind frz).bind boolD).bind fun p => if p then evR Φ a else evR Φ b := (rfl)
@[simp] theorem ev_tup {es : List CE} : evR Φ (.tup es) ρ η = (evDs Φ es ρ η).bind fun ds => if ds.length ≤ sizeLine then M.ret (.val (.tup ds)) else M.fail := (rfl)
@[simp] theorem ev_lst {es : List CE} : evR Φ (.lst es) ρ η = (evDs Φ es ρ η).bind fun ds => if ds.length ≤ sizeLine then M.ret (.own (.lst ds)) else M.fail := (rfl)
@[simp] theorem ev_dic {t : Bool} : evR Φ (.dic t) ρ η = .ok (.own (if t then .dT [] else .dK [])) ρ η := (rfl)
@[simp] theorem ev_box {e : CE} : evR Φ (.box e) ρ η = (evR Φ e ρ η).bind boxed := (rfl)
@[simp] theorem ev_idx {a i : CE} : evR Φ (.idx a i) ρ η = idxE a.var? (evR Φ a) (evR Φ i) ρ η := (rfl)
@[simp] theorem ev_slc {a lo hi : CE} {bl bh : Bool} : evR Φ (.slc a bl lo bh hi) ρ η = slcE a.var? (evR Φ a) (partE bl (evR Φ lo)) (partE bh (evR Φ hi)) ρ η := (rfl)
@[simp] theorem ev_call {f : Nat} {es : List CE} : evR Φ (.call f es) ρ η = (evDs Φ es ρ η).bind fun ds => callF Φ f ds := (rfl)
@[simp] theorem ev_bi1 {b : Bi} {e : CE} : evR Φ (.bi1 b e) ρ η = (vwE e.var? (evR Φ e) ρ η).bind fun v => M.opt (bi1 b v) := (rfl)
@[simp] theorem ev_bi2 {b : Bi} {x y : CE} : evR Φ (.bi2 b x y) ρ η = ((evR Φ x ρ η).bind frz).bind fun d => ((evR Φ y).bind frz).bind fun d' => M.opt (bi2 b d d') := (rfl)
@[simp] theorem ev_isi {a : CE} {t : Ty} : evR Φ (.isi a [t]) ρ η = ((evR Φ a ρ η).bind frz).bind fun x => (M.opt (tyD x t)).bind fun b => M.ret (.val (.bl b)) := by
  show ((evR Φ a ρ η).bind frz).bind _ = _
  congr 1
  funext x ρ η
  cases h : tyD x t <;> simp [List.mapM_cons, h]
@[simp] theorem ev_lc {elt : CE} {tg : Tg} {ik : IK} {es cs : List CE} : evR Φ (.lc elt tg ik es cs) ρ η = (evDs Φ es ρ η).bind fun ds => (M.opt (walkD ik ds)).bind fun items => lcAll tg items (evCs Φ cs) ((evR Φ elt).bind frz) := (rfl)
@[simp] theorem ev_mth {m : LM} {a : CE} {es : List CE} : evR Φ (.mth m a es) ρ η = mthE m a.var? (evR Φ a) (evDs Φ es) ρ η := (rfl)
@[simp] theorem evDs_nil : evDs Φ [] ρ η = .ok [] ρ η := (rfl)
@[simp] theorem evDs_cons {e : CE} {es : List CE} : evDs Φ (e :: es) ρ η = ((evR Φ e ρ η).bind frz).bind fun d => (evDs Φ es).bind fun ds => M.ret (d :: ds) := (rfl)
@[simp] theorem evCs_nil : evCs Φ [] ρ η = .ok true ρ η := (rfl)
@[simp] theorem evCs_cons {e : CE} {es : List CE} : evCs Φ (e :: es) ρ η = (((evR Φ e ρ η).bind frz).bind boolD).bind fun b => if b then evCs Φ es else M.ret false := (rfl)
/-! statements -/
@[simp] theorem ex_set {i : Nat} {e : CE} : exS Φ (.set i e) ρ η = (evR Φ e ρ η).bind fun r => (setS i (slotOf r)).bind fun _ => M.ret .next := (rfl)
@[simp] theorem ex_setT {is : List Nat} {e : CE} : exS Φ (.setT is e) ρ η = ((evR Φ e ρ η).bind frz).bind fun d => (unpack is d).bind fun _ => M.ret .next := (rfl)
@[simp] theorem ex_setI {a i e : CE} : exS Φ (.setI a i e) ρ η = setIE a.var? (evR Φ e) (evR Φ a) (evR Φ i) ρ η := (rfl)
@[simp] theorem setIE_some {j : Nat} {me ma mi : M RV} : setIE (some j) me ma mi ρ η = ((me ρ η).bind frz).bind fun d => (hasS j).bind fun _ => (mi.bind frz).bind fun k => (tgtVar j).bind fun t => (seen t).bind fun o => (M.opt (setAct o k d)).bind fun o' => (store t o').bind fun _ => M.ret .next := (rfl)
@[simp] theorem setIE_none {me ma mi : M RV} : setIE none me ma mi ρ η = ((me ρ η).bind frz).bind fun d => (ma.bind frz).bind fun x => (mi.bind frz).bind fun k => (tgtD x).bind fun t => (seen t).bind fun o => (M.opt (setAct o k d)).bind fun o' => (store t o').bind fun _ => M.ret .next := (rfl)
@[simp] theorem ex_aug {i : Nat} {o : BOp} {e : CE} : exS Φ (.aug i o e) ρ η = (valS i ρ η).bind fun x => ((evR Φ e).bind frz).bind fun y => (M.opt (augD o x y)).bind fun z => (setS i (.val z)).bind fun _ => M.ret .next := (rfl)
@[simp] theorem ex_ex {e : CE} : exS Φ (.ex e) ρ η = (evR Φ e ρ η).bind fun _ => M.ret .next := (rfl)
@[simp] theorem ex_iff {c : CE} {a b : List CS} : exS Φ (.iff c a b) ρ η = (((evR Φ c ρ η).bind frz).bind boolD).bind fun p => if p then exSs Φ a else exSs Φ b := (rfl)
@[simp] theorem ex_for {tg : Tg} {ik : IK} {es : List CE} {body : List CS} : exS Φ (.for_ tg ik es body) ρ η = (evDs Φ es ρ η).bind fun ds => (M.opt (walkD ik ds)).bind fun items => forGo tg.put (exSs Φ body) items := (rfl)
@[simp] theorem ex_forR {tg : Tg} {e : CE} {body : List CS} : exS Φ (.forR tg e body) ρ η = ((evR Φ e ρ η).bind frz).bind fun d => refE tg.put (exSs Φ body) d := (rfl)
@[simp] theorem refE_ref {put : D → M Unit} {body : M Fl} {n : Nat} : refE put body (.ref n) = refGo put body n fuelW 0 := (rfl)
@[simp] theorem ex_whl {c : CE} {body : List CS} : exS Φ (.whl c body) ρ η = whlGo (((evR Φ c).bind frz).bind boolD) (exSs Φ body) fuelW ρ η := (rfl)
@[simp] theorem ex_ret {e : CE} : exS Φ (.ret e) ρ η = retE e.var? (evR Φ e) ρ η := (rfl)
@[simp] theorem ex_retN : exS Φ .retN ρ η = .ok (.ret (.val .non)) ρ η := (rfl)
@[simp] theorem ex_brk : exS Φ .brk ρ η = .ok .brk ρ η := (rfl)
@[simp] theorem ex_cnt : exS Φ .cnt ρ η = .ok .cnt ρ η := (rfl)
@[simp] theorem ex_pss : exS Φ .pss ρ η = .ok .next ρ η := (rfl)
@[simp] theorem exs_nil : exSs Φ [] ρ η = .ok .next ρ η := (rfl)
@[simp] theorem exs_cons {s : CS} {ss : List CS} : exSs Φ (s :: ss) ρ η = (exS Φ s ρ η).bind (seqK (exSs Φ ss)) := (rfl)
@[simp] theorem seqK_next {k : M Fl} : seqK k .next = k := (rfl)
@[simp] theorem seqK_ret {k : M Fl} {r : RV} : seqK k (.ret r) = M.ret (.ret r) := (rfl)
@[simp] theorem seqK_brk {k : M Fl} : seqK k .brk = M.ret .brk := (rfl)
@[simp] theorem seqK_cnt {k : M Fl} : seqK k .cnt = M.ret .cnt := (rfl)
@[simp] theorem forGo_nil {put : D → M Unit} {body : M Fl} : forGo put body [] ρ η = .ok .next ρ η := (rfl)
theorem forGo_cons {put : D → M Unit} {body : M Fl} {d : D} {ds : List D} : forGo put body (d :: ds) ρ η = (put d ρ η).bind fun _ => body.bind fun f => (match f with
    | .next => forGo put body ds
    | .cnt => forGo put body ds
    | .brk => M.ret .next
    | .ret r => M.ret (.ret r)) := (rfl)
@[simp] theorem ite_at {p : Prop} [Decidable p] {a b : M α} : (if p then a else b) ρ η = if p then a ρ η else b ρ η := by split <;> rfl
theorem ite_bind {p : Prop} [Decidable p] {a b : R α} {k : α → M β} : (if p then a else b).bind k = if p then a.bind k else b.bind k := by split <;> rfl
/-- a def's end -/
def frOf : R Fl → FR
  | .ok .next _ η' => .ret (.val .non) η'
  | .ok (.ret r) _ η' => .ret r η'
  | .exc c fs _ η' => .exc c fs η'
  | _ => .fail
@[simp] theorem frOf_next : frOf (.ok .next ρ η) = .ret (.val .non) η := (rfl)
@[simp] theorem frOf_ret {r : RV} : frOf (.ok (.ret r) ρ η) = .ret r η := (rfl)
@[simp] theorem frOf_exc {c : Nat} {fs : List (Str × D)} : frOf (.exc c fs ρ η) = .exc c fs η := (rfl)
theorem runF_eq {n : Nat} {body : List CS} {ds : List D} : runF Φ n body ds η = frOf (exSs Φ body (ds.map .val ++ List.replicate (n - ds.length) .un) η) := by
  unfold runF frOf
  split <;> simp_all
theorem den_eq {P : List Fd} {k f : Nat} {d : Fd} {ds : List D} (h : P[f]? = some d) (hl : ds.length = d.np) : den P (k + 1) f ds η = frOf (exSs (den P k) d.body (ds.map .val ++ List.replicate (d.n - ds.length) .un) η) := by
  conv => lhs; unfold den
  rw [h]
  simp only [hl, if_true]
  rw [← hl, ← runF_eq]
/-! data -/
@[simp] theorem add_int {i j : Int} : binD .add (.int i) (.int j) = some (.val (.int (i + j))) := (rfl)
@[simp] theorem add_tup {a b : List D} : binD .add (.tup a) (.tup b) = if a.length + b.length ≤ sizeLine then some (.val (.tup (a ++ b))) else none := (rfl)
@[simp] theorem add_lst {a b : List D} : binD .add (.lst a) (.lst b) = if a.length + b.length ≤ sizeLine then some (.own (.lst (a ++ b))) else none := (rfl)
@[simp] theorem sub_int {i j : Int} : binD .sub (.int i) (.int j) = some (.val (.int (i - j))) := (rfl)
@[simp] theorem mul_int' {i j : Int} : binD .mul (.int i) (.int j) = if mulOk i j then some (.val (.int (i * j))) else none := (rfl)
@[simp] theorem mul_lst {a : List D} {k : Int} : binD .mul (.lst a) (.int k) = if k < 2 ^ 63 ∧ -(2 ^ 63) ≤ k ∧ a.length * k.toNat ≤ sizeLine then some (.own (.lst (List.replicate k.toNat a).flatten)) else none := (rfl)
@[simp] theorem mul_tup {a : List D} {k : Int} : binD .mul (.tup a) (.int k) = if a ≠ [] ∧ k ≤ 1000 ∧ -(2 ^ 62) ≤ k ∧ a.length ≤ 1000 then some (.val (.tup (List.replicate k.toNat a).flatten)) else none := (rfl)
@[simp] theorem fdiv_int {i j : Int} : binD .fdiv (.int i) (.int j) = if 0 < j ∧ j < 1073741824 then some (.val (.int (i / j))) else none := (rfl)
@[simp] theorem mod_int {i j : Int} : binD .mod (.int i) (.int j) = if 0 < j then some (.val (.int (i % j))) else none := (rfl)
@[simp] theorem pow_int {i j : Int} : binD .pow (.int i) (.int j) = if 0 ≤ j ∧ j ≤ 1000000 ∧ i.natAbs < 2 ^ 64 then some (.val (.int (i ^ j.toNat))) else none := (rfl)
@[simp] theorem cmp_eq {x y : D} : cmpD .eq x y = eqD x y := by cases x <;> cases y <;> rfl
@[simp] theorem cmp_ne {x y : D} : cmpD .ne x y = (eqD x y).map (!·) := by cases x <;> cases y <;> rfl
@[simp] theorem eq_int {i j : Int} : eqD (.int i) (.int j) = some (decide (i = j)) := (rfl)
@[simp] theorem eq_bl {i j : Bool} : eqD (.bl i) (.bl j) = some (decide (i = j)) := (rfl)
@[simp] theorem eq_str {i j : Str} : eqD (.str i) (.str j) = some (decide (i = j)) := (rfl)
@[simp] theorem lt_int' {i j : Int} : cmpD .lt (.int i) (.int j) = some (decide (i < j)) := (rfl)
@[simp] theorem le_int' {i j : Int} : cmpD .le (.int i) (.int j) = some (decide (i ≤ j)) := (rfl)
@[simp] theorem gt_int' {i j : Int} : cmpD .gt (.int i) (.int j) = some (decide (j < i)) := (rfl)
@[simp] theorem ge_int' {i j : Int} : cmpD .ge (.int i) (.int j) = some (decide (j ≤ i)) := (rfl)
@[simp] theorem is_non {x : D} : cmpD .is x .non = some (match x with | .non => true | _ => false) := by cases x <;> rfl
@[simp] theorem isnot_non {x : D} : cmpD .isnot x .non = some (match x with | .non => false | _ => true) := by cases x <;> rfl
@[simp] theorem is_bl {x y : Bool} : cmpD .is (.bl x) (.bl y) = some (decide (x = y)) := (rfl)
@[simp] theorem isnot_bl {x y : Bool} : cmpD .isnot (.bl x) (.bl y) = some (!decide (x = y)) := (rfl)
end
end Mp
namespace Mp
theorem whl_succ {c : M Bool} {body : M Fl} {n : Nat} {ρ : List Slot} {η : List AO} : whlGo c body (n + 1) ρ η = (c ρ η).bind fun b => if b then body.bind fun f => (match f with
    | .next => whlGo c body n
    | .cnt => whlGo c body n
    | .brk => M.ret .next
    | .ret r => M.ret (.ret r)) else M.ret .next := (rfl)
end Mp

/-! the defs that the law rows share -/
namespace Mp
open PySem L2
/-! ### data -/
@[simp] theorem ty_int_int {i : Int} : tyD (.int i) .int = some true := (rfl)
@[simp] theorem ty_int_bool {i : Int} : tyD (.int i) .bool = some false := (rfl)
@[simp] theorem ty_int_str {i : Int} : tyD (.int i) .str = some false := (rfl)
@[simp] theorem ty_int_tup {i : Int} : tyD (.int i) .tup = some false := (rfl)
@[simp] theorem ty_int_lst {i : Int} : tyD (.int i) .lst = some false := (rfl)
@[simp] theorem ty_bl_int {i : Bool} : tyD (.bl i) .int = some true := (rfl)
@[simp] theorem ty_bl_bool {i : Bool} : tyD (.bl i) .bool = some true := (rfl)
@[simp] theorem ty_bl_str {i : Bool} : tyD (.bl i) .str = some false := (rfl)
@[simp] theorem ty_bl_tup {i : Bool} : tyD (.bl i) .tup = some false := (rfl)
@[simp] theorem ty_bl_lst {i : Bool} : tyD (.bl i) .lst = some false := (rfl)
@[simp] theorem ty_str_int {i : Str} : tyD (.str i) .int = some false := (rfl)
@[simp] theorem ty_str_bool {i : Str} : tyD (.str i) .bool = some false := (rfl)
@[simp] theorem ty_str_str {i : Str} : tyD (.str i) .str = some true := (rfl)
@[simp] theorem ty_str_tup {i : Str} : tyD (.str i) .tup = some false := (rfl)
@[simp] theorem ty_str_lst {i : Str} : tyD (.str i) .lst = some false := (rfl)
@[simp] theorem ty_non_int : tyD .non .int = some false := (rfl)
@[simp] theorem ty_non_bool : tyD .non .bool = some false := (rfl)
@[simp] theorem ty_non_str : tyD .non .str = some false := (rfl)
@[simp] theorem ty_non_tup : tyD .non .tup = some false := (rfl)
@[simp] theorem ty_non_lst : tyD .non .lst = some false := (rfl)
@[simp] theorem ty_tup_int {i : List D} : tyD (.tup i) .int = some false := (rfl)
@[simp] theorem ty_tup_bool {i : List D} : tyD (.tup i) .bool = some false := (rfl)
@[simp] theorem ty_tup_str {i : List D} : tyD (.tup i) .str = some false := (rfl)
@[simp] theorem ty_tup_tup {i : List D} : tyD (.tup i) .tup = some true := (rfl)
@[simp] theorem ty_tup_lst {i : List D} : tyD (.tup i) .lst = some false := (rfl)
@[simp] theorem ty_lst_int {i : List D} : tyD (.lst i) .int = some false := (rfl)
@[simp] theorem ty_lst_bool {i : List D} : tyD (.lst i) .bool = some false := (rfl)
@[simp] theorem ty_lst_str {i : List D} : tyD (.lst i) .str = some false := (rfl)
@[simp] theorem ty_lst_tup {i : List D} : tyD (.lst i) .tup = some false := (rfl)
@[simp] theorem ty_lst_lst {i : List D} : tyD (.lst i) .lst = some true := (rfl)
@[simp] theorem len_tup {i : List D} : bi1 .len (.d (.tup i)) = some (.val (.int i.length)) := (rfl)
@[simp] theorem len_lst {i : List D} : bi1 .len (.d (.lst i)) = some (.val (.int i.length)) := (rfl)
@[simp] theorem len_lck {i : List D} : bi1 .len (.d (.lck i)) = some (.val (.int i.length)) := (rfl)
@[simp] theorem len_ktp {i : List D} : bi1 .len (.d (.ktp i)) = some (.val (.int i.length)) := (rfl)
@[simp] theorem len_own {i : List D} : bi1 .len (.o (.lst i)) = some (.val (.int i.length)) := (rfl)
@[simp] theorem abs_int' {i : Int} : bi1 .abs (.d (.int i)) = some (.val (.int (if i < 0 then -i else i))) := (rfl)
@[simp] theorem int_int' {i : Int} : bi1 .int (.d (.int i)) = some (.val (.int i)) := (rfl)
@[simp] theorem int_bl {b : Bool} : bi1 .int (.d (.bl b)) = some (.val (.int (if b then 1 else 0))) := (rfl)
@[simp] theorem tuple_lst {i : List D} : bi1 .tuple (.d (.lst i)) = some (.val (.tup i)) := (rfl)
@[simp] theorem tuple_tup {i : List D} : bi1 .tuple (.d (.tup i)) = some (.val (.tup i)) := (rfl)
@[simp] theorem tuple_own {i : List D} : bi1 .tuple (.o (.lst i)) = some (.val (.tup i)) := (rfl)
@[simp] theorem tuple_lck {i : List D} : bi1 .tuple (.d (.lck i)) = some (.val (.tup i)) := (rfl)
@[simp] theorem list_lst {i : List D} : bi1 .list (.d (.lst i)) = some (.own (.lst i)) := (rfl)
@[simp] theorem list_tup {i : List D} : bi1 .list (.d (.tup i)) = some (.own (.lst i)) := (rfl)
@[simp] theorem list_ktp {i : List D} : bi1 .list (.d (.ktp i)) = some (.own (.lst i)) := (rfl)
@[simp] theorem list_own {i : List D} : bi1 .list (.o (.lst i)) = some (.own (.lst i)) := (rfl)
@[simp] theorem list_lck {i : List D} : bi1 .list (.d (.lck i)) = some (.own (.lst i)) := (rfl)
@[simp] theorem at_tup {ds : List D} {i : Int} : atD (.d (.tup ds)) (.int i) = atI ds i := (rfl)
@[simp] theorem at_lst {ds : List D} {i : Int} : atD (.d (.lst ds)) (.int i) = atI ds i := (rfl)
@[simp] theorem at_lck {ds : List D} {i : Int} : atD (.d (.lck ds)) (.int i) = atI ds i := (rfl)
@[simp] theorem at_ktp {ds : List D} {i : Int} : atD (.d (.ktp ds)) (.int i) = atI ds i := (rfl)
@[simp] theorem at_own {ds : List D} {i : Int} : atD (.o (.lst ds)) (.int i) = atI ds i := (rfl)
@[simp] theorem act_append {ds : List D} {d : D} : lmAct .append (.lst ds) [d] = if ds.length < sizeLine then some (.non, .lst (ds ++ [d])) else none := (rfl)
@[simp] theorem act_ext_lst {ds es : List D} : lmAct .extend (.lst ds) [.lst es] = if ds.length + es.length ≤ sizeLine then some (.non, .lst (ds ++ es)) else none := (rfl)
@[simp] theorem act_ext_tup {ds es : List D} : lmAct .extend (.lst ds) [.tup es] = if ds.length + es.length ≤ sizeLine then some (.non, .lst (ds ++ es)) else none := (rfl)
@[simp] theorem cut_tup {ds : List D} {l h : Option Int} : cutD (.d (.tup ds)) l h = some (.val (.tup (cutL ds l h))) := (rfl)
@[simp] theorem cut_lst {ds : List D} {l h : Option Int} : cutD (.d (.lst ds)) l h = some (.own (.lst (cutL ds l h))) := (rfl)
@[simp] theorem cut_lck {ds : List D} {l h : Option Int} : cutD (.d (.lck ds)) l h = some (.own (.lst (cutL ds l h))) := (rfl)
@[simp] theorem cut_own {ds : List D} {l h : Option Int} : cutD (.o (.lst ds)) l h = some (.own (.lst (cutL ds l h))) := (rfl)
@[simp] theorem walk_of_tup {ds : List D} : walkD .of [.tup ds] = some ds := (rfl)
@[simp] theorem walk_of_lst {ds : List D} : walkD .of [.lst ds] = some ds := (rfl)
@[simp] theorem walk_of_lck {ds : List D} : walkD .of [.lck ds] = some ds := (rfl)
@[simp] theorem walk_of_ktp {ds : List D} : walkD .of [.ktp ds] = some ds := (rfl)
@[simp] theorem walk_rng1 {i : Int} : walkD .rng1 [.int i] = if small62 i then some (rngD 0 i) else none := (rfl)
@[simp] theorem walk_rng2 {i j : Int} : walkD .rng2 [.int i, .int j] = if small62 i && small62 j then some (rngD i j) else none := (rfl)
@[simp] theorem walk_enum_lst {ds : List D} : walkD .enum [.lst ds] = some (enumD 0 ds) := (rfl)
@[simp] theorem walk_enum_tup {ds : List D} : walkD .enum [.tup ds] = some (enumD 0 ds) := (rfl)
theorem sizeLine_val : sizeLine = 16777216 := sizeLine_eq
theorem atI_nat {α : Type} {ds : List α} {i : Nat} (h : i < ds.length) : atI ds (i : Int) = ds[i]? := by
  unfold atI L2.ixN
  rw [if_pos (Int.natCast_nonneg i), if_pos (by exact_mod_cast h)]
  rfl
theorem atI_int {α : Type} {ds : List α} {i : Int} (h0 : 0 ≤ i) (h : i < ds.length) : atI ds i = ds[i.toNat]? := by
  obtain ⟨n, rfl⟩ := Int.eq_ofNat_of_zero_le h0
  exact atI_nat (by exact_mod_cast h)
theorem small_ok {i : Int} (h0 : -(2 ^ 62) ≤ i) (h1 : i < 2 ^ 62) : small62 i = true := by
  unfold small62
  simp only [decide_eq_true_eq]
  exact ⟨h0, h1⟩
theorem rngD_eq (n : Nat) : rngD 0 (n : Int) = (List.range n).map fun (k : Nat) => D.int (k : Int) := by
  unfold rngD
  simp
theorem rngD_int (i : Int) : rngD 0 i = (List.range i.toNat).map fun (k : Nat) => D.int (k : Int) := by
  unfold rngD
  simp
theorem mulOk_r {i j : Int} (h0 : -(2 ^ 64) < j) (h1 : j < 2 ^ 64) : mulOk i j = true := by
  unfold mulOk
  simp only [Bool.or_eq_true, decide_eq_true_eq]
  exact .inr ⟨h0, h1⟩
theorem mulOk_l {i j : Int} (h0 : -(2 ^ 64) < i) (h1 : i < 2 ^ 64) : mulOk i j = true := by
  unfold mulOk
  simp only [Bool.or_eq_true, decide_eq_true_eq]
  exact .inl ⟨h0, h1⟩
/-! ### _law_cell -/
def cellFd : Fd := ⟨2, 2, [(.iff (.cmp .lt (.var 1) (.bi1 .len (.var 0))) [(.ret (.idx (.var 0) (.var 1)))] []), (.ret (.cst (.int 0)))]⟩
def cellAt (ns : List Int) (i : Nat) : Int := ns.getD i 0
theorem cell_ok {P : List Fd} {f : Nat} (hf : P[f]? = some cellFd) (k : Nat) (ns : List Int) (i : Nat) (η : List AO) : den P (k + 1) f [.lck (ns.map .int), .int (i : Int)] η = .ret (.val (.int (cellAt ns i))) η := by
  rw [den_eq hf rfl]
  by_cases h : i < ns.length
  · have h' : ((i : Int) < (ns.length : Int)) := by exact_mod_cast h
    have e : atI (ns.map D.int) (i : Int) = some (.int ns[i]) := by
      rw [atI_nat (by simpa using h)]
      simp [h]
    simp [cellFd, h, e, cellAt]
  · have h' : ¬ ((i : Int) < (ns.length : Int)) := by exact_mod_cast h
    simp [cellFd, h, cellAt]
/-! ### _law_row -/
def rowFd : Fd := ⟨7, 3, [(.set 3 (.lst [])), (.set 4 (.bi1 .abs (.var 0))), (.iff (.cmp .ge (.var 4) (.bin .pow (.cst (.int 10)) (.cst (.int 18)))) [(.for_ (.nm 5) .rng1 [(.var 1)] [(.ex (.mth .append (.var 3) [(.bin .mod (.bi1 .int (.var 4)) (.var 2))])), (.set 4 (.bin .fdiv (.var 4) (.var 2)))]), (.ret (.var 3))] []), (.for_ (.nm 5) .rng1 [(.var 1)] [(.set 6 (.bin .mod (.bi1 .int (.bin .add (.bin .add (.bin .mul (.var 4) (.cst (.int 48271))) (.bin .mul (.var 5) (.cst (.int 69621)))) (.cst (.int 12345)))) (.cst (.int 2147483647)))), (.set 6 (.bin .mod (.bi1 .int (.bin .add (.bin .add (.bin .mul (.var 6) (.var 6)) (.bin .mul (.var 5) (.cst (.int 40692)))) (.var 4))) (.cst (.int 2147483629)))), (.ex (.mth .append (.var 3) [(.bin .mod (.bi1 .int (.bin .fdiv (.var 6) (.cst (.int 7)))) (.var 2))]))]), (.ret (.var 3))]⟩
theorem row_loop1 {Φ : Nat → Fn} {size : Int} (h0 : 0 < size) (h1 : size < 1073741824) {a b : Slot} {s6 : Slot} {η : List AO} (ks : List Nat) : ∀ (acc : List Int) (rest : Int) (s5 : Slot), acc.length + ks.length ≤ sizeLine → (∀ x ∈ acc, 0 ≤ x ∧ x < size) →
    ∃ (xs : List Int) (rest' : Int) (s5' : Slot), xs.length = acc.length + ks.length ∧ (∀ x ∈ xs, 0 ≤ x ∧ x < size) ∧
      forGo (Tg.put (.nm 5)) (exSs Φ [(.ex (.mth .append (.var 3) [(.bin .mod (.bi1 .int (.var 4)) (.var 2))])), (.set 4 (.bin .fdiv (.var 4) (.var 2)))]) (ks.map fun (k : Nat) => D.int (k : Int)) [a, b, .val (.int size), .own (.lst (acc.map .int)), .val (.int rest), s5, s6] η =
        .ok .next [a, b, .val (.int size), .own (.lst (xs.map .int)), .val (.int rest'), s5', s6] η := by
  induction ks with
  | nil => exact fun acc rest s5 _ h => ⟨acc, rest, s5, rfl, h, rfl⟩
  | cons k ks ih =>
    intro acc rest s5 hl h
    have hz : acc.length < sizeLine := by simp only [List.length_cons] at hl; omega
    obtain ⟨xs, rest', s5', e1, e2, e3⟩ := ih (acc ++ [rest % size]) (rest / size) (.val (.int (k : Int))) (by simp only [List.length_append, List.length_cons, List.length_nil] at hl ⊢; omega) (fun x hx => by
      rcases List.mem_append.mp hx with q | q
      · exact h x q
      · rw [List.mem_singleton] at q
        subst q
        exact ⟨Int.emod_nonneg _ (Int.ne_of_gt h0), Int.emod_lt_of_pos _ h0⟩)
    refine ⟨xs, rest', s5', by simp only [List.length_append, List.length_cons, List.length_nil] at e1 ⊢; omega, e2, ?_⟩
    rw [List.map_append] at e3
    rw [List.map_cons, forGo_cons]
    simp [h0, h1, hz]
    exact e3
theorem row_loop2 {Φ : Nat → Fn} {size : Int} (h0 : 0 < size) {a b : Slot} {rest : Int} {η : List AO} (ks : List Nat) : ∀ (acc : List Int) (s5 s6 : Slot), acc.length + ks.length ≤ sizeLine → (∀ x ∈ acc, 0 ≤ x ∧ x < size) →
    ∃ (xs : List Int) (s5' s6' : Slot), xs.length = acc.length + ks.length ∧ (∀ x ∈ xs, 0 ≤ x ∧ x < size) ∧
      forGo (Tg.put (.nm 5)) (exSs Φ [(.set 6 (.bin .mod (.bi1 .int (.bin .add (.bin .add (.bin .mul (.var 4) (.cst (.int 48271))) (.bin .mul (.var 5) (.cst (.int 69621)))) (.cst (.int 12345)))) (.cst (.int 2147483647)))), (.set 6 (.bin .mod (.bi1 .int (.bin .add (.bin .add (.bin .mul (.var 6) (.var 6)) (.bin .mul (.var 5) (.cst (.int 40692)))) (.var 4))) (.cst (.int 2147483629)))), (.ex (.mth .append (.var 3) [(.bin .mod (.bi1 .int (.bin .fdiv (.var 6) (.cst (.int 7)))) (.var 2))]))]) (ks.map fun (k : Nat) => D.int (k : Int)) [a, b, .val (.int size), .own (.lst (acc.map .int)), .val (.int rest), s5, s6] η =
        .ok .next [a, b, .val (.int size), .own (.lst (xs.map .int)), .val (.int rest), s5', s6'] η := by
  induction ks with
  | nil => exact fun acc s5 s6 _ h => ⟨acc, s5, s6, rfl, h, rfl⟩
  | cons k ks ih =>
    intro acc s5 s6 hl h
    have hz : acc.length < sizeLine := by simp only [List.length_cons] at hl; omega
    obtain ⟨m, hm⟩ : ∃ m, (rest * 48271 + (k : Int) * 69621 + 12345) % 2147483647 = m := ⟨_, rfl⟩
    obtain ⟨m2, hm2⟩ : ∃ m2, (m * m + (k : Int) * 40692 + rest) % 2147483629 = m2 := ⟨_, rfl⟩
    have b0 : 0 ≤ m ∧ m < 2147483647 := by
      rw [← hm]
      exact ⟨Int.emod_nonneg _ (by decide), Int.emod_lt_of_pos _ (by decide)⟩
    obtain ⟨xs, s5', s6', e1, e2, e3⟩ := ih (acc ++ [m2 / 7 % size]) (.val (.int (k : Int))) (.val (.int m2)) (by simp only [List.length_append, List.length_cons, List.length_nil] at hl ⊢; omega) (fun x hx => by
      rcases List.mem_append.mp hx with q | q
      · exact h x q
      · rw [List.mem_singleton] at q
        subst q
        exact ⟨Int.emod_nonneg _ (Int.ne_of_gt h0), Int.emod_lt_of_pos _ h0⟩)
    refine ⟨xs, s5', s6', by simp only [List.length_append, List.length_cons, List.length_nil] at e1 ⊢; omega, e2, ?_⟩
    have k1 : mulOk rest 48271 = true := mulOk_r (by decide) (by decide)
    have k2 : mulOk (k : Int) 69621 = true := mulOk_r (by decide) (by decide)
    have k3 : mulOk m m = true := mulOk_r (by omega) (by omega)
    have k4 : mulOk (k : Int) 40692 = true := mulOk_r (by decide) (by decide)
    rw [List.map_append] at e3
    rw [List.map_cons, forGo_cons]
    simp [h0, hz, k1, k2, k4, hm, k3, hm2]
    exact e3
theorem row_ok {P : List Fd} {f : Nat} (hf : P[f]? = some rowFd) (k : Nat) (c : Int) (count : Int) (size : Int) (η : List AO) (h0 : 0 < size) (h1 : size < 1073741824) (h2 : count ≤ 16777216) (h3 : -16777216 ≤ count) :
    ∃ xs : List Int, xs.length = count.toNat ∧ (∀ x ∈ xs, 0 ≤ x ∧ x < size) ∧ den P (k + 1) f [.int c, .int count, .int size] η = .ret (.own (.lst (xs.map .int))) η := by
  have hs : small62 count = true := small_ok (by omega) (by omega)
  have hlen : ([] : List Int).length + (List.range count.toNat).length ≤ sizeLine := by rw [sizeLine_val, List.length_range]; simp only [List.length_nil]; omega
  obtain ⟨ab, hab⟩ : ∃ ab, (if c < 0 then -c else c) = ab := ⟨_, rfl⟩
  obtain ⟨xs, rest', s5', e1, e2, e3⟩ := row_loop1 (Φ := den P k) h0 h1 (a := .val (.int c)) (b := .val (.int count)) (s6 := .un) (η := η) (List.range count.toNat) [] ab .un hlen (by simp)
  obtain ⟨ys, t5, t6, g1, g2, g3⟩ := row_loop2 (Φ := den P k) h0 (a := .val (.int c)) (b := .val (.int count)) (rest := ab) (η := η) (List.range count.toNat) [] .un .un hlen (by simp)
  rw [List.map_nil] at e3 g3
  by_cases hb : 1000000000000000000 ≤ ab
  · refine ⟨xs, by simpa using e1, e2, ?_⟩
    rw [den_eq hf rfl]
    simp [rowFd, hab, hb, hs, rngD_int, e3, -put_nm]
  · refine ⟨ys, by simpa using g1, g2, ?_⟩
    rw [den_eq hf rfl]
    simp [rowFd, hab, hb, hs, rngD_int, g3, -put_nm]
end Mp

/-! _law_same -/
namespace Mp
open PySem L2
def sameFd (f : Nat) : Fd := ⟨3, 2, [(.iff (.isi (.var 1) [.tup]) [(.iff (.or (.not (.isi (.var 0) [.tup])) (.cmp .ne (.bi1 .len (.var 0)) (.bi1 .len (.var 1)))) [(.ret (.cst (.bl false)))] []), (.for_ (.nm 2) .rng1 [(.bi1 .len (.var 1))] [(.iff (.not (.call f [(.idx (.var 0) (.var 2)), (.idx (.var 1) (.var 2))])) [(.ret (.cst (.bl false)))] [])]), (.ret (.cst (.bl true)))] []), (.iff (.isi (.var 1) [.bool]) [(.ret (.and (.isi (.var 0) [.bool]) (.cmp .eq (.var 0) (.var 1))))] []), (.iff (.isi (.var 1) [.int]) [(.ret (.and (.isi (.var 0) [.int]) (.and (.not (.isi (.var 0) [.bool])) (.cmp .eq (.var 0) (.var 1)))))] []), (.iff (.isi (.var 1) [.str]) [(.ret (.and (.isi (.var 0) [.str]) (.cmp .eq (.var 0) (.var 1))))] []), (.ret (.and (.cmp .is (.var 1) (.cst .non)) (.cmp .is (.var 0) (.cst .non))))]⟩
/-- data that _law_same compares, to a depth -/
def datN : Nat → D → Bool
  | _, .non => true
  | _, .bl _ => true
  | _, .int _ => true
  | _, .str _ => true
  | 0, .tup [] => true
  | n + 1, .tup ds => ds.all (datN n) && decide (ds.length ≤ sizeLine)
  | _, _ => false
theorem datN_tup {n : Nat} {ds : List D} : datN (n + 1) (.tup ds) = (ds.all (datN n) && decide (ds.length ≤ sizeLine)) := by cases ds <;> rfl
theorem atI_get {ds : List D} {i : Nat} {d : D} (h : ds[i]? = some d) : atI ds (i : Int) = some d := by
  rw [atI_nat (List.getElem?_eq_some_iff.mp h).1]
  exact h
theorem small_len {n : Nat} (h : n ≤ sizeLine) : small62 (n : Int) = true := by
  rw [sizeLine_val] at h
  exact small_ok (by omega) (by omega)
theorem same_loop {Φ : Nat → Fn} {f : Nat} {ds : List D} {η : List AO} (h : ∀ d ∈ ds, Φ f [d, d] η = .ret (.val (.bl true)) η) (ks : List Nat) : ∀ (s : Slot), (∀ k ∈ ks, k < ds.length) →
    ∃ s', forGo (Tg.put (.nm 2)) (exSs Φ [(.iff (.not (.call f [(.idx (.var 0) (.var 2)), (.idx (.var 1) (.var 2))])) [(.ret (.cst (.bl false)))] [])]) (ks.map fun (k : Nat) => D.int (k : Int)) [.val (.tup ds), .val (.tup ds), s] η = .ok .next [.val (.tup ds), .val (.tup ds), s'] η := by
  induction ks with
  | nil => exact fun s _ => ⟨s, rfl⟩
  | cons k ks ih =>
    intro s hk
    obtain ⟨s', e⟩ := ih (.val (.int (k : Int))) fun j hj => hk j (List.mem_cons_of_mem _ hj)
    refine ⟨s', ?_⟩
    have hlt := hk k List.mem_cons_self
    have e1 : atI ds (k : Int) = some ds[k] := atI_get (List.getElem?_eq_getElem hlt)
    have e2 := h ds[k] (List.getElem_mem hlt)
    rw [List.map_cons, forGo_cons]
    simp [e1, e2]
    exact e
theorem same_tup {P : List Fd} {f : Nat} (hf : P[f]? = some (sameFd f)) {k : Nat} {ds : List D} {η : List AO} (hl : ds.length ≤ sizeLine) (h : ∀ d ∈ ds, den P k f [d, d] η = .ret (.val (.bl true)) η) : den P (k + 1) f [.tup ds, .tup ds] η = .ret (.val (.bl true)) η := by
  obtain ⟨s', e⟩ := same_loop (Φ := den P k) h (List.range ds.length) .un (by simp)
  rw [den_eq hf rfl]
  simp [sameFd, small_len hl, rngD_int, e, -put_nm]
theorem same_ok {P : List Fd} {f : Nat} (hf : P[f]? = some (sameFd f)) (η : List AO) : ∀ (n k : Nat) (d : D), n < k → datN n d = true → den P k f [d, d] η = .ret (.val (.bl true)) η
  | n, 0, d, hk, _ => by omega
  | n, k + 1, .non, hk, _ => by
    rw [den_eq hf rfl]
    simp [sameFd]
  | n, k + 1, .bl b, hk, _ => by
    rw [den_eq hf rfl]
    simp [sameFd]
  | n, k + 1, .int b, hk, _ => by
    rw [den_eq hf rfl]
    simp [sameFd]
  | n, k + 1, .str b, hk, _ => by
    rw [den_eq hf rfl]
    simp [sameFd]
  | 0, k + 1, .tup [], hk, _ => same_tup hf (Nat.zero_le _) fun d h => absurd h (by simp)
  | n + 1, k + 1, .tup ds, hk, hp => by
    rw [datN_tup, Bool.and_eq_true, decide_eq_true_eq] at hp
    exact same_tup hf hp.2 fun d hd => same_ok hf η n k d (by omega) (List.all_eq_true.mp hp.1 d hd)
  | 0, k + 1, .tup (_ :: _), hk, hp => by cases hp
  | n, k + 1, .lst ds, hk, hp => by cases n <;> cases hp
  | n, k + 1, .lck ds, hk, hp => by cases n <;> cases hp
  | n, k + 1, .ktp ds, hk, hp => by cases n <;> cases hp
  | n, k + 1, .ref ds, hk, hp => by cases n <;> cases hp
theorem plain_ints {n : Nat} {xs : List Int} (h : xs.length ≤ sizeLine) : datN (n + 1) (.tup (xs.map .int)) = true := by
  rw [datN_tup, Bool.and_eq_true, decide_eq_true_eq, List.length_map]
  refine ⟨?_, h⟩
  rw [List.all_eq_true]
  intro d hd
  obtain ⟨i, _, rfl⟩ := List.mem_map.mp hd
  cases n <;> rfl
theorem plain_tups {n : Nat} {xss : List (List Int)} (h : xss.length ≤ sizeLine) (h2 : ∀ xs ∈ xss, xs.length ≤ sizeLine) : datN (n + 2) (.tup (xss.map fun xs => .tup (xs.map .int))) = true := by
  rw [datN_tup, Bool.and_eq_true, decide_eq_true_eq, List.length_map]
  refine ⟨?_, h⟩
  rw [List.all_eq_true]
  intro d hd
  obtain ⟨i, hi, rfl⟩ := List.mem_map.mp hd
  exact plain_ints (h2 i hi)
end Mp

/-! more for the laws: comprehensions, slices, ranges with a step -/
namespace Mp
open PySem L2
theorem lcGo_map {tg : Tg} {cond : M Bool} {elt : M D} {ρ : List Slot} {η : List AO} {f : D → D} (items : List D) : ∀ (acc : List D), acc.length + items.length ≤ sizeLine →
    (∀ d ∈ items, ∃ ρ', lcStep tg cond elt d ρ η = .ok (some (f d)) ρ' η ∧ wipeL ρ' tg.slots = ρ) → lcGo tg cond elt items acc ρ η = .ok (acc ++ items.map f) ρ η := by
  induction items with
  | nil => intro acc _ _; simp [lcGo]
  | cons d ds ih =>
    intro acc hl h
    obtain ⟨ρ', e1, e2⟩ := h d List.mem_cons_self
    rw [List.length_cons] at hl
    unfold lcGo
    rw [e1]
    simp only [R.bind_ok]
    rw [if_pos (by omega), e2, ih (acc ++ [f d]) (by rw [List.length_append, List.length_singleton]; omega) fun x hx => h x (List.mem_cons_of_mem _ hx)]
    simp
theorem lcAll_map {tg : Tg} {cond : M Bool} {elt : M D} {ρ : List Slot} {η : List AO} {items : List D} (f : D → D) (hf : freeS ρ tg.slots = true) (hl : items.length ≤ sizeLine) (hb : backL ρ (wipeL ρ tg.slots) tg.slots = ρ)
    (h : ∀ d ∈ items, ∃ ρ', lcStep tg cond elt d (wipeL ρ tg.slots) η = .ok (some (f d)) ρ' η ∧ wipeL ρ' tg.slots = wipeL ρ tg.slots) : lcAll tg items cond elt ρ η = .ok (.own (.lst (items.map f))) ρ η := by
  unfold lcAll
  rw [if_pos hf, lcGo_map items [] (by simpa using hl) h]
  simp [hb]
theorem lcStep_at {tg : Tg} {cond : M Bool} {elt : M D} {d : D} {ρ : List Slot} {η : List AO} : lcStep tg cond elt d ρ η = (tg.put d ρ η).bind fun _ => cond.bind fun b => if b then elt.bind fun x => M.ret (some x) else M.ret none := (rfl)
theorem cutL_nat {α : Type} (ds : List α) (a b : Nat) : cutL ds (some (a : Int)) (some (b : Int)) = (ds.drop a).take (b - a) := by
  unfold cutL
  rw [HT.sIx_nat, HT.sIx_nat]
  by_cases h : a ≤ ds.length
  · rw [Nat.min_eq_left h]
    by_cases h2 : b ≤ ds.length
    · rw [Nat.min_eq_left h2]
    · rw [Nat.min_eq_right (by omega), List.take_of_length_le (by rw [List.length_drop]; omega), List.take_of_length_le (by rw [List.length_drop]; omega)]
  · have e1 : min a ds.length = ds.length := by omega
    rw [e1, List.drop_length, List.drop_of_length_le (by omega), List.take_nil, List.take_nil]
theorem cutL_int {α : Type} (ds : List α) {a b : Int} (ha : 0 ≤ a) (hb : 0 ≤ b) : cutL ds (some a) (some b) = (ds.drop a.toNat).take (b.toNat - a.toNat) := by
  obtain ⟨m, rfl⟩ := Int.eq_ofNat_of_zero_le ha
  obtain ⟨n, rfl⟩ := Int.eq_ofNat_of_zero_le hb
  exact cutL_nat ds m n
theorem cutL_map {α β : Type} (f : α → β) (ds : List α) (a b : Nat) : ((ds.map f).drop a).take b = ((ds.drop a).take b).map f := by
  rw [List.map_take, List.map_drop]
end Mp
namespace Mp
open PySem L2
theorem rangeSize_nat {n c m : Nat} (hc : 0 < c) (h : n = c * m) : Builtin.Range.rangeSize 0 (n : Int) (c : Int) = (m : Int) := by
  unfold Builtin.Range.rangeSize
  rw [if_pos (by omega)]
  subst h
  by_cases hm : m = 0
  · subst hm
    simp
  · have h0 : (0 : Int) < ((c * m : Nat) : Int) := by exact_mod_cast Nat.mul_pos hc (Nat.pos_of_ne_zero hm)
    rw [if_pos h0]
    have : ((c * m : Nat) : Int) - 0 - 1 = (c : Int) * ((m : Int) - 1) + ((c : Int) - 1) := by
      rw [Int.mul_sub, Int.natCast_mul]
      omega
    rw [this, Int.mul_add_ediv_left _ _ (by omega)]
    have : ((c : Int) - 1) / c = 0 := Int.ediv_eq_zero_of_lt (by omega) (by omega)
    omega
theorem chunks {α : Type} {c : Nat} (hc : 0 < c) : ∀ (m : Nat) (xs : List α), xs.length = c * m → ((List.range m).map fun k => (xs.drop (c * k)).take c).flatten = xs
  | 0, xs, h => by
    have : xs = [] := List.eq_nil_of_length_eq_zero (by simpa using h)
    subst this
    rfl
  | m + 1, xs, h => by
    rw [List.range_succ_eq_map, List.map_cons, List.flatten_cons, List.map_map]
    have ih := chunks hc m (xs.drop c) (by rw [List.length_drop, h, Nat.mul_succ]; omega)
    have e : ((fun k => (xs.drop (c * k)).take c) ∘ Nat.succ) = fun k => ((xs.drop c).drop (c * k)).take c := by
      funext k
      show (xs.drop (c * (k + 1))).take c = _
      rw [List.drop_drop]
      congr 2
      rw [Nat.mul_succ]
      omega
    rw [e, ih]
    simp
end Mp
namespace Mp
open PySem L2
theorem walk_step {n c m : Nat} (hc : 0 < c) (hc2 : c ≤ 1000000) (h : n = c * m) (hn : n ≤ 1000000000) : walkD .rng3 [.int 0, .int (n : Int), .int (c : Int)] = some ((List.range m).map fun (k : Nat) => D.int ((k : Int) * (c : Int))) := by
  have e := rangeSize_nat hc h
  have hm : m ≤ n := by
    rw [h]
    exact Nat.le_mul_of_pos_left m hc
  unfold walkD
  simp only
  unfold wR3
  simp only
  have hs : Builtin.Range.small 0 (n : Int) (c : Int) = true := by
    unfold Builtin.Range.small
    rw [e]
    have f : ∀ x : Int, -2000000000 ≤ x → x ≤ 2000000000 → Builtin.Range.rangeFitsLong x = true := fun x h1 h2 => by
      unfold Builtin.Range.rangeFitsLong
      simp only [Bool.and_eq_true, decide_eq_true_eq]
      omega
    rw [f 0 (by omega) (by omega), f n (by omega) (by omega), f c (by omega) (by omega), f m (by omega) (by omega), if_pos (by omega), f _ (by omega) (by omega)]
    simp
  rw [if_pos ⟨by omega, by omega, hs, by rw [e]; simp⟩]
  unfold rngS
  rw [e]
  simp
end Mp
namespace Mp
open PySem L2
theorem lcGo_filter {tg : Tg} {cond : M Bool} {elt : M D} {ρ : List Slot} {η : List AO} {f : D → Option D} (items : List D) : ∀ (acc : List D), acc.length + items.length ≤ sizeLine →
    (∀ d ∈ items, ∃ ρ', lcStep tg cond elt d ρ η = .ok (f d) ρ' η ∧ wipeL ρ' tg.slots = ρ) → lcGo tg cond elt items acc ρ η = .ok (acc ++ items.filterMap f) ρ η := by
  induction items with
  | nil => intro acc _ _; simp [lcGo]
  | cons d ds ih =>
    intro acc hl h
    obtain ⟨ρ', e1, e2⟩ := h d List.mem_cons_self
    rw [List.length_cons] at hl
    have hr := fun x hx => h x (List.mem_cons_of_mem _ hx)
    unfold lcGo
    rw [e1]
    simp only [R.bind_ok]
    cases hf : f d with
    | none =>
      simp only
      rw [e2, ih acc (by omega) hr, List.filterMap_cons_none hf]
    | some x =>
      simp only
      rw [if_pos (by omega), e2, ih (acc ++ [x]) (by rw [List.length_append, List.length_singleton]; omega) hr, List.filterMap_cons_some hf]
      simp
theorem lcAll_filter {tg : Tg} {cond : M Bool} {elt : M D} {ρ : List Slot} {η : List AO} {items : List D} (f : D → Option D) (hf : freeS ρ tg.slots = true) (hl : items.length ≤ sizeLine) (hb : backL ρ (wipeL ρ tg.slots) tg.slots = ρ)
    (h : ∀ d ∈ items, ∃ ρ', lcStep tg cond elt d (wipeL ρ tg.slots) η = .ok (f d) ρ' η ∧ wipeL ρ' tg.slots = wipeL ρ tg.slots) : lcAll tg items cond elt ρ η = .ok (.own (.lst (items.filterMap f))) ρ η := by
  unfold lcAll
  rw [if_pos hf, lcGo_filter items [] (by simpa using hl) h]
  simp [hb]
end Mp

/-! what a run ends in: loops by invariants -/
namespace Mp
open PySem L2
inductive Sat {α : Type} : R α → (α → List Slot → List AO → Prop) → Prop where
  | ok {a : α} {ρ : List Slot} {η : List AO} {Q : α → List Slot → List AO → Prop} (h : Q a ρ η) : Sat (.ok a ρ η) Q
section
variable {α β : Type} {ρ : List Slot} {η : List AO}
theorem Sat.at_ok {a : α} {Q : α → List Slot → List AO → Prop} (h : Sat (.ok a ρ η) Q) : Q a ρ η := by
  cases h with
  | ok h => exact h
@[simp] theorem sat_ok {a : α} {Q : α → List Slot → List AO → Prop} : Sat (.ok a ρ η) Q = Q a ρ η := propext ⟨Sat.at_ok, .ok⟩
theorem sat_exc {c : Nat} {fs : List (Str × D)} {Q : α → List Slot → List AO → Prop} (h : Sat (.exc c fs ρ η) Q) : False := by cases h
theorem sat_fail {Q : α → List Slot → List AO → Prop} (h : Sat .fail Q) : False := by cases h
theorem sat_bind {r : R α} {k : α → M β} {Q : β → List Slot → List AO → Prop} : Sat (r.bind k) Q = Sat r fun a ρ η => Sat (k a ρ η) Q := by
  cases r with
  | ok a ρ η => rw [sat_ok, R.bind_ok]
  | exc c fs ρ η => exact propext ⟨fun h => (sat_exc h).elim, fun h => (sat_exc h).elim⟩
  | fail => exact propext ⟨fun h => (sat_fail h).elim, fun h => (sat_fail h).elim⟩
theorem Sat.mono {r : R α} {Q Q' : α → List Slot → List AO → Prop} (h : Sat r Q) (hq : ∀ a ρ η, Q a ρ η → Q' a ρ η) : Sat r Q' := by
  cases h with
  | ok h => exact .ok (hq _ _ _ h)
def FrQ (Q : RV → List AO → Prop) (f : Fl) (η : List AO) : Prop := match f with
  | .next => Q (.val .non) η
  | .ret v => Q v η
  | _ => False
@[simp] theorem frq_next {Q : RV → List AO → Prop} : FrQ Q .next η = Q (.val .non) η := (rfl)
@[simp] theorem frq_ret {Q : RV → List AO → Prop} {v : RV} : FrQ Q (.ret v) η = Q v η := (rfl)
theorem fr_sat {r : R Fl} {Q : RV → List AO → Prop} (h : Sat r fun f _ η => FrQ Q f η) : ∃ v η, frOf r = .ret v η ∧ Q v η := by
  cases h with
  | @ok a _ _ _ h =>
    cases a with
    | next => exact ⟨_, _, rfl, h⟩
    | ret v => exact ⟨_, _, rfl, h⟩
    | brk => exact h.elim
    | cnt => exact h.elim
theorem fr_eq {r : R Fl} {v : RV} (h : Sat r fun f _ η' => FrQ (fun v' η' => v' = v ∧ η' = η) f η') : frOf r = .ret v η := by
  obtain ⟨v', η', e, rfl, rfl⟩ := fr_sat h
  exact e
def FlQ (P : List Slot → List AO → Prop) (Q : Fl → List Slot → List AO → Prop) (f : Fl) (ρ : List Slot) (η : List AO) : Prop := match f with
  | .next => P ρ η
  | .cnt => P ρ η
  | .brk => Q .next ρ η
  | .ret r => Q (.ret r) ρ η
@[simp] theorem flq_next {P : List Slot → List AO → Prop} {Q : Fl → List Slot → List AO → Prop} : FlQ P Q .next ρ η = P ρ η := (rfl)
@[simp] theorem flq_cnt {P : List Slot → List AO → Prop} {Q : Fl → List Slot → List AO → Prop} : FlQ P Q .cnt ρ η = P ρ η := (rfl)
@[simp] theorem flq_brk {P : List Slot → List AO → Prop} {Q : Fl → List Slot → List AO → Prop} : FlQ P Q .brk ρ η = Q .next ρ η := (rfl)
@[simp] theorem flq_ret {P : List Slot → List AO → Prop} {Q : Fl → List Slot → List AO → Prop} {r : RV} : FlQ P Q (.ret r) ρ η = Q (.ret r) ρ η := (rfl)
theorem sat_for0 {put : D → M Unit} {body : M Fl} {Q : Fl → List Slot → List AO → Prop} (all : List D) (P : Nat → List Slot → List AO → Prop)
    (hs : ∀ i d ρ η, all[i]? = some d → P i ρ η → Sat (put d ρ η) fun _ ρ η => Sat (body ρ η) (FlQ (P (i + 1)) Q))
    (hd : ∀ ρ η, P all.length ρ η → Q .next ρ η) : ∀ (items : List D) (i : Nat) (ρ : List Slot) (η : List AO), all.drop i = items → i ≤ all.length → P i ρ η → Sat (forGo put body items ρ η) Q
  | [], i, ρ, η, e, hi, h => by
    have : i = all.length := by
      rcases Nat.lt_or_ge i all.length with q | q
      · rw [List.drop_eq_getElem_cons q] at e; cases e
      · omega
    subst this
    exact .ok (hd ρ η h)
  | d :: ds, i, ρ, η, e, hi, h => by
    have hlt : i < all.length := by
      rcases Nat.lt_or_ge i all.length with q | q
      · exact q
      · rw [List.drop_of_length_le q] at e; cases e
    have hd' : all[i]? = some d ∧ all.drop (i + 1) = ds := by
      rw [List.drop_eq_getElem_cons hlt] at e
      injection e with e1 e2
      exact ⟨by rw [List.getElem?_eq_getElem hlt, e1], e2⟩
    rw [forGo_cons, sat_bind]
    refine (hs i d ρ η hd'.1 h).mono fun _ ρ1 η1 h1 => ?_
    rw [M.bind_at, sat_bind]
    refine h1.mono fun f ρ2 η2 h2 => ?_
    cases f with
    | next => exact sat_for0 all P hs hd ds (i + 1) ρ2 η2 hd'.2 (by omega) h2
    | cnt => exact sat_for0 all P hs hd ds (i + 1) ρ2 η2 hd'.2 (by omega) h2
    | brk => exact .ok h2
    | ret r => exact .ok h2
/-- a for by its invariant -/
theorem sat_for {put : D → M Unit} {body : M Fl} {items : List D} {Q : Fl → List Slot → List AO → Prop} (P : Nat → List Slot → List AO → Prop) (h0 : P 0 ρ η)
    (hs : ∀ i d ρ η, items[i]? = some d → P i ρ η → Sat (put d ρ η) fun _ ρ η => Sat (body ρ η) (FlQ (P (i + 1)) Q))
    (hd : ∀ ρ η, P items.length ρ η → Q .next ρ η) : Sat (forGo put body items ρ η) Q := sat_for0 items P hs hd items 0 ρ η rfl (Nat.zero_le _) h0
/-- over items that come of a list -/
theorem sat_forM {α : Type} {f : α → D} {xs : List α} {put : D → M Unit} {body : M Fl} {Q : Fl → List Slot → List AO → Prop} (P : Nat → List Slot → List AO → Prop) (h0 : P 0 ρ η)
    (hs : ∀ i x ρ η, xs[i]? = some x → P i ρ η → Sat (put (f x) ρ η) fun _ ρ η => Sat (body ρ η) (FlQ (P (i + 1)) Q))
    (hd : ∀ ρ η, P xs.length ρ η → Q .next ρ η) : Sat (forGo put body (xs.map f) ρ η) Q := by
  refine sat_for P h0 (fun i d ρ η e h => ?_) (fun ρ η h => hd ρ η (by rw [List.length_map] at h; exact h))
  rw [List.getElem?_map] at e
  cases hx : xs[i]? with
  | none => rw [hx] at e; cases e
  | some x =>
    rw [hx] at e
    injection e with e
    subst e
    exact hs i x ρ η hx h
/-- over range(n) -/
theorem sat_rng {n : Nat} {put : D → M Unit} {body : M Fl} {Q : Fl → List Slot → List AO → Prop} (P : Nat → List Slot → List AO → Prop) (h0 : P 0 ρ η)
    (hs : ∀ (i : Nat) ρ η, i < n → P i ρ η → Sat (put (.int (i : Int)) ρ η) fun _ ρ η => Sat (body ρ η) (FlQ (P (i + 1)) Q))
    (hd : ∀ ρ η, P n ρ η → Q .next ρ η) : Sat (forGo put body ((List.range n).map fun (k : Nat) => D.int (k : Int)) ρ η) Q := by
  refine sat_forM P h0 (fun i x ρ η e h => ?_) (fun ρ η h => hd ρ η (by rw [List.length_range] at h; exact h))
  have hi : i < n := by
    rcases Nat.lt_or_ge i n with q | q
    · exact q
    · rw [List.getElem?_eq_none (by rw [List.length_range]; exact q)] at e; cases e
  rw [List.getElem?_range hi] at e
  injection e with e
  subst e
  exact hs i ρ η hi h
/-- the same, where no object changes -/
theorem sat_forS {α : Type} {f : α → D} {xs : List α} {put : D → M Unit} {body : M Fl} {Q : Fl → List Slot → List AO → Prop} (P : Nat → List Slot → Prop) (h0 : P 0 ρ)
    (hs : ∀ i x ρ, xs[i]? = some x → P i ρ → Sat (put (f x) ρ η) fun _ ρ η' => Sat (body ρ η') (FlQ (fun ρ η' => η' = η ∧ P (i + 1) ρ) Q))
    (hd : ∀ ρ, P xs.length ρ → Q .next ρ η) : Sat (forGo put body (xs.map f) ρ η) Q :=
  sat_forM (P := fun i ρ η' => η' = η ∧ P i ρ) ⟨rfl, h0⟩ (fun i x ρ η' e h => by obtain ⟨rfl, h⟩ := h; exact hs i x ρ e h) (fun ρ η' h => by obtain ⟨rfl, h⟩ := h; exact hd ρ h)
theorem sat_rngS {n : Nat} {put : D → M Unit} {body : M Fl} {Q : Fl → List Slot → List AO → Prop} (P : Nat → List Slot → Prop) (h0 : P 0 ρ)
    (hs : ∀ (i : Nat) ρ, i < n → P i ρ → Sat (put (.int (i : Int)) ρ η) fun _ ρ η' => Sat (body ρ η') (FlQ (fun ρ η' => η' = η ∧ P (i + 1) ρ) Q))
    (hd : ∀ ρ, P n ρ → Q .next ρ η) : Sat (forGo put body ((List.range n).map fun (k : Nat) => D.int (k : Int)) ρ η) Q :=
  sat_rng (P := fun i ρ η' => η' = η ∧ P i ρ) ⟨rfl, h0⟩ (fun i ρ η' e h => by obtain ⟨rfl, h⟩ := h; exact hs i ρ e h) (fun ρ η' h => by obtain ⟨rfl, h⟩ := h; exact hd ρ h)
/-- a while by its invariant and a number that falls -/
theorem sat_whl {c : M Bool} {body : M Fl} {Q : Fl → List Slot → List AO → Prop} (P : Nat → List Slot → List AO → Prop)
    (hs : ∀ n ρ η, P n ρ η → Sat (c ρ η) fun b ρ η => if b then Sat (body ρ η) (FlQ (fun ρ η => ∃ m, m < n ∧ P m ρ η) Q) else Q .next ρ η) : ∀ (N n : Nat) (ρ : List Slot) (η : List AO), n < N → P n ρ η → Sat (whlGo c body N ρ η) Q
  | 0, n, ρ, η, hn, h => by omega
  | N + 1, n, ρ, η, hn, h => by
    rw [whl_succ, sat_bind]
    refine (hs n ρ η h).mono fun b ρ1 η1 h1 => ?_
    cases b with
    | false => exact .ok h1
    | true =>
      rw [if_pos rfl] at h1
      rw [if_pos rfl, M.bind_at, sat_bind]
      refine h1.mono fun f ρ2 η2 h2 => ?_
      cases f with
      | next =>
        obtain ⟨m, hm, h3⟩ := h2
        exact sat_whl P hs N m ρ2 η2 (by omega) h3
      | cnt =>
        obtain ⟨m, hm, h3⟩ := h2
        exact sat_whl P hs N m ρ2 η2 (by omega) h3
      | brk => exact .ok h2
      | ret r => exact .ok h2
/-- the first n statements, then the rest -/
theorem exs_take {Φ : Nat → Fn} : ∀ (n : Nat) (ss : List CS) (ρ : List Slot) (η : List AO), exSs Φ ss ρ η = (exSs Φ (ss.take n) ρ η).bind (seqK (exSs Φ (ss.drop n)))
  | 0, ss, ρ, η => by simp
  | n + 1, [], ρ, η => by simp
  | n + 1, s :: ss, ρ, η => by
    rw [List.take_succ_cons, List.drop_succ_cons, exs_cons, exs_cons]
    cases h : exS Φ s ρ η with
    | fail => rfl
    | exc c fs ρ' η' => rfl
    | ok f ρ' η' =>
      rw [R.bind_ok, R.bind_ok]
      cases f with
      | next =>
        rw [seqK_next, seqK_next]
        exact exs_take n ss ρ' η'
      | ret r => rfl
      | brk => rfl
      | cnt => rfl
theorem sat_cut {Φ : Nat → Fn} {ss : List CS} {Q : Fl → List Slot → List AO → Prop} (n : Nat) (M : List Slot → List AO → Prop) (h1 : Sat (exSs Φ (ss.take n) ρ η) fun f ρ η => f = .next ∧ M ρ η) (h2 : ∀ ρ η, M ρ η → Sat (exSs Φ (ss.drop n) ρ η) Q) : Sat (exSs Φ ss ρ η) Q := by
  rw [exs_take n, sat_bind]
  refine h1.mono fun f ρ η ⟨hf, hm⟩ => ?_
  subst hf
  exact h2 ρ η hm
theorem sat_cutS {Φ : Nat → Fn} {ss : List CS} {Q : Fl → List Slot → List AO → Prop} (n : Nat) (M : List Slot → Prop) (h1 : Sat (exSs Φ (ss.take n) ρ η) fun f ρ η' => f = .next ∧ η' = η ∧ M ρ) (h2 : ∀ ρ, M ρ → Sat (exSs Φ (ss.drop n) ρ η) Q) : Sat (exSs Φ ss ρ η) Q :=
  sat_cut n (fun ρ η' => η' = η ∧ M ρ) h1 fun ρ η' ⟨e, h⟩ => by subst e; exact h2 ρ h
theorem at_ints {xs : List Int} (i : Nat) (h : i < xs.length) : atI (xs.map D.int) (i : Int) = some (.int (xs.getD i 0)) := by
  rw [atI_nat (by simpa using h)]
  simp [h]
theorem getD_rng {xs : List Int} {P : Int → Prop} (h : ∀ x ∈ xs, P x) {i : Nat} (hi : i < xs.length) : P (xs.getD i 0) := by
  have : xs.getD i 0 = xs[i] := by simp [hi]
  rw [this]
  exact h _ (List.getElem_mem hi)
@[simp] theorem mulOk_litR {i j : Int} (h : -18446744073709551616 < j ∧ j < 18446744073709551616) : mulOk i j = true := mulOk_r h.1 h.2
@[simp] theorem mulOk_litL {i j : Int} (h : -18446744073709551616 < i ∧ i < 18446744073709551616) : mulOk i j = true := mulOk_l h.1 h.2
theorem sat_nm {j : Nat} {d : D} {Q : Unit → List Slot → List AO → Prop} (h : j < ρ.length) (hQ : Q () (ρ.set j (.val d)) η) : Sat (Tg.put (.nm j) d ρ η) Q := by
  rw [put_nm, setS_at, if_pos h]
  exact .ok hQ
@[simp] theorem bi2_min' {i j : Int} : bi2 .min (.int i) (.int j) = some (.val (.int (if j < i then j else i))) := (rfl)
@[simp] theorem bi2_max' {i j : Int} : bi2 .max (.int i) (.int j) = some (.val (.int (if j > i then j else i))) := (rfl)
theorem cutL_to {α : Type} (ds : List α) (n : Nat) : cutL ds none (some (n : Int)) = ds.take n := by
  unfold cutL
  rw [show HT.sIx ds.length 0 none = 0 from rfl, HT.sIx_nat, List.drop_zero, Nat.sub_zero]
  by_cases h : n ≤ ds.length
  · rw [Nat.min_eq_left h]
  · rw [Nat.min_eq_right (by omega), List.take_of_length_le (Nat.le_refl _), List.take_of_length_le (by omega)]
theorem cutL_from {α : Type} (ds : List α) (n : Nat) : cutL ds (some (n : Int)) none = ds.drop n := by
  unfold cutL
  rw [show HT.sIx ds.length ds.length none = ds.length from rfl, HT.sIx_nat]
  by_cases h : n ≤ ds.length
  · rw [Nat.min_eq_left h, List.take_of_length_le (by rw [List.length_drop]; exact Nat.le_refl _)]
  · rw [Nat.min_eq_right (by omega), Nat.sub_self, List.take_zero, List.drop_of_length_le (by omega)]
theorem free_at {j : Nat} (hj : freeS ρ [j] = true) : j < ρ.length ∧ (ρ.set j .un).set j (ρ.getD j .un) = ρ := by
  have h : (match ρ[j]? with | some (.own _) => false | some _ => true | none => false) = true := by
    have : ([j].all fun i => match ρ[i]? with | some (.own _) => false | some _ => true | none => false) = true := hj
    simpa using this
  have hlt : j < ρ.length := by
    rcases Nat.lt_or_ge j ρ.length with q | q
    · exact q
    · rw [List.getElem?_eq_none q] at h; cases h
  refine ⟨hlt, ?_⟩
  rw [List.set_set, List.getD_eq_getElem?_getD, List.getElem?_eq_getElem hlt]
  exact List.set_getElem_self hlt
/-- a comprehension, with what holds between its turns -/
theorem lc_go {α : Type} {j : Nat} {f : α → D} (p : α → Bool) (g : α → D) {cond : M Bool} {elt : M D} (I : List Slot → Prop) (hI : ∀ ρ, I ρ → j < ρ.length)
    : ∀ (xs : List α), (∀ x ∈ xs, ∀ ρ, I ρ → ∃ ρ1, cond (ρ.set j (.val (f x))) η = .ok (p x) ρ1 η ∧ (p x = false → I (ρ1.set j .un)) ∧ (p x = true → ∃ ρ2, elt ρ1 η = .ok (g x) ρ2 η ∧ I (ρ2.set j .un))) →
      ∀ (acc : List D) (ρ : List Slot), acc.length + xs.length ≤ sizeLine → I ρ → ∃ ρ', I ρ' ∧ lcGo (.nm j) cond elt (xs.map f) acc ρ η = .ok (acc ++ (xs.filter p).map g) ρ' η
  | [], _, acc, ρ, _, h => ⟨ρ, h, by simp [lcGo]⟩
  | x :: xs, hs, acc, ρ, hl, h => by
    rw [List.length_cons] at hl
    obtain ⟨ρ1, e1, h1, h2⟩ := hs x List.mem_cons_self ρ h
    have hs' := fun y hy => hs y (List.mem_cons_of_mem _ hy)
    rw [List.map_cons]
    unfold lcGo
    rw [lcStep_at, put_nm, setS_at, if_pos (hI ρ h)]
    simp only [R.bind_ok, M.bind_at, e1]
    cases hp : p x with
    | false =>
      obtain ⟨ρ', q1, q2⟩ := lc_go p g I hI xs hs' acc (ρ1.set j .un) (by omega) (h1 hp)
      refine ⟨ρ', q1, ?_⟩
      simp only [Bool.false_eq_true, if_false, M.ret_at, R.bind_ok]
      rw [show wipeL ρ1 (Tg.nm j).slots = ρ1.set j .un from rfl, q2, List.filter_cons_of_neg (by simp [hp])]
    | true =>
      obtain ⟨ρ2, e2, h3⟩ := h2 hp
      obtain ⟨ρ', q1, q2⟩ := lc_go p g I hI xs hs' (acc ++ [g x]) (ρ2.set j .un) (by rw [List.length_append, List.length_singleton]; omega) h3
      refine ⟨ρ', q1, ?_⟩
      simp only [if_true, R.bind_ok, e2, M.ret_at, M.bind_at]
      rw [if_pos (by omega), show wipeL ρ2 (Tg.nm j).slots = ρ2.set j .un from rfl, q2, List.filter_cons_of_pos hp]
      simp
theorem lc_inv {α : Type} {j : Nat} {f : α → D} (p : α → Bool) (g : α → D) {xs : List α} {cond : M Bool} {elt : M D} (I : List Slot → Prop) (hj : freeS ρ [j] = true) (hl : xs.length ≤ sizeLine) (hI : ∀ ρ, I ρ → j < ρ.length) (h0 : I (ρ.set j .un))
    (h : ∀ x ∈ xs, ∀ ρ, I ρ → ∃ ρ1, cond (ρ.set j (.val (f x))) η = .ok (p x) ρ1 η ∧ (p x = false → I (ρ1.set j .un)) ∧ (p x = true → ∃ ρ2, elt ρ1 η = .ok (g x) ρ2 η ∧ I (ρ2.set j .un))) :
    ∃ ρ', I ρ' ∧ lcAll (.nm j) (xs.map f) cond elt ρ η = .ok (.own (.lst ((xs.filter p).map g))) (ρ'.set j (ρ.getD j .un)) η := by
  obtain ⟨ρ', q1, q2⟩ := lc_go (η := η) p g I hI xs h [] (ρ.set j .un) (by simpa using hl) h0
  refine ⟨ρ', q1, ?_⟩
  unfold lcAll
  rw [show (Tg.nm j).slots = [j] from rfl, if_pos hj, show wipeL ρ [j] = ρ.set j .un from rfl, q2]
  rfl
/-- with a condition; the frame stays -/
theorem lc_nmF {α : Type} {j : Nat} {f : α → D} (p : α → Bool) (g : α → D) {xs : List α} {cond : M Bool} {elt : M D} (hj : freeS ρ [j] = true) (hl : xs.length ≤ sizeLine)
    (h : ∀ x ∈ xs, cond (ρ.set j (.val (f x))) η = .ok (p x) (ρ.set j (.val (f x))) η ∧ (p x = true → elt (ρ.set j (.val (f x))) η = .ok (g x) (ρ.set j (.val (f x))) η)) : lcAll (.nm j) (xs.map f) cond elt ρ η = .ok (.own (.lst ((xs.filter p).map g))) ρ η := by
  obtain ⟨hlt, hb⟩ := free_at hj
  obtain ⟨ρ', q1, q2⟩ := lc_inv (η := η) p g (xs := xs) (f := f) (cond := cond) (elt := elt) (fun r => r = ρ.set j .un) hj hl (fun r e => by rw [e, List.length_set]; exact hlt) rfl fun x hx r e => by
    subst e
    rw [List.set_set]
    obtain ⟨h1, h2⟩ := h x hx
    exact ⟨_, h1, fun _ => by rw [List.set_set], fun hp => ⟨_, h2 hp, by rw [List.set_set]⟩⟩
  rw [q2, q1, hb]
/-- a comprehension whose turns leave the frame as it was -/
theorem lc_nm {α : Type} {j : Nat} {f : α → D} (g : α → D) {xs : List α} {elt : M D} {Φ : Nat → Fn} (hj : freeS ρ [j] = true) (hl : xs.length ≤ sizeLine)
    (h : ∀ x ∈ xs, elt (ρ.set j (.val (f x))) η = .ok (g x) (ρ.set j (.val (f x))) η) : lcAll (.nm j) (xs.map f) (evCs Φ []) elt ρ η = .ok (.own (.lst (xs.map g))) ρ η := by
  have := lc_nmF (ρ := ρ) (η := η) (f := f) (xs := xs) (cond := evCs Φ []) (elt := elt) (fun _ => true) g hj hl fun x hx => ⟨rfl, fun _ => h x hx⟩
  rw [this, List.filter_eq_self.mpr fun _ _ => rfl]
/-- a comprehension whose turns change the frame -/
theorem lc_I {α : Type} {j : Nat} {f : α → D} (g : α → D) {xs : List α} {elt : M D} {Φ : Nat → Fn} (I : List Slot → Prop) (hj : freeS ρ [j] = true) (hl : xs.length ≤ sizeLine) (hI : ∀ ρ, I ρ → j < ρ.length) (h0 : I (ρ.set j .un))
    (h : ∀ x ∈ xs, ∀ ρ, I ρ → ∃ ρ2, elt (ρ.set j (.val (f x))) η = .ok (g x) ρ2 η ∧ I (ρ2.set j .un)) :
    ∃ ρ', I ρ' ∧ lcAll (.nm j) (xs.map f) (evCs Φ []) elt ρ η = .ok (.own (.lst (xs.map g))) (ρ'.set j (ρ.getD j .un)) η := by
  obtain ⟨ρ', q1, q2⟩ := lc_inv (ρ := ρ) (η := η) (f := f) (xs := xs) (cond := evCs Φ []) (elt := elt) (fun _ => true) g I hj hl hI h0 fun x hx ρ hi => ⟨_, rfl, fun q => (by cases q), fun _ => h x hx ρ hi⟩
  rw [List.filter_eq_self.mpr fun _ _ => rfl] at q2
  exact ⟨ρ', q1, q2⟩
theorem sat_lcI {α : Type} {j : Nat} {f : α → D} (g : α → D) {xs : List α} {elt : M D} {Φ : Nat → Fn} {Q : RV → List Slot → List AO → Prop} (I : List Slot → Prop) (hj : freeS ρ [j] = true) (hl : xs.length ≤ sizeLine) (hI : ∀ ρ, I ρ → j < ρ.length) (h0 : I (ρ.set j .un))
    (h : ∀ x ∈ xs, ∀ ρ, I ρ → ∃ ρ2, elt (ρ.set j (.val (f x))) η = .ok (g x) ρ2 η ∧ I (ρ2.set j .un))
    (hq : ∀ ρ', I ρ' → Q (.own (.lst (xs.map g))) (ρ'.set j (ρ.getD j .un)) η) : Sat (lcAll (.nm j) (xs.map f) (evCs Φ []) elt ρ η) Q := by
  obtain ⟨ρ', h1, h2⟩ := lc_I (Φ := Φ) g I hj hl hI h0 h
  rw [h2]
  exact .ok (hq ρ' h1)
theorem enD_get : ∀ (ds : List D) (j i : Nat), (enumD j ds)[i]? = (ds[i]?).map fun d => .tup [.int ((j + i : Nat) : Int), d]
  | [], j, i => by simp [enumD]
  | d :: ds, j, 0 => by simp [enumD]
  | d :: ds, j, i + 1 => by
    show (enumD (j + 1) ds)[i]? = _
    rw [enD_get ds (j + 1) i, show j + 1 + i = j + (i + 1) from by omega]
    simp
theorem enD_len : ∀ (ds : List D) (j : Nat), (enumD j ds).length = ds.length
  | [], j => rfl
  | d :: ds, j => by
    show (enumD (j + 1) ds).length + 1 = _
    rw [enD_len ds (j + 1)]
    rfl
/-- over enumerate -/
theorem sat_enumS {α : Type} {f : α → D} {xs : List α} {put : D → M Unit} {body : M Fl} {Q : Fl → List Slot → List AO → Prop} (P : Nat → List Slot → Prop) (h0 : P 0 ρ)
    (hs : ∀ i x ρ, xs[i]? = some x → P i ρ → Sat (put (.tup [.int (i : Int), f x]) ρ η) fun _ ρ η' => Sat (body ρ η') (FlQ (fun ρ η' => η' = η ∧ P (i + 1) ρ) Q))
    (hd : ∀ ρ, P xs.length ρ → Q .next ρ η) : Sat (forGo put body (enumD 0 (xs.map f)) ρ η) Q := by
  refine sat_for (P := fun i ρ η' => η' = η ∧ P i ρ) ⟨rfl, h0⟩ (fun i d ρ η' e h => ?_) (fun ρ η' h => ?_)
  · obtain ⟨rfl, h⟩ := h
    rw [enD_get, List.getElem?_map] at e
    cases hx : xs[i]? with
    | none => rw [hx] at e; cases e
    | some x =>
      rw [hx] at e
      simp only [Option.map_some, Nat.zero_add] at e
      injection e with e
      subst e
      exact hs i x ρ hx h
  · obtain ⟨rfl, h⟩ := h
    rw [enD_len, List.length_map] at h
    exact hd ρ h
/-- a comprehension over any target -/
theorem lc_tg {α : Type} {tg : Tg} {f : α → D} (g : α → D) {xs : List α} {cond : M Bool} {elt : M D} (hf : freeS ρ tg.slots = true) (hw : wipeL ρ tg.slots = ρ) (hb : backL ρ ρ tg.slots = ρ) (hl : xs.length ≤ sizeLine)
    (h : ∀ x ∈ xs, ∃ ρ', lcStep tg cond elt (f x) ρ η = .ok (some (g x)) ρ' η ∧ wipeL ρ' tg.slots = ρ) : lcAll tg (xs.map f) cond elt ρ η = .ok (.own (.lst (xs.map g))) ρ η := by
  have go : ∀ (xs : List α) (acc : List D), acc.length + xs.length ≤ sizeLine → (∀ x ∈ xs, ∃ ρ', lcStep tg cond elt (f x) ρ η = .ok (some (g x)) ρ' η ∧ wipeL ρ' tg.slots = ρ) → lcGo tg cond elt (xs.map f) acc ρ η = .ok (acc ++ xs.map g) ρ η := fun xs => by
    induction xs with
    | nil => intro acc _ _; simp [lcGo]
    | cons x xs ih =>
      intro acc hl h
      rw [List.length_cons] at hl
      obtain ⟨ρ', e1, e2⟩ := h x List.mem_cons_self
      rw [List.map_cons]
      unfold lcGo
      rw [e1]
      simp only [R.bind_ok]
      rw [if_pos (by omega), e2, ih _ (by rw [List.length_append, List.length_singleton]; omega) fun y hy => h y (List.mem_cons_of_mem _ hy)]
      simp
  unfold lcAll
  rw [if_pos hf, hw, go xs [] (by simpa using hl) h]
  simp [hb]
@[simp] theorem wzip_tl {a b : List D} : walkD .zip [.tup a, .lst b] = some ((a.zip b).map fun p => D.tup [p.1, p.2]) := (rfl)
@[simp] theorem wzip_tt {a b : List D} : walkD .zip [.tup a, .tup b] = some ((a.zip b).map fun p => D.tup [p.1, p.2]) := (rfl)
@[simp] theorem wzip_ll {a b : List D} : walkD .zip [.lst a, .lst b] = some ((a.zip b).map fun p => D.tup [p.1, p.2]) := (rfl)
theorem at_hd {d : D} {ds : List D} : atI (d :: ds) 0 = some d := atI_get (i := 0) rfl
theorem ref_succ {put : D → M Unit} {body : M Fl} {n f i : Nat} {ds : List D} (h : η[n]? = some (.lst ds)) : refGo put body n (f + 1) i ρ η = match ds[i]? with
      | some d => (put d ρ η).bind fun _ => body.bind fun fl => match fl with
        | .next => refGo put body n f (i + 1)
        | .cnt => refGo put body n f (i + 1)
        | .brk => M.ret .next
        | .ret r => M.ret (.ret r)
      | none => .ok .next ρ η := by
  show (match η[n]? with
    | some (.lst ds) => (match ds[i]? with
      | some d => ((put d).bind fun _ => body.bind fun fl => match fl with
        | .next => refGo put body n f (i + 1)
        | .cnt => refGo put body n f (i + 1)
        | .brk => M.ret .next
        | .ret r => M.ret (.ret r)) ρ η
      | none => .ok .next ρ η)
    | _ => .fail) = _
  rw [h]
  rfl
/-- a walk over a numbered list that stays -/
theorem sat_refGo {α : Type} {f : α → D} {xs : List α} {n : Nat} {put : D → M Unit} {body : M Fl} {Q : Fl → List Slot → List AO → Prop} (P : Nat → List Slot → List AO → Prop)
    (hn : ∀ i ρ η, P i ρ η → η[n]? = some (.lst (xs.map f)))
    (hs : ∀ i x ρ η, xs[i]? = some x → P i ρ η → Sat (put (f x) ρ η) fun _ ρ η => Sat (body ρ η) (FlQ (P (i + 1)) Q))
    (hd : ∀ ρ η, P xs.length ρ η → Q .next ρ η) : ∀ (g i : Nat) (ρ : List Slot) (η : List AO), xs.length - i < g → i ≤ xs.length → P i ρ η → Sat (refGo put body n g i ρ η) Q
  | 0, i, ρ, η, hg, _, _ => by omega
  | g + 1, i, ρ, η, hg, hi, h => by
    rw [ref_succ (hn i ρ η h), List.getElem?_map]
    cases hx : xs[i]? with
    | none =>
      have : i = xs.length := by
        rw [List.getElem?_eq_none_iff] at hx
        omega
      subst this
      exact .ok (hd ρ η h)
    | some x =>
      have hlt : i < xs.length := by
        rcases Nat.lt_or_ge i xs.length with q | q
        · exact q
        · rw [List.getElem?_eq_none q] at hx; cases hx
      show Sat ((put (f x) ρ η).bind _) Q
      rw [sat_bind]
      refine (hs i x ρ η hx h).mono fun _ ρ1 η1 h1 => ?_
      rw [M.bind_at, sat_bind]
      refine h1.mono fun fl ρ2 η2 h2 => ?_
      cases fl with
      | next => exact sat_refGo P hn hs hd g (i + 1) ρ2 η2 (by omega) hlt h2
      | cnt => exact sat_refGo P hn hs hd g (i + 1) ρ2 η2 (by omega) hlt h2
      | brk => exact .ok h2
      | ret r => exact .ok h2
theorem sat_ref {α : Type} {f : α → D} {xs : List α} {n : Nat} {put : D → M Unit} {body : M Fl} {Q : Fl → List Slot → List AO → Prop} (P : Nat → List Slot → Prop) (hl : xs.length ≤ 1000000) (hn : η[n]? = some (.lst (xs.map f))) (h0 : P 0 ρ)
    (hs : ∀ i x ρ, xs[i]? = some x → P i ρ → Sat (put (f x) ρ η) fun _ ρ η' => Sat (body ρ η') (FlQ (fun ρ η' => η' = η ∧ P (i + 1) ρ) Q))
    (hd : ∀ ρ, P xs.length ρ → Q .next ρ η) : Sat (refGo put body n fuelW 0 ρ η) Q :=
  sat_refGo (P := fun i ρ η' => η' = η ∧ P i ρ) (fun i ρ η' h => by rw [h.1]; exact hn) (fun i x ρ η' e h => by obtain ⟨rfl, h⟩ := h; exact hs i x ρ e h) (fun ρ η' h => by obtain ⟨rfl, h⟩ := h; exact hd ρ h) fuelW 0 ρ η (by unfold fuelW; omega) (Nat.zero_le _) ⟨rfl, h0⟩
/-- over enumerate, where objects may change -/
theorem sat_enumM {α : Type} {f : α → D} {xs : List α} {put : D → M Unit} {body : M Fl} {Q : Fl → List Slot → List AO → Prop} (P : Nat → List Slot → List AO → Prop) (h0 : P 0 ρ η)
    (hs : ∀ i x ρ η, xs[i]? = some x → P i ρ η → Sat (put (.tup [.int (i : Int), f x]) ρ η) fun _ ρ η => Sat (body ρ η) (FlQ (P (i + 1)) Q))
    (hd : ∀ ρ η, P xs.length ρ η → Q .next ρ η) : Sat (forGo put body (enumD 0 (xs.map f)) ρ η) Q := by
  refine sat_for P h0 (fun i d ρ η e h => ?_) (fun ρ η h => ?_)
  · rw [enD_get, List.getElem?_map] at e
    cases hx : xs[i]? with
    | none => rw [hx] at e; cases e
    | some x =>
      rw [hx] at e
      simp only [Option.map_some, Nat.zero_add] at e
      injection e with e
      subst e
      exact hs i x ρ η hx h
  · rw [enD_len, List.length_map] at h
    exact hd ρ η h
theorem last_get {x : AO} : (η ++ [x])[η.length]? = some x := by simp
theorem last_set {x y : AO} : (η ++ [x]).set η.length y = η ++ [y] := by
  rw [List.set_append_right _ _ (Nat.le_refl _), Nat.sub_self]
  rfl
end
end Mp

/-! equality of tuples of numbers -/
namespace Mp
open PySem L2
theorem pys_ints : ∀ xs : List Int, D.pys (xs.map .int) = some (xs.map PyData.int)
  | [] => rfl
  | x :: xs => by
    rw [List.map_cons]
    unfold D.pys
    rw [pys_ints xs]
    unfold D.py
    rfl
theorem lay_ints : ∀ xs : List Int, PyData.canLayAll0 (xs.map PyData.int) = true
  | [] => by simp [PyData.canLayAll0]
  | x :: xs => by
    rw [List.map_cons]
    unfold PyData.canLayAll0
    rw [lay_ints xs]
    simp [PyData.canLay0]
theorem depth_ints : ∀ xs : List Int, PyData.depthAll (xs.map PyData.int) ≤ 1
  | [] => by simp [PyData.depthAll]
  | x :: xs => by
    have := depth_ints xs
    rw [List.map_cons]
    unfold PyData.depthAll
    have h : PyData.depth (.int x) ≤ 1 := by simp [PyData.depth]
    omega
theorem shaped_ints (xs : List Int) : SeqAt.shaped (.tuple (xs.map PyData.int)) = true := by
  unfold SeqAt.shaped
  rw [Bool.and_eq_true, decide_eq_true_eq]
  refine ⟨?_, ?_⟩
  · unfold PyData.canLay0
    exact lay_ints xs
  · have := depth_ints xs
    unfold PyData.depth
    omega
theorem eqv_ints : ∀ xs ys : List Int, PyData.eqvAll (xs.map PyData.int) (ys.map PyData.int) = decide (xs = ys)
  | [], [] => by simp [PyData.eqvAll]
  | [], y :: ys => by simp [PyData.eqvAll]
  | x :: xs, [] => by simp [PyData.eqvAll]
  | x :: xs, y :: ys => by
    rw [List.map_cons, List.map_cons]
    unfold PyData.eqvAll
    rw [eqv_ints xs ys]
    unfold PyData.eqv
    rw [Bool.eq_iff_iff]
    simp
theorem eqD_ints (xs ys : List Int) : eqD (.tup (xs.map .int)) (.tup (ys.map .int)) = some (decide (xs = ys)) := by
  have e : ∀ zs : List Int, D.py (.tup (zs.map .int)) = some (.tuple (zs.map PyData.int)) := fun zs => by
    unfold D.py
    rw [pys_ints zs]
  unfold eqD
  simp only [e, shaped_ints, Bool.and_self, if_true]
  unfold PyData.eqv
  rw [eqv_ints]
end Mp

/-! the field of 65521 -/
namespace Mp
namespace Fp
abbrev p : Int := 65521
/-- the same modulo p -/
def C (a b : Int) : Prop := p ∣ a - b
theorem C.refl (a : Int) : C a a := by
  unfold C
  rw [Int.sub_self]
  exact Int.dvd_zero _
theorem C.symm {a b : Int} (h : C a b) : C b a := by
  unfold C at *
  have := Int.dvd_neg.mpr h
  rwa [Int.neg_sub] at this
theorem C.trans {a b c : Int} (h : C a b) (g : C b c) : C a c := by
  unfold C at *
  have := Int.dvd_add h g
  rwa [show a - b + (b - c) = a - c from by omega] at this
theorem C.add {a b c d : Int} (h : C a b) (g : C c d) : C (a + c) (b + d) := by
  unfold C at *
  have := Int.dvd_add h g
  rwa [show a - b + (c - d) = a + c - (b + d) from by omega] at this
theorem C.neg {a b : Int} (h : C a b) : C (-a) (-b) := by
  unfold C at *
  have := Int.dvd_neg.mpr h
  rwa [show -(a - b) = -a - -b from by omega] at this
theorem C.sub {a b c d : Int} (h : C a b) (g : C c d) : C (a - c) (b - d) := by
  unfold C at *
  have := Int.dvd_sub h g
  rwa [show a - b - (c - d) = a - c - (b - d) from by omega] at this
theorem C.mul {a b c d : Int} (h : C a b) (g : C c d) : C (a * c) (b * d) := by
  unfold C at *
  have h1 : p ∣ (a - b) * c := Int.dvd_mul_of_dvd_left h
  have h2 : p ∣ b * (c - d) := Int.dvd_mul_of_dvd_right g
  have := Int.dvd_add h1 h2
  rwa [show (a - b) * c + b * (c - d) = a * c - b * d from by rw [Int.sub_mul, Int.mul_sub]; omega] at this
theorem C.pow {a b : Int} (h : C a b) : ∀ n : Nat, C (a ^ n) (b ^ n)
  | 0 => by
    rw [Int.pow_zero, Int.pow_zero]
    exact C.refl _
  | n + 1 => by
    rw [Int.pow_succ, Int.pow_succ]
    exact (C.pow h n).mul h
theorem C.mod (a : Int) : C (a % 65521) a := by
  unfold C
  have := Int.emod_add_mul_ediv a 65521
  exact ⟨-(a / 65521), by show a % 65521 - a = 65521 * -(a / 65521); omega⟩
theorem C.eq {a b : Int} (h : C a b) : a % 65521 = b % 65521 := by
  unfold C at h
  exact Int.emod_eq_emod_iff_emod_sub_eq_zero.mpr (Int.emod_eq_zero_of_dvd h)
theorem C.of {a b : Int} (h : a % 65521 = b % 65521) : C a b := ((C.mod a).symm.trans (h ▸ C.mod b : C (a % 65521) b))
theorem C.same {a b : Int} (h : C a b) (ha : 0 ≤ a ∧ a < 65521) (hb : 0 ≤ b ∧ b < 65521) : a = b := by
  have := h.eq
  omega
theorem C.modl {a b : Int} (h : C a b) : C (a % 65521) b := (C.mod a).trans h
theorem C.zero {a : Int} : C a 0 ↔ p ∣ a := by
  unfold C
  rw [Int.sub_zero]
/-! p is prime -/
theorem small_dvd : ∀ m : Nat, m < 256 → 65521 % m = 0 → m = 1 := by decide +kernel
theorem dvd_p {d : Nat} (h : d ∣ 65521) : d = 1 ∨ d = 65521 := by
  obtain ⟨e, he⟩ := h
  by_cases h1 : d < 256
  · exact .inl (small_dvd d h1 (by rw [he]; exact Nat.mul_mod_right d e))
  · by_cases h2 : e < 256
    · have : e = 1 := small_dvd e h2 (by rw [he]; exact Nat.mul_mod_left d e)
      subst this
      right
      omega
    · have := Nat.mul_le_mul (Nat.le_of_not_lt h1) (Nat.le_of_not_lt h2)
      omega
theorem prime {a b : Int} (h : p ∣ a * b) : p ∣ a ∨ p ∣ b := by
  have h' : (65521 : Nat) ∣ a.natAbs * b.natAbs := by
    have := Int.natAbs_dvd_natAbs.mpr h
    rwa [Int.natAbs_mul] at this
  have g := dvd_p (Nat.gcd_dvd_left 65521 a.natAbs)
  rcases g with g | g
  · right
    have : (65521 : Nat) ∣ b.natAbs := Nat.Coprime.dvd_of_dvd_mul_left g h'
    exact Int.natAbs_dvd_natAbs.mp this
  · left
    have : (65521 : Nat) ∣ a.natAbs := by
      have := Nat.gcd_dvd_right 65521 a.natAbs
      rwa [g] at this
    exact Int.natAbs_dvd_natAbs.mp this
/-! Fermat -/
def pw2 (w : Nat) : Nat → Nat
  | 0 => w % 65521
  | n + 1 => pw2 w n * pw2 w n % 65521
theorem pw2_ok (w : Nat) : ∀ n, pw2 w n = w ^ (2 ^ n) % 65521
  | 0 => by simp [pw2]
  | n + 1 => by
    unfold pw2
    rw [pw2_ok w n, ← Nat.mul_mod, ← Nat.pow_add]
    congr 2
    rw [Nat.pow_succ]
    omega
/-- 65520 = 2^15 + 2^14 + .. + 2^4 -/
def pwAll (w : Nat) : Nat := (((((((((((pw2 w 15 * pw2 w 14 % 65521) * pw2 w 13 % 65521) * pw2 w 12 % 65521) * pw2 w 11 % 65521) * pw2 w 10 % 65521) * pw2 w 9 % 65521) * pw2 w 8 % 65521) * pw2 w 7 % 65521) * pw2 w 6 % 65521) * pw2 w 5 % 65521) * pw2 w 4 % 65521)
theorem mm (a b : Nat) (w i j : Nat) (ha : a = w ^ i % 65521) (hb : b = w ^ j % 65521) : a * b % 65521 = w ^ (i + j) % 65521 := by
  rw [ha, hb, ← Nat.mul_mod, ← Nat.pow_add]
theorem pwAll_ok (w : Nat) : pwAll w = w ^ 65520 % 65521 := by
  unfold pwAll
  exact mm _ _ w 65504 16 (mm _ _ w 65472 32 (mm _ _ w 65408 64 (mm _ _ w 65280 128 (mm _ _ w 65024 256 (mm _ _ w 64512 512 (mm _ _ w 63488 1024 (mm _ _ w 61440 2048 (mm _ _ w 57344 4096 (mm _ _ w 49152 8192 (mm _ _ w 32768 16384 (pw2_ok w 15) (pw2_ok w 14)) (pw2_ok w 13)) (pw2_ok w 12)) (pw2_ok w 11)) (pw2_ok w 10)) (pw2_ok w 9)) (pw2_ok w 8)) (pw2_ok w 7)) (pw2_ok w 6)) (pw2_ok w 5)) (pw2_ok w 4)
theorem small_fermat : ∀ w : Nat, w < 256 → 0 < w → pwAll w = 1 := by decide +kernel
theorem fermatN (w : Nat) (h0 : 0 < w) (h1 : w < 65521) : C ((w : Int) ^ 65520) 1 := by
  induction w using Nat.strongRecOn with
  | _ w ih =>
    by_cases hs : w < 256
    · have := small_fermat w hs h0
      rw [pwAll_ok] at this
      refine C.of ?_
      have e : (((w ^ 65520 % 65521 : Nat)) : Int) = ((1 : Nat) : Int) := congrArg _ this
      rw [Int.natCast_emod, Int.natCast_pow] at e
      rw [show ((65521 : Nat) : Int) = 65521 from rfl] at e
      rw [e]
      rfl
    · have hq := Nat.div_add_mod 65521 w
      have q1 : 65521 / w < 256 := by
        rw [Nat.div_lt_iff_lt_mul (by omega)]
        omega
      have r0 : 65521 % w ≠ 0 := fun e => by
        rcases dvd_p (Nat.dvd_of_mod_eq_zero e) with z | z <;> omega
      have q0 : 65521 / w ≠ 0 := fun e => by
        rw [Nat.div_eq_zero_iff] at e
        omega
      have r1 := Nat.mod_lt 65521 h0
      have ihr := ih (65521 % w) r1 (Nat.pos_of_ne_zero r0) (by omega)
      have ihq := ih (65521 / w) (by omega) (Nat.pos_of_ne_zero q0) (by omega)
      have key : C ((w : Int) * ((65521 / w : Nat) : Int)) (-((65521 % w : Nat) : Int)) := by
        refine ⟨1, ?_⟩
        have : ((w * (65521 / w) + 65521 % w : Nat) : Int) = 65521 := by rw [hq]; rfl
        rw [Int.natCast_add, Int.natCast_mul] at this
        show _ = p * 1
        unfold p
        omega
      have k2 := key.pow 65520
      rw [Int.mul_pow] at k2
      have ev : (-((65521 % w : Nat) : Int)) ^ 65520 = ((65521 % w : Nat) : Int) ^ 65520 := by
        rw [show 65520 = 2 * 32760 from rfl, Int.pow_mul, Int.pow_mul]
        congr 1
        rw [Int.pow_succ, Int.pow_succ, Int.pow_zero, Int.pow_succ, Int.pow_succ, Int.pow_zero, Int.one_mul, Int.one_mul, Int.neg_mul_neg]
      rw [ev] at k2
      have k3 := ((C.refl ((w : Int) ^ 65520)).mul ihq).symm.trans (k2.trans ihr)
      rwa [Int.mul_one] at k3
theorem fermat {a : Int} (h : ¬ p ∣ a) : C (a ^ 65520) 1 := by
  have h0 : 0 ≤ a % 65521 := Int.emod_nonneg _ (by decide)
  have h1 : a % 65521 < 65521 := Int.emod_lt_of_pos _ (by decide)
  have h2 : a % 65521 ≠ 0 := fun e => h (Int.dvd_of_emod_eq_zero e)
  obtain ⟨n, hn⟩ := Int.eq_ofNat_of_zero_le h0
  have := fermatN n (by omega) (by omega)
  rw [← hn] at this
  exact ((C.mod a).symm.pow 65520).trans this
end Fp
end Mp

/-! linear algebra over a field: spans, independence, reduced bases -/
namespace Lin
class Fld (F : Type) extends Lean.Grind.CommRing F where
  inv : F → F
  mul_inv : ∀ x : F, x ≠ 0 → x * inv x = 1
  one_ne : (1 : F) ≠ 0
section
variable {F : Type} [Fld F]
abbrev Vc (F : Type) := Nat → F
/-- the span of a list -/
def Sp : List (Vc F) → Vc F → Prop
  | [], v => ∀ i, v i = 0
  | b :: L, v => ∃ c : F, Sp L (fun i => v i - c * b i)
theorem Sp.congr {L : List (Vc F)} {u v : Vc F} (h : Sp L u) (e : ∀ i, v i = u i) : Sp L v := by
  have : v = u := funext e
  rw [this]
  exact h
theorem sp_lin : ∀ {L : List (Vc F)} {u v : Vc F} (c d : F), Sp L u → Sp L v → Sp L (fun i => c * u i + d * v i)
  | [], u, v, c, d, hu, hv => fun i => by
    have h1 := hu i
    have h2 := hv i
    grind
  | b :: L, u, v, c, d, ⟨x, hx⟩, ⟨y, hy⟩ => ⟨c * x + d * y, (sp_lin c d hx hy).congr fun i => by grind⟩
theorem sp_zero (L : List (Vc F)) : Sp L (fun _ => 0) := by
  induction L with
  | nil => intro i; rfl
  | cons b L ih => exact ⟨0, ih.congr fun i => by grind⟩
theorem sp_zero' {L : List (Vc F)} {v : Vc F} (h : ∀ i, v i = 0) : Sp L v := (sp_zero L).congr h
theorem sp_add {L : List (Vc F)} {u v : Vc F} (hu : Sp L u) (hv : Sp L v) : Sp L (fun i => u i + v i) := (sp_lin 1 1 hu hv).congr fun i => by grind
theorem sp_sub {L : List (Vc F)} {u v : Vc F} (hu : Sp L u) (hv : Sp L v) : Sp L (fun i => u i - v i) := (sp_lin 1 (-1) hu hv).congr fun i => by grind
theorem sp_mul {L : List (Vc F)} {u : Vc F} (c : F) (hu : Sp L u) : Sp L (fun i => c * u i) := (sp_lin c 0 hu (sp_zero L)).congr fun i => by grind
theorem sp_cons {b : Vc F} {L : List (Vc F)} {v : Vc F} (h : Sp L v) : Sp (b :: L) v := ⟨0, h.congr fun i => by grind⟩
theorem sp_head {b : Vc F} {L : List (Vc F)} : Sp (b :: L) b := ⟨1, sp_zero' fun i => by grind⟩
theorem sp_mem : ∀ {L : List (Vc F)} {b : Vc F}, b ∈ L → Sp L b
  | a :: L, b, h => by
    rcases List.mem_cons.mp h with rfl | h
    · exact sp_head
    · exact sp_cons (sp_mem h)
theorem sp_trans : ∀ {L M : List (Vc F)} {v : Vc F}, (∀ b ∈ L, Sp M b) → Sp L v → Sp M v
  | [], M, v, _, h => sp_zero' h
  | b :: L, M, v, hb, ⟨c, h⟩ => by
    have h1 := sp_trans (M := M) (fun x hx => hb x (List.mem_cons_of_mem _ hx)) h
    have h2 := sp_mul c (hb b List.mem_cons_self)
    exact (sp_add h1 h2).congr fun i => by grind
theorem sp_all {L M : List (Vc F)} (h : ∀ b ∈ L, b ∈ M) {v : Vc F} (hv : Sp L v) : Sp M v := sp_trans (fun b hb => sp_mem (h b hb)) hv
theorem sp_app : ∀ {L M : List (Vc F)} {v : Vc F}, Sp (L ++ M) v ↔ ∃ u, Sp L u ∧ Sp M (fun i => v i - u i)
  | [], M, v => ⟨fun h => ⟨fun _ => 0, fun _ => rfl, Sp.congr (L := M) h fun i => by grind⟩, fun ⟨u, h1, h2⟩ => Sp.congr (L := M) h2 fun i => by have := h1 i; grind⟩
  | b :: L, M, v => ⟨fun ⟨c, h⟩ => by
      obtain ⟨u, h1, h2⟩ := sp_app.mp h
      exact ⟨fun i => u i + c * b i, ⟨c, h1.congr fun i => by grind⟩, h2.congr fun i => by grind⟩, fun ⟨u, ⟨c, h1⟩, h2⟩ => ⟨c, sp_app.mpr ⟨_, h1, h2.congr fun i => by grind⟩⟩⟩
/-- a property of all in a span -/
theorem sp_prop {P : Vc F → Prop} (h0 : P fun _ => 0) (hl : ∀ (c : F) (u v : Vc F), P u → P v → P (fun i => u i + c * v i)) : ∀ {L : List (Vc F)} {v : Vc F}, (∀ b ∈ L, P b) → Sp L v → P v
  | [], v, _, h => by
    have : v = fun _ => 0 := funext h
    rw [this]
    exact h0
  | b :: L, v, hb, ⟨c, h⟩ => by
    have h1 := sp_prop h0 hl (fun x hx => hb x (List.mem_cons_of_mem _ hx)) h
    have h2 := hl c _ b h1 (hb b List.mem_cons_self)
    have : v = fun i => (v i - c * b i) + c * b i := funext fun i => by grind
    rw [this]
    exact h2
theorem sp_at {L : List (Vc F)} {v : Vc F} {i : Nat} (hb : ∀ b ∈ L, b i = 0) (h : Sp L v) : v i = 0 :=
  sp_prop (P := fun v => v i = 0) rfl (fun c u v hu hv => by simp only [hu, hv]; grind) hb h
/-- independence -/
def Ind : List (Vc F) → Prop
  | [] => True
  | b :: L => ¬ Sp L b ∧ Ind L
theorem steinitz_step {m : Vc F} {M : List (Vc F)} : ∀ {L : List (Vc F)}, Ind L → (∀ v ∈ L, Sp (m :: M) v) →
    (∀ v ∈ L, Sp M v) ∨ ∃ (x : Vc F) (L' : List (Vc F)), L'.length + 1 = L.length ∧ Sp M (fun i => x i - m i) ∧ Ind L' ∧ (∀ v ∈ L', Sp M v) ∧ ∀ v, Sp L v ↔ ∃ c : F, Sp L' (fun i => v i - c * x i)
  | [], _, _ => .inl fun v h => absurd h (by simp)
  | b :: L, ⟨hn, hi⟩, hL => by
    obtain ⟨a, ha⟩ := hL b List.mem_cons_self
    rcases steinitz_step hi fun v hv => hL v (List.mem_cons_of_mem _ hv) with h | ⟨x, L', h1, h2, h3, h4, h5⟩
    · by_cases ha0 : a = 0
      · subst ha0
        refine .inl fun v hv => ?_
        rcases List.mem_cons.mp hv with rfl | hv
        · exact ha.congr fun i => by grind
        · exact h v hv
      · have hq := Fld.mul_inv a ha0
        refine .inr ⟨fun i => Fld.inv a * b i, L, rfl, (sp_mul (Fld.inv a) ha).congr fun i => by grind, hi, h, fun v => ⟨fun ⟨c, hc⟩ => ⟨c * a, hc.congr fun i => by grind⟩, fun ⟨c, hc⟩ => ⟨c * Fld.inv a, hc.congr fun i => by grind⟩⟩⟩
    · refine .inr ⟨x, (fun i => b i - a * x i) :: L', by rw [List.length_cons, List.length_cons, h1], h2, ⟨fun hc => hn ((h5 b).mpr ⟨a, hc⟩), h3⟩, fun v hv => ?_, fun v => ⟨fun ⟨c, hc⟩ => ?_, fun ⟨d, c, hc⟩ => ?_⟩⟩
      · rcases List.mem_cons.mp hv with rfl | hv
        · exact (sp_lin 1 (-a) ha h2).congr fun i => by grind
        · exact h4 v hv
      · obtain ⟨d, hd⟩ := (h5 _).mp hc
        exact ⟨d + c * a, c, hd.congr fun i => by grind⟩
      · exact ⟨c, (h5 _).mpr ⟨d - c * a, hc.congr fun i => by grind⟩⟩
theorem steinitz : ∀ {M L : List (Vc F)}, Ind L → (∀ v ∈ L, Sp M v) → L.length ≤ M.length
  | [], [], _, _ => Nat.le_refl _
  | [], b :: L, ⟨hn, _⟩, hL => (hn (sp_zero' (hL b List.mem_cons_self))).elim
  | m :: M, L, hi, hL => by
    rcases steinitz_step hi hL with h | ⟨x, L', h1, _, h3, h4, _⟩
    · have := steinitz hi h
      rw [List.length_cons]
      omega
    · have := steinitz h3 h4
      rw [List.length_cons]
      omega
/-- two independent lists of one span -/
theorem same_len {L M : List (Vc F)} (hL : Ind L) (hM : Ind M) (h : ∀ v, Sp L v ↔ Sp M v) : L.length = M.length :=
  Nat.le_antisymm (steinitz hL fun v hv => (h v).mp (sp_mem hv)) (steinitz hM fun v hv => (h v).mpr (sp_mem hv))
theorem ind_mono {L K : List (Vc F)} (hK : Ind K) (h : ∀ v ∈ K, Sp L v) : ∀ {N : List (Vc F)}, Ind (N ++ L) → Ind (N ++ K)
  | [], _ => hK
  | n :: N, ⟨h1, h2⟩ => ⟨fun hc => h1 (sp_trans (fun b hb => by
      rcases List.mem_append.mp hb with q | q
      · exact sp_mem (List.mem_append_left _ q)
      · exact sp_trans (fun x hx => sp_mem (List.mem_append_right _ hx)) (h b q)) hc), ind_mono hK h h2⟩
theorem extend : ∀ {W L : List (Vc F)}, Ind L → ∃ N : List (Vc F), (∀ v ∈ N, v ∈ W) ∧ Ind (N ++ L) ∧ ∀ v ∈ W, Sp (N ++ L) v
  | [], L, h => ⟨[], fun v hv => absurd hv (by simp), h, fun v hv => absurd hv (by simp)⟩
  | w :: W, L, h => by
    obtain ⟨N, h1, h2, h3⟩ := extend (W := W) h
    by_cases hw : Sp (N ++ L) w
    · refine ⟨N, fun v hv => List.mem_cons_of_mem _ (h1 v hv), h2, fun v hv => ?_⟩
      rcases List.mem_cons.mp hv with rfl | hv
      · exact hw
      · exact h3 v hv
    · refine ⟨w :: N, fun v hv => ?_, ⟨hw, h2⟩, fun v hv => ?_⟩
      · rcases List.mem_cons.mp hv with rfl | hv
        · exact List.mem_cons_self
        · exact List.mem_cons_of_mem _ (h1 v hv)
      · rcases List.mem_cons.mp hv with rfl | hv
        · exact sp_head
        · exact sp_cons (h3 v hv)
/-- the dimensions of a sum and a meet -/
theorem grassmann {U W S K : List (Vc F)} (hU : Ind U) (hW : Ind W) (hS : Ind S) (hK : Ind K) (eS : ∀ v, Sp S v ↔ Sp (U ++ W) v) (eK : ∀ v, Sp K v ↔ Sp U v ∧ Sp W v) : S.length + K.length = U.length + W.length := by
  obtain ⟨N, h1, h2, h3⟩ := extend (W := W) hU
  have a1 : S.length = (N ++ U).length := same_len hS h2 fun v => by
    rw [eS]
    constructor
    · refine sp_trans fun b hb => ?_
      rcases List.mem_append.mp hb with q | q
      · exact sp_mem (List.mem_append_right _ q)
      · exact h3 b q
    · refine sp_trans fun b hb => ?_
      rcases List.mem_append.mp hb with q | q
      · exact sp_mem (List.mem_append_right _ (h1 b q))
      · exact sp_mem (List.mem_append_left _ q)
  have a2 : W.length = (N ++ K).length := same_len hW (ind_mono hK (fun v hv => ((eK v).mp (sp_mem hv)).1) h2) fun v => by
    constructor
    · intro hv
      have hq : Sp (N ++ U) v := sp_trans (fun b hb => h3 b hb) hv
      obtain ⟨a, ha, hu⟩ := sp_app.mp hq
      have haW : Sp W a := sp_all h1 ha
      exact sp_app.mpr ⟨a, ha, (eK _).mpr ⟨hu, sp_sub hv haW⟩⟩
    · refine sp_trans fun b hb => ?_
      rcases List.mem_append.mp hb with q | q
      · exact sp_mem (h1 b q)
      · exact ((eK b).mp (sp_mem q)).2
  rw [List.length_append] at a1 a2
  omega
/-! ### reduced rows -/
abbrev Rw (F : Type) := Nat × Vc F
def vs (R : List (Rw F)) : List (Vc F) := R.map (·.2)
@[simp] theorem vs_nil : vs ([] : List (Rw F)) = [] := (rfl)
@[simp] theorem vs_cons {a : Rw F} {R : List (Rw F)} : vs (a :: R) = a.2 :: vs R := (rfl)
theorem mem_vs {R : List (Rw F)} {v : Vc F} : v ∈ vs R ↔ ∃ a ∈ R, a.2 = v := by
  unfold vs
  rw [List.mem_map]
/-- each row has a place of its own -/
def Dl : List (Rw F) → Prop
  | [] => True
  | a :: R => a.2 a.1 = 1 ∧ (∀ b ∈ R, a.2 b.1 = 0 ∧ b.2 a.1 = 0) ∧ Dl R
def rest : List (Rw F) → Vc F → Vc F
  | [], v => v
  | a :: R, v => rest R (fun i => v i - v a.1 * a.2 i)
theorem rest_diff : ∀ (R : List (Rw F)) (v : Vc F), Sp (vs R) (fun i => v i - rest R v i)
  | [], v => fun i => by show v i - v i = 0; grind
  | a :: R, v => ⟨v a.1, (rest_diff R (fun i => v i - v a.1 * a.2 i)).congr fun i => by show v i - rest R (fun i => v i - v a.1 * a.2 i) i - v a.1 * a.2 i = _; grind⟩
theorem dl_at {a : Rw F} {R : List (Rw F)} (h : Dl (a :: R)) {w : Vc F} (hw : Sp (vs R) w) : w a.1 = 0 := sp_at (fun b hb => by
  obtain ⟨x, hx, rfl⟩ := mem_vs.mp hb
  exact (h.2.1 x hx).2) hw
theorem rest_piv : ∀ {R : List (Rw F)} (v : Vc F), Dl R → ∀ a ∈ R, rest R v a.1 = 0
  | a :: R, v, h, b, hb => by
    rcases List.mem_cons.mp hb with rfl | hb
    · have h1 := dl_at h (rest_diff R (fun i => v i - v b.1 * b.2 i))
      have h2 := h.1
      show rest R (fun i => v i - v b.1 * b.2 i) b.1 = 0
      rw [h2] at h1
      grind
    · exact rest_piv _ h.2.2 b hb
theorem piv_zero : ∀ {R : List (Rw F)} {w : Vc F}, Dl R → Sp (vs R) w → (∀ a ∈ R, w a.1 = 0) → ∀ i, w i = 0
  | [], w, _, hw, _ => hw
  | a :: R, w, h, ⟨c, hc⟩, hz => by
    have h1 := dl_at h hc
    have h2 := h.1
    have h3 := hz a List.mem_cons_self
    have hc0 : c = 0 := by
      simp only at h1
      rw [h2, h3] at h1
      grind
    subst hc0
    exact piv_zero h.2.2 (hc.congr fun i => by grind) fun b hb => hz b (List.mem_cons_of_mem _ hb)
theorem rest_span {R : List (Rw F)} (h : Dl R) (v : Vc F) : Sp (vs R) v ↔ ∀ i, rest R v i = 0 := by
  constructor
  · intro hv
    refine piv_zero h ?_ (rest_piv v h)
    exact (sp_sub hv (rest_diff R v)).congr fun i => by grind
  · intro hz
    exact (rest_diff R v).congr fun i => by rw [hz i]; grind
theorem dl_ind : ∀ {R : List (Rw F)}, Dl R → Ind (vs R)
  | [], _ => trivial
  | a :: R, h => ⟨fun hc => by
      have h1 : a.2 a.1 = 0 := dl_at h hc
      rw [h.1] at h1
      exact Fld.one_ne h1, dl_ind h.2.2⟩
/-- reduced: leads in order -/
structure Rr (R : List (Rw F)) : Prop where
  srt : R.Pairwise fun a b => a.1 < b.1
  one : ∀ a ∈ R, a.2 a.1 = 1
  low : ∀ a ∈ R, ∀ i, i < a.1 → a.2 i = 0
  off : ∀ a ∈ R, ∀ b ∈ R, a.1 ≠ b.1 → a.2 b.1 = 0
theorem Rr.tail {a : Rw F} {R : List (Rw F)} (h : Rr (a :: R)) : Rr R where
  srt := (List.pairwise_cons.mp h.srt).2
  one := fun b hb => h.one b (List.mem_cons_of_mem _ hb)
  low := fun b hb => h.low b (List.mem_cons_of_mem _ hb)
  off := fun b hb c hc => h.off b (List.mem_cons_of_mem _ hb) c (List.mem_cons_of_mem _ hc)
theorem Rr.lt {a : Rw F} {R : List (Rw F)} (h : Rr (a :: R)) {b : Rw F} (hb : b ∈ R) : a.1 < b.1 := (List.pairwise_cons.mp h.srt).1 b hb
theorem Rr.dl : ∀ {R : List (Rw F)}, Rr R → Dl R
  | [], _ => trivial
  | a :: R, h => ⟨h.one a List.mem_cons_self, fun b hb => ⟨h.off a List.mem_cons_self b (List.mem_cons_of_mem _ hb) (by have := h.lt hb; omega), h.low b (List.mem_cons_of_mem _ hb) a.1 (h.lt hb)⟩, h.tail.dl⟩
theorem Rr.nil : Rr ([] : List (Rw F)) := ⟨List.Pairwise.nil, fun a h => absurd h (by simp), fun a h => absurd h (by simp), fun a h => absurd h (by simp)⟩
theorem lead_mem : ∀ {R : List (Rw F)} {w : Vc F}, Rr R → Sp (vs R) w → (∃ i, w i ≠ 0) → ∃ a ∈ R, w a.1 ≠ 0 ∧ ∀ i, i < a.1 → w i = 0
  | [], w, _, hw, ⟨i, hi⟩ => absurd (hw i) hi
  | a :: R, w, h, ⟨c, hc⟩, hne => by
    have h1 := dl_at h.dl hc
    have h2 := h.one a List.mem_cons_self
    have hca : w a.1 = c := by
      simp only at h1
      rw [h2] at h1
      grind
    by_cases hc0 : c = 0
    · subst hc0
      obtain ⟨b, hb, q⟩ := lead_mem h.tail (hc.congr fun i => by grind) hne
      exact ⟨b, List.mem_cons_of_mem _ hb, q⟩
    · refine ⟨a, List.mem_cons_self, by rw [hca]; exact hc0, fun i hi => ?_⟩
      have h3 : w i - c * a.2 i = 0 := sp_at (L := vs R) (v := fun i => w i - c * a.2 i) (fun b hb => by
        obtain ⟨x, hx, rfl⟩ := mem_vs.mp hb
        exact h.low x (List.mem_cons_of_mem _ hx) i (by have := h.lt hx; omega)) hc
      rw [h.low a List.mem_cons_self i hi] at h3
      grind
theorem piv_in {R R' : List (Rw F)} (h : Rr R) (h' : Rr R') (hs : ∀ v ∈ vs R, Sp (vs R') v) {a : Rw F} (ha : a ∈ R) : ∃ a' ∈ R', a'.1 = a.1 := by
  have hne : a.2 a.1 ≠ 0 := by rw [h.one a ha]; exact Fld.one_ne
  obtain ⟨b, hb, h1, h2⟩ := lead_mem h' (hs a.2 (mem_vs.mpr ⟨a, ha, rfl⟩)) ⟨a.1, hne⟩
  refine ⟨b, hb, ?_⟩
  rcases Nat.lt_trichotomy a.1 b.1 with q | q | q
  · exact absurd (h2 a.1 q) hne
  · exact q.symm
  · exact absurd (h.low a ha b.1 q) h1
theorem sorted_ext : ∀ {R R' : List (Rw F)}, R.Pairwise (fun a b => a.1 < b.1) → R'.Pairwise (fun a b => a.1 < b.1) → (∀ a, a ∈ R ↔ a ∈ R') → R = R'
  | [], [], _, _, _ => rfl
  | [], b :: R', _, _, h => absurd ((h b).mpr List.mem_cons_self) (by simp)
  | a :: R, [], _, _, h => absurd ((h a).mp List.mem_cons_self) (by simp)
  | a :: R, b :: R', h1, h2, h => by
    have g1 := List.pairwise_cons.mp h1
    have g2 := List.pairwise_cons.mp h2
    have e : a = b := by
      rcases List.mem_cons.mp ((h a).mp List.mem_cons_self) with q | q
      · exact q
      · rcases List.mem_cons.mp ((h b).mpr List.mem_cons_self) with r | r
        · exact r.symm
        · have := g1.1 b r
          have := g2.1 a q
          omega
    subst e
    congr 1
    refine sorted_ext g1.2 g2.2 fun x => ⟨fun hx => ?_, fun hx => ?_⟩
    · rcases List.mem_cons.mp ((h x).mp (List.mem_cons_of_mem _ hx)) with q | q
      · have := g1.1 x hx
        rw [q] at this
        omega
      · exact q
    · rcases List.mem_cons.mp ((h x).mpr (List.mem_cons_of_mem _ hx)) with q | q
      · have := g2.1 x hx
        rw [q] at this
        omega
      · exact q
theorem uniq_mem {R R' : List (Rw F)} (h : Rr R) (h' : Rr R') (hs : ∀ v, Sp (vs R) v ↔ Sp (vs R') v) {a : Rw F} (ha : a ∈ R) : a ∈ R' := by
  obtain ⟨b, hb, e⟩ := piv_in h h' (fun v hv => (hs v).mp (sp_mem hv)) ha
  have hd : Sp (vs R') (fun i => a.2 i - b.2 i) := sp_sub ((hs _).mp (sp_mem (mem_vs.mpr ⟨a, ha, rfl⟩))) (sp_mem (mem_vs.mpr ⟨b, hb, rfl⟩))
  have hz := piv_zero h'.dl hd fun c hc => by
    show a.2 c.1 - b.2 c.1 = 0
    by_cases q : b.1 = c.1
    · rw [h'.one _ hb |> fun h => (q ▸ h : b.2 c.1 = 1)]
      have : a.2 c.1 = 1 := by rw [← q, e]; exact h.one a ha
      rw [this]
      grind
    · rw [h'.off b hb c hc q]
      obtain ⟨d, hd, e2⟩ := piv_in h' h (fun v hv => (hs v).mpr (sp_mem hv)) hc
      have : a.2 c.1 = 0 := by rw [← e2]; exact h.off a ha d hd (by rw [e2, ← e]; exact q)
      rw [this]
      grind
  have e2 : a.2 = b.2 := funext fun i => by
    have := hz i
    grind
  have : a = b := Prod.ext e.symm e2
  rw [this]
  exact hb
/-- a span has one reduced basis -/
theorem uniq {R R' : List (Rw F)} (h : Rr R) (h' : Rr R') (hs : ∀ v, Sp (vs R) v ↔ Sp (vs R') v) : R = R' :=
  sorted_ext h.srt h'.srt fun a => ⟨uniq_mem h h' hs, uniq_mem h' h fun v => (hs v).symm⟩
/-! ### one row more -/
def clr (t : Nat) (r : Vc F) (a : Rw F) : Rw F := (a.1, fun i => a.2 i - a.2 t * r i)
def ins (t : Nat) (r : Vc F) : Bool → List (Rw F) → List (Rw F)
  | p, [] => if p then [] else [(t, r)]
  | p, a :: R => if p = false ∧ t < a.1 then (t, r) :: clr t r a :: ins t r true R else clr t r a :: ins t r p R
theorem ins_true (t : Nat) (r : Vc F) : ∀ R : List (Rw F), ins t r true R = R.map (clr t r)
  | [] => rfl
  | a :: R => by
    unfold ins
    rw [if_neg (by simp), ins_true t r R, List.map_cons]
theorem mem_ins {t : Nat} {r : Vc F} {x : Rw F} : ∀ {R : List (Rw F)}, x ∈ ins t r false R ↔ x = (t, r) ∨ ∃ a ∈ R, x = clr t r a
  | [] => by
    show x ∈ [(t, r)] ↔ _
    simp
  | a :: R => by
    unfold ins
    split
    · rw [ins_true]
      simp only [List.mem_cons, List.mem_map]
      constructor
      · rintro (h | h | ⟨b, hb, h⟩)
        · exact .inl h
        · exact .inr ⟨a, .inl rfl, h⟩
        · exact .inr ⟨b, .inr hb, h.symm⟩
      · rintro (h | ⟨b, rfl | hb, h⟩)
        · exact .inl h
        · exact .inr (.inl h)
        · exact .inr (.inr ⟨b, hb, h.symm⟩)
    · rw [List.mem_cons, mem_ins]
      constructor
      · rintro (h | h | ⟨b, hb, h⟩)
        · exact .inr ⟨a, List.mem_cons_self, h⟩
        · exact .inl h
        · exact .inr ⟨b, List.mem_cons_of_mem _ hb, h⟩
      · rintro (h | ⟨b, hb, h⟩)
        · exact .inr (.inl h)
        · rcases List.mem_cons.mp hb with rfl | hb
          · exact .inl h
          · exact .inr (.inr ⟨b, hb, h⟩)
theorem ins_srt {t : Nat} {r : Vc F} : ∀ {R : List (Rw F)}, R.Pairwise (fun a b => a.1 < b.1) → (∀ a ∈ R, a.1 ≠ t) → (ins t r false R).Pairwise fun a b => a.1 < b.1
  | [], _, _ => by show [(t, r)].Pairwise _; simp
  | a :: R, h, hn => by
    obtain ⟨h1, h2⟩ := List.pairwise_cons.mp h
    unfold ins
    split
    · next q =>
      rw [ins_true]
      refine List.pairwise_cons.mpr ⟨fun x hx => ?_, List.pairwise_cons.mpr ⟨fun x hx => ?_, ?_⟩⟩
      · rcases List.mem_cons.mp hx with rfl | hx
        · exact q.2
        · obtain ⟨b, hb, rfl⟩ := List.mem_map.mp hx
          exact Nat.lt_trans q.2 (h1 b hb)
      · obtain ⟨b, hb, rfl⟩ := List.mem_map.mp hx
        exact h1 b hb
      · exact List.pairwise_map.mpr h2
    · next q =>
      have hat : a.1 < t := by
        have := hn a List.mem_cons_self
        simp only [true_and] at q
        omega
      refine List.pairwise_cons.mpr ⟨fun x hx => ?_, ins_srt h2 fun b hb => hn b (List.mem_cons_of_mem _ hb)⟩
      rcases mem_ins.mp hx with rfl | ⟨b, hb, rfl⟩
      · exact hat
      · exact h1 b hb
/-- a row with a new lead -/
structure New (R : List (Rw F)) (t : Nat) (r : Vc F) : Prop where
  one : r t = 1
  low : ∀ i, i < t → r i = 0
  off : ∀ a ∈ R, r a.1 = 0
theorem New.ne {R : List (Rw F)} {t : Nat} {r : Vc F} (h : New R t r) {a : Rw F} (ha : a ∈ R) : a.1 ≠ t := fun e => by
  have h1 := h.off a ha
  rw [e, h.one] at h1
  exact Fld.one_ne h1
theorem clr_one {R : List (Rw F)} {t : Nat} {r : Vc F} (hR : Rr R) (h : New R t r) {a : Rw F} (ha : a ∈ R) : (clr t r a).2 a.1 = 1 := by
  show a.2 a.1 - a.2 t * r a.1 = 1
  rw [hR.one a ha, h.off a ha]
  grind
theorem clr_low {R : List (Rw F)} {t : Nat} {r : Vc F} (hR : Rr R) (h : New R t r) {a : Rw F} (ha : a ∈ R) {i : Nat} (hi : i < a.1) : (clr t r a).2 i = 0 := by
  show a.2 i - a.2 t * r i = 0
  rw [hR.low a ha i hi]
  by_cases q : t < a.1
  · rw [hR.low a ha t q]
    grind
  · rw [h.low i (by omega)]
    grind
theorem clr_at {t : Nat} {r : Vc F} (h : r t = 1) (a : Rw F) : (clr t r a).2 t = 0 := by
  show a.2 t - a.2 t * r t = 0
  rw [h]
  grind
theorem clr_off {R : List (Rw F)} {t : Nat} {r : Vc F} (hR : Rr R) (h : New R t r) {a b : Rw F} (ha : a ∈ R) (hb : b ∈ R) (q : a.1 ≠ b.1) : (clr t r a).2 b.1 = 0 := by
  show a.2 b.1 - a.2 t * r b.1 = 0
  rw [hR.off a ha b hb q, h.off b hb]
  grind
/-- rows that are these: the new one and the cleared ones -/
theorem new_rr {R R' : List (Rw F)} {t : Nat} {r : Vc F} (hR : Rr R) (h : New R t r) (hs : R'.Pairwise fun a b => a.1 < b.1) (hm : ∀ x, x ∈ R' ↔ x = (t, r) ∨ ∃ a ∈ R, x = clr t r a) : Rr R' where
  srt := hs
  one := fun x hx => by
    rcases (hm x).mp hx with rfl | ⟨a, ha, rfl⟩
    · exact h.one
    · exact clr_one hR h ha
  low := fun x hx i hi => by
    rcases (hm x).mp hx with rfl | ⟨a, ha, rfl⟩
    · exact h.low i hi
    · exact clr_low hR h ha hi
  off := fun x hx y hy q => by
    rcases (hm x).mp hx with rfl | ⟨a, ha, rfl⟩ <;> rcases (hm y).mp hy with rfl | ⟨b, hb, rfl⟩
    · exact absurd rfl q
    · exact h.off b hb
    · exact clr_at h.one a
    · show (clr t r a).2 b.1 = 0
      exact clr_off hR h ha hb q
theorem new_sp {R R' : List (Rw F)} {t : Nat} {r : Vc F} (hm : ∀ x, x ∈ R' ↔ x = (t, r) ∨ ∃ a ∈ R, x = clr t r a) (v : Vc F) : Sp (vs R') v ↔ Sp (r :: vs R) v := by
  constructor
  · refine sp_trans fun b hb => ?_
    obtain ⟨x, hx, rfl⟩ := mem_vs.mp hb
    rcases (hm x).mp hx with rfl | ⟨a, ha, rfl⟩
    · exact sp_head
    · exact (sp_lin 1 (-(a.2 t)) (sp_cons (sp_mem (mem_vs.mpr ⟨a, ha, rfl⟩))) sp_head).congr fun i => by
        show a.2 i - a.2 t * r i = _
        grind
  · have hr : Sp (vs R') r := sp_mem (mem_vs.mpr ⟨(t, r), (hm _).mpr (.inl rfl), rfl⟩)
    refine sp_trans fun b hb => ?_
    rcases List.mem_cons.mp hb with rfl | hb
    · exact hr
    · obtain ⟨a, ha, rfl⟩ := mem_vs.mp hb
      have : Sp (vs R') (clr t r a).2 := sp_mem (mem_vs.mpr ⟨_, (hm _).mpr (.inr ⟨a, ha, rfl⟩), rfl⟩)
      exact (sp_lin 1 (a.2 t) this hr).congr fun i => by
        show a.2 i = 1 * (a.2 i - a.2 t * r i) + _
        grind
variable [DecidableEq F]
/-- the first place that is not zero -/
def lead (n : Nat) (v : Vc F) : Option Nat := (List.range n).find? fun i => decide (v i ≠ 0)
theorem lead_none {n : Nat} {v : Vc F} (h : lead n v = none) : ∀ i, i < n → v i = 0 := fun i hi => by
  have := List.find?_eq_none.mp h i (List.mem_range.mpr hi)
  simpa using this
theorem find_range {p : Nat → Bool} : ∀ {n t : Nat}, (List.range n).find? p = some t → t < n ∧ p t = true ∧ ∀ i, i < t → p i = false := fun {n t} h => by
  have h1 := List.find?_some h
  have h2 := List.mem_of_find?_eq_some h
  refine ⟨List.mem_range.mp h2, h1, fun i hi => ?_⟩
  obtain ⟨_, as, bs, e, hp⟩ := List.find?_eq_some_iff_append.mp h
  have hl : as.length = t := by
    have h3 : (List.range n)[as.length]? = some t := by rw [e]; simp
    have h4 : as.length < n := by
      rcases Nat.lt_or_ge as.length n with q | q
      · exact q
      · rw [List.getElem?_eq_none (by simpa using q)] at h3; cases h3
    rw [List.getElem?_range h4] at h3
    injection h3
  have h5 : (List.range n)[i]? = as[i]? := by rw [e, List.getElem?_append_left (by omega)]
  have h6 : i < n := by have := List.mem_range.mp h2; omega
  rw [List.getElem?_range h6] at h5
  have h7 := hp i (List.mem_of_getElem? h5.symm)
  simpa using h7
theorem lead_some {n t : Nat} {v : Vc F} (h : lead n v = some t) : t < n ∧ v t ≠ 0 ∧ ∀ i, i < t → v i = 0 := by
  obtain ⟨h1, h2, h3⟩ := find_range h
  refine ⟨h1, by simpa using h2, fun i hi => ?_⟩
  have := h3 i hi
  simpa using this
theorem lead_eq {n t : Nat} {v : Vc F} (h1 : t < n) (h2 : v t ≠ 0) (h3 : ∀ i, i < t → v i = 0) : lead n v = some t := by
  cases h : lead n v with
  | none => exact absurd (lead_none h t h1) h2
  | some u =>
    obtain ⟨g1, g2, g3⟩ := lead_some h
    rcases Nat.lt_trichotomy t u with q | q | q
    · exact absurd (g3 t q) h2
    · rw [q]
    · exact absurd (h3 u q) g2
def Su (n : Nat) (v : Vc F) : Prop := ∀ i, n ≤ i → v i = 0
theorem su_sp {n : Nat} {L : List (Vc F)} (h : ∀ b ∈ L, Su n b) {v : Vc F} (hv : Sp L v) : Su n v := fun i hi => sp_at (fun b hb => h b hb i hi) hv
theorem lead_zero {n : Nat} {v : Vc F} (hs : Su n v) (h : lead n v = none) : ∀ i, v i = 0 := fun i => by
  rcases Nat.lt_or_ge i n with q | q
  · exact lead_none h i q
  · exact hs i q
theorem Rr.lead {n : Nat} {R : List (Rw F)} (h : Rr R) (hs : ∀ a ∈ R, Su n a.2) {a : Rw F} (ha : a ∈ R) : Lin.lead n a.2 = some a.1 := by
  have hne : a.2 a.1 ≠ 0 := by rw [h.one a ha]; exact Fld.one_ne
  refine lead_eq ?_ hne (h.low a ha)
  rcases Nat.lt_or_ge a.1 n with q | q
  · exact q
  · exact absurd (hs a ha a.1 q) hne
/-- the program's step -/
def jn (n : Nat) (R : List (Rw F)) (v : Vc F) : List (Rw F) := match lead n (rest R v) with
  | none => R
  | some t => ins t (fun i => rest R v i * Fld.inv (rest R v t)) false R
theorem jn_new {n t : Nat} {R : List (Rw F)} {v : Vc F} (hR : Rr R) (h : lead n (rest R v) = some t) : New R t (fun i => rest R v i * Fld.inv (rest R v t)) := by
  obtain ⟨h1, h2, h3⟩ := lead_some h
  refine ⟨Fld.mul_inv _ h2, fun i hi => ?_, fun a ha => ?_⟩
  · rw [h3 i hi]
    grind
  · rw [rest_piv v hR.dl a ha]
    grind
theorem su_rest {n : Nat} {R : List (Rw F)} {v : Vc F} (hs : ∀ a ∈ R, Su n a.2) (hv : Su n v) : Su n (rest R v) := fun i hi => by
  have h1 := su_sp (n := n) (L := vs R) (fun b hb => by obtain ⟨a, ha, rfl⟩ := mem_vs.mp hb; exact hs a ha) (rest_diff R v) i hi
  rw [hv i hi] at h1
  grind
theorem jn_ok {n : Nat} {R : List (Rw F)} {v : Vc F} (hR : Rr R) (hs : ∀ a ∈ R, Su n a.2) (hv : Su n v) : Rr (jn n R v) ∧ ∀ u, Sp (vs (jn n R v)) u ↔ Sp (v :: vs R) u := by
  unfold jn
  cases h : lead n (rest R v) with
  | none =>
    refine ⟨hR, fun u => ⟨sp_cons, sp_trans fun b hb => ?_⟩⟩
    rcases List.mem_cons.mp hb with rfl | hb
    · exact (rest_span hR.dl _).mpr (lead_zero (su_rest hs hv) h)
    · exact sp_mem hb
  | some t =>
    have hN := jn_new hR h
    have hm : ∀ x, x ∈ ins t (fun i => rest R v i * Fld.inv (rest R v t)) false R ↔ x = (t, fun i => rest R v i * Fld.inv (rest R v t)) ∨ ∃ a ∈ R, x = clr t (fun i => rest R v i * Fld.inv (rest R v t)) a := fun x => mem_ins
    refine ⟨new_rr hR hN (ins_srt hR.srt fun a ha => hN.ne ha) hm, fun u => ?_⟩
    rw [new_sp hm u]
    have h2 := (lead_some h).2.1
    have hq := Fld.mul_inv _ h2
    have hd := sp_cons (b := v) (rest_diff R v)
    constructor
    · refine sp_trans fun b hb => ?_
      rcases List.mem_cons.mp hb with rfl | hb
      · exact (sp_lin (Fld.inv (rest R v t)) (-(Fld.inv (rest R v t))) sp_head hd).congr fun i => by grind
      · exact sp_cons (sp_mem hb)
    · refine sp_trans fun b hb => ?_
      rcases List.mem_cons.mp hb with rfl | hb
      · exact (sp_lin (rest R b t) 1 sp_head (sp_cons (rest_diff R b))).congr fun i => by grind
      · exact sp_cons (sp_mem hb)
/-- the program's reduced rows -/
def bs (n : Nat) (rows : List (Vc F)) : List (Rw F) := rows.foldl (jn n) []
theorem bs_go {n : Nat} : ∀ (rows : List (Vc F)) (R : List (Rw F)), Rr R → (∀ a ∈ R, Su n a.2) → (∀ v ∈ rows, Su n v) → Rr (rows.foldl (jn n) R) ∧ ∀ u, Sp (vs (rows.foldl (jn n) R)) u ↔ Sp (rows ++ vs R) u
  | [], R, h, _, _ => ⟨h, fun u => Iff.rfl⟩
  | v :: rows, R, h, hs, hv => by
    obtain ⟨h1, h2⟩ := jn_ok h hs (hv v List.mem_cons_self)
    have hsR : ∀ b ∈ v :: vs R, Su n b := fun b hb => by
      rcases List.mem_cons.mp hb with rfl | hb
      · exact hv _ List.mem_cons_self
      · obtain ⟨a, ha, rfl⟩ := mem_vs.mp hb
        exact hs a ha
    obtain ⟨h3, h4⟩ := bs_go rows (jn n R v) h1 (fun a ha => su_sp hsR ((h2 _).mp (sp_mem (mem_vs.mpr ⟨a, ha, rfl⟩)))) fun x hx => hv x (List.mem_cons_of_mem _ hx)
    refine ⟨h3, fun u => (h4 u).trans ⟨sp_trans fun b hb => ?_, sp_trans fun b hb => ?_⟩⟩
    · rcases List.mem_append.mp hb with q | q
      · exact sp_mem (List.mem_append_left _ (List.mem_cons_of_mem _ q))
      · exact sp_trans (fun x hx => sp_mem (by
          rcases List.mem_cons.mp hx with rfl | hx
          · exact List.mem_append_left _ List.mem_cons_self
          · exact List.mem_append_right _ hx)) ((h2 b).mp (sp_mem q))
    · have hq : ∀ x, Sp (v :: vs R) x → Sp (rows ++ vs (jn n R v)) x := fun x hx => sp_all (fun y hy => List.mem_append_right _ hy) ((h2 x).mpr hx)
      rcases List.mem_append.mp hb with q | q
      · rcases List.mem_cons.mp q with rfl | q
        · exact hq _ sp_head
        · exact sp_mem (List.mem_append_left _ q)
      · exact hq _ (sp_cons (sp_mem q))
theorem bs_ok {n : Nat} {rows : List (Vc F)} (h : ∀ v ∈ rows, Su n v) : Rr (bs n rows) ∧ ∀ u, Sp (vs (bs n rows)) u ↔ Sp rows u := by
  obtain ⟨h1, h2⟩ := bs_go rows [] Rr.nil (fun a ha => absurd ha (by simp)) h
  refine ⟨h1, fun u => ?_⟩
  have := h2 u
  rwa [vs_nil, List.append_nil] at this
theorem bs_su {n : Nat} {rows : List (Vc F)} (h : ∀ v ∈ rows, Su n v) : ∀ a ∈ bs n rows, Su n a.2 := fun a ha => su_sp h (((bs_ok h).2 _).mp (sp_mem (mem_vs.mpr ⟨a, ha, rfl⟩)))
/-! ### column by column -/
def oth (k : Nat) (L : List (Vc F)) : List (Vc F) := ((List.range L.length).filter fun j => decide (j ≠ k)).map fun j => L.getD j fun _ => 0
def nrm (t : Nat) (w : Vc F) : Vc F := fun i => w i * Fld.inv (w t)
def red1 (S : List (Rw F) × List (Vc F)) (t : Nat) : List (Rw F) × List (Vc F) := match S.2.findIdx? fun v => decide (v t ≠ 0) with
  | none => S
  | some k => (S.1.map (clr t (nrm t (S.2.getD k fun _ => 0))) ++ [(t, nrm t (S.2.getD k fun _ => 0))], (oth k S.2).map fun v i => v i - v t * nrm t (S.2.getD k fun _ => 0) i)
theorem mem_oth {k : Nat} {L : List (Vc F)} {v : Vc F} : v ∈ oth k L ↔ ∃ j, j ≠ k ∧ L[j]? = some v := by
  unfold oth
  rw [List.mem_map]
  constructor
  · rintro ⟨j, hj, rfl⟩
    rw [List.mem_filter, List.mem_range, decide_eq_true_eq] at hj
    exact ⟨j, hj.2, by rw [List.getD_eq_getElem?_getD, List.getElem?_eq_getElem hj.1]; rfl⟩
  · rintro ⟨j, h1, h2⟩
    have hlt : j < L.length := by
      rcases Nat.lt_or_ge j L.length with q | q
      · exact q
      · rw [List.getElem?_eq_none q] at h2; cases h2
    exact ⟨j, List.mem_filter.mpr ⟨List.mem_range.mpr hlt, by simpa using h1⟩, by rw [List.getD_eq_getElem?_getD, h2]; rfl⟩
structure Iv (rows : List (Vc F)) (t : Nat) (S : List (Rw F) × List (Vc F)) : Prop where
  rr : Rr S.1
  lt : ∀ a ∈ S.1, a.1 < t
  zr : ∀ v ∈ S.2, ∀ i, i < t → v i = 0
  sp : ∀ u, Sp (vs S.1 ++ S.2) u ↔ Sp rows u
theorem red1_ok {rows : List (Vc F)} {t : Nat} {S : List (Rw F) × List (Vc F)} (h : Iv rows t S) : Iv rows (t + 1) (red1 S t) := by
  obtain ⟨D, L⟩ := S
  unfold red1
  simp only
  cases hf : L.findIdx? (fun v => decide (v t ≠ 0)) with
  | none =>
    refine ⟨h.rr, fun a ha => Nat.lt_succ_of_lt (h.lt a ha), fun v hv i hi => ?_, h.sp⟩
    by_cases q : i = t
    · subst q
      have := List.findIdx?_eq_none_iff.mp hf v hv
      simpa using this
    · exact h.zr v hv i (by omega)
  | some k =>
    obtain ⟨hk, hk2, _⟩ := List.findIdx?_eq_some_iff_getElem.mp hf
    have hw : L.getD k (fun _ => 0) = L[k] := by simp [hk]
    simp only
    rw [hw]
    have hne : L[k] t ≠ 0 := by simpa using hk2
    have hzk := h.zr L[k] (List.getElem_mem hk)
    have hget : L[k]? = some L[k] := List.getElem?_eq_getElem hk
    generalize L[k] = w at *
    have hq := Fld.mul_inv _ hne
    have hN : New D t (nrm t w) := ⟨hq, fun i hi => by show w i * _ = 0; rw [hzk i hi]; grind, fun a ha => by show w a.1 * _ = 0; rw [hzk a.1 (h.lt a ha)]; grind⟩
    have hm : ∀ x, x ∈ D.map (clr t (nrm t w)) ++ [(t, nrm t w)] ↔ x = (t, nrm t w) ∨ ∃ a ∈ D, x = clr t (nrm t w) a := fun x => by
      rw [List.mem_append, List.mem_singleton, List.mem_map]
      constructor
      · rintro (⟨a, ha, rfl⟩ | rfl)
        · exact .inr ⟨a, ha, rfl⟩
        · exact .inl rfl
      · rintro (rfl | ⟨a, ha, rfl⟩)
        · exact .inr rfl
        · exact .inl ⟨a, ha, rfl⟩
    refine ⟨new_rr h.rr hN ?_ hm, fun x hx => ?_, fun v hv i hi => ?_, fun u => ?_⟩
    · refine List.pairwise_append.mpr ⟨List.pairwise_map.mpr h.rr.srt, List.pairwise_singleton _ _, fun x hx y hy => ?_⟩
      obtain ⟨a, ha, rfl⟩ := List.mem_map.mp hx
      rw [List.mem_singleton] at hy
      subst hy
      exact h.lt a ha
    · rcases (hm x).mp hx with rfl | ⟨a, ha, rfl⟩
      · exact Nat.lt_succ_self t
      · exact Nat.lt_succ_of_lt (h.lt a ha)
    · obtain ⟨x, hx, rfl⟩ := List.mem_map.mp hv
      obtain ⟨j, hj, hx⟩ := mem_oth.mp hx
      by_cases q : i = t
      · subst q
        show x i - x i * nrm i w i = 0
        rw [hN.one]
        grind
      · show x i - x t * nrm t w i = 0
        rw [h.zr x (List.mem_of_getElem? hx) i (by omega), hN.low i (by omega)]
        grind
    · rw [← h.sp u]
      have hwS : ∀ M : List (Vc F), Sp M (nrm t w) ↔ Sp M w := fun M => ⟨fun q => (sp_mul (w t) q).congr fun i => by show w i = w t * (w i * Fld.inv (w t)); grind, fun q => (sp_mul (Fld.inv (w t)) q).congr fun i => by show w i * Fld.inv (w t) = _; grind⟩
      have hwL : Sp (vs D ++ L) (nrm t w) := (hwS _).mpr (sp_mem (List.mem_append_right _ (List.mem_of_getElem? hget)))
      generalize hD' : D.map (clr t (nrm t w)) ++ [(t, nrm t w)] = D' at hm ⊢
      have hwR : Sp (vs D' ++ (oth k L).map fun v i => v i - v t * nrm t w i) (nrm t w) := sp_mem (List.mem_append_left _ (mem_vs.mpr ⟨_, (hm _).mpr (.inl rfl), rfl⟩))
      constructor
      · refine sp_trans fun b hb => ?_
        rcases List.mem_append.mp hb with q | q
        · refine sp_trans (fun c hc => ?_) ((new_sp hm b).mp (sp_mem q))
          rcases List.mem_cons.mp hc with rfl | hc
          · exact hwL
          · exact sp_mem (List.mem_append_left _ hc)
        · obtain ⟨x, hx, rfl⟩ := List.mem_map.mp q
          obtain ⟨j, hj, hx⟩ := mem_oth.mp hx
          exact (sp_lin 1 (-(x t)) (sp_mem (List.mem_append_right _ (List.mem_of_getElem? hx))) hwL).congr fun i => by grind
      · refine sp_trans fun b hb => ?_
        rcases List.mem_append.mp hb with q | q
        · exact sp_all (fun y hy => List.mem_append_left _ hy) ((new_sp hm b).mpr (sp_cons (sp_mem q)))
        · obtain ⟨j, hj⟩ := List.getElem?_of_mem q
          by_cases e : j = k
          · subst e
            rw [hget] at hj
            injection hj with hj
            subst hj
            exact (hwS _).mp hwR
          · have := sp_mem (L := vs D' ++ (oth k L).map fun v i => v i - v t * nrm t w i) (List.mem_append_right _ (List.mem_map.mpr ⟨b, mem_oth.mpr ⟨j, e, hj⟩, rfl⟩))
            exact (sp_lin 1 (b t) this hwR).congr fun i => by grind
def redF (n : Nat) (rows : List (Vc F)) : List (Rw F) := ((List.range n).foldl red1 ([], rows)).1
theorem red_go {rows : List (Vc F)} : ∀ n, Iv rows n ((List.range n).foldl red1 ([], rows))
  | 0 => ⟨Rr.nil, fun a ha => absurd ha (by simp), fun v hv i hi => by omega, fun u => Iff.rfl⟩
  | n + 1 => by
    rw [List.range_succ, List.foldl_append]
    exact red1_ok (red_go n)
theorem red_ok {n : Nat} {rows : List (Vc F)} (h : ∀ v ∈ rows, Su n v) : Rr (redF n rows) ∧ ∀ u, Sp (vs (redF n rows)) u ↔ Sp rows u := by
  have g := red_go (rows := rows) n
  unfold redF
  generalize (List.range n).foldl red1 ([], rows) = S at *
  refine ⟨g.rr, fun u => ?_⟩
  rw [← g.sp u]
  constructor
  · exact sp_all fun b hb => List.mem_append_left _ hb
  · refine sp_trans fun b hb => ?_
    rcases List.mem_append.mp hb with q | q
    · exact sp_mem q
    · refine sp_zero' fun i => ?_
      rcases Nat.lt_or_ge i n with r | r
      · exact g.zr b q i r
      · exact su_sp h ((g.sp b).mp (sp_mem (List.mem_append_right _ q))) i r
theorem bs_red {n : Nat} {rows : List (Vc F)} (h : ∀ v ∈ rows, Su n v) : redF n rows = bs n rows := uniq (red_ok h).1 (bs_ok h).1 fun v => ((red_ok h).2 v).trans ((bs_ok h).2 v).symm
end
end Lin

/-! functionals that vanish on a span -/
namespace Lin
section
variable {F : Type} [Fld F] [DecidableEq F]
def dot : Nat → Vc F → Vc F → F
  | 0, _, _ => 0
  | n + 1, u, v => dot n u v + u n * v n
theorem dot_congr {u u' v v' : Vc F} : ∀ {n : Nat}, (∀ i, i < n → u i = u' i) → (∀ i, i < n → v i = v' i) → dot n u v = dot n u' v'
  | 0, _, _ => rfl
  | n + 1, h1, h2 => by
    show dot n u v + u n * v n = dot n u' v' + u' n * v' n
    rw [dot_congr (fun i hi => h1 i (by omega)) (fun i hi => h2 i (by omega)), h1 n (by omega), h2 n (by omega)]
theorem dot_comm (u v : Vc F) : ∀ n, dot n u v = dot n v u
  | 0 => rfl
  | n + 1 => by
    show dot n u v + u n * v n = dot n v u + v n * u n
    rw [dot_comm u v n]
    grind
theorem dot_lin (c : F) (u v w : Vc F) : ∀ n, dot n w (fun i => u i + c * v i) = dot n w u + c * dot n w v
  | 0 => by show (0 : F) = 0 + c * 0; grind
  | n + 1 => by
    show dot n w (fun i => u i + c * v i) + w n * (u n + c * v n) = dot n w u + w n * u n + c * (dot n w v + w n * v n)
    rw [dot_lin c u v w n]
    grind
theorem dot_zero {w v : Vc F} : ∀ {n}, (∀ i, i < n → w i * v i = 0) → dot n w v = 0
  | 0, _ => rfl
  | n + 1, h => by
    show dot n w v + w n * v n = 0
    rw [dot_zero fun i hi => h i (by omega), h n (by omega)]
    grind
theorem dot_single {w v : Vc F} {p : Nat} : ∀ {n}, p < n → (∀ i, i < n → i ≠ p → w i * v i = 0) → dot n w v = w p * v p
  | n + 1, hp, h => by
    show dot n w v + w n * v n = _
    by_cases q : p = n
    · subst q
      rw [dot_zero fun i hi => h i (by omega) (by omega)]
      grind
    · rw [dot_single (by omega) fun i hi => h i (by omega), h n (by omega) (fun e => q e.symm)]
      grind
/-- orthogonal to all of a list, then to its span -/
theorem dot_sp {n : Nat} {w : Vc F} {L : List (Vc F)} (h : ∀ b ∈ L, dot n w b = 0) {v : Vc F} (hv : Sp L v) : dot n w v = 0 :=
  sp_prop (P := fun v => dot n w v = 0) (dot_zero fun i _ => by grind) (fun c u v hu hv => by rw [dot_lin, hu, hv]; grind) h hv
theorem dot_sp_l {n : Nat} {w : Vc F} {L : List (Vc F)} (h : ∀ b ∈ L, dot n b w = 0) {v : Vc F} (hv : Sp L v) : dot n v w = 0 := by
  rw [dot_comm]
  exact dot_sp (fun b hb => by rw [dot_comm]; exact h b hb) hv
def unitV (t : Nat) : Vc F := fun i => if i = t then 1 else 0
def updv (f : Vc F) (p : Nat) (x : F) : Vc F := fun i => if i = p then x else f i
theorem dot_upd {f v : Vc F} {p : Nat} {x : F} : ∀ {n}, p < n → dot n (updv f p x) v = dot n f v + (x - f p) * v p
  | n + 1, h => by
    show dot n (updv f p x) v + updv f p x n * v n = dot n f v + f n * v n + (x - f p) * v p
    by_cases q : p = n
    · subst q
      have : dot p (updv f p x) v = dot p f v := dot_congr (fun i hi => by unfold updv; rw [if_neg (by omega)]) fun i _ => rfl
      rw [this]
      unfold updv
      rw [if_pos rfl]
      grind
    · rw [dot_upd (by omega)]
      have : updv f p x n = f n := by unfold updv; rw [if_neg (by omega)]
      rw [this]
      grind
/-- the functional at a free place -/
def fago (t : Nat) : List (Rw F) → Vc F → Vc F
  | [], f => f
  | a :: R, f => fago t R (updv f a.1 (-(a.2 t)))
def fa (t : Nat) (R : List (Rw F)) : Vc F := fago t R (unitV t)
theorem fago_ne {t i : Nat} : ∀ {R : List (Rw F)} {f : Vc F}, (∀ a ∈ R, a.1 ≠ i) → fago t R f i = f i
  | [], _, _ => rfl
  | a :: R, f, h => by
    show fago t R (updv f a.1 _) i = f i
    rw [fago_ne fun b hb => h b (List.mem_cons_of_mem _ hb)]
    unfold updv
    rw [if_neg fun e => h a List.mem_cons_self e.symm]
/-- the sum of the parts -/
def sg (t : Nat) (v : Vc F) : List (Rw F) → F
  | [] => 0
  | a :: R => a.2 t * v a.1 + sg t v R
theorem sg_zero {t : Nat} {v : Vc F} : ∀ {R : List (Rw F)}, (∀ a ∈ R, v a.1 = 0) → sg t v R = 0
  | [], _ => rfl
  | a :: R, h => by
    show a.2 t * v a.1 + sg t v R = 0
    rw [h a List.mem_cons_self, sg_zero fun b hb => h b (List.mem_cons_of_mem _ hb)]
    grind
theorem sg_lin {t : Nat} (c : F) (u v : Vc F) : ∀ R : List (Rw F), sg t (fun i => u i - c * v i) R = sg t u R - c * sg t v R
  | [] => by show (0 : F) = 0 - c * 0; grind
  | a :: R => by
    show a.2 t * (u a.1 - c * v a.1) + sg t (fun i => u i - c * v i) R = (a.2 t * u a.1 + sg t u R) - c * (a.2 t * v a.1 + sg t v R)
    rw [sg_lin c u v R]
    grind
theorem rest_sg (t : Nat) : ∀ {R : List (Rw F)} (v : Vc F), Dl R → rest R v t = v t - sg t v R
  | [], v, _ => by show v t = v t - 0; grind
  | a :: R, v, h => by
    show rest R (fun i => v i - v a.1 * a.2 i) t = v t - (a.2 t * v a.1 + sg t v R)
    rw [rest_sg t _ h.2.2, sg_lin, sg_zero fun b hb => (h.2.1 b hb).1]
    grind
theorem dot_fago {n t : Nat} {v : Vc F} : ∀ {R : List (Rw F)} {f : Vc F}, (∀ a ∈ R, a.1 < n ∧ f a.1 = 0) → R.Pairwise (fun a b => a.1 ≠ b.1) → dot n (fago t R f) v = dot n f v - sg t v R
  | [], f, _, _ => by show dot n f v = dot n f v - 0; grind
  | a :: R, f, h, hp => by
    obtain ⟨p1, p2⟩ := List.pairwise_cons.mp hp
    have h1 := h a List.mem_cons_self
    show dot n (fago t R (updv f a.1 (-(a.2 t)))) v = dot n f v - (a.2 t * v a.1 + sg t v R)
    rw [dot_fago (fun b hb => ⟨(h b (List.mem_cons_of_mem _ hb)).1, by
      unfold updv
      rw [if_neg fun e => p1 b hb e.symm]
      exact (h b (List.mem_cons_of_mem _ hb)).2⟩) p2, dot_upd h1.1, h1.2]
    grind
theorem dl_ne : ∀ {R : List (Rw F)}, Dl R → R.Pairwise fun a b => a.1 ≠ b.1
  | [], _ => List.Pairwise.nil
  | a :: R, h => List.pairwise_cons.mpr ⟨fun b hb e => by
      have h1 := (h.2.1 b hb).1
      rw [← e, h.1] at h1
      exact Fld.one_ne h1, dl_ne h.2.2⟩
theorem dot_fa {n t : Nat} {R : List (Rw F)} (h : Dl R) (hn : ∀ a ∈ R, a.1 < n ∧ a.1 ≠ t) (ht : t < n) (v : Vc F) : dot n (fa t R) v = rest R v t := by
  unfold fa
  rw [dot_fago (fun a ha => ⟨(hn a ha).1, by unfold unitV; rw [if_neg (hn a ha).2]⟩) (dl_ne h), rest_sg t v h, dot_single (p := t) ht fun i _ hi => by unfold unitV; rw [if_neg hi]; grind]
  unfold unitV
  rw [if_pos rfl]
  grind
theorem fa_at {t i : Nat} {R : List (Rw F)} (h : ∀ a ∈ R, a.1 ≠ i) : fa t R i = if i = t then 1 else 0 := fago_ne h
theorem fago_su {n t : Nat} : ∀ {R : List (Rw F)} {f : Vc F}, (∀ a ∈ R, a.1 < n) → Su n f → Su n (fago t R f)
  | [], f, _, hf => hf
  | a :: R, f, h, hf => by
    have hu : Su n (updv f a.1 (-(a.2 t))) := fun i hi => by
      unfold updv
      rw [if_neg (by have := h a List.mem_cons_self; omega)]
      exact hf i hi
    exact fago_su (R := R) (fun b hb => h b (List.mem_cons_of_mem _ hb)) hu
/-- the free places -/
def np (n : Nat) (R : List (Rw F)) : List Nat := (List.range n).filter fun i => decide (∀ a ∈ R, a.1 ≠ i)
def fr (n : Nat) (R : List (Rw F)) : List (Rw F) := (np n R).map fun t => (t, fa t R)
def fs (n : Nat) (R : List (Rw F)) : List (Vc F) := (np n R).map fun t => fa t R
theorem fs_vs (n : Nat) (R : List (Rw F)) : vs (fr n R) = fs n R := by
  unfold vs fr fs
  rw [List.map_map]
  rfl
theorem mem_np {n t : Nat} {R : List (Rw F)} : t ∈ np n R ↔ t < n ∧ ∀ a ∈ R, a.1 ≠ t := by
  unfold np
  rw [List.mem_filter, List.mem_range, decide_eq_true_eq]
theorem fr_dl {n : Nat} {R : List (Rw F)} : Dl (fr n R) := by
  have go : ∀ ts : List Nat, ts.Pairwise (· < ·) → (∀ t ∈ ts, ∀ a ∈ R, a.1 ≠ t) → Dl (ts.map fun t => (t, fa t R)) := fun ts => by
    induction ts with
    | nil => intro _ _; trivial
    | cons t ts ih =>
      intro h hn
      obtain ⟨h1, h2⟩ := List.pairwise_cons.mp h
      refine ⟨?_, fun b hb => ?_, ih h2 fun x hx => hn x (List.mem_cons_of_mem _ hx)⟩
      · show fa t R t = 1
        rw [fa_at (hn t List.mem_cons_self), if_pos rfl]
      · obtain ⟨x, hx, rfl⟩ := List.mem_map.mp hb
        have hlt := h1 x hx
        refine ⟨?_, ?_⟩
        · show fa t R x = 0
          rw [fa_at (hn x (List.mem_cons_of_mem _ hx)), if_neg (by omega)]
        · show fa x R t = 0
          rw [fa_at (hn t List.mem_cons_self), if_neg (by omega)]
  exact go _ ((List.pairwise_lt_range (n := n)).filter _) fun t ht => (mem_np.mp ht).2
theorem fs_su {n : Nat} {R : List (Rw F)} (hl : ∀ a ∈ R, a.1 < n) : ∀ v ∈ fs n R, Su n v := fun v hv => by
  obtain ⟨t, ht, rfl⟩ := List.mem_map.mp hv
  exact fago_su hl fun i hi => by
    unfold unitV
    rw [if_neg (by have := (mem_np.mp ht).1; omega)]
/-- the span of the functionals: all that vanish -/
theorem fs_iff {n : Nat} {R : List (Rw F)} (h : Dl R) (hl : ∀ a ∈ R, a.1 < n) (v : Vc F) : Sp (fs n R) v ↔ Su n v ∧ ∀ a ∈ R, dot n v a.2 = 0 := by
  have hfa : ∀ f ∈ fs n R, ∀ w, Sp (vs R) w → dot n f w = 0 := fun f hf w hw => by
    obtain ⟨t, ht, rfl⟩ := List.mem_map.mp hf
    obtain ⟨h1, h2⟩ := mem_np.mp ht
    rw [dot_fa h (fun a ha => ⟨hl a ha, h2 a ha⟩) h1]
    exact (rest_span h w).mp hw t
  constructor
  · intro hv
    exact ⟨su_sp (fs_su hl) hv, fun a ha => dot_sp_l (fun f hf => hfa f hf _ (sp_mem (mem_vs.mpr ⟨a, ha, rfl⟩))) hv⟩
  · rintro ⟨hs, hd⟩
    have hdiff := rest_diff (fr n R) v
    rw [fs_vs] at hdiff
    have hu0 : ∀ i, rest (fr n R) v i = 0 := fun i => by
      have husu : Su n (rest (fr n R) v) := fun i hi => by
        have := su_sp (fs_su hl) hdiff i hi
        rw [hs i hi] at this
        grind
      have hnp : ∀ t, t < n → (∀ a ∈ R, a.1 ≠ t) → rest (fr n R) v t = 0 := fun t h1 h2 => rest_piv v fr_dl (t, fa t R) (List.mem_map.mpr ⟨t, mem_np.mpr ⟨h1, h2⟩, rfl⟩)
      rcases Nat.lt_or_ge i n with q | q
      · by_cases hp : ∀ a ∈ R, a.1 ≠ i
        · exact hnp i q hp
        · have hp' : ∃ a, a ∈ R ∧ a.1 = i := by
            refine Classical.byContradiction fun hc => hp fun a ha e => hc ⟨a, ha, e⟩
          obtain ⟨a, ha, rfl⟩ := hp'
          have h1 : dot n (rest (fr n R) v) a.2 = 0 := by
            have e1 := dot_sp_l (fun f hf => hfa f hf _ (sp_mem (mem_vs.mpr ⟨a, ha, rfl⟩))) hdiff
            rw [dot_comm] at e1
            have e2 := dot_lin (-1) v (rest (fr n R) v) a.2 n
            rw [dot_comm a.2 v, hd a ha] at e2
            have e3 : (fun i => v i - rest (fr n R) v i) = fun i => v i + -1 * rest (fr n R) v i := funext fun i => by grind
            rw [e3, e2] at e1
            rw [dot_comm]
            grind
          have h2 : dot n (rest (fr n R) v) a.2 = rest (fr n R) v a.1 * a.2 a.1 := dot_single q fun i hi hne => by
            by_cases hpi : ∀ b ∈ R, b.1 ≠ i
            · rw [hnp i hi hpi]
              grind
            · have hpi' : ∃ b, b ∈ R ∧ b.1 = i := Classical.byContradiction fun hc => hpi fun b hb e => hc ⟨b, hb, e⟩
              obtain ⟨b, hb, rfl⟩ := hpi'
              have : a.2 b.1 = 0 := by
                have off : ∀ {R : List (Rw F)}, Dl R → ∀ a ∈ R, ∀ b ∈ R, a.1 ≠ b.1 → a.2 b.1 = 0 := fun {R} => by
                  induction R with
                  | nil => intro _ a ha; cases ha
                  | cons c R ih =>
                    intro h a ha b hb hab
                    rcases List.mem_cons.mp ha with e1 | ha' <;> rcases List.mem_cons.mp hb with e2 | hb'
                    · exact absurd (by rw [e1, e2]) hab
                    · rw [e1]
                      exact (h.2.1 b hb').1
                    · rw [e2]
                      exact (h.2.1 a ha').2
                    · exact ih h.2.2 a ha' b hb' hab
                exact off h a ha b hb (Ne.symm hne)
              rw [this]
              grind
          have h3 : a.2 a.1 = 1 := by
            have one : ∀ {R : List (Rw F)}, Dl R → ∀ a ∈ R, a.2 a.1 = 1 := fun {R} => by
              induction R with
              | nil => intro _ a ha; cases ha
              | cons c R ih =>
                intro h a ha
                rcases List.mem_cons.mp ha with rfl | ha
                · exact h.1
                · exact ih h.2.2 a ha
            exact one h a ha
          rw [h1, h3] at h2
          grind
      · exact husu i q
    exact hdiff.congr fun i => by rw [hu0 i]; grind
theorem filt_len {α : Type} (p : α → Bool) : ∀ L : List α, (L.filter p).length + (L.filter fun x => !p x).length = L.length
  | [] => rfl
  | a :: L => by
    have := filt_len p L
    cases h : p a <;> simp [h] <;> omega
theorem np_len {n : Nat} {R : List (Rw F)} (h : Rr R) (hl : ∀ a ∈ R, a.1 < n) : (np n R).length + R.length = n := by
  have h1 := filt_len (fun i => decide (∀ a ∈ R, a.1 ≠ i)) (List.range n)
  have h2 : ((List.range n).filter fun i => !decide (∀ a ∈ R, a.1 ≠ i)).length = R.length := by
    have e : (((List.range n).filter fun i => !decide (∀ a ∈ R, a.1 ≠ i)).map fun p => ((p, fun _ => 0) : Rw F)) = R.map fun a => ((a.1, fun _ => 0) : Rw F) := by
      refine sorted_ext ?_ ?_ fun x => ?_
      · exact List.pairwise_map.mpr ((List.pairwise_lt_range (n := n)).filter _)
      · exact List.pairwise_map.mpr h.srt
      · rw [List.mem_map, List.mem_map]
        constructor
        · rintro ⟨p, hp, rfl⟩
          rw [List.mem_filter] at hp
          have hp2 : ¬ ∀ a ∈ R, a.1 ≠ p := by simpa using hp.2
          obtain ⟨a, ha, rfl⟩ : ∃ a, a ∈ R ∧ a.1 = p := Classical.byContradiction fun hc => hp2 fun a ha e => hc ⟨a, ha, e⟩
          exact ⟨a, ha, rfl⟩
        · rintro ⟨a, ha, rfl⟩
          refine ⟨a.1, List.mem_filter.mpr ⟨List.mem_range.mpr (hl a ha), ?_⟩, rfl⟩
          simp only [Bool.not_eq_true', decide_eq_false_iff_not]
          exact fun hc => hc a ha rfl
    have := congrArg List.length e
    rwa [List.length_map, List.length_map] at this
  rw [h2, List.length_range] at h1
  exact h1
theorem fs_len {n : Nat} {R : List (Rw F)} : (fs n R).length = (np n R).length := List.length_map ..
theorem lt_of {n : Nat} {R : List (Rw F)} (h : Rr R) (hs : ∀ a ∈ R, Su n a.2) : ∀ a ∈ R, a.1 < n := fun a ha => (lead_some (h.lead hs ha)).1
theorem bs_lt {n : Nat} {rows : List (Vc F)} (h : ∀ v ∈ rows, Su n v) : ∀ a ∈ bs n rows, a.1 < n := lt_of (bs_ok h).1 (bs_su h)
theorem vs_len (R : List (Rw F)) : (vs R).length = R.length := List.length_map ..
theorem bs_len {n : Nat} {rows L : List (Vc F)} (h : ∀ v ∈ rows, Su n v) (hL : Ind L) (e : ∀ v, Sp L v ↔ Sp rows v) : (bs n rows).length = L.length := by
  rw [← vs_len]
  exact same_len (dl_ind (bs_ok h).1.dl) hL fun v => ((bs_ok h).2 v).trans (e v).symm
/-- the annihilator, reduced -/
def ann (n : Nat) (rows : List (Vc F)) : List (Rw F) := bs n (fs n (bs n rows))
theorem fs_su' {n : Nat} {rows : List (Vc F)} (h : ∀ v ∈ rows, Su n v) : ∀ v ∈ fs n (bs n rows), Su n v := fs_su (bs_lt h)
theorem ann_iff {n : Nat} {rows : List (Vc F)} (h : ∀ v ∈ rows, Su n v) (v : Vc F) : Sp (vs (ann n rows)) v ↔ Su n v ∧ ∀ r ∈ rows, dot n v r = 0 := by
  unfold ann
  rw [(bs_ok (fs_su' h)).2 v, fs_iff (bs_ok h).1.dl (bs_lt h)]
  refine and_congr_right fun _ => ⟨fun hq r hr => ?_, fun hq a ha => ?_⟩
  · exact dot_sp (L := vs (bs n rows)) (fun b hb => by obtain ⟨a, ha, rfl⟩ := mem_vs.mp hb; exact hq a ha) (((bs_ok h).2 r).mpr (sp_mem hr))
  · exact dot_sp hq (((bs_ok h).2 _).mp (sp_mem (mem_vs.mpr ⟨a, ha, rfl⟩)))
theorem ann_su {n : Nat} {rows : List (Vc F)} (h : ∀ v ∈ rows, Su n v) : ∀ v ∈ vs (ann n rows), Su n v := fun v hv => by
  obtain ⟨a, ha, rfl⟩ := mem_vs.mp hv
  exact bs_su (fs_su' h) a ha
theorem ann_len {n : Nat} {rows : List (Vc F)} (h : ∀ v ∈ rows, Su n v) : (ann n rows).length + (bs n rows).length = n := by
  have h1 : (ann n rows).length = (fs n (bs n rows)).length := by
    refine bs_len (fs_su' h) ?_ fun v => Iff.rfl
    rw [← fs_vs]
    exact dl_ind fr_dl
  rw [h1, fs_len]
  exact np_len (bs_ok h).1 (bs_lt h)
/-- twice orthogonal is in the span -/
theorem ann_ann {n : Nat} {rows : List (Vc F)} (h : ∀ v ∈ rows, Su n v) {v : Vc F} (hv : Su n v) (ho : ∀ f ∈ fs n (bs n rows), dot n v f = 0) : Sp rows v := by
  rw [← (bs_ok h).2 v, rest_span (bs_ok h).1.dl]
  intro i
  rcases Nat.lt_or_ge i n with q | q
  · by_cases hp : ∀ a ∈ bs n rows, a.1 ≠ i
    · rw [← dot_fa (bs_ok h).1.dl (fun a ha => ⟨bs_lt h a ha, hp a ha⟩) q, dot_comm]
      exact ho _ (List.mem_map.mpr ⟨i, mem_np.mpr ⟨q, hp⟩, rfl⟩)
    · obtain ⟨a, ha, rfl⟩ : ∃ a, a ∈ bs n rows ∧ a.1 = i := Classical.byContradiction fun hc => hp fun a ha e => hc ⟨a, ha, e⟩
      exact rest_piv v (bs_ok h).1.dl a ha
  · exact su_rest (bs_su h) hv i q
theorem reduced_self {n : Nat} {R : List (Rw F)} (h : Rr R) (hs : ∀ a ∈ R, Su n a.2) : bs n (vs R) = R := uniq (bs_ok fun v hv => by obtain ⟨a, ha, rfl⟩ := mem_vs.mp hv; exact hs a ha).1 h (bs_ok fun v hv => by obtain ⟨a, ha, rfl⟩ := mem_vs.mp hv; exact hs a ha).2
/-! two spans, their sum and their meet -/
section
variable {n : Nat} {A B : List (Vc F)} (hA : ∀ v ∈ A, Su n v) (hB : ∀ v ∈ B, Su n v)
def apart (n : Nat) (A B : List (Vc F)) : List (Vc F) := vs (ann n A) ++ vs (ann n B)
include hA hB
theorem both_su : ∀ v ∈ A ++ B, Su n v := fun v hv => by
  rcases List.mem_append.mp hv with q | q
  · exact hA v q
  · exact hB v q
theorem apart_su : ∀ v ∈ apart n A B, Su n v := fun v hv => by
  rcases List.mem_append.mp hv with q | q
  · exact ann_su hA v q
  · exact ann_su hB v q
theorem shared_iff (v : Vc F) : Sp (vs (ann n (apart n A B))) v ↔ Su n v ∧ Sp A v ∧ Sp B v := by
  rw [ann_iff (apart_su hA hB)]
  refine and_congr_right fun hv => ⟨fun h => ⟨ann_ann hA hv fun f hf => ?_, ann_ann hB hv fun f hf => ?_⟩, fun ⟨h1, h2⟩ r hr => ?_⟩
  · refine dot_sp (L := vs (ann n A)) (fun b hb => h b (List.mem_append_left _ hb)) ?_
    exact ((bs_ok (fs_su' hA)).2 f).mpr (sp_mem hf)
  · refine dot_sp (L := vs (ann n B)) (fun b hb => h b (List.mem_append_right _ hb)) ?_
    exact ((bs_ok (fs_su' hB)).2 f).mpr (sp_mem hf)
  · rw [dot_comm]
    rcases List.mem_append.mp hr with q | q
    · exact dot_sp ((ann_iff hA r).mp (sp_mem q)).2 h1
    · exact dot_sp ((ann_iff hB r).mp (sp_mem q)).2 h2
theorem shared_len : (bs n A).length + (bs n B).length = (bs n (A ++ B)).length + (ann n (apart n A B)).length := by
  have h1 := ann_len hA
  have h2 := ann_len hB
  have h3 := ann_len (both_su hA hB)
  have h4 := ann_len (apart_su hA hB)
  have h5 := grassmann (U := vs (ann n A)) (W := vs (ann n B)) (S := vs (bs n (apart n A B))) (K := vs (ann n (A ++ B)))
    (dl_ind (bs_ok (fs_su' hA)).1.dl) (dl_ind (bs_ok (fs_su' hB)).1.dl) (dl_ind (bs_ok (apart_su hA hB)).1.dl) (dl_ind (bs_ok (fs_su' (both_su hA hB))).1.dl) (fun v => (bs_ok (apart_su hA hB)).2 v) (fun v => by
      rw [ann_iff (both_su hA hB), ann_iff hA, ann_iff hB]
      constructor
      · rintro ⟨hv, h⟩
        exact ⟨⟨hv, fun r hr => h r (List.mem_append_left _ hr)⟩, hv, fun r hr => h r (List.mem_append_right _ hr)⟩
      · rintro ⟨⟨hv, h⟩, _, h'⟩
        refine ⟨hv, fun r hr => ?_⟩
        rcases List.mem_append.mp hr with q | q
        · exact h r q
        · exact h' r q)
  rw [vs_len, vs_len, vs_len, vs_len] at h5
  omega
end
end
end Lin

/-! the field of 65521 words -/
namespace Mp
open PySem L2 Lin Fp
abbrev Fq := Fin 65521
def toF (z : Int) : Fq := ⟨(z % 65521).toNat, by omega⟩
def iv (x : Fq) : Int := (x.val : Int)
theorem iv_rng (x : Fq) : 0 ≤ iv x ∧ iv x < 65521 := by
  have := x.isLt
  unfold iv
  omega
theorem iv_inj {x y : Fq} (h : iv x = iv y) : x = y := Fin.ext (by unfold iv at h; omega)
theorem iv_toF (z : Int) : iv (toF z) = z % 65521 := by
  unfold iv toF
  simp only
  omega
theorem iv_toF' {z : Int} (h : 0 ≤ z ∧ z < 65521) : iv (toF z) = z := by
  rw [iv_toF]
  omega
theorem toF_iv (x : Fq) : toF (iv x) = x := iv_inj (by rw [iv_toF]; have := iv_rng x; omega)
theorem iv_mul (x y : Fq) : iv (x * y) = iv x * iv y % 65521 := by
  unfold iv
  rw [Fin.val_mul]
  simp
theorem iv_add (x y : Fq) : iv (x + y) = (iv x + iv y) % 65521 := by
  unfold iv
  rw [Fin.val_add]
  simp
theorem iv_sub (x y : Fq) : iv (x - y) = (iv x - iv y) % 65521 := by
  have h1 := x.isLt
  have h2 := y.isLt
  unfold iv
  rw [Fin.sub_def]
  simp only
  omega
theorem iv_zero : iv 0 = 0 := rfl
theorem iv_one : iv 1 = 1 := rfl
theorem iv_neg (x : Fq) : iv (-x) = (0 - iv x) % 65521 := by
  have : -x = 0 - x := by grind
  rw [this, iv_sub, iv_zero]
theorem iv_eq0 {x : Fq} : iv x = 0 ↔ x = 0 := ⟨fun h => iv_inj (by rw [h, iv_zero]), fun h => by rw [h, iv_zero]⟩
def invF (x : Fq) : Fq := toF (iv x ^ 65519)
theorem iv_inv (x : Fq) : iv (invF x) = iv x ^ 65519 % 65521 := iv_toF _
theorem mul_invF (x : Fq) (h : x ≠ 0) : x * invF x = 1 := by
  refine iv_inj ?_
  rw [iv_mul, iv_inv, iv_one]
  have hx : ¬ p ∣ iv x := fun hd => by
    have := iv_rng x
    have h0 : iv x ≠ 0 := fun e => h (iv_eq0.mp e)
    have : (65521 : Int) ≤ iv x := Int.le_of_dvd (by omega) hd
    omega
  have h1 := fermat hx
  have h2 : C (iv x * (iv x ^ 65519 % 65521)) 1 := ((C.refl (iv x)).mul (C.mod _)).trans (by
    have pw : ∀ (a : Int) (n : Nat), a * a ^ n = a ^ (n + 1) := fun a n => by rw [Int.pow_succ, Int.mul_comm]
    rw [pw (iv x) 65519]
    exact h1)
  have := h2.eq
  omega
instance fldFq : Fld Fq where
  inv := invF
  mul_inv := mul_invF
  one_ne := by decide
theorem inv_def (x : Fq) : Fld.inv x = invF x := rfl
def eI (x : Fq) : D := .int (iv x)
def its (n : Nat) (v : Vc Fq) : List D := (List.range n).map fun i => eI (v i)
abbrev rowT (n : Nat) (v : Vc Fq) : D := .tup (its n v)
abbrev rowL (n : Nat) (v : Vc Fq) : D := .lst (its n v)
theorem its_len (n : Nat) (v : Vc Fq) : (its n v).length = n := by unfold its; simp
theorem its_at {n i : Nat} (v : Vc Fq) (h : i < n) : (its n v)[i]? = some (eI (v i)) := by
  unfold its
  rw [List.getElem?_map, List.getElem?_range h]
  rfl
theorem its_atI {n i : Nat} (v : Vc Fq) (h : i < n) : atI (its n v) (i : Int) = some (.int (iv (v i))) := atI_get (its_at v h)
theorem its_congr {n : Nat} {u v : Vc Fq} (h : ∀ i, i < n → u i = v i) : its n u = its n v := by
  unfold its
  refine List.map_congr_left fun i hi => ?_
  rw [h i (List.mem_range.mp hi)]
/-- a list of words as a vector -/
def vc (xs : List Int) : Vc Fq := fun i => toF (xs.getD i 0)
theorem vc_su {n : Nat} {xs : List Int} (h : xs.length = n) : Su n (vc xs) := fun i hi => by
  unfold vc
  rw [List.getD_eq_getElem?_getD, List.getElem?_eq_none (by omega)]
  rfl
theorem vc_its {n : Nat} {xs : List Int} (h : xs.length = n) (hr : ∀ x ∈ xs, 0 ≤ x ∧ x < 65521) : xs.map .int = its n (vc xs) := by
  refine List.ext_getElem? fun i => ?_
  rcases Nat.lt_or_ge i n with q | q
  · rw [its_at _ q, List.getElem?_map, List.getElem?_eq_getElem (by omega)]
    unfold eI vc
    rw [iv_toF' (getD_rng hr (by omega))]
    simp [h, q]
  · rw [List.getElem?_eq_none (by rw [List.length_map]; omega), List.getElem?_eq_none (by rw [its_len]; exact q)]
theorem its_ints (n : Nat) (v : Vc Fq) : its n v = ((List.range n).map fun i => iv (v i)).map .int := by
  unfold its
  rw [List.map_map]
  rfl
theorem lc_its {n j : Nat} {v : Vc Fq} (w : Vc Fq) {ρ : List Slot} {η : List AO} {elt : M D} {Φ : Nat → Fn} (hj : freeS ρ [j] = true) (hn : n ≤ 100000)
    (h : ∀ i, i < n → elt (ρ.set j (.val (.int (iv (v i))))) η = .ok (.int (iv (w i))) (ρ.set j (.val (.int (iv (v i))))) η) : lcAll (.nm j) (its n v) (evCs Φ []) elt ρ η = .ok (.own (.lst (its n w))) ρ η :=
  lc_nm (f := fun i => eI (v i)) (fun i => eI (w i)) hj (by rw [List.length_range, sizeLine_val]; omega) fun i hi => h i (List.mem_range.mp hi)
/-- entry by entry, over range(n) -/
theorem lc_rng {n j : Nat} (w : Vc Fq) {ρ : List Slot} {η : List AO} {elt : M D} {Φ : Nat → Fn} (hj : freeS ρ [j] = true) (hn : n ≤ 100000)
    (h : ∀ i : Nat, i < n → elt (ρ.set j (.val (.int (i : Int)))) η = .ok (.int (iv (w i))) (ρ.set j (.val (.int (i : Int)))) η) : lcAll (.nm j) ((List.range n).map fun (k : Nat) => D.int (k : Int)) (evCs Φ []) elt ρ η = .ok (.own (.lst (its n w))) ρ η :=
  lc_nm (f := fun (k : Nat) => D.int (k : Int)) (fun i => eI (w i)) hj (by rw [List.length_range, sizeLine_val]; omega) fun i hi => h i (List.mem_range.mp hi)
theorem its_set {n p : Nat} {f : Vc Fq} {x : Fq} : (its n f).set p (.int (iv x)) = its n (updv f p x) := by
  refine List.ext_getElem? fun i => ?_
  rw [List.getElem?_set]
  rcases Nat.lt_or_ge i n with q | q
  · rw [its_at _ q, its_at _ q, its_len]
    unfold updv
    by_cases e : p = i
    · subst e
      simp [q, eI]
    · rw [if_neg e, if_neg fun h => e h.symm]
  · rw [List.getElem?_eq_none (by rw [its_len]; exact q), List.getElem?_eq_none (by rw [its_len]; exact q), its_len]
    by_cases e : p = i
    · rw [if_pos e, if_neg (by omega)]
    · rw [if_neg e]
theorem act_its {n p : Nat} {f : Vc Fq} {x : Fq} (h : p < n) : setAct (.lst (its n f)) (.int (p : Int)) (.int (iv x)) = some (.lst (its n (updv f p x))) := by
  unfold setAct L2.ixN
  simp only [its_len]
  rw [if_pos (by omega), if_pos (by omega)]
  simp only [Int.toNat_natCast, its_set]
end Mp

/-! sums of rows by coefficients -/
namespace Lin
section
variable {F : Type} [Fld F] [DecidableEq F]
def comb : Nat → (Nat → Vc F) → Vc F → Vc F
  | 0, _, _ => fun _ => 0
  | c + 1, r, p => fun i => comb c r p i + p c * r c i
theorem comb_congr {r r' : Nat → Vc F} {p p' : Vc F} : ∀ {c : Nat}, (∀ j, j < c → r j = r' j ∧ p j = p' j) → comb c r p = comb c r' p'
  | 0, _ => rfl
  | c + 1, h => by
    show (fun i => comb c r p i + p c * r c i) = fun i => comb c r' p' i + p' c * r' c i
    rw [comb_congr fun j hj => h j (by omega), (h c (by omega)).1, (h c (by omega)).2]
theorem comb_lin (r : Nat → Vc F) (k : F) (p q : Vc F) (i : Nat) : ∀ c, comb c r (fun j => p j + k * q j) i = comb c r p i + k * comb c r q i
  | 0 => by show (0 : F) = 0 + k * 0; grind
  | c + 1 => by
    show comb c r (fun j => p j + k * q j) i + (p c + k * q c) * r c i = comb c r p i + p c * r c i + k * (comb c r q i + q c * r c i)
    rw [comb_lin r k p q i c]
    grind
theorem comb_zero {r : Nat → Vc F} {p : Vc F} {i : Nat} : ∀ {c}, (∀ j, j < c → p j = 0) → comb c r p i = 0
  | 0, _ => rfl
  | c + 1, h => by
    show comb c r p i + p c * r c i = 0
    rw [comb_zero fun j hj => h j (by omega), h c (by omega)]
    grind
theorem comb_neg (r : Nat → Vc F) (p : Vc F) (c i : Nat) : comb c r (fun j => - p j) i = - comb c r p i := by
  have h := comb_lin r (-1) (fun _ => 0) p i c
  have e : (fun j => (0 : F) + -1 * p j) = fun j => - p j := funext fun j => by grind
  rw [e, comb_zero (p := fun _ => 0) fun j _ => rfl] at h
  rw [h]
  grind
theorem comb_unit {r : Nat → Vc F} {k : Nat} (i : Nat) : ∀ {c}, k < c → comb c r (unitV k) i = r k i
  | c + 1, h => by
    show comb c r (unitV k) i + unitV k c * r c i = r k i
    by_cases q : k = c
    · subst q
      rw [comb_zero fun j hj => by unfold unitV; rw [if_neg (by omega)]]
      unfold unitV
      rw [if_pos rfl]
      grind
    · rw [comb_unit i (by omega)]
      unfold unitV
      rw [if_neg fun e => q e.symm]
      grind
/-- the coefficients behind place k play no part -/
theorem comb_cut {r : Nat → Vc F} {p : Vc F} {i k : Nat} : ∀ {c}, k ≤ c → (∀ j, k ≤ j → j < c → p j = 0) → comb c r p i = comb k r p i
  | 0, hk, _ => by
    have : k = 0 := by omega
    subst this
    rfl
  | c + 1, hk, h => by
    by_cases q : k = c + 1
    · rw [q]
    · show comb c r p i + p c * r c i = _
      rw [comb_cut (by omega) fun j h1 h2 => h j h1 (by omega), h c (by omega) (by omega)]
      grind
/-- the first c rows -/
def rws (c : Nat) (r : Nat → Vc F) : List (Vc F) := (List.range c).map r
theorem mem_rws {c : Nat} {r : Nat → Vc F} {v : Vc F} : v ∈ rws c r ↔ ∃ j, j < c ∧ r j = v := by
  unfold rws
  rw [List.mem_map]
  simp only [List.mem_range]
theorem comb_sp (r : Nat → Vc F) (p : Vc F) : ∀ c, Sp (rws c r) (comb c r p)
  | 0 => sp_zero _
  | c + 1 => by
    have h1 : Sp (rws (c + 1) r) (comb c r p) := sp_all (fun b hb => by
      obtain ⟨j, hj, rfl⟩ := mem_rws.mp hb
      exact mem_rws.mpr ⟨j, by omega, rfl⟩) (comb_sp r p c)
    have h2 : Sp (rws (c + 1) r) (r c) := sp_mem (mem_rws.mpr ⟨c, by omega, rfl⟩)
    exact (sp_lin 1 (p c) h1 h2).congr fun i => by
      show comb c r p i + p c * r c i = _
      grind
theorem sp_comb {c : Nat} {r : Nat → Vc F} {v : Vc F} (h : Sp (rws c r) v) : ∃ p, v = comb c r p :=
  sp_prop (P := fun v => ∃ p, v = comb c r p) ⟨fun _ => 0, funext fun i => (comb_zero fun _ _ => rfl).symm⟩ (fun k u v ⟨p, hp⟩ ⟨q, hq⟩ => ⟨fun j => p j + k * q j, funext fun i => by rw [comb_lin, hp, hq]⟩) (fun b hb => by
    obtain ⟨j, hj, rfl⟩ := mem_rws.mp hb
    exact ⟨unitV j, funext fun i => (comb_unit i hj).symm⟩) h
/-- row j is a sum of those ahead -/
def Dep (r : Nat → Vc F) (j : Nat) : Prop := Sp (rws j r) (r j)
theorem uniq_coef {r : Nat → Vc F} {d : Vc F} : ∀ {c}, (∀ j, j < c → d j ≠ 0 → ¬ Dep r j) → (∀ i, comb c r d i = 0) → ∀ j, j < c → d j = 0
  | c + 1, h, hz, j, hj => by
    have hdc : d c = 0 := by
      refine Classical.byContradiction fun hne => h c (by omega) hne ?_
      have hq := Fld.mul_inv _ hne
      exact (sp_mul (-(Fld.inv (d c))) (comb_sp r d c)).congr fun i => by
        have h1 : comb c r d i + d c * r c i = 0 := hz i
        grind
    by_cases q : j = c
    · rw [q]; exact hdc
    · refine uniq_coef (c := c) (r := r) (d := d) (fun j hj => h j (by omega)) (fun i => ?_) j (by omega)
      have h1 : comb c r d i + d c * r c i = 0 := hz i
      rw [hdc] at h1
      grind
/-- coefficients on independent rows are one's own -/
theorem coef_eq {r : Nat → Vc F} {p q : Vc F} {c : Nat} (hp : ∀ j, j < c → p j ≠ 0 → ¬ Dep r j) (hq : ∀ j, j < c → q j ≠ 0 → ¬ Dep r j) (h : ∀ i, comb c r p i = comb c r q i) : ∀ j, j < c → p j = q j := fun j hj => by
  have := uniq_coef (r := r) (d := fun j => p j + -1 * q j) (c := c) (fun j hj hne => by
    by_cases h1 : p j = 0
    · refine hq j hj fun h2 => hne ?_
      rw [h1, h2]
      grind
    · exact hp j hj h1) (fun i => by rw [comb_lin, h i]; grind) j hj
  grind
/-! ### triangular rows -/
def Tr : List (Rw F) → Prop
  | [] => True
  | a :: R => a.2 a.1 = 1 ∧ (∀ b ∈ R, b.2 a.1 = 0) ∧ Tr R
theorem tr_at {a : Rw F} {R : List (Rw F)} (h : Tr (a :: R)) {w : Vc F} (hw : Sp (vs R) w) : w a.1 = 0 := sp_at (fun b hb => by
  obtain ⟨x, hx, rfl⟩ := mem_vs.mp hb
  exact h.2.1 x hx) hw
theorem tr_rest : ∀ {R : List (Rw F)} (v : Vc F), Tr R → ∀ a ∈ R, rest R v a.1 = 0
  | a :: R, v, h, b, hb => by
    rcases List.mem_cons.mp hb with rfl | hb
    · have h1 := tr_at h (rest_diff R (fun i => v i - v b.1 * b.2 i))
      have h2 := h.1
      show rest R (fun i => v i - v b.1 * b.2 i) b.1 = 0
      rw [h2] at h1
      grind
    · exact tr_rest _ h.2.2 b hb
theorem tr_zero : ∀ {R : List (Rw F)} {w : Vc F}, Tr R → Sp (vs R) w → (∀ a ∈ R, w a.1 = 0) → ∀ i, w i = 0
  | [], w, _, hw, _ => hw
  | a :: R, w, h, ⟨c, hc⟩, hz => by
    have h1 := tr_at h hc
    have h2 := h.1
    have h3 := hz a List.mem_cons_self
    have hc0 : c = 0 := by
      simp only at h1
      rw [h2, h3] at h1
      grind
    subst hc0
    exact tr_zero h.2.2 (hc.congr fun i => by grind) fun b hb => hz b (List.mem_cons_of_mem _ hb)
theorem tr_span {R : List (Rw F)} (h : Tr R) (v : Vc F) : Sp (vs R) v ↔ ∀ i, rest R v i = 0 := by
  constructor
  · intro hv
    refine tr_zero h ?_ (tr_rest v h)
    exact (sp_sub hv (rest_diff R v)).congr fun i => by grind
  · intro hz
    exact (rest_diff R v).congr fun i => by rw [hz i]; grind
theorem tr_snoc {x : Rw F} : ∀ {R : List (Rw F)}, Tr R → x.2 x.1 = 1 → (∀ a ∈ R, x.2 a.1 = 0) → Tr (R ++ [x])
  | [], _, h1, _ => ⟨h1, fun b hb => absurd hb (by simp), trivial⟩
  | a :: R, h, h1, h2 => ⟨h.1, fun b hb => by
      rcases List.mem_append.mp hb with q | q
      · exact h.2.1 b q
      · rw [List.mem_singleton] at q
        rw [q]
        exact h2 a List.mem_cons_self, tr_snoc h.2.2 h1 fun b hb => h2 b (List.mem_cons_of_mem _ hb)⟩
/-! ### rows with their shares -/
abbrev Tk (F : Type) := Rw F × Vc F
def clp : List (Tk F) → Vc F × Vc F → Vc F × Vc F
  | [], s => s
  | a :: T, s => clp T (fun i => s.1 i - s.1 a.1.1 * a.1.2 i, fun i => s.2 i - s.1 a.1.1 * a.2 i)
theorem clp_fst : ∀ (T : List (Tk F)) (s : Vc F × Vc F), (clp T s).1 = rest (T.map (·.1)) s.1
  | [], _ => rfl
  | a :: T, s => clp_fst T _
theorem clp_comb {c : Nat} {r : Nat → Vc F} : ∀ {T : List (Tk F)} (s : Vc F × Vc F), (∀ a ∈ T, a.1.2 = comb c r a.2) → ∀ i, (clp T s).1 i - s.1 i = comb c r (fun j => (clp T s).2 j - s.2 j) i
  | [], s, _, i => by
    show s.1 i - s.1 i = comb c r (fun j => s.2 j - s.2 j) i
    rw [comb_zero fun j _ => by grind]
    grind
  | a :: T, s, h, i => by
    have ih := clp_comb (T := T) (fun i => s.1 i - s.1 a.1.1 * a.1.2 i, fun i => s.2 i - s.1 a.1.1 * a.2 i) (fun b hb => h b (List.mem_cons_of_mem _ hb)) i
    show (clp T (fun i => s.1 i - s.1 a.1.1 * a.1.2 i, fun i => s.2 i - s.1 a.1.1 * a.2 i)).1 i - s.1 i = comb c r (fun j => (clp T (fun i => s.1 i - s.1 a.1.1 * a.1.2 i, fun i => s.2 i - s.1 a.1.1 * a.2 i)).2 j - s.2 j) i
    generalize clp T (fun i => s.1 i - s.1 a.1.1 * a.1.2 i, fun i => s.2 i - s.1 a.1.1 * a.2 i) = z at *
    have ha := h a List.mem_cons_self
    have e : (fun j => z.2 j - s.2 j) = fun j => (z.2 j - (s.2 j - s.1 a.1.1 * a.2 j)) + (-(s.1 a.1.1)) * a.2 j := funext fun j => by grind
    rw [e, comb_lin]
    simp only at ih
    rw [← ih, ← ha]
    grind
theorem clp_sup {j : Nat} : ∀ {T : List (Tk F)} (s : Vc F × Vc F), (∀ a ∈ T, a.2 j = 0) → (clp T s).2 j = s.2 j
  | [], _, _ => rfl
  | a :: T, s, h => by
    show (clp T (fun i => s.1 i - s.1 a.1.1 * a.1.2 i, fun i => s.2 i - s.1 a.1.1 * a.2 i)).2 j = s.2 j
    rw [clp_sup _ fun b hb => h b (List.mem_cons_of_mem _ hb)]
    simp only
    rw [h a List.mem_cons_self]
    grind
/-- the tracked rows behind k of c rows -/
structure Tkd (n c : Nat) (r : Nat → Vc F) (k : Nat) (T : List (Tk F)) : Prop where
  tr : Tr (T.map (·.1))
  cb : ∀ a ∈ T, a.1.2 = comb c r a.2
  sp : ∀ v, Sp (vs (T.map (·.1))) v ↔ Sp (rws k r) v
  su : ∀ a ∈ T, ∀ j, a.2 j ≠ 0 → j < k ∧ ¬ Dep r j
  ld : ∀ a ∈ T, lead n a.1.2 = some a.1.1
def tks (n : Nat) (T : List (Tk F)) (k : Nat) (rk : Vc F) : List (Tk F) := match lead n (clp T (rk, unitV k)).1 with
  | none => T
  | some t => T ++ [((t, fun i => (clp T (rk, unitV k)).1 i * Fld.inv ((clp T (rk, unitV k)).1 t)), fun i => (clp T (rk, unitV k)).2 i * Fld.inv ((clp T (rk, unitV k)).1 t))]
theorem tks_ok {n c k : Nat} {r : Nat → Vc F} {T : List (Tk F)} (h : Tkd n c r k T) (hk : k < c) (hs : ∀ j, j < c → Su n (r j)) : Tkd n c r (k + 1) (tks n T k (r k)) := by
  have hsT : ∀ b ∈ vs (T.map (·.1)), Su n b := fun b hb => su_sp (L := rws k r) (fun x hx => by
    obtain ⟨j, hj, rfl⟩ := mem_rws.mp hx
    exact hs j (by omega)) ((h.sp b).mp (sp_mem hb))
  have h1 := clp_fst T (r k, unitV k)
  have h2 := clp_comb (c := c) (r := r) (r k, unitV k) h.cb
  have h3 : ∀ j, (clp T (r k, unitV k)).2 j ≠ 0 → j = k ∨ (j < k ∧ ¬ Dep r j) := fun j hj => by
    by_cases q : j = k
    · exact .inl q
    · by_cases ha : ∀ a ∈ T, a.2 j = 0
      · rw [clp_sup _ ha] at hj
        have hu : (unitV k : Vc F) j = 0 := by unfold unitV; rw [if_neg q]
        exact absurd hu hj
      · obtain ⟨a, ha, hne⟩ : ∃ a, a ∈ T ∧ a.2 j ≠ 0 := Classical.byContradiction fun hc => ha fun a ha => Classical.byContradiction fun hn => hc ⟨a, ha, hn⟩
        exact .inr (h.su a ha j hne)
  have hsub : ∀ {v}, Sp (rws k r) v → Sp (rws (k + 1) r) v := fun hv => sp_all (fun b hb => by
    obtain ⟨j, hj, rfl⟩ := mem_rws.mp hb
    exact mem_rws.mpr ⟨j, by omega, rfl⟩) hv
  simp only at h2
  unfold tks
  cases hl : lead n (clp T (r k, unitV k)).1 with
  | none =>
    simp only
    rw [h1] at hl
    have hr0 : ∀ i, rest (T.map (·.1)) (r k) i = 0 := lead_zero (fun i hi => by
      have h4 := su_sp hsT (rest_diff (T.map (·.1)) (r k)) i hi
      rw [hs k hk i hi] at h4
      grind) hl
    have hin := (tr_span h.tr (r k)).mpr hr0
    refine ⟨h.tr, h.cb, fun v => ⟨fun hv => hsub ((h.sp v).mp hv), fun hv => ?_⟩, fun a ha j hj => ⟨by have := (h.su a ha j hj).1; omega, (h.su a ha j hj).2⟩, h.ld⟩
    refine sp_trans (fun b hb => ?_) hv
    obtain ⟨j, hj, rfl⟩ := mem_rws.mp hb
    by_cases q : j = k
    · rw [q]; exact hin
    · exact (h.sp _).mpr (sp_mem (mem_rws.mpr ⟨j, by omega, rfl⟩))
  | some t =>
    simp only
    obtain ⟨l1, l2, l3⟩ := lead_some hl
    have hq := Fld.mul_inv _ l2
    have hrp : ∀ a ∈ T.map (·.1), (clp T (r k, unitV k)).1 a.1 = 0 := fun a ha => by rw [h1]; exact tr_rest _ h.tr a ha
    have hnd : ¬ Dep r k := fun hd => by
      have := (tr_span h.tr (r k)).mp ((h.sp _).mpr hd) t
      rw [h1] at l2
      exact l2 this
    have hdiff := rest_diff (T.map (·.1)) (r k)
    rw [← h1] at hdiff
    generalize clp T (r k, unitV k) = z at *
    have hcz : z.1 = comb c r z.2 := funext fun i => by
      have e := h2 i
      have e2 : (fun j => z.2 j - unitV k j) = fun j => z.2 j + -1 * unitV k j := funext fun j => by grind
      rw [e2, comb_lin, comb_unit i hk] at e
      grind
    refine ⟨?_, fun a ha => ?_, fun v => ?_, fun a ha j hj => ?_, fun a ha => ?_⟩
    · rw [List.map_append]
      refine tr_snoc h.tr ?_ fun a ha => ?_
      · exact hq
      · show z.1 a.1 * _ = 0
        rw [hrp a ha]
        grind
    · rcases List.mem_append.mp ha with q | q
      · exact h.cb a q
      · rw [List.mem_singleton] at q
        subst q
        funext i
        show z.1 i * Fld.inv (z.1 t) = comb c r (fun i => z.2 i * Fld.inv (z.1 t)) i
        have e := comb_lin r (Fld.inv (z.1 t)) (fun _ => 0) z.2 i c
        have e2 : (fun j => (0 : F) + Fld.inv (z.1 t) * z.2 j) = fun j => z.2 j * Fld.inv (z.1 t) := funext fun j => by grind
        rw [e2, comb_zero (p := fun _ => 0) fun j _ => rfl, ← hcz] at e
        rw [e]
        grind
    · rw [List.map_append]
      unfold vs
      rw [List.map_append]
      have hz1 : Sp (rws (k + 1) r) z.1 := by
        have e1 := hsub ((h.sp _).mp hdiff)
        have e2 : Sp (rws (k + 1) r) (r k) := sp_mem (mem_rws.mpr ⟨k, by omega, rfl⟩)
        exact (sp_sub e2 e1).congr fun i => by grind
      constructor
      · refine sp_trans fun b hb => ?_
        rcases List.mem_append.mp hb with q | q
        · exact hsub ((h.sp b).mp (sp_mem q))
        · simp only [List.map_cons, List.map_nil, List.mem_singleton] at q
          rw [q]
          exact (sp_mul (Fld.inv (z.1 t)) hz1).congr fun i => by grind
      · refine sp_trans fun b hb => ?_
        obtain ⟨j, hj, rfl⟩ := mem_rws.mp hb
        have hT : ∀ {x}, Sp (vs (T.map (·.1))) x → Sp ((T.map (·.1)).map (·.2) ++ ([((t, fun i => z.1 i * Fld.inv (z.1 t)), fun i => z.2 i * Fld.inv (z.1 t))].map (·.1)).map (·.2)) x := fun hx => sp_all (fun y hy => List.mem_append_left _ hy) hx
        by_cases q : j = k
        · subst q
          have e1 := hT hdiff
          have e2 : Sp ((T.map (·.1)).map (·.2) ++ ([((t, fun i => z.1 i * Fld.inv (z.1 t)), fun i => z.2 i * Fld.inv (z.1 t))].map (·.1)).map (·.2)) (fun i => z.1 i * Fld.inv (z.1 t)) := sp_mem (List.mem_append_right _ (by simp))
          exact (sp_lin 1 (z.1 t) e1 e2).congr fun i => by grind
        · exact hT ((h.sp _).mpr (sp_mem (mem_rws.mpr ⟨j, by omega, rfl⟩)))
    · rcases List.mem_append.mp ha with q | q
      · exact ⟨by have := (h.su a q j hj).1; omega, (h.su a q j hj).2⟩
      · rw [List.mem_singleton] at q
        subst q
        have hne : z.2 j ≠ 0 := fun e => hj (by show z.2 j * _ = 0; rw [e]; grind)
        rcases h3 j hne with rfl | ⟨g1, g2⟩
        · exact ⟨by omega, hnd⟩
        · exact ⟨by omega, g2⟩
    · rcases List.mem_append.mp ha with q | q
      · exact h.ld a q
      · rw [List.mem_singleton] at q
        subst q
        refine lead_eq l1 ?_ fun i hi => ?_
        · show z.1 t * Fld.inv (z.1 t) ≠ 0
          rw [hq]
          exact Fld.one_ne
        · show z.1 i * _ = 0
          rw [l3 i hi]
          grind
/-- the program's coefficients -/
def allTk (n c : Nat) (r : Nat → Vc F) (k : Nat) : List (Tk F) := (List.range k).foldl (fun T j => tks n T j (r j)) []
theorem allTk_succ {n c : Nat} {r : Nat → Vc F} {k : Nat} : allTk n c r (k + 1) = tks n (allTk n c r k) k (r k) := by
  unfold allTk
  rw [List.range_succ, List.foldl_append]
  rfl
theorem allTk_ok {n c : Nat} {r : Nat → Vc F} (hs : ∀ j, j < c → Su n (r j)) : ∀ k, k ≤ c → Tkd n c r k (allTk n c r k)
  | 0, _ => ⟨trivial, fun a ha => absurd ha (by simp [allTk]), fun v => Iff.rfl, fun a ha => absurd ha (by simp [allTk]), fun a ha => absurd ha (by simp [allTk])⟩
  | k + 1, hk => by
    rw [allTk_succ]
    exact tks_ok (allTk_ok hs k (by omega)) (by omega) hs
def cfs (n c : Nat) (r : Nat → Vc F) (v : Vc F) : Vc F := fun j => - (clp (allTk n c r c) (v, fun _ => 0)).2 j
theorem cfs_ok {n c : Nat} {r : Nat → Vc F} (hs : ∀ j, j < c → Su n (r j)) {v : Vc F} (hv : Sp (rws c r) v) : comb c r (cfs n c r v) = v ∧ (∀ j, cfs n c r v j ≠ 0 → j < c ∧ ¬ Dep r j) := by
  have h := allTk_ok hs c (Nat.le_refl _)
  refine ⟨funext fun i => ?_, fun j hj => ?_⟩
  · have h2 := clp_comb (c := c) (r := r) (v, fun _ => 0) h.cb i
    have h1 := clp_fst (allTk n c r c) (v, fun _ => 0)
    have h3 := (tr_span h.tr v).mp ((h.sp v).mpr hv) i
    unfold cfs
    rw [comb_neg]
    simp only at h2 h1
    rw [h1, h3] at h2
    have e : (fun j => (clp (allTk n c r c) (v, fun _ => 0)).2 j - 0) = (clp (allTk n c r c) (v, fun _ => 0)).2 := funext fun j => by grind
    rw [e] at h2
    rw [← h2]
    grind
  · by_cases ha : ∀ a ∈ allTk n c r c, a.2 j = 0
    · refine absurd ?_ hj
      unfold cfs
      rw [clp_sup _ ha]
      grind
    · obtain ⟨a, ha, hne⟩ : ∃ a, a ∈ allTk n c r c ∧ a.2 j ≠ 0 := Classical.byContradiction fun hc => ha fun a ha => Classical.byContradiction fun hn => hc ⟨a, ha, hn⟩
      exact h.su a ha j hne
/-! ### the law's columns -/
/-- the rows with one more -/
def ext (c : Nat) (r : Nat → Vc F) (v : Vc F) : Nat → Vc F := fun j => if j = c then v else r j
def col (c : Nat) (r : Nat → Vc F) (t : Nat) : Vc F := fun j => if j < c then r j t else 0
def cols (n c : Nat) (r : Nat → Vc F) : List (Vc F) := (List.range n).map (col c r)
theorem cols_su {n c : Nat} {r : Nat → Vc F} : ∀ v ∈ cols n c r, Su c v := fun v hv => by
  obtain ⟨t, ht, rfl⟩ := List.mem_map.mp hv
  intro j hj
  unfold col
  rw [if_neg (by omega)]
theorem dot_col {r : Nat → Vc F} {x : Vc F} {t c : Nat} : ∀ {k}, k ≤ c → dot k x (col c r t) = comb k r x t
  | 0, _ => rfl
  | k + 1, h => by
    show dot k x (col c r t) + x k * col c r t k = comb k r x t + x k * r k t
    rw [dot_col (by omega)]
    unfold col
    rw [if_pos (by omega)]
theorem piv_ndep {n c : Nat} {r : Nat → Vc F} {a : Rw F} (ha : a ∈ bs c (cols n c r)) (hs : ∀ j, j < c → Su n (r j)) : a.1 < c ∧ ¬ Dep r a.1 := by
  have hsu : ∀ v ∈ cols n c r, Su c v := cols_su
  have hlt := bs_lt hsu a ha
  refine ⟨hlt, fun hd => ?_⟩
  obtain ⟨q, hq⟩ := sp_comb hd
  obtain ⟨x, hx⟩ : ∃ x : Vc F, x = fun j => if j < a.1 then - q j else if j = a.1 then 1 else 0 := ⟨_, rfl⟩
  have hrel : ∀ t, comb c r x t = 0 := fun t => by
    rw [comb_cut (k := a.1 + 1) (by omega) fun j h1 h2 => by rw [hx]; simp only; rw [if_neg (by omega), if_neg (by omega)]]
    show comb a.1 r x t + x a.1 * r a.1 t = 0
    have e1 : comb a.1 r x = comb a.1 r fun j => - q j := comb_congr fun j hj => ⟨rfl, by rw [hx]; simp only; rw [if_pos hj]⟩
    have e2 : x a.1 = 1 := by rw [hx]; simp
    have e3 : r a.1 t = comb a.1 r q t := congrFun hq t
    rw [e1, e2, comb_neg, ← e3]
    grind
  have hdot : dot c x a.2 = 0 := dot_sp (fun b hb => by
    obtain ⟨t, ht, rfl⟩ := List.mem_map.mp hb
    rw [dot_col (Nat.le_refl _), hrel t]) (((bs_ok hsu).2 _).mp (sp_mem (mem_vs.mpr ⟨a, ha, rfl⟩)))
  have hrr := (bs_ok hsu).1
  rw [dot_single hlt fun i hi hne => by
    by_cases q' : i < a.1
    · rw [hrr.low a ha i q']
      grind
    · rw [show x i = 0 by rw [hx]; simp only; rw [if_neg q', if_neg hne]]
      grind, hrr.one a ha] at hdot
  rw [show x a.1 = 1 by rw [hx]; simp] at hdot
  exact Fld.one_ne (by
    have e : (1 : F) = 1 * 1 := by grind
    rw [e]
    exact hdot)
/-- the law's coefficients: the last entries at the leads -/
def lcf (c : Nat) : List (Rw F) → Vc F → Vc F
  | [], f => f
  | a :: R, f => lcf c R (updv f a.1 (a.2 c))
theorem lcf_fago (c i : Nat) : ∀ (R : List (Rw F)) (f f' : Vc F), f i = - f' i → lcf c R f i = - fago c R f' i
  | [], f, f', h => h
  | a :: R, f, f', h => by
    show lcf c R (updv f a.1 (a.2 c)) i = - fago c R (updv f' a.1 (-(a.2 c))) i
    refine lcf_fago c i R _ _ ?_
    unfold updv
    by_cases q : i = a.1
    · rw [if_pos q, if_pos q]
      grind
    · rw [if_neg q, if_neg q, h]
theorem lcf_ok {n c : Nat} {r : Nat → Vc F} {v : Vc F} (hs : ∀ j, j < c → Su n (r j)) (hv : Su n v) (hp : ∀ a ∈ bs (c + 1) (cols n (c + 1) (ext c r v)), a.1 ≠ c) :
    comb c r (lcf c (bs (c + 1) (cols n (c + 1) (ext c r v))) (fun _ => 0)) = v ∧ ∀ j, j < c → lcf c (bs (c + 1) (cols n (c + 1) (ext c r v))) (fun _ => 0) j ≠ 0 → ¬ Dep r j := by
  have hse : ∀ j, j < c + 1 → Su n (ext c r v j) := fun j hj => by
    unfold ext
    split
    · exact hv
    · exact hs j (by omega)
  have hsu : ∀ x ∈ cols n (c + 1) (ext c r v), Su (c + 1) x := cols_su
  have hpiv := fun a ha => piv_ndep (r := ext c r v) (n := n) (c := c + 1) (a := a) ha hse
  have hok := bs_ok hsu
  have hlt := bs_lt hsu
  generalize bs (c + 1) (cols n (c + 1) (ext c r v)) = R at *
  have hneg : ∀ j, j ≠ c → lcf c R (fun _ => 0) j = - fa c R j := fun j hj => lcf_fago c j R _ _ (by
    unfold unitV
    rw [if_neg hj]
    grind)
  have hrel : ∀ t, comb (c + 1) (ext c r v) (fa c R) t = 0 := fun t => by
    by_cases q : t < n
    · rw [← dot_col (c := c + 1) (Nat.le_refl _)]
      have hf : fa c R ∈ fs (c + 1) R := List.mem_map.mpr ⟨c, mem_np.mpr ⟨by omega, hp⟩, rfl⟩
      have h1 := ((fs_iff hok.1.dl hlt (fa c R)).mp (sp_mem hf)).2
      exact dot_sp (L := vs R) (fun b hb => by obtain ⟨a, ha, rfl⟩ := mem_vs.mp hb; exact h1 a ha) ((hok.2 _).mpr (sp_mem (List.mem_map.mpr ⟨t, List.mem_range.mpr q, rfl⟩)))
    · exact su_sp (L := rws (c + 1) (ext c r v)) (fun b hb => by
        obtain ⟨j, hj, rfl⟩ := mem_rws.mp hb
        exact hse j hj) (comb_sp _ _ _) t (by omega)
  refine ⟨funext fun t => ?_, fun j hj hne hd => ?_⟩
  · have h1 := hrel t
    have h2 : comb c (ext c r v) (fa c R) t + fa c R c * ext c r v c t = 0 := h1
    have e1 : comb c r (lcf c R fun _ => 0) = comb c (ext c r v) fun j => - fa c R j := comb_congr fun j hj => ⟨by unfold ext; rw [if_neg (by omega)], hneg j (by omega)⟩
    have e2 : fa c R c = 1 := by rw [fa_at hp, if_pos rfl]
    have e3 : ext c r v c = v := by unfold ext; rw [if_pos rfl]
    rw [e2, e3] at h2
    rw [e1, comb_neg]
    grind
  · have hj2 : ¬ ∀ a ∈ R, a.1 ≠ j := fun hc => by
      rw [hneg j (by omega), fa_at hc, if_neg (by omega)] at hne
      exact hne (by grind)
    obtain ⟨a, ha, rfl⟩ : ∃ a, a ∈ R ∧ a.1 = j := Classical.byContradiction fun hc => hj2 fun a ha e => hc ⟨a, ha, e⟩
    refine (hpiv a ha).2 ?_
    unfold Dep at hd ⊢
    have e1 : rws a.1 (ext c r v) = rws a.1 r := by
      unfold rws
      refine List.map_congr_left fun i hi => ?_
      unfold ext
      rw [if_neg (by have := List.mem_range.mp hi; omega)]
    have e2 : ext c r v a.1 = r a.1 := by unfold ext; rw [if_neg (by omega)]
    rw [e1, e2]
    exact hd
/-- the last place is a lead exactly if the row is outside -/
theorem out_iff {n c : Nat} {r : Nat → Vc F} {v : Vc F} (hs : ∀ j, j < c → Su n (r j)) (hv : Su n v) : (∀ a ∈ bs (c + 1) (cols n (c + 1) (ext c r v)), a.1 ≠ c) ↔ Sp (rws c r) v := by
  have hse : ∀ j, j < c + 1 → Su n (ext c r v j) := fun j hj => by
    unfold ext
    split
    · exact hv
    · exact hs j (by omega)
  constructor
  · intro hp
    have := comb_sp r (lcf c (bs (c + 1) (cols n (c + 1) (ext c r v))) (fun _ => 0)) c
    rwa [(lcf_ok hs hv hp).1] at this
  · intro h a ha e
    refine (piv_ndep ha hse).2 ?_
    unfold Dep
    rw [e]
    have e1 : rws c (ext c r v) = rws c r := by
      unfold rws
      refine List.map_congr_left fun i hi => ?_
      unfold ext
      rw [if_neg (by have := List.mem_range.mp hi; omega)]
    have e2 : ext c r v c = v := by unfold ext; rw [if_pos rfl]
    rw [e1, e2]
    exact h
/-- program and law tell the same coefficients -/
theorem cfs_lcf {n c : Nat} {r : Nat → Vc F} {v : Vc F} (hs : ∀ j, j < c → Su n (r j)) (hv : Su n v) (h : Sp (rws c r) v) : ∀ j, j < c → cfs n c r v j = lcf c (bs (c + 1) (cols n (c + 1) (ext c r v))) (fun _ => 0) j := by
  obtain ⟨a1, a2⟩ := cfs_ok hs h
  obtain ⟨b1, b2⟩ := lcf_ok hs hv ((out_iff hs hv).mpr h)
  exact coef_eq (fun j _ hne => (a2 j hne).2) b2 fun i => by rw [a1, b1]
end
end Lin

/-! rows of powers, and polynomials as functionals -/
namespace Lin
section
variable {F : Type} [Fld F] [DecidableEq F]
def pwr (x : F) : Nat → F
  | 0 => 1
  | i + 1 => pwr x i * x
/-- the first n powers -/
def prow (n : Nat) (x : F) : Vc F := fun i => if i < n then pwr x i else 0
theorem prow_su {n : Nat} {x : F} : Su n (prow n x) := fun i hi => by unfold prow; rw [if_neg (by omega)]
theorem prow_at {n i : Nat} {x : F} (h : i < n) : prow n x i = pwr x i := by unfold prow; rw [if_pos h]
theorem no_zero {a b : F} (h : a * b = 0) : a = 0 ∨ b = 0 := by
  by_cases q : a = 0
  · exact .inl q
  · right
    have := Fld.mul_inv a q
    have e : b = Fld.inv a * (a * b) := by grind
    rw [e, h]
    grind
/-- a polynomial of m + 1 places at x -/
def pev : Nat → Vc F → F → F
  | 0, _, _ => 0
  | m + 1, p, x => pev m p x + p m * pwr x m
theorem pev_dot {p : Vc F} {x : F} {n : Nat} : ∀ {m}, m ≤ n → (∀ i, m ≤ i → p i = 0) → dot n p (prow n x) = pev m p x := by
  have go : ∀ k, k ≤ n → dot k p (prow n x) = pev k p x := fun k => by
    induction k with
    | zero => intro _; rfl
    | succ k ih =>
      intro h
      show dot k p (prow n x) + p k * prow n x k = pev k p x + p k * pwr x k
      rw [ih (by omega), prow_at (by omega)]
  have cut : ∀ {m} (d : Nat), (∀ i, m ≤ i → p i = 0) → pev (m + d) p x = pev m p x := fun {m} d h => by
    induction d with
    | zero => rfl
    | succ d ih =>
      show pev (m + d) p x + p (m + d) * pwr x (m + d) = _
      rw [ih, h (m + d) (by omega)]
      grind
  intro m h1 h2
  rw [go n (Nat.le_refl _)]
  have := cut (n - m) h2
  rwa [show m + (n - m) = n from by omega] at this
/-- times (X - a) -/
def tms (p : Vc F) (a : F) : Vc F := fun i => (if i = 0 then 0 else p (i - 1)) - a * p i
theorem tms_pev {p : Vc F} {a x : F} : ∀ {m}, (∀ i, m ≤ i → p i = 0) → pev (m + 1) (tms p a) x = (x - a) * pev m p x := by
  have go : ∀ m, pev (m + 1) (tms p a) x = x * pev m p x - a * pev (m + 1) p x := fun m => by
    induction m with
    | zero =>
      show (0 : F) + (0 - a * p 0) * 1 = x * 0 - a * (0 + p 0 * 1)
      grind
    | succ m ih =>
      show pev (m + 1) (tms p a) x + (p m - a * p (m + 1)) * (pwr x m * x) = x * (pev m p x + p m * pwr x m) - a * (pev (m + 1) p x + p (m + 1) * (pwr x m * x))
      rw [ih]
      grind
  intro m h
  rw [go]
  show x * pev m p x - a * (pev m p x + p m * pwr x m) = _
  rw [h m (Nat.le_refl _)]
  grind
theorem tms_zero {p : Vc F} {a : F} {m : Nat} (h : ∀ i, m ≤ i → p i = 0) : ∀ i, m + 1 ≤ i → tms p a i = 0 := fun i hi => by
  unfold tms
  rw [if_neg (by omega), h (i - 1) (by omega), h i (by omega)]
  grind
/-- the product of all (X - a) -/
def prd (as : List F) : Vc F := as.foldl tms (unitV 0)
theorem prd_go : ∀ (as : List F) (p : Vc F) (m : Nat), (∀ i, m + 1 ≤ i → p i = 0) → p m = 1 → (∀ i, m + as.length + 1 ≤ i → as.foldl tms p i = 0) ∧ as.foldl tms p (m + as.length) = 1 ∧ ∀ x, pev (m + as.length + 1) (as.foldl tms p) x = pev (m + 1) p x * (as.map fun a => x - a).foldl (· * ·) 1
  | [], p, m, h1, h2 => ⟨h1, h2, fun x => by show pev (m + 1) p x = pev (m + 1) p x * 1; grind⟩
  | a :: as, p, m, h1, h2 => by
    have hz := tms_zero (p := p) (a := a) (m := m + 1) h1
    have ho : tms p a (m + 1) = 1 := by
      unfold tms
      rw [if_neg (by omega), show m + 1 - 1 = m from rfl, h2, h1 (m + 1) (Nat.le_refl _)]
      grind
    obtain ⟨g1, g2, g3⟩ := prd_go as (tms p a) (m + 1) hz ho
    have e : m + (a :: as).length = m + 1 + as.length := by rw [List.length_cons]; omega
    rw [e]
    refine ⟨g1, g2, fun x => ?_⟩
    show pev (m + 1 + as.length + 1) (as.foldl tms (tms p a)) x = pev (m + 1) p x * ((x - a) :: as.map fun a => x - a).foldl (· * ·) 1
    rw [g3, tms_pev h1]
    have fl : ∀ (l : List F) (c d : F), l.foldl (· * ·) (c * d) = c * l.foldl (· * ·) d := fun l => by
      induction l with
      | nil => intro c d; rfl
      | cons b l ih =>
        intro c d
        show l.foldl (· * ·) (c * d * b) = c * l.foldl (· * ·) (d * b)
        rw [show c * d * b = c * (d * b) by grind, ih]
    show (x - a) * pev (m + 1) p x * _ = pev (m + 1) p x * (as.map fun a => x - a).foldl (· * ·) (1 * (x - a))
    rw [show (1 : F) * (x - a) = (x - a) * 1 by grind, fl]
    grind
theorem unit0 : (∀ i, 0 + 1 ≤ i → (unitV 0 : Vc F) i = 0) ∧ (unitV 0 : Vc F) 0 = 1 := ⟨fun i hi => by unfold unitV; rw [if_neg (by omega)], by unfold unitV; rw [if_pos rfl]⟩
theorem prd_zero (as : List F) : ∀ i, as.length + 1 ≤ i → prd as i = 0 := fun i hi => (prd_go as (unitV 0) 0 unit0.1 unit0.2).1 i (by omega)
theorem prd_top (as : List F) : prd as as.length = 1 := by
  have := (prd_go as (unitV 0) 0 unit0.1 unit0.2).2.1
  rwa [Nat.zero_add] at this
theorem prd_ev (as : List F) (x : F) : pev (as.length + 1) (prd as) x = (as.map fun a => x - a).foldl (· * ·) 1 := by
  have := (prd_go as (unitV 0) 0 unit0.1 unit0.2).2.2 x
  rw [Nat.zero_add] at this
  rw [show prd as = as.foldl tms (unitV 0) from rfl, this]
  show (0 + (unitV 0 : Vc F) 0 * 1) * _ = _
  rw [unit0.2]
  grind
theorem mulAll_zero : ∀ {l : List F} {c : F}, (l.foldl (· * ·) c = 0) ↔ c = 0 ∨ 0 ∈ l
  | [], c => by simp
  | a :: l, c => by
    show l.foldl (· * ·) (c * a) = 0 ↔ _
    rw [mulAll_zero, List.mem_cons]
    constructor
    · rintro (h | h)
      · rcases no_zero h with q | q
        · exact .inl q
        · exact .inr (.inl q.symm)
      · exact .inr (.inr h)
    · rintro (h | h | h)
      · exact .inl (by rw [h]; grind)
      · exact .inl (by rw [← h]; grind)
      · exact .inr h
theorem prd_root (as : List F) (x : F) : pev (as.length + 1) (prd as) x = 0 ↔ x ∈ as := by
  rw [prd_ev, mulAll_zero]
  constructor
  · rintro (h | h)
    · exact absurd h Fld.one_ne
    · obtain ⟨a, ha, e⟩ := List.mem_map.mp h
      have : x = a := by grind
      rw [this]
      exact ha
  · intro h
    exact .inr (List.mem_map.mpr ⟨x, h, by grind⟩)
/-- the functional of a product, at a power row -/
theorem prd_dot {n : Nat} {as : List F} (h : as.length < n) (x : F) : dot n (prd as) (prow n x) = pev (as.length + 1) (prd as) x := pev_dot (by omega) (prd_zero as)
/-- a row of powers that is not among few others -/
theorem prow_free {n : Nat} {as : List F} (h : as.length < n) {x : F} (hx : x ∉ as) {L : List (Vc F)} (hL : ∀ v ∈ L, ∃ a ∈ as, v = prow n a) : ¬ Sp L (prow n x) := fun hs => by
  have h0 : dot n (prd as) (prow n x) = 0 := dot_sp (fun b hb => by
    obtain ⟨a, ha, rfl⟩ := hL b hb
    rw [prd_dot h, prd_root]
    exact ha) hs
  rw [prd_dot h, prd_root] at h0
  exact hx h0
theorem prow_ind {n : Nat} : ∀ {as : List F}, as.Nodup → as.length ≤ n → Ind (as.map (prow n))
  | [], _, _ => trivial
  | a :: as, hn, hl => by
    obtain ⟨h1, h2⟩ := List.nodup_cons.mp hn
    rw [List.length_cons] at hl
    exact ⟨prow_free (as := as) (by omega) h1 fun v hv => by
      obtain ⟨b, hb, rfl⟩ := List.mem_map.mp hv
      exact ⟨b, hb, rfl⟩, prow_ind h2 (by omega)⟩
/-- two reduced bases, one within the other, of one length -/
theorem rr_sub_eq {R M : List (Rw F)} (hR : Rr R) (hM : Rr M) (hs : ∀ v ∈ vs R, Sp (vs M) v) (hl : R.length = M.length) : R = M := by
  have sub : ∀ {w}, Sp (vs R) w → Sp (vs M) w := fun h => sp_trans hs h
  refine uniq hR hM fun v => ⟨sub, fun hv => ?_⟩
  -- otherwise a longer independent list
  refine Classical.byContradiction fun hn => ?_
  have hI : Ind (v :: vs R) := ⟨hn, dl_ind hR.dl⟩
  have := steinitz hI (M := vs M) fun w hw => by
    rcases List.mem_cons.mp hw with rfl | hw
    · exact hv
    · exact hs w hw
  rw [List.length_cons, vs_len, vs_len] at this
  omega
/-! ### remainders -/
def rmd (m : Nat) (q : Vc F) : Nat → Vc F
  | 0 => unitV 0
  | t + 1 => if t + 1 < m then unitV (t + 1) else fun i => (if i = 0 then 0 else rmd m q t (i - 1)) - rmd m q t (m - 1) * q i
theorem rmd_low {m : Nat} {q : Vc F} : ∀ {t}, t < m → rmd m q t = unitV t
  | 0, _ => rfl
  | t + 1, h => by
    unfold rmd
    rw [if_pos h]
def rmr (n m : Nat) (q : Vc F) : List (Rw F) := (List.range m).map fun i => (i, fun t => if t < n then rmd m q t i else 0)
theorem pev_lin (c : F) (p q : Vc F) (x : F) : ∀ m, pev m (fun i => p i - c * q i) x = pev m p x - c * pev m q x
  | 0 => by show (0 : F) = 0 - c * 0; grind
  | m + 1 => by
    show pev m (fun i => p i - c * q i) x + (p m - c * q m) * pwr x m = _ + p m * pwr x m - c * (pev m q x + q m * pwr x m)
    rw [pev_lin c p q x m]
    grind
theorem pev_shift (p : Vc F) (x : F) : ∀ m, pev (m + 1) (fun i => if i = 0 then 0 else p (i - 1)) x = x * pev m p x
  | 0 => by show (0 : F) + 0 * 1 = x * 0; grind
  | m + 1 => by
    show pev (m + 1) (fun i => if i = 0 then 0 else p (i - 1)) x + p m * (pwr x m * x) = x * (pev m p x + p m * pwr x m)
    rw [pev_shift p x m]
    grind
theorem pev_unit {x : F} {t : Nat} : ∀ {m}, t < m → pev m (unitV t) x = pwr x t
  | m + 1, h => by
    show pev m (unitV t) x + (unitV t : Vc F) m * pwr x m = _
    by_cases e : t = m
    · subst e
      have z : ∀ k, k ≤ t → pev k (unitV t : Vc F) x = 0 := fun k => by
        induction k with
        | zero => intro _; rfl
        | succ k ih =>
          intro hk
          show pev k (unitV t) x + (unitV t : Vc F) k * pwr x k = 0
          rw [ih (by omega)]
          unfold unitV
          rw [if_neg (by omega)]
          grind
      rw [z t (Nat.le_refl _)]
      unfold unitV
      rw [if_pos rfl]
      grind
    · rw [pev_unit (by omega)]
      unfold unitV
      rw [if_neg fun h => e h.symm]
      grind
theorem rmd_ev {m : Nat} {q : Vc F} {x : F} (hm : 0 < m) (hq : q m = 1) (hx : pev (m + 1) q x = 0) : ∀ t, pev m (rmd m q t) x = pwr x t
  | 0 => pev_unit hm
  | t + 1 => by
    by_cases h : t + 1 < m
    · rw [rmd_low h]
      exact pev_unit h
    · have ih := rmd_ev hm hq hx t
      unfold rmd
      rw [if_neg h, pev_lin]
      obtain ⟨k, rfl⟩ : ∃ k, m = k + 1 := ⟨m - 1, by omega⟩
      rw [pev_shift]
      have e1 : pev (k + 1) (rmd (k + 1) q t) x = pev k (rmd (k + 1) q t) x + rmd (k + 1) q t k * pwr x k := rfl
      have e2 : pev (k + 1 + 1) q x = pev (k + 1) q x + q (k + 1) * (pwr x k * x) := rfl
      have e3 : pwr x (t + 1) = pwr x t * x := rfl
      rw [show k + 1 - 1 = k from rfl]
      rw [e1] at ih
      rw [e2, hq] at hx
      rw [e3, ← ih]
      grind
theorem rmr_rr {n m : Nat} {q : Vc F} (h : m ≤ n) : Rr (rmr n m q) := by
  have val : ∀ i t, i < m → t < m → (fun t => if t < n then rmd m q t i else 0) t = if i = t then (1 : F) else 0 := fun i t hi ht => by
    simp only
    rw [if_pos (by omega), rmd_low ht]
    rfl
  unfold rmr
  refine ⟨List.pairwise_map.mpr List.pairwise_lt_range, fun a ha => ?_, fun a ha i hi => ?_, fun a ha b hb hab => ?_⟩
  · obtain ⟨i, hi, rfl⟩ := List.mem_map.mp ha
    have hi := List.mem_range.mp hi
    exact (val i i hi hi).trans (if_pos rfl)
  · obtain ⟨j, hj, rfl⟩ := List.mem_map.mp ha
    have hj := List.mem_range.mp hj
    exact (val j i hj (by simp only at hi; omega)).trans (if_neg (by simp only at hi; omega))
  · obtain ⟨i, hi, rfl⟩ := List.mem_map.mp ha
    obtain ⟨j, hj, rfl⟩ := List.mem_map.mp hb
    exact (val i j (List.mem_range.mp hi) (List.mem_range.mp hj)).trans (if_neg hab)
theorem rmr_su {n m : Nat} {q : Vc F} : ∀ a ∈ rmr n m q, Su n a.2 := fun a ha t ht => by
  obtain ⟨i, _, rfl⟩ := List.mem_map.mp ha
  show (if t < n then _ else (0 : F)) = 0
  rw [if_neg (by omega)]
theorem rmr_len {n m : Nat} {q : Vc F} : (rmr n m q).length = m := by unfold rmr; rw [List.length_map, List.length_range]
theorem vs_rmr (n m : Nat) (q : Vc F) : vs (rmr n m q) = rws m fun i t => if t < n then rmd m q t i else 0 := by
  unfold vs rmr rws
  rw [List.map_map]
  rfl
theorem comb_pev (m : Nat) (r : Nat → Vc F) (p : Vc F) (t : Nat) (x : F) (h : ∀ i, i < m → p i = pwr x i) : comb m r p t = pev m (fun i => r i t) x := by
  induction m with
  | zero => rfl
  | succ m ih =>
    show comb m r p t + p m * r m t = pev m (fun i => r i t) x + r m t * pwr x m
    rw [ih fun i hi => h i (by omega), h m (by omega)]
    grind
/-- a root's row is a sum of the remainders' rows -/
theorem root_in {n m : Nat} {q : Vc F} {x : F} (hm : 0 < m) (hq : q m = 1) (hx : pev (m + 1) q x = 0) : Sp (vs (rmr n m q)) (prow n x) := by
  rw [vs_rmr]
  refine (comb_sp _ (pwr x) m).congr fun t => ?_
  rw [comb_pev m _ _ t x fun i _ => rfl]
  unfold prow
  by_cases h : t < n
  · rw [if_pos h]
    simp only [h, if_true]
    exact (rmd_ev hm hq hx t).symm
  · rw [if_neg h]
    simp only [h, if_false]
    have z : ∀ k, pev k (fun _ => (0 : F)) x = 0 := fun k => by
      induction k with
      | zero => rfl
      | succ k ih =>
        show pev k (fun _ => (0 : F)) x + 0 * pwr x k = 0
        rw [ih]
        grind
    exact (z m).symm
/-- n of them span all -/
theorem full_in {n : Nat} {q v : Vc F} (hv : Su n v) : Sp (vs (rmr n n q)) v := by
  rw [rest_span (rmr_rr (Nat.le_refl n)).dl]
  intro i
  rcases Nat.lt_or_ge i n with h | h
  · exact rest_piv v (rmr_rr (Nat.le_refl n)).dl (i, fun t => if t < n then rmd n q t i else 0) (List.mem_map.mpr ⟨i, List.mem_range.mpr h, rfl⟩)
  · exact su_rest rmr_su hv i h
/-- what is known of points and of some unlike ones of them -/
structure Pts (n : Nat) (pts as : List F) : Prop where
  nd : as.Nodup
  le : as.length ≤ n
  sub : ∀ a ∈ as, a ∈ pts
  all : as.length = n ∨ ∀ x ∈ pts, x ∈ as
section
variable {n : Nat} {pts as : List F} (P : Pts n pts as)
include P
theorem pts_su : ∀ v ∈ pts.map (prow n), Su n v := fun v hv => by
  obtain ⟨x, _, rfl⟩ := List.mem_map.mp hv
  exact prow_su
theorem pts_in {v : Vc F} (hv : v ∈ pts.map (prow n)) : Sp (vs (rmr n as.length (prd as))) v := by
  obtain ⟨x, hx, rfl⟩ := List.mem_map.mp hv
  rcases P.all with h | h
  · rw [h]
    exact full_in prow_su
  · have hxa := h x hx
    exact root_in (List.length_pos_of_mem hxa) (prd_top as) ((prd_root as x).mpr hxa)
theorem pts_bs : bs n (pts.map (prow n)) = rmr n as.length (prd as) := by
  have hok := bs_ok (pts_su P)
  refine rr_sub_eq hok.1 (rmr_rr P.le) (fun v hv => sp_trans (fun b hb => pts_in P hb) ((hok.2 v).mp (sp_mem hv))) ?_
  rw [rmr_len]
  refine Nat.le_antisymm ?_ ?_
  · have := steinitz (dl_ind hok.1.dl) (M := vs (rmr n as.length (prd as))) fun v hv => sp_trans (fun b hb => pts_in P hb) ((hok.2 v).mp (sp_mem hv))
    rw [vs_len, vs_len, rmr_len] at this
    exact this
  · have := steinitz (prow_ind P.nd P.le) (M := vs (bs n (pts.map (prow n)))) fun v hv => by
      obtain ⟨a, ha, rfl⟩ := List.mem_map.mp hv
      exact (hok.2 _).mpr (sp_mem (List.mem_map.mpr ⟨a, P.sub a ha, rfl⟩))
    rw [List.length_map, vs_len] at this
    exact this
end
/-! ### multiples -/
theorem prd_app (as : List F) (a : F) : prd (as ++ [a]) = tms (prd as) a := by
  unfold prd
  rw [List.foldl_append]
  rfl
theorem prd_zeros (as : List F) : ∀ (j i : Nat), prd (as ++ List.replicate j 0) i = if j ≤ i then prd as (i - j) else 0
  | 0, i => by simp
  | j + 1, i => by
    rw [List.replicate_succ', ← List.append_assoc, prd_app]
    show (if i = 0 then 0 else prd (as ++ List.replicate j 0) (i - 1)) - 0 * prd (as ++ List.replicate j 0) i = _
    by_cases h : i = 0
    · rw [if_pos h, if_neg (by omega)]
      grind
    · rw [if_neg h, prd_zeros as j (i - 1)]
      by_cases g : j + 1 ≤ i
      · rw [if_pos g, if_pos (by omega), show i - 1 - j = i - (j + 1) from by omega]
        grind
      · rw [if_neg g, if_neg (by omega)]
        grind
def mul1 (as : List F) (j : Nat) : Vc F := fun i => if j ≤ i then prd as (i - j) else 0
theorem mul1_prd (as : List F) (j : Nat) : mul1 as j = prd (as ++ List.replicate j 0) := funext fun i => (prd_zeros as j i).symm
def mults (n : Nat) (as : List F) : List (Vc F) := (List.range (n - as.length)).map (mul1 as)
theorem tr_ind : ∀ {R : List (Rw F)}, Tr R → Ind (vs R)
  | [], _ => trivial
  | a :: R, h => ⟨fun hc => by
      have h1 : a.2 a.1 = 0 := tr_at h hc
      rw [h.1] at h1
      exact Fld.one_ne h1, tr_ind h.2.2⟩
theorem mults_su {n : Nat} {as : List F} : ∀ v ∈ mults n as, Su n v := fun v hv => by
  obtain ⟨j, hj, rfl⟩ := List.mem_map.mp hv
  have hj := List.mem_range.mp hj
  intro i hi
  rw [mul1_prd]
  exact prd_zero _ i (by rw [List.length_append, List.length_replicate]; omega)
theorem mults_tr (m : Nat) (as : List F) (hm : as.length = m) : ∀ k, Tr ((List.range k).reverse.map fun j => ((m + j, mul1 as j) : Rw F))
  | 0 => trivial
  | k + 1 => by
    rw [List.range_succ, List.reverse_append]
    refine ⟨?_, fun b hb => ?_, mults_tr m as hm k⟩
    · show mul1 as k (m + k) = 1
      unfold mul1
      rw [if_pos (by omega), show m + k - k = as.length from by omega]
      exact prd_top as
    · obtain ⟨j, hj, rfl⟩ := List.mem_map.mp hb
      have hj : j < k := by simpa using hj
      show mul1 as j (m + k) = 0
      unfold mul1
      rw [if_pos (by omega)]
      exact prd_zero as _ (by omega)
theorem pts_ann {n : Nat} {pts as : List F} (P : Pts n pts as) : bs n (mults n as) = ann n (pts.map (prow n)) := by
  have hsu := pts_su P
  have hok := bs_ok (mults_su (n := n) (as := as))
  have hann := bs_ok (fs_su' hsu)
  have hsub : ∀ v ∈ mults n as, Sp (vs (ann n (pts.map (prow n)))) v := fun v hv => by
    refine (ann_iff hsu v).mpr ⟨mults_su v hv, fun r hr => ?_⟩
    obtain ⟨j, hj, rfl⟩ := List.mem_map.mp hv
    obtain ⟨x, hx, rfl⟩ := List.mem_map.mp hr
    have hj := List.mem_range.mp hj
    rw [mul1_prd, prd_dot (by rw [List.length_append, List.length_replicate]; omega), prd_root]
    rcases P.all with h | h
    · omega
    · exact List.mem_append_left _ (h x hx)
  refine rr_sub_eq hok.1 hann.1 (fun v hv => sp_trans hsub ((hok.2 v).mp (sp_mem hv))) ?_
  have hlen := ann_len hsu
  rw [pts_bs P, rmr_len] at hlen
  have h1 : (bs n (mults n as)).length ≤ n - as.length := by
    have := steinitz (dl_ind hok.1.dl) (M := mults n as) fun v hv => (hok.2 v).mp (sp_mem hv)
    rw [vs_len] at this
    unfold mults at this
    rw [List.length_map, List.length_range] at this
    exact this
  have h2 : n - as.length ≤ (bs n (mults n as)).length := by
    have := steinitz (tr_ind (mults_tr as.length as rfl (n - as.length))) (M := vs (bs n (mults n as))) fun v hv => by
      obtain ⟨a, ha, rfl⟩ := mem_vs.mp hv
      obtain ⟨j, hj, rfl⟩ := List.mem_map.mp ha
      have hj : j < n - as.length := by simpa using hj
      exact (hok.2 _).mpr (sp_mem (List.mem_map.mpr ⟨j, List.mem_range.mpr hj, rfl⟩))
    rw [vs_len, vs_len] at this
    simp at this
    omega
  have := P.le
  omega
/-! ### a row outside -/
section
variable {n : Nat} {pts as : List F} (P : Pts n pts as)
include P
theorem prd_kills : as.length < n → ∀ v, Sp (pts.map (prow n)) v → dot n (prd as) v = 0 := fun hm v hv => dot_sp (fun b hb => by
  obtain ⟨x, hx, rfl⟩ := List.mem_map.mp hb
  rw [prd_dot hm, prd_root]
  rcases P.all with h | h
  · omega
  · exact h x hx) hv
theorem out_free {y : F} (hm : as.length < n) (hy : y ∉ as) : ¬ Sp (pts.map (prow n)) (prow n y) := fun h => by
  have := prd_kills P hm _ h
  rw [prd_dot hm, prd_root] at this
  exact hy this
theorem full_all (hm : as.length = n) {v : Vc F} (hv : Su n v) : Sp (pts.map (prow n)) v := by
  rw [← (bs_ok (pts_su P)).2 v, pts_bs P, hm]
  exact full_in hv
/-- where a row outside is told apart, and by what -/
theorem out_lead {y : F} (hm : as.length < n) (hy : y ∉ as) : lead n (rest (bs n (pts.map (prow n))) (prow n y)) = some as.length ∧ rest (bs n (pts.map (prow n))) (prow n y) as.length = pev (as.length + 1) (prd as) y ∧ ∀ i, fa as.length (bs n (pts.map (prow n))) i = prd as i := by
  have hok := bs_ok (pts_su P)
  have hsu := bs_su (pts_su P)
  have hkill : ∀ a ∈ bs n (pts.map (prow n)), dot n (prd as) a.2 = 0 := fun a ha => prd_kills P hm _ ((hok.2 _).mp (sp_mem (mem_vs.mpr ⟨a, ha, rfl⟩)))
  have hpiv : ∀ i, (∃ a ∈ bs n (pts.map (prow n)), a.1 = i) ↔ i < as.length := fun i => by
    rw [pts_bs P]
    unfold rmr
    constructor
    · rintro ⟨a, ha, rfl⟩
      obtain ⟨j, hj, rfl⟩ := List.mem_map.mp ha
      exact List.mem_range.mp hj
    · intro h
      exact ⟨_, List.mem_map.mpr ⟨i, List.mem_range.mpr h, rfl⟩, rfl⟩
  have hw0 : ∀ i, i < as.length → rest (bs n (pts.map (prow n))) (prow n y) i = 0 := fun i hi => by
    obtain ⟨a, ha, rfl⟩ := (hpiv i).mpr hi
    exact rest_piv _ hok.1.dl a ha
  have hdw : dot n (prd as) (rest (bs n (pts.map (prow n))) (prow n y)) = pev (as.length + 1) (prd as) y := by
    have h1 := prd_kills P hm _ ((hok.2 _).mp (rest_diff (bs n (pts.map (prow n))) (prow n y)))
    have h2 := dot_lin (-1) (prow n y) (rest (bs n (pts.map (prow n))) (prow n y)) (prd as) n
    have e : (fun i => prow n y i - rest (bs n (pts.map (prow n))) (prow n y) i) = fun i => prow n y i + -1 * rest (bs n (pts.map (prow n))) (prow n y) i := funext fun i => by grind
    rw [e, h2, prd_dot hm] at h1
    grind
  rw [dot_single hm fun i hi hne => by
    by_cases h : i < as.length
    · rw [hw0 i h]
      grind
    · rw [prd_zero as i (by omega)]
      grind, prd_top] at hdw
  have hval : rest (bs n (pts.map (prow n))) (prow n y) as.length = pev (as.length + 1) (prd as) y := by grind
  refine ⟨lead_eq hm ?_ hw0, hval, fun i => ?_⟩
  · rw [hval]
    exact fun h => hy ((prd_root as y).mp h)
  · have hfree : ∀ j, as.length ≤ j → ∀ a ∈ bs n (pts.map (prow n)), a.1 ≠ j := fun j hj a ha e => by
      have := (hpiv j).mp ⟨a, ha, e⟩
      omega
    by_cases h : i < as.length
    · obtain ⟨a, ha, rfl⟩ := (hpiv i).mpr h
      -- both vanish on a's row
      have key : ∀ f : Vc F, f as.length = 1 → (∀ j, as.length < j → f j = 0) → dot n f a.2 = 0 → f a.1 + a.2 as.length = 0 := fun f f1 f2 f3 => by
        have e : dot n f a.2 = f a.1 * a.2 a.1 + f as.length * a.2 as.length := by
          have hs := dot_lin (f as.length) (fun j => if j = as.length then 0 else f j) (unitV as.length) a.2 n
          have e0 : (fun j => (if j = as.length then (0 : F) else f j) + f as.length * unitV as.length j) = f := funext fun j => by
            unfold unitV
            by_cases q : j = as.length
            · rw [if_pos q, if_pos q, q]
              grind
            · rw [if_neg q, if_neg q]
              grind
          rw [e0] at hs
          rw [dot_comm, hs, dot_single (p := a.1) (by omega) (fun j hj hne => by
            by_cases q : j < as.length
            · obtain ⟨b, hb, rfl⟩ := (hpiv j).mpr q
              rw [hok.1.off a ha b hb (fun e => hne e.symm)]
              grind
            · by_cases q2 : j = as.length
              · rw [if_pos q2]
                grind
              · rw [if_neg q2, f2 j (by omega)]
                grind), dot_single (p := as.length) hm fun j hj hne => by
            unfold unitV
            rw [if_neg hne]
            grind, if_neg (by omega)]
          unfold unitV
          rw [if_pos rfl]
          grind
        rw [e, f1, hok.1.one a ha] at f3
        grind
      have k1 := key (prd as) (prd_top as) (fun j hj => prd_zero as j (by omega)) (hkill a ha)
      have hfs : fa as.length (bs n (pts.map (prow n))) ∈ fs n (bs n (pts.map (prow n))) := List.mem_map.mpr ⟨_, mem_np.mpr ⟨hm, hfree _ (Nat.le_refl _)⟩, rfl⟩
      have k2 := key (fa as.length (bs n (pts.map (prow n)))) (by rw [fa_at (hfree _ (Nat.le_refl _)), if_pos rfl]) (fun j hj => by rw [fa_at (hfree j (by omega)), if_neg (by omega)]) (((fs_iff hok.1.dl (bs_lt (pts_su P)) _).mp (sp_mem hfs)).2 a ha)
      grind
    · rw [fa_at (hfree i (by omega))]
      by_cases q : i = as.length
      · rw [if_pos q, q, prd_top]
      · rw [if_neg q, prd_zero as i (by omega)]
end
/-! ### weights -/
/-- the unlike points' numbers -/
structure Plc (c : Nat) (pt : Nat → F) (I : List Nat) : Prop where
  lt : ∀ i ∈ I, i < c
  inj : ∀ i ∈ I, ∀ j ∈ I, pt i = pt j → i = j
def oths (pt : Nat → F) (I : List Nat) (i : Nat) : List F := (I.filter fun j => decide (j ≠ i)).map pt
def wts (pt : Nat → F) (I : List Nat) (z : F) : Vc F := fun i => if i ∈ I then pev ((oths pt I i).length + 1) (prd (oths pt I i)) z * Fld.inv (pev ((oths pt I i).length + 1) (prd (oths pt I i)) (pt i)) else 0
/-- coefficients on listed rows -/
theorem sp_pick {c : Nat} {r : Nat → Vc F} {I : List Nat} (hI : ∀ i ∈ I, i < c) {v : Vc F} (h : Sp (I.map r) v) : ∃ p : Vc F, (∀ i, i ∉ I → p i = 0) ∧ comb c r p = v :=
  sp_prop (P := fun v => ∃ p : Vc F, (∀ i, i ∉ I → p i = 0) ∧ comb c r p = v) ⟨fun _ => 0, fun _ _ => rfl, funext fun i => comb_zero fun _ _ => rfl⟩
    (fun k u w ⟨p, h1, hp⟩ ⟨q, h2, hq⟩ => ⟨fun j => p j + k * q j, fun j hj => by
      show p j + k * q j = 0
      rw [h1 j hj, h2 j hj]
      grind, funext fun i => by rw [comb_lin, hp, hq]⟩) (fun b hb => by
      obtain ⟨j, hj, rfl⟩ := List.mem_map.mp hb
      exact ⟨unitV j, fun i hi => by unfold unitV; rw [if_neg fun e : i = j => hi (by rw [e]; exact hj)], funext fun i => comb_unit i (hI j hj)⟩) h
theorem dot_comb {n : Nat} {f : Vc F} {r : Nat → Vc F} {p : Vc F} {i : Nat} : ∀ {c}, i < c → (∀ k, k < c → k ≠ i → p k * dot n f (r k) = 0) → dot n f (comb c r p) = p i * dot n f (r i)
  | c + 1, hi, h => by
    have e := dot_lin (p c) (comb c r p) (r c) f n
    rw [show comb (c + 1) r p = fun t => comb c r p t + p c * r c t from rfl, e]
    by_cases q : i = c
    · subst q
      have z : ∀ k, k ≤ i → dot n f (comb k r p) = 0 := fun k => by
        induction k with
        | zero => intro _; exact dot_zero fun t _ => by show f t * 0 = 0; grind
        | succ k ih =>
          intro hk
          rw [show comb (k + 1) r p = fun t => comb k r p t + p k * r k t from rfl, dot_lin, ih (by omega), h k (by omega) (by omega)]
          grind
      rw [z i (Nat.le_refl _)]
      grind
    · rw [dot_comb (by omega) fun k hk hne => h k (by omega) hne, h c (by omega) fun e => q e.symm]
      grind
theorem wts_ok {N c : Nat} {pt : Nat → F} {I : List Nat} (hP : Plc c pt I) (hnd : I.Nodup) (hN : I.length ≤ N) {z : F} (h : Sp (I.map fun i => prow N (pt i)) (prow N z)) : comb c (fun i => prow N (pt i)) (wts pt I z) = prow N z := by
  obtain ⟨p, hp0, hp⟩ := sp_pick (r := fun i => prow N (pt i)) hP.lt h
  have : ∀ i, p i = wts pt I z i := fun i => by
    unfold wts
    by_cases hi : i ∈ I
    · rw [if_pos hi]
      have hlen : (oths pt I i).length < N := by
        unfold oths
        rw [List.length_map]
        have := (List.length_filter_lt_length_iff_exists (p := fun j => decide (j ≠ i)) (l := I)).mpr ⟨i, hi, by simp⟩
        omega
      have hd := dot_comb (n := N) (f := prd (oths pt I i)) (r := fun i => prow N (pt i)) (p := p) (i := i) (hP.lt i hi) fun k hk hne => by
        by_cases hkI : k ∈ I
        · have hko : pt k ∈ oths pt I i := List.mem_map.mpr ⟨k, List.mem_filter.mpr ⟨hkI, by simpa using hne⟩, rfl⟩
          rw [prd_dot hlen, (prd_root _ _).mpr hko]
          grind
        · rw [hp0 k hkI]
          grind
      rw [hp, prd_dot hlen, prd_dot hlen] at hd
      have hne : pev ((oths pt I i).length + 1) (prd (oths pt I i)) (pt i) ≠ 0 := fun e => by
        obtain ⟨k, hk, e2⟩ := List.mem_map.mp ((prd_root _ _).mp e)
        obtain ⟨h1, h2⟩ := List.mem_filter.mp hk
        have := hP.inj k h1 i hi e2
        simp [this] at h2
      have := Fld.mul_inv _ hne
      rw [hd]
      grind
    · rw [if_neg hi]
      exact hp0 i hi
  rw [← hp]
  exact comb_congr fun j hj => ⟨rfl, (this j).symm⟩
/-- m unlike rows of m powers span all -/
theorem sq_all {m : Nat} {as : List F} (hnd : as.Nodup) (hl : as.length = m) {v : Vc F} (hv : Su m v) : Sp (as.map (prow m)) v := by
  have P : Pts m as as := ⟨hnd, by omega, fun a ha => ha, .inl hl⟩
  exact full_all P hl hv
/-! ### first occurrences -/
def fst1 (pt : Nat → F) (c : Nat) : List Nat := (List.range c).filter fun j => decide (∀ i, i < j → pt i ≠ pt j)
theorem mem_fst1 {pt : Nat → F} {c j : Nat} : j ∈ fst1 pt c ↔ j < c ∧ ∀ i, i < j → pt i ≠ pt j := by
  unfold fst1
  rw [List.mem_filter, List.mem_range, decide_eq_true_eq]
theorem fst1_lt (pt : Nat → F) (c : Nat) : (fst1 pt c).Pairwise (· < ·) := (List.pairwise_lt_range (n := c)).filter _
theorem fst1_ex {pt : Nat → F} {c : Nat} : ∀ i, i < c → ∃ f ∈ fst1 pt c, f ≤ i ∧ pt f = pt i := fun i => by
  induction i using Nat.strongRecOn with
  | _ i ih =>
    intro hi
    by_cases h : ∀ j, j < i → pt j ≠ pt i
    · exact ⟨i, mem_fst1.mpr ⟨hi, h⟩, Nat.le_refl _, rfl⟩
    · obtain ⟨j, hj, e⟩ : ∃ j, j < i ∧ pt j = pt i := Classical.byContradiction fun hc => h fun j hj e => hc ⟨j, hj, e⟩
      obtain ⟨f, h1, h2, h3⟩ := ih j hj (by omega)
      exact ⟨f, h1, by omega, h3.trans e⟩
theorem fst1_inj {pt : Nat → F} {c : Nat} {i j : Nat} (hi : i ∈ fst1 pt c) (hj : j ∈ fst1 pt c) (e : pt i = pt j) : i = j := by
  have h1 := (mem_fst1.mp hi).2
  have h2 := (mem_fst1.mp hj).2
  rcases Nat.lt_trichotomy i j with q | q | q
  · exact absurd e (h2 i q)
  · exact q
  · exact absurd e.symm (h1 j q)
def plc (n : Nat) (pt : Nat → F) (c : Nat) : List Nat := (fst1 pt c).take n
theorem plc_ok (n : Nat) (pt : Nat → F) (c : Nat) : Plc c pt (plc n pt c) := ⟨fun i hi => (mem_fst1.mp (List.mem_of_mem_take hi)).1, fun i hi j hj e => fst1_inj (List.mem_of_mem_take hi) (List.mem_of_mem_take hj) e⟩
theorem plc_nd (n : Nat) (pt : Nat → F) (c : Nat) : (plc n pt c).Nodup := by
  have h := (fst1_lt pt c).sublist (List.take_sublist n _)
  exact h.imp fun {a b} h => by omega
theorem plc_pts (n : Nat) (pt : Nat → F) (c : Nat) : Pts n ((List.range c).map pt) ((plc n pt c).map pt) where
  nd := by
    have h := plc_nd n pt c
    have hin := (plc_ok n pt c).inj
    generalize plc n pt c = I at *
    induction I with
    | nil => exact List.nodup_nil
    | cons a I ih =>
      obtain ⟨h1, h2⟩ := List.nodup_cons.mp h
      refine List.nodup_cons.mpr ⟨fun hm => ?_, ih h2 fun i hi j hj => hin i (List.mem_cons_of_mem _ hi) j (List.mem_cons_of_mem _ hj)⟩
      obtain ⟨b, hb, e⟩ := List.mem_map.mp hm
      have := hin b (List.mem_cons_of_mem _ hb) a List.mem_cons_self e
      exact h1 (this ▸ hb)
  le := by
    rw [List.length_map]
    unfold plc
    rw [List.length_take]
    omega
  sub := fun a ha => by
    obtain ⟨i, hi, rfl⟩ := List.mem_map.mp ha
    exact List.mem_map.mpr ⟨i, List.mem_range.mpr ((plc_ok n pt c).lt i hi), rfl⟩
  all := by
    rw [List.length_map]
    by_cases h : (fst1 pt c).length ≤ n
    · refine .inr fun x hx => ?_
      obtain ⟨i, hi, rfl⟩ := List.mem_map.mp hx
      obtain ⟨f, h1, _, h3⟩ := fst1_ex (pt := pt) i (List.mem_range.mp hi)
      refine List.mem_map.mpr ⟨f, ?_, h3⟩
      unfold plc
      rw [List.take_of_length_le h]
      exact h1
    · refine .inl ?_
      unfold plc
      rw [List.length_take]
      omega
theorem plc_ndep {n : Nat} {pt : Nat → F} {c k : Nat} (hk : k ∈ plc n pt c) : ¬ Dep (fun i => prow n (pt i)) k := by
  obtain ⟨p, hp, e⟩ := List.mem_take_iff_getElem.mp hk
  have hkF : k ∈ fst1 pt c := List.mem_of_mem_take hk
  have hlen : ((fst1 pt c).filter fun f => decide (f < k)).length < n := by
    have hpl : p < (fst1 pt c).length := by omega
    have hsp : fst1 pt c = (fst1 pt c).take p ++ (fst1 pt c).drop p := (List.take_append_drop p _).symm
    rw [hsp, List.filter_append, List.length_append]
    have hd : ((fst1 pt c).drop p).filter (fun f => decide (f < k)) = [] := by
      rw [List.filter_eq_nil_iff]
      intro f hf
      have hs := (fst1_lt pt c).sublist (List.drop_sublist p _)
      rw [List.drop_eq_getElem_cons hpl] at hs hf
      rw [e] at hs hf
      rcases List.mem_cons.mp hf with rfl | hf
      · simp
      · have := (List.pairwise_cons.mp hs).1 f hf
        simp
        omega
    rw [hd]
    have := List.length_filter_le (fun f => decide (f < k)) ((fst1 pt c).take p)
    rw [List.length_take] at this
    simp only [List.length_nil]
    omega
  refine prow_free (n := n) (as := ((fst1 pt c).filter fun f => decide (f < k)).map pt) (by rw [List.length_map]; exact hlen) (fun hm => ?_) fun v hv => ?_
  · obtain ⟨f, hf, e2⟩ := List.mem_map.mp hm
    obtain ⟨h1, h2⟩ := List.mem_filter.mp hf
    exact (mem_fst1.mp hkF).2 f (by simpa using h2) e2
  · obtain ⟨i, hi, rfl⟩ := mem_rws.mp hv
    obtain ⟨f, h1, h2, h3⟩ := fst1_ex (pt := pt) (c := c) i (by have := (mem_fst1.mp hkF).1; omega)
    exact ⟨pt f, List.mem_map.mpr ⟨f, List.mem_filter.mpr ⟨h1, by simp; omega⟩, rfl⟩, by rw [h3]⟩
end
end Lin

namespace Law
open PySem L2 Mp
def topS (i : Nat) : Stmt := PySem.Challenge.pw_lonehost_k43_rows_of_powers.main.body.getD i (.Pass ⟨0, 0, 0, 0⟩)
def T : CT := ⟨[("is_int" : Str), ("is_word" : Str), ("is_tuple" : Str), ("is_words" : Str), ("check_range" : Str), ("check_most" : Str), ("power" : Str), ("inverse" : Str), ("dot" : Str), ("scaled" : Str), ("summed" : Str), ("minus" : Str), ("_is_row" : Str), ("check_space" : Str), ("_check_beside" : Str), ("unit_row" : Str), ("pivot_of" : Str), ("rest_of" : Str), ("holds" : Str), ("joined" : Str), ("basis_of" : Str), ("reduced" : Str), ("rank" : Str), ("in_span" : Str), ("_functional_at" : Str), ("annihilator" : Str), ("_cleared_pair" : Str), ("_coefficients" : Str), ("judge_span" : Str), ("is_sum" : Str), ("is_apart" : Str), ("_law_cell" : Str), ("_law_row" : Str), ("_law_draw" : Str), ("_law_same" : Str), ("_law_word" : Str), ("_law_inverse" : Str), ("_law_less" : Str), ("_law_reduced" : Str), ("_law_frozen" : Str), ("_law_powers" : Str), ("_law_times" : Str), ("_law_at" : Str), ("_law_product" : Str), ("_law_firsts" : Str), ("_law_weights" : Str), ("_law_remainders" : Str), ("_law_multiples" : Str), ("_law_judged" : Str), ("law" : Str)], [("WORD", .int 65521), ("MOST_ROWS", .int 60), ("MOST_LENGTH", .int 20)], [(148, 14), (141, 4), (308, 20)], [], ["len", "abs", "int", "tuple", "list", "range", "enumerate", "zip", "isinstance", "bool", "str"]⟩
def L : List FE := [
  ⟨"is_int", topS 7, ["x"], ["x"]⟩,
  ⟨"is_word", topS 8, ["x"], ["x"]⟩,
  ⟨"is_tuple", topS 9, ["x", "size"], ["x", "size"]⟩,
  ⟨"is_words", topS 10, ["x", "size", "part"], ["x", "size"]⟩,
  ⟨"check_range", topS 11, ["value", "low", "high"], ["value", "low", "high"]⟩,
  ⟨"check_most", topS 12, ["count", "limit"], ["count", "limit"]⟩,
  ⟨"power", topS 14, ["word", "n", "result", "square", "rest"], ["word", "n"]⟩,
  ⟨"inverse", topS 15, ["word"], ["word"]⟩,
  ⟨"dot", topS 16, ["row", "other", "total", "left", "right"], ["row", "other"]⟩,
  ⟨"scaled", topS 17, ["row", "word", "entry"], ["row", "word"]⟩,
  ⟨"summed", topS 18, ["row", "other", "left", "right"], ["row", "other"]⟩,
  ⟨"minus", topS 19, ["row", "other", "left", "right"], ["row", "other"]⟩,
  ⟨"_is_row", topS 23, ["row"], ["row"]⟩,
  ⟨"check_space", topS 24, ["rows", "k", "row"], ["rows"]⟩,
  ⟨"_check_beside", topS 25, ["rows", "row"], ["rows", "row"]⟩,
  ⟨"unit_row", topS 26, ["at", "size", "k"], ["at", "size"]⟩,
  ⟨"pivot_of", topS 27, ["row", "at", "entry"], ["row"]⟩,
  ⟨"rest_of", topS 28, ["basis", "row", "rest", "base", "factor"], ["basis", "row"]⟩,
  ⟨"holds", topS 29, ["basis", "row"], ["basis", "row"]⟩,
  ⟨"joined", topS 30, ["basis", "row", "rest", "at", "grown", "placed", "base"], ["basis", "row"]⟩,
  ⟨"basis_of", topS 31, ["rows", "basis", "row"], ["rows"]⟩,
  ⟨"reduced", topS 32, ["rows"], ["rows"]⟩,
  ⟨"rank", topS 33, ["rows"], ["rows"]⟩,
  ⟨"in_span", topS 34, ["rows", "row"], ["rows", "row"]⟩,
  ⟨"_functional_at", topS 35, ["basis", "at", "size", "entries", "base"], ["basis", "at", "size"]⟩,
  ⟨"annihilator", topS 36, ["rows", "size", "basis", "pivots", "base", "places", "at"], ["rows", "size"]⟩,
  ⟨"_cleared_pair", topS 37, ["tracked", "row", "shares", "rest", "left", "base", "parts", "factor"], ["tracked", "row", "shares"]⟩,
  ⟨"_coefficients", topS 38, ["rows", "row", "tracked", "k", "given", "base", "parts", "at", "factor", "left"], ["rows", "row"]⟩,
  ⟨"judge_span", topS 39, ["rows", "row", "basis", "rest", "at", "functional"], ["rows", "row"]⟩,
  ⟨"is_sum", topS 40, ["rows", "row", "paper", "total", "given", "coefficient"], ["rows", "row", "paper"]⟩,
  ⟨"is_apart", topS 41, ["rows", "row", "paper", "given"], ["rows", "row", "paper"]⟩,
  ⟨"_law_cell", topS 43, ["script", "k"], ["script", "k"]⟩,
  ⟨"_law_row", topS 44, ["cell", "count", "size", "numbers", "rest", "k", "mixed"], ["cell", "count", "size"]⟩,
  ⟨"_law_draw", topS 45, ["script", "k", "count", "size", "cell"], ["script", "k", "count", "size"]⟩,
  ⟨"_law_same", topS 46, ["actual", "expected", "k"], ["actual", "expected"]⟩,
  ⟨"_law_word", topS 47, ["number", "kind", "rest"], ["number"]⟩,
  ⟨"_law_inverse", topS 48, ["word", "result", "square", "rest", "k"], ["word"]⟩,
  ⟨"_law_less", topS 49, ["row", "base", "factor", "t"], ["row", "base", "factor"]⟩,
  ⟨"_law_reduced", topS 50, ["rows", "size", "left", "row", "done", "at", "found", "k", "back", "base", "entry", "others"], ["rows", "size"]⟩,
  ⟨"_law_frozen", topS 51, ["rows", "row"], ["rows"]⟩,
  ⟨"_law_powers", topS 52, ["x", "size", "row", "power_v", "t"], ["x", "size"]⟩,
  ⟨"_law_times", topS 53, ["poly", "x", "grown", "t"], ["poly", "x"]⟩,
  ⟨"_law_at", topS 54, ["poly", "x", "total", "power_v", "entry"], ["poly", "x"]⟩,
  ⟨"_law_product", topS 55, ["words", "poly", "x"], ["words"]⟩,
  ⟨"_law_firsts", topS 56, ["points", "seen", "places", "j"], ["points"]⟩,
  ⟨"_law_weights", topS 57, ["points", "places", "y", "entries", "i", "above", "below", "j"], ["points", "places", "y"]⟩,
  ⟨"_law_remainders", topS 58, ["poly", "many", "size", "rows", "i", "rest", "t", "top"], ["poly", "many", "size"]⟩,
  ⟨"_law_multiples", topS 59, ["poly", "many", "size", "rows", "j"], ["poly", "many", "size"]⟩,
  ⟨"_law_judged", topS 60, ["points", "rows", "places", "poly", "y", "other", "size", "many", "single", "inside", "due", "moved", "last", "j", "wrong", "value", "back", "entry", "whole", "more", "paper"], ["points", "rows", "places", "poly", "y", "other"]⟩,
  ⟨"law", topS 61, ["script", "shape", "size", "count", "pool", "number", "points", "rows", "x", "firsts", "places", "many", "poly", "j", "drawn", "other"], ["script"]⟩]

def Pd : List Fd := [
  ⟨1, 1, [(.ret (.and (.isi (.var 0) [.int]) (.not (.isi (.var 0) [.bool]))))]⟩,
  ⟨1, 1, [(.ret (.and (.call 0 [(.var 0)]) (.chn .le .lt (.cst (.int 0)) (.var 0) (.cst (.int 65521)))))]⟩,
  ⟨2, 2, [(.ret (.and (.isi (.var 0) [.tup]) (.cmp .eq (.bi1 .len (.var 0)) (.var 1))))]⟩,
  ⟨3, 2, [(.iff (.not (.call 2 [(.var 0), (.var 1)])) [(.ret (.cst (.bl false)))] []), (.for_ (.nm 2) .of [(.var 0)] [(.iff (.not (.call 1 [(.var 2)])) [(.ret (.cst (.bl false)))] [])]), (.ret (.cst (.bl true)))]⟩,
  ⟨3, 3, [(.iff (.or (.cmp .lt (.var 0) (.var 1)) (.cmp .gt (.var 0) (.var 2))) [.bad] [])]⟩,
  ⟨2, 2, [(.iff (.cmp .gt (.var 0) (.var 1)) [.bad] [])]⟩,
  ⟨5, 2, [(.set 2 (.cst (.int 1))), (.set 3 (.var 0)), (.set 4 (.var 1)), (.whl (.cmp .gt (.var 4) (.cst (.int 0))) [(.iff (.cmp .eq (.bin .mod (.var 4) (.cst (.int 2))) (.cst (.int 1))) [(.set 2 (.bin .mod (.bin .mul (.var 2) (.var 3)) (.cst (.int 65521))))] []), (.set 3 (.bin .mod (.bin .mul (.var 3) (.var 3)) (.cst (.int 65521)))), (.set 4 (.bin .fdiv (.var 4) (.cst (.int 2))))]), (.ret (.var 2))]⟩,
  ⟨1, 1, [(.iff (.cmp .eq (.var 0) (.cst (.int 0))) [.bad] []), (.ret (.call 6 [(.var 0), (.bin .sub (.cst (.int 65521)) (.cst (.int 2)))]))]⟩,
  ⟨5, 2, [(.set 2 (.cst (.int 0))), (.for_ (.tp [3, 4]) .zip [(.var 0), (.var 1)] [(.set 2 (.bin .add (.var 2) (.bin .mul (.var 3) (.var 4))))]), (.ret (.bin .mod (.var 2) (.cst (.int 65521))))]⟩,
  ⟨3, 2, [(.ret (.bi1 .tuple (.lc (.bin .mod (.bin .mul (.var 2) (.var 1)) (.cst (.int 65521))) (.nm 2) .of [(.var 0)] [])))]⟩,
  ⟨4, 2, [(.ret (.bi1 .tuple (.lc (.bin .mod (.bin .add (.var 2) (.var 3)) (.cst (.int 65521))) (.tp [2, 3]) .zip [(.var 0), (.var 1)] [])))]⟩,
  ⟨4, 2, [(.ret (.bi1 .tuple (.lc (.bin .mod (.bin .sub (.var 2) (.var 3)) (.cst (.int 65521))) (.tp [2, 3]) .zip [(.var 0), (.var 1)] [])))]⟩,
  ⟨1, 1, [(.ret (.and (.isi (.var 0) [.tup]) (.and (.chn .le .le (.cst (.int 1)) (.bi1 .len (.var 0)) (.cst (.int 20))) (.call 3 [(.var 0), (.bi1 .len (.var 0))]))))]⟩,
  ⟨3, 1, [(.iff (.not (.isi (.var 0) [.tup])) [.bad] []), (.ex (.call 5 [(.bi1 .len (.var 0)), (.cst (.int 60))])), (.for_ (.tp [1, 2]) .enum [(.var 0)] [(.iff (.or (.not (.call 12 [(.var 2)])) (.cmp .ne (.bi1 .len (.var 2)) (.bi1 .len (.idx (.var 0) (.cst (.int 0)))))) [.bad] [])])]⟩,
  ⟨2, 2, [(.ex (.call 13 [(.var 0)])), (.iff (.or (.not (.call 12 [(.var 1)])) (.and (.cmp .gt (.bi1 .len (.var 0)) (.cst (.int 0))) (.cmp .ne (.bi1 .len (.var 1)) (.bi1 .len (.idx (.var 0) (.cst (.int 0))))))) [.bad] [])]⟩,
  ⟨3, 2, [(.ret (.bi1 .tuple (.lc (.bi1 .int (.cmp .eq (.var 2) (.var 0))) (.nm 2) .rng1 [(.var 1)] [])))]⟩,
  ⟨3, 1, [(.for_ (.tp [1, 2]) .enum [(.var 0)] [(.iff (.cmp .ne (.var 2) (.cst (.int 0))) [(.ret (.var 1))] [])]), (.ret (.neg (.cst (.int 1))))]⟩,
  ⟨5, 2, [(.set 2 (.var 1)), (.for_ (.nm 3) .of [(.var 0)] [(.set 4 (.idx (.var 2) (.call 16 [(.var 3)]))), (.iff (.cmp .ne (.var 4) (.cst (.int 0))) [(.set 2 (.call 11 [(.var 2), (.call 9 [(.var 3), (.var 4)])]))] [])]), (.ret (.var 2))]⟩,
  ⟨2, 2, [(.ret (.cmp .lt (.call 16 [(.call 17 [(.var 0), (.var 1)])]) (.cst (.int 0))))]⟩,
  ⟨7, 2, [(.set 2 (.call 17 [(.var 0), (.var 1)])), (.set 3 (.call 16 [(.var 2)])), (.iff (.cmp .lt (.var 3) (.cst (.int 0))) [(.ret (.var 0))] []), (.set 2 (.call 9 [(.var 2), (.call 7 [(.idx (.var 2) (.var 3))])])), (.set 4 (.lst [])), (.set 5 (.cst (.bl false))), (.for_ (.nm 6) .of [(.var 0)] [(.iff (.and (.not (.var 5)) (.cmp .gt (.call 16 [(.var 6)]) (.var 3))) [(.ex (.mth .append (.var 4) [(.var 2)])), (.set 5 (.cst (.bl true)))] []), (.ex (.mth .append (.var 4) [(.call 11 [(.var 6), (.call 9 [(.var 2), (.idx (.var 6) (.var 3))])])]))]), (.iff (.not (.var 5)) [(.ex (.mth .append (.var 4) [(.var 2)]))] []), (.ret (.bi1 .tuple (.var 4)))]⟩,
  ⟨3, 1, [(.set 1 (.tup [])), (.for_ (.nm 2) .of [(.var 0)] [(.set 1 (.call 19 [(.var 1), (.var 2)]))]), (.ret (.var 1))]⟩,
  ⟨1, 1, [(.ex (.call 13 [(.var 0)])), (.ret (.call 20 [(.var 0)]))]⟩,
  ⟨1, 1, [(.ret (.bi1 .len (.call 21 [(.var 0)])))]⟩,
  ⟨2, 2, [(.ex (.call 14 [(.var 0), (.var 1)])), (.ret (.call 18 [(.call 20 [(.var 0)]), (.var 1)]))]⟩,
  ⟨5, 3, [(.set 3 (.bin .mul (.lst [(.cst (.int 0))]) (.var 2))), (.setI (.var 3) (.var 1) (.cst (.int 1))), (.for_ (.nm 4) .of [(.var 0)] [(.setI (.var 3) (.call 16 [(.var 4)]) (.bin .mod (.bin .sub (.cst (.int 65521)) (.idx (.var 4) (.var 1))) (.cst (.int 65521))))]), (.ret (.bi1 .tuple (.var 3)))]⟩,
  ⟨7, 2, [(.set 2 (.call 21 [(.var 0)])), (.ex (.call 4 [(.var 1), (.cst (.int 1)), (.cst (.int 20))])), (.iff (.and (.cmp .gt (.bi1 .len (.var 0)) (.cst (.int 0))) (.cmp .ne (.bi1 .len (.idx (.var 0) (.cst (.int 0)))) (.var 1))) [.bad] []), (.set 3 (.lc (.call 16 [(.var 4)]) (.nm 4) .of [(.var 2)] [])), (.set 5 (.lc (.var 6) (.nm 6) .rng1 [(.var 1)] [(.cmp .notin (.var 6) (.var 3))])), (.ret (.call 20 [(.lc (.call 24 [(.var 2), (.var 6), (.var 1)]) (.nm 6) .of [(.var 5)] [])]))]⟩,
  ⟨8, 3, [(.set 3 (.var 1)), (.set 4 (.var 2)), (.forR (.tp [5, 6]) (.var 0) [(.set 7 (.idx (.var 3) (.call 16 [(.var 5)]))), (.iff (.cmp .ne (.var 7) (.cst (.int 0))) [(.set 3 (.call 11 [(.var 3), (.call 9 [(.var 5), (.var 7)])])), (.set 4 (.call 11 [(.var 4), (.call 9 [(.var 6), (.var 7)])]))] [])]), (.ret (.tup [(.var 3), (.var 4)]))]⟩,
  ⟨10, 2, [(.set 2 (.box (.lst []))), (.for_ (.tp [3, 4]) .enum [(.var 0)] [(.setT [5, 6] (.call 26 [(.var 2), (.var 4), (.call 15 [(.var 3), (.bi1 .len (.var 0))])])), (.set 7 (.call 16 [(.var 5)])), (.iff (.cmp .ge (.var 7) (.cst (.int 0))) [(.set 8 (.call 7 [(.idx (.var 5) (.var 7))])), (.ex (.mth .append (.var 2) [(.tup [(.call 9 [(.var 5), (.var 8)]), (.call 9 [(.var 6), (.var 8)])])]))] [])]), (.set 9 (.idx (.call 26 [(.var 2), (.var 1), (.bin .mul (.tup [(.cst (.int 0))]) (.bi1 .len (.var 0)))]) (.cst (.int 1)))), (.ret (.call 9 [(.var 9), (.bin .sub (.cst (.int 65521)) (.cst (.int 1)))]))]⟩,
  ⟨6, 2, [(.ex (.call 14 [(.var 0), (.var 1)])), (.set 2 (.call 20 [(.var 0)])), (.set 3 (.call 17 [(.var 2), (.var 1)])), (.set 4 (.call 16 [(.var 3)])), (.iff (.cmp .lt (.var 4) (.cst (.int 0))) [(.ret (.tup [(.cst (.str "sum")), (.call 27 [(.var 0), (.var 1)])]))] []), (.set 5 (.call 24 [(.var 2), (.var 4), (.bi1 .len (.var 1))])), (.ret (.tup [(.cst (.str "apart")), (.call 9 [(.var 5), (.call 7 [(.idx (.var 3) (.var 4))])])]))]⟩,
  ⟨6, 3, [(.ex (.call 14 [(.var 0), (.var 1)])), (.iff (.not (.call 3 [(.var 2), (.bi1 .len (.var 0))])) [(.ret (.cst (.bl false)))] []), (.set 3 (.bin .mul (.tup [(.cst (.int 0))]) (.bi1 .len (.var 1)))), (.for_ (.tp [4, 5]) .zip [(.var 0), (.var 2)] [(.set 3 (.call 10 [(.var 3), (.call 9 [(.var 4), (.var 5)])]))]), (.ret (.cmp .eq (.var 3) (.var 1)))]⟩,
  ⟨4, 3, [(.ex (.call 14 [(.var 0), (.var 1)])), (.iff (.not (.call 3 [(.var 2), (.bi1 .len (.var 1))])) [(.ret (.cst (.bl false)))] []), (.for_ (.nm 3) .of [(.var 0)] [(.iff (.cmp .ne (.call 8 [(.var 2), (.var 3)]) (.cst (.int 0))) [(.ret (.cst (.bl false)))] [])]), (.ret (.cmp .eq (.call 8 [(.var 2), (.var 1)]) (.cst (.int 1))))]⟩,
  ⟨2, 2, [(.iff (.cmp .lt (.var 1) (.bi1 .len (.var 0))) [(.ret (.idx (.var 0) (.var 1)))] []), (.ret (.cst (.int 0)))]⟩,
  ⟨7, 3, [(.set 3 (.lst [])), (.set 4 (.bi1 .abs (.var 0))), (.iff (.cmp .ge (.var 4) (.bin .pow (.cst (.int 10)) (.cst (.int 18)))) [(.for_ (.nm 5) .rng1 [(.var 1)] [(.ex (.mth .append (.var 3) [(.bin .mod (.bi1 .int (.var 4)) (.var 2))])), (.set 4 (.bin .fdiv (.var 4) (.var 2)))]), (.ret (.var 3))] []), (.for_ (.nm 5) .rng1 [(.var 1)] [(.set 6 (.bin .mod (.bi1 .int (.bin .add (.bin .add (.bin .mul (.var 4) (.cst (.int 48271))) (.bin .mul (.var 5) (.cst (.int 69621)))) (.cst (.int 12345)))) (.cst (.int 2147483647)))), (.set 6 (.bin .mod (.bi1 .int (.bin .add (.bin .add (.bin .mul (.var 6) (.var 6)) (.bin .mul (.var 5) (.cst (.int 40692)))) (.var 4))) (.cst (.int 2147483629)))), (.ex (.mth .append (.var 3) [(.bin .mod (.bi1 .int (.bin .fdiv (.var 6) (.cst (.int 7)))) (.var 2))]))]), (.ret (.var 3))]⟩,
  ⟨5, 4, [(.set 4 (.bi1 .abs (.call 31 [(.var 0), (.var 1)]))), (.iff (.cmp .lt (.var 4) (.bin .pow (.cst (.int 10)) (.cst (.int 18)))) [(.set 4 (.bin .add (.bin .mod (.bi1 .int (.var 4)) (.bin .pow (.cst (.int 10)) (.cst (.int 15)))) (.bin .mul (.cst (.int 1000003)) (.var 1))))] []), (.ret (.call 32 [(.var 4), (.var 2), (.var 3)]))]⟩,
  ⟨3, 2, [(.iff (.isi (.var 1) [.tup]) [(.iff (.or (.not (.isi (.var 0) [.tup])) (.cmp .ne (.bi1 .len (.var 0)) (.bi1 .len (.var 1)))) [(.ret (.cst (.bl false)))] []), (.for_ (.nm 2) .rng1 [(.bi1 .len (.var 1))] [(.iff (.not (.call 34 [(.idx (.var 0) (.var 2)), (.idx (.var 1) (.var 2))])) [(.ret (.cst (.bl false)))] [])]), (.ret (.cst (.bl true)))] []), (.iff (.isi (.var 1) [.bool]) [(.ret (.and (.isi (.var 0) [.bool]) (.cmp .eq (.var 0) (.var 1))))] []), (.iff (.isi (.var 1) [.int]) [(.ret (.and (.isi (.var 0) [.int]) (.and (.not (.isi (.var 0) [.bool])) (.cmp .eq (.var 0) (.var 1)))))] []), (.iff (.isi (.var 1) [.str]) [(.ret (.and (.isi (.var 0) [.str]) (.cmp .eq (.var 0) (.var 1))))] []), (.ret (.and (.cmp .is (.var 1) (.cst .non)) (.cmp .is (.var 0) (.cst .non))))]⟩,
  ⟨3, 1, [(.set 1 (.bin .mod (.bi1 .int (.var 0)) (.cst (.int 8)))), (.set 2 (.bin .fdiv (.var 0) (.cst (.int 8)))), (.iff (.cmp .lt (.var 1) (.cst (.int 3))) [(.ret (.cst (.int 0)))] []), (.iff (.cmp .eq (.var 1) (.cst (.int 3))) [(.ret (.bin .add (.cst (.int 1)) (.bin .mod (.bi1 .int (.var 2)) (.cst (.int 4)))))] []), (.iff (.cmp .eq (.var 1) (.cst (.int 4))) [(.ret (.cst (.int 65520)))] []), (.ret (.bin .mod (.bi1 .int (.var 2)) (.cst (.int 65521))))]⟩,
  ⟨5, 1, [(.set 1 (.cst (.int 1))), (.set 2 (.var 0)), (.set 3 (.cst (.int 65519))), (.for_ (.nm 4) .rng1 [(.cst (.int 16))] [(.iff (.cmp .eq (.bin .mod (.bi1 .int (.var 3)) (.cst (.int 2))) (.cst (.int 1))) [(.set 1 (.bin .mod (.bi1 .int (.bin .mul (.var 1) (.var 2))) (.cst (.int 65521))))] []), (.set 2 (.bin .mod (.bi1 .int (.bin .mul (.var 2) (.var 2))) (.cst (.int 65521)))), (.set 3 (.bin .fdiv (.var 3) (.cst (.int 2))))]), (.ret (.var 1))]⟩,
  ⟨4, 3, [(.ret (.lc (.bin .mod (.bi1 .int (.bin .sub (.idx (.var 0) (.var 3)) (.bin .mul (.var 2) (.idx (.var 1) (.var 3))))) (.cst (.int 65521))) (.nm 3) .rng1 [(.bi1 .len (.var 0))] []))]⟩,
  ⟨12, 2, [(.set 2 (.lc (.bi1 .list (.var 3)) (.nm 3) .of [(.var 0)] [])), (.set 4 (.lst [])), (.for_ (.nm 5) .rng1 [(.var 1)] [(.set 6 (.neg (.cst (.int 1)))), (.for_ (.nm 7) .rng1 [(.bi1 .len (.var 2))] [(.iff (.and (.cmp .lt (.var 6) (.cst (.int 0))) (.cmp .ne (.idx (.idx (.var 2) (.var 7)) (.var 5)) (.cst (.int 0)))) [(.set 6 (.var 7))] [])]), (.iff (.cmp .ge (.var 6) (.cst (.int 0))) [(.set 8 (.call 36 [(.idx (.idx (.var 2) (.var 6)) (.var 5))])), (.set 9 (.lc (.bin .mod (.bi1 .int (.bin .mul (.var 10) (.var 8))) (.cst (.int 65521))) (.nm 10) .of [(.idx (.var 2) (.var 6))] [])), (.set 11 (.lc (.idx (.var 2) (.var 7)) (.nm 7) .rng1 [(.bi1 .len (.var 2))] [(.cmp .ne (.var 7) (.var 6))])), (.set 2 (.lc (.call 37 [(.var 3), (.var 9), (.idx (.var 3) (.var 5))]) (.nm 3) .of [(.var 11)] [])), (.set 4 (.lc (.call 37 [(.var 3), (.var 9), (.idx (.var 3) (.var 5))]) (.nm 3) .of [(.var 4)] [])), (.ex (.mth .append (.var 4) [(.var 9)]))] [])]), (.ret (.var 4))]⟩,
  ⟨2, 1, [(.ret (.bi1 .tuple (.lc (.bi1 .tuple (.var 1)) (.nm 1) .of [(.var 0)] [])))]⟩,
  ⟨5, 2, [(.set 2 (.lst [])), (.set 3 (.cst (.int 1))), (.for_ (.nm 4) .rng1 [(.var 1)] [(.ex (.mth .append (.var 2) [(.var 3)])), (.set 3 (.bin .mod (.bi1 .int (.bin .mul (.var 3) (.var 0))) (.cst (.int 65521))))]), (.ret (.bi1 .tuple (.var 2)))]⟩,
  ⟨4, 2, [(.set 2 (.bin .add (.lst [(.cst (.int 0))]) (.bi1 .list (.var 0)))), (.for_ (.nm 3) .rng1 [(.bi1 .len (.var 0))] [(.setI (.var 2) (.var 3) (.bin .mod (.bi1 .int (.bin .sub (.idx (.var 2) (.var 3)) (.bin .mul (.var 1) (.idx (.var 0) (.var 3))))) (.cst (.int 65521))))]), (.ret (.var 2))]⟩,
  ⟨5, 2, [(.set 2 (.cst (.int 0))), (.set 3 (.cst (.int 1))), (.for_ (.nm 4) .of [(.var 0)] [(.set 2 (.bin .mod (.bi1 .int (.bin .add (.var 2) (.bin .mul (.var 4) (.var 3)))) (.cst (.int 65521)))), (.set 3 (.bin .mod (.bi1 .int (.bin .mul (.var 3) (.var 1))) (.cst (.int 65521))))]), (.ret (.var 2))]⟩,
  ⟨3, 1, [(.set 1 (.lst [(.cst (.int 1))])), (.for_ (.nm 2) .of [(.var 0)] [(.set 1 (.call 41 [(.var 1), (.var 2)]))]), (.ret (.var 1))]⟩,
  ⟨4, 1, [(.set 1 (.lst [])), (.set 2 (.lst [])), (.for_ (.nm 3) .rng1 [(.bi1 .len (.var 0))] [(.iff (.cmp .notin (.idx (.var 0) (.var 3)) (.var 1)) [(.ex (.mth .append (.var 1) [(.idx (.var 0) (.var 3))])), (.ex (.mth .append (.var 2) [(.var 3)]))] [])]), (.ret (.var 2))]⟩,
  ⟨8, 3, [(.set 3 (.bin .mul (.lst [(.cst (.int 0))]) (.bi1 .len (.var 0)))), (.for_ (.nm 4) .of [(.var 1)] [(.set 5 (.cst (.int 1))), (.set 6 (.cst (.int 1))), (.for_ (.nm 7) .of [(.var 1)] [(.iff (.cmp .ne (.var 7) (.var 4)) [(.set 5 (.bin .mod (.bi1 .int (.bin .mul (.var 5) (.bin .sub (.var 2) (.idx (.var 0) (.var 7))))) (.cst (.int 65521)))), (.set 6 (.bin .mod (.bi1 .int (.bin .mul (.var 6) (.bin .sub (.idx (.var 0) (.var 4)) (.idx (.var 0) (.var 7))))) (.cst (.int 65521))))] [])]), (.setI (.var 3) (.var 4) (.bin .mod (.bi1 .int (.bin .mul (.var 5) (.call 36 [(.var 6)]))) (.cst (.int 65521))))]), (.ret (.bi1 .tuple (.var 3)))]⟩,
  ⟨8, 3, [(.set 3 (.lst [])), (.iff (.cmp .eq (.var 1) (.cst (.int 0))) [(.ret (.var 3))] []), (.for_ (.nm 4) .rng1 [(.var 1)] [(.ex (.mth .append (.var 3) [(.box (.lst []))]))]), (.set 5 (.bin .mul (.lst [(.cst (.int 0))]) (.var 1))), (.for_ (.nm 6) .rng1 [(.var 2)] [(.iff (.cmp .lt (.var 6) (.var 1)) [(.set 5 (.bin .mul (.lst [(.cst (.int 0))]) (.var 1))), (.setI (.var 5) (.var 6) (.cst (.int 1)))] [(.set 7 (.idx (.var 5) (.bin .sub (.var 1) (.cst (.int 1))))), (.set 5 (.bin .add (.lst [(.cst (.int 0))]) (.slc (.var 5) false (.cst .non) true (.bin .sub (.var 1) (.cst (.int 1)))))), (.set 5 (.call 37 [(.var 5), (.slc (.var 0) false (.cst .non) true (.var 1)), (.var 7)]))]), (.for_ (.nm 4) .rng1 [(.var 1)] [(.ex (.mth .append (.idx (.var 3) (.var 4)) [(.idx (.var 5) (.var 4))]))])]), (.ret (.var 3))]⟩,
  ⟨5, 3, [(.set 3 (.lst [])), (.for_ (.nm 4) .rng1 [(.bin .sub (.var 2) (.var 1))] [(.ex (.mth .append (.var 3) [(.bin .add (.bin .add (.bin .mul (.lst [(.cst (.int 0))]) (.var 4)) (.bi1 .list (.var 0))) (.bin .mul (.lst [(.cst (.int 0))]) (.bin .sub (.bin .sub (.bin .sub (.var 2) (.var 1)) (.cst (.int 1))) (.var 4))))]))]), (.ret (.var 3))]⟩,
  ⟨21, 6, [(.set 6 (.bi1 .len (.idx (.var 1) (.cst (.int 0))))), (.set 7 (.bi1 .len (.var 2))), (.set 8 (.call 40 [(.var 4), (.var 6)])), (.set 9 (.or (.cmp .eq (.var 7) (.var 6)) (.cmp .isin (.var 4) (.var 0)))), (.iff (.not (.call 34 [(.call 23 [(.var 1), (.var 8)]), (.var 9)])) [(.ret (.cst (.bl false)))] []), (.iff (.var 9) [(.set 10 (.call 45 [(.var 0), (.var 2), (.var 4)])), (.set 11 (.bi1 .list (.var 10))), (.set 12 (.bin .sub (.bi1 .len (.var 0)) (.cst (.int 1)))), (.for_ (.nm 13) .of [(.var 2)] [(.iff (.and (.cmp .eq (.idx (.var 0) (.var 12)) (.idx (.var 0) (.var 13))) (.cmp .ne (.var 13) (.var 12))) [(.setI (.var 11) (.var 12) (.idx (.var 10) (.var 13))), (.setI (.var 11) (.var 13) (.cst (.int 0)))] [])]), (.set 14 (.call 45 [(.var 0), (.var 2), (.bin .mod (.bi1 .int (.bin .add (.var 4) (.cst (.int 1)))) (.cst (.int 65521)))])), (.iff (.or (.not (.call 34 [(.call 28 [(.var 1), (.var 8)]), (.tup [(.cst (.str "sum")), (.var 10)])])) (.cmp .isnot (.call 29 [(.var 1), (.var 8), (.var 10)]) (.cst (.bl true)))) [(.ret (.cst (.bl false)))] []), (.iff (.and (.cmp .gt (.var 7) (.cst (.int 1))) (.cmp .isnot (.call 29 [(.var 1), (.var 8), (.var 14)]) (.cst (.bl false)))) [(.ret (.cst (.bl false)))] []), (.ret (.and (.cmp .is (.call 29 [(.var 1), (.var 8), (.bi1 .tuple (.var 11))]) (.cst (.bl true))) (.cmp .is (.call 30 [(.var 1), (.var 8), (.var 8)]) (.cst (.bl false)))))] []), (.set 15 (.call 42 [(.var 3), (.var 4)])), (.set 16 (.call 36 [(.var 15)])), (.set 10 (.bi1 .tuple (.bin .add (.lc (.bin .mod (.bi1 .int (.bin .mul (.var 17) (.var 16))) (.cst (.int 65521))) (.nm 17) .of [(.var 3)] []) (.bin .mul (.lst [(.cst (.int 0))]) (.bin .sub (.bin .sub (.var 6) (.var 7)) (.cst (.int 1))))))), (.iff (.or (.not (.call 34 [(.call 28 [(.var 1), (.var 8)]), (.tup [(.cst (.str "apart")), (.var 10)])])) (.cmp .isnot (.call 30 [(.var 1), (.var 8), (.var 10)]) (.cst (.bl true)))) [(.ret (.cst (.bl false)))] []), (.set 18 (.bi1 .tuple (.bin .add (.bi1 .list (.var 3)) (.bin .mul (.lst [(.cst (.int 0))]) (.bin .sub (.bin .sub (.var 6) (.var 7)) (.cst (.int 1))))))), (.iff (.not (.call 34 [(.call 30 [(.var 1), (.var 8), (.var 18)]), (.cmp .eq (.var 15) (.cst (.int 1)))])) [(.ret (.cst (.bl false)))] []), (.iff (.and (.cmp .lt (.bin .add (.var 7) (.cst (.int 1))) (.var 6)) (.cmp .ne (.var 5) (.var 4))) [(.set 19 (.call 41 [(.var 3), (.var 5)])), (.set 16 (.call 36 [(.call 42 [(.var 19), (.var 4)])])), (.set 20 (.bi1 .tuple (.bin .add (.lc (.bin .mod (.bi1 .int (.bin .mul (.var 17) (.var 16))) (.cst (.int 65521))) (.nm 17) .of [(.var 19)] []) (.bin .mul (.lst [(.cst (.int 0))]) (.bin .sub (.bin .sub (.var 6) (.var 7)) (.cst (.int 2))))))), (.ret (.cmp .is (.call 30 [(.var 1), (.var 8), (.var 20)]) (.cst (.bl true))))] []), (.ret (.cmp .is (.call 29 [(.var 1), (.var 8), (.bin .mul (.tup [(.cst (.int 0))]) (.bi1 .len (.var 1)))]) (.cst (.bl false))))]⟩,
  ⟨16, 1, [(.set 1 (.call 33 [(.var 0), (.cst (.int 0)), (.cst (.int 6)), (.cst (.int 5040))])), (.set 2 (.bin .add (.cst (.int 1)) (.bin .mod (.bi1 .int (.idx (.var 1) (.cst (.int 0)))) (.cst (.int 20))))), (.set 3 (.bin .mod (.bi1 .int (.idx (.var 1) (.cst (.int 1)))) (.cst (.int 61)))), (.set 4 (.lc (.call 35 [(.var 5)]) (.nm 5) .of [(.call 33 [(.var 0), (.cst (.int 1)), (.bin .add (.cst (.int 1)) (.bin .mod (.bi1 .int (.idx (.var 1) (.cst (.int 2)))) (.cst (.int 24)))), (.cst (.int 524168))])] [])), (.set 6 (.lc (.idx (.var 4) (.bin .mod (.bi1 .int (.var 5)) (.bi1 .len (.var 4)))) (.nm 5) .of [(.call 33 [(.var 0), (.cst (.int 2)), (.var 3), (.cst (.int 5040))])] [])), (.set 7 (.bi1 .tuple (.lc (.call 40 [(.var 8), (.var 2)]) (.nm 8) .of [(.var 6)] []))), (.set 9 (.call 44 [(.var 6)])), (.set 10 (.slc (.var 9) false (.cst .non) true (.var 2))), (.set 11 (.bi1 .len (.var 10))), (.set 12 (.call 43 [(.lc (.idx (.var 6) (.var 13)) (.nm 13) .of [(.var 10)] [])])), (.iff (.not (.call 34 [(.call 22 [(.var 7)]), (.var 11)])) [(.ret (.cst (.bl false)))] []), (.iff (.not (.call 34 [(.call 21 [(.var 7)]), (.call 39 [(.call 46 [(.var 12), (.var 11), (.var 2)])])])) [(.ret (.cst (.bl false)))] []), (.iff (.not (.call 34 [(.call 25 [(.var 7), (.var 2)]), (.call 39 [(.call 38 [(.call 47 [(.var 12), (.var 11), (.var 2)]), (.var 2)])])])) [(.ret (.cst (.bl false)))] []), (.set 14 (.call 35 [(.idx (.call 33 [(.var 0), (.cst (.int 3)), (.cst (.int 1)), (.cst (.int 524168))]) (.cst (.int 0)))])), (.iff (.cmp .eq (.var 3) (.cst (.int 0))) [(.ret (.call 34 [(.call 28 [(.var 7), (.call 40 [(.var 14), (.var 2)])]), (.tup [(.cst (.str "apart")), (.bin .add (.tup [(.cst (.int 1))]) (.bin .mul (.tup [(.cst (.int 0))]) (.bin .sub (.var 2) (.cst (.int 1)))))])]))] []), (.set 15 (.bin .mod (.bi1 .int (.bin .add (.bin .add (.var 14) (.cst (.int 1))) (.idx (.var 1) (.cst (.int 4))))) (.cst (.int 65521)))), (.iff (.not (.call 48 [(.var 6), (.var 7), (.var 10), (.var 12), (.idx (.var 6) (.bin .mod (.bi1 .int (.idx (.var 1) (.cst (.int 3)))) (.var 3))), (.var 15)])) [(.ret (.cst (.bl false)))] []), (.ret (.call 48 [(.var 6), (.var 7), (.var 10), (.var 12), (.var 14), (.var 15)]))]⟩]
theorem comp : L.map (cFn T) = Pd.map some := by kernel_rfl
theorem scs : (L.all fun e => C8.scC e.N e.ps (defScope e.st)) = true := by decide +kernel
abbrev spL (K : PySem.W.Frag) : Sp := spF ⟨K, fun _ => 0⟩ 1 (den Pd (40 + 1) 49)
set_option maxHeartbeats 0 in
theorem all_mk {P : Program} {w : World} {K : PySem.W.Frag} {h : Heap} {mg : Str → Option Value} {fa : Addr} (X : K.In h) (G : h.Ns mainGlobals mg) (hfa : mg "law" = some (.ref fa))
    {f0 : Addr} {od0 an0 : Option Addr} {sl0 : Array (Option Value)} {oc0 kV0 dc0 pm0 cd0 ct0 : Value}
    (a0 : PySem.W.nsIn K mainGlobals "is_int" = some (some (.ref f0))) (l0 : K.lookup f0 = some ⟨oc0, od0, .func (PySem.W.fnOf "is_int" "is_int" (defArgs (topS 7)) (defBody (topS 7)) (defScope (topS 7)) .none kV0 dc0 pm0 an0 cd0 ct0), sl0⟩) (c0 : PySem.W.codeIn K cd0 "is_int" = true) (k0 : PySem.W.keepIn K (.ref f0) = true)
    {f1 : Addr} {od1 an1 : Option Addr} {sl1 : Array (Option Value)} {oc1 kV1 dc1 pm1 cd1 ct1 : Value}
    (a1 : PySem.W.nsIn K mainGlobals "is_word" = some (some (.ref f1))) (l1 : K.lookup f1 = some ⟨oc1, od1, .func (PySem.W.fnOf "is_word" "is_word" (defArgs (topS 8)) (defBody (topS 8)) (defScope (topS 8)) .none kV1 dc1 pm1 an1 cd1 ct1), sl1⟩) (c1 : PySem.W.codeIn K cd1 "is_word" = true) (k1 : PySem.W.keepIn K (.ref f1) = true)
    {f2 : Addr} {od2 an2 : Option Addr} {sl2 : Array (Option Value)} {oc2 kV2 dc2 pm2 cd2 ct2 : Value}
    (a2 : PySem.W.nsIn K mainGlobals "is_tuple" = some (some (.ref f2))) (l2 : K.lookup f2 = some ⟨oc2, od2, .func (PySem.W.fnOf "is_tuple" "is_tuple" (defArgs (topS 9)) (defBody (topS 9)) (defScope (topS 9)) .none kV2 dc2 pm2 an2 cd2 ct2), sl2⟩) (c2 : PySem.W.codeIn K cd2 "is_tuple" = true) (k2 : PySem.W.keepIn K (.ref f2) = true)
    {f3 : Addr} {od3 an3 : Option Addr} {sl3 : Array (Option Value)} {oc3 kV3 dc3 pm3 cd3 ct3 : Value}
    (a3 : PySem.W.nsIn K mainGlobals "is_words" = some (some (.ref f3))) (l3 : K.lookup f3 = some ⟨oc3, od3, .func (PySem.W.fnOf "is_words" "is_words" (defArgs (topS 10)) (defBody (topS 10)) (defScope (topS 10)) .none kV3 dc3 pm3 an3 cd3 ct3), sl3⟩) (c3 : PySem.W.codeIn K cd3 "is_words" = true) (k3 : PySem.W.keepIn K (.ref f3) = true)
    {f4 : Addr} {od4 an4 : Option Addr} {sl4 : Array (Option Value)} {oc4 kV4 dc4 pm4 cd4 ct4 : Value}
    (a4 : PySem.W.nsIn K mainGlobals "check_range" = some (some (.ref f4))) (l4 : K.lookup f4 = some ⟨oc4, od4, .func (PySem.W.fnOf "check_range" "check_range" (defArgs (topS 11)) (defBody (topS 11)) (defScope (topS 11)) .none kV4 dc4 pm4 an4 cd4 ct4), sl4⟩) (c4 : PySem.W.codeIn K cd4 "check_range" = true) (k4 : PySem.W.keepIn K (.ref f4) = true)
    {f5 : Addr} {od5 an5 : Option Addr} {sl5 : Array (Option Value)} {oc5 kV5 dc5 pm5 cd5 ct5 : Value}
    (a5 : PySem.W.nsIn K mainGlobals "check_most" = some (some (.ref f5))) (l5 : K.lookup f5 = some ⟨oc5, od5, .func (PySem.W.fnOf "check_most" "check_most" (defArgs (topS 12)) (defBody (topS 12)) (defScope (topS 12)) .none kV5 dc5 pm5 an5 cd5 ct5), sl5⟩) (c5 : PySem.W.codeIn K cd5 "check_most" = true) (k5 : PySem.W.keepIn K (.ref f5) = true)
    {f6 : Addr} {od6 an6 : Option Addr} {sl6 : Array (Option Value)} {oc6 kV6 dc6 pm6 cd6 ct6 : Value}
    (a6 : PySem.W.nsIn K mainGlobals "power" = some (some (.ref f6))) (l6 : K.lookup f6 = some ⟨oc6, od6, .func (PySem.W.fnOf "power" "power" (defArgs (topS 14)) (defBody (topS 14)) (defScope (topS 14)) .none kV6 dc6 pm6 an6 cd6 ct6), sl6⟩) (c6 : PySem.W.codeIn K cd6 "power" = true) (k6 : PySem.W.keepIn K (.ref f6) = true)
    {f7 : Addr} {od7 an7 : Option Addr} {sl7 : Array (Option Value)} {oc7 kV7 dc7 pm7 cd7 ct7 : Value}
    (a7 : PySem.W.nsIn K mainGlobals "inverse" = some (some (.ref f7))) (l7 : K.lookup f7 = some ⟨oc7, od7, .func (PySem.W.fnOf "inverse" "inverse" (defArgs (topS 15)) (defBody (topS 15)) (defScope (topS 15)) .none kV7 dc7 pm7 an7 cd7 ct7), sl7⟩) (c7 : PySem.W.codeIn K cd7 "inverse" = true) (k7 : PySem.W.keepIn K (.ref f7) = true)
    {f8 : Addr} {od8 an8 : Option Addr} {sl8 : Array (Option Value)} {oc8 kV8 dc8 pm8 cd8 ct8 : Value}
    (a8 : PySem.W.nsIn K mainGlobals "dot" = some (some (.ref f8))) (l8 : K.lookup f8 = some ⟨oc8, od8, .func (PySem.W.fnOf "dot" "dot" (defArgs (topS 16)) (defBody (topS 16)) (defScope (topS 16)) .none kV8 dc8 pm8 an8 cd8 ct8), sl8⟩) (c8 : PySem.W.codeIn K cd8 "dot" = true) (k8 : PySem.W.keepIn K (.ref f8) = true)
    {f9 : Addr} {od9 an9 : Option Addr} {sl9 : Array (Option Value)} {oc9 kV9 dc9 pm9 cd9 ct9 : Value}
    (a9 : PySem.W.nsIn K mainGlobals "scaled" = some (some (.ref f9))) (l9 : K.lookup f9 = some ⟨oc9, od9, .func (PySem.W.fnOf "scaled" "scaled" (defArgs (topS 17)) (defBody (topS 17)) (defScope (topS 17)) .none kV9 dc9 pm9 an9 cd9 ct9), sl9⟩) (c9 : PySem.W.codeIn K cd9 "scaled" = true) (k9 : PySem.W.keepIn K (.ref f9) = true)
    {f10 : Addr} {od10 an10 : Option Addr} {sl10 : Array (Option Value)} {oc10 kV10 dc10 pm10 cd10 ct10 : Value}
    (a10 : PySem.W.nsIn K mainGlobals "summed" = some (some (.ref f10))) (l10 : K.lookup f10 = some ⟨oc10, od10, .func (PySem.W.fnOf "summed" "summed" (defArgs (topS 18)) (defBody (topS 18)) (defScope (topS 18)) .none kV10 dc10 pm10 an10 cd10 ct10), sl10⟩) (c10 : PySem.W.codeIn K cd10 "summed" = true) (k10 : PySem.W.keepIn K (.ref f10) = true)
    {f11 : Addr} {od11 an11 : Option Addr} {sl11 : Array (Option Value)} {oc11 kV11 dc11 pm11 cd11 ct11 : Value}
    (a11 : PySem.W.nsIn K mainGlobals "minus" = some (some (.ref f11))) (l11 : K.lookup f11 = some ⟨oc11, od11, .func (PySem.W.fnOf "minus" "minus" (defArgs (topS 19)) (defBody (topS 19)) (defScope (topS 19)) .none kV11 dc11 pm11 an11 cd11 ct11), sl11⟩) (c11 : PySem.W.codeIn K cd11 "minus" = true) (k11 : PySem.W.keepIn K (.ref f11) = true)
    {f12 : Addr} {od12 an12 : Option Addr} {sl12 : Array (Option Value)} {oc12 kV12 dc12 pm12 cd12 ct12 : Value}
    (a12 : PySem.W.nsIn K mainGlobals "_is_row" = some (some (.ref f12))) (l12 : K.lookup f12 = some ⟨oc12, od12, .func (PySem.W.fnOf "_is_row" "_is_row" (defArgs (topS 23)) (defBody (topS 23)) (defScope (topS 23)) .none kV12 dc12 pm12 an12 cd12 ct12), sl12⟩) (c12 : PySem.W.codeIn K cd12 "_is_row" = true) (k12 : PySem.W.keepIn K (.ref f12) = true)
    {f13 : Addr} {od13 an13 : Option Addr} {sl13 : Array (Option Value)} {oc13 kV13 dc13 pm13 cd13 ct13 : Value}
    (a13 : PySem.W.nsIn K mainGlobals "check_space" = some (some (.ref f13))) (l13 : K.lookup f13 = some ⟨oc13, od13, .func (PySem.W.fnOf "check_space" "check_space" (defArgs (topS 24)) (defBody (topS 24)) (defScope (topS 24)) .none kV13 dc13 pm13 an13 cd13 ct13), sl13⟩) (c13 : PySem.W.codeIn K cd13 "check_space" = true) (k13 : PySem.W.keepIn K (.ref f13) = true)
    {f14 : Addr} {od14 an14 : Option Addr} {sl14 : Array (Option Value)} {oc14 kV14 dc14 pm14 cd14 ct14 : Value}
    (a14 : PySem.W.nsIn K mainGlobals "_check_beside" = some (some (.ref f14))) (l14 : K.lookup f14 = some ⟨oc14, od14, .func (PySem.W.fnOf "_check_beside" "_check_beside" (defArgs (topS 25)) (defBody (topS 25)) (defScope (topS 25)) .none kV14 dc14 pm14 an14 cd14 ct14), sl14⟩) (c14 : PySem.W.codeIn K cd14 "_check_beside" = true) (k14 : PySem.W.keepIn K (.ref f14) = true)
    {f15 : Addr} {od15 an15 : Option Addr} {sl15 : Array (Option Value)} {oc15 kV15 dc15 pm15 cd15 ct15 : Value}
    (a15 : PySem.W.nsIn K mainGlobals "unit_row" = some (some (.ref f15))) (l15 : K.lookup f15 = some ⟨oc15, od15, .func (PySem.W.fnOf "unit_row" "unit_row" (defArgs (topS 26)) (defBody (topS 26)) (defScope (topS 26)) .none kV15 dc15 pm15 an15 cd15 ct15), sl15⟩) (c15 : PySem.W.codeIn K cd15 "unit_row" = true) (k15 : PySem.W.keepIn K (.ref f15) = true)
    {f16 : Addr} {od16 an16 : Option Addr} {sl16 : Array (Option Value)} {oc16 kV16 dc16 pm16 cd16 ct16 : Value}
    (a16 : PySem.W.nsIn K mainGlobals "pivot_of" = some (some (.ref f16))) (l16 : K.lookup f16 = some ⟨oc16, od16, .func (PySem.W.fnOf "pivot_of" "pivot_of" (defArgs (topS 27)) (defBody (topS 27)) (defScope (topS 27)) .none kV16 dc16 pm16 an16 cd16 ct16), sl16⟩) (c16 : PySem.W.codeIn K cd16 "pivot_of" = true) (k16 : PySem.W.keepIn K (.ref f16) = true)
    {f17 : Addr} {od17 an17 : Option Addr} {sl17 : Array (Option Value)} {oc17 kV17 dc17 pm17 cd17 ct17 : Value}
    (a17 : PySem.W.nsIn K mainGlobals "rest_of" = some (some (.ref f17))) (l17 : K.lookup f17 = some ⟨oc17, od17, .func (PySem.W.fnOf "rest_of" "rest_of" (defArgs (topS 28)) (defBody (topS 28)) (defScope (topS 28)) .none kV17 dc17 pm17 an17 cd17 ct17), sl17⟩) (c17 : PySem.W.codeIn K cd17 "rest_of" = true) (k17 : PySem.W.keepIn K (.ref f17) = true)
    {f18 : Addr} {od18 an18 : Option Addr} {sl18 : Array (Option Value)} {oc18 kV18 dc18 pm18 cd18 ct18 : Value}
    (a18 : PySem.W.nsIn K mainGlobals "holds" = some (some (.ref f18))) (l18 : K.lookup f18 = some ⟨oc18, od18, .func (PySem.W.fnOf "holds" "holds" (defArgs (topS 29)) (defBody (topS 29)) (defScope (topS 29)) .none kV18 dc18 pm18 an18 cd18 ct18), sl18⟩) (c18 : PySem.W.codeIn K cd18 "holds" = true) (k18 : PySem.W.keepIn K (.ref f18) = true)
    {f19 : Addr} {od19 an19 : Option Addr} {sl19 : Array (Option Value)} {oc19 kV19 dc19 pm19 cd19 ct19 : Value}
    (a19 : PySem.W.nsIn K mainGlobals "joined" = some (some (.ref f19))) (l19 : K.lookup f19 = some ⟨oc19, od19, .func (PySem.W.fnOf "joined" "joined" (defArgs (topS 30)) (defBody (topS 30)) (defScope (topS 30)) .none kV19 dc19 pm19 an19 cd19 ct19), sl19⟩) (c19 : PySem.W.codeIn K cd19 "joined" = true) (k19 : PySem.W.keepIn K (.ref f19) = true)
    {f20 : Addr} {od20 an20 : Option Addr} {sl20 : Array (Option Value)} {oc20 kV20 dc20 pm20 cd20 ct20 : Value}
    (a20 : PySem.W.nsIn K mainGlobals "basis_of" = some (some (.ref f20))) (l20 : K.lookup f20 = some ⟨oc20, od20, .func (PySem.W.fnOf "basis_of" "basis_of" (defArgs (topS 31)) (defBody (topS 31)) (defScope (topS 31)) .none kV20 dc20 pm20 an20 cd20 ct20), sl20⟩) (c20 : PySem.W.codeIn K cd20 "basis_of" = true) (k20 : PySem.W.keepIn K (.ref f20) = true)
    {f21 : Addr} {od21 an21 : Option Addr} {sl21 : Array (Option Value)} {oc21 kV21 dc21 pm21 cd21 ct21 : Value}
    (a21 : PySem.W.nsIn K mainGlobals "reduced" = some (some (.ref f21))) (l21 : K.lookup f21 = some ⟨oc21, od21, .func (PySem.W.fnOf "reduced" "reduced" (defArgs (topS 32)) (defBody (topS 32)) (defScope (topS 32)) .none kV21 dc21 pm21 an21 cd21 ct21), sl21⟩) (c21 : PySem.W.codeIn K cd21 "reduced" = true) (k21 : PySem.W.keepIn K (.ref f21) = true)
    {f22 : Addr} {od22 an22 : Option Addr} {sl22 : Array (Option Value)} {oc22 kV22 dc22 pm22 cd22 ct22 : Value}
    (a22 : PySem.W.nsIn K mainGlobals "rank" = some (some (.ref f22))) (l22 : K.lookup f22 = some ⟨oc22, od22, .func (PySem.W.fnOf "rank" "rank" (defArgs (topS 33)) (defBody (topS 33)) (defScope (topS 33)) .none kV22 dc22 pm22 an22 cd22 ct22), sl22⟩) (c22 : PySem.W.codeIn K cd22 "rank" = true) (k22 : PySem.W.keepIn K (.ref f22) = true)
    {f23 : Addr} {od23 an23 : Option Addr} {sl23 : Array (Option Value)} {oc23 kV23 dc23 pm23 cd23 ct23 : Value}
    (a23 : PySem.W.nsIn K mainGlobals "in_span" = some (some (.ref f23))) (l23 : K.lookup f23 = some ⟨oc23, od23, .func (PySem.W.fnOf "in_span" "in_span" (defArgs (topS 34)) (defBody (topS 34)) (defScope (topS 34)) .none kV23 dc23 pm23 an23 cd23 ct23), sl23⟩) (c23 : PySem.W.codeIn K cd23 "in_span" = true) (k23 : PySem.W.keepIn K (.ref f23) = true)
    {f24 : Addr} {od24 an24 : Option Addr} {sl24 : Array (Option Value)} {oc24 kV24 dc24 pm24 cd24 ct24 : Value}
    (a24 : PySem.W.nsIn K mainGlobals "_functional_at" = some (some (.ref f24))) (l24 : K.lookup f24 = some ⟨oc24, od24, .func (PySem.W.fnOf "_functional_at" "_functional_at" (defArgs (topS 35)) (defBody (topS 35)) (defScope (topS 35)) .none kV24 dc24 pm24 an24 cd24 ct24), sl24⟩) (c24 : PySem.W.codeIn K cd24 "_functional_at" = true) (k24 : PySem.W.keepIn K (.ref f24) = true)
    {f25 : Addr} {od25 an25 : Option Addr} {sl25 : Array (Option Value)} {oc25 kV25 dc25 pm25 cd25 ct25 : Value}
    (a25 : PySem.W.nsIn K mainGlobals "annihilator" = some (some (.ref f25))) (l25 : K.lookup f25 = some ⟨oc25, od25, .func (PySem.W.fnOf "annihilator" "annihilator" (defArgs (topS 36)) (defBody (topS 36)) (defScope (topS 36)) .none kV25 dc25 pm25 an25 cd25 ct25), sl25⟩) (c25 : PySem.W.codeIn K cd25 "annihilator" = true) (k25 : PySem.W.keepIn K (.ref f25) = true)
    {f26 : Addr} {od26 an26 : Option Addr} {sl26 : Array (Option Value)} {oc26 kV26 dc26 pm26 cd26 ct26 : Value}
    (a26 : PySem.W.nsIn K mainGlobals "_cleared_pair" = some (some (.ref f26))) (l26 : K.lookup f26 = some ⟨oc26, od26, .func (PySem.W.fnOf "_cleared_pair" "_cleared_pair" (defArgs (topS 37)) (defBody (topS 37)) (defScope (topS 37)) .none kV26 dc26 pm26 an26 cd26 ct26), sl26⟩) (c26 : PySem.W.codeIn K cd26 "_cleared_pair" = true) (k26 : PySem.W.keepIn K (.ref f26) = true)
    {f27 : Addr} {od27 an27 : Option Addr} {sl27 : Array (Option Value)} {oc27 kV27 dc27 pm27 cd27 ct27 : Value}
    (a27 : PySem.W.nsIn K mainGlobals "_coefficients" = some (some (.ref f27))) (l27 : K.lookup f27 = some ⟨oc27, od27, .func (PySem.W.fnOf "_coefficients" "_coefficients" (defArgs (topS 38)) (defBody (topS 38)) (defScope (topS 38)) .none kV27 dc27 pm27 an27 cd27 ct27), sl27⟩) (c27 : PySem.W.codeIn K cd27 "_coefficients" = true) (k27 : PySem.W.keepIn K (.ref f27) = true)
    {f28 : Addr} {od28 an28 : Option Addr} {sl28 : Array (Option Value)} {oc28 kV28 dc28 pm28 cd28 ct28 : Value}
    (a28 : PySem.W.nsIn K mainGlobals "judge_span" = some (some (.ref f28))) (l28 : K.lookup f28 = some ⟨oc28, od28, .func (PySem.W.fnOf "judge_span" "judge_span" (defArgs (topS 39)) (defBody (topS 39)) (defScope (topS 39)) .none kV28 dc28 pm28 an28 cd28 ct28), sl28⟩) (c28 : PySem.W.codeIn K cd28 "judge_span" = true) (k28 : PySem.W.keepIn K (.ref f28) = true)
    {f29 : Addr} {od29 an29 : Option Addr} {sl29 : Array (Option Value)} {oc29 kV29 dc29 pm29 cd29 ct29 : Value}
    (a29 : PySem.W.nsIn K mainGlobals "is_sum" = some (some (.ref f29))) (l29 : K.lookup f29 = some ⟨oc29, od29, .func (PySem.W.fnOf "is_sum" "is_sum" (defArgs (topS 40)) (defBody (topS 40)) (defScope (topS 40)) .none kV29 dc29 pm29 an29 cd29 ct29), sl29⟩) (c29 : PySem.W.codeIn K cd29 "is_sum" = true) (k29 : PySem.W.keepIn K (.ref f29) = true)
    {f30 : Addr} {od30 an30 : Option Addr} {sl30 : Array (Option Value)} {oc30 kV30 dc30 pm30 cd30 ct30 : Value}
    (a30 : PySem.W.nsIn K mainGlobals "is_apart" = some (some (.ref f30))) (l30 : K.lookup f30 = some ⟨oc30, od30, .func (PySem.W.fnOf "is_apart" "is_apart" (defArgs (topS 41)) (defBody (topS 41)) (defScope (topS 41)) .none kV30 dc30 pm30 an30 cd30 ct30), sl30⟩) (c30 : PySem.W.codeIn K cd30 "is_apart" = true) (k30 : PySem.W.keepIn K (.ref f30) = true)
    {f31 : Addr} {od31 an31 : Option Addr} {sl31 : Array (Option Value)} {oc31 kV31 dc31 pm31 cd31 ct31 : Value}
    (a31 : PySem.W.nsIn K mainGlobals "_law_cell" = some (some (.ref f31))) (l31 : K.lookup f31 = some ⟨oc31, od31, .func (PySem.W.fnOf "_law_cell" "_law_cell" (defArgs (topS 43)) (defBody (topS 43)) (defScope (topS 43)) .none kV31 dc31 pm31 an31 cd31 ct31), sl31⟩) (c31 : PySem.W.codeIn K cd31 "_law_cell" = true) (k31 : PySem.W.keepIn K (.ref f31) = true)
    {f32 : Addr} {od32 an32 : Option Addr} {sl32 : Array (Option Value)} {oc32 kV32 dc32 pm32 cd32 ct32 : Value}
    (a32 : PySem.W.nsIn K mainGlobals "_law_row" = some (some (.ref f32))) (l32 : K.lookup f32 = some ⟨oc32, od32, .func (PySem.W.fnOf "_law_row" "_law_row" (defArgs (topS 44)) (defBody (topS 44)) (defScope (topS 44)) .none kV32 dc32 pm32 an32 cd32 ct32), sl32⟩) (c32 : PySem.W.codeIn K cd32 "_law_row" = true) (k32 : PySem.W.keepIn K (.ref f32) = true)
    {f33 : Addr} {od33 an33 : Option Addr} {sl33 : Array (Option Value)} {oc33 kV33 dc33 pm33 cd33 ct33 : Value}
    (a33 : PySem.W.nsIn K mainGlobals "_law_draw" = some (some (.ref f33))) (l33 : K.lookup f33 = some ⟨oc33, od33, .func (PySem.W.fnOf "_law_draw" "_law_draw" (defArgs (topS 45)) (defBody (topS 45)) (defScope (topS 45)) .none kV33 dc33 pm33 an33 cd33 ct33), sl33⟩) (c33 : PySem.W.codeIn K cd33 "_law_draw" = true) (k33 : PySem.W.keepIn K (.ref f33) = true)
    {f34 : Addr} {od34 an34 : Option Addr} {sl34 : Array (Option Value)} {oc34 kV34 dc34 pm34 cd34 ct34 : Value}
    (a34 : PySem.W.nsIn K mainGlobals "_law_same" = some (some (.ref f34))) (l34 : K.lookup f34 = some ⟨oc34, od34, .func (PySem.W.fnOf "_law_same" "_law_same" (defArgs (topS 46)) (defBody (topS 46)) (defScope (topS 46)) .none kV34 dc34 pm34 an34 cd34 ct34), sl34⟩) (c34 : PySem.W.codeIn K cd34 "_law_same" = true) (k34 : PySem.W.keepIn K (.ref f34) = true)
    {f35 : Addr} {od35 an35 : Option Addr} {sl35 : Array (Option Value)} {oc35 kV35 dc35 pm35 cd35 ct35 : Value}
    (a35 : PySem.W.nsIn K mainGlobals "_law_word" = some (some (.ref f35))) (l35 : K.lookup f35 = some ⟨oc35, od35, .func (PySem.W.fnOf "_law_word" "_law_word" (defArgs (topS 47)) (defBody (topS 47)) (defScope (topS 47)) .none kV35 dc35 pm35 an35 cd35 ct35), sl35⟩) (c35 : PySem.W.codeIn K cd35 "_law_word" = true) (k35 : PySem.W.keepIn K (.ref f35) = true)
    {f36 : Addr} {od36 an36 : Option Addr} {sl36 : Array (Option Value)} {oc36 kV36 dc36 pm36 cd36 ct36 : Value}
    (a36 : PySem.W.nsIn K mainGlobals "_law_inverse" = some (some (.ref f36))) (l36 : K.lookup f36 = some ⟨oc36, od36, .func (PySem.W.fnOf "_law_inverse" "_law_inverse" (defArgs (topS 48)) (defBody (topS 48)) (defScope (topS 48)) .none kV36 dc36 pm36 an36 cd36 ct36), sl36⟩) (c36 : PySem.W.codeIn K cd36 "_law_inverse" = true) (k36 : PySem.W.keepIn K (.ref f36) = true)
    {f37 : Addr} {od37 an37 : Option Addr} {sl37 : Array (Option Value)} {oc37 kV37 dc37 pm37 cd37 ct37 : Value}
    (a37 : PySem.W.nsIn K mainGlobals "_law_less" = some (some (.ref f37))) (l37 : K.lookup f37 = some ⟨oc37, od37, .func (PySem.W.fnOf "_law_less" "_law_less" (defArgs (topS 49)) (defBody (topS 49)) (defScope (topS 49)) .none kV37 dc37 pm37 an37 cd37 ct37), sl37⟩) (c37 : PySem.W.codeIn K cd37 "_law_less" = true) (k37 : PySem.W.keepIn K (.ref f37) = true)
    {f38 : Addr} {od38 an38 : Option Addr} {sl38 : Array (Option Value)} {oc38 kV38 dc38 pm38 cd38 ct38 : Value}
    (a38 : PySem.W.nsIn K mainGlobals "_law_reduced" = some (some (.ref f38))) (l38 : K.lookup f38 = some ⟨oc38, od38, .func (PySem.W.fnOf "_law_reduced" "_law_reduced" (defArgs (topS 50)) (defBody (topS 50)) (defScope (topS 50)) .none kV38 dc38 pm38 an38 cd38 ct38), sl38⟩) (c38 : PySem.W.codeIn K cd38 "_law_reduced" = true) (k38 : PySem.W.keepIn K (.ref f38) = true)
    {f39 : Addr} {od39 an39 : Option Addr} {sl39 : Array (Option Value)} {oc39 kV39 dc39 pm39 cd39 ct39 : Value}
    (a39 : PySem.W.nsIn K mainGlobals "_law_frozen" = some (some (.ref f39))) (l39 : K.lookup f39 = some ⟨oc39, od39, .func (PySem.W.fnOf "_law_frozen" "_law_frozen" (defArgs (topS 51)) (defBody (topS 51)) (defScope (topS 51)) .none kV39 dc39 pm39 an39 cd39 ct39), sl39⟩) (c39 : PySem.W.codeIn K cd39 "_law_frozen" = true) (k39 : PySem.W.keepIn K (.ref f39) = true)
    {f40 : Addr} {od40 an40 : Option Addr} {sl40 : Array (Option Value)} {oc40 kV40 dc40 pm40 cd40 ct40 : Value}
    (a40 : PySem.W.nsIn K mainGlobals "_law_powers" = some (some (.ref f40))) (l40 : K.lookup f40 = some ⟨oc40, od40, .func (PySem.W.fnOf "_law_powers" "_law_powers" (defArgs (topS 52)) (defBody (topS 52)) (defScope (topS 52)) .none kV40 dc40 pm40 an40 cd40 ct40), sl40⟩) (c40 : PySem.W.codeIn K cd40 "_law_powers" = true) (k40 : PySem.W.keepIn K (.ref f40) = true)
    {f41 : Addr} {od41 an41 : Option Addr} {sl41 : Array (Option Value)} {oc41 kV41 dc41 pm41 cd41 ct41 : Value}
    (a41 : PySem.W.nsIn K mainGlobals "_law_times" = some (some (.ref f41))) (l41 : K.lookup f41 = some ⟨oc41, od41, .func (PySem.W.fnOf "_law_times" "_law_times" (defArgs (topS 53)) (defBody (topS 53)) (defScope (topS 53)) .none kV41 dc41 pm41 an41 cd41 ct41), sl41⟩) (c41 : PySem.W.codeIn K cd41 "_law_times" = true) (k41 : PySem.W.keepIn K (.ref f41) = true)
    {f42 : Addr} {od42 an42 : Option Addr} {sl42 : Array (Option Value)} {oc42 kV42 dc42 pm42 cd42 ct42 : Value}
    (a42 : PySem.W.nsIn K mainGlobals "_law_at" = some (some (.ref f42))) (l42 : K.lookup f42 = some ⟨oc42, od42, .func (PySem.W.fnOf "_law_at" "_law_at" (defArgs (topS 54)) (defBody (topS 54)) (defScope (topS 54)) .none kV42 dc42 pm42 an42 cd42 ct42), sl42⟩) (c42 : PySem.W.codeIn K cd42 "_law_at" = true) (k42 : PySem.W.keepIn K (.ref f42) = true)
    {f43 : Addr} {od43 an43 : Option Addr} {sl43 : Array (Option Value)} {oc43 kV43 dc43 pm43 cd43 ct43 : Value}
    (a43 : PySem.W.nsIn K mainGlobals "_law_product" = some (some (.ref f43))) (l43 : K.lookup f43 = some ⟨oc43, od43, .func (PySem.W.fnOf "_law_product" "_law_product" (defArgs (topS 55)) (defBody (topS 55)) (defScope (topS 55)) .none kV43 dc43 pm43 an43 cd43 ct43), sl43⟩) (c43 : PySem.W.codeIn K cd43 "_law_product" = true) (k43 : PySem.W.keepIn K (.ref f43) = true)
    {f44 : Addr} {od44 an44 : Option Addr} {sl44 : Array (Option Value)} {oc44 kV44 dc44 pm44 cd44 ct44 : Value}
    (a44 : PySem.W.nsIn K mainGlobals "_law_firsts" = some (some (.ref f44))) (l44 : K.lookup f44 = some ⟨oc44, od44, .func (PySem.W.fnOf "_law_firsts" "_law_firsts" (defArgs (topS 56)) (defBody (topS 56)) (defScope (topS 56)) .none kV44 dc44 pm44 an44 cd44 ct44), sl44⟩) (c44 : PySem.W.codeIn K cd44 "_law_firsts" = true) (k44 : PySem.W.keepIn K (.ref f44) = true)
    {f45 : Addr} {od45 an45 : Option Addr} {sl45 : Array (Option Value)} {oc45 kV45 dc45 pm45 cd45 ct45 : Value}
    (a45 : PySem.W.nsIn K mainGlobals "_law_weights" = some (some (.ref f45))) (l45 : K.lookup f45 = some ⟨oc45, od45, .func (PySem.W.fnOf "_law_weights" "_law_weights" (defArgs (topS 57)) (defBody (topS 57)) (defScope (topS 57)) .none kV45 dc45 pm45 an45 cd45 ct45), sl45⟩) (c45 : PySem.W.codeIn K cd45 "_law_weights" = true) (k45 : PySem.W.keepIn K (.ref f45) = true)
    {f46 : Addr} {od46 an46 : Option Addr} {sl46 : Array (Option Value)} {oc46 kV46 dc46 pm46 cd46 ct46 : Value}
    (a46 : PySem.W.nsIn K mainGlobals "_law_remainders" = some (some (.ref f46))) (l46 : K.lookup f46 = some ⟨oc46, od46, .func (PySem.W.fnOf "_law_remainders" "_law_remainders" (defArgs (topS 58)) (defBody (topS 58)) (defScope (topS 58)) .none kV46 dc46 pm46 an46 cd46 ct46), sl46⟩) (c46 : PySem.W.codeIn K cd46 "_law_remainders" = true) (k46 : PySem.W.keepIn K (.ref f46) = true)
    {f47 : Addr} {od47 an47 : Option Addr} {sl47 : Array (Option Value)} {oc47 kV47 dc47 pm47 cd47 ct47 : Value}
    (a47 : PySem.W.nsIn K mainGlobals "_law_multiples" = some (some (.ref f47))) (l47 : K.lookup f47 = some ⟨oc47, od47, .func (PySem.W.fnOf "_law_multiples" "_law_multiples" (defArgs (topS 59)) (defBody (topS 59)) (defScope (topS 59)) .none kV47 dc47 pm47 an47 cd47 ct47), sl47⟩) (c47 : PySem.W.codeIn K cd47 "_law_multiples" = true) (k47 : PySem.W.keepIn K (.ref f47) = true)
    {f48 : Addr} {od48 an48 : Option Addr} {sl48 : Array (Option Value)} {oc48 kV48 dc48 pm48 cd48 ct48 : Value}
    (a48 : PySem.W.nsIn K mainGlobals "_law_judged" = some (some (.ref f48))) (l48 : K.lookup f48 = some ⟨oc48, od48, .func (PySem.W.fnOf "_law_judged" "_law_judged" (defArgs (topS 60)) (defBody (topS 60)) (defScope (topS 60)) .none kV48 dc48 pm48 an48 cd48 ct48), sl48⟩) (c48 : PySem.W.codeIn K cd48 "_law_judged" = true) (k48 : PySem.W.keepIn K (.ref f48) = true)
    {f49 : Addr} {od49 an49 : Option Addr} {sl49 : Array (Option Value)} {oc49 kV49 dc49 pm49 cd49 ct49 : Value}
    (a49 : PySem.W.nsIn K mainGlobals "law" = some (some (.ref f49))) (l49 : K.lookup f49 = some ⟨oc49, od49, .func (PySem.W.fnOf "law" "law" (defArgs (topS 61)) (defBody (topS 61)) (defScope (topS 61)) .none kV49 dc49 pm49 an49 cd49 ct49), sl49⟩) (c49 : PySem.W.codeIn K cd49 "law" = true) (k49 : PySem.W.keepIn K (.ref f49) = true)
    {t0 : Tok} (z0 : PySem.W.nsIn K mainGlobals "WORD" = some (some (.int (65521) t0)))
    {t1 : Tok} (z1 : PySem.W.nsIn K mainGlobals "MOST_ROWS" = some (some (.int (60) t1)))
    {t2 : Tok} (z2 : PySem.W.nsIn K mainGlobals "MOST_LENGTH" = some (some (.int (20) t2)))
    (b0 : PySem.W.nsIn K mainGlobals "len" = some none)
    (b1 : PySem.W.nsIn K mainGlobals "abs" = some none)
    (b2 : PySem.W.nsIn K mainGlobals "int" = some none)
    (b3 : PySem.W.nsIn K mainGlobals "tuple" = some none)
    (b4 : PySem.W.nsIn K mainGlobals "list" = some none)
    (b5 : PySem.W.nsIn K mainGlobals "range" = some none)
    (b6 : PySem.W.nsIn K mainGlobals "enumerate" = some none)
    (b7 : PySem.W.nsIn K mainGlobals "zip" = some none)
    (b8 : PySem.W.nsIn K mainGlobals "isinstance" = some none)
    (b9 : PySem.W.nsIn K mainGlobals "bool" = some none)
    (b10 : PySem.W.nsIn K mainGlobals "str" = some none) :
    ∃ fd : FuncData, (∀ (s : Shared) (u : Value), BindsTo s fd ⟨[u], []⟩ [("script", u)]) ∧ ∀ base : Heap, K.In base → base.Ns mainGlobals mg → FnOk P w K mg base (L2.CX P w) (40 + 1) fa fd ["script"] (spF ⟨K, fun _ => 0⟩ 1 (den Pd (40 + 1) 49)) := by
  have U : Setup K mg T L Pd := ⟨rfl, comp, scs,
    (fh_cons (FH.mk' (PySem.W.mg_of X G a0) l0 c0 k0 fun us hl => match us, hl with | [_], _ => rfl) (fh_cons (FH.mk' (PySem.W.mg_of X G a1) l1 c1 k1 fun us hl => match us, hl with | [_], _ => rfl) (fh_cons (FH.mk' (PySem.W.mg_of X G a2) l2 c2 k2 fun us hl => match us, hl with | [_, _], _ => rfl) (fh_cons (FH.mk' (PySem.W.mg_of X G a3) l3 c3 k3 fun us hl => match us, hl with | [_, _], _ => rfl) (fh_cons (FH.mk' (PySem.W.mg_of X G a4) l4 c4 k4 fun us hl => match us, hl with | [_, _, _], _ => rfl) (fh_cons (FH.mk' (PySem.W.mg_of X G a5) l5 c5 k5 fun us hl => match us, hl with | [_, _], _ => rfl) (fh_cons (FH.mk' (PySem.W.mg_of X G a6) l6 c6 k6 fun us hl => match us, hl with | [_, _], _ => rfl) (fh_cons (FH.mk' (PySem.W.mg_of X G a7) l7 c7 k7 fun us hl => match us, hl with | [_], _ => rfl) (fh_cons (FH.mk' (PySem.W.mg_of X G a8) l8 c8 k8 fun us hl => match us, hl with | [_, _], _ => rfl) (fh_cons (FH.mk' (PySem.W.mg_of X G a9) l9 c9 k9 fun us hl => match us, hl with | [_, _], _ => rfl) (fh_cons (FH.mk' (PySem.W.mg_of X G a10) l10 c10 k10 fun us hl => match us, hl with | [_, _], _ => rfl) (fh_cons (FH.mk' (PySem.W.mg_of X G a11) l11 c11 k11 fun us hl => match us, hl with | [_, _], _ => rfl) (fh_cons (FH.mk' (PySem.W.mg_of X G a12) l12 c12 k12 fun us hl => match us, hl with | [_], _ => rfl) (fh_cons (FH.mk' (PySem.W.mg_of X G a13) l13 c13 k13 fun us hl => match us, hl with | [_], _ => rfl) (fh_cons (FH.mk' (PySem.W.mg_of X G a14) l14 c14 k14 fun us hl => match us, hl with | [_, _], _ => rfl) (fh_cons (FH.mk' (PySem.W.mg_of X G a15) l15 c15 k15 fun us hl => match us, hl with | [_, _], _ => rfl) (fh_cons (FH.mk' (PySem.W.mg_of X G a16) l16 c16 k16 fun us hl => match us, hl with | [_], _ => rfl) (fh_cons (FH.mk' (PySem.W.mg_of X G a17) l17 c17 k17 fun us hl => match us, hl with | [_, _], _ => rfl) (fh_cons (FH.mk' (PySem.W.mg_of X G a18) l18 c18 k18 fun us hl => match us, hl with | [_, _], _ => rfl) (fh_cons (FH.mk' (PySem.W.mg_of X G a19) l19 c19 k19 fun us hl => match us, hl with | [_, _], _ => rfl) (fh_cons (FH.mk' (PySem.W.mg_of X G a20) l20 c20 k20 fun us hl => match us, hl with | [_], _ => rfl) (fh_cons (FH.mk' (PySem.W.mg_of X G a21) l21 c21 k21 fun us hl => match us, hl with | [_], _ => rfl) (fh_cons (FH.mk' (PySem.W.mg_of X G a22) l22 c22 k22 fun us hl => match us, hl with | [_], _ => rfl) (fh_cons (FH.mk' (PySem.W.mg_of X G a23) l23 c23 k23 fun us hl => match us, hl with | [_, _], _ => rfl) (fh_cons (FH.mk' (PySem.W.mg_of X G a24) l24 c24 k24 fun us hl => match us, hl with | [_, _, _], _ => rfl) (fh_cons (FH.mk' (PySem.W.mg_of X G a25) l25 c25 k25 fun us hl => match us, hl with | [_, _], _ => rfl) (fh_cons (FH.mk' (PySem.W.mg_of X G a26) l26 c26 k26 fun us hl => match us, hl with | [_, _, _], _ => rfl) (fh_cons (FH.mk' (PySem.W.mg_of X G a27) l27 c27 k27 fun us hl => match us, hl with | [_, _], _ => rfl) (fh_cons (FH.mk' (PySem.W.mg_of X G a28) l28 c28 k28 fun us hl => match us, hl with | [_, _], _ => rfl) (fh_cons (FH.mk' (PySem.W.mg_of X G a29) l29 c29 k29 fun us hl => match us, hl with | [_, _, _], _ => rfl) (fh_cons (FH.mk' (PySem.W.mg_of X G a30) l30 c30 k30 fun us hl => match us, hl with | [_, _, _], _ => rfl) (fh_cons (FH.mk' (PySem.W.mg_of X G a31) l31 c31 k31 fun us hl => match us, hl with | [_, _], _ => rfl) (fh_cons (FH.mk' (PySem.W.mg_of X G a32) l32 c32 k32 fun us hl => match us, hl with | [_, _, _], _ => rfl) (fh_cons (FH.mk' (PySem.W.mg_of X G a33) l33 c33 k33 fun us hl => match us, hl with | [_, _, _, _], _ => rfl) (fh_cons (FH.mk' (PySem.W.mg_of X G a34) l34 c34 k34 fun us hl => match us, hl with | [_, _], _ => rfl) (fh_cons (FH.mk' (PySem.W.mg_of X G a35) l35 c35 k35 fun us hl => match us, hl with | [_], _ => rfl) (fh_cons (FH.mk' (PySem.W.mg_of X G a36) l36 c36 k36 fun us hl => match us, hl with | [_], _ => rfl) (fh_cons (FH.mk' (PySem.W.mg_of X G a37) l37 c37 k37 fun us hl => match us, hl with | [_, _, _], _ => rfl) (fh_cons (FH.mk' (PySem.W.mg_of X G a38) l38 c38 k38 fun us hl => match us, hl with | [_, _], _ => rfl) (fh_cons (FH.mk' (PySem.W.mg_of X G a39) l39 c39 k39 fun us hl => match us, hl with | [_], _ => rfl) (fh_cons (FH.mk' (PySem.W.mg_of X G a40) l40 c40 k40 fun us hl => match us, hl with | [_, _], _ => rfl) (fh_cons (FH.mk' (PySem.W.mg_of X G a41) l41 c41 k41 fun us hl => match us, hl with | [_, _], _ => rfl) (fh_cons (FH.mk' (PySem.W.mg_of X G a42) l42 c42 k42 fun us hl => match us, hl with | [_, _], _ => rfl) (fh_cons (FH.mk' (PySem.W.mg_of X G a43) l43 c43 k43 fun us hl => match us, hl with | [_], _ => rfl) (fh_cons (FH.mk' (PySem.W.mg_of X G a44) l44 c44 k44 fun us hl => match us, hl with | [_], _ => rfl) (fh_cons (FH.mk' (PySem.W.mg_of X G a45) l45 c45 k45 fun us hl => match us, hl with | [_, _, _], _ => rfl) (fh_cons (FH.mk' (PySem.W.mg_of X G a46) l46 c46 k46 fun us hl => match us, hl with | [_, _, _], _ => rfl) (fh_cons (FH.mk' (PySem.W.mg_of X G a47) l47 c47 k47 fun us hl => match us, hl with | [_, _, _], _ => rfl) (fh_cons (FH.mk' (PySem.W.mg_of X G a48) l48 c48 k48 fun us hl => match us, hl with | [_, _, _, _, _, _], _ => rfl) (fh_cons (FH.mk' (PySem.W.mg_of X G a49) l49 c49 k49 fun us hl => match us, hl with | [_], _ => rfl) fh_nil)))))))))))))))))))))))))))))))))))))))))))))))))),
    (csts_cons (cst_int (PySem.W.mg_of X G z0)) (csts_cons (cst_int (PySem.W.mg_of X G z1)) (csts_cons (cst_int (PySem.W.mg_of X G z2)) csts_nil))),
    (blts_cons (PySem.W.mg_none_of X G b0) (blts_cons (PySem.W.mg_none_of X G b1) (blts_cons (PySem.W.mg_none_of X G b2) (blts_cons (PySem.W.mg_none_of X G b3) (blts_cons (PySem.W.mg_none_of X G b4) (blts_cons (PySem.W.mg_none_of X G b5) (blts_cons (PySem.W.mg_none_of X G b6) (blts_cons (PySem.W.mg_none_of X G b7) (blts_cons (PySem.W.mg_none_of X G b8) (blts_cons (PySem.W.mg_none_of X G b9) (blts_cons (PySem.W.mg_none_of X G b10) blts_nil))))))))))), by decide +kernel⟩
  exact law_ok (e := L.getD 49 ⟨"", topS 0, [], []⟩) (d := Pd.getD 49 ⟨0, 0, []⟩) U rfl rfl hfa rfl rfl

theorem dn_is_int (k : Nat) (a0 : D) (η : List AO) : den Pd (k + 1) 0 [a0] η = frOf (exSs (den Pd k) [(.ret (.and (.isi (.var 0) [.int]) (.not (.isi (.var 0) [.bool]))))] [.val a0] η) := (rfl)
theorem dn_is_word (k : Nat) (a0 : D) (η : List AO) : den Pd (k + 1) 1 [a0] η = frOf (exSs (den Pd k) [(.ret (.and (.call 0 [(.var 0)]) (.chn .le .lt (.cst (.int 0)) (.var 0) (.cst (.int 65521)))))] [.val a0] η) := (rfl)
theorem dn_is_tuple (k : Nat) (a0 a1 : D) (η : List AO) : den Pd (k + 1) 2 [a0, a1] η = frOf (exSs (den Pd k) [(.ret (.and (.isi (.var 0) [.tup]) (.cmp .eq (.bi1 .len (.var 0)) (.var 1))))] [.val a0, .val a1] η) := (rfl)
theorem dn_is_words (k : Nat) (a0 a1 : D) (η : List AO) : den Pd (k + 1) 3 [a0, a1] η = frOf (exSs (den Pd k) [(.iff (.not (.call 2 [(.var 0), (.var 1)])) [(.ret (.cst (.bl false)))] []), (.for_ (.nm 2) .of [(.var 0)] [(.iff (.not (.call 1 [(.var 2)])) [(.ret (.cst (.bl false)))] [])]), (.ret (.cst (.bl true)))] [.val a0, .val a1, .un] η) := (rfl)
theorem dn_check_range (k : Nat) (a0 a1 a2 : D) (η : List AO) : den Pd (k + 1) 4 [a0, a1, a2] η = frOf (exSs (den Pd k) [(.iff (.or (.cmp .lt (.var 0) (.var 1)) (.cmp .gt (.var 0) (.var 2))) [.bad] [])] [.val a0, .val a1, .val a2] η) := (rfl)
theorem dn_check_most (k : Nat) (a0 a1 : D) (η : List AO) : den Pd (k + 1) 5 [a0, a1] η = frOf (exSs (den Pd k) [(.iff (.cmp .gt (.var 0) (.var 1)) [.bad] [])] [.val a0, .val a1] η) := (rfl)
theorem dn_power (k : Nat) (a0 a1 : D) (η : List AO) : den Pd (k + 1) 6 [a0, a1] η = frOf (exSs (den Pd k) [(.set 2 (.cst (.int 1))), (.set 3 (.var 0)), (.set 4 (.var 1)), (.whl (.cmp .gt (.var 4) (.cst (.int 0))) [(.iff (.cmp .eq (.bin .mod (.var 4) (.cst (.int 2))) (.cst (.int 1))) [(.set 2 (.bin .mod (.bin .mul (.var 2) (.var 3)) (.cst (.int 65521))))] []), (.set 3 (.bin .mod (.bin .mul (.var 3) (.var 3)) (.cst (.int 65521)))), (.set 4 (.bin .fdiv (.var 4) (.cst (.int 2))))]), (.ret (.var 2))] [.val a0, .val a1, .un, .un, .un] η) := (rfl)
theorem dn_inverse (k : Nat) (a0 : D) (η : List AO) : den Pd (k + 1) 7 [a0] η = frOf (exSs (den Pd k) [(.iff (.cmp .eq (.var 0) (.cst (.int 0))) [.bad] []), (.ret (.call 6 [(.var 0), (.bin .sub (.cst (.int 65521)) (.cst (.int 2)))]))] [.val a0] η) := (rfl)
theorem dn_dot (k : Nat) (a0 a1 : D) (η : List AO) : den Pd (k + 1) 8 [a0, a1] η = frOf (exSs (den Pd k) [(.set 2 (.cst (.int 0))), (.for_ (.tp [3, 4]) .zip [(.var 0), (.var 1)] [(.set 2 (.bin .add (.var 2) (.bin .mul (.var 3) (.var 4))))]), (.ret (.bin .mod (.var 2) (.cst (.int 65521))))] [.val a0, .val a1, .un, .un, .un] η) := (rfl)
theorem dn_scaled (k : Nat) (a0 a1 : D) (η : List AO) : den Pd (k + 1) 9 [a0, a1] η = frOf (exSs (den Pd k) [(.ret (.bi1 .tuple (.lc (.bin .mod (.bin .mul (.var 2) (.var 1)) (.cst (.int 65521))) (.nm 2) .of [(.var 0)] [])))] [.val a0, .val a1, .un] η) := (rfl)
theorem dn_summed (k : Nat) (a0 a1 : D) (η : List AO) : den Pd (k + 1) 10 [a0, a1] η = frOf (exSs (den Pd k) [(.ret (.bi1 .tuple (.lc (.bin .mod (.bin .add (.var 2) (.var 3)) (.cst (.int 65521))) (.tp [2, 3]) .zip [(.var 0), (.var 1)] [])))] [.val a0, .val a1, .un, .un] η) := (rfl)
theorem dn_minus (k : Nat) (a0 a1 : D) (η : List AO) : den Pd (k + 1) 11 [a0, a1] η = frOf (exSs (den Pd k) [(.ret (.bi1 .tuple (.lc (.bin .mod (.bin .sub (.var 2) (.var 3)) (.cst (.int 65521))) (.tp [2, 3]) .zip [(.var 0), (.var 1)] [])))] [.val a0, .val a1, .un, .un] η) := (rfl)
theorem dn_is_row (k : Nat) (a0 : D) (η : List AO) : den Pd (k + 1) 12 [a0] η = frOf (exSs (den Pd k) [(.ret (.and (.isi (.var 0) [.tup]) (.and (.chn .le .le (.cst (.int 1)) (.bi1 .len (.var 0)) (.cst (.int 20))) (.call 3 [(.var 0), (.bi1 .len (.var 0))]))))] [.val a0] η) := (rfl)
theorem dn_check_space (k : Nat) (a0 : D) (η : List AO) : den Pd (k + 1) 13 [a0] η = frOf (exSs (den Pd k) [(.iff (.not (.isi (.var 0) [.tup])) [.bad] []), (.ex (.call 5 [(.bi1 .len (.var 0)), (.cst (.int 60))])), (.for_ (.tp [1, 2]) .enum [(.var 0)] [(.iff (.or (.not (.call 12 [(.var 2)])) (.cmp .ne (.bi1 .len (.var 2)) (.bi1 .len (.idx (.var 0) (.cst (.int 0)))))) [.bad] [])])] [.val a0, .un, .un] η) := (rfl)
theorem dn_check_beside (k : Nat) (a0 a1 : D) (η : List AO) : den Pd (k + 1) 14 [a0, a1] η = frOf (exSs (den Pd k) [(.ex (.call 13 [(.var 0)])), (.iff (.or (.not (.call 12 [(.var 1)])) (.and (.cmp .gt (.bi1 .len (.var 0)) (.cst (.int 0))) (.cmp .ne (.bi1 .len (.var 1)) (.bi1 .len (.idx (.var 0) (.cst (.int 0))))))) [.bad] [])] [.val a0, .val a1] η) := (rfl)
theorem dn_unit_row (k : Nat) (a0 a1 : D) (η : List AO) : den Pd (k + 1) 15 [a0, a1] η = frOf (exSs (den Pd k) [(.ret (.bi1 .tuple (.lc (.bi1 .int (.cmp .eq (.var 2) (.var 0))) (.nm 2) .rng1 [(.var 1)] [])))] [.val a0, .val a1, .un] η) := (rfl)
theorem dn_pivot_of (k : Nat) (a0 : D) (η : List AO) : den Pd (k + 1) 16 [a0] η = frOf (exSs (den Pd k) [(.for_ (.tp [1, 2]) .enum [(.var 0)] [(.iff (.cmp .ne (.var 2) (.cst (.int 0))) [(.ret (.var 1))] [])]), (.ret (.neg (.cst (.int 1))))] [.val a0, .un, .un] η) := (rfl)
theorem dn_rest_of (k : Nat) (a0 a1 : D) (η : List AO) : den Pd (k + 1) 17 [a0, a1] η = frOf (exSs (den Pd k) [(.set 2 (.var 1)), (.for_ (.nm 3) .of [(.var 0)] [(.set 4 (.idx (.var 2) (.call 16 [(.var 3)]))), (.iff (.cmp .ne (.var 4) (.cst (.int 0))) [(.set 2 (.call 11 [(.var 2), (.call 9 [(.var 3), (.var 4)])]))] [])]), (.ret (.var 2))] [.val a0, .val a1, .un, .un, .un] η) := (rfl)
theorem dn_holds (k : Nat) (a0 a1 : D) (η : List AO) : den Pd (k + 1) 18 [a0, a1] η = frOf (exSs (den Pd k) [(.ret (.cmp .lt (.call 16 [(.call 17 [(.var 0), (.var 1)])]) (.cst (.int 0))))] [.val a0, .val a1] η) := (rfl)
theorem dn_joined (k : Nat) (a0 a1 : D) (η : List AO) : den Pd (k + 1) 19 [a0, a1] η = frOf (exSs (den Pd k) [(.set 2 (.call 17 [(.var 0), (.var 1)])), (.set 3 (.call 16 [(.var 2)])), (.iff (.cmp .lt (.var 3) (.cst (.int 0))) [(.ret (.var 0))] []), (.set 2 (.call 9 [(.var 2), (.call 7 [(.idx (.var 2) (.var 3))])])), (.set 4 (.lst [])), (.set 5 (.cst (.bl false))), (.for_ (.nm 6) .of [(.var 0)] [(.iff (.and (.not (.var 5)) (.cmp .gt (.call 16 [(.var 6)]) (.var 3))) [(.ex (.mth .append (.var 4) [(.var 2)])), (.set 5 (.cst (.bl true)))] []), (.ex (.mth .append (.var 4) [(.call 11 [(.var 6), (.call 9 [(.var 2), (.idx (.var 6) (.var 3))])])]))]), (.iff (.not (.var 5)) [(.ex (.mth .append (.var 4) [(.var 2)]))] []), (.ret (.bi1 .tuple (.var 4)))] [.val a0, .val a1, .un, .un, .un, .un, .un] η) := (rfl)
theorem dn_basis_of (k : Nat) (a0 : D) (η : List AO) : den Pd (k + 1) 20 [a0] η = frOf (exSs (den Pd k) [(.set 1 (.tup [])), (.for_ (.nm 2) .of [(.var 0)] [(.set 1 (.call 19 [(.var 1), (.var 2)]))]), (.ret (.var 1))] [.val a0, .un, .un] η) := (rfl)
theorem dn_reduced (k : Nat) (a0 : D) (η : List AO) : den Pd (k + 1) 21 [a0] η = frOf (exSs (den Pd k) [(.ex (.call 13 [(.var 0)])), (.ret (.call 20 [(.var 0)]))] [.val a0] η) := (rfl)
theorem dn_rank (k : Nat) (a0 : D) (η : List AO) : den Pd (k + 1) 22 [a0] η = frOf (exSs (den Pd k) [(.ret (.bi1 .len (.call 21 [(.var 0)])))] [.val a0] η) := (rfl)
theorem dn_in_span (k : Nat) (a0 a1 : D) (η : List AO) : den Pd (k + 1) 23 [a0, a1] η = frOf (exSs (den Pd k) [(.ex (.call 14 [(.var 0), (.var 1)])), (.ret (.call 18 [(.call 20 [(.var 0)]), (.var 1)]))] [.val a0, .val a1] η) := (rfl)
theorem dn_functional_at (k : Nat) (a0 a1 a2 : D) (η : List AO) : den Pd (k + 1) 24 [a0, a1, a2] η = frOf (exSs (den Pd k) [(.set 3 (.bin .mul (.lst [(.cst (.int 0))]) (.var 2))), (.setI (.var 3) (.var 1) (.cst (.int 1))), (.for_ (.nm 4) .of [(.var 0)] [(.setI (.var 3) (.call 16 [(.var 4)]) (.bin .mod (.bin .sub (.cst (.int 65521)) (.idx (.var 4) (.var 1))) (.cst (.int 65521))))]), (.ret (.bi1 .tuple (.var 3)))] [.val a0, .val a1, .val a2, .un, .un] η) := (rfl)
theorem dn_annihilator (k : Nat) (a0 a1 : D) (η : List AO) : den Pd (k + 1) 25 [a0, a1] η = frOf (exSs (den Pd k) [(.set 2 (.call 21 [(.var 0)])), (.ex (.call 4 [(.var 1), (.cst (.int 1)), (.cst (.int 20))])), (.iff (.and (.cmp .gt (.bi1 .len (.var 0)) (.cst (.int 0))) (.cmp .ne (.bi1 .len (.idx (.var 0) (.cst (.int 0)))) (.var 1))) [.bad] []), (.set 3 (.lc (.call 16 [(.var 4)]) (.nm 4) .of [(.var 2)] [])), (.set 5 (.lc (.var 6) (.nm 6) .rng1 [(.var 1)] [(.cmp .notin (.var 6) (.var 3))])), (.ret (.call 20 [(.lc (.call 24 [(.var 2), (.var 6), (.var 1)]) (.nm 6) .of [(.var 5)] [])]))] [.val a0, .val a1, .un, .un, .un, .un, .un] η) := (rfl)
theorem dn_cleared_pair (k : Nat) (a0 a1 a2 : D) (η : List AO) : den Pd (k + 1) 26 [a0, a1, a2] η = frOf (exSs (den Pd k) [(.set 3 (.var 1)), (.set 4 (.var 2)), (.forR (.tp [5, 6]) (.var 0) [(.set 7 (.idx (.var 3) (.call 16 [(.var 5)]))), (.iff (.cmp .ne (.var 7) (.cst (.int 0))) [(.set 3 (.call 11 [(.var 3), (.call 9 [(.var 5), (.var 7)])])), (.set 4 (.call 11 [(.var 4), (.call 9 [(.var 6), (.var 7)])]))] [])]), (.ret (.tup [(.var 3), (.var 4)]))] [.val a0, .val a1, .val a2, .un, .un, .un, .un, .un] η) := (rfl)
theorem dn_coefficients (k : Nat) (a0 a1 : D) (η : List AO) : den Pd (k + 1) 27 [a0, a1] η = frOf (exSs (den Pd k) [(.set 2 (.box (.lst []))), (.for_ (.tp [3, 4]) .enum [(.var 0)] [(.setT [5, 6] (.call 26 [(.var 2), (.var 4), (.call 15 [(.var 3), (.bi1 .len (.var 0))])])), (.set 7 (.call 16 [(.var 5)])), (.iff (.cmp .ge (.var 7) (.cst (.int 0))) [(.set 8 (.call 7 [(.idx (.var 5) (.var 7))])), (.ex (.mth .append (.var 2) [(.tup [(.call 9 [(.var 5), (.var 8)]), (.call 9 [(.var 6), (.var 8)])])]))] [])]), (.set 9 (.idx (.call 26 [(.var 2), (.var 1), (.bin .mul (.tup [(.cst (.int 0))]) (.bi1 .len (.var 0)))]) (.cst (.int 1)))), (.ret (.call 9 [(.var 9), (.bin .sub (.cst (.int 65521)) (.cst (.int 1)))]))] [.val a0, .val a1, .un, .un, .un, .un, .un, .un, .un, .un] η) := (rfl)
theorem dn_judge_span (k : Nat) (a0 a1 : D) (η : List AO) : den Pd (k + 1) 28 [a0, a1] η = frOf (exSs (den Pd k) [(.ex (.call 14 [(.var 0), (.var 1)])), (.set 2 (.call 20 [(.var 0)])), (.set 3 (.call 17 [(.var 2), (.var 1)])), (.set 4 (.call 16 [(.var 3)])), (.iff (.cmp .lt (.var 4) (.cst (.int 0))) [(.ret (.tup [(.cst (.str "sum")), (.call 27 [(.var 0), (.var 1)])]))] []), (.set 5 (.call 24 [(.var 2), (.var 4), (.bi1 .len (.var 1))])), (.ret (.tup [(.cst (.str "apart")), (.call 9 [(.var 5), (.call 7 [(.idx (.var 3) (.var 4))])])]))] [.val a0, .val a1, .un, .un, .un, .un] η) := (rfl)
theorem dn_is_sum (k : Nat) (a0 a1 a2 : D) (η : List AO) : den Pd (k + 1) 29 [a0, a1, a2] η = frOf (exSs (den Pd k) [(.ex (.call 14 [(.var 0), (.var 1)])), (.iff (.not (.call 3 [(.var 2), (.bi1 .len (.var 0))])) [(.ret (.cst (.bl false)))] []), (.set 3 (.bin .mul (.tup [(.cst (.int 0))]) (.bi1 .len (.var 1)))), (.for_ (.tp [4, 5]) .zip [(.var 0), (.var 2)] [(.set 3 (.call 10 [(.var 3), (.call 9 [(.var 4), (.var 5)])]))]), (.ret (.cmp .eq (.var 3) (.var 1)))] [.val a0, .val a1, .val a2, .un, .un, .un] η) := (rfl)
theorem dn_is_apart (k : Nat) (a0 a1 a2 : D) (η : List AO) : den Pd (k + 1) 30 [a0, a1, a2] η = frOf (exSs (den Pd k) [(.ex (.call 14 [(.var 0), (.var 1)])), (.iff (.not (.call 3 [(.var 2), (.bi1 .len (.var 1))])) [(.ret (.cst (.bl false)))] []), (.for_ (.nm 3) .of [(.var 0)] [(.iff (.cmp .ne (.call 8 [(.var 2), (.var 3)]) (.cst (.int 0))) [(.ret (.cst (.bl false)))] [])]), (.ret (.cmp .eq (.call 8 [(.var 2), (.var 1)]) (.cst (.int 1))))] [.val a0, .val a1, .val a2, .un] η) := (rfl)
theorem dn_law_cell (k : Nat) (a0 a1 : D) (η : List AO) : den Pd (k + 1) 31 [a0, a1] η = frOf (exSs (den Pd k) [(.iff (.cmp .lt (.var 1) (.bi1 .len (.var 0))) [(.ret (.idx (.var 0) (.var 1)))] []), (.ret (.cst (.int 0)))] [.val a0, .val a1] η) := (rfl)
theorem dn_law_row (k : Nat) (a0 a1 a2 : D) (η : List AO) : den Pd (k + 1) 32 [a0, a1, a2] η = frOf (exSs (den Pd k) [(.set 3 (.lst [])), (.set 4 (.bi1 .abs (.var 0))), (.iff (.cmp .ge (.var 4) (.bin .pow (.cst (.int 10)) (.cst (.int 18)))) [(.for_ (.nm 5) .rng1 [(.var 1)] [(.ex (.mth .append (.var 3) [(.bin .mod (.bi1 .int (.var 4)) (.var 2))])), (.set 4 (.bin .fdiv (.var 4) (.var 2)))]), (.ret (.var 3))] []), (.for_ (.nm 5) .rng1 [(.var 1)] [(.set 6 (.bin .mod (.bi1 .int (.bin .add (.bin .add (.bin .mul (.var 4) (.cst (.int 48271))) (.bin .mul (.var 5) (.cst (.int 69621)))) (.cst (.int 12345)))) (.cst (.int 2147483647)))), (.set 6 (.bin .mod (.bi1 .int (.bin .add (.bin .add (.bin .mul (.var 6) (.var 6)) (.bin .mul (.var 5) (.cst (.int 40692)))) (.var 4))) (.cst (.int 2147483629)))), (.ex (.mth .append (.var 3) [(.bin .mod (.bi1 .int (.bin .fdiv (.var 6) (.cst (.int 7)))) (.var 2))]))]), (.ret (.var 3))] [.val a0, .val a1, .val a2, .un, .un, .un, .un] η) := (rfl)
theorem dn_law_draw (k : Nat) (a0 a1 a2 a3 : D) (η : List AO) : den Pd (k + 1) 33 [a0, a1, a2, a3] η = frOf (exSs (den Pd k) [(.set 4 (.bi1 .abs (.call 31 [(.var 0), (.var 1)]))), (.iff (.cmp .lt (.var 4) (.bin .pow (.cst (.int 10)) (.cst (.int 18)))) [(.set 4 (.bin .add (.bin .mod (.bi1 .int (.var 4)) (.bin .pow (.cst (.int 10)) (.cst (.int 15)))) (.bin .mul (.cst (.int 1000003)) (.var 1))))] []), (.ret (.call 32 [(.var 4), (.var 2), (.var 3)]))] [.val a0, .val a1, .val a2, .val a3, .un] η) := (rfl)
theorem dn_law_same (k : Nat) (a0 a1 : D) (η : List AO) : den Pd (k + 1) 34 [a0, a1] η = frOf (exSs (den Pd k) [(.iff (.isi (.var 1) [.tup]) [(.iff (.or (.not (.isi (.var 0) [.tup])) (.cmp .ne (.bi1 .len (.var 0)) (.bi1 .len (.var 1)))) [(.ret (.cst (.bl false)))] []), (.for_ (.nm 2) .rng1 [(.bi1 .len (.var 1))] [(.iff (.not (.call 34 [(.idx (.var 0) (.var 2)), (.idx (.var 1) (.var 2))])) [(.ret (.cst (.bl false)))] [])]), (.ret (.cst (.bl true)))] []), (.iff (.isi (.var 1) [.bool]) [(.ret (.and (.isi (.var 0) [.bool]) (.cmp .eq (.var 0) (.var 1))))] []), (.iff (.isi (.var 1) [.int]) [(.ret (.and (.isi (.var 0) [.int]) (.and (.not (.isi (.var 0) [.bool])) (.cmp .eq (.var 0) (.var 1)))))] []), (.iff (.isi (.var 1) [.str]) [(.ret (.and (.isi (.var 0) [.str]) (.cmp .eq (.var 0) (.var 1))))] []), (.ret (.and (.cmp .is (.var 1) (.cst .non)) (.cmp .is (.var 0) (.cst .non))))] [.val a0, .val a1, .un] η) := (rfl)
theorem dn_law_word (k : Nat) (a0 : D) (η : List AO) : den Pd (k + 1) 35 [a0] η = frOf (exSs (den Pd k) [(.set 1 (.bin .mod (.bi1 .int (.var 0)) (.cst (.int 8)))), (.set 2 (.bin .fdiv (.var 0) (.cst (.int 8)))), (.iff (.cmp .lt (.var 1) (.cst (.int 3))) [(.ret (.cst (.int 0)))] []), (.iff (.cmp .eq (.var 1) (.cst (.int 3))) [(.ret (.bin .add (.cst (.int 1)) (.bin .mod (.bi1 .int (.var 2)) (.cst (.int 4)))))] []), (.iff (.cmp .eq (.var 1) (.cst (.int 4))) [(.ret (.cst (.int 65520)))] []), (.ret (.bin .mod (.bi1 .int (.var 2)) (.cst (.int 65521))))] [.val a0, .un, .un] η) := (rfl)
theorem dn_law_inverse (k : Nat) (a0 : D) (η : List AO) : den Pd (k + 1) 36 [a0] η = frOf (exSs (den Pd k) [(.set 1 (.cst (.int 1))), (.set 2 (.var 0)), (.set 3 (.cst (.int 65519))), (.for_ (.nm 4) .rng1 [(.cst (.int 16))] [(.iff (.cmp .eq (.bin .mod (.bi1 .int (.var 3)) (.cst (.int 2))) (.cst (.int 1))) [(.set 1 (.bin .mod (.bi1 .int (.bin .mul (.var 1) (.var 2))) (.cst (.int 65521))))] []), (.set 2 (.bin .mod (.bi1 .int (.bin .mul (.var 2) (.var 2))) (.cst (.int 65521)))), (.set 3 (.bin .fdiv (.var 3) (.cst (.int 2))))]), (.ret (.var 1))] [.val a0, .un, .un, .un, .un] η) := (rfl)
theorem dn_law_less (k : Nat) (a0 a1 a2 : D) (η : List AO) : den Pd (k + 1) 37 [a0, a1, a2] η = frOf (exSs (den Pd k) [(.ret (.lc (.bin .mod (.bi1 .int (.bin .sub (.idx (.var 0) (.var 3)) (.bin .mul (.var 2) (.idx (.var 1) (.var 3))))) (.cst (.int 65521))) (.nm 3) .rng1 [(.bi1 .len (.var 0))] []))] [.val a0, .val a1, .val a2, .un] η) := (rfl)
theorem dn_law_reduced (k : Nat) (a0 a1 : D) (η : List AO) : den Pd (k + 1) 38 [a0, a1] η = frOf (exSs (den Pd k) [(.set 2 (.lc (.bi1 .list (.var 3)) (.nm 3) .of [(.var 0)] [])), (.set 4 (.lst [])), (.for_ (.nm 5) .rng1 [(.var 1)] [(.set 6 (.neg (.cst (.int 1)))), (.for_ (.nm 7) .rng1 [(.bi1 .len (.var 2))] [(.iff (.and (.cmp .lt (.var 6) (.cst (.int 0))) (.cmp .ne (.idx (.idx (.var 2) (.var 7)) (.var 5)) (.cst (.int 0)))) [(.set 6 (.var 7))] [])]), (.iff (.cmp .ge (.var 6) (.cst (.int 0))) [(.set 8 (.call 36 [(.idx (.idx (.var 2) (.var 6)) (.var 5))])), (.set 9 (.lc (.bin .mod (.bi1 .int (.bin .mul (.var 10) (.var 8))) (.cst (.int 65521))) (.nm 10) .of [(.idx (.var 2) (.var 6))] [])), (.set 11 (.lc (.idx (.var 2) (.var 7)) (.nm 7) .rng1 [(.bi1 .len (.var 2))] [(.cmp .ne (.var 7) (.var 6))])), (.set 2 (.lc (.call 37 [(.var 3), (.var 9), (.idx (.var 3) (.var 5))]) (.nm 3) .of [(.var 11)] [])), (.set 4 (.lc (.call 37 [(.var 3), (.var 9), (.idx (.var 3) (.var 5))]) (.nm 3) .of [(.var 4)] [])), (.ex (.mth .append (.var 4) [(.var 9)]))] [])]), (.ret (.var 4))] [.val a0, .val a1, .un, .un, .un, .un, .un, .un, .un, .un, .un, .un] η) := (rfl)
theorem dn_law_frozen (k : Nat) (a0 : D) (η : List AO) : den Pd (k + 1) 39 [a0] η = frOf (exSs (den Pd k) [(.ret (.bi1 .tuple (.lc (.bi1 .tuple (.var 1)) (.nm 1) .of [(.var 0)] [])))] [.val a0, .un] η) := (rfl)
theorem dn_law_powers (k : Nat) (a0 a1 : D) (η : List AO) : den Pd (k + 1) 40 [a0, a1] η = frOf (exSs (den Pd k) [(.set 2 (.lst [])), (.set 3 (.cst (.int 1))), (.for_ (.nm 4) .rng1 [(.var 1)] [(.ex (.mth .append (.var 2) [(.var 3)])), (.set 3 (.bin .mod (.bi1 .int (.bin .mul (.var 3) (.var 0))) (.cst (.int 65521))))]), (.ret (.bi1 .tuple (.var 2)))] [.val a0, .val a1, .un, .un, .un] η) := (rfl)
theorem dn_law_times (k : Nat) (a0 a1 : D) (η : List AO) : den Pd (k + 1) 41 [a0, a1] η = frOf (exSs (den Pd k) [(.set 2 (.bin .add (.lst [(.cst (.int 0))]) (.bi1 .list (.var 0)))), (.for_ (.nm 3) .rng1 [(.bi1 .len (.var 0))] [(.setI (.var 2) (.var 3) (.bin .mod (.bi1 .int (.bin .sub (.idx (.var 2) (.var 3)) (.bin .mul (.var 1) (.idx (.var 0) (.var 3))))) (.cst (.int 65521))))]), (.ret (.var 2))] [.val a0, .val a1, .un, .un] η) := (rfl)
theorem dn_law_at (k : Nat) (a0 a1 : D) (η : List AO) : den Pd (k + 1) 42 [a0, a1] η = frOf (exSs (den Pd k) [(.set 2 (.cst (.int 0))), (.set 3 (.cst (.int 1))), (.for_ (.nm 4) .of [(.var 0)] [(.set 2 (.bin .mod (.bi1 .int (.bin .add (.var 2) (.bin .mul (.var 4) (.var 3)))) (.cst (.int 65521)))), (.set 3 (.bin .mod (.bi1 .int (.bin .mul (.var 3) (.var 1))) (.cst (.int 65521))))]), (.ret (.var 2))] [.val a0, .val a1, .un, .un, .un] η) := (rfl)
theorem dn_law_product (k : Nat) (a0 : D) (η : List AO) : den Pd (k + 1) 43 [a0] η = frOf (exSs (den Pd k) [(.set 1 (.lst [(.cst (.int 1))])), (.for_ (.nm 2) .of [(.var 0)] [(.set 1 (.call 41 [(.var 1), (.var 2)]))]), (.ret (.var 1))] [.val a0, .un, .un] η) := (rfl)
theorem dn_law_firsts (k : Nat) (a0 : D) (η : List AO) : den Pd (k + 1) 44 [a0] η = frOf (exSs (den Pd k) [(.set 1 (.lst [])), (.set 2 (.lst [])), (.for_ (.nm 3) .rng1 [(.bi1 .len (.var 0))] [(.iff (.cmp .notin (.idx (.var 0) (.var 3)) (.var 1)) [(.ex (.mth .append (.var 1) [(.idx (.var 0) (.var 3))])), (.ex (.mth .append (.var 2) [(.var 3)]))] [])]), (.ret (.var 2))] [.val a0, .un, .un, .un] η) := (rfl)
theorem dn_law_weights (k : Nat) (a0 a1 a2 : D) (η : List AO) : den Pd (k + 1) 45 [a0, a1, a2] η = frOf (exSs (den Pd k) [(.set 3 (.bin .mul (.lst [(.cst (.int 0))]) (.bi1 .len (.var 0)))), (.for_ (.nm 4) .of [(.var 1)] [(.set 5 (.cst (.int 1))), (.set 6 (.cst (.int 1))), (.for_ (.nm 7) .of [(.var 1)] [(.iff (.cmp .ne (.var 7) (.var 4)) [(.set 5 (.bin .mod (.bi1 .int (.bin .mul (.var 5) (.bin .sub (.var 2) (.idx (.var 0) (.var 7))))) (.cst (.int 65521)))), (.set 6 (.bin .mod (.bi1 .int (.bin .mul (.var 6) (.bin .sub (.idx (.var 0) (.var 4)) (.idx (.var 0) (.var 7))))) (.cst (.int 65521))))] [])]), (.setI (.var 3) (.var 4) (.bin .mod (.bi1 .int (.bin .mul (.var 5) (.call 36 [(.var 6)]))) (.cst (.int 65521))))]), (.ret (.bi1 .tuple (.var 3)))] [.val a0, .val a1, .val a2, .un, .un, .un, .un, .un] η) := (rfl)
theorem dn_law_remainders (k : Nat) (a0 a1 a2 : D) (η : List AO) : den Pd (k + 1) 46 [a0, a1, a2] η = frOf (exSs (den Pd k) [(.set 3 (.lst [])), (.iff (.cmp .eq (.var 1) (.cst (.int 0))) [(.ret (.var 3))] []), (.for_ (.nm 4) .rng1 [(.var 1)] [(.ex (.mth .append (.var 3) [(.box (.lst []))]))]), (.set 5 (.bin .mul (.lst [(.cst (.int 0))]) (.var 1))), (.for_ (.nm 6) .rng1 [(.var 2)] [(.iff (.cmp .lt (.var 6) (.var 1)) [(.set 5 (.bin .mul (.lst [(.cst (.int 0))]) (.var 1))), (.setI (.var 5) (.var 6) (.cst (.int 1)))] [(.set 7 (.idx (.var 5) (.bin .sub (.var 1) (.cst (.int 1))))), (.set 5 (.bin .add (.lst [(.cst (.int 0))]) (.slc (.var 5) false (.cst .non) true (.bin .sub (.var 1) (.cst (.int 1)))))), (.set 5 (.call 37 [(.var 5), (.slc (.var 0) false (.cst .non) true (.var 1)), (.var 7)]))]), (.for_ (.nm 4) .rng1 [(.var 1)] [(.ex (.mth .append (.idx (.var 3) (.var 4)) [(.idx (.var 5) (.var 4))]))])]), (.ret (.var 3))] [.val a0, .val a1, .val a2, .un, .un, .un, .un, .un] η) := (rfl)
theorem dn_law_multiples (k : Nat) (a0 a1 a2 : D) (η : List AO) : den Pd (k + 1) 47 [a0, a1, a2] η = frOf (exSs (den Pd k) [(.set 3 (.lst [])), (.for_ (.nm 4) .rng1 [(.bin .sub (.var 2) (.var 1))] [(.ex (.mth .append (.var 3) [(.bin .add (.bin .add (.bin .mul (.lst [(.cst (.int 0))]) (.var 4)) (.bi1 .list (.var 0))) (.bin .mul (.lst [(.cst (.int 0))]) (.bin .sub (.bin .sub (.bin .sub (.var 2) (.var 1)) (.cst (.int 1))) (.var 4))))]))]), (.ret (.var 3))] [.val a0, .val a1, .val a2, .un, .un] η) := (rfl)
theorem dn_law_judged (k : Nat) (a0 a1 a2 a3 a4 a5 : D) (η : List AO) : den Pd (k + 1) 48 [a0, a1, a2, a3, a4, a5] η = frOf (exSs (den Pd k) [(.set 6 (.bi1 .len (.idx (.var 1) (.cst (.int 0))))), (.set 7 (.bi1 .len (.var 2))), (.set 8 (.call 40 [(.var 4), (.var 6)])), (.set 9 (.or (.cmp .eq (.var 7) (.var 6)) (.cmp .isin (.var 4) (.var 0)))), (.iff (.not (.call 34 [(.call 23 [(.var 1), (.var 8)]), (.var 9)])) [(.ret (.cst (.bl false)))] []), (.iff (.var 9) [(.set 10 (.call 45 [(.var 0), (.var 2), (.var 4)])), (.set 11 (.bi1 .list (.var 10))), (.set 12 (.bin .sub (.bi1 .len (.var 0)) (.cst (.int 1)))), (.for_ (.nm 13) .of [(.var 2)] [(.iff (.and (.cmp .eq (.idx (.var 0) (.var 12)) (.idx (.var 0) (.var 13))) (.cmp .ne (.var 13) (.var 12))) [(.setI (.var 11) (.var 12) (.idx (.var 10) (.var 13))), (.setI (.var 11) (.var 13) (.cst (.int 0)))] [])]), (.set 14 (.call 45 [(.var 0), (.var 2), (.bin .mod (.bi1 .int (.bin .add (.var 4) (.cst (.int 1)))) (.cst (.int 65521)))])), (.iff (.or (.not (.call 34 [(.call 28 [(.var 1), (.var 8)]), (.tup [(.cst (.str "sum")), (.var 10)])])) (.cmp .isnot (.call 29 [(.var 1), (.var 8), (.var 10)]) (.cst (.bl true)))) [(.ret (.cst (.bl false)))] []), (.iff (.and (.cmp .gt (.var 7) (.cst (.int 1))) (.cmp .isnot (.call 29 [(.var 1), (.var 8), (.var 14)]) (.cst (.bl false)))) [(.ret (.cst (.bl false)))] []), (.ret (.and (.cmp .is (.call 29 [(.var 1), (.var 8), (.bi1 .tuple (.var 11))]) (.cst (.bl true))) (.cmp .is (.call 30 [(.var 1), (.var 8), (.var 8)]) (.cst (.bl false)))))] []), (.set 15 (.call 42 [(.var 3), (.var 4)])), (.set 16 (.call 36 [(.var 15)])), (.set 10 (.bi1 .tuple (.bin .add (.lc (.bin .mod (.bi1 .int (.bin .mul (.var 17) (.var 16))) (.cst (.int 65521))) (.nm 17) .of [(.var 3)] []) (.bin .mul (.lst [(.cst (.int 0))]) (.bin .sub (.bin .sub (.var 6) (.var 7)) (.cst (.int 1))))))), (.iff (.or (.not (.call 34 [(.call 28 [(.var 1), (.var 8)]), (.tup [(.cst (.str "apart")), (.var 10)])])) (.cmp .isnot (.call 30 [(.var 1), (.var 8), (.var 10)]) (.cst (.bl true)))) [(.ret (.cst (.bl false)))] []), (.set 18 (.bi1 .tuple (.bin .add (.bi1 .list (.var 3)) (.bin .mul (.lst [(.cst (.int 0))]) (.bin .sub (.bin .sub (.var 6) (.var 7)) (.cst (.int 1))))))), (.iff (.not (.call 34 [(.call 30 [(.var 1), (.var 8), (.var 18)]), (.cmp .eq (.var 15) (.cst (.int 1)))])) [(.ret (.cst (.bl false)))] []), (.iff (.and (.cmp .lt (.bin .add (.var 7) (.cst (.int 1))) (.var 6)) (.cmp .ne (.var 5) (.var 4))) [(.set 19 (.call 41 [(.var 3), (.var 5)])), (.set 16 (.call 36 [(.call 42 [(.var 19), (.var 4)])])), (.set 20 (.bi1 .tuple (.bin .add (.lc (.bin .mod (.bi1 .int (.bin .mul (.var 17) (.var 16))) (.cst (.int 65521))) (.nm 17) .of [(.var 19)] []) (.bin .mul (.lst [(.cst (.int 0))]) (.bin .sub (.bin .sub (.var 6) (.var 7)) (.cst (.int 2))))))), (.ret (.cmp .is (.call 30 [(.var 1), (.var 8), (.var 20)]) (.cst (.bl true))))] []), (.ret (.cmp .is (.call 29 [(.var 1), (.var 8), (.bin .mul (.tup [(.cst (.int 0))]) (.bi1 .len (.var 1)))]) (.cst (.bl false))))] [.val a0, .val a1, .val a2, .val a3, .val a4, .val a5, .un, .un, .un, .un, .un, .un, .un, .un, .un, .un, .un, .un, .un, .un, .un] η) := (rfl)
theorem dn_law (k : Nat) (a0 : D) (η : List AO) : den Pd (k + 1) 49 [a0] η = frOf (exSs (den Pd k) [(.set 1 (.call 33 [(.var 0), (.cst (.int 0)), (.cst (.int 6)), (.cst (.int 5040))])), (.set 2 (.bin .add (.cst (.int 1)) (.bin .mod (.bi1 .int (.idx (.var 1) (.cst (.int 0)))) (.cst (.int 20))))), (.set 3 (.bin .mod (.bi1 .int (.idx (.var 1) (.cst (.int 1)))) (.cst (.int 61)))), (.set 4 (.lc (.call 35 [(.var 5)]) (.nm 5) .of [(.call 33 [(.var 0), (.cst (.int 1)), (.bin .add (.cst (.int 1)) (.bin .mod (.bi1 .int (.idx (.var 1) (.cst (.int 2)))) (.cst (.int 24)))), (.cst (.int 524168))])] [])), (.set 6 (.lc (.idx (.var 4) (.bin .mod (.bi1 .int (.var 5)) (.bi1 .len (.var 4)))) (.nm 5) .of [(.call 33 [(.var 0), (.cst (.int 2)), (.var 3), (.cst (.int 5040))])] [])), (.set 7 (.bi1 .tuple (.lc (.call 40 [(.var 8), (.var 2)]) (.nm 8) .of [(.var 6)] []))), (.set 9 (.call 44 [(.var 6)])), (.set 10 (.slc (.var 9) false (.cst .non) true (.var 2))), (.set 11 (.bi1 .len (.var 10))), (.set 12 (.call 43 [(.lc (.idx (.var 6) (.var 13)) (.nm 13) .of [(.var 10)] [])])), (.iff (.not (.call 34 [(.call 22 [(.var 7)]), (.var 11)])) [(.ret (.cst (.bl false)))] []), (.iff (.not (.call 34 [(.call 21 [(.var 7)]), (.call 39 [(.call 46 [(.var 12), (.var 11), (.var 2)])])])) [(.ret (.cst (.bl false)))] []), (.iff (.not (.call 34 [(.call 25 [(.var 7), (.var 2)]), (.call 39 [(.call 38 [(.call 47 [(.var 12), (.var 11), (.var 2)]), (.var 2)])])])) [(.ret (.cst (.bl false)))] []), (.set 14 (.call 35 [(.idx (.call 33 [(.var 0), (.cst (.int 3)), (.cst (.int 1)), (.cst (.int 524168))]) (.cst (.int 0)))])), (.iff (.cmp .eq (.var 3) (.cst (.int 0))) [(.ret (.call 34 [(.call 28 [(.var 7), (.call 40 [(.var 14), (.var 2)])]), (.tup [(.cst (.str "apart")), (.bin .add (.tup [(.cst (.int 1))]) (.bin .mul (.tup [(.cst (.int 0))]) (.bin .sub (.var 2) (.cst (.int 1)))))])]))] []), (.set 15 (.bin .mod (.bi1 .int (.bin .add (.bin .add (.var 14) (.cst (.int 1))) (.idx (.var 1) (.cst (.int 4))))) (.cst (.int 65521)))), (.iff (.not (.call 48 [(.var 6), (.var 7), (.var 10), (.var 12), (.idx (.var 6) (.bin .mod (.bi1 .int (.idx (.var 1) (.cst (.int 3)))) (.var 3))), (.var 15)])) [(.ret (.cst (.bl false)))] []), (.ret (.call 48 [(.var 6), (.var 7), (.var 10), (.var 12), (.var 14), (.var 15)]))] [.val a0, .un, .un, .un, .un, .un, .un, .un, .un, .un, .un, .un, .un, .un, .un, .un] η) := (rfl)
abbrev j_is_int : Nat := 0
abbrev j_is_word : Nat := 1
abbrev j_is_tuple : Nat := 2
abbrev j_is_words : Nat := 3
abbrev j_check_range : Nat := 4
abbrev j_check_most : Nat := 5
abbrev j_power : Nat := 6
abbrev j_inverse : Nat := 7
abbrev j_dot : Nat := 8
abbrev j_scaled : Nat := 9
abbrev j_summed : Nat := 10
abbrev j_minus : Nat := 11
abbrev j_is_row : Nat := 12
abbrev j_check_space : Nat := 13
abbrev j_check_beside : Nat := 14
abbrev j_unit_row : Nat := 15
abbrev j_pivot_of : Nat := 16
abbrev j_rest_of : Nat := 17
abbrev j_holds : Nat := 18
abbrev j_joined : Nat := 19
abbrev j_basis_of : Nat := 20
abbrev j_reduced : Nat := 21
abbrev j_rank : Nat := 22
abbrev j_in_span : Nat := 23
abbrev j_functional_at : Nat := 24
abbrev j_annihilator : Nat := 25
abbrev j_cleared_pair : Nat := 26
abbrev j_coefficients : Nat := 27
abbrev j_judge_span : Nat := 28
abbrev j_is_sum : Nat := 29
abbrev j_is_apart : Nat := 30
abbrev j_law_cell : Nat := 31
abbrev j_law_row : Nat := 32
abbrev j_law_draw : Nat := 33
abbrev j_law_same : Nat := 34
abbrev j_law_word : Nat := 35
abbrev j_law_inverse : Nat := 36
abbrev j_law_less : Nat := 37
abbrev j_law_reduced : Nat := 38
abbrev j_law_frozen : Nat := 39
abbrev j_law_powers : Nat := 40
abbrev j_law_times : Nat := 41
abbrev j_law_at : Nat := 42
abbrev j_law_product : Nat := 43
abbrev j_law_firsts : Nat := 44
abbrev j_law_weights : Nat := 45
abbrev j_law_remainders : Nat := 46
abbrev j_law_multiples : Nat := 47
abbrev j_law_judged : Nat := 48
abbrev j_law : Nat := 49

open Lin Fp
theorem h_cell : Pd[j_law_cell]? = some cellFd := rfl
theorem h_row : Pd[j_law_row]? = some rowFd := rfl
theorem h_same : Pd[j_law_same]? = some (sameFd j_law_same) := rfl
theorem pre1 {k c : Nat} (hk : c + 1 ≤ k) : ∃ m, k = m + 1 ∧ c ≤ m := ⟨k - 1, by omega, by omega⟩
theorem mul_iv (x y : Fq) : mulOk (iv x) (iv y) = true := by
  have := iv_rng x
  exact mulOk_l (by omega) (by omega)
theorem sz {n : Nat} (h : n ≤ 100000) : n ≤ sizeLine := by rw [sizeLine_val]; omega
theorem sz' {n : Nat} (h : n < 100000) : n < sizeLine := by rw [sizeLine_val]; omega
theorem f_is_int (k : Nat) (hk : 1 ≤ k) (i : Int) (η : List AO) : den Pd k j_is_int [.int i] η = .ret (.val (.bl true)) η := by
  obtain ⟨m, rfl, _⟩ := pre1 hk
  rw [dn_is_int]
  simp
theorem f_is_word (k : Nat) (hk : 2 ≤ k) (i : Int) (h : 0 ≤ i ∧ i < 65521) (η : List AO) : den Pd k j_is_word [.int i] η = .ret (.val (.bl true)) η := by
  obtain ⟨m, rfl, hm⟩ := pre1 hk
  rw [dn_is_word]
  simp [f_is_int m hm, h]
theorem f_is_tuple (k : Nat) (hk : 1 ≤ k) (ds : List D) (n : Int) (η : List AO) : den Pd k j_is_tuple [.tup ds, .int n] η = .ret (.val (.bl (decide ((ds.length : Int) = n)))) η := by
  obtain ⟨m, rfl, hm⟩ := pre1 hk
  rw [dn_is_tuple]
  simp
theorem f_is_words (k : Nat) (hk : 3 ≤ k) (n : Nat) (v : Vc Fq) (η : List AO) : den Pd k j_is_words [rowT n v, .int (n : Int)] η = .ret (.val (.bl true)) η := by
  obtain ⟨m, rfl, hm⟩ := pre1 hk
  have ht := f_is_tuple m (by omega) (its n v) n η
  rw [its_len, decide_eq_true rfl] at ht
  rw [dn_is_words]
  apply fr_eq
  simp [ht, -put_nm]
  rw [sat_bind]
  refine sat_forS (f := fun i => eI (v i)) (xs := List.range n) (fun _ ρ => ∃ s, ρ = [.val (.tup (its n v)), .val (.int (n : Int)), s]) ⟨_, rfl⟩ ?_ ?_
  · rintro i x ρ hx ⟨s, rfl⟩
    refine sat_nm (by simp) ?_
    simp only [List.set_cons_succ, List.set_cons_zero]
    simp [eI, f_is_word m hm (iv (v x)) (iv_rng _)]
  · rintro ρ ⟨s, rfl⟩
    simp
theorem f_is_row (k : Nat) (hk : 4 ≤ k) (n : Nat) (hn : 1 ≤ n ∧ n ≤ 20) (v : Vc Fq) (η : List AO) : den Pd k j_is_row [rowT n v] η = .ret (.val (.bl true)) η := by
  obtain ⟨m, rfl, hm⟩ := pre1 hk
  have h1 := f_is_words m hm n v η
  have h2 : (1 : Int) ≤ n ∧ (n : Int) ≤ 20 := by omega
  have h3 : 1 ≤ n := hn.1
  rw [dn_is_row]
  simp [its_len, h1, h2, h3]
theorem f_most (k : Nat) (hk : 1 ≤ k) (a b : Int) (h : a ≤ b) (η : List AO) : den Pd k j_check_most [.int a, .int b] η = .ret (.val .non) η := by
  obtain ⟨m, rfl, hm⟩ := pre1 hk
  have : ¬ b < a := by omega
  rw [dn_check_most]
  simp [this]
abbrev rowsT (n : Nat) (rows : List (Vc Fq)) : D := .tup (rows.map (rowT n))
theorem f_space (k : Nat) (hk : 5 ≤ k) (n : Nat) (hn : 1 ≤ n ∧ n ≤ 20) (rows : List (Vc Fq)) (hr : rows.length ≤ 60) (η : List AO) : den Pd k j_check_space [rowsT n rows] η = .ret (.val .non) η := by
  obtain ⟨m, rfl, hm⟩ := pre1 hk
  have hmost : den Pd m j_check_most [.int (rows.length : Int), .int 60] η = .ret (.val .non) η := f_most m (by omega) _ _ (by omega) η
  rw [dn_check_space]
  apply fr_eq
  simp [hmost, -put_tp]
  rw [sat_bind]
  refine sat_enumS (fun _ ρ => ∃ s t, ρ = [.val (rowsT n rows), s, t]) ⟨_, _, rfl⟩ ?_ ?_
  · rintro i v ρ hx ⟨s, t, rfl⟩
    have h0 : ∃ w, atI (rows.map (rowT n)) 0 = some (rowT n w) := by
      cases rows with
      | nil => simp at hx
      | cons w rows => exact ⟨w, at_hd⟩
    obtain ⟨w, h0⟩ := h0
    have hrow := f_is_row m hm n hn v η
    simp [hrow, h0, its_len]
  · rintro ρ ⟨s, t, rfl⟩
    simp
theorem f_beside (k : Nat) (hk : 6 ≤ k) (n : Nat) (hn : 1 ≤ n ∧ n ≤ 20) (rows : List (Vc Fq)) (v : Vc Fq) (hr : rows.length ≤ 60) (η : List AO) : den Pd k j_check_beside [rowsT n rows, rowT n v] η = .ret (.val .non) η := by
  obtain ⟨m, rfl, hm⟩ := pre1 hk
  have h1 := f_space m hm n hn rows hr η
  have h2 := f_is_row m (by omega) n hn v η
  rw [dn_check_beside]
  cases rows with
  | nil =>
    simp [h1, h2]
  | cons w rows =>
    have h0 : atI ((w :: rows).map (rowT n)) 0 = some (rowT n w) := at_hd
    unfold rowsT at *
    have hl : ((w :: rows).map (rowT n)).length = rows.length + 1 := by simp
    generalize (w :: rows).map (rowT n) = rD at *
    have h3 : (0 : Int) < rows.length + 1 := by omega
    simp [h1, h2, hl, h0, its_len, h3]
/-- the place that pivot_of tells -/
def piv (n : Nat) (v : Vc Fq) : Int := match lead n v with
  | some t => (t : Int)
  | none => -1
theorem f_pivot (k : Nat) (hk : 1 ≤ k) (n : Nat) (v : Vc Fq) (η : List AO) : den Pd k j_pivot_of [rowT n v] η = .ret (.val (.int (piv n v))) η := by
  obtain ⟨m, rfl, hm⟩ := pre1 hk
  rw [dn_pivot_of]
  apply fr_eq
  simp [-put_tp]
  rw [sat_bind]
  refine sat_enumS (f := fun i => eI (v i)) (xs := List.range n) (fun j ρ => (∀ i, i < j → v i = 0) ∧ ∃ s t, ρ = [.val (.tup (its n v)), s, t]) ⟨fun i hi => by omega, _, _, rfl⟩ ?_ ?_
  · rintro i x ρ hx ⟨hz, s, t, rfl⟩
    have hi : i < n := by
      rcases Nat.lt_or_ge i n with q | q
      · exact q
      · rw [List.getElem?_eq_none (by rw [List.length_range]; exact q)] at hx; cases hx
    rw [List.getElem?_range hi] at hx
    injection hx with hx
    subst hx
    by_cases hv : v i = 0
    · have := iv_eq0.mpr hv
      simp [eI, this]
      intro j hj
      by_cases e : j = i
      · rw [e]; exact hv
      · exact hz j (by omega)
    · have h1 : ¬ iv (v i) = 0 := fun e => hv (iv_eq0.mp e)
      have h2 : lead n v = some i := lead_eq hi hv hz
      simp [eI, h1, piv, h2]
  · rintro ρ ⟨hz, s, t, rfl⟩
    rw [List.length_range] at hz
    have h2 : lead n v = none := by
      cases h : lead n v with
      | none => rfl
      | some u =>
        obtain ⟨g1, g2, g3⟩ := lead_some h
        exact absurd (hz u g1) g2
    simp [piv, h2]
theorem f_scaled (k : Nat) (hk : 1 ≤ k) (n : Nat) (hn : n ≤ 100) (v : Vc Fq) (c : Fq) (η : List AO) : den Pd k j_scaled [rowT n v, .int (iv c)] η = .ret (.val (rowT n fun i => v i * c)) η := by
  obtain ⟨m, rfl, hm⟩ := pre1 hk
  rw [dn_scaled]
  simp
  rw [lc_its (fun i => v i * c) rfl (by omega) (fun i hi => by simp [mul_iv, iv_mul])]
  simp
theorem zip_its (n : Nat) (u v : Vc Fq) : (((its n u).zip (its n v)).map fun p => D.tup [p.1, p.2]) = (List.range n).map fun i => .tup [eI (u i), eI (v i)] := by
  unfold its
  rw [List.zip_map', List.map_map]
  rfl
theorem f_minus (k : Nat) (hk : 1 ≤ k) (n : Nat) (hn : n ≤ 100) (u v : Vc Fq) (η : List AO) : den Pd k j_minus [rowT n u, rowT n v] η = .ret (.val (rowT n fun i => u i - v i)) η := by
  obtain ⟨m, rfl, hm⟩ := pre1 hk
  rw [dn_minus]
  have := lc_tg (ρ := [.val (.tup (its n u)), .val (.tup (its n v)), .un, .un]) (η := η) (tg := .tp [2, 3]) (f := fun i => .tup [eI (u i), eI (v i)]) (g := fun i => eI (u i - v i)) (xs := List.range n) (cond := evCs (den Pd m) []) (elt := (evR (den Pd m) (.bin .mod (.bin .sub (.var 2) (.var 3)) (.cst (.int 65521)))).bind frz) rfl rfl rfl (by rw [List.length_range]; exact sz (by omega)) (fun x hx => ⟨[.val (.tup (its n u)), .val (.tup (its n v)), .val (eI (u x)), .val (eI (v x))], by simp [lcStep_at, eI, iv_sub], rfl⟩)
  simp [zip_its, this, -put_tp]
  rfl

open Lin Fp
/-- rows with their leads -/
structure Ld (n : Nat) (R : List (Rw Fq)) : Prop where
  rr : Rr R
  su : ∀ a ∈ R, Su n a.2
theorem Ld.lead {n : Nat} {R : List (Rw Fq)} (h : Ld n R) {a : Rw Fq} (ha : a ∈ R) : Lin.lead n a.2 = some a.1 := h.rr.lead h.su ha
theorem Ld.lt {n : Nat} {R : List (Rw Fq)} (h : Ld n R) {a : Rw Fq} (ha : a ∈ R) : a.1 < n := (lead_some (h.lead ha)).1
theorem Ld.piv {n : Nat} {R : List (Rw Fq)} (h : Ld n R) {a : Rw Fq} (ha : a ∈ R) : piv n a.2 = (a.1 : Int) := by
  unfold Law.piv
  rw [h.lead ha]
abbrev rT (n : Nat) (a : Rw Fq) : D := rowT n a.2
theorem drop_at {α : Type} {xs : List α} {i : Nat} {x : α} (h : xs[i]? = some x) : xs.drop i = x :: xs.drop (i + 1) ∧ x ∈ xs := by
  have hlt : i < xs.length := by
    rcases Nat.lt_or_ge i xs.length with q | q
    · exact q
    · rw [List.getElem?_eq_none q] at h; cases h
  rw [List.getElem?_eq_getElem hlt] at h
  injection h with h
  subst h
  exact ⟨List.drop_eq_getElem_cons hlt, List.getElem_mem hlt⟩
theorem f_rest (k : Nat) (hk : 2 ≤ k) (n : Nat) (hn : n ≤ 100) (R : List (Rw Fq)) (h : Ld n R) (v : Vc Fq) (η : List AO) : den Pd k j_rest_of [.tup (R.map (rT n)), rowT n v] η = .ret (.val (rowT n (rest R v))) η := by
  obtain ⟨m, rfl, hm⟩ := pre1 hk
  rw [dn_rest_of]
  apply fr_eq
  simp [-put_nm]
  rw [sat_bind]
  obtain ⟨P, hP⟩ : ∃ P : Nat → List Slot → Prop, ∀ i ρ, P i ρ ↔ ∃ (w : Vc Fq) (s3 s4 : Slot), rest (R.drop i) w = rest R v ∧ ρ = [.val (.tup (R.map (rT n))), .val (rowT n v), .val (rowT n w), s3, s4] := ⟨_, fun _ _ => Iff.rfl⟩
  refine sat_forS (f := rT n) (xs := R) P ((hP _ _).2 ⟨v, _, _, rfl, rfl⟩) ?_ ?_
  · intro i a ρ hi hp
    obtain ⟨w, s3, s4, e, rfl⟩ := (hP _ _).1 hp
    obtain ⟨hd, ha⟩ := drop_at hi
    rw [hd] at e
    refine sat_nm (by simp) ?_
    simp only [List.set_cons_succ, List.set_cons_zero]
    have c1 := f_pivot m (by omega) n a.2 η
    rw [h.piv ha] at c1
    have ea := its_atI w (h.lt ha)
    have c2 := f_scaled m (by omega) n hn a.2 (w a.1) η
    have c3 := f_minus m (by omega) n hn w (fun i => a.2 i * w a.1) η
    have ew : (fun i => w i - a.2 i * w a.1) = fun i => w i - w a.1 * a.2 i := funext fun i => by grind
    by_cases hz : w a.1 = 0
    · have hz' := iv_eq0.mpr hz
      simp [c1, ea, hz']
      refine (hP _ _).2 ⟨w, _, _, ?_, rfl⟩
      rw [← e]
      show _ = rest (R.drop (i + 1)) (fun i => w i - w a.1 * a.2 i)
      congr 1
      funext i
      rw [hz]
      grind
    · have hz' : ¬ iv (w a.1) = 0 := fun e => hz (iv_eq0.mp e)
      simp [c1, ea, hz', c2, c3]
      exact (hP _ _).2 ⟨_, _, _, by rw [ew]; exact e, rfl⟩
  · intro ρ hp
    obtain ⟨w, s3, s4, e, rfl⟩ := (hP _ _).1 hp
    rw [List.drop_length] at e
    have e : w = rest R v := e
    simp [e]
theorem f_power (k : Nat) (hk : 1 ≤ k) (x : Fq) (η : List AO) : den Pd k j_power [.int (iv x), .int 65519] η = .ret (.val (.int (iv (invF x)))) η := by
  obtain ⟨m, rfl, hm⟩ := pre1 hk
  rw [dn_power]
  apply fr_eq
  simp
  rw [sat_bind]
  have hx := iv_rng x
  obtain ⟨P, hP⟩ : ∃ P : Nat → List Slot → List AO → Prop, ∀ i ρ η', P i ρ η' ↔ η' = η ∧ ∃ (r s : Int), 0 ≤ r ∧ r < 65521 ∧ 0 ≤ s ∧ s < 65521 ∧ C (r * s ^ i) (iv x ^ 65519) ∧ ρ = [.val (.int (iv x)), .val (.int 65519), .val (.int r), .val (.int s), .val (.int (i : Int))] := ⟨_, fun _ _ _ => Iff.rfl⟩
  refine sat_whl P ?_ fuelW 65519 _ η (by decide) ((hP _ _ _).2 ⟨rfl, 1, iv x, by omega, by omega, hx.1, hx.2, by rw [Int.one_mul]; exact C.refl _, rfl⟩)
  intro n ρ η' hp
  obtain ⟨rfl, r, s, r0, r1, s0, s1, hc, rfl⟩ := (hP _ _ _).1 hp
  have kr : mulOk r s = true := mulOk_l (by omega) (by omega)
  have ks : mulOk s s = true := mulOk_l (by omega) (by omega)
  have hss : s ^ n = s ^ (n % 2) * (s * s) ^ (n / 2) := by
    have e : s * s = s ^ 2 := by rw [Int.pow_succ, Int.pow_succ, Int.pow_zero, Int.one_mul]
    rw [e, ← Int.pow_mul, ← Int.pow_add]
    congr 1
    omega
  by_cases hn : n = 0
  · subst hn
    rw [Int.pow_zero, Int.mul_one] at hc
    have : r = iv (invF x) := by
      rw [iv_inv]
      have := hc.eq
      omega
    simp [this]
  · have hn' : (0 : Int) < n := by omega
    have m0 := Int.emod_nonneg (r * s) (show (65521 : Int) ≠ 0 by decide)
    have m1 := Int.emod_lt_of_pos (r * s) (show (0 : Int) < 65521 by decide)
    have q0 := Int.emod_nonneg (s * s) (show (65521 : Int) ≠ 0 by decide)
    have q1 := Int.emod_lt_of_pos (s * s) (show (0 : Int) < 65521 by decide)
    have hcast : ((n / 2 : Nat) : Int) = (n : Int) / 2 := by omega
    rcases (show n % 2 = 0 ∨ n % 2 = 1 by omega) with e | e
    · have e' : (n : Int) % 2 = 0 := by omega
      have hcc : C (r * (s * s % 65521) ^ (n / 2)) (iv x ^ 65519) := by
        refine ((C.refl r).mul ((C.mod (s * s)).pow _)).trans ?_
        rw [hss, e, Int.pow_zero, Int.one_mul] at hc
        exact hc
      simp [show 0 < n by omega, e', kr, ks]
      refine ⟨n / 2, by omega, (hP _ _ _).2 ⟨rfl, r, _, r0, r1, q0, q1, hcc, by rw [hcast]⟩⟩
    · have e' : (n : Int) % 2 = 1 := by omega
      have hcc : C ((r * s % 65521) * (s * s % 65521) ^ (n / 2)) (iv x ^ 65519) := by
        refine ((C.mod (r * s)).mul ((C.mod (s * s)).pow _)).trans ?_
        rw [hss, e, Int.pow_succ, Int.pow_zero, Int.one_mul] at hc
        rw [Int.mul_assoc]
        exact hc
      simp [show 0 < n by omega, e', kr, ks]
      refine ⟨n / 2, by omega, (hP _ _ _).2 ⟨rfl, _, _, m0, m1, q0, q1, hcc, by rw [hcast]⟩⟩
theorem f_inverse (k : Nat) (hk : 2 ≤ k) (x : Fq) (h : x ≠ 0) (η : List AO) : den Pd k j_inverse [.int (iv x)] η = .ret (.val (.int (iv (invF x)))) η := by
  obtain ⟨m, rfl, hm⟩ := pre1 hk
  have h1 := f_power m hm x η
  have hz' : ¬ iv x = 0 := fun e => h (iv_eq0.mp e)
  rw [dn_inverse]
  simp [hz', h1]
theorem Ld.jn {n : Nat} {R : List (Rw Fq)} (h : Ld n R) {v : Vc Fq} (hv : Su n v) : Ld n (jn n R v) := by
  obtain ⟨h1, h2⟩ := jn_ok h.rr h.su hv
  refine ⟨h1, fun a ha => su_sp (L := v :: vs R) (fun b hb => ?_) ((h2 _).mp (sp_mem (mem_vs.mpr ⟨a, ha, rfl⟩)))⟩
  rcases List.mem_cons.mp hb with rfl | hb
  · exact hv
  · obtain ⟨a, ha, rfl⟩ := mem_vs.mp hb
    exact h.su a ha
theorem Ld.len {n : Nat} {R : List (Rw Fq)} (h : Ld n R) : R.length ≤ n := by
  have := np_len h.rr fun a ha => h.lt ha
  omega
theorem f_joined (k : Nat) (hk : 3 ≤ k) (n : Nat) (hn : n ≤ 100) (R : List (Rw Fq)) (h : Ld n R) (v : Vc Fq) (η : List AO) : den Pd k j_joined [.tup (R.map (rT n)), rowT n v] η = .ret (.val (.tup ((jn n R v).map (rT n)))) η := by
  obtain ⟨m, rfl, hm⟩ := pre1 hk
  have c1 := f_rest m hm n hn R h v η
  have c2 := f_pivot m (by omega) n (rest R v) η
  rw [dn_joined]
  apply fr_eq
  cases hl : lead n (rest R v) with
  | none =>
    have e1 : piv n (rest R v) = -1 := by unfold piv; rw [hl]
    have e2 : jn n R v = R := by unfold jn; rw [hl]
    rw [e1] at c2
    simp [c1, c2, e2]
  | some t =>
    have e1 : piv n (rest R v) = (t : Int) := by unfold piv; rw [hl]
    rw [e1] at c2
    obtain ⟨l1, l2, l3⟩ := lead_some hl
    have ea := its_atI (rest R v) l1
    have c3 := f_inverse m (by omega) _ l2 η
    have c4 := f_scaled m (by omega) n hn (rest R v) (invF (rest R v t)) η
    have e2 : jn n R v = ins t (fun i => rest R v i * invF (rest R v t)) false R := by unfold jn; rw [hl]; rfl
    rw [e2]
    have hN : New R t fun i => rest R v i * invF (rest R v t) := jn_new h.rr hl
    generalize (fun i => rest R v i * invF (rest R v t)) = r at *
    generalize rest R v = w at *
    have ht : ¬ ((t : Int) < 0) := by omega
    simp [c1, c2, ht, ea, c3, c4, -put_nm]
    rw [sat_bind]
    obtain ⟨P, hP⟩ : ∃ P : Nat → List Slot → Prop, ∀ i ρ, P i ρ ↔ ∃ (p : Bool) (G : List (Rw Fq)) (s6 : Slot), ((p = false → G.length ≤ i) ∧ G.length ≤ i + 1) ∧ G ++ ins t r p (R.drop i) = ins t r false R ∧ ρ = [.val (.tup (R.map (rT n))), .val (rowT n v), .val (rowT n r), .val (.int (t : Int)), .own (.lst (G.map (rT n))), .val (.bl p), s6] := ⟨_, fun _ _ => Iff.rfl⟩
    have hRl := h.len
    refine sat_forS (f := rT n) (xs := R) P ((hP _ _).2 ⟨false, [], _, ⟨fun _ => by simp, by simp⟩, rfl, rfl⟩) ?_ ?_
    · intro i a ρ hi hp
      obtain ⟨p, G, s6, ⟨hG0, hG⟩, e, rfl⟩ := (hP _ _).1 hp
      obtain ⟨hd, ha⟩ := drop_at hi
      have hil : i < R.length := by
        rcases Nat.lt_or_ge i R.length with q | q
        · exact q
        · rw [List.getElem?_eq_none q] at hi; cases hi
      rw [hd] at e
      refine sat_nm (by simp) ?_
      simp only [List.set_cons_succ, List.set_cons_zero]
      have c5 := f_pivot m (by omega) n a.2 η
      rw [h.piv ha] at c5
      have eb := its_atI a.2 l1
      have c6 := f_scaled m (by omega) n hn r (a.2 t) η
      have c7 := f_minus m (by omega) n hn a.2 (fun i => r i * a.2 t) η
      have ew : (fun i => a.2 i - r i * a.2 t) = (clr t r a).2 := funext fun i => by show _ = a.2 i - a.2 t * r i; grind
      rw [ew] at c7
      have hz1 : G.length < sizeLine := sz' (by omega)
      have hz2 : G.length + 1 < sizeLine := sz' (by omega)
      cases p with
      | true =>
        have e3 : G ++ [clr t r a] ++ ins t r true (R.drop (i + 1)) = ins t r false R := by
          rw [← e]
          conv => rhs; unfold ins
          simp
        have fin := (hP (i + 1) _).2 ⟨true, G ++ [clr t r a], .val (rT n a), ⟨fun q => (by cases q), by rw [List.length_append, List.length_singleton]; omega⟩, e3, rfl⟩
        rw [List.map_append] at fin
        simp [eb, c6, c7, hz1] at fin ⊢
        exact fin
      | false =>
        by_cases hlt : t < a.1
        · have e3 : G ++ [(t, r), clr t r a] ++ ins t r true (R.drop (i + 1)) = ins t r false R := by
            rw [← e]
            conv => rhs; unfold ins
            rw [if_pos ⟨rfl, hlt⟩]
            simp
          have hlt' : (t : Int) < (a.1 : Int) := by omega
          have fin := (hP (i + 1) _).2 ⟨true, G ++ [(t, r), clr t r a], .val (rT n a), ⟨fun q => (by cases q), by rw [List.length_append, List.length_cons, List.length_singleton]; have := hG0 rfl; omega⟩, e3, rfl⟩
          rw [List.map_append] at fin
          simp [c5, hlt, eb, c6, c7, hz1, hz2] at fin ⊢
          exact fin
        · have e3 : G ++ [clr t r a] ++ ins t r false (R.drop (i + 1)) = ins t r false R := by
            rw [← e]
            conv => rhs; unfold ins
            rw [if_neg (by simp [hlt])]
            simp
          have hlt' : ¬ ((t : Int) < (a.1 : Int)) := by omega
          have fin := (hP (i + 1) _).2 ⟨false, G ++ [clr t r a], .val (rT n a), ⟨fun _ => by rw [List.length_append, List.length_singleton]; have := hG0 rfl; omega, by rw [List.length_append, List.length_singleton]; have := hG0 rfl; omega⟩, e3, rfl⟩
          rw [List.map_append] at fin
          simp [c5, hlt, eb, c6, c7, hz1] at fin ⊢
          exact fin
    · intro ρ hp
      obtain ⟨p, G, s6, ⟨hG0, hG⟩, e, rfl⟩ := (hP _ _).1 hp
      rw [List.drop_length] at e
      have hz1 : G.length < sizeLine := sz' (by omega)
      cases p with
      | true =>
        have e : G ++ [] = ins t r false R := e
        rw [List.append_nil] at e
        simp [e]
      | false =>
        have e : G ++ [(t, r)] = ins t r false R := e
        simp [hz1, ← e]

open Lin Fp
abbrev bT (n : Nat) (R : List (Rw Fq)) : D := .tup (R.map (rT n))
def SuA (n : Nat) (rows : List (Vc Fq)) : Prop := ∀ v ∈ rows, Su n v
theorem SuA.ld {n : Nat} {rows : List (Vc Fq)} (h : SuA n rows) : Ld n (bs n rows) := ⟨(bs_ok h).1, bs_su h⟩
theorem f_basis (k : Nat) (hk : 4 ≤ k) (n : Nat) (hn : n ≤ 100) (rows : List (Vc Fq)) (h : SuA n rows) (d : D) (hd : d = .tup (rows.map (rowT n)) ∨ d = .lst (rows.map (rowT n))) (η : List AO) : den Pd k j_basis_of [d] η = .ret (.val (bT n (bs n rows))) η := by
  obtain ⟨m, rfl, hm⟩ := pre1 hk
  rw [dn_basis_of]
  apply fr_eq
  have hw : walkD .of [d] = some (rows.map (rowT n)) := by rcases hd with rfl | rfl <;> rfl
  have hv : ∀ (ρ : List Slot), (exS (den Pd m) (.for_ (.nm 2) .of [.var 0] [(.set 1 (.call j_joined [(.var 1), (.var 2)]))]) (.val d :: ρ) η) = forGo (Tg.put (.nm 2)) (exSs (den Pd m) [(.set 1 (.call j_joined [(.var 1), (.var 2)]))]) (rows.map (rowT n)) (.val d :: ρ) η := fun ρ => by
    rw [ex_for]
    simp [hw, -put_nm]
  have h0 : (0 : Nat) ≤ sizeLine := Nat.zero_le _
  simp [-put_nm, -ex_for]
  rw [hv, sat_bind]
  obtain ⟨P, hP⟩ : ∃ P : Nat → List Slot → Prop, ∀ i ρ, P i ρ ↔ ∃ (R : List (Rw Fq)) (s2 : Slot), Ld n R ∧ (rows.drop i).foldl (jn n) R = bs n rows ∧ ρ = [.val d, .val (bT n R), s2] := ⟨_, fun _ _ => Iff.rfl⟩
  refine sat_forS (f := rowT n) (xs := rows) P ((hP _ _).2 ⟨[], _, ⟨Rr.nil, fun a ha => absurd ha (by simp)⟩, rfl, rfl⟩) ?_ ?_
  · intro i v ρ hi hp
    obtain ⟨R, s2, hR, e, rfl⟩ := (hP _ _).1 hp
    obtain ⟨hd2, hv2⟩ := drop_at hi
    rw [hd2] at e
    refine sat_nm (by simp) ?_
    simp only [List.set_cons_succ, List.set_cons_zero]
    have c := f_joined m hm n hn R hR v η
    simp [c]
    exact (hP _ _).2 ⟨jn n R v, _, hR.jn (h v hv2), e, rfl⟩
  · intro ρ hp
    obtain ⟨R, s2, hR, e, rfl⟩ := (hP _ _).1 hp
    rw [List.drop_length] at e
    have e : R = bs n rows := e
    simp [e]
theorem f_reduced (k : Nat) (hk : 6 ≤ k) (n : Nat) (hn : 1 ≤ n ∧ n ≤ 20) (rows : List (Vc Fq)) (hr : rows.length ≤ 60) (h : SuA n rows) (η : List AO) : den Pd k j_reduced [rowsT n rows] η = .ret (.val (bT n (bs n rows))) η := by
  obtain ⟨m, rfl, hm⟩ := pre1 hk
  have c1 := f_space m hm n hn rows hr η
  have c2 := f_basis m (by omega) n (by omega) rows h _ (.inl rfl) η
  rw [dn_reduced]
  simp [c1, c2]
theorem f_holds (k : Nat) (hk : 3 ≤ k) (n : Nat) (hn : n ≤ 100) (R : List (Rw Fq)) (h : Ld n R) (v : Vc Fq) (η : List AO) : den Pd k j_holds [bT n R, rowT n v] η = .ret (.val (.bl (lead n (rest R v)).isNone)) η := by
  obtain ⟨m, rfl, hm⟩ := pre1 hk
  have c1 := f_rest m hm n hn R h v η
  have c2 := f_pivot m (by omega) n (rest R v) η
  rw [dn_holds]
  simp [c1, c2]
  unfold piv
  cases lead n (rest R v) with
  | none => simp
  | some t => simp
theorem holds_iff {n : Nat} {rows : List (Vc Fq)} (h : SuA n rows) {v : Vc Fq} (hv : Su n v) : (lead n (rest (bs n rows) v)).isNone = true ↔ Sp rows v := by
  rw [← (bs_ok h).2 v, rest_span (bs_ok h).1.dl]
  cases hl : lead n (rest (bs n rows) v) with
  | none => exact ⟨fun _ => lead_zero (su_rest (bs_su h) hv) hl, fun _ => rfl⟩
  | some t => exact ⟨fun q => (by cases q), fun q => absurd (q t) (lead_some hl).2.1⟩
theorem f_span (k : Nat) (hk : 7 ≤ k) (n : Nat) (hn : 1 ≤ n ∧ n ≤ 20) (rows : List (Vc Fq)) (hr : rows.length ≤ 60) (h : SuA n rows) (v : Vc Fq) (η : List AO) : den Pd k j_in_span [rowsT n rows, rowT n v] η = .ret (.val (.bl (lead n (rest (bs n rows) v)).isNone)) η := by
  obtain ⟨m, rfl, hm⟩ := pre1 hk
  have c1 := f_beside m hm n hn rows v hr η
  have c2 := f_basis m (by omega) n (by omega) rows h _ (.inl rfl) η
  have c3 := f_holds m (by omega) n (by omega) (bs n rows) h.ld v η
  rw [dn_in_span]
  simp [c1, c2, c3]
theorem its_unit0 {n t : Nat} (h : t < n) : setAct (.lst (List.replicate n (.int 0))) (.int (t : Int)) (.int 1) = some (.lst (its n (unitV t))) := by
  have e : List.replicate n (D.int 0) = its n (fun _ => 0) := by
    unfold its
    refine List.ext_getElem? fun i => ?_
    rw [List.getElem?_replicate, List.getElem?_map]
    rcases Nat.lt_or_ge i n with q | q
    · rw [if_pos q, List.getElem?_range q]
      rfl
    · rw [if_neg (by omega), List.getElem?_eq_none (by rw [List.length_range]; exact q)]
      rfl
  rw [e]
  exact act_its (x := 1) h
theorem repl_flat : ∀ z : Nat, (List.replicate z [D.int 0]).flatten = List.replicate z (D.int 0)
  | 0 => rfl
  | z + 1 => by
    rw [List.replicate_succ, List.flatten_cons, repl_flat z, List.replicate_succ]
    rfl
theorem mul0 {n : Nat} (hn : n ≤ 100) : binD .mul (.lst [D.int 0]) (.int (n : Int)) = some (.own (.lst (List.replicate n (.int 0)))) := by
  rw [mul_lst, if_pos ⟨by omega, by omega, by rw [sizeLine_val]; simp; omega⟩, Int.toNat_natCast, repl_flat]
theorem f_func (k : Nat) (hk : 2 ≤ k) (n : Nat) (hn : n ≤ 100) (R : List (Rw Fq)) (h : Ld n R) (t : Nat) (ht : t < n) (η : List AO) : den Pd k j_functional_at [bT n R, .int (t : Int), .int (n : Int)] η = .ret (.val (rowT n (fa t R))) η := by
  obtain ⟨m, rfl, hm⟩ := pre1 hk
  have h1 : (1 : Nat) ≤ sizeLine := sz (by omega)
  rw [dn_functional_at]
  apply fr_eq
  simp [mul0 hn, h1, its_unit0 ht, -put_nm, -mul_lst]
  rw [sat_bind]
  obtain ⟨P, hP⟩ : ∃ P : Nat → List Slot → Prop, ∀ i ρ, P i ρ ↔ ∃ (f : Vc Fq) (s4 : Slot), fago t (R.drop i) f = fa t R ∧ ρ = [.val (bT n R), .val (.int (t : Int)), .val (.int (n : Int)), .own (.lst (its n f)), s4] := ⟨_, fun _ _ => Iff.rfl⟩
  refine sat_forS (f := rT n) (xs := R) P ((hP _ _).2 ⟨unitV t, _, rfl, rfl⟩) ?_ ?_
  · intro i a ρ hi hp
    obtain ⟨f, s4, e, rfl⟩ := (hP _ _).1 hp
    obtain ⟨hd, ha⟩ := drop_at hi
    rw [hd] at e
    refine sat_nm (by simp) ?_
    simp only [List.set_cons_succ, List.set_cons_zero]
    have c1 := f_pivot m (by omega) n a.2 η
    rw [h.piv ha] at c1
    have ea := its_atI a.2 ht
    have en : (65521 - iv (a.2 t)) % 65521 = iv (-(a.2 t)) := by
      rw [iv_neg]
      omega
    have es := act_its (f := f) (x := -(a.2 t)) (h.lt ha)
    simp [c1, ea, en, es]
    exact (hP _ _).2 ⟨_, _, e, rfl⟩
  · intro ρ hp
    obtain ⟨f, s4, e, rfl⟩ := (hP _ _).1 hp
    rw [List.drop_length] at e
    have e : f = fa t R := e
    simp [e]
theorem f_range (k : Nat) (hk : 1 ≤ k) (a b c : Int) (h : b ≤ a ∧ a ≤ c) (η : List AO) : den Pd k j_check_range [.int a, .int b, .int c] η = .ret (.val .non) η := by
  obtain ⟨m, rfl, hm⟩ := pre1 hk
  have h1 : ¬ a < b := by omega
  have h2 : ¬ c < a := by omega
  rw [dn_check_range]
  simp [h1, h2]
theorem in_piv {n : Nat} {R : List (Rw Fq)} {i : Nat} : inD (.int (i : Int)) (.o (.lst (R.map fun a => D.int (a.1 : Int)))) = some (!decide (∀ a ∈ R, a.1 ≠ i)) := by
  show (match (Vw.o (.lst (R.map fun a => D.int (a.1 : Int)))).seq? with | some ds => if flatD (.int (i : Int)) && ds.all flatD then some (ds.any fun y => eqF y (.int (i : Int))) else none | none => none) = _
  simp only [Vw.seq?]
  have h1 : (R.map fun a => D.int (a.1 : Int)).all flatD = true := by
    rw [List.all_eq_true]
    intro d hd
    obtain ⟨a, _, rfl⟩ := List.mem_map.mp hd
    rfl
  rw [h1, if_pos (by rfl)]
  congr 1
  rw [Bool.eq_iff_iff, List.any_eq_true]
  simp only [List.mem_map, Bool.not_eq_true', decide_eq_false_iff_not]
  constructor
  · rintro ⟨d, ⟨a, ha, rfl⟩, hd⟩ hc
    refine hc a ha ?_
    have : decide ((a.1 : Int) = (i : Int)) = true := hd
    rw [decide_eq_true_eq] at this
    omega
  · intro hc
    obtain ⟨a, ha, e⟩ : ∃ a, a ∈ R ∧ a.1 = i := Classical.byContradiction fun hq => hc fun a ha e => hq ⟨a, ha, e⟩
    refine ⟨_, ⟨a, ha, rfl⟩, ?_⟩
    show decide ((a.1 : Int) = (i : Int)) = true
    rw [decide_eq_true_eq, e]
theorem np_le (n : Nat) (R : List (Rw Fq)) : (np n R).length ≤ n := by
  unfold np
  have := List.length_filter_le (fun i => decide (∀ a ∈ R, a.1 ≠ i)) (List.range n)
  rwa [List.length_range] at this
theorem f_ann (k : Nat) (hk : 7 ≤ k) (n : Nat) (hn : 1 ≤ n ∧ n ≤ 20) (rows : List (Vc Fq)) (hr : rows.length ≤ 60) (h : SuA n rows) (η : List AO) : den Pd k j_annihilator [rowsT n rows, .int (n : Int)] η = .ret (.val (bT n (ann n rows))) η := by
  obtain ⟨m, rfl, hm⟩ := pre1 hk
  have c1 := f_reduced m hm n hn rows hr h η
  have c2 := f_range m (by omega) n 1 20 (by omega) η
  have hld := h.ld
  have hsu := fs_su' h
  have hRl := hld.len
  have c5 := f_basis m (by omega) n (by omega) (fs n (bs n rows)) hsu _ (.inr rfl) η
  have c4 := fun t ht => f_func m (by omega) n (by omega) (bs n rows) hld t ht η
  have c3 := fun a (ha : a ∈ bs n rows) => f_pivot m (by omega) n a.2 η
  have hnp := np_le n (bs n rows)
  have hmem := fun t (ht : t ∈ np n (bs n rows)) => (mem_np.mp ht).1
  unfold ann
  generalize bs n rows = R at *
  have hs : small62 (n : Int) = true := small_ok (by omega) (by omega)
  rw [dn_annihilator]
  have hcond : ∀ (ρ : List Slot), ((evR (den Pd m) (.and (.cmp .gt (.bi1 .len (.var 0)) (.cst (.int 0))) (.cmp .ne (.bi1 .len (.idx (.var 0) (.cst (.int 0)))) (.var 1)))) (.val (rowsT n rows) :: .val (.int (n : Int)) :: ρ) η) = .ok (.val (.bl false)) (.val (rowsT n rows) :: .val (.int (n : Int)) :: ρ) η := fun ρ => by
    cases rows with
    | nil => simp
    | cons w rows =>
      have h0 : atI ((w :: rows).map (rowT n)) 0 = some (rowT n w) := at_hd
      have hl : ((w :: rows).map (rowT n)).length = rows.length + 1 := by simp
      unfold rowsT at *
      generalize (w :: rows).map (rowT n) = rD at *
      simp [hl, h0, its_len, show (0 : Int) < rows.length + 1 by omega]
  apply fr_eq
  simp [c1, c2, hcond, -ev_and]
  rw [lc_nm (f := rT n) (xs := R) (fun a => .int (a.1 : Int)) rfl (sz (by omega)) (fun a ha => by
    have := c3 a ha
    rw [hld.piv ha] at this
    simp [this])]
  simp [hs, rngD_int]
  rw [lc_nmF (f := fun (k : Nat) => D.int (k : Int)) (xs := List.range n) (fun i => decide (∀ a ∈ R, a.1 ≠ i)) (fun i => .int (i : Int)) rfl (by rw [List.length_range]; exact sz (by omega)) (fun i hi => by
    have hin := in_piv (n := n) (R := R) (i := i)
    generalize (R.map fun a => D.int (a.1 : Int)) = pD at *
    simp [hin]
    generalize decide (∀ a ∈ R, ¬ a.1 = i) = q
    cases q <;> rfl)]
  have hnpd : (List.range n).filter (fun i => decide (∀ a ∈ R, a.1 ≠ i)) = np n R := rfl
  rw [hnpd]
  simp
  rw [lc_nm (f := fun (t : Nat) => D.int (t : Int)) (xs := np n R) (fun t => rowT n (fa t R)) rfl (sz (by omega)) (fun t ht => by simp [c4 t (hmem t ht)])]
  have e : (np n R).map (fun t => rowT n (fa t R)) = (fs n R).map (rowT n) := by
    unfold fs
    rw [List.map_map]
    rfl
  rw [e]
  simp [c5]

open Lin Fp
theorem f_rank (k : Nat) (hk : 7 ≤ k) (n : Nat) (hn : 1 ≤ n ∧ n ≤ 20) (rows : List (Vc Fq)) (hr : rows.length ≤ 60) (h : SuA n rows) (η : List AO) : den Pd k j_rank [rowsT n rows] η = .ret (.val (.int ((bs n rows).length : Int))) η := by
  obtain ⟨m, rfl, hm⟩ := pre1 hk
  have c1 := f_reduced m hm n hn rows hr h η
  rw [dn_rank]
  simp [c1]
theorem sub_mul_mod (a b c : Fq) : (iv a - iv b * iv c) % 65521 = iv (a - b * c) := by
  rw [iv_sub, iv_mul]
  generalize iv b * iv c = q
  omega
theorem f_linverse (k : Nat) (hk : 1 ≤ k) (x : Fq) (η : List AO) : den Pd k j_law_inverse [.int (iv x)] η = .ret (.val (.int (iv (invF x)))) η := by
  obtain ⟨m, rfl, hm⟩ := pre1 hk
  rw [dn_law_inverse]
  apply fr_eq
  have hs : small62 16 = true := by decide
  simp [hs, rngD_int, -put_nm]
  rw [sat_bind]
  have hx := iv_rng x
  obtain ⟨P, hP⟩ : ∃ P : Nat → List Slot → Prop, ∀ i ρ, P i ρ ↔ ∃ (r s : Int) (e : Nat) (s4 : Slot), (e < 2 ^ (16 - i)) ∧ 0 ≤ r ∧ r < 65521 ∧ 0 ≤ s ∧ s < 65521 ∧ C (r * s ^ e) (iv x ^ 65519) ∧ ρ = [.val (.int (iv x)), .val (.int r), .val (.int s), .val (.int (e : Int)), s4] := ⟨_, fun _ _ => Iff.rfl⟩
  refine sat_rngS (n := 16) P ((hP _ _).2 ⟨1, iv x, 65519, _, by decide, by omega, by omega, hx.1, hx.2, by rw [Int.one_mul]; exact C.refl _, rfl⟩) ?_ ?_
  · intro i ρ hi hp
    obtain ⟨r, s, e, s4, he, r0, r1, s0, s1, hc, rfl⟩ := (hP _ _).1 hp
    refine sat_nm (by simp) ?_
    simp only [List.set_cons_succ, List.set_cons_zero]
    have kr : mulOk r s = true := mulOk_l (by omega) (by omega)
    have ks : mulOk s s = true := mulOk_l (by omega) (by omega)
    have hss : s ^ e = s ^ (e % 2) * (s * s) ^ (e / 2) := by
      have q : s * s = s ^ 2 := by rw [Int.pow_succ, Int.pow_succ, Int.pow_zero, Int.one_mul]
      rw [q, ← Int.pow_mul, ← Int.pow_add]
      congr 1
      omega
    have m0 := Int.emod_nonneg (r * s) (show (65521 : Int) ≠ 0 by decide)
    have m1 := Int.emod_lt_of_pos (r * s) (show (0 : Int) < 65521 by decide)
    have q0 := Int.emod_nonneg (s * s) (show (65521 : Int) ≠ 0 by decide)
    have q1 := Int.emod_lt_of_pos (s * s) (show (0 : Int) < 65521 by decide)
    have hcast : ((e / 2 : Nat) : Int) = (e : Int) / 2 := by omega
    have he2 : e / 2 < 2 ^ (16 - (i + 1)) := by
      have : 2 ^ (16 - i) = 2 * 2 ^ (16 - (i + 1)) := by
        rw [← Nat.pow_succ']
        congr 1
        omega
      omega
    rcases (show e % 2 = 0 ∨ e % 2 = 1 by omega) with e0 | e0
    · have e' : (e : Int) % 2 = 0 := by omega
      have hcc : C (r * (s * s % 65521) ^ (e / 2)) (iv x ^ 65519) := by
        refine ((C.refl r).mul ((C.mod (s * s)).pow _)).trans ?_
        rw [hss, e0, Int.pow_zero, Int.one_mul] at hc
        exact hc
      simp [e', kr, ks]
      exact (hP _ _).2 ⟨r, _, e / 2, _, he2, r0, r1, q0, q1, hcc, by rw [hcast]⟩
    · have e' : (e : Int) % 2 = 1 := by omega
      have hcc : C ((r * s % 65521) * (s * s % 65521) ^ (e / 2)) (iv x ^ 65519) := by
        refine ((C.mod (r * s)).mul ((C.mod (s * s)).pow _)).trans ?_
        rw [hss, e0, Int.pow_succ, Int.pow_zero, Int.one_mul] at hc
        rw [Int.mul_assoc]
        exact hc
      simp [e', kr, ks]
      exact (hP _ _).2 ⟨_, _, e / 2, _, he2, m0, m1, q0, q1, hcc, by rw [hcast]⟩
  · intro ρ hp
    obtain ⟨r, s, e, s4, he, r0, r1, s0, s1, hc, rfl⟩ := (hP _ _).1 hp
    have e0 : e = 0 := by simpa using he
    subst e0
    rw [Int.pow_zero, Int.mul_one] at hc
    have : r = iv (invF x) := by
      rw [iv_inv]
      have := hc.eq
      omega
    simp [this]
theorem f_less (k : Nat) (hk : 1 ≤ k) (n : Nat) (hn : n ≤ 100) (u b : Vc Fq) (c : Fq) (η : List AO) : den Pd k j_law_less [rowL n u, rowL n b, .int (iv c)] η = .ret (.own (.lst (its n fun i => u i - c * b i))) η := by
  obtain ⟨m, rfl, hm⟩ := pre1 hk
  have hs : small62 (n : Int) = true := small_ok (by omega) (by omega)
  rw [dn_law_less]
  simp [its_len, hs, rngD_int]
  rw [lc_rng (fun i => u i - c * b i) rfl (by omega) (fun i hi => by simp [its_atI u hi, its_atI b hi, mul_iv, sub_mul_mod])]
  simp
abbrev rL (n : Nat) (a : Rw Fq) : D := rowL n a.2

open Lin Fp
theorem nrm_at (w : Vc Fq) (t i : Nat) : nrm t w i = w i * invF (w t) := rfl
/-- the search of a column -/
def fnd (t : Nat) (L : List (Vc Fq)) : Int := match L.findIdx? fun v => decide (v t ≠ 0) with
  | some k => (k : Int)
  | none => -1
theorem fnd_none {t : Nat} {L : List (Vc Fq)} (h : ∀ (i : Nat) (w : Vc Fq), L[i]? = some w → w t = 0) : L.findIdx? (fun v => decide (v t ≠ 0)) = none := by
  rw [List.findIdx?_eq_none_iff]
  intro v hv
  obtain ⟨i, hi⟩ := List.getElem?_of_mem hv
  simp [h i v hi]
theorem fnd_some {t k : Nat} {L : List (Vc Fq)} {w : Vc Fq} (hk : L[k]? = some w) (hw : w t ≠ 0) (h : ∀ (i : Nat) (w : Vc Fq), i < k → L[i]? = some w → w t = 0) : L.findIdx? (fun v => decide (v t ≠ 0)) = some k := by
  rw [List.findIdx?_eq_some_iff_getElem]
  have hlt : k < L.length := by
    rcases Nat.lt_or_ge k L.length with q | q
    · exact q
    · rw [List.getElem?_eq_none q] at hk; cases hk
  refine ⟨hlt, ?_, fun j hj => ?_⟩
  · rw [List.getElem?_eq_getElem hlt] at hk
    injection hk with hk
    rw [hk]
    simpa using hw
  · have := h j _ hj (List.getElem?_eq_getElem (by omega))
    simp [this]
theorem red1_none {t : Nat} {S : List (Rw Fq) × List (Vc Fq)} (h : S.2.findIdx? (fun v => decide (v t ≠ 0)) = none) : red1 S t = S := by
  unfold red1
  rw [h]
theorem red1_some {t k : Nat} {S : List (Rw Fq) × List (Vc Fq)} {w : Vc Fq} (h : S.2.findIdx? (fun v => decide (v t ≠ 0)) = some k) (hw : S.2[k]? = some w) : red1 S t = (S.1.map (clr t (nrm t w)) ++ [(t, nrm t w)], (oth k S.2).map fun v i => v i - v t * nrm t w i) := by
  unfold red1
  rw [h]
  have : S.2.getD k (fun _ => 0) = w := by rw [List.getD_eq_getElem?_getD, hw]; rfl
  simp only [this]
theorem red_lens {rows : List (Vc Fq)} : ∀ n, ((List.range n).foldl red1 (([] : List (Rw Fq)), rows)).1.length ≤ n ∧ ((List.range n).foldl red1 (([] : List (Rw Fq)), rows)).2.length ≤ rows.length
  | 0 => ⟨Nat.le_refl _, Nat.le_refl _⟩
  | n + 1 => by
    have ih := red_lens (rows := rows) n
    rw [List.range_succ, List.foldl_append]
    generalize (List.range n).foldl red1 (([] : List (Rw Fq)), rows) = S at *
    show (red1 S n).1.length ≤ n + 1 ∧ (red1 S n).2.length ≤ rows.length
    cases h : S.2.findIdx? (fun v => decide (v n ≠ 0)) with
    | none =>
      rw [red1_none h]
      exact ⟨by omega, ih.2⟩
    | some k =>
      unfold red1
      rw [h]
      simp only [List.length_append, List.length_map, List.length_singleton]
      refine ⟨by omega, Nat.le_trans ?_ ih.2⟩
      unfold oth
      rw [List.length_map]
      have := List.length_filter_le (fun j => decide (j ≠ k)) (List.range S.2.length)
      rwa [List.length_range] at this
theorem f_lred (k : Nat) (hk : 2 ≤ k) (n : Nat) (hn : n ≤ 100) (rows : List (Vc Fq)) (hr : rows.length ≤ 100) (d : D) (c : Vc Fq → D) (hd : wOf [d] = some (rows.map c)) (hc : c = rowT n ∨ c = rowL n) (η : List AO) :
    den Pd k j_law_reduced [d, .int (n : Int)] η = .ret (.own (.lst ((redF n rows).map (rL n)))) η := by
  obtain ⟨m, rfl, hm⟩ := pre1 hk
  rw [dn_law_reduced]
  apply fr_eq
  have hwk : walkD .of [d] = some (rows.map c) := hd
  have hl : ∀ v, bi1 .list (.d (c v)) = some (.own (.lst (its n v))) := fun v => by rcases hc with rfl | rfl <;> rfl
  have hv : ∀ v η, vwD η (c v) = some (.d (c v)) := fun v η => by rcases hc with rfl | rfl <;> rfl
  have hs : small62 (n : Int) = true := small_ok (by omega) (by omega)
  simp [hwk, -put_nm]
  rw [lc_nm (f := c) (fun v => rowL n v) rfl (sz (by omega)) (fun v _ => by simp [hv, hl])]
  simp [hs, rngD_int, -put_nm]
  rw [sat_bind]
  obtain ⟨P, hP⟩ : ∃ P : Nat → List Slot → Prop, ∀ i ρ, P i ρ ↔ ∃ (S : List (Rw Fq) × List (Vc Fq)) (s5 s6 s7 s8 s9 s11 : Slot), S = (List.range i).foldl red1 ([], rows) ∧ (s7 = .un ∨ ∃ x, s7 = .val x) ∧ ρ = [.val d, .val (.int (n : Int)), .own (.lst (S.2.map (rowL n))), .un, .own (.lst (S.1.map (rL n))), s5, s6, s7, s8, s9, .un, s11] := ⟨_, fun _ _ => Iff.rfl⟩
  refine sat_rngS (n := n) P ((hP _ _).2 ⟨_, _, _, _, _, _, _, rfl, .inl rfl, rfl⟩) ?_ ?_
  · intro t ρ ht hp
    obtain ⟨S, s5, s6, s7, s8, s9, s11, hS, hs7, rfl⟩ := (hP _ _).1 hp
    obtain ⟨ln1, ln2⟩ := red_lens (rows := rows) t
    rw [← hS] at ln1 ln2
    have hnext : ∀ S', red1 S t = S' → S' = (List.range (t + 1)).foldl red1 ([], rows) := fun S' e => by
      rw [List.range_succ, List.foldl_append, ← hS]
      exact e.symm
    obtain ⟨R, L⟩ := S
    simp only at ln1 ln2
    refine sat_nm (by simp) ?_
    simp only [List.set_cons_succ, List.set_cons_zero]
    have hsL : small62 (L.length : Int) = true := small_ok (by omega) (by omega)
    obtain ⟨C, hC⟩ : ∃ C : List Slot → Prop, ∀ ρ, C ρ ↔ ∃ (s7 : Slot), (s7 = .un ∨ ∃ x, s7 = .val x) ∧ ρ = [.val d, .val (.int (n : Int)), .own (.lst (L.map (rowL n))), .un, .own (.lst (R.map (rL n))), .val (.int (t : Int)), .val (.int (fnd t L)), s7, s8, s9, .un, s11] := ⟨_, fun _ => Iff.rfl⟩
    refine sat_cutS 2 C ?_ ?_
    · simp [hsL, rngD_int, -put_nm]
      simp only [sat_bind]
      obtain ⟨G, hG⟩ : ∃ G : Nat → List Slot → Prop, ∀ j ρ, G j ρ ↔ ∃ (s7 : Slot) (x : Int), (s7 = .un ∨ ∃ x, s7 = .val x) ∧ ((x = -1 ∧ ∀ i w, i < j → L[i]? = some w → w t = 0) ∨ ∃ (k : Nat) (w : Vc Fq), x = (k : Int) ∧ L[k]? = some w ∧ w t ≠ 0 ∧ ∀ i w, i < k → L[i]? = some w → w t = 0) ∧ ρ = [.val d, .val (.int (n : Int)), .own (.lst (L.map (rowL n))), .un, .own (.lst (R.map (rL n))), .val (.int (t : Int)), .val (.int x), s7, s8, s9, .un, s11] := ⟨_, fun _ _ => Iff.rfl⟩
      refine sat_rngS (n := L.length) G ((hG _ _).2 ⟨s7, -1, hs7, .inl ⟨rfl, fun i w hi => by omega⟩, rfl⟩) ?_ ?_
      · intro j ρ hj hg
        obtain ⟨s7, x, hs7, hx, rfl⟩ := (hG _ _).1 hg
        refine sat_nm (by simp) ?_
        simp only [List.set_cons_succ, List.set_cons_zero]
        have eL : atI (L.map (rowL n)) (j : Int) = some (rowL n L[j]) := atI_get (by simp [hj])
        have ea := its_atI L[j] ht
        have hget : L[j]? = some L[j] := List.getElem?_eq_getElem hj
        generalize L[j] = w at *
        rcases hx with ⟨rfl, hx⟩ | ⟨k, u, rfl, hu⟩
        · by_cases hw : w t = 0
          · have hw' := iv_eq0.mpr hw
            simp [eL, ea, hw']
            refine (hG _ _).2 ⟨_, -1, .inr ⟨_, rfl⟩, .inl ⟨rfl, fun i u hi hu => ?_⟩, rfl⟩
            by_cases e : i = j
            · subst e
              rw [hget] at hu
              rw [← Option.some.inj hu]
              exact hw
            · exact hx i u (by omega) hu
          · have hw' : ¬ iv (w t) = 0 := fun e => hw (iv_eq0.mp e)
            simp [eL, ea, hw']
            exact (hG _ _).2 ⟨_, j, .inr ⟨_, rfl⟩, .inr ⟨j, w, rfl, hget, hw, hx⟩, rfl⟩
        · have hk0 : ¬ ((k : Int) < 0) := by omega
          simp [hk0]
          exact (hG _ _).2 ⟨_, k, .inr ⟨_, rfl⟩, .inr ⟨k, u, rfl, hu⟩, rfl⟩
      · intro ρ hg
        obtain ⟨s7, x, hs7, hx, rfl⟩ := (hG _ _).1 hg
        have : x = fnd t L := by
          unfold fnd
          rcases hx with ⟨rfl, hx⟩ | ⟨k, u, rfl, hu1, hu2, hu3⟩
          · rw [fnd_none fun i w hi => hx i w (by
              rcases Nat.lt_or_ge i L.length with q | q
              · exact q
              · rw [List.getElem?_eq_none q] at hi; cases hi) hi]
          · rw [fnd_some hu1 hu2 hu3]
        subst this
        simp
        exact (hC _).2 ⟨s7, hs7, rfl⟩
    · intro ρ hcc
      obtain ⟨s7, hs7, rfl⟩ := (hC _).1 hcc
      simp only [List.drop_succ_cons, List.drop_zero]
      cases hf : L.findIdx? (fun v => decide (v t ≠ 0)) with
      | none =>
        have hx : fnd t L = -1 := by unfold fnd; rw [hf]
        have hS' := hnext _ (red1_none (S := (R, L)) hf)
        rw [hx]
        simp
        exact (hP _ _).2 ⟨(R, L), _, _, _, _, _, _, hS', hs7, rfl⟩
      | some k =>
        have hx : fnd t L = (k : Int) := by unfold fnd; rw [hf]
        rw [hx]
        obtain ⟨hk, hk2, _⟩ := List.findIdx?_eq_some_iff_getElem.mp hf
        have hk2 : L[k] t ≠ 0 := by simpa using hk2
        have hS' := hnext _ (red1_some (S := (R, L)) (w := L[k]) hf (List.getElem?_eq_getElem hk))
        have eL : atI (L.map (rowL n)) (k : Int) = some (rowL n L[k]) := atI_get (by simp [hk])
        have ea := its_atI L[k] ht
        generalize L[k] = w at *
        have ci := f_linverse m (by omega) (w t) η
        have hfr : ∀ a b c d e f g y z u, freeS [a, b, c, d, e, f, g, s7, y, z, .un, u] [7] = true := fun a b c d e f g y z u => by
          rcases hs7 with rfl | ⟨x, rfl⟩ <;> rfl
        simp [eL, ea, ci, -put_nm]
        rw [lc_its (nrm t w) rfl (by omega) (fun i hi => by simp [mul_iv, nrm_at, iv_mul])]
        simp [hsL, rngD_int]
        rw [lc_nmF (f := fun (k : Nat) => D.int (k : Int)) (xs := List.range L.length) (fun j => decide (j ≠ k)) (fun j => rowL n (L.getD j fun _ => 0)) (hfr ..) (by rw [List.length_range]; exact sz (by omega)) (fun j hj => by
          have hj : j < L.length := List.mem_range.mp hj
          have eL : atI (L.map (rowL n)) (j : Int) = some (rowL n (L.getD j fun _ => 0)) := atI_get (by simp [hj])
          simp [eL]
          by_cases q : j = k
          · simp [q]
          · have q' : ¬ (j : Int) = (k : Int) := by omega
            simp [q, q'])]
        have hoth : ((List.range L.length).filter fun j => decide (j ≠ k)).map (fun j => rowL n (L.getD j fun _ => 0)) = (oth k L).map (rowL n) := by
          unfold oth
          rw [List.map_map]
          rfl
        have holn : (oth k L).length ≤ 100 := by
          unfold oth
          rw [List.length_map]
          have := List.length_filter_le (fun j => decide (j ≠ k)) (List.range L.length)
          rw [List.length_range] at this
          omega
        rw [hoth]
        generalize oth k L = O at *
        have cl := fun v : Vc Fq => f_less m hm n hn v (nrm t w) (v t) η
        have hat := fun v : Vc Fq => its_atI v ht
        generalize nrm t w = b at *
        have hlz : R.length < sizeLine := sz' (by omega)
        simp
        simp only [sat_bind]
        refine sat_lcI (f := rowL n) (fun v => rowL n fun i => v i - v t * b i) (fun ρ => ∃ s9, (s9 = .own (.lst (its n b)) ∨ s9 = .val (.lst (its n b))) ∧ ρ = [.val d, .val (.int (n : Int)), .own (.lst (L.map (rowL n))), .un, .own (.lst (R.map (rL n))), .val (.int (t : Int)), .val (.int (k : Int)), s7, .val (.int (iv (invF (w t)))), s9, .un, .val (.lst (O.map (rowL n)))]) rfl (sz (by omega)) (fun ρ ⟨s9, _, e⟩ => by rw [e]; simp) ⟨_, .inl rfl, rfl⟩ ?_ ?_
        · rintro v hv ρ ⟨s9, hs9, rfl⟩
          rcases hs9 with rfl | rfl <;> simp [cl v, hat v]
        · rintro ρ ⟨s9, hs9, rfl⟩
          simp
          simp only [sat_bind]
          refine sat_lcI (f := rL n) (fun a => rL n (clr t b a)) (fun ρ => ∃ s9, (s9 = .own (.lst (its n b)) ∨ s9 = .val (.lst (its n b))) ∧ ρ = [.val d, .val (.int (n : Int)), .own (.lst (O.map fun v => rowL n fun i => v i - v t * b i)), .un, .val (.lst (R.map (rL n))), .val (.int (t : Int)), .val (.int (k : Int)), s7, .val (.int (iv (invF (w t)))), s9, .un, .val (.lst (O.map (rowL n)))]) rfl (sz (by omega)) (fun ρ ⟨s9, _, e⟩ => by rw [e]; simp) ⟨_, hs9, rfl⟩ ?_ ?_
          · rintro a ha ρ ⟨s9, hs9, rfl⟩
            have cl2 : den Pd m j_law_less [rowL n a.2, rowL n b, .int (iv (a.2 t))] η = .ret (.own (.lst (its n (clr t b a).2))) η := cl a.2
            rcases hs9 with rfl | rfl <;> simp [cl2, hat a.2]
          · rintro ρ ⟨s9, hs9, rfl⟩
            have fin := fun s9 => (hP (t + 1) _).2 ⟨_, .val (.int (t : Int)), .val (.int (k : Int)), s7, .val (.int (iv (invF (w t)))), s9, .val (.lst (O.map (rowL n))), hS', hs7, rfl⟩
            simp only [List.map_append, List.map_map] at fin
            rcases hs9 with rfl | rfl
            · simp [hlz]
              exact fin _
            · simp [hlz]
              exact fin _
  · intro ρ hp
    obtain ⟨S, s5, s6, s7, s8, s9, s11, hS, hs7, rfl⟩ := (hP _ _).1 hp
    have : S.1 = redF n rows := by rw [hS]; rfl
    simp [this]

open Lin Fp
theorem f_frozen (k : Nat) (hk : 1 ≤ k) (n : Nat) (rows : List (Vc Fq)) (hr : rows.length ≤ 100) (η : List AO) : den Pd k j_law_frozen [.lst (rows.map (rowL n))] η = .ret (.val (rowsT n rows)) η := by
  obtain ⟨m, rfl, hm⟩ := pre1 hk
  rw [dn_law_frozen]
  simp
  rw [lc_nm (f := rowL n) (fun v => rowT n v) rfl (sz (by omega)) (fun v _ => by simp)]
  simp
theorem vs_map (n : Nat) (R : List (Rw Fq)) : R.map (rL n) = (vs R).map (rowL n) := by
  unfold vs
  rw [List.map_map]
  rfl
theorem vs_mapT (n : Nat) (R : List (Rw Fq)) : R.map (rT n) = (vs R).map (rowT n) := by
  unfold vs
  rw [List.map_map]
  rfl
theorem Ld.vs {n : Nat} {R : List (Rw Fq)} (h : Ld n R) : SuA n (vs R) := fun v hv => by
  obtain ⟨a, ha, rfl⟩ := mem_vs.mp hv
  exact h.su a ha
theorem filt_succ {n : Nat} {R : List (Rw Fq)} {t : Nat} : (List.range (t + 1)).filter (fun i => decide (∀ a ∈ R, a.1 ≠ i)) = (List.range t).filter (fun i => decide (∀ a ∈ R, a.1 ≠ i)) ++ (if ∀ a ∈ R, a.1 ≠ t then [t] else []) := by
  rw [List.range_succ, List.filter_append]
  congr 1
  by_cases h : ∀ a ∈ R, a.1 ≠ t
  · rw [if_pos h, List.filter_cons_of_pos (by simpa using h)]
    rfl
  · rw [if_neg h, List.filter_cons_of_neg (by simpa using h)]
    rfl

open Lin Fp
theorem f_draw (k : Nat) (hk : 2 ≤ k) (ns : List Int) (i : Nat) (count size : Int) (h0 : 0 < size) (h1 : size < 1073741824) (h2 : count ≤ 16777216) (h3 : -16777216 ≤ count) (η : List AO) :
    ∃ xs : List Int, xs.length = count.toNat ∧ (∀ x ∈ xs, 0 ≤ x ∧ x < size) ∧ den Pd k j_law_draw [.lck (ns.map .int), .int (i : Int), .int count, .int size] η = .ret (.own (.lst (xs.map .int))) η := by
  obtain ⟨m, rfl, hm⟩ := pre1 hk
  obtain ⟨m, rfl, hm⟩ := pre1 hm
  have c0 : den Pd (m + 1) j_law_cell [.lck (ns.map .int), .int (i : Int)] η = .ret (.val (.int (cellAt ns i))) η := cell_ok h_cell m ns i η
  generalize ns.map D.int = nsD at *
  obtain ⟨ab, hab⟩ : ∃ ab, (if cellAt ns i < 0 then -cellAt ns i else cellAt ns i) = ab := ⟨_, rfl⟩
  by_cases hb : ab < 1000000000000000000
  · obtain ⟨xs, e1, e2, e3⟩ := row_ok h_row m (ab % 1000000000000000 + 1000003 * (i : Int)) count size η h0 h1 h2 h3
    refine ⟨xs, e1, e2, ?_⟩
    rw [dn_law_draw]
    simp [c0, hab, hb, e3]
  · obtain ⟨xs, e1, e2, e3⟩ := row_ok h_row m ab count size η h0 h1 h2 h3
    refine ⟨xs, e1, e2, ?_⟩
    rw [dn_law_draw]
    simp [c0, hab, hb, e3]
def wdI (z : Int) : Int := if z % 8 < 3 then 0 else if z % 8 = 3 then 1 + z / 8 % 4 else if z % 8 = 4 then 65520 else z / 8 % 65521
def wd (z : Int) : Fq := toF (wdI z)
theorem wdI_rng {z : Int} : 0 ≤ wdI z ∧ wdI z < 65521 := by
  unfold wdI
  split
  · omega
  · split
    · omega
    · split <;> omega
theorem f_word (k : Nat) (hk : 1 ≤ k) (z : Int) (η : List AO) : den Pd k j_law_word [.int z] η = .ret (.val (.int (iv (wd z)))) η := by
  obtain ⟨m, rfl, hm⟩ := pre1 hk
  unfold wd
  rw [iv_toF' wdI_rng, dn_law_word]
  unfold wdI
  by_cases h1 : z % 8 < 3
  · simp [h1]
  · by_cases h2 : z % 8 = 3
    · simp [h1, h2]
    · by_cases h3 : z % 8 = 4
      · simp [h1, h2, h3]
      · simp [h1, h2, h3]
/-- words at the first n places -/
def cutV (n : Nat) (f : Nat → Fq) : Vc Fq := fun i => if i < n then f i else 0
theorem cutV_su {n : Nat} {f : Nat → Fq} : Su n (cutV n f) := fun i hi => by
  unfold cutV
  rw [if_neg (by omega)]
theorem cutV_at {n i : Nat} {f : Nat → Fq} (h : i < n) : cutV n f i = f i := by
  unfold cutV
  rw [if_pos h]

open Lin Fp
theorem f_same_rows (k : Nat) (hk : 3 ≤ k) (n : Nat) (hn : n ≤ 100) (rows : List (Vc Fq)) (hr : rows.length ≤ 100) (η : List AO) : den Pd k j_law_same [rowsT n rows, rowsT n rows] η = .ret (.val (.bl true)) η := by
  refine same_ok h_same η 2 k _ (by omega) ?_
  have e : rows.map (rowT n) = (rows.map fun v => (List.range n).map fun i => iv (v i)).map fun xs => .tup (xs.map .int) := by
    rw [List.map_map]
    refine List.map_congr_left fun v _ => ?_
    show D.tup (its n v) = _
    rw [its_ints]
    rfl
  unfold rowsT
  rw [e]
  refine plain_tups (n := 0) (by rw [List.length_map]; exact sz (by omega)) fun xs hx => ?_
  obtain ⟨v, _, rfl⟩ := List.mem_map.mp hx
  rw [List.length_map, List.length_range]
  exact sz (by omega)
theorem f_same_bl (k : Nat) (hk : 1 ≤ k) (b : Bool) (η : List AO) : den Pd k j_law_same [.bl b, .bl b] η = .ret (.val (.bl true)) η := same_ok h_same η 0 k _ (by omega) rfl
theorem f_same_int (k : Nat) (hk : 1 ≤ k) (b : Int) (η : List AO) : den Pd k j_law_same [.int b, .int b] η = .ret (.val (.bl true)) η := same_ok h_same η 0 k _ (by omega) rfl
theorem f_ann' (k : Nat) (hk : 7 ≤ k) (n : Nat) (hn : 1 ≤ n ∧ n ≤ 20) (rows : List (Vc Fq)) (hr : rows.length ≤ 60) (h : SuA n rows) (η : List AO) : den Pd k j_annihilator [rowsT n rows, .int (n : Int)] η = .ret (.val (rowsT n (vs (ann n rows)))) η := by
  rw [f_ann k hk n hn rows hr h η]
  unfold bT rowsT
  rw [vs_mapT]
theorem f_reduced' (k : Nat) (hk : 6 ≤ k) (n : Nat) (hn : 1 ≤ n ∧ n ≤ 20) (rows : List (Vc Fq)) (hr : rows.length ≤ 60) (h : SuA n rows) (η : List AO) : den Pd k j_reduced [rowsT n rows] η = .ret (.val (rowsT n (vs (bs n rows)))) η := by
  rw [f_reduced k hk n hn rows hr h η]
  unfold bT rowsT
  rw [vs_mapT]
theorem f_lred' (k : Nat) (hk : 2 ≤ k) (n : Nat) (hn : n ≤ 100) (rows : List (Vc Fq)) (hr : rows.length ≤ 100) (h : SuA n rows) (η : List AO) : den Pd k j_law_reduced [rowsT n rows, .int (n : Int)] η = .ret (.own (.lst ((vs (bs n rows)).map (rowL n)))) η := by
  rw [f_lred k hk n hn rows hr (rowsT n rows) (rowT n) rfl (.inl rfl) η, bs_red h, vs_map]

open Lin Fp
theorem toF_add (a b : Int) : toF (a + b) = toF a + toF b := iv_inj (by rw [iv_add, iv_toF, iv_toF, iv_toF]; omega)
theorem toF_mul (a b : Int) : toF (a * b) = toF a * toF b := iv_inj (by rw [iv_mul, iv_toF, iv_toF, iv_toF, ← Int.mul_emod])
theorem toF_zero : toF 0 = 0 := iv_inj (by rw [iv_toF]; rfl)
theorem f_summed (k : Nat) (hk : 1 ≤ k) (n : Nat) (hn : n ≤ 100) (u v : Vc Fq) (η : List AO) : den Pd k j_summed [rowT n u, rowT n v] η = .ret (.val (rowT n fun i => u i + v i)) η := by
  obtain ⟨m, rfl, hm⟩ := pre1 hk
  rw [dn_summed]
  have := lc_tg (ρ := [.val (.tup (its n u)), .val (.tup (its n v)), .un, .un]) (η := η) (tg := .tp [2, 3]) (f := fun i => .tup [eI (u i), eI (v i)]) (g := fun i => eI (u i + v i)) (xs := List.range n) (cond := evCs (den Pd m) []) (elt := (evR (den Pd m) (.bin .mod (.bin .add (.var 2) (.var 3)) (.cst (.int 65521)))).bind frz) rfl rfl rfl (by rw [List.length_range]; exact sz (by omega)) (fun x hx => ⟨[.val (.tup (its n u)), .val (.tup (its n v)), .val (eI (u x)), .val (eI (v x))], by simp [lcStep_at, eI, iv_add], rfl⟩)
  simp [zip_its, this, -put_tp]
  rfl
theorem f_dot (k : Nat) (hk : 1 ≤ k) (n : Nat) (u v : Vc Fq) (η : List AO) : den Pd k j_dot [rowT n u, rowT n v] η = .ret (.val (.int (iv (dot n u v)))) η := by
  obtain ⟨m, rfl, hm⟩ := pre1 hk
  rw [dn_dot]
  apply fr_eq
  simp [zip_its, -put_tp]
  rw [sat_bind]
  obtain ⟨P, hP⟩ : ∃ P : Nat → List Slot → Prop, ∀ i ρ, P i ρ ↔ ∃ (T : Int) (s3 s4 : Slot), toF T = dot i u v ∧ ρ = [.val (rowT n u), .val (rowT n v), .val (.int T), s3, s4] := ⟨_, fun _ _ => Iff.rfl⟩
  refine sat_forS (f := fun i => .tup [eI (u i), eI (v i)]) (xs := List.range n) P ((hP _ _).2 ⟨0, _, _, toF_zero, rfl⟩) ?_ ?_
  · intro i x ρ hx h
    obtain ⟨T, s3, s4, e, rfl⟩ := (hP _ _).1 h
    have hi : i < n := by
      rcases Nat.lt_or_ge i n with q | q
      · exact q
      · rw [List.getElem?_eq_none (by rw [List.length_range]; exact q)] at hx; cases hx
    rw [List.getElem?_range hi] at hx
    have hx := Option.some.inj hx
    subst hx
    simp [eI, mul_iv]
    refine (hP _ _).2 ⟨_, _, _, ?_, rfl⟩
    rw [toF_add, toF_mul, toF_iv, toF_iv, e]
    rfl
  · intro ρ h
    obtain ⟨T, s3, s4, e, rfl⟩ := (hP _ _).1 h
    rw [List.length_range] at e
    have : T % 65521 = iv (dot n u v) := by rw [← e, iv_toF]
    simp [this]
theorem f_unit (k : Nat) (hk : 1 ≤ k) (c : Nat) (hc : c ≤ 100) (t : Nat) (η : List AO) : den Pd k j_unit_row [.int (t : Int), .int (c : Int)] η = .ret (.val (rowT c (unitV t))) η := by
  obtain ⟨m, rfl, hm⟩ := pre1 hk
  have hs : small62 (c : Int) = true := small_ok (by omega) (by omega)
  rw [dn_unit_row]
  simp [hs, rngD_int]
  rw [lc_rng (unitV t) rfl (by omega) (fun i hi => by
    unfold unitV
    by_cases q : i = t
    · simp [q, iv_one]
    · have q' : ¬ (i : Int) = (t : Int) := by omega
      simp [q, q', iv_zero])]
  simp
/-- a tracked row -/
abbrev tkD (n c : Nat) (a : Tk Fq) : D := .tup [rowT n a.1.2, rowT c a.2]
theorem f_cleared (k : Nat) (hk : 2 ≤ k) (n c : Nat) (hn : n ≤ 100) (hc : c ≤ 100) (T : List (Tk Fq)) (hl : T.length ≤ 1000) (h : ∀ a ∈ T, lead n a.1.2 = some a.1.1) (v s : Vc Fq) (r : Nat) (η : List AO) (hr : η[r]? = some (.lst (T.map (tkD n c)))) :
    den Pd k j_cleared_pair [.ref r, rowT n v, rowT c s] η = .ret (.val (.tup [rowT n (clp T (v, s)).1, rowT c (clp T (v, s)).2])) η := by
  obtain ⟨m, rfl, hm⟩ := pre1 hk
  have h2 : (2 : Nat) ≤ sizeLine := sz (by omega)
  rw [dn_cleared_pair]
  apply fr_eq
  simp [-put_tp]
  rw [sat_bind]
  obtain ⟨P, hP⟩ : ∃ P : Nat → List Slot → Prop, ∀ i ρ, P i ρ ↔ ∃ (z : Vc Fq × Vc Fq) (s5 s6 s7 : Slot), clp (T.drop i) z = clp T (v, s) ∧ ρ = [.val (.ref r), .val (rowT n v), .val (rowT c s), .val (rowT n z.1), .val (rowT c z.2), s5, s6, s7] := ⟨_, fun _ _ => Iff.rfl⟩
  refine sat_ref (f := tkD n c) (xs := T) P (by omega) hr ((hP _ _).2 ⟨(v, s), _, _, _, rfl, rfl⟩) ?_ ?_
  · intro i a ρ hi hp
    obtain ⟨z, s5, s6, s7, e, rfl⟩ := (hP _ _).1 hp
    obtain ⟨hd, ha⟩ := drop_at hi
    rw [hd] at e
    have hla := h a ha
    obtain ⟨l1, l2, l3⟩ := lead_some hla
    have c1 := f_pivot m (by omega) n a.1.2 η
    unfold piv at c1
    rw [hla] at c1
    simp only at c1
    have ea := its_atI z.1 l1
    have c2 := f_scaled m (by omega) n hn a.1.2 (z.1 a.1.1) η
    have c3 := f_minus m (by omega) n hn z.1 (fun i => a.1.2 i * z.1 a.1.1) η
    have c4 := f_scaled m (by omega) c hc a.2 (z.1 a.1.1) η
    have c5 := f_minus m (by omega) c hc z.2 (fun i => a.2 i * z.1 a.1.1) η
    have e1 : (fun i => z.1 i - a.1.2 i * z.1 a.1.1) = fun i => z.1 i - z.1 a.1.1 * a.1.2 i := funext fun i => by grind
    have e2 : (fun i => z.2 i - a.2 i * z.1 a.1.1) = fun i => z.2 i - z.1 a.1.1 * a.2 i := funext fun i => by grind
    rw [e1] at c3
    rw [e2] at c5
    by_cases hz : z.1 a.1.1 = 0
    · have hz' := iv_eq0.mpr hz
      have e3 : clp (T.drop (i + 1)) z = clp T (v, s) := by
        rw [← e]
        show _ = clp (T.drop (i + 1)) (fun i => z.1 i - z.1 a.1.1 * a.1.2 i, fun i => z.2 i - z.1 a.1.1 * a.2 i)
        congr 1
        refine Prod.ext (funext fun i => ?_) (funext fun i => ?_)
        · show z.1 i = z.1 i - z.1 a.1.1 * a.1.2 i
          rw [hz]
          grind
        · show z.2 i = z.2 i - z.1 a.1.1 * a.2 i
          rw [hz]
          grind
      simp [c1, ea, hz']
      exact (hP _ _).2 ⟨z, _, _, _, e3, rfl⟩
    · have hz' : ¬ iv (z.1 a.1.1) = 0 := fun e => hz (iv_eq0.mp e)
      simp [c1, ea, hz', c2, c3, c4, c5]
      exact (hP _ _).2 ⟨(fun i => z.1 i - z.1 a.1.1 * a.1.2 i, fun i => z.2 i - z.1 a.1.1 * a.2 i), _, _, _, e, rfl⟩
  · intro ρ hp
    obtain ⟨z, s5, s6, s7, e, rfl⟩ := (hP _ _).1 hp
    rw [List.drop_length] at e
    have e : z = clp T (v, s) := e
    subst e
    simp [h2]

open Lin Fp
/-- the rows of a list by their numbers -/
def rf (rows : List (Vc Fq)) : Nat → Vc Fq := fun j => rows.getD j fun _ => 0
theorem rf_at {rows : List (Vc Fq)} {j : Nat} {v : Vc Fq} (h : rows[j]? = some v) : rf rows j = v := by
  unfold rf
  rw [List.getD_eq_getElem?_getD, h]
  rfl
theorem rf_rws (rows : List (Vc Fq)) : rws rows.length (rf rows) = rows := by
  unfold rws
  refine List.ext_getElem? fun j => ?_
  rcases Nat.lt_or_ge j rows.length with q | q
  · rw [List.getElem?_map, List.getElem?_range q, List.getElem?_eq_getElem q]
    exact congrArg some (rf_at (List.getElem?_eq_getElem q))
  · rw [List.getElem?_eq_none (by simpa using q), List.getElem?_eq_none q]
theorem rf_su {n : Nat} {rows : List (Vc Fq)} (h : SuA n rows) : ∀ j, j < rows.length → Su n (rf rows j) := fun j hj => by
  rw [rf_at (List.getElem?_eq_getElem hj)]
  exact h _ (List.getElem_mem hj)
theorem allTk_len {n c : Nat} {r : Nat → Vc Fq} : ∀ k, (allTk n c r k).length ≤ k
  | 0 => Nat.le_refl _
  | k + 1 => by
    have := allTk_len (n := n) (c := c) (r := r) k
    rw [allTk_succ]
    unfold tks
    split
    · omega
    · rw [List.length_append, List.length_singleton]
      omega
theorem mulT0 {c : Nat} (hc : c ≤ 100) : binD .mul (.tup [D.int 0]) (.int (c : Int)) = some (.val (rowT c fun _ => 0)) := by
  rw [mul_tup, if_pos ⟨by simp, by omega, by omega, by simp⟩, Int.toNat_natCast, repl_flat]
  congr 3
  refine List.ext_getElem? fun i => ?_
  rcases Nat.lt_or_ge i c with q | q
  · rw [its_at _ q, List.getElem?_replicate, if_pos q]
    rfl
  · rw [List.getElem?_eq_none (by rw [List.length_replicate]; exact q), List.getElem?_eq_none (by rw [its_len]; exact q)]
theorem f_coef (k : Nat) (hk : 3 ≤ k) (n : Nat) (hn : n ≤ 100) (rows : List (Vc Fq)) (hr : rows.length ≤ 60) (hsu : SuA n rows) (v : Vc Fq) (η : List AO) :
    ∃ η', den Pd k j_coefficients [rowsT n rows, rowT n v] η = .ret (.val (rowT rows.length (cfs n rows.length (rf rows) v))) η' := by
  obtain ⟨m, rfl, hm⟩ := pre1 hk
  obtain ⟨W, hW⟩ : ∃ W : RV → List AO → Prop, ∀ x η', W x η' ↔ x = .val (rowT rows.length (cfs n rows.length (rf rows) v)) := ⟨_, fun _ _ => Iff.rfl⟩
  have main : ∃ x η', den Pd (m + 1) j_coefficients [rowsT n rows, rowT n v] η = .ret x η' ∧ W x η' := by
    rw [dn_coefficients]
    apply fr_sat
    have h0 : (0 : Nat) ≤ sizeLine := Nat.zero_le _
    have h1 : (1 : Nat) ≤ sizeLine := sz (by omega)
    have h2 : (2 : Nat) ≤ sizeLine := sz (by omega)
    have hlen : (rows.map (rowT n)).length = rows.length := List.length_map ..
    simp [h0, -put_tp]
    rw [sat_bind]
    obtain ⟨P, hP⟩ : ∃ P : Nat → List Slot → List AO → Prop, ∀ i ρ η', P i ρ η' ↔ η' = η ++ [.lst ((allTk n rows.length (rf rows) i).map (tkD n rows.length))] ∧ ∃ (s3 s4 s5 s6 s7 s8 : Slot), ρ = [.val (rowsT n rows), .val (rowT n v), .val (.ref η.length), s3, s4, s5, s6, s7, s8, .un] := ⟨_, fun _ _ _ => Iff.rfl⟩
    have htk := fun k (hk : k ≤ rows.length) => allTk_ok (n := n) (rf_su hsu) k hk
    refine sat_enumM (f := rowT n) (xs := rows) P ((hP _ _ _).2 ⟨rfl, _, _, _, _, _, _, rfl⟩) ?_ ?_
    · intro i w ρ η' hi hp
      obtain ⟨rfl, s3, s4, s5, s6, s7, s8, rfl⟩ := (hP _ _ _).1 hp
      have hil : i < rows.length := by
        rcases Nat.lt_or_ge i rows.length with q | q
        · exact q
        · rw [List.getElem?_eq_none q] at hi; cases hi
      have hw := rf_at hi
      have ht := htk i (by omega)
      have hTl := allTk_len (n := n) (c := rows.length) (r := rf rows) i
      have hnext := allTk_succ (n := n) (c := rows.length) (r := rf rows) (k := i)
      rw [hw] at hnext
      generalize hη1 : (η ++ [AO.lst ((allTk n rows.length (rf rows) i).map (tkD n rows.length))]) = η1 at *
      have hget : η1[η.length]? = some (.lst ((allTk n rows.length (rf rows) i).map (tkD n rows.length))) := by rw [← hη1]; exact last_get
      have hset : ∀ y, η1.set η.length y = η ++ [y] := fun y => by rw [← hη1]; exact last_set
      have c1 := f_unit m (by omega) rows.length (by omega) i η1
      have c2 := f_cleared m hm n rows.length hn (by omega) _ (by omega) ht.ld w (unitV i) η.length η1 hget
      have c3 := f_pivot m (by omega) n (clp (allTk n rows.length (rf rows) i) (w, unitV i)).1 η1
      unfold tks at hnext
      cases hl : lead n (clp (allTk n rows.length (rf rows) i) (w, unitV i)).1 with
      | none =>
        rw [hl] at hnext
        unfold piv at c3
        rw [hl] at c3
        simp [hlen, c1, c2, c3]
        exact (hP _ _ _).2 ⟨by rw [← hη1, hnext], _, _, _, _, _, _, rfl⟩
      | some t =>
        rw [hl] at hnext
        unfold piv at c3
        rw [hl] at c3
        obtain ⟨l1, l2, l3⟩ := lead_some hl
        simp only at c3 hnext
        generalize clp (allTk n rows.length (rf rows) i) (w, unitV i) = z at *
        have c4 := f_inverse m hm (z.1 t) l2 η1
        have c5 := f_scaled m (by omega) n hn z.1 (invF (z.1 t)) η1
        have c6 := f_scaled m (by omega) rows.length (by omega) z.2 (invF (z.1 t)) η1
        have ea := its_atI z.1 l1
        have hz : (allTk n rows.length (rf rows) i).length < sizeLine := sz' (by omega)
        simp [hlen, c1, c2, c3, ea, c4, c5, c6, hget, hz, hset, h2]
        refine (hP _ _ _).2 ⟨?_, _, _, _, _, _, _, rfl⟩
        rw [hnext, List.map_append]
        rfl
    · intro ρ η' hp
      obtain ⟨rfl, s3, s4, s5, s6, s7, s8, rfl⟩ := (hP _ _ _).1 hp
      have ht := htk rows.length (Nat.le_refl _)
      have hTl := allTk_len (n := n) (c := rows.length) (r := rf rows) rows.length
      have c2 := f_cleared m hm n rows.length hn (by omega) _ (by omega) ht.ld v (fun _ => 0) η.length (η ++ [AO.lst ((allTk n rows.length (rf rows) rows.length).map (tkD n rows.length))]) last_get
      have c3 := fun u => f_scaled m (by omega) rows.length (by omega) u (-1) (η ++ [AO.lst ((allTk n rows.length (rf rows) rows.length).map (tkD n rows.length))])
      have hm1 : iv (-1 : Fq) = 65520 := by decide
      rw [hm1] at c3
      have he : (fun j => (clp (allTk n rows.length (rf rows) rows.length) (v, fun _ => 0)).2 j * (-1 : Fq)) = cfs n rows.length (rf rows) v := by
        funext j
        unfold cfs
        grind
      have c3 := c3 (clp (allTk n rows.length (rf rows) rows.length) (v, fun _ => 0)).2
      rw [he] at c3
      generalize (η ++ [AO.lst ((allTk n rows.length (rf rows) rows.length).map (tkD n rows.length))]) = η1 at *
      have hmt := mulT0 (c := rows.length) (by omega)
      have hat : ∀ a b : D, atI [a, b] 1 = some b := fun a b => rfl
      have fin := (hW (.val (rowT rows.length (cfs n rows.length (rf rows) v))) η1).2 rfl
      generalize cfs n rows.length (rf rows) v = q at *
      simp [hlen, h1, hmt, c2, hat, c3, -mul_tup]
      exact fin
  obtain ⟨x, η', e, hw⟩ := main
  rw [(hW _ _).1 hw] at e
  exact ⟨η', e⟩

open Lin Fp
theorem eq_rows (n : Nat) (u v : Vc Fq) : eqD (rowT n u) (rowT n v) = some (decide (∀ i, i < n → u i = v i)) := by
  rw [show rowT n u = .tup (its n u) from rfl, show rowT n v = .tup (its n v) from rfl, its_ints, its_ints, eqD_ints]
  congr 1
  rw [decide_eq_decide]
  constructor
  · intro h i hi
    have : ((List.range n).map fun i => iv (u i))[i]? = ((List.range n).map fun i => iv (v i))[i]? := by rw [h]
    rw [List.getElem?_map, List.getElem?_map, List.getElem?_range hi] at this
    exact iv_inj (Option.some.inj this)
  · intro h
    refine List.map_congr_left fun i hi => ?_
    rw [h i (List.mem_range.mp hi)]
/-- the functional that tells a row apart -/
def apF (n : Nat) (rows : List (Vc Fq)) (v : Vc Fq) (t : Nat) : Vc Fq := fun i => fa t (bs n rows) i * invF (rest (bs n rows) v t)
theorem f_judge_sum (k : Nat) (hk : 7 ≤ k) (n : Nat) (hn : 1 ≤ n ∧ n ≤ 20) (rows : List (Vc Fq)) (hr : rows.length ≤ 60) (hsu : SuA n rows) (v : Vc Fq) (hv : Su n v) (h : Sp rows v) (η : List AO) :
    ∃ η', den Pd k j_judge_span [rowsT n rows, rowT n v] η = .ret (.val (.tup [.str "sum", rowT rows.length (cfs n rows.length (rf rows) v)])) η' := by
  obtain ⟨m, rfl, hm⟩ := pre1 hk
  have c1 := f_beside m (by omega) n hn rows v hr η
  have c2 := f_basis m (by omega) n (by omega) rows hsu (rowsT n rows) (.inl rfl) η
  have c3 := f_rest m (by omega) n (by omega) (bs n rows) hsu.ld v η
  have c4 := f_pivot m (by omega) n (rest (bs n rows) v) η
  have hl : lead n (rest (bs n rows) v) = none := by
    have := (holds_iff hsu hv).mpr h
    rwa [Option.isNone_iff_eq_none] at this
  unfold piv at c4
  rw [hl] at c4
  obtain ⟨η', c5⟩ := f_coef m (by omega) n (by omega) rows hr hsu v η
  have h2 : (2 : Nat) ≤ sizeLine := sz (by omega)
  refine ⟨η', ?_⟩
  rw [dn_judge_span]
  simp [c1, c2, c3, c4, c5, h2]
theorem f_judge_ap (k : Nat) (hk : 7 ≤ k) (n : Nat) (hn : 1 ≤ n ∧ n ≤ 20) (rows : List (Vc Fq)) (hr : rows.length ≤ 60) (hsu : SuA n rows) (v : Vc Fq) {t : Nat} (hl : lead n (rest (bs n rows) v) = some t) (η : List AO) :
    den Pd k j_judge_span [rowsT n rows, rowT n v] η = .ret (.val (.tup [.str "apart", rowT n (apF n rows v t)])) η := by
  obtain ⟨m, rfl, hm⟩ := pre1 hk
  have c1 := f_beside m (by omega) n hn rows v hr η
  have c2 := f_basis m (by omega) n (by omega) rows hsu (rowsT n rows) (.inl rfl) η
  have c3 := f_rest m (by omega) n (by omega) (bs n rows) hsu.ld v η
  have c4 := f_pivot m (by omega) n (rest (bs n rows) v) η
  unfold piv at c4
  rw [hl] at c4
  obtain ⟨l1, l2, l3⟩ := lead_some hl
  have c5 := f_func m (by omega) n (by omega) (bs n rows) hsu.ld t l1 η
  have c6 := f_inverse m (by omega) _ l2 η
  have c7 : den Pd m j_scaled [rowT n (fa t (bs n rows)), .int (iv (invF (rest (bs n rows) v t)))] η = .ret (.val (rowT n (apF n rows v t))) η := f_scaled m (by omega) n (by omega) _ _ η
  have ea := its_atI (rest (bs n rows) v) l1
  have h2 : (2 : Nat) ≤ sizeLine := sz (by omega)
  have ht : ¬ ((t : Int) < 0) := by omega
  simp only at c4
  generalize apF n rows v t = ap at *
  generalize rest (bs n rows) v = w at *
  rw [dn_judge_span]
  simp [c1, c2, c3, c4, ht, its_len, c5, ea, c6, c7, h2]
theorem f_is_sum (k : Nat) (hk : 7 ≤ k) (n : Nat) (hn : 1 ≤ n ∧ n ≤ 20) (rows : List (Vc Fq)) (hr : rows.length ≤ 60) (v p : Vc Fq) (η : List AO) :
    den Pd k j_is_sum [rowsT n rows, rowT n v, rowT rows.length p] η = .ret (.val (.bl (decide (∀ i, i < n → comb rows.length (rf rows) p i = v i)))) η := by
  obtain ⟨m, rfl, hm⟩ := pre1 hk
  have c1 := f_beside m (by omega) n hn rows v hr η
  have c2 := f_is_words m (by omega) rows.length p η
  have hlen : (rows.map (rowT n)).length = rows.length := List.length_map ..
  have h1 : (1 : Nat) ≤ sizeLine := sz (by omega)
  have hmt := mulT0 (c := n) (by omega)
  have hzip : ((rows.map (rowT n)).zip (its rows.length p)).map (fun x => D.tup [x.1, x.2]) = (List.range rows.length).map fun j => .tup [rowT n (rf rows j), eI (p j)] := by
    have e : rows.map (rowT n) = (List.range rows.length).map fun j => rowT n (rf rows j) := by
      conv => lhs; rw [← rf_rws rows]
      unfold rws
      rw [List.map_map]
      rfl
    rw [e]
    unfold its
    rw [List.zip_map', List.map_map]
    rfl
  rw [dn_is_sum]
  apply fr_eq
  simp [c1, c2, hlen, hmt, its_len, h1, hzip, -put_tp, -mul_tup]
  rw [sat_bind]
  obtain ⟨P, hP⟩ : ∃ P : Nat → List Slot → Prop, ∀ i ρ, P i ρ ↔ ∃ (s4 s5 : Slot), ρ = [.val (rowsT n rows), .val (rowT n v), .val (rowT rows.length p), .val (rowT n (comb i (rf rows) p)), s4, s5] := ⟨_, fun _ _ => Iff.rfl⟩
  refine sat_forS (f := fun j => .tup [rowT n (rf rows j), eI (p j)]) (xs := List.range rows.length) P ((hP _ _).2 ⟨_, _, rfl⟩) ?_ ?_
  · intro i x ρ hx h
    obtain ⟨s4, s5, rfl⟩ := (hP _ _).1 h
    have hi : i < rows.length := by
      rcases Nat.lt_or_ge i rows.length with q | q
      · exact q
      · rw [List.getElem?_eq_none (by rw [List.length_range]; exact q)] at hx; cases hx
    rw [List.getElem?_range hi] at hx
    have hx := Option.some.inj hx
    subst hx
    have c3 := f_scaled m (by omega) n (by omega) (rf rows i) (p i) η
    have c4 := f_summed m (by omega) n (by omega) (comb i (rf rows) p) (fun j => rf rows i j * p i) η
    have e : (fun j => comb i (rf rows) p j + rf rows i j * p i) = comb (i + 1) (rf rows) p := funext fun j => by
      show _ = comb i (rf rows) p j + p i * rf rows i j
      grind
    rw [e] at c4
    simp [eI, c3, c4]
    exact (hP _ _).2 ⟨_, _, rfl⟩
  · intro ρ h
    obtain ⟨s4, s5, rfl⟩ := (hP _ _).1 h
    have he := eq_rows n (comb rows.length (rf rows) p) v
    rw [List.length_range]
    generalize comb rows.length (rf rows) p = q at *
    simp [he]
theorem f_is_apart (k : Nat) (hk : 7 ≤ k) (n : Nat) (hn : 1 ≤ n ∧ n ≤ 20) (rows : List (Vc Fq)) (hr : rows.length ≤ 60) (v p : Vc Fq) (η : List AO) :
    den Pd k j_is_apart [rowsT n rows, rowT n v, rowT n p] η = .ret (.val (.bl (decide ((∀ r ∈ rows, dot n p r = 0) ∧ dot n p v = 1)))) η := by
  obtain ⟨m, rfl, hm⟩ := pre1 hk
  have c1 := f_beside m (by omega) n hn rows v hr η
  have c2 := f_is_words m (by omega) n p η
  have hdot := fun w => f_dot m (by omega) n p w η
  obtain ⟨b, hb⟩ : ∃ b, decide ((∀ r ∈ rows, dot n p r = 0) ∧ dot n p v = 1) = b := ⟨_, rfl⟩
  rw [dn_is_apart, hb]
  apply fr_eq
  simp [c1, c2, its_len, -put_nm]
  rw [sat_bind]
  obtain ⟨P, hP⟩ : ∃ P : Nat → List Slot → Prop, ∀ i ρ, P i ρ ↔ (∀ r ∈ rows.take i, dot n p r = 0) ∧ ∃ (s3 : Slot), ρ = [.val (rowsT n rows), .val (rowT n v), .val (rowT n p), s3] := ⟨_, fun _ _ => Iff.rfl⟩
  refine sat_forS (f := rowT n) (xs := rows) P ((hP _ _).2 ⟨fun r hr => absurd hr (by simp), _, rfl⟩) ?_ ?_
  · intro i x ρ hx h
    obtain ⟨hz, s3, rfl⟩ := (hP _ _).1 h
    refine sat_nm (by simp) ?_
    simp only [List.set_cons_succ, List.set_cons_zero]
    have hd := hdot x
    by_cases q : dot n p x = 0
    · have q' := iv_eq0.mpr q
      rw [q'] at hd
      simp [hd]
      refine (hP _ _).2 ⟨fun r hr => ?_, _, rfl⟩
      have hlt : i < rows.length := by
        rcases Nat.lt_or_ge i rows.length with g | g
        · exact g
        · rw [List.getElem?_eq_none g] at hx; cases hx
      rw [List.take_succ, hx] at hr
      rcases List.mem_append.mp hr with g | g
      · exact hz r g
      · have g : r = x := by simpa using g
        rw [g]
        exact q
    · have q' : ¬ iv (dot n p x) = 0 := fun e => q (iv_eq0.mp e)
      have hno : ¬ ((∀ r ∈ rows, dot n p r = 0) ∧ dot n p v = 1) := fun h => q (h.1 x (List.mem_of_getElem? hx))
      rw [decide_eq_false hno] at hb
      subst hb
      simp [hd, q']
  · intro ρ h
    obtain ⟨hz, s3, rfl⟩ := (hP _ _).1 h
    rw [List.take_length] at hz
    have hd := hdot v
    by_cases q : dot n p v = 1
    · rw [decide_eq_true ⟨hz, q⟩] at hb
      subst hb
      rw [q, iv_one] at hd
      simp [hd]
    · rw [decide_eq_false fun h => q h.2] at hb
      subst hb
      have q' : ¬ iv (dot n p v) = 1 := fun e => q (iv_inj (by rw [e, iv_one]))
      simp [hd, q']

open Lin Fp
abbrev rowsL (n : Nat) (rows : List (Vc Fq)) : D := .lst (rows.map (rowT n))
theorem cols_ext (n : Nat) (rows : List (Vc Fq)) (v : Vc Fq) : cols n (rows.length + 1) (rf (rows ++ [v])) = cols n (rows.length + 1) (ext rows.length (rf rows) v) := by
  unfold cols
  refine List.map_congr_left fun t _ => ?_
  funext j
  unfold col
  by_cases h : j < rows.length + 1
  · rw [if_pos h, if_pos h]
    unfold ext
    by_cases q : j = rows.length
    · subst q
      rw [if_pos rfl, rf_at (v := v) (by simp)]
    · rw [if_neg q]
      have hj : j < rows.length := by omega
      rw [rf_at (rows := rows ++ [v]) (v := rows[j]) (by rw [List.getElem?_append_left hj, List.getElem?_eq_getElem hj]), rf_at (List.getElem?_eq_getElem hj)]
  · rw [if_neg h, if_neg h]
theorem lcf_skip {c : Nat} {f : Vc Fq} {x : Fq} : its c (updv f c x) = its c f := its_congr fun i hi => by
  unfold updv
  rw [if_neg (by omega)]

open Lin Fp
theorem its_succ (n : Nat) (v : Vc Fq) : its (n + 1) v = its n v ++ [.int (iv (v n))] := by
  unfold its
  rw [List.range_succ, List.map_append]
  rfl
theorem f_powers (k : Nat) (hk : 1 ≤ k) (n : Nat) (hn : n ≤ 100) (x : Fq) (η : List AO) : den Pd k j_law_powers [.int (iv x), .int (n : Int)] η = .ret (.val (rowT n (prow n x))) η := by
  obtain ⟨m, rfl, hm⟩ := pre1 hk
  have hs : small62 (n : Int) = true := small_ok (by omega) (by omega)
  have h0 : (0 : Nat) ≤ sizeLine := Nat.zero_le _
  rw [dn_law_powers]
  apply fr_eq
  simp [hs, rngD_int, h0, -put_nm]
  rw [sat_bind]
  obtain ⟨P, hP⟩ : ∃ P : Nat → List Slot → Prop, ∀ i ρ, P i ρ ↔ ∃ s4, ρ = [.val (.int (iv x)), .val (.int (n : Int)), .own (.lst (its i (prow n x))), .val (.int (iv (pwr x i))), s4] := ⟨_, fun _ _ => Iff.rfl⟩
  refine sat_rngS (n := n) P ((hP _ _).2 ⟨_, rfl⟩) ?_ ?_
  · intro t ρ ht h
    obtain ⟨s4, rfl⟩ := (hP _ _).1 h
    refine sat_nm (by simp) ?_
    simp only [List.set_cons_succ, List.set_cons_zero]
    have hz : t < sizeLine := sz' (by omega)
    have hmul : iv (pwr x t) * iv x % 65521 = iv (pwr x (t + 1)) := (iv_mul _ _).symm
    have hnext : its (t + 1) (prow n x) = its t (prow n x) ++ [.int (iv (pwr x t))] := by rw [its_succ, prow_at ht]
    simp [its_len, hz, mul_iv, hmul]
    exact (hP _ _).2 ⟨_, by rw [hnext]⟩
  · intro ρ h
    obtain ⟨s4, rfl⟩ := (hP _ _).1 h
    simp
def mixT (p : Vc Fq) (a : Fq) (t : Nat) : Vc Fq := fun j => if j < t then tms p a j else if j = 0 then 0 else p (j - 1)
theorem mixT_at (p : Vc Fq) (a : Fq) (t : Nat) : mixT p a t t - a * p t = tms p a t := by
  unfold mixT
  rw [if_neg (Nat.lt_irrefl t)]
  rfl
theorem mixT_upd (p : Vc Fq) (a : Fq) (t : Nat) : updv (mixT p a t) t (tms p a t) = mixT p a (t + 1) := funext fun j => by
  unfold updv mixT
  by_cases q : j = t
  · rw [if_pos q, if_pos (by omega), q]
  · rw [if_neg q]
    by_cases q2 : j < t
    · rw [if_pos q2, if_pos (by omega)]
    · rw [if_neg q2, if_neg (show ¬ j < t + 1 by omega)]
theorem f_times (k : Nat) (hk : 1 ≤ k) (c : Nat) (hc : c ≤ 100) (p : Vc Fq) (hp : ∀ i, c ≤ i → p i = 0) (a : Fq) (η : List AO) : den Pd k j_law_times [rowL c p, .int (iv a)] η = .ret (.own (.lst (its (c + 1) (tms p a)))) η := by
  obtain ⟨m, rfl, hm⟩ := pre1 hk
  have hs : small62 (c : Int) = true := small_ok (by omega) (by omega)
  have h1 : (1 : Nat) ≤ sizeLine := sz (by omega)
  have hz : 1 + c ≤ sizeLine := sz (by omega)
  have h0 : D.int 0 :: its c p = its (c + 1) (mixT p a 0) := by
    unfold its
    rw [List.range_succ_eq_map, List.map_cons, List.map_map]
    rfl
  rw [dn_law_times]
  apply fr_eq
  simp [its_len, h1, hz, h0, hs, rngD_int, -put_nm]
  rw [sat_bind]
  obtain ⟨P, hP⟩ : ∃ P : Nat → List Slot → Prop, ∀ i ρ, P i ρ ↔ ∃ s3, ρ = [.val (rowL c p), .val (.int (iv a)), .own (.lst (its (c + 1) (mixT p a i))), s3] := ⟨_, fun _ _ => Iff.rfl⟩
  refine sat_rngS (n := c) P ((hP _ _).2 ⟨_, rfl⟩) ?_ ?_
  · intro t ρ ht h
    obtain ⟨s3, rfl⟩ := (hP _ _).1 h
    refine sat_nm (by simp) ?_
    simp only [List.set_cons_succ, List.set_cons_zero]
    have ep := its_atI p ht
    have eg := its_atI (n := c + 1) (i := t) (mixT p a t) (by omega)
    have hcalc := sub_mul_mod (mixT p a t t) a (p t)
    rw [mixT_at] at hcalc
    have es := act_its (n := c + 1) (p := t) (f := mixT p a t) (x := tms p a t) (by omega)
    rw [mixT_upd] at es
    simp [ep, eg, mul_iv, hcalc, es]
    exact (hP (t + 1) _).2 ⟨.val (.int (t : Int)), rfl⟩
  · intro ρ h
    obtain ⟨s3, rfl⟩ := (hP _ _).1 h
    have e : its (c + 1) (mixT p a c) = its (c + 1) (tms p a) := its_congr fun j hj => by
      unfold mixT
      by_cases q : j < c
      · rw [if_pos q]
      · rw [if_neg q]
        unfold tms
        rw [hp j (by omega)]
        grind
    rw [e]
    simp
theorem f_at (k : Nat) (hk : 1 ≤ k) (c : Nat) (p : Vc Fq) (x : Fq) (η : List AO) : den Pd k j_law_at [rowL c p, .int (iv x)] η = .ret (.val (.int (iv (pev c p x)))) η := by
  obtain ⟨m, rfl, hm⟩ := pre1 hk
  rw [dn_law_at]
  apply fr_eq
  simp [-put_nm]
  rw [sat_bind]
  obtain ⟨P, hP⟩ : ∃ P : Nat → List Slot → Prop, ∀ i ρ, P i ρ ↔ ∃ s4, ρ = [.val (rowL c p), .val (.int (iv x)), .val (.int (iv (pev i p x))), .val (.int (iv (pwr x i))), s4] := ⟨_, fun _ _ => Iff.rfl⟩
  refine sat_forS (f := fun i => eI (p i)) (xs := List.range c) P ((hP _ _).2 ⟨_, rfl⟩) ?_ ?_
  · intro t y ρ hy h
    obtain ⟨s4, rfl⟩ := (hP _ _).1 h
    have ht : t < c := by
      rcases Nat.lt_or_ge t c with q | q
      · exact q
      · rw [List.getElem?_eq_none (by rw [List.length_range]; exact q)] at hy; cases hy
    rw [List.getElem?_range ht] at hy
    have hy := Option.some.inj hy
    subst hy
    refine sat_nm (by simp) ?_
    simp only [List.set_cons_succ, List.set_cons_zero]
    have h1 : (iv (pev t p x) + iv (p t) * iv (pwr x t)) % 65521 = iv (pev (t + 1) p x) := by
      rw [← iv_toF, toF_add, toF_mul, toF_iv, toF_iv, toF_iv]
      rfl
    have h2 : iv (pwr x t) * iv x % 65521 = iv (pwr x (t + 1)) := (iv_mul _ _).symm
    simp [eI, mul_iv, h1, h2]
    exact (hP _ _).2 ⟨_, rfl⟩
  · intro ρ h
    obtain ⟨s4, rfl⟩ := (hP _ _).1 h
    rw [List.length_range]
    simp
theorem f_product (k : Nat) (hk : 2 ≤ k) (as : List Fq) (hl : as.length ≤ 80) (η : List AO) : den Pd k j_law_product [.lst (as.map eI)] η = .ret (.own (.lst (its (as.length + 1) (prd as)))) η := by
  obtain ⟨m, rfl, hm⟩ := pre1 hk
  have h1 : (1 : Nat) ≤ sizeLine := sz (by omega)
  rw [dn_law_product]
  apply fr_eq
  simp [h1, -put_nm]
  rw [sat_bind]
  obtain ⟨P, hP⟩ : ∃ P : Nat → List Slot → Prop, ∀ i ρ, P i ρ ↔ ∃ s2, ρ = [.val (.lst (as.map eI)), .own (.lst (its ((as.take i).length + 1) (prd (as.take i)))), s2] := ⟨_, fun _ _ => Iff.rfl⟩
  refine sat_forS (f := eI) (xs := as) P ((hP _ _).2 ⟨_, rfl⟩) ?_ ?_
  · intro i a ρ hi h
    obtain ⟨s2, rfl⟩ := (hP _ _).1 h
    have ht : as.take (i + 1) = as.take i ++ [a] := by rw [List.take_succ, hi]; rfl
    have fin := (hP (i + 1) _).2 ⟨.val (eI a), rfl⟩
    rw [ht, prd_app, List.length_append, List.length_singleton] at fin
    have hz := prd_zero (as.take i)
    have hlt : (as.take i).length ≤ 80 := by rw [List.length_take]; omega
    generalize as.take i = bs at *
    have c := f_times m hm (bs.length + 1) (by omega) (prd bs) hz a η
    refine sat_nm (by simp) ?_
    simp only [List.set_cons_succ, List.set_cons_zero]
    unfold eI at *
    simp [c]
    exact fin
  · intro ρ h
    obtain ⟨s2, rfl⟩ := (hP _ _).1 h
    rw [List.take_length]
    simp
theorem in_ints (a : Int) (xs : List Int) : inD (.int a) (.o (.lst (xs.map .int))) = some (decide (a ∈ xs)) := by
  show (match (Vw.o (.lst (xs.map D.int))).seq? with | some ds => if flatD (.int a) && ds.all flatD then some (ds.any fun y => eqF y (.int a)) else none | none => none) = _
  simp only [Vw.seq?]
  have h1 : (xs.map D.int).all flatD = true := by
    rw [List.all_eq_true]
    intro d hd
    obtain ⟨a, _, rfl⟩ := List.mem_map.mp hd
    rfl
  rw [h1, if_pos (by rfl)]
  congr 1
  rw [Bool.eq_iff_iff, List.any_eq_true, decide_eq_true_eq]
  constructor
  · rintro ⟨d, hd, he⟩
    obtain ⟨b, hb, rfl⟩ := List.mem_map.mp hd
    have : decide (b = a) = true := he
    rw [decide_eq_true_eq] at this
    rw [← this]
    exact hb
  · intro h
    refine ⟨_, List.mem_map.mpr ⟨a, h, rfl⟩, ?_⟩
    show decide (a = a) = true
    simp
theorem in_eI (x : Fq) (xs : List Fq) : inD (.int (iv x)) (.o (.lst (xs.map eI))) = some (decide (x ∈ xs)) := by
  have e : xs.map eI = (xs.map iv).map .int := by rw [List.map_map]; rfl
  rw [e, in_ints]
  congr 1
  rw [decide_eq_decide, List.mem_map]
  constructor
  · rintro ⟨y, hy, e⟩
    rw [← iv_inj e]
    exact hy
  · intro h
    exact ⟨x, h, rfl⟩
/-- the points by their numbers -/
def ptf (pts : List Fq) : Nat → Fq := fun i => pts.getD i 0
theorem ptf_at {pts : List Fq} {j : Nat} (h : j < pts.length) : atI (pts.map eI) (j : Int) = some (.int (iv (ptf pts j))) := atI_get (by
  rw [List.getElem?_map, List.getElem?_eq_getElem h]
  unfold ptf eI
  simp [h])
theorem ptf_range (pts : List Fq) : (List.range pts.length).map (ptf pts) = pts := by
  refine List.ext_getElem? fun j => ?_
  rcases Nat.lt_or_ge j pts.length with q | q
  · rw [List.getElem?_map, List.getElem?_range q, List.getElem?_eq_getElem q]
    unfold ptf
    simp [q]
  · rw [List.getElem?_eq_none (by simpa using q), List.getElem?_eq_none q]
abbrev natD (i : Nat) : D := .int (i : Int)
theorem fst1_succ (pt : Nat → Fq) (j : Nat) : fst1 pt (j + 1) = fst1 pt j ++ (if ∀ i, i < j → pt i ≠ pt j then [j] else []) := by
  unfold fst1
  rw [List.range_succ, List.filter_append]
  congr 1
  by_cases h : ∀ i, i < j → pt i ≠ pt j
  · rw [if_pos h, List.filter_cons_of_pos (by simpa using h)]
    rfl
  · rw [if_neg h, List.filter_cons_of_neg (by simpa using h)]
    rfl
theorem fst1_len (pt : Nat → Fq) (j : Nat) : (fst1 pt j).length ≤ j := by
  unfold fst1
  have := List.length_filter_le (fun j => decide (∀ i, i < j → pt i ≠ pt j)) (List.range j)
  rwa [List.length_range] at this
theorem f_firsts (k : Nat) (hk : 1 ≤ k) (pts : List Fq) (hl : pts.length ≤ 100) (η : List AO) : den Pd k j_law_firsts [.lst (pts.map eI)] η = .ret (.own (.lst ((fst1 (ptf pts) pts.length).map natD))) η := by
  obtain ⟨m, rfl, hm⟩ := pre1 hk
  have hs : small62 (pts.length : Int) = true := small_ok (by omega) (by omega)
  have h0 : (0 : Nat) ≤ sizeLine := Nat.zero_le _
  have hlen : (pts.map eI).length = pts.length := List.length_map ..
  rw [dn_law_firsts]
  apply fr_eq
  simp [hlen, hs, rngD_int, h0, -put_nm]
  rw [sat_bind]
  obtain ⟨P, hP⟩ : ∃ P : Nat → List Slot → Prop, ∀ i ρ, P i ρ ↔ ∃ s3, ρ = [.val (.lst (pts.map eI)), .own (.lst (((fst1 (ptf pts) i).map (ptf pts)).map eI)), .own (.lst ((fst1 (ptf pts) i).map natD)), s3] := ⟨_, fun _ _ => Iff.rfl⟩
  refine sat_rngS (n := pts.length) P ((hP _ _).2 ⟨_, rfl⟩) ?_ ?_
  · intro j ρ hj h
    obtain ⟨s3, rfl⟩ := (hP _ _).1 h
    refine sat_nm (by simp) ?_
    simp only [List.set_cons_succ, List.set_cons_zero]
    have ea := ptf_at hj
    have hin := in_eI (ptf pts j) ((fst1 (ptf pts) j).map (ptf pts))
    have hiff : ptf pts j ∈ (fst1 (ptf pts) j).map (ptf pts) ↔ ¬ ∀ i, i < j → ptf pts i ≠ ptf pts j := by
      rw [List.mem_map]
      constructor
      · rintro ⟨f, hf, e⟩ hc
        exact hc f (mem_fst1.mp hf).1 e
      · intro hc
        obtain ⟨i, hi, e⟩ : ∃ i, i < j ∧ ptf pts i = ptf pts j := Classical.byContradiction fun hq => hc fun i hi e => hq ⟨i, hi, e⟩
        obtain ⟨f, h1, _, h3⟩ := fst1_ex (pt := ptf pts) (c := j) i hi
        exact ⟨f, h1, h3.trans e⟩
    have hnext := fst1_succ (ptf pts) j
    have hfl := fst1_len (ptf pts) j
    have fin := (hP (j + 1) _).2 ⟨.val (.int (j : Int)), rfl⟩
    rw [hnext] at fin
    by_cases hc : ∀ i, i < j → ptf pts i ≠ ptf pts j
    · rw [if_pos hc, List.map_append, List.map_append, List.map_append] at fin
      rw [decide_eq_false fun h => hiff.mp h hc] at hin
      have hz1 : (((fst1 (ptf pts) j).map (ptf pts)).map eI).length < sizeLine := by
        rw [List.length_map, List.length_map]
        exact sz' (by omega)
      have hz2 : ((fst1 (ptf pts) j).map natD).length < sizeLine := by
        rw [List.length_map]
        exact sz' (by omega)
      generalize ((fst1 (ptf pts) j).map (ptf pts)).map eI = L1 at *
      generalize (fst1 (ptf pts) j).map natD = L2 at *
      simp [ea, hin, hz1, hz2]
      exact fin
    · rw [if_neg hc, List.append_nil] at fin
      rw [decide_eq_true (hiff.mpr hc)] at hin
      generalize ((fst1 (ptf pts) j).map (ptf pts)).map eI = L1 at *
      generalize (fst1 (ptf pts) j).map natD = L2 at *
      simp [ea, hin]
      exact fin
  · intro ρ h
    obtain ⟨s3, rfl⟩ := (hP _ _).1 h
    simp

open Lin Fp
theorem its_append {a b : Nat} (u v w : Vc Fq) (h1 : ∀ i, i < a → w i = u i) (h2 : ∀ i, i < b → w (a + i) = v i) : its a u ++ its b v = its (a + b) w := by
  refine List.ext_getElem? fun i => ?_
  rcases Nat.lt_or_ge i a with q | q
  · rw [List.getElem?_append_left (by rw [its_len]; exact q), its_at _ q, its_at _ (by omega), h1 i q]
  · rw [List.getElem?_append_right (by rw [its_len]; exact q), its_len]
    rcases Nat.lt_or_ge i (a + b) with g | g
    · rw [its_at _ (by omega), its_at _ g]
      have := h2 (i - a) (by omega)
      rw [show a + (i - a) = i from by omega] at this
      rw [this]
    · rw [List.getElem?_eq_none (by rw [its_len]; omega), List.getElem?_eq_none (by rw [its_len]; exact g)]
theorem its_zero (n : Nat) : List.replicate n (D.int 0) = its n (fun _ => 0) := by
  refine List.ext_getElem? fun i => ?_
  rcases Nat.lt_or_ge i n with q | q
  · rw [its_at _ q, List.getElem?_replicate, if_pos q]
    rfl
  · rw [List.getElem?_eq_none (by rw [List.length_replicate]; exact q), List.getElem?_eq_none (by rw [its_len]; exact q)]
theorem mul0i {i : Int} {n : Nat} (e : i = (n : Int)) (hn : n ≤ 100) : binD .mul (.lst [D.int 0]) (.int i) = some (.own (.lst (its n fun _ => 0))) := by
  rw [e, mul0 hn, its_zero]
theorem f_multiples (k : Nat) (hk : 1 ≤ k) (n : Nat) (hn : n ≤ 20) (as : List Fq) (hm : as.length ≤ n) (η : List AO) : den Pd k j_law_multiples [.lst (its (as.length + 1) (prd as)), .int (as.length : Int), .int (n : Int)] η = .ret (.own (.lst ((mults n as).map (rowL n)))) η := by
  obtain ⟨m, rfl, hm⟩ := pre1 hk
  have hs : small62 ((n : Int) - (as.length : Int)) = true := small_ok (by omega) (by omega)
  have h0 : (0 : Nat) ≤ sizeLine := Nat.zero_le _
  have h1 : (1 : Nat) ≤ sizeLine := sz (by omega)
  have hnat : ((n : Int) - (as.length : Int)).toNat = n - as.length := by omega
  rw [dn_law_multiples]
  apply fr_eq
  simp [hs, rngD_int, h0, hnat, -put_nm]
  rw [sat_bind]
  obtain ⟨P, hP⟩ : ∃ P : Nat → List Slot → Prop, ∀ i ρ, P i ρ ↔ ∃ s4, ρ = [.val (.lst (its (as.length + 1) (prd as))), .val (.int (as.length : Int)), .val (.int (n : Int)), .own (.lst (((List.range i).map (mul1 as)).map (rowL n))), s4] := ⟨_, fun _ _ => Iff.rfl⟩
  refine sat_rngS (n := n - as.length) P ((hP _ _).2 ⟨_, rfl⟩) ?_ ?_
  · intro j ρ hj h
    obtain ⟨s4, rfl⟩ := (hP _ _).1 h
    refine sat_nm (by simp) ?_
    simp only [List.set_cons_succ, List.set_cons_zero]
    have m1 := mul0i (i := (j : Int)) rfl (by omega)
    have m2 := mul0i (i := (n : Int) - (as.length : Int) - 1 - (j : Int)) (n := n - as.length - 1 - j) (by omega) (by omega)
    have e1 : its j (fun _ => 0) ++ its (as.length + 1) (prd as) = its (j + (as.length + 1)) (mul1 as j) := its_append _ _ _ (fun i hi => by unfold mul1; rw [if_neg (by omega)]) fun i hi => by
      unfold mul1
      rw [if_pos (by omega), show j + i - j = i from by omega]
    have e2 : its (j + (as.length + 1)) (mul1 as j) ++ its (n - as.length - 1 - j) (fun _ => 0) = its (j + (as.length + 1) + (n - as.length - 1 - j)) (mul1 as j) := its_append _ _ _ (fun i _ => rfl) fun i hi => by
      unfold mul1
      rw [if_pos (by omega)]
      exact prd_zero as _ (by omega)
    rw [show j + (as.length + 1) + (n - as.length - 1 - j) = n from by omega] at e2
    have l1 : (its j fun _ => (0 : Fq)).length + (its (as.length + 1) (prd as)).length ≤ sizeLine := by rw [its_len, its_len]; exact sz (by omega)
    have l2 : (its (j + (as.length + 1)) (mul1 as j)).length + (its (n - as.length - 1 - j) fun _ => (0 : Fq)).length ≤ sizeLine := by rw [its_len, its_len]; exact sz (by omega)
    have hz : (((List.range j).map (mul1 as)).map (rowL n)).length < sizeLine := by
      rw [List.length_map, List.length_map, List.length_range]
      exact sz' (by omega)
    have fin := (hP (j + 1) _).2 ⟨.val (.int (j : Int)), rfl⟩
    rw [List.range_succ, List.map_append, List.map_append] at fin
    have fin : P (j + 1) [.val (.lst (its (as.length + 1) (prd as))), .val (.int (as.length : Int)), .val (.int (n : Int)), .own (.lst (((List.range j).map (mul1 as)).map (rowL n) ++ [.lst (its n (mul1 as j))])), .val (.int (j : Int))] := fin
    generalize ((List.range j).map (mul1 as)).map (rowL n) = done at *
    generalize its (as.length + 1) (prd as) = pL at *
    generalize (its j fun _ => (0 : Fq)) = A0 at *
    generalize (its (n - as.length - 1 - j) fun _ => (0 : Fq)) = A2 at *
    generalize its (j + (as.length + 1)) (mul1 as j) = A1 at *
    generalize its n (mul1 as j) = A3 at *
    have hg : binD .add (.lst A0) (.lst pL) = some (.own (.lst A1)) := by rw [add_lst, if_pos l1, e1]
    have hg2 : binD .add (.lst A1) (.lst A2) = some (.own (.lst A3)) := by rw [add_lst, if_pos l2, e2]
    simp [m1, m2, h1, hg, hg2, hz, -add_lst, -mul_lst]
    exact fin
  · intro ρ h
    obtain ⟨s4, rfl⟩ := (hP _ _).1 h
    simp [mults]
theorem fold_mul (l : List Fq) (c : Fq) : ∀ d : Fq, l.foldl (· * ·) (d * c) = d * l.foldl (· * ·) c := by
  induction l generalizing c with
  | nil => intro d; rfl
  | cons b l ih =>
    intro d
    show l.foldl (· * ·) (d * c * b) = d * l.foldl (· * ·) (c * b)
    rw [show d * c * b = d * (c * b) by grind, ih]
/-- a weight's factors over the numbers so far -/
def abv (pt : Nat → Fq) (i : Nat) (z : Fq) (I : List Nat) : Fq := ((oths pt I i).map fun a => z - a).foldl (· * ·) 1
theorem abv_prd (pt : Nat → Fq) (i : Nat) (z : Fq) (I : List Nat) : pev ((oths pt I i).length + 1) (prd (oths pt I i)) z = abv pt i z I := prd_ev _ _
theorem abv_snoc (pt : Nat → Fq) (i j : Nat) (z : Fq) (I : List Nat) : abv pt i z (I ++ [j]) = if j = i then abv pt i z I else abv pt i z I * (z - pt j) := by
  unfold abv oths
  rw [List.filter_append]
  by_cases h : j = i
  · rw [if_pos h, List.filter_cons_of_neg (by simpa using h)]
    simp
  · rw [if_neg h, List.filter_cons_of_pos (by simpa using h), List.filter_nil, List.map_append, List.map_append, List.foldl_append]
    rfl
theorem f_weights (k : Nat) (hk : 2 ≤ k) (pts : List Fq) (hl : pts.length ≤ 100) (I : List Nat) (hI : Plc pts.length (ptf pts) I) (hnd : I.Nodup) (z : Fq) (η : List AO) : den Pd k j_law_weights [.lst (pts.map eI), .lst (I.map natD), .int (iv z)] η = .ret (.val (rowT pts.length (wts (ptf pts) I z))) η := by
  obtain ⟨m, rfl, hm⟩ := pre1 hk
  have h1 : (1 : Nat) ≤ sizeLine := sz (by omega)
  have hlen : (pts.map eI).length = pts.length := List.length_map ..
  have m0 := mul0i (i := (pts.length : Int)) rfl (by omega)
  have hcalc : ∀ a x y : Fq, iv a * (iv x - iv y) % 65521 = iv (a * (x - y)) := fun a x y => by
    have e : toF (iv x - iv y) = x - y := iv_inj (by rw [iv_toF, iv_sub])
    rw [← iv_toF, toF_mul, toF_iv, e]
  have hmk : ∀ (a : Fq) (b : Int), mulOk (iv a) b = true := fun a b => by
    have := iv_rng a
    exact mulOk_l (by omega) (by omega)
  have hst : (its pts.length fun _ => 0) = its pts.length fun i => if i ∈ I.take 0 then wts (ptf pts) I z i else 0 := its_congr fun i _ => by simp
  rw [hst] at m0
  obtain ⟨st, hstd⟩ : ∃ st, st = its pts.length fun i => if i ∈ I.take 0 then wts (ptf pts) I z i else 0 := ⟨_, rfl⟩
  rw [← hstd] at m0
  rw [dn_law_weights]
  apply fr_eq
  simp [hlen, h1, m0, -put_nm, -mul_lst]
  rw [sat_bind]
  obtain ⟨P, hP⟩ : ∃ P : Nat → List Slot → Prop, ∀ t ρ, P t ρ ↔ ∃ (s4 s5 s6 s7 : Slot), ρ = [.val (.lst (pts.map eI)), .val (.lst (I.map natD)), .val (.int (iv z)), .own (.lst (its pts.length fun i => if i ∈ I.take t then wts (ptf pts) I z i else 0)), s4, s5, s6, s7] := ⟨_, fun _ _ => Iff.rfl⟩
  refine sat_forS (f := natD) (xs := I) P ((hP _ _).2 ⟨.un, .un, .un, .un, by rw [hstd]⟩) ?_ ?_
  · intro t i ρ hi h
    obtain ⟨s4, s5, s6, s7, rfl⟩ := (hP _ _).1 h
    have hiI : i ∈ I := List.mem_of_getElem? hi
    have hil := hI.lt i hiI
    have ei := ptf_at hil
    refine sat_nm (by simp) ?_
    simp only [List.set_cons_succ, List.set_cons_zero]
    generalize hW : (its pts.length fun i => if i ∈ I.take t then wts (ptf pts) I z i else 0) = W0 at *
    simp [-put_nm]
    rw [sat_bind]
    obtain ⟨G, hG⟩ : ∃ G : Nat → List Slot → Prop, ∀ u ρ, G u ρ ↔ ∃ (s7 : Slot), ρ = [.val (.lst (pts.map eI)), .val (.lst (I.map natD)), .val (.int (iv z)), .own (.lst W0), .val (natD i), .val (.int (iv (abv (ptf pts) i z (I.take u)))), .val (.int (iv (abv (ptf pts) i (ptf pts i) (I.take u)))), s7] := ⟨_, fun _ _ => Iff.rfl⟩
    refine sat_forS (f := natD) (xs := I) G ((hG _ _).2 ⟨_, rfl⟩) ?_ ?_
    · intro u j ρ hj h
      obtain ⟨s7, rfl⟩ := (hG _ _).1 h
      have hjl := hI.lt j (List.mem_of_getElem? hj)
      have ej := ptf_at hjl
      have ht : I.take (u + 1) = I.take u ++ [j] := by rw [List.take_succ, hj]; rfl
      have fin := (hG (u + 1) _).2 ⟨.val (natD j), rfl⟩
      rw [ht, abv_snoc, abv_snoc] at fin
      refine sat_nm (by simp) ?_
      simp only [List.set_cons_succ, List.set_cons_zero]
      generalize abv (ptf pts) i z (I.take u) = A at *
      generalize abv (ptf pts) i (ptf pts i) (I.take u) = B at *
      by_cases q : j = i
      · rw [if_pos q, if_pos q] at fin
        subst q
        simp
        exact fin
      · rw [if_neg q, if_neg q] at fin
        have q' : ¬ (j : Int) = (i : Int) := by omega
        simp [q, q', ei, ej, hmk, hcalc]
        exact fin
    · intro ρ h
      obtain ⟨s7, rfl⟩ := (hG _ _).1 h
      rw [List.take_length]
      have ci := f_linverse m (by omega) (abv (ptf pts) i (ptf pts i) I) η
      have hw : wts (ptf pts) I z i = abv (ptf pts) i z I * invF (abv (ptf pts) i (ptf pts i) I) := by
        unfold wts
        rw [if_pos hiI, abv_prd, abv_prd]
        rfl
      have hwm : iv (abv (ptf pts) i z I) * iv (invF (abv (ptf pts) i (ptf pts i) I)) % 65521 = iv (wts (ptf pts) I z i) := by rw [hw, iv_mul]
      have es := act_its (n := pts.length) (p := i) (f := fun i => if i ∈ I.take t then wts (ptf pts) I z i else 0) (x := wts (ptf pts) I z i) hil
      have ht : I.take (t + 1) = I.take t ++ [i] := by rw [List.take_succ, hi]; rfl
      have eu : updv (fun i => if i ∈ I.take t then wts (ptf pts) I z i else 0) i (wts (ptf pts) I z i) = fun j => if j ∈ I.take (t + 1) then wts (ptf pts) I z j else 0 := funext fun j => by
        unfold updv
        rw [ht]
        by_cases q : j = i
        · rw [if_pos q, if_pos (by rw [q]; simp), q]
        · rw [if_neg q]
          show (if j ∈ I.take t then _ else _) = _
          by_cases q2 : j ∈ I.take t
          · rw [if_pos q2, if_pos (List.mem_append_left _ q2)]
          · rw [if_neg q2, if_neg (by simp [q, q2])]
      rw [eu, hW] at es
      generalize abv (ptf pts) i z I = A at *
      generalize abv (ptf pts) i (ptf pts i) I = B at *
      simp [ci, mul_iv, hwm, es]
      exact (hP (t + 1) _).2 ⟨_, _, _, _, rfl⟩
  · intro ρ h
    obtain ⟨s4, s5, s6, s7, rfl⟩ := (hP _ _).1 h
    rw [List.take_length]
    have e : (its pts.length fun i => if i ∈ I then wts (ptf pts) I z i else 0) = its pts.length (wts (ptf pts) I z) := its_congr fun i _ => by
      by_cases q : i ∈ I
      · rw [if_pos q]
      · rw [if_neg q]
        unfold wts
        rw [if_neg q]
    rw [e]
    simp

open Lin Fp
/-- the columns of the remainders so far -/
def rcol (m : Nat) (q : Vc Fq) (k : Nat) : Vc Fq := fun s => rmd m q s k
def rhp (m : Nat) (q : Vc Fq) (t i : Nat) : List AO := (List.range m).map fun k => AO.lst (its (if k < i then t + 1 else t) (rcol m q k))
theorem rhp_get {η : List AO} {m : Nat} {q : Vc Fq} {t i : Nat} (h : i < m) : (η ++ rhp m q t i)[η.length + i]? = some (.lst (its t (rcol m q i))) := by
  unfold rhp
  rw [List.getElem?_append_right (by omega), show η.length + i - η.length = i from by omega, List.getElem?_map, List.getElem?_range h]
  simp
theorem rhp_set {η : List AO} {m : Nat} {q : Vc Fq} {t i : Nat} (h : i < m) : (η ++ rhp m q t i).set (η.length + i) (.lst (its (t + 1) (rcol m q i))) = η ++ rhp m q t (i + 1) := by
  rw [List.set_append_right _ _ (by omega), show η.length + i - η.length = i from by omega]
  congr 1
  unfold rhp
  refine List.ext_getElem? fun k => ?_
  rw [List.getElem?_set, List.getElem?_map, List.getElem?_map, List.length_map, List.length_range]
  rcases Nat.lt_or_ge k m with g | g
  · rw [List.getElem?_range g]
    by_cases e : i = k
    · subst e
      rw [if_pos rfl, if_pos h]
      simp
    · rw [if_neg e]
      simp only [Option.map_some]
      by_cases g2 : k < i
      · rw [if_pos g2, if_pos (by omega)]
      · rw [if_neg g2, if_neg (by omega)]
  · rw [List.getElem?_eq_none (by rw [List.length_range]; exact g)]
    rw [if_neg (by omega)]
    rfl
theorem rhp_full (m : Nat) (q : Vc Fq) (t : Nat) : rhp m q t m = rhp m q (t + 1) 0 := by
  unfold rhp
  refine List.map_congr_left fun k hk => ?_
  rw [if_pos (List.mem_range.mp hk), if_neg (by omega)]
theorem unit_upd (t : Nat) : updv (fun _ => (0 : Fq)) t 1 = unitV t := rfl
theorem f_remainders (k : Nat) (hk : 2 ≤ k) (n : Nat) (hn : n ≤ 20) (m0 : Nat) (hm0 : m0 ≤ n) (q : Vc Fq) (η : List AO) :
    ∃ η' Ds, den Pd k j_law_remainders [.lst (its (m0 + 1) q), .int (m0 : Int), .int (n : Int)] η = .ret (.own (.lst Ds)) η' ∧ ∀ k2, 1 ≤ k2 → den Pd k2 j_law_frozen [.lst Ds] η' = .ret (.val (rowsT n (vs (rmr n m0 q)))) η' := by
  obtain ⟨m, rfl, hm⟩ := pre1 hk
  have h0 : (0 : Nat) ≤ sizeLine := Nat.zero_le _
  have h1 : (1 : Nat) ≤ sizeLine := sz (by omega)
  have hs : small62 (m0 : Int) = true := small_ok (by omega) (by omega)
  have hsn : small62 (n : Int) = true := small_ok (by omega) (by omega)
  by_cases hz : m0 = 0
  · subst hz
    refine ⟨η, [], ?_, fun k2 hk2 => ?_⟩
    · rw [dn_law_remainders]
      simp [h0]
    · exact f_frozen k2 hk2 n [] (by simp) η
  · obtain ⟨W, hW⟩ : ∃ W : RV → List AO → Prop, ∀ x η', W x η' ↔ x = .own (.lst ((List.range m0).map fun k => .ref (η.length + k))) ∧ η' = η ++ rhp m0 q n 0 := ⟨_, fun _ _ => Iff.rfl⟩
    have main : ∃ x η', den Pd (m + 1) j_law_remainders [.lst (its (m0 + 1) q), .int (m0 : Int), .int (n : Int)] η = .ret x η' ∧ W x η' := by
      have hz' : ¬ (m0 : Int) = 0 := by omega
      rw [dn_law_remainders]
      apply fr_sat
      obtain ⟨M, hM⟩ : ∃ M : List Slot → List AO → Prop, ∀ ρ η', M ρ η' ↔ ∃ (s4 : Slot), η' = η ++ rhp m0 q 0 0 ∧ ρ = [.val (.lst (its (m0 + 1) q)), .val (.int (m0 : Int)), .val (.int (n : Int)), .own (.lst ((List.range m0).map fun k => D.ref (η.length + k))), s4, .un, .un, .un] := ⟨_, fun _ _ => Iff.rfl⟩
      refine sat_cut 3 M ?_ ?_
      · simp [h0, hz, hz', hs, rngD_int, -put_nm]
        rw [sat_bind]
        obtain ⟨P, hP⟩ : ∃ P : Nat → List Slot → List AO → Prop, ∀ i ρ η', P i ρ η' ↔ ∃ (s4 : Slot), η' = η ++ List.replicate i (AO.lst []) ∧ ρ = [.val (.lst (its (m0 + 1) q)), .val (.int (m0 : Int)), .val (.int (n : Int)), .own (.lst ((List.range i).map fun k => D.ref (η.length + k))), s4, .un, .un, .un] := ⟨_, fun _ _ _ => Iff.rfl⟩
        refine sat_rng (n := m0) P ((hP _ _ _).2 ⟨_, by simp, rfl⟩) ?_ ?_
        · intro i ρ η' hi h
          obtain ⟨s4, rfl, rfl⟩ := (hP _ _ _).1 h
          refine sat_nm (by simp) ?_
          simp only [List.set_cons_succ, List.set_cons_zero]
          have hzz : i < sizeLine := sz' (by omega)
          simp [h0, hzz]
          refine (hP _ _ _).2 ⟨.val (.int (i : Int)), ?_, ?_⟩
          · rw [List.replicate_succ']
          · rw [List.range_succ, List.map_append]
            simp
        · intro ρ η' h
          obtain ⟨s4, rfl, rfl⟩ := (hP _ _ _).1 h
          simp
          have hrep : List.replicate m0 (AO.lst []) = rhp m0 q 0 0 := ?_
          · exact (hM _ _).2 ⟨s4, by rw [hrep], rfl⟩
          unfold rhp
          refine List.ext_getElem? fun k => ?_
          rw [List.getElem?_replicate, List.getElem?_map]
          rcases Nat.lt_or_ge k m0 with g | g
          · rw [if_pos g, List.getElem?_range g]
            simp [its]
          · rw [if_neg (by omega), List.getElem?_eq_none (by rw [List.length_range]; exact g)]
            rfl
      · intro ρ η' h
        obtain ⟨s4, rfl, rfl⟩ := (hM _ _).1 h
        simp only [List.drop_succ_cons, List.drop_zero]
        have mz := mul0i (i := (m0 : Int)) rfl (by omega)
        simp [h1, mz, hsn, rngD_int, -put_nm, -mul_lst]
        rw [sat_bind]
        obtain ⟨P, hP⟩ : ∃ P : Nat → List Slot → List AO → Prop, ∀ t ρ η', P t ρ η' ↔ ∃ (r : Vc Fq) (s4 s6 s7 : Slot), (1 ≤ t → ∀ i, i < m0 → r i = rmd m0 q (t - 1) i) ∧ η' = η ++ rhp m0 q t 0 ∧ ρ = [.val (.lst (its (m0 + 1) q)), .val (.int (m0 : Int)), .val (.int (n : Int)), .own (.lst ((List.range m0).map fun k => D.ref (η.length + k))), s4, .own (.lst (its m0 r)), s6, s7] := ⟨_, fun _ _ _ => Iff.rfl⟩
        refine sat_rng (n := n) P ((hP _ _ _).2 ⟨_, _, _, _, fun h => by omega, rfl, rfl⟩) ?_ ?_
        · intro t ρ η' ht h
          obtain ⟨r, s4, s6, s7, hr, rfl, rfl⟩ := (hP _ _ _).1 h
          refine sat_nm (by simp) ?_
          simp only [List.set_cons_succ, List.set_cons_zero]
          obtain ⟨C, hC⟩ : ∃ C : List Slot → Prop, ∀ ρ, C ρ ↔ ∃ (s7 : Slot), ρ = [.val (.lst (its (m0 + 1) q)), .val (.int (m0 : Int)), .val (.int (n : Int)), .own (.lst ((List.range m0).map fun k => D.ref (η.length + k))), s4, .own (.lst (its m0 (rmd m0 q t))), .val (.int (t : Int)), s7] := ⟨_, fun _ => Iff.rfl⟩
          refine sat_cutS 1 C ?_ ?_
          · by_cases hlt : t < m0
            · have hlt' : (t : Int) < (m0 : Int) := by omega
              have es := act_its (n := m0) (p := t) (f := fun _ => 0) (x := 1) hlt
              rw [unit_upd, ← rmd_low (q := q) hlt] at es
              have es : setAct (.lst (its m0 fun _ => 0)) (.int (t : Int)) (.int 1) = some (.lst (its m0 (rmd m0 q t))) := es
              simp [hlt, hlt', h1, mz, es, -mul_lst]
              exact (hC _).2 ⟨_, rfl⟩
            · have hlt' : ¬ (t : Int) < (m0 : Int) := by omega
              have hcast : (m0 : Int) - 1 = ((m0 - 1 : Nat) : Int) := by omega
              have ea := its_atI r (show m0 - 1 < m0 by omega)
              have ct1 : cutL (its m0 r) none (some ((m0 : Int) - 1)) = its (m0 - 1) r := by
                rw [hcast, cutL_to]
                unfold its
                rw [← List.map_take, List.take_range, Nat.min_eq_left (by omega)]
              have ct2 : cutL (its (m0 + 1) q) none (some (m0 : Int)) = its m0 q := by
                rw [cutL_to]
                unfold its
                rw [← List.map_take, List.take_range, Nat.min_eq_left (by omega)]
              rw [← hcast] at ea
              have e1 : D.int 0 :: its (m0 - 1) r = its m0 (fun i => if i = 0 then 0 else r (i - 1)) := by
                have := its_append (a := 1) (b := m0 - 1) (fun _ => 0) r (fun i => if i = 0 then 0 else r (i - 1)) (fun i hi => by rw [if_pos (by omega)]) (fun i hi => by rw [if_neg (by omega), show 1 + i - 1 = i from by omega])
                rw [show 1 + (m0 - 1) = m0 from by omega] at this
                exact this
              have cl := f_less m (by omega) m0 (by omega) (fun i => if i = 0 then 0 else r (i - 1)) q (r (m0 - 1)) η
              have cl := f_less m (by omega) m0 (by omega) (fun i => if i = 0 then 0 else r (i - 1)) q (r (m0 - 1)) (η ++ rhp m0 q t 0)
              have e2 : (its m0 fun i => (if i = 0 then 0 else r (i - 1)) - r (m0 - 1) * q i) = its m0 (rmd m0 q t) := its_congr fun i hi => by
                obtain ⟨t', rfl⟩ : ∃ t', t = t' + 1 := ⟨t - 1, by omega⟩
                have hr' := hr (by omega)
                rw [show t' + 1 - 1 = t' from rfl] at hr'
                conv => rhs; unfold rmd
                rw [if_neg hlt, hr' (m0 - 1) (by omega)]
                by_cases g : i = 0
                · rw [if_pos g, if_pos g]
                · rw [if_neg g, if_neg g, hr' (i - 1) (by omega)]
              have cl : den Pd m j_law_less [.lst (its m0 fun i => if i = 0 then 0 else r (i - 1)), .lst (its m0 q), .int (iv (r (m0 - 1)))] (η ++ rhp m0 q t 0) = .ret (.own (.lst (its m0 (rmd m0 q t)))) (η ++ rhp m0 q t 0) := by
                rw [← e2]
                exact cl
              have zz : 1 + (m0 - 1) ≤ sizeLine := sz (by omega)
              simp [hlt, hlt', ea, ct1, ct2, h1, its_len, zz, e1, cl]
              exact (hC _).2 ⟨_, rfl⟩
          · intro ρ h
            obtain ⟨s7, rfl⟩ := (hC _).1 h
            simp only [List.drop_succ_cons, List.drop_zero]
            simp [hs, rngD_int, -put_nm]
            rw [sat_bind]
            obtain ⟨G, hG⟩ : ∃ G : Nat → List Slot → List AO → Prop, ∀ i ρ η', G i ρ η' ↔ ∃ (s4 : Slot), η' = η ++ rhp m0 q t i ∧ ρ = [.val (.lst (its (m0 + 1) q)), .val (.int (m0 : Int)), .val (.int (n : Int)), .own (.lst ((List.range m0).map fun k => D.ref (η.length + k))), s4, .own (.lst (its m0 (rmd m0 q t))), .val (.int (t : Int)), s7] := ⟨_, fun _ _ _ => Iff.rfl⟩
            refine sat_rng (n := m0) G ((hG _ _ _).2 ⟨_, rfl, rfl⟩) ?_ ?_
            · intro i ρ η' hi h
              obtain ⟨s4, rfl, rfl⟩ := (hG _ _ _).1 h
              refine sat_nm (by simp) ?_
              simp only [List.set_cons_succ, List.set_cons_zero]
              have er : atI ((List.range m0).map fun k => D.ref (η.length + k)) (i : Int) = some (.ref (η.length + i)) := atI_get (by
                rw [List.getElem?_map, List.getElem?_range hi]
                rfl)
              have ea := its_atI (rmd m0 q t) hi
              have hg := rhp_get (η := η) (q := q) (t := t) hi
              have hset := rhp_set (η := η) (q := q) (t := t) hi
              rw [its_succ] at hset
              have hset : (η ++ rhp m0 q t i).set (η.length + i) (.lst (its t (rcol m0 q i) ++ [.int (iv (rmd m0 q t i))])) = η ++ rhp m0 q t (i + 1) := hset
              have hzz : t < sizeLine := sz' (by omega)
              have fin := (hG (i + 1) _ _).2 ⟨.val (.int (i : Int)), rfl, rfl⟩
              generalize η ++ rhp m0 q t i = h0' at *
              generalize η ++ rhp m0 q t (i + 1) = h1' at *
              simp [er, ea, hg, its_len, hzz, hset]
              exact fin
            · intro ρ η' h
              obtain ⟨s4, rfl, rfl⟩ := (hG _ _ _).1 h
              simp
              exact (hP _ _ _).2 ⟨rmd m0 q t, s4, _, s7, fun _ i _ => rfl, by rw [rhp_full], rfl⟩
        · intro ρ η' h
          obtain ⟨r, s4, s6, s7, hr, rfl, rfl⟩ := (hP _ _ _).1 h
          simp
          exact (hW _ _).2 ⟨rfl, rfl⟩
    obtain ⟨x, η', e, hw⟩ := main
    obtain ⟨rfl, rfl⟩ := (hW _ _).1 hw
    refine ⟨_, _, e, fun k2 hk2 => ?_⟩
    obtain ⟨m2, rfl, _⟩ := pre1 hk2
    rw [dn_law_frozen]
    have hget : ∀ k, k < m0 → (η ++ rhp m0 q n 0)[η.length + k]? = some (.lst (its n (rcol m0 q k))) := fun k hk => by
      unfold rhp
      rw [List.getElem?_append_right (by omega), show η.length + k - η.length = k from by omega, List.getElem?_map, List.getElem?_range hk]
      simp
    generalize η ++ rhp m0 q n 0 = η1 at *
    simp
    rw [lc_nm (f := fun k => D.ref (η.length + k)) (fun k => .tup (its n (rcol m0 q k))) rfl (by rw [List.length_range]; exact sz (by omega)) (fun k hk => by simp [hget k (List.mem_range.mp hk)])]
    have hv : (List.range m0).map (fun k => D.tup (its n (rcol m0 q k))) = (vs (rmr n m0 q)).map (rowT n) := by
      unfold vs rmr
      rw [List.map_map, List.map_map]
      refine List.map_congr_left fun k _ => ?_
      show D.tup (its n (rcol m0 q k)) = D.tup (its n _)
      refine congrArg D.tup (its_congr fun s hs => ?_)
      show rmd m0 q s k = if s < n then rmd m0 q s k else 0
      rw [if_pos hs]
    rw [hv]
    simp

open Lin Fp
/-- what stands in a call of _law_judged -/
structure Jd (n : Nat) (pts : List Fq) : Prop where
  n1 : 1 ≤ n ∧ n ≤ 20
  c1 : 1 ≤ pts.length ∧ pts.length ≤ 60
abbrev jI (n : Nat) (pts : List Fq) : List Nat := plc n (ptf pts) pts.length
abbrev jas (n : Nat) (pts : List Fq) : List Fq := (jI n pts).map (ptf pts)
theorem jpts (n : Nat) (pts : List Fq) : Pts n pts (jas n pts) := by
  have := plc_pts n (ptf pts) pts.length
  rwa [ptf_range] at this
theorem jrf (n : Nat) (pts : List Fq) : ∀ j, j < pts.length → rf (pts.map (prow n)) j = prow n (ptf pts j) := fun j hj => by
  rw [rf_at (v := prow n pts[j]) (by rw [List.getElem?_map, List.getElem?_eq_getElem hj]; rfl)]
  unfold ptf
  simp [hj]
theorem jin {n : Nat} {pts : List Fq} (z : Fq) : Sp (pts.map (prow n)) (prow n z) ↔ ((jI n pts).length = n ∨ z ∈ pts) := by
  have P := jpts n pts
  have hl : (jas n pts).length = (jI n pts).length := List.length_map ..
  constructor
  · intro h
    by_cases hm : (jI n pts).length = n
    · exact .inl hm
    · refine .inr (Classical.byContradiction fun hz => ?_)
      have hlt : (jas n pts).length < n := by
        have := P.le
        omega
      exact out_free P hlt (fun ha => hz (P.sub z ha)) h
  · rintro (h | h)
    · exact full_all P (by omega) prow_su
    · exact sp_mem (List.mem_map.mpr ⟨z, h, rfl⟩)
theorem jpick {n : Nat} {pts : List Fq} {z : Fq} (h : Sp (pts.map (prow n)) (prow n z)) : Sp ((jI n pts).map fun i => prow n (ptf pts i)) (prow n z) := by
  have P := jpts n pts
  have e : ((jI n pts).map fun i => prow n (ptf pts i)) = (jas n pts).map (prow n) := by rw [List.map_map]; rfl
  rw [e]
  rcases P.all with hl | hl
  · exact sq_all P.nd hl (v := prow n z) prow_su
  · exact sp_trans (fun b hb => by
      obtain ⟨x, hx, rfl⟩ := List.mem_map.mp hb
      exact sp_mem (List.mem_map.mpr ⟨x, hl x hx, rfl⟩)) h
theorem jcomb {n : Nat} {pts : List Fq} {z : Fq} (h : Sp (pts.map (prow n)) (prow n z)) : comb pts.length (rf (pts.map (prow n))) (wts (ptf pts) (jI n pts) z) = prow n z := by
  have P := jpts n pts
  have hle := P.le
  rw [List.length_map] at hle
  have := wts_ok (N := n) (plc_ok n (ptf pts) pts.length) (plc_nd n (ptf pts) pts.length) hle (jpick h)
  rw [← this]
  exact comb_congr fun j hj => ⟨jrf n pts j hj, rfl⟩
theorem jcfs {n : Nat} {pts : List Fq} {z : Fq} (h : Sp (pts.map (prow n)) (prow n z)) : ∀ j, j < pts.length → cfs n pts.length (rf (pts.map (prow n))) (prow n z) j = wts (ptf pts) (jI n pts) z j := by
  have hsu : ∀ j, j < pts.length → Su n (rf (pts.map (prow n)) j) := fun j hj => by
    rw [jrf n pts j hj]
    exact prow_su
  have hrw : rws pts.length (rf (pts.map (prow n))) = pts.map (prow n) := by
    have := rf_rws (pts.map (prow n))
    rwa [List.length_map] at this
  obtain ⟨a1, a2⟩ := cfs_ok (n := n) hsu (v := prow n z) (by rw [hrw]; exact h)
  refine coef_eq (fun j _ hne => (a2 j hne).2) (fun j hj hne => ?_) fun i => by rw [a1, jcomb h]
  have hjI : j ∈ jI n pts := Classical.byContradiction fun hc => hne (by unfold wts; rw [if_neg hc])
  have hnd := plc_ndep hjI
  unfold Dep at hnd ⊢
  have e : rws j (rf (pts.map (prow n))) = rws j fun i => prow n (ptf pts i) := by
    unfold rws
    refine List.map_congr_left fun i hi => ?_
    exact jrf n pts i (by have := List.mem_range.mp hi; omega)
  rw [e, jrf n pts j hj]
  exact hnd
theorem comb_at {c : Nat} {r r' : Nat → Vc Fq} {p : Vc Fq} {t : Nat} (h : ∀ j, j < c → r j t = r' j t) : comb c r p t = comb c r' p t := by
  induction c with
  | zero => rfl
  | succ c ih =>
    show comb c r p t + p c * r c t = comb c r' p t + p c * r' c t
    rw [ih fun j hj => h j (by omega), h c (by omega)]
theorem jwrong {n : Nat} {pts : List Fq} (h1 : 1 < (jI n pts).length) (w : Fq) : comb pts.length (rf (pts.map (prow n))) (wts (ptf pts) (jI n pts) w) 1 = w := by
  have P := jpts n pts
  have hle := P.le
  rw [List.length_map] at hle
  have e : ((jI n pts).map fun i => prow (jI n pts).length (ptf pts i)) = (jas n pts).map (prow (jI n pts).length) := by rw [List.map_map]; rfl
  have hs : Sp ((jI n pts).map fun i => prow (jI n pts).length (ptf pts i)) (prow (jI n pts).length w) := by
    rw [e]
    exact sq_all P.nd (List.length_map ..) prow_su
  have hw := wts_ok (N := (jI n pts).length) (plc_ok n (ptf pts) pts.length) (plc_nd n (ptf pts) pts.length) (Nat.le_refl _) hs
  have h := congrFun hw 1
  rw [prow_at h1] at h
  have hp : pwr w 1 = w := by show 1 * w = w; grind
  rw [hp] at h
  refine Eq.trans (comb_at fun j hj => ?_) h
  rw [jrf n pts j hj, prow_at (by omega), prow_at h1]
theorem comb_upd {r : Nat → Vc Fq} {p : Vc Fq} {k : Nat} {y : Fq} (i : Nat) : ∀ {c}, k < c → comb c r (updv p k y) i = comb c r p i + (y - p k) * r k i
  | c + 1, h => by
    show comb c r (updv p k y) i + updv p k y c * r c i = comb c r p i + p c * r c i + (y - p k) * r k i
    by_cases q : k = c
    · subst q
      have e1 : comb k r (updv p k y) = comb k r p := comb_congr fun j hj => ⟨rfl, by unfold updv; rw [if_neg (by omega)]⟩
      have e3 : updv p k y k = y := by unfold updv; rw [if_pos rfl]
      rw [e1, e3]
      grind
    · have e3 : updv p k y c = p c := by unfold updv; rw [if_neg fun e => q e.symm]
      rw [comb_upd i (by omega), e3]
      grind
/-- a weight moved to a like row -/
theorem jmove {r : Nat → Vc Fq} {f : Vc Fq} {a b c : Nat} (ha : a < c) (hb : b < c) (hab : b ≠ a) (hr : r a = r b) (h0 : f a = 0) : comb c r (updv (updv f a (f b)) b 0) = comb c r f := by
  funext i
  rw [comb_upd i hb, comb_upd i ha]
  have e : updv f a (f b) b = f b := by unfold updv; rw [if_neg hab]
  rw [e, h0, hr]
  grind
theorem jap {n : Nat} {pts : List Fq} {q : Vc Fq} (b : Fq) (hk : ∀ x ∈ pts, dot n q (prow n x) = 0) (z : Fq) (hv : dot n q (prow n z) * b = 1) : (∀ r ∈ pts.map (prow n), dot n (fun i => q i * b) r = 0) ∧ dot n (fun i => q i * b) (prow n z) = 1 := by
  have hd : ∀ w, dot n (fun i => q i * b) w = dot n q w * b := fun w => by
    have e := dot_lin b (fun _ => 0) q w n
    rw [dot_comm w, dot_comm w, dot_comm w] at e
    have e2 : (fun i => (0 : Fq) + b * q i) = fun i => q i * b := funext fun i => by grind
    have e3 : dot n (fun _ => (0 : Fq)) w = 0 := dot_zero fun i _ => by grind
    rw [e2, e3] at e
    rw [e]
    grind
  refine ⟨fun r hr => ?_, by rw [hd]; exact hv⟩
  obtain ⟨x, hx, rfl⟩ := List.mem_map.mp hr
  rw [hd, hk x hx]
  grind

open Lin Fp
theorem in_eI' (x : Fq) (xs : List Fq) : inD (.int (iv x)) (.d (.lst (xs.map eI))) = some (decide (x ∈ xs)) := in_eI x xs
theorem dat_pair {s : Str} {d : D} {n : Nat} (h : datN (n + 1) d = true) : datN (n + 2) (.tup [.str s, d]) = true := by
  have h2 : (2 : Nat) ≤ sizeLine := sz (by omega)
  rw [datN_tup]
  simp [h, h2]
  rfl
theorem same_pair {m : Nat} (hm : 3 ≤ m) (s : Str) (c : Nat) (hc : c ≤ 100) (p : Vc Fq) (η : List AO) : den Pd m j_law_same [.tup [.str s, rowT c p], .tup [.str s, rowT c p]] η = .ret (.val (.bl true)) η := by
  refine same_ok h_same η 2 m _ (by omega) (dat_pair ?_)
  rw [show rowT c p = .tup (its c p) from rfl, its_ints]
  exact plain_ints (by rw [List.length_map, List.length_range]; exact sz (by omega))
theorem its_pad {a n : Nat} (h : a ≤ n) (p : Vc Fq) (hz : ∀ i, a ≤ i → p i = 0) : its a p ++ its (n - a) (fun _ => 0) = its n p := by
  have := its_append (a := a) (b := n - a) p (fun _ => 0) p (fun i _ => rfl) (fun i _ => hz (a + i) (by omega))
  rwa [show a + (n - a) = n from by omega] at this
/-- the loop that moves weights -/
theorem f_judged_in (k : Nat) (hk : 9 ≤ k) (n : Nat) (pts : List Fq) (J : Jd n pts) (z : Fq) (o : Int) (h : Sp (pts.map (prow n)) (prow n z)) (η : List AO) :
    ∃ η', den Pd k j_law_judged [.lst (pts.map eI), rowsT n (pts.map (prow n)), .lst ((jI n pts).map natD), .lst (its ((jas n pts).length + 1) (prd (jas n pts))), .int (iv z), .int o] η = .ret (.val (.bl true)) η' := by
  obtain ⟨m, rfl, hm⟩ := pre1 hk
  have P := jpts n pts
  have hIl : (jI n pts).length ≤ n := by
    have := P.le
    rwa [List.length_map] at this
  have hsu := pts_su P
  have hlr : (pts.map (prow n)).length = pts.length := List.length_map ..
  have J1 := J.n1
  have J2 := J.c1
  obtain ⟨W, hW⟩ : ∃ W : RV → List AO → Prop, ∀ x η', W x η' ↔ x = .val (.bl true) := ⟨_, fun _ _ => Iff.rfl⟩
  have main : ∃ x η', den Pd (m + 1) j_law_judged [.lst (pts.map eI), rowsT n (pts.map (prow n)), .lst ((jI n pts).map natD), .lst (its ((jas n pts).length + 1) (prd (jas n pts))), .int (iv z), .int o] η = .ret x η' ∧ W x η' := by
    have h0 : ∃ w, atI ((pts.map (prow n)).map (rowT n)) 0 = some (rowT n w) := by
      cases pts with
      | nil => have := J2.1; simp at this
      | cons a l => exact ⟨prow n a, at_hd⟩
    obtain ⟨w0, h0⟩ := h0
    have c1 := f_powers m (by omega) n (by omega) z η
    have c2 := f_span m (by omega) n J1 (pts.map (prow n)) (by omega) hsu (prow n z) η
    rw [(holds_iff hsu prow_su).mpr h] at c2
    have c3 := f_same_bl m (by omega) true η
    have c4 := f_weights m (by omega) pts (by omega) (jI n pts) (plc_ok n (ptf pts) pts.length) (plc_nd n (ptf pts) pts.length) z η
    have hz1 : (iv z + 1) % 65521 = iv (z + 1) := by rw [iv_add, iv_one]
    have c5 := f_weights m (by omega) pts (by omega) (jI n pts) (plc_ok n (ptf pts) pts.length) (plc_nd n (ptf pts) pts.length) (z + 1) η
    obtain ⟨η2, c6⟩ := f_judge_sum m (by omega) n J1 (pts.map (prow n)) (by omega) hsu (prow n z) prow_su h η
    rw [hlr] at c6
    have hcf : rowT pts.length (cfs n pts.length (rf (pts.map (prow n))) (prow n z)) = rowT pts.length (wts (ptf pts) (jI n pts) z) := congrArg D.tup (its_congr fun j hj => jcfs h j hj)
    rw [hcf] at c6
    have c7 := same_pair (m := m) (by omega) "sum" pts.length (by omega) (wts (ptf pts) (jI n pts) z) η2
    have hsum := fun p => f_is_sum m (by omega) n J1 (pts.map (prow n)) (by omega) (prow n z) p η2
    rw [hlr] at hsum
    have s1 := hsum (wts (ptf pts) (jI n pts) z)
    rw [decide_eq_true fun i _ => congrFun (jcomb h) i] at s1
    have hap := f_is_apart m (by omega) n J1 (pts.map (prow n)) (by omega) (prow n z) (prow n z) η2
    rw [decide_eq_false fun hc => by
      have := dot_sp hc.1 h
      rw [hc.2] at this
      exact absurd this (by decide)] at hap
    have hinb : (decide ((((jI n pts).length : Nat) : Int) = (n : Int)) = true) ∨ (¬ ((((jI n pts).length : Nat) : Int) = (n : Int)) ∧ inD (.int (iv z)) (.d (.lst (pts.map eI))) = some true) := by
      rcases (jin z).mp h with q | q
      · exact .inl (by rw [decide_eq_true_eq]; omega)
      · by_cases g : (((jI n pts).length : Nat) : Int) = (n : Int)
        · exact .inl (by rw [decide_eq_true_eq]; exact g)
        · exact .inr ⟨g, by rw [in_eI', decide_eq_true q]⟩
    have hlenI : ((jI n pts).map natD).length = (jI n pts).length := List.length_map ..
    have hlenP : (pts.map eI).length = pts.length := List.length_map ..
    have hjrf := jrf n pts
    have hjcomb := jcomb h
    have hjw := fun hm => jwrong (n := n) (pts := pts) hm (z + 1)
    clear P hcf
    generalize pts.map (prow n) = rows0 at *
    generalize its ((jas n pts).length + 1) (prd (jas n pts)) = pL at *
    rw [dn_law_judged]
    apply fr_sat
    obtain ⟨M, hM⟩ : ∃ M : List Slot → Prop, ∀ ρ, M ρ ↔ ρ = [.val (.lst (pts.map eI)), .val (rowsT n rows0), .val (.lst ((jI n pts).map natD)), .val (.lst pL), .val (.int (iv z)), .val (.int o), .val (.int (n : Int)), .val (.int ((jI n pts).length : Int)), .val (rowT n (prow n z)), .val (.bl true), .un, .un, .un, .un, .un, .un, .un, .un, .un, .un, .un] := ⟨_, fun _ => Iff.rfl⟩
    refine sat_cutS 5 M ?_ ?_
    · have fin := (hM _).2 rfl
      generalize pts.map eI = pD at *
      generalize (jI n pts).map natD = iD at *
      rcases hinb with q | ⟨q, q2⟩
      · have q' := of_decide_eq_true q
        simp [h0, its_len, hlenI, c1, q', c2, c3]
        rw [q'] at fin
        exact fin
      · simp [h0, its_len, hlenI, c1, q, q2, c2, c3]
        exact fin
    · intro ρ hh
      have hh := (hM _).1 hh
      subst hh
      simp only [List.drop_succ_cons, List.drop_zero]
      have hres : ∀ (Q : Fl → List Slot → List AO → Prop), (∀ ρ η', Q (.ret (.val (.bl true))) ρ η') → ∀ (rest : List CS), Sat (exSs (den Pd m) (.iff (.var 9) [(.set 10 (.call j_law_weights [(.var 0), (.var 2), (.var 4)])), (.set 11 (.bi1 .list (.var 10))), (.set 12 (.bin .sub (.bi1 .len (.var 0)) (.cst (.int 1)))), (.for_ (.nm 13) .of [(.var 2)] [(.iff (.and (.cmp .eq (.idx (.var 0) (.var 12)) (.idx (.var 0) (.var 13))) (.cmp .ne (.var 13) (.var 12))) [(.setI (.var 11) (.var 12) (.idx (.var 10) (.var 13))), (.setI (.var 11) (.var 13) (.cst (.int 0)))] [])]), (.set 14 (.call j_law_weights [(.var 0), (.var 2), (.bin .mod (.bi1 .int (.bin .add (.var 4) (.cst (.int 1)))) (.cst (.int 65521)))])), (.iff (.or (.not (.call j_law_same [(.call j_judge_span [(.var 1), (.var 8)]), (.tup [(.cst (.str "sum")), (.var 10)])])) (.cmp .isnot (.call j_is_sum [(.var 1), (.var 8), (.var 10)]) (.cst (.bl true)))) [(.ret (.cst (.bl false)))] []), (.iff (.and (.cmp .gt (.var 7) (.cst (.int 1))) (.cmp .isnot (.call j_is_sum [(.var 1), (.var 8), (.var 14)]) (.cst (.bl false)))) [(.ret (.cst (.bl false)))] []), (.ret (.and (.cmp .is (.call j_is_sum [(.var 1), (.var 8), (.bi1 .tuple (.var 11))]) (.cst (.bl true))) (.cmp .is (.call j_is_apart [(.var 1), (.var 8), (.var 8)]) (.cst (.bl false)))))] [] :: rest) [.val (.lst (pts.map eI)), .val (rowsT n rows0), .val (.lst ((jI n pts).map natD)), .val (.lst pL), .val (.int (iv z)), .val (.int o), .val (.int (n : Int)), .val (.int ((jI n pts).length : Int)), .val (rowT n (prow n z)), .val (.bl true), .un, .un, .un, .un, .un, .un, .un, .un, .un, .un, .un] η) Q := fun Q hQ rest => by
        simp [c4, hlenP, -put_nm]
        simp only [sat_bind]
        obtain ⟨la, hla⟩ : ∃ la : Nat, (pts.length : Int) - 1 = (la : Int) := ⟨pts.length - 1, by omega⟩
        have hlal : la < pts.length := by omega
        have eLa := ptf_at hlal
        obtain ⟨G, hG⟩ : ∃ G : Nat → List Slot → Prop, ∀ t ρ, G t ρ ↔ ∃ (f : Vc Fq) (s13 : Slot), comb pts.length (rf rows0) f = prow n z ∧ (∀ j ∈ (jI n pts).drop t, f j = wts (ptf pts) (jI n pts) z j) ∧ (f la = 0 ∨ ∀ j ∈ (jI n pts).drop t, ptf pts la = ptf pts j → j = la) ∧ ρ = [.val (.lst (pts.map eI)), .val (rowsT n rows0), .val (.lst ((jI n pts).map natD)), .val (.lst pL), .val (.int (iv z)), .val (.int o), .val (.int (n : Int)), .val (.int ((jI n pts).length : Int)), .val (rowT n (prow n z)), .val (.bl true), .val (rowT pts.length (wts (ptf pts) (jI n pts) z)), .own (.lst (its pts.length f)), .val (.int (la : Int)), s13, .un, .un, .un, .un, .un, .un, .un] := ⟨_, fun _ _ => Iff.rfl⟩
        rw [hla]
        refine sat_forS (f := natD) (xs := jI n pts) G ((hG _ _).2 ⟨wts (ptf pts) (jI n pts) z, _, hjcomb, fun j _ => rfl, ?_, rfl⟩) ?_ ?_
        · by_cases hin : la ∈ jI n pts
          · exact .inr fun j hj e => ((plc_ok n (ptf pts) pts.length).inj la hin j (by simpa using hj) e).symm
          · exact .inl (by unfold wts; rw [if_neg hin])
        · intro t j ρ hj hg
          obtain ⟨f, s13, g1, g2, g3, rfl⟩ := (hG _ _).1 hg
          obtain ⟨hd, hjm⟩ := drop_at hj
          rw [hd] at g2 g3
          have hjl := (plc_ok n (ptf pts) pts.length).lt j hjm
          have ej := ptf_at hjl
          have ew := its_atI (wts (ptf pts) (jI n pts) z) hjl
          have hnd : j ∉ (jI n pts).drop (t + 1) := by
            have := (plc_nd n (ptf pts) pts.length).sublist (List.drop_sublist t _)
            rw [hd] at this
            exact (List.nodup_cons.mp this).1
          refine sat_nm (by simp) ?_
          simp only [List.set_cons_succ, List.set_cons_zero]
          by_cases hc : ptf pts la = ptf pts j ∧ j ≠ la
          · have hf0 : f la = 0 := by
              rcases g3 with g3 | g3
              · exact g3
              · exact absurd (g3 j List.mem_cons_self hc.1) hc.2
            have hfj := g2 j List.mem_cons_self
            have es1 := act_its (n := pts.length) (p := la) (f := f) (x := wts (ptf pts) (jI n pts) z j) hlal
            have es2 := act_its (n := pts.length) (p := j) (f := updv f la (wts (ptf pts) (jI n pts) z j)) (x := 0) hjl
            have es2 : setAct (.lst (its pts.length (updv f la (wts (ptf pts) (jI n pts) z j)))) (.int (j : Int)) (.int 0) = some (.lst (its pts.length (updv (updv f la (wts (ptf pts) (jI n pts) z j)) j 0))) := es2
            have hmv := jmove (r := rf rows0) (f := f) hlal hjl hc.2 (by rw [hjrf la hlal, hjrf j hjl, hc.1]) hf0
            rw [hfj] at hmv
            have q1 : iv (ptf pts la) = iv (ptf pts j) := by rw [hc.1]
            have q2 : ¬ (j : Int) = (la : Int) := by
              have := hc.2
              omega
            have fin := (hG (t + 1) _).2 ⟨updv (updv f la (wts (ptf pts) (jI n pts) z j)) j 0, .val (natD j), by rw [hmv]; exact g1, fun i hi => by
              have h1 : i ≠ j := fun e => hnd (e ▸ hi)
              have h2 : i ≠ la := fun e => by
                have hiI : i ∈ jI n pts := List.mem_of_mem_drop hi
                exact hc.2 ((plc_ok n (ptf pts) pts.length).inj j hjm la (e ▸ hiI) hc.1.symm)
              unfold updv
              rw [if_neg h1, if_neg h2]
              exact g2 i (List.mem_cons_of_mem _ hi), .inr fun i hi e => by
              exact absurd ((plc_ok n (ptf pts) pts.length).inj i (List.mem_of_mem_drop hi) j hjm (e.symm.trans hc.1)) fun e2 => hnd (e2 ▸ hi), rfl⟩
            generalize updv (updv f la (wts (ptf pts) (jI n pts) z j)) j 0 = f2 at *
            generalize updv f la (wts (ptf pts) (jI n pts) z j) = f1 at *
            generalize wts (ptf pts) (jI n pts) z = wt at *
            simp [eLa, ej, q1, hc.2, q2, ew, es1, es2]
            exact fin
          · have fin := (hG (t + 1) _).2 ⟨f, .val (natD j), g1, fun i hi => g2 i (List.mem_cons_of_mem _ hi), g3.imp id fun g3 i hi => g3 i (List.mem_cons_of_mem _ hi), rfl⟩
            by_cases q1 : ptf pts la = ptf pts j
            · have q2 : j = la := Classical.byContradiction fun q => hc ⟨q1, q⟩
              subst q2
              simp [eLa]
              exact fin
            · have q1' : ¬ iv (ptf pts la) = iv (ptf pts j) := fun e => q1 (iv_inj e)
              simp [eLa, ej, q1']
              exact fin
        · intro ρ hg
          obtain ⟨f, s13, g1, g2, g3, rfl⟩ := (hG _ _).1 hg
          have s2 := hsum f
          rw [decide_eq_true fun i _ => congrFun g1 i] at s2
          have h2z : (2 : Nat) ≤ sizeLine := sz (by omega)
          have fin := fun ρ η' => hQ ρ η'
          by_cases hmany : 1 < (jI n pts).length
          · have hmany' : (1 : Int) < ((jI n pts).length : Int) := by omega
            have s3 := hsum (wts (ptf pts) (jI n pts) (z + 1))
            rw [decide_eq_false fun hc => by
              have h1 := hc 1 (by omega)
              rw [hjw hmany, prow_at (by omega)] at h1
              have hp : pwr z 1 = z := by show 1 * z = z; grind
              rw [hp] at h1
              have h1 : (1 : Fq) = 0 := by grind
              exact absurd h1 (by decide)] at s3
            generalize wts (ptf pts) (jI n pts) z = w1 at *
            generalize wts (ptf pts) (jI n pts) (z + 1) = w2 at *
            simp [hz1, c5, c6, h2z, c7, s1, hmany', s3, s2, hap]
            exact fin _ _
          · have hmany' : ¬ (1 : Int) < ((jI n pts).length : Int) := by omega
            generalize wts (ptf pts) (jI n pts) z = w1 at *
            generalize wts (ptf pts) (jI n pts) (z + 1) = w2 at *
            simp [hz1, c5, c6, h2z, c7, s1, hmany', s2, hap]
            exact fin _ _
      exact hres _ (fun ρ η' => (hW _ _).2 rfl) _
  obtain ⟨x, η', e, hw⟩ := main
  rw [(hW _ _).1 hw] at e
  exact ⟨η', e⟩

open Lin Fp
theorem ev_val {Φ : Nat → Fn} {i : Nat} {ρ : List Slot} {η : List AO} {d : D} (h : ρ[i]? = some (.val d)) : evR Φ (.var i) ρ η = .ok (.val d) ρ η := by
  rw [ev_var]
  unfold rdVar
  rw [h]
  rfl
theorem f_judged_out (k : Nat) (hk : 9 ≤ k) (n : Nat) (pts : List Fq) (J : Jd n pts) (z o : Fq) (h : ¬ Sp (pts.map (prow n)) (prow n z)) (η : List AO) :
    den Pd k j_law_judged [.lst (pts.map eI), rowsT n (pts.map (prow n)), .lst ((jI n pts).map natD), .lst (its ((jas n pts).length + 1) (prd (jas n pts))), .int (iv z), .int (iv o)] η = .ret (.val (.bl true)) η := by
  obtain ⟨m, rfl, hm⟩ := pre1 hk
  have P := jpts n pts
  have hsu := pts_su P
  have hlr : (pts.map (prow n)).length = pts.length := List.length_map ..
  have J1 := J.n1
  have J2 := J.c1
  have hno : ¬ ((jI n pts).length = n ∨ z ∈ pts) := fun hc => h ((jin z).mpr hc)
  have hla : (jas n pts).length = (jI n pts).length := List.length_map ..
  have hlt : (jas n pts).length < n := by
    have := P.le
    have : (jI n pts).length ≠ n := fun e => hno (.inl e)
    omega
  have hz : z ∉ jas n pts := fun hc => hno (.inr (P.sub z hc))
  obtain ⟨o1, o2, o3⟩ := out_lead P hlt hz
  have hall : ∀ x ∈ pts, x ∈ jas n pts := by
    rcases P.all with q | q
    · omega
    · exact q
  have hk1 : ∀ x ∈ pts, dot n (prd (jas n pts)) (prow n x) = 0 := fun x hx => by
    rw [prd_dot hlt, prd_root]
    exact hall x hx
  have hv1 : dot n (prd (jas n pts)) (prow n z) = pev ((jas n pts).length + 1) (prd (jas n pts)) z := prd_dot hlt z
  have hne : pev ((jas n pts).length + 1) (prd (jas n pts)) z ≠ 0 := fun e => hz ((prd_root _ _).mp e)
  have hpz := prd_zero (jas n pts)
  have h0 : ∃ w, atI ((pts.map (prow n)).map (rowT n)) 0 = some (rowT n w) := by
    cases pts with
    | nil => have := J2.1; simp at this
    | cons a l => exact ⟨prow n a, at_hd⟩
  obtain ⟨w0, h0⟩ := h0
  have c1 := f_powers m (by omega) n (by omega) z η
  have c2 := f_span m (by omega) n J1 (pts.map (prow n)) (by omega) hsu (prow n z) η
  have hnone : (lead n (rest (bs n (pts.map (prow n))) (prow n z))).isNone = false := by rw [o1]; rfl
  rw [hnone] at c2
  have c3 := fun b => f_same_bl m (by omega) b η
  have d1 := f_at m (by omega) ((jas n pts).length + 1) (prd (jas n pts)) z η
  have d2 := f_linverse m (by omega) (pev ((jas n pts).length + 1) (prd (jas n pts)) z) η
  have e1 := f_judge_ap m (by omega) n J1 (pts.map (prow n)) (by omega) hsu (prow n z) o1 η
  have hapF : apF n (pts.map (prow n)) (prow n z) (jas n pts).length = fun i => prd (jas n pts) i * invF (pev ((jas n pts).length + 1) (prd (jas n pts)) z) := funext fun i => by
    unfold apF
    rw [o3 i, o2]
  rw [hapF] at e1
  have hia := fun p => f_is_apart m (by omega) n J1 (pts.map (prow n)) (by omega) (prow n z) p η
  have i1 := hia (fun i => prd (jas n pts) i * invF (pev ((jas n pts).length + 1) (prd (jas n pts)) z))
  rw [decide_eq_true (jap (invF (pev ((jas n pts).length + 1) (prd (jas n pts)) z)) hk1 z (by rw [hv1]; exact mul_invF _ hne))] at i1
  have i2 := hia (prd (jas n pts))
  have hdec : ((∀ r ∈ pts.map (prow n), dot n (prd (jas n pts)) r = 0) ∧ dot n (prd (jas n pts)) (prow n z) = 1) ↔ (iv (pev ((jas n pts).length + 1) (prd (jas n pts)) z) = 1) := by
    constructor
    · intro hc
      rw [← hv1, hc.2, iv_one]
    · intro hc
      refine ⟨fun r hr => ?_, iv_inj (by rw [hv1, hc, iv_one])⟩
      obtain ⟨x, hx, rfl⟩ := List.mem_map.mp hr
      exact hk1 x hx
  rw [(@decide_eq_decide _ (iv (pev ((jas n pts).length + 1) (prd (jas n pts)) z) = 1) _ (Int.instDecidableEq _ _)).mpr hdec] at i2
  clear hdec
  have hpad1 : its ((jas n pts).length + 1) (fun i => prd (jas n pts) i * invF (pev ((jas n pts).length + 1) (prd (jas n pts)) z)) ++ its (n - ((jas n pts).length + 1)) (fun _ => 0) = its n (fun i => prd (jas n pts) i * invF (pev ((jas n pts).length + 1) (prd (jas n pts)) z)) := its_pad (by omega) _ fun i hi => by rw [hpz i hi]; grind
  have hpad2 : its ((jas n pts).length + 1) (prd (jas n pts)) ++ its (n - ((jas n pts).length + 1)) (fun _ => 0) = its n (prd (jas n pts)) := its_pad (by omega) _ hpz
  -- the longer polynomial
  have f1 := f_times m (by omega) ((jas n pts).length + 1) (by omega) (prd (jas n pts)) hpz o η
  rw [← prd_app] at f1
  have f2 := f_at m (by omega) ((jas n pts).length + 1 + 1) (prd (jas n pts ++ [o])) z η
  have f3 := f_linverse m (by omega) (pev ((jas n pts).length + 1 + 1) (prd (jas n pts ++ [o])) z) η
  have i3 := hia (fun i => prd (jas n pts ++ [o]) i * invF (pev ((jas n pts).length + 1 + 1) (prd (jas n pts ++ [o])) z))
  have hmore : (jas n pts).length + 1 < n → o ≠ z → ((∀ r ∈ pts.map (prow n), dot n (fun i => prd (jas n pts ++ [o]) i * invF (pev ((jas n pts).length + 1 + 1) (prd (jas n pts ++ [o])) z)) r = 0) ∧ dot n (fun i => prd (jas n pts ++ [o]) i * invF (pev ((jas n pts).length + 1 + 1) (prd (jas n pts ++ [o])) z)) (prow n z) = 1) := fun g1 g2 => by
    have hl2 : (jas n pts ++ [o]).length = (jas n pts).length + 1 := by simp
    have hlt2 : (jas n pts ++ [o]).length < n := by omega
    refine jap _ (fun x hx => ?_) z ?_
    · rw [prd_dot hlt2, prd_root]
      exact List.mem_append_left _ (hall x hx)
    · rw [prd_dot hlt2, hl2]
      refine mul_invF _ fun e => ?_
      rw [← hl2] at e
      rcases List.mem_append.mp ((prd_root _ _).mp e) with q | q
      · exact hz q
      · rw [List.mem_singleton] at q
        exact g2 q.symm
  have hpad3 : (jas n pts).length + 1 < n → its ((jas n pts).length + 1 + 1) (fun i => prd (jas n pts ++ [o]) i * invF (pev ((jas n pts).length + 1 + 1) (prd (jas n pts ++ [o])) z)) ++ its (n - ((jas n pts).length + 1 + 1)) (fun _ => 0) = its n (fun i => prd (jas n pts ++ [o]) i * invF (pev ((jas n pts).length + 1 + 1) (prd (jas n pts ++ [o])) z)) := fun g => its_pad (by omega) _ fun i hi => by
    rw [prd_zero (jas n pts ++ [o]) i (by simp; omega)]
    grind
  have zs := f_is_sum m (by omega) n J1 (pts.map (prow n)) (by omega) (prow n z) (fun _ => 0) η
  rw [hlr] at zs
  have hz0 : ¬ ∀ i, i < n → comb pts.length (rf (pts.map (prow n))) (fun _ => 0) i = prow n z i := fun hc => by
    have := hc 0 (by omega)
    rw [comb_zero fun j _ => rfl, prow_at (by omega)] at this
    exact absurd this.symm (by show ¬ (1 : Fq) = 0; decide)
  rw [decide_eq_false hz0] at zs
  have mT := mulT0 (c := pts.length) (by omega)
  have m1 := mul0i (i := (n : Int) - ((jI n pts).length : Int) - 1) (n := n - ((jas n pts).length + 1)) (by omega) (by omega)
  have sp1 := same_pair (m := m) (by omega) "apart" n (by omega) (fun i => prd (jas n pts) i * invF (pev ((jas n pts).length + 1) (prd (jas n pts)) z)) η
  have hq1 : ¬ (((jI n pts).length : Nat) : Int) = (n : Int) := by
    have : (jI n pts).length ≠ n := fun e => hno (.inl e)
    omega
  have hq2 : inD (.int (iv z)) (.d (.lst (pts.map eI))) = some false := by rw [in_eI', decide_eq_false fun e => hno (.inr e)]
  have hlenI : ((jI n pts).map natD).length = (jI n pts).length := List.length_map ..
  have hmk : ∀ a b : Fq, iv a * iv b % 65521 = iv (a * b) := fun a b => (iv_mul a b).symm
  have h1z : (1 : Nat) ≤ sizeLine := sz (by omega)
  have h2z : (2 : Nat) ≤ sizeLine := sz (by omega)
  have zl1 : (its ((jas n pts).length + 1) (prd (jas n pts))).length + (its (n - ((jas n pts).length + 1)) fun _ => (0 : Fq)).length ≤ sizeLine := by rw [its_len, its_len]; exact sz (by omega)
  have hlc : ∀ (q : Vc Fq) (a : Nat) (b : Fq), a ≤ 100 → ∀ (ρ : List Slot), ρ.length = 21 → ρ[17]? = some .un → ρ[16]? = some (.val (.int (iv b))) → lcAll (.nm 17) (its a q) (evCs (den Pd m) []) ((evR (den Pd m) (.bin .mod (.bi1 .int (.bin .mul (.var 17) (.var 16))) (.cst (.int 65521)))).bind frz) ρ η = .ok (.own (.lst (its a fun i => q i * b))) ρ η := fun q a b ha ρ r1 r2 r3 => by
    refine lc_its (fun i => q i * b) (by show ([17].all _) = true; simp [r2]) (by omega) fun i hi => ?_
    have e17 : evR (den Pd m) (.var 17) (ρ.set 17 (.val (.int (iv (q i))))) η = .ok (.val (.int (iv (q i)))) (ρ.set 17 (.val (.int (iv (q i))))) η := ev_val (by rw [List.getElem?_set_self (by omega)])
    have e16 : evR (den Pd m) (.var 16) (ρ.set 17 (.val (.int (iv (q i))))) η = .ok (.val (.int (iv b))) (ρ.set 17 (.val (.int (iv (q i))))) η := ev_val (by rw [List.getElem?_set_ne (by omega)]; exact r3)
    have hmo : mulOk (iv (q i)) (iv b) = true := mul_iv _ _
    simp [-ev_var, e17, e16, hmk, hmo]
  clear hapF o1 o2 o3 hv1 hne P hz0
  obtain ⟨val, hV⟩ : ∃ val, pev ((jas n pts).length + 1) (prd (jas n pts)) z = val := ⟨_, rfl⟩
  obtain ⟨val2, hV2⟩ : ∃ val2, pev ((jas n pts).length + 1 + 1) (prd (jas n pts ++ [o])) z = val2 := ⟨_, rfl⟩
  rw [rowL] at d1
  simp only [rowL] at f1 f2
  simp only [hV] at d1 d2 e1 i1 i2 hpad1 sp1
  simp only [hV2] at f2 f3 i3 hmore hpad3
  have lc1 := hlc (prd (jas n pts)) ((jas n pts).length + 1) (invF val) (by omega)
  have lc2 := hlc (prd (jas n pts ++ [o])) ((jas n pts).length + 1 + 1) (invF val2) (by omega)
  have zl2 : (its ((jas n pts).length + 1) (fun i => prd (jas n pts) i * invF val)).length + (its (n - ((jas n pts).length + 1)) fun _ => (0 : Fq)).length ≤ sizeLine := by rw [its_len, its_len]; exact sz (by omega)
  have g1 : binD .add (.lst (its ((jas n pts).length + 1) (prd (jas n pts)))) (.lst (its (n - ((jas n pts).length + 1)) fun _ => (0 : Fq))) = some (.own (.lst (its n (prd (jas n pts))))) := by rw [add_lst, if_pos zl1, hpad2]
  have g2 : binD .add (.lst (its ((jas n pts).length + 1) (fun i => prd (jas n pts) i * invF val))) (.lst (its (n - ((jas n pts).length + 1)) fun _ => (0 : Fq))) = some (.own (.lst (its n fun i => prd (jas n pts) i * invF val))) := by rw [add_lst, if_pos zl2, hpad1]
  have m2 : (jas n pts).length + 1 < n → binD .mul (.lst [D.int 0]) (.int ((n : Int) - ((jI n pts).length : Int) - 2)) = some (.own (.lst (its (n - ((jas n pts).length + 1 + 1)) fun _ => 0))) := fun g => mul0i (by omega) (by omega)
  have g3 : (jas n pts).length + 1 < n → binD .add (.lst (its ((jas n pts).length + 1 + 1) (fun i => prd (jas n pts ++ [o]) i * invF val2))) (.lst (its (n - ((jas n pts).length + 1 + 1)) fun _ => (0 : Fq))) = some (.own (.lst (its n fun i => prd (jas n pts ++ [o]) i * invF val2))) := fun g => by
    rw [add_lst, if_pos (by rw [its_len, its_len]; exact sz (by omega)), hpad3 g]
  have hcond : ((((jI n pts).length : Nat) : Int) + 1 < (n : Int)) ↔ (jas n pts).length + 1 < n := by omega
  by_cases q1 : (jas n pts).length + 1 < n ∧ o ≠ z
  · have i3 := i3
    rw [decide_eq_true (hmore q1.1 q1.2)] at i3
    have m2 := m2 q1.1
    have g3 := g3 q1.1
    have hc1 : ((((jI n pts).length : Nat) : Int) + 1 < (n : Int)) := hcond.mpr q1.1
    have hc2 : ¬ iv o = iv z := fun e => q1.2 (iv_inj e)
    clear hmore hpad3 hpad2 hpad1 hlc zl1 zl2 hk1 hV hV2
    generalize (fun i => prd (jas n pts ++ [o]) i * invF val2) = Y2 at *
    generalize (fun i => prd (jas n pts) i * invF val) = Y1 at *
    generalize its ((jas n pts).length + 1) (prd (jas n pts)) = pL at *
    generalize its ((jas n pts).length + 1 + 1) (prd (jas n pts ++ [o])) = pL2 at *
    generalize its ((jas n pts).length + 1) Y1 = L1 at *
    generalize its ((jas n pts).length + 1 + 1) Y2 = L2 at *
    generalize (its (n - ((jas n pts).length + 1)) fun _ => (0 : Fq)) = Z1 at *
    generalize (its (n - ((jas n pts).length + 1 + 1)) fun _ => (0 : Fq)) = Z2 at *
    generalize prd (jas n pts) = q0 at *
    generalize pts.map (prow n) = rows0 at *
    generalize pts.map eI = pD at *
    generalize (jI n pts).map natD = iD at *
    rw [dn_law_judged]
    simp [h0, its_len, hlenI, c1, hq1, hq2, c2, c3, d1, d2]
    simp [lc1, h1z, m1, g2, e1, sp1, h2z, i1, g1, i2, c3, hc1, hc2, f1, f2, f3, lc2, m2, g3, i3, -mul_lst, -add_lst]
  · have hc : ¬ (((((jI n pts).length : Nat) : Int) + 1 < (n : Int)) ∧ ¬ iv o = iv z) := fun hc => q1 ⟨hcond.mp hc.1, fun e => hc.2 (by rw [e])⟩
    clear hmore hpad3 hpad2 hpad1 hlc zl1 zl2 hk1 hV hV2
    generalize (fun i => prd (jas n pts) i * invF val) = Y1 at *
    generalize its ((jas n pts).length + 1) (prd (jas n pts)) = pL at *
    generalize its ((jas n pts).length + 1) Y1 = L1 at *
    generalize (its (n - ((jas n pts).length + 1)) fun _ => (0 : Fq)) = Z1 at *
    generalize prd (jas n pts) = q0 at *
    have hlr' : ((pts.map (prow n)).map (rowT n)).length = pts.length := by rw [List.length_map, List.length_map]
    generalize pts.map (prow n) = rows0 at *
    generalize pts.map eI = pD at *
    generalize (jI n pts).map natD = iD at *
    have hll : (rows0.map (rowT n)).length = pts.length := hlr'
    rw [dn_law_judged]
    by_cases r1 : ((((jI n pts).length : Nat) : Int) + 1 < (n : Int))
    · have r2 : iv o = iv z := Classical.byContradiction fun e => hc ⟨r1, e⟩
      simp [h0, its_len, hlenI, c1, hq1, hq2, c2, c3, d1, d2]
      simp [lc1, h1z, m1, g2, e1, sp1, h2z, i1, g1, i2, c3, r1, r2, hlr, mT, zs, -mul_lst, -add_lst, -mul_tup]
    · simp [h0, its_len, hlenI, c1, hq1, hq2, c2, c3, d1, d2]
      simp [lc1, h1z, m1, g2, e1, sp1, h2z, i1, g1, i2, c3, r1, hlr, mT, zs, -mul_lst, -add_lst, -mul_tup]

open Lin Fp
theorem f_judged (k : Nat) (hk : 9 ≤ k) (n : Nat) (pts : List Fq) (J : Jd n pts) (z o : Fq) (η : List AO) :
    ∃ η', den Pd k j_law_judged [.lst (pts.map eI), rowsT n (pts.map (prow n)), .lst ((jI n pts).map natD), .lst (its ((jas n pts).length + 1) (prd (jas n pts))), .int (iv z), .int (iv o)] η = .ret (.val (.bl true)) η' := by
  by_cases h : Sp (pts.map (prow n)) (prow n z)
  · exact f_judged_in k hk n pts J z (iv o) h η
  · exact ⟨η, f_judged_out k hk n pts J z o h η⟩
theorem apF_nil {n : Nat} (hn : 1 ≤ n) (z : Fq) : lead n (rest (bs n ([] : List (Vc Fq))) (prow n z)) = some 0 ∧ apF n [] (prow n z) 0 = unitV 0 := by
  have P := jpts n []
  have ha : jas n ([] : List Fq) = [] := by
    have := P.le
    unfold jas jI plc fst1
    simp
  rw [ha] at P
  obtain ⟨o1, o2, o3⟩ := out_lead (y := z) P (show ([] : List Fq).length < n by simp; omega) (by simp)
  simp only [List.map_nil, List.length_nil] at o1 o2 o3
  refine ⟨o1, ?_⟩
  have hv : pev (0 + 1) (prd ([] : List Fq)) z = 1 := by
    have := prd_ev ([] : List Fq) z
    simpa using this
  have hi : invF (1 : Fq) = 1 := by
    have := mul_invF (1 : Fq) (by decide)
    grind
  funext i
  unfold apF
  rw [o3, o2, hv, hi]
  show prd [] i * 1 = unitV 0 i
  have : (prd [] : Vc Fq) i = unitV 0 i := rfl
  rw [this]
  grind
theorem f_law (k : Nat) (ns : List Int) : ∃ η', den Pd (k + 10) j_law [.lck (ns.map .int)] [] = .ret (.val (.bl true)) η' := by
  obtain ⟨η, hη⟩ : ∃ η : List AO, η = [] := ⟨_, rfl⟩
  rw [← hη]
  obtain ⟨m, hm⟩ : ∃ m, m = k + 9 := ⟨_, rfl⟩
  have hm9 : 9 ≤ m := by omega
  rw [show k + 10 = m + 1 from by omega]
  clear hm
  have hdr := fun i c z h1 h2 h3 h4 η => f_draw m (by omega) ns i c z h1 h2 h3 h4 η
  have cw := fun z η => f_word m (by omega) z η
  generalize ns.map D.int = nsD at *
  obtain ⟨xs, x1, x2, x3⟩ := hdr 0 6 5040 (by omega) (by omega) (by omega) (by omega) η
  have x1 : xs.length = 6 := by omega
  have x3 : den Pd m j_law_draw [.lck nsD, .int 0, .int 6, .int 5040] η = .ret (.own (.lst (xs.map .int))) η := x3
  have gx : ∀ i : Nat, i < 6 → atI (xs.map D.int) (i : Int) = some (.int (xs.getD i 0)) := fun i hi => at_ints i (by omega)
  have bx : ∀ i : Nat, i < 6 → 0 ≤ xs.getD i 0 := fun i hi => (getD_rng x2 (i := i) (by omega)).1
  have g0 : atI (xs.map D.int) 0 = some (.int (xs.getD 0 0)) := gx 0 (by omega)
  have g1 : atI (xs.map D.int) 1 = some (.int (xs.getD 1 0)) := gx 1 (by omega)
  have g2 : atI (xs.map D.int) 2 = some (.int (xs.getD 2 0)) := gx 2 (by omega)
  have g3 : atI (xs.map D.int) 3 = some (.int (xs.getD 3 0)) := gx 3 (by omega)
  have g4 : atI (xs.map D.int) 4 = some (.int (xs.getD 4 0)) := gx 4 (by omega)
  have b0 := bx 0 (by omega)
  have b1 := bx 1 (by omega)
  have b2 := bx 2 (by omega)
  have b3 := bx 3 (by omega)
  generalize xs.getD 0 0 = y0 at *
  generalize xs.getD 1 0 = y1 at *
  generalize xs.getD 2 0 = y2 at *
  generalize xs.getD 3 0 = y3 at *
  generalize xs.getD 4 0 = y4 at *
  generalize xs.map D.int = xsD at *
  obtain ⟨n, hn⟩ : ∃ n : Nat, 1 + y0 % 20 = (n : Int) := Int.eq_ofNat_of_zero_le (by omega)
  obtain ⟨c, hc⟩ : ∃ c : Nat, y1 % 61 = (c : Int) := Int.eq_ofNat_of_zero_le (by omega)
  have hnr : 1 ≤ n ∧ n ≤ 20 := by omega
  have hcr : c ≤ 60 := by omega
  obtain ⟨ws, w1, w2, w3⟩ := hdr 1 (1 + y2 % 24) 524168 (by omega) (by omega) (by omega) (by omega) η
  have w3 : den Pd m j_law_draw [.lck nsD, .int 1, .int (1 + y2 % 24), .int 524168] η = .ret (.own (.lst (ws.map .int))) η := w3
  obtain ⟨us, u1, u2, u3⟩ := hdr 2 c 5040 (by omega) (by omega) (by omega) (by omega) η
  have u1 : us.length = c := by omega
  have u3 : den Pd m j_law_draw [.lck nsD, .int 2, .int (c : Int), .int 5040] η = .ret (.own (.lst (us.map .int))) η := u3
  have w1' : 1 ≤ ws.length ∧ ws.length ≤ 24 := by omega
  obtain ⟨pool, hpool⟩ : ∃ pool : List Fq, pool = ws.map wd := ⟨_, rfl⟩
  have hpl : pool.length = ws.length := by rw [hpool, List.length_map]
  have hwd : ws.map (fun z => D.int (iv (wd z))) = pool.map eI := by rw [hpool, List.map_map]; rfl
  obtain ⟨pts, hpts⟩ : ∃ pts : List Fq, pts = us.map fun u => ptf pool (u % (pool.length : Int)).toNat := ⟨_, rfl⟩
  have hpc : pts.length = c := by rw [hpts, List.length_map, u1]
  have hud : us.map (fun u => D.int (iv (ptf pool (u % (pool.length : Int)).toNat))) = pts.map eI := by rw [hpts, List.map_map]; rfl
  have huat : ∀ u : Int, atI (pool.map eI) (u % (pool.length : Int)) = some (.int (iv (ptf pool (u % (pool.length : Int)).toNat))) := fun u => by
    have a1 := Int.emod_nonneg u (show (pool.length : Int) ≠ 0 by omega)
    have a2 := Int.emod_lt_of_pos u (show (0 : Int) < (pool.length : Int) by omega)
    have := ptf_at (pts := pool) (j := (u % (pool.length : Int)).toNat) (by omega)
    rwa [show (((u % (pool.length : Int)).toNat : Nat) : Int) = u % (pool.length : Int) by omega] at this
  clear hpts
  subst hpc
  have P := jpts n pts
  have hla : (jas n pts).length = (jI n pts).length := List.length_map ..
  have hle := P.le
  have hsu := pts_su P
  have hrl : (pts.map (prow n)).length = pts.length := List.length_map ..
  have p1 := fun x => f_powers m (by omega) n (by omega) x η
  have hrt : pts.map (fun x => rowT n (prow n x)) = (pts.map (prow n)).map (rowT n) := by rw [List.map_map]; rfl
  have q1 := f_firsts m (by omega) pts (by omega) η
  have hcut : cutL ((fst1 (ptf pts) pts.length).map natD) none (some (n : Int)) = (jI n pts).map natD := by
    rw [cutL_to, ← List.map_take]
    rfl
  have hIm : ∀ j ∈ jI n pts, j < pts.length := (plc_ok n (ptf pts) pts.length).1
  have hjm : (jI n pts).map (fun j => D.int (iv (ptf pts j))) = (jas n pts).map eI := by rw [List.map_map]; rfl
  have q2 := f_product m (by omega) (jas n pts) (by omega) η
  have r1 := f_rank m (by omega) n hnr (pts.map (prow n)) (by omega) hsu η
  rw [pts_bs P, rmr_len, hla] at r1
  have r2 := f_same_int m (by omega) (((jI n pts).length : Nat) : Int) η
  have r3 := f_reduced' m (by omega) n hnr (pts.map (prow n)) (by omega) hsu η
  rw [pts_bs P] at r3
  obtain ⟨η1, Ds, r4, r5⟩ := f_remainders m (by omega) n (by omega) (jas n pts).length hle (prd (jas n pts)) η
  have r5 := r5 m (by omega)
  have r6 := f_same_rows m (by omega) n (by omega) (vs (rmr n (jas n pts).length (prd (jas n pts)))) (by rw [vs_len, rmr_len]; omega) η1
  have s1 := f_ann' m (by omega) n hnr (pts.map (prow n)) (by omega) hsu η1
  have s2 := f_multiples m (by omega) n (by omega) (jas n pts) hle η1
  have hml : (mults n (jas n pts)).length ≤ 20 := by
    unfold mults
    simp only [List.length_map, List.length_range]
    omega
  have s3 := f_lred m (by omega) n (by omega) (mults n (jas n pts)) (by omega) (.lst ((mults n (jas n pts)).map (rowL n))) (rowL n) rfl (.inr rfl) η1
  rw [bs_red mults_su, vs_map, pts_ann P] at s3
  have hal := ann_len hsu
  have hal2 : (vs (ann n (pts.map (prow n)))).length ≤ 100 := by
    rw [vs_len]
    omega
  have s4 := f_frozen m (by omega) n (vs (ann n (pts.map (prow n)))) hal2 η1
  have s5 := f_same_rows m (by omega) n (by omega) (vs (ann n (pts.map (prow n)))) hal2 η1
  obtain ⟨vs1, v1, v2, v3⟩ := hdr 3 1 524168 (by omega) (by omega) (by omega) (by omega) η1
  obtain ⟨v, rfl⟩ : ∃ v, vs1 = [v] := by
    match vs1, v1 with
    | [a], _ => exact ⟨_, rfl⟩
  have v3 : den Pd m j_law_draw [.lck nsD, .int 3, .int 1, .int 524168] η1 = .ret (.own (.lst [.int v])) η1 := v3
  have v4 := cw v η1
  have hv0 : atI [D.int v] 0 = some (.int v) := at_hd
  rw [hla] at r4 s2 q2 r3 r5 r6
  have h1z : (1 : Nat) ≤ sizeLine := sz (by omega)
  have h2z : (2 : Nat) ≤ sizeLine := sz (by omega)
  have hpl' : 0 < pool.length := by omega
  obtain ⟨W, hW⟩ : ∃ W : RV → List AO → Prop, ∀ v η', W v η' ↔ v = .val (.bl true) := ⟨_, fun _ _ => Iff.rfl⟩
  have main : ∃ v η', den Pd (m + 1) j_law [.lck nsD] η = .ret v η' ∧ W v η' := by
    have fin : ∀ η', W (.val (.bl true)) η' := fun η' => (hW _ _).2 rfl
    rw [dn_law]
    apply fr_sat
    obtain ⟨K, hK⟩ : ∃ K : List Slot → Prop, ∀ ρ, K ρ ↔ ∃ s4 s9, ρ = [.val (.lck nsD), .own (.lst xsD), .val (.int (n : Int)), .val (.int (pts.length : Int)), s4, .un, .val (.lst (pts.map eI)), .val (rowsT n (pts.map (prow n))), .un, s9, .val (.lst ((jI n pts).map natD)), .val (.int (((jI n pts).length : Nat) : Int)), .val (.lst (its ((jI n pts).length + 1) (prd (jas n pts)))), .un, .val (.int (iv (wd v))), .un] := ⟨_, fun _ => Iff.rfl⟩
    refine sat_cut 14 (fun ρ η' => K ρ ∧ η' = η1) ?_ ?_
    · simp [x3, g0, hn, g1, hc, g2, w3]
      rw [lc_nm (f := D.int) (fun z => .int (iv (wd z))) rfl (sz (by omega)) (fun z _ => by simp [cw])]
      rw [hwd]
      simp [u3]
      rw [lc_nm (f := D.int) (fun u => .int (iv (ptf pool (u % (pool.length : Int)).toNat))) rfl (sz (by omega)) (fun u _ => by simp [huat, hpl'])]
      rw [hud]
      simp
      rw [lc_nm (f := eI) (fun x => rowT n (prow n x)) rfl (sz (by omega)) (fun x _ => by simp [eI, p1])]
      rw [hrt]
      simp [q1, hcut, -List.map_map]
      rw [lc_nm (f := natD) (fun j => .int (iv (ptf pts j))) rfl (sz (by omega)) (fun j hj => by simp [natD, ptf_at (hIm j hj)])]
      rw [hjm]
      simp [q2, r1, r2, r3, r4, r5, r6, s1, s2, s3, s4, s5, v3, v4, hv0, -List.map_map]
      exact (hK _).2 ⟨_, _, rfl⟩
    · rintro ρ η' ⟨h, rfl⟩
      obtain ⟨s4, s9, rfl⟩ := (hK _).1 h
      simp only [List.drop_succ_cons, List.drop_zero]
      have p2 := fun x => f_powers m (by omega) n (by omega) x η'
      by_cases hp : pts.length = 0
      · have hpn : pts = [] := List.eq_nil_of_length_eq_zero hp
        obtain ⟨a1, a2⟩ := apF_nil hnr.1 (wd v)
        have j1 := f_judge_ap m (by omega) n hnr [] (by simp) (by intro v hv; simp at hv) (prow n (wd v)) a1 η'
        rw [a2] at j1
        have j2 := same_pair (m := m) (by omega) "apart" n (by omega) (unitV 0) η'
        have j3 := mulT0 (c := n - 1) (by omega)
        rw [show ((n - 1 : Nat) : Int) = (n : Int) - 1 by omega] at j3
        have j4 : D.int 1 :: its (n - 1) (fun _ => (0 : Fq)) = its n (unitV 0) := by
          have := its_pad (a := 1) (n := n) hnr.1 (unitV 0) fun i hi => by unfold unitV; rw [if_neg (by omega)]
          rw [← this]
          rfl
        have j5 : 1 + (its (n - 1) (fun _ => (0 : Fq))).length ≤ sizeLine := by rw [its_len]; exact sz (by omega)
        subst hpn
        simp [p2, j1, j3, j4, j5, j2, h2z, h1z, -mul_tup]
        exact fin _
      · have hj : Jd n pts := ⟨hnr, by omega, by omega⟩
        have hpos : 0 < pts.length := by omega
        have z3 : ∀ u : Int, ∃ z, atI (pts.map eI) (u % (pts.length : Int)) = some (.int (iv z)) := fun u => by
          have a1 := Int.emod_nonneg u (show (pts.length : Int) ≠ 0 by omega)
          have a2 := Int.emod_lt_of_pos u (show (0 : Int) < (pts.length : Int) by omega)
          have := ptf_at (pts := pts) (j := (u % (pts.length : Int)).toNat) (by omega)
          rw [show (((u % (pts.length : Int)).toNat : Nat) : Int) = u % (pts.length : Int) by omega] at this
          exact ⟨_, this⟩
        obtain ⟨z, hz⟩ := z3 y3
        obtain ⟨o, ho⟩ : ∃ o : Fq, (iv (wd v) + 1 + y4) % 65521 = iv o := ⟨toF (iv (wd v) + 1 + y4), (iv_toF _).symm⟩
        obtain ⟨η2, k1⟩ := f_judged m (by omega) n pts hj z o η'
        obtain ⟨η3, k2⟩ := f_judged m (by omega) n pts hj (wd v) o η2
        rw [hla] at k1 k2
        simp [hp, hpos, g4, ho, g3, hz, k1, k2, -List.map_map]
        exact fin _
  obtain ⟨v, η', e, hw⟩ := main
  rw [(hW _ _).1 hw] at e
  exact ⟨η', e⟩
theorem law_end (ns : List Int) (hl : ns.length ≤ 63) (hb : ∀ z ∈ ns, Builtin.Int.intBits z ≤ 1048576) : ∃ η', den Pd (40 + 1) 49 [.lck (ns.map .int)] [] = .ret (.val (.bl true)) η' := f_law 31 ns

theorem law_true (ns : List Int) (hl : ns.length ≤ 63) (hb : ∀ z ∈ ns, Builtin.Int.intBits z ≤ 1048576) : ∃ η', den Pd (40 + 1) 49 [.lck (ns.map .int)] [] = .ret (.val (.bl true)) η' := law_end ns hl hb
end Law
open PySem PySem.W PyProof.Rows
set_option maxHeartbeats 0 in
theorem PySem.Challenge.cw_lonehost_k43_rows_of_powers_holds : PySem.Challenge.rw_lonehost_k43_rows_of_powers.Holds := by
  w_on; o_law; k_head; (case hw => w_witness2)
  k_fill
  refine L2.walk_ofB (l := PySem.Challenge.rw_lonehost_k43_rows_of_powers) (n := 63) (k := 40 + 1) (x := "script") (CX := fun w => L2.CX PySem.Challenge.rw_lonehost_k43_rows_of_powers.prog w) (sp := fun w => Law.spL _) rfl (by decide) rfl ⟨rfl, by decide, by decide⟩ (fun w h Y => PySem.W.kIn_of Y) ?F (fun _ _ a ns hl hb _ hS => Mp.den_true (cad := fun _ => 0) hS (Law.law_true ns hl hb)) (fun _ _ _ _ _ h => by obtain ⟨_, _, _, _, _, _, _, _, _, _, _, _, z⟩ := h; exact z)
  case F =>
    intro w mg fa h KX G hmg
    refine' Law.all_mk KX G hmg ?a0 ?l0 ?c0 ?k0 ?a1 ?l1 ?c1 ?k1 ?a2 ?l2 ?c2 ?k2 ?a3 ?l3 ?c3 ?k3 ?a4 ?l4 ?c4 ?k4 ?a5 ?l5 ?c5 ?k5 ?a6 ?l6 ?c6 ?k6 ?a7 ?l7 ?c7 ?k7 ?a8 ?l8 ?c8 ?k8 ?a9 ?l9 ?c9 ?k9 ?a10 ?l10 ?c10 ?k10 ?a11 ?l11 ?c11 ?k11 ?a12 ?l12 ?c12 ?k12 ?a13 ?l13 ?c13 ?k13 ?a14 ?l14 ?c14 ?k14 ?a15 ?l15 ?c15 ?k15 ?a16 ?l16 ?c16 ?k16 ?a17 ?l17 ?c17 ?k17 ?a18 ?l18 ?c18 ?k18 ?a19 ?l19 ?c19 ?k19 ?a20 ?l20 ?c20 ?k20 ?a21 ?l21 ?c21 ?k21 ?a22 ?l22 ?c22 ?k22 ?a23 ?l23 ?c23 ?k23 ?a24 ?l24 ?c24 ?k24 ?a25 ?l25 ?c25 ?k25 ?a26 ?l26 ?c26 ?k26 ?a27 ?l27 ?c27 ?k27 ?a28 ?l28 ?c28 ?k28 ?a29 ?l29 ?c29 ?k29 ?a30 ?l30 ?c30 ?k30 ?a31 ?l31 ?c31 ?k31 ?a32 ?l32 ?c32 ?k32 ?a33 ?l33 ?c33 ?k33 ?a34 ?l34 ?c34 ?k34 ?a35 ?l35 ?c35 ?k35 ?a36 ?l36 ?c36 ?k36 ?a37 ?l37 ?c37 ?k37 ?a38 ?l38 ?c38 ?k38 ?a39 ?l39 ?c39 ?k39 ?a40 ?l40 ?c40 ?k40 ?a41 ?l41 ?c41 ?k41 ?a42 ?l42 ?c42 ?k42 ?a43 ?l43 ?c43 ?k43 ?a44 ?l44 ?c44 ?k44 ?a45 ?l45 ?c45 ?k45 ?a46 ?l46 ?c46 ?k46 ?a47 ?l47 ?c47 ?k47 ?a48 ?l48 ?c48 ?k48 ?a49 ?l49 ?c49 ?k49 ?z0 ?z1 ?z2 ?b0 ?b1 ?b2 ?b3 ?b4 ?b5 ?b6 ?b7 ?b8 ?b9 ?b10
    (case a0 => k_is); (case l0 => k_is); (case c0 => k_is); (case k0 => k_is); (case a1 => k_is); (case l1 => k_is); (case c1 => k_is); (case k1 => k_is); (case a2 => k_is); (case l2 => k_is); (case c2 => k_is); (case k2 => k_is); (case a3 => k_is); (case l3 => k_is); (case c3 => k_is); (case k3 => k_is); (case a4 => k_is); (case l4 => k_is); (case c4 => k_is); (case k4 => k_is); (case a5 => k_is); (case l5 => k_is); (case c5 => k_is); (case k5 => k_is); (case a6 => k_is); (case l6 => k_is); (case c6 => k_is); (case k6 => k_is); (case a7 => k_is); (case l7 => k_is); (case c7 => k_is); (case k7 => k_is); (case a8 => k_is); (case l8 => k_is); (case c8 => k_is); (case k8 => k_is); (case a9 => k_is); (case l9 => k_is); (case c9 => k_is); (case k9 => k_is); (case a10 => k_is); (case l10 => k_is); (case c10 => k_is); (case k10 => k_is); (case a11 => k_is); (case l11 => k_is); (case c11 => k_is); (case k11 => k_is); (case a12 => k_is); (case l12 => k_is); (case c12 => k_is); (case k12 => k_is); (case a13 => k_is); (case l13 => k_is); (case c13 => k_is); (case k13 => k_is); (case a14 => k_is); (case l14 => k_is); (case c14 => k_is); (case k14 => k_is); (case a15 => k_is); (case l15 => k_is); (case c15 => k_is); (case k15 => k_is); (case a16 => k_is); (case l16 => k_is); (case c16 => k_is); (case k16 => k_is); (case a17 => k_is); (case l17 => k_is); (case c17 => k_is); (case k17 => k_is); (case a18 => k_is); (case l18 => k_is); (case c18 => k_is); (case k18 => k_is); (case a19 => k_is); (case l19 => k_is); (case c19 => k_is); (case k19 => k_is); (case a20 => k_is); (case l20 => k_is); (case c20 => k_is); (case k20 => k_is); (case a21 => k_is); (case l21 => k_is); (case c21 => k_is); (case k21 => k_is); (case a22 => k_is); (case l22 => k_is); (case c22 => k_is); (case k22 => k_is); (case a23 => k_is); (case l23 => k_is); (case c23 => k_is); (case k23 => k_is); (case a24 => k_is); (case l24 => k_is); (case c24 => k_is); (case k24 => k_is); (case a25 => k_is); (case l25 => k_is); (case c25 => k_is); (case k25 => k_is); (case a26 => k_is); (case l26 => k_is); (case c26 => k_is); (case k26 => k_is); (case a27 => k_is); (case l27 => k_is); (case c27 => k_is); (case k27 => k_is); (case a28 => k_is); (case l28 => k_is); (case c28 => k_is); (case k28 => k_is); (case a29 => k_is); (case l29 => k_is); (case c29 => k_is); (case k29 => k_is); (case a30 => k_is); (case l30 => k_is); (case c30 => k_is); (case k30 => k_is); (case a31 => k_is); (case l31 => k_is); (case c31 => k_is); (case k31 => k_is); (case a32 => k_is); (case l32 => k_is); (case c32 => k_is); (case k32 => k_is); (case a33 => k_is); (case l33 => k_is); (case c33 => k_is); (case k33 => k_is); (case a34 => k_is); (case l34 => k_is); (case c34 => k_is); (case k34 => k_is); (case a35 => k_is); (case l35 => k_is); (case c35 => k_is); (case k35 => k_is); (case a36 => k_is); (case l36 => k_is); (case c36 => k_is); (case k36 => k_is); (case a37 => k_is); (case l37 => k_is); (case c37 => k_is); (case k37 => k_is); (case a38 => k_is); (case l38 => k_is); (case c38 => k_is); (case k38 => k_is); (case a39 => k_is); (case l39 => k_is); (case c39 => k_is); (case k39 => k_is); (case a40 => k_is); (case l40 => k_is); (case c40 => k_is); (case k40 => k_is); (case a41 => k_is); (case l41 => k_is); (case c41 => k_is); (case k41 => k_is); (case a42 => k_is); (case l42 => k_is); (case c42 => k_is); (case k42 => k_is); (case a43 => k_is); (case l43 => k_is); (case c43 => k_is); (case k43 => k_is); (case a44 => k_is); (case l44 => k_is); (case c44 => k_is); (case k44 => k_is); (case a45 => k_is); (case l45 => k_is); (case c45 => k_is); (case k45 => k_is); (case a46 => k_is); (case l46 => k_is); (case c46 => k_is); (case k46 => k_is); (case a47 => k_is); (case l47 => k_is); (case c47 => k_is); (case k47 => k_is); (case a48 => k_is); (case l48 => k_is); (case c48 => k_is); (case k48 => k_is); (case a49 => k_is); (case l49 => k_is); (case c49 => k_is); (case k49 => k_is); (case z0 => k_is); (case z1 => k_is); (case z2 => k_is); (case b0 => k_is); (case b1 => k_is); (case b2 => k_is); (case b3 => k_is); (case b4 => k_is); (case b5 => k_is); (case b6 => k_is); (case b7 => k_is); (case b8 => k_is); (case b9 => k_is); (case b10 => k_is)
