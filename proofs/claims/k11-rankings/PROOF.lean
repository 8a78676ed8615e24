import PyProof.Rows.All
import Wide.All
import OpenK.AllK
import Wide.FinOn
import KE.KStateDown
import KE.KEqNest
import KE.KEqDict
import KE.KeyNested
import KE.KDictKeyed
import KE.KDictAny
import KE.SortData
import KE.SortKeyHeap
import KE.DataEq
import KE.DataCmp
import KE.Datum
import KE.DatumOrd
import KE.DataMinMax
import KE.GoesZip
import KE.GoesEnum
import KE.GoesDict
import KE.KDictIter
import KE.KDictSum
import KE.KSortedAny
import KE.KDictDisplayH
import KE.KDictCopyH
import KE.KNest
import HandS.Base
import HandS.Call
import HandS.List
import HandS.Dict
import HandS.DictTup
import HandS.DictEq
import HandS.DictComp
import HandS.Iter
import HandS.Text
import HandS.Strs
import HandS.Comp
import HandS.ForMost
import HandS.ForList
import HandS.ForExc
import HandS.Ends
import HandS.More
import HandS.Words
import HandS.WordsExc
import HandS.WordsList
import HandS.Exc
import HandS.ExcOwn
import HandS.ExcField
import HandS.TryMany
import HandS.TryOnly
import HandS.ExcInit
import HandS.ExcInitHot
import HandS.ExcSuper
import HandS.ExcIs
import HandS.Finally
import HandS.Property
import HandS.ClsMeth
import HandS.OwnEq
import HandS.FStr
import HandS.FStrTup
import HandS.Style
import HandS.Flow
import HandS.TupAny
import HandS.TupLe
import HandS.Wide
import HandS.WideBits
import HandS.Sort
import HandS.Conv
import HandS.Slots
import HandS.SlotsVar
import HandS.AnyAll
import HandS.IsInst
import HandS.Nested
import HandS.Hot
import HandS.HotCalls
import HandS.Head0
import HandS.Head1
import HandS.Head2
import HandS.HeadEnd
import HandS.HeadHook1
import HandS.HeadHook2
import HandS.Defaults
import HandS.Zip0
import HandS.Evl
import HandS.Keys
import HandS.New
import HandS.New0
import HandS.NoneIn
import HandS.RevTup
import HandS.Rev
import HandS.Deep
import HandS.DeepEq
import HandS.SetKeys
import HandS.SetFor
import HandS.Set
import HandS.CallLocal
import HandS.CallSlots
import HandS.CallRecv
import HandS.MapSum
import HandS.Replace
import HandS.Remove
import HandS.RaiseMore
import HandS.SuiteRaise
import HandS.Spec
import HandS.EndTab
import HandS.EndOwn
import KE.KTab
import PyProof.NeKinds
import PySem.Challenge.RW_mixedpicks_k11_rankings
set_option Elab.async false
set_option linter.all false
set_option maxRecDepth 100000
/-! PxD: data, and what the operations give of data (no program in sight). -/
namespace PX
open PySem

/-- data: what a value stands for. glo x: what the module's name x holds (a def, a class); ty: a built-in class; st: the law's state -/
inductive D where
  | non | bl (b : Bool) | int (i : Int) | str (x : Str)
  | tup (xs : List D) | lst (xs : List D) | dct (kvs : List (D × D)) | obj (C : Str) (fs : List (Str × D))
  | glo (x : Str) | ty (n : String) | st
  deriving Inhabited

mutual
/-- data without lists, dicts, objects -/
def D.imm : D → Bool
  | .tup xs => immAll xs
  | .lst _ => false
  | .dct _ => false
  | .obj _ _ => false
  | _ => true
def immAll : List D → Bool
  | [] => true
  | d :: r => d.imm && immAll r
end

mutual
def D.beq : D → D → Bool
  | .non, .non => true
  | .bl a, .bl b => a == b
  | .int a, .int b => decide (a = b)
  | .str a, .str b => decide (a = b)
  | .tup a, .tup b => beqAll a b
  | .lst a, .lst b => beqAll a b
  | .dct a, .dct b => beqKv a b
  | .obj C a, .obj E b => decide (C = E) && beqFs a b
  | .glo a, .glo b => decide (a = b)
  | .ty a, .ty b => decide (a = b)
  | .st, .st => true
  | _, _ => false
def beqAll : List D → List D → Bool
  | [], [] => true
  | a :: r, b :: s => a.beq b && beqAll r s
  | _, _ => false
def beqKv : List (D × D) → List (D × D) → Bool
  | [], [] => true
  | (a, x) :: r, (b, y) :: s => a.beq b && x.beq y && beqKv r s
  | _, _ => false
def beqFs : List (Str × D) → List (Str × D) → Bool
  | [], [] => true
  | (a, x) :: r, (b, y) :: s => decide (a = b) && x.beq y && beqFs r s
  | _, _ => false
end
mutual
theorem beq_iff : ∀ a b : D, a.beq b = true ↔ a = b
  | .non, b => by cases b <;> simp [D.beq]
  | .bl a, b => by cases b <;> simp [D.beq]
  | .int a, b => by cases b <;> simp [D.beq]
  | .str a, b => by cases b <;> simp [D.beq]
  | .tup a, b => by cases b <;> simp [D.beq, beqAll_iff a]
  | .lst a, b => by cases b <;> simp [D.beq, beqAll_iff a]
  | .dct a, b => by cases b <;> simp [D.beq, beqKv_iff a]
  | .obj C a, b => by cases b <;> simp [D.beq, beqFs_iff a]
  | .glo a, b => by cases b <;> simp [D.beq]
  | .ty a, b => by cases b <;> simp [D.beq]
  | .st, b => by cases b <;> simp [D.beq]
theorem beqAll_iff : ∀ a b : List D, beqAll a b = true ↔ a = b
  | [], b => by cases b <;> simp [beqAll]
  | x :: r, b => by
    cases b with
    | nil => simp [beqAll]
    | cons y s => simp [beqAll, beq_iff x, beqAll_iff r]
theorem beqKv_iff : ∀ a b : List (D × D), beqKv a b = true ↔ a = b
  | [], b => by cases b <;> simp [beqKv]
  | (x, z) :: r, b => by
    cases b with
    | nil => simp [beqKv]
    | cons y s => obtain ⟨y, w⟩ := y; simp [beqKv, beq_iff x, beq_iff z, beqKv_iff r, and_assoc]
theorem beqFs_iff : ∀ a b : List (Str × D), beqFs a b = true ↔ a = b
  | [], b => by cases b <;> simp [beqFs]
  | (x, z) :: r, b => by
    cases b with
    | nil => simp [beqFs]
    | cons y s => obtain ⟨y, w⟩ := y; simp [beqFs, beq_iff z, beqFs_iff r, and_assoc]
end
instance : DecidableEq D := fun a b => decidable_of_iff _ (beq_iff a b)

/-! ### operations on data: none where the layer has no rule -/
/-- an owned thing: a list, a dict, an object that only one name holds -/
inductive O where
  | lst (xs : List D) | dct (kvs : List (D × D)) | obj (C : Str) (fs : List (Str × D))
  deriving DecidableEq, Inhabited
def O.d : O → D
  | .lst xs => .lst xs
  | .dct kvs => .dct kvs
  | .obj C fs => .obj C fs
/-- a value that comes: data, or a thing that nobody else holds -/
inductive OV where
  | val (d : D) | own (o : O)
  deriving DecidableEq, Inhabited
def OV.d : OV → D
  | .val d => d
  | .own o => o.d

/-! keys -/
mutual
def D.isKey : D → Bool
  | .int _ => true
  | .str _ => true
  | .tup xs => keyAll xs
  | _ => false
def keyAll : List D → Bool
  | [] => true
  | d :: r => d.isKey && keyAll r
end
mutual
/-- a key of a dict, as the kit tells keys -/
def nk : D → NestedKey
  | .int i => .num i
  | .str x => .text x
  | .tup ds => .tup (nkAll ds)
  | _ => .none
def nkAll : List D → List NestedKey
  | [] => []
  | d :: r => nk d :: nkAll r
end
/-- a key that a dict of tuples takes -/
def tkey (d : D) : Bool := match d with
  | .tup ds => keyAll ds && decide ((nk (.tup ds)).depth ≤ 8)
  | _ => false
/-- all keys tuples -/
def tkeys (kvs : List (D × D)) : Bool := kvs.all fun p => tkey p.1
def dget (kvs : List (D × D)) (k : D) : Option D := (kvs.find? fun p => decide (p.1 = k)).map (·.2)
def dput (kvs : List (D × D)) (k v : D) : List (D × D) :=
  if (kvs.any fun p => decide (p.1 = k)) = true then kvs.map (fun p => if p.1 = k then (p.1, v) else p) else kvs ++ [(k, v)]
def ddrop (kvs : List (D × D)) (k : D) : List (D × D) := kvs.filter fun p => decide (p.1 ≠ k)

/-- ==, to a depth -/
def allM (f : D → D → Option Bool) : List D → List D → Option Bool
  | [], [] => some true
  | a :: r, b :: s => match f a b, allM f r s with
    | some x, some y => some (x && y)
    | _, _ => none
  | _, _ => some false
/-- .. of the part that both have -/
def allZ (f : D → D → Option Bool) : List D → List D → Option Bool
  | a :: r, b :: s => match f a b, allZ f r s with
    | some x, some y => some (x && y)
    | _, _ => none
  | _, _ => some true
def dctM (f : D → D → Option Bool) (other : List (D × D)) : List (D × D) → Option Bool
  | [] => some true
  | (k, v) :: r => match dget other k with
    | none => some false
    | some w => match f v w with
      | some true => dctM f other r
      | o => o
/-- a dict of at most one pair, a text and an integer -/
def smallK : List (D × D) → Bool
  | [] => true
  | [(.str _, .int _)] => true
  | _ => false
def eqD : Nat → D → D → Option Bool
  | 0, _, _ => none
  | n + 1, a, b => match a, b with
    | .lst xs, .lst ys => if xs.length = ys.length then allM (eqD n) xs ys else some false
    | .tup xs, .tup ys => (allZ (eqD n) xs ys).map fun b => b && (xs.length == ys.length)
    | .tup _, .dct _ => some false
    | .dct a, .dct b => if a = b ∧ smallK a = true then some true else none
    | .dct _, _ => none
    | _, .dct _ => none
    | .obj _ _, _ => none
    | _, .obj _ _ => none
    | .glo _, _ => none
    | _, .glo _ => none
    | .ty _, _ => none
    | _, .ty _ => none
    | .st, _ => none
    | _, .st => none
    | .bl a, .int j => some ((if a then 1 else 0) == j)
    | .int i, .bl b => some (i == (if b then 1 else 0))
    | a, b => some (decide (a = b))
def eqv (a b : D) : Option Bool := eqD 60 a b
def neqv : D → D → Option Bool
  | .dct _, _ => none
  | _, .dct _ => none
  | a, b => (eqv a b).map (!·)

/-- < of allInts, texts, tuples: lexicographic -/
def ltD : Nat → D → D → Option Bool
  | 0, _, _ => none
  | n + 1, a, b => match a, b with
    | .int i, .int j => some (decide (i < j))
    | .str x, .str y => some (decide (x.cps.toList < y.cps.toList))
    | _, _ => none

def allInts : List D → Option (List Int)
  | [] => some []
  | .int i :: r => (allInts r).map (i :: ·)
  | _ :: _ => none
def allStrs : List D → Option (List Str)
  | [] => some []
  | .str x :: r => (allStrs r).map (x :: ·)
  | _ :: _ => none
def allBls : List D → Option (List Bool)
  | [] => some []
  | .bl b :: r => (allBls r).map (b :: ·)
  | _ :: _ => none

/-- what a walk over it yields -/
def itemsD : D → Option (List D)
  | .lst xs => some xs
  | .tup xs => some xs
  | .str x => some (x.cps.toList.map fun c => .str ⟨#[c]⟩)
  | .dct kvs => if tkeys kvs = true then some (kvs.map (·.1)) else none
  | _ => none
def truD : D → Option Bool
  | .non => some false
  | .bl b => some b
  | .int i => some (i != 0)
  | .str x => if x.length ≤ sizeLine then some ((x.length : Int) != 0) else none
  | .lst xs => some (!xs.isEmpty)
  | .tup xs => some (!xs.isEmpty)
  | _ => none
def lenD : D → Option Nat
  | .str x => if x.length ≤ sizeLine then some x.length else none
  | .lst xs => some xs.length
  | .tup xs => some xs.length
  | .dct kvs => some kvs.length
  | _ => none

/-- + - * // % ** << -/
def binD (op : Operator) (a b : D) : Option OV := match op, a, b with
  | .Add, .int i, .int j => some (.val (.int (i + j)))
  | .Sub, .int i, .int j => some (.val (.int (i - j)))
  | .Mult, .int i, .int j => if i.natAbs.log2 + j.natAbs.log2 < 1000000 then some (.val (.int (i * j))) else none
  | .FloorDiv, .int i, .int j => if 0 < j ∧ j.natAbs.log2 < 9000 then some (.val (.int (i / j))) else none
  | .Mod, .int i, .int j => if j ≠ 0 then some (.val (.int (i.fmod j))) else none
  | .Pow, .int i, .int j => if 0 ≤ j ∧ j ≤ 1000000 ∧ i.natAbs < 2 ^ 64 then some (.val (.int (i ^ j.toNat))) else none
  | .LShift, .int i, .int j => if 0 ≤ j ∧ j ≤ 1000000 ∧ i.natAbs < 2 ^ 64 then some (.val (.int (i * 2 ^ j.toNat))) else none
  | .Add, .str x, .str y => if x.length + y.length ≤ sizeLine then some (.val (.str (x ++ y))) else none
  | .Add, .tup xs, .tup ys => if xs.length + ys.length ≤ sizeLine then some (.val (.tup (xs ++ ys))) else none
  | .Add, .lst xs, .lst ys => if xs.length + ys.length ≤ sizeLine then some (.own (.lst (xs ++ ys))) else none
  | .Mult, .lst xs, .int k => if -(2 ^ 63) ≤ k ∧ k < 2 ^ 63 ∧ xs.length * k.toNat ≤ sizeLine then some (.own (.lst (List.replicate k.toNat xs).flatten)) else none
  | _, _, _ => none
def inD (x : D) : D → Option Bool
  | .lst xs => go xs
  | .tup xs => go xs
  | .str z => match x with
    | .str ⟨⟨[c]⟩⟩ => some (decide (c ∈ z.cps.toList))
    | _ => none
  | .dct kvs => if (tkeys kvs && tkey x) = true then some (dget kvs x).isSome else none
  | _ => none
where
  go : List D → Option Bool
  | [] => some false
  | y :: r => match eqv y x, go r with
    | some b, some c => some (b || c)
    | _, _ => none
def cmpD (op : CmpOp) (a b : D) : Option Bool := match op with
  | .Eq => eqv a b
  | .NotEq => neqv a b
  | .Lt => ltD 60 a b
  | .Gt => ltD 60 b a
  | .LtE => (ltD 60 b a).map (!·)
  | .GtE => (ltD 60 a b).map (!·)
  | .In => inD a b
  | .NotIn => (inD a b).map (!·)
  | .Is => match b with
    | .non => some (decide (a = .non))
    | .bl c => match a with
      | .bl b => some (decide (b = c))
      | _ => none
    | _ => none
  | .IsNot => match b with
    | .non => some (!decide (a = .non))
    | .bl c => match a with
      | .bl b => some (!decide (b = c))
      | _ => none
    | _ => none

/-- a[i] -/
def getD (a i : D) : Option D := match a, i with
  | .lst xs, .int k => L2.atI xs k
  | .tup xs, .int k => L2.atI xs k
  | .str z, .int k => if z.length ≤ sizeLine then (L2.atI z.cps.toList k).map fun c => .str ⟨#[c]⟩ else none
  | .dct kvs, k => if (tkeys kvs && tkey k) = true then dget kvs k else none
  | _, _ => none
/-- a.get(k, y) -/
def getOr (a k y : D) : Option OV := match a with
  | .dct kvs => if (tkeys kvs && tkey k) = true then some (.val ((dget kvs k).getD y)) else none
  | _ => none
def cutD {α : Type} (xs : List α) (lo hi : Option Int) : List α := (xs.drop (HT.sIx xs.length 0 lo)).take (HT.sIx xs.length xs.length hi - HT.sIx xs.length 0 lo)
def partI : D → Option (Option Int)
  | .int i => some (some i)
  | _ => none
/-- a[lo:hi] -/
def cutOV (a : D) (l h : Option Int) : Option OV := match a with
  | .lst xs => some (.own (.lst (cutD xs l h)))
  | .tup xs => some (.val (.tup (cutD xs l h)))
  | .str z => if z.length ≤ sizeLine then some (.val (.str (L2.cutS z l h))) else none
  | _ => none
/-- a[::-1] -/
def revOV (a : D) : Option OV := match a with
  | .lst xs => some (.own (.lst xs.reverse))
  | .tup xs => some (.val (.tup xs.reverse))
  | .str z => if z.length ≤ sizeLine then some (.val (.str ⟨z.cps.reverse⟩)) else none
  | _ => none
/-- an owned thing changed by o[i] = v -/
def putO (o : O) (i v : D) : Option O := match o, i with
  | .lst xs, .int k => (L2.ixN xs.length k).map fun j => .lst (xs.set j v)
  | .dct kvs, k => if (tkeys kvs && tkey k) = true ∧ kvs.length < sizeLine then some (.dct (dput kvs k v)) else none
  | _, _ => none
/-- .. by a method -/
def mutO (o : O) (m : Str) (args : List D) : Option (O × D) := match o, args with
  | .lst xs, [y] => if m = "append" then (if xs.length < sizeLine then some (.lst (xs ++ [y]), .non) else none)
    else if m = "pop" then (match y with
      | .int i => if -(2 ^ 63) ≤ i ∧ i < 2 ^ 63 then (match L2.ixN xs.length i with
        | some k => (xs[k]?).map fun y => (.lst (xs.eraseIdx k), y)
        | none => none) else none
      | _ => none) else none
  | .lst xs, [] => if m = "pop" then (xs[xs.length - 1]?).map fun y => (.lst xs.dropLast, y)
    else if m = "clear" then some (.lst [], .non) else none
  | .dct kvs, [k] => if m = "pop" ∧ k.isKey then (dget kvs k).map fun v => (.dct (ddrop kvs k), v) else none
  | .dct kvs, [] => if m = "clear" then some (.dct [], .non) else none
  | _, _ => none
def joinD (s : Str) (xs : List D) : Option OV := match allStrs xs with
  | some ys => if (ys.map (·.length)).sum + ys.length * s.length ≤ 16777216 then some (.val (.str (Txt.join s ys))) else none
  | none => none
def joinX (s : Str) : D → Option OV
  | .lst xs => joinD s xs
  | .tup xs => joinD s xs
  | _ => none
def splitX (s : Str) : D → Option OV
  | .str t => if t.length ≠ 0 ∧ s.length + 2 ≤ sizeLine then some (.own (.lst ((Txt.split s t).map D.str))) else none
  | _ => none
/-- a method of a built-in class that changes nothing -/
def metD (a : D) (m : Str) (args : List D) : Option OV := match a, args with
  | .str s, [x] => if m = "join" then joinX s x else if m = "split" then splitX s x else none
  | .dct kvs, [k] => if m = "get" ∧ k.isKey then some (.val ((dget kvs k).getD .non)) else none
  | .dct kvs, [k, x] => if m = "get" ∧ k.isKey then some (.val ((dget kvs k).getD x)) else none
  | _, _ => none
/-- a built-in function or class called -/
def bltD (f : Str) (args : List D) : Option OV :=
  if f = "len" then (match args with
    | [x] => (lenD x).map fun n => .val (.int n)
    | _ => none)
  else if f = "int" then (match args with
    | [.int i] => some (.val (.int i))
    | [.bl b] => some (.val (.int (if b then 1 else 0)))
    | [.str s] => if s.length ≤ 640 then (intText? s).map fun n => .val (.int n) else none
    | _ => none)
  else if f = "str" then (match args with
    | [.int i] => if i.natAbs.log2 < 1920 then some (.val (.str (toString i))) else none
    | [.str s] => some (.val (.str s))
    | _ => none)
  else if f = "abs" then (match args with
    | [.int i] => some (.val (.int (if i < 0 then -i else i)))
    | _ => none)
  else if f = "sum" then (match args with
    | [.lst xs] => (allInts xs).map fun ns => .val (.int ns.sum)
    | _ => none)
  else if f = "all" then (match args with
    | [.lst xs] => (allBls xs).map fun bs => .val (.bl (bs.all id))
    | _ => none)
  else if f = "min" then (match args with
    | [.int i, .int j] => some (.val (.int (if j < i then j else i)))
    | [.lst (x :: xs)] => (allInts (x :: xs)).bind fun ns => ns.min?.map fun n => .val (.int n)
    | _ => none)
  else if f = "max" then (match args with
    | [.int i, .int j] => some (.val (.int (if j > i then j else i)))
    | [.lst (x :: xs)] => (allInts (x :: xs)).bind fun ns => ns.max?.map fun n => .val (.int n)
    | _ => none)
  else if f = "tuple" then (match args with
    | [x] => (itemsT x).map fun xs => .val (.tup xs)
    | _ => none)
  else if f = "list" then (match args with
    | [x] => (itemsT x).map fun xs => .own (.lst xs)
    | _ => none)
  else if f = "dict" then (match args with
    | [.dct kvs] => some (.own (.dct kvs))
    | _ => none)
  else none
where
  itemsT : D → Option (List D)
  | .lst xs => some xs
  | .tup xs => some xs
  | .dct kvs => some (kvs.map (·.1))
  | _ => none
/-! sorted -/
mutual
/-- data as it is compared; what can't be is told as a dict -/
def encD : D → PyData
  | .non => .none
  | .bl b => .bool b
  | .int i => .int i
  | .str x => .str x
  | .tup xs => .tuple (encAll xs)
  | _ => .dict []
def encAll : List D → List PyData
  | [] => []
  | d :: r => encD d :: encAll r
end
def tupB1 : PyData → Bool
  | .tuple (_ :: _) => true
  | _ => false
def othB1 : PyData → Bool
  | .none => false
  | .tuple _ => false
  | _ => true
def sortOk (xs : List PyData) : Bool := (xs.all fun a => xs.all fun b => PySem.W.alike a b) && (xs.all tupB1 || xs.all othB1) && (xs.all fun d => decide (d.depth ≤ 40)) && decide (xs.length ≤ sizeLine)
/-- the order of sorted -/
def leE : D → D → Bool := PySem.W.dataLe false encD
def sortX (xs : List D) : Option OV := if sortOk (xs.map encD) = true then some (.own (.lst (xs.mergeSort leE))) else none
/-- sorted by keys -/
def sortKX (ks xs : List D) : Option OV := if sortOk (ks.map encD) = true then some (.own (.lst (((ks.zip xs).mergeSort (PySem.W.dataLe false fun p => encD p.1)).map (·.2)))) else none
/-- built-in functions and classes of one operand -/
inductive B1 where
  | int | str | tuple | list | all | abs | sum | sorted
  deriving DecidableEq
def b1D : B1 → D → Option OV
  | .int, .int i => some (.val (.int i))
  | .int, .bl b => some (.val (.int (if b then 1 else 0)))
  | .str, .int i => if i.natAbs.log2 < 1920 then some (.val (.str (toString i))) else none
  | .str, .str x => some (.val (.str x))
  | .tuple, .lst xs => some (.val (.tup xs))
  | .tuple, .tup xs => some (.val (.tup xs))
  | .list, .lst xs => some (.own (.lst xs))
  | .list, .tup xs => some (.own (.lst xs))
  | .all, .lst xs => (allBls xs).map fun bs => .val (.bl (bs.all id))
  | .abs, .int i => some (.val (.int (if i < 0 then -i else i)))
  | .sum, .lst xs => (allInts xs).map fun ns => .val (.int ns.sum)
  | .sorted, .lst xs => sortX xs
  | .sorted, .tup xs => sortX xs
  | _, _ => none
end PX

set_option Elab.async false
set_option linter.all false
set_option maxRecDepth 100000
/-! PxEv: the pure evaluator. -/
namespace PX
open PySem

/-- what a slot holds -/
inductive Ent where
  | none | val (d : D) | own (o : O) | exc (C : D) (fs : List (Str × D))
  deriving DecidableEq, Inhabited
abbrev En := List Ent
/-- the law's state: a list of ints and lists of ints -/
abbrev Stm := List (Sum Int (List Int))
inductive Out (α : Type) where
  | ok (a : α) (en : En) (S : Stm) | err (C : D) (fs : List (Str × D)) (en : En) (S : Stm) | bad
/-- a call's end -/
inductive CO where
  | ok (r : OV) (S : Stm) | err (C : D) (fs : List (Str × D)) (S : Stm) | bad
/-- a statement's end -/
inductive SO where
  | nx (en : En) (S : Stm) | ret (r : OV) (en : En) (S : Stm) | bk (en : En) (S : Stm) | ct (en : En) (S : Stm)
  | err (C : D) (fs : List (Str × D)) (en : En) (S : Stm) | bad

def Out.bind {α β : Type} (m : Out α) (f : α → En → Stm → Out β) : Out β := match m with
  | .ok a en S => f a en S
  | .err C fs en S => .err C fs en S
  | .bad => .bad
def Out.toS {α : Type} (m : Out α) (f : α → En → Stm → SO) : SO := match m with
  | .ok a en S => f a en S
  | .err C fs en S => .err C fs en S
  | .bad => .bad
def lift {α : Type} (o : Option α) (en : En) (S : Stm) : Out α := match o with
  | some a => .ok a en S
  | none => .bad

/-! ### the text, as data -/
inductive GK where
  | fn | cls | ci (i : Int) | cs (x : Str)
  deriving DecidableEq
inductive MK where
  | meth | prop | clsm
  deriving DecidableEq
abbrev Fid := Str × Option Str
structure DefI where
  N : List Str
  ps : List Str
  sc : Scope
  body : List Stmt
  /-- what it lets out may have a context -/
  weak : Bool
structure Tb where
  glob : List (Str × GK)
  free : List Str
  meth : List ((Str × Str) × MK)
  /-- own exception classes: fields; the classes above it among these -/
  excs : List (Str × List Str)
  sub : List (Str × Str)
  defs : List (Fid × DefI)
  prim : List (Fid × (List D → Stm → CO))
structure EC where
  T : Tb
  call : Fid → List D → Stm → CO
  make : Str → List D → Stm → CO
  wf : Nat
  N : List Str
  sc : Scope
  /-- names whose cells are made at the entry -/
  fn : Str → Bool
  hot : Bool
  /-- what is let out has no context -/
  nn : Bool

/-! ### names, looked up -/
def isN (x : Str) (s : String) : Bool := decide (x = Str.ofString s)
def lkG : List (Str × GK) → Str → Option GK
  | [], _ => none
  | (y, g) :: r, x => if x = y then some g else lkG r x
def lkM : List ((Str × Str) × MK) → Str → Str → Option MK
  | [], _, _ => none
  | ((y, m), g) :: r, x, n => if x = y ∧ n = m then some g else lkM r x n
def lkF {α : Type} : List (Fid × α) → Fid → Option α
  | [], _ => none
  | ((y, m), g) :: r, x => if x.1 = y ∧ x.2 = m then some g else lkF r x
def lkS {α : Type} : List (Str × α) → Str → Option α
  | [], _ => none
  | (y, g) :: r, x => if x = y then some g else lkS r x
def EC.isM (c : EC) (C : Str) (m : Str) (k : MK) : Bool := match lkM c.T.meth C m with
  | some g => decide (g = k)
  | none => false
def EC.isMs (c : EC) (C : Str) (m : String) (k : MK) : Bool := c.isM C (Str.ofString m) k
/-- the built-ins that are called -/
inductive BK where
  | isinstance | sorted | set | str | len | sum | list | range | zip | enumerate | int | abs | all | min | max | tuple | dict | other
  deriving DecidableEq
def bkTab : List (Str × BK) := [(Str.ofString "isinstance", .isinstance), (Str.ofString "sorted", .sorted), (Str.ofString "set", .set), (Str.ofString "str", .str), (Str.ofString "len", .len),
  (Str.ofString "sum", .sum), (Str.ofString "list", .list), (Str.ofString "range", .range), (Str.ofString "zip", .zip), (Str.ofString "enumerate", .enumerate), (Str.ofString "int", .int),
  (Str.ofString "abs", .abs), (Str.ofString "all", .all), (Str.ofString "min", .min), (Str.ofString "max", .max), (Str.ofString "tuple", .tuple), (Str.ofString "dict", .dict)]
def bk (f : Str) : BK := (lkS bkTab f).getD .other

/-! ### slots -/
def ix (N : List Str) (x : Str) : Option Nat := N.idxOf? x
/-- the slot that a name of the frame means here -/
def EC.slot (c : EC) (x : Str) : Option Nat := match c.sc.names.lookup x with
  | some .local => ix c.N x
  | some .cell => ix c.N x
  | some .free => ix c.N x
  | _ => none
def EC.gl (c : EC) (x : Str) : Bool := match c.sc.names.lookup x with
  | some .globalImplicit => true
  | _ => false
/-- a built-in's name that nobody has bound -/
def EC.blt (c : EC) (x : Str) : Bool := c.gl x && decide (x ∈ c.T.free)
/-- the slot that a name stores to -/
def EC.stSlot (c : EC) (x : Str) : Option Nat := match c.sc.names.lookup x with
  | some .local => ix c.N x
  | some .cell => if c.fn x = true then ix c.N x else none
  | _ => none
/-- a name that the module does not bind and the frame neither: a built-in's -/
def frz (en : En) (i : Nat) : En := match en[i]? with
  | some (.own o) => en.set i (.val o.d)
  | _ => en
def frzAll (en : En) : List Nat → En
  | [] => en
  | i :: r => frzAll (frz en i) r
/-- an operand: data, or the thing that a slot holds -/
inductive Opd where
  | dat (d : D) | slot (i : Nat)
def entD : Ent → Option D
  | .val d => some d
  | .own o => some o.d
  | _ => none
def Opd.get (en : En) : Opd → Option D
  | .dat d => some d
  | .slot i => (en[i]?).bind entD
def getAll (en : En) : List Opd → Option (List D)
  | [] => some []
  | o :: r => match o.get en, getAll en r with
    | some d, some ds => some (d :: ds)
    | _, _ => none
def lent : List Opd → List Nat
  | [] => []
  | .dat _ :: r => lent r
  | .slot i :: r => i :: lent r
/-- behind a call: what was lent comes back, if what is handed back can't hold it -/
def callEnd (r : CO) (en : En) (os : List Opd) : Out OV := match r with
  | .ok r S => if r.d.imm = true then .ok r en S else .ok r (frzAll en (lent os)) S
  | .err C fs S => .err C fs (frzAll en (lent os)) S
  | .bad => .bad

def tyNames : List Str := ["int", "str", "bool", "tuple", "list", "dict"]
def evName (c : EC) (x : Str) (en : En) (S : Stm) : Out OV := match c.slot x with
  | some i => match en[i]? with
    | some (.val d) => .ok (.val d) en S
    | some (.own o) => .ok (.val o.d) (frz en i) S
    | _ => .bad
  | none => if c.gl x = true then (match lkG c.T.glob x with
      | some (.ci i) => .ok (.val (.int i)) en S
      | some (.cs s) => .ok (.val (.str s)) en S
      | some _ => .ok (.val (.glo x)) en S
      | none => .bad) else .bad
/-- a name as an operand: an owned thing is not handed on -/
def opName (c : EC) (x : Str) (en : En) : Option Nat := match c.slot x with
  | some i => match en[i]? with
    | some (.own _) => some i
    | _ => none
  | none => none

def constD : Const → Option D
  | .none => some .non
  | .bool b => some (.bl b)
  | .int i => some (.int i)
  | .str x => some (.str x)
  | _ => none

/-- the names of the keywords fit -/
def kwOk (ps : List Str) (k : Nat) : List Str → Bool
  | [] => true
  | x :: r => decide (x ∈ ps) && decide (x ∉ ps.take k) && decide (x ∉ r) && kwOk ps k r
def slotsOfCall {α : Type} (ps : List Str) (us : List α) (kws : List (Str × α)) : List (Str × α) := ps.zip us ++ kws
/-- the values in the parameters' order -/
def bindB {α : Type} (ps : List Str) (us : List α) (kws : List (Str × α)) : List α := ps.filterMap fun x => (slotsOfCall ps us kws).lookup x
/-- the parameters in order: positional, then by name -/
def bindA {α : Type} (ps : List Str) (us : List α) (kws : List (Str × α)) : Option (List α) :=
  if us.length ≤ ps.length ∧ kwOk ps us.length (kws.map (·.1)) = true ∧ (ps.all fun x => ((slotsOfCall ps us kws).lookup x).isSome) = true then some (bindB ps us kws) else none
def isStar : Expr → Bool
  | .Starred _ _ => true
  | _ => false
def noStar (es : List Expr) : Bool := es.all fun e => !isStar e
def named (kws : List Keyword) : Bool := kws.all fun k => k.arg.isSome
def isSubOf (T : Tb) (C : D) (x : Str) : Bool := match C with
  | .glo y => decide (y = x) || decide ((y, x) ∈ T.sub)
  | _ => false
def tyN : D → Option String
  | .non => some "NoneType"
  | .bl _ => some "bool"
  | .int _ => some "int"
  | .str _ => some "str"
  | .lst _ => some "list"
  | .tup _ => some "tuple"
  | _ => none
/-- a built-in class among these -/
def isTyp0 (d : D) (x : Str) : Option Bool :=
  if isN x "int" then some (match d with | .int _ => true | .bl _ => true | _ => false)
  else if isN x "bool" then some (match d with | .bl _ => true | _ => false)
  else if isN x "str" then some (match d with | .str _ => true | _ => false)
  else if isN x "tuple" then some (match d with | .tup _ => true | _ => false)
  else if isN x "list" then some (match d with | .lst _ => true | _ => false)
  else if isN x "dict" then some (match d with | .dct _ => true | _ => false)
  else none
def isDct : D → Bool
  | .dct _ => true
  | _ => false
def isTyp (d : D) (x : Str) : Option Bool := if ((tyN d).isSome || isDct d) = true then isTyp0 d x else none
def zip3 : List D → List D → List D → List D
  | a :: r, b :: s, c :: t => .tup [a, b, c] :: zip3 r s t
  | _, _, _ => []
def wipeE (en : En) : List Nat → En
  | [] => en
  | i :: r => (wipeE en r).set i .none
/-- the slots of a comprehension's own names as they stood -/
def restore (old en : En) : List Nat → En
  | [] => en
  | i :: r => (restore old en r).set i ((old[i]?).getD .none)
def ownSlots (N : List Str) (sc : Scope) : List (Str × Nat) := sc.names.filterMap fun y => match y.2 with
  | .local => (ix N y.1).map fun i => (y.1, i)
  | .cell => (ix N y.1).map fun i => (y.1, i)
  | _ => none
/-- an exception of the inside does not leave a comprehension -/
def Out.calm {α : Type} (m : Out α) : Out α := match m with
  | .err _ _ _ _ => .bad
  | o => o

/-! ### one level -/
def asName : Expr → Option Str
  | .Name x _ => some x
  | _ => none
def zipD : List (List D) → Option (List D)
  | [xs, ys] => some ((xs.zip ys).map fun p => .tup [p.1, p.2])
  | [xs, ys, zs] => some (zip3 xs ys zs)
  | _ => none
def allItems : List D → Option (List (List D))
  | [] => some []
  | d :: r => match itemsD d, allItems r with
    | some x, some y => some (x :: y)
    | _, _ => none
def rangeD : List D → Option (List D)
  | [.int j] => if -(2 ^ 62) ≤ j ∧ j < 2 ^ 62 then some ((List.range j.toNat).map fun k => .int (0 + (k : Nat))) else none
  | [.int i, .int j] => if (-(2 ^ 62) ≤ i ∧ i < 2 ^ 62) ∧ -(2 ^ 62) ≤ j ∧ j < 2 ^ 62 then some ((List.range (j - i).toNat).map fun k => .int (i + (k : Nat))) else none
  | _ => none
def enumD : List D → Option (List D)
  | [a] => (itemsD a).map fun xs => xs.zipIdx.map fun p => .tup [.int (p.2 : Nat), p.1]
  | _ => none
def setF (fs : List (Str × D)) (f : Str) (d : D) : List (Str × D) := match fs with
  | [] => [(f, d)]
  | (g, x) :: r => if g = f then (g, d) :: r else (g, x) :: setF r f d
def joinP (out : Str) : List D → Option Str
  | [] => some out
  | .str x :: r => if out.length + x.length ≤ sizeLine then joinP (out ++ x) r else none
  | _ :: _ => none
def sortD (le : D → D → Bool) (xs : List D) : List D := xs.mergeSort le
def leD (a b : D) : Bool := match ltD 60 b a with
  | some b => !b
  | none => true
/-- all of one kind -/
def sortable (xs : List D) : Bool := xs.all fun a => xs.all fun b => (ltD 60 a b).isSome
def firstOf : List Str → List Str → List Str
  | [], acc => acc
  | x :: r, acc => firstOf r (if x ∈ acc then acc else acc ++ [x])
/-- the keys that a def gives: the state stays -/
def keysOf (call : List D → Stm → CO) (S : Stm) : List D → Option (List D)
  | [] => some []
  | x :: r => match call [x] S with
    | .ok (.val k) S' => if S' = S then (keysOf call S r).map (k :: ·) else none
    | _ => none
def isMut (m : Str) : Bool := isN m "append" || isN m "pop" || isN m "clear"
def ofPairs : List D → List (D × D) → List (D × D)
  | .tup [a, b] :: r, kvs => ofPairs r (dput kvs a b)
  | _, kvs => kvs
section
variable (ev : EC → Expr → En → Stm → Out OV)
def evV (c : EC) (e : Expr) (en : En) (S : Stm) : Out D := (ev c e en S).bind fun r en S => .ok r.d en S
def evB (c : EC) (e : Expr) (en : En) (S : Stm) : Out Opd := match (asName e).bind fun x => opName c x en with
  | some i => .ok (.slot i) en S
  | none => (evV ev c e en S).bind fun d en S => .ok (.dat d) en S
def evBs (c : EC) : List Expr → En → Stm → Out (List Opd)
  | [], en, S => .ok [] en S
  | e :: r, en, S => (evB ev c e en S).bind fun o en S => (evBs c r en S).bind fun os en S => .ok (o :: os) en S
/-- the items of a display (a star among them), each as it is -/
def evVs (c : EC) : List Expr → En → Stm → Out (List D)
  | [], en, S => .ok [] en S
  | e :: r, en, S => match e with
    | .Starred _ _ => .bad
    | _ => (evV ev c e en S).bind fun d en S => (evVs c r en S).bind fun ds en S => .ok (d :: ds) en S
def evKs (c : EC) : List Keyword → En → Stm → Out (List (Str × Opd))
  | [], en, S => .ok [] en S
  | k :: r, en, S => match k.arg with
    | some x => (evB ev c k.value en S).bind fun o en S => (evKs c r en S).bind fun os en S => .ok ((x, o) :: os) en S
    | none => .bad
def resolve (o : Opd) (en : En) (S : Stm) : Out D := lift (o.get en) en S
/-- an operand's data -/
def evD (c : EC) (e : Expr) (en : En) (S : Stm) : Out D := (evB ev c e en S).bind resolve
def ev2 (c : EC) (a b : Expr) (en : En) (S : Stm) : Out (D × D) :=
  (evB ev c a en S).bind fun x en S => (evB ev c b en S).bind fun y en S => (resolve x en S).bind fun d en S => (resolve y en S).bind fun e en S => .ok (d, e) en S
/-- a def called: first and os are the positional operands -/
def callFn (c : EC) (f : Fid) (first : List D) (os : List Opd) (ks : List (Str × Opd)) (en : En) (S : Stm) : Out OV :=
  match lkF c.T.defs f, getAll en os, getAll en (ks.map (·.2)) with
  | some d, some ds, some es => match bindA d.ps (first ++ ds) ((ks.map (·.1)).zip es) with
    | some as => if c.hot = false ∧ (c.nn = true → d.weak = false) then callEnd (c.call f as S) en (os ++ ks.map (·.2)) else .bad
    | none => .bad
  | _, _, _ => .bad
def makeC (c : EC) (C : Str) (os : List Opd) (ks : List (Str × Opd)) (en : En) (S : Stm) : Out OV :=
  match lkF c.T.defs (C, some (Str.ofString "__init__")), getAll en os, getAll en (ks.map (·.2)) with
  | some d, some ds, some es => match bindA (d.ps.drop 1) ds ((ks.map (·.1)).zip es) with
    | some as => if c.hot = false then callEnd (c.make C as S) en (os ++ ks.map (·.2)) else .bad
    | none => .bad
  | _, _, _ => .bad
/-- the operands of a call, then the call -/
def withArgs (c : EC) (args : List Expr) (kws : List Keyword) (en : En) (S : Stm) (k : List Opd → List (Str × Opd) → En → Stm → Out OV) : Out OV :=
  if noStar args = true ∧ named kws = true then (evBs ev c args en S).bind fun os en S => (evKs ev c kws en S).bind fun ks en S => k os ks en S else .bad
/-- a special method of an object -/
def special (c : EC) (C : Str) (m : String) (os : List Opd) (en : En) (S : Stm) : Out OV :=
  if c.isMs C m .meth = true then callFn c (C, some (Str.ofString m)) [] os [] en S else .bad
def evBin (c : EC) (a : Expr) (op : Operator) (b : Expr) (en : En) (S : Stm) : Out OV := (ev2 ev c a b en S).bind fun p en S => lift (binD op p.1 p.2) en S
def evCmp (c : EC) (a : Expr) (op : CmpOp) (b : Expr) (en : En) (S : Stm) : Out OV := if behindInMarks op b = true then .bad else (ev2 ev c a b en S).bind fun p en S => (lift (cmpD op p.1 p.2) en S).bind fun b en S => .ok (.val (.bl b)) en S
def evChain (c : EC) (a : Expr) (op : CmpOp) (b : Expr) (op' : CmpOp) (d : Expr) (en : En) (S : Stm) : Out OV := if lastMarks [op, op'] [b, d] = true then .bad else (ev2 ev c a b en S).bind fun p en S =>
  (lift (cmpD op p.1 p.2) en S).bind fun k en S =>
    if k = true then (if p.2.imm = true then (evD ev c d en S).bind fun z en S => (lift (cmpD op' p.2 z) en S).bind fun k en S => .ok (.val (.bl k)) en S else .bad) else .ok (.val (.bl false)) en S
def cmpE (c : EC) (a : Expr) (ops : List CmpOp) (bs : List Expr) (en : En) (S : Stm) : Out OV := match ops, bs with
  | [op], [b] => evCmp ev c a op b en S
  | [op, op'], [b, d] => evChain ev c a op b op' d en S
  | _, _ => .bad
/-- and, or of tests -/
def testsF (f : Expr → En → Stm → Out Bool) (op : BoolOp) : List Expr → En → Stm → Out Bool
  | [], _, _ => .bad
  | e :: r, en, S => (f e en S).bind fun b en S => if r.isEmpty = true then .ok b en S else (match op, b with
    | .And, true => testsF f op r en S
    | .Or, false => testsF f op r en S
    | _, _ => .ok b en S)
/-- truth of an expression -/
def evT : Nat → EC → Expr → En → Stm → Out Bool
  | 0, _, _, _, _ => .bad
  | n + 1, c, e, en, S => match e with
    | .UnaryOp .Not x _ => (evT n c x en S).bind fun b en S => .ok (!b) en S
    | .BoolOp op es _ => testsF (evT n c) op es en S
    | .IfExp _ _ _ _ => .bad
    | .Compare a ops bs _ => (cmpE ev c a ops bs en S).bind fun r en S => match r with
      | .val (.bl b) => .ok b en S
      | _ => .bad
    | _ => (evD ev c e en S).bind fun d en S => lift (truD d) en S
/-- what a for walks: (a tuple is told for each turn, the items) -/
def evPlain (c : EC) (e : Expr) (en : En) (S : Stm) : Out (List D) := (evV ev c e en S).bind fun d en S => lift (itemsD d) en S
def iterKind (c : EC) (e : Expr) : BK × List Expr := match e with
  | .Call (.Name f _) args [] _ => if c.blt f = true ∧ (c.slot f).isNone = true ∧ noStar args = true then (bk f, args) else (.other, [])
  | .Call (.Attribute o m _) [] [] _ => if isN m "items" then (.set, [o]) else (.other, [])
  | _ => (.other, [])
def evItems (c : EC) (e : Expr) (en : En) (S : Stm) : Out (List D) := match iterKind c e with
  | (.range, args) => if args.length ≤ 2 then (evVs ev c args en S).bind fun ds en S => lift (rangeD ds) en S else .bad
  | (.zip, _) => .bad
  | (.enumerate, _) => .bad
  | (.set, _) => .bad
  | _ => evPlain ev c e en S
/-- o[i] = d at an owned thing of slot j -/
def storeAt (j : Nat) (k d : D) (en : En) (S : Stm) : Out Unit := match (en[j]? : Option Ent) with
  | some (.own o) => match putO o k d with
    | some o' => .ok () (en.set j (.own o')) S
    | none => .bad
  | _ => .bad
def storeL (j : Nat) (k d : D) (en : En) (S : Stm) : Out Unit := match (en[j]? : Option Ent) with
  | some (.own (.lst xs)) => match putO (.lst xs) k d with
    | some o' => .ok () (en.set j (.own o')) S
    | none => .bad
  | _ => .bad
def storeK (j : Nat) (k d : D) (en : En) (S : Stm) : Out Unit := match (en[j]? : Option Ent) with
  | some (.own (.dct xs)) => match putO (.dct xs) k d with
    | some o' => .ok () (en.set j (.own o')) S
    | none => .bad
  | _ => .bad
def storeF (j : Nat) (f : Str) (d : D) (en : En) (S : Stm) : Out Unit := match (en[j]? : Option Ent) with
  | some (.own (.obj C fs)) => if fs.length < 900 then .ok () (en.set j (.own (.obj C (setF fs f d)))) S else .bad
  | _ => .bad
/-- data stored at names, one after another -/
def manyF (f : Expr → D → En → Option En) : List Expr → List D → En → Option En
  | [], [], en => some en
  | t :: ts, d :: ds, en => (f t d en).bind fun en => manyF f ts ds en
  | _, _, _ => none
def asgN : Nat → EC → Expr → D → En → Option En
  | 0, _, _, _, _ => none
  | n + 1, c, t, d, en => match t with
    | .Name x _ => (c.stSlot x).map fun i => en.set i (.val d)
    | .Tuple ts _ _ => (match d with
      | .tup ds => if ts.length = ds.length ∧ noStar ts = true ∧ c.hot = false then manyF (asgN n c) ts ds en else none
      | _ => none)
    | _ => none
/-- the slots of a target's names -/
def allF (f : Expr → List Nat) : List Expr → List Nat
  | [] => []
  | t :: r => f t ++ allF f r
def tgSlots : Nat → EC → Expr → List Nat
  | 0, _, _ => []
  | n + 1, c, t => match t with
    | .Name x _ => (match c.stSlot x with
      | some i => [i]
      | none => [])
    | .Tuple ts _ _ => allF (tgSlots n c) ts
    | _ => []
def isSl : Expr → Bool
  | .Slice _ _ _ _ => true
  | _ => false
/-- data stored at a target -/
def asg (c : EC) (t : Expr) (d : D) (en : En) (S : Stm) : Out Unit := match t with
  | .Subscript o i _ => if isSl i = true then .bad else (match (asName o).bind fun x => opName c x en with
    | some j => (match (en[j]? : Option Ent) with
      | some (.own (.lst _)) => (evD ev c i en S).bind fun k en S => storeL j k d en S
      | some (.own (.dct _)) => (evD ev c i en S).bind fun k en S => storeK j k d en S
      | _ => .bad)
    | none => .bad)
  | t => (match asgN 8 c t d en with
    | some en => .ok () en S
    | none => .bad)
/-- a clause's tests -/
def evIfs (n : Nat) (c : EC) : List Expr → En → Stm → Out Bool
  | [], en, S => .ok true en S
  | e :: r, en, S => if r.isEmpty = true then evT ev n c e en S else .bad
/-- the turns of a comprehension's clause over the items; vs: the slots of the block's own names -/
def turns (n : Nat) (c : EC) (vs : List Nat) (tg : Expr) (ifs : List Expr) (elt : List D → En → Stm → Out (List D)) : List D → List D → En → Stm → Out (List D)
  | [], acc, en, S => .ok acc en S
  | d :: r, acc, en, S => (match asgN 8 c tg d (wipeE en vs) with
    | some en => (evIfs ev n c ifs en S).bind fun b en S => if b = true then (elt acc en S).bind fun acc en S => turns n c vs tg ifs elt r acc en S else turns n c vs tg ifs elt r acc en S
    | none => .bad)
/-- the frame of a comprehension's block -/
def EC.blk (c : EC) (sc : Scope) : EC := { c with sc := L2.relS sc c.sc, fn := fun x => sc.names.lookup x == some .cell }
/-- the slots that a block hides hold nothing of their own -/
def noOwn (en : En) (vs : List Nat) : Bool := vs.all fun i => match (en[i]? : Option Ent) with
  | some (.own _) => false
  | some (.exc _ _) => false
  | _ => true
def isSet : Expr → Bool
  | .Set _ _ _ => true
  | _ => false
/-- one clause's block -/
def compr1 (n : Nat) (c : EC) (sc : Scope) (g : Comprehension) (elt : EC → List D → En → Stm → Out (List D)) (en : En) (S : Stm) : Out (List D) := (evItems ev c g.iter en S).bind fun xs en S =>
  if noOwn en ((ownSlots c.N sc).map (·.2)) = true then
    ((turns ev n (c.blk sc) ((ownSlots c.N sc).map (·.2)) g.target g.ifs (elt (c.blk sc)) xs [] en S).calm).bind fun ys en' S => .ok ys (restore en en' ((ownSlots c.N sc).map (·.2))) S
  else .bad
def compr2 (n : Nat) (c : EC) (sc : Scope) (g g1 : Comprehension) (elt : EC → List D → En → Stm → Out (List D)) (en : En) (S : Stm) : Out (List D) := (evItems ev c g.iter en S).bind fun xs en S =>
  if noOwn en ((ownSlots c.N sc).map (·.2)) = true then
    ((turns ev n (c.blk sc) ((ownSlots c.N sc).map (·.2)) g.target g.ifs (fun acc en S => (evItems ev (c.blk sc) g1.iter en S).bind fun ys en S =>
        turns ev n (c.blk sc) (tgSlots 8 (c.blk sc) g1.target) g1.target g1.ifs (elt (c.blk sc)) ys acc en S) xs [] en S).calm).bind fun ys en' S => .ok ys (restore en en' ((ownSlots c.N sc).map (·.2))) S
  else .bad
/-- a comprehension: the items of its clauses, in order -/
def compr (n : Nat) (c : EC) (sc : Scope) (gs : List Comprehension) (elt : EC → List D → En → Stm → Out (List D)) (en : En) (S : Stm) : Out (List D) :=
  if L2.blkC c.N c.sc sc (ownSlots c.N sc) = true ∧ c.hot = false then (match gs with
    | [g] => if g.is_async = 0 ∧ isSet g.iter = false ∧ (tgSlots 8 (c.blk sc) g.target).all (fun i => ((ownSlots c.N sc).map (·.2)).contains i) = true then compr1 ev n c sc g elt en S else .bad
    | [g, g1] => if (g.is_async = 0 ∧ g1.is_async = 0) ∧ (isSet g.iter = false ∧ isSet g1.iter = false) ∧ (tgSlots 8 (c.blk sc) g.target).all (fun i => ((ownSlots c.N sc).map (·.2)).contains i) = true ∧
        (tgSlots 8 (c.blk sc) g1.target).all (fun i => ((ownSlots c.N sc).map (·.2)).contains i) = true then compr2 ev n c sc g g1 elt en S else .bad
    | _ => .bad)
  else .bad
def getC (c : EC) (x y : Opd) (en : En) (S : Stm) : Out OV := (resolve x en S).bind fun d en S => (resolve y en S).bind fun k en S => (lift (getD d k) en S).bind fun r en S => .ok (.val r) en S
def evPart (c : EC) : Option Expr → En → Stm → Out (Option Int)
  | none, en, S => .ok none en S
  | some e, en, S => (evV ev c e en S).bind fun d en S => lift (partI d) en S
/-- a[lo:hi] -/
def evCut (c : EC) (a : Expr) (lo hi : Option Expr) (en : En) (S : Stm) : Out OV := (evB ev c a en S).bind fun x en S => (evPart ev c lo en S).bind fun l en S => (evPart ev c hi en S).bind fun h en S =>
  (resolve x en S).bind fun d en S => lift (cutOV d l h) en S
def evRev (c : EC) (a : Expr) (en : En) (S : Stm) : Out OV := (evD ev c a en S).bind fun d en S => lift (revOV d) en S
def evIx (c : EC) (a i : Expr) (en : En) (S : Stm) : Out OV := (evB ev c a en S).bind fun x en S => (evB ev c i en S).bind fun y en S => getC c x y en S
/-- str(d) of an object by its __str__ -/
def strOf (c : EC) (o : Opd) (en : En) (S : Stm) : Out OV := (resolve o en S).bind fun d en S => match d with
  | .obj C _ => special c C "__str__" [o] en S
  | d => lift (bltD (Str.ofString "str") [d]) en S
def evFs (c : EC) : List Expr → En → Stm → Out (List D)
  | [], en, S => .ok [] en S
  | e :: r, en, S => match e with
    | .Constant (.str x) _ _ => (evFs c r en S).bind fun ds en S => .ok (.str x :: ds) en S
    | .FormattedValue e' (-1) none _ => (evB ev c e' en S).bind fun o en S => (strOf c o en S).bind fun v en S => (evFs c r en S).bind fun ds en S => .ok (v.d :: ds) en S
    | _ => .bad
def attrC (c : EC) (o : Opd) (f : Str) (en : En) (S : Stm) : Out OV := (resolve o en S).bind fun d en S => match d with
  | .obj C fs => match lkS fs f with
    | some d => .ok (.val d) en S
    | none => if c.isM C f .prop = true then callFn c (C, some f) [] [o] [] en S else .bad
  | _ => .bad
/-- the exception that a name holds -/
def excAt (c : EC) (e : Expr) (en : En) : Option (D × List (Str × D)) := match ((asName e).bind c.slot).bind fun i => (en[i]? : Option Ent) with
  | some (.exc C fs) => some (C, fs)
  | _ => none
def boolV (c : EC) (op : BoolOp) : List Expr → En → Stm → Out OV
  | [], _, _ => .bad
  | e :: r, en, S => if r.isEmpty = true then ev c e en S else (evV ev c e en S).bind fun d en S => match op, d with
    | .And, .bl true => boolV c op r en S
    | .Or, .bl false => boolV c op r en S
    | _, .bl b => .ok (.val (.bl b)) en S
    | _, _ => .bad
def dictE (c : EC) : List (Option Expr) → List Expr → List (D × D) → En → Stm → Out OV
  | [], [], kvs, en, S => .ok (.own (.dct kvs)) en S
  | some k :: ks, v :: vs, kvs, en, S => (evV ev c k en S).bind fun a en S => (evV ev c v en S).bind fun b en S =>
      if a.isKey = true ∧ kvs.length < 15 then dictE c ks vs (dput kvs a b) en S else .bad
  | _, _, _, _, _ => .bad
/-- the def that key= names -/
def keyFn (c : EC) (k : Keyword) : Option Str := match k.arg, k.value with
  | some x, .Name g _ => if isN x "key" = true ∧ (c.slot g).isNone = true ∧ c.gl g = true then (match lkF c.T.defs (g, none) with
    | some D => if D.ps.length = 1 ∧ (lkG c.T.glob g).isSome = true then some g else none
    | none => none) else none
  | _, _ => none
def sortedK (c : EC) (e : Expr) (g : Str) (en : En) (S : Stm) : Out OV := (evD ev c e en S).bind fun d en S => match d with
  | .lst xs => (match keysOf (c.call (g, none)) S xs with
    | some ks => lift (sortKX ks xs) en S
    | none => .bad)
  | _ => .bad
def bltK (c : EC) (f : Str) (e : Expr) (k : Keyword) (en : En) (S : Stm) : Out OV := match bk f with
  | .sorted => (match keyFn c k with
    | some g => if c.hot = false then sortedK ev c e g en S else .bad
    | none => .bad)
  | _ => .bad
def sortedS (c : EC) (e : Expr) (en : En) (S : Stm) : Out OV := (evD ev c e en S).bind fun d en S => (lift ((itemsD d).bind allStrs) en S).bind fun xs en S =>
  .ok (.own (.lst (sortD leD ((firstOf xs []).map D.str)))) en S
/-- the argument of sorted(set(e)) -/
def asSet (c : EC) (e : Expr) : Option Expr := match iterKind c e with
  | (.set, [x]) => match e with
    | .Call (.Name _ _) _ _ _ => some x
    | _ => none
  | _ => none
/-- the receiver of sum(e.values()) -/
def asValues (e : Expr) : Option Expr := match e with
  | .Call (.Attribute o m _) [] [] _ => if isN m "values" then some o else none
  | _ => none
def isinst (c : EC) (e t : Expr) (en : En) (S : Stm) : Out OV := match asName t with
  | none => .bad
  | some t => if (c.slot t).isNone = true then (if ((lkS c.T.excs t).isSome && c.gl t) = true then (match excAt c e en with
    | some (.glo C, _) => if (lkS c.T.excs C).isSome = true ∧ isSubOf c.T (.glo C) t = true then .ok (.val (.bl true)) en S else .bad
    | some _ => .bad
    | none => .bad) else match excAt c e en with
    | some _ => .bad
    | none => if c.blt t = true ∧ t ∈ tyNames then (evD ev c e en S).bind fun d en S => (lift (isTyp d t) en S).bind fun b en S => .ok (.val (.bl b)) en S
      else .bad) else .bad
def plain1 (c : EC) (f : Str) (e : Expr) (en : En) (S : Stm) : Out OV := (evD ev c e en S).bind fun d en S => lift (bltD f [d]) en S
def plain2 (c : EC) (f : Str) (a b : Expr) (en : En) (S : Stm) : Out OV := (ev2 ev c a b en S).bind fun p en S => lift (bltD f [p.1, p.2]) en S
def lenE (c : EC) (e : Expr) (en : En) (S : Stm) : Out OV := (evB ev c e en S).bind fun o en S => (resolve o en S).bind fun d en S => (lift (lenD d) en S).bind fun k en S => .ok (.val (.int k)) en S
/-- the words of texts, each once -/
def strsD : List D → Option (List Str)
  | [] => some []
  | .str z :: r => (strsD r).map (z :: ·)
  | _ :: _ => none
def dedup : List Str → List Str
  | [] => []
  | z :: r => if z ∈ r then dedup r else z :: dedup r
def lenSetD : D → Option OV
  | .lst xs => match strsD xs with
    | some zs => if zs.length < 64 then some (.val (.int (dedup zs.reverse).length)) else none
    | none => none
  | _ => none
/-- len(set(e)) -/
def setArg (c : EC) : Expr → Option Expr
  | .Call (.Name f _) [e] [] _ => if bk f = .set ∧ c.blt f = true ∧ isStar e = false then some e else none
  | _ => none
def b1Of : BK → Option B1
  | .int => some .int
  | .str => some .str
  | .tuple => some .tuple
  | .list => some .list
  | .all => some .all
  | .abs => some .abs
  | .sum => some .sum
  | .sorted => some .sorted
  | _ => none
def b1E (c : EC) (b : B1) (e : Expr) (en : En) (S : Stm) : Out OV := (evD ev c e en S).bind fun d en S => lift (b1D b d) en S
def blt1 (c : EC) (f : Str) (e : Expr) (en : En) (S : Stm) : Out OV := match bk f with
  | .len => (match setArg c e with
    | some e => if c.hot = false then (evD ev c e en S).bind fun d en S => lift (lenSetD d) en S else .bad
    | none => lenE ev c e en S)
  | k => match b1Of k with
    | some b => if c.hot = false then b1E ev c b e en S else .bad
    | none => .bad
def blt2 (c : EC) (f : Str) (e t : Expr) (en : En) (S : Stm) : Out OV := match bk f with
  | .isinstance => isinst ev c e t en S
  | _ => .bad
def bltX (c : EC) (f : Str) (args : List Expr) (kws : List Keyword) (en : En) (S : Stm) : Out OV := match kws, args with
  | [], [e] => blt1 ev c f e en S
  | [], [e, t] => blt2 ev c f e t en S
  | [k], [e] => bltK ev c f e k en S
  | _, _ => .bad
def builtin (c : EC) (f : Str) (args : List Expr) (kws : List Keyword) (en : En) (S : Stm) : Out OV := if noStar args = true then bltX ev c f args kws en S else .bad
def callG (c : EC) (g : D) (args : List Expr) (kws : List Keyword) (en : En) (S : Stm) : Out OV := match g with
  | .glo x => (match lkG c.T.glob x with
    | some .fn => withArgs ev c args kws en S (callFn c (x, none) [])
    | _ => .bad)
  | _ => .bad
def callName (c : EC) (f : Str) (args : List Expr) (kws : List Keyword) (en : En) (S : Stm) : Out OV := match c.slot f with
  | some i => (match (en[i]? : Option Ent) with
    | some (.val g) => callG ev c g args kws en S
    | _ => .bad)
  | none => if c.blt f = true then builtin ev c f args kws en S else if c.gl f = true then callG ev c (.glo f) args kws en S else .bad
/-- o.m(..), o no module's class: nothing stands between it and its attribute -/
def noSuper : Expr → Bool
  | .Call (.Name _ _) [] [] _ => false
  | _ => true
/-- a method of a list, of a dict that a slot owns, which changes it -/
def mutE (c : EC) (j : Nat) (m : Str) (args : List Expr) (en : En) (S : Stm) : Out OV := match (en[j]? : Option Ent) with
  | some (.own (.lst _)) => (evVs ev c args en S).bind fun ds en S => (match (en[j]? : Option Ent) with
    | some (.own (.lst xs)) => match mutO (.lst xs) m ds with
      | some (o', d) => .ok (.val d) (en.set j (.own o')) S
      | none => .bad
    | _ => .bad)
  | _ => .bad
/-- .. which changes nothing: the receiver is known -/
def methK (c : EC) (r : Opd) (m : Str) (args : List Expr) (kws : List Keyword) (d : D) (en : En) (S : Stm) : Out OV := match d with
  | .str z => (match args, kws with
    | [e], [] => if (isN m "join" || isN m "split") = true ∧ isStar e = false then (evD ev c e en S).bind fun d en S => lift (metD (.str z) m [d]) en S else .bad
    | _, _ => .bad)
  | .dct _ => (match args, kws with
    | [e, f], [] => if isN m "get" = true ∧ isStar e = false ∧ isStar f = false then (evV ev c e en S).bind fun k en S => (evV ev c f en S).bind fun y en S => (resolve r en S).bind fun d en S => lift (getOr d k y) en S else .bad
    | _, _ => .bad)
  | _ => .bad
def methE (c : EC) (r : Opd) (m : Str) (args : List Expr) (kws : List Keyword) (en : En) (S : Stm) : Out OV := (resolve r en S).bind fun d en S => methK ev c r m args kws d en S
def ownOf (c : EC) (o : Expr) (en : En) : Option Nat := (asName o).bind fun x => opName c x en
def isConst (c : EC) (x : Str) : Bool := match lkG c.T.glob x with
  | some (.ci _) => true
  | some (.cs _) => true
  | _ => false
def isCls (c : EC) (o : Expr) : Option Str := (asName o).bind fun x => if ((c.slot x).isNone && !isConst c x) = true then some x else none
def callAttr (c : EC) (o : Expr) (m : Str) (apos pos : Pos) (args : List Expr) (kws : List Keyword) (en : En) (S : Stm) : Out OV :=
  if noSuper o = true ∧ (apos.endLine == pos.line) = true ∧ args.length + kws.length < 25 then (match isCls c o with
    | some _ => .bad
    | none => if isMut m = true then (match ownOf c o en with
      | some j => if kws.isEmpty = true ∧ noStar args = true then mutE ev c j m args en S else .bad
      | none => .bad)
      else (evB ev c o en S).bind fun r en S => methE ev c r m args kws en S) else .bad
def isM1 : Expr → Bool
  | .UnaryOp .USub (.Constant (.int 1) _ _) _ => true
  | _ => false
theorem isM1_of {e : Expr} (h : isM1 e = true) : ∃ k p1 p2, e = .UnaryOp .USub (.Constant (.int 1) k p1) p2 := by
  unfold isM1 at h
  split at h
  · exact ⟨_, _, _, rfl⟩
  · cases h
/-- {k: v} -/
def simpleKey : D → Bool
  | .int _ => true
  | .str _ => true
  | _ => false
def dict1 (c : EC) (k v : Expr) (en : En) (S : Stm) : Out OV := (evV ev c k en S).bind fun a en S => (evV ev c v en S).bind fun b en S => if simpleKey a = true then .ok (.own (.dct [(a, b)])) en S else .bad
/-- a field of the exception that a name holds -/
def excFld (c : EC) (o : Expr) (f : Str) (en : En) (S : Stm) : Out OV := match excAt c o en with
  | some (.glo C, fs) => (match lkS c.T.excs C, lkS fs f with
    | some ps, some d => if f ∈ ps then .ok (.val d) en S else .bad
    | _, _ => .bad)
  | _ => .bad
/-- an expression, by its parts -/
def ev1 (n : Nat) (c : EC) (e : Expr) (en : En) (S : Stm) : Out OV := match e with
  | .Constant k _ _ => (lift (constD k) en S).bind fun d en S => .ok (.val d) en S
  | .Name x _ => evName c x en S
  | .BinOp a op b _ => evBin ev c a op b en S
  | .UnaryOp .Not x _ => (evD ev c x en S).bind fun d en S => (lift (truD d) en S).bind fun b en S => .ok (.val (.bl (!b))) en S
  | .UnaryOp .USub x _ => (evV ev c x en S).bind fun d en S => match d with
    | .int i => .ok (.val (.int (-i))) en S
    | _ => .bad
  | .BoolOp op es _ => boolV ev c op es en S
  | .IfExp t a b _ => (evT ev n c t en S).bind fun k en S => if k = true then ev c a en S else ev c b en S
  | .Compare a ops bs _ => cmpE ev c a ops bs en S
  | .List es _ => (evVs ev c es en S).bind fun ds en S => if ds.length ≤ sizeLine then .ok (.own (.lst ds)) en S else .bad
  | .Tuple es _ _ => (evVs ev c es en S).bind fun ds en S => if ds.length ≤ sizeLine then .ok (.val (.tup ds)) en S else .bad
  | .ListComp elt gs sc _ => (compr ev n c sc gs (fun c acc en S => (evV ev c elt en S).bind fun d en S => if acc.length < sizeLine then .ok (acc ++ [d]) en S else .bad) en S).bind fun ds en S => .ok (.own (.lst ds)) en S
  | .Subscript a i _ => (match i with
    | .Slice lo hi none _ => evCut ev c a lo hi en S
    | .Slice lo hi (some st) _ => if lo.isNone = true ∧ hi.isNone = true ∧ isM1 st = true then evRev ev c a en S else .bad
    | i => evIx ev c a i en S)
  | .Call f args kws pos => (match f with
    | .Name f _ => callName ev c f args kws en S
    | .Attribute o m apos => callAttr ev c o m apos pos args kws en S
    | _ => .bad)
  | .Attribute o f _ => excFld c o f en S
  | .Dict [some k] [v] _ => dict1 ev c k v en S
  | .Dict [] [] _ => .ok (.own (.dct [])) en S
  | _ => .bad
end
def ev : Nat → EC → Expr → En → Stm → Out OV
  | 0, _, _, _, _ => .bad
  | n + 1, c, e, en, S => ev1 (ev n) n c e en S

/-! ### statements -/
def whileF (step : En → Stm → SO × Bool) : Nat → En → Stm → SO
  | 0, _, _ => .bad
  | k + 1, en, S => match step en S with
    | (.nx en S, true) => whileF step k en S
    | (.ct en S, true) => whileF step k en S
    | (.bk en S, true) => .nx en S
    | (r, _) => r
def forF (body : D → En → Stm → SO) : List D → En → Stm → SO
  | [], en, S => .nx en S
  | d :: r, en, S => match body d en S with
    | .nx en S => forF body r en S
    | .ct en S => forF body r en S
    | .bk en S => .nx en S
    | o => o
def evSs (f : Stmt → En → Stm → SO) : List Stmt → En → Stm → SO
  | [], en, S => .nx en S
  | s :: r, en, S => match f s en S with
    | .nx en S => evSs f r en S
    | o => o
def setV (i : Nat) (r : OV) (en : En) : En := en.set i (match r with | .val d => .val d | .own o => .own o)
def augI (a : Int) (op : Operator) (b : D) : Option D := match op, b with
  | .Add, .int b => some (.int (a + b))
  | .Sub, .int b => some (.int (a - b))
  | .Mult, .int b => if a.natAbs.log2 + b.natAbs.log2 < 1000000 then some (.int (a * b)) else none
  | _, _ => none
def retS (c : EC) (e : Expr) (ev : EC → Expr → En → Stm → Out OV) (en : En) (S : Stm) : SO := match (asName e).bind fun x => opName c x en with
  | some i => match (en[i]? : Option Ent) with
    | some (.own o) => .ret (.own o) (en.set i .none) S
    | _ => .bad
  | none => (ev c e en S).toS fun r en S => .ret r en S
/-- a comprehension's scope -/
def compOf : Expr → Option Scope
  | .ListComp _ _ sc _ => some sc
  | .SetComp _ _ sc _ => some sc
  | .DictComp _ _ _ sc _ => some sc
  | _ => none
def isTup : Expr → Bool
  | .Tuple _ _ _ => true
  | .List _ _ => true
  | _ => false
/-- name = a comprehension: on one line, the name no own name of the block -/
def compFit (c : EC) (x : Str) (px : Pos) (e : Expr) (sc : Scope) : Bool := decide (c.sc.names.lookup x = some .local) && (px.line == e.pos.line) && !(sc.names.any fun (n, k) => n == x && (k == .local || k == .cell))
def nameFit (c : EC) (x : Str) (px : Pos) (e : Expr) : Bool := match compOf e with
  | some sc => compFit c x px e sc
  | none => true
def assignN (c : EC) (x : Str) (px : Pos) (e : Expr) (ev : EC → Expr → En → Stm → Out OV) (en : En) (S : Stm) : SO := if nameFit c x px e = true ∧ (c.stSlot x).isSome = true then (ev c e en S).toS fun r en S => (match c.stSlot x with
    | some i => .nx (setV i r en) S
    | none => .bad) else .bad
def assignT (c : EC) (t : Expr) (e : Expr) (ev : EC → Expr → En → Stm → Out OV) (en : En) (S : Stm) : SO := if (compOf e).isNone = true ∧ (isTup t && isTup e) = false then (evV ev c e en S).toS fun d en S => (asg ev c t d en S).toS fun _ en S => .nx en S else .bad
def assignS (c : EC) (t : Expr) (e : Expr) (ev : EC → Expr → En → Stm → Out OV) (en : En) (S : Stm) : SO := match t with
  | .Name x px => assignN c x px e ev en S
  | .Tuple ts k p => assignT c (.Tuple ts k p) e ev en S
  | .Subscript o i p => assignT c (.Subscript o i p) e ev en S
  | _ => .bad
def augS (c : EC) (t : Expr) (op : Operator) (e : Expr) (ev : EC → Expr → En → Stm → Out OV) (en : En) (S : Stm) : SO := match t with
  | .Name x px => (match c.stSlot x with
    | some i => (evV ev c (.Name x px) en S).toS fun a en S => (evV ev c e en S).toS fun b en S => match a with
      | .int a => (lift (augI a op b) en S).toS fun d en S => .nx (en.set i (.val d)) S
      | _ => .bad
    | none => .bad)
  | .Subscript o k _ => (match (asName o).bind fun x => opName c x en with
    | some j => (evD ev c k en S).toS fun k en S => (resolve (.slot j) en S).toS fun d en S => match getD d k with
        | some (.int a) => (evV ev c e en S).toS fun b en S => (lift (augI a op b) en S).toS fun z en S => (storeAt j k z en S).toS fun _ en S => .nx en S
        | _ => .bad
    | none => .bad)
  | _ => .bad
def raiseC (c : EC) (C : Str) (a : Expr) (args : List Expr) (ev : EC → Expr → En → Stm → Out OV) (en : En) (S : Stm) : SO := if ((c.slot C).isNone = true ∧ c.gl C = true ∧ c.hot = false) ∧ noStar (a :: args) = true ∧ args.length < 24 then (match lkS c.T.excs C with
      | some ps => if ps.isEmpty = true then .bad else (evVs ev c (a :: args) en S).toS fun ds en S => if ps.length = ds.length then .err (.glo C) (ps.zip ds) en S else .bad
      | none => .bad) else .bad
def raiseS (c : EC) (e : Expr) (ev : EC → Expr → En → Stm → Out OV) (en : En) (S : Stm) : SO := match e with
  | .Call (.Name C _) (a :: args) [] _ => raiseC c C a args ev en S
  | _ => .bad
/-- a clause that is covered: one own class, a local name or none -/
def nmOk (c : EC) : Option Str → Bool
  | none => true
  | some n => decide (c.sc.names.lookup n = some .local) && (ix c.N n).isSome
def hdOk (c : EC) : ExceptHandler → Bool
  | .ExceptHandler (some (.Name x _)) nm (_ :: _) _ => (c.slot x).isNone && c.gl x && (lkS c.T.excs x).isSome && nmOk c nm
  | _ => false
def dropE : Ent → Ent
  | .exc _ _ => .none
  | e => e
/-- the exception is gone from the slots -/
def dropX (en : En) : En := en.map dropE
def unX (i : Option Nat) (en : En) : En := match i with
  | some i => (dropX en).set i .none
  | none => dropX en
def bindX (i : Option Nat) (C : Str) (fs : List (Str × D)) (en : En) : En := match i with
  | some i => en.set i (.exc (.glo C) fs)
  | none => en
def sufEnd (i : Option Nat) : SO → SO
  | .nx en S => .nx (unX i en) S
  | .bk en S => .bk (unX i en) S
  | .ct en S => .ct (unX i en) S
  | .ret r en S => .ret r (dropX en) S
  | _ => .bad
def nmIx (c : EC) (nm : Option Str) : Option Nat := nm.bind (ix c.N)
/-- the clauses, one after another -/
def clauses (c : EC) (C : Str) (fs : List (Str × D)) (su : List Stmt → En → Stm → SO) : List ExceptHandler → En → Stm → SO
  | [], en, S => .err (.glo C) fs en S
  | .ExceptHandler (some (.Name x _)) nm suite _ :: r, en, S => if isSubOf c.T (.glo C) x = true then sufEnd (nmIx c nm) (su suite (bindX (nmIx c nm) C fs en) S) else clauses c C fs su r en S
  | _ :: _, _, _ => .bad
def tryS (c : EC) (hds : List ExceptHandler) (bd : En → Stm → SO) (su : List Stmt → En → Stm → SO) (en : En) (S : Stm) : SO := if (c.hot = false ∧ c.nn = false) ∧ hds.all (hdOk c) = true ∧ hds.isEmpty = false then (match bd en S with
  | .err C fs en S => (match C with
    | .glo C => if (lkS c.T.excs C).isSome = true then clauses c C fs su hds en S else .bad
    | _ => .bad)
  | o => o) else .bad
/-- except (A, B, D): raise C(e) -/
def hotOf : List ExceptHandler → Option ((Str × Str × Str) × Str × Expr)
  | [.ExceptHandler (some (.Tuple [.Name x1 _, .Name x2 _, .Name x3 _] _ _)) none [.Raise (some (.Call (.Name C _) [a] [] _)) none _] _] => some ((x1, x2, x3), C, a)
  | _ => none
def excName (c : EC) (x : Str) : Bool := (c.slot x).isNone && c.gl x && (lkS c.T.excs x).isSome
def raisesB (T : Tb) (C : Str) (ts : Str × Str × Str) : Bool := isSubOf T (.glo C) ts.1 || isSubOf T (.glo C) ts.2.1 || isSubOf T (.glo C) ts.2.2
def tryH (c : EC) (ts : Str × Str × Str) (C : Str) (a : Expr) (bd : En → Stm → SO) (su : En → Stm → Out (List D)) (en : En) (S : Stm) : SO :=
  if (c.hot = false ∧ c.nn = false) ∧ (excName c ts.1 = true ∧ excName c ts.2.1 = true ∧ excName c ts.2.2 = true ∧ excName c C = true) ∧ isStar a = false then (match bd en S with
  | .err D fs en S => (match D with
    | .glo D => if (lkS c.T.excs D).isSome = true then (if raisesB c.T D ts = true then (match lkS c.T.excs C with
        | some [f] => (su en S).toS fun ds en S => if [f].length = ds.length then .err (.glo C) ([f].zip ds) en S else .bad
        | _ => .bad) else .err (.glo D) fs en S) else .bad
    | _ => .bad)
  | o => o) else .bad
def evS : Nat → EC → Stmt → En → Stm → SO
  | 0, _, _, _, _ => .bad
  | n + 1, c, st, en, S => match st with
    | .Pass _ => .nx en S
    | .Break _ => .bk en S
    | .Continue _ => .ct en S
    | .Return none _ => .ret (.val .non) en S
    | .Return (some e) _ => retS c e (ev n) en S
    | .Expr e _ => if (compOf e).isNone = true then (ev n c e en S).toS fun _ en S => .nx en S else .bad
    | .Assign [t] e _ => assignS c t e (ev n) en S
    | .If t a b _ => (evT (ev n) n c t en S).toS fun k en S => if k = true then evSs (evS n c) a en S else evSs (evS n c) b en S
    | .For t it body [] _ => if c.hot = false ∧ isSet it = false then (evItems (ev n) c it en S).toS fun xs en S =>
      forF (fun d en S => match asgN 8 c t d en with
        | some en => evSs (evS n c) body en S
        | none => .bad) xs en S else .bad
    | .While t body [] _ => whileF (fun en S => match evT (ev n) n c t en S with
      | .ok true en S => (evSs (evS n c) body en S, true)
      | .ok false en S => (.nx en S, false)
      | .err C fs en S => (.err C fs en S, false)
      | .bad => (.bad, false)) c.wf en S
    | .Raise (some e) none _ => raiseS c e (ev n) en S
    | .Try body hds [] [] _ => (match hotOf hds with
      | some (ts, C, a) => tryH c ts C a (evSs (evS n { c with nn := true }) body) (evVs (ev n) { c with hot := true } [a]) en S
      | none => tryS c hds (evSs (evS n c) body) (evSs (evS n { c with hot := true })) en S)
    | _ => .bad

/-! ### defs -/
def depthA : Nat := 60
def CO.of : SO → CO
  | .nx _ S => .ok (.val .non) S
  | .ret r _ S => .ok r S
  | .err C fs _ S => .err C fs S
  | _ => .bad
def startE (N : List Str) (ds : List D) : En := ds.map Ent.val ++ List.replicate (N.length - ds.length) .none
/-- a def's body, run -/
def body (T : Tb) (wf : Nat) (call : Fid → List D → Stm → CO) (make : Str → List D → Stm → CO) (D : DefI) (en : En) (S : Stm) : SO :=
  evSs (evS depthA { T := T, call := call, make := make, wf := wf, N := D.N, sc := D.sc, fn := fun _ => true, hot := false, nn := !D.weak }) D.body en S
def runFn (T : Tb) (wf : Nat) (call : Fid → List D → Stm → CO) (make : Str → List D → Stm → CO) (f : Fid) (ds : List D) (S : Stm) : CO := match lkF T.prim f with
  | some p => p ds S
  | none => match lkF T.defs f with
    | some D => if ds.length = D.ps.length then CO.of (body T wf call make D (startE D.N ds) S) else .bad
    | none => .bad
def selfOf (en : En) (S : Stm) : CO := match (en[0]? : Option Ent) with
  | some (.own o) => .ok (.own o) S
  | some (.val d) => .ok (.val d) S
  | _ => .bad
/-- C(..): a new object, then its __init__ -/
def runMake (T : Tb) (wf : Nat) (call : Fid → List D → Stm → CO) (make : Str → List D → Stm → CO) (C : Str) (ds : List D) (S : Stm) : CO := match lkF T.defs (C, some (Str.ofString "__init__")) with
  | some D => if ds.length + 1 = D.ps.length then (match body T wf call make D ((startE D.N (.non :: ds)).set 0 (.own (.obj C []))) S with
    | .nx en S => selfOf en S
    | .ret (.val .non) en S => selfOf en S
    | .err C fs _ S => .err C fs S
    | _ => .bad) else .bad
  | none => .bad
/-- calls, to a depth -/
def calls (T : Tb) (wf : Nat) : Nat → (Fid → List D → Stm → CO) × (Str → List D → Stm → CO)
  | 0 => (fun _ _ _ => .bad, fun _ _ _ => .bad)
  | d + 1 => (runFn T wf (calls T wf d).1 (calls T wf d).2, runMake T wf (calls T wf d).1 (calls T wf d).2)
end PX

set_option Elab.async false
set_option linter.all false
set_option maxRecDepth 100000
/-! PxRep: what values stand for data over a part F of the abstract heap; the state of a frame. -/
namespace PX
open PySem PySem.Spec L2
open PyProof.Rows hiding St

/-- F is a part of H -/
def Sub (F H : Hp) : Prop := ∀ a o, F a = some o → H a = some o
theorem Sub.refl {F : Hp} : Sub F F := fun _ _ h => h
theorem Sub.trans {F G H : Hp} (a : Sub F G) (b : Sub G H) : Sub F H := fun x o h => b x o (a x o h)

/-- the raw table of a dict: hash, key, value -/
def DRaw (a : Addr) (es : List (Int × V × V)) (ep : Nat) (h : Heap) : Prop :=
  es.length ≤ sizeLine ∧ (a == sysModules) = false ∧ ∃ o arr, h.get? a = some o ∧ o.ExactDict ∧ o.data = .dict arr ep ∧
    Paired (fun (p : Int × V × V) (q : DictEntry) => p.1 = q.hash ∧ RelV p.2.1 q.key ∧ RelV p.2.2 q.val) es arr.toList
def dO (a : Addr) (es : List (Int × V × V)) (ep : Nat) : HO := .ext (DRaw a es ep)

/-- a key's hash -/
def hashD (w : World) (d : D) : Int := (nk d).hash w

/-- what is fixed through a run: the module's names, the state's address, the world -/
structure Gh where
  w : World
  mg : Str → Option Value
  sa : Addr

mutual
inductive Rep (g : Gh) (F : Hp) : V → D → Prop
  | non : Rep g F .non .non
  | bl (b : Bool) : Rep g F (.bl b) (.bl b)
  | int (i : Int) : Rep g F (.int i) (.int i)
  | str (x : Str) : Rep g F (.str x) (.str x)
  | ty (n : String) : Rep g F (.ty n) (.ty n)
  | st : Rep g F (.ref g.sa) .st
  | glo {a : Addr} {x : Str} : g.mg x = some (.ref a) → Rep g F (.ref a) (.glo x)
  | tup {a : Addr} {vs : List V} {ds : List D} : F a = some (.tup vs) → RepA g F vs ds → Rep g F (.ref a) (.tup ds)
  | lst {a : Addr} {vs : List V} {ds : List D} : F a = some (.lst vs) → RepA g F vs ds → Rep g F (.ref a) (.lst ds)
  | dct {a : Addr} {es : List (Int × V × V)} {ep : Nat} {kvs : List (D × D)} : F a = some (dO a es ep) → RepK g F es kvs → (kvs.map (·.1)).Nodup → keyAll (kvs.map (·.1)) = true → Rep g F (.ref a) (.dct kvs)
  | obj {a Ca dx : Addr} {C : Str} {vfs : List (Str × V)} {fs : List (Str × D)} : g.mg C = some (.ref Ca) → F a = some (.ins Ca dx vfs) → RepF g F vfs fs → Rep g F (.ref a) (.obj C fs)
inductive RepA (g : Gh) (F : Hp) : List V → List D → Prop
  | nil : RepA g F [] []
  | cons {v : V} {vs : List V} {d : D} {ds : List D} : Rep g F v d → RepA g F vs ds → RepA g F (v :: vs) (d :: ds)
inductive RepK (g : Gh) (F : Hp) : List (Int × V × V) → List (D × D) → Prop
  | nil : RepK g F [] []
  | cons {k v : V} {es : List (Int × V × V)} {a b : D} {kvs : List (D × D)} : Rep g F k a → Rep g F v b → RepK g F es kvs → RepK g F ((hashD g.w a, k, v) :: es) ((a, b) :: kvs)
inductive RepF (g : Gh) (F : Hp) : List (Str × V) → List (Str × D) → Prop
  | nil : RepF g F [] []
  | cons {x : Str} {v : V} {vs : List (Str × V)} {d : D} {ds : List (Str × D)} : Rep g F v d → RepF g F vs ds → RepF g F ((x, v) :: vs) ((x, d) :: ds)
end

section
variable {g : Gh} {F F' H : Hp}
theorem Rd.mono {a : Addr} {u : HO} (s : Sub F F') (r : Rd F a u) : Rd F' a u := by
  rcases r with h | ⟨o, h⟩
  · exact .inl (s _ _ h)
  · exact .inr ⟨o, s _ _ h⟩
mutual
theorem Rep.mono (s : Sub F F') : ∀ {v : V} {d : D}, Rep g F v d → Rep g F' v d
  | _, _, .non => .non
  | _, _, .bl b => .bl b
  | _, _, .int i => .int i
  | _, _, .str x => .str x
  | _, _, .ty n => .ty n
  | _, _, .st => .st
  | _, _, .glo h => .glo h
  | _, _, .tup h r => .tup (s _ _ h) (r.mono s)
  | _, _, .lst h r => .lst (s _ _ h) (r.mono s)
  | _, _, .dct h r n k => .dct (s _ _ h) (r.mono s) n k
  | _, _, .obj m h r => .obj m (s _ _ h) (r.mono s)
theorem RepA.mono (s : Sub F F') : ∀ {vs : List V} {ds : List D}, RepA g F vs ds → RepA g F' vs ds
  | _, _, .nil => .nil
  | _, _, .cons h r => .cons (h.mono s) (r.mono s)
theorem RepK.mono (s : Sub F F') : ∀ {vs : List (Int × V × V)} {ds : List (D × D)}, RepK g F vs ds → RepK g F' vs ds
  | _, _, .nil => .nil
  | _, _, .cons h k r => .cons (h.mono s) (k.mono s) (r.mono s)
theorem RepF.mono (s : Sub F F') : ∀ {vs : List (Str × V)} {ds : List (Str × D)}, RepF g F vs ds → RepF g F' vs ds
  | _, _, .nil => .nil
  | _, _, .cons h r => .cons (h.mono s) (r.mono s)
end
theorem RepA.length : ∀ {vs : List V} {ds : List D}, RepA g F vs ds → vs.length = ds.length
  | _, _, .nil => rfl
  | _, _, .cons _ r => by simp [r.length]
theorem RepA.get : ∀ {vs : List V} {ds : List D} {i : Nat} {d : D}, RepA g F vs ds → ds[i]? = some d → ∃ v, vs[i]? = some v ∧ Rep g F v d
  | _, _, 0, _, .cons h r, e => by simp at e; subst e; exact ⟨_, rfl, h⟩
  | _, _, i + 1, _, .cons h r, e => by simp at e; obtain ⟨v, a, b⟩ := r.get e; exact ⟨v, by simpa using a, b⟩
theorem RepA.get' : ∀ {vs : List V} {ds : List D} {i : Nat} {v : V}, RepA g F vs ds → vs[i]? = some v → ∃ d, ds[i]? = some d ∧ Rep g F v d
  | _, _, 0, _, .cons h r, e => by simp at e; subst e; exact ⟨_, rfl, h⟩
  | _, _, i + 1, _, .cons h r, e => by simp at e; obtain ⟨v, a, b⟩ := r.get' e; exact ⟨v, by simpa using a, b⟩
theorem RepA.append : ∀ {vs us : List V} {ds es : List D}, RepA g F vs ds → RepA g F us es → RepA g F (vs ++ us) (ds ++ es)
  | _, _, _, _, .nil, r => r
  | _, _, _, _, .cons h t, r => .cons h (t.append r)
theorem RepA.set : ∀ {vs : List V} {ds : List D} {i : Nat} {v : V} {d : D}, RepA g F vs ds → Rep g F v d → RepA g F (vs.set i v) (ds.set i d)
  | _, _, _, _, _, .nil, _ => .nil
  | _, _, 0, _, _, .cons _ r, h => .cons h r
  | _, _, i + 1, _, _, .cons x r, h => .cons x (r.set h)
theorem RepA.take : ∀ {vs : List V} {ds : List D} (n : Nat), RepA g F vs ds → RepA g F (vs.take n) (ds.take n)
  | _, _, 0, _ => by simpa using RepA.nil
  | _, _, n + 1, .nil => by simpa using RepA.nil
  | _, _, n + 1, .cons h r => by simpa using RepA.cons h (r.take n)
theorem RepA.drop : ∀ {vs : List V} {ds : List D} (n : Nat), RepA g F vs ds → RepA g F (vs.drop n) (ds.drop n)
  | _, _, 0, r => by simpa using r
  | _, _, n + 1, .nil => by simpa using RepA.nil
  | _, _, n + 1, .cons h r => by simpa using r.drop n
theorem RepA.reverse : ∀ {vs : List V} {ds : List D}, RepA g F vs ds → RepA g F vs.reverse ds.reverse
  | _, _, .nil => by simpa using RepA.nil
  | _, _, .cons h r => by simpa using r.reverse.append (.cons h .nil)

/-- the outer thing as it stands in H, what is in it in F -/
inductive RX (g : Gh) (F H : Hp) : V → D → Prop
  | rep {v : V} {d : D} : Rep g F v d → RX g F H v d
  | lst {a : Addr} {vs : List V} {ds : List D} : H a = some (.lst vs) → RepA g F vs ds → RX g F H (.ref a) (.lst ds)
  | dct {a : Addr} {es : List (Int × V × V)} {ep : Nat} {kvs : List (D × D)} : H a = some (dO a es ep) → RepK g F es kvs → (kvs.map (·.1)).Nodup → keyAll (kvs.map (·.1)) = true → RX g F H (.ref a) (.dct kvs)
  | obj {a Ca dx : Addr} {C : Str} {vfs : List (Str × V)} {fs : List (Str × D)} : g.mg C = some (.ref Ca) → H a = some (.ins Ca dx vfs) → RepF g F vfs fs → RX g F H (.ref a) (.obj C fs)
theorem RX.full (s : Sub F H) {v : V} {d : D} (r : RX g F H v d) : Rep g H v d := by
  cases r with
  | rep r => exact r.mono s
  | lst h r => exact .lst h (r.mono s)
  | dct h r n k => exact .dct h (r.mono s) n k
  | obj m h r => exact .obj m h (r.mono s)
theorem RX.mono {F' : Hp} (s : Sub F F') {v : V} {d : D} (r : RX g F H v d) : RX g F' H v d := by
  cases r with
  | rep r => exact .rep (r.mono s)
  | lst h r => exact .lst h (r.mono s)
  | dct h r n k => exact .dct h (r.mono s) n k
  | obj m h r => exact .obj m h (r.mono s)

/-- an owned thing at p -/
inductive OwnAt (g : Gh) (F H : Hp) : Addr → O → Prop
  | lst {a : Addr} {vs : List V} {ds : List D} : H a = some (.lst vs) → RepA g F vs ds → OwnAt g F H a (.lst ds)
  | dct {a : Addr} {es : List (Int × V × V)} {ep : Nat} {kvs : List (D × D)} : H a = some (dO a es ep) → RepK g F es kvs → (kvs.map (·.1)).Nodup → keyAll (kvs.map (·.1)) = true → OwnAt g F H a (.dct kvs)
  | obj {a Ca dx : Addr} {C : Str} {vfs : List (Str × V)} {fs : List (Str × D)} : g.mg C = some (.ref Ca) → H a = some (.ins Ca dx vfs) → RepF g F vfs fs → OwnAt g F H a (.obj C fs)
theorem OwnAt.mono {F' : Hp} (s : Sub F F') {a : Addr} {o : O} (r : OwnAt g F H a o) : OwnAt g F' H a o := by
  cases r with
  | lst h r => exact .lst h (r.mono s)
  | dct h r n k => exact .dct h (r.mono s) n k
  | obj m h r => exact .obj m h (r.mono s)
theorem OwnAt.heap {H' : Hp} {a : Addr} {o : O} (r : OwnAt g F H a o) (h : ∀ u, H a = some u → H' a = some u) : OwnAt g F H' a o := by
  cases r with
  | lst e r => exact .lst (h _ e) r
  | dct e r n k => exact .dct (h _ e) r n k
  | obj m e r => exact .obj m (h _ e) r
theorem OwnAt.rx {a : Addr} {o : O} (r : OwnAt g F H a o) : RX g F H (.ref a) o.d := by
  cases r with
  | lst h r => exact .lst h r
  | dct h r n k => exact .dct h r n k
  | obj m h r => exact .obj m h r
theorem OwnAt.some {a : Addr} {o : O} (r : OwnAt g F H a o) : ∃ u, H a = some u := by
  cases r with
  | lst h r => exact ⟨_, h⟩
  | dct h r n k => exact ⟨_, h⟩
  | obj m h r => exact ⟨_, h⟩
/-- F with what stands at p -/
def addF (F H : Hp) (p : Addr) : Hp := fun a => if a = p then H a else F a
theorem sub_addF {p : Addr} (n : F p = none) : Sub F (addF F H p) := by
  intro a o h
  unfold addF
  by_cases e : a = p
  · subst e; rw [n] at h; cases h
  · rw [if_neg e]; exact h
theorem addF_sub {p : Addr} (s : Sub F H) : Sub (addF F H p) H := by
  intro a o h
  unfold addF at h
  by_cases e : a = p
  · rwa [if_pos e] at h
  · rw [if_neg e] at h; exact s _ _ h
theorem addF_ne {p a : Addr} (h : a ≠ p) : addF F H p a = F a := by unfold addF; rw [if_neg h]
theorem addF_at {p : Addr} : addF F H p p = H p := by unfold addF; rw [if_pos rfl]
theorem OwnAt.frozen {p : Addr} {o : O} (n : F p = none) (r : OwnAt g F H p o) : Rep g (addF F H p) (.ref p) o.d := by
  cases r with
  | lst h r => exact .lst (by rw [addF_at]; exact h) (r.mono (sub_addF n))
  | dct h r nd k => exact .dct (by rw [addF_at]; exact h) (r.mono (sub_addF n)) nd k
  | obj m h r => exact .obj m (by rw [addF_at]; exact h) (r.mono (sub_addF n))

/- data without lists and so on: the tuples alone are leant on -/
mutual
theorem Rep.imm {F' : Hp} (s : ∀ a vs, F a = some (.tup vs) → F' a = some (.tup vs)) : ∀ {v : V} {d : D}, Rep g F v d → d.imm = true → Rep g F' v d
  | _, _, .non, _ => .non
  | _, _, .bl b, _ => .bl b
  | _, _, .int i, _ => .int i
  | _, _, .str x, _ => .str x
  | _, _, .ty n, _ => .ty n
  | _, _, .st, _ => .st
  | _, _, .glo h, _ => .glo h
  | _, _, .tup h r, e => .tup (s _ _ h) (r.imm s (by simpa [D.imm] using e))
  | _, _, .lst h r, e => by simp [D.imm] at e
  | _, _, .dct h r n k, e => by simp [D.imm] at e
  | _, _, .obj m h r, e => by simp [D.imm] at e
theorem RepA.imm {F' : Hp} (s : ∀ a vs, F a = some (.tup vs) → F' a = some (.tup vs)) : ∀ {vs : List V} {ds : List D}, RepA g F vs ds → immAll ds = true → RepA g F' vs ds
  | _, _, .nil, _ => .nil
  | _, _, .cons h r, e => by
    simp [immAll] at e
    exact .cons (h.imm s e.1) (r.imm s e.2)
end
theorem RX.imm {v : V} {d : D} (r : RX g F H v d) (i : d.imm = true) : Rep g F v d := by
  cases r with
  | rep r => exact r
  | lst h r => simp [D.imm] at i
  | dct h r n k => simp [D.imm] at i
  | obj m h r => simp [D.imm] at i
end
end PX

set_option Elab.async false
set_option linter.all false
set_option maxRecDepth 100000
/-! PxSt: the state of a frame; ends. -/
namespace PX
open PySem PySem.Spec L2
open PyProof.Rows hiding St

structure Cn where
  g : Gh
  X : Cx
  c : EC
  B : Hp
  F0 : Hp
  /-- the state's cells at the entry -/
  C0 : List Addr
  k : Nat
  /-- the exception whose suite runs -/
  ex : Option (Addr × Value × Option Addr) := none
def refsOf : List V → List Addr
  | [] => []
  | .ref a :: r => a :: refsOf r
  | _ :: r => refsOf r
/-- the addresses of the state: its list, the lists in it -/
def cellsOf (H : Hp) (sa : Addr) : List Addr := sa :: (match H sa with
  | some (.lst vs) => refsOf vs
  | _ => [])
/-- what nobody but the state may hold -/
abbrev Cn.cells (n : Cn) (H : Hp) : List Addr := cellsOf H n.g.sa ++ n.C0
theorem cellsOf_eq {H H' : Hp} {sa : Addr} (h : H' sa = H sa) : cellsOf H' sa = cellsOf H sa := by unfold cellsOf; rw [h]

/-- the law's state, laid: the lists at the cells -/
inductive StL (H : Hp) : List Addr → List V → Stm → Prop
  | nil : StL H [] [] []
  | int {cs : List Addr} {vs : List V} {S : Stm} (i : Int) : StL H cs vs S → StL H cs (.int i :: vs) (.inl i :: S)
  | lst {c : Addr} {cs : List Addr} {vs : List V} {S : Stm} {ns : List Int} : H c = some (.lst (ns.map V.int)) → StL H cs vs S → StL H (c :: cs) (.ref c :: vs) (.inr ns :: S)
theorem StL.heap {H H' : Hp} : ∀ {cs : List Addr} {vs : List V} {S : Stm}, StL H cs vs S → (∀ c ∈ cs, ∀ u, H c = some u → H' c = some u) → StL H' cs vs S
  | _, _, _, .nil, _ => .nil
  | _, _, _, .int i r, h => .int i (r.heap h)
  | _, _, _, .lst e r, h => .lst (h _ (List.mem_cons_self ..) _ e) (r.heap fun c hc => h c (List.mem_cons_of_mem _ hc))
theorem StL.there {H : Hp} : ∀ {cs : List Addr} {vs : List V} {S : Stm}, StL H cs vs S → ∀ c ∈ cs, ∃ u, H c = some u
  | _, _, _, .nil, _, h => nomatch h
  | _, _, _, .int i r, c, h => r.there c h
  | _, _, _, .lst e r, c, h => by
    rcases List.mem_cons.mp h with rfl | h
    · exact ⟨_, e⟩
    · exact r.there c h
structure StR (sa : Addr) (H : Hp) (S : Stm) : Prop where
  nd : (cellsOf H sa).Nodup
  at_ : ∃ vs, H sa = some (.lst vs) ∧ StL H (refsOf vs) vs S
theorem StR.ceq {sa : Addr} {H H' : Hp} {S : Stm} (r : StR sa H S) (h : ∀ u, H sa = some u → H' sa = some u) : cellsOf H' sa = cellsOf H sa := by
  obtain ⟨nd, vs, e, l⟩ := r
  exact cellsOf_eq ((h _ e).trans e.symm)
theorem StR.heap {sa : Addr} {H H' : Hp} {S : Stm} (r : StR sa H S) (h : ∀ c ∈ cellsOf H sa, ∀ u, H c = some u → H' c = some u) : StR sa H' S := by
  have ce := r.ceq (H' := H') (h sa (List.mem_cons_self ..))
  obtain ⟨nd, vs, e, l⟩ := r
  refine ⟨by rw [ce]; exact nd, vs, h _ (List.mem_cons_self ..) _ e, l.heap fun c hc => h c (List.mem_cons_of_mem _ ?_)⟩
  rw [e]; exact hc
theorem StR.there {sa : Addr} {H : Hp} {S : Stm} (r : StR sa H S) : ∀ c ∈ cellsOf H sa, ∃ u, H c = some u := by
  obtain ⟨nd, vs, e, l⟩ := r
  intro c hc
  unfold cellsOf at hc
  rw [e] at hc
  rcases List.mem_cons.mp hc with rfl | hc
  · exact ⟨_, e⟩
  · exact l.there c hc

/-- an exception of the text: its class, its own dict -/
inductive ExcR (g : Gh) (F H : Hp) : D → List (Str × D) → Value → Option Addr → Prop
  | mk {C : Str} {Ca dx : Addr} {vfs : List (Str × V)} {fs : List (Str × D)} : g.mg C = some (.ref Ca) → H dx = some (.xd vfs) → RepF g F vfs fs → ExcR g F H (.glo C) fs (.ref Ca) (some dx)

theorem ExcR.mono {g : Gh} {F F' H H' : Hp} {C : D} {fs : List (Str × D)} {cls : Value} {d : Option Addr} (s : Sub F F') (h : ∀ dx vfs, H dx = some (.xd vfs) → H' dx = some (.xd vfs)) (x : ExcR g F H C fs cls d) : ExcR g F' H' C fs cls d := by
  cases x with
  | mk a b c => exact .mk a (h _ _ b) (c.mono s)
theorem StL.lists {H : Hp} : ∀ {cs : List Addr} {vs : List V} {S : Stm}, StL H cs vs S → ∀ c ∈ cs, ∃ us, H c = some (.lst us)
  | _, _, _, .nil, _, h => nomatch h
  | _, _, _, .int _ r, c, h => r.lists c h
  | _, _, _, .lst e r, c, h => by
    rcases List.mem_cons.mp h with rfl | h
    · exact ⟨_, e⟩
    · exact r.lists c h
theorem StR.noxd {sa : Addr} {H : Hp} {S : Stm} (r : StR sa H S) {dx : Addr} {vfs : List (Str × V)} (h : H dx = some (.xd vfs)) : dx ∉ cellsOf H sa := by
  obtain ⟨nd, vs, e, l⟩ := r
  intro hc
  unfold cellsOf at hc
  rw [e] at hc
  rcases List.mem_cons.mp hc with rfl | hc
  · rw [e] at h; cases h
  · obtain ⟨us, hu⟩ := l.lists _ hc
    rw [hu] at h; cases h
theorem OwnAt.noxd {g : Gh} {F H : Hp} {p : Addr} {o : O} (w : OwnAt g F H p o) {dx : Addr} {vfs : List (Str × V)} (h : H dx = Option.some (HO.xd vfs)) : dx ≠ p := by
  rintro rfl
  cases w with
  | lst e _ => rw [e] at h; cases h
  | dct e _ _ _ => rw [e] at h; cases h
  | obj _ e _ => rw [e] at h; cases h
inductive SlotR (n : Cn) (F H : Hp) : Option (Option V) → Ent → Prop
  | none {o : Option (Option V)} : SlotR n F H o .none
  | val {v : V} {d : D} : Rep n.g F v d → SlotR n F H (some (some v)) (.val d)
  | own {p : Addr} {o : O} : F p = Option.none → n.B p = Option.none → p ∉ n.cells H → OwnAt n.g F H p o → SlotR n F H (some (some (.ref p))) (.own o)
  | exc {a : Addr} {cls : Value} {d : Option Addr} {C : D} {fs : List (Str × D)} : n.ex = some (a, cls, d) → ExcR n.g F H C fs cls d → SlotR n F H (some (some (.ref a))) (.exc C fs)

structure SR (n : Cn) (F : Hp) (σ : St) (H : Hp) (en : En) (S : Stm) : Prop where
  len : en.length = n.c.N.length
  slen : σ.length = n.c.N.length
  base : Sub n.B H
  sub : Sub F H
  slot : ∀ (i : Nat) (e : Ent), en[i]? = some e → SlotR n F H σ[i]? e
  dist : ∀ (i j : Nat) (o o' : O) (p : Addr), en[i]? = some (.own o) → en[j]? = some (.own o') → σ[i]? = some (some (.ref p)) → σ[j]? = some (some (.ref p)) → i = j
  st : StR n.g.sa H S
  c0 : ∀ a ∈ n.C0, ∃ u, H a = some u
  cellF : ∀ a ∈ n.cells H, F a = none ∧ n.B a = none
  fix : ∀ a u, n.B a = some u → F a = n.F0 a

/-- both heaps grow, by new things -/
structure Grow (F H F' H' : Hp) : Prop where
  hh : Sub H H'
  ff : Sub F F'
  fh : Sub F' H'
  new : ∀ a u, H a = some u → F' a = F a
theorem Grow.refl {F H : Hp} (s : Sub F H) : Grow F H F H := ⟨.refl, .refl, s, fun _ _ _ => rfl⟩
theorem Grow.trans {F H F1 H1 F2 H2 : Hp} (a : Grow F H F1 H1) (b : Grow F1 H1 F2 H2) : Grow F H F2 H2 :=
  ⟨a.hh.trans b.hh, a.ff.trans b.ff, b.fh, fun x u h => (b.new x u (a.hh _ _ h)).trans (a.new x u h)⟩
/-- a new thing, not frozen -/
theorem Grow.own {F H : Hp} {p : Addr} {u : HO} (s : Sub F H) (n : H p = none) : Grow F H F (upd H p u) := by
  have k : Sub H (upd H p u) := by
    intro a o h
    by_cases e : a = p
    · subst e; rw [n] at h; cases h
    · rw [upd_ne e]; exact h
  exact ⟨k, .refl, s.trans k, fun _ _ _ => rfl⟩
/-- .. frozen -/
theorem Grow.frz {F H : Hp} {p : Addr} {u : HO} (s : Sub F H) (n : H p = none) : Grow F H (upd F p u) (upd H p u) := by
  have k : Sub H (upd H p u) := by
    intro a o h
    by_cases e : a = p
    · subst e; rw [n] at h; cases h
    · rw [upd_ne e]; exact h
  have nf : F p = none := by
    cases e : F p with
    | none => rfl
    | some o => rw [s _ _ e] at n; cases n
  refine ⟨k, ?_, ?_, ?_⟩
  · intro a o h
    by_cases e : a = p
    · subst e; rw [nf] at h; cases h
    · rw [upd_ne e]; exact h
  · intro a o h
    by_cases e : a = p
    · subst e; rw [upd_same] at h ⊢; exact h
    · rw [upd_ne e] at h ⊢; exact s _ _ h
  · intro a o h
    have e : a ≠ p := by rintro rfl; rw [n] at h; cases h
    rw [upd_ne e]

section
variable {n : Cn} {F F' H H' : Hp} {σ : St} {en : En} {S : Stm}
theorem SR.ceq (r : SR n F σ H en S) (w : ∀ u, H n.g.sa = some u → H' n.g.sa = some u) : n.cells H' = n.cells H := by
  unfold Cn.cells; rw [r.st.ceq w]
theorem SR.cgrow (r : SR n F σ H en S) (w : Sub H H') : n.cells H' = n.cells H := r.ceq fun u h => w _ _ h
theorem SR.there (r : SR n F σ H en S) : ∀ a ∈ n.cells H, ∃ u, H a = some u := by
  intro a h
  rcases List.mem_append.mp h with h | h
  · exact r.st.there a h
  · exact r.c0 a h
theorem SR.grow (r : SR n F σ H en S) (w : Grow F H F' H') : SR n F' σ H' en S where
  len := r.len
  slen := r.slen
  base := r.base.trans w.hh
  sub := w.fh
  slot i e h := by
    have := r.slot i e h
    cases q : σ[i]? with
    | none =>
      rw [q] at this
      cases this with
      | none => exact .none
    | some o =>
      rw [q] at this
      cases this with
      | none => exact .none
      | val x => exact .val (x.mono w.ff)
      | own a b c d =>
        obtain ⟨u, hu⟩ := d.some
        exact .own ((w.new _ _ hu).trans a) b (by rw [r.cgrow w.hh]; exact c) ((d.mono w.ff).heap fun _ z => w.hh _ _ z)
      | exc a b => exact .exc a (b.mono w.ff fun _ _ z => w.hh _ _ z)
  dist := r.dist
  st := r.st.heap fun c hc u h => w.hh _ _ h
  c0 a ha := (r.c0 a ha).imp fun u h => w.hh _ _ h
  cellF a ha := by
    rw [r.cgrow w.hh] at ha
    obtain ⟨u, hu⟩ := r.there a ha
    exact ⟨(w.new _ _ hu).trans (r.cellF a ha).1, (r.cellF a ha).2⟩
  fix a u h := (w.new a u (r.base _ _ h)).trans (r.fix a u h)
theorem SR.at_val (r : SR n F σ H en S) {i : Nat} {d : D} (e : en[i]? = some (.val d)) : ∃ v, σ[i]? = some (some v) ∧ Rep n.g F v d := by
  have := r.slot i _ e
  generalize q : σ[i]? = z at this
  cases this with
  | val x => exact ⟨_, rfl, x⟩
theorem SR.at_own (r : SR n F σ H en S) {i : Nat} {o : O} (e : en[i]? = some (.own o)) : ∃ p, σ[i]? = some (some (.ref p)) ∧ F p = none ∧ n.B p = none ∧ p ∉ n.cells H ∧ OwnAt n.g F H p o := by
  have := r.slot i _ e
  generalize q : σ[i]? = z at this
  cases this with
  | own a b c d => exact ⟨_, rfl, a, b, c, d⟩
/-- a slot's thing is frozen -/
theorem SR.frz (r : SR n F σ H en S) {i : Nat} {o : O} {p : Addr} (e : en[i]? = some (.own o)) (hp : σ[i]? = some (some (.ref p))) :
    SR n (addF F H p) σ H (en.set i (.val o.d)) S ∧ Rep n.g (addF F H p) (.ref p) o.d ∧ Sub F (addF F H p) := by
  obtain ⟨p', hp', nf, nb, nc, ow⟩ := r.at_own e
  have : p' = p := by rw [hp] at hp'; injection hp' with a; injection a with a; injection a with a; exact a.symm
  subst this
  have sb := sub_addF (F := F) (H := H) nf
  have fr := ow.frozen nf
  refine ⟨⟨by simpa using r.len, r.slen, r.base, addF_sub r.sub, ?_, ?_, r.st, r.c0, ?_, ?_⟩, fr, sb⟩
  · intro j x hx
    by_cases ij : j = i
    · subst ij
      have hl : j < en.length := by
        rw [List.getElem?_eq_some_iff] at e; exact e.1
      rw [List.getElem?_set_self hl] at hx
      injection hx with hx; subst hx
      rw [hp]
      exact .val fr
    · rw [List.getElem?_set_ne (Ne.symm ij)] at hx
      have := r.slot j x hx
      generalize q : σ[j]? = z at this ⊢
      cases this with
      | none => exact .none
      | val y => exact .val (y.mono sb)
      | exc a b => exact .exc a (b.mono sb fun _ _ z => z)
      | @own p2 o2 a b c d =>
        refine .own ?_ b c (d.mono sb)
        have : p2 ≠ p' := by
          rintro rfl
          exact ij (r.dist j i _ _ _ hx e q hp)
        rw [addF_ne this]; exact a
  · intro j k o1 o2 q hj hk
    have hj' : en[j]? = some (.own o1) := by
      by_cases ij : j = i
      · subst ij
        have hl : j < en.length := by
          rw [List.getElem?_eq_some_iff] at e; exact e.1
        rw [List.getElem?_set_self hl] at hj; cases hj
      · rwa [List.getElem?_set_ne (Ne.symm ij)] at hj
    have hk' : en[k]? = some (.own o2) := by
      by_cases ij : k = i
      · subst ij
        have hl : k < en.length := by
          rw [List.getElem?_eq_some_iff] at e; exact e.1
        rw [List.getElem?_set_self hl] at hk; cases hk
      · rwa [List.getElem?_set_ne (Ne.symm ij)] at hk
    exact r.dist j k _ _ q hj' hk'
  · intro a ha
    refine ⟨?_, (r.cellF a ha).2⟩
    have : a ≠ p' := by rintro rfl; exact nc ha
    rw [addF_ne this]; exact (r.cellF a ha).1
  · intro a u h
    have : a ≠ p' := by rintro rfl; rw [nb] at h; cases h
    rw [addF_ne this]; exact r.fix a u h
end

/-! ### ends -/
/-- a value that has come -/
inductive RV (n : Cn) (F : Hp) (σ : St) (H : Hp) (en : En) : OV → V → Prop
  | val {v : V} {d : D} : Rep n.g F v d → RV n F σ H en (.val d) v
  | own {p : Addr} {o : O} : F p = none → n.B p = none → p ∉ n.cells H → OwnAt n.g F H p o → (∀ (i : Nat) (o' : O), en[i]? = some (.own o') → σ[i]? ≠ some (some (.ref p))) → RV n F σ H en (.own o) (.ref p)
/-- a thing that nobody holds is frozen -/
theorem SR.frzV {n : Cn} {F H : Hp} {σ : St} {en : En} {S : Stm} (r : SR n F σ H en S) {o : O} {v : V} (x : RV n F σ H en (.own o) v) :
    ∃ F', SR n F' σ H en S ∧ Rep n.g F' v o.d ∧ Sub F F' := by
  cases x with
  | @own p _ nf nb nc ow hd =>
  have sb := sub_addF (F := F) (H := H) nf
  refine ⟨addF F H p, ⟨r.len, r.slen, r.base, addF_sub r.sub, ?_, r.dist, r.st, r.c0, ?_, ?_⟩, ow.frozen nf, sb⟩
  · intro j x hx
    have := r.slot j x hx
    generalize q : σ[j]? = z at this ⊢
    cases this with
    | none => exact .none
    | val y => exact .val (y.mono sb)
    | exc a b => exact .exc a (b.mono sb fun _ _ z => z)
    | @own p2 o2 a b c d =>
      refine .own ?_ b c (d.mono sb)
      have : p2 ≠ p := by
        rintro rfl
        exact hd j _ hx q
      rw [addF_ne this]; exact a
  · intro a ha
    refine ⟨?_, (r.cellF a ha).2⟩
    have : a ≠ p := by rintro rfl; exact nc ha
    rw [addF_ne this]; exact (r.cellF a ha).1
  · intro a u h
    have : a ≠ p := by rintro rfl; rw [nb] at h; cases h
    rw [addF_ne this]; exact r.fix a u h
def Post {α β : Type} (n : Cn) (W : WX) (σ : St) (F0 : Hp) (R : Hp → St → Hp → En → α → β → Prop) (m : Out α) (Q : β → Hp → Prop) : Prop := match m with
  | .ok r en S => ∀ v H F, Sub F0 F → SR n F σ H en S → R F σ H en r v → Q v H
  | .err C fs en S => ∀ cls d H F, Sub F0 F → SR n F σ H en S → ExcR n.g F H C fs cls d → W cls d σ H
  | .bad => False
section
variable {α β γ δ : Type} {n : Cn} {W : WX} {σ : St} {F0 F1 : Hp} {R : Hp → St → Hp → En → α → β → Prop} {R' : Hp → St → Hp → En → γ → δ → Prop}
theorem Post.mono {m : Out α} {Q : β → Hp → Prop} (p : Post n W σ F0 R m Q) (s : Sub F0 F1) : Post n W σ F1 R m Q := by
  cases m with
  | ok r en S => exact fun v H F h => p v H F (s.trans h)
  | err C fs en S => exact fun c d H F h => p c d H F (s.trans h)
  | bad => exact p
theorem Post.bind {m : Out γ} {k : γ → En → Stm → Out α} {Q : β → Hp → Prop} {Q' : δ → Hp → Prop} (p : Post n W σ F0 R (m.bind k) Q)
    (h : ∀ r en S v H F, m = .ok r en S → Sub F0 F → SR n F σ H en S → R' F σ H en r v → Post n W σ F R (k r en S) Q → Q' v H) : Post n W σ F0 R' m Q' := by
  cases m with
  | ok r en S => exact fun v H F s sr rv => h r en S v H F rfl s sr rv (Post.mono p s)
  | err C fs en S => exact p
  | bad => exact p
theorem Post.ok {a : α} {en : En} {S : Stm} {H F : Hp} {v : β} {Q : β → Hp → Prop} (p : Post n W σ F0 R (.ok a en S) Q) (s : Sub F0 F) (sr : SR n F σ H en S) (r : R F σ H en a v) : Q v H := p v H F s sr r
end
def tM {α β : Type} (n : Cn) (W : WX) (R : Hp → St → Hp → En → α → β → Prop) (f : En → Stm → Out α) : St → Hp → (β → Hp → Prop) → Prop := fun σ H Q =>
  ∃ en S F, SR n F σ H en S ∧ Post n W σ F R (f en S) Q
theorem bind_assoc {α β γ : Type} (m : Out α) (f : α → En → Stm → Out β) (k : β → En → Stm → Out γ) : (m.bind f).bind k = m.bind fun a en S => (f a en S).bind k := by
  cases m <;> rfl
/-- what an operation gives -/
inductive NewV (g : Gh) (H F' H' : Hp) : OV → V → Prop
  | val {v : V} {d : D} : Rep g F' v d → NewV g H F' H' (.val d) v
  | own {p : Addr} {o : O} : H p = none → F' p = none → OwnAt g F' H' p o → NewV g H F' H' (.own o) (.ref p)
def OpPost (g : Gh) (F H : Hp) (r : OV) (Q : VK) : Prop := ∀ v H' F', Grow F H F' H' → NewV g H F' H' r v → Q v H'
theorem NewV.rv {n : Cn} {F H F' H' : Hp} {σ : St} {en : En} {S : Stm} {r : OV} {v : V} (sr : SR n F σ H en S) (w : Grow F H F' H') (x : NewV n.g H F' H' r v) : RV n F' σ H' en r v := by
  cases x with
  | val h => exact .val h
  | @own p o a b c =>
    refine .own b ?_ ?_ c ?_
    · cases e : n.B p with
      | none => rfl
      | some u => rw [sr.base _ _ e] at a; cases a
    · intro h
      rw [sr.cgrow w.hh] at h
      obtain ⟨u, hu⟩ := sr.there p h
      rw [a] at hu; cases hu
    · intro i o' e h
      obtain ⟨p', hp', _, _, _, ow⟩ := sr.at_own e
      rw [h] at hp'; injection hp' with z; injection z with z; injection z with z; subst z
      obtain ⟨u, hu⟩ := ow.some
      rw [a] at hu; cases hu
theorem OpPost.of {n : Cn} {W : WX} {F H : Hp} {σ : St} {en : En} {S : Stm} {r : OV} {Q : VK} (sr : SR n F σ H en S) (p : Post n W σ F (RV n) (.ok r en S) Q) : OpPost n.g F H r Q :=
  fun v H' F' w x => p v H' F' w.ff (sr.grow w) (x.rv sr w)
end PX

set_option Elab.async false
set_option linter.all false
set_option maxRecDepth 100000
/-! PxDk: dicts whose keys are tuples: what the model's dict says of the data. -/
namespace PX
open PySem PySem.Spec L2
open PyProof.Rows hiding St

theorem dO_ok {P : Program} {w : World} {H : Hp} {h : Heap} {a : Addr} {es : List (Int × V × V)} {ep : Nat} (he : DRaw a es ep h) : ObjOk P w H h a (dO a es ep) := by
  obtain ⟨h1, h2, o, arr, g, ex, dt, pr⟩ := he
  refine ⟨⟨h1, h2, o, arr, g, ex, dt, pr⟩, ⟨_, g⟩, fun h3 h4 z k => ?_⟩
  obtain ⟨h1, h2, o, arr, g, ex, dt, pr⟩ := z
  exact ⟨h1, h2, o, arr, k _ g, ex, dt, pr⟩
/-- len of a dict, whatever its keys -/
theorem len_rawD {prog : Program} {w : World} {A : Around} {E : Value → Shared → Prop} {s : Shared} {d : Addr} {es : Array DictEntry} {ep : Nat} {Q : Value → Shared → Prop} (hd : (d == sysModules) = false) (hm : s.heap.DictRaw d es ep) (hfit : (es.size : Int) < 2 ^ 63)
    (h : Q (.int es.size (s.toks + 1)) { s with toks := s.toks + 1 + 1 }) : wpAny (model prog w) A (call (.builtin "len") [.ref d]) Q E s := by
  refine Calls.call_function_entry kind_len plain_len entry_len (args_len1 _) ?_
  unfold Builtin.«len»
  refine wpAny_bind (m := oneArg "len" _) (wpAny_pure ?_)
  refine wpAny_bind (m := callSpecial? (.ref d) (Str.ofString "__len__")) (wpAny_callSpecial?_slot (name := Str.ofString "__len__") hm.typeIs PySem.F.slot_dict_len
    (call_meetsIn PySem.F.slot_dict_len hm.typeIs PySem.F.entry_dict_len (PySem.F.args_dict_len_1 _) (meets_dict_len_raw d hd) ⟨es, ep, hm, ?_⟩))
  show wpAny _ _ _ _ _ { s with toks := s.toks + 1 }
  refine wpAny_bind (wpAny_holding (wpAny_pure ?_))
  refine wpAny_bind (wpAny_letGo ?_)
  show wpAny _ _ (if ((es.size : Nat) : Int) < 0 then _ else _) _ _ _
  rw [if_neg (by omega)]
  show wpAny _ _ (if ((es.size : Nat) : Int) ≥ 2 ^ 63 then _ else _) _ _ _
  rw [if_neg (by omega)]
  exact wpAny_bind (wpAny_mkInt (wpAny_pure ⟨_, rfl, h⟩))
/-- {} -/
theorem raw_empty (h : Heap) (hb : sysModules < h.objs.size) : DRaw h.objs.size [] 0 (h.push { cls := .type "dict", data := .dict #[] }) :=
  ⟨Nat.zero_le _, beq_eq_false_iff_ne.mpr (Ne.symm (Nat.ne_of_lt hb)), _, #[], Heap.get?_push_size _ rfl, ⟨rfl, rfl, rfl⟩, rfl, .nil⟩
theorem pe_dnew {X : Cx} {pos : Pos} : PE X (.Dict [] [] pos) (fun _ H Q => ∀ p, H p = none → Q (.ref p) (upd H p (dO p [] 0))) := ⟨fun pins s σ H Q I h =>
  wpAny_Dict_empty ⟨.ref s.heap.objs.size, _, I.laid (a := s.heap.objs.size) (o := dO s.heap.objs.size [] 0) (t' := s.toks) (fun _ _ q => Heap.get?_push_of_some _ q) (Nat.le_refl _) (dO_ok (raw_empty s.heap I.big)), rfl, h _ (I.hok.fresh (Nat.le_refl _))⟩⟩
theorem RepK.len {g : Gh} {F : Hp} : ∀ {es : List (Int × V × V)} {kvs : List (D × D)}, RepK g F es kvs → es.length = kvs.length
  | _, _, .nil => rfl
  | _, _, .cons _ _ r => by simp [r.len]
theorem RepK.get {g : Gh} {F : Hp} : ∀ {es : List (Int × V × V)} {kvs : List (D × D)} {i : Nat} {h : Int} {k v : V}, RepK g F es kvs → es[i]? = some (h, k, v) → ∃ a b, kvs[i]? = some (a, b) ∧ Rep g F k a ∧ Rep g F v b
  | _, _, 0, _, _, _, .cons r1 r2 _, e => by simp at e; obtain ⟨rfl, rfl, rfl⟩ := e; exact ⟨_, _, rfl, r1, r2⟩
  | _, _, i + 1, _, _, _, .cons _ _ r, e => by simp at e; obtain ⟨a, b, h1, h2⟩ := r.get e; exact ⟨a, b, by simpa using h1, h2⟩
/-! for k in d -/
def ItD (d : Addr) (es : List (Int × V × V)) (ep : Nat) : It :=
  { go := fun i H => H d = some (dO d es ep) ∧ i < es.length
    stop := fun i H => H d = some (dO d es ep) ∧ es.length ≤ i
    yld := fun i H x H' => H' = H ∧ ∃ h v, es[i]? = some (h, x, v) }
theorem paired_get {α β : Type} {F : α → β → Prop} : ∀ {l₁ : List α} {l₂ : List β} {i : Nat} {a : α}, Paired F l₁ l₂ → l₁[i]? = some a → ∃ b, l₂[i]? = some b ∧ F a b
  | _, _, 0, _, .cons h _, e => by simp at e; subst e; exact ⟨_, rfl, h⟩
  | _, _, i + 1, _, .cons _ r, e => by simp at e; obtain ⟨b, h1, h2⟩ := paired_get r e; exact ⟨b, by simpa using h1, h2⟩
theorem turn_raw {P : Program} {w : World} {K : PySem.W.Frag} {tg : Expr} {d : Addr} {es : List (Int × V × V)} {ep : Nat} (it : Addr) : Turn P w K tg (ItD d es ep) [it] it (fun i h => h.IsKeyIter it d i es.length ep) where
  mem := by simp
  obj := fun i h st b hb => by
    have e : b = it := by simpa using hb
    subst e
    obtain ⟨oi, e, c, dd⟩ := st
    exact ⟨oi, e, fun v z => by rw [dd] at z; cases z⟩
  keep := fun i h h' st k => st.at fun oi e => k it (by simp) oi e
  item := by
    intro X hP hw hK hc i pins s σ H E I hf st hg
    subst hP hw hK
    obtain ⟨hd, hi⟩ := hg
    obtain ⟨f0, f1, f2, f3, f4, f5⟩ := hf it (by simp)
    obtain ⟨⟨_, _, o, arr, go, ex, dt, pr⟩, _, _⟩ := I.hok d _ hd
    obtain ⟨⟨h0, k, v⟩, hkv⟩ : ∃ p, es[i]? = some p := ⟨es[i], List.getElem?_eq_getElem hi⟩
    obtain ⟨q, hq, _, hk, _⟩ := paired_get pr hkv
    refine next_key_item st go dt (by rw [← Array.length_toList, Paired.length pr]) (by rw [← Array.getElem?_toList]; exact hq) fun h' st' sb => ?_
    have I1 : Inv X pins σ H { s with heap := h' } := I.turned (t' := s.toks) (fun b ob hb e => (sb.2 b hb).trans e) f0 f1 f3 f4 f5
    obtain ⟨oi, e, c, dd⟩ := id st'
    exact ⟨q.key, rfl, go_of (s := { s with heap := h' }) e c dd (by decide) ⟨k, H, I1, hk, ⟨rfl, h0, v, hkv⟩, st', fun b hb => (hf b hb).1⟩⟩
  done := by
    intro X hP hw hK hc i pins s σ H E I hf st hg
    subst hP hw hK
    obtain ⟨hd, hi⟩ := hg
    obtain ⟨f0, f1, f2, f3, f4, f5⟩ := hf it (by simp)
    obtain ⟨⟨_, _, o, arr, go, ex, dt, pr⟩, _, _⟩ := I.hok d _ hd
    exact next_key_end (I.ok.hd hc) st go dt (by rw [← Array.length_toList, Paired.length pr]) hi fun h' eb => ⟨rfl, I.turned (t' := s.toks) (fun b ob hb e => eb b ob hb e) f0 f1 f3 f4 f5⟩
  self := fun A i s Q E st h => by
    refine wpAny_pyIter_slot st.typeIs PySem.F.slot_dict_keyiterator_iter (wpAny_call_entry PySem.F.slot_dict_keyiterator_iter st.typeIs PySem.F.entry_dict_keyiterator_iter ?_ (PySem.F.args_dict_keyiterator_iter_1 _))
    show wpAny _ _ (ret (.ref it)) _ _ s
    exact wpAny_pure ⟨_, rfl, "dict_keyiterator", _, st.typeIs, PySem.F.slot_dict_keyiterator_next.lookup, h⟩
theorem pi_raw {X : Cx} {tg e : Expr} {td : TE} (he : PE X e td) : PI X tg e (fun σ H R => td σ H fun x H1 => ∃ d es ep, x = .ref d ∧ H1 d = some (dO d es ep) ∧ R (ItD d es ep) H1) := by
  refine ⟨fun pins s σ H R I h => ?_⟩
  refine thn (he.run pins s σ H _ I h) fun u s1 ⟨x, H1, I1, rx, d, es, ep, ex, hd, q⟩ => ?_
  subst ex
  obtain rfl : u = Value.ref d := rx
  obtain ⟨⟨_, hs, o, arr, go, exd, dt, pr⟩, _, _⟩ := I1.hok d _ hd
  refine iter_keys hs go exd dt (pi_one (tk := s1.toks) I1 _ (turn_raw _) ⟨_, Heap.get?_push_size _ rfl, rfl, ?_⟩ q)
  rw [show arr.size = es.length by rw [← Array.length_toList, Paired.length pr]] <;> rfl
mutual
theorem nk_inj : ∀ {a b : D}, a.isKey = true → b.isKey = true → nk a = nk b → a = b
  | .int i, b, _, hb, e => by cases b <;> first | (cases hb; done) | (simp [nk] at e; try subst e; try rfl)
  | .str x, b, _, hb, e => by cases b <;> first | (cases hb; done) | (simp [nk] at e; try subst e; try rfl)
  | .tup ds, b, ha, hb, e => by
    cases b with
    | tup es =>
      simp only [nk, NestedKey.tup.injEq] at e
      rw [nkAll_inj (by simpa [D.isKey] using ha) (by simpa [D.isKey] using hb) e]
    | int => simp [nk] at e
    | str => simp [nk] at e
    | _ => cases hb
  | .non, _, h, _, _ => by cases h
  | .bl _, _, h, _, _ => by cases h
  | .lst _, _, h, _, _ => by cases h
  | .dct _, _, h, _, _ => by cases h
  | .obj _ _, _, h, _, _ => by cases h
  | .glo _, _, h, _, _ => by cases h
  | .ty _, _, h, _, _ => by cases h
  | .st, _, h, _, _ => by cases h
theorem nkAll_inj : ∀ {as bs : List D}, keyAll as = true → keyAll bs = true → nkAll as = nkAll bs → as = bs
  | [], [], _, _, _ => rfl
  | [], _ :: _, _, _, e => by simp [nkAll] at e
  | _ :: _, [], _, _, e => by simp [nkAll] at e
  | a :: r, b :: s, ha, hb, e => by
    simp only [nkAll, List.cons.injEq] at e
    simp only [keyAll, Bool.and_eq_true] at ha hb
    rw [nk_inj ha.1 hb.1 e.1, nkAll_inj ha.2 hb.2 e.2]
end
theorem tkey_key {d : D} (h : tkey d = true) : d.isKey = true := by
  cases d with
  | tup ds =>
    simp only [tkey, Bool.and_eq_true] at h
    exact h.1
  | _ => cases h
theorem tkey_depth {d : D} (h : tkey d = true) : (nk d).depth ≤ 8 := by
  cases d with
  | tup ds =>
    simp only [tkey, Bool.and_eq_true, decide_eq_true_eq] at h
    exact h.2
  | _ => cases h
section
variable {X : Cx} {pins : List (Addr × Obj)} {σ : St} {H F : Hp} {s : Shared} {g : Gh}
mutual
theorem nest_rep (I : Inv X pins σ H s) (sb : Sub F H) : ∀ {v : V} {d : D} {u : Value}, Rep g F v d → d.isKey = true → RelV v u → NestedIs s.heap (nk d) u
  | _, _, _, .int i, _, r => by obtain ⟨t, rfl⟩ := r; exact .int i t
  | _, _, _, .str x, _, r => by obtain ⟨t, rfl⟩ := r; exact .text x t
  | _, _, _, .tup (a := a) (vs := vs) (ds := ds) h ra, k, r => by
    cases r
    obtain ⟨_, its, vals, o, ho, hc, n, hd⟩ := I.hok a _ (sb _ _ h)
    exact .tup ho hc hd (nest_all I sb ra (by simpa [D.isKey] using k) (by simpa using vals))
  | _, _, _, .non, k, _ => by cases k
  | _, _, _, .bl _, k, _ => by cases k
  | _, _, _, .ty _, k, _ => by cases k
  | _, _, _, .st, k, _ => by cases k
  | _, _, _, .glo _, k, _ => by cases k
  | _, _, _, .lst _ _, k, _ => by cases k
  | _, _, _, .dct _ _ _ _, k, _ => by cases k
  | _, _, _, .obj _ _ _, k, _ => by cases k
theorem nest_all (I : Inv X pins σ H s) (sb : Sub F H) : ∀ {vs : List V} {ds : List D} {us : List Value}, RepA g F vs ds → keyAll ds = true → Vals vs us → NestedAll s.heap (nkAll ds) us
  | _, _, _, .nil, _, .nil => .nil
  | _, _, _, .cons h r, k, .cons a b => by
    simp only [keyAll, Bool.and_eq_true] at k
    exact .cons (nest_rep I sb h k.1 a) (nest_all I sb r k.2 b)
end
/-- the entries, in the three ways in which they are told -/
inductive KX (w : World) : List (Int × V × V) → List (D × D) → List (NestedKey × Addr × Value) → Prop
  | nil : KX w [] [] []
  | cons {es kvs xs v u a} {k x : D} : RelV v u → KX w es kvs xs → KX w (((nk k).hash w, .ref a, v) :: es) ((k, x) :: kvs) ((nk k, a, u) :: xs)
theorem tkeys_cons {k x : D} {r : List (D × D)} (h : tkeys ((k, x) :: r) = true) : tkey k = true ∧ tkeys r = true := by
  simpa [tkeys] using h
theorem KX.keys {w : World} {es : List (Int × V × V)} {kvs : List (D × D)} {xs : List (NestedKey × Addr × Value)} (h : KX w es kvs xs) : xs.map (·.1) = kvs.map fun p => nk p.1 := by
  induction h with
  | nil => rfl
  | cons _ _ ih => simp [ih]
theorem KX.len {w : World} {es : List (Int × V × V)} {kvs : List (D × D)} {xs : List (NestedKey × Addr × Value)} (h : KX w es kvs xs) : es.length = kvs.length ∧ xs.length = kvs.length := by
  induction h with
  | nil => exact ⟨rfl, rfl⟩
  | cons _ _ ih => simp [ih.1, ih.2]
theorem nodup_nk : ∀ {kvs : List (D × D)}, tkeys kvs = true → (kvs.map (·.1)).Nodup → (kvs.map fun p => nk p.1).Nodup
  | [], _, _ => List.nodup_nil
  | (k, x) :: r, h, n => by
    have h := tkeys_cons h
    rw [List.map_cons, List.nodup_cons] at n ⊢
    refine ⟨fun hm => ?_, nodup_nk h.2 n.2⟩
    obtain ⟨p, hp, e⟩ := List.mem_map.mp hm
    have hk : tkey p.1 = true := by
      have := h.2
      simp only [tkeys, List.all_eq_true] at this
      exact this p hp
    exact n.1 (List.mem_map.mpr ⟨p, hp, nk_inj (tkey_key hk) (tkey_key h.1) e⟩)
theorem RepK.inv {h : Int} {k v : V} {es : List (Int × V × V)} {a b : D} {kvs : List (D × D)} : RepK g F ((h, k, v) :: es) ((a, b) :: kvs) → h = hashD g.w a ∧ Rep g F k a ∧ Rep g F v b ∧ RepK g F es kvs
  | .cons r1 r2 r3 => ⟨rfl, r1, r2, r3⟩
theorem dk_key (I : Inv X pins σ H s) (sb : Sub F H) (hw : g.w = X.w) : ∀ {es : List (Int × V × V)} {kvs : List (D × D)} {qs : List DictEntry}, RepK g F es kvs → tkeys kvs = true → Paired (fun (p : Int × V × V) (q : DictEntry) => p.1 = q.hash ∧ RelV p.2.1 q.key ∧ RelV p.2.2 q.val) es qs →
      ∃ xs : List (NestedKey × Addr × Value), KX X.w es kvs xs ∧ qs = xs.map (entryOfKey (nestedKind X.prog X.w)) ∧ ∀ x ∈ xs, (nestedKind X.prog X.w).is s.heap x.1 x.2.1
  | _, _, _, .nil, _, .nil => ⟨[], .nil, rfl, fun x h => by cases h⟩
  | (h0, k, v) :: es, (a, b) :: kvs, q :: qs, r, t, .cons hq pr => by
    have t := tkeys_cons t
    obtain ⟨e0, rk, rv, rr⟩ := r.inv
    obtain ⟨xs, kx, e, his⟩ := dk_key I sb hw rr t.2 pr
    obtain ⟨h1, h2, h3⟩ := hq
    obtain ⟨qh, qk, qv⟩ := q
    have h1 : h0 = qh := h1
    subst h1
    cases a with
    | tup ds =>
      cases rk with
      | @tup ad vs _ hF ra =>
        have hn : NestedIs s.heap (nk (.tup ds)) (.ref ad) := nest_rep I sb (.tup hF ra) (tkey_key t.1) rfl
        have h2 : qk = .ref ad := h2
        subst h2
        have eh : h0 = (nk (.tup ds)).hash X.w := by rw [e0, ← hw]; rfl
        subst eh
        refine ⟨(nk (.tup ds), ad, qv) :: xs, .cons h3 kx, by rw [List.map_cons, ← e]; rfl, ?_⟩
        intro x hx
        rcases List.mem_cons.mp hx with rfl | hx
        · exact ⟨hn, tkey_depth t.1⟩
        · exact his x hx
    | _ => cases t.1
/-- the dict of the model, by its entries -/
theorem dk_of (I : Inv X pins σ H s) (sb : Sub F H) {d : Addr} {es : List (Int × V × V)} {kvs : List (D × D)} {ep : Nat} (raw : DRaw d es ep s.heap) (r : RepK g F es kvs) (hw : g.w = X.w) (tk : tkeys kvs = true) (nd : (kvs.map (·.1)).Nodup) :
    ∃ xs, KX X.w es kvs xs ∧ s.heap.DictOfH (nestedKind X.prog X.w) d xs := by
  obtain ⟨_, _, o, arr, go, ex, dt, pr⟩ := raw
  obtain ⟨xs, kx, e, his⟩ := dk_key I sb hw r tk pr
  refine ⟨xs, kx, o, arr, ep, go, ex, dt, e, his, ?_⟩
  rw [kx.keys]
  exact nodup_nk tk nd
/-- .. and back -/
theorem raw_of {P : Program} {w : World} {h : Heap} {d : Addr} {es : List (Int × V × V)} {kvs : List (D × D)} {xs : List (NestedKey × Addr × Value)} (kx : KX w es kvs xs) (m : h.DictOfH (nestedKind P w) d xs) (hl : kvs.length ≤ sizeLine) (hd : (d == sysModules) = false) : ∃ ep, DRaw d es ep h := by
  obtain ⟨o, arr, ep, go, ex, dt, e, h8, h9⟩ := m
  clear h8 h9
  refine ⟨ep, by rw [kx.len.1]; exact hl, hd, o, arr, go, ex, dt, ?_⟩
  rw [e]
  clear e
  induction kx with
  | nil => exact .nil
  | cons hr _ ih => exact .cons ⟨rfl, rfl, hr⟩ (ih (by simp at hl; omega))
/-- what stands at a key -/
theorem KX.at_key {w : World} {es : List (Int × V × V)} {kvs : List (D × D)} {xs : List (NestedKey × Addr × Value)} (kx : KX w es kvs xs) (r : RepK g F es kvs) (tk : tkeys kvs = true) {k : D} (hk : tkey k = true) :
    match dget kvs k with
    | some x => ∃ a u v, atKey xs (nk k) = some (a, u) ∧ RelV v u ∧ Rep g F v x
    | none => atKey xs (nk k) = none := by
  induction kx with
  | nil => exact rfl
  | @cons es kvs xs v u a k0 x hr kx ih =>
    have t := tkeys_cons tk
    obtain ⟨_, rk, rv, rr⟩ := r.inv
    have ih := ih rr t.2
    by_cases e : k0 = k
    · subst e
      have : dget ((k0, x) :: kvs) k0 = some x := by simp [dget]
      rw [this]
      exact ⟨a, u, v, by simp [atKey], hr, rv⟩
    · have e1 : dget ((k0, x) :: kvs) k = dget kvs k := by simp [dget, e]
      have e2 : atKey ((nk k0, a, u) :: xs) (nk k) = atKey xs (nk k) := by
        have : ¬ nk k0 = nk k := fun z => e (nk_inj (tkey_key t.1) (tkey_key hk) z)
        simp [atKey, this]
      rw [e1, e2]
      exact ih
/-- a stored entry -/
theorem KX.app {w : World} {es es' : List (Int × V × V)} {kvs kvs' : List (D × D)} {xs xs' : List (NestedKey × Addr × Value)} (h : KX w es kvs xs) (h' : KX w es' kvs' xs') : KX w (es ++ es') (kvs ++ kvs') (xs ++ xs') := by
  induction h with
  | nil => exact h'
  | cons r _ ih => exact .cons r ih
theorem RepK.app : ∀ {es es' : List (Int × V × V)} {kvs kvs' : List (D × D)}, RepK g F es kvs → RepK g F es' kvs' → RepK g F (es ++ es') (kvs ++ kvs')
  | _, _, _, _, .nil, h => h
  | _, _, _, _, .cons a b r, h => .cons a b (r.app h)
theorem any_dget (kvs : List (D × D)) (k : D) : (kvs.any fun p => decide (p.1 = k)) = (dget kvs k).isSome := by
  induction kvs with
  | nil => rfl
  | cons p r ih =>
    by_cases e : p.1 = k
    · simp [dget, e]
    · simp only [List.any_cons, decide_eq_false e, Bool.false_or, ih]
      simp [dget, e]
theorem KX.put {w : World} {es : List (Int × V × V)} {kvs : List (D × D)} {xs : List (NestedKey × Addr × Value)} (kx : KX w es kvs xs) (hw : g.w = w) (r : RepK g F es kvs) (tk : tkeys kvs = true) {k y : D} (hk : tkey k = true) {a : Addr} {v : V} {u : Value} (hv : RelV v u) (rk : Rep g F (.ref a) k) (ry : Rep g F v y) :
    ∃ es', KX w es' (dput kvs k y) (storedH xs (nk k) a u) ∧ RepK g F es' (dput kvs k y) := by
  have base := kx.at_key r tk hk
  unfold dput
  rw [any_dget]
  cases q : dget kvs k with
  | none =>
    rw [q] at base
    simp only [Option.isSome_none, Bool.false_eq_true, if_false]
    rw [storedH_new base]
    refine ⟨es ++ [((nk k).hash w, .ref a, v)], kx.app (.cons hv .nil), r.app ?_⟩
    rw [← hw]
    exact .cons rk ry .nil
  | some z =>
    rw [q] at base
    obtain ⟨a0, u0, v0, e0, _, _⟩ := base
    simp only [Option.isSome_some, if_true]
    rw [storedH_old e0]
    clear e0 q
    induction kx with
    | nil => exact ⟨[], .nil, .nil⟩
    | @cons es kvs xs v1 u1 a1 k1 x1 hr kx ih =>
      have t := tkeys_cons tk
      obtain ⟨_, rk1, rv1, rr⟩ := r.inv
      obtain ⟨es', kx', r'⟩ := ih rr t.2
      by_cases e : k1 = k
      · subst e
        refine ⟨((nk k1).hash w, .ref a1, v) :: es', ?_, ?_⟩
        · have e1 : putAt (nk k1) u (nk k1, a1, u1) = (nk k1, a1, u) := by simp [putAt]
          rw [List.map_cons, List.map_cons, e1]
          simp only [if_true]
          exact .cons hv kx'
        · rw [List.map_cons]
          simp only [if_true]
          rw [← hw]
          exact .cons rk1 ry r'
      · refine ⟨((nk k1).hash w, .ref a1, v1) :: es', ?_, ?_⟩
        · have hne : ¬ nk k1 = nk k := fun z => e (nk_inj (tkey_key t.1) (tkey_key hk) z)
          have e1 : putAt (nk k) u (nk k1, a1, u1) = (nk k1, a1, u1) := by simp [putAt, hne]
          rw [List.map_cons, List.map_cons, e1]
          simp only [if_neg e]
          exact .cons hr kx'
        · rw [List.map_cons]
          simp only [if_neg e]
          rw [← hw]
          exact .cons rk1 rv1 r'
theorem dput_keys (kvs : List (D × D)) (k y : D) : (dput kvs k y).map (·.1) = if (dget kvs k).isSome = true then kvs.map (·.1) else kvs.map (·.1) ++ [k] := by
  unfold dput
  rw [any_dget]
  cases q : dget kvs k with
  | none => simp
  | some z =>
    simp only [Option.isSome_some, if_true, List.map_map]
    apply List.map_congr_left
    intro p _
    show (if p.1 = k then (p.1, y) else p).1 = p.1
    by_cases e : p.1 = k
    · rw [if_pos e]
    · rw [if_neg e]
theorem dget_none {kvs : List (D × D)} {k : D} (h : dget kvs k = none) : k ∉ kvs.map (·.1) := by
  intro hm
  obtain ⟨p, hp, e⟩ := List.mem_map.mp hm
  have := any_dget kvs k
  rw [h] at this
  have h2 : (kvs.any fun p => decide (p.1 = k)) = true := List.any_eq_true.mpr ⟨p, hp, decide_eq_true e⟩
  rw [h2] at this
  cases this
theorem dput_nodup {kvs : List (D × D)} (n : (kvs.map (·.1)).Nodup) (k y : D) : ((dput kvs k y).map (·.1)).Nodup := by
  rw [dput_keys]
  cases q : dget kvs k with
  | some => simpa using n
  | none =>
    simp only [Option.isSome_none, Bool.false_eq_true, if_false]
    rw [List.nodup_append]
    refine ⟨n, by simp, ?_⟩
    intro a ha b hb e
    rw [List.mem_singleton.mp hb] at e
    subst e
    exact dget_none q ha
theorem dput_tkeys {kvs : List (D × D)} (t : tkeys kvs = true) {k : D} (hk : tkey k = true) (y : D) : tkeys (dput kvs k y) = true := by
  have h1 : ∀ l : List (D × D), tkeys l = (l.map (·.1)).all tkey := by intro l; simp [tkeys, List.all_map, Function.comp_def]
  rw [h1, dput_keys] 
  rw [h1] at t
  split
  · exact t
  · rw [List.all_append, t]; simp [hk]
theorem keyAll_all : ∀ l : List D, keyAll l = l.all D.isKey
  | [] => rfl
  | d :: r => by simp [keyAll, keyAll_all r]
theorem tkeys_key {kvs : List (D × D)} (t : tkeys kvs = true) : keyAll (kvs.map (·.1)) = true := by
  rw [keyAll_all, List.all_eq_true]
  intro d hd
  obtain ⟨p, hp, rfl⟩ := List.mem_map.mp hd
  simp only [tkeys, List.all_eq_true] at t
  exact tkey_key (t p hp)
theorem dput_len (kvs : List (D × D)) (k y : D) : (dput kvs k y).length ≤ kvs.length + 1 := by
  have := congrArg List.length (dput_keys kvs k y)
  simp only [List.length_map] at this
  rw [this]
  split <;> simp
theorem tkey_ref (hk : tkey d = true) {v : V} (r : Rep g F v d) : ∃ a, v = .ref a := by
  cases d with
  | tup ds => cases r with | tup h ra => exact ⟨_, rfl⟩
  | _ => cases hk
/-! the operations -/
/-- d[k] -/
theorem ix_dk {value slice : Expr} (hu : X.A.units + 80 < cLine) (hw : g.w = X.w) (I : Inv X pins σ H s) (sb : Sub F H) {d : Addr} {es : List (Int × V × V)} {kvs : List (D × D)} {ep : Nat} (hd : H d = some (dO d es ep)) (r : RepK g F es kvs) (nd : (kvs.map (·.1)).Nodup) (tk : tkeys kvs = true)
    {k x : D} (hk : tkey k = true) (hx : dget kvs k = some x) {v : V} {u : Value} {Q : VK} (rv : Rep g F v k) (rl : RelV v u) (q : ∀ v', Rep g F v' x → Q v' H) (hs : subscripted slice false (.ref d) u = operate [.ref d, u] (getItem (.ref d) u)) :
    wpAny (model X.prog X.w) X.A (subscriptTail value slice (.ref d) u) (EP X pins σ Q) X.xe s := by
  obtain ⟨raw, _, _⟩ := I.hok d _ hd
  obtain ⟨xs, kx, hm⟩ := dk_of I sb raw r hw tk nd
  obtain ⟨a, rfl⟩ := tkey_ref hk rv
  cases rl
  have base := kx.at_key r tk hk
  rw [hx] at base
  obtain ⟨a1, u1, v1, e1, rl1, rv1⟩ := base
  have hn : NestedIs s.heap (nk k) (.ref a) := nest_rep I sb rv (tkey_key hk) rfl
  exact subscriptTail_builtinR (x := u1) hm.typeIs PySem.F.slot_dict_getitem.lookup
    (wpAny_getItem_heap (knd := nestedKind X.prog X.w) (Q := fun r s' => r = u1 ∧ EP X pins σ Q r s') (k := nk k) (by show X.A.units + 1 + 8 < cLine; omega) ⟨hn, tkey_depth hk⟩ hm e1 ⟨rfl, _, H, I.tok _, rl1, q _ rv1⟩) hs
/-- k in d, k not in d -/
theorem in_dk (hu : X.A.units + 64 < cLine) (hw : g.w = X.w) (I : Inv X pins σ H s) (sb : Sub F H) {d : Addr} {es : List (Int × V × V)} {kvs : List (D × D)} {ep : Nat} (hd : H d = some (dO d es ep)) (r : RepK g F es kvs) (nd : (kvs.map (·.1)).Nodup) (tk : tkeys kvs = true)
    {k : D} (hk : tkey k = true) {v : V} {u : Value} {Q : VK} {neg : Bool} (rv : Rep g F v k) (rl : RelV v u) (q : Q (.bl (if neg then !(dget kvs k).isSome else (dget kvs k).isSome)) H) :
    wpAny (model X.prog X.w) X.A (compareOp (if neg then .NotIn else .In) u (.ref d)) (EP X pins σ Q) X.xe s := by
  obtain ⟨raw, _, _⟩ := I.hok d _ hd
  obtain ⟨xs, kx, hm⟩ := dk_of I sb raw r hw tk nd
  obtain ⟨a, rfl⟩ := tkey_ref hk rv
  cases rl
  have base := kx.at_key r tk hk
  have e : (atKey xs (nk k)).isSome = (dget kvs k).isSome := by
    revert base
    cases dget kvs k with
    | none => intro base; have base : atKey xs (nk k) = none := base; rw [base]; rfl
    | some x => rintro ⟨a1, u1, v1, e1, _, _⟩; rw [e1]; rfl
  have hn : NestedIs s.heap (nk k) (.ref a) := nest_rep I sb rv (tkey_key hk) rfl
  have room : (nestedKind X.prog X.w).room X.A.in1 := by show X.A.units + 1 + 8 < cLine; omega
  cases neg with
  | false => exact wpAny_in_heap (knd := nestedKind X.prog X.w) (k := nk k) room ⟨hn, tkey_depth hk⟩ raw.2.1 hm ⟨.bl _, H, I.tok _, by rw [e]; rfl, q⟩
  | true =>
    show wpAny _ _ (do return Value.bool (!(← contains (.ref d) (.ref a)))) _ _ s
    exact wpAny_bind (wpAny_contains_heap (knd := nestedKind X.prog X.w) (k := nk k) room ⟨hn, tkey_depth hk⟩ raw.2.1 hm (wpAny_pure ⟨.bl _, H, I.tok _, by rw [e]; rfl, q⟩))
/-- d.get(k, y) -/
theorem get_dk (hu : X.A.units + 64 < cLine) (hw : g.w = X.w) (I : Inv X pins σ H s) (sb : Sub F H) {d : Addr} {es : List (Int × V × V)} {kvs : List (D × D)} {ep : Nat} (hd : H d = some (dO d es ep)) (r : RepK g F es kvs) (nd : (kvs.map (·.1)).Nodup) (tk : tkeys kvs = true)
    {k y : D} (hk : tkey k = true) {v vy : V} {u uy : Value} {Q : VK} (rv : Rep g F v k) (rl : RelV v u) (ry : Rep g F vy y) (rly : RelV vy uy) (q : ∀ v', Rep g F v' ((dget kvs k).getD y) → Q v' H) :
    wpAny (model X.prog X.w) X.A (call (.builtin "dict.get") [.ref d, u, uy]) (EP X pins σ Q) X.xe s := by
  obtain ⟨raw, _, _⟩ := I.hok d _ hd
  obtain ⟨xs, kx, hm⟩ := dk_of I sb raw r hw tk nd
  obtain ⟨a, rfl⟩ := tkey_ref hk rv
  cases rl
  have base := kx.at_key r tk hk
  have hn : NestedIs s.heap (nk k) (.ref a) := nest_rep I sb rv (tkey_key hk) rfl
  have room : (nestedKind X.prog X.w).room X.A.in1 := by show X.A.units + 1 + 8 < cLine; omega
  refine call_meetsIn PySem.F.slot_dict_get hm.typeIs PySem.F.entry_dict_get (PySem.F.args_dict_get_3 _ _ _) (meetsH_dict_get_default (nestedKind X.prog X.w) d a raw.2.1 uy) ⟨room, nk k, xs, ⟨hn, tkey_depth hk⟩, hm, ?_⟩
  revert base q
  cases dget kvs k with
  | none => intro q base; rw [base]; exact ⟨vy, H, I.tok _, rly, q _ ry⟩
  | some x => rintro q ⟨a1, u1, v1, e1, rl1, rv1⟩; rw [e1]; exact ⟨v1, H, I.tok _, rl1, q _ rv1⟩
/-- d[k] = y -/
theorem set_dk (hu : X.A.units + 64 < cLine) (hw : g.w = X.w) (I : Inv X pins σ H s) (sb : Sub F H) {d : Addr} {es : List (Int × V × V)} {kvs : List (D × D)} {ep : Nat} (hd : H d = some (dO d es ep)) (r : RepK g F es kvs) (nd : (kvs.map (·.1)).Nodup) (tk : tkeys kvs = true) (hl : kvs.length < sizeLine)
    {k y : D} (hk : tkey k = true) {v vy : V} {u uy : Value} {Q : Hp → Prop} (rv : Rep g F v k) (rl : RelV v u) (ry : Rep g F vy y) (rly : RelV vy uy) (q : ∀ es' ep', RepK g F es' (dput kvs k y) → Q (upd H d (dO d es' ep'))) :
    wpAny (model X.prog X.w) X.A (setItem (.ref d) u uy) (fun _ s' => ∃ H', Inv X pins σ H' s' ∧ Q H') X.xe s := by
  obtain ⟨raw, _, _⟩ := I.hok d _ hd
  obtain ⟨xs, kx, hm⟩ := dk_of I sb raw r hw tk nd
  obtain ⟨a, rfl⟩ := tkey_ref hk rv
  cases rl
  have hn : NestedIs s.heap (nk k) (.ref a) := nest_rep I sb rv (tkey_key hk) rfl
  have room : (nestedKind X.prog X.w).room X.A.in1 := by show X.A.units + 1 + 8 < cLine; omega
  obtain ⟨es', kx', r'⟩ := kx.put hw r tk hk rly rv ry
  refine wpAny_setItem_heap (knd := nestedKind X.prog X.w) (k := nk k) (hsz := by rw [kx.len.2]; omega) room ⟨hn, tkey_depth hk⟩ hm fun h' hm' hs => ?_
  obtain ⟨ep', raw'⟩ := raw_of kx' hm' (by have := dput_len kvs k y; omega) raw.2.1
  have he : ∃ q, h'.get? d = some q := by
    obtain ⟨_, _, o, arr, go, _⟩ := raw'
    exact ⟨o, go⟩
  exact ⟨_, d_write I (by rw [hd]; exact True.intro) hs he (dO_ok raw'), q es' ep' r'⟩
/-- d[k] = y, as a target -/
def rSetK (g : Gh) : V → V → V → Hp → (Hp → Prop) → Prop := fun o i v H Q => ∃ F a es ep kvs k y, o = .ref a ∧ Sub F H ∧ H a = some (dO a es ep) ∧ RepK g F es kvs ∧ (kvs.map (·.1)).Nodup ∧ tkeys kvs = true ∧ kvs.length < sizeLine ∧ tkey k = true ∧ Rep g F i k ∧ Rep g F v y ∧
  ∀ es' ep', RepK g F es' (dput kvs k y) → Q (upd H a (dO a es' ep'))
theorem set_dct (hu : X.A.units + 64 < cLine) (hw : g.w = X.w) : PSet X (rSetK g) := by
  intro pins s σ H o i v ov iv u Q I ro ri rv h
  obtain ⟨F, a, es, ep, kvs, k, y, rfl, sb, hd, r, nd, tk, hl, hk, rk, ry, q⟩ := h
  cases ro
  exact set_dk hu hw I sb hd r nd tk hl hk rk ri ry rv q
end
end PX

set_option Elab.async false
set_option linter.all false
set_option maxRecDepth 100000
/-! PxEqD: == of two dicts of no or one text key; of a tuple and a dict. -/
namespace PX
open PySem PySem.Spec L2 SeqAt
open PyProof.Rows hiding St
/-- a dict of at most one pair, a text and an integer -/
structure OneD (s : Shared) (p : Addr) (kv : Option (Str × Int)) : Prop where
  sys : (p == sysModules) = false
  at_ : ∃ o es ep, s.heap.get? p = some o ∧ o.ExactDict ∧ o.data = .dict es ep ∧ match kv with
    | none => es = #[]
    | some (z, i) => ∃ e t t', es = #[e] ∧ e.key = .str z t ∧ e.val = .int i t'
section
variable {A : Around} {s : Shared} {p q : Addr} {kv : Option (Str × Int)}
theorem samePairs_one {nm : String} {prog : Program} {w : World} {E : Value → Shared → Prop} {Q : Bool → Shared → Prop} (a : OneD s p kv) (b : OneD s q kv) (h : Q true s) : wpAny (model prog w) A (Builtin.Dict.samePairs nm p q) Q E s := by
  obtain ⟨ha, oa, es, ep, hoa, _, hda, ka⟩ := a
  obtain ⟨hb, ob, es', ep', hob, _, hdb, kb⟩ := b
  unfold Builtin.Dict.samePairs Builtin.Dict.showsAll
  rw [if_neg (show ¬ (p == sysModules) = true by rw [ha]; exact Bool.false_ne_true), if_neg (show ¬ (q == sysModules) = true by rw [hb]; exact Bool.false_ne_true)]
  refine wpAny_bind (wpAny_pure (wpAny_bind (wpAny_pure ?_)))
  refine wpAny_bind (wpAny_dictEntries hoa hda ?_)
  dsimp only
  refine wpAny_bind (wpAny_dictEntries hob hdb ?_)
  cases kv with
  | none =>
    obtain rfl : es = #[] := ka
    obtain rfl : es' = #[] := kb
    rw [if_neg (by simp)]
    refine wpAny_bind (wpAny_dictEpoch hoa hda ?_)
    refine wpAny_bind ?_
    rw [Std.Legacy.Range.forIn_eq_forIn_range']
    exact wpAny_pure (wpAny_pure h)
  | some kv =>
    obtain ⟨z, i⟩ := kv
    obtain ⟨e, t, t', rfl, hk, hv⟩ := ka
    obtain ⟨e', u, u', rfl, hk', hv'⟩ := kb
    rw [if_neg (by simp)]
    refine wpAny_bind (wpAny_dictEpoch hoa hda ?_)
    refine wpAny_bind ?_
    rw [Std.Legacy.Range.forIn_eq_forIn_range']
    simp only [Std.Legacy.Range.size, Nat.sub_zero, Nat.add_sub_cancel, Nat.div_one]
    show wpAny _ _ (forIn (List.range' 0 1 1) _ _) _ _ _
    rw [show List.range' 0 1 1 = [0] from rfl, List.forIn_cons]
    refine wpAny_bind ?_
    refine wpAny_bind (wpAny_dictEntries hoa hda ?_)
    show wpAny _ _ (holding [e.key, e.val] _ >>= _) _ _ _
    refine wpAny_bind (wpAny_holding ?_)
    show wpAny _ _ (dictFind q e.key e.hash >>= _) _ _ _
    rw [hk]
    refine wpAny_bind (PyProof.Rows.KTD.kt_dictFind_strs hob hdb (by simp [hk', isExactStrKey]) ?_)
    have hf : (#[e'] : Array DictEntry).findIdx? (fun e => e.key.isStr z) = some 0 := by
      simp [hk', Value.isStr]
    rw [hf]
    refine wpAny_bind (wpAny_dictEntries hob hdb ?_)
    show wpAny _ _ (holding [e'.val] (eqBool e.val e'.val)) _ _ _
    rw [hv, hv']
    refine wpAny_holding ?_
    refine EqAt.int_int i t' i u' prog w E _ ?_
    rw [beq_self_eq_true]
    show wpAny _ _ (if (!true) = true then _ else _) _ _ _
    rw [if_neg (by decide)]
    refine wpAny_bind (wpAny_dictEpoch hoa hda ?_)
    rw [if_neg (by simp)]
    refine wpAny_pure ?_
    exact wpAny_pure (wpAny_pure h)
theorem rc_dicts (a : OneD s p kv) (b : OneD s q kv) (hu : A.units < cLine) : RcAt A s (.ref p) (.ref q) true := fun prog w E Q h => by
  obtain ⟨oa, es, ep, hoa, exa, _⟩ := a.at_
  obtain ⟨ob, es', ep', hob, exb, _⟩ := b.at_
  have ta : s.TypeIs (.ref p) "dict" := ⟨_, hoa, exa.1⟩
  have tb : s.TypeIs (.ref q) "dict" := ⟨_, hob, exb.1⟩
  refine wpAny_richCompare_same_room (op := .Eq) ta tb PySem.F.slot_dict_eq (wpAny_call_entry PySem.F.slot_dict_eq ta PySem.F.entry_dict_eq ?_ (PySem.F.args_dict_eq_2 _ _)) hu
  show wpAny _ _ (Builtin.Dict.dictSlotArgs "__eq__" ⟨[.ref p, .ref q], []⟩ >>= _) _ _ s
  refine wpAny_bind ?_
  unfold Builtin.Dict.dictSlotArgs
  refine wpAny_bind (wpAny_notOrdered_dict ta ?_)
  show wpAny _ _ (pure (Value.ref p, Value.ref q)) _ _ s
  refine wpAny_pure ?_
  refine wpAny_bind (wpAny_isInstance (T := "dict") tb PySem.F.sub_dict_dict ?_)
  simp only [Bool.not_true, Bool.false_eq_true, if_false]
  refine wpAny_bind (wpAny_pure (wpAny_bind (wpAny_pure ?_)))
  refine wpAny_bind (samePairs_one a b ?_)
  refine wpAny_pure ⟨_, rfl, ?_, ?_⟩
  · exact fun x => nomatch x
  · exact h
theorem eq_dicts (a : OneD s p kv) (b : OneD s q kv) (hu : A.units < cLine) : EqAt A s (.ref p) (.ref q) true := by
  by_cases e : p = q
  · subst e; exact .same _
  · exact .of_refs e (rc_dicts a b hu)
theorem tuple_no_dict {prog : Program} {w : World} {E : Value → Shared → Prop} {l b : Addr} {ol ob : Obj} {items : Array Value} {n : Nat} {Q : Value → Shared → Prop} (hl : s.heap.get? l = some ol) (hlc : ol.cls = .type "tuple") (hld : ol.data = .seq items n) (hb : s.heap.get? b = some ob) (hbc : ob.cls = .type "dict")
    (h : Q .notImplemented s) : wpAny (model prog w) A (call (.builtin "tuple.__eq__") [.ref l, .ref b]) Q E s := by
  obtain ⟨c1, d1, t1, s1⟩ := ol
  obtain ⟨c2, d2, t2, s2⟩ := ob
  simp only at hlc hld hbc
  subst hlc hld hbc
  refine call_meets (S := fun _ R s => s.heap.get? l = some { cls := .type "tuple", dict := d1, data := .seq items n, slots := s1 } ∧ s.heap.get? b = some { cls := .type "dict", dict := d2, data := t2, slots := s2 } ∧ R (.ok (.ret .notImplemented)) s)
    PySem.F.slot_tuple_eq ⟨_, hl, rfl⟩ PySem.F.entry_tuple_eq (PySem.F.args_tuple_eq_2 _ _) ?_ ⟨hl, hb, h⟩
  exact .of_wp fun prog w A R s h => by
    obtain ⟨hp, g, d, tk, os⟩ := s
    obtain ⟨hl, hb, h⟩ := h
    have f1 := PySem.F.sub_dict_tuple
    wp_walk using AutoSeq1.wpAny_loadPart' hl, AutoSeq1.wpAny_loadPart' hb
    exact ⟨_, rfl, h⟩
theorem dict_no_tuple {prog : Program} {w : World} {E : Value → Shared → Prop} {l b : Addr} {ol ob : Obj} {Q : Value → Shared → Prop} (hl : s.heap.get? l = some ol) (hlc : ol.cls = .type "tuple") (hb : s.heap.get? b = some ob) (hbc : ob.cls = .type "dict")
    (h : Q .notImplemented s) : wpAny (model prog w) A (call (.builtin "dict.__eq__") [.ref b, .ref l]) Q E s := by
  have tb : s.TypeIs (.ref b) "dict" := ⟨_, hb, hbc⟩
  have tl : s.TypeIs (.ref l) "tuple" := ⟨_, hl, hlc⟩
  refine wpAny_call_entry PySem.F.slot_dict_eq tb PySem.F.entry_dict_eq ?_ (PySem.F.args_dict_eq_2 _ _)
  show wpAny _ _ (Builtin.Dict.dictSlotArgs "__eq__" ⟨[.ref b, .ref l], []⟩ >>= _) _ _ s
  refine wpAny_bind ?_
  unfold Builtin.Dict.dictSlotArgs
  refine wpAny_bind (wpAny_notOrdered_dict tb ?_)
  show wpAny _ _ (pure (Value.ref b, Value.ref l)) _ _ s
  refine wpAny_pure ?_
  refine wpAny_bind (wpAny_isInstance (T := "tuple") tl PySem.F.sub_tuple_dict ?_)
  simp only [Bool.not_false, if_true]
  first
    | exact wpAny_pure ⟨_, rfl, h⟩
    | exact wpAny_rule (wpAny_pure ⟨_, rfl, h⟩)
    | exact wpAny_bind (wpAny_rule (wpAny_pure ⟨_, rfl, h⟩))
    | exact wpAny_bind (wpAny_pure (wpAny_pure ⟨_, rfl, h⟩))
theorem rc_tup_dict {l b : Addr} {items : Array Value} {ob : Obj} (hl : s.heap.IsTuple l items) (hb : s.heap.get? b = some ob) (hbc : ob.cls = .type "dict") (hu : A.units < cLine) : RcAt A s (.ref l) (.ref b) false := fun prog w E Q h => by
  obtain ⟨ol, ho, hc, n, hd⟩ := id hl
  have hne : l ≠ b := fun e => by
    subst e
    rw [ho] at hb
    cases hb
    rw [hc] at hbc
    exact absurd hbc (by simp)
  exact (rc_eq_decline_or (k := false) ⟨_, ho, hc⟩ ⟨_, hb, hbc⟩ (by decide) PySem.F.sub_dict_tuple PySem.F.slot_tuple_eq PySem.F.slot_dict_eq_refl
    (fun _ hq => tuple_no_dict ho hc hd hb hbc hq) (fun _ hq => dict_no_tuple ho hc hb hbc hq)
    (fun _ hq => wpAny_isSame_ref_other' hne ho hb (by rw [hbc]; simp) hq) (.inr hu) h)
theorem eq_tup_dict {l b : Addr} {items : Array Value} {ob : Obj} (hl : s.heap.IsTuple l items) (hb : s.heap.get? b = some ob) (hbc : ob.cls = .type "dict") (hu : A.units < cLine) : EqAt A s (.ref l) (.ref b) false := by
  refine .of_refs (fun e => ?_) (rc_tup_dict hl hb hbc hu)
  subst e
  obtain ⟨ol, ho, hc, _⟩ := id hl
  rw [ho] at hb
  cases hb
  rw [hc] at hbc
  exact absurd hbc (by simp)
end
end PX

set_option Elab.async false
set_option linter.all false
set_option maxRecDepth 100000
/-! PxEq: == -/
namespace PX
open PySem PySem.Spec L2
open PyProof.Rows hiding St

theorem allM_cons {f : D → D → Option Bool} {a b : D} {xs ys : List D} {r : Bool} (h : allM f (a :: xs) (b :: ys) = some r) : ∃ p q, f a b = some p ∧ allM f xs ys = some q ∧ r = (p && q) := by
  unfold allM at h
  split at h
  · rename_i p q h1 h2
    injection h with h
    exact ⟨p, q, h1, h2, h.symm⟩
  · cases h
theorem allM_true {f : D → D → Option Bool} : ∀ {xs ys : List D}, xs.length = ys.length → (∀ (i : Nat) a b r, xs[i]? = some a → ys[i]? = some b → f a b = some r → r = true) → ∀ {r}, allM f xs ys = some r → r = true
  | [], [], _, _, r, h => by injection h with h; exact h.symm
  | a :: xs, b :: ys, hl, hf, r, h => by
    obtain ⟨p, q, h1, h2, rfl⟩ := allM_cons h
    rw [hf 0 a b p rfl rfl h1, allM_true (by simpa using hl) (fun i a b r h1 h2 => hf (i + 1) a b r (by simpa using h1) (by simpa using h2)) h2]
    rfl
  | [], _ :: _, hl, _, _, _ => by simp at hl
  | _ :: _, [], hl, _, _, _ => by simp at hl
theorem allZ_cons {f : D → D → Option Bool} {a b : D} {xs ys : List D} {r : Bool} (h : allZ f (a :: xs) (b :: ys) = some r) : ∃ p q, f a b = some p ∧ allZ f xs ys = some q ∧ r = (p && q) := by
  unfold allZ at h
  split at h
  · rename_i p q h1 h2
    injection h with h
    exact ⟨p, q, h1, h2, h.symm⟩
  · cases h
theorem allZ_true {f : D → D → Option Bool} : ∀ {xs ys : List D}, (∀ (i : Nat) a b r, xs[i]? = some a → ys[i]? = some b → f a b = some r → r = true) → ∀ {r}, allZ f xs ys = some r → r = true
  | a :: xs, b :: ys, hf, r, h => by
    obtain ⟨p, q, h1, h2, rfl⟩ := allZ_cons h
    rw [hf 0 a b p rfl rfl h1, allZ_true (fun i a b r h1 h2 => hf (i + 1) a b r (by simpa using h1) (by simpa using h2)) h2]
    rfl
  | [], _, _, r, h => by cases h; rfl
  | _ :: _, [], _, r, h => by cases h; rfl
theorem allZ_get {f : D → D → Option Bool} : ∀ {xs ys : List D} {r : Bool}, allZ f xs ys = some r → ∀ (i : Nat) a b, xs[i]? = some a → ys[i]? = some b → ∃ p, f a b = some p
  | x :: xs, y :: ys, r, h, i, a, b, h1, h2 => by
    obtain ⟨p, q, e1, e2, _⟩ := allZ_cons h
    cases i with
    | zero => simp at h1 h2; subst h1 h2; exact ⟨p, e1⟩
    | succ i => exact allZ_get e2 i a b (by simpa using h1) (by simpa using h2)
  | [], _, _, _, i, a, b, h, _ => absurd h (by simp)
  | _ :: _, [], _, _, i, a, b, _, h => absurd h (by simp)
theorem allZ_range {f : D → D → Option Bool} : ∀ {xs ys : List D} {r : Bool} {e : Nat → Bool}, allZ f xs ys = some r → (∀ (i : Nat) a b p, xs[i]? = some a → ys[i]? = some b → f a b = some p → e i = p) → (List.range (min xs.length ys.length)).all e = r
  | x :: xs, y :: ys, r, e, h, he => by
    obtain ⟨p, q, e1, e2, rfl⟩ := allZ_cons h
    have ih := allZ_range (e := fun i => e (i + 1)) e2 fun i a b p h1 h2 h3 => he (i + 1) a b p (by simpa using h1) (by simpa using h2) h3
    rw [List.length_cons, List.length_cons, Nat.add_min_add_right, List.range_succ_eq_map, List.all_cons, List.all_map, he 0 x y p rfl rfl e1]
    have : (e ∘ Nat.succ) = fun i => e (i + 1) := rfl
    rw [this, ih]
  | [], ys, r, e, h, _ => by cases h; simp
  | _ :: _, [], r, e, h, _ => by cases h; simp
theorem eq_same {g : Gh} {H : Hp} : ∀ (n : Nat) {a b : D} {r : Bool} {x : V}, eqD n a b = some r → Rep g H x a → Rep g H x b → r = true
  | 0, _, _, _, _, e, _, _ => by cases e
  | n + 1, a, b, r, x, e, ra, rb => by
    cases ra with
    | non => cases rb; injection e with e; rw [← e]; simp
    | bl k => cases rb; injection e with e; rw [← e]; simp
    | int k => cases rb; injection e with e; rw [← e]; simp
    | str k => cases rb; injection e with e; rw [← e]; simp
    | ty k => cases rb; cases e
    | st => cases rb <;> cases e
    | glo h => cases rb <;> cases e
    | obj m h r => cases rb <;> cases e
    | dct h r nd k =>
      cases rb with
      | dct =>
        simp only [eqD] at e
        split at e
        · injection e with e; exact e.symm
        · cases e
      | _ => cases e
    | @lst p vs ds h r1 =>
      cases rb with
      | @lst _ vs2 ds2 h2 r2 =>
        rw [h] at h2; injection h2 with h2; injection h2 with h2; subst h2
        have hl : ds.length = ds2.length := by rw [← r1.length, ← r2.length]
        simp only [eqD, if_pos hl] at e
        refine allM_true hl ?_ e
        intro i a b r' h1 h2 h3
        obtain ⟨v, hv, rv⟩ := r1.get h1
        obtain ⟨w, hw, rw'⟩ := r2.get h2
        rw [hv] at hw; injection hw with hw; subst hw
        exact eq_same n h3 rv rw'
      | tup h2 r2 => rw [h] at h2; cases h2
      | dct => cases e
      | st => cases e
      | glo => cases e
      | obj => cases e
    | @tup p vs ds h r1 =>
      cases rb with
      | @tup _ vs2 ds2 h2 r2 =>
        rw [h] at h2; injection h2 with h2; injection h2 with h2; subst h2
        have hl : ds.length = ds2.length := by rw [← r1.length, ← r2.length]
        simp only [eqD] at e
        cases q : allZ (eqD n) ds ds2 with
        | none => rw [q] at e; cases e
        | some q1 =>
        rw [q] at e
        injection e with e
        rw [← e, hl, beq_self_eq_true]
        show (q1 && true) = true
        rw [Bool.and_true]
        refine allZ_true ?_ q
        intro i a b r' h1 h2 h3
        obtain ⟨v, hv, rv⟩ := r1.get h1
        obtain ⟨w, hw, rw'⟩ := r2.get h2
        rw [hv] at hw; injection hw with hw; subst hw
        exact eq_same n h3 rv rw'
      | lst h2 r2 => rw [h] at h2; cases h2
      | dct h2 => rw [h] at h2; cases h2
      | st => cases e
      | glo => cases e
      | obj => cases e
/-- all of the answers -/
theorem allM_get {f : D → D → Option Bool} : ∀ {xs ys : List D} {r : Bool}, allM f xs ys = some r → xs.length = ys.length → ∀ (i : Nat) a b, xs[i]? = some a → ys[i]? = some b → ∃ p, f a b = some p
  | [], [], _, _, _, i, a, b, h, _ => absurd h (by simp)
  | x :: xs, y :: ys, r, h, hl, i, a, b, h1, h2 => by
    obtain ⟨p, q, e1, e2, _⟩ := allM_cons h
    cases i with
    | zero => simp at h1 h2; subst h1 h2; exact ⟨p, e1⟩
    | succ i => exact allM_get e2 (by simpa using hl) i a b (by simpa using h1) (by simpa using h2)
  | [], _ :: _, _, _, hl, _, _, _, _, _ => by simp at hl
  | _ :: _, [], _, _, hl, _, _, _, _, _ => by simp at hl
theorem allM_range {f : D → D → Option Bool} : ∀ {xs ys : List D} {r : Bool} {e : Nat → Bool}, allM f xs ys = some r → xs.length = ys.length → (∀ (i : Nat) a b p, xs[i]? = some a → ys[i]? = some b → f a b = some p → e i = p) → (List.range xs.length).all e = r
  | [], [], r, e, h, _, _ => by injection h
  | x :: xs, y :: ys, r, e, h, hl, he => by
    obtain ⟨p, q, e1, e2, rfl⟩ := allM_cons h
    have ih := allM_range (e := fun i => e (i + 1)) e2 (by simpa using hl) fun i a b p h1 h2 h3 => he (i + 1) a b p (by simpa using h1) (by simpa using h2) h3
    rw [List.length_cons, List.range_succ_eq_map, List.all_cons, List.all_map, he 0 x y p rfl rfl e1]
    have : (e ∘ Nat.succ) = fun i => e (i + 1) := rfl
    rw [this, ih]
  | [], _ :: _, _, _, _, hl, _ => by simp at hl
  | _ :: _, [], _, _, _, hl, _ => by simp at hl
section
open SeqAt
variable {X : Cx} {pins : List (Addr × Obj)} {σ : St} {H : Hp} {s : Shared} {g : Gh}
theorem seq_lst (I : L2.Inv X pins σ H s) (n : Nat) (A : Around) (hu0 : A.units < cLine) (hu1 : A.in1.units + n < cLine)
    (ih : ∀ {a b : D} {r : Bool} {x y : V} {u v : Value}, A.in1.units + n < cLine → eqD n a b = some r → Rep g H x a → Rep g H y b → RelV x u → RelV y v → RcAt A.in1 s u v r ∧ EqAt A.in1 s u v r) {p1 p2 : Addr} {ds1 ds2 : List D} {vs1 vs2 : List V} {its1 its2 : List Value} {r : Bool}
    (e : eqD (n + 1) (.lst ds1) (.lst ds2) = some r) (ra : Rep g H (.ref p1) (.lst ds1)) (rb : Rep g H (.ref p2) (.lst ds2)) (h1 : H p1 = some (.lst vs1)) (h2 : H p2 = some (.lst vs2)) (r1 : RepA g H vs1 ds1) (r2 : RepA g H vs2 ds2) (v1 : Vals vs1 its1) (v2 : Vals vs2 its2)
    (t1 : s.heap.IsList p1 its1.toArray) (t2 : s.heap.IsList p2 its2.toArray) : RcAt A s (.ref p1) (.ref p2) r ∧ EqAt A s (.ref p1) (.ref p2) r := by
  have key : RcAt A s (.ref p1) (.ref p2) r := by
    have l1 : its1.length = ds1.length := by rw [← v1.length, r1.length]
    have l2 : its2.length = ds2.length := by rw [← v2.length, r2.length]
    simp only [eqD] at e
    split at e
    · rename_i hl
      have hz := RcAt.lists (A := A) (e := fun j => match ds1[j]?, ds2[j]? with | some a, some b => (eqD n a b).getD false | _, _ => false) t1 t2 (by simp; omega) hu0 ?_
      · have := allM_range (e := fun j => match ds1[j]?, ds2[j]? with | some a, some b => (eqD n a b).getD false | _, _ => false) e hl (fun i a b p ha hb hp => by simp only [ha, hb, hp, Option.getD_some])
        rw [show its1.toArray.size = ds1.length by simpa using l1, this] at hz
        exact hz
      · intro j hj1 hj2
        have hj1' : j < its1.length := by simpa using hj1
        have hj2' : j < its2.length := by simpa using hj2
        obtain ⟨x, hx, rx⟩ := r1.get (List.getElem?_eq_getElem (by omega : j < ds1.length))
        obtain ⟨y, hy, ry⟩ := r2.get (List.getElem?_eq_getElem (by omega : j < ds2.length))
        obtain ⟨u, hu, ru⟩ := v1.get hx
        obtain ⟨v, hv, rv⟩ := v2.get hy
        obtain ⟨p, hp⟩ := allM_get e hl j _ _ (List.getElem?_eq_getElem (by omega)) (List.getElem?_eq_getElem (by omega))
        have q := (ih hu1 hp rx ry ru rv).2
        rw [List.getElem?_eq_getElem hj1'] at hu
        rw [List.getElem?_eq_getElem hj2'] at hv
        injection hu with hu; injection hv with hv
        simp only [List.getElem_toArray, hu, hv, List.getElem?_eq_getElem (by omega : j < ds1.length), List.getElem?_eq_getElem (by omega : j < ds2.length), hp, Option.getD_some]
        exact q
    · rename_i hl
      injection e with e; subst e
      exact RcAt.lists_lengths t1 t2 (by simp; omega) hu0
  refine ⟨key, ?_⟩
  by_cases hp : p1 = p2
  · subst hp
    rw [eq_same (n + 1) e ra rb]
    exact .same _
  · exact .of_refs hp key
theorem seq_tup (I : L2.Inv X pins σ H s) (n : Nat) (A : Around) (hu0 : A.units < cLine) (hu1 : A.in1.units + n < cLine)
    (ih : ∀ {a b : D} {r : Bool} {x y : V} {u v : Value}, A.in1.units + n < cLine → eqD n a b = some r → Rep g H x a → Rep g H y b → RelV x u → RelV y v → RcAt A.in1 s u v r ∧ EqAt A.in1 s u v r) {p1 p2 : Addr} {ds1 ds2 : List D} {vs1 vs2 : List V} {its1 its2 : List Value} {r : Bool}
    (e : eqD (n + 1) (.tup ds1) (.tup ds2) = some r) (ra : Rep g H (.ref p1) (.tup ds1)) (rb : Rep g H (.ref p2) (.tup ds2)) (h1 : H p1 = some (.tup vs1)) (h2 : H p2 = some (.tup vs2)) (r1 : RepA g H vs1 ds1) (r2 : RepA g H vs2 ds2) (v1 : Vals vs1 its1) (v2 : Vals vs2 its2)
    (t1 : s.heap.IsTuple p1 its1.toArray) (t2 : s.heap.IsTuple p2 its2.toArray) : RcAt A s (.ref p1) (.ref p2) r ∧ EqAt A s (.ref p1) (.ref p2) r := by
  have key : RcAt A s (.ref p1) (.ref p2) r := by
    have l1 : its1.length = ds1.length := by rw [← v1.length, r1.length]
    have l2 : its2.length = ds2.length := by rw [← v2.length, r2.length]
    simp only [eqD] at e
    cases q : allZ (eqD n) ds1 ds2 with
    | none => rw [q] at e; cases e
    | some q1 =>
    rw [q] at e
    injection e with e
    have hz := RcAt.tuples (A := A) (e := fun j => match ds1[j]?, ds2[j]? with | some a, some b => (eqD n a b).getD false | _, _ => false) t1 t2 hu0 ?_
    · have := allZ_range (e := fun j => match ds1[j]?, ds2[j]? with | some a, some b => (eqD n a b).getD false | _, _ => false) q (fun i a b p ha hb hp => by simp only [ha, hb, hp, Option.getD_some])
      rw [show min its1.toArray.size its2.toArray.size = min ds1.length ds2.length by simp; omega, this, show (its1.toArray.size == its2.toArray.size) = (ds1.length == ds2.length) by rw [List.size_toArray, List.size_toArray, l1, l2]] at hz
      rw [← e]; exact hz
    · intro j hj1 hj2
      have hj1' : j < its1.length := by simpa using hj1
      have hj2' : j < its2.length := by simpa using hj2
      obtain ⟨x, hx, rx⟩ := r1.get (List.getElem?_eq_getElem (by omega : j < ds1.length))
      obtain ⟨y, hy, ry⟩ := r2.get (List.getElem?_eq_getElem (by omega : j < ds2.length))
      obtain ⟨u, hu, ru⟩ := v1.get hx
      obtain ⟨v, hv, rv⟩ := v2.get hy
      obtain ⟨p, hp⟩ := allZ_get q j _ _ (List.getElem?_eq_getElem (by omega)) (List.getElem?_eq_getElem (by omega))
      have q := (ih hu1 hp rx ry ru rv).2
      rw [List.getElem?_eq_getElem hj1'] at hu
      rw [List.getElem?_eq_getElem hj2'] at hv
      injection hu with hu; injection hv with hv
      simp only [List.getElem_toArray, hu, hv, List.getElem?_eq_getElem (by omega : j < ds1.length), List.getElem?_eq_getElem (by omega : j < ds2.length), hp, Option.getD_some]
      exact q
  refine ⟨key, ?_⟩
  by_cases hp : p1 = p2
  · subst hp
    rw [eq_same (n + 1) e ra rb]
    exact .same _
  · exact .of_refs hp key
def kvOf : List (D × D) → Option (Str × Int)
  | [(.str z, .int i)] => some (z, i)
  | _ => none
theorem oneD_of (I : L2.Inv X pins σ H s) {p : Addr} {es : List (Int × V × V)} {ep : Nat} {kvs : List (D × D)} (h : H p = some (dO p es ep)) (r : RepK g H es kvs) (hs : smallK kvs = true) : OneD s p (kvOf kvs) := by
  obtain ⟨_, sys, o, arr, ho, ex, dt, pr⟩ := (I.hok p _ h).1
  refine ⟨sys, o, arr, ep, ho, ex, dt, ?_⟩
  obtain ⟨l⟩ := arr
  have pr : Paired _ es l := pr
  cases r with
  | nil =>
    cases pr
    rfl
  | @cons k v es a b kvs rk rv rr =>
    have hs2 : ∃ z i, a = .str z ∧ b = .int i ∧ kvs = [] := by
      unfold smallK at hs
      split at hs
      · rename_i q; cases q
      · rename_i z i q; cases q; exact ⟨z, i, rfl, rfl, rfl⟩
      · cases hs
    obtain ⟨z, i, rfl, rfl, rfl⟩ := hs2
    cases rr
    cases pr with
    | @cons _ q _ qs hq rest =>
    cases rest
    obtain ⟨_, hk, hv⟩ := hq
    cases rk
    cases rv
    obtain ⟨t, ht⟩ := hk
    obtain ⟨t', ht'⟩ := hv
    exact ⟨q, t, t', rfl, ht, ht'⟩
theorem IsTup.ist {h : Heap} {a : Addr} {its : Array Value} (t : IsTup h a its) : h.IsTuple a its := t
theorem eq_at (I : L2.Inv X pins σ H s) : ∀ (n : Nat) (A : Around) {a b : D} {r : Bool} {x y : V} {u v : Value}, A.units + n < cLine → eqD n a b = some r → Rep g H x a → Rep g H y b → RelV x u → RelV y v → RcAt A s u v r ∧ EqAt A s u v r
  | 0, _, _, _, _, _, _, _, _, _, e, _, _, _, _ => by cases e
  | n + 1, A, a, b, r, x, y, u, v, hu, e, ra, rb, ru, rv => by
    have hu0 : A.units < cLine := by omega
    have hu1 : A.in1.units + n < cLine := by show A.units + 1 + n < cLine; omega
    have rb0 := rb
    have ra0 := ra
    cases ra with
    | st => cases rb <;> cases e
    | glo => cases rb <;> cases e
    | obj => cases rb <;> cases e
    | @dct p1 es1 ep1 kvs1 h1 r1 nd1 k1 =>
      cases rb with
      | @dct p2 es2 ep2 kvs2 h2 r2 nd2 k2 =>
        cases ru
        cases rv
        simp only [eqD] at e
        split at e
        case isFalse => cases e
        rename_i c
        obtain ⟨rfl, hs⟩ := c
        injection e with e; subst e
        have a := oneD_of I h1 r1 hs
        have b := oneD_of I h2 r2 hs
        exact ⟨rc_dicts a b hu0, eq_dicts a b hu0⟩
      | _ => cases e
    | ty => cases rb <;> cases e
    | non =>
      cases ru
      cases rb with
      | non =>
        cases rv
        obtain rfl : r = true := by injection e with e; rw [← e]; first | rfl | exact Bool.eq_iff_iff.mpr (by simp)
        exact ⟨.none_none, .same _⟩
      | bl k2 =>
        cases rv
        obtain rfl : r = false := by injection e with e; rw [← e]; first | rfl | exact Bool.eq_iff_iff.mpr (by simp)
        exact ⟨.none_bool _, .none_bool _⟩
      | int k2 =>
        obtain ⟨t2, rfl⟩ := rv
        obtain rfl : r = false := by injection e with e; rw [← e]; first | rfl | exact Bool.eq_iff_iff.mpr (by simp)
        exact ⟨.none_int _ _, .none_int _ _⟩
      | str k2 =>
        obtain ⟨t2, rfl⟩ := rv
        obtain rfl : r = false := by injection e with e; rw [← e]; first | rfl | exact Bool.eq_iff_iff.mpr (by simp)
        exact ⟨.none_str _ _, .none_str _ _⟩
      | @lst p2 vs2 ds2 h2 r2 =>
        cases rv; obtain ⟨its2, vr2, pl2, _⟩ := I.list (.of h2)
        obtain rfl : r = false := by injection e with e; rw [← e]; first | rfl | exact Bool.eq_iff_iff.mpr (by simp)
        exact ⟨.none_list pl2.isList hu0, .none_list pl2.isList hu0⟩
      | @tup p2 vs2 ds2 h2 r2 =>
        cases rv; obtain ⟨its2, vr2, pl2, _⟩ := I.tuple (.of h2)
        obtain rfl : r = false := by injection e with e; rw [← e]; first | rfl | exact Bool.eq_iff_iff.mpr (by simp)
        exact ⟨.none_tuple (IsTup.ist pl2) hu0, .none_tuple (IsTup.ist pl2) hu0⟩
      | _ => cases e
    | bl k1 =>
      cases ru
      cases rb with
      | non =>
        cases rv
        obtain rfl : r = false := by injection e with e; rw [← e]; first | rfl | exact Bool.eq_iff_iff.mpr (by simp)
        exact ⟨.bool_none _, .bool_none _⟩
      | bl k2 =>
        cases rv
        obtain rfl : r = (k1 == k2) := by injection e with e; rw [← e]; first | rfl | exact Bool.eq_iff_iff.mpr (by simp)
        exact ⟨.bool_bool _ _, .bool_bool _ _⟩
      | int k2 =>
        obtain ⟨t2, rfl⟩ := rv
        obtain rfl : r = ((if k1 then 1 else 0) == k2) := by injection e with e; exact e.symm
        exact ⟨.bool_int _ _ _, .bool_int _ _ _⟩
      | str k2 =>
        obtain ⟨t2, rfl⟩ := rv
        obtain rfl : r = false := by injection e with e; rw [← e]; first | rfl | exact Bool.eq_iff_iff.mpr (by simp)
        exact ⟨.bool_str _ _ _, .bool_str _ _ _⟩
      | @lst p2 vs2 ds2 h2 r2 =>
        cases rv; obtain ⟨its2, vr2, pl2, _⟩ := I.list (.of h2)
        obtain rfl : r = false := by injection e with e; rw [← e]; first | rfl | exact Bool.eq_iff_iff.mpr (by simp)
        exact ⟨.bool_list _ pl2.isList hu0, .bool_list _ pl2.isList hu0⟩
      | @tup p2 vs2 ds2 h2 r2 =>
        cases rv; obtain ⟨its2, vr2, pl2, _⟩ := I.tuple (.of h2)
        obtain rfl : r = false := by injection e with e; rw [← e]; first | rfl | exact Bool.eq_iff_iff.mpr (by simp)
        exact ⟨.bool_tuple _ (IsTup.ist pl2) hu0, .bool_tuple _ (IsTup.ist pl2) hu0⟩
      | _ => cases e
    | int k1 =>
      obtain ⟨t1, rfl⟩ := ru
      cases rb with
      | non =>
        cases rv
        obtain rfl : r = false := by injection e with e; rw [← e]; first | rfl | exact Bool.eq_iff_iff.mpr (by simp)
        exact ⟨.int_none _ _, .int_none _ _⟩
      | bl k2 =>
        cases rv
        obtain rfl : r = (k1 == (if k2 then 1 else 0)) := by injection e with e; exact e.symm
        exact ⟨.int_bool _ _ _, .int_bool _ _ _⟩
      | int k2 =>
        obtain ⟨t2, rfl⟩ := rv
        obtain rfl : r = (k1 == k2) := by injection e with e; rw [← e]; first | rfl | exact Bool.eq_iff_iff.mpr (by simp)
        exact ⟨.int_int _ _ _ _, .int_int _ _ _ _⟩
      | str k2 =>
        obtain ⟨t2, rfl⟩ := rv
        obtain rfl : r = false := by injection e with e; rw [← e]; first | rfl | exact Bool.eq_iff_iff.mpr (by simp)
        exact ⟨.int_str _ _ _ _, .int_str _ _ _ _⟩
      | @lst p2 vs2 ds2 h2 r2 =>
        cases rv; obtain ⟨its2, vr2, pl2, _⟩ := I.list (.of h2)
        obtain rfl : r = false := by injection e with e; rw [← e]; first | rfl | exact Bool.eq_iff_iff.mpr (by simp)
        exact ⟨.int_list _ _ pl2.isList hu0, .int_list _ _ pl2.isList hu0⟩
      | @tup p2 vs2 ds2 h2 r2 =>
        cases rv; obtain ⟨its2, vr2, pl2, _⟩ := I.tuple (.of h2)
        obtain rfl : r = false := by injection e with e; rw [← e]; first | rfl | exact Bool.eq_iff_iff.mpr (by simp)
        exact ⟨.int_tuple _ _ (IsTup.ist pl2) hu0, .int_tuple _ _ (IsTup.ist pl2) hu0⟩
      | _ => cases e
    | str k1 =>
      obtain ⟨t1, rfl⟩ := ru
      cases rb with
      | non =>
        cases rv
        obtain rfl : r = false := by injection e with e; rw [← e]; first | rfl | exact Bool.eq_iff_iff.mpr (by simp)
        exact ⟨.str_none _ _, .str_none _ _⟩
      | bl k2 =>
        cases rv
        obtain rfl : r = false := by injection e with e; rw [← e]; first | rfl | exact Bool.eq_iff_iff.mpr (by simp)
        exact ⟨.str_bool _ _ _, .str_bool _ _ _⟩
      | int k2 =>
        obtain ⟨t2, rfl⟩ := rv
        obtain rfl : r = false := by injection e with e; rw [← e]; first | rfl | exact Bool.eq_iff_iff.mpr (by simp)
        exact ⟨.str_int _ _ _ _, .str_int _ _ _ _⟩
      | str k2 =>
        obtain ⟨t2, rfl⟩ := rv
        obtain rfl : r = (k1 == k2) := by injection e with e; rw [← e]; first | rfl | exact Bool.eq_iff_iff.mpr (by simp)
        exact ⟨.str_str _ _ _ _, .str_str _ _ _ _⟩
      | @lst p2 vs2 ds2 h2 r2 =>
        cases rv; obtain ⟨its2, vr2, pl2, _⟩ := I.list (.of h2)
        obtain rfl : r = false := by injection e with e; rw [← e]; first | rfl | exact Bool.eq_iff_iff.mpr (by simp)
        exact ⟨.str_list _ _ pl2.isList hu0, .str_list _ _ pl2.isList hu0⟩
      | @tup p2 vs2 ds2 h2 r2 =>
        cases rv; obtain ⟨its2, vr2, pl2, _⟩ := I.tuple (.of h2)
        obtain rfl : r = false := by injection e with e; rw [← e]; first | rfl | exact Bool.eq_iff_iff.mpr (by simp)
        exact ⟨.str_tuple _ _ (IsTup.ist pl2) hu0, .str_tuple _ _ (IsTup.ist pl2) hu0⟩
      | _ => cases e
    | @lst p1 vs1 ds1 h1 r1 =>
      cases ru; obtain ⟨its1, vr1, pl1, _⟩ := I.list (.of h1)
      cases rb with
      | non =>
        cases rv
        obtain rfl : r = false := by injection e with e; rw [← e]; first | rfl | exact Bool.eq_iff_iff.mpr (by simp)
        exact ⟨.list_none pl1.isList hu0, .list_none pl1.isList hu0⟩
      | bl k2 =>
        cases rv
        obtain rfl : r = false := by injection e with e; rw [← e]; first | rfl | exact Bool.eq_iff_iff.mpr (by simp)
        exact ⟨.list_bool _ pl1.isList hu0, .list_bool _ pl1.isList hu0⟩
      | int k2 =>
        obtain ⟨t2, rfl⟩ := rv
        obtain rfl : r = false := by injection e with e; rw [← e]; first | rfl | exact Bool.eq_iff_iff.mpr (by simp)
        exact ⟨.list_int _ _ pl1.isList hu0, .list_int _ _ pl1.isList hu0⟩
      | str k2 =>
        obtain ⟨t2, rfl⟩ := rv
        obtain rfl : r = false := by injection e with e; rw [← e]; first | rfl | exact Bool.eq_iff_iff.mpr (by simp)
        exact ⟨.list_str _ _ pl1.isList hu0, .list_str _ _ pl1.isList hu0⟩
      | @lst p2 vs2 ds2 h2 r2 =>
        cases rv; obtain ⟨its2, vr2, pl2, _⟩ := I.list (.of h2)
        exact seq_lst I n A hu0 hu1 (eq_at I n A.in1) e ra0 rb0 h1 h2 r1 r2 vr1 vr2 pl1.isList pl2.isList
      | @tup p2 vs2 ds2 h2 r2 =>
        cases rv; obtain ⟨its2, vr2, pl2, _⟩ := I.tuple (.of h2)
        obtain rfl : r = false := by injection e with e; rw [← e]; first | rfl | exact Bool.eq_iff_iff.mpr (by simp)
        exact ⟨.list_tuple pl1.isList (IsTup.ist pl2) hu0, .list_tuple pl1.isList (IsTup.ist pl2) hu0⟩
      | _ => cases e
    | @tup p1 vs1 ds1 h1 r1 =>
      cases ru; obtain ⟨its1, vr1, pl1, _⟩ := I.tuple (.of h1)
      cases rb with
      | non =>
        cases rv
        obtain rfl : r = false := by injection e with e; rw [← e]; first | rfl | exact Bool.eq_iff_iff.mpr (by simp)
        exact ⟨.tuple_none (IsTup.ist pl1) hu0, .tuple_none (IsTup.ist pl1) hu0⟩
      | bl k2 =>
        cases rv
        obtain rfl : r = false := by injection e with e; rw [← e]; first | rfl | exact Bool.eq_iff_iff.mpr (by simp)
        exact ⟨.tuple_bool _ (IsTup.ist pl1) hu0, .tuple_bool _ (IsTup.ist pl1) hu0⟩
      | int k2 =>
        obtain ⟨t2, rfl⟩ := rv
        obtain rfl : r = false := by injection e with e; rw [← e]; first | rfl | exact Bool.eq_iff_iff.mpr (by simp)
        exact ⟨.tuple_int _ _ (IsTup.ist pl1) hu0, .tuple_int _ _ (IsTup.ist pl1) hu0⟩
      | str k2 =>
        obtain ⟨t2, rfl⟩ := rv
        obtain rfl : r = false := by injection e with e; rw [← e]; first | rfl | exact Bool.eq_iff_iff.mpr (by simp)
        exact ⟨.tuple_str _ _ (IsTup.ist pl1) hu0, .tuple_str _ _ (IsTup.ist pl1) hu0⟩
      | @lst p2 vs2 ds2 h2 r2 =>
        cases rv; obtain ⟨its2, vr2, pl2, _⟩ := I.list (.of h2)
        obtain rfl : r = false := by injection e with e; rw [← e]; first | rfl | exact Bool.eq_iff_iff.mpr (by simp)
        exact ⟨.tuple_list (IsTup.ist pl1) pl2.isList hu0, .tuple_list (IsTup.ist pl1) pl2.isList hu0⟩
      | @tup p2 vs2 ds2 h2 r2 =>
        cases rv; obtain ⟨its2, vr2, pl2, _⟩ := I.tuple (.of h2)
        exact seq_tup I n A hu0 hu1 (eq_at I n A.in1) e ra0 rb0 h1 h2 r1 r2 vr1 vr2 (IsTup.ist pl1) (IsTup.ist pl2)
      | @dct p2 es2 ep2 kvs2 h2 r2 nd2 k2 =>
        cases rv
        obtain rfl : r = false := by injection e with e; exact e.symm
        obtain ⟨_, _, o, arr, ho, ex, _⟩ := (I.hok p2 _ h2).1
        exact ⟨rc_tup_dict (IsTup.ist pl1) ho ex.1 hu0, eq_tup_dict (IsTup.ist pl1) ho ex.1 hu0⟩
      | _ => cases e
end
end PX

set_option Elab.async false
set_option linter.all false
set_option maxRecDepth 100000
/-! PxNe: != -/
namespace PX
open PySem PySem.Spec L2
open PyProof.Rows hiding St
section
open SeqAt
variable {X : Cx} {pins : List (Addr × Obj)} {σ : St} {H : Hp} {s : Shared} {g : Gh}
theorem nseq_lst (I : L2.Inv X pins σ H s) (n : Nat) (A : Around) (hu0 : A.units < cLine) (hu1 : A.in1.units + n < cLine)
    {p1 p2 : Addr} {ds1 ds2 : List D} {vs1 vs2 : List V} {its1 its2 : List Value} {r : Bool}
    (e : eqD (n + 1) (.lst ds1) (.lst ds2) = some r) (ra : Rep g H (.ref p1) (.lst ds1)) (rb : Rep g H (.ref p2) (.lst ds2)) (h1 : H p1 = some (.lst vs1)) (h2 : H p2 = some (.lst vs2)) (r1 : RepA g H vs1 ds1) (r2 : RepA g H vs2 ds2) (v1 : Vals vs1 its1) (v2 : Vals vs2 its2)
    (t1 : s.heap.IsList p1 its1.toArray) (t2 : s.heap.IsList p2 its2.toArray) : RcNeAt A s (.ref p1) (.ref p2) (!r) := by
  have key : RcNeAt A s (.ref p1) (.ref p2) (!r) := by
    have l1 : its1.length = ds1.length := by rw [← v1.length, r1.length]
    have l2 : its2.length = ds2.length := by rw [← v2.length, r2.length]
    simp only [eqD] at e
    split at e
    · rename_i hl
      have hz := RcNeAt.lists (A := A) (e := fun j => match ds1[j]?, ds2[j]? with | some a, some b => (eqD n a b).getD false | _, _ => false) t1 t2 (by simp; omega) hu0 ?_
      · have := allM_range (e := fun j => match ds1[j]?, ds2[j]? with | some a, some b => (eqD n a b).getD false | _, _ => false) e hl (fun i a b p ha hb hp => by simp only [ha, hb, hp, Option.getD_some])
        rw [show its1.toArray.size = ds1.length by simpa using l1, this] at hz
        exact hz
      · intro j hj1 hj2
        have hj1' : j < its1.length := by simpa using hj1
        have hj2' : j < its2.length := by simpa using hj2
        obtain ⟨x, hx, rx⟩ := r1.get (List.getElem?_eq_getElem (by omega : j < ds1.length))
        obtain ⟨y, hy, ry⟩ := r2.get (List.getElem?_eq_getElem (by omega : j < ds2.length))
        obtain ⟨u, hu, ru⟩ := v1.get hx
        obtain ⟨v, hv, rv⟩ := v2.get hy
        obtain ⟨p, hp⟩ := allM_get e hl j _ _ (List.getElem?_eq_getElem (by omega)) (List.getElem?_eq_getElem (by omega))
        have q := (eq_at I n A.in1 hu1 hp rx ry ru rv).2
        rw [List.getElem?_eq_getElem hj1'] at hu
        rw [List.getElem?_eq_getElem hj2'] at hv
        injection hu with hu; injection hv with hv
        simp only [List.getElem_toArray, hu, hv, List.getElem?_eq_getElem (by omega : j < ds1.length), List.getElem?_eq_getElem (by omega : j < ds2.length), hp, Option.getD_some]
        exact q
    · rename_i hl
      injection e with e; subst e
      exact RcNeAt.lists_lengths t1 t2 (by simp; omega) hu0
  exact key
theorem nseq_tup (I : L2.Inv X pins σ H s) (n : Nat) (A : Around) (hu0 : A.units < cLine) (hu1 : A.in1.units + n < cLine)
    {p1 p2 : Addr} {ds1 ds2 : List D} {vs1 vs2 : List V} {its1 its2 : List Value} {r : Bool}
    (e : eqD (n + 1) (.tup ds1) (.tup ds2) = some r) (ra : Rep g H (.ref p1) (.tup ds1)) (rb : Rep g H (.ref p2) (.tup ds2)) (h1 : H p1 = some (.tup vs1)) (h2 : H p2 = some (.tup vs2)) (r1 : RepA g H vs1 ds1) (r2 : RepA g H vs2 ds2) (v1 : Vals vs1 its1) (v2 : Vals vs2 its2)
    (t1 : s.heap.IsTuple p1 its1.toArray) (t2 : s.heap.IsTuple p2 its2.toArray) : RcNeAt A s (.ref p1) (.ref p2) (!r) := by
  have key : RcNeAt A s (.ref p1) (.ref p2) (!r) := by
    have l1 : its1.length = ds1.length := by rw [← v1.length, r1.length]
    have l2 : its2.length = ds2.length := by rw [← v2.length, r2.length]
    simp only [eqD] at e
    cases q : allZ (eqD n) ds1 ds2 with
    | none => rw [q] at e; cases e
    | some q1 =>
    rw [q] at e
    injection e with e
    have hz := RcNeAt.tuples (A := A) (e := fun j => match ds1[j]?, ds2[j]? with | some a, some b => (eqD n a b).getD false | _, _ => false) t1 t2 hu0 ?_
    · have := allZ_range (e := fun j => match ds1[j]?, ds2[j]? with | some a, some b => (eqD n a b).getD false | _, _ => false) q (fun i a b p ha hb hp => by simp only [ha, hb, hp, Option.getD_some])
      rw [show min its1.toArray.size its2.toArray.size = min ds1.length ds2.length by simp; omega, this, show (its1.toArray.size == its2.toArray.size) = (ds1.length == ds2.length) by rw [List.size_toArray, List.size_toArray, l1, l2]] at hz
      rw [← e]; exact hz
    · intro j hj1 hj2
      have hj1' : j < its1.length := by simpa using hj1
      have hj2' : j < its2.length := by simpa using hj2
      obtain ⟨x, hx, rx⟩ := r1.get (List.getElem?_eq_getElem (by omega : j < ds1.length))
      obtain ⟨y, hy, ry⟩ := r2.get (List.getElem?_eq_getElem (by omega : j < ds2.length))
      obtain ⟨u, hu, ru⟩ := v1.get hx
      obtain ⟨v, hv, rv⟩ := v2.get hy
      obtain ⟨p, hp⟩ := allZ_get q j _ _ (List.getElem?_eq_getElem (by omega)) (List.getElem?_eq_getElem (by omega))
      have q := (eq_at I n A.in1 hu1 hp rx ry ru rv).2
      rw [List.getElem?_eq_getElem hj1'] at hu
      rw [List.getElem?_eq_getElem hj2'] at hv
      injection hu with hu; injection hv with hv
      simp only [List.getElem_toArray, hu, hv, List.getElem?_eq_getElem (by omega : j < ds1.length), List.getElem?_eq_getElem (by omega : j < ds2.length), hp, Option.getD_some]
      exact q
  exact key
theorem neqv_inv {a b : D} {r : Bool} (h : neqv a b = some r) : ∃ r', eqv a b = some r' ∧ r = !r' ∧ (∀ kvs, a ≠ .dct kvs) ∧ (∀ kvs, b ≠ .dct kvs) := by
  unfold neqv at h
  split at h
  · cases h
  · cases h
  · rename_i h1 h2
    cases q : eqv a b with
    | none => rw [q] at h; cases h
    | some r' =>
      rw [q] at h
      injection h with h
      exact ⟨r', rfl, h.symm, fun kvs e => h1 kvs e, fun kvs e => h2 kvs e⟩
theorem ne_at (I : L2.Inv X pins σ H s) : ∀ (n : Nat) (A : Around) {a b : D} {r : Bool} {x y : V} {u v : Value}, A.units + n < cLine → eqD n a b = some r → Rep g H x a → Rep g H y b → RelV x u → RelV y v → (∀ kvs, a ≠ .dct kvs) → (∀ kvs, b ≠ .dct kvs) → RcNeAt A s u v (!r)
  | 0, _, _, _, _, _, _, _, _, _, e, _, _, _, _, _, _ => by cases e
  | n + 1, A, a, b, r, x, y, u, v, hu, e, ra, rb, ru, rv, hda, hdb => by
    have hu0 : A.units < cLine := by omega
    have hu1 : A.in1.units + n < cLine := by show A.units + 1 + n < cLine; omega
    have rb0 := rb
    have ra0 := ra
    cases ra with
    | st => cases rb <;> cases e
    | glo => cases rb <;> cases e
    | obj => cases rb <;> cases e
    | dct => exact absurd rfl (hda _)
    | ty => cases rb <;> cases e
    | non =>
      cases ru
      cases rb with
      | non =>
        cases rv
        obtain rfl : r = true := by injection e with e; rw [← e]; first | rfl | exact Bool.eq_iff_iff.mpr (by simp)
        exact .none_none
      | bl k2 =>
        cases rv
        obtain rfl : r = false := by injection e with e; rw [← e]; first | rfl | exact Bool.eq_iff_iff.mpr (by simp)
        exact .none_bool _
      | int k2 =>
        obtain ⟨t2, rfl⟩ := rv
        obtain rfl : r = false := by injection e with e; rw [← e]; first | rfl | exact Bool.eq_iff_iff.mpr (by simp)
        exact .none_int _ _
      | str k2 =>
        obtain ⟨t2, rfl⟩ := rv
        obtain rfl : r = false := by injection e with e; rw [← e]; first | rfl | exact Bool.eq_iff_iff.mpr (by simp)
        exact .none_str _ _
      | @lst p2 vs2 ds2 h2 r2 =>
        cases rv; obtain ⟨its2, vr2, pl2, _⟩ := I.list (.of h2)
        obtain rfl : r = false := by injection e with e; rw [← e]; first | rfl | exact Bool.eq_iff_iff.mpr (by simp)
        exact .none_list pl2.isList hu0
      | @tup p2 vs2 ds2 h2 r2 =>
        cases rv; obtain ⟨its2, vr2, pl2, _⟩ := I.tuple (.of h2)
        obtain rfl : r = false := by injection e with e; rw [← e]; first | rfl | exact Bool.eq_iff_iff.mpr (by simp)
        exact .none_tuple (IsTup.ist pl2) hu0
      | _ => cases e
    | bl k1 =>
      cases ru
      cases rb with
      | non =>
        cases rv
        obtain rfl : r = false := by injection e with e; rw [← e]; first | rfl | exact Bool.eq_iff_iff.mpr (by simp)
        exact .bool_none _
      | bl k2 =>
        cases rv
        obtain rfl : r = (k1 == k2) := by injection e with e; rw [← e]; first | rfl | exact Bool.eq_iff_iff.mpr (by simp)
        exact .bool_bool _ _
      | int k2 =>
        obtain ⟨t2, rfl⟩ := rv
        obtain rfl : r = ((if k1 then 1 else 0) == k2) := by injection e with e; exact e.symm
        exact .bool_int _ _ _
      | str k2 =>
        obtain ⟨t2, rfl⟩ := rv
        obtain rfl : r = false := by injection e with e; rw [← e]; first | rfl | exact Bool.eq_iff_iff.mpr (by simp)
        exact .bool_str _ _ _
      | @lst p2 vs2 ds2 h2 r2 =>
        cases rv; obtain ⟨its2, vr2, pl2, _⟩ := I.list (.of h2)
        obtain rfl : r = false := by injection e with e; rw [← e]; first | rfl | exact Bool.eq_iff_iff.mpr (by simp)
        exact .bool_list _ pl2.isList hu0
      | @tup p2 vs2 ds2 h2 r2 =>
        cases rv; obtain ⟨its2, vr2, pl2, _⟩ := I.tuple (.of h2)
        obtain rfl : r = false := by injection e with e; rw [← e]; first | rfl | exact Bool.eq_iff_iff.mpr (by simp)
        exact .bool_tuple _ (IsTup.ist pl2) hu0
      | _ => cases e
    | int k1 =>
      obtain ⟨t1, rfl⟩ := ru
      cases rb with
      | non =>
        cases rv
        obtain rfl : r = false := by injection e with e; rw [← e]; first | rfl | exact Bool.eq_iff_iff.mpr (by simp)
        exact .int_none _ _
      | bl k2 =>
        cases rv
        obtain rfl : r = (k1 == (if k2 then 1 else 0)) := by injection e with e; exact e.symm
        exact .int_bool _ _ _
      | int k2 =>
        obtain ⟨t2, rfl⟩ := rv
        obtain rfl : r = (k1 == k2) := by injection e with e; rw [← e]; first | rfl | exact Bool.eq_iff_iff.mpr (by simp)
        exact .int_int _ _ _ _
      | str k2 =>
        obtain ⟨t2, rfl⟩ := rv
        obtain rfl : r = false := by injection e with e; rw [← e]; first | rfl | exact Bool.eq_iff_iff.mpr (by simp)
        exact .int_str _ _ _ _
      | @lst p2 vs2 ds2 h2 r2 =>
        cases rv; obtain ⟨its2, vr2, pl2, _⟩ := I.list (.of h2)
        obtain rfl : r = false := by injection e with e; rw [← e]; first | rfl | exact Bool.eq_iff_iff.mpr (by simp)
        exact .int_list _ _ pl2.isList hu0
      | @tup p2 vs2 ds2 h2 r2 =>
        cases rv; obtain ⟨its2, vr2, pl2, _⟩ := I.tuple (.of h2)
        obtain rfl : r = false := by injection e with e; rw [← e]; first | rfl | exact Bool.eq_iff_iff.mpr (by simp)
        exact .int_tuple _ _ (IsTup.ist pl2) hu0
      | _ => cases e
    | str k1 =>
      obtain ⟨t1, rfl⟩ := ru
      cases rb with
      | non =>
        cases rv
        obtain rfl : r = false := by injection e with e; rw [← e]; first | rfl | exact Bool.eq_iff_iff.mpr (by simp)
        exact .str_none _ _
      | bl k2 =>
        cases rv
        obtain rfl : r = false := by injection e with e; rw [← e]; first | rfl | exact Bool.eq_iff_iff.mpr (by simp)
        exact .str_bool _ _ _
      | int k2 =>
        obtain ⟨t2, rfl⟩ := rv
        obtain rfl : r = false := by injection e with e; rw [← e]; first | rfl | exact Bool.eq_iff_iff.mpr (by simp)
        exact .str_int _ _ _ _
      | str k2 =>
        obtain ⟨t2, rfl⟩ := rv
        obtain rfl : r = (k1 == k2) := by injection e with e; rw [← e]; first | rfl | exact Bool.eq_iff_iff.mpr (by simp)
        exact .str_str _ _ _ _
      | @lst p2 vs2 ds2 h2 r2 =>
        cases rv; obtain ⟨its2, vr2, pl2, _⟩ := I.list (.of h2)
        obtain rfl : r = false := by injection e with e; rw [← e]; first | rfl | exact Bool.eq_iff_iff.mpr (by simp)
        exact .str_list _ _ pl2.isList hu0
      | @tup p2 vs2 ds2 h2 r2 =>
        cases rv; obtain ⟨its2, vr2, pl2, _⟩ := I.tuple (.of h2)
        obtain rfl : r = false := by injection e with e; rw [← e]; first | rfl | exact Bool.eq_iff_iff.mpr (by simp)
        exact .str_tuple _ _ (IsTup.ist pl2) hu0
      | _ => cases e
    | @lst p1 vs1 ds1 h1 r1 =>
      cases ru; obtain ⟨its1, vr1, pl1, _⟩ := I.list (.of h1)
      cases rb with
      | non =>
        cases rv
        obtain rfl : r = false := by injection e with e; rw [← e]; first | rfl | exact Bool.eq_iff_iff.mpr (by simp)
        exact .list_none pl1.isList hu0
      | bl k2 =>
        cases rv
        obtain rfl : r = false := by injection e with e; rw [← e]; first | rfl | exact Bool.eq_iff_iff.mpr (by simp)
        exact .list_bool _ pl1.isList hu0
      | int k2 =>
        obtain ⟨t2, rfl⟩ := rv
        obtain rfl : r = false := by injection e with e; rw [← e]; first | rfl | exact Bool.eq_iff_iff.mpr (by simp)
        exact .list_int _ _ pl1.isList hu0
      | str k2 =>
        obtain ⟨t2, rfl⟩ := rv
        obtain rfl : r = false := by injection e with e; rw [← e]; first | rfl | exact Bool.eq_iff_iff.mpr (by simp)
        exact .list_str _ _ pl1.isList hu0
      | @lst p2 vs2 ds2 h2 r2 =>
        cases rv; obtain ⟨its2, vr2, pl2, _⟩ := I.list (.of h2)
        exact nseq_lst I n A hu0 hu1 e ra0 rb0 h1 h2 r1 r2 vr1 vr2 pl1.isList pl2.isList
      | @tup p2 vs2 ds2 h2 r2 =>
        cases rv; obtain ⟨its2, vr2, pl2, _⟩ := I.tuple (.of h2)
        obtain rfl : r = false := by injection e with e; rw [← e]; first | rfl | exact Bool.eq_iff_iff.mpr (by simp)
        exact .list_tuple pl1.isList (IsTup.ist pl2) hu0
      | _ => cases e
    | @tup p1 vs1 ds1 h1 r1 =>
      cases ru; obtain ⟨its1, vr1, pl1, _⟩ := I.tuple (.of h1)
      cases rb with
      | non =>
        cases rv
        obtain rfl : r = false := by injection e with e; rw [← e]; first | rfl | exact Bool.eq_iff_iff.mpr (by simp)
        exact .tuple_none (IsTup.ist pl1) hu0
      | bl k2 =>
        cases rv
        obtain rfl : r = false := by injection e with e; rw [← e]; first | rfl | exact Bool.eq_iff_iff.mpr (by simp)
        exact .tuple_bool _ (IsTup.ist pl1) hu0
      | int k2 =>
        obtain ⟨t2, rfl⟩ := rv
        obtain rfl : r = false := by injection e with e; rw [← e]; first | rfl | exact Bool.eq_iff_iff.mpr (by simp)
        exact .tuple_int _ _ (IsTup.ist pl1) hu0
      | str k2 =>
        obtain ⟨t2, rfl⟩ := rv
        obtain rfl : r = false := by injection e with e; rw [← e]; first | rfl | exact Bool.eq_iff_iff.mpr (by simp)
        exact .tuple_str _ _ (IsTup.ist pl1) hu0
      | @lst p2 vs2 ds2 h2 r2 =>
        cases rv; obtain ⟨its2, vr2, pl2, _⟩ := I.list (.of h2)
        obtain rfl : r = false := by injection e with e; rw [← e]; first | rfl | exact Bool.eq_iff_iff.mpr (by simp)
        exact .tuple_list (IsTup.ist pl1) pl2.isList hu0
      | @tup p2 vs2 ds2 h2 r2 =>
        cases rv; obtain ⟨its2, vr2, pl2, _⟩ := I.tuple (.of h2)
        exact nseq_tup I n A hu0 hu1 e ra0 rb0 h1 h2 r1 r2 vr1 vr2 (IsTup.ist pl1) (IsTup.ist pl2)
      | dct => exact absurd rfl (hdb _)
      | _ => cases e
end
end PX

set_option Elab.async false
set_option linter.all false
set_option maxRecDepth 100000
/-! PxIn: x in a list, a tuple of data. -/
namespace PX
open PySem PySem.Spec L2
open PyProof.Rows hiding St
section
variable {g : Gh} {H : Hp}
theorem allZ_uniq {f : D → D → Option Bool} (hf : ∀ (a a' b : D) (r r' : Bool) (x : V), f a b = some r → f a' b = some r' → Rep g H x a → Rep g H x a' → r = r') :
    ∀ {vs : List V} {ds ds' bs : List D} {r r' : Bool}, RepA g H vs ds → RepA g H vs ds' → allZ f ds bs = some r → allZ f ds' bs = some r' → r = r'
  | _, _, _, _, _, _, .nil, .nil, e, e' => by
    simp only [allZ] at e e'
    exact Option.some.inj (e.symm.trans e')
  | _, _, _, [], _, _, .cons _ _, .cons _ _, e, e' => by
    simp only [allZ] at e e'
    exact Option.some.inj (e.symm.trans e')
  | _, _, _, b :: bs, _, _, .cons h t, .cons h' t', e, e' => by
    obtain ⟨p, q, e1, e2, rfl⟩ := allZ_cons e
    obtain ⟨p', q', e1', e2', rfl⟩ := allZ_cons e'
    rw [hf _ _ _ _ _ _ e1 e1' h h', allZ_uniq hf t t' e2 e2']
theorem allM_uniq {f : D → D → Option Bool} (hf : ∀ (a a' b : D) (r r' : Bool) (x : V), f a b = some r → f a' b = some r' → Rep g H x a → Rep g H x a' → r = r') :
    ∀ {vs : List V} {ds ds' bs : List D} {r r' : Bool}, RepA g H vs ds → RepA g H vs ds' → allM f ds bs = some r → allM f ds' bs = some r' → r = r'
  | _, _, _, _, _, _, .nil, .nil, e, e' => Option.some.inj (e.symm.trans e')
  | _, _, _, [], _, _, .cons _ _, .cons _ _, e, e' => by
    simp only [allM] at e e'
    exact Option.some.inj (e.symm.trans e')
  | _, _, _, b :: bs, _, _, .cons h t, .cons h' t', e, e' => by
    obtain ⟨p, q, e1, e2, rfl⟩ := allM_cons e
    obtain ⟨p', q', e1', e2', rfl⟩ := allM_cons e'
    rw [hf _ _ _ _ _ _ e1 e1' h h', allM_uniq hf t t' e2 e2']
theorem eq_uniq : ∀ (n : Nat) {a a' b : D} {r r' : Bool} {x : V}, eqD n a b = some r → eqD n a' b = some r' → Rep g H x a → Rep g H x a' → r = r'
  | 0, _, _, _, _, _, _, e, _, _, _ => by cases e
  | n + 1, a, a', b, r, r', x, e, e', ra, ra' => by
    cases ra with
    | st => cases b <;> cases e
    | glo => cases b <;> cases e
    | obj => cases b <;> cases e
    | dct h0 r0 nd0 k0 =>
      cases b with
      | dct kb =>
        cases ra' with
        | dct h' r' nd' k' =>
          simp only [eqD] at e e'
          split at e
          case isFalse => cases e
          split at e'
          case isFalse => cases e'
          exact Option.some.inj (e.symm.trans e')
        | tup h' => rw [h0] at h'; cases h'
        | lst h' => rw [h0] at h'; cases h'
        | _ => cases e'
      | _ => cases e
    | ty => cases b <;> cases e
    | non => cases ra'; exact Option.some.inj (e.symm.trans e')
    | bl => cases ra'; exact Option.some.inj (e.symm.trans e')
    | int => cases ra'; exact Option.some.inj (e.symm.trans e')
    | str => cases ra'; exact Option.some.inj (e.symm.trans e')
    | @tup p vs ds h t =>
      cases ra' with
      | st => cases b <;> cases e'
      | glo => cases b <;> cases e'
      | obj => cases b <;> cases e'
      | dct h' => rw [h] at h'; cases h'
      | lst h' => rw [h] at h'; cases h'
      | @tup _ vs' ds' h' t' =>
        rw [h] at h'; injection h' with h'; injection h' with h'; subst h'
        have hl : ds.length = ds'.length := by rw [← t.length, ← t'.length]
        cases b with
        | tup bs =>
          simp only [eqD] at e e'
          cases q : allZ (eqD n) ds bs with
          | none => rw [q] at e; cases e
          | some k =>
          cases q' : allZ (eqD n) ds' bs with
          | none => rw [q'] at e'; cases e'
          | some k' =>
          rw [q] at e; rw [q'] at e'
          injection e with e; injection e' with e'
          rw [← e, ← e', allZ_uniq (f := eqD n) (fun _ _ _ _ _ _ => eq_uniq n) t t' q q', hl]
        | dct => injection e with e; injection e' with e'; rw [← e, ← e']
        | _ => first | (cases e; done) | (injection e with e; injection e' with e'; rw [← e, ← e']; simp)
    | @lst p vs ds h t =>
      cases ra' with
      | st => cases b <;> cases e'
      | glo => cases b <;> cases e'
      | obj => cases b <;> cases e'
      | dct h' => rw [h] at h'; cases h'
      | tup h' => rw [h] at h'; cases h'
      | @lst _ vs' ds' h' t' =>
        rw [h] at h'; injection h' with h'; injection h' with h'; subst h'
        have hl : ds.length = ds'.length := by rw [← t.length, ← t'.length]
        cases b with
        | lst bs =>
          simp only [eqD] at e e'
          rw [hl] at e
          by_cases c : ds'.length = bs.length
          · rw [if_pos c] at e e'
            exact allM_uniq (f := eqD n) (fun _ _ _ _ _ _ => eq_uniq n) t t' e e'
          · rw [if_neg c] at e e'
            exact Option.some.inj (e.symm.trans e')
        | _ => first | (cases e; done) | (injection e with e; injection e' with e'; rw [← e, ← e']; simp)
end
theorem go_cons {x y : D} {ys : List D} {r : Bool} (h : inD.go x (y :: ys) = some r) : ∃ b c, eqv y x = some b ∧ inD.go x ys = some c ∧ r = (b || c) := by
  simp only [inD.go] at h
  split at h
  · rename_i b c h1 h2; injection h with h; exact ⟨b, c, h1, h2, h.symm⟩
  · cases h
theorem go_all {x : D} : ∀ {ys : List D} {r : Bool}, inD.go x ys = some r → ∀ y ∈ ys, ∃ b, eqv y x = some b
  | [], _, _, _, h => nomatch h
  | z :: ys, r, e, y, h => by
    obtain ⟨b, c, h1, h2, _⟩ := go_cons e
    rcases List.mem_cons.mp h with rfl | h
    · exact ⟨b, h1⟩
    · exact go_all h2 y h
section
open SeqAt
variable {X : Cx} {pins : List (Addr × Obj)} {σ : St} {H : Hp} {s : Shared} {g : Gh}
open Classical in
/-- which of the items are equal to x -/
noncomputable def eqTo (g : Gh) (H : Hp) (x : D) (u : Value) : Bool := decide (∃ (v : V) (d : D), RelV v u ∧ Rep g H v d ∧ eqv d x = some true)
theorem relV_uniq {v v' : V} {u : Value} (h : RelV v u) (h' : RelV v' u) : v = v' := by
  cases v with
  | non => cases h; cases v' <;> first | rfl | (cases h'; done) | (obtain ⟨_, h'⟩ := h'; cases h')
  | bl => cases h; cases v' <;> first | (cases h'; rfl; done) | (cases h'; done) | (obtain ⟨_, h'⟩ := h'; cases h')
  | ref => cases h; cases v' <;> first | (cases h'; rfl; done) | (cases h'; done) | (obtain ⟨_, h'⟩ := h'; cases h')
  | ty => cases h; cases v' <;> first | (cases h'; rfl; done) | (cases h'; done) | (obtain ⟨_, h'⟩ := h'; cases h')
  | int => obtain ⟨_, rfl⟩ := h; cases v' <;> first | (cases h'; done) | (obtain ⟨_, h'⟩ := h'; cases h'; rfl; done) | (obtain ⟨_, h'⟩ := h'; cases h')
  | str => obtain ⟨_, rfl⟩ := h; cases v' <;> first | (cases h'; done) | (obtain ⟨_, h'⟩ := h'; cases h'; rfl; done) | (obtain ⟨_, h'⟩ := h'; cases h')
  | byt => obtain ⟨_, rfl⟩ := h; cases v' <;> first | (cases h'; done) | (obtain ⟨_, h'⟩ := h'; cases h'; rfl; done) | (obtain ⟨_, h'⟩ := h'; cases h')
  | flt => obtain ⟨_, rfl⟩ := h; cases v' <;> first | (cases h'; done) | (obtain ⟨_, h'⟩ := h'; cases h'; rfl; done) | (obtain ⟨_, h'⟩ := h'; cases h')
open Classical in
theorem eqTo_of {x d : D} {v : V} {u : Value} {b : Bool} (hv : RelV v u) (hr : Rep g H v d) (e : eqv d x = some b) : eqTo g H x u = b := by
  cases b with
  | true => exact decide_eq_true ⟨v, d, hv, hr, e⟩
  | false =>
    refine decide_eq_false ?_
    rintro ⟨v', d', hv', hr', e'⟩
    cases relV_uniq hv hv'
    cases eq_uniq 60 e e' hr hr'
theorem go_any {x : D} : ∀ {vs : List V} {ys : List D} {us : List Value} {r : Bool}, inD.go x ys = some r → RepA g H vs ys → Vals vs us → us.any (eqTo g H x) = r
  | _, _, _, _, e, .nil, .nil => by injection e
  | _, _, _, _, e, .cons h t, .cons k q => by
    obtain ⟨b, c, h1, h2, rfl⟩ := go_cons e
    simp only [List.any_cons, eqTo_of k h h1, go_any h2 t q]
theorem go_eqs (I : L2.Inv X pins σ H s) {A : Around} (hu : A.units + 61 < cLine) {x : D} {xv : V} {xu : Value} (rx : Rep g H xv x) (vx : RelV xv xu) : ∀ {vs : List V} {ys : List D} {us : List Value} {r : Bool}, inD.go x ys = some r → RepA g H vs ys → Vals vs us → ∀ u ∈ us, EqAt A.in1 s u xu (eqTo g H x u)
  | _, _, _, _, e, .nil, .nil, _, h => nomatch h
  | _, _, _, _, e, .cons h t, .cons k q, u, m => by
    obtain ⟨b, c, h1, h2, _⟩ := go_cons e
    rcases List.mem_cons.mp m with rfl | m
    · rw [eqTo_of k h h1]
      exact (eq_at I 60 A.in1 (by show A.units + 1 + 60 < cLine; omega) h1 h rx k vx).2
    · exact go_eqs I hu rx vx h2 t q u m
end
end PX

set_option Elab.async false
set_option linter.all false
set_option maxRecDepth 100000
/-! PxBind: how a plain def's parameters are bound. -/
namespace PX
open PySem PySem.Spec L2
open PyProof.Rows hiding St

theorem lookup_zip_none {α : Type} {x : Str} : ∀ {ps : List Str} {us : List α}, x ∉ ps.take us.length → (ps.zip us).lookup x = none
  | [], us, _ => by simp
  | p :: ps, [], _ => by simp
  | p :: ps, u :: us, h => by
    simp only [List.length_cons, List.take_succ_cons, List.mem_cons, not_or] at h
    simp only [List.zip_cons_cons, List.lookup_cons]
    rw [show (x == p) = false from by simpa using h.1]
    exact lookup_zip_none h.2
theorem lookup_append {α : Type} {x : Str} : ∀ {l m : List (Str × α)}, (l ++ m).lookup x = (l.lookup x).or (m.lookup x)
  | [], m => by simp
  | (a, b) :: l, m => by
    simp only [List.cons_append, List.lookup_cons]
    cases (x == a) with
    | true => rfl
    | false => exact lookup_append
theorem lookup_none {α : Type} {x : Str} : ∀ {l : List (Str × α)}, x ∉ l.map (·.1) → l.lookup x = none
  | [], _ => rfl
  | (a, b) :: l, h => by
    simp only [List.map_cons, List.mem_cons, not_or] at h
    simp only [List.lookup_cons]
    rw [show (x == a) = false from by simpa using h.1]
    exact lookup_none h.2
theorem pure_bindS {α β : Type} (a : α) (f : α → Sem β) : (pure a >>= f : Sem β) = f a := rfl
/-- the keywords' loop -/
theorem kw_loop {ps : List Str} {k : Nat} {f : (Str × Value) → List (Str × Value) × List (Str × Value) → Sem (ForInStep (List (Str × Value) × List (Str × Value)))}
    (hf : ∀ x v ex sl, x ∈ ps → (List.lookup x sl).isSome = false → f (x, v) (sl, ex) = pure (.yield (sl ++ [(x, v)], ex))) :
    ∀ (kws sl ex : List (Str × Value)), kwOk ps k (kws.map (·.1)) = true → (∀ x ∈ kws.map (·.1), sl.lookup x = none) → (forIn kws (sl, ex) f : Sem _) = pure (sl ++ kws, ex)
  | [], sl, ex, _, _ => by simp
  | (x, v) :: r, sl, ex, h, hn => by
    simp only [List.map_cons, kwOk, Bool.and_eq_true, decide_eq_true_eq] at h
    rw [List.forIn_cons, hf x v ex sl h.1.1.1 (by rw [hn x (by simp)]; rfl), pure_bindS]
    show (forIn r (sl ++ [(x, v)], ex) f : Sem _) = _
    rw [kw_loop hf r (sl ++ [(x, v)]) ex h.2 ?_]
    · simp
    · intro y hy
      rw [lookup_append, hn y (by simp at hy ⊢; exact .inr hy)]
      have : y ≠ x := by rintro rfl; exact h.1.2 hy
      simp [List.lookup_cons, show (y == x) = false from by simpa using this]
theorem bindArgs_plain {fd : FuncData} {as : List Arg} {kwd dfl} (hp : fd.params = ⟨[], as, none, [], kwd, none, dfl⟩) (hd : fd.defaults = .none) {us : List Value} {kws : List (Str × Value)}
    (h1 : us.length ≤ (as.map (·.arg)).length) (h2 : kwOk (as.map (·.arg)) us.length (kws.map (·.1)) = true) (h3 : ∀ x ∈ as.map (·.arg), ((slotsOfCall (as.map (·.arg)) us kws).lookup x).isSome = true) :
    bindArgs fd ⟨us, kws⟩ = pure ((as.map (·.arg)).filterMap fun x => ((slotsOfCall (as.map (·.arg)) us kws).lookup x).map (x, ·)) := by
  unfold bindArgs
  rw [hp, hd]
  simp only [List.map_nil, List.nil_append, List.append_nil, List.contains_nil, Bool.or_false]
  rw [kw_loop (ps := as.map (·.arg)) (k := us.length) (kws := kws) (sl := (as.map (·.arg)).zip us) (ex := []) ?_ h2 ?_]
  · rw [pure_bindS]
    have e0 : ¬ us.length > (as.map (·.arg)).length := by omega
    have em : ((as.map (·.arg)).filter fun n => (List.lookup n ((as.map (·.arg)).zip us ++ kws)).isNone) = [] := by
      rw [List.filter_eq_nil_iff]
      intro x hx
      have := h3 x hx
      unfold slotsOfCall at this
      cases q : List.lookup x ((as.map (·.arg)).zip us ++ kws) with
      | none => rw [q] at this; cases this
      | some v => simp
    show (seqItems? .none >>= _ : Sem _) = _
    have es : seqItems? .none = (pure none : Sem _) := rfl
    rw [es, pure_bindS]
    simp only [Option.getD_none, List.length_nil, Nat.sub_zero, List.drop_nil, List.take_length, em, List.drop_length]
    rw [if_neg (by simp only [Option.isNone_none, Bool.and_true, decide_eq_true_eq]; exact e0)]
    simp only [slotsOfCall]
    rfl
  · intro x v ex sl hx hl
    have e1 : ((as.map (·.arg)).contains x) = true := by simpa using hx
    simp only [e1, hl, if_true]
    rfl
  · intro x hx
    have : x ∉ (as.map (·.arg)).take us.length := by
      revert h2 hx
      generalize kws.map (·.1) = ks
      induction ks with
      | nil => intro _ h; cases h
      | cons y r ihr =>
        intro h2 hx
        simp only [kwOk, Bool.and_eq_true, decide_eq_true_eq] at h2
        rcases List.mem_cons.mp hx with rfl | hx
        · exact h2.1.1.2
        · exact ihr h2.2 hx
    exact lookup_zip_none this
theorem zip_fm {α : Type} {f : Str → Option α} : ∀ {ps : List Str}, (∀ x ∈ ps, (f x).isSome = true) → ps.zip (ps.filterMap f) = ps.filterMap fun x => (f x).map (x, ·)
  | [], _ => rfl
  | p :: ps, h => by
    have h0 := h p (by simp)
    cases q : f p with
    | none => rw [q] at h0; cases h0
    | some v => simp only [List.filterMap_cons, q, Option.map_some, List.zip_cons_cons]; rw [zip_fm fun x hx => h x (by simp [hx])]
theorem binds_plain {fd : FuncData} {as : List Arg} {kwd dfl} (hp : fd.params = ⟨[], as, none, [], kwd, none, dfl⟩) (hd : fd.defaults = .none) {us : List Value} {kws : List (Str × Value)} {s : Shared}
    (h1 : us.length ≤ (as.map (·.arg)).length) (h2 : kwOk (as.map (·.arg)) us.length (kws.map (·.1)) = true) (h3 : ∀ x ∈ as.map (·.arg), ((slotsOfCall (as.map (·.arg)) us kws).lookup x).isSome = true) :
    BindsTo s fd ⟨us, kws⟩ ((as.map (·.arg)).zip (bindB (as.map (·.arg)) us kws)) :=
  BindsTo.of_eq ((bindArgs_plain hp hd h1 h2 h3).trans (by unfold bindB; rw [zip_fm h3]))
end PX

set_option Elab.async false
set_option linter.all false
set_option maxRecDepth 100000
/-! PxOps: operations on values follow those on data. -/
namespace PX
open PySem PySem.Spec L2
open PyProof.Rows hiding St

section
variable {g : Gh} {F H : Hp} {v : V}
theorem Rep.int_inv {i : Int} (r : Rep g F v (.int i)) : v = .int i := by cases r; rfl
theorem Rep.str_inv {i : Str} (r : Rep g F v (.str i)) : v = .str i := by cases r; rfl
theorem Rep.bl_inv {i : Bool} (r : Rep g F v (.bl i)) : v = .bl i := by cases r; rfl
theorem RX.int_inv {i : Int} (r : RX g F H v (.int i)) : v = .int i := by cases r with | rep r => exact r.int_inv
theorem RX.str_inv {i : Str} (r : RX g F H v (.str i)) : v = .str i := by cases r with | rep r => exact r.str_inv
theorem RX.bl_inv {i : Bool} (r : RX g F H v (.bl i)) : v = .bl i := by cases r with | rep r => exact r.bl_inv
theorem RX.non_inv (r : RX g F H v .non) : v = .non := by cases r with | rep r => cases r; rfl
theorem RX.tup_inv {ds : List D} (r : RX g F H v (.tup ds)) : ∃ a vs, v = .ref a ∧ F a = some (.tup vs) ∧ RepA g F vs ds := by
  cases r with | rep r => cases r with | tup h r => exact ⟨_, _, rfl, h, r⟩
theorem RX.lst_inv (s : Sub F H) {ds : List D} (r : RX g F H v (.lst ds)) : ∃ a vs, v = .ref a ∧ H a = some (.lst vs) ∧ RepA g F vs ds := by
  cases r with
  | rep r => cases r with | lst h r => exact ⟨_, _, rfl, s _ _ h, r⟩
  | lst h r => exact ⟨_, _, rfl, h, r⟩
theorem RX.dct_inv (s : Sub F H) {kvs : List (D × D)} (r : RX g F H v (.dct kvs)) : ∃ a es ep, v = .ref a ∧ H a = some (dO a es ep) ∧ RepK g F es kvs ∧ (kvs.map (·.1)).Nodup ∧ keyAll (kvs.map (·.1)) = true := by
  cases r with
  | rep r => cases r with | dct h r n k => exact ⟨_, _, _, rfl, s _ _ h, r, n, k⟩
  | dct h r n k => exact ⟨_, _, _, rfl, h, r, n, k⟩
theorem RX.obj_inv (s : Sub F H) {C : Str} {fs : List (Str × D)} (r : RX g F H v (.obj C fs)) : ∃ a Ca dx vfs, v = .ref a ∧ g.mg C = some (.ref Ca) ∧ H a = some (.ins Ca dx vfs) ∧ RepF g F vfs fs := by
  cases r with
  | rep r => cases r with | obj m h r => exact ⟨_, _, _, _, rfl, m, s _ _ h, r⟩
  | obj m h r => exact ⟨_, _, _, _, rfl, m, h, r⟩
theorem OpPost.val {r : V} {d : D} {Q : VK} (s : Sub F H) (p : OpPost g F H (.val d) Q) (h : Rep g F r d) : Q r H := p r H F (.refl s) (.val h)
theorem OpPost.tup {vs : List V} {ds : List D} {Q : VK} (s : Sub F H) (p : OpPost g F H (.val (.tup ds)) Q) (h : RepA g F vs ds) : ∀ a, H a = none → Q (.ref a) (upd H a (.tup vs)) := by
  intro a n
  have w := Grow.frz (u := .tup vs) s n
  exact p (.ref a) _ _ w (.val (.tup upd_same (h.mono w.ff)))
theorem OpPost.lst {vs : List V} {ds : List D} {Q : VK} (s : Sub F H) (p : OpPost g F H (.own (.lst ds)) Q) (h : RepA g F vs ds) : ∀ a, H a = none → Q (.ref a) (upd H a (.lst vs)) := by
  intro a n
  have w := Grow.own (u := .lst vs) s n
  have nf : F a = none := by
    cases e : F a with
    | none => rfl
    | some o => rw [s _ _ e] at n; cases n
  exact p (.ref a) _ _ w (.own n nf (.lst upd_same h))
end

/-- a two-place operation by data -/
def r2 (g : Gh) (f : D → D → Option OV) : R2 := fun x y H Q => ∃ F a b r, Sub F H ∧ RX g F H x a ∧ RX g F H y b ∧ f a b = some r ∧ OpPost g F H r Q
theorem RepA.rep {g : Gh} {F : Hp} {vs : List V} {ds : List D} (h : RepA g F vs ds) : ∀ k : Nat, RepA g F (List.replicate k vs).flatten (List.replicate k ds).flatten
  | 0 => by simpa using RepA.nil
  | k + 1 => by simpa [List.replicate_succ] using h.append (h.rep k)
section
variable {X : Cx} {g : Gh}
theorem op_bin (op : Operator) : OpR X (binaryOp op) (r2 g (binD op)) := by
  intro pins s σ H x y v u Q I rx ry ⟨F, a, b, r, sb, ra, rb, e, q⟩
  unfold binD at e
  split at e
  · rename_i i j
    injection e with e; subst e
    cases ra.int_inv; cases rb.int_inv
    exact op_add pins s σ H _ _ _ _ Q I rx ry ⟨_, _, rfl, rfl, q.val sb (.int _)⟩
  · injection e with e; subst e
    cases ra.int_inv; cases rb.int_inv
    exact op_sub pins s σ H _ _ _ _ Q I rx ry ⟨_, _, rfl, rfl, q.val sb (.int _)⟩
  · split at e
    · rename_i c
      injection e with e; subst e
      cases ra.int_inv; cases rb.int_inv
      exact op_mulW pins s σ H _ _ _ _ Q I rx ry ⟨_, _, rfl, rfl, c, q.val sb (.int _)⟩
    · cases e
  · split at e
    · rename_i c
      injection e with e; subst e
      cases ra.int_inv; cases rb.int_inv
      exact op_fdivW pins s σ H _ _ _ _ Q I rx ry ⟨_, _, rfl, rfl, c, q.val sb (.int _)⟩
    · cases e
  · split at e
    · rename_i c
      injection e with e; subst e
      cases ra.int_inv; cases rb.int_inv
      exact op_modN pins s σ H _ _ _ _ Q I rx ry ⟨_, _, rfl, rfl, c, q.val sb (.int _)⟩
    · cases e
  · split at e
    · rename_i c
      injection e with e; subst e
      cases ra.int_inv; cases rb.int_inv
      exact op_pow pins s σ H _ _ _ _ Q I rx ry ⟨_, _, rfl, rfl, c, q.val sb (.int _)⟩
    · cases e
  · split at e
    · rename_i c
      injection e with e; subst e
      cases ra.int_inv; cases rb.int_inv
      exact op_shl pins s σ H _ _ _ _ Q I rx ry ⟨_, _, rfl, rfl, c, q.val sb (.int _)⟩
    · cases e
  · split at e
    · rename_i c
      injection e with e; subst e
      cases ra.str_inv; cases rb.str_inv
      exact op_add_str pins s σ H _ _ _ _ Q I rx ry ⟨_, _, rfl, rfl, c, q.val sb (.str _)⟩
    · cases e
  · split at e
    · rename_i c
      injection e with e; subst e
      obtain ⟨pa, va, rfl, ha, ra'⟩ := ra.tup_inv
      obtain ⟨pb, vb, rfl, hb, rb'⟩ := rb.tup_inv
      refine op_catA pins s σ H _ _ _ _ Q I rx ry ⟨pa, pb, va, vb, rfl, rfl, .of (sb _ _ ha), .of (sb _ _ hb), by rw [ra'.length, rb'.length]; exact c, ?_, ?_, ?_⟩
      · rintro rfl
        cases ra'
        exact q.val sb (.tup hb (by simpa using rb'))
      · rintro _ rfl
        cases rb'
        exact q.val sb (.tup ha (by simpa using ra'))
      · intro _ _
        exact q.tup sb (ra'.append rb')
    · cases e
  · split at e
    · rename_i c
      injection e with e; subst e
      obtain ⟨pa, va, rfl, ha, ra'⟩ := ra.lst_inv sb
      obtain ⟨pb, vb, rfl, hb, rb'⟩ := rb.lst_inv sb
      exact op_cat pins s σ H _ _ _ _ Q I rx ry ⟨pa, pb, va, vb, rfl, rfl, ha, hb, by rw [ra'.length, rb'.length]; exact c, q.lst sb (ra'.append rb')⟩
    · cases e
  · split at e
    · rename_i c
      injection e with e; subst e
      obtain ⟨pa, va, rfl, ha, ra'⟩ := ra.lst_inv sb
      cases rb.int_inv
      exact op_rep pins s σ H _ _ _ _ Q I rx ry ⟨pa, _, va, rfl, rfl, ha, c.1, c.2.1, by rw [ra'.length]; exact c.2.2, q.lst sb (ra'.rep _)⟩
    · cases e
  · cases e

/-! subscripts -/
theorem keyAll_imm : ∀ {ds : List D}, keyAll ds = true → immAll ds = true
  | [], _ => rfl
  | .int _ :: r, h => by simp only [keyAll, D.isKey, Bool.true_and] at h; simp [immAll, D.imm, keyAll_imm h]
  | .str _ :: r, h => by simp only [keyAll, D.isKey, Bool.true_and] at h; simp [immAll, D.imm, keyAll_imm h]
  | .tup xs :: r, h => by
    simp only [keyAll, D.isKey, Bool.and_eq_true] at h
    simp [immAll, D.imm, keyAll_imm h.1, keyAll_imm h.2]
  | .non :: _, h => by simp [keyAll, D.isKey] at h
  | .bl _ :: _, h => by simp [keyAll, D.isKey] at h
  | .lst _ :: _, h => by simp [keyAll, D.isKey] at h
  | .dct _ :: _, h => by simp [keyAll, D.isKey] at h
  | .obj _ _ :: _, h => by simp [keyAll, D.isKey] at h
  | .glo _ :: _, h => by simp [keyAll, D.isKey] at h
  | .ty _ :: _, h => by simp [keyAll, D.isKey] at h
  | .st :: _, h => by simp [keyAll, D.isKey] at h
theorem tkey_imm {d : D} (h : tkey d = true) : d.imm = true := by
  cases d with
  | tup ds =>
    simp only [tkey, Bool.and_eq_true] at h
    show immAll ds = true
    exact keyAll_imm h.1
  | _ => cases h
theorem RepA.atI {F : Hp} {vs : List V} {ds : List D} {k : Int} {d : D} (r : RepA g F vs ds) (e : L2.atI ds k = some d) : ∃ v, L2.atI vs k = some v ∧ Rep g F v d := by
  unfold L2.atI at e ⊢
  rw [r.length]
  cases q : ixN ds.length k with
  | none => rw [q] at e; cases e
  | some j =>
    rw [q] at e
    exact r.get e
/-- what a subscript of no object of the text gives -/
def getS (a i : D) : Option OV := match a with
  | .lst _ => (getD a i).map .val
  | .tup _ => (getD a i).map .val
  | .str _ => (getD a i).map .val
  | .dct _ => (getD a i).map .val
  | _ => none
theorem ix_get (hu : X.A.units + 80 < cLine) (hw : g.w = X.w) : IxR X (r2 g getS) := by
  intro value slice pins s σ H x y v u Q I rx ry ⟨F, a, b, r, sb, ra, rb, e, q⟩ hs
  unfold getS at e
  split at e
  · rename_i xs
    cases b with
    | int k =>
      simp only [getD] at e
      cases q2 : L2.atI xs k with
      | none => rw [q2] at e; cases e
      | some d =>
        rw [q2] at e; injection e with e; subst e
        obtain ⟨pa, va, rfl, ha, ra'⟩ := ra.lst_inv sb
        cases rb.int_inv
        obtain ⟨w, hw, rw'⟩ := ra'.atI q2
        exact ix_list value slice pins s σ H _ _ _ _ Q I rx ry ⟨pa, va, k, w, rfl, rfl, .of ha, hw, q.val sb rw'⟩ hs
    | _ => simp [getD] at e
  · rename_i xs
    cases b with
    | int k =>
      simp only [getD] at e
      cases q2 : L2.atI xs k with
      | none => rw [q2] at e; cases e
      | some d =>
        rw [q2] at e; injection e with e; subst e
        obtain ⟨pa, va, rfl, ha, ra'⟩ := ra.tup_inv
        cases rb.int_inv
        obtain ⟨w, hw, rw'⟩ := ra'.atI q2
        exact ix_tup value slice pins s σ H _ _ _ _ Q I rx ry ⟨pa, va, k, w, rfl, rfl, .of (sb _ _ ha), hw, q.val sb rw'⟩ hs
    | _ => simp [getD] at e
  · rename_i z
    cases b with
    | int k =>
      simp only [getD] at e
      split at e
      · rename_i c
        cases q2 : L2.atI z.cps.toList k with
        | none => rw [q2] at e; cases e
        | some d =>
          rw [q2] at e; injection e with e; subst e
          cases ra.str_inv
          cases rb.int_inv
          exact ix_str value slice pins s σ H _ _ _ _ Q I rx ry ⟨z, k, d, rfl, rfl, c, q2, q.val sb (.str _)⟩ hs
      · cases e
    | _ => simp [getD] at e
  · rename_i kvs
    simp only [getD] at e
    split at e
    · rename_i c
      simp only [Bool.and_eq_true] at c
      cases q2 : dget kvs b with
      | none => rw [q2] at e; cases e
      | some d =>
        rw [q2] at e; injection e with e; subst e
        obtain ⟨pa, es, ep, rfl, ha, rk, nd, _⟩ := ra.dct_inv sb
        cases rx
        have im : b.imm = true := tkey_imm c.2
        exact ix_dk hu hw I sb ha rk nd c.1 c.2 q2 (rb.imm im) ry (fun v' r' => q.val sb r') hs
    · cases e
  · cases e

/-! tests -/
theorem RX.tru {F H : Hp} {x : V} {a : D} {k : Bool} {K : PySem.W.Frag} (sb : Sub F H) (ra : RX g F H x a) (e : truD a = some k) : TruV K x H k := by
  unfold truD at e
  split at e
  · injection e with e; subst e; cases ra.non_inv; rfl
  · injection e with e; subst e; cases ra.bl_inv; rfl
  · injection e with e; subst e; cases ra.int_inv; rfl
  · split at e
    · rename_i c
      injection e with e; subst e; cases ra.str_inv; exact ⟨c, rfl⟩
    · cases e
  · injection e with e; subst e
    obtain ⟨pa, va, rfl, ha, ra'⟩ := ra.lst_inv sb
    exact .inl ⟨va, .of ha, by cases ra' <;> rfl⟩
  · injection e with e; subst e
    obtain ⟨pa, va, rfl, ha, ra'⟩ := ra.tup_inv
    exact .inr (.inl ⟨va, .of (sb _ _ ha), by cases ra' <;> rfl⟩)
  · cases e

/-! comparisons -/
def r2c (g : Gh) (f : D → D → Option Bool) : R2 := fun x y H Q => ∃ F a b r, Sub F H ∧ RX g F H x a ∧ RX g F H y b ∧ f a b = some r ∧ Q (.bl r) H
theorem op_eqd (hu : X.A.units + 64 < cLine) : OpR X (compareOp .Eq) (r2c g eqv) := by
  intro pins s σ H x y v u Q I rx ry ⟨F, a, b, r, sb, ra, rb, e, q⟩
  exact (eq_at I 60 X.A (by omega) e (ra.full sb) (rb.full sb) rx ry).1 X.prog X.w X.xe _ ⟨.bl r, H, I, rfl, q⟩
theorem op_ned (hu : X.A.units + 64 < cLine) : OpR X (compareOp .NotEq) (r2c g neqv) := by
  intro pins s σ H x y v u Q I rx ry ⟨F, a, b, r, sb, ra, rb, e, q⟩
  obtain ⟨k, h, rfl, h1, h2⟩ := neqv_inv e
  exact ne_at I 60 X.A (by omega) h (ra.full sb) (rb.full sb) rx ry h1 h2 X.prog X.w X.xe _ ⟨.bl _, H, I, rfl, q⟩
/-- x in y, not in -/
theorem in_run (hu : X.A.units + 64 < cLine) (hw : g.w = X.w) {neg : Bool} {pins : List (Addr × Obj)} {s : Shared} {σ : St} {H : Hp} {x y : V} {v u : Value} {Q : VK} {F : Hp} {a b : D} {r : Bool} (I : L2.Inv X pins σ H s) (rx : RelV x v) (ry : RelV y u) (sb : Sub F H) (ra : RX g F H x a) (rb : RX g F H y b) (e : inD a b = some r)
    (q : Q (.bl (if neg then !r else r)) H) : wpAny (model X.prog X.w) X.A (compareOp (if neg then .NotIn else .In) v u) (EP X pins σ Q) X.xe s := by
  unfold inD at e
  split at e
  · rename_i xs
    obtain ⟨pb, vb, rfl, hb, rb'⟩ := rb.lst_inv sb
    cases ry
    obtain ⟨its, vv, pl, _⟩ := I.list (.of hb)
    have k1 := go_any e (rb'.mono sb) vv
    have k2 := go_eqs I (A := X.A) (by omega) (ra.full sb) rx e (rb'.mono sb) vv
    cases neg with
    | false => exact SeqAt.in_listAt (eqTo g H a) pl.isList (fun y hy => k2 y (by simpa using hy)) (by simp only [List.any_toArray]; rw [k1]; exact ⟨.bl r, H, I, rfl, q⟩)
    | true => exact SeqAt.notIn_listAt (eqTo g H a) pl.isList (fun y hy => k2 y (by simpa using hy)) (by simp only [List.any_toArray]; rw [k1]; exact ⟨.bl (!r), H, I, rfl, q⟩)
  · rename_i xs
    obtain ⟨pb, vb, rfl, hb, rb'⟩ := rb.tup_inv
    cases ry
    obtain ⟨its, vv, pl, _⟩ := I.tuple (.of (sb _ _ hb))
    have k1 := go_any e (rb'.mono sb) vv
    have k2 := go_eqs I (A := X.A) (by omega) (ra.full sb) rx e (rb'.mono sb) vv
    cases neg with
    | false => exact SeqAt.in_tupleAt (eqTo g H a) (IsTup.ist pl) (fun y hy => k2 y (by simpa using hy)) (by simp only [List.any_toArray]; rw [k1]; exact ⟨.bl r, H, I, rfl, q⟩)
    | true => exact SeqAt.notIn_tupleAt (eqTo g H a) (IsTup.ist pl) (fun y hy => k2 y (by simpa using hy)) (by simp only [List.any_toArray]; rw [k1]; exact ⟨.bl (!r), H, I, rfl, q⟩)
  · rename_i z
    split at e
    · rename_i c
      injection e with e; subst e
      cases ra.str_inv; cases rb.str_inv
      cases neg with
      | false => exact op_in_sign pins s σ H _ _ _ _ Q I rx ry ⟨c, z, rfl, rfl, q⟩
      | true => exact op_notIn_sign pins s σ H _ _ _ _ Q I rx ry ⟨c, z, rfl, rfl, q⟩
    · cases e
  · rename_i kvs
    split at e
    · rename_i c
      simp only [Bool.and_eq_true] at c
      injection e with e; subst e
      obtain ⟨pa, es, ep, rfl, ha, rk, nd, _⟩ := rb.dct_inv sb
      cases ry
      exact in_dk hu hw I sb ha rk nd c.1 c.2 (ra.imm (tkey_imm c.2)) rx q
    · cases e
  · cases e
theorem lt_inv {a b : D} {r : Bool} (e : ltD 60 a b = some r) : (∃ i j, a = .int i ∧ b = .int j ∧ r = decide (i < j)) ∨ (∃ x y, a = .str x ∧ b = .str y ∧ r = decide (x.cps.toList < y.cps.toList)) := by
  simp only [ltD] at e
  split at e
  · injection e with e; exact .inl ⟨_, _, rfl, rfl, e.symm⟩
  · injection e with e; exact .inr ⟨_, _, rfl, rfl, e.symm⟩
  · cases e
theorem RX.non_iff {F H : Hp} {x : V} {a : D} (r : RX g F H x a) : decide (x = V.non) = decide (a = .non) := by
  by_cases h : a = .non
  · subst h
    rw [r.non_inv]
    simp
  · have : x ≠ V.non := by
      rintro rfl
      cases r with
      | rep r => cases r; exact h rfl
    simp [h, this]
theorem map_not {o : Option Bool} {r : Bool} (h : o.map (!·) = some r) : ∃ k, o = some k ∧ r = !k := by
  cases o with
  | none => cases h
  | some k => injection h with h; exact ⟨k, rfl, h.symm⟩
theorem op_cmp (hu : X.A.units + 64 < cLine) (hw : g.w = X.w) (op : CmpOp) : OpR X (compareOp op) (r2c g (cmpD op)) := by
  cases op with
  | Eq => exact op_eqd hu
  | NotEq => exact op_ned hu
  | Lt =>
    intro pins s σ H x y v u Q I rx ry ⟨F, a, b, r, sb, ra, rb, e, q⟩
    rcases lt_inv (show ltD 60 a b = some r from e) with ⟨i, j, rfl, rfl, rfl⟩ | ⟨i, j, rfl, rfl, rfl⟩
    · cases ra.int_inv; cases rb.int_inv
      exact op_lt pins s σ H _ _ _ _ Q I rx ry ⟨_, _, rfl, rfl, q⟩
    · cases ra.str_inv; cases rb.str_inv
      exact op_lt_str pins s σ H _ _ _ _ Q I rx ry ⟨_, _, rfl, rfl, q⟩
  | Gt =>
    intro pins s σ H x y v u Q I rx ry ⟨F, a, b, r, sb, ra, rb, e, q⟩
    rcases lt_inv (show ltD 60 b a = some r from e) with ⟨i, j, rfl, rfl, rfl⟩ | ⟨i, j, rfl, rfl, rfl⟩
    · cases ra.int_inv; cases rb.int_inv
      exact op_gt pins s σ H _ _ _ _ Q I rx ry ⟨_, _, rfl, rfl, q⟩
    · cases ra.str_inv; cases rb.str_inv
      exact op_gt_str pins s σ H _ _ _ _ Q I rx ry ⟨_, _, rfl, rfl, q⟩
  | LtE =>
    intro pins s σ H x y v u Q I rx ry ⟨F, a, b, r, sb, ra, rb, e, q⟩
    obtain ⟨k, e1, rfl⟩ := map_not (show (ltD 60 b a).map (!·) = some r from e)
    rcases lt_inv e1 with ⟨i, j, rfl, rfl, rfl⟩ | ⟨i, j, rfl, rfl, rfl⟩
    · cases ra.int_inv; cases rb.int_inv
      refine op_le pins s σ H _ _ _ _ Q I rx ry ⟨_, _, rfl, rfl, ?_⟩
      show Q (.bl (decide (j ≤ i))) H
      rwa [show decide (j ≤ i) = !decide (i < j) by by_cases h : i < j <;> simp [h] <;> omega]
    · cases ra.str_inv; cases rb.str_inv
      exact op_le_str pins s σ H _ _ _ _ Q I rx ry ⟨_, _, rfl, rfl, q⟩
  | GtE =>
    intro pins s σ H x y v u Q I rx ry ⟨F, a, b, r, sb, ra, rb, e, q⟩
    obtain ⟨k, e1, rfl⟩ := map_not (show (ltD 60 a b).map (!·) = some r from e)
    rcases lt_inv e1 with ⟨i, j, rfl, rfl, rfl⟩ | ⟨i, j, rfl, rfl, rfl⟩
    · cases ra.int_inv; cases rb.int_inv
      refine op_ge pins s σ H _ _ _ _ Q I rx ry ⟨_, _, rfl, rfl, ?_⟩
      show Q (.bl (decide (j ≤ i))) H
      rwa [show decide (j ≤ i) = !decide (i < j) by by_cases h : i < j <;> simp [h] <;> omega]
    · cases ra.str_inv; cases rb.str_inv
      exact op_ge_str pins s σ H _ _ _ _ Q I rx ry ⟨_, _, rfl, rfl, q⟩
  | In =>
    intro pins s σ H x y v u Q I rx ry ⟨F, a, b, r, sb, ra, rb, e, q⟩
    exact in_run (neg := false) hu hw I rx ry sb ra rb e q
  | NotIn =>
    intro pins s σ H x y v u Q I rx ry ⟨F, a, b, r, sb, ra, rb, e, q⟩
    obtain ⟨k, e1, rfl⟩ := map_not (show (inD a b).map (!·) = some r from e)
    exact in_run (neg := true) hu hw I rx ry sb ra rb e1 q
  | Is =>
    intro pins s σ H x y v u Q I rx ry ⟨F, a, b, r, sb, ra, rb, e, q⟩
    simp only [cmpD] at e
    split at e
    · injection e with e; subst e
      cases rb.non_inv
      exact op_isN pins s σ H _ _ _ _ Q I rx ry ⟨rfl, by rw [ra.non_iff]; exact q⟩
    · split at e
      · injection e with e; subst e
        cases ra.bl_inv; cases rb.bl_inv
        exact op_isBl pins s σ H _ _ _ _ Q I rx ry ⟨_, _, rfl, rfl, q⟩
      · cases e
    · cases e
  | IsNot =>
    intro pins s σ H x y v u Q I rx ry ⟨F, a, b, r, sb, ra, rb, e, q⟩
    simp only [cmpD] at e
    split at e
    · injection e with e; subst e
      cases rb.non_inv
      exact op_notN pins s σ H _ _ _ _ Q I rx ry ⟨rfl, by rw [ra.non_iff]; exact q⟩
    · split at e
      · injection e with e; subst e
        cases ra.bl_inv; cases rb.bl_inv
        exact op_notBl pins s σ H _ _ _ _ Q I rx ry ⟨_, _, rfl, rfl, q⟩
      · cases e
    · cases e
end
end PX

set_option Elab.async false
set_option linter.all false
set_option maxRecDepth 100000
/-! PxSe: expressions. -/
namespace PX
open PySem PySem.Spec L2
open PyProof.Rows hiding St

/-- behind a call -/
structure Back (g : Gh) (F H F' H' : Hp) (S : Stm) : Prop where
  ff : Sub F F'
  fh : Sub F' H'
  keep : ∀ a u, H a = some u → a ∉ cellsOf H g.sa → H' a = some u
  new : ∀ a u, H a = some u → F' a = F a
  st : StR g.sa H' S
  cel : ∀ a ∈ cellsOf H' g.sa, F' a = none ∧ (a ∈ cellsOf H g.sa ∨ H a = none)
  there : ∀ a ∈ cellsOf H g.sa, ∃ u, H' a = some u
/-- what a call hands back: new things are no cells -/
def NoCell (H' : Hp) (sa : Addr) (r : OV) (v : V) : Prop := ∀ o p, r = .own o → v = .ref p → p ∉ cellsOf H' sa
def CPost (g : Gh) (F H : Hp) (m : CO) (Q : VK) (E : XK) : Prop := match m with
  | .ok r S => ∀ v H' F', Back g F H F' H' S → NewV g H F' H' r v → NoCell H' g.sa r v → Q v H'
  | .err C fs S => ∀ cls d H' F', Back g F H F' H' S → ExcR g F' H' C fs cls d → E cls d H'
  | .bad => False
/-- a def's promise -/
def spF (w : World) (mg : Str → Option Value) (l : Nat) (call : List D → Stm → CO) : Sp := fun vs H Q E =>
  ∃ (sa : Addr) (F : Hp) (ds : List D) (S : Stm), RepA ⟨w, mg, sa⟩ F vs ds ∧ ds.length = l ∧ Sub F H ∧ StR sa H S ∧ (∀ a ∈ cellsOf H sa, F a = none) ∧ CPost ⟨w, mg, sa⟩ F H (call ds S) Q E

/-- what __init__ of an own exception class of one field promises: the parameter is kept -/
def spInit (K : PySem.W.Frag) (C : Addr) (f : Str) : Sp := fun vs H Q _ => ∃ (a : Addr) (y : V), vs = [.ref a, y] ∧ H a = some (exo a C none) ∧ ∀ dx, H dx = none → dx ≠ a → Q .non (upd (upd H dx (exd dx [(f, y)])) a (exo a C (some dx)))
/-- .. which is raised -/
structure ExcAt (K : PySem.W.Frag) (mg : Str → Option Value) (Ca : Addr) (ps : List Str) : Prop where
  oex : OexC K Ca
  xf : XfC K Ca
  ini : ∃ (fI : Addr) (fd : FuncData) (self f : Str), ps = [f] ∧ PySem.W.findIn K (.ref Ca) "__init__" = some (some (.ref fI)) ∧ PySem.W.typeIn K (.ref fI) = some (.type "function") ∧ PySem.W.findIn K (.ref Ca) f = some none ∧ Binds K fd [self, f] [] ∧
    ∀ (P : Program) (w : World) (base : Heap), FnOk P w K mg base CX0 1 fI fd [self, f] (spInit K Ca f) ∧ L2H.FnH P w K mg base CX0 1 fI fd [self, f] (spInit K Ca f)
/-- the module's names -/
structure TbOk (K : PySem.W.Frag) (mg : Str → Option Value) (T : Tb) : Prop where
  ci : ∀ x i, lkG T.glob x = some (.ci i) → ∃ t, mg x = some (.int i t)
  cs : ∀ x z, lkG T.glob x = some (.cs z) → ∃ t, mg x = some (.str z t)
  fn : ∀ x, lkG T.glob x = some .fn → ∃ a, mg x = some (.ref a) ∧ PySem.W.keepIn K (.ref a) = true
  cls : ∀ x, lkG T.glob x = some .cls → ∃ a, mg x = some (.ref a) ∧ PySem.W.keepIn K (.ref a) = true
  dbg : ∀ x, x = ("__debug__" : Str) → lkG T.glob x = none ∧ x ∉ T.free ∧ lkS T.excs x = none
  free : ∀ x ∈ T.free, mg x = none
  exc : ∀ C ps, lkS T.excs C = some ps → ∃ Ca, mg C = some (.ref Ca) ∧ (ps ≠ [] → ExcAt K mg Ca ps)
  exm : ∀ C D ps qs, lkS T.excs C = some ps → lkS T.excs D = some qs → ∀ Ca Da, mg C = some (.ref Ca) → mg D = some (.ref Da) → PySem.W.exmOne K (.ref Ca) (.ref Da) = some (isSubOf T (.glo C) D)

/-- where a def stands -/
def Fat (K : PySem.W.Frag) (mg : Str → Option Value) : Fid → Addr → Prop
  | (x, none), a => mg x = some (.ref a)
  | (C, some m), a => ∃ Ca, mg C = some (.ref Ca) ∧ Cls K Ca ∧ Meth K Ca m a
/-- the exceptions of a def: with any context, or with none -/
def CXB (P : Program) (w : World) (weak : Bool) : CXT := if weak = true then CX P w else L2N.CX P w
def TakesB (nn : Bool) (X : Cx) (W : WX) : Prop := if nn = true then L2N.Takes X W else Takes X W
theorem takesB_f {X : Cx} {W : WX} : TakesB false X W = Takes X W := rfl
theorem takesB_t {X : Cx} {W : WX} : TakesB true X W = L2N.Takes X W := rfl
theorem cx_weak {P : Program} {w : World} {outer : List Env} {H : Hp} {s : Shared} {E : XK} {u : Value} {s' : Shared} : L2N.CX P w outer H s E u s' → CX P w outer H s E u s' := by
  rintro ⟨a, B, H', cls, d, e, fl, r⟩
  exact ⟨a, B, H', cls, d, e, L2H.flyingZ_imp (fun o z => z.zc) fl, r⟩
theorem cxB_weak {P : Program} {w : World} {b : Bool} {outer : List Env} {H : Hp} {s : Shared} {E : XK} {u : Value} {s' : Shared} (h : CXB P w b outer H s E u s') : CX P w outer H s E u s' := by
  cases b with
  | true => exact h
  | false => exact cx_weak h
theorem passB {X : Cx} {W : WX} {nn b : Bool} (tk : TakesB nn X W) (hb : nn = true → b = false) (σ : St) : PassesAt (CXB X.prog X.w b) X σ (WE W σ) := by
  cases nn with
  | true =>
    rw [hb rfl]
    exact L2N.passAt tk σ
  | false => exact fun pins H s e s' I c => passAt tk σ pins H s e s' I (cxB_weak c)
theorem cxB_none {P : Program} {w : World} {b : Bool} {outer : List Env} {H : Hp} {s : Shared} {u : Value} {s' : Shared} (h : CXB P w b outer H s (fun _ _ _ => False) u s') : False := by
  obtain ⟨_, _, _, _, _, _, _, _, _, _, _, _, h⟩ := cxB_weak h
  exact h
structure FnAt (n : Cn) (f : Fid) (D : DefI) (a : Addr) : Prop where
  kp : PySem.W.keepIn n.X.K (.ref a) = true
  ok : ∃ fd, (∀ (s : Shared) (us : List Value) (kws : List (Str × Value)) (bs : List Value), bindA D.ps us kws = some bs → BindsTo s fd ⟨us, kws⟩ (D.ps.zip bs)) ∧
    FnOk n.X.prog n.X.w n.X.K n.X.mg n.X.base (CXB n.X.prog n.X.w D.weak) n.k a fd D.ps (spF n.X.w n.X.mg D.ps.length (n.c.call f))

structure Good (n : Cn) (W : WX) : Prop where
  N : n.X.N = n.c.N
  nd : n.c.N.Nodup
  dbg : ("__debug__" : Str) ∉ n.c.N ∧ ("__classdict__" : Str) ∉ n.c.N
  scope : n.X.env.scope = n.c.sc
  fn : ∀ x, n.X.fn x = n.c.fn x
  calm : n.c.hot = false → n.X.calm = true
  room : n.c.hot = false → Room (n.k + 2) n.X.A
  units : n.X.A.units + 80 < cLine
  tk : TakesB n.c.nn n.X W
  mg : n.g.mg = n.X.mg
  w : n.g.w = n.X.w
  tb : TbOk n.X.K n.X.mg n.c.T
  fns : ∀ f D, lkF n.c.T.defs f = some D → ∃ a, Fat n.X.K n.X.mg f a ∧ FnAt n f D a
  two : 2 ≤ n.k
  exn : n.c.hot = false → n.ex = none
  exs : ∀ a cls d, n.ex = some (a, cls, d) → ∃ (X0 : Cx) (oe : Obj) (pn : List (Addr × Obj)), n.X = X0.suite a ((a, oe) :: pn) ∧ Zc cls d oe ∧ ∃ vs, oe.data = .fields vs

abbrev SE (n : Cn) (W : WX) (e : Expr) (f : En → Stm → Out OV) : Prop := PE n.X e (tM n W (RV n) f)
abbrev IH (ev : EC → Expr → En → Stm → Out OV) : Prop := ∀ n W, Good n W → ∀ e, SE n W e (ev n.c e)
def RD (n : Cn) (F : Hp) (_ : St) (_ : Hp) (_ : En) (d : D) (v : V) : Prop := Rep n.g F v d
def RO (n : Cn) (F : Hp) (σ : St) (_ : Hp) (_ : En) (o : Opd) (v : V) : Prop := match o with
  | .dat d => Rep n.g F v d
  | .slot i => σ[i]? = some (some v)
def RB (n : Cn) (F : Hp) (σ : St) (_ : Hp) (_ : En) (a b : Bool) : Prop := a = b

theorem PE.imp {X : Cx} {e : Expr} {t t' : TE} (h : PE X e t) (k : ∀ σ H Q, t' σ H Q → t σ H Q) : PE X e t' := ⟨fun pins s σ H Q I q => h.run pins s σ H Q I (k _ _ _ q)⟩
theorem pe_never' {X : Cx} {e : Expr} {t : TE} (h : ∀ σ H Q, ¬ t σ H Q) : PE X e t := ⟨fun pins s σ H Q I q => (h _ _ _ q).elim⟩
theorem pt_never' {X : Cx} {e : Expr} {t : TT} (h : ∀ σ H Q, ¬ t σ H Q) : PT X e t := ⟨fun pins s σ H Q I q => (h _ _ _ q).elim⟩
theorem pw_never' {X : Cx} {e : Expr} {t : TT} (h : ∀ σ H Q, ¬ t σ H Q) : PW X e t := ⟨fun wh pins s σ H Q I q => (h _ _ _ q).elim⟩
theorem pa_never' {X : Cx} {e : List Expr} {t : TA} (h : ∀ σ H Q, ¬ t σ H Q) : PA X e t := ⟨fun p pins s σ H Q I q => (h _ _ _ q).elim⟩
theorem tM_bad {α β : Type} {n : Cn} {W : WX} {R : Hp → St → Hp → En → α → β → Prop} {f : En → Stm → Out α} (h : ∀ en S, f en S = .bad) : ∀ σ H Q, ¬ tM n W R f σ H Q := by
  rintro σ H Q ⟨en, S, F, sr, p⟩
  rw [h] at p; exact p
theorem PT.imp {X : Cx} {e : Expr} {t t' : TT} (h : PT X e t) (k : ∀ σ H Q, t' σ H Q → t σ H Q) : PT X e t' := ⟨fun pins s σ H Q I q => h.run pins s σ H Q I (k _ _ _ q)⟩
theorem PW.imp {X : Cx} {e : Expr} {t t' : TT} (h : PW X e t) (k : ∀ σ H Q, t' σ H Q → t σ H Q) : PW X e t' := ⟨fun wh pins s σ H Q I q => h.run wh pins s σ H Q I (k _ _ _ q)⟩
theorem PA.imp {X : Cx} {e : List Expr} {t t' : TA} (h : PA X e t) (k : ∀ σ H Q, t' σ H Q → t σ H Q) : PA X e t' := ⟨fun p pins s σ H Q I q => h.run p pins s σ H Q I (k _ _ _ q)⟩

section
variable {n : Cn} {W : WX} {F H : Hp} {σ : St} {en : En} {S : Stm}
theorem SR.resolve (r : SR n F σ H en S) {o : Opd} {v : V} {d : D} (x : RO n F σ H en o v) (e : o.get en = some d) : RX n.g F H v d := by
  cases o with
  | dat d' =>
    injection e with e; subst e
    exact .rep x
  | slot i =>
    have x : σ[i]? = some (some v) := x
    simp only [Opd.get] at e
    cases q : en[i]? with
    | none => rw [q] at e; cases e
    | some en' =>
      rw [q] at e
      cases en' with
      | none => cases e
      | exc => cases e
      | val d' =>
        injection e with e; subst e
        obtain ⟨v', hv, rp⟩ := r.at_val q
        rw [x] at hv; injection hv with hv; injection hv with hv; subst hv
        exact .rep rp
      | own o =>
        injection e with e; subst e
        obtain ⟨p, hp, _, _, _, ow⟩ := r.at_own q
        rw [x] at hp; injection hp with hv; injection hv with hv; subst hv
        exact ow.rx
theorem ix_get' {N : List Str} {x : Str} {i : Nat} (h : ix N x = some i) : N[i]? = some x := by
  unfold ix at h
  rw [List.idxOf?, List.findIdx?_eq_some_iff_getElem] at h
  obtain ⟨hl, a, _⟩ := h
  rw [List.getElem?_eq_getElem hl]
  simpa using a
theorem slot_vis {c : EC} {x : Str} {i : Nat} (h : c.slot x = some i) : c.N[i]? = some x ∧ Vis c.sc x := by
  unfold EC.slot at h
  unfold Vis
  split at h
  · rename_i e; exact ⟨ix_get' h, .inl e⟩
  · rename_i e; exact ⟨ix_get' h, .inr (.inl e)⟩
  · rename_i e; exact ⟨ix_get' h, .inr (.inr e)⟩
  · cases h
/-- a name of a slot, by its value -/
theorem pe_slot (G : Good n W) {x : Str} {i : Nat} {pos : Pos} (h : n.c.slot x = some i) : PE n.X (.Name x pos) (tVar i) := by
  obtain ⟨a, b⟩ := slot_vis h
  have m : x ∈ n.c.N := List.mem_of_getElem? a
  refine pe_var (by rw [G.N]; exact a) (by rw [G.scope]; exact b) ?_ ?_
  · cases e : (x == ("__debug__" : Str)) with
    | false => rfl
    | true => exact absurd (by rw [← eq_of_beq e]; exact m) G.dbg.1
  · cases e : (x == ("__classdict__" : Str)) with
    | false => rfl
    | true => exact absurd (by rw [← eq_of_beq e]; exact m) G.dbg.2
theorem gl_of (G : Good n W) {x : Str} (h : n.c.gl x = true) : Gl n.X x := by
  show n.X.env.scope.names.lookup x = some .globalImplicit
  rw [G.scope]
  unfold EC.gl at h
  split at h
  · assumption
  · cases h
theorem nodbg (G : Good n W) {x : Str} {k : GK} (h : lkG n.c.T.glob x = some k) : (x == ("__debug__" : Str)) = false := by
  cases e : (x == ("__debug__" : Str)) with
  | false => rfl
  | true => rw [(G.tb.dbg x (eq_of_beq e)).1] at h; cases h
theorem frz_at (r : SR n F σ H en S) {i : Nat} {o : O} (e : en[i]? = some (.own o)) : ∃ F' v, σ[i]? = some (some v) ∧ SR n F' σ H (frz en i) S ∧ Rep n.g F' v o.d ∧ Sub F F' := by
  obtain ⟨p, hp, _⟩ := r.at_own e
  obtain ⟨a, b, c⟩ := r.frz e hp
  refine ⟨_, _, hp, ?_, b, c⟩
  unfold frz; rw [e]; exact a
theorem s_name (G : Good n W) (x : Str) (pos : Pos) : SE n W (.Name x pos) (evName n.c x) := by
  by_cases hs : ∃ i, n.c.slot x = some i
  · obtain ⟨i, hs⟩ := hs
    refine PE.imp (pe_slot G hs) ?_
    rintro σ H Q ⟨en, S, F, sr, p⟩
    simp only [evName, hs] at p
    cases q : en[i]? with
    | none => rw [q] at p; exact p.elim
    | some e =>
      rw [q] at p
      cases e with
      | none => exact p.elim
      | exc => exact p.elim
      | val d =>
        obtain ⟨v, hv, rp⟩ := sr.at_val q
        exact ⟨v, hv, p v H F .refl sr (.val rp)⟩
      | own o =>
        obtain ⟨F', v, hv, sr', rp, sb⟩ := frz_at sr q
        exact ⟨v, hv, p v H F' sb sr' (.val rp)⟩
  · have hn : n.c.slot x = none := by
      cases e : n.c.slot x with
      | none => rfl
      | some i => exact absurd ⟨i, e⟩ hs
    by_cases hg : n.c.gl x = true
    · have gl := gl_of G hg
      cases q : lkG n.c.T.glob x with
      | none =>
        refine ⟨fun pins s σ H Q I h => ?_⟩
        obtain ⟨en, S, F, sr, p⟩ := h
        simp only [evName, hn, hg, q] at p
        exact p.elim
      | some k =>
        have db := nodbg G q
        cases k with
        | ci i =>
          obtain ⟨t, ht⟩ := G.tb.ci _ _ q
          refine PE.imp (pe_glob (v := .int i) gl ht ⟨t, rfl⟩ db) ?_
          rintro σ H Q ⟨en, S, F, sr, p⟩
          simp only [evName, hn, hg, q] at p
          exact p _ _ _ .refl sr (.val (.int i))
        | cs z =>
          obtain ⟨t, ht⟩ := G.tb.cs _ _ q
          refine PE.imp (pe_glob (v := .str z) gl ht ⟨t, rfl⟩ db) ?_
          rintro σ H Q ⟨en, S, F, sr, p⟩
          simp only [evName, hn, hg, q] at p
          exact p _ _ _ .refl sr (.val (.str z))
        | fn =>
          obtain ⟨a, ht, _⟩ := G.tb.fn _ q
          refine PE.imp (pe_glob (v := .ref a) gl ht rfl db) ?_
          rintro σ H Q ⟨en, S, F, sr, p⟩
          simp only [evName, hn, hg, q] at p
          exact p _ _ _ .refl sr (.val (.glo (by rw [G.mg]; exact ht)))
        | cls =>
          obtain ⟨a, ht, _⟩ := G.tb.cls _ q
          refine PE.imp (pe_glob (v := .ref a) gl ht rfl db) ?_
          rintro σ H Q ⟨en, S, F, sr, p⟩
          simp only [evName, hn, hg, q] at p
          exact p _ _ _ .refl sr (.val (.glo (by rw [G.mg]; exact ht)))
    · refine ⟨fun pins s σ H Q I h => ?_⟩
      obtain ⟨en, S, F, sr, p⟩ := h
      simp only [evName, hn, hg] at p
      exact p.elim
end

section
variable {ev : EC → Expr → En → Stm → Out OV} (ih : IH ev) {n : Cn} {W : WX} (G : Good n W)
include ih G
theorem s_V (e : Expr) : PE n.X e (tM n W (RD n) (evV ev n.c e)) := by
  refine PE.imp (ih n W G e) ?_
  rintro σ H Q ⟨en, S, F, sr, p⟩
  refine ⟨en, S, F, sr, Post.bind p ?_⟩
  intro r en S v H F _ _ sr rv p
  cases rv with
  | val h => exact p v H F .refl sr h
  | own a b c d e =>
    obtain ⟨F', sr', rp, sb⟩ := sr.frzV (.own a b c d e)
    exact p _ H F' sb sr' rp
theorem s_B (e : Expr) : PE n.X e (tM n W (RO n) (evB ev n.c e)) := by
  have base : ∀ σ H Q, (∃ en S F, SR n F σ H en S ∧ Post n W σ F (RO n) ((evV ev n.c e en S).bind fun d en S => .ok (.dat d) en S) Q) → tM n W (RD n) (evV ev n.c e) σ H Q := by
    rintro σ H Q ⟨en, S, F, sr, p⟩
    refine ⟨en, S, F, sr, Post.bind p ?_⟩
    intro r en S v H F _ _ sr rv p
    exact p v H F .refl sr rv
  cases q : asName e with
  | none =>
    refine PE.imp (s_V ih G e) ?_
    rintro σ H Q ⟨en, S, F, sr, p⟩
    simp only [evB, q, Option.bind_none] at p
    exact base σ H Q ⟨en, S, F, sr, p⟩
  | some x =>
    cases e with
    | Name y pos =>
      injection q with q; subst q
      by_cases hs : ∃ i, n.c.slot y = some i
      · obtain ⟨i, hs⟩ := hs
        refine ⟨fun pins s σ H Q I h => ?_⟩
        obtain ⟨en, S, F, sr, p⟩ := h
        by_cases ho : ∃ o, en[i]? = some (.own o)
        · obtain ⟨o, ho⟩ := ho
          have e1 : opName n.c y en = some i := by simp only [opName, hs, ho]
          simp only [evB, asName, Option.bind_some, e1] at p
          obtain ⟨a, ha, _⟩ := sr.at_own ho
          exact (pe_slot G hs).run pins s σ H Q I ⟨_, ha, p _ H F .refl sr ha⟩
        · have e1 : opName n.c y en = none := by
            simp only [opName, hs]
            split
            · rename_i o e; exact absurd ⟨o, e⟩ ho
            · rfl
          simp only [evB, asName, Option.bind_some, e1] at p
          exact (s_V ih G _).run pins s σ H Q I (base σ H Q ⟨en, S, F, sr, p⟩)
      · have hn : n.c.slot y = none := by
          cases e : n.c.slot y with
          | none => rfl
          | some i => exact absurd ⟨i, e⟩ hs
        refine PE.imp (s_V ih G _) ?_
        rintro σ H Q ⟨en, S, F, sr, p⟩
        have e1 : opName n.c y en = none := by simp only [opName, hn]
        simp only [evB, asName, Option.bind_some, e1] at p
        exact base σ H Q ⟨en, S, F, sr, p⟩
    | _ => cases q
theorem get_bind {n : Cn} {W : WX} {σ : St} {F H : Hp} {en : En} {S : Stm} {o : Opd} {v : V} {k : D → En → Stm → Out OV} {Q : VK} (sr : SR n F σ H en S) (x : RO n F σ H en o v)
    (p : Post n W σ F (RV n) ((resolve o en S).bind k) Q) : ∃ d, RX n.g F H v d ∧ Post n W σ F (RV n) (k d en S) Q := by
  unfold resolve lift at p
  cases q : o.get en with
  | none => rw [q] at p; exact p.elim
  | some d => rw [q] at p; exact ⟨d, sr.resolve x q, p⟩
theorem RO.mono {n : Cn} {σ : St} {F F' H H' : Hp} {en en' : En} {o : Opd} {v : V} (s : Sub F F') (x : RO n F σ H en o v) : RO n F' σ H' en' o v := by
  cases o with
  | dat d => exact Rep.mono s x
  | slot i => exact x
/-- two operands, then what is done with them -/
theorem op2 {a b : Expr} {r : R2} {k : D × D → En → Stm → Out OV} {σ : St} {H : Hp} {Q : VK} (h : tM n W (RV n) (fun en S => (ev2 ev n.c a b en S).bind k) σ H Q)
    (hk : ∀ F d e x y H1 en S, SR n F σ H1 en S → RX n.g F H1 x d → RX n.g F H1 y e → Post n W σ F (RV n) (k (d, e) en S) Q → r x y H1 Q) :
    tOp r (tM n W (RO n) (evB ev n.c a)) (tM n W (RO n) (evB ev n.c b)) σ H Q := by
  obtain ⟨en, S, F, sr, p⟩ := h
  simp only [ev2, bind_assoc] at p
  refine ⟨en, S, F, sr, Post.bind p ?_⟩
  intro o en S x H F _ _ sr ro p
  refine ⟨en, S, F, sr, Post.bind p ?_⟩
  intro o2 en S y H F _ sb sr ro2 p
  obtain ⟨d, rd, p⟩ := get_bind ih G sr (RO.mono ih G sb ro) p
  obtain ⟨e, re, p⟩ := get_bind ih G sr ro2 p
  exact hk F d e x y H en S sr rd re p
theorem s_bin (a b : Expr) (op : Operator) (pos : Pos) : SE n W (.BinOp a op b pos) (evBin ev n.c a op b) := by
  refine PE.imp (pe_op (op_bin (g := n.g) op) (s_B ih G a) (s_B ih G b)) ?_
  intro σ H Q h
  refine op2 ih G h ?_
  intro F d e x y H en S sr rd re p
  have key : Post n W σ F (RV n) (lift (binD op d e) en S) Q → r2 n.g (binD op) x y H Q := by
    intro p
    unfold lift at p
    cases q : binD op d e with
    | none => rw [q] at p; exact p.elim
    | some r => rw [q] at p; exact ⟨F, d, e, r, sr.sub, rd, re, q, .of sr p⟩
  exact key p
end
end PX

set_option Elab.async false
set_option linter.all false
set_option maxRecDepth 100000
namespace PX
open PySem PySem.Spec L2
open PyProof.Rows hiding St

section
variable {ev : EC → Expr → En → Stm → Out OV} (ih : IH ev) {n : Cn} {W : WX} (G : Good n W)
include ih G
theorem cmp_read {a b : Expr} {op : CmpOp} {σ : St} {H : Hp} {Q : VK} (hb : behindInMarks op b = false) (h : tM n W (RV n) (evCmp ev n.c a op b) σ H Q) :
    tOp (r2c n.g (cmpD op)) (tM n W (RO n) (evB ev n.c a)) (tM n W (RO n) (evB ev n.c b)) σ H Q := by
  have e0 : evCmp ev n.c a op b = fun en S => (ev2 ev n.c a b en S).bind fun p en S => (lift (cmpD op p.1 p.2) en S).bind fun b en S => .ok (.val (.bl b)) en S := by
    funext en S; unfold evCmp; rw [hb]; rfl
  rw [e0] at h
  refine op2 ih G h ?_
  intro F d e x y H en S sr rd re p
  have key : Post n W σ F (RV n) ((lift (cmpD op d e) en S).bind fun b en S => .ok (.val (.bl b)) en S) Q → r2c n.g (cmpD op) x y H Q := by
    intro p
    unfold lift at p
    cases q : cmpD op d e with
    | none => rw [q] at p; exact p.elim
    | some r => rw [q] at p; exact ⟨F, d, e, r, sr.sub, rd, re, q, p _ _ _ .refl sr (.val (.bl r))⟩
  exact key p
theorem s_cmp (a b : Expr) (op : CmpOp) (pos : Pos) : SE n W (.Compare a [op] [b] pos) (evCmp ev n.c a op b) := by
  cases hb : behindInMarks op b with
  | true => exact pe_never' (tM_bad fun en S => by unfold evCmp; rw [hb]; rfl)
  | false => exact PE.imp (pe_cmpR (op_cmp (g := n.g) (by have := G.units; omega) G.w op) (s_B ih G a) (s_B ih G b) hb) fun σ H Q h => cmp_read ih G hb h
/-- a chain -/
theorem chain_read {a b d : Expr} {op op' : CmpOp} {σ : St} {H : Hp} {Q : VK} (hb : lastMarks [op, op'] [b, d] = false) (h : tM n W (RV n) (evChain ev n.c a op b op' d) σ H Q) :
    tChain (r2c n.g (cmpD op)) (r2c n.g (cmpD op')) (tM n W (RO n) (evB ev n.c a)) (tM n W (RO n) (evB ev n.c b)) (tM n W (RO n) (evB ev n.c d)) σ H Q := by
  have e0 : evChain ev n.c a op b op' d = fun en S => (ev2 ev n.c a b en S).bind fun p en S => (lift (cmpD op p.1 p.2) en S).bind fun k en S =>
      if k = true then (if p.2.imm = true then (evD ev n.c d en S).bind fun z en S => (lift (cmpD op' p.2 z) en S).bind fun k en S => .ok (.val (.bl k)) en S else .bad) else .ok (.val (.bl false)) en S := by
    funext en S; unfold evChain; rw [hb]; rfl
  rw [e0] at h
  obtain ⟨en, S, F, sr, p⟩ := h
  simp only [ev2, bind_assoc] at p
  refine ⟨en, S, F, sr, Post.bind p ?_⟩
  intro o en S x H F _ _ sr ro p
  refine ⟨en, S, F, sr, Post.bind p ?_⟩
  intro o2 en S y H F _ sb sr ro2 p
  obtain ⟨d1, rd, p⟩ := get_bind ih G sr (RO.mono ih G sb ro) p
  obtain ⟨e1, re, p⟩ := get_bind ih G sr ro2 p
  simp only [lift, Out.bind] at p
  cases q : cmpD op d1 e1 with
  | none => rw [q] at p; exact p.elim
  | some k =>
    rw [q] at p
    refine ⟨F, d1, e1, k, sr.sub, rd, re, q, k, rfl, ?_⟩
    cases k with
    | false =>
      simp only [Bool.false_eq_true, if_false] at p ⊢
      exact p _ _ _ .refl sr (.val (.bl false))
    | true =>
      simp only [if_true] at p ⊢
      have p : Post n W σ F (RV n) (if e1.imm = true then (evD ev n.c d en S).bind fun z en S => (lift (cmpD op' e1 z) en S).bind fun k en S => .ok (.val (.bl k)) en S else .bad) Q := p
      by_cases im : e1.imm = true
      case neg => rw [if_neg im] at p; exact p.elim
      rw [if_pos im] at p
      simp only [evD, bind_assoc] at p
      refine ⟨en, S, F, sr, Post.bind p ?_⟩
      intro o3 en3 S3 z H3 F3 _ sb3 sr3 ro3 p
      obtain ⟨z1, rz, p⟩ := get_bind ih G sr3 ro3 p
      unfold lift at p
      cases q2 : cmpD op' e1 z1 with
      | none => rw [q2] at p; exact p.elim
      | some k2 =>
        rw [q2] at p
        have re3 : RX n.g F3 H3 y e1 := .rep ((re.imm im).mono sb3)
        exact ⟨F3, e1, z1, k2, sr3.sub, re3, rz, q2, p _ _ _ .refl sr3 (.val (.bl k2))⟩
theorem s_chain (a b d : Expr) (op op' : CmpOp) (pos : Pos) : SE n W (.Compare a [op, op'] [b, d] pos) (evChain ev n.c a op b op' d) := by
  cases hb : lastMarks [op, op'] [b, d] with
  | true => exact pe_never' (tM_bad fun en S => by unfold evChain; rw [hb]; rfl)
  | false =>
    have u : n.X.A.units + 64 < cLine := by have := G.units; omega
    exact PE.imp (pe_chain (op_cmp (g := n.g) u G.w op) (op_cmp (g := n.g) u G.w op') (s_B ih G a) (s_B ih G b) (s_B ih G d) hb) fun σ H Q h => chain_read ih G hb h
theorem s_cmpE (a : Expr) (ops : List CmpOp) (bs : List Expr) (pos : Pos) : SE n W (.Compare a ops bs pos) (cmpE ev n.c a ops bs) := by
  rcases ops with _ | ⟨o1, _ | ⟨o2, _ | ⟨o3, os⟩⟩⟩ <;> rcases bs with _ | ⟨b1, _ | ⟨b2, _ | ⟨b3, bs⟩⟩⟩ <;>
    first
    | exact s_cmp ih G a b1 o1 pos
    | exact s_chain ih G a b1 b2 o1 o2 pos
    | exact pe_never' (tM_bad fun en S => rfl)
/-- the answer of a reading, as a test -/
theorem test_read {α : Type} {f : En → Stm → Out OV} {k : OV → En → Stm → Out Bool} {t : TE} {σ : St} {H : Hp} {Q : Bool → Hp → Prop} (hk : ∀ r en S, k r en S = match r with | .val (.bl b) => .ok b en S | _ => .bad)
    (ht : ∀ Q, tM n W (RV n) f σ H Q → t σ H Q) (h : tM n W (RB n) (fun en S => (f en S).bind k) σ H Q) : tTest t σ H Q := by
  refine ht _ ?_
  obtain ⟨en, S, F, sr, p⟩ := h
  refine ⟨en, S, F, sr, Post.bind p ?_⟩
  intro r en S v H F _ _ sr rv p
  rw [hk] at p
  cases rv with
  | own => exact p.elim
  | val h => cases h with
    | bl b => exact ⟨b, rfl, p b H F .refl sr rfl⟩
    | _ => exact p.elim
theorem t_cmpE (a : Expr) (ops : List CmpOp) (bs : List Expr) (pos : Pos) {k : OV → En → Stm → Out Bool} (hk : ∀ r en S, k r en S = match r with | .val (.bl b) => .ok b en S | _ => .bad) :
    PT n.X (.Compare a ops bs pos) (tM n W (RB n) fun en S => (cmpE ev n.c a ops bs en S).bind k) := by
  have u : n.X.A.units + 64 < cLine := by have := G.units; omega
  rcases ops with _ | ⟨o1, _ | ⟨o2, _ | ⟨o3, os⟩⟩⟩ <;> rcases bs with _ | ⟨b1, _ | ⟨b2, _ | ⟨b3, bs⟩⟩⟩ <;>
    first
    | exact pt_never' (tM_bad fun en S => rfl)
    | skip
  · cases hb : behindInMarks o1 b1 with
    | true => exact pt_never' (tM_bad fun en S => by simp only [cmpE, evCmp, hb]; rfl)
    | false => exact PT.imp (pt_cmpR (op_cmp (g := n.g) u G.w o1) (s_B ih G a) (s_B ih G b1) hb) fun σ H Q h => test_read (α := Unit) ih G hk (fun Q h => cmp_read ih G hb h) h
  · cases hb : lastMarks [o1, o2] [b1, b2] with
    | true => exact pt_never' (tM_bad fun en S => by simp only [cmpE, evChain, hb]; rfl)
    | false => exact PT.imp (pt_chain (op_cmp (g := n.g) u G.w o1) (op_cmp (g := n.g) u G.w o2) (s_B ih G a) (s_B ih G b1) (s_B ih G b2) hb) fun σ H Q h => test_read (α := Unit) ih G hk (fun Q h => chain_read ih G hb h) h
end
end PX

set_option Elab.async false
set_option linter.all false
set_option maxRecDepth 100000
namespace PX
open PySem PySem.Spec L2
open PyProof.Rows hiding St

section
variable {ev : EC → Expr → En → Stm → Out OV} (ih : IH ev) {n : Cn} {W : WX} (G : Good n W)
include ih G
/-- an expression's data, then what is done with it -/
theorem op1 {α β : Type} {a : Expr} {R : Hp → St → Hp → En → α → β → Prop} {k : D → En → Stm → Out α} {σ : St} {H : Hp} {Q : β → Hp → Prop} {Q' : VK} (h : tM n W R (fun en S => (evD ev n.c a en S).bind k) σ H Q)
    (hk : ∀ F d x H1 en S, SR n F σ H1 en S → RX n.g F H1 x d → Post n W σ F R (k d en S) Q → Q' x H1) :
    tM n W (RO n) (evB ev n.c a) σ H Q' := by
  obtain ⟨en, S, F, sr, p⟩ := h
  simp only [evD, bind_assoc] at p
  refine ⟨en, S, F, sr, Post.bind p ?_⟩
  intro o en S x H F _ _ sr ro p
  simp only [resolve, lift] at p
  cases q : o.get en with
  | none => rw [q] at p; exact p.elim
  | some d => rw [q] at p; exact hk F d x H en S sr (sr.resolve ro q) p
theorem tru_read {a : Expr} {σ : St} {H : Hp} {Q : Bool → Hp → Prop} (h : tM n W (RB n) (fun en S => (evD ev n.c a en S).bind fun d en S => lift (truD d) en S) σ H Q) :
    tM n W (RO n) (evB ev n.c a) σ H fun x H' => ∃ k, TruV n.X.K x H' k ∧ Q k H' := by
  refine op1 ih G h ?_
  intro F d x H en S sr rx p
  unfold lift at p
  cases q : truD d with
  | none => rw [q] at p; exact p.elim
  | some k =>
    rw [q] at p
    exact ⟨k, rx.tru sr.sub q, p k H F .refl sr rfl⟩
theorem t_plain (e : Expr) (he : ∀ whole, isTrue e n.X.env whole = (do let v ← whole; standAt e.pos; holding [v] (truthy v))) : PT n.X e (tM n W (RB n) fun en S => (evD ev n.c e en S).bind fun d en S => lift (truD d) en S) :=
  PT.imp (pt_truth (s_B ih G e) he) fun σ H Q h => tru_read ih G h
theorem tests_ok {k : Nat} (hT : ∀ e, PT n.X e (tM n W (RB n) (evT ev k n.c e))) (op : BoolOp) (pos : Pos) : ∀ es : List Expr, PW n.X (.BoolOp op es pos) (tM n W (RB n) (testsF (evT ev k n.c) op es))
  | [] => pw_never' (tM_bad fun en S => rfl)
  | [e] => by
    have red : ∀ σ H Q, tM n W (RB n) (testsF (evT ev k n.c) op [e]) σ H Q → tM n W (RB n) (evT ev k n.c e) σ H Q := by
      rintro σ H Q ⟨en, S, F, sr, p⟩
      refine ⟨en, S, F, sr, ?_⟩
      simp only [testsF] at p
      refine Post.bind p ?_
      intro r en S v H F _ _ sr rv p
      exact p v H F .refl sr rv
    cases op with
    | And => exact PW.imp (pw_and1 (hT e)) red
    | Or => exact PW.imp (pw_or1 (hT e)) red
  | e :: e2 :: r => by
    cases op with
    | And =>
      refine PW.imp (pw_and (hT e) (tests_ok hT .And pos (e2 :: r))) ?_
      rintro σ H Q ⟨en, S, F, sr, p⟩
      simp only [testsF] at p
      refine ⟨en, S, F, sr, Post.bind p ?_⟩
      intro b en S v H F _ _ sr rv p
      cases rv
      cases b with
      | true => exact ⟨en, S, F, sr, p⟩
      | false => exact p false H F .refl sr rfl
    | Or =>
      refine PW.imp (pw_or (hT e) (tests_ok hT .Or pos (e2 :: r))) ?_
      rintro σ H Q ⟨en, S, F, sr, p⟩
      simp only [testsF] at p
      refine ⟨en, S, F, sr, Post.bind p ?_⟩
      intro b en S v H F _ _ sr rv p
      cases rv
      cases b with
      | false => exact ⟨en, S, F, sr, p⟩
      | true => exact p true H F .refl sr rfl
theorem s_T : ∀ (k : Nat) (e : Expr), PT n.X e (tM n W (RB n) (evT ev k n.c e))
  | 0, e => pt_never' (tM_bad fun en S => rfl)
  | k + 1, e => by
    cases e with
    | UnaryOp op x pos =>
      cases op with
      | Not =>
        refine PT.imp (pt_not (s_T k x)) ?_
        rintro σ H Q ⟨en, S, F, sr, p⟩
        simp only [evT] at p
        refine ⟨en, S, F, sr, Post.bind p ?_⟩
        intro b en S v H F _ _ sr rv p
        cases rv
        exact p _ H F .refl sr rfl
      | _ => exact PT.imp (t_plain ih G _ fun _ => rfl) fun σ H Q h => h
    | BoolOp op es pos => exact PT.imp (tests_ok ih G (s_T k) op pos es).pt fun σ H Q h => h
    | IfExp => exact pt_never' (tM_bad fun en S => rfl)
    | Compare a ops bs pos => exact PT.imp (t_cmpE ih G a ops bs pos (fun r en S => rfl)) fun σ H Q h => h
    | _ => exact PT.imp (t_plain ih G _ fun _ => rfl) fun σ H Q h => h
theorem s_not (x : Expr) (pos : Pos) : SE n W (.UnaryOp .Not x pos) (fun en S => (evD ev n.c x en S).bind fun d en S => (lift (truD d) en S).bind fun b en S => .ok (.val (.bl (!b))) en S) := by
  refine PE.imp (pe_notT (s_B ih G x)) ?_
  intro σ H Q h
  refine op1 ih G h ?_
  intro F d v H en S sr rx p
  unfold lift at p
  cases q : truD d with
  | none => rw [q] at p; exact p.elim
  | some k =>
    rw [q] at p
    exact ⟨k, rx.tru sr.sub q, p _ H F .refl sr (.val (.bl _))⟩
theorem s_neg (x : Expr) (pos : Pos) : SE n W (.UnaryOp .USub x pos) (fun en S => (evV ev n.c x en S).bind fun d en S => match d with
    | .int i => .ok (.val (.int (-i))) en S
    | _ => .bad) := by
  refine PE.imp (pe_un un_neg (s_V ih G x)) ?_
  rintro σ H Q ⟨en, S, F, sr, p⟩
  refine ⟨en, S, F, sr, Post.bind p ?_⟩
  intro d en S v H F _ _ sr rv p
  cases d with
  | int i =>
    cases Rep.int_inv rv
    exact ⟨i, rfl, p _ H F .refl sr (.val (.int _))⟩
  | _ => exact p.elim
theorem s_boolV (op : BoolOp) (pos : Pos) : ∀ es : List Expr, SE n W (.BoolOp op es pos) (boolV ev n.c op es)
  | [] => pe_never' (tM_bad fun en S => rfl)
  | [e] => PE.imp (pe_one (ih n W G e)) fun σ H Q h => h
  | e :: e2 :: r => by
    cases op with
    | And =>
      refine PE.imp (pe_and (s_V ih G e) (s_boolV .And pos (e2 :: r))) ?_
      rintro σ H Q ⟨en, S, F, sr, p⟩
      unfold boolV at p
      refine ⟨en, S, F, sr, Post.bind (k := fun d en S => match BoolOp.And, d with
        | .And, .bl true => boolV ev n.c .And (e2 :: r) en S
        | .Or, .bl false => boolV ev n.c .And (e2 :: r) en S
        | _, .bl b => .ok (.val (.bl b)) en S
        | _, _ => .bad) p ?_⟩
      intro d en S v H F _ _ sr rv p
      cases d with
      | bl b =>
        cases Rep.bl_inv rv
        refine ⟨b, rfl, ?_⟩
        cases b with
        | true => exact ⟨en, S, F, sr, p⟩
        | false => exact p _ H F .refl sr (.val (.bl _))
      | _ => exact p.elim
    | Or =>
      refine PE.imp (pe_or (s_V ih G e) (s_boolV .Or pos (e2 :: r))) ?_
      rintro σ H Q ⟨en, S, F, sr, p⟩
      unfold boolV at p
      refine ⟨en, S, F, sr, Post.bind (k := fun d en S => match BoolOp.Or, d with
        | .And, .bl true => boolV ev n.c .Or (e2 :: r) en S
        | .Or, .bl false => boolV ev n.c .Or (e2 :: r) en S
        | _, .bl b => .ok (.val (.bl b)) en S
        | _, _ => .bad) p ?_⟩
      intro d en S v H F _ _ sr rv p
      cases d with
      | bl b =>
        cases Rep.bl_inv rv
        refine ⟨b, rfl, ?_⟩
        cases b with
        | false => exact ⟨en, S, F, sr, p⟩
        | true => exact p _ H F .refl sr (.val (.bl _))
      | _ => exact p.elim
theorem s_ifExp (k : Nat) (t a b : Expr) (pos : Pos) : SE n W (.IfExp t a b pos) (fun en S => (evT ev k n.c t en S).bind fun k en S => if k = true then ev n.c a en S else ev n.c b en S) := by
  refine PE.imp (pe_ifExp (s_T ih G k t) (ih n W G a) (ih n W G b)) ?_
  rintro σ H Q ⟨en, S, F, sr, p⟩
  refine ⟨en, S, F, sr, Post.bind p ?_⟩
  intro c en S v H F _ _ sr rv p
  cases rv
  cases c with
  | true => exact ⟨en, S, F, sr, p⟩
  | false => exact ⟨en, S, F, sr, p⟩
theorem star_cons {env : Env} {e : Expr} {es : List Expr} (h : isStar e = false) : starEach (e :: es) env = (false, eval e env) :: starEach es env := by
  cases e <;> first | rfl | cases h
def RDs (n : Cn) (F : Hp) (_ : St) (_ : Hp) (_ : En) (ds : List D) (vs : List V) : Prop := RepA n.g F vs ds
theorem s_Vs : ∀ es : List Expr, PA n.X es (tM n W (RDs n) (evVs ev n.c es))
  | [] => PA.imp pa_nil fun σ H Q ⟨en, S, F, sr, p⟩ => p _ H F .refl sr .nil
  | e :: es => by
    cases hs : isStar e with
    | true =>
      refine ⟨fun pos pins s σ H Q I ⟨en, S, F, sr, p⟩ => ?_⟩
      cases e <;> first | (cases hs; done) | exact p.elim
    | false =>
      refine PA.imp (pa_cons (s_V ih G e) (s_Vs es) (star_cons ih G hs)) ?_
      rintro σ H Q ⟨en, S, F, sr, p⟩
      have e0 : evVs ev n.c (e :: es) en S = (evV ev n.c e en S).bind fun d en S => (evVs ev n.c es en S).bind fun ds en S => .ok (d :: ds) en S := by
        cases e <;> first | rfl | cases hs
      rw [e0] at p
      refine ⟨en, S, F, sr, Post.bind p ?_⟩
      intro d en S v H F _ _ sr rv p
      refine ⟨en, S, F, sr, Post.bind p ?_⟩
      intro ds en S vs H F _ sb sr rvs p
      exact p _ H F .refl sr (.cons (Rep.mono sb rv) rvs)
theorem s_list (es : List Expr) (pos : Pos) : SE n W (.List es pos) (fun en S => (evVs ev n.c es en S).bind fun ds en S => if ds.length ≤ sizeLine then .ok (.own (.lst ds)) en S else .bad) := by
  refine PE.imp (pe_lst (s_Vs ih G es)) ?_
  rintro σ H Q ⟨en, S, F, sr, p⟩
  refine ⟨en, S, F, sr, Post.bind p ?_⟩
  intro ds en S vs H F _ _ sr rv p
  by_cases h : ds.length ≤ sizeLine
  · rw [if_pos h] at p
    exact ⟨by rw [RepA.length rv]; exact h, (OpPost.of sr p).lst sr.sub rv⟩
  · rw [if_neg h] at p; exact p.elim
theorem s_tuple (es : List Expr) (x1) (pos : Pos) : SE n W (.Tuple es x1 pos) (fun en S => (evVs ev n.c es en S).bind fun ds en S => if ds.length ≤ sizeLine then .ok (.val (.tup ds)) en S else .bad) := by
  refine PE.imp (pe_tup (s_Vs ih G es)) ?_
  rintro σ H Q ⟨en, S, F, sr, p⟩
  refine ⟨en, S, F, sr, Post.bind p ?_⟩
  intro ds en S vs H F _ _ sr rv p
  by_cases h : ds.length ≤ sizeLine
  · rw [if_pos h] at p
    exact ⟨by rw [RepA.length rv]; exact h, (OpPost.of sr p).tup sr.sub rv⟩
  · rw [if_neg h] at p; exact p.elim
end
end PX

set_option Elab.async false
set_option linter.all false
set_option maxRecDepth 100000
/-! PxRevT: t[::-1] of a tuple. -/
namespace PX
open PySem PySem.Spec L2 PySem.Calls
open PyProof.Rows hiding St

theorem rev_list (l : List Value) : (List.range l.length).filterMap (fun (k : Nat) => l[((l.length : Int) - 1 + (k : Int) * (-1)).toNat]?) = l.reverse := by
  have h2 : ∀ (l : List Value), (List.range l.length).filterMap (l[·]?) = l := by
    intro l
    have := PySem.W.krv_all l.toArray
    simpa using this
  have e1 : (List.range l.length).filterMap (fun (k : Nat) => l[((l.length : Int) - 1 + (k : Int) * (-1)).toNat]?) = (List.map (fun k => l.length - 1 - k) (List.range l.length)).filterMap (l[·]?) := by
    rw [List.filterMap_map]
    congr 1
    funext k
    have : ((l.length : Int) - 1 + (k : Int) * (-1)).toNat = l.length - 1 - k := by omega
    simp only [Function.comp, this]
  rw [e1, PySem.W.krv_range, List.filterMap_reverse, h2]
section
variable {prog : Program} {w : World} {A : Around} {E : Value → Shared → Prop} {s : Shared}
theorem sliceApplied_rev {sl : Addr} {vl vu vs : Value} {n : Nat} {Q : Int × Int × Nat → Shared → Prop} (hs : s.heap.IsSliceOf sl vl vu vs) (pl : IsPart vl none) (pu : IsPart vu none) (ps : IsPart vs (some (-1)))
    (h : Q ((n : Int) - 1, -1, n) s) : wpAny (model prog w) A (Builtin.Slice.sliceApplied (.ref sl) (pure (n : Int))) Q E s := by
  obtain ⟨os, hos, hcs, hds⟩ := id hs
  unfold Builtin.Slice.sliceApplied Builtin.Slice.sliceFields
  refine wpAny_bind (wpAny_bind (wpAny_field hos hds (x := vl) rfl (wpAny_bind (wpAny_field hos hds (x := vu) rfl (wpAny_bind (wpAny_field hos hds (x := vs) rfl (wpAny_pure ?_)))))))
  refine wpAny_bind (HT.slicePart_ ps ?_)
  show wpAny _ _ (if ((-1 : Int) == 0) = true then _ else _) _ _ s
  rw [if_neg (by decide)]
  refine wpAny_bind (HT.slicePart_ pl (wpAny_bind (HT.slicePart_ pu (wpAny_bind (wpAny_pure ?_)))))
  show wpAny _ _ (pure ((n : Int) - 1, (-1 : Int), Builtin.Slice.slicePlaces ((n : Int) - 1) (-1) (-1))) _ _ s
  have e : Builtin.Slice.slicePlaces ((n : Int) - 1) (-1) (-1) = n := by
    unfold Builtin.Slice.slicePlaces
    rw [if_neg (by omega)]
    split
    · rw [show (-(-1) : Int) = 1 from rfl, Int.ediv_one]; omega
    · omega
  rw [e]
  exact wpAny_pure h
theorem getItem_tuple_rev {t sl : Addr} {items : Array Value} {vl vu vs : Value} {Q : Value → Shared → Prop} (ht : IsTup s.heap t items) (hs : s.heap.IsSliceOf sl vl vu vs) (pl : IsPart vl none) (pu : IsPart vu none) (ps : IsPart vs (some (-1)))
    (h : Q (.ref s.heap.objs.size) { s with heap := s.heap.push { cls := .type "tuple", data := .seq items.toList.reverse.toArray } }) (hsz : items.size ≤ sizeLine) : wpAny (model prog w) A (getItem (.ref t) (.ref sl)) Q E s := by
  have htake : sizeOk (.seq items.toList.reverse.toArray) := by
    show items.toList.reverse.toArray.size ≤ sizeLine
    rw [List.size_toArray, List.length_reverse, Array.length_toList]
    exact hsz
  obtain ⟨os, hos, hcs, hds⟩ := id hs
  have hTs : s.TypeIs (.ref sl) "slice" := ⟨os, hos, hcs⟩
  unfold getItem
  try with_reducible refine wpAny_holding ?_
  first | refine wpAny_bind (wpAny_pure ?_) | skip
  refine wpAny_bind (wpAny_sequenceKey ht.typeIs (by decide) ?_)
  refine wpAny_bind (wpAny_callSpecial?_slot (name := Str.ofString "__getitem__") ht.typeIs PyProof.Rows.slot_tuple_getitem
    (wpAny_call_entry PyProof.Rows.slot_tuple_getitem ht.typeIs entry_tuple_getitem ?_ (args_tuple_getitem _ _)))
  show wpAny _ _ (Builtin.Tuple.tupleItemsOf (.ref t) >>= _) _ _ s
  refine wpAny_bind (tupleItemsOf_ ht ?_)
  refine wpAny_bind (wpAny_typeOf hTs ?_)
  rw [if_pos (by decide)]
  refine wpAny_bind (sliceApplied_rev hs pl pu ps ?_)
  have hno : ¬ ((((items.size : Int) - 1) == 0 && (-1 : Int) == 1 && items.size == items.size) = true) := by
    simp
  show wpAny _ _ (if (((items.size : Int) - 1) == 0 && (-1 : Int) == 1 && items.size == items.size) = true then _ else _) _ _ s
  have hp : ((List.range items.size).filterMap fun (k : Nat) => items[((items.size : Int) - 1 + (k : Int) * (-1)).toNat]?).toArray = items.toList.reverse.toArray := by
    have := rev_list items.toList
    rw [Array.length_toList] at this
    rw [← this]
    congr 2
    funext k
    rw [Array.getElem?_toList]
  rw [if_neg hno, hp]
  first
    | exact wpAny_bind (m := Builtin.Tuple.tupleExact _) (wpAny_newObj_type (wpAny_pure ⟨_, rfl, wpAny_pure h⟩) htake)
    | exact wpAny_bind (m := Builtin.Tuple.tupleExact _) (wpAny_newObj_type (wpAny_bind (wpAny_pure (wpAny_pure ⟨_, rfl, wpAny_pure h⟩))) htake)
end
end PX

set_option Elab.async false
set_option linter.all false
set_option maxRecDepth 100000
namespace PX
open PySem PySem.Spec L2
open PyProof.Rows hiding St

/-! ### subscripts, slices -/
theorem RepA.cutD {g : Gh} {F : Hp} {vs : List V} {ds : List D} (r : RepA g F vs ds) (l h : Option Int) : RepA g F (cutV vs l h) (cutD ds l h) := by
  unfold L2.cutV PX.cutD
  rw [r.length]
  exact (r.drop _).take _
section
variable {X : Cx} {g : Gh}
def rCut (g : Gh) : V → Option Int → Option Int → Hp → VK → Prop := fun x lo hi H Q => ∃ F a r, Sub F H ∧ RX g F H x a ∧ cutOV a lo hi = some r ∧ OpPost g F H r Q
theorem sl_cut : SlR X (rCut g) := by
  intro pins s σ H x v vl vu lo hi sl Q I rx hs pl pu ⟨F, a, r, sb, ra, e, q⟩
  unfold cutOV at e
  split at e
  · injection e with e; subst e
    obtain ⟨pa, va, rfl, ha, ra'⟩ := ra.lst_inv sb
    exact sl_list pins s σ H _ v vl vu lo hi sl Q I rx hs pl pu ⟨pa, va, rfl, .of ha, q.lst sb (ra'.cutD lo hi)⟩
  · rename_i xs
    injection e with e; subst e
    obtain ⟨pa, va, rfl, ha, ra'⟩ := ra.tup_inv
    refine sl_tupA pins s σ H _ v vl vu lo hi sl Q I rx hs pl pu ⟨pa, va, rfl, .of (sb _ _ ha), ?_, fun _ => q.tup sb (ra'.cutD lo hi)⟩
    intro hw
    rw [ra'.length] at hw
    have : PX.cutD xs lo hi = xs := by
      unfold PX.cutD; rw [hw.1, hw.2]; simp
    rw [this] at q
    exact q.val sb (.tup ha ra')
  · split at e
    · rename_i c
      injection e with e; subst e
      cases ra.str_inv
      exact sl_str pins s σ H _ v vl vu lo hi sl Q I rx hs pl pu ⟨_, rfl, c, q.val sb (.str _)⟩
    · cases e
  · cases e

/-! a[::-1] -/
theorem rev_text (z : Str) : ((Builtin.Str.strSliceIndices none none (-1) z.length).filterMap (z.cps[·]?)).toArray = z.cps.reverse := by
  rw [picked_rev]
  apply Array.ext'
  simp only [Array.toList_reverse]
  have h : z.length = z.cps.toList.length := by rw [Array.length_toList]; rfl
  rw [h]
  have e : ∀ (l : List Nat), (List.map (fun k => l.length - 1 - k) (List.range l.length)).filterMap (l[·]?) = l.reverse := by
    intro l
    rw [PySem.W.krv_range]
    have h2 : ∀ (l : List Nat), (List.range l.length).filterMap (l[·]?) = l := by
      intro l
      have := PySem.W.krv_all l.toArray
      simpa using this
    rw [List.filterMap_reverse, h2]
  simpa using e z.cps.toList
def rRev (g : Gh) : V → Hp → VK → Prop := fun x H Q => ∃ F a r, Sub F H ∧ RX g F H x a ∧ revOV a = some r ∧ OpPost g F H r Q
theorem pe_rev {e : Expr} {te : TE} {k : Nat} {p1 p2 p3 pos : Pos} (he : PE X e te) : PE X (.Subscript e (.Slice none none (some (.UnaryOp .USub (.Constant (.int 1) k p1) p2)) p3) pos) (fun σ H Q => te σ H fun x H1 => rRev g x H1 Q) := by
  refine ⟨fun pins s σ H Q I h => ?_⟩
  refine Subscript_ (thn (he.run pins s σ H _ I h) fun v s1 ⟨x, H1, I1, r1, q1⟩ => ?_)
  obtain ⟨F, a, r, sb, ra, e, q⟩ := q1
  have hst : PO X (some (.UnaryOp .USub (.Constant (.int 1) k p1) p2)) (tPart (tUn (rU fun i => .int (-i)) (tC (.int 1)))) := po_some (pe_un un_neg pe_int)
  refine wpAny_Slice (thn (po_none.run pins s1 σ H1 (fun o H2 => o = none ∧ H2 = H1) I1 ⟨rfl, rfl⟩) fun vl s2 ⟨l, H2, I2, pl, el, e2⟩ => ?_)
  subst el e2
  refine thn (po_none.run pins s2 σ H2 (fun o H3 => o = none ∧ H3 = H2) I2 ⟨rfl, rfl⟩) fun vu s3 ⟨u, H3, I3, pu, eu, e3⟩ => ?_
  subst eu e3
  refine thn (hst.run pins s3 σ H3 (fun o H4 => o = some (-1) ∧ H4 = H3) I3 ⟨1, rfl, -1, rfl, rfl, rfl⟩) fun vs s4 ⟨o, H4, I4, ps, eo, e4⟩ => ?_
  subst eo e4
  have I5 : Inv X pins σ H4 { s4 with heap := s4.heap.push { cls := .type "slice", data := .fields #[vl, vu, vs] } } := I4.kept (t' := s4.toks) fun b ob q => Heap.get?_push_of_some _ q
  show wpAny (model X.prog X.w) X.A (subscriptTail _ (.Slice none none (some (.UnaryOp .USub (.Constant (.int 1) k p1) p2)) p3) v (.ref s4.heap.objs.size)) (EP X pins σ Q) X.xe { s4 with heap := s4.heap.push { cls := .type "slice", data := .fields #[vl, vu, vs] } }
  unfold revOV at e
  split at e
  · injection e with e; subst e
    obtain ⟨pa, va, rfl, ha, ra'⟩ := ra.lst_inv sb
    cases r1
    obtain ⟨its, r, ht, hz⟩ := I5.list (.of ha)
    have hlen := r.length
    refine tail_any (ops := [.ref pa, .ref s4.heap.objs.size]) ht.isList.typeIs (PySem.slot_list_getitem.lookup) ?_ (by with_unfolding_all rfl)
    refine wpAny_getItem_list_slice ht.isList (Heap.IsSliceOf.new _ vl vu vs) pl pu ps (by decide) ?_ (by rw [List.size_toArray]; omega)
    rw [PySem.W.krv_pick]
    refine ⟨.ref _, _, I5.laid (t' := s4.toks) (o := .lst va.reverse) (fun b ob q => Heap.get?_push_of_some _ q) (Nat.le_refl _) ?_, rfl, q.lst sb ra'.reverse _ (I5.hok.fresh (Nat.le_refl _))⟩
    exact ⟨by rw [List.length_reverse]; exact hz, _, 0, r.reverse, Heap.get?_push_size _ rfl⟩
  · injection e with e; subst e
    obtain ⟨pa, va, rfl, ha, ra'⟩ := ra.tup_inv
    cases r1
    obtain ⟨its, r, ht, hz⟩ := I5.tuple (.of (sb _ _ ha))
    have hlen := r.length
    refine tail_any (ops := [.ref pa, .ref s4.heap.objs.size]) ht.typeIs (PyProof.Rows.slot_tuple_getitem.lookup) ?_ (by with_unfolding_all rfl)
    refine getItem_tuple_rev ht (Heap.IsSliceOf.new _ vl vu vs) pl pu ps ?_ (by rw [List.size_toArray]; omega)
    refine ⟨.ref _, _, I5.laid (t' := s4.toks) (o := .tup va.reverse) (fun b ob q => Heap.get?_push_of_some _ q) (Nat.le_refl _) ?_, rfl, q.tup sb ra'.reverse _ (I5.hok.fresh (Nat.le_refl _))⟩
    exact ⟨by rw [List.length_reverse]; exact hz, _, r.reverse, IsTup.new _ _⟩
  · split at e
    · rename_i z c
      injection e with e; subst e
      cases ra.str_inv
      obtain ⟨t, rfl⟩ := r1
      obtain ⟨l1, rfl, hl1⟩ := IsPart.raw pl
      obtain ⟨l2, rfl, hl2⟩ := IsPart.raw pu
      obtain ⟨l3, rfl, hl3⟩ := IsPart.raw ps
      refine tail_any (ops := [.str z t, .ref s4.heap.objs.size]) (typeIs_str _ _ _) (PySem.F.slot_str_getitem.lookup) ?_ (by with_unfolding_all rfl)
      refine wpAny_getItem_str_slice (l := l1) (u := l2) (st := l3) (Heap.IsSliceOf.new _ _ _ _) (by rw [hl3]; rfl) ?_
      have hz : (⟨((Builtin.Str.strSliceIndices none none (-1) z.length).filterMap (z.cps[·]?)).toArray⟩ : Str) = ⟨z.cps.reverse⟩ := by rw [rev_text]
      unfold sliceMade slicePicked
      rw [hl1, hl2, hl3]
      show Made.post (if ((-1 : Int) == 1 && (Builtin.Str.strSliceIndices none none (-1) z.length).length == z.length) = true then Made.val (.str z t)
        else Made.str ⟨((Builtin.Str.strSliceIndices none none (-1) z.length).filterMap (z.cps[·]?)).toArray⟩) (EP X pins σ Q) _
      rw [if_neg (by simp), hz]
      refine ⟨?_, .str _, H4, I5.tok _, ⟨_, rfl⟩, q.val sb (.str _)⟩
      show z.cps.reverse.size ≤ sizeLine
      rw [Array.size_reverse]; exact c
    · cases e
  · cases e
end
section
variable {ev : EC → Expr → En → Stm → Out OV} (ih : IH ev) {n : Cn} {W : WX} (G : Good n W)
include ih G
def RP (n : Cn) (_ : Hp) (_ : St) (_ : Hp) (_ : En) (a b : Option Int) : Prop := a = b
theorem s_part : ∀ e : Option Expr, PO n.X e (tM n W (RP n) (evPart ev n.c e))
  | none => ⟨fun pins s σ H Q I ⟨en, S, F, sr, p⟩ => po_none.run pins s σ H Q I (p none H F .refl sr rfl)⟩
  | some e => by
    refine ⟨fun pins s σ H Q I ⟨en, S, F, sr, p⟩ => (po_some (s_V ih G e)).run pins s σ H Q I ⟨en, S, F, sr, ?_⟩⟩
    have p : Post n W σ F (RP n) ((evV ev n.c e en S).bind fun d en S => lift (partI d) en S) Q := p
    refine Post.bind p ?_
    intro d en S v H F _ _ sr rv p
    cases d with
    | int i =>
      cases Rep.int_inv rv
      exact ⟨i, rfl, p _ H F .refl sr rfl⟩
    | _ => exact p.elim
theorem s_cut (a : Expr) (lo hi : Option Expr) (p2 pos : Pos) : SE n W (.Subscript a (.Slice lo hi none p2) pos) (evCut ev n.c a lo hi) := by
  refine PE.imp (pe_slice (sl_cut (g := n.g)) (s_B ih G a) (s_part ih G lo) (s_part ih G hi)) ?_
  rintro σ H Q ⟨en, S, F, sr, p⟩
  unfold evCut at p
  refine ⟨en, S, F, sr, Post.bind p ?_⟩
  intro o en S x H F _ _ sr ro p
  refine ⟨en, S, F, sr, Post.bind p ?_⟩
  intro l en S l' H F _ s1 sr e1 p
  cases e1
  refine ⟨en, S, F, sr, Post.bind p ?_⟩
  intro h en S h' H F _ s2 sr e2 p
  cases e2
  obtain ⟨d, rd, p⟩ := get_bind ih G sr (RO.mono ih G (s1.trans s2) ro) p
  unfold lift at p
  cases q : cutOV d l h with
  | none => rw [q] at p; exact p.elim
  | some r => rw [q] at p; exact ⟨F, d, r, sr.sub, rd, q, .of sr p⟩
theorem s_rev (a : Expr) (k : Nat) (p1 p2 p3 pos : Pos) : SE n W (.Subscript a (.Slice none none (some (.UnaryOp .USub (.Constant (.int 1) k p1) p2)) p3) pos) (evRev ev n.c a) := by
  refine PE.imp (pe_rev (g := n.g) (s_B ih G a)) ?_
  intro σ H Q h
  refine op1 ih G h ?_
  intro F d v H en S sr rx p
  unfold lift at p
  cases q : revOV d with
  | none => rw [q] at p; exact p.elim
  | some r => rw [q] at p; exact ⟨F, d, r, sr.sub, rx, q, .of sr p⟩
theorem s_ix (a b : Expr) (pos : Pos) (hb : isSl b = false) : SE n W (.Subscript a b pos) (evIx ev n.c a b) := by
  refine PE.imp (pe_ix (ix_get (g := n.g) G.units G.w) (s_B ih G a) (s_B ih G b) ?_) ?_
  · intro o i
    cases b <;> first | rfl | cases hb
  rintro σ H Q ⟨en, S, F, sr, p⟩
  unfold evIx at p
  refine ⟨en, S, F, sr, Post.bind p ?_⟩
  intro o en S x H F _ _ sr ro p
  refine ⟨en, S, F, sr, Post.bind p ?_⟩
  intro o2 en S y H F _ s1 sr ro2 p
  unfold getC at p
  obtain ⟨d, rd, p⟩ := get_bind ih G sr (RO.mono ih G s1 ro) p
  obtain ⟨e, re, p⟩ := get_bind ih G sr ro2 p
  have key : getS d e = (getD d e).map .val → Post n W σ F (RV n) ((lift (getD d e) en S).bind fun r en S => .ok (.val r) en S) Q → r2 n.g getS x y H Q := by
    intro e1 p
    unfold lift at p
    cases q : getD d e with
    | none => rw [q] at p; exact p.elim
    | some r => rw [q] at p; exact ⟨F, d, e, .val r, sr.sub, rd, re, by rw [e1, q]; rfl, .of sr p⟩
  cases d with
  | lst xs => exact key rfl p
  | tup xs => exact key rfl p
  | str z => exact key rfl p
  | dct xs => exact key rfl p
  | _ =>
    simp only [getD, lift, Out.bind] at p
    exact p.elim
end
end PX

set_option Elab.async false
set_option linter.all false
set_option maxRecDepth 100000
/-! PxCall: defs called. -/
namespace PX
open PySem PySem.Spec L2
open PyProof.Rows hiding St

/-- what a slot's thing becomes -/
def frzE : Ent → Ent
  | .own o => .val o.d
  | e => e
theorem frz_get {en : En} {i j : Nat} : (frz en i)[j]? = if j = i then (en[j]?).map frzE else en[j]? := by
  unfold frz
  by_cases h : j = i
  · subst h
    rw [if_pos rfl]
    cases q : en[j]? with
    | none => simp [q]
    | some e =>
      cases e with
      | own o =>
        have hl : j < en.length := by rw [List.getElem?_eq_some_iff] at q; exact q.1
        simp [List.getElem?_set_self hl, frzE]
      | _ => simp [q, frzE]
  · rw [if_neg h]
    cases q : en[i]? with
    | none => rfl
    | some e =>
      cases e with
      | own o => simp only; rw [List.getElem?_set_ne (Ne.symm h)]
      | _ => rfl
theorem frzE_frzE (e : Ent) : frzE (frzE e) = frzE e := by cases e <;> rfl
theorem frzAll_get : ∀ {l : List Nat} {en : En} {j : Nat}, (frzAll en l)[j]? = if j ∈ l then (en[j]?).map frzE else en[j]?
  | [], en, j => by simp [frzAll]
  | i :: r, en, j => by
    unfold frzAll
    rw [frzAll_get, frz_get]
    by_cases h : j = i
    · subst h
      simp only [if_true, List.mem_cons, true_or]
      split
      · cases en[j]? with
        | none => rfl
        | some e => simp [frzE_frzE]
      · rfl
    · simp only [List.mem_cons, h, false_or, if_false]
theorem frzAll_len : ∀ {l : List Nat} {en : En}, (frzAll en l).length = en.length
  | [], en => rfl
  | i :: r, en => by
    unfold frzAll
    rw [frzAll_len]
    unfold frz
    split <;> simp

/-- the addresses of the slots lent -/
def Lent (σ : St) (en : En) (l : List Nat) (a : Addr) : Prop := ∃ i ∈ l, ∃ o, en[i]? = some (.own o) ∧ σ[i]? = some (some (.ref a))
open Classical in
noncomputable def addP (F H : Hp) (P : Addr → Prop) : Hp := fun a => if P a then H a else F a
open Classical in
noncomputable def subP (F : Hp) (P : Addr → Prop) : Hp := fun a => if P a then none else F a
theorem addP_in {F H : Hp} {P : Addr → Prop} {a : Addr} (h : P a) : addP F H P a = H a := by unfold addP; rw [if_pos h]
theorem addP_out {F H : Hp} {P : Addr → Prop} {a : Addr} (h : ¬ P a) : addP F H P a = F a := by unfold addP; rw [if_neg h]
theorem subP_in {F : Hp} {P : Addr → Prop} {a : Addr} (h : P a) : subP F P a = none := by unfold subP; rw [if_pos h]
theorem subP_out {F : Hp} {P : Addr → Prop} {a : Addr} (h : ¬ P a) : subP F P a = F a := by unfold subP; rw [if_neg h]

section
variable {n : Cn} {F H F' H' : Hp} {σ : St} {en : En} {S S' : Stm} {l : List Nat}
theorem SR.lent (sr : SR n F σ H en S) {a : Addr} (h : Lent σ en l a) : F a = none ∧ n.B a = none ∧ a ∉ n.cells H ∧ ∃ o, OwnAt n.g F H a o := by
  obtain ⟨i, _, o, e, hs⟩ := h
  obtain ⟨p, hp, x, y, z, w⟩ := sr.at_own e
  rw [hs] at hp; injection hp with hp; injection hp with hp; injection hp with hp; subst hp
  exact ⟨x, y, z, o, w⟩
theorem SR.subL (sr : SR n F σ H en S) : Sub F (addP F H (Lent σ en l)) := by
  intro a o h
  rw [addP_out]
  · exact h
  · intro q; rw [(sr.lent q).1] at h; cases h
theorem SR.addL (sr : SR n F σ H en S) : Sub (addP F H (Lent σ en l)) H := by
  intro a o h
  by_cases q : Lent σ en l a
  · rwa [addP_in q] at h
  · rw [addP_out q] at h; exact sr.sub _ _ h
theorem SR.lentRep (sr : SR n F σ H en S) {o : Opd} {v : V} {d : D} (x : RO n F σ H en o v) (e : o.get en = some d) (hl : ∀ i, o = .slot i → i ∈ l) : Rep n.g (addP F H (Lent σ en l)) v d := by
  cases o with
  | dat d' =>
    injection e with e; subst e
    exact Rep.mono sr.subL x
  | slot i =>
    have x : σ[i]? = some (some v) := x
    simp only [Opd.get] at e
    cases q : en[i]? with
    | none => rw [q] at e; cases e
    | some en' =>
      rw [q] at e
      cases en' with
      | none => cases e
      | exc => cases e
      | val d' =>
        injection e with e; subst e
        obtain ⟨v', hv, rp⟩ := sr.at_val q
        rw [x] at hv; injection hv with hv; injection hv with hv; subst hv
        exact rp.mono sr.subL
      | own o =>
        injection e with e; subst e
        obtain ⟨p, hp, nf, _, _, ow⟩ := sr.at_own q
        rw [x] at hp; injection hp with hv; injection hv with hv; subst hv
        have hL : Lent σ en l p := ⟨i, hl i rfl, o, q, x⟩
        have hp : addP F H (Lent σ en l) p = H p := addP_in hL
        cases ow with
        | lst h r => exact .lst (by rw [hp]; exact h) (r.mono sr.subL)
        | dct h r nd k => exact .dct (by rw [hp]; exact h) (r.mono sr.subL) nd k
        | obj m h r => exact .obj m (by rw [hp]; exact h) (r.mono sr.subL)
theorem SR.cellL (sr : SR n F σ H en S) : ∀ a ∈ n.cells H, addP F H (Lent σ en l) a = none := by
  intro a ha
  rw [addP_out]
  · exact (sr.cellF a ha).1
  · intro q; exact (sr.lent q).2.2.1 ha
theorem SR.backC (sr : SR n F σ H en S) (b : Back n.g (addP F H (Lent σ en l)) H F' H' S') : ∀ a ∈ n.C0, ∃ u, H' a = some u := by
  intro a ha
  by_cases h : a ∈ cellsOf H n.g.sa
  · exact b.there a h
  · obtain ⟨u, hu⟩ := sr.c0 a ha
    exact ⟨u, b.keep _ _ hu h⟩
theorem SR.cellB (sr : SR n F σ H en S) (b : Back n.g (addP F H (Lent σ en l)) H F' H' S') : ∀ a ∈ n.cells H', F' a = none ∧ n.B a = none := by
  intro a ha
  rcases List.mem_append.mp ha with ha | ha
  case inr =>
    obtain ⟨u, hu⟩ := sr.c0 a ha
    have hc := List.mem_append_right (cellsOf H n.g.sa) ha
    exact ⟨(b.new _ _ hu).trans (sr.cellL a hc), (sr.cellF a hc).2⟩
  obtain ⟨h1, h2⟩ := b.cel a ha
  refine ⟨h1, ?_⟩
  rcases h2 with h2 | h2
  · exact (sr.cellF a (List.mem_append_left _ h2)).2
  · cases e : n.B a with
    | none => rfl
    | some u => rw [sr.base _ _ e] at h2; cases h2
/-- what stood and was no cell is none -/
theorem SR.nocell (sr : SR n F σ H en S) (b : Back n.g (addP F H (Lent σ en l)) H F' H' S') {p : Addr} {u : HO} (h : H p = some u) (hn : p ∉ n.cells H) : p ∉ n.cells H' := by
  intro hc
  rcases List.mem_append.mp hc with hc | hc
  · rcases (b.cel p hc).2 with h2 | h2
    · exact hn (List.mem_append_left _ h2)
    · rw [h] at h2; cases h2
  · exact hn (List.mem_append_right _ hc)
/-- behind a call: what was lent stays lent -/
theorem SR.backL (sr : SR n F σ H en S) (b : Back n.g (addP F H (Lent σ en l)) H F' H' S') : SR n F' σ H' (frzAll en l) S' ∧ Sub F F' := by
  have sb : Sub F F' := sr.subL.trans b.ff
  refine ⟨⟨by rw [frzAll_len]; exact sr.len, sr.slen, ?_, b.fh, ?_, ?_, b.st, sr.backC b, ?_, ?_⟩, sb⟩
  · intro a o h
    refine b.keep _ _ (sr.base _ _ h) ?_
    intro hc; rw [(sr.cellF a (List.mem_append_left _ hc)).2] at h; cases h
  · intro i e h
    rw [frzAll_get] at h
    by_cases il : i ∈ l
    · rw [if_pos il] at h
      cases q : en[i]? with
      | none => rw [q] at h; cases h
      | some e0 =>
        rw [q] at h; injection h with h; subst h
        cases e0 with
        | none => exact .none
        | val d =>
          obtain ⟨v, hv, rp⟩ := sr.at_val q
          rw [hv]; exact .val (rp.mono sb)
        | exc C fs =>
          have x := sr.slot i _ q
          generalize σ[i]? = z at x ⊢
          cases x with
          | exc a b1 => exact .exc a (b1.mono sb fun dx vfs z => b.keep _ _ z (sr.st.noxd z))
        | own o =>
          obtain ⟨p, hp, _⟩ := sr.at_own q
          rw [hp]
          exact .val ((sr.lentRep (l := l) (o := .slot i) (v := .ref p) (d := o.d) hp (by simp [Opd.get, q, entD]) (fun j e => by injection e with e; subst e; exact il)).mono b.ff)
    · rw [if_neg il] at h
      have x := sr.slot i e h
      generalize q : σ[i]? = z at x ⊢
      cases x with
      | none => exact .none
      | val r => exact .val (r.mono sb)
      | exc a b1 => exact .exc a (b1.mono sb fun dx vfs z => b.keep _ _ z (sr.st.noxd z))
      | @own p o nf nb nc ow =>
        obtain ⟨u, hu⟩ := ow.some
        refine .own ?_ nb (sr.nocell b hu nc) ((ow.mono sb).heap fun u h => b.keep _ _ h fun hc => nc (List.mem_append_left _ hc))
        rw [b.new _ _ hu, addP_out]
        · exact nf
        · rintro ⟨j, jl, o', ej, hj⟩
          have := sr.dist i j _ _ _ h ej q hj
          subst this; exact il jl
  · intro i j o o' p hi hj
    rw [frzAll_get] at hi hj
    have back : ∀ {i : Nat} {o : O}, (if i ∈ l then (en[i]?).map frzE else en[i]?) = some (.own o) → en[i]? = some (.own o) := by
      intro i o h
      split at h
      · cases q : en[i]? with
        | none => rw [q] at h; cases h
        | some e => rw [q] at h; injection h with h; cases e <;> cases h
      · exact h
    exact sr.dist i j o o' p (back hi) (back hj)
  · exact sr.cellB b
  · intro a u h
    have hH := sr.base _ _ h
    rw [b.new _ _ hH, addP_out, sr.fix a u h]
    intro q; rw [(sr.lent q).2.1] at h; cases h
/-- .. comes back -/
theorem SR.backI (sr : SR n F σ H en S) (b : Back n.g (addP F H (Lent σ en l)) H F' H' S') : SR n (subP F' (Lent σ en l)) σ H' en S' ∧ Sub F (subP F' (Lent σ en l)) := by
  have sb : Sub F (subP F' (Lent σ en l)) := by
    intro a o h
    rw [subP_out]
    · exact b.ff _ _ (sr.subL _ _ h)
    · intro q; rw [(sr.lent q).1] at h; cases h
  refine ⟨⟨sr.len, sr.slen, ?_, ?_, ?_, sr.dist, b.st, sr.backC b, ?_, ?_⟩, sb⟩
  · intro a o h
    refine b.keep _ _ (sr.base _ _ h) ?_
    intro hc; rw [(sr.cellF a (List.mem_append_left _ hc)).2] at h; cases h
  · intro a o h
    by_cases q : Lent σ en l a
    · rw [subP_in q] at h; cases h
    · rw [subP_out q] at h; exact b.fh _ _ h
  · intro i e h
    have x := sr.slot i e h
    generalize q : σ[i]? = z at x ⊢
    cases x with
    | none => exact .none
    | val r => exact .val (r.mono sb)
    | exc a b1 => exact .exc a (b1.mono sb fun dx vfs z => b.keep _ _ z (sr.st.noxd z))
    | @own p o nf nb nc ow =>
      obtain ⟨u, hu⟩ := ow.some
      refine .own ?_ nb (sr.nocell b hu nc) ((ow.mono sb).heap fun u h => b.keep _ _ h fun hc => nc (List.mem_append_left _ hc))
      by_cases hq : Lent σ en l p
      · exact subP_in hq
      · rw [subP_out hq, b.new _ _ hu, addP_out hq]; exact nf
  · intro a ha
    obtain ⟨h1, h2⟩ := sr.cellB b a ha
    refine ⟨?_, h2⟩
    by_cases q : Lent σ en l a
    · exact subP_in q
    · rw [subP_out q]; exact h1
  · intro a u h
    have hq : ¬ Lent σ en l a := by intro q; rw [(sr.lent q).2.1] at h; cases h
    rw [subP_out hq, b.new _ _ (sr.base _ _ h), addP_out hq, sr.fix a u h]
theorem SR.immBack (sr : SR n F σ H en S) (b : Back n.g (addP F H (Lent σ en l)) H F' H' S') {v : V} {d : D} (r : Rep n.g F' v d) (i : d.imm = true) : Rep n.g (subP F' (Lent σ en l)) v d := by
  refine r.imm ?_ i
  intro a vs h
  rw [subP_out]
  · exact h
  · intro q
    obtain ⟨_, _, _, o, ow⟩ := sr.lent q
    obtain ⟨u, hu⟩ := ow.some
    rw [b.new _ _ hu, addP_in q] at h
    cases ow with
    | lst e r => rw [e] at h; cases h
    | dct e r n k => rw [e] at h; cases h
    | obj m e r => rw [e] at h; cases h
theorem NewV.back (sr : SR n F σ H en S) {en' : En} (he : ∀ (i : Nat) (o : O), en'[i]? = some (Ent.own o) → en[i]? = some (Ent.own o)) {r : OV} {v : V} (x : NewV n.g H F' H' r v) (nc : NoCell H' n.g.sa r v) : RV n F' σ H' en' r v := by
  cases x with
  | val h => exact .val h
  | @own p o a b c =>
    refine .own b ?_ ?_ c ?_
    · cases e : n.B p with
      | none => rfl
      | some u => rw [sr.base _ _ e] at a; cases a
    · intro h
      rcases List.mem_append.mp h with h | h
      · exact nc o p rfl rfl h
      · obtain ⟨u, hu⟩ := sr.c0 p h
        rw [a] at hu; cases hu
    · intro i o' e h
      obtain ⟨p', hp', _, _, _, ow⟩ := sr.at_own (he i o' e)
      rw [h] at hp'; injection hp' with z; injection z with z; injection z with z; subst z
      obtain ⟨u, hu⟩ := ow.some
      rw [a] at hu; cases hu
theorem frzAll_own {l : List Nat} {en : En} {i : Nat} {o : O} (h : (frzAll en l)[i]? = some (.own o)) : en[i]? = some (.own o) := by
  rw [frzAll_get] at h
  split at h
  · cases q : en[i]? with
    | none => rw [q] at h; cases h
    | some e => rw [q] at h; injection h with h; cases e <;> cases h
  · exact h
/-- what a call leaves is what callEnd says -/
theorem callEnd_post {W : WX} {os : List Opd} {m : CO} {Q : VK} (sr : SR n F σ H en S) (p : Post n W σ F (RV n) (callEnd m en os) Q) : CPost n.g (addP F H (Lent σ en (lent os))) H m Q (WE W σ) := by
  cases m with
  | bad => exact p
  | err C fs S' =>
    intro cls d H' F' b x
    obtain ⟨sr', sb⟩ := sr.backL b
    exact p cls d H' F' sb sr' x
  | ok r S' =>
    intro v H' F' b x nc
    simp only [callEnd] at p
    by_cases im : r.d.imm = true
    · rw [if_pos im] at p
      obtain ⟨sr', sb⟩ := sr.backI b
      cases x with
      | val h => exact p v H' _ sb sr' (.val (sr.immBack b h im))
      | @own _ o _ _ _ => cases o <;> simp [OV.d, O.d, D.imm] at im
    · rw [if_neg im] at p
      obtain ⟨sr', sb⟩ := sr.backL b
      exact p v H' F' sb sr' (x.back sr (fun i o => frzAll_own) nc)
end
end PX

set_option Elab.async false
set_option linter.all false
set_option maxRecDepth 100000
namespace PX
open PySem PySem.Spec L2
open PyProof.Rows hiding St

def OR {α β : Type} (R : α → β → Prop) : Option α → Option β → Prop
  | some a, some b => R a b
  | none, none => True
  | _, _ => False
section
variable {α β : Type} {R : α → β → Prop}
theorem OR.or {a a' : Option α} {b b' : Option β} (x : OR R a b) (y : OR R a' b') : OR R (a.or a') (b.or b') := by
  cases a <;> cases b <;> first | exact y | exact x | exact False.elim x
theorem lookup_zip_par {x : Str} : ∀ {ps : List Str} {us : List α} {ws : List β}, Paired R us ws → OR R ((ps.zip us).lookup x) ((ps.zip ws).lookup x)
  | [], _, _, _ => by simp [OR]
  | p :: ps, _, _, .nil => by simp [OR]
  | p :: ps, _, _, .cons h r => by
    simp only [List.zip_cons_cons, List.lookup_cons]
    cases (x == p) with
    | true => exact h
    | false => exact lookup_zip_par r
theorem fm_par : ∀ {ps : List Str} {f : Str → Option α} {k : Str → Option β}, (∀ x, OR R (f x) (k x)) → Paired R (ps.filterMap f) (ps.filterMap k)
  | [], _, _, _ => .nil
  | p :: ps, f, k, h => by
    have h0 := h p
    simp only [List.filterMap_cons]
    cases q1 : f p <;> cases q2 : k p <;> rw [q1, q2] at h0
    · exact fm_par h
    · exact False.elim h0
    · exact False.elim h0
    · exact .cons h0 (fm_par h)
theorem slots_par {x : Str} {ps ks : List Str} {us zs : List α} {ws ys : List β} (h : Paired R us ws) (k : Paired R zs ys) : OR R ((slotsOfCall ps us (ks.zip zs)).lookup x) ((slotsOfCall ps ws (ks.zip ys)).lookup x) := by
  unfold slotsOfCall
  rw [lookup_append, lookup_append]
  exact (lookup_zip_par h).or (lookup_zip_par k)
theorem OR.some {a : Option α} {b : Option β} (x : OR R a b) : a.isSome = b.isSome := by
  cases a <;> cases b <;> first | rfl | exact False.elim x
theorem zip_fst : ∀ {ks : List Str} {zs : List α} {ys : List β}, Paired R zs ys → (ks.zip zs).map (·.1) = (ks.zip ys).map (·.1)
  | [], _, _, _ => by simp
  | k :: ks, _, _, .nil => by simp
  | k :: ks, _, _, .cons _ r => by simp [zip_fst r]
theorem bindA_par {ps ks : List Str} {us zs : List α} {ws ys : List β} {xs : List α} (h : Paired R us ws) (k : Paired R zs ys) (e : bindA ps us (ks.zip zs) = some xs) : ∃ bs, bindA ps ws (ks.zip ys) = some bs ∧ Paired R xs bs := by
  unfold bindA at e ⊢
  split at e
  · rename_i c
    injection e with e; subst e
    refine ⟨bindB ps ws (ks.zip ys), ?_, fm_par fun x => slots_par h k⟩
    rw [if_pos]
    refine ⟨by rw [← h.length]; exact c.1, by rw [← h.length, ← zip_fst k]; exact c.2.1, ?_⟩
    rw [List.all_eq_true] at c ⊢
    intro x hx
    have := c.2.2 x hx
    rw [← (slots_par (x := x) h k).some]
    exact this
  · cases e
theorem fm_len {sl : List (Str × α)} : ∀ {ps : List Str}, (∀ x ∈ ps, (sl.lookup x).isSome = true) → (ps.filterMap fun x => sl.lookup x).length = ps.length
  | [], _ => rfl
  | p :: ps, c => by
    have c0 := c p (by simp)
    cases q : sl.lookup p with
    | none => rw [q] at c0; cases c0
    | some v => simp only [List.filterMap_cons, q, List.length_cons]; rw [fm_len fun x hx => c x (by simp [hx])]
theorem bindA_len {ps : List Str} {us : List α} {kws : List (Str × α)} {xs : List α} (e : bindA ps us kws = some xs) : xs.length = ps.length := by
  unfold bindA at e
  split at e
  · rename_i c
    injection e with e; subst e
    have c := c.2.2
    rw [List.all_eq_true] at c
    exact fm_len c
  · cases e
end
theorem RepA.paired {g : Gh} {F : Hp} : ∀ {vs : List V} {ds : List D}, RepA g F vs ds → Paired (fun v d => Rep g F v d) vs ds
  | _, _, .nil => .nil
  | _, _, .cons h r => .cons h r.paired
theorem RepA.of {g : Gh} {F : Hp} : ∀ {vs : List V} {ds : List D}, Paired (fun v d => Rep g F v d) vs ds → RepA g F vs ds
  | _, _, .nil => .nil
  | _, _, .cons h r => .cons h (.of r)
theorem Paired.flip {α β : Type} {R : α → β → Prop} : ∀ {l : List α} {m : List β}, Paired R l m → Paired (fun b a => R a b) m l
  | _, _, .nil => .nil
  | _, _, .cons h r => .cons h (Paired.flip r)
theorem Paired.app {α β : Type} {R : α → β → Prop} : ∀ {l l' : List α} {m m' : List β}, Paired R l m → Paired R l' m' → Paired R (l ++ l') (m ++ m')
  | _, _, _, _, .nil, k => k
  | _, _, _, _, .cons h r, k => .cons h (Paired.app r k)

def ROs (n : Cn) (F : Hp) (σ : St) (H : Hp) (en : En) (os : List Opd) (vs : List V) : Prop := Paired (fun o v => RO n F σ H en o v) os vs
def RKs (n : Cn) (F : Hp) (σ : St) (H : Hp) (en : En) (ks : List (Str × Opd)) (vs : List V) : Prop := Paired (fun o v => RO n F σ H en o v) (ks.map (·.2)) vs
theorem RO.up {n : Cn} {σ : St} {F F' H H' : Hp} {en en' : En} {o : Opd} {v : V} (s : Sub F F') (x : RO n F σ H en o v) : RO n F' σ H' en' o v := by
  cases o with
  | dat d => exact Rep.mono s x
  | slot i => exact x
theorem ROs.up {n : Cn} {σ : St} {F F' H H' : Hp} {en en' : En} : ∀ {os : List Opd} {vs : List V}, Sub F F' → ROs n F σ H en os vs → ROs n F' σ H' en' os vs
  | _, _, _, .nil => .nil
  | _, _, s, .cons h r => .cons (RO.up s h) (ROs.up s r)
theorem lent_mem {o : Opd} {i : Nat} (e : o = .slot i) : ∀ {os : List Opd}, o ∈ os → i ∈ lent os
  | .dat d :: r, h => by
    rcases List.mem_cons.mp h with h | h
    · rw [e] at h; cases h
    · exact lent_mem e (os := r) h
  | .slot j :: r, h => by
    rcases List.mem_cons.mp h with h | h
    · rw [e] at h; injection h with h; subst h; exact List.mem_cons_self ..
    · exact List.mem_cons_of_mem _ (lent_mem e (os := r) h)
theorem getAll_rep {n : Cn} {F H : Hp} {σ : St} {en : En} {S : Stm} {l : List Nat} (sr : SR n F σ H en S) : ∀ {os : List Opd} {vs : List V} {ds : List D}, ROs n F σ H en os vs → getAll en os = some ds → (∀ i ∈ lent os, i ∈ l) → RepA n.g (addP F H (Lent σ en l)) vs ds
  | [], _, _, .nil, e, _ => by injection e with e; subst e; exact .nil
  | o :: os, _, _, .cons h r, e, hl => by
    simp only [getAll] at e
    cases q : o.get en with
    | none => rw [q] at e; cases e
    | some d =>
      rw [q] at e
      cases q2 : getAll en os with
      | none => rw [q2] at e; cases e
      | some ds =>
        rw [q2] at e; injection e with e; subst e
        refine .cons (sr.lentRep h q fun i e => hl i (lent_mem e (List.mem_cons_self ..))) (getAll_rep sr r q2 ?_)
        intro i hi
        cases o with
        | dat d => exact hl i hi
        | slot j => exact hl i (List.mem_cons_of_mem _ hi)
theorem lent_app : ∀ {a b : List Opd} {i : Nat}, i ∈ lent a ∨ i ∈ lent b → i ∈ lent (a ++ b)
  | [], b, i, h => by rcases h with h | h; cases h; exact h
  | .dat d :: r, b, i, h => by
    show i ∈ lent (r ++ b)
    exact lent_app h
  | .slot j :: r, b, i, h => by
    show i ∈ j :: lent (r ++ b)
    rcases h with h | h
    · rcases List.mem_cons.mp h with rfl | h
      · exact List.mem_cons_self ..
      · exact List.mem_cons_of_mem _ (lent_app (.inl h))
    · exact List.mem_cons_of_mem _ (lent_app (.inr h))
/-- the def at a runs -/
theorem call_run {n : Cn} {W : WX} (G : Good n W) {f : Fid} {D : DefI} {a : Addr} (hf : FnAt n f D a) (hD : lkF n.c.T.defs f = some D) {F H : Hp} {σ : St} {en : En} {S : Stm} {s : Shared} {pins : List (Addr × Obj)} {Q : VK}
    {first : List PX.D} {fvs : List V} {fus : List Value} {os : List Opd} {ks : List (Str × Opd)} {vs zs : List V} {us ws : List Value} (sr : SR n F σ H en S) (I : Inv n.X pins σ H s) (rf : RepA n.g F fvs first) (vf : Vals fvs fus)
    (ro : ROs n F σ H en os vs) (vo : Vals vs us) (rk : RKs n F σ H en ks zs) (vk : Vals zs ws) (p : Post n W σ F (RV n) (callFn n.c f first os ks en S) Q) :
    wpAny (model n.X.prog n.X.w) n.X.A (call (.ref a) (fus ++ us) ((ks.map (·.1)).zip ws)) (EP n.X pins σ Q) n.X.xe s := by
  unfold callFn at p
  rw [hD] at p
  cases q1 : getAll en os with
  | none => rw [q1] at p; exact p.elim
  | some ds =>
  cases q2 : getAll en (ks.map (·.2)) with
  | none => rw [q1, q2] at p; exact p.elim
  | some es =>
  rw [q1, q2] at p
  simp only at p
  cases q3 : bindA D.ps (first ++ ds) ((ks.map (·.1)).zip es) with
  | none => rw [q3] at p; exact p.elim
  | some as =>
  rw [q3] at p
  simp only at p
  by_cases hc : n.c.hot = false ∧ (n.c.nn = true → D.weak = false)
  case neg => rw [if_neg hc] at p; exact p.elim
  rw [if_pos hc] at p
  have hh := hc.1
  have cp := callEnd_post sr p
  have r1 := getAll_rep (l := lent (os ++ ks.map (·.2))) sr ro q1 fun i h => lent_app (.inl h)
  have r2 := getAll_rep (l := lent (os ++ ks.map (·.2))) sr rk q2 fun i h => lent_app (.inr h)
  obtain ⟨xs, e1, px⟩ := bindA_par (ks := ks.map (·.1)) (Paired.flip ((rf.mono sr.subL).append r1).paired) (Paired.flip r2.paired) q3
  obtain ⟨bs, e2, pb⟩ := bindA_par (ks := ks.map (·.1)) (vf.append vo) vk e1
  obtain ⟨fd, hb, ok⟩ := hf.ok
  have eg : (⟨n.X.w, n.X.mg, n.g.sa⟩ : Gh) = n.g := by rw [← G.mg, ← G.w]
  have sp : spF n.X.w n.X.mg D.ps.length (n.c.call f) xs H Q (WE W σ) := by
    refine ⟨n.g.sa, addP F H (Lent σ en (lent (os ++ ks.map (·.2)))), as, S, ?_, bindA_len q3, sr.addL, sr.st, fun a ha => sr.cellL a (List.mem_append_left _ ha), ?_⟩
    · rw [eg]; exact .of (Paired.flip px)
    · rw [eg]; exact cp
  refine wpAny_call (codeAny_mono (ok.run n.X.A n.X.stack s H ⟨fus ++ us, (ks.map (·.1)).zip ws⟩ bs xs Q (WE W σ) ((G.room hh).mono (by omega)) I.env0 (hb _ _ _ _ e2) pb sp) fun r s' hq => ?_)
  cases r with
  | error e => exact passB G.tk hc.2 σ pins H s e s' I hq
  | ok fl =>
    cases fl with
    | ret u => exact I.after hq
    | next => exact False.elim hq
    | brk => exact False.elim hq
    | cont => exact False.elim hq
end PX

set_option Elab.async false
set_option linter.all false
set_option maxRecDepth 100000
namespace PX
open PySem PySem.Spec L2
open PyProof.Rows hiding St

section
variable {ev : EC → Expr → En → Stm → Out OV} (ih : IH ev) {n : Cn} {W : WX} (G : Good n W)
include ih G
theorem s_Bs : ∀ es : List Expr, noStar es = true → PA n.X es (tM n W (ROs n) (evBs ev n.c es))
  | [], _ => PA.imp pa_nil fun σ H Q ⟨en, S, F, sr, p⟩ => p _ H F .refl sr .nil
  | e :: es, hs => by
    have h1 : isStar e = false := by
      simp only [noStar, List.all_cons, Bool.and_eq_true, Bool.not_eq_true'] at hs
      exact hs.1
    have h2 : noStar es = true := by
      simp only [noStar, List.all_cons, Bool.and_eq_true, Bool.not_eq_true'] at hs
      exact hs.2
    refine PA.imp (pa_cons (s_B ih G e) (s_Bs es h2) (star_cons ih G h1)) ?_
    rintro σ H Q ⟨en, S, F, sr, p⟩
    have e0 : evBs ev n.c (e :: es) en S = (evB ev n.c e en S).bind fun d en S => (evBs ev n.c es en S).bind fun ds en S => .ok (d :: ds) en S := rfl
    rw [e0] at p
    refine ⟨en, S, F, sr, Post.bind p ?_⟩
    intro d en S v H F _ _ sr rv p
    refine ⟨en, S, F, sr, Post.bind p ?_⟩
    intro ds en S vs H F _ sb sr rvs p
    exact p _ H F .refl sr (.cons (RO.up sb rv) rvs)
def kwNames (kws : List Keyword) : List Str := kws.filterMap fun k => k.arg
theorem s_Ks : ∀ kws : List Keyword, PK n.X kws (tM n W (RKs n) (evKs ev n.c kws))
  | [] => ⟨fun pos pins s σ H Q I ⟨en, S, F, sr, p⟩ => pk_nil.run pos pins s σ H Q I (p _ H F .refl sr .nil)⟩
  | ⟨nm, e, kpos⟩ :: r => by
    refine ⟨fun pos pins s σ H Q I h => (pk_cons (nm := nm) (kpos := kpos) (s_B ih G e) (s_Ks r)).run pos pins s σ H Q I ?_⟩
    obtain ⟨en, S, F, sr, p⟩ := h
    cases nm with
    | none => exact p.elim
    | some x =>
      have e0 : evKs ev n.c (⟨some x, e, kpos⟩ :: r) en S = (evB ev n.c e en S).bind fun d en S => (evKs ev n.c r en S).bind fun ds en S => .ok ((x, d) :: ds) en S := rfl
      rw [e0] at p
      refine ⟨en, S, F, sr, Post.bind p ?_⟩
      intro d en S v H F _ _ sr rv p
      refine ⟨en, S, F, sr, Post.bind p ?_⟩
      intro ds en S vs H F _ sb sr rvs p
      exact p _ H F .refl sr (.cons (RO.up sb rv) rvs)
theorem Ks_names : ∀ (kws : List Keyword) {en en' : En} {S S' : Stm} {ks : List (Str × Opd)}, evKs ev n.c kws en S = .ok ks en' S' → ks.map (·.1) = kwNames kws
  | [], _, _, _, _, _, h => by cases h; rfl
  | ⟨nm, e, kpos⟩ :: r, en, en', S, S', ks, h => by
    cases nm with
    | none => cases h
    | some x =>
      simp only [evKs] at h
      cases q : evB ev n.c e en S with
      | bad => rw [q] at h; cases h
      | err => rw [q] at h; cases h
      | ok o en1 S1 =>
        rw [q] at h
        simp only [Out.bind] at h
        cases q2 : evKs ev n.c r en1 S1 with
        | bad => rw [q2] at h; cases h
        | err => rw [q2] at h; cases h
        | ok os en2 S2 =>
          rw [q2] at h
          cases h
          show x :: os.map (·.1) = _
          rw [Ks_names r q2]
          rfl
theorem kw_facts {env : Env} {pos : Pos} : ∀ {kws : List Keyword}, named kws = true → (backToKw pos (keywordEach kws env)).all (·.1.isSome) = true ∧ (backToKw pos (keywordEach kws env)).any (·.1.isNone) = false ∧ (backToKw pos (keywordEach kws env)).filterMap (·.1) = kwNames kws
  | [], _ => ⟨rfl, rfl, rfl⟩
  | ⟨nm, e, kpos⟩ :: r, h => by
    simp only [named, List.all_cons, Bool.and_eq_true] at h
    obtain ⟨a, b, c⟩ := kw_facts (env := env) (pos := pos) (kws := r) h.2
    cases nm with
    | none => cases h.1
    | some x =>
      refine ⟨?_, ?_, ?_⟩
      · show (true && (backToKw pos (keywordEach r env)).all (·.1.isSome)) = true
        rw [a]; rfl
      · show (false || (backToKw pos (keywordEach r env)).any (·.1.isNone)) = false
        rw [b]; rfl
      · show x :: (backToKw pos (keywordEach r env)).filterMap (·.1) = x :: kwNames r
        rw [c]
theorem star_any {env : Env} {pos : Pos} : ∀ {es : List Expr}, noStar es = true → (backTo pos (starEach es env)).any (·.1) = false
  | [], _ => rfl
  | e :: es, h => by
    simp only [noStar, List.all_cons, Bool.and_eq_true, Bool.not_eq_true'] at h
    rw [star_cons ih G h.1]
    show (false || (backTo pos (starEach es env)).any (·.1)) = false
    rw [star_any (es := es) h.2]; rfl
/-- the operands of a call, then the call -/
theorem args_run {args : List Expr} {kws : List Keyword} {pos : Pos} {f : Value} {first : List Value} (kp : PySem.W.keepIn n.X.K f = true) {F H : Hp} {σ : St} {en : En} {S : Stm} {s : Shared} {pins : List (Addr × Obj)} {Q : VK}
    {k : List Opd → List (Str × Opd) → En → Stm → Out OV} (sr : SR n F σ H en S) (I : Inv n.X pins σ H s) (p : Post n W σ F (RV n) (withArgs ev n.c args kws en S k) Q)
    (hk : ∀ (os : List Opd) (ks : List (Str × Opd)) (vs zs : List V) (us ws : List Value) (F' H' : Hp) (en' : En) (S' : Stm) (s' : Shared), Sub F F' → SR n F' σ H' en' S' → Inv n.X pins σ H' s' → ROs n F' σ H' en' os vs → Vals vs us → RKs n F' σ H' en' ks zs → Vals zs ws →
      Post n W σ F' (RV n) (k os ks en' S') Q → wpAny (model n.X.prog n.X.w) n.X.A (call f (first ++ us) ((ks.map (·.1)).zip ws)) (EP n.X pins σ Q) n.X.xe s') :
    wpAny (model n.X.prog n.X.w) n.X.A (callWith pos f first (backTo pos (starEach args n.X.env)) (backToKw pos (keywordEach kws n.X.env))) (EP n.X pins σ Q) n.X.xe s := by
  unfold withArgs at p
  by_cases c : noStar args = true ∧ named kws = true
  case neg => rw [if_neg c] at p; exact p.elim
  rw [if_pos c] at p
  obtain ⟨k1, k2, k3⟩ := kw_facts ih G (env := n.X.env) (pos := pos) c.2
  have hpl : ((backTo pos (starEach args n.X.env)).any (·.1) || (backToKw pos (keywordEach kws n.X.env)).any (·.1.isNone)) = false := by rw [star_any ih G c.1, k2]; rfl
  have kwr : ∀ (F1 H1 : Hp) (en1 : En) (S1 : Stm) (s1 : Shared) (os : List Opd) (vs : List V) (us : List Value), Sub F F1 → SR n F1 σ H1 en1 S1 → Inv n.X pins σ H1 s1 → ROs n F1 σ H1 en1 os vs → Vals vs us →
      Post n W σ F1 (RV n) ((evKs ev n.c kws en1 S1).bind fun ks en S => k os ks en S) Q →
      wpAny (model n.X.prog n.X.w) n.X.A (evalAll ((backToKw pos (keywordEach kws n.X.env)).map (·.2)))
        (fun ws s2 => n.X.K.In s2.heap ∧ wpAny (model n.X.prog n.X.w) n.X.A (call f (first ++ us) (((backToKw pos (keywordEach kws n.X.env)).filterMap (·.1)).zip ws)) (EP n.X pins σ Q) n.X.xe s2) n.X.xe s1 := by
    intro F1 H1 en1 S1 s1 os vs us sb1 sr1 I1 ro vv p
    refine thn ((s_Ks ih G kws).run pos pins s1 σ H1 (fun zs H2 => ∃ en S F2 ks, ks.map (·.1) = kwNames kws ∧ SR n F2 σ H2 en S ∧ Sub F1 F2 ∧ RKs n F2 σ H2 en ks zs ∧ Post n W σ F2 (RV n) (k os ks en S) Q) I1 ⟨en1, S1, F1, sr1, Post.bind p ?_⟩) ?_
    · intro ks en2 S2 zs H2 F2 e sb sr2 rk p
      exact ⟨en2, S2, F2, ks, Ks_names ih G kws e, sr2, sb, rk, p⟩
    · rintro ws s2 ⟨zs, H2, I2, vz, en2, S2, F2, ks, en, sr2, sb2, rk, p⟩
      refine ⟨I2.kIn, ?_⟩
      rw [k3, ← en]
      exact hk os ks vs zs us ws F2 H2 en2 S2 s2 (sb1.trans sb2) sr2 I2 (ROs.up sb2 ro) vv rk vz p
  cases args with
  | nil => exact PySem.W.callWith_KW0 (h₀ := n.X.base) I.ok.mod.kin kp k1 (kwr F H en S s [] [] [] .refl sr I .nil .nil p) hpl
  | cons e es =>
    have h1 : isStar e = false := by
      have := c.1
      simp only [noStar, List.all_cons, Bool.and_eq_true, Bool.not_eq_true'] at this
      exact this.1
    refine PySem.W.callWith_KW (h₀ := n.X.base) I.ok.mod.kin kp k1 ?_ hpl (star_cons ih G h1)
    refine thn ((s_Bs ih G (e :: es) c.1).run pos pins s σ H (fun vs H1 => ∃ en S F1 os, SR n F1 σ H1 en S ∧ Sub F F1 ∧ ROs n F1 σ H1 en os vs ∧ Post n W σ F1 (RV n) ((evKs ev n.c kws en S).bind fun ks en S => k os ks en S) Q) I ⟨en, S, F, sr, Post.bind p ?_⟩) ?_
    · intro os en1 S1 vs H1 F1 e sb sr1 ro p
      exact ⟨en1, S1, F1, os, sr1, sb, ro, p⟩
    · rintro us s1 ⟨vs, H1, I1, vv, en1, S1, F1, os, sr1, sb1, ro, p⟩
      exact kwr F1 H1 en1 S1 s1 os vs us sb1 sr1 I1 ro vv p
/-- a def of the text called by a value -/
theorem fn_run {args : List Expr} {kws : List Keyword} {pos : Pos} {x : Str} {a : Addr} (hx : lkG n.c.T.glob x = some .fn) (ha : n.X.mg x = some (.ref a)) {F H : Hp} {σ : St} {en : En} {S : Stm} {s : Shared} {pins : List (Addr × Obj)} {Q : VK}
    (sr : SR n F σ H en S) (I : Inv n.X pins σ H s) (p : Post n W σ F (RV n) (withArgs ev n.c args kws en S (callFn n.c (x, none) [])) Q) :
    wpAny (model n.X.prog n.X.w) n.X.A (callWith pos (.ref a) [] (backTo pos (starEach args n.X.env)) (backToKw pos (keywordEach kws n.X.env))) (EP n.X pins σ Q) n.X.xe s := by
  obtain ⟨a', ha', kp⟩ := G.tb.fn x hx
  rw [ha] at ha'; injection ha' with ha'; injection ha' with ha'; subst ha'
  refine args_run ih G kp sr I p ?_
  intro os ks vs zs us ws F' H' en' S' s' sb sr' I' ro vo rk vk p
  cases hD : lkF n.c.T.defs (x, none) with
  | none =>
    unfold callFn at p
    rw [hD] at p
    exact p.elim
  | some D =>
    obtain ⟨a2, fa, hf⟩ := G.fns _ _ hD
    have fa : n.X.mg x = some (.ref a2) := fa
    rw [ha] at fa; injection fa with fa; injection fa with fa; subst fa
    exact call_run G hf hD (fvs := []) (fus := []) sr' I' .nil .nil ro vo rk vk p
theorem callG_run {args : List Expr} {kws : List Keyword} {pos : Pos} {d : D} {v : V} {u : Value} {F H : Hp} {σ : St} {en : En} {S : Stm} {s : Shared} {pins : List (Addr × Obj)} {Q : VK} (rd : Rep n.g F v d) (ru : RelV v u)
    (sr : SR n F σ H en S) (I : Inv n.X pins σ H s) (p : Post n W σ F (RV n) (callG ev n.c d args kws en S) Q) :
    wpAny (model n.X.prog n.X.w) n.X.A (callWith pos u [] (backTo pos (starEach args n.X.env)) (backToKw pos (keywordEach kws n.X.env))) (EP n.X pins σ Q) n.X.xe s := by
  cases d with
  | glo x =>
    cases rd with
    | @glo a _ hm =>
    cases ru
    rw [G.mg] at hm
    simp only [callG] at p
    cases q : lkG n.c.T.glob x with
    | none => rw [q] at p; exact p.elim
    | some k =>
      rw [q] at p
      cases k with
      | fn => exact fn_run ih G q hm sr I p
      | cls => exact p.elim
      | ci => exact p.elim
      | cs => exact p.elim
  | _ => exact p.elim
/-- f(..), f a name of the frame or a def of the module -/
theorem callName_run {args : List Expr} {kws : List Keyword} {pos p1 : Pos} {f : Str} (hb : n.c.slot f = none → n.c.blt f = false) : SE n W (.Call (.Name f p1) args kws pos) (callName ev n.c f args kws) := by
  refine ⟨fun pins s σ H Q I ⟨en, S, F, sr, p⟩ => ?_⟩
  refine wpAny_Call_Name_kw ?_
  cases hs : n.c.slot f with
  | some i =>
    simp only [callName, hs] at p
    cases q : en[i]? with
    | none => rw [q] at p; exact p.elim
    | some e =>
      rw [q] at p
      cases e with
      | val g =>
        obtain ⟨v, hv, rg⟩ := sr.at_val q
        refine thn ((pe_slot G hs).run pins s σ H (fun v' H' => v' = v ∧ H' = H) I ⟨v, hv, rfl, rfl⟩) ?_
        rintro u s1 ⟨v', H1, I1, ru, rfl, rfl⟩
        exact callG_run ih G rg ru sr I1 p
      | _ => exact p.elim
  | none =>
    have b := hb hs
    simp only [callName, hs, b, Bool.false_eq_true, if_false] at p
    by_cases g : n.c.gl f = true
    case neg => rw [if_neg g] at p; exact p.elim
    rw [if_pos g] at p
    simp only [callG] at p
    cases q : lkG n.c.T.glob f with
    | none => rw [q] at p; exact p.elim
    | some k =>
      rw [q] at p
      have db := nodbg G q
      cases k with
      | fn =>
        obtain ⟨a, ha, _⟩ := G.tb.fn _ q
        exact ld_glob I (gl_of G g) ha (fn_run ih G q ha sr I p) db
      | cls => exact p.elim
      | ci => exact p.elim
      | cs => exact p.elim
end
end PX

set_option Elab.async false
set_option linter.all false
set_option maxRecDepth 100000
namespace PX
open PySem PySem.Spec L2
open PyProof.Rows hiding St

section
variable {n : Cn} {F F' H H' : Hp} {σ : St} {en : En} {S : Stm}
/-- an owned thing is written -/
theorem SR.write (sr : SR n F σ H en S) {j : Nat} {o o' : O} {p : Addr} (e : en[j]? = some (.own o)) (hp : σ[j]? = some (some (.ref p))) (k : ∀ a, a ≠ p → H' a = H a) (ow : OwnAt n.g F H' p o') : SR n F σ H' (en.set j (.own o')) S := by
  obtain ⟨p', hp', nf, nb, nc, ow0⟩ := sr.at_own e
  have : p' = p := by rw [hp] at hp'; injection hp' with a; injection a with a; injection a with a; exact a.symm
  subst this
  have hl : j < en.length := by rw [List.getElem?_eq_some_iff] at e; exact e.1
  have back : ∀ {i : Nat} {q : O}, (en.set j (.own o'))[i]? = some (.own q) → ∃ q', en[i]? = some (.own q') := by
    intro i q h
    by_cases ij : i = j
    · subst ij; exact ⟨o, e⟩
    · rw [List.getElem?_set_ne (Ne.symm ij)] at h; exact ⟨q, h⟩
  have ce : n.cells H' = n.cells H := sr.ceq fun u h => by rw [k _ (by rintro rfl; exact nc (List.mem_append_left _ (List.mem_cons_self ..)))]; exact h
  refine ⟨by simpa using sr.len, sr.slen, ?_, ?_, ?_, ?_, ?_, ?_, by rw [ce]; exact sr.cellF, sr.fix⟩
  · intro a u h
    rw [k a (by rintro rfl; rw [nb] at h; cases h)]
    exact sr.base _ _ h
  · intro a u h
    rw [k a (by rintro rfl; rw [nf] at h; cases h)]
    exact sr.sub _ _ h
  · intro i x hx
    by_cases ij : i = j
    · subst ij
      rw [List.getElem?_set_self hl] at hx
      injection hx with hx; subst hx
      rw [hp]
      exact .own nf nb (by rw [ce]; exact nc) ow
    · rw [List.getElem?_set_ne (Ne.symm ij)] at hx
      have := sr.slot i x hx
      generalize q : σ[i]? = z at this ⊢
      cases this with
      | none => exact .none
      | val y => exact .val y
      | exc a b => exact .exc a (b.mono .refl fun dx vfs z => by rw [k _ (ow0.noxd z)]; exact z)
      | @own p2 o2 a b c d =>
        have : p2 ≠ p' := by
          rintro rfl
          exact ij (sr.dist i j _ _ _ hx e q hp)
        exact .own a b (by rw [ce]; exact c) (d.heap fun u h => by rw [k p2 this]; exact h)
  · intro i l q q' r hi hl' si sl
    obtain ⟨q1, h1⟩ := back hi
    obtain ⟨q2, h2⟩ := back hl'
    exact sr.dist i l q1 q2 r h1 h2 si sl
  · exact sr.st.heap fun c hc u h => by rw [k c (by rintro rfl; exact nc (List.mem_append_left _ hc))]; exact h
  · intro a ha
    rw [k a (by rintro rfl; exact nc (List.mem_append_right _ ha))]; exact sr.c0 a ha
end
theorem mut_ap1 (xs : List D) (y : D) : mutO (.lst xs) (Str.ofString "append") [y] = if xs.length < sizeLine then some (.lst (xs ++ [y]), .non) else none := by
  unfold mutO; exact if_pos rfl
theorem mut_ap0 (xs : List D) : mutO (.lst xs) (Str.ofString "append") [] = none := by
  unfold mutO; exact (if_neg (by decide)).trans (if_neg (by decide))
theorem mut_po0 (xs : List D) : mutO (.lst xs) (Str.ofString "pop") [] = (xs[xs.length - 1]?).map fun y => (.lst xs.dropLast, y) := by
  unfold mutO; exact if_pos rfl
theorem mut_po1 (xs : List D) (y : D) : mutO (.lst xs) (Str.ofString "pop") [y] = (match y with
      | .int i => if -(2 ^ 63) ≤ i ∧ i < 2 ^ 63 then (match L2.ixN xs.length i with
        | some k => (xs[k]?).map fun y => (.lst (xs.eraseIdx k), y)
        | none => none) else none
      | _ => none) := by
  unfold mutO; exact (if_neg (by decide)).trans (if_pos rfl)
theorem mut_cl0 (xs : List D) : mutO (.lst xs) (Str.ofString "clear") [] = some (.lst [], .non) := by
  unfold mutO; exact (if_neg (by decide)).trans (if_pos rfl)
theorem mut_cl1 (xs : List D) (y : D) : mutO (.lst xs) (Str.ofString "clear") [y] = none := by
  unfold mutO; exact (if_neg (by decide)).trans (if_neg (by decide))
theorem mut_2 (xs : List D) (m : Str) (y z : D) (r : List D) : mutO (.lst xs) m (y :: z :: r) = none := rfl
theorem RepA.erase {g : Gh} {F : Hp} : ∀ {vs : List V} {ds : List D} (j : Nat), RepA g F vs ds → RepA g F (vs.eraseIdx j) (ds.eraseIdx j)
  | _, _, _, .nil => .nil
  | _, _, 0, .cons h r => r
  | _, _, j + 1, .cons h r => .cons h (r.erase j)
section
variable {ev : EC → Expr → En → Stm → Out OV} (ih : IH ev) {n : Cn} {W : WX} (G : Good n W)
include ih G
theorem attr_base {o : Expr} {m : Str} {env : Env} (h : noSuper o = true) : attributeBase o m env (eval o env) = eval o env := by
  cases o <;> first | rfl | skip
  rename_i f args kws pos
  cases f <;> first | rfl | skip
  cases args <;> first | rfl | skip
  cases kws <;> first | rfl | cases h
theorem few_ok {args : List Expr} {pos : Pos} (hs : noStar args = true) (hl : args.length < 25) : ((backTo pos (starEach args n.X.env)).all (fun x => !x.1) && (backToKw pos (keywordEach [] n.X.env)).all (fun x => x.1.isSome)
      && decide (args.length + ([] : List Keyword).length + (if ([] : List Keyword).isEmpty then 0 else 1) < 30)) = true := by
  have h1 : (backTo pos (starEach args n.X.env)).all (fun x => !x.1) = true := by
    rw [List.all_eq_true]
    intro x hx
    have := star_any ih G (env := n.X.env) (pos := pos) hs
    rw [List.any_eq_false] at this
    simpa using this x hx
  rw [h1]
  have h2 : decide (args.length + ([] : List Keyword).length + (if ([] : List Keyword).isEmpty then 0 else 1) < 30) = true := by
    apply decide_eq_true
    show args.length + 0 + 0 < 30
    omega
  rw [h2]; rfl
theorem Vs_len : ∀ (es : List Expr) {en en' : En} {S S' : Stm} {ds : List D}, noStar es = true → evVs ev n.c es en S = .ok ds en' S' → ds.length = es.length := by
  intro es
  induction es with
  | nil => intro en en' S S' ds _ h; cases h; rfl
  | cons e es ihe =>
    intro en en' S S' ds hn h
    simp only [noStar, List.all_cons, Bool.and_eq_true, Bool.not_eq_true'] at hn
    have e0 : evVs ev n.c (e :: es) en S = (evV ev n.c e en S).bind fun d en S => (evVs ev n.c es en S).bind fun ds en S => .ok (d :: ds) en S := by
      have := hn.1
      cases e <;> first | rfl | cases this
    rw [e0] at h
    cases q : evV ev n.c e en S with
    | bad => rw [q] at h; cases h
    | err => rw [q] at h; cases h
    | ok o en1 S1 =>
      rw [q] at h
      simp only [Out.bind] at h
      cases q2 : evVs ev n.c es en1 S1 with
      | bad => rw [q2] at h; cases h
      | err => rw [q2] at h; cases h
      | ok os en2 S2 =>
        rw [q2] at h
        cases h
        simp [ihe hn.2 q2]
/-- a list of a slot is changed by a method -/
theorem list_mut {x : Str} {i : Nat} (hx : n.c.slot x = some i) {m : Str} {args : List Expr} {pos apos p1 : Pos} (hs : noStar args = true) (hl : args.length < 25) (hline : (apos.endLine == pos.line) = true) {id : String}
    {r : V → List V → Hp → VK → Prop} (slot : Slot "list" m id) (hty : typeOf (.builtin id) = pure (.type "method_descriptor")) (hm : args ≠ [] → MtR n.X id r) (hm0 : args = [] → MtR n.X id r)
    (hr : ∀ (F H : Hp) (p : Addr) (vxs vs : List V) (xs ds : List D) (o' : O) (d : D) (Q : VK), H p = some (.lst vxs) → RepA n.g F vxs xs → RepA n.g F vs ds → ds.length = args.length → mutO (.lst xs) m ds = some (o', d) →
      (∀ v vys, (∃ ys, o' = .lst ys ∧ RepA n.g F vys ys) → Rep n.g F v d → Q v (upd H p (.lst vys))) → r (.ref p) vs H Q)
    {F H : Hp} {σ : St} {en : En} {S : Stm} {s : Shared} {pins : List (Addr × Obj)} {Q : VK} (sr : SR n F σ H en S) (I : Inv n.X pins σ H s) {xs : List D} (he : en[i]? = some (.own (.lst xs)))
    (p : Post n W σ F (RV n) ((evVs ev n.c args en S).bind fun ds en S => (match (en[i]? : Option Ent) with
      | some (.own (.lst xs)) => match mutO (.lst xs) m ds with
        | some (o', d) => .ok (.val d) (en.set i (.own o')) S
        | none => .bad
      | _ => .bad)) Q) :
    wpAny (model n.X.prog n.X.w) n.X.A (eval (.Call (.Attribute (.Name x p1) m apos) args [] pos) n.X.env) (EP n.X pins σ Q) n.X.xe s := by
  obtain ⟨pa, hpa, _, _, _, ow⟩ := sr.at_own he
  cases ow with
  | @lst vxs _ hH rx =>
  have ty : tyV n.X.K "list" (.ref pa) H := .inl ⟨rfl, vxs, .of hH⟩
  have step : ∀ (F1 H1 : Hp) (en1 : En) (S1 : Stm) (vs : List V) (ds : List D), SR n F1 σ H1 en1 S1 → RepA n.g F1 vs ds → ds.length = args.length →
      Post n W σ F1 (RV n) (match (en1[i]? : Option Ent) with
      | some (.own (.lst xs)) => match mutO (.lst xs) m ds with
        | some (o', d) => .ok (.val d) (en1.set i (.own o')) S1
        | none => .bad
      | _ => .bad) Q → r (.ref pa) vs H1 Q := by
    intro F1 H1 en1 S1 vs ds sr1 rd hlen p
    split at p
    · rename_i xs1 he1
      obtain ⟨pb, hpb, _, _, _, ow1⟩ := sr1.at_own he1
      rw [hpa] at hpb; injection hpb with z; injection z with z; injection z with z; subst z
      cases ow1 with
      | @lst vxs1 _ hH1 rx1 =>
      split at p
      · rename_i o' d hm
        refine hr F1 H1 pa vxs1 vs xs1 ds o' d Q hH1 rx1 rd hlen hm ?_
        rintro v vys ⟨ys, rfl, ry⟩ rv
        exact p v _ F1 .refl (sr1.write he1 hpa (fun a ha => upd_ne ha) (.lst upd_same ry)) (.val rv)
      · exact p.elim
    · exact p.elim
  cases args with
  | nil =>
    refine (pe_bm0 PySem.F.plainAttrs_list slot hty (hm0 rfl) (pe_slot G hx) rfl hline).run pins s σ H Q I ⟨.ref pa, hpa, ty, ?_⟩
    exact step F H en S [] [] sr .nil rfl p
  | cons e es =>
    have h1 : isStar e = false := by
      have := hs
      simp only [noStar, List.all_cons, Bool.and_eq_true, Bool.not_eq_true'] at this
      exact this.1
    have h2 : noStar es = true := by
      have := hs
      simp only [noStar, List.all_cons, Bool.and_eq_true, Bool.not_eq_true'] at this
      exact this.2
    refine (pe_bm PySem.F.plainAttrs_list slot hty (hm (by simp)) (pe_slot G hx) (s_Vs ih G (e :: es)) rfl (few_ok ih G hs hl) hline (star_cons ih G h1) (star_any ih G h2)).run pins s σ H Q I ⟨.ref pa, hpa, ty, ?_⟩
    refine ⟨en, S, F, sr, Post.bind p ?_⟩
    intro ds en1 S1 vs H1 F1 eq sb sr1 rd p
    exact step F1 H1 en1 S1 vs ds sr1 rd (Vs_len ih G (e :: es) hs eq) p
theorem s_mut {x : Str} {i : Nat} (hx : n.c.slot x = some i) {m : Str} (hm : isMut m = true) {args : List Expr} {pos apos p1 : Pos} (hs : noStar args = true) (hl : args.length < 25) (hline : (apos.endLine == pos.line) = true)
    {F H : Hp} {σ : St} {en : En} {S : Stm} {s : Shared} {pins : List (Addr × Obj)} {Q : VK} (sr : SR n F σ H en S) (I : Inv n.X pins σ H s)
    (p : Post n W σ F (RV n) (mutE ev n.c i m args en S) Q) : wpAny (model n.X.prog n.X.w) n.X.A (eval (.Call (.Attribute (.Name x p1) m apos) args [] pos) n.X.env) (EP n.X pins σ Q) n.X.xe s := by
  unfold mutE at p
  split at p
  · rename_i xs he
    simp only [isMut, Bool.or_eq_true, isN, decide_eq_true_eq] at hm
    rcases hm with (rfl | rfl) | rfl
    · refine list_mut ih G hx hs hl hline (r := rAppend) PySem.F.slot_list_append PySem.F.type_list_append (fun _ => mt_append) (fun _ => mt_append) ?_ sr I he p
      intro F H p vxs vs xs ds o' d Q hH rx rd _ hmu hq
      cases rd with
      | nil => rw [mut_ap0] at hmu; cases hmu
      | cons h1 r1 =>
        cases r1 with
        | cons => rw [mut_2] at hmu; cases hmu
        | nil =>
          rw [mut_ap1] at hmu
          split at hmu
          · rename_i c
            injection hmu with hmu; injection hmu with e1 e2; subst e1 e2
            exact ⟨p, vxs, _, rfl, rfl, hH, by rw [rx.length]; exact c, hq _ _ ⟨_, rfl, rx.append (.cons h1 .nil)⟩ .non⟩
          · cases hmu
    · by_cases ha : args = []
      · refine list_mut ih G hx hs hl hline (r := rPop) PySem.F.slot_list_pop PySem.F.type_list_pop (fun h => absurd ha h) (fun _ => mt_pop) ?_ sr I he p
        intro F H pp vxs vs xs ds o' d Q hH rx rd hlen hmu hq
        subst ha
        cases rd with
        | cons => simp at hlen
        | nil =>
          rw [mut_po0] at hmu
          cases q : xs[xs.length - 1]? with
          | none => rw [q] at hmu; cases hmu
          | some y =>
            rw [q] at hmu
            injection hmu with hmu; injection hmu with e1 e2; subst e1 e2
            obtain ⟨w, hw, rw'⟩ := rx.get q
            refine ⟨pp, vxs, w, rfl, rfl, hH, by rw [rx.length]; exact hw, hq _ _ ⟨_, rfl, ?_⟩ rw'⟩
            rw [List.dropLast_eq_take, List.dropLast_eq_take, rx.length]
            exact rx.take _
      · refine list_mut ih G hx hs hl hline (r := rPopAt) PySem.F.slot_list_pop PySem.F.type_list_pop (fun _ => mt_popAt) (fun h => absurd h ha) ?_ sr I he p
        intro F H p vxs vs xs ds o' d Q hH rx rd hlen hmu hq
        cases rd with
        | nil => simp at hlen; exact absurd hlen.symm (by simpa using ha)
        | cons h1 r1 =>
        cases r1 with
        | cons => rw [mut_2] at hmu; cases hmu
        | nil =>
          rw [mut_po1] at hmu
          split at hmu
          · rename_i k
            split at hmu
            · rename_i c
              cases q : ixN xs.length k with
              | none => rw [q] at hmu; cases hmu
              | some j =>
                rw [q] at hmu
                simp only at hmu
                cases q2 : xs[j]? with
                | none => rw [q2] at hmu; cases hmu
                | some y =>
                  rw [q2] at hmu
                  injection hmu with hmu; injection hmu with e1 e2; subst e1 e2
                  cases h1.int_inv
                  obtain ⟨w, hw, rw'⟩ := rx.get q2
                  refine ⟨p, vxs, k, j, w, rfl, rfl, hH, c.1, c.2, by rw [rx.length]; exact (ixN_seq q).1, hw, hq _ _ ⟨_, rfl, ?_⟩ rw'⟩
                  exact rx.erase j
            · cases hmu
          · cases hmu
    · refine list_mut ih G hx hs hl hline (r := rClear) PySem.F.slot_list_clear PySem.F.type_list_clear (fun _ => mt_clear) (fun _ => mt_clear) ?_ sr I he p
      intro F H p vxs vs xs ds o' d Q hH rx rd _ hmu hq
      cases rd with
      | nil =>
        rw [mut_cl0] at hmu
        injection hmu with hmu; injection hmu with e1 e2; subst e1 e2
        exact ⟨p, vxs, rfl, rfl, hH, hq _ _ ⟨_, rfl, .nil⟩ .non⟩
      | cons h1 r1 =>
        cases r1 with
        | cons => rw [mut_2] at hmu; cases hmu
        | nil => rw [mut_cl1] at hmu; cases hmu
  · exact p.elim
end
end PX

set_option Elab.async false
set_option linter.all false
set_option maxRecDepth 100000
namespace PX
open PySem PySem.Spec L2
open PyProof.Rows hiding St

theorem allStrs_rep {g : Gh} {F : Hp} : ∀ {vs : List V} {ds : List D} {ys : List Str}, RepA g F vs ds → allStrs ds = some ys → vs = ys.map V.str
  | _, [], _, .nil, e => by injection e with e; subst e; rfl
  | v :: vs, d :: ds, ys, .cons h r, e => by
    cases d with
    | str x =>
      simp only [allStrs] at e
      cases q : allStrs ds with
      | none => rw [q] at e; cases e
      | some zs =>
        rw [q] at e; injection e with e; subst e
        cases h.str_inv
        rw [allStrs_rep r q]; rfl
    | _ => cases e
theorem strs_rep {g : Gh} {F : Hp} : ∀ ys : List Str, RepA g F (ys.map V.str) (ys.map D.str)
  | [] => .nil
  | y :: ys => .cons (.str y) (strs_rep ys)
theorem met_str (z : Str) (m : Str) (d : D) : metD (.str z) m [d] = if m = Str.ofString "join" then joinX z d else if m = Str.ofString "split" then splitX z d else none := rfl
/-- a text's method with one operand -/
def rStr (g : Gh) (m : Str) : V → List V → Hp → VK → Prop := fun x xs H Q => ∃ F z y d r, x = .str z ∧ xs = [y] ∧ Sub F H ∧ RX g F H y d ∧ metD (.str z) m [d] = some r ∧ OpPost g F H r Q
section
variable {X : Cx} {g : Gh}
theorem mt_joinD : MtR X "str.join" (rStr g (Str.ofString "join")) := by
  intro pins s σ H x xs v us Q I rx rv ⟨F, z, y, d, r, ex, exs, sb, ry, e, q⟩
  subst ex exs
  rw [met_str, if_pos rfl] at e
  have key : ∀ xs, joinD z xs = some r → ∃ ys, allStrs xs = some ys ∧ (ys.map (·.length)).sum + ys.length * z.length ≤ 16777216 ∧ r = .val (.str (Txt.join z ys)) := by
    intro xs h
    unfold joinD at h
    split at h
    · rename_i ys hy
      split at h
      · rename_i c
        injection h with h
        exact ⟨ys, hy, c, h.symm⟩
      · cases h
    · cases h
  unfold joinX at e
  split at e
  · rename_i xs
    obtain ⟨ys, hy, c, rfl⟩ := key xs e
    obtain ⟨pa, va, rfl, ha, ra⟩ := ry.lst_inv sb
    cases allStrs_rep ra hy
    exact mt_join pins s σ H _ _ v us Q I rx rv ⟨z, pa, ys, rfl, rfl, .inl (.of ha), c, q.val sb (.str _)⟩
  · rename_i xs
    obtain ⟨ys, hy, c, rfl⟩ := key xs e
    obtain ⟨pa, va, rfl, ha, ra⟩ := ry.tup_inv
    cases allStrs_rep ra hy
    exact mt_join pins s σ H _ _ v us Q I rx rv ⟨z, pa, ys, rfl, rfl, .inr (.of (sb _ _ ha)), c, q.val sb (.str _)⟩
  · cases e
theorem mt_splitD : MtR X "str.split" (rStr g (Str.ofString "split")) := by
  intro pins s σ H x xs v us Q I rx rv ⟨F, z, y, d, r, ex, exs, sb, ry, e, q⟩
  subst ex exs
  rw [met_str, if_neg (by decide), if_pos rfl] at e
  unfold splitX at e
  split at e
  · rename_i t
    split at e
    · rename_i c
      injection e with e; subst e
      cases ry.str_inv
      refine mt_split pins s σ H _ _ v us Q I rx rv ⟨z, t, rfl, rfl, by simpa using c.1, c.2, ?_⟩
      exact q.lst sb (strs_rep _)
    · cases e
  · cases e
end
section
variable {ev : EC → Expr → En → Stm → Out OV} (ih : IH ev) {n : Cn} {W : WX} (G : Good n W)
include ih G
theorem meth_err {o : Expr} {m : Str} {apos pos : Pos} {args : List Expr} {kws : List Keyword} {s : Shared} {Q : Value → Shared → Prop} (ho : noSuper o = true)
    (h : wpAny (model n.X.prog n.X.w) n.X.A (eval o n.X.env) (fun _ _ => False) n.X.xe s) : wpAny (model n.X.prog n.X.w) n.X.A (eval (.Call (.Attribute o m apos) args kws pos) n.X.env) Q n.X.xe s := by
  have e : eval (.Call (.Attribute o m apos) args kws pos) n.X.env = (attributeBase o m n.X.env (eval o n.X.env) >>= fun ov => do
    standAt apos.atName
    methodCall o m apos pos n.X.env ov (args.length + kws.length) (backTo pos (starEach args n.X.env)) (backToKw pos (keywordEach kws n.X.env))) := rfl
  rw [e, attr_base ih G ho]
  exact wpAny_bind (thn h fun _ _ f => f.elim)
theorem s_dget (o e f : Expr) (apos pos : Pos) (hb : noSuper o = true) (hline : (apos.endLine == pos.line) = true) {pins : List (Addr × Obj)} {s : Shared} {σ : St} {H : Hp} {Q : VK} (I : Inv n.X pins σ H s) {r : Opd} {en1 : En} {S1 : Stm} {kvs : List (D × D)}
    (ho : ∀ {Q' : VK}, (∀ v H1 F1, SR n F1 σ H1 en1 S1 → RO n F1 σ H1 en1 r v → Post n W σ F1 (RV n) (methE ev n.c r "get" [e, f] [] en1 S1) Q → Q' v H1) → tM n W (RO n) (evB ev n.c o) σ H Q')
    (qr : r.get en1 = some (.dct kvs)) (h1 : isStar e = false) (h2 : isStar f = false) :
    wpAny (model n.X.prog n.X.w) n.X.A (eval (.Call (.Attribute o "get" apos) [e, f] [] pos) n.X.env) (EP n.X pins σ Q) n.X.xe s := by
  have trees : backTo pos (starEach [e, f] n.X.env) = [(false, eval e n.X.env), (false, eval f n.X.env)] := by
    rw [star_cons ih G h1, star_cons ih G h2]; rfl
  have few : ((backTo pos (starEach [e, f] n.X.env)).all (fun x => !x.1) && (backToKw pos (keywordEach [] n.X.env)).all (fun x => x.1.isSome)
    && decide (([e, f] : List Expr).length + ([] : List Keyword).length + (if ([] : List Keyword).isEmpty then 0 else 1) < 30)) = true := by rw [trees]; rfl
  refine wpAny_Call_method (attr_base ih G hb) few hline PySem.F.plainAttrs_dict PySem.F.slot_dict_get PySem.F.type_dict_get (thn ((s_B ih G o).run pins s σ H (fun v H1 => ∃ F1, SR n F1 σ H1 en1 S1 ∧ RO n F1 σ H1 en1 r v ∧ Post n W σ F1 (RV n) (methE ev n.c r "get" [e, f] [] en1 S1) Q) I (ho fun v H1 F1 sr1 ro p => ⟨F1, sr1, ro, p⟩)) fun u s1 ⟨v, H1, I1, rv, F1, sr1, ro, p⟩ => ?_)
  have rx := sr1.resolve ro qr
  obtain ⟨a, es, ep, rfl, ha, _⟩ := rx.dct_inv sr1.sub
  cases rv
  obtain ⟨⟨_, hsys, ob, arr, go, ex, dt, _⟩, _, _⟩ := I1.hok a _ ha
  refine ⟨⟨ob, go, ex.1⟩, fun b hb' => by cases hb'; exact ⟨ob, go, ex.2.1⟩, ?_⟩
  rw [trees]
  have e1 : resolve r en1 S1 = .ok (.dct kvs) en1 S1 := by unfold resolve lift; rw [qr]
  unfold methE at p
  rw [e1] at p
  have p : Post n W σ F1 (RV n) ((evV ev n.c e en1 S1).bind fun k en S => (evV ev n.c f en S).bind fun y en S => (resolve r en S).bind fun d en S => lift (getOr d k y) en S) Q := by
    have e2 : methK ev n.c r "get" [e, f] [] (.dct kvs) en1 S1 = (evV ev n.c e en1 S1).bind fun k en S => (evV ev n.c f en S).bind fun y en S => (resolve r en S).bind fun d en S => lift (getOr d k y) en S := by
      show (if _ then _ else _) = _
      rw [if_pos ⟨by decide, h1, h2⟩]
    exact e2 ▸ p
  refine Calls.callWith_builtin rfl (Calls.evalArgs_plain (Calls.spliced_cons (thn ((s_V ih G e).run pins s1 σ H1 (fun x H2 => ∃ k en2 S2 F2, SR n F2 σ H2 en2 S2 ∧ Sub F1 F2 ∧ Rep n.g F2 x k ∧ Post n W σ F2 (RV n) ((evV ev n.c f en2 S2).bind fun y en S => (resolve r en S).bind fun d en S => lift (getOr d k y) en S) Q) I1 ⟨en1, S1, F1, sr1, Post.bind p ?_⟩) ?_)))
  · intro k en2 S2 x H2 F2 _ sb sr2 rx p
    exact ⟨k, en2, S2, F2, sr2, sb, rx, p⟩
  rintro kw s2 ⟨x, H2, I2, rk, k, en2, S2, F2, sr2, sb2, rxk, p2⟩
  refine Calls.spliced_cons (thn ((s_V ih G f).run pins s2 σ H2 (fun x H3 => ∃ y en3 S3 F3, SR n F3 σ H3 en3 S3 ∧ Sub F2 F3 ∧ Rep n.g F3 x y ∧ Post n W σ F3 (RV n) ((resolve r en3 S3).bind fun d en S => lift (getOr d k y) en S) Q) I2 ⟨en2, S2, F2, sr2, Post.bind p2 ?_⟩) ?_)
  · intro y en3 S3 x H3 F3 _ sb sr3 ry p
    exact ⟨y, en3, S3, F3, sr3, sb, ry, p⟩
  rintro yw s3 ⟨z, H3, I3, rz, y, en3, S3, F3, sr3, sb3, rzy, p3⟩
  refine Calls.spliced_nil ?_
  obtain ⟨d, rd, p4⟩ := get_bind ih G sr3 (RO.mono ih G (sb2.trans sb3) ro) p3
  cases d with
  | dct kvs2 =>
    unfold lift getOr at p4
    simp only at p4
    by_cases c : (tkeys kvs2 && tkey k) = true
    case neg => rw [if_neg c] at p4; exact p4.elim
    rw [if_pos c] at p4
    simp only [Bool.and_eq_true] at c
    obtain ⟨a2, es2, ep2, e2, ha2, rk2, nd2, _⟩ := rd.dct_inv sr3.sub
    cases e2
    exact get_dk (by have := G.units; omega) G.w I3 sr3.sub ha2 rk2 nd2 c.1 c.2 (rxk.mono sb3) rk rzy rz fun v' r' => p4 v' H3 F3 .refl sr3 (.val r')
  | _ => exact p4.elim
theorem s_attr (o : Expr) (m : Str) (apos pos : Pos) (args : List Expr) (kws : List Keyword) : SE n W (.Call (.Attribute o m apos) args kws pos) (callAttr ev n.c o m apos pos args kws) := by
  refine ⟨fun pins s σ H Q I ⟨en, S, F, sr, p⟩ => ?_⟩
  unfold callAttr at p
  split at p
  case isFalse => exact p.elim
  rename_i c
  obtain ⟨hb, hline, hlen⟩ := c
  split at p
  · exact p.elim
  · split at p
    · rename_i hm
      split at p
      · rename_i j hj
        split at p
        · rename_i c2
          obtain ⟨hk, hs⟩ := c2
          cases kws with
          | cons => cases hk
          | nil =>
            unfold ownOf at hj
            cases o with
            | Name x p1 =>
              simp only [asName, Option.bind_some] at hj
              unfold opName at hj
              cases hx : n.c.slot x with
              | none => rw [hx] at hj; cases hj
              | some i =>
                rw [hx] at hj
                simp only at hj
                split at hj
                · injection hj with hj; subst hj
                  exact s_mut ih G hx hm hs (by simp at hlen; omega) hline sr I p
                · cases hj
            | _ => cases hj
        · exact p.elim
      · exact p.elim
    · -- a receiver, known behind its evaluation
      cases q : evB ev n.c o en S with
      | bad => rw [q] at p; exact p.elim
      | err C fs en1 S1 =>
        rw [q] at p
        refine meth_err ih G hb (thn ((s_B ih G o).run pins s σ H (fun _ _ => False) I ⟨en, S, F, sr, by rw [q]; exact p⟩) fun u s' ⟨_, _, _, _, f⟩ => f)
      | ok r en1 S1 =>
        rw [q] at p
        have ho : ∀ {Q' : VK}, (∀ v H1 F1, Sub F F1 → SR n F1 σ H1 en1 S1 → RO n F1 σ H1 en1 r v → Post n W σ F1 (RV n) (methE ev n.c r m args kws en1 S1) Q → Q' v H1) → tM n W (RO n) (evB ev n.c o) σ H Q' := by
          intro Q' h
          refine ⟨en, S, F, sr, ?_⟩
          rw [q]
          exact fun v H1 F1 sb sr1 ro => h v H1 F1 sb sr1 ro (Post.mono p sb)
        cases qr : r.get en1 with
        | none =>
          refine meth_err ih G hb (thn ((s_B ih G o).run pins s σ H (fun _ _ => False) I (ho fun v H1 F1 sb sr1 ro p => ?_)) fun u s' ⟨_, _, _, _, f⟩ => f)
          simp only [methE, resolve, lift, qr, Out.bind] at p
          exact p.elim
        | some d =>
          have p0 : ∀ {F1 : Hp}, Post n W σ F1 (RV n) (methE ev n.c r m args kws en1 S1) Q → Post n W σ F1 (RV n) (methK ev n.c r m args kws d en1 S1) Q := by
            intro F1 p
            have e : resolve r en1 S1 = .ok d en1 S1 := by unfold resolve lift; rw [qr]
            unfold methE at p
            rw [e] at p
            exact p
          have dead : (∀ {F1 : Hp}, ¬ Post n W σ F1 (RV n) (methE ev n.c r m args kws en1 S1) Q) → wpAny (model n.X.prog n.X.w) n.X.A (eval (.Call (.Attribute o m apos) args kws pos) n.X.env) (EP n.X pins σ Q) n.X.xe s := by
            intro h
            exact meth_err ih G hb (thn ((s_B ih G o).run pins s σ H (fun _ _ => False) I (ho fun v H1 F1 sb sr1 ro p => h p)) fun u s' ⟨_, _, _, _, f⟩ => f)
          cases d with
          | str z =>
            cases args with
            | nil => exact dead fun p => by have := p0 p; exact this.elim
            | cons e es =>
            cases es with
            | cons => exact dead fun p => by have := p0 p; exact this.elim
            | nil =>
            cases kws with
            | cons => exact dead fun p => by have := p0 p; exact this.elim
            | nil =>
              by_cases c : (isN m "join" || isN m "split") = true ∧ isStar e = false
              case neg => exact dead fun p => by have := p0 p; simp only [methK, if_neg c] at this; exact this.elim
              have hst : starEach [e] n.X.env = [(false, eval e n.X.env)] := star_cons ih G c.2
              have arg : ∀ {m0 : Str}, m = m0 → ∀ v H1 F1, Sub F F1 → SR n F1 σ H1 en1 S1 → RO n F1 σ H1 en1 r v → Post n W σ F1 (RV n) (methE ev n.c r m [e] [] en1 S1) Q →
                  (∃ a, v = .str a) ∧ tM n W (RO n) (evB ev n.c e) σ H1 fun y H2 => rStr n.g m0 v [y] H2 Q := by
                rintro m0 rfl v H1 F1 sb sr1 ro p
                have rx := sr1.resolve ro qr
                cases rx.str_inv
                refine ⟨⟨_, rfl⟩, ?_⟩
                have p := p0 p
                simp only [methK, if_pos c] at p
                refine op1 ih G (R := RV n) ⟨en1, S1, F1, sr1, p⟩ ?_
                intro F2 d2 y H2 en2 S2 sr2 ry p
                unfold lift at p
                cases q2 : metD (.str z) m [d2] with
                | none => rw [q2] at p; exact p.elim
                | some r2 => rw [q2] at p; exact ⟨F2, z, y, d2, r2, rfl, rfl, sr2.sub, ry, q2, .of sr2 p⟩
              have hm := c.1
              simp only [Bool.or_eq_true, isN, decide_eq_true_eq] at hm
              rcases hm with hm | hm
              · subst hm
                exact (pe_m1 PySem.F.slot_str_join PySem.F.type_str_join (mt_joinD (g := n.g)) (s_B ih G o) (s_B ih G e) hst (attr_base ih G hb) hline).run pins s σ H Q I (ho (arg rfl))
              · subst hm
                exact (pe_m1 PySem.F.slot_str_split PySem.F.type_str_split (mt_splitD (g := n.g)) (s_B ih G o) (s_B ih G e) hst (attr_base ih G hb) hline).run pins s σ H Q I (ho (arg rfl))
          | dct kvs =>
            cases args with
            | nil => exact dead fun p => by have := p0 p; exact this.elim
            | cons e es =>
            cases es with
            | nil => exact dead fun p => by have := p0 p; exact this.elim
            | cons f es =>
            cases es with
            | cons => exact dead fun p => by have := p0 p; exact this.elim
            | nil =>
            cases kws with
            | cons => exact dead fun p => by have := p0 p; exact this.elim
            | nil =>
              by_cases c : isN m "get" = true ∧ isStar e = false ∧ isStar f = false
              case neg => exact dead fun p => by have := p0 p; simp only [methK, if_neg c] at this; exact this.elim
              have hm : m = Str.ofString "get" := by have := c.1; simpa [isN] using this
              subst hm
              exact s_dget ih G o e f apos pos hb hline I (fun h => ho fun v H1 F1 sb sr1 ro p => h v H1 F1 sr1 ro p) qr c.2.1 c.2.2
          | _ => exact dead fun p => by have := p0 p; exact this.elim
end
end PX

set_option Elab.async false
set_option linter.all false
set_option maxRecDepth 100000
namespace PX
open PySem PySem.Spec L2
open PyProof.Rows hiding St

theorem lkS_mem {α : Type} : ∀ {l : List (Str × α)} {x : Str} {k : α}, lkS l x = some k → (x, k) ∈ l
  | [], _, _, h => nomatch h
  | (y, k') :: r, x, k, h => by
    unfold lkS at h
    split at h
    · rename_i e; injection h with h; subst e h; exact List.mem_cons_self ..
    · exact List.mem_cons_of_mem _ (lkS_mem h)
theorem bk_mem {f : Str} {k : BK} (h : bk f = k) (hk : k ≠ .other) : (f, k) ∈ bkTab := by
  unfold bk at h
  cases q : lkS bkTab f with
  | none => rw [q] at h; exact absurd h.symm hk
  | some k' => rw [q] at h; cases h; exact lkS_mem q
theorem boot_ok : ∀ p ∈ bkTab, p.1 ≠ Str.ofString "__name__" ∧ (p.1 == ("__debug__" : Str)) = false := by
  decide +kernel
def r1 (g : Gh) (f : D → Option OV) : List V → Hp → VK → Prop := fun xs H Q => ∃ F x d r, xs = [x] ∧ Sub F H ∧ RX g F H x d ∧ f d = some r ∧ OpPost g F H r Q
section
variable {X : Cx} {g : Gh}
theorem call_lenD : CallR X (.builtin "len") (r1 g fun d => (lenD d).map fun (k : Nat) => OV.val (.int (k : Int))) := by
  intro pins s σ H xs us Q I rv ⟨F, x, d, r, ex, sb, rx, e, q⟩
  subst ex
  cases hk : lenD d with
  | none => simp only [hk, Option.map_none] at e; cases e
  | some k =>
    simp only [hk, Option.map_some] at e; injection e with e; subst e
    by_cases hdct : ∃ kvs, d = .dct kvs
    · obtain ⟨kvs, rfl⟩ := hdct
      injection hk with hk; subst hk
      obtain ⟨a, es, ep, rfl, ha, rk, _⟩ := rx.dct_inv sb
      obtain ⟨u, rfl, ru⟩ := vals1 rv
      cases ru
      obtain ⟨⟨hl, hsys, o, arr, go, ex, dt, pr⟩, _, _⟩ := I.hok a _ ha
      have el : arr.size = kvs.length := by
        have h1 := Paired.length pr
        have h2 := rk.len
        rw [← h2, h1, Array.length_toList]
      refine len_rawD hsys ⟨o, go, ex, dt⟩ (by rw [el, ← rk.len]; rw [sizeLine_eq] at hl; omega) ?_
      rw [el]
      exact ⟨.int (kvs.length : Nat), H, I.tok _, ⟨_, rfl⟩, q.val sb (.int _)⟩
    refine call_len pins s σ H [x] us Q I rv ⟨x, k, rfl, ?_, q.val sb (.int _)⟩
    unfold lenD at hk
    split at hk
    · split at hk
      · rename_i c
        injection hk with hk; subst hk
        cases rx.str_inv; exact ⟨c, rfl⟩
      · cases hk
    · injection hk with hk; subst hk
      obtain ⟨pa, va, rfl, ha, ra⟩ := rx.lst_inv sb
      exact .inl ⟨va, .of ha, ra.length.symm⟩
    · injection hk with hk; subst hk
      obtain ⟨pa, va, rfl, ha, ra⟩ := rx.tup_inv
      exact .inr ⟨va, .of (sb _ _ ha), ra.length.symm⟩
    · exact absurd ⟨_, rfl⟩ hdct
    · cases hk
end
section
variable {ev : EC → Expr → En → Stm → Out OV} (ih : IH ev) {n : Cn} {W : WX} (G : Good n W)
include ih G
theorem blt_facts {f : Str} (h : n.c.blt f = true) : Gl n.X f ∧ n.X.mg f = none := by
  simp only [EC.blt, Bool.and_eq_true, decide_eq_true_eq] at h
  exact ⟨gl_of G h.1, G.tb.free f h.2⟩
theorem no_star1 {e : Expr} (h : noStar [e] = true) : isStar e = false := by
  simp only [noStar, List.all_cons, List.all_nil, Bool.and_true, Bool.not_eq_true'] at h
  exact h
/-- a built-in function of one operand -/
theorem s_fun1 {f : Str} (hb : n.c.blt f = true) {e : Expr} {pos p1 : Pos} (hs : noStar [e] = true) {id : String} {v : D → Option OV} (hc : CallR n.X (.builtin id) (r1 n.g v)) (hv : bootBuiltins f = some (.builtin id)) (hn : f ≠ Str.ofString "__name__") (hd : (f == ("__debug__" : Str)) = false) :
    SE n W (.Call (.Name f p1) [e] [] pos) (fun en S => (evD ev n.c e en S).bind fun d en S => lift (v d) en S) := by
  obtain ⟨hg, hm⟩ := blt_facts ih G hb
  refine PE.imp (pe_callB hc hg hm hv (pa_cons (s_B ih G e) pa_nil (star_cons ih G (no_star1 ih G hs))) hn hd (star_cons ih G (no_star1 ih G hs)) rfl) ?_
  intro σ H Q h
  refine op1 ih G h ?_
  intro F d x H1 en S sr rx p
  unfold lift at p
  cases q : v d with
  | none => rw [q] at p; exact p.elim
  | some r => rw [q] at p; exact ⟨F, x, d, r, rfl, sr.sub, rx, q, .of sr p⟩
/-- a built-in class of one operand -/
theorem s_ty1 {f : Str} (hb : n.c.blt f = true) {e : Expr} {pos p1 : Pos} (hs : noStar [e] = true) {T : String} {v : D → Option OV} (hc : CallR n.X (.type T) (r1 n.g v)) (hv : bootBuiltins f = some (.type T)) (hn : f ≠ Str.ofString "__name__") (hd : (f == ("__debug__" : Str)) = false) :
    SE n W (.Call (.Name f p1) [e] [] pos) (fun en S => (evD ev n.c e en S).bind fun d en S => lift (v d) en S) := by
  obtain ⟨hg, hm⟩ := blt_facts ih G hb
  refine PE.imp (pe_callTy hc hg hm hv (pa_cons (s_B ih G e) pa_nil (star_cons ih G (no_star1 ih G hs))) hn hd (star_cons ih G (no_star1 ih G hs)) rfl) ?_
  intro σ H Q h
  refine op1 ih G h ?_
  intro F d x H1 en S sr rx p
  unfold lift at p
  cases q : v d with
  | none => rw [q] at p; exact p.elim
  | some r => rw [q] at p; exact ⟨F, x, d, r, rfl, sr.sub, rx, q, .of sr p⟩
theorem s_len {f : Str} (hf : bk f = .len) (hb : n.c.blt f = true) {e : Expr} {pos p1 : Pos} (hs : noStar [e] = true) : SE n W (.Call (.Name f p1) [e] [] pos) (lenE ev n.c e) := by
  have hm := bk_mem hf (by decide)
  obtain ⟨hn, hd⟩ := boot_ok _ hm
  have ef : f = Str.ofString "len" := by simpa [bkTab] using hm
  subst ef
  refine PE.imp (s_fun1 ih G hb hs (call_lenD (g := n.g)) (by rfl) hn hd) ?_
  rintro σ H Q ⟨en, S, F, sr, p⟩
  refine ⟨en, S, F, sr, ?_⟩
  unfold lenE at p
  unfold evD
  simp only [bind_assoc]
  cases q : evB ev n.c e en S with
  | bad => rw [q] at p; exact p
  | err C fs en1 S1 => rw [q] at p; exact p
  | ok o en1 S1 =>
    rw [q] at p
    simp only [Out.bind, resolve, lift] at p ⊢
    cases q2 : o.get en1 with
    | none => rw [q2] at p; exact p
    | some d =>
      rw [q2] at p
      simp only at p ⊢
      revert p
      generalize lenD _ = z
      cases z <;> exact id
end
end PX

set_option Elab.async false
set_option linter.all false
set_option maxRecDepth 100000
/-! PxSort: sorted; further built-ins of one operand. -/
namespace PX
open PySem PySem.Spec L2
open PyProof.Rows hiding St

section
variable {g : Gh} {P : Program} {w : World} {F H : Hp} {h : Heap}
mutual
theorem rep_reads (hok : HOk P w H h) (s : Sub F H) : ∀ {v : V} {d : D}, Rep g F v d → PySem.W.alike (encD d) (encD d) = true → ∀ u, RelV v u → ∃ as, Reads h u (encD d) as
  | _, _, .non, _, u, r => by cases (show u = Value.none from r); exact ⟨_, by unfold encD; exact .none⟩
  | _, _, .bl b, _, u, r => by cases (show u = Value.bool b from r); exact ⟨_, by unfold encD; exact .bool b⟩
  | _, _, .int i, _, u, r => by obtain ⟨t, rfl⟩ := r; exact ⟨_, by unfold encD; exact .int i t⟩
  | _, _, .str x, _, u, r => by obtain ⟨t, rfl⟩ := r; exact ⟨_, by unfold encD; exact .str x t⟩
  | _, _, .ty n, a, u, r => by simp [encD, PySem.W.alike] at a
  | _, _, .st, a, u, r => by simp [encD, PySem.W.alike] at a
  | _, _, .glo _, a, u, r => by simp [encD, PySem.W.alike] at a
  | _, _, .lst _ _, a, u, r => by simp [encD, PySem.W.alike] at a
  | _, _, .dct _ _ _ _, a, u, r => by simp [encD, PySem.W.alike] at a
  | _, _, .obj _ _ _, a, u, r => by simp [encD, PySem.W.alike] at a
  | _, _, .tup (a := p) (vs := vs) ha rs, a, u, r => by
    cases (show u = Value.ref p from r)
    obtain ⟨_, its, rt, o, ho, hc, n, hd⟩ := (show ObjOk P w H h p (.tup vs) from hok p _ (s _ _ ha))
    obtain ⟨as, hr⟩ := rep_readsA hok s rs (by simpa [encD, PySem.W.alike] using a) its rt
    exact ⟨as, by unfold encD; exact .tuple ho hc hd (by simpa using hr)⟩
theorem rep_readsA (hok : HOk P w H h) (s : Sub F H) : ∀ {vs : List V} {ds : List D}, RepA g F vs ds → PySem.W.alikeAll (encAll ds) (encAll ds) = true → ∀ us, Vals vs us → ∃ as, ReadsAll h us (encAll ds) as
  | _, _, .nil, _, us, r => by cases r; exact ⟨[], by unfold encAll; exact .nil⟩
  | _, _, .cons x rs, a, us, r => by
    cases r with
    | @cons _ u _ us ru rr =>
      simp only [encAll, PySem.W.alikeAll, Bool.and_eq_true] at a
      obtain ⟨as, h1⟩ := rep_reads hok s x a.1 u ru
      obtain ⟨bs, h2⟩ := rep_readsA hok s rs a.2 us rr
      exact ⟨as ++ bs, by unfold encAll; exact .cons h1 h2⟩
end
/-- a value stands for data -/
def RU (g : Gh) (F : Hp) (u : Value) (d : D) : Prop := ∃ v, RelV v u ∧ Rep g F v d
theorem each_ru : ∀ {vs : List V} {ds : List D} {us : List Value}, RepA g F vs ds → Vals vs us → PySem.W.EachIs (RU g F) us ds
  | _, _, _, .nil, r => by cases r; exact .nil
  | _, _, _, .cons x rs, r => by
    cases r with
    | cons ru rr => exact .cons ⟨_, ru, x⟩ (each_ru rs rr)
theorem ru_each : ∀ {us : List Value} {ds : List D}, PySem.W.EachIs (RU g F) us ds → ∃ vs, Vals vs us ∧ RepA g F vs ds
  | _, _, .nil => ⟨[], .nil, .nil⟩
  | _, _, .cons ⟨v, a, b⟩ r => by
    obtain ⟨vs, c, d⟩ := ru_each r
    exact ⟨v :: vs, .cons a c, .cons b d⟩
theorem each_reads (hok : HOk P w H h) (s : Sub F H) : ∀ {vs : List V} {ds : List D} {us : List Value}, RepA g F vs ds → Vals vs us → (∀ d ∈ ds, PySem.W.alike (encD d) (encD d) = true) → PySem.W.EachIs (fun u d => ∃ as, Reads h u (encD d) as) us ds
  | _, _, _, .nil, r, _ => by cases r; exact .nil
  | _, _, _, .cons x rs, r, a => by
    cases r with
    | cons ru rr => exact .cons (rep_reads hok s x (a _ (List.mem_cons_self ..)) _ ru) (each_reads hok s rs rr fun d hd => a d (List.mem_cons_of_mem _ hd))
end
theorem sortOk_inv {xs : List PyData} (h : sortOk xs = true) : PySem.W.AllAlike xs ∧ PySem.W.Sortable xs ∧ (∀ d ∈ xs, d.depth ≤ 40) ∧ xs.length ≤ sizeLine := by
  simp only [sortOk, Bool.and_eq_true, Bool.or_eq_true, List.all_eq_true, decide_eq_true_eq] at h
  obtain ⟨⟨⟨h1, h2⟩, h3⟩, h4⟩ := h
  refine ⟨fun d hd d' hd' => h1 d hd d' hd', ?_, h3, h4⟩
  rcases h2 with h2 | h2
  · refine .inl fun d hd => ?_
    have := h2 d hd
    unfold tupB1 at this
    split at this
    · exact ⟨_, _, rfl⟩
    · cases this
  · refine .inr fun d hd => ?_
    have := h2 d hd
    unfold othB1 at this
    split at this
    · cases this
    · cases this
    · rename_i h1 h2
      exact ⟨fun e => h1 e, fun xs e => h2 xs e⟩
/-! sorted of a tuple (as of a list: its items are collected first) -/
section
open PySem.W PyProof.Rows PySem.Calls
variable {prog : Program} {w : World} {A : Around} {E : Value → Shared → Prop} {s : Shared}
theorem collect_tup {l : Addr} {vs : List Value} {Q : List Value → Shared → Prop} (hl : IsTup s.heap l vs.toArray)
    (h : Q vs { s with heap := (s.heap.push (seqObj "list" #[] 0)).update s.heap.objs.size (Obj.mapSeq (· ++ vs.toArray)) }) (hsz : vs.length ≤ sizeLine) :
    wpAny (model prog w) A (collect (.ref l)) Q E s := by
  obtain ⟨o, ho, hc, n, hd⟩ := id hl
  unfold collect
  refine wpAny_bind (wpAny_runValue (codeAny_builtin entry_proto_collect' ?_))
  show wpAny _ _ (do again (.builtin "list.__iadd__" ⟨[← newList [], .ref l], []⟩)) _ _ s
  refine wpAny_bind (wpAny_newList (wpAny_pure ⟨Code.quiet_builtin _ (by decide +kernel), codeAny_builtin entry_list_iadd' ?_⟩))
  show wpAny _ _ (Builtin.List.listExtendWith (.ref s.heap.objs.size) (.ref l) (.ref s.heap.objs.size)) _ _ { s with heap := s.heap.push (seqObj "list" #[] 0) }
  unfold Builtin.List.listExtendWith
  have ho' : (s.heap.push (seqObj "list" #[] 0)).get? l = some o := Heap.get?_push_of_some _ ho
  refine wpAny_bind (wpAny_typeOf (T := "tuple") ⟨o, ho', hc⟩ ?_)
  have ht : (Value.type "tuple" == Value.type "tuple") = true := by rfl
  rw [if_pos (by rw [ht]; simp)]
  refine wpAny_bind (listItems_at ho' hd ?_)
  refine wpAny_bind (listItems_at (xs := #[]) (n := 0) (Heap.get?_push_size _ rfl) rfl ?_)
  rw [if_neg (by simp)]
  refine wpAny_bind (listUpdate_at (xs := #[]) (n := 0) (Heap.get?_push_size _ rfl) rfl ?_ (Nat.zero_le _) (by show (#[] ++ vs.toArray).size ≤ sizeLine + 1; simp only [Array.size_append, List.size_toArray, List.length_nil]; omega))
  refine wpAny_pure ?_
  show wpAny (model prog w) A (do
      let o ← load s.heap.objs.size
      match o.data with
      | .seq xs _ => pure xs.toList
      | _ => unsupported "internal:collect") Q E { s with heap := (s.heap.push (seqObj "list" #[] 0)).update s.heap.objs.size (Obj.mapSeq (· ++ vs.toArray)) }
  refine wpAny_bind (wpAny_load (get?_update_seq (Heap.get?_push_size _ rfl) _) ?_)
  show wpAny _ _ (pure ((#[] : Array Value) ++ vs.toArray).toList) Q E _
  rw [show ((#[] : Array Value) ++ vs.toArray).toList = vs by simp]
  exact wpAny_pure h
theorem sorted_tup {κ : PyProof.Rows.KeyKind} {l : Addr} {vs : List Value} {Q : Value → Shared → Prop} (hl : IsTup s.heap l vs.toArray) (S : SortsAt prog w A.in1.in1 { s with heap := sortingHeap (copyHeap s.heap vs) (s.heap.objs.size + 1) vs } κ vs) (hL : vs.length ≤ sizeLine)
    (h : Q (.ref (s.heap.objs.size + 1)) { s with heap := sortedAll s.heap vs (sortVals κ false vs vs).toArray }) : wpAny (model prog w) A (call (.builtin "sorted") [.ref l]) Q E s := by
  refine call_function_entry_kw kind_sorted plain_sorted entry_sorted (args_sorted1 _) ?_
  unfold Builtin.«sorted»
  refine wpAny_bind (m := checkCount "sorted" 1 1 _) (wpAny_pure ?_)
  refine wpAny_bind (collect_tup hl ?_ hL)
  refine wpAny_bind (wpAny_newList ?_ hL)
  have hsz : ((s.heap.push (seqObj "list" #[] 0)).update s.heap.objs.size (Obj.mapSeq (· ++ vs.toArray))).objs.size = s.heap.objs.size + 1 := by
    rw [Heap.size_update, size_push']
  show wpAny _ _ _ _ _ { s with heap := copyHeap s.heap vs }
  rw [hsz]
  refine wpAny_bind (wpAny_holding (wpAny_call_entry_kw slot_list_sort ⟨_, copyHeap_at s.heap vs, rfl⟩ entry_list_sort ?body (args_list_sort _)))
  case body =>
    show wpAny (model prog w) A.in1.in1 (Builtin.«list.sort» ⟨[.ref (s.heap.objs.size + 1)], []⟩) _ _ _
    refine wpAny_mono (list_sort_vals (s := { s with heap := copyHeap s.heap vs }) (P := fun f s' => f = .done (.ret .none) ∧ Q (.ref (s.heap.objs.size + 1)) s') (copyHeap_at s.heap vs) S hL ⟨rfl, h⟩) (fun f s' hf => ?_) fun _ _ e => e
    obtain ⟨rfl, hq⟩ := hf
    exact ⟨_, rfl, wpAny_pure ⟨_, rfl, hq⟩⟩
theorem sorted_dataT {β : Type} {vs : List Value} {bs : List β} {enc : β → PyData} {R : Value → β → Prop} {l : Addr} {Q : Value → Shared → Prop} (hl : IsTup s.heap l vs.toArray) (e : EachIs R vs bs) (er : EachIs (fun v b => ∃ as, Reads s.heap v (enc b) as) vs bs) (hal : AllAlike (bs.map enc)) (hk : Sortable (bs.map enc)) (hL : bs.length ≤ sizeLine)
    (hu : ∀ b, b ∈ bs → A.units + 2 + (enc b).depth < cLine) (h : ∀ out, out.length = bs.length → EachIs R out (bs.mergeSort (dataLe false enc)) → Q (.ref (s.heap.objs.size + 1)) { s with heap := sortedAll s.heap vs (List.toArray out) }) :
    wpAny (model prog w) A (call (.builtin "sorted") [.ref l]) Q E s := by
  have er' : EachIs (fun v b => ∃ as, Reads (sortingHeap (copyHeap s.heap vs) (s.heap.objs.size + 1) vs) v (enc b) as) vs bs := er.mono fun _ _ ⟨as, r⟩ => ⟨as, PyProof.Rows.Reads.keeps (fun _ _ => sorting_copy_old) r⟩
  exact sorted_tup hl (SortsAt.data (s := { s with heap := sortingHeap (copyHeap s.heap vs) (s.heap.objs.size + 1) vs }) (each_map (R := fun v d => ∃ as, Reads (sortingHeap (copyHeap s.heap vs) (s.heap.objs.size + 1) vs) v d as) enc er') hal hk (bound_map hu)) (by rw [e.length]; exact hL)
    (h _ (by rw [sortVals_length false rfl]; exact e.length) (sortVals_data false e er' hal))
end
section
variable {X : Cx} {g : Gh}
theorem call_sortX (hu : X.A.units + 80 < cLine) : CallR X (.builtin "sorted") (r1 g (b1D .sorted)) := by
  intro pins s σ H xs us Q I rv ⟨F, x, d, r, ex, sb, rx, e, q⟩
  subst ex
  cases d with
  | lst ds =>
    obtain ⟨pa, va, rfl, ha, ra⟩ := rx.lst_inv sb
    have e : (if sortOk (ds.map encD) = true then some (OV.own (.lst (ds.mergeSort leE))) else none) = some r := e
    split at e
    case isFalse => cases e
    rename_i so
    injection e with e; subst e
    obtain ⟨al, so, dp, hl⟩ := sortOk_inv so
    obtain ⟨its, rv', pl, hz⟩ := I.list (.of ha)
    rw [Vals.ref1 rv]
    have hlen : ds.length ≤ sizeLine := by simpa using hl
    refine PySem.W.sorted_data (R := RU g F) (enc := encD) pl.isList (each_ru ra rv') (each_reads I.hok sb ra rv' fun d hd => al _ (List.mem_map_of_mem hd) _ (List.mem_map_of_mem hd)) al so hlen ?_ ?_
    · intro b hb
      have := dp _ (List.mem_map_of_mem hb)
      show X.A.units + 2 + _ < _
      omega
    · intro out hout ho
      obtain ⟨vs', rv2, ra2⟩ := ru_each ho
      obtain ⟨ep, he'⟩ := PyProof.Rows.sortedAll_at s.heap its out.toArray
      have hl2 : vs'.length ≤ sizeLine := by rw [rv2.length, hout]; exact hlen
      exact ⟨.ref _, upd H (s.heap.objs.size + 1) (.lst vs'), I.laid (t' := s.toks) (fun _ _ => PyProof.Rows.sortedAll_old) (Nat.le_succ _) ⟨hl2, out, ep, rv2, he'⟩, rfl, q.lst sb ra2 _ (I.hok.fresh (Nat.le_succ _))⟩
  | tup ds =>
    obtain ⟨pa, va, rfl, ha, ra⟩ := rx.tup_inv
    have e : (if sortOk (ds.map encD) = true then some (OV.own (.lst (ds.mergeSort leE))) else none) = some r := e
    split at e
    case isFalse => cases e
    rename_i so
    injection e with e; subst e
    obtain ⟨al, so, dp, hl⟩ := sortOk_inv so
    obtain ⟨its, rv', pl, hz⟩ := I.tuple (.of (sb _ _ ha))
    rw [Vals.ref1 rv]
    have hlen : ds.length ≤ sizeLine := by simpa using hl
    refine sorted_dataT (R := RU g F) (enc := encD) pl (each_ru ra rv') (each_reads I.hok sb ra rv' fun d hd => al _ (List.mem_map_of_mem hd) _ (List.mem_map_of_mem hd)) al so hlen ?_ ?_
    · intro b hb
      have := dp _ (List.mem_map_of_mem hb)
      show X.A.units + 2 + _ < _
      omega
    · intro out hout ho
      obtain ⟨vs', rv2, ra2⟩ := ru_each ho
      obtain ⟨ep, he'⟩ := PyProof.Rows.sortedAll_at s.heap its out.toArray
      have hl2 : vs'.length ≤ sizeLine := by rw [rv2.length, hout]; exact hlen
      exact ⟨.ref _, upd H (s.heap.objs.size + 1) (.lst vs'), I.laid (t' := s.toks) (fun _ _ => PyProof.Rows.sortedAll_old) (Nat.le_succ _) ⟨hl2, out, ep, rv2, he'⟩, rfl, q.lst sb ra2 _ (I.hok.fresh (Nat.le_succ _))⟩
  | _ => cases e
theorem call_intX : CallR X (.type "int") (r1 g (b1D .int)) := by
  intro pins s σ H xs us Q I rv ⟨F, x, d, r, ex, sb, rx, e, q⟩
  subst ex
  refine call_int1 pins s σ H [x] us Q I rv ?_
  cases d with
  | int i => cases e; cases rx.int_inv; exact .inl ⟨i, rfl, q.val sb (.int _)⟩
  | bl i => cases e; cases rx.bl_inv; exact .inr ⟨i, rfl, q.val sb (.int _)⟩
  | _ => cases e
theorem call_strX : CallR X (.type "str") (r1 g (b1D .str)) := by
  intro pins s σ H xs us Q I rv ⟨F, x, d, r, ex, sb, rx, e, q⟩
  subst ex
  cases d with
  | int i =>
    have e : (if i.natAbs.log2 < 1920 then some (OV.val (.str (toString i))) else none) = some r := e
    split at e
    case isFalse => cases e
    rename_i c
    cases e; cases rx.int_inv
    exact call_str_int pins s σ H _ us Q I rv ⟨i, rfl, c, q.val sb (.str _)⟩
  | str z => cases e; cases rx.str_inv; exact SkE.call_str_str pins s σ H _ us Q I rv ⟨z, rfl, q.val sb (.str _)⟩
  | _ => cases e
theorem call_absX : CallR X (.builtin "abs") (r1 g (b1D .abs)) := by
  intro pins s σ H xs us Q I rv ⟨F, x, d, r, ex, sb, rx, e, q⟩
  subst ex
  cases d with
  | int i => cases e; cases rx.int_inv; exact call_abs pins s σ H _ us Q I rv ⟨i, rfl, q.val sb (.int _)⟩
  | _ => cases e
theorem call_listX : CallR X (.type "list") (r1 g (b1D .list)) := by
  intro pins s σ H xs us Q I rv ⟨F, x, d, r, ex, sb, rx, e, q⟩
  subst ex
  cases d with
  | lst ds =>
    cases e
    obtain ⟨pa, va, rfl, ha, ra⟩ := rx.lst_inv sb
    exact call_list_of pins s σ H _ us Q I rv ⟨pa, va, rfl, .inl (.of ha), q.lst sb ra⟩
  | tup ds =>
    cases e
    obtain ⟨pa, va, rfl, ha, ra⟩ := rx.tup_inv
    exact call_list_of pins s σ H _ us Q I rv ⟨pa, va, rfl, .inr (.of (sb _ _ ha)), q.lst sb ra⟩
  | _ => cases e
theorem call_tupX : CallR X (.type "tuple") (r1 g (b1D .tuple)) := by
  intro pins s σ H xs us Q I rv ⟨F, x, d, r, ex, sb, rx, e, q⟩
  subst ex
  cases d with
  | lst ds =>
    cases e
    obtain ⟨pa, va, rfl, ha, ra⟩ := rx.lst_inv sb
    exact call_tuple_of pins s σ H _ us Q I rv ⟨pa, va, rfl, .inl ⟨.of ha, q.tup sb ra⟩⟩
  | tup ds =>
    cases e
    obtain ⟨pa, va, rfl, ha, ra⟩ := rx.tup_inv
    exact call_tuple_of pins s σ H _ us Q I rv ⟨pa, va, rfl, .inr ⟨.of (sb _ _ ha), q.val sb (.tup ha ra)⟩⟩
  | _ => cases e
theorem allBls_rep {F : Hp} : ∀ {vs : List V} {ds : List D} {ys : List Bool}, RepA g F vs ds → allBls ds = some ys → vs = ys.map V.bl
  | _, _, _, .nil, h => by simp [allBls] at h; subst h; rfl
  | _, _, _, .cons (d := d) x rs, h => by
    cases d with
    | bl b =>
      simp only [allBls] at h
      cases q : allBls _ with
      | none => rw [q] at h; cases h
      | some zs =>
        rw [q] at h; injection h with h; subst h
        cases x.bl_inv
        rw [allBls_rep rs q]; rfl
    | _ => cases h
theorem allInts_rep {F : Hp} : ∀ {vs : List V} {ds : List D} {ys : List Int}, RepA g F vs ds → allInts ds = some ys → vs = ys.map V.int
  | _, _, _, .nil, h => by simp [allInts] at h; subst h; rfl
  | _, _, _, .cons (d := d) x rs, h => by
    cases d with
    | int b =>
      simp only [allInts] at h
      cases q : allInts _ with
      | none => rw [q] at h; cases h
      | some zs =>
        rw [q] at h; injection h with h; subst h
        cases x.int_inv
        rw [allInts_rep rs q]; rfl
    | _ => cases h
theorem call_allX (hc : X.calm = true) : CallR X (.builtin "all") (r1 g (b1D .all)) := by
  intro pins s σ H xs us Q I rv ⟨F, x, d, r, ex, sb, rx, e, q⟩
  subst ex
  cases d with
  | lst ds =>
    have e : ((allBls ds).map fun bs => OV.val (.bl (bs.all id))) = some r := e
    cases z : allBls ds with
    | none => rw [z] at e; cases e
    | some bs =>
      rw [z] at e; injection e with e; subst e
      obtain ⟨pa, va, rfl, ha, ra⟩ := rx.lst_inv sb
      have := allBls_rep ra z
      subst this
      exact cr_all hc pins s σ H _ us Q I rv ⟨pa, bs, rfl, .of ha, q.val sb (.bl _)⟩
  | _ => cases e
theorem call_sumX (hc : X.calm = true) : CallR X (.builtin "sum") (r1 g (b1D .sum)) := by
  intro pins s σ H xs us Q I rv ⟨F, x, d, r, ex, sb, rx, e, q⟩
  subst ex
  cases d with
  | lst ds =>
    have e : ((allInts ds).map fun ns => OV.val (.int ns.sum)) = some r := e
    cases z : allInts ds with
    | none => rw [z] at e; cases e
    | some bs =>
      rw [z] at e; injection e with e; subst e
      obtain ⟨pa, va, rfl, ha, ra⟩ := rx.lst_inv sb
      have := allInts_rep ra z
      subst this
      exact cr_sum hc pins s σ H _ us Q I rv ⟨pa, bs, rfl, .of ha, q.val sb (.int _)⟩
  | _ => cases e
end
end PX

set_option Elab.async false
set_option linter.all false
set_option maxRecDepth 100000
/-! PxSortK: sorted by the keys that a def of the text gives. -/
namespace PX
open PySem PySem.Spec L2 PySem.Calls
open PyProof.Rows hiding St

/-- at a: a list's object, as it stands -/
def xL (a : Addr) (vs : Array Value) (e : Nat) : HO := .ext fun h => h.get? a = some (seqObj "list" vs e)
theorem xL_ok {P : Program} {w : World} {H : Hp} {h : Heap} {a : Addr} {vs : Array Value} {e : Nat} (he : h.get? a = some (seqObj "list" vs e)) : ObjOk P w H h a (xL a vs e) :=
  ⟨he, ⟨_, he⟩, fun h1 h2 z k => k _ z⟩
theorem xL_get {X : Cx} {pins : List (Addr × Obj)} {σ : St} {H : Hp} {s : Shared} {a : Addr} {vs : Array Value} {e : Nat} (I : Inv X pins σ H s) (h : H a = some (xL a vs e)) : s.heap.get? a = some (seqObj "list" vs e) :=
  (I.hok a _ h).1
section
variable {n : Cn} {F H : Hp} {σ : St} {en : En} {S : Stm}
/-- one address of the heap changes that nothing holds -/
theorem SR.other (sr : SR n F σ H en S) {k : Addr} {H' : Hp} (hk : ∀ b, b ≠ k → H' b = H b) (nf : F k = none) (nb : n.B k = none) (nc : k ∉ n.cells H) (hx : ∀ vfs, H k ≠ some (.xd vfs)) (ho : ∀ (j : Nat) (o : O) (p : Addr), en[j]? = some (.own o) → σ[j]? = some (some (.ref p)) → p ≠ k) :
    SR n F σ H' en S ∧ n.cells H' = n.cells H := by
  have ce : n.cells H' = n.cells H := sr.ceq fun u h => by rw [hk _ (by rintro rfl; exact nc (List.mem_append_left _ (List.mem_cons_self ..)))]; exact h
  refine ⟨⟨sr.len, sr.slen, ?_, ?_, ?_, sr.dist, ?_, ?_, by rw [ce]; exact sr.cellF, sr.fix⟩, ce⟩
  · intro a u h; rw [hk a (by rintro rfl; rw [nb] at h; cases h)]; exact sr.base _ _ h
  · intro a u h; rw [hk a (by rintro rfl; rw [nf] at h; cases h)]; exact sr.sub _ _ h
  · intro i x hx'
    have := sr.slot i x hx'
    generalize q : σ[i]? = z at this ⊢
    cases this with
    | none => exact .none
    | val y => exact .val y
    | exc a b => exact .exc a (b.mono .refl fun dx vfs z => by rw [hk dx (by rintro rfl; exact hx _ z)]; exact z)
    | @own p o a b c d =>
      have pk := ho i o p hx' q
      exact .own a b (by rw [ce]; exact c) (d.heap fun u h => by rw [hk p pk]; exact h)
  · exact sr.st.heap fun c hc u h => by rw [hk c (by rintro rfl; exact nc (List.mem_append_left _ hc))]; exact h
  · intro a ha
    obtain ⟨u, hu⟩ := sr.c0 a ha
    exact ⟨u, by rw [hk a (by rintro rfl; exact nc (List.mem_append_right _ ha))]; exact hu⟩
theorem addP_nil : addP F H (Lent σ en []) = F := by
  funext a
  exact addP_out (by rintro ⟨i, h, _⟩; cases h)
/-- what stands while the keys are made -/
structure KI (n : Cn) (pins : List (Addr × Obj)) (σ : St) (en : En) (S : Stm) (F : Hp) (a kS : Addr) (e1 : Nat) (ks : List PX.D) (s : Shared) (H' F' : Hp) (kA : Array Value) (e : Nat) (kv : List V) : Prop where
  inv : Inv n.X pins σ H' s
  sr : SR n F' σ H' en S
  ff : Sub F F'
  ha : H' a = some (xL a #[] e1)
  hk : H' kS = some (xL kS kA e)
  rv : Vals kv kA.toList
  ra : RepA n.g F' kv ks
  fa : F' a = none
  fk : F' kS = none
  ca : a ∉ n.cells H'
  ck : kS ∉ n.cells H'
/-- the key of one item -/
theorem key_call {W : WX} (G : Good n W) (hh : n.c.hot = false) {f : Fid} {D : DefI} {fa : Addr} (hf : FnAt n f D fa) (hp : D.ps.length = 1) {pins : List (Addr × Obj)} {a kS : Addr} {e1 e : Nat} {ks : List PX.D} {s : Shared} {H' F' : Hp} {kA : Array Value} {kv : List V}
    (K : KI n pins σ en S F a kS e1 ks s H' F' kA e kv) {v : V} {u : Value} {d kd : PX.D} (ru : RelV v u) (rd : Rep n.g F v d) (hc : n.c.call f [d] S = .ok (.val kd) S) :
    wpAny (model n.X.prog n.X.w) n.X.A.in1.in1 (call (.ref fa) [u]) (fun z s' => ∃ H2 F2 zv, KI n pins σ en S F a kS e1 ks s' H2 F2 kA e kv ∧ RelV zv z ∧ Rep n.g F2 zv kd) (fun _ _ => False) s := by
  obtain ⟨I, sr, ff, ha, hk, rv, ra, fa', fk, ca, ck⟩ := K
  obtain ⟨fd, hb, ok⟩ := hf.ok
  obtain ⟨y, hy⟩ : ∃ y, D.ps = [y] := by
    match h : D.ps, hp with
    | [y], _ => exact ⟨y, rfl⟩
  have eg : (⟨n.X.w, n.X.mg, n.g.sa⟩ : Gh) = n.g := by rw [← G.mg, ← G.w]
  have sp : spF n.X.w n.X.mg D.ps.length (n.c.call f) [v] H' (fun z H2 => ∃ F2, Back n.g F' H' F2 H2 S ∧ Rep n.g F2 z kd) (fun _ _ _ => False) := by
    refine ⟨n.g.sa, F', [d], S, ?_, by rw [hp]; rfl, sr.sub, sr.st, fun a ha => (sr.cellF a (List.mem_append_left _ ha)).1, ?_⟩
    · rw [eg]; exact .cons (rd.mono ff) .nil
    · rw [eg, hc]
      intro z H2 F2 b x nc
      cases x with
      | val h => exact ⟨F2, b, h⟩
  have hr : Room n.k n.X.A.in1.in1 := ((G.room hh).in1).in1
  have bd : bindA D.ps [u] ([] : List (Str × Value)) = some [u] := by
    rw [hy]
    unfold bindA bindB slotsOfCall
    simp [kwOk, List.lookup]
  refine wpAny_call (codeAny_mono (ok.run n.X.A.in1.in1 n.X.stack s H' ⟨[u], []⟩ [u] [v] _ (fun _ _ _ => False) hr I.env0.in1.in1 (hb s [u] [] [u] bd) (.cons ru .nil) sp) fun r s' hq => ?_)
  cases r with
  | error er =>
    exact (cxB_none hq).elim
  | ok fl =>
    cases fl with
    | ret z =>
      obtain ⟨zv, H2, I2, rz, F2, b, rk⟩ := I.after hq
      have b' : Back n.g (addP F' H' (Lent σ en [])) H' F2 H2 S := by rw [addP_nil]; exact b
      obtain ⟨sr2, sb2⟩ := sr.backL b'
      exact ⟨H2, F2, zv, ⟨I2, sr2, ff.trans sb2, b.keep _ _ ha fun h => ca (List.mem_append_left _ h), b.keep _ _ hk fun h => ck (List.mem_append_left _ h), rv, ra.mono sb2,
        (b.new _ _ ha).trans fa', (b.new _ _ hk).trans fk, sr.nocell b' ha ca, sr.nocell b' hk ck⟩, rz, rk⟩
    | next => exact False.elim hq
    | brk => exact False.elim hq
    | cont => exact False.elim hq
theorem keysOf_len {call : List PX.D → Stm → CO} : ∀ {xs ks : List PX.D}, keysOf call S xs = some ks → ks.length = xs.length
  | [], _, h => by injection h with h; subst h; rfl
  | x :: r, ks, h => by
    simp only [keysOf] at h
    split at h
    · split at h
      · cases q : keysOf call S r with
        | none => rw [q] at h; cases h
        | some zs => rw [q] at h; injection h with h; subst h; simp [keysOf_len q]
      · cases h
    · cases h
theorem keysOf_at {call : List PX.D → Stm → CO} : ∀ {xs ks : List PX.D}, keysOf call S xs = some ks → ∀ (i : Nat) (x k : PX.D), xs[i]? = some x → ks[i]? = some k → call [x] S = .ok (.val k) S
  | [], _, h, i, x, k, hx, _ => by simp at hx
  | y :: r, ks, h, i, x, k, hx, hk => by
    simp only [keysOf] at h
    split at h
    · rename_i k0 S' hc
      split at h
      · rename_i e
        rw [e] at hc
        cases q : keysOf call S r with
        | none => rw [q] at h; cases h
        | some zs =>
          rw [q] at h; injection h with h; subst h
          cases i with
          | zero => simp at hx hk; subst hx hk; exact hc
          | succ i => exact keysOf_at q i x k (by simpa using hx) (by simpa using hk)
      · cases h
    · cases h
end
theorem xL_no {H : Hp} {b : Addr} {vs : Array Value} {e : Nat} {o : HO} (h : H b = some (xL b vs e)) (h' : H b = some o) (k : ∀ φ, o ≠ .ext φ) : False := by
  rw [h] at h'
  exact k _ (Option.some.inj h').symm
/-- an address that is new at the start -/
structure NewAt (X : Cx) (pins : List (Addr × Obj)) (b : Addr) : Prop where
  sz : X.s_0.heap.objs.size ≤ b
  loc : b ≠ X.env.locals
  cel : ∀ x c, X.env.cells.lookup x = some c → c ≠ b
  pin : ∀ p ∈ X.pn ++ pins, p.1 ≠ b
theorem newAt {X : Cx} {pins : List (Addr × Obj)} {σ : St} {H : Hp} {s : Shared} {b : Addr} (I : Inv X pins σ H s) (h : s.heap.objs.size ≤ b) : NewAt X pins b := by
  have ne : ∀ c : Nat, c < s.heap.objs.size → b ≠ c := fun c hc z => by
    rw [z] at h
    exact absurd (Nat.lt_of_lt_of_le hc h) (Nat.lt_irrefl _)
  refine ⟨Nat.le_trans I.sz h, ne _ I.lt, ?_, ?_⟩
  · intro x c e
    obtain ⟨v, o, ho, hd⟩ := I.cell x c e
    exact (ne _ (Heap.lt_size ho)).symm
  · intro p hp
    exact (ne _ (Heap.lt_size (I.pin p hp).1)).symm
/-- behind the sort: the list of the keys is forgotten, the new list stands -/
theorem sort_end {X : Cx} {pins : List (Addr × Obj)} {σ : St} {H : Hp} {s : Shared} {a kS : Addr} {e1 e c : Nat} {kA : Array Value} {out : List Value} {ov : List V} {G h' : Heap} {tk : Nat} (I : Inv X pins σ H s) (ha : H a = some (xL a #[] e1)) (hk : H kS = some (xL kS kA e)) (hka : kS ≠ a)
    (na : NewAt X pins a) (nk : NewAt X pins kS) (hG : ∀ b, b ≠ kS → G.get? b = s.heap.get? b) (kp : PySem.W.KeepsBut a G h') (hD : h'.get? a = some (seqObj "list" out.toArray c)) (rv : Vals ov out) (hl : ov.length ≤ sizeLine) :
    Inv X pins σ (upd (del H kS) a (.lst ov)) { s with heap := h', toks := tk } := by
  have keep : ∀ b o, b ≠ a → b ≠ kS → s.heap.get? b = some o → h'.get? b = some o := fun b o h1 h2 h3 => kp b o h1 (by rw [hG b h2]; exact h3)
  have up : ∀ b u, H b = some u → b ≠ a → b ≠ kS → upd (del H kS) a (.lst ov) b = some u := fun b u h1 h2 h3 => by rw [upd_ne h2, del_ne h3]; exact h1
  have non : ∀ (b : Addr) (o : HO), H b = some o → (∀ φ, o ≠ .ext φ) → b ≠ a ∧ b ≠ kS := by
    intro b o h1 h2
    constructor
    · rintro rfl; exact xL_no ha h1 h2
    · rintro rfl; exact xL_no hk h1 h2
  have nt : ∀ b xs, H b = some (.tup xs) → b ≠ a ∧ b ≠ kS := fun b xs h1 => non b _ h1 fun φ z => by cases z
  have nf : ∀ b o u, H b = some (.frz o u) → b ≠ a ∧ b ≠ kS := fun b o u h1 => non b _ h1 fun φ z => by cases z
  have nb : ∀ b ps, H b = some (.tbl ps) → b ≠ a ∧ b ≠ kS := fun b ps h1 => non b _ h1 fun φ z => by cases z
  have no : ∀ b x, H b = some (.own x) → b ≠ a ∧ b ≠ kS := fun b ps h1 => non b _ h1 fun φ z => by cases z
  have nn : ∀ b, H b = none → b ≠ a ∧ b ≠ kS := by
    intro b h1
    constructor
    · rintro rfl; rw [ha] at h1; cases h1
    · rintro rfl; rw [hk] at h1; cases h1
  refine I.step (g' := s.gens) (d' := s.drawn) (ch := [a, kS]) (fun b hb => ?_) (fun b ob _ _ hc e0 hn => keep b ob (nn b hn).1 (nn b hn).2 e0) (fun b ob _ _ hc e0 hn => ⟨ob.slots, keep b ob (nn b hn).1 (nn b hn).2 e0⟩)
    (fun b ob hc _ hn => by rw [upd_ne (nn b hn).1, del_ne (nn b hn).2]; exact hn) (fun b ob hc e0 => ⟨ob, keep b ob (fun z => hc (by simp [z])) (fun z => hc (by simp [z])) e0⟩) (fun b xs h1 => up b _ h1 (nt b xs h1).1 (nt b xs h1).2) (fun b o u h1 => up b _ h1 (nf b o u h1).1 (nf b o u h1).2)
    (fun b ps h1 => ⟨#[], by rw [Array.append_empty]; exact up b _ h1 (nb b ps h1).1 (nb b ps h1).2⟩) (fun m hm => ?_) (fun b u h1 => ?_) I.bare
  · simp only [List.mem_cons, List.not_mem_nil, or_false] at hb
    rcases hb with rfl | rfl
    · exact ⟨.inr na.sz, na.loc, na.cel, na.pin⟩
    · exact ⟨.inr nk.sz, nk.loc, nk.cel, nk.pin⟩
  · obtain ⟨ob, es, ep, ho, r⟩ := hm
    exact ⟨ob, es, ep, keep _ ob na.loc.symm nk.loc.symm ho, r⟩
  · by_cases hb : b = a
    · subst hb
      rw [upd_same] at h1
      cases h1
      exact ⟨hl, out, c, rv, hD⟩
    · rw [upd_ne hb] at h1
      by_cases hb2 : b = kS
      · subst hb2
        rw [del_same] at h1; cases h1
      · rw [del_ne hb2] at h1
        refine (I.hok b u h1).stay (fun x v hx q => ?_) (fun x q => up x _ q (no x _ q).1 (no x _ q).2) fun x xs q => up x _ q (nt x xs q).1 (nt x xs q).2
        rcases hx with z | z
        · rw [z] at q ⊢; exact keep b v hb hb2 q
        · exact keep x v (no x _ z).1 (no x _ z).2 q
theorem each_snd {g : Gh} {F : Hp} : ∀ {us : List Value} {ps : List (PX.D × PX.D)}, PySem.W.EachIs (fun u (p : PX.D × PX.D) => RU g F u p.2) us ps → PySem.W.EachIs (RU g F) us (ps.map (·.2))
  | _, _, .nil => .nil
  | _, _, .cons a r => .cons a (each_snd r)
theorem each_zip {g : Gh} {F : Hp} : ∀ {vs : List V} {ds ks : List PX.D} {us : List Value}, RepA g F vs ds → Vals vs us → ks.length = ds.length → PySem.W.EachIs (fun u (p : PX.D × PX.D) => RU g F u p.2) us (ks.zip ds)
  | _, _, ks, _, .nil, r, _ => by cases r; simp; exact .nil
  | _, _, ks, _, .cons x rs, r, h => by
    cases r with
    | cons ru rr =>
      cases ks with
      | nil => cases h
      | cons k ks => exact .cons ⟨_, ru, x⟩ (each_zip rs rr (by simpa using h))
section
variable {n : Cn} {W : WX} {F H : Hp} {σ : St} {en : En} {S : Stm}
theorem sortK_run (G : Good n W) (hh : n.c.hot = false) {f : Fid} {D : DefI} {fa : Addr} (hf : FnAt n f D fa) (hp : D.ps.length = 1) {pins : List (Addr × Obj)} {s : Shared} {pa : Addr} {va : List V} {ds ks : List PX.D} {Q : VK}
    (I : Inv n.X pins σ H s) (sr : SR n F σ H en S) (ha0 : H pa = some (.lst va)) (ra : RepA n.g F va ds) (hks : keysOf (n.c.call f) S ds = some ks) (so : sortOk (ks.map encD) = true)
    (p : Post n W σ F (RV n) (.ok (.own (.lst (((ks.zip ds).mergeSort (PySem.W.dataLe false fun p => encD p.1)).map (·.2)))) en S) Q) :
    wpAny (model n.X.prog n.X.w) n.X.A (call (.builtin "sorted") [.ref pa] [(Str.ofString "key", .ref fa)]) (EP n.X pins σ Q) n.X.xe s := by
  obtain ⟨its, rv, pl, hz⟩ := I.list (.of ha0)
  have lva : va.length = its.length := rv.length
  have lds : va.length = ds.length := ra.length
  have lks := keysOf_len hks
  obtain ⟨al, srt, dp, _⟩ := sortOk_inv so
  have hZ : its.length ≤ sizeLine := by rw [← lva]; exact hz
  refine PySem.W.sorted_of_sort pl.isList hZ (PyProof.Rows.ksk_s1 _ _) (fun _ => PyProof.Rows.ksk_l1 _ _) fun E' => ?_
  rw [PyProof.Rows.ksk_t1]
  obtain ⟨a, ea⟩ : ∃ a, a = s.heap.objs.size + 1 := ⟨_, rfl⟩
  rw [← ea]
  have ho : (PySem.W.copyHeap s.heap its).get? a = some (seqObj "list" its.toArray 0) := by rw [ea]; exact PySem.W.copyHeap_at _ _
  obtain ⟨e1, ho1⟩ : ∃ e1, ((PySem.W.copyHeap s.heap its).update a (Obj.mapSeq fun _ => (#[] : Array Value))).get? a = some (seqObj "list" #[] e1) := ⟨_, get?_update_seq ho fun _ => #[]⟩
  have sz : s.heap.objs.size ≤ a := by rw [ea]; exact Nat.le_succ _
  have k0 : ∀ b u, s.heap.get? b = some u → ((PySem.W.copyHeap s.heap its).update a (Obj.mapSeq fun _ => (#[] : Array Value))).get? b = some u := by
    intro b u hb
    have hne : b ≠ a := by
      rintro rfl
      exact absurd (Nat.lt_of_lt_of_le (Heap.lt_size hb) sz) (Nat.lt_irrefl _)
    exact ((Heap.SameBut.update (PySem.W.copyHeap s.heap its) a (Obj.mapSeq fun _ => (#[] : Array Value))).2 b hne).trans (PySem.W.copyHeap_old hb)
  unfold PyProof.Rows.ksk_tree
  refine wpAny_bind (listItems_at ho rfl ?_)
  refine wpAny_bind (listUpdate_at ho rfl ?_ (by rw [List.size_toArray]; exact hZ) (Nat.zero_le _))
  refine wpAny_bind (seqEpoch_at ho1 rfl ?_)
  refine wpAny_bind (wpAny_newTuple ?_ (by show its.length ≤ _; exact hZ))
  refine wpAny_bind (wpAny_newList ?_ (Nat.zero_le _))
  refine wpAny_holding ?_
  obtain ⟨h1, eh1⟩ : ∃ h1, h1 = ((PySem.W.copyHeap s.heap its).update a (Obj.mapSeq fun _ => (#[] : Array Value))).push (seqObj "tuple" its.toArray 0) := ⟨_, rfl⟩
  have k1 : ∀ b u, s.heap.get? b = some u → h1.get? b = some u := fun b u hb => by rw [eh1]; exact Heap.get?_push_of_some _ (k0 b u hb)
  have ho2 : h1.get? a = some (seqObj "list" #[] e1) := by rw [eh1]; exact Heap.get?_push_of_some _ ho1
  have I1 : Inv n.X pins σ (upd H a (xL a #[] e1)) { s with heap := h1 } := I.laid (t' := s.toks) k1 sz (xL_ok ho2)
  obtain ⟨kS, ek⟩ : ∃ kS, kS = h1.objs.size := ⟨_, rfl⟩
  have hka : kS ≠ a := by
    have := Heap.lt_size ho2
    rw [ek]
    intro z
    rw [z] at this
    exact absurd this (Nat.lt_irrefl _)
  have nk1 : (h1.push (seqObj "list" #[] 0)).get? kS = some (seqObj "list" #[] 0) := by rw [ek]; exact Heap.get?_push_size _ rfl
  have I2 : Inv n.X pins σ (upd (upd H a (xL a #[] e1)) kS (xL kS #[] 0)) { s with heap := h1.push (seqObj "list" #[] 0) } := I1.laid (t' := s.toks) (fun b u hb => Heap.get?_push_of_some _ hb) (by rw [ek]; exact Nat.le_refl _) (xL_ok nk1)
  have na : NewAt n.X pins a := newAt I sz
  have nk : NewAt n.X pins kS := newAt I1 (by rw [ek]; exact Nat.le_refl _)
  have fra : H a = none := I.hok.fresh sz
  have frk1 : upd H a (xL a #[] e1) kS = none := I1.hok.fresh (by rw [ek]; exact Nat.le_refl _)
  have frk : H kS = none := by rw [upd_ne hka] at frk1; exact frk1
  have noneF : ∀ b, H b = none → F b = none := fun b hb => by
    cases q : F b with
    | none => rfl
    | some o => rw [sr.sub _ _ q] at hb; cases hb
  have noneB : ∀ b, H b = none → n.B b = none := fun b hb => by
    cases q : n.B b with
    | none => rfl
    | some o => rw [sr.base _ _ q] at hb; cases hb
  have noC : ∀ b, H b = none → b ∉ n.cells H := fun b hb hc => by
    obtain ⟨u, hu⟩ := sr.there b hc
    rw [hb] at hu; cases hu
  have own : ∀ (j : Nat) (o : O) (q : Addr), en[j]? = some (.own o) → σ[j]? = some (some (.ref q)) → q ≠ a ∧ q ≠ kS := by
    intro j o q h1 h2
    obtain ⟨q', hq', _, _, _, ow⟩ := sr.at_own h1
    rw [h2] at hq'; injection hq' with hq'; injection hq' with hq'; injection hq' with hq'; subst hq'
    obtain ⟨u, hu⟩ := ow.some
    constructor
    · rintro rfl; rw [fra] at hu; cases hu
    · rintro rfl; rw [frk] at hu; cases hu
  have g1 : Grow F H F (upd H a (xL a #[] e1)) := Grow.own sr.sub fra
  have sr1 := sr.grow g1
  have g2 : Grow F (upd H a (xL a #[] e1)) F (upd (upd H a (xL a #[] e1)) kS (xL kS #[] 0)) := Grow.own sr1.sub frk1
  have sr2 := sr1.grow g2
  have K0 : KI n pins σ en S F a kS e1 [] { s with heap := h1.push (seqObj "list" #[] 0) } (upd (upd H a (xL a #[] e1)) kS (xL kS #[] 0)) F #[] 0 [] := by
    refine ⟨I2, sr2, .refl, by rw [upd_ne hka.symm, upd_same], upd_same, .nil, .nil, noneF _ fra, noneF _ frk, ?_, ?_⟩
    · rw [sr1.cgrow g2.hh, sr.cgrow g1.hh]; exact noC _ fra
    · rw [sr1.cgrow g2.hh, sr.cgrow g1.hh]; exact noC _ frk
  show wpAny _ _ (PyProof.Rows.ksk_rest a (.ref fa) false its.toArray e1 (.ref (((PySem.W.copyHeap s.heap its).update a (Obj.mapSeq fun _ => (#[] : Array Value))).push (seqObj "tuple" its.toArray 0)).objs.size)) _ _
    { s with heap := (((PySem.W.copyHeap s.heap its).update a (Obj.mapSeq fun _ => (#[] : Array Value))).push (seqObj "tuple" its.toArray 0)).push (seqObj "list" #[] 0) }
  rw [← eh1, ← ek]
  unfold PyProof.Rows.ksk_rest
  refine wpAny_bind (wpAny_rule ?_)
  first
    | rw [List.forIn_toArray]
    | (rw [← Array.forIn_toList]; simp only [List.toList_toArray])
  refine wpAny_bind (PyProof.Rows.ksk_fold (fun i s' => ∃ H' F' kA e kv, KI n pins σ en S F a kS e1 (ks.take i) s' H' F' kA e kv) its 0 _ ⟨_, _, _, _, _, K0⟩ ?step ?done)
  case step =>
    rintro j u s' hu ⟨H', F', kA, e, kv, K⟩
    simp only [Nat.zero_add] at K ⊢
    have hj : j < its.length := (List.getElem?_eq_some_iff.mp hu).1
    obtain ⟨v, hv⟩ : ∃ v, va[j]? = some v := ⟨_, List.getElem?_eq_getElem (by omega)⟩
    obtain ⟨u', hu', ru⟩ := rv.get hv
    rw [hu] at hu'; injection hu' with hu'; subst hu'
    obtain ⟨d, hd, rd⟩ := ra.get' hv
    obtain ⟨k, hkj⟩ : ∃ k, ks[j]? = some k := ⟨_, List.getElem?_eq_getElem (by omega)⟩
    have lkv : kA.size = j := by
      have h1 := K.rv.length
      have h2 := K.ra.length
      rw [List.length_take] at h2
      have h3 : kA.toList.length = kA.size := Array.length_toList
      rw [h3] at h1
      omega
    refine wpAny_bind (wpAny_attempt (wpAny_mono (key_call G hh hf hp K ru rd (keysOf_at hks j d k hd hkj)) (fun z s'' hz2 => ?_) fun _ _ hF => hF.elim))
    obtain ⟨H2, F2, zv, K2, rz, rk⟩ := hz2
    try dsimp only
    have nk2 := xL_get K2.inv K2.hk
    have s1 := Heap.SameBut.update s''.heap kS (Obj.mapSeq (·.push z))
    obtain ⟨c2, hc2⟩ : ∃ c2, (s''.heap.update kS (Obj.mapSeq (·.push z))).get? kS = some (seqObj "list" (kA.push z) c2) := ⟨_, get?_update_seq nk2 (·.push z)⟩
    refine wpAny_bind (listUpdate_at nk2 rfl ?_ (by omega) (by rw [Array.size_push]; omega))
    obtain ⟨sr3, ce⟩ := K2.sr.other (k := kS) (H' := upd H2 kS (xL kS (kA.push z) c2)) (fun b hb => upd_ne hb) K2.fk (noneB _ frk) K2.ck (fun vfs h => xL_no K2.hk h fun φ z => by cases z) (fun j o q h1 h2 => (own j o q h1 h2).2)
    refine wpAny_pure ⟨rfl, upd H2 kS (xL kS (kA.push z) c2), F2, kA.push z, c2, kv ++ [zv], ?_⟩
    refine ⟨K2.inv.write (t' := s''.toks) (by rw [K2.hk]; trivial) (.inl rfl) (fun b u hb hu => (s1.2 b hb).trans hu) ⟨_, hc2⟩ (xL_ok hc2), sr3, K2.ff, by rw [upd_ne hka.symm]; exact K2.ha, upd_same, ?_, ?_, K2.fa, K2.fk, by rw [ce]; exact K2.ca, by rw [ce]; exact K2.ck⟩
    · rw [Array.toList_push]; exact K2.rv.append (.cons rz .nil)
    · have e2 : ks.take (j + 1) = ks.take j ++ [k] := by rw [List.take_add_one, hkj]; simp
      rw [e2]
      exact K2.ra.append (.cons rk .nil)
  case done =>
    rintro s'' ⟨H', F', kA, e, kv, K⟩
    have et : ks.take (0 + its.length) = ks := List.take_of_length_le (by omega)
    rw [et] at K
    have lkv : kA.size = its.length := by
      have h1 := K.rv.length
      have h2 := K.ra.length
      have h3 : kA.toList.length = kA.size := Array.length_toList
      rw [h3] at h1
      omega
    refine wpAny_bind (listItems_at (xL_get K.inv K.hk) rfl ?_)
    obtain ⟨Gr, q1, q2⟩ := restrict s''.heap fun b => decide (b ≠ kS)
    have hG : ∀ b, b ≠ kS → Gr.get? b = s''.heap.get? b := fun b hb => q1 b (decide_eq_true hb)
    have hGk : Gr.get? kS = none := q2 kS (decide_eq_false fun z => z rfl)
    have kp : PySem.W.KeepsBut a Gr s''.heap := fun b o hb h3 => by
      by_cases z : b = kS
      · rw [z, hGk] at h3; cases h3
      · rw [← hG b z]; exact h3
    have rds : PySem.W.EachIs (fun u k => ∃ as, Reads s''.heap u k as) kA.toList (ks.map encD) :=
      PySem.W.each_map (R := fun u k => ∃ as, Reads s''.heap u k as) encD (each_reads K.inv.hok K.sr.sub K.ra K.rv fun d hd => al _ (List.mem_map_of_mem hd) _ (List.mem_map_of_mem hd))
    have bm : (ks.zip ds).map (fun p : PX.D × PX.D => encD p.1) = ks.map encD := by
      rw [show (fun p : PX.D × PX.D => encD p.1) = encD ∘ Prod.fst from rfl, ← List.map_map, List.map_fst_zip (by omega)]
    have ko : PySem.W.KeyedOut false ((ks.zip ds).map fun p : PX.D × PX.D => encD p.1) its (PySem.W.sortVals (PySem.W.dataKind s''.heap (ks.map encD)) false kA.toList its) := by
      rw [bm]; exact ⟨s''.heap, kA.toList, al, rfl, rds⟩
    have oe := PySem.W.keyedOut_each (R := fun u (p : PX.D × PX.D) => RU n.g F' u p.2) (fun p : PX.D × PX.D => encD p.1) ko (each_zip (ra.mono K.ff) rv (by omega))
    obtain ⟨ov, rvo, rao⟩ := ru_each (each_snd oe)
    have lo := ko.length (by rw [List.length_map, List.length_zip]; omega)
    have hl : ov.length ≤ sizeLine := by rw [rvo.length, lo]; exact hZ
    refine PySem.W.keyH_end (κ := PySem.W.dataKind s''.heap (ks.map encD)) (h₁ := Gr) kp hGk (xL_get K.inv K.hk) (xL_get K.inv K.ha) hka (PySem.W.SortsAt.data rds al srt ?_) lkv hZ fun h3 tk3 c k3 n3 => ⟨rfl, ?_⟩
    · intro d hd
      have h1 := dp d hd
      have h2 := G.units
      show n.X.A.units + 1 + 1 + _ < _
      omega
    · have IF := sort_end (tk := tk3) K.inv K.ha K.hk hka na nk hG k3 n3 rvo hl
      obtain ⟨srA, ceA⟩ := K.sr.other (k := kS) (H' := del H' kS) (fun b hb => del_ne hb) K.fk (noneB _ frk) K.ck (fun vfs h => xL_no K.hk h fun φ z => by cases z) (fun j o q h1 h2 => (own j o q h1 h2).2)
      obtain ⟨srB, ceB⟩ := srA.other (k := a) (H' := upd (del H' kS) a (.lst ov)) (fun b hb => upd_ne hb) K.fa (noneB _ fra) (by rw [ceA]; exact K.ca) (fun vfs h => xL_no (H := del H' kS) (by rw [del_ne hka.symm]; exact K.ha) h fun φ z => by cases z) (fun j o q h1 h2 => (own j o q h1 h2).1)
      refine ⟨.ref a, _, IF, rfl, p (.ref a) _ F' K.ff srB ?_⟩
      exact .own K.fa (noneB _ fra) (by rw [ceB, ceA]; exact K.ca) (.lst upd_same rao) fun i o' h1 h2 => (own i o' a h1 h2).1 rfl
end
section
variable {ev : EC → Expr → En → Stm → Out OV} (ih : IH ev) {n : Cn} {W : WX} (G : Good n W)
theorem keyFn_inv {c : EC} {k : Keyword} {g : Str} (h : keyFn c k = some g) : ∃ p kp D, k = ⟨some (Str.ofString "key"), .Name g p, kp⟩ ∧ c.slot g = none ∧ c.gl g = true ∧ lkF c.T.defs (g, none) = some D ∧ D.ps.length = 1 ∧ ∃ q, lkG c.T.glob g = some q := by
  unfold keyFn at h
  split at h
  case h_2 => cases h
  rename_i x g' p hx hv
  split at h
  case isFalse => cases h
  rename_i c1
  split at h
  case h_2 => cases h
  rename_i D hD
  split at h
  case isFalse => cases h
  rename_i c2
  injection h with h; subst h
  obtain ⟨a, v, kp⟩ := k
  simp only at hx hv
  subst hx hv
  have e : x = Str.ofString "key" := by simpa [isN] using c1.1
  subst e
  exact ⟨p, kp, D, rfl, by simpa using c1.2.1, c1.2.2, hD, c2.1, Option.isSome_iff_exists.mp c2.2⟩
include ih G
theorem s_sortK {f : Str} (hf : bk f = .sorted) (hb : n.c.blt f = true) {e : Expr} {k : Keyword} {pos p1 : Pos} (hs : noStar [e] = true) : SE n W (.Call (.Name f p1) [e] [k] pos) (bltK ev n.c f e k) := by
  have hm := bk_mem hf (by decide)
  obtain ⟨hn, hd⟩ := boot_ok _ hm
  have ef : f = Str.ofString "sorted" := by simpa [bkTab] using hm
  subst ef
  cases hk : keyFn n.c k with
  | none => exact pe_never' (tM_bad fun en S => by unfold bltK; rw [hf]; simp only [hk])
  | some g =>
    by_cases hh : n.c.hot = false
    case neg => exact pe_never' (tM_bad fun en S => by unfold bltK; rw [hf]; simp only [hk]; rw [if_neg hh])
    have e0 : ∀ en S, bltK ev n.c (Str.ofString "sorted") e k en S = sortedK ev n.c e g en S := by
      intro en S; unfold bltK; rw [hf]; simp only [hk]; rw [if_pos hh]
    obtain ⟨pp, kp, D, rfl, hs0, hgl, hD, hp, q, hq⟩ := keyFn_inv hk
    obtain ⟨a, hFat, hfn⟩ := G.fns _ _ hD
    have mga : n.X.mg g = some (.ref a) := hFat
    obtain ⟨hg, hmg⟩ := blt_facts ih G hb
    have h1 : isStar e = false := no_star1 ih G hs
    refine ⟨fun pins s σ H Q I ⟨en, S, F, sr, p⟩ => ?_⟩
    rw [e0] at p
    refine wpAny_Call_Name_kw (ld_blt I hg hmg (by rfl) ?_ hn hd)
    have pa : PA n.X [e] (tCons (tM n W (RO n) (evB ev n.c e)) tNil) := pa_cons (s_B ih G e) pa_nil (star_cons ih G h1)
    have pe : PE n.X (.Name g pp) (fun σ H Q => Q (.ref a) H) := ⟨fun pins s σ H Q I q => ld_glob I (gl_of G hgl) mga ⟨.ref a, H, I, rfl, q⟩ (nodbg G hq)⟩
    have pk : PK n.X [⟨some (Str.ofString "key"), .Name g pp, kp⟩] (tCons (fun σ H Q => Q (.ref a) H) tNil) := pk_cons pe pk_nil
    have hpa : tCons (tM n W (RO n) (evB ev n.c e)) tNil σ H (fun vs H1 => ∃ x F1 d en1 S1, vs = [x] ∧ SR n F1 σ H1 en1 S1 ∧ RX n.g F1 H1 x d ∧ Post n W σ F1 (RV n) ((match d with
        | .lst xs => (match keysOf (n.c.call (g, none)) S1 xs with
          | some ks => lift (sortKX ks xs) en1 S1
          | none => .bad)
        | _ => .bad : Out OV)) Q) := by
      refine op1 ih G (k := fun d en S => match d with
        | .lst xs => (match keysOf (n.c.call (g, none)) S xs with
          | some ks => lift (sortKX ks xs) en S
          | none => .bad)
        | _ => .bad) ⟨en, S, F, sr, p⟩ ?_
      intro F1 d x H1 en1 S1 sr1 rx p1
      exact ⟨x, F1, d, en1, S1, rfl, sr1, rx, p1⟩
    refine PyProof.Rows.callWith_kw (thn (pa.run pos pins s σ H _ I hpa) fun us s1 hu => ?_) (by rw [star_cons ih G h1] <;> rfl) (by rw [star_any ih G hs]) (by rfl) (by rfl)
    obtain ⟨vs, H1, I1, r1, x, F1, d, en1, S1, rfl, sr1, rx, p1⟩ := hu
    refine thn (pk.run pos pins s1 σ H1 (fun zs H2 => zs = [.ref a] ∧ H2 = H1) I1 ⟨rfl, rfl⟩) fun ws s2 hw => ?_
    obtain ⟨zs, H2, I2, r2, rfl, rfl⟩ := hw
    obtain ⟨w1, rfl, rw1⟩ := vals1 r2
    obtain ⟨u1, rfl, ru1⟩ := vals1 r1
    cases (show w1 = Value.ref a from rw1)
    cases d with
    | lst ds =>
      simp only at p1
      cases hks : keysOf (n.c.call (g, none)) S1 ds with
      | none => rw [hks] at p1; exact p1.elim
      | some ks =>
        rw [hks] at p1
        have p1 : Post n W σ F1 (RV n) (lift (sortKX ks ds) en1 S1) Q := p1
        by_cases so : sortOk (ks.map encD) = true
        case neg =>
          have : sortKX ks ds = none := by unfold sortKX; rw [if_neg so]
          rw [this] at p1; exact p1.elim
        have es : sortKX ks ds = some (.own (.lst (((ks.zip ds).mergeSort (PySem.W.dataLe false fun p => encD p.1)).map (·.2)))) := by unfold sortKX; rw [if_pos so]
        rw [es] at p1
        obtain ⟨pa', va, rfl, ha0, ra⟩ := rx.lst_inv sr1.sub
        cases (show u1 = Value.ref pa' from ru1)
        exact sortK_run G hh hfn hp I2 sr1 ha0 ra hks so p1
    | _ => exact p1.elim
end
end PX

set_option Elab.async false
set_option linter.all false
set_option maxRecDepth 100000
namespace PX
open PySem PySem.Spec L2
open PyProof.Rows hiding St

theorem tyX_of {K : PySem.W.Frag} {g : Gh} {F H : Hp} {v : V} {d : D} {a : String} (sb : Sub F H) (r : RX g F H v d) (e : tyN d = some a) : TyX K H v (.type a) := by
  cases d with
  | non => injection e with e; subst e; cases r.non_inv; exact .base .non
  | bl b => injection e with e; subst e; cases r.bl_inv; exact .base (.bl b)
  | int i => injection e with e; subst e; cases r.int_inv; exact .base (.int i)
  | str z => injection e with e; subst e; cases r.str_inv; exact .base (.str z)
  | lst xs => injection e with e; subst e; obtain ⟨a, vs, rfl, h, _⟩ := r.lst_inv sb; exact .base (.lst h)
  | tup xs => injection e with e; subst e; obtain ⟨a, vs, rfl, h, _⟩ := r.tup_inv; exact .base (.tup (sb _ _ h))
  | _ => cases e
def isNames : List String := ["int", "bool", "str", "tuple", "list", "dict"]
def kitT (a b : String) : Bool := if b = "int" then decide (a = "int") || decide (a = "bool") else decide (a = b)
theorem kit_tab : ∀ a ∈ ["NoneType", "bool", "int", "str", "list", "tuple", "dict"], ∀ b ∈ isNames, kitB a b = some (kitT a b) := by
  decide +kernel
theorem boot_is : ∀ b ∈ isNames, bootBuiltins (Str.ofString b) = some (.type b) ∧ Str.ofString b ≠ Str.ofString "__name__" ∧ (Str.ofString b == ("__debug__" : Str)) = false := by
  intro b hb
  simp only [isNames, List.mem_cons, List.not_mem_nil, or_false] at hb
  rcases hb with rfl | rfl | rfl | rfl | rfl | rfl <;> exact ⟨by rfl, by decide, by decide⟩
theorem isTyp_name {d : D} {x : Str} {r : Bool} (h : isTyp d x = some r) : ∃ b ∈ isNames, x = Str.ofString b ∧ (∀ a, tyN d = some a → kitT a b = r) ∧ (isDct d = true → kitT "dict" b = r) := by
  unfold isTyp at h
  split at h
  case isFalse => cases h
  unfold isTyp0 at h
  split at h
  · rename_i c; simp only [isN, decide_eq_true_eq] at c
    injection h with h; subst h
    exact ⟨"int", by decide, c, (by cases d <;> intro a e <;> first | cases e; rfl | cases e), (by cases d <;> intro e <;> first | rfl | cases e)⟩
  split at h
  · rename_i c; simp only [isN, decide_eq_true_eq] at c
    injection h with h; subst h
    exact ⟨"bool", by decide, c, (by cases d <;> intro a e <;> first | cases e; rfl | cases e), (by cases d <;> intro e <;> first | rfl | cases e)⟩
  split at h
  · rename_i c; simp only [isN, decide_eq_true_eq] at c
    injection h with h; subst h
    exact ⟨"str", by decide, c, (by cases d <;> intro a e <;> first | cases e; rfl | cases e), (by cases d <;> intro e <;> first | rfl | cases e)⟩
  split at h
  · rename_i c; simp only [isN, decide_eq_true_eq] at c
    injection h with h; subst h
    exact ⟨"tuple", by decide, c, (by cases d <;> intro a e <;> first | cases e; rfl | cases e), (by cases d <;> intro e <;> first | rfl | cases e)⟩
  split at h
  · rename_i c; simp only [isN, decide_eq_true_eq] at c
    injection h with h; subst h
    exact ⟨"list", by decide, c, (by cases d <;> intro a e <;> first | cases e; rfl | cases e), (by cases d <;> intro e <;> first | rfl | cases e)⟩
  split at h
  · rename_i c; simp only [isN, decide_eq_true_eq] at c
    injection h with h; subst h
    exact ⟨"dict", by decide, c, (by cases d <;> intro a e <;> first | cases e; rfl | cases e), (by cases d <;> intro e <;> first | rfl | cases e)⟩
  · cases h
/-- a dict's own record -/
def rIsiD (K : PySem.W.Frag) : List V → Hp → VK → Prop := fun xs H Q => ∃ (a : Addr) (es : List (Int × V × V)) (ep : Nat) (b : String) (r : Bool), xs = [.ref a, .ty b] ∧ H a = some (dO a es ep) ∧ PySem.W.kitOne K (.type "dict") (.type b) = some r ∧ Q (.bl r) H
theorem call_isiD {X : Cx} : CallR X (.builtin "isinstance") (rIsiD X.K) := by
  intro pins s σ H xs us Q I r h
  obtain ⟨a, es, ep, b, k, rfl, ha, e, q⟩ := h
  obtain ⟨u1, u2, rfl, r1, r2⟩ := vals2 r
  cases (show u1 = Value.ref a from r1)
  cases (show u2 = Value.type b from r2)
  obtain ⟨_, _, o, arr, ho, ex, _⟩ := (I.hok a _ ha).1
  exact PySem.W.kia_one PySem.W.kitx_dict I.kIn ⟨o, ho, ex.1⟩ e (fun z => nomatch z) fun tk => ⟨.bl k, H, I.tok tk, rfl, q⟩
theorem excAt_some {c : EC} {o : Expr} {en : En} {C : D} {fs : List (Str × D)} (h : excAt c o en = some (C, fs)) : ∃ x px i, o = .Name x px ∧ c.slot x = some i ∧ en[i]? = some (.exc C fs) := by
  unfold excAt at h
  cases o with
  | Name x px =>
    simp only [asName, Option.bind_some] at h
    cases q : c.slot x with
    | none => rw [q] at h; cases h
    | some i =>
      rw [q] at h
      simp only [Option.bind_some] at h
      split at h
      · rename_i e
        injection h with h; injection h with h1 h2; subst h1 h2
        exact ⟨x, px, i, rfl, q, e⟩
      · cases h
  | _ => cases h
/-- isinstance where the answer is True by the classes alone (the row of kit_ans for True) -/
theorem kit_ansT {K : PySem.W.Frag} {x t c : Value} {P : Heap → Prop} (ty : ∀ (M : Model) (h : Heap), K.In h → P h → PySem.W.Looks M h (typeOf x) t) (e : PySem.W.kitOne K t c = some true) : Answers (fun s => K.In s.heap ∧ P s.heap) x c true := by
  intro dep tk prog w A R s hs
  obtain ⟨h0, g, d, tt, os⟩ := s
  obtain ⟨⟨X, p⟩, hq⟩ := hs
  have LT := ty (model prog w) h0 X p
  unfold PySem.W.kitOne at e
  unfold Builtin.«isinstance.nested»
  refine wpAny_bind (LT.at ?_)
  by_cases q : (t == c) = true
  · rw [if_pos q]
    first
      | exact wpAny_bind (wpAny_rule (hq tt))
      | exact wpAny_bind (wpAny_rule (wpAny_pure (hq tt)))
  · rw [if_neg q] at e
    rw [if_neg q]
    obtain ⟨hty, his, hsub⟩ := PySem.W.kit_cls (M := model prog w) X e
    have LI : PySem.W.Looks (model prog w) h0 (isInstance x c) true := LT.andThen hsub
    refine wpAny_bind (hty.at ?_)
    rw [if_pos (by decide)]
    k_delta "plainIsInstance"
    refine wpAny_bind (wpAny_bind (his.at ?_))
    simp only [Bool.not_true, Bool.false_eq_true, if_false]
    refine wpAny_bind (LI.at ?_)
    first
      | exact wpAny_pure (wpAny_pure (hq tt))
      | (simp only [if_true]; first | exact wpAny_pure (wpAny_pure (hq tt)) | exact wpAny_pure (hq tt) | exact wpAny_bind (wpAny_pure (wpAny_pure (hq tt))))
/-- isinstance(e, c), e the exception that the suite holds, c a class above its own -/
def rIsT (K : PySem.W.Frag) (cls : Value) (a : Addr) : List V → Hp → VK → Prop := fun xs H Q => ∃ (c : V) (cv : Value), xs = [.ref a, c] ∧ (∀ u, RelV c u → u = cv) ∧ PySem.W.kitOne K cls cv = some true ∧ Q (.bl true) H
theorem call_isT {X : Cx} {a : Addr} {cls : Value} {d : Option Addr} {oe : Obj} {pn : List (Addr × Obj)} (hz : Zc cls d oe) : CallR (X.suite a ((a, oe) :: pn)) (.builtin "isinstance") (rIsT X.K cls a) := by
  intro pins s σ H xs us Q I r h
  obtain ⟨c, cv, rfl, hcv, e, q⟩ := h
  cases r with
  | cons rx rr =>
    cases rr with
    | cons rt rr =>
      cases rr
      cases rx
      have ec := hcv _ rt
      subst ec
      obtain ⟨hget, _⟩ := I.pin (a, oe) (List.mem_append.mpr (.inl List.mem_cons_self))
      have ty : ∀ (M : Model) (h : Heap), X.K.In h → h.get? a = some oe → PySem.W.Looks M h (typeOf (.ref a)) cls := fun M h _ he A Q E s k q => wpAny_typeOf_ref (k _ _ he) (by rw [hz.1]; exact q)
      exact call_isinstance (S := fun _ R s => (X.K.In s.heap ∧ s.heap.get? a = some oe) ∧ ∀ tk, R (.ok (.ret (.bool true))) { s with toks := tk })
        (fun prog w A R s hs => isinstance_outer (kit_ansT (P := fun h => h.get? a = some oe) ty e 0 _ prog w A R s hs) (fun z => nomatch z)) ⟨⟨I.kIn, hget⟩, fun tk => ⟨.bl true, H, I.kept (t' := tk) fun _ _ z => z, rfl, q⟩⟩
theorem tyN_mem {d : D} {a : String} (h : tyN d = some a) : a ∈ ["NoneType", "bool", "int", "str", "list", "tuple", "dict"] := by
  cases d <;> first | (injection h with h; subst h; decide) | cases h
section
variable {ev : EC → Expr → En → Stm → Out OV} (ih : IH ev) {n : Cn} {W : WX} (G : Good n W)
include ih G
theorem s_isB {f : Str} (hf : bk f = .isinstance) (hb : n.c.blt f = true) {e : Expr} {x : Str} {pos p1 p2 : Pos} (hs : isStar e = false) (hx : n.c.blt x = true) (hbx : ∃ b ∈ isNames, x = Str.ofString b) :
    SE n W (.Call (.Name f p1) [e, .Name x p2] [] pos) (fun en S => (evD ev n.c e en S).bind fun d en S => (lift (isTyp d x) en S).bind fun b en S => .ok (.val (.bl b)) en S) := by
  have hm := bk_mem hf (by decide)
  obtain ⟨hn, hd⟩ := boot_ok _ hm
  have ef : f = Str.ofString "isinstance" := by simpa [bkTab] using hm
  subst ef
  obtain ⟨b, hbn, rfl⟩ := hbx
  obtain ⟨h1, h2, h3⟩ := boot_is b hbn
  obtain ⟨hg, hm0⟩ := blt_facts ih G hb
  obtain ⟨hgx, hmx⟩ := blt_facts ih G hx
  have pt : PE n.X (.Name (Str.ofString b) p2) (tC (.ty b)) := pe_bltn hgx hmx h1 rfl h2 h3
  refine PE.imp (pe_callB (call_isi.or call_isiD) hg hm0 (by rfl) (pa_cons (s_B ih G e) (pa_cons pt pa_nil rfl) (star_cons ih G hs)) hn hd (star_cons ih G hs) rfl) ?_
  intro σ H Q h
  refine op1 ih G h ?_
  intro F d v H1 en S sr rx p
  unfold lift at p
  cases q : isTyp d (Str.ofString b) with
  | none => rw [q] at p; exact p.elim
  | some r =>
    rw [q] at p
    obtain ⟨b', hb', e', k⟩ := isTyp_name q
    have eb : b' = b := by
      have : Str.ofString b = Str.ofString b' := e'
      simp only [isNames, List.mem_cons, List.not_mem_nil, or_false] at hbn hb'
      rcases hbn with rfl | rfl | rfl | rfl | rfl | rfl <;> rcases hb' with rfl | rfl | rfl | rfl | rfl | rfl <;> first | rfl | exact absurd this (by decide)
    subst eb
    cases ht : tyN d with
    | none =>
      have hd : isDct d = true := by
        unfold isTyp at q; rw [ht] at q
        cases h : isDct d with
        | true => rfl
        | false => rw [h] at q; cases q
      cases d with
      | dct kvs =>
        obtain ⟨pa, es, ep, rfl, hpa, _⟩ := rx.dct_inv sr.sub
        refine .inr ⟨pa, es, ep, b', r, rfl, hpa, ?_, p _ _ _ .refl sr (.val (.bl r))⟩
        rw [← k.2 rfl]
        exact kit_ty (kit_tab "dict" (by decide) b' hb')
      | _ => cases hd
    | some a =>
      refine .inl ⟨v, .ty b', .type a, .type b', r, rfl, .ty b', tyX_of sr.sub rx ht, ?_, p _ _ _ .refl sr (.val (.bl r))⟩
      rw [← k.1 a ht]
      exact kit_ty (kit_tab a (tyN_mem ht) b' hb')
theorem s_isE {f : Str} (hf : bk f = .isinstance) (hb : n.c.blt f = true) {e : Expr} {x : Str} {pos p1 p2 : Pos} (hse : isStar e = false) {C : Str} {fs : List (Str × PX.D)} {en : En} {S : Stm} {F H : Hp} {σ : St} {s : Shared} {pins : List (Addr × Obj)} {Q : VK}
    (I : Inv n.X pins σ H s) (sr : SR n F σ H en S) (hq : excAt n.c e en = some (.glo C, fs)) {ps qs : List Str} (hC : lkS n.c.T.excs C = some ps) (hD : lkS n.c.T.excs x = some qs) (hg : n.c.gl x = true) (sub : isSubOf n.c.T (.glo C) x = true) (q : Q (.bl true) H) :
    wpAny (model n.X.prog n.X.w) n.X.A (eval (.Call (.Name f p1) [e, .Name x p2] [] pos) n.X.env) (EP n.X pins σ Q) n.X.xe s := by
  obtain ⟨y, py, i, rfl, hs, he⟩ := excAt_some hq
  have hm := bk_mem hf (by decide)
  obtain ⟨hn, hd⟩ := boot_ok _ hm
  have ef : f = Str.ofString "isinstance" := by simpa [bkTab] using hm
  subst ef
  obtain ⟨hgf, hm0⟩ := blt_facts ih G hb
  have sl := sr.slot i _ he
  generalize hσ : σ[i]? = z at sl
  cases sl with
  | @exc a cls d0 _ _ hex hr =>
  cases hr with
  | @mk _ Ca dx vfs _ mC hdx rf =>
  obtain ⟨X0, oe, pn, hX, hz, hfd⟩ := G.exs _ _ _ hex
  obtain ⟨Da, mD, _⟩ := G.tb.exc x qs hD
  have mC' : n.X.mg C = some (.ref Ca) := by rw [← G.mg]; exact mC
  have exm := G.tb.exm C x ps qs hC hD _ _ mC' mD
  rw [sub] at exm
  have one : PySem.W.kitOne n.X.K (.ref Ca) (.ref Da) = some true := by
    unfold PySem.W.exmOne at exm
    split at exm
    · unfold PySem.W.kitOne
      split
      · rfl
      · exact exm
    · cases exm
  have db : (x == ("__debug__" : Str)) = false := by
    cases q : (x == ("__debug__" : Str)) with
    | false => rfl
    | true => rw [(G.tb.dbg x (eq_of_beq q)).2.2] at hD; cases hD
  have pe1 := pe_slot G hs (pos := py)
  have pt : PE n.X (.Name x p2) (tC (.ref Da)) := pe_glob (gl_of G hg) mD rfl db
  have hc : CallR n.X (.builtin "isinstance") (rIsT n.X.K (.ref Ca) a) := by
    rw [hX]
    exact call_isT hz
  have P := pe_callB (p := p1) (pos := pos) hc hgf hm0 (by rfl) (pa_cons pe1 (pa_cons pt pa_nil rfl) rfl) hn hd rfl rfl
  refine P.run pins s σ H Q I ?_
  exact ⟨_, hσ, .ref Da, .ref Da, rfl, fun u r => r, one, q⟩
theorem s_isinst {f : Str} (hf : bk f = .isinstance) (hb : n.c.blt f = true) {e t : Expr} {pos p1 : Pos} (hs : noStar [e, t] = true) : SE n W (.Call (.Name f p1) [e, t] [] pos) (isinst ev n.c e t) := by
  have hse : isStar e = false := by
    simp only [noStar, List.all_cons, Bool.and_eq_true, Bool.not_eq_true'] at hs
    exact hs.1
  cases t with
  | Name x p2 =>
    refine ⟨fun pins s σ H Q I ⟨en, S, F, sr, p⟩ => ?_⟩
    simp only [isinst, asName] at p
    split at p
    case isFalse => exact p.elim
    rename_i hsx
    split at p
    · rename_i hx
      simp only [Bool.and_eq_true] at hx
      obtain ⟨h3, h1⟩ := hx
      cases hq : excAt n.c e en with
      | none => rw [hq] at p; exact p.elim
      | some q =>
        rw [hq] at p
        obtain ⟨C, fs⟩ := q
        cases C with
        | glo C =>
          simp only at p
          split at p
          case isFalse => exact p.elim
          rename_i hc
          obtain ⟨h2, h4⟩ := hc
          obtain ⟨ps, hC⟩ := Option.isSome_iff_exists.mp h2
          obtain ⟨qs, hD⟩ := Option.isSome_iff_exists.mp h3
          exact s_isE ih G hf hb hse I sr hq hC hD h1 h4 (p _ _ _ .refl sr (.val (.bl true)))
        | _ => exact p.elim
    cases hq : excAt n.c e en with
    | some q => rw [hq] at p; exact p.elim
    | none =>
      rw [hq] at p
      simp only at p
      by_cases hx : n.c.blt x = true ∧ x ∈ tyNames
      · rw [if_pos hx] at p
        have hbx : ∃ b ∈ isNames, x = Str.ofString b := by
          have h := hx.2
          simp only [tyNames, List.mem_cons, List.not_mem_nil, or_false] at h
          rcases h with h | h | h | h | h | h
          · exact ⟨"int", by decide, h⟩
          · exact ⟨"str", by decide, h⟩
          · exact ⟨"bool", by decide, h⟩
          · exact ⟨"tuple", by decide, h⟩
          · exact ⟨"list", by decide, h⟩
          · exact ⟨"dict", by decide, h⟩
        exact (s_isB ih G hf hb hse hx.1 hbx).run pins s σ H Q I ⟨en, S, F, sr, p⟩
      · rw [if_neg hx] at p
        exact p.elim
  | _ => exact pe_never' (tM_bad fun en S => rfl)
end
end PX

set_option Elab.async false
set_option linter.all false
set_option maxRecDepth 100000
set_option maxHeartbeats 4000000
/-! PxSet: set(xs) of a list of texts (following the library's set of a list of integers), its length. -/
namespace PX
open PySem PySem.Spec L2 PySem.W PySem.Calls
open PyProof.Rows hiding St

def preS (zs : List Str) (i : Nat) : List Str := (zs.take i).reverse
theorem preS_succ {zs : List Str} {i : Nat} {z : Str} (h : zs[i]? = some z) : preS zs (i + 1) = z :: preS zs i := by
  unfold preS
  rw [List.take_add_one, h, List.reverse_append] <;> rfl
theorem dedup_le : ∀ zs : List Str, (dedup zs).length ≤ zs.length
  | [] => Nat.le_refl _
  | z :: r => by
    unfold dedup
    have := dedup_le r
    split <;> simp <;> omega
theorem dedup_cons (z : Str) (r : List Str) : (dedup (z :: r)).length = if decide (z ∈ r) = true then (dedup r).length else (dedup r).length + 1 := by
  show (if z ∈ r then dedup r else z :: dedup r).length = _
  by_cases h : z ∈ r <;> simp [h]
section
variable {prog : Program} {w : World} {A : Around} {R : Result → Shared → Prop} {I : Addr} {fp wr : List Addr} {G : Array GenState → Array GenState → Prop} {n : Nat} {P : Nat → Value → Prop} {St : Nat → Shared → Prop}
theorem setLoop (W : WalksS prog w A.in1 I fp wr G n P St) (S : Addr) (hSf : S ∉ fp) (zs : List Str) (hval : ∀ i v, P i v → ∃ z t, zs[i]? = some z ∧ v = .str z t) (hz : zs.length = n) (hb : n + 1 < scanBound) :
    ∀ (k i : Nat) (s : Shared), n - i = k → i ≤ n → St i s →
      s.heap.SetOf (strKind prog w) S (fun k' => decide (k' ∈ preS zs i)) (dedup (preS zs i)).length →
      (∀ s', Moved (S :: wr) G s s' → s'.heap.SetOf (strKind prog w) S (fun k' => decide (k' ∈ preS zs n)) (dedup (preS zs n)).length → R (.ok (.ret .none)) s') →
      codeAny (model prog w) A (.builtin "set.update.loop" ⟨[.ref S, .ref I], []⟩) R s := by
  have hSw : S ∉ wr := fun h => hSf (W.sub _ h)
  have hsub : ∀ b ∈ wr, b ∈ S :: wr := fun b hb => List.mem_cons_of_mem _ hb
  intro k
  induction k with
  | zero =>
    intro i s hk hi hst hS hR
    have hin : i = n := by omega
    subst hin
    refine codeAny_builtin PyProof.Rows.F.entry_set_update_loop ?_
    rw [Around.under_plainId PyProof.Rows.F.plain_set_update_loop _]
    show wpAny _ A.in1 (pyNext (.ref I) >>= _) _ _ s
    refine wpAny_bind (W.done s _ _ hst fun s' hm => ?_)
    show wpAny _ A.in1 (ret Value.none) _ _ s'
    exact wpAny_pure (hR s' (hm.mono hsub) (by
      obtain ⟨o, es, ep, t, ho, rest⟩ := hS
      exact ⟨o, es, ep, t, hm.heap S _ hSw ho, rest⟩))
  | succ k ih =>
    intro i s hk hi hst hS hR
    have hlt : i < n := by omega
    refine codeAny_builtin PyProof.Rows.F.entry_set_update_loop ?_
    rw [Around.under_plainId PyProof.Rows.F.plain_set_update_loop _]
    show wpAny _ A.in1 (pyNext (.ref I) >>= _) _ _ s
    refine wpAny_bind (W.item i s _ _ hlt hst fun v s' hP hst' hm => ?_)
    obtain ⟨z, t, hzi, rfl⟩ := hval i v hP
    have hS' : s'.heap.SetOf (strKind prog w) S (fun k' => decide (k' ∈ preS zs i)) (dedup (preS zs i)).length := by
      obtain ⟨o, es, ep, tb, ho, rest⟩ := hS
      exact ⟨o, es, ep, tb, hm.heap S _ hSw ho, rest⟩
    show wpAny _ A.in1 (holding [Value.str z t] (setAdd S (.str z t)) >>= _) _ _ s'
    refine wpAny_bind (wpAny_holding ?_)
    unfold setAdd
    refine wpAny_holding ?_
    refine wpAny_bind ((strKind prog w).pyHash (k := z) (strKind_is _ _ _ _) ?_)
    have hroom : (dedup (preS zs i)).length + 1 < scanBound := by
      have h1 := dedup_le (preS zs i)
      have h2 : (preS zs i).length ≤ i := by unfold preS; rw [List.length_reverse, List.length_take]; omega
      omega
    refine wpAny_setAddHashed_of (knd := strKind prog w) (s := { s' with toks := s'.toks + 1 }) (strKind_is _ _ _ _) rfl hS' hroom fun h' hsb hS2 => ?_
    have hSi : h'.SetOf (strKind prog w) S (fun k' => decide (k' ∈ preS zs (i + 1))) (dedup (preS zs (i + 1))).length := by
      have e1 : (fun k' => decide (k' ∈ preS zs i) || decide (k' = z)) = fun k' => decide (k' ∈ preS zs (i + 1)) := by
        funext k'
        rw [preS_succ hzi]
        by_cases h : k' = z
        · subst h; simp
        · by_cases h2 : k' ∈ preS zs i <;> simp [h, h2]
      have e2 : (if decide (z ∈ preS zs i) = true then (dedup (preS zs i)).length else (dedup (preS zs i)).length + 1) = (dedup (preS zs (i + 1))).length := by
        rw [preS_succ hzi, dedup_cons]
      rw [← e1, ← e2]
      exact hS2
    refine wpAny_pure ⟨plainId_quiet PyProof.Rows.F.plain_set_update_loop _, ih (i + 1) _ (by omega) hlt (W.frame _ s' _ _ hst' (Nat.le_succ _) fun b hb o e => ?_) hSi fun s'' hm'' hS'' => ?_⟩
    · rw [hsb.2 b (fun h : b = S => hSf (by rw [← h]; exact hb))]; exact e
    · refine hR s'' (Moved.trans W.gtrans ((hm.mono hsub).then_heap (Nat.le_succ _) fun b o hb e => ?_) hm'') hS''
      rw [hsb.2 b (fun h : b = S => hb (by rw [h]; exact List.mem_cons_self))]; exact e
end
section
variable {prog : Program} {w : World} {A : Around} {E : Value → Shared → Prop} {s : Shared}
theorem call_set_strs {l : Addr} {items : Array Value} {zs : List Str} {Q : Value → Shared → Prop}
    (hh : A.handled = none) (hl : s.heap.IsList l items) (hi : ∀ (i : Nat) (v : Value), items[i]? = some v → ∃ z t, zs[i]? = some z ∧ v = .str z t) (hz : zs.length = items.size) (hb : items.size + 1 < scanBound)
    (h : ∀ (h' : Heap) (tk : Nat), h'.SetOf (strKind prog w) s.heap.objs.size (fun k' => decide (k' ∈ zs.reverse)) (dedup zs.reverse).length →
      (∀ b o, b < s.heap.objs.size → s.heap.get? b = some o → h'.get? b = some o) → Q (.ref s.heap.objs.size) { s with heap := h', toks := tk }) :
    wpAny (model prog w) A (call (.type "set") [.ref l]) Q E s := by
  obtain ⟨c, tl, hmro⟩ := F.called_set.mro
  have hmade := F.called_set.made
  have hsub := F.called_set.sub
  refine wpAny_call (codeAny_of_tree ?_)
  show wpAny _ _ (callAny (.type "set") _) _ _ _
  refine wpAny_pure ⟨Code.quiet_builtin _ (by decide +kernel), codeAny_builtin F.entry_type_call ?_⟩
  rw [Around.under_plain (weight_type_call_type "set" [.ref l] []) rfl]
  have h1 := F.called_set.notType
  have h2 := F.called_set.canCreate
  have hct := F.typeCall_set_1 (.ref l)
  repeat (any_goals (first | assumption | wp_step))
  refine codeAny_mono (code_set_new_1 (.ref l) (E := E) (Q₁ := fun obj s₁ => ∃ led : Bool, obj = .ref s.heap.objs.size ∧ s₁ = { s with heap := s.heap.push { cls := .type "set", dict := none, data := .set #[] 0 (.fresh 0 0 led) } }) fun led => ⟨led, rfl, rfl⟩) fun r s₁ hr => ?_
  cases r with
  | error e => exact hr
  | ok fl =>
    cases fl with
    | ret obj =>
      obtain ⟨led, rfl, rfl⟩ := hr
      have hS : (s.heap.push { cls := .type "set", dict := none, data := .set #[] 0 (.fresh 0 0 led) }).get? s.heap.objs.size = some { cls := .type "set", dict := none, data := .set #[] 0 (.fresh 0 0 led) } := Heap.get?_push_size _ rfl
      have hT : Shared.TypeIs { s with heap := s.heap.push { cls := .type "set", dict := none, data := .set #[] 0 (.fresh 0 0 led) } } (.ref s.heap.objs.size) "set" := ⟨_, hS, rfl⟩
      have hli := F.called_set.init.lookup
      have hbi := F.called_set.init.bind (.ref s.heap.objs.size)
      repeat (any_goals (first | assumption | wp_step))
      refine codeAny_mono (codeAny_call_builtin (R := wants (fun r s₂ => r = .none ∧ ∃ h' tk, s₂ = { s with heap := h', toks := tk } ∧
          h'.SetOf (strKind prog w) s.heap.objs.size (fun k' => decide (k' ∈ zs.reverse)) (dedup zs.reverse).length ∧
          (∀ b o, b < s.heap.objs.size → s.heap.get? b = some o → h'.get? b = some o)) E) F.called_set.init.plain F.entry_set_init (check_set_init_1 hT ?_)) fun r₂ s₂ hr₂ => ?_
      · obtain ⟨ol, hol, hcl, nl, hdl⟩ := hl
        obtain ⟨ocls, odict, odata, oslots⟩ := ol
        simp only at hcl hdl
        subst hcl; subst hdl
        have hol' : (s.heap.push { cls := .type "set", dict := none, data := .set #[] 0 (.fresh 0 0 led) }).get? l = some { cls := .type "list", dict := odict, data := .seq items nl, slots := oslots } := Heap.get?_push_of_some _ hol
        have hsls := F.sub_list_set
        have hslf := F.sub_list_frozenset
        have hne : (Value.type "list" == Value.type "dict") = false := by decide
        have hl1 : (s.heap.push { cls := .type "set", dict := none, data := .set #[] 0 (.fresh 0 0 led) }).IsList l items := ⟨_, hol', rfl, nl, rfl⟩
        unfold Builtin.«set.__init__» noKeywords Builtin.Frozenset.updateFrom
        generalize hPI : pyIter = PI
        wp_walk
        subst hPI
        refine wpAny_pyIter_list hl1 ?_
        refine wpAny_bind (wpAny_runValue ?_)
        have hlS : l < s.heap.objs.size := Heap.lt_size hol
        have hh3 : A.in1.in1.in1.handled = none := by simp [hh]
        have hneI : l ≠ (s.heap.push { cls := .type "set", dict := none, data := .set #[] 0 (.fresh 0 0 led) }).objs.size := by
          rw [Heap.size_push]; exact Nat.ne_of_lt (Nat.lt_succ_of_lt hlS)
        have hSf : s.heap.objs.size ∉ [(s.heap.push { cls := .type "set", dict := none, data := .set #[] 0 (.fresh 0 0 led) }).objs.size, l] := by
          rw [Heap.size_push]; simp only [List.mem_cons, List.mem_singleton, List.not_mem_nil, or_false, not_or]
          exact ⟨Nat.ne_of_lt (Nat.lt_succ_self _), Nat.ne_of_gt hlS⟩
        refine setLoop ((Walks.list hh3 _ l hneI items).toS) s.heap.objs.size
          hSf zs hi hz hb (items.size - 0) 0 _ (by omega) (Nat.zero_le _)
          ⟨⟨_, Heap.get?_push_size _ rfl, rfl, rfl⟩, (hl1.push _)⟩ ?hS0 ?hR
        case hS0 =>
          have hget : ((s.heap.push { cls := .type "set", dict := none, data := .set #[] 0 (.fresh 0 0 led) }).push { cls := .type "list_iterator", data := .fields #[.ref l, .int 0 0] }).get? s.heap.objs.size
              = some { cls := .type "set", dict := none, data := .set #[] 0 (.fresh 0 0 led) } := Heap.get?_push_of_some _ hS
          exact PyProof.Rows.SetOf_congr ((PyProof.Rows.setObjOf_fresh (knd := strKind prog w) led).setOf hget (by unfold scanBound; omega)) (fun k => by simp [preS]) (by simp [preS, dedup])
        case hR =>
          intro s' hm hS'
          obtain ⟨h', g', d', tk', os'⟩ := s'
          have eg : g' = s.gens := hm.gens
          have ed : d' = s.drawn := hm.drawn
          have eo : os' = s.os := hm.os
          subst eg; subst ed; subst eo
          have ep : preS zs items.size = zs.reverse := by unfold preS; rw [List.take_of_length_le (by omega)]
          rw [ep] at hS'
          show wpAny _ _ _ _ _ _
          refine wpAny_pure ?_
          show wpAny _ _ (ret Value.none) _ _ _
          refine wpAny_pure ⟨rfl, h', tk', rfl, hS', fun b o hb e => ?_⟩
          have hb1 : b ≠ s.heap.objs.size := Nat.ne_of_lt hb
          have hb2 : b ≠ (s.heap.push { cls := .type "set", dict := none, data := .set #[] 0 (.fresh 0 0 led) }).objs.size := by
            rw [Heap.size_push]; exact Nat.ne_of_lt (Nat.lt_succ_of_lt hb)
          exact hm.heap b o (by simp only [List.mem_cons, List.mem_singleton, List.not_mem_nil, or_false, not_or]; exact ⟨hb1, hb2⟩) (Heap.get?_push_of_some _ (Heap.get?_push_of_some _ e))
      · cases r₂ with
        | error e => exact hr₂
        | ok fl₂ =>
          cases fl₂ with
          | ret r =>
            obtain ⟨rfl, h', tk, rfl, hS', hk'⟩ := hr₂
            repeat (any_goals (first | assumption | wp_step))
            exact h _ _ hS' hk'
          | _ => exact hr₂.elim
    | _ => exact hr.elim
end
section
variable {X : Cx}
def tLenSetS (K : PySem.W.Frag) (ta : TE) : TE := fun σ H Q => ta σ H fun x H1 => ∃ (l : Addr) (zs : List Str), x = V.ref l ∧ SqL K H1 l (zs.map V.str) ∧ zs.length < 64 ∧ Q (.int (dedup zs.reverse).length) H1
theorem strs_at : ∀ {vs : List Value} {zs : List Str}, Vals (zs.map V.str) vs → ∀ (i : Nat) (v : Value), vs[i]? = some v → ∃ z t, zs[i]? = some z ∧ v = .str z t
  | _, [], .nil, i, v, h => by simp at h
  | _, z :: zs, .cons r rs, 0, v, h => by
    obtain ⟨t, rfl⟩ := r
    simp at h
    exact ⟨z, t, by simp, h.symm⟩
  | _, z :: zs, .cons r rs, i + 1, v, h => by
    simp only [List.getElem?_cons_succ] at h ⊢
    exact strs_at rs i v h
theorem pe_lenSetS {a : Expr} {ta : TE} {x1 x2 : Str} {p p2 q pos : Pos} (hc : X.calm = true) (e1 : x1 = "len") (e2 : x2 = "set") (hg : Gl X x1) (hm : X.mg x1 = none) (hg2 : Gl X x2) (hm2 : X.mg x2 = none) (ha : PE X a ta)
    (na : starEach [a] X.env = (false, eval a X.env) :: starEach [] X.env) : PE X (.Call (.Name x1 p) [.Call (.Name x2 p2) [a] [] q] [] pos) (tLenSetS X.K ta) := by
  subst e1 e2
  refine ⟨fun pins s σ H Q I h => ?_⟩
  refine Call_ (ld_blt I hg hm PySem.boot_len ?_)
  refine PyProof.Rows.callWith_builtin1 (PyProof.Rows.args_cons ?_ rfl) rfl rfl
  refine Call_ (ld_blt I hg2 hm2 PyProof.Rows.boot_set ?_)
  refine PyProof.Rows.callWith_type1 (PyProof.Rows.args_cons (thn (ha.run pins s σ H _ I h) fun v s1 ⟨x, H1, I1, r1, q1⟩ => PyProof.Rows.args_nil ?_) na) na rfl
  obtain ⟨l, zs, rfl, hq, h1, q1⟩ := q1
  cases r1
  obtain ⟨its, r, pl, hz⟩ := I1.list hq
  have hl : its.toArray.size = zs.length := by rw [List.size_toArray, ← r.length, List.length_map]
  refine call_set_strs (I1.ok.hd hc) pl.isList (zs := zs) (fun i v hv => strs_at r i v (by simpa using hv)) hl.symm (by unfold scanBound; omega) fun h' tk hS hk => ?_
  refine PyProof.Rows.args_nil ?_
  obtain ⟨o, es, ep, t, ho, hex, hd, _, _, _, hf, hn⟩ := hS
  have I2 : Inv X pins σ H1 { s1 with heap := h', toks := tk } := I1.kept fun b o e => hk b o (Heap.lt_size e) e
  have hle := dedup_le zs.reverse
  rw [List.length_reverse] at hle
  refine call_len_set ho hex hd hf (by rw [hn]; omega) ⟨.int (dedup zs.reverse).length, H1, I2.tok _, ⟨_, by rw [hn]⟩, q1⟩
end
theorem strsD_rep {g : Gh} {F : Hp} : ∀ {xs : List PX.D} {zs : List Str} {vs : List V}, strsD xs = some zs → RepA g F vs xs → vs = zs.map V.str
  | [], _, _, h, r => by
    injection h with h; subst h
    cases r; rfl
  | x :: xs, zs, _, h, r => by
    cases r with
    | @cons v vs _ _ rv rs =>
    cases x with
    | str z =>
      simp only [strsD] at h
      cases q : strsD xs with
      | none => rw [q] at h; cases h
      | some ys =>
        rw [q] at h
        injection h with h; subst h
        cases rv
        rw [strsD_rep q rs] <;> rfl
    | _ => cases h
section
variable {ev : EC → Expr → En → Stm → Out OV} (ih : IH ev) {n : Cn} {W : WX} (G : Good n W)
include ih G
theorem s_lenset {f : Str} (hf : bk f = .len) (hb : n.c.blt f = true) {e0 e : Expr} {pos p1 : Pos} (hh : n.c.hot = false) (he : setArg n.c e0 = some e) : SE n W (.Call (.Name f p1) [e0] [] pos) (fun en S => (evD ev n.c e en S).bind fun d en S => lift (lenSetD d) en S) := by
  have hm := bk_mem hf (by decide)
  obtain ⟨hn, hd⟩ := boot_ok _ hm
  have ef : f = Str.ofString "len" := by simpa [bkTab] using hm
  unfold setArg at he
  split at he
  case h_2 => cases he
  rename_i f2 p2 e' q
  split at he
  case isFalse => cases he
  rename_i hc
  injection he with he; subst he
  obtain ⟨h1, h2, h3⟩ := hc
  have hm2 := bk_mem h1 (by decide)
  have ef2 : f2 = Str.ofString "set" := by simpa [bkTab] using hm2
  obtain ⟨hg, hmg⟩ := blt_facts ih G hb
  obtain ⟨hg2, hmg2⟩ := blt_facts ih G h2
  refine PE.imp (pe_lenSetS (G.calm hh) ef ef2 hg hmg hg2 hmg2 (s_B ih G e') (star_cons ih G h3)) ?_
  intro σ H Q h
  refine op1 ih G h ?_
  intro F d x H1 en S sr rx p
  unfold lift at p
  cases q : lenSetD d with
  | none => rw [q] at p; exact p.elim
  | some r =>
    rw [q] at p
    cases d with
    | lst xs =>
      simp only [lenSetD] at q
      cases q2 : strsD xs with
      | none => rw [q2] at q; cases q
      | some zs =>
        rw [q2] at q
        simp only at q
        split at q
        case isFalse => cases q
        rename_i hl
        injection q with q; subst q
        obtain ⟨a, vs, rfl, ha, ra⟩ := rx.lst_inv sr.sub
        have ev := strsD_rep q2 ra
        subst ev
        exact ⟨a, zs, rfl, .of ha, hl, p _ _ _ .refl sr (.val (.int _))⟩
    | _ => cases q
end
end PX

set_option Elab.async false
set_option linter.all false
set_option maxRecDepth 100000
/-! PxDisp: a dict display of one pair. -/
namespace PX
open PySem PySem.Spec L2
open PyProof.Rows hiding St

section
variable {ev : EC → Expr → En → Stm → Out OV} (ih : IH ev) {n : Cn} {W : WX} (G : Good n W)
include ih G
theorem s_dict1 (k v : Expr) (pos : Pos) : SE n W (.Dict [some k] [v] pos) (dict1 ev n.c k v) := by
  refine ⟨fun pins s σ H Q I ⟨en, S, F, sr, p⟩ => ?_⟩
  obtain ⟨d, ed⟩ : ∃ d, d = s.heap.objs.size := ⟨_, rfl⟩
  obtain ⟨od, eo⟩ : ∃ od : Obj, od = { cls := .type "dict", data := .dict #[] } := ⟨_, rfl⟩
  have fp := I.fpOk (H' := H) (b := d) (by rw [ed]; exact Nat.le_refl _) (I.hok.fresh (by rw [ed]; exact Nat.le_refl _))
  have I0 : Inv n.X pins σ H { s with heap := s.heap.push od } := I.kept (t' := s.toks) fun b u hb => Heap.get?_push_of_some _ hb
  have gd : (s.heap.push od).get? d = some od := by rw [ed, eo]; exact Heap.get?_push_size _ rfl
  have I1 : Inv n.X ((d, od) :: pins) σ H { s with heap := s.heap.push od } := I0.pins_of fun q hq => by
    rcases List.mem_cons.mp hq with rfl | hq
    · exact ⟨gd, fp.1, fp.2.1, fp.2.2.1, fun v z => by rw [eo] at z; cases z⟩
    · exact I0.pin q (List.mem_append_right _ hq)
  refine wpAny_Dict_walk (knd := mixKind n.X.prog n.X.w) rfl rfl (by simp) (by simp) ?_
  rw [← ed, ← eo]
  unfold dict1 at p
  refine pairTrees_cons_walk (thn ((s_V ih G k).run ((d, od) :: pins) _ σ H (fun x H1 => ∃ a en1 S1 F1, SR n F1 σ H1 en1 S1 ∧ Sub F F1 ∧ Rep n.g F1 x a ∧ Post n W σ F1 (RV n) ((evV ev n.c v en1 S1).bind fun b en S => if simpleKey a = true then .ok (.own (.dct [(a, b)])) en S else .bad) Q) I1 ⟨en, S, F, sr, Post.bind p ?_⟩) ?_)
  · intro a en1 S1 x H1 F1 _ sb sr1 rx p
    exact ⟨a, en1, S1, F1, sr1, sb, rx, p⟩
  rintro kw s1 ⟨x, H1, I2, rk, a, en1, S1, F1, sr1, sb1, rx, p1⟩
  refine thn ((s_V ih G v).run ((d, od) :: pins) _ σ H1 (fun y H2 => ∃ b en2 S2 F2, SR n F2 σ H2 en2 S2 ∧ Sub F1 F2 ∧ Rep n.g F2 y b ∧ Post n W σ F2 (RV n) (if simpleKey a = true then .ok (.own (.dct [(a, b)])) en2 S2 else .bad) Q) I2 ⟨en1, S1, F1, sr1, Post.bind p1 ?_⟩) ?_
  · intro b en2 S2 y H2 F2 _ sb sr2 ry p
    exact ⟨b, en2, S2, F2, sr2, sb, ry, p⟩
  rintro vw s2 ⟨y, H2, I3, rv, b, en2, S2, F2, sr2, sb2, ry, p2⟩
  refine pairTrees_nil_walk ?_
  by_cases hs : simpleKey a = true
  case neg => rw [if_neg hs] at p2; exact p2.elim
  rw [if_pos hs] at p2
  obtain ⟨g3, n3, _⟩ := I3.pin (d, od) (List.mem_append_right _ List.mem_cons_self)
  have I4 : Inv n.X pins σ H2 s2 := I3.pins_of fun q hq => I3.pin q (List.mem_append_right _ (List.mem_cons_of_mem _ hq))
  have hd0 : s2.heap.DictOf (mixKind n.X.prog n.X.w) d [] := by
    refine ⟨od, #[], 0, g3, by rw [eo]; exact ⟨rfl, rfl, rfl⟩, by rw [eo], fun e he => by simp at he, .nil, List.nodup_nil⟩
  have big : (d == sysModules) = false := by rw [ed]; exact beq_eq_false_iff_ne.mpr (Ne.symm (Nat.ne_of_lt I.big))
  obtain ⟨key, hkey, hh, hka, hre⟩ : ∃ key : Key, keyIs key kw = true ∧ keyH n.X.w key = hashD n.g.w a ∧ a.isKey = true ∧ ∀ u, keyIs key u = true → RelV x u := by
    cases a with
    | int i =>
      cases rx; obtain ⟨t, rfl⟩ := rk
      refine ⟨.inl i, by simp [keyIs, Value.isInt], by rw [← G.w]; rfl, rfl, fun u h => ?_⟩
      rcases keyIs_shape h with ⟨i', t', e1, e2⟩ | ⟨z, t', e1, e2⟩
      · cases e1; exact ⟨t', e2⟩
      · cases e1
    | str z =>
      cases rx; obtain ⟨t, rfl⟩ := rk
      refine ⟨.inr z, by simp [keyIs, Value.isStrOf], by rw [← G.w]; rfl, rfl, fun u h => ?_⟩
      rcases keyIs_shape h with ⟨i', t', e1, e2⟩ | ⟨z', t', e1, e2⟩
      · cases e1
      · cases e1; exact ⟨t', e2⟩
    | _ => cases hs
  refine ⟨[(key, vw)], ⟨hkey, rfl, trivial⟩, hd0, fun h' dd hsb => ?_⟩
  have em : merged ([] : List (Key × Value)) [(key, vw)] = [(key, vw)] := rfl
  rw [em] at dd
  have raw : ∃ ep, DRaw d [(hashD n.g.w a, x, y)] ep h' := by
    obtain ⟨o, es, ep, go, ex, dt, ko, prs, _⟩ := dd
    refine ⟨ep, by rw [sizeLine_eq]; simp, big, o, es, go, ex, dt, ?_⟩
    obtain ⟨l⟩ := es
    simp only at prs ⊢
    cases prs with
    | @cons e kv es' kvs' hik hev rest =>
    cases rest
    obtain ⟨k', hk1, hk2⟩ := ko e (by simp)
    have : k' = key := (mixKind n.X.prog n.X.w).inj _ _ _ hk1 hik
    subst this
    exact .cons ⟨by rw [hk2]; exact hh.symm, hre _ hik, by rw [hev]; exact rv⟩ .nil
  obtain ⟨ep, raw⟩ := raw
  have IF : Inv n.X pins σ (upd H2 d (dO d [(hashD n.g.w a, x, y)] ep)) { s2 with heap := h', toks := s2.toks + [(kw, vw)].length } :=
    I4.take (fun b ob hb e => (hsb.2 b hb).trans e) ⟨n3, fp.2.1, fp.2.2.1, fp.2.2.2.1, fp.2.2.2.2.1, fp.2.2.2.2.2⟩ (dO_ok raw)
  have gr : Grow F2 H2 F2 (upd H2 d (dO d [(hashD n.g.w a, x, y)] ep)) := Grow.own sr2.sub n3
  refine ⟨.ref d, _, IF, rfl, p2 (.ref d) _ F2 .refl (sr2.grow gr) ?_⟩
  have nF : F2 d = none := by
    cases q : F2 d with
    | none => rfl
    | some o => rw [sr2.sub _ _ q] at n3; cases n3
  have nB : n.B d = none := by
    cases q : n.B d with
    | none => rfl
    | some o => rw [sr2.base _ _ q] at n3; cases n3
  refine .own nF nB ?_ (.dct upd_same (.cons (rx.mono sb2) ry .nil) (by simp) (by simp [keyAll, hka])) ?_
  · rw [sr2.cgrow gr.hh]
    intro hc
    obtain ⟨u, hu⟩ := sr2.there d hc
    have n3 : H2 d = none := n3
    rw [n3] at hu; cases hu
  · intro i o' h1 h2
    obtain ⟨p', hp', _, _, _, ow⟩ := sr2.at_own h1
    rw [h2] at hp'; injection hp' with z; injection z with z; injection z with z; subst z
    obtain ⟨u, hu⟩ := ow.some
    have n3 : H2 d = none := n3
    rw [n3] at hu; cases hu
theorem s_dict0 (pos : Pos) : SE n W (.Dict [] [] pos) (fun en S => .ok (.own (.dct [])) en S) := by
  refine PE.imp pe_dnew ?_
  rintro σ H Q ⟨en, S, F, sr, p⟩ d n3
  have gr : Grow F H F (upd H d (dO d [] 0)) := Grow.own sr.sub n3
  refine p (.ref d) _ F .refl (sr.grow gr) ?_
  have nF : F d = none := by
    cases q : F d with
    | none => rfl
    | some o => rw [sr.sub _ _ q] at n3; cases n3
  have nB : n.B d = none := by
    cases q : n.B d with
    | none => rfl
    | some o => rw [sr.base _ _ q] at n3; cases n3
  refine .own nF nB ?_ (.dct upd_same .nil (by simp) rfl) ?_
  · rw [sr.cgrow gr.hh]
    intro hc
    obtain ⟨u, hu⟩ := sr.there d hc
    rw [n3] at hu; cases hu
  · intro i o' h1 h2
    obtain ⟨p', hp', _, _, _, ow⟩ := sr.at_own h1
    rw [h2] at hp'; injection hp' with z; injection z with z; injection z with z; subst z
    obtain ⟨u, hu⟩ := ow.some
    rw [n3] at hu; cases hu
end
end PX

set_option Elab.async false
set_option linter.all false
set_option maxRecDepth 100000
namespace PX
open PySem PySem.Spec L2
open PyProof.Rows hiding St

theorem SR.set {n : Cn} {F H : Hp} {σ : St} {en : En} {S : Stm} (sr : SR n F σ H en S) {i : Nat} {v : V} {d : D} (hi : i < n.c.N.length) (r : Rep n.g F v d) : SR n F (σ.set i (some v)) H (en.set i (.val d)) S := by
  have hl : i < en.length := by rw [sr.len]; exact hi
  have hs : i < σ.length := by rw [sr.slen]; exact hi
  have back : ∀ {j : Nat} {q : O}, (en.set i (.val d))[j]? = some (.own q) → j ≠ i ∧ en[j]? = some (.own q) := by
    intro j q h
    by_cases ij : j = i
    · subst ij; rw [List.getElem?_set_self hl] at h; cases h
    · rw [List.getElem?_set_ne (Ne.symm ij)] at h; exact ⟨ij, h⟩
  refine ⟨by simpa using sr.len, by simpa using sr.slen, sr.base, sr.sub, ?_, ?_, sr.st, sr.c0, sr.cellF, sr.fix⟩
  · intro j x hx
    by_cases ij : j = i
    · subst ij
      rw [List.getElem?_set_self hl] at hx
      injection hx with hx; subst hx
      rw [List.getElem?_set_self hs]
      exact .val r
    · rw [List.getElem?_set_ne (Ne.symm ij)] at hx
      rw [List.getElem?_set_ne (Ne.symm ij)]
      exact sr.slot j x hx
  · intro j k o o' p hj hk sj sk
    obtain ⟨nj, hj⟩ := back hj
    obtain ⟨nk, hk⟩ := back hk
    rw [List.getElem?_set_ne (Ne.symm nj)] at sj
    rw [List.getElem?_set_ne (Ne.symm nk)] at sk
    exact sr.dist j k o o' p hj hk sj sk
theorem slot_loc {c : EC} {x : Str} {i : Nat} (h : c.stSlot x = some i) : c.N[i]? = some x ∧ L2.Loc c.sc x ∧ (c.fn x = true ∨ c.sc.names.lookup x = some .local) := by
  unfold EC.stSlot at h
  unfold L2.Loc
  split at h
  · rename_i e; exact ⟨ix_get' h, .inl e, .inr e⟩
  · rename_i e
    split at h
    · rename_i f; exact ⟨ix_get' h, .inr e, .inl f⟩
    · cases h
  · cases h
/-- a target of names: what is stored -/
def tgT (n : Cn) (k : Nat) (t : Expr) : TG := fun v σ H Q => ∃ d en S F en', SR n F σ H en S ∧ Rep n.g F v d ∧ asgN k n.c t d en = some en' ∧
  ∀ σ', SR n F σ' H en' S → (∀ i, i ∉ tgSlots k n.c t → σ'[i]? = σ[i]?) → Q σ' H
def tgsT (n : Cn) (k : Nat) (ts : List Expr) : TGs := fun vs σ H Q => ∃ ds en S F en', SR n F σ H en S ∧ RepA n.g F vs ds ∧ manyF (asgN k n.c) ts ds en = some en' ∧
  ∀ σ', SR n F σ' H en' S → (∀ i, i ∉ allF (tgSlots k n.c) ts → σ'[i]? = σ[i]?) → Q σ' H
theorem PG.imp {X : Cx} {e : Expr} {t t' : TG} (h : PG X e t) (k : ∀ v σ H Q, t' v σ H Q → t v σ H Q) : PG X e t' := ⟨fun pins s σ H v u Q I r q => h.run pins s σ H v u Q I r (k _ _ _ _ q)⟩
section
variable {n : Cn} {W : WX} (G : Good n W)
include G
theorem each_len : ∀ {ts : List Expr} {env : Env}, noStar ts = true → (assignEach ts env).length = ts.length ∧ (assignEach ts env).findIdx? (·.1) = none
  | [], _, _ => ⟨rfl, rfl⟩
  | t :: ts, env, h => by
    simp only [noStar, List.all_cons, Bool.and_eq_true, Bool.not_eq_true'] at h
    obtain ⟨a, b⟩ := each_len (ts := ts) (env := env) h.2
    have e : assignEach (t :: ts) env = (false, assign t env) :: assignEach ts env := by
      have := h.1
      cases t <;> first | rfl | cases this
    rw [e]
    refine ⟨by simp [a], ?_⟩
    rw [List.findIdx?_cons]
    simp [b]
theorem g_all (k : Nat) (h : ∀ t, PG n.X t (tgT n k t)) : ∀ (ts : List Expr), noStar ts = true → PGs n.X ts (tgsT n k ts)
  | [], _ => by
    refine ⟨fun pins s σ H vs us Q I r ⟨ds, en, S, F, en', sr, rd, e, q⟩ => ?_⟩
    cases ds with
    | nil =>
      cases rd
      injection e with e; subst e
      exact pgs_nil.run pins s σ H [] us Q I r ⟨rfl, q σ sr fun _ _ => rfl⟩
    | cons => cases e
  | t :: ts, hs => by
    simp only [noStar, List.all_cons, Bool.and_eq_true, Bool.not_eq_true'] at hs
    have e0 : (assignEach (t :: ts) n.X.env).map (·.2) = assign t n.X.env :: (assignEach ts n.X.env).map (·.2) := by
      have := hs.1
      cases t <;> first | rfl | cases this
    refine ⟨fun pins s σ H vs us Q I r ⟨ds, en, S, F, en', sr, rd, e, q⟩ => ?_⟩
    cases ds with
    | nil => cases e
    | cons d ds =>
      cases rd with
      | @cons v vs _ _ rv rvs =>
      have e : (asgN k n.c t d en).bind (fun en => manyF (asgN k n.c) ts ds en) = some en' := e
      cases e1 : asgN k n.c t d en with
      | none => rw [e1] at e; cases e
      | some en1 =>
        rw [e1] at e
        have e : manyF (asgN k n.c) ts ds en1 = some en' := e
        refine (pgs_cons (h t) (g_all k h ts hs.2) e0).run pins s σ H (v :: vs) us Q I r ⟨v, vs, rfl, d, en, S, F, en1, sr, rv, e1, ?_⟩
        intro σ1 sr1 k1
        refine ⟨ds, en1, S, F, en', sr1, rvs, e, ?_⟩
        intro σ2 sr2 k2
        refine q σ2 sr2 ?_
        intro i hi
        have hi : i ∉ tgSlots k n.c t ++ allF (tgSlots k n.c) ts := hi
        rw [List.mem_append, not_or] at hi
        rw [k2 i hi.2, k1 i hi.1]
theorem g_asg : ∀ (k : Nat) (t : Expr), PG n.X t (tgT n k t)
  | 0, t => ⟨fun pins s σ H v u Q I r ⟨d, en, S, F, en', sr, rd, e, _⟩ => by have e : (none : Option En) = some en' := e; cases e⟩
  | k + 1, t => by
    cases t with
    | Name x pos =>
      refine ⟨fun pins s σ H v u Q I r ⟨d, en, S, F, en', sr, rd, e, q⟩ => ?_⟩
      have e : (n.c.stSlot x).map (fun i => en.set i (.val d)) = some en' := e
      cases hx : n.c.stSlot x with
      | none => rw [hx] at e; cases e
      | some i =>
        rw [hx] at e
        injection e with e; subst e
        obtain ⟨a, b, c⟩ := slot_loc hx
        have hi : i < n.c.N.length := by rw [List.getElem?_eq_some_iff] at a; exact a.1
        refine (pg_name (by rw [G.N]; exact G.nd) (by rw [G.N]; exact a) (by rw [G.scope]; exact b) (by rw [G.fn, G.scope]; exact c)).run pins s σ H v u Q I r ?_
        refine q _ (sr.set hi rd) ?_
        intro j hj
        have hj : j ≠ i := by
          rintro rfl
          apply hj
          show j ∈ (match n.c.stSlot x with | some i => [i] | none => [])
          rw [hx]; exact List.mem_singleton.mpr rfl
        exact List.getElem?_set_ne (Ne.symm hj)
    | Tuple ts kk pos =>
      refine ⟨fun pins s σ H v u Q I r ⟨d, en, S, F, en', sr, rd, e, q⟩ => ?_⟩
      cases d with
      | tup ds =>
        have e : (if ts.length = ds.length ∧ noStar ts = true ∧ n.c.hot = false then manyF (asgN k n.c) ts ds en else none) = some en' := e
        split at e
        · rename_i c
          cases rd with
          | @tup a vs _ ha ra =>
          obtain ⟨l1, l2⟩ := each_len G (ts := ts) (env := n.X.env) c.2.1
          exact (pg_tup (G.calm c.2.2) (g_all G k (g_asg k) ts c.2.1) l1 l2).run pins s σ H _ u Q I r ⟨a, vs, rfl, .of (sr.sub _ _ ha), by rw [ra.length]; exact c.1.symm, ds, en, S, F, en', sr, ra, e, q⟩
        · cases e
      | _ => cases e
    | _ => exact ⟨fun pins s σ H v u Q I r ⟨d, en, S, F, en', sr, rd, e, _⟩ => by have e : (none : Option En) = some en' := e; cases e⟩
end
end PX

set_option Elab.async false
set_option linter.all false
set_option maxRecDepth 100000
namespace PX
open PySem PySem.Spec L2
open PyProof.Rows hiding St

/-- the iterator yields what stands for ds, as long as F stands -/
structure ItOk (g : Gh) (F : Hp) (ds : List D) (J : It) : Prop where
  go : ∀ i H, Sub F H → i < ds.length → J.go i H
  yld : ∀ i H x H' F1, Sub F F1 → Sub F1 H → i < ds.length → J.yld i H x H' → ∃ F2 d, Grow F1 H F2 H' ∧ ds[i]? = some d ∧ Rep g F2 x d
  stop : ∀ i H, Sub F H → ds.length ≤ i → J.stop i H
theorem ItOk.mono {g : Gh} {F F' : Hp} {ds : List D} {J : It} (h : ItOk g F ds J) (s : Sub F F') : ItOk g F' ds J :=
  ⟨fun i H a b => h.go i H (s.trans a) b, fun i H x H' F1 a b c d => h.yld i H x H' F1 (s.trans a) b c d, fun i H a b => h.stop i H (s.trans a) b⟩
section
variable {g : Gh} {F : Hp} {K : PySem.W.Frag}
theorem SqL.inj' {K : PySem.W.Frag} {H : Hp} {a : Addr} {xs ys : List V} (h : H a = some (.lst xs)) (nk : K.lookup a = none ∨ True) (q : Rd H a (.lst ys)) : xs = ys := by
  rcases q with q | ⟨o, q⟩
  · rw [h] at q; injection q with q; injection q
  · rw [h] at q; cases q
theorem it_list {a : Addr} {vs : List V} {ds : List D} (h : F a = some (.lst vs)) (r : RepA g F vs ds) : ItOk g F ds (Itl K a) where
  go i H s hi := by
    obtain ⟨v, hv, _⟩ := r.get (List.getElem?_eq_getElem hi)
    exact ⟨vs, v, .of (s _ _ h), hv⟩
  yld i H x H' F1 s1 s2 hi := by
    rintro ⟨rfl, k⟩
    have := k vs (.of (s2 _ _ (s1 _ _ h)))
    obtain ⟨d, hd, rd⟩ := r.get' this
    exact ⟨F1, d, .refl s2, hd, rd.mono s1⟩
  stop i H s hi := ⟨vs, .of (s _ _ h), by rw [r.length]; exact hi⟩
theorem it_tup {a : Addr} {vs : List V} {ds : List D} (h : F a = some (.tup vs)) (r : RepA g F vs ds) : ItOk g F ds (Itt K a) where
  go i H s hi := by
    obtain ⟨v, hv, _⟩ := r.get (List.getElem?_eq_getElem hi)
    exact ⟨vs, v, .of (s _ _ h), hv⟩
  yld i H x H' F1 s1 s2 hi := by
    rintro ⟨rfl, k⟩
    have := k vs (.of (s2 _ _ (s1 _ _ h)))
    obtain ⟨d, hd, rd⟩ := r.get' this
    exact ⟨F1, d, .refl s2, hd, rd.mono s1⟩
  stop i H s hi := ⟨vs, .of (s _ _ h), by rw [r.length]; exact hi⟩
theorem it_rng (lo : Int) (k : Nat) : ItOk g F ((List.range k).map fun j => D.int (lo + (j : Nat))) (Itr lo k) where
  go i H s hi := by
    show i < k
    simpa using hi
  yld i H x H' F1 s1 s2 hi := by
    rintro ⟨rfl, rfl⟩
    have hi : i < k := by simpa using hi
    exact ⟨F1, .int (lo + i), .refl s2, by simp [hi], .int _⟩
  stop i H s hi := by
    show k ≤ i
    simpa using hi
theorem it_str (z : Str) : ItOk g F (z.cps.toList.map fun c => D.str ⟨#[c]⟩) (Its z) where
  go i H s hi := by
    show i < z.cps.size
    simpa using hi
  yld i H x H' F1 s1 s2 hi := by
    rintro ⟨rfl, c, hc, rfl⟩
    exact ⟨F1, .str ⟨#[c]⟩, .refl s2, by simp [hc], .str _⟩
  stop i H s hi := by
    show z.cps.size ≤ i
    simpa using hi
theorem it_dct {a : Addr} {es : List (Int × V × V)} {ep : Nat} {kvs : List (D × D)} (h : F a = some (dO a es ep)) (r : RepK g F es kvs) : ItOk g F (kvs.map (·.1)) (ItD a es ep) where
  go i H s hi := ⟨s _ _ h, by rw [r.len]; simpa using hi⟩
  yld i H x H' F1 s1 s2 hi := by
    rintro ⟨rfl, h0, v, k⟩
    obtain ⟨d, b, hd, rd, _⟩ := r.get k
    exact ⟨F1, d, .refl s2, by rw [List.getElem?_map, hd]; rfl, rd.mono s1⟩
  stop i H s hi := ⟨s _ _ h, by rw [r.len]; simpa using hi⟩
end
theorem PI.imp {X : Cx} {tg e : Expr} {t t' : TI} (h : PI X tg e t) (k : ∀ σ H R, t' σ H R → t σ H R) : PI X tg e t' := ⟨fun pins s σ H R I q => h.run pins s σ H R I (k _ _ _ q)⟩
def RI (n : Cn) (F : Hp) (_ : St) (_ : Hp) (_ : En) (ds : List D) (J : It) : Prop := ItOk n.g F ds J
section
variable {ev : EC → Expr → En → Stm → Out OV} (ih : IH ev) {n : Cn} {W : WX} (G : Good n W)
include ih G
theorem s_plain (tg e : Expr) : PI n.X tg e (tM n W (RI n) (evPlain ev n.c e)) := by
  refine ⟨fun pins s σ H R I ⟨en, S, F, sr, p⟩ => ?_⟩
  unfold evPlain at p
  have e1 : ∀ {Q' : VK}, (∀ d en1 S1 v H1 F1, evV ev n.c e en S = .ok d en1 S1 → Sub F F1 → SR n F1 σ H1 en1 S1 → Rep n.g F1 v d → Post n W σ F1 (RI n) (lift (itemsD d) en1 S1) R → Q' v H1) → tM n W (RD n) (evV ev n.c e) σ H Q' := by
    intro Q' h
    exact ⟨en, S, F, sr, Post.bind p fun d en1 S1 v H1 F1 e0 sb sr1 rd p => h d en1 S1 v H1 F1 e0 sb sr1 rd p⟩
  have fin : ∀ {d : D} {en1 : En} {S1 : Stm} {ds : List D} {H1 F1 : Hp} {J : It}, itemsD d = some ds → SR n F1 σ H1 en1 S1 → Post n W σ F1 (RI n) (lift (itemsD d) en1 S1) R → ItOk n.g F1 ds J → R J H1 := by
    intro d en1 S1 ds H1 F1 J e0 sr1 p k
    rw [e0] at p
    exact p J H1 F1 .refl sr1 k
  cases q : evV ev n.c e en S with
  | bad => rw [q] at p; exact p.elim
  | err C fs en1 S1 =>
    refine (pi_list (s_V ih G e)).run pins s σ H R I (e1 ?_)
    intro d en1 S1 v H1 F1 e0
    rw [q] at e0; cases e0
  | ok d en1 S1 =>
    cases d with
    | lst xs =>
      refine (pi_list (s_V ih G e)).run pins s σ H R I (e1 ?_)
      intro d2 en2 S2 v H1 F1 e0 sb sr1 rd p
      rw [q] at e0; cases e0
      cases rd with
      | @lst a vs _ ha ra => exact ⟨a, rfl, ⟨vs, .of (sr1.sub _ _ ha)⟩, fin rfl sr1 p (it_list ha ra)⟩
    | tup xs =>
      refine (pi_tup (s_V ih G e)).run pins s σ H R I (e1 ?_)
      intro d2 en2 S2 v H1 F1 e0 sb sr1 rd p
      rw [q] at e0; cases e0
      cases rd with
      | @tup a vs _ ha ra => exact ⟨a, rfl, ⟨vs, .of (sr1.sub _ _ ha)⟩, fin rfl sr1 p (it_tup ha ra)⟩
    | str z =>
      refine (pi_str (s_V ih G e)).run pins s σ H R I (e1 ?_)
      intro d2 en2 S2 v H1 F1 e0 sb sr1 rd p
      rw [q] at e0; cases e0
      cases Rep.str_inv rd
      exact ⟨z, rfl, fin rfl sr1 p (it_str z)⟩
    | dct kvs =>
      refine (pi_raw (s_V ih G e)).run pins s σ H R I (e1 ?_)
      intro d2 en2 S2 v H1 F1 e0 sb sr1 rd p
      rw [q] at e0; cases e0
      by_cases c : tkeys kvs = true
      case neg => simp only [itemsD, if_neg c] at p; exact p.elim
      cases rd with
      | @dct a es ep _ ha rk nd _ => exact ⟨a, es, ep, rfl, sr1.sub _ _ ha, fin (by simp only [itemsD, if_pos c]) sr1 p (it_dct ha rk)⟩
    | _ => rw [q] at p; exact p.elim
theorem s_items (tg e : Expr) : PI n.X tg e (tM n W (RI n) (evItems ev n.c e)) := by
  have plain : ∀ {k : BK} {l : List Expr}, iterKind n.c e = (k, l) → k ≠ .range → k ≠ .zip → k ≠ .enumerate → k ≠ .set → PI n.X tg e (tM n W (RI n) (evItems ev n.c e)) := by
    intro k l hk h1 h2 h3 h4
    refine PI.imp (s_plain ih G tg e) ?_
    rintro σ H R ⟨en, S, F, sr, p⟩
    refine ⟨en, S, F, sr, ?_⟩
    unfold evItems at p
    rw [hk] at p
    revert p
    cases k <;> first | exact absurd rfl h1 | exact absurd rfl h2 | exact absurd rfl h3 | exact absurd rfl h4 | exact id
  cases hk : iterKind n.c e with
  | mk k args =>
  by_cases hr : k = .range
  · subst hr
    -- range(..)
    have shape : ∃ f p1 pos, e = .Call (.Name f p1) args [] pos ∧ n.c.blt f = true ∧ bk f = .range ∧ noStar args = true := by
      unfold iterKind at hk
      split at hk
      · rename_i f p1 args' pos
        split at hk
        · rename_i c
          injection hk with a b
          subst b
          exact ⟨f, p1, pos, rfl, c.1, a, c.2.2⟩
        · cases hk
      · split at hk <;> cases hk
      · cases hk
    obtain ⟨f, p1, pos, rfl, hb, hf, hst⟩ := shape
    have hm := bk_mem hf (by decide)
    have ef : f = Str.ofString "range" := by simpa [bkTab] using hm
    subst ef
    obtain ⟨hg, hm0⟩ := blt_facts ih G hb
    have e0 : evItems ev n.c (.Call (.Name (Str.ofString "range") p1) args [] pos) = fun en S => if args.length ≤ 2 then (evVs ev n.c args en S).bind fun ds en S => lift (rangeD ds) en S else .bad := by
      funext en S; unfold evItems; rw [hk]
    rw [e0]
    by_cases hl2 : args.length ≤ 2
    case neg =>
      refine ⟨fun pins s σ H R I ⟨en, S, F, sr, p⟩ => ?_⟩
      simp only [if_neg hl2] at p; exact p.elim
    simp only [if_pos hl2]
    have rd : ∀ {σ : St} {H : Hp} {R : It → Hp → Prop} {Q' : List V → Hp → Prop}, tM n W (RI n) (fun en S => (evVs ev n.c args en S).bind fun ds en S => lift (rangeD ds) en S) σ H R →
        (∀ ds xs vs H1 F1, ds.length = args.length → RepA n.g F1 vs ds → rangeD ds = some xs → (∀ J, ItOk n.g F1 xs J → R J H1) → Q' vs H1) → tM n W (RDs n) (evVs ev n.c args) σ H Q' := by
      rintro σ H R Q' ⟨en, S, F, sr, p⟩ h
      refine ⟨en, S, F, sr, Post.bind p ?_⟩
      intro ds en1 S1 vs H1 F1 eq sb sr1 rds p
      unfold lift at p
      cases q : rangeD ds with
      | none => rw [q] at p; exact p.elim
      | some xs => rw [q] at p; exact h ds xs vs H1 F1 (Vs_len ih G args hst eq) rds q fun J hJ => p J H1 F1 .refl sr1 hJ
    cases args with
    | nil =>
      refine ⟨fun pins s σ H R I ⟨en, S, F, sr, p⟩ => ?_⟩
      exact p.elim
    | cons a r1 =>
    have sa : isStar a = false := by
      have := hst
      simp only [noStar, List.all_cons, Bool.and_eq_true, Bool.not_eq_true'] at this
      exact this.1
    cases r1 with
    | nil =>
      refine PI.imp (pi_range1 hg hm0 (s_Vs ih G [a]) (star_cons ih G sa)) ?_
      intro σ H R h
      refine rd h ?_
      intro ds xs vs H1 F1 hlen rds e k
      unfold rangeD at e
      split at e
      · rename_i j
        split at e
        · rename_i c
          injection e with e; subst e
          cases rds with
          | cons h1 r1 =>
          cases r1
          cases h1.int_inv
          exact ⟨j, rfl, c.1, c.2, k _ (it_rng 0 j.toNat)⟩
        · cases e
      · simp at hlen
      · cases e
    | cons b r2 =>
    cases r2 with
    | nil =>
      have sb : isStar b = false := by
        have := hst
        simp only [noStar, List.all_cons, Bool.and_eq_true, Bool.not_eq_true'] at this
        exact this.2.1
      refine PI.imp (pi_range2 hg hm0 (s_Vs ih G [a, b]) ((star_cons ih G sa).trans (by rw [star_cons ih G sb]; rfl)) (star_cons ih G sb)) ?_
      intro σ H R h
      refine rd h ?_
      intro ds xs vs H1 F1 hlen rds e k
      unfold rangeD at e
      split at e
      · simp at hlen
      · rename_i i j
        split at e
        · rename_i c
          injection e with e; subst e
          cases rds with
          | cons h1 r1 =>
          cases r1 with
          | cons h2 r2 =>
          cases r2
          cases h1.int_inv
          cases h2.int_inv
          exact ⟨i, j, rfl, ⟨c.1.1, c.1.2, c.2.1, c.2.2⟩, k _ (it_rng i (j - i).toNat)⟩
        · cases e
      · cases e
    | cons => simp at hl2
  · have nope : ∀ {k : BK} {l : List Expr}, iterKind n.c e = (k, l) → (k = .zip ∨ k = .enumerate ∨ k = .set) → PI n.X tg e (tM n W (RI n) (evItems ev n.c e)) := by
      intro k l hk h
      refine ⟨fun pins s σ H R I ⟨en, S, F, sr, p⟩ => ?_⟩
      unfold evItems at p
      rw [hk] at p
      rcases h with rfl | rfl | rfl <;> exact p.elim
    by_cases hz : k = .zip
    · exact nope hk (.inl hz)
    · by_cases he : k = .enumerate
      · exact nope hk (.inr (.inl he))
      · by_cases hs : k = .set
        · exact nope hk (.inr (.inr hs))
        · exact plain hk hr hz he hs
end
end PX

set_option Elab.async false
set_option linter.all false
set_option maxRecDepth 100000
namespace PX
open PySem PySem.Spec L2
open PyProof.Rows hiding St

theorem wipeE_len : ∀ (vs : List Nat) (en : En), (wipeE en vs).length = en.length
  | [], en => rfl
  | i :: r, en => by simp [wipeE, wipeE_len r en]
theorem wipeE_out : ∀ {vs : List Nat} {en : En} {j : Nat}, j ∉ vs → (wipeE en vs)[j]? = en[j]?
  | [], en, j, _ => rfl
  | i :: r, en, j, h => by
    simp only [List.mem_cons, not_or] at h
    unfold wipeE
    rw [List.getElem?_set_ne (Ne.symm h.1), wipeE_out h.2]
theorem wipeE_in : ∀ {vs : List Nat} {en : En} {j : Nat} {e : Ent}, j ∈ vs → (wipeE en vs)[j]? = some e → e = .none
  | i :: r, en, j, e, h, q => by
    unfold wipeE at q
    by_cases ij : j = i
    · subst ij
      by_cases hl : j < (wipeE en r).length
      · rw [List.getElem?_set_self hl] at q; injection q with q; exact q.symm
      · have : (List.set (wipeE en r) j Ent.none)[j]? = none := by rw [List.getElem?_eq_none]; simp; omega
        rw [this] at q; cases q
    · rw [List.getElem?_set_ne (Ne.symm ij)] at q
      rcases List.mem_cons.mp h with h | h
      · exact absurd h ij
      · exact wipeE_in h q
theorem wipe_out : ∀ {vs : List Nat} {σ : St} {j : Nat}, j ∉ vs → (wipe σ vs)[j]? = σ[j]?
  | [], σ, j, _ => rfl
  | i :: r, σ, j, h => by
    simp only [List.mem_cons, not_or] at h
    unfold wipe
    rw [List.getElem?_set_ne (Ne.symm h.1), wipe_out h.2]
theorem wipe_in : ∀ {vs : List Nat} {σ : St} {j : Nat}, j ∈ vs → (wipe σ vs)[j]? = if j < σ.length then some none else none
  | i :: r, σ, j, h => by
    unfold wipe
    by_cases ij : j = i
    · subst ij
      by_cases hl : j < σ.length
      · rw [if_pos hl, List.getElem?_set_self (by rw [wipe_length]; exact hl)]
      · rw [if_neg hl, List.getElem?_eq_none]; simp [wipe_length]; omega
    · rw [List.getElem?_set_ne (Ne.symm ij)]
      rcases List.mem_cons.mp h with h | h
      · exact absurd h ij
      · exact wipe_in h
theorem wipe_eq {vs : List Nat} {σ σ' : St} (hl : σ'.length = σ.length) (h : ∀ i, i ∉ vs → σ'[i]? = σ[i]?) : wipe σ' vs = wipe σ vs := by
  apply List.ext_getElem?
  intro i
  by_cases hi : i ∈ vs
  · rw [wipe_in hi, wipe_in hi, hl]
  · rw [wipe_out hi, wipe_out hi, h i hi]
theorem wipe_wipe {vs : List Nat} {σ : St} : wipe (wipe σ vs) vs = wipe σ vs := wipe_eq (wipe_length σ vs) fun i hi => wipe_out hi
theorem restore_len : ∀ (vs : List Nat) (old en : En), (restore old en vs).length = en.length
  | [], old, en => rfl
  | i :: r, old, en => by simp [restore, restore_len r old en]
theorem restore_out : ∀ {vs : List Nat} {old en : En} {j : Nat}, j ∉ vs → (restore old en vs)[j]? = en[j]?
  | [], old, en, j, _ => rfl
  | i :: r, old, en, j, h => by
    simp only [List.mem_cons, not_or] at h
    unfold restore
    rw [List.getElem?_set_ne (Ne.symm h.1), restore_out h.2]
theorem restore_in : ∀ {vs : List Nat} {old en : En} {j : Nat} {e : Ent}, j ∈ vs → (restore old en vs)[j]? = some e → e = (old[j]?).getD .none
  | i :: r, old, en, j, e, h, q => by
    unfold restore at q
    by_cases ij : j = i
    · subst ij
      by_cases hl : j < (restore old en r).length
      · rw [List.getElem?_set_self hl] at q; injection q with q; exact q.symm
      · have : (List.set (restore old en r) j ((old[j]?).getD .none))[j]? = none := by rw [List.getElem?_eq_none]; simp; omega
        rw [this] at q; cases q
    · rw [List.getElem?_set_ne (Ne.symm ij)] at q
      rcases List.mem_cons.mp h with h | h
      · exact absurd h ij
      · exact restore_in h q

theorem SlotR.to {n n' : Cn} {F H H' : Hp} {o : Option (Option V)} {e : Ent} (hg : n'.g = n.g) (hcs : n'.cells H' = n.cells H) (hex : n'.ex = n.ex) (hx : ∀ dx vfs, H dx = some (.xd vfs) → H' dx = some (.xd vfs)) (hB : ∀ p x, e = .own x → o = some (some (.ref p)) → n.B p = Option.none → n'.B p = Option.none ∧ ∀ u, H p = some u → H' p = some u) (r : SlotR n F H o e) : SlotR n' F H' o e := by
  cases r with
  | none => exact .none
  | val r => exact .val (by rw [hg]; exact r)
  | exc a b => exact .exc (by rw [hex]; exact a) (by rw [hg]; exact b.mono .refl hx)
  | @own p x a b c d =>
    obtain ⟨b', k⟩ := hB p x rfl rfl b
    exact .own a b' (by rw [hcs]; exact c) (by rw [hg]; exact d.heap k)
section
variable {n : Cn} {F H : Hp} {σ : St} {en : En} {S : Stm}
theorem SR.wipe (sr : SR n F σ H en S) (vs : List Nat) : SR n F (L2.wipe σ vs) H (wipeE en vs) S := by
  have back : ∀ {j : Nat} {e : Ent}, e ≠ .none → (wipeE en vs)[j]? = some e → j ∉ vs ∧ en[j]? = some e := by
    intro j e he h
    by_cases hj : j ∈ vs
    · exact absurd (wipeE_in hj h) he
    · rw [wipeE_out hj] at h; exact ⟨hj, h⟩
  refine ⟨by rw [wipeE_len]; exact sr.len, by rw [wipe_length]; exact sr.slen, sr.base, sr.sub, ?_, ?_, sr.st, sr.c0, sr.cellF, sr.fix⟩
  · intro j e h
    by_cases he : e = .none
    · subst he; exact .none
    · obtain ⟨hj, h⟩ := back he h
      rw [wipe_out hj]; exact sr.slot j e h
  · intro i j o o' p hi hj si sj
    obtain ⟨a, hi⟩ := back (by intro h; cases h) hi
    obtain ⟨b, hj⟩ := back (by intro h; cases h) hj
    rw [wipe_out a] at si
    rw [wipe_out b] at sj
    exact sr.dist i j o o' p hi hj si sj
/-- the frame of a block whose new list is at D -/
def Cn.blk (n : Cn) (sc : Scope) (D : Addr) (v : List V) : Cn := { n with c := n.c.blk sc, B := upd n.B D (.lst v), F0 := fun a => if a = D then none else n.F0 a }
theorem SR.enter (sr : SR n F σ H en S) (sc : Scope) {D : Addr} (hD : H D = none) : SR (n.blk sc D []) F σ (upd H D (.lst [])) en S := by
  have nf : F D = none := by
    cases e : F D with
    | none => rfl
    | some o => rw [sr.sub _ _ e] at hD; cases hD
  have nb : n.B D = none := by
    cases e : n.B D with
    | none => rfl
    | some o => rw [sr.base _ _ e] at hD; cases hD
  have hh : Sub H (upd H D (.lst [])) := by
    intro a o h
    rw [upd_ne (by rintro rfl; rw [hD] at h; cases h)]; exact h
  have nc : D ∉ n.cells H := by
    intro h
    obtain ⟨u, hu⟩ := sr.there D h
    rw [hD] at hu; cases hu
  have ce : (n.blk sc D []).cells (upd H D (.lst [])) = n.cells H := sr.cgrow hh
  refine ⟨sr.len, sr.slen, ?_, sr.sub.trans hh, ?_, sr.dist, sr.st.heap fun c _ u h => hh _ _ h, fun a ha => (sr.c0 a ha).imp fun u h => hh _ _ h, ?_, ?_⟩
  · intro a o h
    have h : upd n.B D (.lst []) a = some o := h
    by_cases e : a = D
    · subst e; rw [upd_same] at h ⊢; exact h
    · rw [upd_ne e] at h; exact hh _ _ (sr.base _ _ h)
  · intro i e h
    refine SlotR.to (n := n) (n' := n.blk sc D []) rfl ce rfl (fun _ _ z => hh _ _ z) ?_ (sr.slot i e h)
    rintro p x rfl hp nbp
    obtain ⟨p', hp', _, _, _, ow⟩ := sr.at_own h
    rw [hp] at hp'; injection hp' with z; injection z with z; injection z with z; subst z
    obtain ⟨u, hu⟩ := ow.some
    refine ⟨?_, fun u h => hh _ _ h⟩
    show upd n.B D (.lst []) p = none
    rw [upd_ne (by rintro rfl; rw [hD] at hu; cases hu)]; exact nbp
  · intro a ha
    rw [ce] at ha
    refine ⟨(sr.cellF a ha).1, ?_⟩
    show upd n.B D (.lst []) a = none
    rw [upd_ne (by rintro rfl; exact nc ha)]; exact (sr.cellF a ha).2
  · intro a u h
    have h : upd n.B D (.lst []) a = some u := h
    show F a = if a = D then none else n.F0 a
    by_cases e : a = D
    · rw [if_pos e, e]; exact nf
    · rw [if_neg e]; rw [upd_ne e] at h; exact sr.fix a u h
theorem SR.grown {sc : Scope} {D : Addr} {v w : List V} (sr : SR (n.blk sc D v) F σ H en S) : SR (n.blk sc D w) F σ (upd H D (.lst w)) en S := by
  have hD : H D = some (.lst v) := sr.base D _ (show upd n.B D (.lst v) D = _ from upd_same)
  have nc : D ∉ n.cells H := by
    intro h
    have := (sr.cellF D h).2
    rw [show (n.blk sc D v).B D = some (.lst v) from upd_same] at this
    cases this
  have nf : F D = none := by
    have := sr.fix D _ (show (n.blk sc D v).B D = some (.lst v) from upd_same)
    rw [this]
    exact if_pos rfl
  have ce : (n.blk sc D w).cells (upd H D (.lst w)) = n.cells H := by
    refine SR.ceq (n := n.blk sc D v) sr ?_
    intro u h
    rw [upd_ne (fun e => nc (List.mem_append_left _ (by rw [← e]; exact List.mem_cons_self ..)))]; exact h
  refine ⟨sr.len, sr.slen, ?_, ?_, ?_, sr.dist, sr.st.heap fun c hc u h => ?_, fun a ha => by rw [upd_ne (by rintro rfl; exact nc (List.mem_append_right _ ha))]; exact sr.c0 a ha, ?_, ?_⟩
  · intro a o h
    have h : upd n.B D (.lst w) a = some o := h
    by_cases e : a = D
    · subst e; rw [upd_same] at h ⊢; exact h
    · rw [upd_ne e] at h ⊢
      exact sr.base _ _ (show upd n.B D (.lst v) a = _ by rw [upd_ne e]; exact h)
  · intro a o h
    rw [upd_ne (by rintro rfl; rw [nf] at h; cases h)]; exact sr.sub _ _ h
  · intro i e h
    refine SlotR.to (n := n.blk sc D v) (n' := n.blk sc D w) rfl ce rfl (fun dx _ z => by rw [upd_ne (by rintro rfl; rw [hD] at z; cases z)]; exact z) ?_ (sr.slot i e h)
    rintro p x rfl hp nbp
    have ne : p ≠ D := by
      rintro rfl
      rw [show (n.blk sc p v).B p = some (.lst v) from upd_same] at nbp; cases nbp
    refine ⟨?_, fun u h => by rw [upd_ne ne]; exact h⟩
    show upd n.B D (.lst w) p = none
    have nbp : upd n.B D (.lst v) p = none := nbp
    rw [upd_ne ne] at nbp ⊢; exact nbp
  · rw [upd_ne (by rintro rfl; exact nc (List.mem_append_left _ hc))]; exact h
  · intro a ha
    rw [ce] at ha
    refine ⟨(sr.cellF a ha).1, ?_⟩
    have := (sr.cellF a ha).2
    have this : upd n.B D (.lst v) a = none := this
    have ne : a ≠ D := by rintro rfl; exact nc ha
    show upd n.B D (.lst w) a = none
    rw [upd_ne ne] at this ⊢; exact this
  · intro a u h
    have h : upd n.B D (.lst w) a = some u := h
    by_cases e : a = D
    · subst e
      exact sr.fix a _ (show (n.blk sc a v).B a = some (.lst v) from upd_same)
    · rw [upd_ne e] at h
      exact sr.fix a u (show upd n.B D (.lst v) a = some u by rw [upd_ne e]; exact h)
theorem SR.leave {sc : Scope} {D : Addr} {v : List V} {F1 H1 : Hp} {en1 : En} {S1 : Stm} {vs : List Nat} (sr1 : SR n F1 σ H1 en1 S1) (hD : H1 D = none) (no : noOwn en1 vs = true) (sb : Sub F1 F)
    (sr : SR (n.blk sc D v) F (L2.wipe σ vs) H (wipeE en vs) S) : SR n F σ H (restore en1 en vs) S := by
  have nb : n.B D = none := by
    cases e : n.B D with
    | none => rfl
    | some o => rw [sr1.base _ _ e] at hD; cases hD
  have hnb : ∀ a u, n.B a = some u → a ≠ D := by rintro a u h rfl; rw [nb] at h; cases h
  have back : ∀ {j : Nat} {o : O}, (restore en1 en vs)[j]? = some (.own o) → j ∉ vs ∧ (wipeE en vs)[j]? = some (.own o) := by
    intro j o h
    by_cases hj : j ∈ vs
    · have := restore_in hj h
      rw [noOwn, List.all_eq_true] at no
      have k := no j hj
      cases q : en1[j]? with
      | none => rw [q] at this; cases this
      | some e =>
        rw [q] at this k
        simp only [Option.getD_some] at this
        subst this
        cases k
    · rw [restore_out hj] at h
      exact ⟨hj, by rw [wipeE_out hj]; exact h⟩
  refine ⟨?_, sr1.slen, ?_, sr.sub, ?_, ?_, sr.st, sr.c0, ?_, ?_⟩
  · rw [restore_len]
    have := sr.len
    rw [wipeE_len] at this
    exact this
  · intro a o h
    exact sr.base _ _ (show upd n.B D (.lst v) a = some o by rw [upd_ne (hnb a o h)]; exact h)
  · intro j e h
    by_cases hj : j ∈ vs
    · have he := restore_in hj h
      rw [noOwn, List.all_eq_true] at no
      have k := no j hj
      cases q : en1[j]? with
      | none => rw [q] at he; subst he; exact .none
      | some e1 =>
        rw [q] at he k
        simp only [Option.getD_some] at he
        subst he
        have := sr1.slot j e q
        generalize σ[j]? = z at this ⊢
        cases this with
        | none => exact .none
        | val r => exact .val (r.mono sb)
        | exc => cases k
        | own => cases k
    · rw [restore_out hj] at h
      have := sr.slot j e (by rw [wipeE_out hj]; exact h)
      rw [wipe_out hj] at this
      refine SlotR.to (n := n.blk sc D v) (n' := n) rfl rfl rfl (fun _ _ z => z) ?_ this
      rintro p x rfl hp nbp
      refine ⟨?_, fun u h => h⟩
      have nbp : upd n.B D (.lst v) p = none := nbp
      by_cases e : p = D
      · subst e; exact nb
      · rwa [upd_ne e] at nbp
  · intro i j o o' p hi hj si sj
    obtain ⟨a, hi⟩ := back hi
    obtain ⟨b, hj⟩ := back hj
    exact sr.dist i j o o' p hi hj (by rw [wipe_out a]; exact si) (by rw [wipe_out b]; exact sj)
  · intro a ha
    obtain ⟨h1, h2⟩ := sr.cellF a ha
    refine ⟨h1, ?_⟩
    have h2 : upd n.B D (.lst v) a = none := h2
    by_cases e : a = D
    · subst e; rw [upd_same] at h2; cases h2
    · rwa [upd_ne e] at h2
  · intro a u h
    have ne := hnb a u h
    have := sr.fix a u (show upd n.B D (.lst v) a = some u by rw [upd_ne ne]; exact h)
    rw [this]
    exact if_neg ne
end
end PX

set_option Elab.async false
set_option linter.all false
set_option maxRecDepth 100000
namespace PX
open PySem PySem.Spec L2
open PyProof.Rows hiding St

def Cn.wX (n : Cn) (X : Cx) : Cn := { n with X := X }
theorem SR.wX {n : Cn} {F H : Hp} {σ : St} {en : En} {S : Stm} (X : Cx) (sr : SR n F σ H en S) : SR (n.wX X) F σ H en S :=
  ⟨sr.len, sr.slen, sr.base, sr.sub, fun i e h => SlotR.to (n := n) (n' := n.wX X) rfl rfl rfl (fun _ _ z => z) (fun p x _ _ b => ⟨b, fun _ u => u⟩) (sr.slot i e h), sr.dist, sr.st, sr.c0, sr.cellF, sr.fix⟩
theorem SR.ofX {n : Cn} {F H : Hp} {σ : St} {en : En} {S : Stm} {X : Cx} (sr : SR (n.wX X) F σ H en S) : SR n F σ H en S := (SR.wX (n := n.wX X) n.X sr : SR ((n.wX X).wX n.X) F σ H en S)
theorem tM.wX {α β : Type} {n : Cn} {W : WX} {R : Hp → St → Hp → En → α → β → Prop} {f : En → Stm → Out α} {σ : St} {H : Hp} {Q : β → Hp → Prop} (X : Cx) (h : tM n W R f σ H Q) : tM (n.wX X) W R f σ H Q := by
  obtain ⟨en, S, F, sr, p⟩ := h
  refine ⟨en, S, F, sr.wX X, ?_⟩
  revert p
  generalize f en S = m
  intro p
  cases m with
  | ok r en S => exact fun v H F s sr rv => p v H F s sr.ofX rv
  | err C fs en S => exact fun c d H F s sr x => p c d H F s sr.ofX x
  | bad => exact p
theorem tgT.wX {n : Cn} {k : Nat} {t : Expr} {v : V} {σ : St} {H : Hp} {Q : St → Hp → Prop} (X : Cx) (h : tgT n k t v σ H Q) : tgT (n.wX X) k t v σ H Q := by
  obtain ⟨d, en, S, F, en', sr, rd, e, q⟩ := h
  exact ⟨d, en, S, F, en', sr.wX X, rd, e, fun σ' sr' k => q σ' sr'.ofX k⟩
/-- nothing is let out -/
def WF : WX := fun _ _ _ _ => False
theorem Good.blk {n : Cn} {W : WX} (G : Good n W) (hh : n.c.hot = false) (sc : Scope) (D : Addr) (v : List V) (s : Shared) (H : Hp) (C : Addr) (cl : List (Str × Addr)) (fp : List Addr) : Good ((n.blk sc D v).wX (n.X.blk s H sc (compEnvC sc cl C n.X.env) fp)) WF where
  N := G.N
  nd := G.nd
  dbg := G.dbg
  scope := by
    show relS sc n.X.env.scope = relS sc n.c.sc
    rw [G.scope]
  fn := fun x => rfl
  calm := G.calm
  room := G.room
  units := G.units
  tk := by
    show TakesB n.c.nn _ _
    cases n.c.nn <;>
    · rintro u s' ⟨_, _, _, _, _, _, _, _, _, _, _, _, _, _, _, _, w⟩
      exact w.elim
  mg := G.mg
  w := G.w
  tb := G.tb
  fns := by
    intro f D hD
    obtain ⟨a, h1, h2⟩ := G.fns f D hD
    exact ⟨a, h1, h2.kp, h2.ok⟩
  two := G.two
  exn := G.exn
  exs := fun a cls d h => by
    have h : n.ex = some (a, cls, d) := h
    rw [G.exn hh] at h; cases h
section
variable {ev : EC → Expr → En → Stm → Out OV} (ih : IH ev) {n : Cn} {W : WX} (G : Good n W)
include ih G
/-- the readings of a block: the list's address and what it holds are chosen at each turn -/
def bT (sc : Scope) (k : Nat) (t : Expr) : TG := fun v σ H Q => ∃ D w, tgT (n.blk sc D w) k t v σ H Q
def bM {α β : Type} (sc : Scope) (R : Hp → St → Hp → En → α → β → Prop) (f : En → Stm → Out α) : St → Hp → (β → Hp → Prop) → Prop := fun σ H Q => ∃ D w, tM (n.blk sc D w) WF R f σ H Q
theorem ifs_ok (k : Nat) (ifs : List Expr) : PTs n.X ifs (tM n W (RB n) (evIfs ev k n.c ifs)) := by
  cases ifs with
  | nil => exact ⟨fun pins s σ H Q I ⟨en, S, F, sr, p⟩ => pts_nil.run pins s σ H Q I (p true H F .refl sr rfl)⟩
  | cons e r =>
    cases r with
    | nil => exact ⟨fun pins s σ H Q I h => (pts_one (s_T ih G k e)).run pins s σ H Q I h⟩
    | cons => exact ⟨fun pins s σ H Q I ⟨en, S, F, sr, p⟩ => p.elim⟩
end
def lcF (ev : EC → Expr → En → Stm → Out OV) (elt : Expr) (c : EC) (acc : List D) (en : En) (S : Stm) : Out (List D) := (evV ev c elt en S).bind fun d en S => if acc.length < sizeLine then .ok (acc ++ [d]) en S else .bad
/-- the end of the turns -/
def Fin1 (n : Cn) (sc : Scope) (D : Addr) (F1 : Hp) (σ : St) (vs : List Nat) (Q : Hp → Prop) (m : Out (List PX.D)) : Prop := match m with
  | .ok ys en' S' => ∀ H' F' vys, Sub F1 F' → SR (n.blk sc D vys) F' (wipe σ vs) H' (wipeE en' vs) S' → RepA n.g F' vys ys → Q H'
  | _ => False
section
variable {ev : EC → Expr → En → Stm → Out OV} (ih : IH ev) {n : Cn} {W : WX} (G : Good n W)
include ih G
theorem lc_turns {k : Nat} {sc : Scope} {tg elt : Expr} {ifs : List Expr} {vs : List Nat} {xs : List PX.D} {F1 H1 : Hp} {σ : St} {J : It} {D : Addr} {Q : VK} {en1 : En} {S1 : Stm}
    (hv : ∀ i ∈ tgSlots 8 (n.c.blk sc) tg, i ∈ vs) (hJ : ItOk n.g F1 xs J) (sr1 : SR (n.blk sc D []) F1 (wipe σ vs) (upd H1 D (.lst [])) (wipeE en1 vs) S1)
    (p : Fin1 n sc D F1 σ vs (fun H => Q (.ref D) H) (turns ev k (n.c.blk sc) vs tg ifs (lcF ev elt (n.c.blk sc)) xs [] en1 S1)) :
    ∃ W : Nat → Nat → Hp → Prop, (∃ m, W 0 m (upd H1 D (.lst []))) ∧ ∀ i m H, W i m H →
      (J.stop i H ∧ Q (.ref D) H) ∨ (J.go i H ∧ ∃ Nx : Hp → Prop, (∀ H', Nx H' → ∃ m', m' < m ∧ W (i + 1) m' H') ∧ ∀ x H', J.yld i H x H' → bT (n := n) sc 8 tg x (wipe σ vs) H' fun σ2 H2 => wipe σ2 vs = wipe σ vs ∧
        bM (n := n) sc (RB n) (evIfs ev k (n.c.blk sc) ifs) σ2 H2 fun b H3 =>
        if b = true then bM (n := n) sc (RD n) (evV ev (n.c.blk sc) elt) σ2 H3 fun y H4 => ∃ acc, H4 D = some (.lst acc) ∧ acc.length < sizeLine ∧ Nx (upd H4 D (.lst (acc ++ [y]))) else Nx H3) := by
  refine ⟨fun i m H => m = xs.length - i ∧ i ≤ xs.length ∧ ∃ en2 S2 F2 acc vacc, SR (n.blk sc D vacc) F2 (wipe σ vs) H (wipeE en2 vs) S2 ∧ Sub F1 F2 ∧ RepA n.g F2 vacc acc ∧
    Fin1 n sc D F1 σ vs (fun H => Q (.ref D) H) (turns ev k (n.c.blk sc) vs tg ifs (lcF ev elt (n.c.blk sc)) (xs.drop i) acc en2 S2),
    ⟨_, rfl, Nat.zero_le _, en1, S1, F1, [], [], sr1, .refl, .nil, p⟩, ?_⟩
  rintro i m H ⟨rfl, hi, en2, S2, F2, acc, vacc, sr2, sb2, ra, p2⟩
  by_cases he : i = xs.length
  · left
    subst he
    refine ⟨hJ.stop _ H (sb2.trans sr2.sub) (Nat.le_refl _), ?_⟩
    rw [List.drop_length] at p2
    exact p2 H F2 vacc sb2 sr2 ra
  · right
    have hi' : i < xs.length := by omega
    refine ⟨hJ.go i H (sb2.trans sr2.sub) hi', fun H' => ∃ en2 S2 F2 acc vacc, SR (n.blk sc D vacc) F2 (wipe σ vs) H' (wipeE en2 vs) S2 ∧ Sub F1 F2 ∧ RepA n.g F2 vacc acc ∧
      Fin1 n sc D F1 σ vs (fun H => Q (.ref D) H) (turns ev k (n.c.blk sc) vs tg ifs (lcF ev elt (n.c.blk sc)) (xs.drop (i + 1)) acc en2 S2),
      fun H' h => ⟨_, by omega, rfl, by omega, h⟩, ?_⟩
    intro x H' hy
    obtain ⟨F3, d, gr, hd, rd⟩ := hJ.yld i H x H' F2 sb2 sr2.sub hi' hy
    have hdrop : xs.drop i = d :: xs.drop (i + 1) := by
      rw [List.drop_eq_getElem_cons hi']
      rw [List.getElem?_eq_getElem hi'] at hd
      injection hd with hd
      rw [hd]
    rw [hdrop] at p2
    unfold turns at p2
    have sr3 := sr2.grow gr
    cases q1 : asgN 8 (n.c.blk sc) tg d (wipeE en2 vs) with
    | none => rw [q1] at p2; exact p2.elim
    | some en3 =>
      rw [q1] at p2
      simp only at p2
      refine ⟨D, vacc, d, wipeE en2 vs, S2, F3, en3, sr3, rd, q1, ?_⟩
      intro σ2 sr4 hk
      have hw : wipe σ2 vs = wipe σ vs := by
        rw [← wipe_wipe (σ := σ)]
        refine wipe_eq (by rw [sr4.slen, wipe_length]; have := sr3.slen; rw [wipe_length] at this; exact this.symm) ?_
        intro j hj
        exact hk j fun h => hj (hv j h)
      refine ⟨hw, D, vacc, en3, S2, F3, sr4, ?_⟩
      cases q2 : evIfs ev k (n.c.blk sc) ifs en3 S2 with
      | bad => rw [q2] at p2; exact p2.elim
      | err => rw [q2] at p2; exact p2.elim
      | ok b en4 S4 =>
        rw [q2] at p2
        simp only [Out.bind] at p2
        rintro b' H4 F4 sb4 sr5 rfl
        cases b with
        | false =>
          simp only [Bool.false_eq_true, if_false] at p2 ⊢
          refine ⟨en4, S4, F4, acc, vacc, ?_, (sb2.trans gr.ff).trans sb4, ra.mono (gr.ff.trans sb4), p2⟩
          rw [← hw]; exact sr5.wipe vs
        | true =>
          simp only [if_true] at p2 ⊢
          unfold lcF at p2
          refine ⟨D, vacc, en4, S4, F4, sr5, ?_⟩
          cases q3 : evV ev (n.c.blk sc) elt en4 S4 with
          | bad => rw [q3] at p2; exact p2.elim
          | err => rw [q3] at p2; exact p2.elim
          | ok dy en5 S5 =>
            rw [q3] at p2
            simp only [Out.bind] at p2
            intro y H5 F5 sb5 sr6 rdy
            by_cases hz : acc.length < sizeLine
            case neg => rw [if_neg hz] at p2; exact p2.elim
            rw [if_pos hz] at p2
            simp only at p2
            have sbb : Sub F2 F5 := (gr.ff.trans sb4).trans sb5
            refine ⟨vacc, sr6.base D _ (show (n.blk sc D vacc).B D = _ from upd_same), by rw [ra.length]; exact hz, en5, S5, F5, acc ++ [dy], vacc ++ [y], ?_, sb2.trans sbb, (ra.mono sbb).append (.cons rdy .nil), p2⟩
            have := (sr6.grown (w := vacc ++ [y])).wipe vs
            rwa [hw] at this
structure LcC (n : Cn) (sc : Scope) (tg iter : Expr) : Prop where
  c1 : L2.blkC n.c.N n.c.sc sc (ownSlots n.c.N sc) = true ∧ n.c.hot = false
  c2 : (tgSlots 8 (n.c.blk sc) tg).all (fun i => ((ownSlots n.c.N sc).map (·.2)).contains i) = true
  c3 : isSet iter = false
theorem lc_bad {k : Nat} {elt : EC → List D → En → Stm → Out (List D)} {tg iter : Expr} {ifs : List Expr} {sc : Scope} (h : ¬ LcC n sc tg iter) : ∀ en S, compr ev k n.c sc [⟨tg, iter, ifs, 0⟩] elt en S = .bad := by
  intro en S
  by_cases c1 : L2.blkC n.c.N n.c.sc sc (ownSlots n.c.N sc) = true ∧ n.c.hot = false
  case neg => unfold compr; rw [if_neg c1]
  by_cases c2 : (tgSlots 8 (n.c.blk sc) tg).all (fun i => ((ownSlots n.c.N sc).map (·.2)).contains i) = true
  case neg => unfold compr; rw [if_pos c1]; simp only [c2, and_false, if_false, Bool.false_eq_true]
  by_cases c3 : isSet iter = false
  case neg =>
    have c3 : isSet iter = true := by cases h : isSet iter <;> first | rfl | exact absurd h c3
    unfold compr; rw [if_pos c1]; simp only [c3, Bool.true_eq_false, false_and, and_false, if_false]
  exact absurd ⟨c1, c2, c3⟩ h
theorem lc_read {k : Nat} {elt tg iter : Expr} {ifs : List Expr} {sc : Scope} (h : LcC n sc tg iter) : ∀ σ H Q, tM n W (RV n) (fun en S => (compr ev k n.c sc [⟨tg, iter, ifs, 0⟩] (lcF ev elt) en S).bind fun ds en S => .ok (.own (.lst ds)) en S) σ H Q →
    tLc (tM n W (RI n) (evItems ev n.c iter)) (bT (n := n) sc 8 tg) (bM (n := n) sc (RB n) (evIfs ev k (n.c.blk sc) ifs)) (bM (n := n) sc (RD n) (evV ev (n.c.blk sc) elt)) ((ownSlots n.c.N sc).map (·.2)) σ H Q := by
  obtain ⟨c1, c2, c3⟩ := h
  have hv : ∀ i ∈ tgSlots 8 (n.c.blk sc) tg, i ∈ (ownSlots n.c.N sc).map (·.2) := by
    intro i hi
    rw [List.all_eq_true] at c2
    have := c2 i hi
    simpa using this
  rintro σ H Q ⟨en, S, F, sr, p⟩
  simp only [compr, if_pos c1, c2, c3, and_self, if_true, compr1, bind_assoc] at p
  refine ⟨en, S, F, sr, Post.bind p ?_⟩
  intro xs en1 S1 J H1 F1 _ sb sr1 hJ p D hD
  by_cases no : noOwn en1 ((ownSlots n.c.N sc).map (·.2)) = true
  case neg => rw [if_neg no] at p; exact p.elim
  rw [if_pos no] at p
  refine lc_turns ih G hv hJ ((sr1.enter sc hD).wipe _) (Q := Q) ?_
  revert p
  generalize turns ev k (n.c.blk sc) ((ownSlots n.c.N sc).map (·.2)) tg ifs _ xs [] en1 S1 = m
  intro p
  cases m with
  | bad => exact p
  | err => exact p
  | ok ys en' S' =>
    intro H' F' vys sb' sr' ry
    have nf := sr'.fix D _ (show (n.blk sc D vys).B D = some (.lst vys) from upd_same)
    have nf : F' D = none := nf.trans (if_pos rfl)
    have nb : n.B D = none := by
      cases e : n.B D with
      | none => rfl
      | some o => rw [sr1.base _ _ e] at hD; cases hD
    have nc : D ∉ n.cells H' := fun h => by
      have := (sr'.cellF D h).2
      rw [show (n.blk sc D vys).B D = some (.lst vys) from upd_same] at this; cases this
    have srL := SR.leave sr1 hD no sb' sr'
    refine p (.ref D) H' F' sb' srL (.own nf nb nc (.lst (sr'.base D _ (show (n.blk sc D vys).B D = _ from upd_same)) ry) ?_)
    intro i o' hi hs
    obtain ⟨p', hp', _, _, _, ow⟩ := srL.at_own hi
    by_cases hj : i ∈ (ownSlots n.c.N sc).map (·.2)
    · have := restore_in hj hi
      rw [noOwn, List.all_eq_true] at no
      have k := no i hj
      cases q : en1[i]? with
      | none => rw [q] at this; cases this
      | some e =>
        rw [q] at this k
        simp only [Option.getD_some] at this
        subst this
        cases k
    · rw [restore_out hj] at hi
      have h2 := sr'.slot i (.own o') (by rw [wipeE_out hj]; exact hi)
      rw [wipe_out hj, hs] at h2
      cases h2 with
      | own a b c d =>
        have b : upd n.B D (.lst vys) D = none := b
        rw [upd_same] at b; cases b
theorem lc_own {sc : Scope} {tg iter : Expr} (h : LcC n sc tg iter) : BlkOk n.X.N n.X.env.scope sc (ownSlots n.c.N sc) := by
  rw [G.N, G.scope]; exact blkOk_by h.c1.1
theorem lc_g (hh : n.c.hot = false) (sc : Scope) (tg : Expr) : ∀ (s : Shared) (H : Hp) (C : Addr) (cl : List (Str × Addr)) (fp : List Addr), PG (n.X.blk s H sc (compEnvC sc cl C n.X.env) fp) tg (bT (n := n) sc 8 tg) := by
  intro s H C cl fp
  refine ⟨fun pins s' σ H' v u Q I r ⟨D, w, h⟩ => ?_⟩
  exact (g_asg (G.blk hh sc D w s H C cl fp) 8 tg).run pins s' σ H' v u Q I r (h.wX _)
theorem lc_t (hh : n.c.hot = false) (sc : Scope) (k : Nat) (ifs : List Expr) : ∀ (s : Shared) (H : Hp) (C : Addr) (cl : List (Str × Addr)) (fp : List Addr), PTs (n.X.blk s H sc (compEnvC sc cl C n.X.env) fp) ifs (bM (n := n) sc (RB n) (evIfs ev k (n.c.blk sc) ifs)) := by
  intro s H C cl fp
  refine ⟨fun pins s' σ H' Q I ⟨D, w, h⟩ => ?_⟩
  exact (ifs_ok ih (G.blk hh sc D w s H C cl fp) k ifs).run pins s' σ H' Q I (tM.wX _ h)
theorem lc_e (hh : n.c.hot = false) (sc : Scope) (elt : Expr) : ∀ (s : Shared) (H : Hp) (C : Addr) (cl : List (Str × Addr)) (fp : List Addr), PE (n.X.blk s H sc (compEnvC sc cl C n.X.env) fp) elt (bM (n := n) sc (RD n) (evV ev (n.c.blk sc) elt)) := by
  intro s H C cl fp
  refine ⟨fun pins s' σ H' Q I ⟨D, w, h⟩ => ?_⟩
  exact (s_V ih (G.blk hh sc D w s H C cl fp) elt).run pins s' σ H' Q I (tM.wX _ h)
theorem no_set {iter : Expr} (c3 : isSet iter = false) : ∀ x, foldedSetIterable iter n.X.env x = pure x := by
  intro x
  cases iter <;> first | rfl | cases c3
theorem s_lc {k : Nat} (elt tg iter : Expr) (ifs : List Expr) (sc : Scope) (pos : Pos) :
    SE n W (.ListComp elt [⟨tg, iter, ifs, 0⟩] sc pos) (fun en S => (compr ev k n.c sc [⟨tg, iter, ifs, 0⟩] (lcF ev elt) en S).bind fun ds en S => .ok (.own (.lst ds)) en S) := by
  by_cases c : LcC n sc tg iter
  case neg => exact pe_never' (tM_bad fun en S => by rw [lc_bad ih G c]; rfl)
  exact PE.imp (pe_lc (G.calm c.c1.2) (by rw [G.N]; exact G.nd) (s_items ih G tg iter) (lc_own ih G c) (lc_g ih G c.c1.2 sc tg) (lc_t ih G c.c1.2 sc k ifs) (lc_e ih G c.c1.2 sc elt) (no_set ih G c.c3)) (lc_read ih G c)
/-- name = a list comprehension -/
theorem s_setLc {k i : Nat} {y : Str} {py : Pos} (elt tg iter : Expr) (ifs : List Expr) (sc : Scope) (pos spos : Pos) (hy : n.c.N[i]? = some y) (hl : n.c.sc.names.lookup y = some .local) (hline : (py.line == pos.line) = true)
    (ha : (sc.names.any fun (n, k) => n == y && (k == .local || k == .cell)) = false) :
    PS n.X (.Assign [.Name y py] (.ListComp elt [⟨tg, iter, ifs, 0⟩] sc pos) spos) (tAsg (tM n W (RV n) (fun en S => (compr ev k n.c sc [⟨tg, iter, ifs, 0⟩] (lcF ev elt) en S).bind fun ds en S => .ok (.own (.lst ds)) en S)) (gName i)) := by
  by_cases c : LcC n sc tg iter
  case neg =>
    refine ⟨fun pins s σ H D I ⟨en, S, F, sr, p⟩ => ?_⟩
    simp only [lc_bad ih G c] at p
    exact p.elim
  have hls : n.X.env.scope.names.lookup y = some .local := by rw [G.scope]; exact hl
  refine ⟨fun pins s σ H D I h => ?_⟩
  exact (ps_setLc (G.calm c.c1.2) (by rw [G.N]; exact G.nd) (by rw [G.N]; exact hy) hls (sw_true I.ok.kind hls hline ha) (s_items ih G tg iter) (lc_own ih G c) (lc_g ih G c.c1.2 sc tg) (lc_t ih G c.c1.2 sc k ifs) (lc_e ih G c.c1.2 sc elt) (no_set ih G c.c3)).run pins s σ H D I (lc_read ih G c _ _ _ h)
end
end PX

set_option Elab.async false
set_option linter.all false
set_option maxRecDepth 100000
/-! PxLc3: comprehensions of two clauses. -/
namespace PX
open PySem PySem.Spec L2
open PyProof.Rows hiding St

theorem wipe_sub {vs1 vs : List Nat} (h : ∀ i ∈ vs1, i ∈ vs) (σ : St) : wipe (wipe σ vs1) vs = wipe σ vs := wipe_eq (wipe_length σ vs1) fun i hi => wipe_out fun k => hi (h i k)
theorem wipeE_at : ∀ {vs : List Nat} {en : En} {j : Nat}, j ∈ vs → j < en.length → (wipeE en vs)[j]? = some .none
  | i :: r, en, j, h, hl => by
    show ((wipeE en r).set i .none)[j]? = _
    by_cases e : j = i
    · subst e
      rw [List.getElem?_set_self (by rw [wipeE_len]; exact hl)]
    · rw [List.getElem?_set_ne (Ne.symm e)]
      rcases List.mem_cons.mp h with h | h
      · exact absurd h e
      · exact wipeE_at h hl
theorem wipeE_sub {vs1 vs : List Nat} (h : ∀ i ∈ vs1, i ∈ vs) (en : En) : wipeE (wipeE en vs1) vs = wipeE en vs := by
  apply List.ext_getElem?
  intro j
  by_cases hj : j ∈ vs
  · by_cases hl : j < en.length
    · rw [wipeE_at hj (by rw [wipeE_len]; exact hl), wipeE_at hj hl]
    · rw [List.getElem?_eq_none (by rw [wipeE_len, wipeE_len]; omega), List.getElem?_eq_none (by rw [wipeE_len]; omega)]
  · rw [wipeE_out hj, wipeE_out hj, wipeE_out fun k => hj (h j k)]
section
variable {ev : EC → Expr → En → Stm → Out OV} (ih : IH ev) {n : Cn} {W : WX} (G : Good n W)
include ih G
/-- the inner turns -/
theorem lc_turnsN {k : Nat} {sc : Scope} {tg elt : Expr} {ifs : List Expr} {vs : List Nat} {xs : List PX.D} {F1 H1 : Hp} {σ : St} {J : It} {D : Addr} {N : Hp → Prop} {en1 : En} {S1 : Stm} {acc0 : List PX.D} {vacc0 : List V}
    (hv : ∀ i ∈ tgSlots 8 (n.c.blk sc) tg, i ∈ vs) (hJ : ItOk n.g F1 xs J) (sr1 : SR (n.blk sc D vacc0) F1 (wipe σ vs) H1 (wipeE en1 vs) S1) (ra0 : RepA n.g F1 vacc0 acc0)
    (p : Fin1 n sc D F1 σ vs N (turns ev k (n.c.blk sc) vs tg ifs (lcF ev elt (n.c.blk sc)) xs acc0 en1 S1)) :
    ∃ W : Nat → Nat → Hp → Prop, (∃ m, W 0 m H1) ∧ ∀ i m H, W i m H →
      (J.stop i H ∧ N H) ∨ (J.go i H ∧ ∃ Nx : Hp → Prop, (∀ H', Nx H' → ∃ m', m' < m ∧ W (i + 1) m' H') ∧ ∀ x H', J.yld i H x H' → bT (n := n) sc 8 tg x (wipe σ vs) H' fun σ2 H2 => wipe σ2 vs = wipe σ vs ∧
        bM (n := n) sc (RB n) (evIfs ev k (n.c.blk sc) ifs) σ2 H2 fun b H3 =>
        if b = true then bM (n := n) sc (RD n) (evV ev (n.c.blk sc) elt) σ2 H3 fun y H4 => ∃ acc, H4 D = some (.lst acc) ∧ acc.length < sizeLine ∧ Nx (upd H4 D (.lst (acc ++ [y]))) else Nx H3) := by
  refine ⟨fun i m H => m = xs.length - i ∧ i ≤ xs.length ∧ ∃ en2 S2 F2 acc vacc, SR (n.blk sc D vacc) F2 (wipe σ vs) H (wipeE en2 vs) S2 ∧ Sub F1 F2 ∧ RepA n.g F2 vacc acc ∧
    Fin1 n sc D F1 σ vs N (turns ev k (n.c.blk sc) vs tg ifs (lcF ev elt (n.c.blk sc)) (xs.drop i) acc en2 S2),
    ⟨_, rfl, Nat.zero_le _, en1, S1, F1, acc0, vacc0, sr1, .refl, ra0, p⟩, ?_⟩
  rintro i m H ⟨rfl, hi, en2, S2, F2, acc, vacc, sr2, sb2, ra, p2⟩
  by_cases he : i = xs.length
  · left
    subst he
    refine ⟨hJ.stop _ H (sb2.trans sr2.sub) (Nat.le_refl _), ?_⟩
    rw [List.drop_length] at p2
    exact p2 H F2 vacc sb2 sr2 ra
  · right
    have hi' : i < xs.length := by omega
    refine ⟨hJ.go i H (sb2.trans sr2.sub) hi', fun H' => ∃ en2 S2 F2 acc vacc, SR (n.blk sc D vacc) F2 (wipe σ vs) H' (wipeE en2 vs) S2 ∧ Sub F1 F2 ∧ RepA n.g F2 vacc acc ∧
      Fin1 n sc D F1 σ vs N (turns ev k (n.c.blk sc) vs tg ifs (lcF ev elt (n.c.blk sc)) (xs.drop (i + 1)) acc en2 S2),
      fun H' h => ⟨_, by omega, rfl, by omega, h⟩, ?_⟩
    intro x H' hy
    obtain ⟨F3, d, gr, hd, rd⟩ := hJ.yld i H x H' F2 sb2 sr2.sub hi' hy
    have hdrop : xs.drop i = d :: xs.drop (i + 1) := by
      rw [List.drop_eq_getElem_cons hi']
      rw [List.getElem?_eq_getElem hi'] at hd
      injection hd with hd
      rw [hd]
    rw [hdrop] at p2
    unfold turns at p2
    have sr3 := sr2.grow gr
    cases q1 : asgN 8 (n.c.blk sc) tg d (wipeE en2 vs) with
    | none => rw [q1] at p2; exact p2.elim
    | some en3 =>
      rw [q1] at p2
      simp only at p2
      refine ⟨D, vacc, d, wipeE en2 vs, S2, F3, en3, sr3, rd, q1, ?_⟩
      intro σ2 sr4 hk
      have hw : wipe σ2 vs = wipe σ vs := by
        rw [← wipe_wipe (σ := σ)]
        refine wipe_eq (by rw [sr4.slen, wipe_length]; have := sr3.slen; rw [wipe_length] at this; exact this.symm) ?_
        intro j hj
        exact hk j fun h => hj (hv j h)
      refine ⟨hw, D, vacc, en3, S2, F3, sr4, ?_⟩
      cases q2 : evIfs ev k (n.c.blk sc) ifs en3 S2 with
      | bad => rw [q2] at p2; exact p2.elim
      | err => rw [q2] at p2; exact p2.elim
      | ok b en4 S4 =>
        rw [q2] at p2
        simp only [Out.bind] at p2
        rintro b' H4 F4 sb4 sr5 rfl
        cases b with
        | false =>
          simp only [Bool.false_eq_true, if_false] at p2 ⊢
          refine ⟨en4, S4, F4, acc, vacc, ?_, (sb2.trans gr.ff).trans sb4, ra.mono (gr.ff.trans sb4), p2⟩
          rw [← hw]; exact sr5.wipe vs
        | true =>
          simp only [if_true] at p2 ⊢
          unfold lcF at p2
          refine ⟨D, vacc, en4, S4, F4, sr5, ?_⟩
          cases q3 : evV ev (n.c.blk sc) elt en4 S4 with
          | bad => rw [q3] at p2; exact p2.elim
          | err => rw [q3] at p2; exact p2.elim
          | ok dy en5 S5 =>
            rw [q3] at p2
            simp only [Out.bind] at p2
            intro y H5 F5 sb5 sr6 rdy
            by_cases hz : acc.length < sizeLine
            case neg => rw [if_neg hz] at p2; exact p2.elim
            rw [if_pos hz] at p2
            simp only at p2
            have sbb : Sub F2 F5 := (gr.ff.trans sb4).trans sb5
            refine ⟨vacc, sr6.base D _ (show (n.blk sc D vacc).B D = _ from upd_same), by rw [ra.length]; exact hz, en5, S5, F5, acc ++ [dy], vacc ++ [y], ?_, sb2.trans sbb, (ra.mono sbb).append (.cons rdy .nil), p2⟩
            have := (sr6.grown (w := vacc ++ [y])).wipe vs
            rwa [hw] at this
/-- what the inner clause does -/
def inF (ev : EC → Expr → En → Stm → Out OV) (k : Nat) (g1 : Comprehension) (elt : Expr) (c : EC) (vs1 : List Nat) (acc : List D) (en : En) (S : Stm) : Out (List D) :=
  (evItems ev c g1.iter en S).bind fun ys en S => turns ev k c vs1 g1.target g1.ifs (lcF ev elt c) ys acc en S
theorem lc_turns2 {k : Nat} {sc : Scope} {tg tg1 iter1 elt : Expr} {ifs ifs1 : List Expr} {vs vs1 : List Nat} {xs : List PX.D} {F1 H1 : Hp} {σ : St} {J : It} {D : Addr} {N : Hp → Prop} {en1 : En} {S1 : Stm} {acc0 : List PX.D} {vacc0 : List V}
    (hv : ∀ i ∈ tgSlots 8 (n.c.blk sc) tg, i ∈ vs) (hv1 : ∀ i ∈ tgSlots 8 (n.c.blk sc) tg1, i ∈ vs1) (hvv : ∀ i ∈ vs1, i ∈ vs) (hJ : ItOk n.g F1 xs J) (sr1 : SR (n.blk sc D vacc0) F1 (wipe σ vs) H1 (wipeE en1 vs) S1) (ra0 : RepA n.g F1 vacc0 acc0)
    (p : Fin1 n sc D F1 σ vs N (turns ev k (n.c.blk sc) vs tg ifs (inF ev k ⟨tg1, iter1, ifs1, 0⟩ elt (n.c.blk sc) vs1) xs acc0 en1 S1)) :
    ∃ W : Nat → Nat → Hp → Prop, (∃ m, W 0 m H1) ∧ ∀ i m H, W i m H →
      (J.stop i H ∧ N H) ∨ (J.go i H ∧ ∃ Nx : Hp → Prop, (∀ H', Nx H' → ∃ m', m' < m ∧ W (i + 1) m' H') ∧ ∀ x H', J.yld i H x H' → bT (n := n) sc 8 tg x (wipe σ vs) H' fun σ2 H2 => wipe σ2 vs = wipe σ vs ∧
        bM (n := n) sc (RB n) (evIfs ev k (n.c.blk sc) ifs) σ2 H2 fun b H3 =>
        if b = true then bM (n := n) sc (RI n) (evItems ev (n.c.blk sc) iter1) σ2 H3 fun J1 H4 => ∃ W1 : Nat → Nat → Hp → Prop, (∃ m, W1 0 m H4) ∧ ∀ j k' H, W1 j k' H →
          (J1.stop j H ∧ Nx H) ∨ (J1.go j H ∧ ∃ Nx1 : Hp → Prop, (∀ H', Nx1 H' → ∃ m', m' < k' ∧ W1 (j + 1) m' H') ∧ ∀ x H', J1.yld j H x H' → bT (n := n) sc 8 tg1 x (wipe σ2 vs1) H' fun σ3 H5 => wipe σ3 vs1 = wipe σ2 vs1 ∧
            bM (n := n) sc (RB n) (evIfs ev k (n.c.blk sc) ifs1) σ3 H5 fun b H6 =>
            if b = true then bM (n := n) sc (RD n) (evV ev (n.c.blk sc) elt) σ3 H6 fun y H7 => ∃ acc, H7 D = some (.lst acc) ∧ acc.length < sizeLine ∧ Nx1 (upd H7 D (.lst (acc ++ [y]))) else Nx1 H6) else Nx H3) := by
  refine ⟨fun i m H => m = xs.length - i ∧ i ≤ xs.length ∧ ∃ en2 S2 F2 acc vacc, SR (n.blk sc D vacc) F2 (wipe σ vs) H (wipeE en2 vs) S2 ∧ Sub F1 F2 ∧ RepA n.g F2 vacc acc ∧
    Fin1 n sc D F1 σ vs N (turns ev k (n.c.blk sc) vs tg ifs (inF ev k ⟨tg1, iter1, ifs1, 0⟩ elt (n.c.blk sc) vs1) (xs.drop i) acc en2 S2),
    ⟨_, rfl, Nat.zero_le _, en1, S1, F1, acc0, vacc0, sr1, .refl, ra0, p⟩, ?_⟩
  rintro i m H ⟨rfl, hi, en2, S2, F2, acc, vacc, sr2, sb2, ra, p2⟩
  by_cases he : i = xs.length
  · left
    subst he
    refine ⟨hJ.stop _ H (sb2.trans sr2.sub) (Nat.le_refl _), ?_⟩
    rw [List.drop_length] at p2
    exact p2 H F2 vacc sb2 sr2 ra
  · right
    have hi' : i < xs.length := by omega
    refine ⟨hJ.go i H (sb2.trans sr2.sub) hi', fun H' => ∃ en2 S2 F2 acc vacc, SR (n.blk sc D vacc) F2 (wipe σ vs) H' (wipeE en2 vs) S2 ∧ Sub F1 F2 ∧ RepA n.g F2 vacc acc ∧
      Fin1 n sc D F1 σ vs N (turns ev k (n.c.blk sc) vs tg ifs (inF ev k ⟨tg1, iter1, ifs1, 0⟩ elt (n.c.blk sc) vs1) (xs.drop (i + 1)) acc en2 S2),
      fun H' h => ⟨_, by omega, rfl, by omega, h⟩, ?_⟩
    intro x H' hy
    obtain ⟨F3, d, gr, hd, rd⟩ := hJ.yld i H x H' F2 sb2 sr2.sub hi' hy
    have hdrop : xs.drop i = d :: xs.drop (i + 1) := by
      rw [List.drop_eq_getElem_cons hi']
      rw [List.getElem?_eq_getElem hi'] at hd
      injection hd with hd
      rw [hd]
    rw [hdrop] at p2
    unfold turns at p2
    have sr3 := sr2.grow gr
    cases q1 : asgN 8 (n.c.blk sc) tg d (wipeE en2 vs) with
    | none => rw [q1] at p2; exact p2.elim
    | some en3 =>
      rw [q1] at p2
      simp only at p2
      refine ⟨D, vacc, d, wipeE en2 vs, S2, F3, en3, sr3, rd, q1, ?_⟩
      intro σ2 sr4 hk
      have hw : wipe σ2 vs = wipe σ vs := by
        rw [← wipe_wipe (σ := σ)]
        refine wipe_eq (by rw [sr4.slen, wipe_length]; have := sr3.slen; rw [wipe_length] at this; exact this.symm) ?_
        intro j hj
        exact hk j fun h => hj (hv j h)
      refine ⟨hw, D, vacc, en3, S2, F3, sr4, ?_⟩
      cases q2 : evIfs ev k (n.c.blk sc) ifs en3 S2 with
      | bad => rw [q2] at p2; exact p2.elim
      | err => rw [q2] at p2; exact p2.elim
      | ok b en4 S4 =>
        rw [q2] at p2
        simp only [Out.bind] at p2
        rintro b' H4 F4 sb4 sr5 rfl
        cases b with
        | false =>
          simp only [Bool.false_eq_true, if_false] at p2 ⊢
          refine ⟨en4, S4, F4, acc, vacc, ?_, (sb2.trans gr.ff).trans sb4, ra.mono (gr.ff.trans sb4), p2⟩
          rw [← hw]; exact sr5.wipe vs
        | true =>
          simp only [if_true] at p2 ⊢
          unfold inF at p2
          refine ⟨D, vacc, en4, S4, F4, sr5, ?_⟩
          cases q3 : evItems ev (n.c.blk sc) iter1 en4 S4 with
          | bad => rw [q3] at p2; exact p2.elim
          | err => rw [q3] at p2; exact p2.elim
          | ok ys en5 S5 =>
            rw [q3] at p2
            simp only [Out.bind] at p2
            intro J1 H5 F5 sb5 sr6 hJ1
            have sbb : Sub F2 F5 := (gr.ff.trans sb4).trans sb5
            refine lc_turnsN ih G (σ := σ2) (en1 := en5) hv1 hJ1 (sr6.wipe vs1) (ra.mono sbb) ?_
            revert p2
            show Fin1 n sc D F1 σ vs N ((turns ev k (n.c.blk sc) vs1 tg1 ifs1 (lcF ev elt (n.c.blk sc)) ys acc en5 S5).bind _) → _
            generalize turns ev k (n.c.blk sc) vs1 tg1 ifs1 (lcF ev elt (n.c.blk sc)) ys acc en5 S5 = m
            intro p2
            cases m with
            | bad => exact p2
            | err => exact p2
            | ok acc' en6 S6 =>
              intro H6 F6 vys sb6 sr7 ry
              refine ⟨en6, S6, F6, acc', vys, ?_, (sb2.trans sbb).trans sb6, ry, p2⟩
              have := sr7.wipe vs
              rw [wipe_sub hvv, wipeE_sub hvv, hw] at this
              exact this
structure LcC2 (n : Cn) (sc : Scope) (tg iter tg1 iter1 : Expr) : Prop where
  c1 : L2.blkC n.c.N n.c.sc sc (ownSlots n.c.N sc) = true ∧ n.c.hot = false
  c2 : (tgSlots 8 (n.c.blk sc) tg).all (fun i => ((ownSlots n.c.N sc).map (·.2)).contains i) = true
  c2' : (tgSlots 8 (n.c.blk sc) tg1).all (fun i => ((ownSlots n.c.N sc).map (·.2)).contains i) = true
  c3 : isSet iter = false
  c3' : isSet iter1 = false
theorem lc_bad2 {k : Nat} {elt : EC → List D → En → Stm → Out (List D)} {tg iter tg1 iter1 : Expr} {ifs ifs1 : List Expr} {a b : Int} {sc : Scope} (h : ¬ (LcC2 n sc tg iter tg1 iter1 ∧ a = 0 ∧ b = 0)) : ∀ en S, compr ev k n.c sc [⟨tg, iter, ifs, a⟩, ⟨tg1, iter1, ifs1, b⟩] elt en S = .bad := by
  intro en S
  by_cases c1 : L2.blkC n.c.N n.c.sc sc (ownSlots n.c.N sc) = true ∧ n.c.hot = false
  case neg => unfold compr; rw [if_neg c1]
  unfold compr
  rw [if_pos c1]
  refine if_neg fun c => ?_
  obtain ⟨⟨a1, a2⟩, ⟨s1, s2⟩, t1, t2⟩ := c
  exact h ⟨⟨c1, t1, t2, s1, s2⟩, a1, a2⟩
theorem lc_read2 {k : Nat} {elt tg iter tg1 iter1 : Expr} {ifs ifs1 : List Expr} {sc : Scope} (h : LcC2 n sc tg iter tg1 iter1) : ∀ σ H Q, tM n W (RV n) (fun en S => (compr ev k n.c sc [⟨tg, iter, ifs, 0⟩, ⟨tg1, iter1, ifs1, 0⟩] (lcF ev elt) en S).bind fun ds en S => .ok (.own (.lst ds)) en S) σ H Q →
    tLc2 (tM n W (RI n) (evItems ev n.c iter)) (bT (n := n) sc 8 tg) (bM (n := n) sc (RB n) (evIfs ev k (n.c.blk sc) ifs)) (bM (n := n) sc (RI n) (evItems ev (n.c.blk sc) iter1)) (bT (n := n) sc 8 tg1) (bM (n := n) sc (RB n) (evIfs ev k (n.c.blk sc) ifs1)) (bM (n := n) sc (RD n) (evV ev (n.c.blk sc) elt))
      ((ownSlots n.c.N sc).map (·.2)) (tgSlots 8 (n.c.blk sc) tg1) σ H Q := by
  obtain ⟨c1, c2, c2', c3, c3'⟩ := h
  have hsub : ∀ {l : List Nat}, l.all (fun i => ((ownSlots n.c.N sc).map (·.2)).contains i) = true → ∀ i ∈ l, i ∈ (ownSlots n.c.N sc).map (·.2) := by
    intro l hl i hi
    rw [List.all_eq_true] at hl
    have := hl i hi
    simpa using this
  rintro σ H Q ⟨en, S, F, sr, p⟩
  simp only [compr, if_pos c1, c2, c2', c3, c3', and_self, if_true, compr2, bind_assoc] at p
  refine ⟨en, S, F, sr, Post.bind p ?_⟩
  intro xs en1 S1 J H1 F1 _ sb sr1 hJ p D hD
  by_cases no : noOwn en1 ((ownSlots n.c.N sc).map (·.2)) = true
  case neg => rw [if_neg no] at p; exact p.elim
  rw [if_pos no] at p
  refine lc_turns2 ih G (hsub c2) (fun _ h => h) (hsub c2') hJ ((sr1.enter sc hD).wipe _) .nil (N := fun H => Q (.ref D) H) ?_
  revert p
  show Post n W σ F1 (RV n) ((((turns ev k (n.c.blk sc) ((ownSlots n.c.N sc).map (·.2)) tg ifs (inF ev k ⟨tg1, iter1, ifs1, 0⟩ elt (n.c.blk sc) (tgSlots 8 (n.c.blk sc) tg1)) xs [] en1 S1).calm).bind _).bind _) Q → _
  generalize turns ev k (n.c.blk sc) ((ownSlots n.c.N sc).map (·.2)) tg ifs _ xs [] en1 S1 = m
  intro p
  cases m with
  | bad => exact p
  | err => exact p
  | ok ys en' S' =>
    intro H' F' vys sb' sr' ry
    have nf := sr'.fix D _ (show (n.blk sc D vys).B D = some (.lst vys) from upd_same)
    have nf : F' D = none := nf.trans (if_pos rfl)
    have nb : n.B D = none := by
      cases e : n.B D with
      | none => rfl
      | some o => rw [sr1.base _ _ e] at hD; cases hD
    have nc : D ∉ n.cells H' := fun h => by
      have := (sr'.cellF D h).2
      rw [show (n.blk sc D vys).B D = some (.lst vys) from upd_same] at this; cases this
    have srL := SR.leave sr1 hD no sb' sr'
    refine p (.ref D) H' F' sb' srL (.own nf nb nc (.lst (sr'.base D _ (show (n.blk sc D vys).B D = _ from upd_same)) ry) ?_)
    intro i o' hi hs
    obtain ⟨p', hp', _, _, _, ow⟩ := srL.at_own hi
    by_cases hj : i ∈ (ownSlots n.c.N sc).map (·.2)
    · have := restore_in hj hi
      rw [noOwn, List.all_eq_true] at no
      have k := no i hj
      cases q : en1[i]? with
      | none => rw [q] at this; cases this
      | some e =>
        rw [q] at this k
        simp only [Option.getD_some] at this
        subst this
        cases k
    · rw [restore_out hj] at hi
      have h2 := sr'.slot i (.own o') (by rw [wipeE_out hj]; exact hi)
      rw [wipe_out hj, hs] at h2
      cases h2 with
      | own a b c d =>
        have b : upd n.B D (.lst vys) D = none := b
        rw [upd_same] at b; cases b
theorem lc_i (hh : n.c.hot = false) (sc : Scope) (tg iter : Expr) : ∀ (s : Shared) (H : Hp) (C : Addr) (cl : List (Str × Addr)) (fp : List Addr), PI (n.X.blk s H sc (compEnvC sc cl C n.X.env) fp) tg iter (bM (n := n) sc (RI n) (evItems ev (n.c.blk sc) iter)) := by
  intro s H C cl fp
  refine ⟨fun pins s' σ H' Q I ⟨D, w, h⟩ => ?_⟩
  exact (s_items ih (G.blk hh sc D w s H C cl fp) tg iter).run pins s' σ H' Q I (tM.wX _ h)
theorem no_set1 {iter : Expr} (c3 : isSet iter = false) : ∀ env x, foldedSetIterable iter env x = pure x := by
  intro env x
  cases iter <;> first | rfl | cases c3
theorem s_lc2 {k : Nat} (elt tg iter tg1 iter1 : Expr) (ifs ifs1 : List Expr) (sc : Scope) (pos : Pos) (a b : Int) :
    SE n W (.ListComp elt [⟨tg, iter, ifs, a⟩, ⟨tg1, iter1, ifs1, b⟩] sc pos) (fun en S => (compr ev k n.c sc [⟨tg, iter, ifs, a⟩, ⟨tg1, iter1, ifs1, b⟩] (lcF ev elt) en S).bind fun ds en S => .ok (.own (.lst ds)) en S) := by
  by_cases c : LcC2 n sc tg iter tg1 iter1 ∧ a = 0 ∧ b = 0
  case neg => exact pe_never' (tM_bad fun en S => by rw [lc_bad2 ih G c]; rfl)
  obtain ⟨c, rfl, rfl⟩ := c
  have hv : ∀ i ∈ tgSlots 8 (n.c.blk sc) tg1, i ∈ (ownSlots n.c.N sc).map (·.2) := by
    intro i hi
    have h := c.c2'
    rw [List.all_eq_true] at h
    have := h i hi
    simpa using this
  have ok : BlkOk n.X.N n.X.env.scope sc (ownSlots n.c.N sc) := by
    rw [G.N, G.scope]; exact blkOk_by c.c1.1
  exact PE.imp (pe_lc2 (G.calm c.c1.2) (by rw [G.N]; exact G.nd) (s_items ih G tg iter) ok hv (lc_g ih G c.c1.2 sc tg) (lc_t ih G c.c1.2 sc k ifs) (lc_i ih G c.c1.2 sc tg1 iter1) (lc_g ih G c.c1.2 sc tg1) (lc_t ih G c.c1.2 sc k ifs1) (lc_e ih G c.c1.2 sc elt) (no_set ih G c.c3) (no_set1 ih G c.c3')) (lc_read2 ih G c)
theorem s_setLc2 {k i : Nat} {y : Str} {py : Pos} (elt tg iter tg1 iter1 : Expr) (ifs ifs1 : List Expr) (sc : Scope) (pos spos : Pos) (a b : Int) (hy : n.c.N[i]? = some y) (hl : n.c.sc.names.lookup y = some .local) (hline : (py.line == pos.line) = true)
    (ha : (sc.names.any fun (n, k) => n == y && (k == .local || k == .cell)) = false) :
    PS n.X (.Assign [.Name y py] (.ListComp elt [⟨tg, iter, ifs, a⟩, ⟨tg1, iter1, ifs1, b⟩] sc pos) spos) (tAsg (tM n W (RV n) (fun en S => (compr ev k n.c sc [⟨tg, iter, ifs, a⟩, ⟨tg1, iter1, ifs1, b⟩] (lcF ev elt) en S).bind fun ds en S => .ok (.own (.lst ds)) en S)) (gName i)) := by
  by_cases c : LcC2 n sc tg iter tg1 iter1 ∧ a = 0 ∧ b = 0
  case neg =>
    refine ⟨fun pins s σ H D I ⟨en, S, F, sr, p⟩ => ?_⟩
    simp only [lc_bad2 ih G c] at p
    exact p.elim
  obtain ⟨c, rfl, rfl⟩ := c
  have hv : ∀ i ∈ tgSlots 8 (n.c.blk sc) tg1, i ∈ (ownSlots n.c.N sc).map (·.2) := by
    intro i hi
    have h := c.c2'
    rw [List.all_eq_true] at h
    have := h i hi
    simpa using this
  have ok : BlkOk n.X.N n.X.env.scope sc (ownSlots n.c.N sc) := by
    rw [G.N, G.scope]; exact blkOk_by c.c1.1
  have hls : n.X.env.scope.names.lookup y = some .local := by rw [G.scope]; exact hl
  refine ⟨fun pins s σ H D I h => ?_⟩
  exact (ps_setLc2 (G.calm c.c1.2) (by rw [G.N]; exact G.nd) (by rw [G.N]; exact hy) hls (sw_true I.ok.kind hls hline ha) (s_items ih G tg iter) ok hv (lc_g ih G c.c1.2 sc tg) (lc_t ih G c.c1.2 sc k ifs) (lc_i ih G c.c1.2 sc tg1 iter1) (lc_g ih G c.c1.2 sc tg1) (lc_t ih G c.c1.2 sc k ifs1) (lc_e ih G c.c1.2 sc elt) (no_set ih G c.c3) (no_set1 ih G c.c3')).run pins s σ H D I (lc_read2 ih G c _ _ _ h)
end
end PX

set_option Elab.async false
set_option linter.all false
set_option maxRecDepth 100000
/-! PxSs: statements. -/
namespace PX
open PySem PySem.Spec L2
open PyProof.Rows hiding St

def PostS (n : Cn) (W : WX) (F0 : Hp) (m : SO) (D : Ends) : Prop := match m with
  | .nx en S => ∀ σ H F, Sub F0 F → SR n F σ H en S → D.nx σ H
  | .bk en S => ∀ σ H F, Sub F0 F → SR n F σ H en S → D.bk σ H
  | .ct en S => ∀ σ H F, Sub F0 F → SR n F σ H en S → D.ct σ H
  | .ret r en S => ∀ v σ H F, Sub F0 F → SR n F σ H en S → RV n F σ H en r v → D.rt v H
  | .err C fs en S => ∀ cls d σ H F, Sub F0 F → SR n F σ H en S → ExcR n.g F H C fs cls d → W cls d σ H
  | .bad => False
def tS (n : Cn) (W : WX) (f : En → Stm → SO) : TS := fun D σ H => ∃ en S F, SR n F σ H en S ∧ PostS n W F (f en S) D
structure GoodS (n : Cn) (W : WX) : Prop extends Good n W where
  pass : PassesOwn (model n.X.prog n.X.w) n.X.A n.X.env n.X.xe
  passH : n.c.hot = false → ∀ hd : Option Value, PassesOwnAt (model n.X.prog n.X.w) (n.X.A.mark hd) n.X.A n.X.env n.X.xe
  stk : n.X.stack = n.X.env :: n.X.outer
  frm : n.X.env.frame = some n.X.env.locals
abbrev IHS (n : Cn) (W : WX) (f : Stmt → En → Stm → SO) : Prop := ∀ st, PS n.X st (tS n W (f st))
theorem ps_imp {X : Cx} {st : Stmt} {t t' : TS} (h : PS X st t) (k : ∀ D σ H, t' D σ H → t D σ H) : PS X st t' := ⟨fun pins s σ H D I q => h.run pins s σ H D I (k _ _ _ q)⟩
theorem pss_imp {X : Cx} {st : List Stmt} {t t' : TS} (h : PSs X st t) (k : ∀ D σ H, t' D σ H → t D σ H) : PSs X st t' := ⟨fun pins s σ H D I q => h.run pins s σ H D I (k _ _ _ q)⟩
theorem ps_bad {X : Cx} {st : Stmt} {n : Cn} {W : WX} {f : En → Stm → SO} (h : ∀ en S, f en S = .bad) : PS X st (tS n W f) :=
  ⟨fun pins s σ H D I ⟨en, S, F, sr, p⟩ => by rw [h] at p; exact p.elim⟩
section
variable {n : Cn} {W : WX} {F0 F1 : Hp}
theorem PostS.mono {m : SO} {D : Ends} (p : PostS n W F0 m D) (s : Sub F0 F1) : PostS n W F1 m D := by
  cases m with
  | nx en S => exact fun σ H F h => p σ H F (s.trans h)
  | bk en S => exact fun σ H F h => p σ H F (s.trans h)
  | ct en S => exact fun σ H F h => p σ H F (s.trans h)
  | ret r en S => exact fun v σ H F h => p v σ H F (s.trans h)
  | err C fs en S => exact fun c d σ H F h => p c d σ H F (s.trans h)
  | bad => exact p
theorem PostS.bind {α δ : Type} {R : Hp → St → Hp → En → α → δ → Prop} {σ : St} {m : Out α} {k : α → En → Stm → SO} {D : Ends} {Q : δ → Hp → Prop} (p : PostS n W F0 (m.toS k) D)
    (h : ∀ r en S v H F, m = .ok r en S → Sub F0 F → SR n F σ H en S → R F σ H en r v → PostS n W F (k r en S) D → Q v H) : Post n W σ F0 R m Q := by
  cases m with
  | ok r en S => exact fun v H F s sr rv => h r en S v H F rfl s sr rv (PostS.mono p s)
  | err C fs en S => exact fun c d H F => p c d σ H F
  | bad => exact p
end
theorem s_Ss {n : Cn} {W : WX} {f : Stmt → En → Stm → SO} (h : IHS n W f) : ∀ sts : List Stmt, PSs n.X sts (tS n W (evSs f sts))
  | [] => pss_imp pss_nil fun D σ H ⟨en, S, F, sr, p⟩ => p σ H F .refl sr
  | st :: r => by
    refine pss_imp (pss_cons (h st) (s_Ss h r)) ?_
    rintro D σ H ⟨en, S, F, sr, p⟩
    refine ⟨en, S, F, sr, ?_⟩
    unfold evSs at p
    revert p
    generalize f st en S = m
    intro p
    cases m with
    | nx en1 S1 => exact fun σ1 H1 F1 sb sr1 => ⟨en1, S1, F1, sr1, PostS.mono p sb⟩
    | _ => exact p
theorem SR.setO {n : Cn} {F H : Hp} {σ : St} {en : En} {S : Stm} (sr : SR n F σ H en S) {i : Nat} {r : OV} {v : V} (hi : i < n.c.N.length) (x : RV n F σ H en r v) : SR n F (σ.set i (some v)) H (setV i r en) S := by
  cases x with
  | val h => exact sr.set hi h
  | @own p o nf nb nc ow hd =>
  have hl : i < en.length := by rw [sr.len]; exact hi
  have hs : i < σ.length := by rw [sr.slen]; exact hi
  show SR n F (σ.set i (some (.ref p))) H (en.set i (.own o)) S
  refine ⟨by simpa using sr.len, by simpa using sr.slen, sr.base, sr.sub, ?_, ?_, sr.st, sr.c0, sr.cellF, sr.fix⟩
  · intro j x hx
    by_cases ij : j = i
    · subst ij
      rw [List.getElem?_set_self hl] at hx
      injection hx with hx; subst hx
      rw [List.getElem?_set_self hs]
      exact .own nf nb nc ow
    · rw [List.getElem?_set_ne (Ne.symm ij)] at hx
      rw [List.getElem?_set_ne (Ne.symm ij)]
      exact sr.slot j x hx
  · intro j k o1 o2 q hj hk sj sk
    by_cases ij : j = i
    · by_cases ik : k = i
      · rw [ij, ik]
      · subst ij
        rw [List.getElem?_set_self hs] at sj
        injection sj with sj; injection sj with sj; injection sj with sj; subst sj
        rw [List.getElem?_set_ne (Ne.symm ik)] at hk sk
        exact absurd sk (hd k _ hk)
    · by_cases ik : k = i
      · subst ik
        rw [List.getElem?_set_self hs] at sk
        injection sk with sk; injection sk with sk; injection sk with sk; subst sk
        rw [List.getElem?_set_ne (Ne.symm ij)] at hj sj
        exact absurd sj (hd j _ hj)
      · rw [List.getElem?_set_ne (Ne.symm ij)] at hj sj
        rw [List.getElem?_set_ne (Ne.symm ik)] at hk sk
        exact sr.dist j k o1 o2 q hj hk sj sk
/-- a slot's thing is handed on -/
theorem SR.drop {n : Cn} {F H : Hp} {σ : St} {en : En} {S : Stm} (sr : SR n F σ H en S) {i : Nat} {o : O} {p : Addr} (e : en[i]? = some (.own o)) (hp : σ[i]? = some (some (.ref p))) :
    SR n F σ H (en.set i .none) S ∧ RV n F σ H (en.set i .none) (.own o) (.ref p) := by
  have hl : i < en.length := by rw [List.getElem?_eq_some_iff] at e; exact e.1
  have back : ∀ {j : Nat} {q : O}, (en.set i .none)[j]? = some (.own q) → j ≠ i ∧ en[j]? = some (.own q) := by
    intro j q h
    by_cases ij : j = i
    · subst ij; rw [List.getElem?_set_self hl] at h; cases h
    · rw [List.getElem?_set_ne (Ne.symm ij)] at h; exact ⟨ij, h⟩
  obtain ⟨p', hp', nf, nb, nc, ow⟩ := sr.at_own e
  rw [hp] at hp'; injection hp' with z; injection z with z; injection z with z; subst z
  refine ⟨⟨by simpa using sr.len, sr.slen, sr.base, sr.sub, ?_, ?_, sr.st, sr.c0, sr.cellF, sr.fix⟩, .own nf nb nc ow ?_⟩
  · intro j x hx
    by_cases ij : j = i
    · subst ij; rw [List.getElem?_set_self hl] at hx; injection hx with hx; subst hx; exact .none
    · rw [List.getElem?_set_ne (Ne.symm ij)] at hx; exact sr.slot j x hx
  · intro j k o1 o2 q hj hk sj sk
    exact sr.dist j k o1 o2 q (back hj).2 (back hk).2 sj sk
  · intro j o' hj sj
    obtain ⟨a, hj⟩ := back hj
    exact a (sr.dist j i _ _ _ hj e sj hp)
theorem sw_no {e : Expr} {t : Option Expr} {l : Nat} {env : Env} (h : (compOf e).isNone = true) : swapsWith e t l env = pure false := by
  cases e <;> first | rfl | cases h
section
variable {ev : EC → Expr → En → Stm → Out OV} (ih : IH ev) {n : Cn} {W : WX} (G : GoodS n W)
include ih G
theorem s_ret (e : Expr) (pos : Pos) : PS n.X (.Return (some e) pos) (tS n W (retS n.c e ev)) := by
  have base : PS n.X (.Return (some e) pos) (tS n W fun en S => (ev n.c e en S).toS fun r en S => .ret r en S) := by
    refine ps_imp (ps_ret (ih n W G.toGood e)) ?_
    rintro D σ H ⟨en, S, F, sr, p⟩
    refine ⟨en, S, F, sr, PostS.bind p ?_⟩
    intro r en1 S1 v H1 F1 _ _ sr1 rv p
    exact p v σ H1 F1 .refl sr1 rv
  refine ⟨fun pins s σ H D I ⟨en, S, F, sr, p⟩ => ?_⟩
  unfold retS at p
  split at p
  · rename_i i hi
    cases e with
    | Name x px =>
      simp only [asName, Option.bind_some, opName] at hi
      cases hx : n.c.slot x with
      | none => rw [hx] at hi; cases hi
      | some j =>
        rw [hx] at hi
        simp only at hi
        split at hi
        · rename_i o ho
          injection hi with hi; subst hi
          rw [ho] at p
          obtain ⟨pa, hpa, _⟩ := sr.at_own ho
          obtain ⟨a, b⟩ := sr.drop ho hpa
          exact (ps_ret (pe_slot G.toGood hx)).run pins s σ H D I ⟨_, hpa, p _ σ H F .refl a b⟩
        · cases hi
    | _ => cases hi
  · exact base.run pins s σ H D I ⟨en, S, F, sr, p⟩
theorem s_expr (e : Expr) (pos : Pos) : PS n.X (.Expr e pos) (tS n W fun en S => if (compOf e).isNone = true then (ev n.c e en S).toS fun _ en S => .nx en S else .bad) := by
  by_cases c : (compOf e).isNone = true
  case neg => exact ps_bad fun en S => by rw [if_neg c]
  simp only [if_pos c]
  refine ps_imp (ps_expr (ih n W G.toGood e) (sw_no c)) ?_
  rintro D σ H ⟨en, S, F, sr, p⟩
  refine ⟨en, S, F, sr, PostS.bind p ?_⟩
  intro r en1 S1 v H1 F1 _ _ sr1 rv p
  exact p σ H1 F1 .refl sr1
theorem s_if {k : Nat} {f : Stmt → En → Stm → SO} (hf : IHS n W f) (t : Expr) (a b : List Stmt) (pos : Pos) :
    PS n.X (.If t a b pos) (tS n W fun en S => (evT ev k n.c t en S).toS fun z en S => if z = true then evSs f a en S else evSs f b en S) := by
  refine ps_imp (ps_if (s_T ih G.toGood k t) (s_Ss hf a) (s_Ss hf b)) ?_
  rintro D σ H ⟨en, S, F, sr, p⟩
  refine ⟨en, S, F, sr, PostS.bind p ?_⟩
  intro z en1 S1 v H1 F1 _ _ sr1 rv p
  cases rv
  cases z with
  | true => exact ⟨en1, S1, F1, sr1, p⟩
  | false => exact ⟨en1, S1, F1, sr1, p⟩
theorem s_for {f : Stmt → En → Stm → SO} (hf : IHS n W f) (t it : Expr) (body : List Stmt) (pos : Pos) :
    PS n.X (.For t it body [] pos) (tS n W fun en S => if n.c.hot = false ∧ isSet it = false then (evItems ev n.c it en S).toS fun xs en S =>
      forF (fun d en S => match asgN 8 n.c t d en with
        | some en => evSs f body en S
        | none => .bad) xs en S else .bad) := by
  by_cases c : n.c.hot = false ∧ isSet it = false
  case neg => exact ps_bad fun en S => by rw [if_neg c]
  simp only [if_pos c]
  refine ps_imp (ps_for G.pass (G.calm c.1) (s_items ih G.toGood t it) (g_asg G.toGood 8 t) (s_Ss hf body) ?_) ?_
  · intro x
    cases it <;> first | rfl | cases c.2
  rintro D σ H ⟨en, S, F, sr, p⟩
  refine ⟨en, S, F, sr, PostS.bind p ?_⟩
  intro xs en1 S1 J H1 F1 _ _ sr1 hJ p
  refine ⟨fun i m σ H => m = xs.length - i ∧ i ≤ xs.length ∧ ∃ en2 S2 F2, SR n F2 σ H en2 S2 ∧ Sub F1 F2 ∧ PostS n W F2 (forF (fun d en S => match asgN 8 n.c t d en with
        | some en => evSs f body en S
        | none => .bad) (xs.drop i) en2 S2) D, ⟨_, rfl, Nat.zero_le _, en1, S1, F1, sr1, .refl, p⟩, ?_⟩
  rintro i m σ2 H2 ⟨rfl, hi, en2, S2, F2, sr2, sb2, p2⟩
  by_cases he : i = xs.length
  · left
    subst he
    refine ⟨hJ.stop _ _ (sb2.trans sr2.sub) (Nat.le_refl _), ?_⟩
    rw [List.drop_length] at p2
    exact p2 σ2 H2 F2 .refl sr2
  · right
    have hi' : i < xs.length := by omega
    refine ⟨hJ.go i _ (sb2.trans sr2.sub) hi', fun σ H => ∃ en2 S2 F2, SR n F2 σ H en2 S2 ∧ Sub F1 F2 ∧ PostS n W F2 (forF (fun d en S => match asgN 8 n.c t d en with
        | some en => evSs f body en S
        | none => .bad) (xs.drop (i + 1)) en2 S2) D, fun σ' H' h => ⟨_, by omega, rfl, by omega, h⟩, ?_⟩
    intro x H' hy
    obtain ⟨F3, d, gr, hd, rd⟩ := hJ.yld i _ x H' F2 sb2 sr2.sub hi' hy
    have hdrop : xs.drop i = d :: xs.drop (i + 1) := by
      rw [List.drop_eq_getElem_cons hi']
      rw [List.getElem?_eq_getElem hi'] at hd
      injection hd with hd
      rw [hd]
    rw [hdrop] at p2
    unfold forF at p2
    have sr3 := sr2.grow gr
    cases q1 : asgN 8 n.c t d en2 with
    | none => rw [q1] at p2; exact p2.elim
    | some en3 =>
      rw [q1] at p2
      simp only at p2
      refine ⟨d, en2, S2, F3, en3, sr3, rd, q1, ?_⟩
      intro σ3 sr4 _
      refine ⟨en3, S2, F3, sr4, ?_⟩
      revert p2
      generalize evSs f body en3 S2 = m
      intro p2
      cases m with
      | nx en4 S4 => exact fun σ4 H4 F4 sb4 sr5 => ⟨en4, S4, F4, sr5, (sb2.trans gr.ff).trans sb4, PostS.mono p2 (gr.ff.trans sb4)⟩
      | ct en4 S4 => exact fun σ4 H4 F4 sb4 sr5 => ⟨en4, S4, F4, sr5, (sb2.trans gr.ff).trans sb4, PostS.mono p2 (gr.ff.trans sb4)⟩
      | bk en4 S4 => exact fun σ4 H4 F4 sb4 sr5 => p2 σ4 H4 F4 (gr.ff.trans sb4) sr5
      | ret r en4 S4 => exact fun v σ4 H4 F4 sb4 sr5 rv => p2 v σ4 H4 F4 (gr.ff.trans sb4) sr5 rv
      | err C fs en4 S4 => exact fun c d σ4 H4 F4 sb4 => p2 c d σ4 H4 F4 (gr.ff.trans sb4)
      | bad => exact p2
end
end PX

set_option Elab.async false
set_option linter.all false
set_option maxRecDepth 100000
namespace PX
open PySem PySem.Spec L2
open PyProof.Rows hiding St

section
variable {ev : EC → Expr → En → Stm → Out OV} (ih : IH ev) {n : Cn} {W : WX} (G : GoodS n W)
include ih G
theorem set_read {te : TE} {i : Nat} {c : Option Nat} (hi : i < n.c.N.length) (hc : c = some i) {f : En → Stm → Out OV} (h : ∀ σ H Q, tM n W (RV n) f σ H Q → te σ H Q) :
    ∀ D σ H, tS n W (fun en S => (f en S).toS fun r en S => (match c with
    | some i => .nx (setV i r en) S
    | none => .bad)) D σ H → tAsg te (gName i) D σ H := by
  subst hc
  rintro D σ H ⟨en, S, F, sr, p⟩
  refine h σ H _ ⟨en, S, F, sr, PostS.bind p ?_⟩
  intro r en1 S1 v H1 F1 _ _ sr1 rv p
  exact p _ H1 F1 .refl (sr1.setO hi rv)
/-- the comprehensions of the text that a name is set to -/
abbrev IHC (n : Cn) (W : WX) (ev : EC → Expr → En → Stm → Out OV) : Prop := ∀ (y : Str) (py : Pos) (e : Expr) (sc : Scope) (i : Nat) (spos : Pos), compOf e = some sc → compFit n.c y py e sc = true → n.c.N[i]? = some y →
  PS n.X (.Assign [.Name y py] e spos) (tAsg (tM n W (RV n) (ev n.c e)) (gName i))
theorem s_asgName (hC : IHC n W ev) (x : Str) (px : Pos) (e : Expr) (pos : Pos) : PS n.X (.Assign [.Name x px] e pos) (tS n W (assignN n.c x px e ev)) := by
  by_cases c : nameFit n.c x px e = true ∧ (n.c.stSlot x).isSome = true
  case neg => exact ps_bad fun en S => by unfold assignN; rw [if_neg c]
  have e0 : assignN n.c x px e ev = fun en S => (ev n.c e en S).toS fun r en S => (match n.c.stSlot x with
    | some i => .nx (setV i r en) S
    | none => .bad) := by funext en S; unfold assignN; rw [if_pos c] <;> rfl
  rw [e0]
  cases hx : n.c.stSlot x with
  | none =>
    have := c.2
    rw [hx] at this; cases this
  | some i =>
    obtain ⟨a, b, d⟩ := slot_loc hx
    have hi : i < n.c.N.length := by rw [List.getElem?_eq_some_iff] at a; exact a.1
    cases hc : compOf e with
    | none =>
      refine ps_imp (ps_set (by rw [G.N]; exact G.nd) (by rw [G.N]; exact a) (by rw [G.scope]; exact b) (ih n W G.toGood e) (sw_no (by rw [hc]; rfl)) (by rw [G.fn, G.scope]; exact d)) ?_
      exact set_read ih G hi rfl fun σ H Q h => h
    | some sc =>
      have c : compFit n.c x px e sc = true := by have c := c.1; unfold nameFit at c; rw [hc] at c; exact c
      exact ps_imp (hC x px e sc i pos hc c a) (set_read ih G hi rfl fun σ H Q h => h)
/-- o[i] = d of a list that a slot owns -/
theorem s_asgSub (o i e : Expr) (p1 pos : Pos) : PS n.X (.Assign [.Subscript o i p1] e pos) (tS n W (assignT n.c (.Subscript o i p1) e ev)) := by
  by_cases c : (compOf e).isNone = true ∧ (isTup (.Subscript o i p1) && isTup e) = false
  case neg => exact ps_bad fun en S => by unfold assignT; rw [if_neg c]
  have e0 : ∀ en S, assignT n.c (.Subscript o i p1) e ev en S = (evV ev n.c e en S).toS fun d en S => (asg ev n.c (.Subscript o i p1) d en S).toS fun _ en S => .nx en S := by
    intro en S; unfold assignT; rw [if_pos c]
  have hw : swappedStores [.Subscript o i p1] e n.X.env = pure none := by cases e <;> rfl
  -- where the store never comes: the value alone
  have dead : ∀ {g : TG}, PG n.X (.Subscript o i p1) g → ∀ pins s σ H D, Inv n.X pins σ H s → tM n W (RD n) (evV ev n.c e) σ H (fun _ _ => False) → wpAny (model n.X.prog n.X.w) n.X.A (exec (.Assign [.Subscript o i p1] e pos) n.X.env) (SP n.X pins D) n.X.xe s := by
    intro g hg pins s σ H D I h
    refine (ps_asg (s_V ih G.toGood e) hg (by unfold swapsWithSole; exact sw_no c.1) hw rfl).run pins s σ H D I ?_
    obtain ⟨en, S, F, sr, p⟩ := h
    refine ⟨en, S, F, sr, ?_⟩
    revert p
    generalize evV ev n.c e en S = m
    intro p
    cases m with
    | ok r en S => exact fun v H F a b c => (p v H F a b c).elim
    | err => exact p
    | bad => exact p
  have never : PG n.X (.Subscript o i p1) (fun _ _ _ _ => False) := ⟨fun _ _ _ _ _ _ _ _ _ f => f.elim⟩
  refine ⟨fun pins s σ H D I ⟨en, S, F, sr, p⟩ => ?_⟩
  rw [e0] at p
  -- the value's end is known
  cases q : evV ev n.c e en S with
  | bad => rw [q] at p; exact p.elim
  | err C fs en1 S1 =>
    refine dead never pins s σ H D I ⟨en, S, F, sr, ?_⟩
    rw [q] at p ⊢
    exact fun cls d H F a b x => p cls d σ H F a b x
  | ok d en1 S1 =>
    have val : ∀ {Q : VK}, (∀ v H1 F1, Sub F F1 → SR n F1 σ H1 en1 S1 → Rep n.g F1 v d → PostS n W F1 ((asg ev n.c (.Subscript o i p1) d en1 S1).toS fun _ en S => .nx en S) D → Q v H1) → tM n W (RD n) (evV ev n.c e) σ H Q := by
      intro Q h
      refine ⟨en, S, F, sr, PostS.bind p ?_⟩
      intro r en2 S2 v H1 F1 e1 sb sr1 rd p
      rw [q] at e1; cases e1
      exact h v H1 F1 sb sr1 rd p
    have dd : (∀ F1, ¬ PostS n W F1 ((asg ev n.c (.Subscript o i p1) d en1 S1).toS fun _ en S => .nx en S) D) → wpAny (model n.X.prog n.X.w) n.X.A (exec (.Assign [.Subscript o i p1] e pos) n.X.env) (SP n.X pins D) n.X.xe s :=
      fun h => dead never pins s σ H D I (val fun v H1 F1 _ _ _ p => h F1 p)
    by_cases hs : isSl i = true
    · exact dd fun F1 p => by simp only [asg, if_pos hs] at p; exact p
    · simp only [asg, if_neg hs] at val dd
      split at val
      · rename_i j hj
        split at val
        · rename_i xs0 he
          cases o with
          | Name x px =>
            simp only [asName, Option.bind_some, opName] at hj
            cases hx : n.c.slot x with
            | none => rw [hx] at hj; cases hj
            | some j' =>
              rw [hx] at hj
              simp only at hj
              split at hj
              case h_2 => cases hj
              injection hj with hj; subst hj
              have hg : PG n.X (.Subscript (.Name x px) i p1) (gSub (tVar j') (tM n W (RO n) (evB ev n.c i)) rSetL) := by
                refine pg_sub (pe_slot G.toGood hx) (s_B ih G.toGood i) set_list ?_
                intro v
                cases i <;> first | rfl | exact absurd rfl hs
              refine (ps_asg (s_V ih G.toGood e) hg (by unfold swapsWithSole; exact sw_no c.1) hw rfl).run pins s σ H D I (val ?_)
              intro v H1 F1 sb sr1 rd p
              obtain ⟨pa, hpa, _⟩ := sr1.at_own he
              refine ⟨.ref pa, hpa, ?_⟩
              have toS_bind : ∀ {α β : Type} (m : Out α) (f : α → En → Stm → Out β) (k : β → En → Stm → SO), (m.bind f).toS k = m.toS fun a en S => (f a en S).toS k := by
                intro α β m f k; cases m <;> rfl
              simp only [evD, bind_assoc, toS_bind] at p
              refine ⟨en1, S1, F1, sr1, PostS.bind p ?_⟩
              intro oi en3 S3 iv H3 F3 _ sb3 sr3 ro p
              simp only [resolve, lift] at p
              cases qi : oi.get en3 with
              | none => rw [qi] at p; exact p.elim
              | some k =>
                rw [qi] at p
                have rk := sr3.resolve ro qi
                simp only [Out.toS, storeL] at p
                split at p
                · rename_i heq
                  split at heq
                  · rename_i xs he3
                    split at heq
                    · rename_i o' hput
                      cases heq
                      obtain ⟨pb, hpb, _, _, _, ow⟩ := sr3.at_own he3
                      rw [hpa] at hpb; injection hpb with z; injection z with z; injection z with z; subst z
                      cases ow with
                      | @lst vxs _ hH rx =>
                      cases k with
                      | int k =>
                        simp only [putO] at hput
                        cases qx : ixN xs.length k with
                        | none => rw [qx] at hput; cases hput
                        | some jj =>
                          rw [qx] at hput
                          injection hput with hput; subst hput
                          cases rk.int_inv
                          refine ⟨pa, vxs, k, jj, rfl, rfl, hH, by rw [rx.length]; exact qx, ?_⟩
                          exact p σ _ F3 .refl (sr3.write he3 hpa (fun a ha => upd_ne ha) (.lst upd_same (rx.set (rd.mono sb3))))
                      | _ => simp [putO] at hput
                    · cases heq
                  · cases heq
                · rename_i heq
                  split at heq
                  · split at heq <;> cases heq
                  · cases heq
                · exact p.elim
          | _ => cases hj
        · rename_i kvs0 he
          cases o with
          | Name x px =>
            simp only [asName, Option.bind_some, opName] at hj
            cases hx : n.c.slot x with
            | none => rw [hx] at hj; cases hj
            | some j' =>
              rw [hx] at hj
              simp only at hj
              split at hj
              case h_2 => cases hj
              injection hj with hj; subst hj
              have hg : PG n.X (.Subscript (.Name x px) i p1) (gSub (tVar j') (tM n W (RO n) (evB ev n.c i)) (rSetK n.g)) := by
                refine pg_sub (pe_slot G.toGood hx) (s_B ih G.toGood i) (set_dct (by have := G.units; omega) G.w) ?_
                intro v
                cases i <;> first | rfl | exact absurd rfl hs
              refine (ps_asg (s_V ih G.toGood e) hg (by unfold swapsWithSole; exact sw_no c.1) hw rfl).run pins s σ H D I (val ?_)
              intro v H1 F1 sb sr1 rd p
              obtain ⟨pa, hpa, _⟩ := sr1.at_own he
              refine ⟨.ref pa, hpa, ?_⟩
              have toS_bind : ∀ {α β : Type} (m : Out α) (f : α → En → Stm → Out β) (k : β → En → Stm → SO), (m.bind f).toS k = m.toS fun a en S => (f a en S).toS k := by
                intro α β m f k; cases m <;> rfl
              simp only [evD, bind_assoc, toS_bind] at p
              refine ⟨en1, S1, F1, sr1, PostS.bind p ?_⟩
              intro oi en3 S3 iv H3 F3 _ sb3 sr3 ro p
              simp only [resolve, lift] at p
              cases qi : oi.get en3 with
              | none => rw [qi] at p; exact p.elim
              | some k =>
                rw [qi] at p
                have rk := sr3.resolve ro qi
                simp only [Out.toS, storeK] at p
                split at p
                · rename_i heq
                  split at heq
                  · rename_i kvs he3
                    split at heq
                    · rename_i o' hput
                      cases heq
                      obtain ⟨pb, hpb, _, _, _, ow⟩ := sr3.at_own he3
                      rw [hpa] at hpb; injection hpb with z; injection z with z; injection z with z; subst z
                      cases ow with
                      | @dct es ep _ hH rk0 nd0 _ =>
                      simp only [putO] at hput
                      split at hput
                      case isFalse => cases hput
                      rename_i cc
                      injection hput with hput; subst hput
                      have c1 := cc.1
                      simp only [Bool.and_eq_true] at c1
                      refine ⟨F3, pa, es, ep, kvs, k, d, rfl, sr3.sub, hH, rk0, nd0, c1.1, cc.2, c1.2, rk.imm (tkey_imm c1.2), rd.mono sb3, fun es' ep' rk' => ?_⟩
                      exact p σ _ F3 .refl (sr3.write he3 hpa (fun a ha => upd_ne ha) (.dct upd_same rk' (dput_nodup nd0 k d) (tkeys_key (dput_tkeys c1.1 c1.2 d))))
                    · cases heq
                  · cases heq
                · rename_i heq
                  split at heq
                  · split at heq <;> cases heq
                  · cases heq
                · exact p.elim
          | _ => cases hj
        · rename_i hno
          refine dd fun F1 p => ?_
          rw [hj] at p
          simp only at p
          exact p
      · rename_i hno
        refine dd fun F1 p => ?_
        rw [hno] at p
        exact p
theorem s_asgTup (ts : List Expr) (k : Nat) (e : Expr) (p1 pos : Pos) : PS n.X (.Assign [.Tuple ts k p1] e pos) (tS n W (assignT n.c (.Tuple ts k p1) e ev)) := by
  by_cases c : (compOf e).isNone = true ∧ (isTup (.Tuple ts k p1) && isTup e) = false
  case neg => exact ps_bad fun en S => by unfold assignT; rw [if_neg c]
  have hw : swappedStores [.Tuple ts k p1] e n.X.env = pure none := by
    have h2 : isTup e = false := c.2
    cases e <;> first | rfl | cases h2
  refine ps_imp (ps_asg (s_V ih G.toGood e) (g_asg G.toGood 8 (.Tuple ts k p1)) (by unfold swapsWithSole; exact sw_no c.1) hw rfl) ?_
  rintro D σ H ⟨en, S, F, sr, p⟩
  unfold assignT at p
  rw [if_pos c] at p
  refine ⟨en, S, F, sr, PostS.bind p ?_⟩
  intro d en1 S1 v H1 F1 _ _ sr1 rd p
  simp only [asg] at p
  cases q : asgN 8 n.c (.Tuple ts k p1) d en1 with
  | none => rw [q] at p; exact p.elim
  | some en2 =>
    rw [q] at p
    exact ⟨d, en1, S1, F1, en2, sr1, rd, q, fun σ' sr' _ => p σ' H1 F1 .refl sr'⟩
theorem s_assign (hC : IHC n W ev) (t e : Expr) (pos : Pos) : PS n.X (.Assign [t] e pos) (tS n W (assignS n.c t e ev)) := by
  cases t with
  | Name x px => exact s_asgName ih G hC x px e pos
  | Tuple ts k p1 => exact s_asgTup ih G ts k e p1 pos
  | Subscript o i p1 => exact s_asgSub ih G o i e p1 pos
  | _ => exact ps_bad fun en S => rfl
theorem s_while {k : Nat} {f : Stmt → En → Stm → SO} (hf : IHS n W f) (t : Expr) (body : List Stmt) (pos : Pos) : PS n.X (.While t body [] pos) (tS n W fun en S => whileF (fun en S => match evT ev k n.c t en S with
      | .ok true en S => (evSs f body en S, true)
      | .ok false en S => (.nx en S, false)
      | .err C fs en S => (.err C fs en S, false)
      | .bad => (.bad, false)) n.c.wf en S) := by
  refine ps_imp (ps_while G.pass (s_T ih G.toGood k t) (s_Ss hf body)) ?_
  rintro D σ H ⟨en, S, F, sr, p⟩
  refine ⟨fun m σ H => ∃ en2 S2 F2, SR n F2 σ H en2 S2 ∧ PostS n W F2 (whileF (fun en S => match evT ev k n.c t en S with
      | .ok true en S => (evSs f body en S, true)
      | .ok false en S => (.nx en S, false)
      | .err C fs en S => (.err C fs en S, false)
      | .bad => (.bad, false)) m en2 S2) D, ⟨_, en, S, F, sr, p⟩, ?_⟩
  rintro m σ2 H2 ⟨en2, S2, F2, sr2, p2⟩
  cases m with
  | zero => exact p2.elim
  | succ m =>
    unfold whileF at p2
    refine ⟨en2, S2, F2, sr2, ?_⟩
    cases q : evT ev k n.c t en2 S2 with
    | bad => rw [q] at p2; exact p2.elim
    | err C fs en3 S3 => rw [q] at p2; exact fun c d H F => p2 c d σ2 H F
    | ok b en3 S3 =>
      rw [q] at p2
      rintro b' H3 F3 sb3 sr3 rfl
      cases b with
      | false =>
        simp only [Bool.false_eq_true, if_false] at p2 ⊢
        exact p2 σ2 H3 F3 sb3 sr3
      | true =>
        simp only [if_true] at p2 ⊢
        refine ⟨fun σ H => ∃ en2 S2 F2, SR n F2 σ H en2 S2 ∧ PostS n W F2 (whileF (fun en S => match evT ev k n.c t en S with
          | .ok true en S => (evSs f body en S, true)
          | .ok false en S => (.nx en S, false)
          | .err C fs en S => (.err C fs en S, false)
          | .bad => (.bad, false)) m en2 S2) D, fun σ' H' h => ⟨m, by omega, h⟩, en3, S3, F3, sr3, ?_⟩
        revert p2
        generalize evSs f body en3 S3 = z
        intro p2
        cases z with
        | nx en4 S4 => exact fun σ4 H4 F4 sb4 sr5 => ⟨en4, S4, F4, sr5, PostS.mono p2 (sb3.trans sb4)⟩
        | ct en4 S4 => exact fun σ4 H4 F4 sb4 sr5 => ⟨en4, S4, F4, sr5, PostS.mono p2 (sb3.trans sb4)⟩
        | bk en4 S4 => exact fun σ4 H4 F4 sb4 sr5 => p2 σ4 H4 F4 (sb3.trans sb4) sr5
        | ret r en4 S4 => exact fun v σ4 H4 F4 sb4 sr5 rv => p2 v σ4 H4 F4 (sb3.trans sb4) sr5 rv
        | err C fs en4 S4 => exact fun c d σ4 H4 F4 sb4 => p2 c d σ4 H4 F4 (sb3.trans sb4)
        | bad => exact p2
end
end PX

set_option Elab.async false
set_option linter.all false
set_option maxRecDepth 100000
/-! PxTry: try with several except clauses, named or not. -/
namespace PX
open PySem PySem.Spec L2
open PyProof.Rows hiding St

/-- a clause: the class, the name's slot, the suite's reading -/
abbrev Cl := Value × Option Nat × (Addr → Value → Option Addr → TS)
def goneD (i : Option Nat) (D : Ends) : Ends := match i with
  | some i => { nx := fun σ' H' => D.nx (σ'.set i none) H', rt := D.rt, bk := fun σ' H' => D.bk (σ'.set i none) H', ct := fun σ' H' => D.ct (σ'.set i none) H' }
  | none => D
def bindS (i : Option Nat) (a : Addr) (σ : L2.St) : L2.St := match i with
  | some i => σ.set i (some (.ref a))
  | none => σ
/-- what the clauses wish of an exception of the body -/
def wCls (K : PySem.W.Frag) (Wout : WX) (D : Ends) : List Cl → WX
  | [] => Wout
  | (c, i, ts) :: r => fun cls d σ H => ∃ b, PySem.W.exmOne K cls c = some b ∧ (b = true → ∀ a, H a = none → ts a cls d (goneD i D) (bindS i a σ) H) ∧ (b = false → wCls K Wout D r cls d σ H)
inductive HdsA (X : Cx) : List ExceptHandler → List Cl → Prop
  | nil : HdsA X [] []
  | as {x n : Str} {i : Nat} {c : Value} {ts : Addr → Value → Option Addr → TS} {b₀ : Stmt} {suite : List Stmt} {np pos' : Pos} {hds : List ExceptHandler} {l : List Cl} (hi : X.N[i]? = some n) (hln : X.env.kindOf n = some .local) (hc : Names X x c)
      (hsu : ∀ (a : Addr) (oe : Obj) (cls : Value) (d : Option Addr) (pn : List (Addr × Obj)), Zc cls d oe → (∃ vs, oe.data = .fields vs) → PSs (X.suite a ((a, oe) :: pn)) (b₀ :: suite) (ts a cls d)) (r : HdsA X hds l) :
      HdsA X (.ExceptHandler (some (.Name x np)) (some n) (b₀ :: suite) pos' :: hds) ((c, some i, ts) :: l)
  | cons {x : Str} {c : Value} {ts : Addr → Value → Option Addr → TS} {b₀ : Stmt} {suite : List Stmt} {np pos' : Pos} {hds : List ExceptHandler} {l : List Cl} (hc : Names X x c)
      (hsu : ∀ (a : Addr) (oe : Obj) (cls : Value) (d : Option Addr) (pn : List (Addr × Obj)), Zc cls d oe → (∃ vs, oe.data = .fields vs) → PSs (X.suite a ((a, oe) :: pn)) (b₀ :: suite) (ts a cls d)) (r : HdsA X hds l) :
      HdsA X (.ExceptHandler (some (.Name x np)) none (b₀ :: suite) pos' :: hds) ((c, none, ts) :: l)
section
variable {X : Cx} {body : List Stmt} {h₀ : ExceptHandler} {hds : List ExceptHandler} {l : List Cl} {pos : Pos} {tb : WX → TS} {Wout : WX}
theorem ps_try_cls (hs : X.stack = X.env :: X.outer) (hf : X.env.frame = some X.env.locals) (hN : X.N.Nodup) (tk : Takes X Wout)
    (hb : ∀ (W : WX) (pn : List (Addr × Obj)) (xe : Value → Shared → Prop), Takes (X.tr pn xe) W → PassesOwn (model X.prog X.w) X.A X.env xe → (∀ hd : Option Value, PassesOwnAt (model X.prog X.w) (X.A.mark hd) X.A X.env xe) → PSs (X.tr pn xe) body (tb W))
    (hh : HdsA X (h₀ :: hds) l) : PS X (.Try body (h₀ :: hds) [] [] pos) (fun D σ H => tb (wCls X.K Wout D l) D σ H) := by
  refine ⟨fun pins s σ H D I h => ?_⟩
  have ok := I.ok
  have hfr : X.A.frames = some (X.env :: X.outer) := by rw [ok.frames, hs]
  refine wpAny_Try_except ?_
  refine wpAny_mono ((hb (wCls X.K Wout D l) (X.pn ++ pins) (fun e s₁ => wpAny (model X.prog X.w) X.A (noteFrame e X.env) (fun _ s₂ => wpAny (model X.prog X.w) X.A (setFlight e none) (fun _ s₃ =>
    wpAny (model X.prog X.w) X.A (handleBy e X.env (h₀ :: hds)) (SP X pins D) X.xe s₃) X.xe s₂) X.xe s₁) (fun u s' xx => ?_) PassesOwn.looking fun hd => PassesOwnAt.looking).run [] s σ H D (I.toTry _) h) (fun f s1 hsp => ?_) (fun e s1 he => he)
  · -- the catch
    obtain ⟨a, B, sI, pins', σ', H', cls, d, rfl, J', nb, up, sky, na, os, ag, w⟩ := xx
    have J : Inv X pins σ' H' sI := J'.ofTry ok
    have sky' : Sky B (X.env :: X.outer) a (Zc cls d) X.env.locals s'.heap := by rw [← hs]; exact sky
    show wpAny (model X.prog X.w) X.A (noteFrame (.ref a) X.env) _ _ _
    refine Sky.land Zc.steady hfr hf sky' fun h3 fl3 up3 => ?_
    have J3 : Inv X pins σ' H' { s' with heap := h3 } := J.landed nb fl3.1 (up.trans up3) os ag
    obtain ⟨oe3, vs3, he3, hz3, hd3⟩ := fl3.there
    have notFr : ∀ {h : Heap} {o : Obj} {vs : Array Value}, h.FunFrames B (X.env :: X.outer) → h.get? a = some o → o.data = .fields vs → a ∉ frs (X.env :: X.outer) := fun {h o vs} ff e dd hm => by
      obtain ⟨_, o', e', hnf⟩ := ff.mem hm
      rw [e] at e'; cases e'
      exact hnf _ dd
    have nfr := notFr fl3.2.2.1 he3 hd3
    have nL : a ≠ X.env.locals := fun z => nfr (List.mem_filterMap.mpr ⟨X.env, List.mem_cons_self, by rw [hf, z]⟩)
    have nF : a ∉ X.fs := fun hm => by
      obtain ⟨e, he, q⟩ := List.mem_filterMap.mp hm
      exact nfr (List.mem_filterMap.mpr ⟨e, List.mem_cons_of_mem _ he, q⟩)
    have S3 := J3.suite he3 hd3 na nL nF
    have LT : PySem.W.Looks (model X.prog X.w) h3 (typeOf (.ref a)) cls := fun A Q E s k q => wpAny_typeOf_ref (k _ _ he3) (by rw [hz3.1]; exact q)
    have test : ∀ {x : Str} {c : Value} {np : Pos} {Q : Value → Shared → Prop} {E : Value → Shared → Prop}, Names X x c → Q c { s' with heap := h3 } → wpAny (model X.prog X.w) (X.A.mark (some (.ref a))) (eval (.Name x np) X.env) Q E { s' with heap := h3 } := fun {x c np Q E} hc q => by
      obtain ⟨hg, hdbg, hm | ⟨hm, hv, hnn⟩⟩ := hc
      · exact ld_glob (X := X.suite a ((a, oe3) :: (X.pn ++ pins))) S3 hg hm q hdbg
      · exact ld_blt (X := X.suite a ((a, oe3) :: (X.pn ++ pins))) S3 hg hm hv q hnn hdbg
    have go : ∀ {hds' : List ExceptHandler} {l' : List Cl}, HdsA X hds' l' → wCls X.K Wout D l' cls d σ' H' →
        wpAny (model X.prog X.w) X.A (handleBy (.ref a) X.env hds') (SP X pins D) X.xe { s' with heap := h3 } := by
      intro hds' l' hk
      induction hk with
      | nil =>
        intro w
        refine wpAny_handleBy_nil ?_
        obtain ⟨k1, k2, k3, oe, vs, T, oT, ts', he, hz, hd, h1, hr⟩ := id fl3
        unfold PySem.passOn
        refine wpAny_bind (wpAny_field he hd h1 ?_)
        rw [if_neg (show ¬ ((Value.ref T == Value.none) = true) from by simp)]
        have fin : wpAny (model X.prog X.w) X.A (setFlight (.ref a) X.env.frame) (fun _ s4 => wpAny (model X.prog X.w) X.A (throw (.ref a) : Sem Flow) (SP X pins D) X.xe s4) X.xe { s' with heap := h3 } := by
          rw [hf]
          refine HandSPX.setFlight_upZ fl3 fun h4 hh4 up4 => wpAny_throw (tk _ _ ?_)
          exact ⟨a, B, sI, pins, σ', H', cls, d, rfl, J, nb, (up.trans up3).trans up4, .inr (.inr (by rw [hs]; exact hh4)), na, os, ag, w⟩
        first
          | exact wpAny_bind (wpAny_pure (wpAny_bind fin))
          | exact wpAny_bind fin
      | @as x n i c ts b₀ suite np pos' hds2 l2 hi hln hc hsu r ih =>
        intro w
        obtain ⟨b, hb1, hyes, hno⟩ := w
        refine wpAny_handleBy_cons (codeAny_handlers_test ?_) (by intro q; cases q)
        have LM := PySem.W.exm_one (M := model X.prog X.w) (J3.kIn) LT hb1
        refine test hc (LM.here ?_)
        have hloc : Loc X.env.scope n := .inl hln
        cases b with
        | true =>
          refine codeAny_handlers_suite_as ?_
          refine HandSPX.lands_againZ fl3 fun h4 fl4 up4 => ?_
          have J4 : Inv X pins σ' H' { s' with heap := h4 } := J.landed nb fl4.1 ((up.trans up3).trans up4) os ag
          obtain ⟨oe4, vs4, he4, hz4, hd4⟩ := fl4.there
          have S4 := J4.suite he4 hd4 na nL nF
          refine store_ok (X := X.suite a ((a, oe4) :: (X.pn ++ pins))) (v := .ref a) S4 hN hi hloc rfl (fun s5 S5 => ?_) (.inr hln)
          refine wpAny_mono ((hsu a oe4 cls d (X.pn ++ pins) hz4 ⟨_, hd4⟩).run [] s5 _ H' _ S5 (hyes rfl a na)) (fun f s6 hsp => ?_) (fun _ _ z => False.elim z)
          have end_ : ∀ {σ6 : L2.St} {H6 : Hp} {Q : Shared → Prop}, Inv (X.suite a ((a, oe4) :: (X.pn ++ pins))) [] σ6 H6 s6 → (∀ s7, Inv X pins (σ6.set i none) H6 s7 → Q s7) →
              wpAny (model X.prog X.w) X.A (do bindName X.env n .none; unbindBehindTheSuite X.env n pos') (fun _ s7 => Q s7) X.xe s6 := fun {σ6 H6 Q} S6 hq => gone_ok (S6.unsuite ok) hN hi hln hq
          cases f with
          | next =>
            obtain ⟨σ6, H6, S6, q6⟩ := hsp
            exact end_ S6 fun s7 J7 => ⟨_, _, J7, q6⟩
          | brk =>
            obtain ⟨σ6, H6, S6, q6⟩ := hsp
            exact end_ S6 fun s7 J7 => ⟨_, _, J7, q6⟩
          | cont =>
            obtain ⟨σ6, H6, S6, q6⟩ := hsp
            exact end_ S6 fun s7 J7 => ⟨_, _, J7, q6⟩
          | ret u =>
            obtain ⟨v6, σ6, H6, S6, r6, q6⟩ := hsp
            exact end_ S6 fun s7 J7 => ⟨_, _, _, J7, r6, q6⟩
        | false =>
          show wpAny _ X.A (handleBy (.ref a) X.env hds2) _ _ _
          exact ih (hno rfl)
      | @cons x c ts b₀ suite np pos' hds2 l2 hc hsu r ih =>
        intro w
        obtain ⟨b, hb1, hyes, hno⟩ := w
        refine wpAny_handleBy_cons (codeAny_handlers_test ?_) (by intro q; cases q)
        have LM := PySem.W.exm_one (M := model X.prog X.w) (J3.kIn) LT hb1
        refine test hc (LM.here ?_)
        cases b with
        | true =>
          refine codeAny_handlers_suite ?_
          refine HandSPX.lands_againZ fl3 fun h4 fl4 up4 => ?_
          have J4 : Inv X pins σ' H' { s' with heap := h4 } := J.landed nb fl4.1 ((up.trans up3).trans up4) os ag
          obtain ⟨oe4, vs4, he4, hz4, hd4⟩ := fl4.there
          have S4 := J4.suite he4 hd4 na nL nF
          refine wpAny_mono ((hsu a oe4 cls d (X.pn ++ pins) hz4 ⟨_, hd4⟩).run [] _ _ H' _ S4 (hyes rfl a na)) (fun f s6 hsp => ?_) (fun _ _ z => False.elim z)
          cases f with
          | next =>
            obtain ⟨σ6, H6, S6, q6⟩ := hsp
            exact ⟨_, _, S6.unsuite ok, q6⟩
          | brk =>
            obtain ⟨σ6, H6, S6, q6⟩ := hsp
            exact ⟨_, _, S6.unsuite ok, q6⟩
          | cont =>
            obtain ⟨σ6, H6, S6, q6⟩ := hsp
            exact ⟨_, _, S6.unsuite ok, q6⟩
          | ret u =>
            obtain ⟨v6, σ6, H6, S6, r6, q6⟩ := hsp
            exact ⟨_, _, _, S6.unsuite ok, r6, q6⟩
        | false =>
          show wpAny _ X.A (handleBy (.ref a) X.env hds2) _ _ _
          exact ih (hno rfl)
    exact go hh w
  · cases f with
    | next =>
      obtain ⟨σ', H', J', q⟩ := hsp
      exact wpAny_execs_nil ⟨σ', H', J'.ofTry ok, q⟩
    | brk =>
      obtain ⟨σ', H', J', q⟩ := hsp
      exact ⟨σ', H', J'.ofTry ok, q⟩
    | cont =>
      obtain ⟨σ', H', J', q⟩ := hsp
      exact ⟨σ', H', J'.ofTry ok, q⟩
    | ret u =>
      obtain ⟨v, σ', H', J', r, q⟩ := hsp
      exact ⟨v, σ', H', J'.ofTry ok, r, q⟩
end
end PX

set_option Elab.async false
set_option linter.all false
set_option maxRecDepth 100000
/-! PxExc: own exception classes whose __init__ calls the base's and stores its parameters. -/
namespace PX
open PySem PySem.Spec L2
open PyProof.Rows hiding St

section
variable {X : Cx} {e : Expr} {es : List Expr} {ta : TA} {p1 p2 pos : Pos}
/-- B.__init__(self, ..), B an own class over ValueError without own __init__ -/
theorem pe_clsinit {pl : Sem Bool} {x0 : Str} {C0 : Addr} (hg : Gl X x0) (hm : X.mg x0 = some (.ref C0)) (hdb : (x0 == ("__debug__" : Str)) = false) (sg : PySem.W.specialIn X.K (.ref C0) "__getattribute__" = some (some (.builtin "type.__getattribute__"))) (hr : PySem.W.readsIn X.K C0 (.type "type") = true)
    (vV : PySem.W.findCls X.K (.ref C0) (.type "type") "__init__" = some (.val (.builtin "ValueError.__init__"))) (ha : PA X (e :: es) ta)
    (hc : eval (.Call (.Attribute (.Name x0 p1) "__init__" p2) (e :: es) [] pos) X.env = (do
      let ov ← eval (.Name x0 p1) X.env
      standAt p2.atName
      let (f, first) ← holding [ov] (getMethod ov "__init__" pl)
      callWith pos f first (backTo pos (starEach (e :: es) X.env)) (backToKw pos (keywordEach [] X.env))) := by rfl)
    (he : starEach (e :: es) X.env = (false, eval e X.env) :: starEach es X.env := by rfl) (hpl : (backTo pos (starEach es X.env)).any (·.1) = false := by rfl) :
    PE X (.Call (.Attribute (.Name x0 p1) "__init__" p2) (e :: es) [] pos) (tVeI X.K ta) := by
  refine ⟨fun pins s σ H Q I h => ?_⟩
  refine PySem.W.methodCall_KW (ld_glob I hg hm ?_ hdb) hc
  refine PySem.W.method_cls I.kIn sg (PySem.W.cls_value I.kIn hr vV (by decide +kernel) ?_)
  show wpAny _ _ (callWith pos (Value.builtin "ValueError.__init__") [] (backTo pos (starEach (e :: es) X.env)) []) _ _ _
  refine PyProof.Rows.callWith_method1 (thn (ha.run pos pins _ σ H _ (I.tok _) h) fun us s1 q => ?_) he hpl
  obtain ⟨vs, H1, I1, r1, a, C, ws, rfl, hl, T, ea, q⟩ := q
  cases r1 with
  | @cons _ u0 _ ur ra rw' =>
    cases ra
    refine oinit_ok T I1 ea ?_ fun s' J => ⟨.non, H1, J, rfl, q⟩
    have hz : sizeLine = 16777216 := rfl
    have := Paired.length rw'
    omega
end
/-- .. of its base, whose __init__ is ValueError's -/
structure BaseK (K : PySem.W.Frag) (C0 : Addr) : Prop where
  sg : PySem.W.specialIn K (.ref C0) "__getattribute__" = some (some (.builtin "type.__getattribute__"))
  rd : PySem.W.readsIn K C0 (.type "type") = true
  fc : PySem.W.findCls K (.ref C0) (.type "type") "__init__" = some (.val (.builtin "ValueError.__init__"))
/-- the def __init__ of such a class -/
theorem init_ok {P : Program} {w : World} {K : PySem.W.Frag} {mg : Str → Option Value} {base : Heap} {fI C C0 : Addr} {fd : FuncData} {nm qual B self f x : Str} {params : Arguments} {body : List Stmt} {scope : Scope} {msg : Str} {p1 p2 p3 p4 p5 p6 p7 p8 p9 p10 : Pos} {jk}
    (F : FunD K nm qual params body scope [] [] fI fd) (hb : body = [.Expr (.Call (.Attribute (.Name B p1) "__init__" p2) [.Name self p3, .Constant (.str msg) jk p4] [] p5) p6, .Assign [.Attribute (.Name self p7) f p8] (.Name x p9) p10])
    (S : FnScope [self, x] [self, x] scope) (hself : scope.names.lookup self = some .local) (hx : scope.names.lookup x = some .local) (hB : scope.names.lookup B = some .globalImplicit) (mB : mg B = some (.ref C0)) (dB : (B == ("__debug__" : Str)) = false)
    (d1 : (self == ("__debug__" : Str)) = false ∧ (self == ("__classdict__" : Str)) = false) (d2 : (x == ("__debug__" : Str)) = false ∧ (x == ("__classdict__" : Str)) = false) (bk : BaseK K C0) (ek : OexC K C) (no : PySem.W.findIn K (.ref C) f = some none)
    (hc : ∀ env : Env, ∃ pl : Sem Bool, eval (.Call (.Attribute (.Name B p1) "__init__" p2) [.Name self p3, .Constant (.str msg) jk p4] [] p5) env = (do
      let ov ← eval (.Name B p1) env
      standAt p2.atName
      let (f, first) ← holding [ov] (getMethod ov "__init__" pl)
      callWith p5 f first (backTo p5 (starEach [.Name self p3, .Constant (.str msg) jk p4] env)) (backToKw p5 (keywordEach [] env)))) :
    FnOk P w K mg base CX0 1 fI fd [self, x] (spInit K C f) ∧ L2H.FnH P w K mg base CX0 1 fI fd [self, x] (spInit K C f) := by
  subst hb
  have body : ∀ (X : Cx) (σ0 : L2.St) (H : Hp) (vs : List V) (Q : VK) (E : XK), X.N = [self, x] → X.env.scope = scope → X.K = K → X.mg = mg → σ0 = L2.start [self, x] vs → spInit K C f vs H Q E →
      ∃ t, PSs X [.Expr (.Call (.Attribute (.Name B p1) "__init__" p2) [.Name self p3, .Constant (.str msg) jk p4] [] p5) p6, .Assign [.Attribute (.Name self p7) f p8] (.Name x p9) p10] t ∧ t { nx := fun _ H' => Q .non H', rt := Q } σ0 H := by
    rintro X _ H vs Q E hN hsc hK hmg rfl ⟨a, y, rfl, ha, hQ⟩
    subst hK hmg
    obtain ⟨pl, hc⟩ := hc X.env
    have g0 : X.N[0]? = some self := by rw [hN]; rfl
    have g1 : X.N[1]? = some x := by rw [hN]; rfl
    have v0 : Vis X.env.scope self := by rw [hsc]; exact .inl hself
    have v1 : Vis X.env.scope x := by rw [hsc]; exact .inl hx
    have gB : Gl X B := by
      show X.env.scope.names.lookup B = _
      rw [hsc]; exact hB
    refine ⟨_, pss_cons (ps_expr (pe_clsinit (pl := pl) gB mB dB bk.sg bk.rd bk.fc (pa_cons (pe_var (i := 0) g0 v0 d1.1 d1.2) (pa_cons pe_str pa_nil)) hc))
      (pss_one (ps_ost (pe_var (i := 0) g0 v0 d1.1 d1.2) (pe_var (i := 1) g1 v1 d2.1 d2.2))), ?_⟩
    refine ⟨.ref a, rfl, a, C, [.str msg], rfl, by simp, ek, ha, y, rfl, .ref a, rfl, a, C, rfl, ek, no, .inl ⟨ha, fun dx n ne => hQ dx n ne⟩⟩
  have ln : ∀ vs H Q E, spInit K C f vs H Q E → vs.length = [self, x].length := by
    rintro vs H Q E ⟨a, y, rfl, _⟩; rfl
  constructor
  · exact F.ok S ln fun cdv A outer s H vs Q E hr h => body _ _ H vs Q E rfl rfl rfl rfl rfl h
  · obtain ⟨oc, od, dV, kV, doc, pm, an, cdv, ct, osl, rfl, lk, hcd, _, _⟩ := F.ex
    exact L2H.fn_ofH lk hcd S ln fun A outer s H vs Q E p hot hr h => body _ _ H vs Q E rfl rfl rfl rfl rfl h

section
variable {X : Cx} {e : Expr} {es : List Expr} {ta : TA}
/-- C(e, ..) where nothing is handled: its context is None (following pmk_oex) -/
theorem pmkN_oex {CX : CXT} {x : Str} {p pos : Pos} {C fI : Addr} {k : Nat} {fd : FuncData} {ps : List Str} {sp : Sp} (T : OexC X.K C) (iC : PySem.W.findIn X.K (.ref C) "__init__" = some (some (.ref fI))) (tI : PySem.W.typeIn X.K (.ref fI) = some (.type "function"))
    (F1 : FnOk X.prog X.w X.K X.mg X.base CX k fI fd ps sp) (hr : Room (k + 1) X.A) (hb : Binds X.K fd ps []) (hx : Passes CX X (fun _ _ _ => False)) (hg : Gl X x) (hm : X.mg x = some (.ref C)) (ha : PA X (e :: es) ta)
    (hdb : (x == ("__debug__" : Str)) = false) (he : starEach (e :: es) X.env = (false, eval e X.env) :: starEach es X.env) (hpl : (backTo pos (starEach es X.env)).any (·.1) = false) :
    L2N.PMk X (.Call (.Name x p) (e :: es) [] pos) (tMkO C sp [] ta) := by
  intro pins s σ H Q I h
  obtain ⟨nm, q, N, bs, bm, sn, sub, ab, col, dd, k0, k1, k2, k3, k5, hC, hbm⟩ := T.cls
  refine wpAny_Call_Name_kw (ld_glob I hg hm ?_ hdb)
  refine PySem.W.callWith_K (h₀ := X.base) I.ok.mod.kin T.kC (thn (ha.run pos pins s σ H _ I h) fun us s1 ⟨vs, H1, I1, r1, hz, q1⟩ => ⟨I1.kIn, ?_⟩) he hpl
  show wpAny _ _ (call (.ref C) us) _ _ _
  obtain ⟨hp, g, dr, tk, os⟩ := s1
  have hsz : hp.objs.size ≤ hp.objs.size + 1 := Nat.le_succ _
  have hn : H1 (hp.objs.size + 1) = none := I1.hok.fresh hsz
  have hq := q1 (hp.objs.size + 1) hn
  rw [List.append_nil] at hq
  have kk : ∀ b o, hp.get? b = some o → ((hp.push (PySem.W.kdv_tup us)).push (PySem.HandSPX.excO C hp.objs.size)).get? b = some o := fun b o e => Heap.get?_push_of_some _ (Heap.get?_push_of_some _ e)
  have hget : ((hp.push (PySem.W.kdv_tup us)).push (PySem.HandSPX.excO C hp.objs.size)).get? (hp.objs.size + 1) = some (PySem.HandSPX.excO C hp.objs.size) := by heap_get
  have I2 : Inv X pins σ (upd H1 (hp.objs.size + 1) (exo (hp.objs.size + 1) C none)) ⟨(hp.push (PySem.W.kdv_tup us)).push (PySem.HandSPX.excO C hp.objs.size), g, dr, tk, os⟩ :=
    I1.laid (t' := tk) (a := hp.objs.size + 1) (o := exo (hp.objs.size + 1) C none) (h' := (hp.push (PySem.W.kdv_tup us)).push (PySem.HandSPX.excO C hp.objs.size)) kk hsz (exo_ok hget)
  have r2 : Vals (V.ref (hp.objs.size + 1) :: vs) (Value.ref (hp.objs.size + 1) :: us) := .cons rfl r1
  have hl : (Value.ref (hp.objs.size + 1) :: us ++ []).length = ps.length := by
    have e := r2.length
    rw [F1.len _ _ _ _ hq] at e
    rw [List.append_nil]
    exact e.symm
  have hus : us.length ≤ sizeLine := by
    rw [← Paired.length r1, sizeLine_eq]
    omega
  have b2 := hb _ (Value.ref (hp.objs.size + 1) :: us) I2.kIn hl
  rw [List.append_nil] at b2
  refine wpAny_call (PySem.HandSPX.call_own F.excBase_ValueError (fun Y => PySem.HandSPX.refsVE_contains Y bm hbm) (I1.kIn _ _ hC) (PySem.W.looks_findIn I1.kIn iC) (fun self => PySem.W.bind_fn I1.kIn self tI) hus
    (codeAny_mono (F1.run _ X.stack _ _ ⟨Value.ref (hp.objs.size + 1) :: us, []⟩ (Value.ref (hp.objs.size + 1) :: us) _ _ (fun _ _ _ => False) (hr.make C us []) (I2.env0.make C us []) b2 r2 hq) fun r s' hq' => ?_))
  cases r with
  | error er => exact hx pins σ _ _ er s' I2 hq'
  | ok fl =>
    cases fl with
    | ret u =>
      obtain ⟨v, H2, os2, bare2, un2, hok2, rv, ev, d, fs, ea, ed, hd1, q2⟩ := hq'
      subst ev
      obtain ⟨h2, g2, d2, t2, os'⟩ := s'
      obtain ⟨t0, G, J, kG, ge, hoe, na⟩ := mk_end0 (d2 := d2) (t2 := t2) I1 hsz kk un2 hok2 os2 bare2 ea ed hd1
      exact ⟨rv, hp.objs.size + 1, _, _, ⟨G, g2, d2, t2, os'⟩, _, .ref C, some d, rfl, J, kG, ge, hoe, ⟨rfl, rfl, fun vs hv => by cases hv; rfl⟩, rfl, rfl, na, rfl, bare2, raises_own T.exC T.tyC, q2⟩
    | next => exact False.elim hq'
    | brk => exact False.elim hq'
    | cont => exact False.elim hq'
end
end PX

set_option Elab.async false
set_option linter.all false
set_option maxRecDepth 100000
/-! PxExc2: raise; a caught exception's field; try. -/
namespace PX
open PySem PySem.Spec L2
open PyProof.Rows hiding St

theorem RepF.lookup {g : Gh} {F : Hp} {f : Str} {d : D} : ∀ {vs : List (Str × V)} {ds : List (Str × D)}, RepF g F vs ds → lkS ds f = some d → ∃ v, vs.lookup f = some v ∧ Rep g F v d
  | _, _, .nil, h => by cases h
  | _, _, .cons (x := x) r rs, h => by
    simp only [lkS] at h
    split at h
    · rename_i e
      subst e
      injection h with h; subst h
      exact ⟨_, by simp [List.lookup], r⟩
    · rename_i ne
      obtain ⟨v, hv, rv⟩ := rs.lookup h
      refine ⟨v, ?_, rv⟩
      have : (f == x) = false := by
        cases q : f == x with
        | false => rfl
        | true => exact absurd (eq_of_beq q) ne
      simp only [List.lookup, this]
      exact hv
theorem s_fld {n : Cn} {W : WX} (G : Good n W) (o : Expr) (f : Str) (pos : Pos) : SE n W (.Attribute o f pos) (excFld n.c o f) := by
  refine ⟨fun pins s σ H Q I ⟨en, S, F, sr, p⟩ => ?_⟩
  unfold excFld at p
  split at p
  case h_2 => exact p.elim
  rename_i C fs hx
  obtain ⟨x, px, i, rfl, hs, he⟩ := excAt_some hx
  split at p
  case h_2 => exact p.elim
  rename_i ps d hC hf
  by_cases hm : f ∈ ps
  case neg => rw [if_neg hm] at p; exact p.elim
  rw [if_pos hm] at p
  have sl := sr.slot i _ he
  generalize hσ : σ[i]? = z at sl
  cases sl with
  | @exc a cls d0 _ _ hex hr =>
  cases hr with
  | @mk _ Ca dx vfs _ mC hdx rf =>
  obtain ⟨X0, oe, pn, hX, hz, hfd⟩ := G.exs _ _ _ hex
  obtain ⟨Ca', mC', hEx⟩ := G.tb.exc C ps hC
  rw [G.mg, mC'] at mC
  injection mC with mC; injection mC with mC; subst mC
  have E := hEx (by rintro rfl; cases hm)
  obtain ⟨fI, fd, self, f', rfl, _, _, no, _⟩ := E.ini
  obtain rfl : f = f' := by simpa using hm
  obtain ⟨v, hv, rv⟩ := rf.lookup hf
  have hK : n.X.K = X0.K := by rw [hX]
  have hp := pe_slot G hs (pos := px)
  rw [hX] at hp
  have T : XfC X0.K Ca' := by rw [← hK]; exact E.xf
  have hno : PySem.W.findIn X0.K (.ref Ca') f = some none := by rw [← hK]; exact no
  have hA := pe_xf (pos := pos) T hno hz hfd hp
  rw [← hX] at hA
  exact hA.run pins s σ H Q I ⟨_, hσ, rfl, rfl, dx, vfs, v, rfl, hdx, hv, p v H F .refl sr (.val rv)⟩
section
variable {ev : EC → Expr → En → Stm → Out OV} (ih : IH ev) {n : Cn} {W : WX} (G : GoodS n W)
include ih G
theorem s_raise (e : Expr) (pos : Pos) : PS n.X (.Raise (some e) none pos) (tS n W (raiseS n.c e ev)) := by
  cases e with
  | Call f args kws cpos =>
    cases f with
    | Name C p1 =>
      rcases args with _ | ⟨a, args⟩
      · exact ps_bad fun en S => rfl
      rcases kws with _ | ⟨k, kws⟩
      case cons => exact ps_bad fun en S => rfl
      by_cases c : ((n.c.slot C).isNone = true ∧ n.c.gl C = true ∧ n.c.hot = false) ∧ noStar (a :: args) = true ∧ args.length < 24
      case neg => exact ps_bad fun en S => by show raiseC n.c C a args ev en S = _; unfold raiseC; rw [if_neg c]
      cases hC : lkS n.c.T.excs C with
      | none => exact ps_bad fun en S => by show raiseC n.c C a args ev en S = _; unfold raiseC; rw [if_pos c, hC]
      | some ps =>
        by_cases he : ps.isEmpty = true
        · exact ps_bad fun en S => by show raiseC n.c C a args ev en S = _; unfold raiseC; rw [if_pos c, hC]; simp only [he, if_true]
        obtain ⟨⟨c1, c2, c3⟩, c4, c5⟩ := c
        obtain ⟨Ca, mC, hEx⟩ := G.tb.exc C ps hC
        have E := hEx (by rintro rfl; exact he rfl)
        obtain ⟨fI, fd, self, f', rfl, iC, tI, no, hb, F1⟩ := E.ini
        have hs : isStar a = false := by
          have := c4; simp only [noStar, List.all_cons, Bool.and_eq_true, Bool.not_eq_true'] at this; exact this.1
        have hs2 : noStar args = true := by
          have := c4; simp only [noStar, List.all_cons, Bool.and_eq_true, Bool.not_eq_true'] at this; simpa [noStar] using this.2
        have db : (C == ("__debug__" : Str)) = false := by
          cases q : (C == ("__debug__" : Str)) with
          | false => rfl
          | true => rw [(G.tb.dbg C (eq_of_beq q)).2.2] at hC; cases hC
        have hr : Room 2 n.X.A := (G.room c3).mono (by omega)
        have pm := pmk_oex (CX := CX0) (dvs := []) (ds := []) (p := p1) (pos := cpos) E.oex iC tI (F1 n.X.prog n.X.w n.X.base).1 hr hb .nil (fun _ _ _ _ _ _ _ h => h.elim) (gl_of G.toGood c2) mC (s_Vs ih G.toGood (a :: args)) db (star_cons ih G.toGood hs) (star_any ih G.toGood hs2)
        have pmN := pmkN_oex (CX := CX0) (p := p1) (pos := cpos) E.oex iC tI (F1 n.X.prog n.X.w n.X.base).1 hr hb (fun _ _ _ _ _ _ _ h => h.elim) (gl_of G.toGood c2) mC (s_Vs ih G.toGood (a :: args)) db (star_cons ih G.toGood hs) (star_any ih G.toGood hs2)
        have pr : PS n.X (.Raise (some (.Call (.Name C p1) (a :: args) [] cpos)) none pos) (fun _ σ H => tMkO Ca (spInit n.X.K Ca f') [] (tM n W (RDs n) (evVs ev n.c (a :: args))) σ H fun cls d H' => W cls d σ H') := by
          have tk := G.tk
          revert tk
          cases n.c.nn with
          | true => exact fun tk => L2N.ps_raise (pos := pos) (G.calm c3) tk pmN
          | false => exact fun tk => ps_raise (pos := pos) (G.calm c3) tk pm
        refine ps_imp pr ?_
        rintro D σ H ⟨en, S, F, sr, p⟩
        have e0 : raiseS n.c (.Call (.Name C p1) (a :: args) [] cpos) ev en S = (evVs ev n.c (a :: args) en S).toS fun ds en S => if [f'].length = ds.length then .err (.glo C) ([f'].zip ds) en S else .bad := by
          show raiseC n.c C a args ev en S = _
          unfold raiseC
          rw [if_pos ⟨⟨c1, c2, c3⟩, c4, c5⟩, hC]
          simp only [he, Bool.false_eq_true, if_false]
        rw [e0] at p
        refine ⟨en, S, F, sr, PostS.bind p ?_⟩
        intro ds en1 S1 vs H1 F1' _ sb sr1 rds p
        by_cases hl : [f'].length = ds.length
        case neg => rw [if_neg hl] at p; exact p.elim
        rw [if_pos hl] at p
        have rds : RepA n.g F1' vs ds := rds
        cases rds with
        | nil => cases hl
        | @cons y vs d ds ry rr =>
        cases rr with
        | cons => simp at hl
        | nil =>
        refine ⟨by simp, fun x hx => ?_⟩
        refine ⟨x, y, rfl, upd_same, fun dx hdx hne => ⟨rfl, dx, [(f', y)], upd_same, by rw [upd_ne hne, upd_same], ?_, ?_⟩⟩
        · rw [upd_ne hne] at hdx; exact hdx
        · rw [upd_ne hne] at hdx
          have eH : upd (del (upd (upd (upd H1 x (exo x Ca none)) dx (exd dx [(f', y)])) x (exo x Ca (some dx))) x) dx (.xd [(f', y)]) = upd H1 dx (.xd [(f', y)]) := by
            funext b
            by_cases b1 : b = dx
            · subst b1; rw [upd_same, upd_same]
            · rw [upd_ne b1, upd_ne b1]
              by_cases b2 : b = x
              · subst b2; rw [del_same, hx]
              · rw [del_ne b2, upd_ne b2, upd_ne b1, upd_ne b2]
          rw [eH]
          have gr : Grow F1' H1 F1' (upd H1 dx (.xd [(f', y)])) := Grow.own sr1.sub hdx
          exact p (.ref Ca) (some dx) σ _ F1' .refl (sr1.grow gr) (.mk (by rw [G.mg]; exact mC) upd_same (.cons ry .nil))
    | _ => exact ps_bad fun en S => rfl
  | _ => exact ps_bad fun en S => rfl
end
/-! ### try -/
theorem takesB_none {nn : Bool} {X : Cx} : TakesB nn X WF := by
  cases nn with
  | true =>
    rintro u s' ⟨_, _, _, _, _, _, _, _, _, _, _, _, _, _, _, _, w⟩
    exact w.elim
  | false =>
    rintro u s' ⟨_, _, _, _, _, _, _, _, _, _, _, _, _, _, _, _, w⟩
    exact w.elim
def Cn.hotX (n : Cn) (e : Addr × Value × Option Addr) : Cn := { n with c := { n.c with hot := true }, ex := some e }
section
variable {n : Cn} {F H : Hp} {σ : St} {en : En} {S : Stm} {e : Addr × Value × Option Addr}
theorem dropX_get {i : Nat} {x : Ent} (h : (dropX en)[i]? = some x) : ∃ y, en[i]? = some y ∧ x = dropE y := by
  unfold dropX at h
  rw [List.getElem?_map] at h
  cases q : en[i]? with
  | none => rw [q] at h; cases h
  | some y => rw [q] at h; injection h with h; exact ⟨y, rfl, h.symm⟩
theorem dropX_own {i : Nat} {o : O} (h : (dropX en)[i]? = some (.own o)) : en[i]? = some (.own o) := by
  obtain ⟨y, hy, e⟩ := dropX_get h
  cases y <;> cases e
  exact hy
theorem SR.toHot (sr : SR n F σ H en S) (hx : n.ex = none) : SR (n.hotX e) F σ H en S := by
  refine ⟨sr.len, sr.slen, sr.base, sr.sub, ?_, sr.dist, sr.st, sr.c0, sr.cellF, sr.fix⟩
  intro i x h
  have := sr.slot i x h
  generalize σ[i]? = z at this ⊢
  cases this with
  | none => exact .none
  | val r => exact .val r
  | own a b c d => exact .own a b c d
  | exc a b => rw [hx] at a; cases a
theorem SR.ofHot (sr : SR (n.hotX e) F σ H en S) : SR n F σ H (dropX en) S := by
  refine ⟨by rw [show (dropX en).length = en.length from List.length_map ..]; exact sr.len, sr.slen, sr.base, sr.sub, ?_, ?_, sr.st, sr.c0, sr.cellF, sr.fix⟩
  · intro i x h
    obtain ⟨y, hy, rfl⟩ := dropX_get h
    have := sr.slot i y hy
    generalize σ[i]? = z at this ⊢
    cases this with
    | none => exact .none
    | val r => exact .val r
    | own a b c d => exact .own a b c d
    | exc a b => exact .none
  · intro i j o o' p hi hj
    exact sr.dist i j o o' p (dropX_own hi) (dropX_own hj)
theorem RV.ofHot {r : OV} {v : V} (x : RV (n.hotX e) F σ H en r v) : RV n F σ H (dropX en) r v := by
  cases x with
  | val h => exact .val h
  | own a b c d k => exact .own a b c d fun i o' h => k i o' (dropX_own h)
theorem SR.unset (sr : SR n F σ H en S) (i : Nat) : SR n F (σ.set i none) H (en.set i .none) S := sr.wipe [i]
theorem SR.setX {a : Addr} {cls : Value} {d : Option Addr} {C : D} {fs : List (Str × D)} (sr : SR (n.hotX (a, cls, d)) F σ H en S) (x : ExcR n.g F H C fs cls d) {i : Nat} (hi : i < n.c.N.length) :
    SR (n.hotX (a, cls, d)) F (σ.set i (some (.ref a))) H (en.set i (.exc C fs)) S := by
  have hl : i < en.length := by rw [sr.len]; exact hi
  have hs : i < σ.length := by rw [sr.slen]; exact hi
  have back : ∀ {j : Nat} {q : O}, (en.set i (.exc C fs))[j]? = some (.own q) → j ≠ i ∧ en[j]? = some (.own q) := by
    intro j q h
    by_cases ij : j = i
    · subst ij; rw [List.getElem?_set_self hl] at h; cases h
    · rw [List.getElem?_set_ne (Ne.symm ij)] at h; exact ⟨ij, h⟩
  refine ⟨by simpa using sr.len, by simpa using sr.slen, sr.base, sr.sub, ?_, ?_, sr.st, sr.c0, sr.cellF, sr.fix⟩
  · intro j x' hx
    by_cases ij : j = i
    · subst ij
      rw [List.getElem?_set_self hl] at hx
      injection hx with hx; subst hx
      rw [List.getElem?_set_self hs]
      exact .exc rfl x
    · rw [List.getElem?_set_ne (Ne.symm ij)] at hx
      rw [List.getElem?_set_ne (Ne.symm ij)]
      exact sr.slot j x' hx
  · intro j k o o' p hj hk sj sk
    obtain ⟨nj, hj⟩ := back hj
    obtain ⟨nk, hk⟩ := back hk
    rw [List.getElem?_set_ne (Ne.symm nj)] at sj
    rw [List.getElem?_set_ne (Ne.symm nk)] at sk
    exact sr.dist j k o o' p hj hk sj sk
end
theorem RV.wX {n : Cn} {F H : Hp} {σ : St} {en : En} {r : OV} {v : V} (X : Cx) (x : RV n F σ H en r v) : RV (n.wX X) F σ H en r v := by
  cases x with
  | val h => exact .val h
  | own a b c d k => exact .own a b c d k
theorem RV.ofX {n : Cn} {F H : Hp} {σ : St} {en : En} {r : OV} {v : V} {X : Cx} (x : RV (n.wX X) F σ H en r v) : RV n F σ H en r v := by
  cases x with
  | val h => exact .val h
  | own a b c d k => exact .own a b c d k
theorem tS.wX {n : Cn} {W : WX} {f : En → Stm → SO} {D : Ends} {σ : St} {H : Hp} (X : Cx) (h : tS n W f D σ H) : tS (n.wX X) W f D σ H := by
  obtain ⟨en, S, F, sr, p⟩ := h
  refine ⟨en, S, F, sr.wX X, ?_⟩
  revert p
  generalize f en S = m
  intro p
  cases m with
  | nx en S => exact fun σ H F s sr => p σ H F s sr.ofX
  | bk en S => exact fun σ H F s sr => p σ H F s sr.ofX
  | ct en S => exact fun σ H F s sr => p σ H F s sr.ofX
  | ret r en S => exact fun v σ H F s sr x => p v σ H F s sr.ofX x.ofX
  | err C fs en S => exact fun c d σ H F s sr x => p c d σ H F s sr.ofX x
  | bad => exact p
section
variable {n : Cn} {W : WX} (G : GoodS n W)
include G
theorem good_tr {W' : WX} (hot : n.c.hot = false) (pn : List (Addr × Obj)) (xe : Value → Shared → Prop) (tk : TakesB n.c.nn (n.X.tr pn xe) W') (ps : PassesOwn (model n.X.prog n.X.w) n.X.A n.X.env xe) (ph : ∀ hd : Option Value, PassesOwnAt (model n.X.prog n.X.w) (n.X.A.mark hd) n.X.A n.X.env xe) : GoodS (n.wX (n.X.tr pn xe)) W' where
  N := G.N
  nd := G.nd
  dbg := G.dbg
  scope := G.scope
  fn := G.fn
  calm := G.calm
  room := G.room
  units := G.units
  tk := tk
  mg := G.mg
  w := G.w
  tb := G.tb
  fns := by
    intro f D hD
    obtain ⟨a, h1, h2⟩ := G.fns f D hD
    exact ⟨a, h1, h2.kp, h2.ok⟩
  two := G.two
  exn := G.exn
  exs := fun a cls d h => by
    have h : n.ex = some (a, cls, d) := h
    rw [G.exn hot] at h; cases h
  pass := ps
  passH := fun _ => ph
  stk := G.stk
  frm := G.frm
theorem good_suite (a : Addr) (oe : Obj) (cls : Value) (d : Option Addr) (pn : List (Addr × Obj)) (hz : Zc cls d oe) (hf : ∃ vs, oe.data = .fields vs) : GoodS ((n.hotX (a, cls, d)).wX (n.X.suite a ((a, oe) :: pn))) WF where
  N := G.N
  nd := G.nd
  dbg := G.dbg
  scope := G.scope
  fn := G.fn
  calm := fun h => by cases h
  room := fun h => by cases h
  units := G.units
  tk := takesB_none
  mg := G.mg
  w := G.w
  tb := G.tb
  fns := by
    intro f D hD
    obtain ⟨a, h1, h2⟩ := G.fns f D hD
    exact ⟨a, h1, h2.kp, h2.ok⟩
  two := G.two
  exn := fun h => by cases h
  exs := fun a' cls' d' h => by
    have h : some (a, cls, d) = some (a', cls', d') := h
    cases h
    exact ⟨n.X, oe, pn, rfl, hz, hf⟩
  pass := fun _ _ h => h.elim
  passH := fun h => by cases h
  stk := G.stk
  frm := G.frm
end
end PX

set_option Elab.async false
set_option linter.all false
set_option maxRecDepth 100000
/-! PxExc3: try. -/
namespace PX
open PySem PySem.Spec L2
open PyProof.Rows hiding St

section
variable {n : Cn} {W : WX}
/-- a clause's reading -/
def clOf (n : Cn) (su : List Stmt → En → Stm → SO) : ExceptHandler → Cl
  | .ExceptHandler (some (.Name x _)) nm suite _ => ((n.X.mg x).getD .none, nmIx n.c nm, fun a cls d => tS (n.hotX (a, cls, d)) WF (su suite))
  | _ => (.none, none, fun _ _ _ _ _ _ => False)
theorem hd_inv {c : EC} {h : ExceptHandler} (k : hdOk c h = true) : ∃ x np nm b₀ suite pos, h = .ExceptHandler (some (.Name x np)) nm (b₀ :: suite) pos ∧ c.slot x = none ∧ c.gl x = true ∧ (∃ ps, lkS c.T.excs x = some ps) ∧ nmOk c nm = true := by
  unfold hdOk at k
  split at k
  · rename_i x np nm b₀ suite pos
    simp only [Bool.and_eq_true, Option.isNone_iff_eq_none] at k
    obtain ⟨⟨⟨k1, k2⟩, k3⟩, k4⟩ := k
    exact ⟨x, np, nm, b₀, suite, pos, rfl, k1, k2, Option.isSome_iff_exists.mp k3, k4⟩
  · cases k
theorem nm_inv {c : EC} {nm : Option Str} (k : nmOk c nm = true) : (nm = none ∧ nmIx c nm = none) ∨ ∃ y i, nm = some y ∧ nmIx c nm = some i ∧ c.N[i]? = some y ∧ c.sc.names.lookup y = some .local := by
  cases nm with
  | none => exact .inl ⟨rfl, rfl⟩
  | some y =>
    simp only [nmOk, Bool.and_eq_true, decide_eq_true_eq] at k
    obtain ⟨i, hi⟩ := Option.isSome_iff_exists.mp k.2
    exact .inr ⟨y, i, rfl, hi, ix_get' hi, k.1⟩
section
variable (G : GoodS n W)
include G
theorem exc_names {x : Str} {ps : List Str} (h1 : n.c.gl x = true) (h2 : lkS n.c.T.excs x = some ps) : ∃ Ca, n.X.mg x = some (.ref Ca) ∧ Names n.X x (.ref Ca) := by
  obtain ⟨Ca, mC, _⟩ := G.tb.exc x ps h2
  have db : (x == ("__debug__" : Str)) = false := by
    cases q : (x == ("__debug__" : Str)) with
    | false => rfl
    | true => rw [(G.tb.dbg x (eq_of_beq q)).2.2] at h2; cases h2
  exact ⟨Ca, mC, gl_of G.toGood h1, db, .inl mC⟩
theorem hds_ok {su : List Stmt → En → Stm → SO} (hsu : ∀ (a : Addr) (oe : Obj) (cls : Value) (d : Option Addr) (pn : List (Addr × Obj)), Zc cls d oe → (∃ vs, oe.data = .fields vs) → ∀ sts, PSs (n.X.suite a ((a, oe) :: pn)) sts (tS ((n.hotX (a, cls, d)).wX (n.X.suite a ((a, oe) :: pn))) WF (su sts))) :
    ∀ hds : List ExceptHandler, hds.all (hdOk n.c) = true → HdsA n.X hds (hds.map (clOf n su))
  | [], _ => .nil
  | h :: r, k => by
    simp only [List.all_cons, Bool.and_eq_true] at k
    obtain ⟨x, np, nm, b₀, suite, pos, rfl, k1, k2, ⟨ps, k3⟩, k4⟩ := hd_inv k.1
    obtain ⟨Ca, mC, hn⟩ := exc_names G k2 k3
    have ih := hds_ok hsu r k.2
    have e0 : clOf n su (.ExceptHandler (some (.Name x np)) nm (b₀ :: suite) pos) = (.ref Ca, nmIx n.c nm, fun a cls d => tS (n.hotX (a, cls, d)) WF (su (b₀ :: suite))) := by
      show ((n.X.mg x).getD .none, nmIx n.c nm, _) = _
      rw [mC] <;> rfl
    rw [List.map_cons, e0]
    rcases nm_inv k4 with ⟨rfl, e1⟩ | ⟨y, i, rfl, e1, hi, hl⟩
    · rw [e1]
      exact .cons hn (fun a oe cls d pn hz hf => pss_imp (hsu a oe cls d pn hz hf (b₀ :: suite)) fun D σ H h => h.wX _) ih
    · rw [e1]
      refine .as (by rw [G.N]; exact hi) ?_ hn (fun a oe cls d pn hz hf => pss_imp (hsu a oe cls d pn hz hf (b₀ :: suite)) fun D σ H h => h.wX _) ih
      show n.X.env.scope.names.lookup y = some .local
      rw [G.scope]; exact hl
theorem clauses_ok {su : List Stmt → En → Stm → SO} (hx : n.ex = none) {C : Str} {fs : List (Str × D)} {ps : List Str} (hC : lkS n.c.T.excs C = some ps) {cls : Value} {d : Option Addr} {σ : St} {H F : Hp} {en : En} {S : Stm} {D : Ends} (sr : SR n F σ H en S) (x : ExcR n.g F H (.glo C) fs cls d) :
    ∀ hds : List ExceptHandler, hds.all (hdOk n.c) = true → PostS n W F (clauses n.c C fs su hds en S) D → wCls n.X.K W D (hds.map (clOf n su)) cls d σ H
  | [], _, p => p cls d σ H F .refl sr x
  | h :: r, k, p => by
    simp only [List.all_cons, Bool.and_eq_true] at k
    obtain ⟨y, np, nm, b₀, suite, pos, rfl, k1, k2, ⟨qs, k3⟩, k4⟩ := hd_inv k.1
    obtain ⟨Ca, mC, hn⟩ := exc_names G k2 k3
    have e0 : clOf n su (.ExceptHandler (some (.Name y np)) nm (b₀ :: suite) pos) = (.ref Ca, nmIx n.c nm, fun a cls d => tS (n.hotX (a, cls, d)) WF (su (b₀ :: suite))) := by
      show ((n.X.mg y).getD .none, nmIx n.c nm, _) = _
      rw [mC] <;> rfl
    rw [List.map_cons, e0]
    have ecls : ∃ Ea, n.X.mg C = some (.ref Ea) ∧ cls = .ref Ea := by
      cases x with
      | mk m _ _ => exact ⟨_, by rw [← G.mg]; exact m, rfl⟩
    obtain ⟨Ea, mE, rfl⟩ := ecls
    refine ⟨isSubOf n.c.T (.glo C) y, G.tb.exm C y ps qs hC k3 _ _ mE mC, fun hb a ha => ?_, fun hb => ?_⟩
    · simp only [clauses, hb, if_true] at p
      have key : ∀ (i : Option Nat), (∀ j, i = some j → j < n.c.N.length) → PostS n W F (sufEnd i (su (b₀ :: suite) (bindX i C fs en) S)) D → tS (n.hotX (a, .ref Ea, d)) WF (su (b₀ :: suite)) (goneD i D) (bindS i a σ) H := by
        intro i hi p
        have sh := sr.toHot (e := (a, .ref Ea, d)) hx
        refine ⟨bindX i C fs en, S, F, ?_, ?_⟩
        · cases i with
          | none => exact sh
          | some j => exact sh.setX x (hi j rfl)
        · revert p
          generalize su (b₀ :: suite) (bindX i C fs en) S = m
          intro p
          cases i with
          | none =>
            cases m with
            | nx en S => exact fun σ H F s sr => p σ H F s sr.ofHot
            | bk en S => exact fun σ H F s sr => p σ H F s sr.ofHot
            | ct en S => exact fun σ H F s sr => p σ H F s sr.ofHot
            | ret r en S => exact fun v σ H F s sr x => p v σ H F s sr.ofHot x.ofHot
            | err C fs en S => exact p.elim
            | bad => exact p
          | some j =>
            cases m with
            | nx en S => exact fun σ H F s sr => p _ H F s (sr.ofHot.unset j)
            | bk en S => exact fun σ H F s sr => p _ H F s (sr.ofHot.unset j)
            | ct en S => exact fun σ H F s sr => p _ H F s (sr.ofHot.unset j)
            | ret r en S => exact fun v σ H F s sr x => p v σ H F s sr.ofHot x.ofHot
            | err C fs en S => exact p.elim
            | bad => exact p
      refine key _ (fun j e => ?_) p
      rcases nm_inv k4 with ⟨rfl, e1⟩ | ⟨z, i, rfl, e1, hi, hl⟩
      · rw [e1] at e; cases e
      · rw [e1] at e; injection e with e; subst e
        exact (List.getElem?_eq_some_iff.mp hi).1
    · simp only [clauses, hb, Bool.false_eq_true, if_false] at p
      exact clauses_ok hx hC sr x r k.2 p
theorem s_try {f : EC → Stmt → En → Stm → SO} (ihs : ∀ (n : Cn) (W : WX), GoodS n W → IHS n W (f n.c)) (body : List Stmt) (hds : List ExceptHandler) (pos : Pos) :
    PS n.X (.Try body hds [] [] pos) (tS n W (tryS n.c hds (evSs (f n.c) body) (evSs (f { n.c with hot := true })))) := by
  by_cases c : (n.c.hot = false ∧ n.c.nn = false) ∧ hds.all (hdOk n.c) = true ∧ hds.isEmpty = false
  case neg => exact ps_bad fun en S => by unfold tryS; rw [if_neg c]
  obtain ⟨⟨c1, c0⟩, c2, c3⟩ := c
  have tk0 : Takes n.X W := by
    have tk := G.tk
    rw [c0] at tk
    exact tk
  cases hds with
  | nil => cases c3
  | cons h₀ hds =>
  have hx := G.exn c1
  refine ps_imp (ps_try_cls (tb := fun W' => tS n W' (evSs (f n.c) body)) (Wout := W) G.stk G.frm (by rw [G.N]; exact G.nd) tk0 ?_ (hds_ok G (su := evSs (f { n.c with hot := true })) ?_ (h₀ :: hds) c2)) ?_
  · intro W' pn xe tk ps ph
    have G' := good_tr G c1 pn xe (by rw [c0]; exact tk) ps ph
    exact pss_imp (s_Ss (ihs _ _ G') body) fun D σ H h => h.wX _
  · intro a oe cls d pn hz hf sts
    exact s_Ss (ihs _ _ (good_suite G a oe cls d pn hz hf)) sts
  · rintro D σ H ⟨en, S, F, sr, p⟩
    refine ⟨en, S, F, sr, ?_⟩
    simp only [tryS, if_pos (show (n.c.hot = false ∧ n.c.nn = false) ∧ (h₀ :: hds).all (hdOk n.c) = true ∧ (h₀ :: hds).isEmpty = false from ⟨⟨c1, c0⟩, c2, c3⟩)] at p
    revert p
    generalize evSs (f n.c) body en S = m
    intro p
    cases m with
    | nx en S => exact p
    | bk en S => exact p
    | ct en S => exact p
    | ret r en S => exact p
    | bad => exact p
    | err C fs en1 S1 =>
      cases C with
      | glo C =>
        by_cases hC : (lkS n.c.T.excs C).isSome = true
        case neg => simp only [if_neg hC] at p; exact p.elim
        simp only [if_pos hC] at p
        obtain ⟨ps, hC⟩ := Option.isSome_iff_exists.mp hC
        intro cls d σ1 H1 F1 sb sr1 x
        exact clauses_ok G hx hC sr1 x (h₀ :: hds) c2 (PostS.mono p sb)
      | _ => exact p.elim
end
end
end PX

set_option Elab.async false
set_option linter.all false
set_option maxRecDepth 100000
set_option maxHeartbeats 2000000
/-! PxHot: try: .. except (A, B, D): raise C(e). -/
namespace PX
open PySem PySem.Spec L2 L2H HotX
open PyProof.Rows hiding St

theorem flyingZ_keeps {B h h' : Heap} {l : List Env} {a : Addr} {Z : Obj → Prop} (x : HandSPX.FlyingZ B l a Z h) (k : ∀ b o, h.get? b = some o → h'.get? b = some o) : HandSPX.FlyingZ B l a Z h' := by
  obtain ⟨f1, f2, f3, oe, vs, T, oT, ts, he, hz, hd, h1, hn, hne, hT, r⟩ := x
  exact ⟨fun b o e => k b o (f1 b o e), f2, f3.of_keeps fun b o e _ => ⟨o, k b o e, rfl⟩, oe, vs, T, oT, ts, k _ _ he, hz, hd, h1, hn, hne, k _ _ hT, r⟩
/-- what such a clause wishes of an exception of the body -/
def wTup (K : PySem.W.Frag) (cs : List Value) (ts : Addr → Value → Option Addr → TS) (Wout : WX) (D : Ends) : WX := fun cls d σ H =>
  ∃ b, PySem.W.exmAny K cls cs = some b ∧ (b = true → ∀ a, H a = none → ts a cls d D σ H) ∧ (b = false → Wout cls d σ H)
section
variable {X : Cx} {x1 x2 x3 : Str} {c1 c2 c3 : Value} {body suite : List Stmt} {b₀ : Stmt} {p1 p2 p3 tpos pos pos' : Pos} {kk : Nat} {tb : WX → TS} {ts : Addr → Value → Option Addr → TS} {Wout : WX}
theorem ps_try_tupH (hs : X.stack = X.env :: X.outer) (hf : X.env.frame = some X.env.locals) (n1 : Names X x1 c1) (n2 : Names X x2 c2) (n3 : Names X x3 c3) (hpa : ∀ hd : Option Value, PassesOwnAt (model X.prog X.w) (X.A.mark hd) X.A X.env X.xe) (tk : L2.Takes X Wout)
    (hb : ∀ (W : WX) (pn : List (Addr × Obj)) (xe : Value → Shared → Prop), L2N.Takes (X.tr pn xe) W → PassesOwn (model X.prog X.w) X.A X.env xe → (∀ hd : Option Value, PassesOwnAt (model X.prog X.w) (X.A.mark hd) X.A X.env xe) → PSs (X.tr pn xe) body (tb W))
    (hsu : ∀ (a : Addr) (oe : Obj) (cls : Value) (d : Option Addr) (pn : List (Addr × Obj)), L2N.Zn cls d oe → (∃ vs, oe.data = .fields vs) → L2.Takes (suiteX X a ((a, oe) :: pn)) Wout → HotC (suiteX X a ((a, oe) :: pn)) →
      PSs (suiteX X a ((a, oe) :: pn)) (b₀ :: suite) (ts a cls d)) :
    PS X (.Try body [.ExceptHandler (some (.Tuple [.Name x1 p1, .Name x2 p2, .Name x3 p3] kk tpos)) none (b₀ :: suite) pos'] [] [] pos) (fun D σ H => tb (wTup X.K [c1, c2, c3] ts Wout D) D σ H) := by
  refine ⟨fun pins s σ H D I h => ?_⟩
  have ok := I.ok
  have hfr : X.A.frames = some (X.env :: X.outer) := by rw [ok.frames, hs]
  have notFr : ∀ {B h : Heap} {a : Addr} {o : Obj} {vs : Array Value}, h.FunFrames B (X.env :: X.outer) → h.get? a = some o → o.data = .fields vs → a ∉ frs (X.env :: X.outer) := fun {B h a o vs} ff e dd hm => by
    obtain ⟨_, o', e', hnf⟩ := ff.mem hm
    rw [e] at e'; cases e'
    exact hnf _ dd
  have flyOn : ∀ {a : Addr} {B : Heap} {sI s' : Shared} {σ' : L2.St} {H' : Hp} {cls : Value} {d : Option Addr} {h3 : Heap}, Inv X pins σ' H' sI → (∀ b o, sI.heap.get? b = some o → b ∉ frs X.stack → B.get? b = some o) → sI.heap.UpToSlots h3 →
      HandSPX.FlyingZ B (X.env :: X.outer) a (Zc cls d) h3 → H' a = none → s'.os = sI.os → AllBare s'.gens → Wout cls d σ' H' → wpAny (model X.prog X.w) X.A (handleBy (.ref a) X.env []) (SP X pins D) X.xe { s' with heap := h3 } := by
    intro a B sI s' σ' H' cls d h3 J nb up fl3 na os ag w
    refine wpAny_handleBy_nil ?_
    obtain ⟨k1, k2, k3, oe, vs, T, oT, ts', he, hz, hd, h1, hr⟩ := id fl3
    unfold PySem.passOn
    refine wpAny_bind (wpAny_field he hd h1 ?_)
    rw [if_neg (show ¬ ((Value.ref T == Value.none) = true) from by simp)]
    have fin : wpAny (model X.prog X.w) X.A (setFlight (.ref a) X.env.frame) (fun _ s4 => wpAny (model X.prog X.w) X.A (throw (.ref a) : Sem Flow) (SP X pins D) X.xe s4) X.xe { s' with heap := h3 } := by
      rw [hf]
      refine HandSPX.setFlight_upZ fl3 fun h4 hh4 up4 => wpAny_throw (tk _ _ ?_)
      exact ⟨a, B, sI, pins, σ', H', cls, d, rfl, J, nb, up.trans up4, .inr (.inr (by rw [hs]; exact hh4)), na, os, ag, w⟩
    first
      | exact wpAny_bind (wpAny_pure (wpAny_bind fin))
      | exact wpAny_bind fin
  refine wpAny_Try_except ?_
  refine wpAny_mono ((hb (wTup X.K [c1, c2, c3] ts Wout D) (X.pn ++ pins) (fun e s₁ => wpAny (model X.prog X.w) X.A (noteFrame e X.env) (fun _ s₂ => wpAny (model X.prog X.w) X.A (setFlight e none) (fun _ s₃ =>
    wpAny (model X.prog X.w) X.A (handleBy e X.env [.ExceptHandler (some (.Tuple [.Name x1 p1, .Name x2 p2, .Name x3 p3] kk tpos)) none (b₀ :: suite) pos']) (SP X pins D) X.xe s₃) X.xe s₂) X.xe s₁) (fun u s' xx => ?_) PassesOwn.looking fun hd => PassesOwnAt.looking).run [] s σ H D (I.toTry _) h) (fun f s1 hsp => ?_) (fun e s1 he => he)
  · obtain ⟨a, B, sI, pins', σ', H', cls, d, rfl, J', nb, up, sky, na, os, ag, b, hb1, hyes, hno⟩ := xx
    have J : Inv X pins σ' H' sI := J'.ofTry ok
    have sky' : Sky B (X.env :: X.outer) a (L2N.Zn cls d) X.env.locals s'.heap := by rw [← hs]; exact sky
    show wpAny (model X.prog X.w) X.A (noteFrame (.ref a) X.env) _ _ _
    refine L2N.Sky.land L2N.Zn.steady hfr hf sky' fun h3 fl3 up3 => ?_
    have J3 : Inv X pins σ' H' { s' with heap := h3 } := J.landed nb fl3.1 (up.trans up3) os ag
    obtain ⟨oe3, vs3, he3, hz3, hd3⟩ := fl3.there
    have nfr : a ∉ frs (X.env :: X.outer) := notFr fl3.2.2.1 he3 hd3
    have nL : a ≠ X.env.locals := fun z => nfr (List.mem_filterMap.mpr ⟨X.env, List.mem_cons_self, by rw [hf, z]⟩)
    have nF : a ∉ X.fs := fun hm => by
      obtain ⟨e, he, q⟩ := List.mem_filterMap.mp hm
      exact nfr (List.mem_filterMap.mpr ⟨e, List.mem_cons_of_mem _ he, q⟩)
    have S3 := J3.suite he3 hd3 na nL nF
    refine wpAny_handleBy_cons (codeAny_handlers_test ?_) (by intro q; cases q)
    have LT : PySem.W.Looks (model X.prog X.w) h3 (typeOf (.ref a)) cls := fun A Q E s k q => wpAny_typeOf_ref (k _ _ he3) (by rw [hz3.1]; exact q)
    have test : ∀ {x : Str} {c : Value} {np : Pos} {Q : Value → Shared → Prop} {E : Value → Shared → Prop}, Names X x c → Q c { s' with heap := h3 } → wpAny (model X.prog X.w) (X.A.mark (some (.ref a))) (eval (.Name x np) X.env) Q E { s' with heap := h3 } := fun {x c np Q E} hc q => by
      obtain ⟨hg, hdbg, hm | ⟨hm, hv, hnn⟩⟩ := hc
      · exact ld_glob (X := X.suite a ((a, oe3) :: (X.pn ++ pins))) S3 hg hm q hdbg
      · exact ld_blt (X := X.suite a ((a, oe3) :: (X.pn ++ pins))) S3 hg hm hv q hnn hdbg
    refine wpAny_Tuple ?_
    refine wpAny_items_cons (test n1 ?_)
    refine wpAny_items_cons (test n2 ?_)
    refine wpAny_items_cons (test n3 ?_)
    refine wpAny_items_nil ⟨by size_fits, ?_⟩
    have kp : ∀ q o, h3.get? q = some o → (h3.push { cls := .type "tuple", data := .seq [c1, c2, c3].toArray }).get? q = some o := fun _ _ z => Heap.get?_push_of_some _ z
    have fl5 := flyingZ_keeps fl3 kp
    have up5 : sI.heap.UpToSlots (h3.push { cls := .type "tuple", data := .seq [c1, c2, c3].toArray }) := (up.trans up3).trans (Heap.UpToSlots.of_keeps kp)
    refine (PySem.W.exm_tup3 (M := model X.prog X.w) (J3.kIn.keeps kp) (LT.keeps kp) (Heap.get?_push_size h3 rfl) hb1).here ?_
    cases b with
    | true =>
      refine codeAny_handlers_suite ?_
      refine HandSPX.lands_againZ fl5 fun h4 fl4 up4 => ?_
      have J4 : Inv X pins σ' H' { s' with heap := h4 } := J.landed nb fl4.1 (up5.trans up4) os ag
      obtain ⟨oe4, vs4, he4, hz4, hd4⟩ := fl4.there
      have S4 := J4.suite he4 hd4 na nL nF
      have tkS : L2.Takes (suiteX X a ((a, oe4) :: (X.pn ++ pins))) Wout := fun u2 s2 x2 => by
        obtain ⟨a2, B2, sI2, pn2, σ2, H2, cls2, d2, e2, I2, nb2, up2, sky2, na2, os2, ag2, w2⟩ := x2
        exact tk u2 s2 ⟨a2, B2, sI2, pins, σ2, H2, cls2, d2, e2, unsuiteX I2 ok, nb2, up2, sky2, na2, os2, ag2, w2⟩
      have hot : HotC (suiteX X a ((a, oe4) :: (X.pn ++ pins))) := ⟨(a, oe4), ⟨rfl, vs4, hd4, hz4.2.2 vs4 hd4⟩, List.mem_cons_self⟩
      refine wpAny_mono ((hsu a oe4 cls d (X.pn ++ pins) hz4 ⟨_, hd4⟩ tkS hot).run [] _ _ H' _ (suiteX_of S4) (hyes rfl a na)) (fun f s6 hsp => ?_) (fun e6 s6 z => hpa (some (.ref a)) e6 s6 z)
      cases f with
      | next =>
        obtain ⟨σ6, H6, S6, q6⟩ := hsp
        exact ⟨_, _, unsuiteX S6 ok, q6⟩
      | brk =>
        obtain ⟨σ6, H6, S6, q6⟩ := hsp
        exact ⟨_, _, unsuiteX S6 ok, q6⟩
      | cont =>
        obtain ⟨σ6, H6, S6, q6⟩ := hsp
        exact ⟨_, _, unsuiteX S6 ok, q6⟩
      | ret u =>
        obtain ⟨v6, σ6, H6, S6, r6, q6⟩ := hsp
        exact ⟨_, _, _, unsuiteX S6 ok, r6, q6⟩
    | false =>
      show wpAny _ X.A (handleBy (.ref a) X.env []) _ _ _
      exact flyOn J nb up5 (flyingZ_imp (fun o z => z.zc) fl5) na os ag (hno rfl)
  · cases f with
    | next =>
      obtain ⟨σ', H', J', q⟩ := hsp
      exact wpAny_execs_nil ⟨σ', H', J'.ofTry ok, q⟩
    | brk =>
      obtain ⟨σ', H', J', q⟩ := hsp
      exact ⟨σ', H', J'.ofTry ok, q⟩
    | cont =>
      obtain ⟨σ', H', J', q⟩ := hsp
      exact ⟨σ', H', J'.ofTry ok, q⟩
    | ret u =>
      obtain ⟨v, σ', H', J', r, q⟩ := hsp
      exact ⟨v, σ', H', J'.ofTry ok, r, q⟩
end

/-- another frame of the same slots -/
def Cn.wC (n : Cn) (c : EC) (X : Cx) : Cn := { n with c := c, X := X }
section
variable {n : Cn} {F H : Hp} {σ : L2.St} {en : En} {S : Stm} {c : EC} {X : Cx}
theorem SR.wC (hN : c.N = n.c.N) (X : Cx) (sr : SR n F σ H en S) : SR (n.wC c X) F σ H en S :=
  ⟨sr.len.trans (by rw [← hN] <;> rfl), sr.slen.trans (by rw [← hN] <;> rfl), sr.base, sr.sub, fun i e h => SlotR.to (n := n) (n' := n.wC c X) rfl rfl rfl (fun _ _ z => z) (fun p x _ _ b => ⟨b, fun _ u => u⟩) (sr.slot i e h), sr.dist, sr.st, sr.c0, sr.cellF, sr.fix⟩
theorem SR.ofC (hN : c.N = n.c.N) (sr : SR (n.wC c X) F σ H en S) : SR n F σ H en S := (SR.wC (n := n.wC c X) (c := n.c) hN.symm n.X sr : SR ((n.wC c X).wC n.c n.X) F σ H en S)
theorem RV.wC {r : OV} {v : V} (c : EC) (X : Cx) (x : RV n F σ H en r v) : RV (n.wC c X) F σ H en r v := by
  cases x with
  | val h => exact .val h
  | own a b c d k => exact .own a b c d k
theorem RV.ofC {r : OV} {v : V} (x : RV (n.wC c X) F σ H en r v) : RV n F σ H en r v := by
  cases x with
  | val h => exact .val h
  | own a b c d k => exact .own a b c d k
theorem tS.wC {W : WX} {f : En → Stm → SO} {D : Ends} (hN : c.N = n.c.N) (X : Cx) (h : tS n W f D σ H) : tS (n.wC c X) W f D σ H := by
  obtain ⟨en, S, F, sr, p⟩ := h
  refine ⟨en, S, F, sr.wC hN X, ?_⟩
  revert p
  generalize f en S = m
  intro p
  cases m with
  | nx en S => exact fun σ H F s sr => p σ H F s (sr.ofC hN)
  | bk en S => exact fun σ H F s sr => p σ H F s (sr.ofC hN)
  | ct en S => exact fun σ H F s sr => p σ H F s (sr.ofC hN)
  | ret r en S => exact fun v σ H F s sr x => p v σ H F s (sr.ofC hN) x.ofC
  | err C fs en S => exact fun c d σ H F s sr x => p c d σ H F s (sr.ofC hN) x
  | bad => exact p
end
section
variable {n : Cn} {W : WX} (G : GoodS n W)
include G
theorem good_nn (c1 : n.c.hot = false) {W' : WX} (pn : List (Addr × Obj)) (xe : Value → Shared → Prop) (tk : L2N.Takes (n.X.tr pn xe) W') (ps : PassesOwn (model n.X.prog n.X.w) n.X.A n.X.env xe) (ph : ∀ hd : Option Value, PassesOwnAt (model n.X.prog n.X.w) (n.X.A.mark hd) n.X.A n.X.env xe) :
    GoodS (n.wC { n.c with nn := true } (n.X.tr pn xe)) W' where
  N := G.N
  nd := G.nd
  dbg := G.dbg
  scope := G.scope
  fn := G.fn
  calm := G.calm
  room := G.room
  units := G.units
  tk := tk
  mg := G.mg
  w := G.w
  tb := G.tb
  fns := by
    intro f D hD
    obtain ⟨a, h1, h2⟩ := G.fns f D hD
    exact ⟨a, h1, h2.kp, h2.ok⟩
  two := G.two
  exn := G.exn
  exs := fun a cls d h => by
    have h : n.ex = some (a, cls, d) := h
    rw [G.exn c1] at h; cases h
  pass := ps
  passH := fun _ => ph
  stk := G.stk
  frm := G.frm
theorem good_suiteX (c1 : n.c.hot = false) (c0 : n.c.nn = false) (a : Addr) (q : List (Addr × Obj)) (tk : L2.Takes (suiteX n.X a q) W) : Good (n.wC { n.c with hot := true } (suiteX n.X a q)) W where
  N := G.N
  nd := G.nd
  dbg := G.dbg
  scope := G.scope
  fn := G.fn
  calm := fun h => by cases h
  room := fun h => by cases h
  units := G.units
  tk := by
    show TakesB n.c.nn _ _
    rw [c0]; exact tk
  mg := G.mg
  w := G.w
  tb := G.tb
  fns := by
    intro f D hD
    obtain ⟨a, h1, h2⟩ := G.fns f D hD
    exact ⟨a, h1, h2.kp, h2.ok⟩
  two := G.two
  exn := fun h => by cases h
  exs := fun a cls d h => by
    have h : n.ex = some (a, cls, d) := h
    rw [G.exn c1] at h; cases h
end
theorem hotOf_inv {hds : List ExceptHandler} {ts : Str × Str × Str} {C : Str} {a : Expr} (h : hotOf hds = some (ts, C, a)) :
    ∃ p1 p2 p3 kk tpos pC pc pr pos, hds = [.ExceptHandler (some (.Tuple [.Name ts.1 p1, .Name ts.2.1 p2, .Name ts.2.2 p3] kk tpos)) none [.Raise (some (.Call (.Name C pC) [a] [] pc)) none pr] pos] := by
  unfold hotOf at h
  split at h
  · injection h with h
    injection h with h1 h2
    injection h2 with h2 h3
    subst h1 h2 h3
    exact ⟨_, _, _, _, _, _, _, _, _, rfl⟩
  · cases h
theorem exAny3 {K : PySem.W.Frag} {cls c1 c2 c3 : Value} {b1 b2 b3 : Bool} (h1 : PySem.W.exmOne K cls c1 = some b1) (h2 : PySem.W.exmOne K cls c2 = some b2) (h3 : PySem.W.exmOne K cls c3 = some b3) : PySem.W.exmAny K cls [c1, c2, c3] = some (b1 || b2 || b3) := by
  simp only [PySem.W.exmAny, h1, h2, h3, Bool.or_false, Bool.or_assoc]
section
variable {ev : EC → Expr → En → Stm → Out OV} (ih : IH ev) {n : Cn} {W : WX} (G : GoodS n W)
include ih G
theorem s_tryH {f : EC → Stmt → En → Stm → SO} (ihs : ∀ (n : Cn) (W : WX), GoodS n W → IHS n W (f n.c)) (body : List Stmt) (hds : List ExceptHandler) (pos : Pos) {ts : Str × Str × Str} {C : Str} {a : Expr} (hh : hotOf hds = some (ts, C, a)) :
    PS n.X (.Try body hds [] [] pos) (tS n W (tryH n.c ts C a (evSs (f { n.c with nn := true }) body) (evVs ev { n.c with hot := true } [a]))) := by
  obtain ⟨p1, p2, p3, kk, tpos, pC, pc, pr, pos2, rfl⟩ := hotOf_inv hh
  by_cases c : (n.c.hot = false ∧ n.c.nn = false) ∧ (excName n.c ts.1 = true ∧ excName n.c ts.2.1 = true ∧ excName n.c ts.2.2 = true ∧ excName n.c C = true) ∧ isStar a = false
  case neg => exact ps_bad fun en S => by unfold tryH; rw [if_neg c]
  have cAll := c
  obtain ⟨⟨c1, c0⟩, ⟨e1, e2, e3, e4⟩, hs⟩ := c
  have nameOf : ∀ {x : Str}, excName n.c x = true → ∃ ps, n.c.gl x = true ∧ lkS n.c.T.excs x = some ps := by
    intro x h
    simp only [excName, Bool.and_eq_true] at h
    obtain ⟨ps, hp⟩ := Option.isSome_iff_exists.mp h.2
    exact ⟨ps, h.1.2, hp⟩
  obtain ⟨q1, g1, l1⟩ := nameOf e1
  obtain ⟨q2, g2, l2⟩ := nameOf e2
  obtain ⟨q3, g3, l3⟩ := nameOf e3
  obtain ⟨q4, g4, l4⟩ := nameOf e4
  obtain ⟨A1, m1, n1⟩ := exc_names G g1 l1
  obtain ⟨A2, m2, n2⟩ := exc_names G g2 l2
  obtain ⟨A3, m3, n3⟩ := exc_names G g3 l3
  have tk0 : Takes n.X W := by
    have tk := G.tk
    rw [c0] at tk
    exact tk
  have hx := G.exn c1
  by_cases hq : ∃ f, q4 = [f]
  case neg =>
    -- nothing is raised: no exception of the tuple is let out
    refine ps_imp (ps_try_tupH (tb := fun W' => tS n W' (evSs (f { n.c with nn := true }) body)) (Wout := W) (ts := fun _ _ _ _ _ _ => False) G.stk G.frm n1 n2 n3 (G.passH c1) tk0 ?_ ?_) ?_
    · intro W' pn xe tk ps ph
      exact pss_imp (s_Ss (ihs _ _ (good_nn G c1 pn xe tk ps ph)) body) fun D σ H h => tS.wC (c := { n.c with nn := true }) rfl _ h
    · intro a oe cls d pn hz hf tkS hot
      exact ⟨fun pins s σ H D I h => h.elim⟩
    · rintro D σ H ⟨en, S, F, sr, p⟩
      refine ⟨en, S, F, sr, ?_⟩
      unfold tryH at p
      rw [if_pos cAll] at p
      revert p
      generalize evSs (f { n.c with nn := true }) body en S = m
      intro p
      cases m with
      | nx en S => exact p
      | bk en S => exact p
      | ct en S => exact p
      | ret r en S => exact p
      | bad => exact p
      | err D0 fs en1 S1 =>
        cases D0 with
        | glo D0 =>
          by_cases hD : (lkS n.c.T.excs D0).isSome = true
          case neg => simp only [if_neg hD] at p; exact p.elim
          simp only [if_pos hD] at p
          obtain ⟨ps, hD⟩ := Option.isSome_iff_exists.mp hD
          intro cls d σ1 H1 F1 sb sr1 x
          have ecls : ∃ Ea, n.X.mg D0 = some (.ref Ea) ∧ cls = .ref Ea := by
            cases x with
            | mk m _ _ => exact ⟨_, by rw [← G.mg]; exact m, rfl⟩
          obtain ⟨Ea, mE, rfl⟩ := ecls
          have ex := exAny3 (G.tb.exm D0 ts.1 ps q1 hD l1 _ _ mE m1) (G.tb.exm D0 ts.2.1 ps q2 hD l2 _ _ mE m2) (G.tb.exm D0 ts.2.2 ps q3 hD l3 _ _ mE m3)
          refine ⟨raisesB n.c.T D0 ts, ex, fun hb => ?_, fun hb => ?_⟩
          · rw [if_pos hb, l4] at p
            split at p
            · rename_i f0 e0
              injection e0 with e0
              exact absurd ⟨_, e0⟩ hq
            · exact p.elim
          · rw [if_neg (by rw [hb]; decide)] at p
            exact p _ _ σ1 H1 F1 sb sr1 x
        | _ => exact p.elim
  obtain ⟨f', rfl⟩ := hq
  obtain ⟨Ca, mC, hEx⟩ := G.tb.exc C [f'] l4
  have E := hEx (by simp)
  obtain ⟨fI, fd, self, f'', ef, iC, tI, no, hb, F1⟩ := E.ini
  injection ef with ef
  subst ef
  have db : (C == ("__debug__" : Str)) = false := by
    cases q : (C == ("__debug__" : Str)) with
    | false => rfl
    | true => rw [(G.tb.dbg C (eq_of_beq q)).2.2] at l4; cases l4
  have hs1 : noStar ([] : List Expr) = true := rfl
  refine ps_imp (ps_try_tupH (tb := fun W' => tS n W' (evSs (f { n.c with nn := true }) body)) (Wout := W)
    (ts := fun a0 cls d D σ H => tMkO Ca (spInit n.X.K Ca f') [] (tM n W (RDs n) (evVs ev { n.c with hot := true } [a])) σ H fun cls d H' => W cls d σ H') G.stk G.frm n1 n2 n3 (G.passH c1) tk0 ?_ ?_) ?_
  · intro W' pn xe tk ps ph
    exact pss_imp (s_Ss (ihs _ _ (good_nn G c1 pn xe tk ps ph)) body) fun D σ H h => tS.wC (c := { n.c with nn := true }) rfl _ h
  · intro a0 oe cls d pn hz hf tkS hot
    have G2 := good_suiteX G c1 c0 a0 ((a0, oe) :: pn) tkS
    have ha : PA (suiteX n.X a0 ((a0, oe) :: pn)) [a] (tM n W (RDs n) (evVs ev { n.c with hot := true } [a])) := by
      refine PA.imp (s_Vs ih G2 [a]) fun σ H Q h => ?_
      obtain ⟨en, S, F, sr, p⟩ := h
      refine ⟨en, S, F, sr.wC (c := { n.c with hot := true }) rfl _, ?_⟩
      revert p
      show Post n W σ F (RDs n) (evVs ev { n.c with hot := true } [a] en S) Q → Post (n.wC { n.c with hot := true } (suiteX n.X a0 ((a0, oe) :: pn))) W σ F _ (evVs ev { n.c with hot := true } [a] en S) Q
      generalize evVs ev { n.c with hot := true } [a] en S = m
      intro p
      cases m with
      | ok r en S => exact fun v H F s sr rv => p v H F s (SR.ofC (c := { n.c with hot := true }) rfl sr) rv
      | err C fs en S => exact fun c d H F s sr x => p c d H F s (SR.ofC (c := { n.c with hot := true }) rfl sr) x
      | bad => exact p
    exact pss_one (ps_raiseH hot tkS (pmk5_oexH (X := suiteX n.X a0 ((a0, oe) :: pn)) (CX := CX0) (k := 1) E.oex iC tI (F1 n.X.prog n.X.w n.X.base).2 (roomH_mark ((G.room c1).mono (show 1 + 1 ≤ n.k + 2 by omega)) _) hot hb (fun _ _ _ _ _ _ _ h => h.elim) (gl_of G2 g4) mC ha db (star_cons ih G2 hs) (star_any ih G2 hs1)).pmk)
  · rintro D σ H ⟨en, S, F, sr, p⟩
    refine ⟨en, S, F, sr, ?_⟩
    unfold tryH at p
    rw [if_pos cAll] at p
    revert p
    generalize evSs (f { n.c with nn := true }) body en S = m
    intro p
    cases m with
    | nx en S => exact p
    | bk en S => exact p
    | ct en S => exact p
    | ret r en S => exact p
    | bad => exact p
    | err D0 fs en1 S1 =>
      cases D0 with
      | glo D0 =>
        by_cases hD : (lkS n.c.T.excs D0).isSome = true
        case neg => simp only [if_neg hD] at p; exact p.elim
        simp only [if_pos hD] at p
        obtain ⟨ps, hD⟩ := Option.isSome_iff_exists.mp hD
        intro cls d σ1 H1 F1 sb sr1 x
        have ecls : ∃ Ea, n.X.mg D0 = some (.ref Ea) ∧ cls = .ref Ea := by
          cases x with
          | mk m _ _ => exact ⟨_, by rw [← G.mg]; exact m, rfl⟩
        obtain ⟨Ea, mE, rfl⟩ := ecls
        have ex := exAny3 (G.tb.exm D0 ts.1 ps q1 hD l1 _ _ mE m1) (G.tb.exm D0 ts.2.1 ps q2 hD l2 _ _ mE m2) (G.tb.exm D0 ts.2.2 ps q3 hD l3 _ _ mE m3)
        refine ⟨raisesB n.c.T D0 ts, ex, fun hb a0 ha0 => ?_, fun hb => ?_⟩
        · rw [if_pos hb, l4] at p
          simp only at p
          refine ⟨en1, S1, F1, sr1, PostS.bind (PostS.mono p sb) ?_⟩
          intro ds en1 S1 vs H1 F1' _ sb sr1 rds p
          by_cases hl : [f'].length = ds.length
          case neg => rw [if_neg hl] at p; exact p.elim
          rw [if_pos hl] at p
          have rds : RepA n.g F1' vs ds := rds
          cases rds with
          | nil => cases hl
          | @cons y vs d ds ry rr =>
          cases rr with
          | cons => simp at hl
          | nil =>
          refine ⟨by simp, fun x hx => ?_⟩
          refine ⟨x, y, rfl, upd_same, fun dx hdx hne => ⟨rfl, dx, [(f', y)], upd_same, by rw [upd_ne hne, upd_same], ?_, ?_⟩⟩
          · rw [upd_ne hne] at hdx; exact hdx
          · rw [upd_ne hne] at hdx
            have eH : upd (del (upd (upd (upd H1 x (exo x Ca none)) dx (exd dx [(f', y)])) x (exo x Ca (some dx))) x) dx (.xd [(f', y)]) = upd H1 dx (.xd [(f', y)]) := by
              funext b
              by_cases b1 : b = dx
              · subst b1; rw [upd_same, upd_same]
              · rw [upd_ne b1, upd_ne b1]
                by_cases b2 : b = x
                · subst b2; rw [del_same, hx]
                · rw [del_ne b2, upd_ne b2, upd_ne b1, upd_ne b2]
            rw [eH]
            have gr : Grow F1' H1 F1' (upd H1 dx (.xd [(f', y)])) := Grow.own sr1.sub hdx
            exact p (.ref Ca) (some dx) σ1 _ F1' .refl (sr1.grow gr) (.mk (by rw [G.mg]; exact mC) upd_same (.cons ry .nil))
        · rw [if_neg (by rw [hb]; decide)] at p
          exact p _ _ σ1 H1 F1 sb sr1 x
      | _ => exact p.elim
end
end PX

set_option Elab.async false
set_option linter.all false
set_option maxRecDepth 100000
/-! PxAll: every expression, every statement. -/
namespace PX
open PySem PySem.Spec L2
open PyProof.Rows hiding St

theorem const_ok {n : Cn} {W : WX} (k : Const) (j) (pos : Pos) : SE n W (.Constant k j pos) (fun en S => (lift (constD k) en S).bind fun d en S => .ok (.val d) en S) := by
  cases k with
  | none => exact PE.imp pe_non fun σ H Q ⟨en, S, F, sr, p⟩ => p _ H F .refl sr (.val .non)
  | bool b => exact PE.imp pe_bl fun σ H Q ⟨en, S, F, sr, p⟩ => p _ H F .refl sr (.val (.bl b))
  | int i => exact PE.imp pe_int fun σ H Q ⟨en, S, F, sr, p⟩ => p _ H F .refl sr (.val (.int i))
  | str x => exact PE.imp pe_str fun σ H Q ⟨en, S, F, sr, p⟩ => p _ H F .refl sr (.val (.str x))
  | _ => exact pe_never' (tM_bad fun en S => rfl)
section
variable {ev : EC → Expr → En → Stm → Out OV} (ih : IH ev) {n : Cn} {W : WX} (G : Good n W)
include ih G
theorem b1_ok {f : Str} {b : B1} (hf : b1Of (bk f) = some b) (hb : n.c.blt f = true) (hh : n.c.hot = false) {e : Expr} {pos p1 : Pos} (hs : noStar [e] = true) : SE n W (.Call (.Name f p1) [e] [] pos) (b1E ev n.c b e) := by
  have hc := G.calm hh
  have ho : bk f ≠ .other := by intro h; rw [h] at hf; cases hf
  have hm := bk_mem (k := bk f) rfl ho
  obtain ⟨hn, hd⟩ := boot_ok _ hm
  have go : ∀ {k : BK}, bk f = k → (f, k) ∈ bkTab := fun h => by rw [← h]; exact hm
  cases hk : bk f with
  | int =>
    rw [hk] at hf; cases hf
    have ef : f = Str.ofString "int" := by have := go hk; simpa [bkTab] using this
    subst ef
    exact s_ty1 ih G hb hs (call_intX (g := n.g)) (by rfl) hn hd
  | str =>
    rw [hk] at hf; cases hf
    have ef : f = Str.ofString "str" := by have := go hk; simpa [bkTab] using this
    subst ef
    exact s_ty1 ih G hb hs (call_strX (g := n.g)) (by rfl) hn hd
  | tuple =>
    rw [hk] at hf; cases hf
    have ef : f = Str.ofString "tuple" := by have := go hk; simpa [bkTab] using this
    subst ef
    exact s_ty1 ih G hb hs (call_tupX (g := n.g)) (by rfl) hn hd
  | list =>
    rw [hk] at hf; cases hf
    have ef : f = Str.ofString "list" := by have := go hk; simpa [bkTab] using this
    subst ef
    exact s_ty1 ih G hb hs (call_listX (g := n.g)) (by rfl) hn hd
  | all =>
    rw [hk] at hf; cases hf
    have ef : f = Str.ofString "all" := by have := go hk; simpa [bkTab] using this
    subst ef
    exact s_fun1 ih G hb hs (call_allX (g := n.g) hc) (by rfl) hn hd
  | abs =>
    rw [hk] at hf; cases hf
    have ef : f = Str.ofString "abs" := by have := go hk; simpa [bkTab] using this
    subst ef
    exact s_fun1 ih G hb hs (call_absX (g := n.g)) (by rfl) hn hd
  | sum =>
    rw [hk] at hf; cases hf
    have ef : f = Str.ofString "sum" := by have := go hk; simpa [bkTab] using this
    subst ef
    exact s_fun1 ih G hb hs (call_sumX (g := n.g) hc) (by rfl) hn hd
  | sorted =>
    rw [hk] at hf; cases hf
    have ef : f = Str.ofString "sorted" := by have := go hk; simpa [bkTab] using this
    subst ef
    exact s_fun1 ih G hb hs (call_sortX (g := n.g) G.units) (by rfl) hn hd
  | _ => rw [hk] at hf; cases hf
theorem blt1_ok {f : Str} (hb : n.c.blt f = true) {e : Expr} {pos p1 : Pos} (hs : noStar [e] = true) : SE n W (.Call (.Name f p1) [e] [] pos) (blt1 ev n.c f e) := by
  by_cases hl : bk f = .len
  · cases hq : setArg n.c e with
    | none => exact PE.imp (s_len ih G hl hb hs) fun σ H Q ⟨en, S, F, sr, p⟩ => ⟨en, S, F, sr, by unfold blt1 at p; rw [hl, hq] at p; exact p⟩
    | some e' =>
      by_cases hh : n.c.hot = false
      · refine PE.imp (s_lenset ih G hl hb hh hq) fun σ H Q ⟨en, S, F, sr, p⟩ => ⟨en, S, F, sr, ?_⟩
        unfold blt1 at p
        rw [hl, hq] at p
        simp only [hh, if_true] at p
        exact p
      · exact pe_never' (tM_bad fun en S => by
          unfold blt1
          rw [hl, hq]
          exact if_neg hh)
  have e0 : blt1 ev n.c f e = fun en S => match b1Of (bk f) with
      | some b => if n.c.hot = false then b1E ev n.c b e en S else .bad
      | none => .bad := by
    funext en S
    unfold blt1
    split
    · rename_i h; exact absurd h hl
    · rfl
  rw [e0]
  cases hk : b1Of (bk f) with
  | none => exact pe_never' (tM_bad fun en S => rfl)
  | some b =>
    by_cases hh : n.c.hot = false
    · refine PE.imp (b1_ok ih G hk hb hh hs) fun σ H Q ⟨en, S, F, sr, p⟩ => ⟨en, S, F, sr, ?_⟩
      simp only [hh, if_true] at p
      exact p
    · exact pe_never' (tM_bad fun en S => if_neg hh)
theorem blt2_ok {f : Str} (hb : n.c.blt f = true) {e t : Expr} {pos p1 : Pos} (hs : noStar [e, t] = true) : SE n W (.Call (.Name f p1) [e, t] [] pos) (blt2 ev n.c f e t) := by
  cases hk : bk f with
  | isinstance => exact PE.imp (s_isinst ih G hk hb hs) fun σ H Q ⟨en, S, F, sr, p⟩ => ⟨en, S, F, sr, by unfold blt2 at p; rw [hk] at p; exact p⟩
  | _ => exact pe_never' (tM_bad fun en S => by simp only [blt2, hk])
theorem bltK_ok {f : Str} (hb : n.c.blt f = true) {e : Expr} {k : Keyword} {pos p1 : Pos} (hs : noStar [e] = true) : SE n W (.Call (.Name f p1) [e] [k] pos) (bltK ev n.c f e k) := by
  by_cases hf : bk f = .sorted
  · exact s_sortK ih G hf hb hs
  · exact pe_never' (tM_bad fun en S => by
      unfold bltK
      split
      · rename_i h; exact absurd h hf
      · rfl)
theorem builtin_ok {f : Str} (hb : n.c.blt f = true) {args : List Expr} {kws : List Keyword} {pos p1 : Pos} : SE n W (.Call (.Name f p1) args kws pos) (builtin ev n.c f args kws) := by
  by_cases hs : noStar args = true
  case neg => exact pe_never' (tM_bad fun en S => by unfold builtin; rw [if_neg hs])
  have e0 : builtin ev n.c f args kws = bltX ev n.c f args kws := by funext en S; unfold builtin; rw [if_pos hs]
  rw [e0]
  rcases kws with _ | ⟨k, _ | ⟨k2, kws⟩⟩ <;> rcases args with _ | ⟨a, _ | ⟨b, _ | ⟨c, args⟩⟩⟩ <;>
    first
    | exact blt1_ok ih G hb hs
    | exact blt2_ok ih G hb hs
    | exact bltK_ok ih G hb hs
    | exact pe_never' (tM_bad fun en S => rfl)
theorem call_ok (f : Expr) (args : List Expr) (kws : List Keyword) (pos : Pos) : SE n W (.Call f args kws pos) (fun en S => match f with
    | .Name f _ => callName ev n.c f args kws en S
    | .Attribute o m apos => callAttr ev n.c o m apos pos args kws en S
    | _ => .bad) := by
  cases f with
  | Name x p1 =>
    by_cases hb : n.c.slot x = none ∧ n.c.blt x = true
    · refine PE.imp (builtin_ok ih G hb.2) ?_
      rintro σ H Q ⟨en, S, F, sr, p⟩
      refine ⟨en, S, F, sr, ?_⟩
      simp only [callName, hb.1, hb.2, if_true] at p
      exact p
    · exact callName_run ih G fun h => by
        cases q : n.c.blt x with
        | false => rfl
        | true => exact absurd ⟨h, q⟩ hb
  | Attribute o m apos => exact s_attr ih G o m apos pos args kws
  | _ => exact pe_never' (tM_bad fun en S => rfl)
end
theorem compr_bad {β : Type} (m k : Nat) (c : EC) (sc : Scope) (gs : List Comprehension) (f) (fin : List D → En → Stm → Out β) (h : ∀ g, gs = [g] → g.is_async ≠ 0) (h2 : ∀ g g1, gs ≠ [g, g1]) (en : En) (S : Stm) : (compr (ev k) m c sc gs f en S).bind fin = .bad := by
  unfold compr
  split
  · split
    · rename_i g
      rw [if_neg fun c => h g rfl c.1]; rfl
    · rename_i g g1
      exact absurd rfl (h2 g g1)
    · rfl
  · rfl
theorem set_never {n : Cn} {W : WX} {y : Str} {py pos : Pos} {e : Expr} {i : Nat} {f : En → Stm → Out OV} (h : ∀ en S, f en S = .bad) : PS n.X (.Assign [.Name y py] e pos) (tAsg (tM n W (RV n) f) (gName i)) :=
  ⟨fun pins s σ H D I q => (tM_bad h _ _ _ q).elim⟩
theorem ev_ok : ∀ k, IH (ev k)
  | 0 => fun n W G e => pe_never' (tM_bad fun en S => rfl)
  | k + 1 => by
    have ih := ev_ok k
    intro n W G e
    show PE n.X e (tM n W (RV n) (ev1 (ev k) k n.c e))
    cases e with
    | Constant c j pos => exact const_ok c j pos
    | Name x pos => exact s_name G x pos
    | BinOp a op b pos => exact s_bin ih G a b op pos
    | UnaryOp op x pos =>
      cases op with
      | Not => exact s_not ih G x pos
      | USub => exact s_neg ih G x pos
      | _ => exact pe_never' (tM_bad fun en S => rfl)
    | BoolOp op es pos => exact s_boolV ih G op pos es
    | IfExp t a b pos => exact s_ifExp ih G k t a b pos
    | Compare a ops bs pos => exact s_cmpE ih G a ops bs pos
    | List es pos => exact s_list ih G es pos
    | Tuple es x1 pos => exact s_tuple ih G es x1 pos
    | Subscript a i pos =>
      cases i with
      | Slice lo hi st p2 =>
        cases st with
        | none => exact s_cut ih G a lo hi p2 pos
        | some st =>
          by_cases c : lo.isNone = true ∧ hi.isNone = true ∧ isM1 st = true
          · obtain ⟨c1, c2, c3⟩ := c
            obtain ⟨k1, p3, p4, rfl⟩ := isM1_of c3
            cases lo with
            | some => cases c1
            | none =>
            cases hi with
            | some => cases c2
            | none => exact PE.imp (s_rev ih G a k1 p3 p4 p2 pos) fun σ H Q h => h
          · exact pe_never' (tM_bad fun en S => by show (if _ then _ else _) = _; rw [if_neg c])
      | _ => exact s_ix ih G a _ pos rfl
    | Call f args kws pos => exact call_ok ih G f args kws pos
    | Attribute o f pos => exact s_fld G o f pos
    | Dict keys vals pos =>
      rcases keys with _ | ⟨_ | k, _ | ⟨k2, keys⟩⟩ <;> rcases vals with _ | ⟨v, _ | ⟨v2, vals⟩⟩ <;>
        first
        | exact s_dict1 ih G k v pos
        | exact s_dict0 ih G pos
        | exact pe_never' (tM_bad fun en S => rfl)
    | ListComp elt gs sc pos =>
      rcases gs with _ | ⟨⟨tg, iter, ifs, as⟩, _ | ⟨⟨tg1, iter1, ifs1, as1⟩, _ | ⟨g3, gs⟩⟩⟩
      · exact pe_never' (tM_bad fun en S => compr_bad k k n.c sc _ _ _ (fun g h => by cases h) (fun g g1 h => by cases h) en S)
      · by_cases h : as = 0
        · subst h; exact s_lc ih G elt tg iter ifs sc pos
        · exact pe_never' (tM_bad fun en S => compr_bad k k n.c sc _ _ _ (fun g e => by cases e; exact h) (fun g g1 h => by cases h) en S)
      · exact s_lc2 ih G elt tg iter tg1 iter1 ifs ifs1 sc pos as as1
      · exact pe_never' (tM_bad fun en S => compr_bad k k n.c sc _ _ _ (fun g h => by cases h) (fun g g1 h => by cases h) en S)
    | _ => exact pe_never' (tM_bad fun en S => rfl)
theorem setC_ok {n : Cn} {W : WX} (G : Good n W) (k : Nat) : IHC n W (ev k) := by
  cases k with
  | zero => intro y py e sc i spos h1 h2 h3; exact ⟨fun pins s σ H D I ⟨en, S, F, sr, p⟩ => p.elim⟩
  | succ k =>
    intro y py e sc i spos h1 h2 h3
    cases e with
    | ListComp elt gs sc' pos =>
      injection h1 with h1; subst h1
      simp only [compFit, Bool.and_eq_true, decide_eq_true_eq, Bool.not_eq_true'] at h2
      rcases gs with _ | ⟨⟨tg, iter, ifs, as⟩, _ | ⟨⟨tg1, iter1, ifs1, as1⟩, _ | ⟨g3, gs⟩⟩⟩
      · exact set_never fun en S => compr_bad k k n.c _ _ _ _ (fun g h => by cases h) (fun g g1 h => by cases h) en S
      · by_cases h : as = 0
        · subst h; exact s_setLc (ev_ok k) G elt tg iter ifs _ pos spos h3 h2.1.1 h2.1.2 h2.2
        · exact set_never fun en S => compr_bad k k n.c _ _ _ _ (fun g e => by cases e; exact h) (fun g g1 h => by cases h) en S
      · exact s_setLc2 (ev_ok k) G elt tg iter tg1 iter1 ifs ifs1 _ pos spos as as1 h3 h2.1.1 h2.1.2 h2.2
      · exact set_never fun en S => compr_bad k k n.c _ _ _ _ (fun g h => by cases h) (fun g g1 h => by cases h) en S
    | _ => first | (cases h1; done) | exact set_never fun en S => rfl
theorem evS_ok' : ∀ (k : Nat) (n : Cn) (W : WX), GoodS n W → IHS n W (evS k n.c)
  | 0 => fun n W G st => ps_bad fun en S => rfl
  | k + 1 => by
    intro n W G
    have ih := ev_ok k
    have ihs := evS_ok' k n W G
    intro st
    cases st with
    | Pass pos => exact ps_imp ps_pass fun D σ H ⟨en, S, F, sr, p⟩ => p σ H F .refl sr
    | Break pos => exact ps_imp ps_break fun D σ H ⟨en, S, F, sr, p⟩ => p σ H F .refl sr
    | Continue pos => exact ps_imp ps_continue fun D σ H ⟨en, S, F, sr, p⟩ => p σ H F .refl sr
    | Return e pos =>
      cases e with
      | none => exact ps_imp ps_retN fun D σ H ⟨en, S, F, sr, p⟩ => p .non σ H F .refl sr (.val .non)
      | some e => exact s_ret ih G e pos
    | Expr e pos => exact s_expr ih G e pos
    | Assign ts e pos =>
      rcases ts with _ | ⟨t, _ | ⟨t2, ts⟩⟩
      · exact ps_bad fun en S => rfl
      · exact s_assign ih G (setC_ok G.toGood k) t e pos
      · exact ps_bad fun en S => rfl
    | If t a b pos => exact s_if ih G ihs t a b pos
    | For t it body orelse pos =>
      cases orelse with
      | nil => exact s_for ih G ihs t it body pos
      | cons => exact ps_bad fun en S => rfl
    | While t body orelse pos =>
      cases orelse with
      | nil => exact s_while ih G ihs t body pos
      | cons => exact ps_bad fun en S => rfl
    | Raise e cause pos =>
      cases e with
      | none => exact ps_bad fun en S => rfl
      | some e =>
        cases cause with
        | none => exact s_raise ih G e pos
        | some => exact ps_bad fun en S => rfl
    | Try body hds orelse fin pos =>
      cases orelse with
      | cons => exact ps_bad fun en S => rfl
      | nil =>
        cases fin with
        | cons => exact ps_bad fun en S => rfl
        | nil =>
          cases q : hotOf hds with
          | none =>
            have e : evS (k + 1) n.c (.Try body hds [] [] pos) = tryS n.c hds (evSs (evS k n.c) body) (evSs (evS k { n.c with hot := true })) := by
              funext en S
              show (match hotOf hds with
                | some (ts, C, a) => tryH n.c ts C a (evSs (evS k { n.c with nn := true }) body) (evVs (PX.ev k) { n.c with hot := true } [a]) en S
                | none => tryS n.c hds (evSs (evS k n.c) body) (evSs (evS k { n.c with hot := true })) en S) = _
              rw [q]
            rw [e]
            exact s_try G (evS_ok' k) body hds pos
          | some z =>
            obtain ⟨ts, C, a⟩ := z
            have e : evS (k + 1) n.c (.Try body hds [] [] pos) = tryH n.c ts C a (evSs (evS k { n.c with nn := true }) body) (evVs (PX.ev k) { n.c with hot := true } [a]) := by
              funext en S
              show (match hotOf hds with
                | some (ts, C, a) => tryH n.c ts C a (evSs (evS k { n.c with nn := true }) body) (evVs (PX.ev k) { n.c with hot := true } [a]) en S
                | none => tryS n.c hds (evSs (evS k n.c) body) (evSs (evS k { n.c with hot := true })) en S) = _
              rw [q]
            rw [e]
            exact s_tryH ih G (evS_ok' k) body hds pos q
    | _ => exact ps_bad fun en S => rfl
theorem evS_ok {n : Cn} {W : WX} (G : GoodS n W) (k : Nat) : IHS n W (evS k n.c) := evS_ok' k n W G
end PX

set_option Elab.async false
set_option linter.all false
set_option maxRecDepth 100000
/-! PxFn: a def of the text keeps its promise. -/
namespace PX
open PySem PySem.Spec L2
open PyProof.Rows hiding St

/-- what is asked of a def's table entry -/
structure DefOk (D : DefI) : Prop where
  sc : FnScope D.N D.ps D.sc
  dbg : ("__debug__" : Str) ∉ D.N ∧ ("__classdict__" : Str) ∉ D.N
  gl : ∀ x, D.sc.names.lookup x = some .globalImplicit → (x == ("__debug__" : Str)) = false
def bodyCO (T : Tb) (wf : Nat) (call : Fid → List D → Stm → CO) (make : Str → List D → Stm → CO) (D : DefI) : List PX.D → Stm → CO := fun ds S => CO.of (body T wf call make D (startE D.N ds) S)
theorem start_get {N : List Str} {vs : List V} (hl : vs.length ≤ N.length) (i : Nat) : (L2.start N vs)[i]? = if i < vs.length then (vs[i]?).map some else if i < N.length then some none else none := by
  unfold L2.start
  rw [List.getElem?_append]
  simp only [List.length_map]
  split
  · simp
  · rw [List.getElem?_replicate]
    by_cases h : i < N.length
    · rw [if_pos (by omega), if_pos h]
    · rw [if_neg (by omega), if_neg h]
theorem startE_get {N : List Str} {ds : List D} (i : Nat) : (startE N ds)[i]? = if i < ds.length then (ds[i]?).map Ent.val else if i < N.length then some .none else none := by
  unfold startE
  rw [List.getElem?_append]
  simp only [List.length_map]
  split
  · simp
  · rw [List.getElem?_replicate]
    by_cases h : i < N.length
    · rw [if_pos (by omega), if_pos h]
    · rw [if_neg (by omega), if_neg h]
open Classical in
noncomputable def baseOf (H : Hp) (cells : List Addr) : Hp := fun a => if a ∈ cells then none else H a
theorem baseOf_in {H : Hp} {cells : List Addr} {a : Addr} (h : a ∈ cells) : baseOf H cells a = none := by unfold baseOf; rw [if_pos h]
theorem baseOf_out {H : Hp} {cells : List Addr} {a : Addr} (h : a ∉ cells) : baseOf H cells a = H a := by unfold baseOf; rw [if_neg h]
theorem sr_start {n : Cn} {F H : Hp} {vs : List V} {ds : List D} {S : Stm} (hB : n.B = baseOf H (cellsOf H n.g.sa)) (hC : n.C0 = cellsOf H n.g.sa) (hF : n.F0 = F) (r : RepA n.g F vs ds) (hl : vs.length ≤ n.c.N.length) (sb : Sub F H) (st : StR n.g.sa H S) (hc : ∀ a ∈ cellsOf H n.g.sa, F a = none) :
    SR n F (L2.start n.c.N vs) H (startE n.c.N ds) S := by
  have hds : ds.length ≤ n.c.N.length := by rw [← r.length]; exact hl
  refine ⟨?_, ?_, ?_, sb, ?_, ?_, st, by rw [hC]; exact st.there, ?_, ?_⟩
  · unfold startE; simp; omega
  · unfold L2.start; simp; omega
  · intro a o h
    rw [hB] at h
    by_cases e : a ∈ cellsOf H n.g.sa
    · rw [baseOf_in e] at h; cases h
    · rwa [baseOf_out e] at h
  · intro i e h
    rw [startE_get] at h
    rw [start_get hl, r.length]
    split at h
    · rename_i hi
      rw [if_pos hi]
      cases q : ds[i]? with
      | none => rw [q] at h; cases h
      | some d =>
        rw [q] at h; injection h with h; subst h
        obtain ⟨v, hv, rv⟩ := r.get q
        rw [hv]
        exact .val rv
    · split at h
      · injection h with h; subst h; exact .none
      · cases h
  · intro i j o o' p hi
    rw [startE_get] at hi
    split at hi
    · cases q : ds[i]? with
      | none => rw [q] at hi; cases hi
      | some d => rw [q] at hi; injection hi with hi; cases hi
    · split at hi
      · injection hi with hi; cases hi
      · cases hi
  · intro a ha
    have ha : a ∈ cellsOf H n.g.sa := by
      rcases List.mem_append.mp ha with h | h
      · exact h
      · rw [hC] at h; exact h
    exact ⟨hc a ha, by rw [hB, baseOf_in ha]⟩
  · intro a u _
    rw [hF]
theorem takesB_of {X : Cx} (b : Bool) (hs : X.stack = X.env :: X.outer) (hf : X.env.frame = some X.env.locals) (hex : X.ex = []) {E : XK} {E₁ : Value → Shared → Prop}
    (hx : X.xe = fun e s' => wpAny (model X.prog X.w) X.A (leaving X.env e) (fun _ s'' => CXB X.prog X.w b X.outer X.H_0 X.s_0 E e s'') E₁ s') : TakesB (!b) X (fun cls d _ H => E cls d H) := by
  cases b with
  | true => exact takes_of hs hf hex hx
  | false => exact L2N.takes_of hs hf hex hx
theorem fn_ok {P : Program} {w : World} {K : PySem.W.Frag} {mg : Str → Option Value} {base : Heap} {k : Nat} {f : Addr} {name qual : Str} {params : Arguments} {scope : Scope} {stmts : List Stmt} {dV kV doc pm cdv ct oc : Value} {an od : Option Addr}
    {osl : Array (Option Value)} {T : Tb} {wf : Nat} {call : Fid → List D → Stm → CO} {make : Str → List D → Stm → CO} {D : DefI} (hsc : D.sc = scope) (hbd : D.body = stmts)
    (lk : K.lookup f = some ⟨oc, od, .func (PySem.W.fnOf name qual params stmts scope dV kV doc pm an cdv ct), osl⟩) (hcd : PySem.W.codeIn K cdv qual = true) (ok : DefOk D) (tb : TbOk K mg T) (h2 : 2 ≤ k)
    (fns : ∀ f D, lkF T.defs f = some D → ∃ a, Fat K mg f a ∧ PySem.W.keepIn K (.ref a) = true ∧ ∃ fd, (∀ (s : Shared) (us : List Value) (kws : List (Str × Value)) (bs : List Value), bindA D.ps us kws = some bs → BindsTo s fd ⟨us, kws⟩ (D.ps.zip bs)) ∧
      FnOk P w K mg base (CXB P w D.weak) k a fd D.ps (spF w mg D.ps.length (call f))) :
    FnOk P w K mg base (CXB P w D.weak) (k + 3) f (PySem.W.fnOf name qual params stmts scope dV kV doc pm an cdv ct) D.ps (spF w mg D.ps.length (bodyCO T wf call make D)) := by
  subst hsc hbd
  refine fn_of lk hcd ok.sc ?_ ?_
  · rintro vs H Q E ⟨sa, F, ds, S, r, hl, _⟩
    rw [r.length]; exact hl
  · rintro A outer s H vs Q E hr ⟨sa, F, ds, S, r, hl, sb, st, hc, cp⟩
    let c : EC := { T := T, call := call, make := make, wf := wf, N := D.N, sc := D.sc, fn := fun _ => true, hot := false, nn := !D.weak }
    let n : Cn := { g := ⟨w, mg, sa⟩, X := cxOf (CXB P w D.weak) P w K mg base D.N qual D.sc f cdv A outer s H E, c := c, B := baseOf H (cellsOf H sa), F0 := F, C0 := cellsOf H sa, k := k }
    let W : WX := fun cls d _ H => E cls d H
    have G : GoodS n W := {
      N := rfl
      nd := ok.sc.nd
      dbg := ok.dbg
      scope := rfl
      fn := fun _ => rfl
      calm := fun _ => rfl
      room := fun _ => hr
      units := by
        have := hr.un
        show (A.deeper _).units + 80 < cLine
        omega
      tk := takesB_of D.weak rfl rfl rfl rfl
      mg := rfl
      w := rfl
      tb := tb
      fns := fun f D h => by
        obtain ⟨a, h1, h2, h3⟩ := fns f D h
        exact ⟨a, h1, h2, h3⟩
      two := h2
      exn := fun _ => rfl
      exs := fun _ _ _ h => by cases h
      pass := passes_of rfl
      passH := fun _ => L2H.passesAt_of rfl
      stk := rfl
      frm := rfl }
    refine ⟨tS n W (evSs (evS depthA n.c) D.body), s_Ss (evS_ok G depthA) D.body, ?_⟩
    have hlen : vs.length ≤ D.N.length := by
      have := congrArg List.length ok.sc.pre
      rw [List.length_take] at this
      rw [r.length, hl]
      omega
    have sr : SR n F (L2.start D.N vs) H (startE D.N ds) S := sr_start (n := n) rfl rfl rfl r hlen sb st hc
    refine ⟨_, S, F, sr, ?_⟩
    have cp : CPost n.g F H (CO.of (evSs (evS depthA n.c) D.body (startE D.N ds) S)) Q E := cp
    revert cp
    generalize evSs (evS depthA n.c) D.body (startE D.N ds) S = m
    intro cp
    have back : ∀ {σ' : St} {H' F' : Hp} {en' : En} {S' : Stm}, Sub F F' → SR n F' σ' H' en' S' → Back n.g F H F' H' S' := by
      intro σ' H' F' en' S' sb' sr'
      refine ⟨sb', sr'.sub, ?_, ?_, sr'.st, ?_, sr'.c0⟩
      · intro a u h hn
        exact sr'.base _ _ (show baseOf H (cellsOf H sa) a = some u by rw [baseOf_out hn]; exact h)
      · intro a u h
        by_cases e : a ∈ cellsOf H n.g.sa
        · rw [(sr'.cellF a (List.mem_append_right _ e)).1]; exact (hc a e).symm
        · exact sr'.fix a u (show baseOf H (cellsOf H sa) a = some u by rw [baseOf_out e]; exact h)
      · intro a ha
        obtain ⟨h1, h2⟩ := sr'.cellF a (List.mem_append_left _ ha)
        refine ⟨h1, ?_⟩
        by_cases e : a ∈ cellsOf H sa
        · exact .inl e
        · right
          have h2 : baseOf H (cellsOf H sa) a = none := h2
          rwa [baseOf_out e] at h2
    cases m with
    | nx en' S' => exact fun σ' H' F' sb' sr' => cp .non H' F' (back sb' sr') (.val .non) (fun o p h => by cases h)
    | ret r en' S' =>
      intro v σ' H' F' sb' sr' rv
      refine cp v H' F' (back sb' sr') ?_ ?_
      · cases rv with
        | val h => exact .val h
        | own a b c d e =>
          refine .own ?_ a d
          have b : baseOf H (cellsOf H sa) _ = none := b
          rwa [baseOf_out fun h => c (List.mem_append_right _ h)] at b
      · intro o p h1 h2
        subst h1 h2
        cases rv with
        | own a b c d e => exact fun h => c (List.mem_append_left _ h)
    | err C fs en' S' => exact fun cls d σ' H' F' sb' sr' x => cp cls d H' F' (back sb' sr') x
    | bk => exact cp.elim
    | ct => exact cp.elim
    | bad => exact cp
end PX

set_option Elab.async false
set_option linter.all false
set_option maxRecDepth 100000
/-! PxTop: every def of the table, by induction on the depth; the law's def. -/
namespace PX
open PySem PySem.Spec L2
open PyProof.Rows hiding St

/-- parameters by place or by name, no defaults -/
def plainP (a : Arguments) (ps : List Str) : Bool := a.posonlyargs.isEmpty && a.vararg.isNone && a.kwonlyargs.isEmpty && a.kwarg.isNone && decide (ps = a.args.map (·.arg))
theorem plainP_of {a : Arguments} {ps : List Str} (h : plainP a ps = true) : ∃ as kwd dfl, a = ⟨[], as, none, [], kwd, none, dfl⟩ ∧ ps = as.map (·.arg) := by
  obtain ⟨p1, p2, p3, p4, p5, p6, p7⟩ := a
  simp only [plainP, Bool.and_eq_true, decide_eq_true_eq] at h
  obtain ⟨⟨⟨⟨h1, h2⟩, h3⟩, h4⟩, h5⟩ := h
  cases p1 <;> first | (cases h1; done) | skip
  cases p3 <;> first | (cases h2; done) | skip
  cases p4 <;> first | (cases h3; done) | skip
  cases p6 <;> first | (cases h4; done) | skip
  exact ⟨p2, p5, p7, rfl, h5⟩
/-- a table entry as it has to be -/
def defB (D : DefI) : Bool := decide (D.sc.kind = .function) && !D.sc.isCoroutine && !D.sc.isGenerator && decide D.N.Nodup && decide (D.N.take D.ps.length = D.ps) &&
  (D.ps.all fun x => decide (D.sc.names.lookup x = some .local) || decide (D.sc.names.lookup x = some .cell)) && (D.sc.names.all fun y => decide (y.2 ≠ .free)) &&
  decide (("__debug__" : Str) ∉ D.N) && decide (("__classdict__" : Str) ∉ D.N) && (D.sc.names.all fun y => decide (y.1 ≠ ("__debug__" : Str)))
theorem lookup_mem {α : Type} {x : Str} {a : α} : ∀ {l : List (Str × α)}, l.lookup x = some a → (x, a) ∈ l
  | [], h => by cases h
  | (y, b) :: r, h => by
    simp only [List.lookup_cons] at h
    cases q : (x == y) with
    | true => rw [q] at h; injection h with h; subst h; rw [eq_of_beq q]; exact List.mem_cons_self ..
    | false => rw [q] at h; exact List.mem_cons_of_mem _ (lookup_mem h)
theorem defB_ok {D : DefI} (h : defB D = true) : DefOk D := by
  simp only [defB, Bool.and_eq_true, decide_eq_true_eq, Bool.not_eq_true', List.all_eq_true, Bool.or_eq_true] at h
  obtain ⟨⟨⟨⟨⟨⟨⟨⟨⟨h1, h2⟩, h3⟩, h4⟩, h5⟩, h6⟩, h7⟩, h8⟩, h9⟩, h10⟩ := h
  refine ⟨⟨h1, h2, h3, h4, h5, h6, h7⟩, ⟨h8, h9⟩, ?_⟩
  intro x hx
  have := h10 _ (lookup_mem hx)
  cases e : (x == ("__debug__" : Str)) with
  | false => rfl
  | true => exact absurd (eq_of_beq e) this
theorem FunD.bindA {K : PySem.W.Frag} {x qual : Str} {params : Arguments} {body : List Stmt} {scope : Scope} {f : Addr} {fd : FuncData} {ps : List Str} (F : FunD K x qual params body scope [] [] f fd) (h : plainP params ps = true)
    (s : Shared) (us : List Value) (kws : List (Str × Value)) (bs : List Value) (e : bindA ps us kws = some bs) : BindsTo s fd ⟨us, kws⟩ (ps.zip bs) := by
  obtain ⟨oc, od, dV, kV, doc, pm, an, cdv, ct, osl, rfl, lk, hcd, hD, hK⟩ := F.ex
  obtain ⟨as, kwd, dfl, rfl, rfl⟩ := plainP_of h
  rcases hD with ⟨_, rfl⟩ | ⟨e, _⟩
  case inr => exact absurd rfl e
  unfold PX.bindA at e
  split at e
  · rename_i c
    injection e with e; subst e
    exact binds_plain (as := as) (kwd := kwd) (dfl := dfl) rfl rfl c.1 c.2.1 (by simpa using c.2.2)
  · cases e
/-- a def of the table as it stands behind the top -/
structure DefAt (K : PySem.W.Frag) (mg : Str → Option Value) (f : Fid) (D : DefI) (a : Addr) (fd : FuncData) : Prop where
  at_ : Fat K mg f a
  ex : ∃ name qual params, FunD K name qual params D.body D.sc [] [] a fd ∧ plainP params D.ps = true
  ok : DefOk D
theorem DefAt.kp {K : PySem.W.Frag} {mg : Str → Option Value} {f : Fid} {D : DefI} {a : Addr} {fd : FuncData} (h : DefAt K mg f D a fd) : PySem.W.keepIn K (.ref a) = true := by
  obtain ⟨_, _, _, F, _⟩ := h.ex; exact F.kp
theorem DefAt.binds {K : PySem.W.Frag} {mg : Str → Option Value} {f : Fid} {D : DefI} {a : Addr} {fd : FuncData} (h : DefAt K mg f D a fd) :
    ∀ (s : Shared) (us : List Value) (kws : List (Str × Value)) (bs : List Value), bindA D.ps us kws = some bs → BindsTo s fd ⟨us, kws⟩ (D.ps.zip bs) := by
  obtain ⟨_, _, _, F, p⟩ := h.ex; exact FunD.bindA F p
section
variable {P : Program} {w : World} {K : PySem.W.Frag} {mg : Str → Option Value} {base : Heap} {T : Tb} {wf : Nat}
/-- what the table's entries promise at a depth -/
def AllOk (P : Program) (w : World) (K : PySem.W.Frag) (mg : Str → Option Value) (base : Heap) (T : Tb) (wf k : Nat) : Prop :=
  ∀ f D, lkF T.defs f = some D → ∃ a, Fat K mg f a ∧ PySem.W.keepIn K (.ref a) = true ∧ ∃ fd, (∀ (s : Shared) (us : List Value) (kws : List (Str × Value)) (bs : List Value), bindA D.ps us kws = some bs → BindsTo s fd ⟨us, kws⟩ (D.ps.zip bs)) ∧
    FnOk P w K mg base (CXB P w D.weak) (3 * k + 2) a fd D.ps (spF w mg D.ps.length ((calls T wf k).1 f))
theorem spF_len {l : Nat} {call : List D → Stm → CO} {ps : List Str} (h : ps.length = l) : ∀ vs H Q E, spF w mg l call vs H Q E → vs.length = ps.length := by
  rintro vs H Q E ⟨sa, F, ds, S, r, hl, _⟩
  rw [r.length, hl, h]
theorem all_ok (tb : TbOk K mg T) (hd : ∀ f D, lkF T.defs f = some D → ∃ a fd, DefAt K mg f D a fd)
    (hp : ∀ f p, lkF T.prim f = some p → ∀ D a fd, lkF T.defs f = some D → DefAt K mg f D a fd → FnOk P w K mg base (CXB P w D.weak) 1 a fd D.ps (spF w mg D.ps.length p)) : ∀ k, AllOk P w K mg base T wf k
  | 0 => by
    intro f D h
    obtain ⟨a, fd, d⟩ := hd f D h
    refine ⟨a, d.at_, d.kp, fd, d.binds, spF_len rfl, ?_⟩
    rintro A outer s H args us vs Q E hr e0 hb rv ⟨sa, F, ds, S, r, hl, sb, st, hc, cp⟩
    exact cp.elim
  | k + 1 => by
    intro f D h
    obtain ⟨a, fd, d⟩ := hd f D h
    refine ⟨a, d.at_, d.kp, fd, d.binds, ?_⟩
    have e0 : (calls T wf (k + 1)).1 f = runFn T wf (calls T wf k).1 (calls T wf k).2 f := rfl
    rw [e0]
    cases q : lkF T.prim f with
    | some p =>
      refine ((hp f p q D a fd h d).mono (by omega)).imp ?_
      rintro vs H Q E ⟨sa, F, ds, S, r, hl, sb, st, hc, cp⟩
      refine ⟨sa, F, ds, S, r, hl, sb, st, hc, ?_⟩
      unfold runFn at cp
      rw [q] at cp
      exact cp
    | none =>
      obtain ⟨name, qual, params, F, pl⟩ := d.ex
      obtain ⟨oc, od, dV, kV, doc, pm, an, cdv, ct, osl, rfl, lk, hcd, hD, hK⟩ := F.ex
      refine (fn_ok (T := T) (wf := wf) (make := (calls T wf k).2) rfl rfl lk hcd d.ok tb (by omega) (all_ok tb hd hp k)).imp ?_
      rintro vs H Q E ⟨sa, F, ds, S, r, hl, sb, st, hc, cp⟩
      refine ⟨sa, F, ds, S, r, hl, sb, st, hc, ?_⟩
      unfold runFn at cp
      rw [q, h] at cp
      simp only [if_pos hl] at cp
      exact cp
/-! ### the law: its first statement makes the state, the rest runs -/
/-- what _law_start promises -/
def spStart (st : List Int → Stm) (K : PySem.W.Frag) : Sp := fun vs H Q _ => ∃ (a : Addr) (ns : List Int), vs = [.ref a] ∧ SqL K H a (ns.map V.int) ∧ ns.length ≤ 63 ∧
  ∀ sa H', StR sa H' (st ns) → Q (.ref sa) H'
def spLaw (K : PySem.W.Frag) : Sp := fun vs H Q _ => ∃ (a : Addr) (ns : List Int), vs = [.ref a] ∧ SqL K H a (ns.map V.int) ∧ ns.length ≤ 63 ∧ ∀ H', Q (.bl true) H'
theorem pss_ex {ι : Type} {X : Cx} {b : List Stmt} {t : ι → TS} (h : ∀ i, PSs X b (t i)) : PSs X b (fun D σ H => ∃ i, t i D σ H) := ⟨fun pins s σ H D I ⟨i, q⟩ => (h i).run pins s σ H D I q⟩
/-- the law's frame as the rest finds it -/
def lawC (T : Tb) (wf : Nat) (call : Fid → List D → Stm → CO) (make : Str → List D → Stm → CO) (D : DefI) : EC := { T := T, call := call, make := make, wf := wf, N := D.N, sc := D.sc, fn := fun _ => true, hot := false, nn := !D.weak }
theorem law_okG {call : Fid → List PX.D → Stm → CO} {make : Str → List PX.D → Stm → CO} {D : DefI} {a : Addr} {fd : FuncData} {kk : Nat} {x y : Str} {i : Nat} {px p1 p2 p3 p4 : Pos} {rest : List Stmt} {st : List Int → Stm} {fS : Addr} {fdS : FuncData} (tb : TbOk K mg T) (fns : ∀ f D, lkF T.defs f = some D → ∃ a, Fat K mg f a ∧ PySem.W.keepIn K (.ref a) = true ∧ ∃ fd, (∀ (s : Shared) (us : List Value) (kws : List (Str × Value)) (bs : List Value), bindA D.ps us kws = some bs → BindsTo s fd ⟨us, kws⟩ (D.ps.zip bs)) ∧
      FnOk P w K mg base (CXB P w D.weak) kk a fd D.ps (spF w mg D.ps.length (call f))) (hk : 2 ≤ kk)
    (d : DefAt K mg ("law", none) D a fd) (hb : D.body = .Assign [.Name x px] (.Call (.Name "_law_start" p1) [.Name y p2] [] p3) p4 :: rest) (hps : D.ps = [y])
    (hx : (decide (D.sc.names.lookup x = some .local) || decide (D.sc.names.lookup x = some .cell)) = true ∧ D.N[i]? = some x) (hy : D.N[0]? = some y) (hy2 : Vis D.sc y) (hg : D.sc.names.lookup (Str.ofString "_law_start") = some .globalImplicit)
    (FS : FnOk P w K mg base (CXB P w D.weak) 1 fS fdS [y] (spStart st K)) (mS : mg "_law_start" = some (.ref fS)) (kS : PySem.W.keepIn K (.ref fS) = true) (bS : Binds K fdS [y] [])
    (pure : ∀ ns : List Int, ns.length ≤ 63 → ∃ en S, evSs (evS depthA (lawC T wf call make D)) rest ((List.replicate D.N.length Ent.none).set i (.val .st)) (st ns) = .ret (.val (.bl true)) en S) :
    FnOk P w K mg base (CXB P w D.weak) (kk + 3) a fd D.ps (spLaw K) := by
  obtain ⟨name, qual, params, F, pl⟩ := d.ex
  have hy1 : (y == ("__debug__" : Str)) = false ∧ (y == ("__classdict__" : Str)) = false := by
    have m : y ∈ D.N := List.mem_of_getElem? hy
    constructor
    · cases e : (y == ("__debug__" : Str)) with
      | false => rfl
      | true => exact absurd (by rw [← eq_of_beq e]; exact m) d.ok.dbg.1
    · cases e : (y == ("__classdict__" : Str)) with
      | false => rfl
      | true => exact absurd (by rw [← eq_of_beq e]; exact m) d.ok.dbg.2
  refine F.ok d.ok.sc ?_ ?_
  · rintro vs H Q E ⟨_, ns, rfl, _⟩
    rw [hps]; rfl
  · rintro cdv A outer s H vs Q E hr ⟨a1, ns, rfl, hS, hl, hQ⟩
    let c : EC := lawC T wf call make D
    let X : Cx := cxOf (CXB P w D.weak) P w K mg base D.N qual D.sc a cdv A outer s H E
    let W : WX := fun cls d _ H => E cls d H
    let n : Addr × Hp → Cn := fun z => { g := ⟨w, mg, z.1⟩, X := X, c := c, B := baseOf z.2 (cellsOf z.2 z.1), F0 := fun _ => none, C0 := cellsOf z.2 z.1, k := kk }
    have G : ∀ z, GoodS (n z) W := fun z => {
      N := rfl
      nd := d.ok.sc.nd
      dbg := d.ok.dbg
      scope := rfl
      fn := fun _ => rfl
      calm := fun _ => rfl
      room := fun _ => hr
      units := by
        have := hr.un
        show (A.deeper _).units + 80 < cLine
        omega
      tk := takesB_of D.weak rfl rfl rfl rfl
      mg := rfl
      w := rfl
      tb := tb
      fns := fun f D h => by
        obtain ⟨a, h1, h2, h3⟩ := fns f D h
        exact ⟨a, h1, h2, h3⟩
      two := hk
      exn := fun _ => rfl
      exs := fun _ _ _ h => by cases h
      pass := passes_of rfl
      passH := fun _ => L2H.passesAt_of rfl
      stk := rfl
      frm := rfl }
    have hlen : 1 ≤ D.N.length := by
      have := (List.getElem?_eq_some_iff.mp hy).1
      omega
    have hx1 : Loc X.env.scope x := by
      have h := hx.1
      simp only [Bool.or_eq_true, decide_eq_true_eq] at h
      exact h
    have p1 : PS X (.Assign [.Name x px] (.Call (.Name "_law_start" p1) [.Name y p2] [] p3) p4) (tAsg (tCall (spStart st K) [] E0 (tCons (tVar 0) tNil)) (gName i)) :=
      ps_set (i := i) d.ok.sc.nd hx.2 hx1 (pe_call FS (hr.mono (by omega)) hg mS kS bS .nil (fun _ _ _ _ _ _ _ h => (cxB_none h).elim) (pa_cons (pe_var (i := 0) hy hy2 hy1.1 hy1.2) pa_nil)) rfl (.inl rfl)
    have p2 : PSs X rest (fun D' σ H => ∃ z, tS (n z) W (evSs (evS depthA c) rest) D' σ H) := pss_ex fun z => s_Ss (evS_ok (G z) depthA) rest
    rw [hb]
    refine ⟨_, pss_cons p1 p2, ?_⟩
    have h0 : (L2.start D.N [V.ref a1])[0]? = some (some (.ref a1)) := rfl
    refine ⟨.ref a1, h0, a1, ns, rfl, hS, hl, fun sa H1 hst => ?_⟩
    obtain ⟨en, S, hp⟩ := pure ns hl
    have hi : i < D.N.length := (List.getElem?_eq_some_iff.mp hx.2).1
    have sl : (L2.start D.N [V.ref a1]).length = D.N.length := by
      unfold L2.start
      simp; omega
    refine ⟨(sa, H1), (List.replicate D.N.length Ent.none).set i (.val .st), st ns, fun _ => none, ?_, ?_⟩
    · refine ⟨by simp; rfl, by simp only [List.length_set]; exact sl, ?_, (fun _ _ h => by cases h), ?_, ?_, hst, hst.there, ?_, fun _ _ _ => rfl⟩
      · intro b o h
        have h : baseOf H1 (cellsOf H1 sa) b = some o := h
        by_cases e : b ∈ cellsOf H1 sa
        · rw [baseOf_in e] at h; cases h
        · rwa [baseOf_out e] at h
      · intro j e h
        by_cases ij : i = j
        · subst ij
          rw [List.getElem?_set_self (by simpa using hi)] at h
          injection h with h; subst h
          rw [List.getElem?_set_self (by rw [sl]; exact hi)]
          exact .val .st
        · rw [List.getElem?_set_ne ij, List.getElem?_replicate] at h
          split at h
          · injection h with h; subst h; exact .none
          · cases h
      · intro j j' o o' p h
        by_cases ij : i = j
        · subst ij
          rw [List.getElem?_set_self (by simpa using hi)] at h
          injection h with h; cases h
        · rw [List.getElem?_set_ne ij, List.getElem?_replicate] at h
          split at h
          · injection h with h; cases h
          · cases h
      · intro b hb
        refine ⟨rfl, ?_⟩
        have hb : b ∈ cellsOf H1 sa := by
          rcases List.mem_append.mp hb with h | h
          · exact h
          · exact h
        exact baseOf_in hb
    · show PostS (n (sa, H1)) W _ (evSs (evS depthA c) rest _ _) _
      rw [hp]
      intro v σ H2 F2 _ _ rv
      cases rv with
      | val r => cases r.bl_inv; exact hQ H2
theorem law_ok {D : DefI} {a : Addr} {fd : FuncData} {k : Nat} {x y : Str} {i : Nat} {px p1 p2 p3 p4 : Pos} {rest : List Stmt} {st : List Int → Stm} {fS : Addr} {fdS : FuncData} (tb : TbOk K mg T) (fns : AllOk P w K mg base T wf k) (hk : 1 ≤ k)
    (d : DefAt K mg ("law", none) D a fd) (hb : D.body = .Assign [.Name x px] (.Call (.Name "_law_start" p1) [.Name y p2] [] p3) p4 :: rest) (hps : D.ps = [y])
    (hx : (decide (D.sc.names.lookup x = some .local) || decide (D.sc.names.lookup x = some .cell)) = true ∧ D.N[i]? = some x) (hy : D.N[0]? = some y) (hy2 : Vis D.sc y) (hg : D.sc.names.lookup (Str.ofString "_law_start") = some .globalImplicit)
    (FS : FnOk P w K mg base (CXB P w D.weak) 1 fS fdS [y] (spStart st K)) (mS : mg "_law_start" = some (.ref fS)) (kS : PySem.W.keepIn K (.ref fS) = true) (bS : Binds K fdS [y] [])
    (pure : ∀ ns : List Int, ns.length ≤ 63 → ∃ en S, evSs (evS depthA (lawC T wf (calls T wf k).1 (calls T wf k).2 D)) rest ((List.replicate D.N.length Ent.none).set i (.val .st)) (st ns) = .ret (.val (.bl true)) en S) :
    FnOk P w K mg base (CXB P w D.weak) (3 * k + 5) a fd D.ps (spLaw K) := law_okG (call := (calls T wf k).1) (make := (calls T wf k).2) (kk := 3 * k + 2) tb fns (by omega) d hb hps hx hy hy2 hg FS mS kS bS pure
end
/-- a promise without errors -/
theorem fn_calm {P : Program} {w : World} {K : PySem.W.Frag} {mg : Str → Option Value} {base : Heap} {k : Nat} {f : Addr} {fd : FuncData} {ps : List Str} {sp : Sp} {b : Bool} (F : FnOk P w K mg base (CXB P w b) k f fd ps sp) : FnOk P w K mg base CX0 k f fd ps (fun vs H Q _ => sp vs H Q E0) := by
  refine ⟨fun vs H Q _ h => F.len vs H Q E0 h, fun A outer s H args us vs Q E hr he hb hv hs => ?_⟩
  refine codeAny_mono (F.run A outer s H args us vs Q E0 hr he hb hv hs) fun r s' hq => ?_
  cases r with
  | error e =>
    exact (cxB_none hq).elim
  | ok fl =>
    cases fl with
    | ret u => exact hq
    | next => exact hq
    | brk => exact hq
    | cont => exact hq
end PX

set_option Elab.async false
set_option linter.all false
set_option maxRecDepth 100000
namespace PX
open PySem
/-- the slots of a def: its fast names -/
def fastOf (sc : Scope) : List Str := sc.more.filterMap fun p => match p with
  | (k, .str x) => if k = "fast" then some x else none
  | _ => none
def localsOf (sc : Scope) : List Str := sc.names.filterMap fun p => match p.2 with
  | .local => some p.1
  | .cell => some p.1
  | _ => none
/-- the slots: the fast names where the text tells them, else the locals -/
def slotsOf (sc : Scope) : List Str := match fastOf sc with
  | [] => localsOf sc
  | l => l
def argNames (a : Arguments) : List Str := a.args.map fun x => x.arg
def defOf : Stmt → Option (Str × DefI × List Expr)
  | .FunctionDef n a b dec _ _ sc _ _ _ => some (n, ⟨slotsOf sc, argNames a, sc, b, false⟩, dec)
  | _ => none
def isDec (x : Str) : List Expr → Bool
  | [.Name y _] => decide (x = y)
  | _ => false
def kindOfM (dec : List Expr) : MK := if isDec "property" dec = true then .prop else if isDec "classmethod" dec = true then .clsm else .meth
def excBases : List Str := ["ValueError", "TypeError"]
/-- the statements of the top, one after another -/
def addTop (T : Tb) : Stmt → Tb
  | .Assign [.Name x _] (.Constant (.int i) _ _) _ => { T with glob := (x, .ci i) :: T.glob }
  | .Assign [.Name x _] (.Constant (.str s) _ _) _ => if x = "__name__" then T else { T with glob := (x, .cs s) :: T.glob }
  | .ClassDef n bases _ b _ _ _ _ _ _ _ => match bases with
    | [.Name y _] =>
      { T with
        glob := (n, .cls) :: T.glob
        excs := (n, ((b.findSome? fun s => (defOf s).bind fun d => if d.1 = "__init__" then some (d.2.1.ps.drop 1) else none).getD [])) :: T.excs
        sub := (n, y) :: (T.sub.filterMap fun p => if p.1 = y then some (n, p.2) else none) ++ T.sub }
    | _ => (b.filterMap defOf).foldl (fun T d => { T with meth := ((n, d.1), kindOfM d.2.2) :: T.meth, defs := ((n, some d.1), d.2.1) :: T.defs }) { T with glob := (n, .cls) :: T.glob }
  | s => match defOf s with
    | some (n, d, _) => { T with glob := (n, .fn) :: T.glob, defs := ((n, none), d) :: T.defs }
    | none => T
def tb0 (free : List Str) (prim : List (Fid × (List D → Stm → CO))) : Tb := ⟨[], free, [], [], [], [], prim⟩
def mkTb (p : Program) (free : List Str) (prim : List (Fid × (List D → Stm → CO))) : Tb := p.main.body.foldl addTop (tb0 free prim)

/-! ### the laws' state -/
def dropZ : List Int → List Int
  | [] => []
  | x :: r => if x = 0 then dropZ r else x :: r
/-- _law_draw -/
def drawS (S : Stm) (n : Int) : Option (Int × Stm) := match S with
  | [.inr big, .inr cells, .inl k] => match dropZ big with
    | x :: r => some (x.fmod n, [.inr (x.fdiv n :: r), .inr cells, .inl (k + 1)])
    | [] => (L2.atI cells ((k + 1).fmod cells.length)).map fun c =>
      (((((c.fmod 2147483647 * 48271 + (k + 1) * 69621 + 7) ^ 5).fmod 2147483647 * 16807 + (k + 1) * 40692 + 13) ^ 5).fmod 2147483629 |>.fmod n, [.inr [], .inr cells, .inl (k + 1)])
  | _ => none
def startS (ns : List Int) : Stm := [.inr ((ns.map fun n => (if n < 0 then -n else n)).filter fun n => n ≥ 10 ^ 18), .inr (ns ++ [5 + ((ns.take 1).sum).fmod 1000003]), .inl 0]
/-- _law_take -/
def takeS (S : Stm) (n : Int) : Option (Int × Stm) := match S with
  | [.inr cells, .inl p, .inl k] =>
    let at_ := p.fmod (max 1 cells.length)
    let c := if cells = [] then 0 else cells.getD at_.toNat 0
    let a := if c < 0 then -c else c
    if a ≥ 10 ^ 18 then some (a.fmod n, [.inr (cells.set at_.toNat (a.fdiv n)), .inl p, .inl (k + 1)])
    else
      let x := ((c.fmod 2147483647 * 48271 + (k + 1) * 69621 + 11) ^ 5).fmod 2147483647
      let y := ((x * 16807 + (k + 1) * 40692 + 7) ^ 5).fmod 2147483629
      some ((y.fdiv 16).fmod n, [.inr cells, .inl (p + 1), .inl (k + 1)])
  | _ => none
def startS2 (ns : List Int) : Stm := [.inr ns, .inl 0, .inl 0]
def primDraw : List (Fid × (List D → Stm → CO)) := [
  (("_law_start", none), fun ds S => match ds with
    | [.lst xs] => match allInts xs with
      | some ns => .ok (.val .st) (startS ns)
      | none => .bad
    | _ => .bad),
  (("_law_draw", none), fun ds S => match ds with
    | [.st, .int n] => match drawS S n with
      | some (d, S) => .ok (.val (.int d)) S
      | none => .bad
    | _ => .bad)]
def primTake : List (Fid × (List D → Stm → CO)) := [
  (("_law_start", none), fun ds S => match ds with
    | [.lst xs] => match allInts xs with
      | some ns => .ok (.val .st) (startS2 ns)
      | none => .bad
    | _ => .bad),
  (("_law_take", none), fun ds S => match ds with
    | [.st, .int n] => match takeS S n with
      | some (d, S) => .ok (.val (.int d)) S
      | none => .bad
    | _ => .bad)]
def builtinNames : List Str := ["abs", "all", "bool", "dict", "enumerate", "int", "isinstance", "len", "list", "max", "min", "range", "set", "sorted", "str", "sum", "tuple", "zip", "repr"]
def tellCO : CO → String
  | .ok (.val (.bl true)) _ => "TRUE"
  | .ok (.val (.bl false)) _ => "FALSE"
  | .ok _ _ => "other"
  | .err (.glo x) _ _ => "err"
  | .err _ _ _ => "err?"
  | .bad => "BAD"
end PX

set_option Elab.async false
set_option linter.all false
set_option maxRecDepth 100000
/-! PxHead: the table out of the head's facts. -/
namespace PX
open PySem PySem.Spec L2
open PyProof.Rows hiding St

/-- a def of the head as an entry of the table -/
def ofD (d : He.DefD) (b : Bool := false) : DefI := ⟨slotsOf d.scope, argNames d.params, d.scope, d.body, b⟩
def isWk (ws : List Str) (d : He.DefD) : Bool := decide (d.at_.1 ∈ ws)
def hasGlo (fa : List He.Fa) (x : Str) : Bool := fa.any fun f => match f with
  | .glo y => decide (y = x)
  | _ => false
def hasFree (fa : List He.Fa) (x : Str) : Bool := fa.any fun f => match f with
  | .free y => decide (y = x)
  | _ => false
def hasInt (fa : List He.Fa) (x : Str) (i : Int) : Bool := fa.any fun f => match f with
  | .int y j => decide (y = x) && decide (j = i)
  | _ => false
def hasStr (fa : List He.Fa) (x z : Str) : Bool := fa.any fun f => match f with
  | .str y j => decide (y = x) && decide (j = z)
  | _ => false
def hasKeep (fa : List He.Fa) (x : Str) : Bool := fa.any fun f => match f with
  | .keep y => decide (y = x)
  | _ => false
def hasCls (fa : List He.Fa) (x : Str) : Bool := fa.any fun f => match f with
  | .cls y => decide (y = x)
  | _ => false
def hasMeth (fa : List He.Fa) (x m : Str) : Bool := fa.any fun f => match f with
  | .meth y n => decide (y = x) && decide (n = m)
  | _ => false
def hasExm (fa : List He.Fa) (x y : Str) (b : Bool) : Bool := fa.any fun f => match f with
  | .exm x' y' b' => decide (x' = x) && (decide (y' = y) && decide (b' = b))
  | _ => false
def hasNoat (fa : List He.Fa) (x f : Str) : Bool := fa.any fun z => match z with
  | .noat y g => decide (y = x) && decide (g = f)
  | _ => false
/-- an entry stands where it says -/
def atB (fa : List He.Fa) (d : He.DefD) : Bool := match d.at_.2 with
  | none => hasGlo fa d.at_.1
  | some m => hasGlo fa d.at_.1 && hasCls fa d.at_.1 && hasMeth fa d.at_.1 m
def globB (fa : List He.Fa) (fn : List He.DefD) (p : Str × GK) : Bool := match p.2 with
  | .ci i => hasInt fa p.1 i
  | .cs z => hasStr fa p.1 z
  | .fn => hasGlo fa p.1 && fn.any fun d => decide (d.at_ = (p.1, none))
  | .cls => hasGlo fa p.1 && hasKeep fa p.1
def headB (fa : List He.Fa) (fn : List He.DefD) (T : Tb) : Bool :=
  (fn.all fun d => atB fa d && d.dfl.isEmpty && d.kwd.isEmpty && plainP d.params (argNames d.params) && defB (ofD d)) && (T.glob.all (globB fa fn)) && (T.free.all (hasFree fa)) &&
  (lkG T.glob "__debug__").isNone && decide (("__debug__" : Str) ∉ T.free) && (lkS T.excs "__debug__").isNone && (T.excs.all fun p => hasGlo fa p.1 && T.excs.all fun q => hasExm fa p.1 q.1 (isSubOf T (.glo p.1) q.1))
theorem lkG_mem {x : Str} {g : GK} : ∀ {l : List (Str × GK)}, lkG l x = some g → (x, g) ∈ l
  | [], h => by cases h
  | (y, k) :: r, h => by
    simp only [lkG] at h
    split at h
    · rename_i e; injection h with h; subst e h; exact List.mem_cons_self ..
    · exact List.mem_cons_of_mem _ (lkG_mem h)
theorem lkF_mem {α : Type} {f : Fid} {a : α} : ∀ {l : List (Fid × α)}, lkF l f = some a → (f, a) ∈ l
  | [], h => by cases h
  | ((y, m), k) :: r, h => by
    simp only [lkF] at h
    split at h
    · rename_i e
      injection h with h; subst h
      obtain ⟨f1, f2⟩ := f
      obtain ⟨e1, e2⟩ := e
      cases e1; cases e2
      exact List.mem_cons_self ..
    · exact List.mem_cons_of_mem _ (lkF_mem h)
section
variable {K : PySem.W.Frag} {h : Heap} {mg : Str → Option Value} {fa : List He.Fa} {fn fnT : List He.DefD} {T : Tb}
theorem says (c : He.SaysD fa fn K) {f : He.Fa} (hf : f ∈ fa) : f.ok K = true := by
  obtain ⟨i, hi⟩ := List.getElem?_of_mem hf
  exact c.fact i hi
theorem glo_at (X : K.In h) (G : h.Ns mainGlobals mg) (c : He.SaysD fa fn K) {x : Str} (e : hasGlo fa x = true) : mg x = some (.ref (He.ga K x)) := by
  obtain ⟨f, hf, e⟩ := List.any_eq_true.mp e
  cases f <;> first | (cases e; done) | skip
  rename_i y
  have e : y = x := of_decide_eq_true e
  subst e
  exact He.glo_ok X G (says c hf)
theorem head_ok (X : K.In h) (G : h.Ns mainGlobals mg) (c : He.SaysD fa fn K) (hsub : ∀ d ∈ fnT, d ∈ fn) {ws : List Str} (hT : T.defs = fnT.map fun d => (d.at_, ofD d (isWk ws d))) (chk : headB fa fnT T = true)
    (hex : ∀ C ps, lkS T.excs C = some ps → ps ≠ [] → ExcAt K mg (He.ga K C) ps) :
    TbOk K mg T ∧ ∀ f D, lkF T.defs f = some D → ∃ a fd, DefAt K mg f D a fd := by
  simp only [headB, Bool.and_eq_true, List.all_eq_true, decide_eq_true_eq, Option.isNone_iff_eq_none] at chk
  obtain ⟨⟨⟨⟨⟨⟨h1, h2⟩, h3⟩, h4⟩, h5⟩, h6⟩, h7⟩ := chk
  have defs : ∀ d ∈ fnT, ∃ fd, FunD K d.name d.qual d.params d.body d.scope [] [] (He.fAd K d.at_) fd := by
    intro d hd
    obtain ⟨i, hi⟩ := List.getElem?_of_mem (hsub d hd)
    obtain ⟨fd, F⟩ := c.def_ i hi
    obtain ⟨⟨⟨⟨_, k2⟩, k3⟩, _⟩, _⟩ := h1 d hd
    have e1 : d.dvs K = [] := by unfold He.DefD.dvs; rw [List.isEmpty_iff.mp k2]; rfl
    have e2 : d.kws K = [] := by unfold He.DefD.kws; rw [List.isEmpty_iff.mp k3]; rfl
    rw [e1, e2] at F
    exact ⟨fd, F⟩
  refine ⟨⟨?_, ?_, ?_, ?_, ?_, ?_, ?_, ?_⟩, ?_⟩
  · intro x i e
    obtain ⟨f, hf, e⟩ := List.any_eq_true.mp (show hasInt fa x i = true from h2 _ (lkG_mem e))
    cases f <;> first | (cases e; done) | skip
    rename_i y j
    simp only [Bool.and_eq_true, decide_eq_true_eq] at e
    obtain ⟨rfl, rfl⟩ := e
    exact He.int_ok X G (says c hf)
  · intro x z e
    obtain ⟨f, hf, e⟩ := List.any_eq_true.mp (show hasStr fa x z = true from h2 _ (lkG_mem e))
    cases f <;> first | (cases e; done) | skip
    rename_i y j
    simp only [Bool.and_eq_true, decide_eq_true_eq] at e
    obtain ⟨rfl, rfl⟩ := e
    exact He.str_ok X G (says c hf)
  · intro x e
    have k := h2 _ (lkG_mem e)
    simp only [globB, Bool.and_eq_true, List.any_eq_true, decide_eq_true_eq] at k
    obtain ⟨k1, d, hd, k2⟩ := k
    have m := glo_at X G c k1
    obtain ⟨fd, F⟩ := defs d hd
    refine ⟨_, m, ?_⟩
    have := F.kp
    rw [k2] at this
    exact this
  · intro x e
    have k := h2 _ (lkG_mem e)
    simp only [globB, Bool.and_eq_true] at k
    refine ⟨_, glo_at X G c k.1, ?_⟩
    obtain ⟨f, hf, e⟩ := List.any_eq_true.mp k.2
    cases f <;> first | (cases e; done) | skip
    rename_i y
    have e : y = x := of_decide_eq_true e
    subst e
    exact He.keep_ok (says c hf)
  · rintro x rfl
    exact ⟨h4, h5, h6⟩
  · intro x hx
    obtain ⟨f, hf, e⟩ := List.any_eq_true.mp (h3 x hx)
    cases f <;> first | (cases e; done) | skip
    rename_i y
    have e : y = x := of_decide_eq_true e
    subst e
    exact He.free_ok X G (says c hf)
  · intro C ps e
    have k := h7 _ (lkS_mem e)
    exact ⟨_, glo_at X G c k.1, hex C ps e⟩
  · intro C D ps qs e e' Ca Da mC mD
    have k := h7 _ (lkS_mem e)
    have k' := h7 _ (lkS_mem e')
    obtain ⟨f, hf, z⟩ := List.any_eq_true.mp (k.2 _ (lkS_mem e'))
    cases f <;> first | (cases z; done) | skip
    rename_i x y b
    simp only [Bool.and_eq_true, decide_eq_true_eq] at z
    obtain ⟨rfl, rfl, rfl⟩ := z
    rw [glo_at X G c k.1] at mC
    rw [glo_at X G c k'.1] at mD
    cases mC; cases mD
    exact He.exm_ok (says c hf)
  · intro f D e
    have m := lkF_mem e
    rw [hT] at m
    obtain ⟨d, hd, e⟩ := List.mem_map.mp m
    injection e with e1 e2
    subst e1 e2
    obtain ⟨fd, F⟩ := defs d hd
    obtain ⟨⟨⟨⟨k1, _⟩, _⟩, k4⟩, k5⟩ := h1 d hd
    refine ⟨_, fd, ⟨?_, ⟨_, _, _, F, k4⟩, defB_ok k5⟩⟩
    unfold atB at k1
    revert k1
    generalize d.at_ = at_
    obtain ⟨x, m⟩ := at_
    intro k1
    cases m with
    | none => exact glo_at X G c k1
    | some m =>
      simp only [Bool.and_eq_true] at k1
      obtain ⟨⟨q1, q2⟩, q3⟩ := k1
      refine ⟨He.ga K x, glo_at X G c q1, ?_, ?_⟩
      · obtain ⟨f, hf, e⟩ := List.any_eq_true.mp q2
        cases f <;> first | (cases e; done) | skip
        rename_i y
        have e : y = x := of_decide_eq_true e
        subst e
        exact He.cls_ok (says c hf)
      · obtain ⟨f, hf, e⟩ := List.any_eq_true.mp q3
        cases f <;> first | (cases e; done) | skip
        rename_i y n
        simp only [Bool.and_eq_true, decide_eq_true_eq] at e
        obtain ⟨rfl, rfl⟩ := e
        exact He.meth_ok (says c hf)
/-! ### own exception classes -/
def oexB (K : PySem.W.Frag) (C : Addr) : Bool := (match K.lookup C with
  | some ⟨.type "type", _, .cls cd, sl⟩ => (match cd.mro, sl.toList with
    | .ref C' :: bm, [_, _, _, _, some (.builtin n), _] => C' == C && (n == "ValueError.__new__" && (!cd.hasDel && (cd.hasDict && PySem.HandSPX.refsVE bm)))
    | _, _ => false)
  | _ => false) && (decide (PySem.W.findIn K (.ref C) "__setattr__" = some (some (.builtin "object.__setattr__"))) && (decide (PySem.W.subIn K (.ref C) (.type "BaseException") = some true) &&
    (decide (PySem.W.typeIn K (.ref C) = some (.type "type")) && PySem.W.keepIn K (.ref C))))
theorem oexB_ok {C : Addr} (h : oexB K C = true) : OexC K C := by
  unfold oexB at h
  simp only [Bool.and_eq_true, decide_eq_true_eq] at h
  obtain ⟨h1, h2, h3, h4, h5⟩ := h
  refine ⟨?_, h2, h3, h4, h5⟩
  split at h1
  · rename_i dd cd sl ho
    split at h1
    · rename_i C' bm k0 k1 k2 k3 n k5 hm hs
      simp only [Bool.and_eq_true, beq_iff_eq, Bool.not_eq_true'] at h1
      obtain ⟨rfl, rfl, hdel, hdict, ht⟩ := h1
      obtain ⟨nm, bs, mro, ns, qn, hd, sn, sub, ab, col, del⟩ := cd
      dsimp only at hm hdel hdict
      subst hm hdel hdict
      have hsl : sl = #[k0, k1, k2, k3, some (.builtin "ValueError.__new__"), k5] := by
        obtain ⟨l⟩ := sl
        simp only at hs
        rw [hs]
      subst hsl
      exact ⟨nm, qn, ns, bs, bm, sn, sub, ab, col, dd, k0, k1, k2, k3, k5, ho, ht⟩
    · cases h1
  · cases h1
def baseB (K : PySem.W.Frag) (C0 : Addr) : Bool := decide (PySem.W.specialIn K (.ref C0) "__getattribute__" = some (some (.builtin "type.__getattribute__"))) && (PySem.W.readsIn K C0 (.type "type") && (match PySem.W.findCls K (.ref C0) (.type "type") "__init__" with
  | some (.val (.builtin n)) => n == "ValueError.__init__"
  | _ => false))
theorem baseB_ok {C0 : Addr} (h : baseB K C0 = true) : BaseK K C0 := by
  unfold baseB at h
  simp only [Bool.and_eq_true, decide_eq_true_eq] at h
  obtain ⟨h1, h2, h3⟩ := h
  refine ⟨h1, h2, ?_⟩
  split at h3
  · rename_i n e
    rw [eq_of_beq h3] at e
    exact e
  · cases h3
/-- what is asked of the classes -/
def moreE (B : Str) (Cs : List Str) (K : PySem.W.Frag) : Bool := baseB K (He.ga K B) && Cs.all fun C => oexB K (He.ga K C) && xfB K (He.ga K C)
theorem hasMeth_ok (c : He.SaysD fa fn K) {x m : Str} (h : hasMeth fa x m = true) : Meth K (He.ga K x) m (He.ma K (He.ga K x) m) := by
  obtain ⟨f, hf, e⟩ := List.any_eq_true.mp h
  cases f <;> first | (cases e; done) | skip
  rename_i y n
  simp only [Bool.and_eq_true, decide_eq_true_eq] at e
  obtain ⟨rfl, rfl⟩ := e
  exact He.meth_ok (says c hf)
theorem hasNoat_ok (c : He.SaysD fa fn K) {x m : Str} (h : hasNoat fa x m = true) : PySem.W.findIn K (.ref (He.ga K x)) m = some none := by
  obtain ⟨f, hf, e⟩ := List.any_eq_true.mp h
  cases f <;> first | (cases e; done) | skip
  rename_i y n
  simp only [Bool.and_eq_true, decide_eq_true_eq] at e
  obtain ⟨rfl, rfl⟩ := e
  exact He.noat_ok (says c hf)
theorem exc_at {B C self f msg : Str} {Cs : List Str} {jk} {i : Nat} {d : He.DefD} {p1 p2 p3 p4 p5 p6 p7 p8 p9 p10 : Pos} (X : K.In h) (G : h.Ns mainGlobals mg) (c : He.SaysD fa fn K) (m : moreE B Cs K = true) (hC : C ∈ Cs) (hi : fn[i]? = some d)
    (hat : d.at_ = (C, some (Str.ofString "__init__"))) (hdf : d.dfl = [] ∧ d.kwd = []) (hB : hasGlo fa B = true) (hm : hasMeth fa C "__init__" = true) (hn : hasNoat fa C f = true) (hp : plainP d.params [self, f] = true)
    (hb : d.body = [.Expr (.Call (.Attribute (.Name B p1) "__init__" p2) [.Name self p3, .Constant (.str msg) jk p4] [] p5) p6, .Assign [.Attribute (.Name self p7) f p8] (.Name f p9) p10])
    (S : FnScope [self, f] [self, f] d.scope) (hself : d.scope.names.lookup self = some .local) (hx : d.scope.names.lookup f = some .local) (hBg : d.scope.names.lookup B = some .globalImplicit) (dB : (B == ("__debug__" : Str)) = false)
    (d1 : (self == ("__debug__" : Str)) = false ∧ (self == ("__classdict__" : Str)) = false) (d2 : (f == ("__debug__" : Str)) = false ∧ (f == ("__classdict__" : Str)) = false)
    (hc : ∀ env : Env, ∃ pl : Sem Bool, eval (.Call (.Attribute (.Name B p1) "__init__" p2) [.Name self p3, .Constant (.str msg) jk p4] [] p5) env = (do
      let ov ← eval (.Name B p1) env
      standAt p2.atName
      let (f, first) ← holding [ov] (getMethod ov "__init__" pl)
      callWith p5 f first (backTo p5 (starEach [.Name self p3, .Constant (.str msg) jk p4] env)) (backToKw p5 (keywordEach [] env)))) : ExcAt K mg (He.ga K C) [f] := by
  simp only [moreE, Bool.and_eq_true, List.all_eq_true] at m
  obtain ⟨mb, mc⟩ := m
  obtain ⟨fd, F⟩ := c.def_ i hi
  have e1 : d.dvs K = [] := by unfold He.DefD.dvs; rw [hdf.1]; rfl
  have e2 : d.kws K = [] := by unfold He.DefD.kws; rw [hdf.2]; rfl
  rw [e1, e2] at F
  have M := hasMeth_ok c hm
  have no := hasNoat_ok c hn
  have oe := oexB_ok (mc C hC).1
  have ea : He.fAd K d.at_ = He.ma K (He.ga K C) "__init__" := by rw [hat]; rfl
  rw [ea] at F
  have tI : PySem.W.typeIn K (.ref (He.ma K (He.ga K C) "__init__")) = some (.type "function") := eq_of_beq M.fn
  refine ⟨oe, xfB_ok (mc C hC).2, _, fd, self, f, rfl, M.at_, tI, no, ?_, fun P w base => ?_⟩
  · have hbA := FunD.bindA F hp
    intro s us X' hl
    have hsf : (f == self) = false := by
      have nd := S.nd
      simp only [List.nodup_cons, List.mem_singleton] at nd
      cases q : f == self with
      | false => rfl
      | true => exact absurd (eq_of_beq q).symm nd.1
    match us, hl with
    | [u1, u2], _ =>
      refine hbA s [u1, u2] [] [u1, u2] ?_
      unfold bindA bindB slotsOfCall
      simp [kwOk, List.lookup, hsf]
  · exact init_ok F hb S hself hx hBg (glo_at X G c hB) dB d1 d2 (baseB_ok mb) oe no hc
/-! ### the head's Hook -/
def obsX (fa : List He.Fa) (fn : List He.DefD) (more : PySem.W.Frag → Bool) (K : PySem.W.Frag) : He.AlD := ((He.obsD fa fn K).1 && more K, (He.obsD fa fn K).2)
def SaysX (fa : List He.Fa) (fn : List He.DefD) (more : PySem.W.Frag → Bool) (K : PySem.W.Frag) : Prop := obsX fa fn more K = He.valD fn
def obsXG (n : Nat) (fa : List He.Fa) (fn : List He.DefD) (more : PySem.W.Frag → Bool) (g : Addr → Option Obj) : He.AlD := obsX fa fn more (He.frG g (cStatics :: He.asD g n))
def hookX (n : Nat) (fa : List He.Fa) (fn : List He.DefD) (more : PySem.W.Frag → Bool) : PySem.W.Hook where
  α := He.AlD
  obs := fun s => obsXG n fa fn more s.heap.get?
  val := fun _ => He.valD fn
  says := fun _ h => ∃ K : PySem.W.Frag, K.In h ∧ SaysX fa fn more K
  of := fun _ _ e => ⟨_, He.frG_in, e⟩
  keeps := fun _ _ _ ⟨K, hK, c⟩ k => ⟨K, PySem.W.Frag.In.keeps hK k, c⟩
theorem obsXG_eq {n : Nat} {more : PySem.W.Frag → Bool} {g : Addr → Option Obj} {s : Shared} (h : ∀ a, g a = s.heap.get? a) : obsXG n fa fn more g = (hookX n fa fn more).obs s := by
  have e : g = s.heap.get? := funext h
  rw [e] <;> rfl
theorem SaysX.to {more : PySem.W.Frag → Bool} (c : SaysX fa fn more K) : He.SaysD fa fn K ∧ more K = true := by
  have h1 : (obsX fa fn more K).1 = true := congrArg (fun z : He.AlD => z.1) (show obsX fa fn more K = He.valD fn from c)
  have h2 : (obsX fa fn more K).2 = (He.valD fn).2 := congrArg (fun z : He.AlD => z.2) (show obsX fa fn more K = He.valD fn from c)
  have h1 : ((He.obsD fa fn K).1 && more K) = true := h1
  simp only [Bool.and_eq_true] at h1
  exact ⟨Prod.ext h1.1 h2, h1.2⟩
end
end PX

set_option Elab.async false
set_option linter.all false
set_option maxRecDepth 100000
/-! PxPrim: the law's state: what _law_start and _law_draw do. -/
namespace PX
open PySem PySem.Spec L2
open PyProof.Rows hiding St

section
variable {X : Cx}
/-- xs[i] read by an operator's store -/
theorem get_list : PGet X (rIxL X.K) := by
  intro pins s σ H o i ov iv Q I ro ri h
  obtain ⟨p, xs, k, z, rfl, rfl, hq, he, q⟩ := h
  cases ro
  obtain ⟨t, rfl⟩ := ri
  obtain ⟨its, r, pl, hz⟩ := I.list hq
  obtain ⟨j, h1, h2, h3, h4, h5⟩ := atI_get he
  obtain ⟨w, ew, rw'⟩ := r.get h2
  have hl := r.length
  have hn := line63
  have fin : EP X pins σ Q w s := ⟨z, H, I, rw', q⟩
  by_cases h0 : 0 ≤ k
  · have hj : k.toNat = j := by
      rw [seqIndex_of h0 h5] at h1
      exact Option.some.inj h1
    exact wpAny_getItem_list pl.isList h0 (by omega) (by rw [hj]; simpa using ew) fin
  · have hj : (k + (its.toArray.size : Int)).toNat = j := by
      rw [seqIndex_neg (by omega) h4] at h1
      rw [List.size_toArray, ← hl]
      exact Option.some.inj h1
    exact wpAny_getItem_list_neg pl.isList (by omega) (by rw [List.size_toArray] <;> omega) (by omega) (by rw [hj]; simpa using ew) fin
end
theorem sqL_sub {K : PySem.W.Frag} {H H' : Hp} {a : Addr} {xs : List V} (s : Sub H H') (h : SqL K H a xs) : SqL K H' a xs := by
  rcases h with h | h
  · exact .inl (PX.Rd.mono s h)
  · exact .inr h
/-! ### a state of two lists and a number -/
structure DrS (H0 H : Hp) (sa b c : Addr) (big cells : List Int) (k : Int) : Prop where
  st : H sa = some (.lst [.ref b, .ref c, .int k])
  hb : H b = some (.lst (big.map V.int))
  hc : H c = some (.lst (cells.map V.int))
  ne : sa ≠ b ∧ sa ≠ c ∧ b ≠ c
  old : b ∈ cellsOf H0 sa ∨ H0 b = none
  cc : c ∈ cellsOf H0 sa
  keep : ∀ a u, H0 a = some u → a ∉ cellsOf H0 sa → H a = some u
  there : ∀ a ∈ cellsOf H0 sa, ∃ u, H a = some u
section
variable {H0 H : Hp} {sa b c p : Addr} {big big' cells : List Int} {k k' : Int}
theorem DrS.start (r : StR sa H [.inr big, .inr cells, .inl k]) : ∃ b c, DrS H H sa b c big cells k := by
  have tr := r.there
  obtain ⟨nd, vs, e, l⟩ := r
  generalize hcs : refsOf vs = cs at l
  cases l with
  | @lst b _ _ _ _ hb l =>
  cases l with
  | @lst c _ _ _ _ hc l =>
  cases l with
  | int _ l =>
  cases l
  have ce : cellsOf H sa = [sa, b, c] := by unfold cellsOf; rw [e]; rfl
  rw [ce] at nd
  simp only [List.nodup_cons, List.mem_cons, List.not_mem_nil, or_false, not_or, not_false_eq_true, List.nodup_nil, and_true] at nd
  exact ⟨b, c, e, hb, hc, ⟨nd.1.1, nd.1.2, nd.2⟩, .inl (by rw [ce]; simp), by rw [ce]; simp, fun a u h _ => h, tr⟩
theorem DrS.fresh (d : DrS H0 H sa b c big cells k) (n : H p = none) {u : HO} : DrS H0 (upd H p u) sa b c big cells k := by
  have ne : ∀ {a v}, H a = some v → upd H p u a = some v := by
    intro a v h
    rw [upd_ne (by rintro rfl; rw [n] at h; cases h)]; exact h
  exact ⟨ne d.st, ne d.hb, ne d.hc, d.ne, d.old, d.cc, fun a u h hn => ne (d.keep a u h hn), fun a h => (d.there a h).imp fun u h => ne h⟩
theorem mem_sa {H : Hp} {sa : Addr} : sa ∈ cellsOf H sa := List.mem_cons_self ..
theorem DrS.setK (d : DrS H0 H sa b c big cells k) : DrS H0 (upd H sa (.lst [.ref b, .ref c, .int k'])) sa b c big cells k' := by
  obtain ⟨n1, n2, n3⟩ := d.ne
  refine ⟨upd_same, by rw [upd_ne n1.symm]; exact d.hb, by rw [upd_ne n2.symm]; exact d.hc, d.ne, d.old, d.cc, ?_, ?_⟩
  · intro a u h hn
    rw [upd_ne (by rintro rfl; exact hn mem_sa)]; exact d.keep a u h hn
  · intro a h
    by_cases e : a = sa
    · subst e; exact ⟨_, upd_same⟩
    · rw [upd_ne e]; exact d.there a h
theorem DrS.setB (d : DrS H0 H sa b c big cells k) (n : H p = none) : DrS H0 (upd (upd H p (.lst (big'.map V.int))) sa (.lst [.ref p, .ref c, .int k])) sa p c big' cells k := by
  obtain ⟨n1, n2, n3⟩ := d.ne
  have ps : sa ≠ p := by rintro rfl; rw [d.st] at n; cases n
  have pc : p ≠ c := by rintro rfl; rw [d.hc] at n; cases n
  have n0 : H0 p = none := by
    cases e : H0 p with
    | none => rfl
    | some u =>
      by_cases hm : p ∈ cellsOf H0 sa
      · obtain ⟨u, hu⟩ := d.there p hm
        rw [n] at hu; cases hu
      · rw [d.keep p u e hm] at n; cases n
  refine ⟨upd_same, by rw [upd_ne ps.symm]; exact upd_same, by rw [upd_ne n2.symm, upd_ne pc.symm]; exact d.hc, ⟨ps, n2, pc⟩, .inr n0, d.cc, ?_, ?_⟩
  · intro a u h hn
    rw [upd_ne (by rintro rfl; exact hn mem_sa), upd_ne (by rintro rfl; rw [n0] at h; cases h)]; exact d.keep a u h hn
  · intro a h
    by_cases e : a = sa
    · subst e; exact ⟨_, upd_same⟩
    · rw [upd_ne e]
      by_cases e2 : a = p
      · subst e2; exact ⟨_, upd_same⟩
      · rw [upd_ne e2]; exact d.there a h
theorem DrS.putB (d : DrS H0 H sa b c big cells k) : DrS H0 (upd H b (.lst (big'.map V.int))) sa b c big' cells k := by
  obtain ⟨n1, n2, n3⟩ := d.ne
  refine ⟨by rw [upd_ne n1]; exact d.st, upd_same, by rw [upd_ne n3.symm]; exact d.hc, d.ne, d.old, d.cc, ?_, ?_⟩
  · intro a u h hn
    have : a ≠ b := by
      rintro rfl
      rcases d.old with h1 | h1
      · exact hn h1
      · rw [h] at h1; cases h1
    rw [upd_ne this]; exact d.keep a u h hn
  · intro a h
    by_cases e : a = b
    · subst e; exact ⟨_, upd_same⟩
    · rw [upd_ne e]; exact d.there a h
theorem DrS.clist (d : DrS H0 H sa b c big cells k) : cellsOf H sa = [sa, b, c] := by unfold cellsOf; rw [d.st]; rfl
theorem DrS.str (d : DrS H0 H sa b c big cells k) : StR sa H [.inr big, .inr cells, .inl k] := by
  obtain ⟨n1, n2, n3⟩ := d.ne
  refine ⟨by rw [d.clist]; simp [n1, n2, n3], _, d.st, ?_⟩
  exact .lst d.hb (.lst d.hc (.int _ .nil))
theorem DrS.back {g : Gh} {F : Hp} (d : DrS H0 H g.sa b c big cells k) (sb : Sub F H0) (hF : ∀ a ∈ cellsOf H0 g.sa, F a = none) : Back g F H0 F H [.inr big, .inr cells, .inl k] := by
  refine ⟨.refl, ?_, d.keep, fun _ _ _ => rfl, d.str, ?_, d.there⟩
  · intro a u h
    refine d.keep a u (sb _ _ h) ?_
    intro hc; rw [hF a hc] at h; cases h
  · intro a ha
    rw [d.clist] at ha
    have fn : H0 a = none → F a = none := by
      intro h
      cases e : F a with
      | none => rfl
      | some u => rw [sb _ _ e] at h; cases h
    have key : a ∈ cellsOf H0 g.sa ∨ H0 a = none := by
      simp only [List.mem_cons, List.not_mem_nil, or_false] at ha
      rcases ha with rfl | rfl | rfl
      · exact .inl mem_sa
      · exact d.old
      · exact .inl d.cc
    refine ⟨?_, key⟩
    rcases key with h | h
    · exact hF a h
    · exact fn h
end
/-! ### what a draw gives -/
def drawOk (n k : Int) (cells : List Int) : Prop := 0 ≤ k ∧ k < 1000000 ∧ 0 < n ∧ n < 4611686018427387904 ∧ cells ≠ [] ∧ cells.length ≤ 1000
instance {n k : Int} {cells : List Int} : Decidable (drawOk n k cells) := by unfold drawOk; exact inferInstance
/-- the mixed number -/
def mixC (cells : List Int) (k : Int) : Int := cells.getD ((k % (cells.length : Int)).toNat) 0 % 2147483647
def mixO (cells : List Int) (k : Int) : Int := (mixC cells k * 48271 + k * 69621 + 7) ^ 5 % 2147483647
def mixN (cells : List Int) (k n : Int) : Int := (mixO cells k * 16807 + k * 40692 + 13) ^ 5 % 2147483629 % n
def drawP : List D → Stm → CO := fun ds S => match ds with
  | [.st, .int n] => (match S with
    | [.inr big, .inr cells, .inl k] => if drawOk n k cells then (match dropZ big with
      | x :: r => .ok (.val (.int (x % n))) [.inr (x / n :: r), .inr cells, .inl (k + 1)]
      | [] => .ok (.val (.int (mixN cells (k + 1) n))) [.inr [], .inr cells, .inl (k + 1)]) else .bad
    | _ => .bad)
  | _ => .bad
theorem draw_inv {g : Gh} {F H : Hp} {ds : List D} {S : Stm} {Q : VK} {E : XK} (cp : CPost g F H (drawP ds S) Q E) : ∃ n big cells k, ds = [.st, .int n] ∧ S = [.inr big, .inr cells, .inl k] ∧ drawOk n k cells := by
  unfold drawP at cp
  split at cp
  · split at cp
    · split at cp
      · rename_i ok; exact ⟨_, _, _, _, rfl, rfl, ok⟩
      · exact cp.elim
    · exact cp.elim
  · exact cp.elim
def bigOf (ns : List Int) : List Int := (ns.map fun n => if n < 0 then -n else n).filter fun n => decide (1000000000000000000 ≤ n)
def startP (ns : List Int) : Stm := [.inr (bigOf ns), .inr (ns ++ [5 + (ns.take 1).sum % 1000003]), .inl 0]
/-- a state from which i more draws may be made -/
def StOk (m : Nat) (S : Stm) : Prop := ∃ big cells k, S = [.inr big, .inr cells, .inl k] ∧ 0 ≤ k ∧ k ≤ (m : Int) ∧ cells ≠ [] ∧ cells.length ≤ 1000
theorem draw_ok {m : Nat} {S : Stm} {n : Int} (h : StOk m S) (hm : m < 1000000) (h0 : 0 < n) (h1 : n < 4611686018427387904) : ∃ d S', drawP [.st, .int n] S = .ok (.val (.int d)) S' ∧ 0 ≤ d ∧ d < n ∧ StOk (m + 1) S' := by
  obtain ⟨big, cells, k, rfl, k0, k1, c0, c1⟩ := h
  have ok : drawOk n k cells := ⟨k0, by omega, h0, h1, c0, c1⟩
  simp only [drawP, if_pos ok]
  cases q : dropZ big with
  | nil =>
    refine ⟨_, _, rfl, ?_, ?_, _, _, _, rfl, by omega, by push_cast; omega, c0, c1⟩
    · exact Int.emod_nonneg _ (by omega)
    · exact Int.emod_lt_of_pos _ h0
  | cons x r =>
    refine ⟨_, _, rfl, Int.emod_nonneg _ (by omega), Int.emod_lt_of_pos _ h0, _, _, _, rfl, by omega, by push_cast; omega, c0, c1⟩
theorem start_ok {ns : List Int} (h : ns.length ≤ 63) : StOk 0 (startP ns) := ⟨_, _, _, rfl, by omega, by omega, by simp, by simp; omega⟩
end PX

set_option Elab.async false
set_option linter.all false
set_option maxRecDepth 100000
/-! PxDraw: the reading of _law_draw. -/
namespace PX
open PySem PySem.Spec L2
open PyProof.Rows hiding St

section
variable {K : PySem.W.Frag} {g : Gh}
def iSt (K : PySem.W.Frag) (j : Int) : TE := tOp (rIxL K) (tVar 0) (tC (.int j))
def iSt0 (K : PySem.W.Frag) : TE := tOp (rIxL K) (iSt K 0) (tC (.int 0))
def tInt (t : TE) : TE := tCB (fun xs H Q => (∃ i, xs = [V.int i] ∧ Q (V.int i) H) ∨ ∃ k, xs = [V.bl k] ∧ Q (V.int (if k = true then 1 else 0)) H) (tCons t tNil)
def tBig (K : PySem.W.Frag) (g : Gh) : TT := tTest (tOp (r2c g neqv) (iSt K 0) (tLst tNil))
def tMod (a b : TE) : TE := tOp (rI (fun _ j => 0 < j) fun i j => .int (i % j)) a b
def tAdd (a b : TE) : TE := tOp (rI0 fun i j => .int (i + j)) a b
def tMul (a b : TE) : TE := tOp (rI CMulW fun i j => .int (i * j)) a b
def tMix (K : PySem.W.Frag) (x : TE) (p q r : Int) : TE := tInt (tOp (rI CPow fun i j => .int (i ^ j.toNat)) (tAdd (tAdd (tMul x (tC (.int p))) (tMul (iSt K 2) (tC (.int q)))) (tC (.int r))) (tC (.int 5)))
def tLen (K : PySem.W.Frag) (t : TE) : TE := tCB (fun xs H Q => ∃ p ys, xs = [.ref p] ∧ (SqL K H p ys ∨ SqT K H p ys) ∧ Q (.int ys.length) H) (tCons t tNil)
def drawTail (K : PySem.W.Frag) : TS := tSeq (tAsg (tMod (tInt (tOp (rIxL K) (iSt K 1) (tMod (tInt (iSt K 2)) (tLen K (iSt K 1))))) (tC (.int 2147483647))) (gName 3))
  (tSeq (tAsg (tMod (tMix K (tVar 3) 48271 69621 7) (tC (.int 2147483647))) (gName 4)) (tRet (tMod (tMod (tMix K (tVar 4) 16807 40692 13) (tC (.int 2147483629))) (tVar 1))))
def drawBig (K : PySem.W.Frag) : TS := tSeq (tAsg (tMod (tInt (iSt0 K)) (tVar 1)) (gName 2)) (tSeq (tAsg (tOp (rI CDivW fun i j => .int (i / j)) (iSt0 K) (tVar 1)) (gSub (iSt K 0) (tC (.int 0)) rSetL)) (tRet (tVar 2)))
def drawIf (K : PySem.W.Frag) (g : Gh) : TS := tSeq (tIfS (tBig K g) (drawBig K) tNext) (drawTail K)
def drawWhile (K : PySem.W.Frag) (g : Gh) : TS := tWhile (tAnd (tBig K g) (tTest (tOp rEq (iSt0 K) (tC (.int 0))))) (tAsg (tSl (rSlL K) (iSt K 0) (tPart (tC (.int 1))) tNoPart) (gSub (tVar 0) (tC (.int 0)) rSetL))
def drawR (K : PySem.W.Frag) (g : Gh) : TS := tSeq (tAugS (tVar 0) (tC (.int 2)) (tC (.int 1)) (rIxL K) (ipI fun i j => i + j) rSetL) (tSeq (drawWhile K g) (drawIf K g))

variable {H0 H : Hp} {b c : Addr} {big cells : List Int} {k n : Int} {σ : L2.St} {Z : Ends}
theorem read0 (d : DrS H0 H g.sa b c big cells k) (hσ : σ[0]? = some (some (.ref g.sa))) {Q : VK} (q : Q (.ref b) H) : iSt K 0 σ H Q := ⟨.ref g.sa, hσ, g.sa, _, 0, .ref b, rfl, rfl, .inl (.of d.st), rfl, q⟩
theorem read1 (d : DrS H0 H g.sa b c big cells k) (hσ : σ[0]? = some (some (.ref g.sa))) {Q : VK} (q : Q (.ref c) H) : iSt K 1 σ H Q := ⟨.ref g.sa, hσ, g.sa, _, 1, .ref c, rfl, rfl, .inl (.of d.st), rfl, q⟩
theorem read2 (d : DrS H0 H g.sa b c big cells k) (hσ : σ[0]? = some (some (.ref g.sa))) {Q : VK} (q : Q (.int k) H) : iSt K 2 σ H Q := ⟨.ref g.sa, hσ, g.sa, _, 2, .int k, rfl, rfl, .inl (.of d.st), rfl, q⟩
theorem ix0 {n : Nat} : ixN (n + 1) 0 = some 0 := by
  unfold ixN
  simp
theorem at0 {α : Type} {x : α} {r : List α} : L2.atI (x :: r) 0 = some x := by
  unfold L2.atI ixN
  simp
theorem read00 {x : Int} {r : List Int} (d : DrS H0 H g.sa b c (x :: r) cells k) (hσ : σ[0]? = some (some (.ref g.sa))) {Q : VK} (q : Q (.int x) H) : iSt0 K σ H Q :=
  read0 d hσ ⟨b, _, 0, .int x, rfl, rfl, .inl (.of d.hb), at0, q⟩
theorem ints_rep (F : Hp) : ∀ ns : List Int, RepA g F (ns.map V.int) (ns.map PX.D.int)
  | [] => .nil
  | n :: ns => .cons (.int n) (ints_rep F ns)
theorem test_big (d : DrS H0 H g.sa b c big cells k) (hσ : σ[0]? = some (some (.ref g.sa))) {Q : Bool → Hp → Prop} (q : ∀ p, H p = none → Q (!big.isEmpty) (upd H p (.lst []))) : tBig K g σ H Q := by
  refine read0 d hσ ⟨by show (0 : Nat) ≤ 16777216; decide, fun p np => ?_⟩
  have d' := d.fresh np (u := .lst [])
  refine ⟨fun _ => none, .lst (big.map PX.D.int), .lst [], !big.isEmpty, (fun _ _ h => by cases h), .lst d'.hb (ints_rep _ _), .lst upd_same .nil, ?_, _, rfl, q p np⟩
  cases big with
  | nil => rfl
  | cons x r => rfl
theorem cut_tail (x : V) (r : List V) : cutV (x :: r) (some 1) none = r := by
  unfold cutV
  rw [show HT.sIx (x :: r).length 0 (some 1) = min 1 (x :: r).length from rfl, HT.sIx_none]
  simp
theorem log_small {i : Int} (h0 : 0 ≤ i) (h1 : i < 18446744073709551616) : i.natAbs.log2 < 64 := by
  by_cases e : i.natAbs = 0
  · rw [e]; decide
  · exact (Nat.log2_lt e).mpr (by show i.natAbs < 18446744073709551616; omega)
theorem mulW {i j : Int} (h0 : 0 ≤ i) (h1 : i < 18446744073709551616) (h2 : 0 ≤ j) (h3 : j < 18446744073709551616) : CMulW i j := by
  have a := log_small h0 h1
  have b := log_small h2 h3
  show i.natAbs.log2 + j.natAbs.log2 < 1000000
  omega
theorem mix_read (d : DrS H0 H g.sa b c big cells k) (hσ : σ[0]? = some (some (.ref g.sa))) {x : TE} {v p q r : Int} {Q : VK} (hx : ∀ Q : VK, Q (.int v) H → x σ H Q) (m1 : CMulW v p) (m2 : CMulW k q) (hb : (v * p + k * q + r).natAbs < 2 ^ 64)
    (hQ : Q (.int ((v * p + k * q + r) ^ 5)) H) : tMix K x p q r σ H Q :=
  hx _ ⟨_, _, rfl, rfl, m1, read2 d hσ ⟨_, _, rfl, rfl, m2, _, _, rfl, rfl, _, _, rfl, rfl, _, _, rfl, rfl, ⟨by decide, by decide, hb⟩, .inl ⟨_, rfl, hQ⟩⟩⟩
theorem mod_read {x y : TE} {i j : Int} {Q : VK} (hj : 0 < j) (hx : ∀ Q : VK, Q (.int i) H → x σ H Q) (hy : ∀ Q : VK, Q (.int j) H → y σ H Q) (hQ : Q (.int (i % j)) H) : tMod x y σ H Q :=
  hx _ (hy _ ⟨i, j, rfl, rfl, hj, hQ⟩)
theorem draw_tail (d : DrS H0 H g.sa b c big cells k) (hσ : σ = [some (.ref g.sa), some (.int n), none, none, none]) (h0 : 0 ≤ k) (h1 : k ≤ 1000000) (hn : 0 < n) (hc : cells ≠ []) (hl : cells.length ≤ 1000)
    (q : Z.rt (.int (mixN cells k n)) H) : drawTail K Z σ H := by
  have hσ0 : σ[0]? = some (some (.ref g.sa)) := by rw [hσ]; rfl
  have hpos : 0 < cells.length := by cases cells with | nil => exact absurd rfl hc | cons => simp
  have i0 : 0 ≤ k % (cells.length : Int) := Int.emod_nonneg _ (by omega)
  have i1 : k % (cells.length : Int) < cells.length := Int.emod_lt_of_pos _ (by omega)
  have hat : L2.atI (cells.map V.int) (k % (cells.length : Int)) = some (.int (cells.getD ((k % (cells.length : Int)).toNat) 0)) := by
    unfold L2.atI ixN
    have : (k % (cells.length : Int)).toNat < cells.length := by omega
    rw [if_pos i0]
    simp only [List.length_map]
    rw [if_pos (by omega)]
    simp [List.getD_eq_getElem?_getD, this]
  have cl : (cells.map V.int).length = cells.length := by simp
  have hcell : ∀ Q : VK, Q (.int (cells.getD ((k % (cells.length : Int)).toNat) 0)) H → tInt (tOp (rIxL K) (iSt K 1) (tMod (tInt (iSt K 2)) (tLen K (iSt K 1)))) σ H Q := by
    intro Q hQ
    refine read1 d hσ0 (mod_read (i := k) (j := cells.length) (by omega) (fun Q h => read2 d hσ0 (.inl ⟨_, rfl, h⟩)) (fun Q h => read1 d hσ0 ⟨c, _, rfl, .inl (.inl (.of d.hc)), by rw [cl]; exact h⟩) ?_)
    exact ⟨c, _, _, _, rfl, rfl, .inl (.of d.hc), hat, .inl ⟨_, rfl, hQ⟩⟩
  refine mod_read (by decide) hcell (fun Q h => h) ?_
  have m0 : 0 ≤ mixC cells k := Int.emod_nonneg _ (by decide)
  have m1 : mixC cells k < 2147483647 := Int.emod_lt_of_pos _ (by decide)
  have hσ1 : (σ.set 3 (some (V.int (mixC cells k))))[0]? = some (some (.ref g.sa)) := by rw [hσ]; rfl
  have hσ3 : (σ.set 3 (some (V.int (mixC cells k))))[3]? = some (some (.int (mixC cells k))) := by rw [hσ]; rfl
  show tSeq _ _ Z (σ.set 3 (some (V.int (mixC cells k)))) H
  refine mod_read (x := tMix K (tVar 3) 48271 69621 7) (y := tC (.int 2147483647)) (j := 2147483647) (by decide) (fun Q h => mix_read d hσ1 (v := mixC cells k) (fun Q h => ⟨_, hσ3, h⟩) (mulW m0 (by omega) (by decide) (by decide)) (mulW h0 (by omega) (by decide) (by decide)) (by omega) h) (fun Q h => h) ?_
  have o0 : 0 ≤ mixO cells k := Int.emod_nonneg _ (by decide)
  have o1 : mixO cells k < 2147483647 := Int.emod_lt_of_pos _ (by decide)
  have hσ2 : ((σ.set 3 (some (V.int (mixC cells k)))).set 4 (some (V.int (mixO cells k))))[0]? = some (some (.ref g.sa)) := by rw [hσ]; rfl
  have hσ4 : ((σ.set 3 (some (V.int (mixC cells k)))).set 4 (some (V.int (mixO cells k))))[4]? = some (some (.int (mixO cells k))) := by rw [hσ]; rfl
  have hσ5 : ((σ.set 3 (some (V.int (mixC cells k)))).set 4 (some (V.int (mixO cells k))))[1]? = some (some (.int n)) := by rw [hσ]; rfl
  rw [show (mixC cells k * 48271 + k * 69621 + 7) ^ 5 % 2147483647 = mixO cells k from rfl]
  show tRet (tMod (tMod (tMix K (tVar 4) 16807 40692 13) (tC (.int 2147483629))) (tVar 1)) Z ((σ.set 3 (some (V.int (mixC cells k)))).set 4 (some (V.int (mixO cells k)))) H
  refine mod_read (x := tMod (tMix K (tVar 4) 16807 40692 13) (tC (.int 2147483629))) (y := tVar 1) hn (fun Q h => mod_read (j := 2147483629) (by decide) (fun Q h => mix_read d hσ2 (v := mixO cells k) (fun Q h => ⟨_, hσ4, h⟩) (mulW o0 (by omega) (by decide) (by decide)) (mulW h0 (by omega) (by decide) (by decide)) (by omega) h) (fun Q h => h) h) (fun Q h => ⟨_, hσ5, h⟩) ?_
  exact q
theorem draw_big {x : Int} {r : List Int} (d : DrS H0 H g.sa b c (x :: r) cells k) (hσ : σ = [some (.ref g.sa), some (.int n), none, none, none]) (hn : 0 < n) (hn1 : n < 4611686018427387904)
    (q : ∀ H', DrS H0 H' g.sa b c (x / n :: r) cells k → Z.rt (.int (x % n)) H') : drawBig K Z σ H := by
  have hσ0 : σ[0]? = some (some (.ref g.sa)) := by rw [hσ]; rfl
  have hσ1 : σ[1]? = some (some (.int n)) := by rw [hσ]; rfl
  refine mod_read hn (fun Q h => read00 d hσ0 (.inl ⟨_, rfl, h⟩)) (fun Q h => ⟨_, hσ1, h⟩) ?_
  have hσ0' : (σ.set 2 (some (V.int (x % n))))[0]? = some (some (.ref g.sa)) := by rw [hσ]; rfl
  have hσ1' : (σ.set 2 (some (V.int (x % n))))[1]? = some (some (.int n)) := by rw [hσ]; rfl
  have hσ2' : (σ.set 2 (some (V.int (x % n))))[2]? = some (some (.int (x % n))) := by rw [hσ]; rfl
  show tSeq _ _ Z (σ.set 2 (some (V.int (x % n)))) H
  have hl := log_small (i := n) (by omega) (by omega)
  refine read00 d hσ0' ⟨.int n, hσ1', _, _, rfl, rfl, ⟨hn, by omega⟩, read0 d hσ0' ⟨b, _, 0, 0, rfl, rfl, d.hb, ix0, ?_⟩⟩
  exact ⟨_, hσ2', q _ (d.putB (big' := x / n :: r))⟩
theorem draw_if (d : DrS H0 H g.sa b c big cells k) (hσ : σ = [some (.ref g.sa), some (.int n), none, none, none]) (h0 : 0 ≤ k) (h1 : k ≤ 1000000) (hn : 0 < n) (hn1 : n < 4611686018427387904) (hc : cells ≠ []) (hl : cells.length ≤ 1000)
    (q : ∀ H' b', (match big with | x :: r => DrS H0 H' g.sa b' c (x / n :: r) cells k → Z.rt (.int (x % n)) H' | [] => DrS H0 H' g.sa b' c [] cells k → Z.rt (.int (mixN cells k n)) H')) : drawIf K g Z σ H := by
  have hσ0 : σ[0]? = some (some (.ref g.sa)) := by rw [hσ]; rfl
  refine test_big d hσ0 fun p np => ?_
  have d' := d.fresh np (u := .lst [])
  cases big with
  | nil => exact draw_tail d' hσ h0 h1 hn hc hl (q _ b d')
  | cons x r => exact draw_big d' hσ hn hn1 fun H' h => q H' b h
theorem draw_while (d : DrS H0 H g.sa b c big cells k) (hσ : σ[0]? = some (some (.ref g.sa))) (q : ∀ H' b', DrS H0 H' g.sa b' c (dropZ big) cells k → Z.nx σ H') : drawWhile K g Z σ H := by
  refine ⟨fun m σ' H' => σ' = σ ∧ ∃ b' big', m = big'.length ∧ dropZ big' = dropZ big ∧ DrS H0 H' g.sa b' c big' cells k, ⟨_, rfl, b, big, rfl, rfl, d⟩, ?_⟩
  rintro m σ' H' ⟨rfl, b', big', rfl, hz, d'⟩
  refine test_big d' hσ fun p np => ?_
  have d2 := d'.fresh np (u := .lst [])
  cases big' with
  | nil => exact q _ b' (hz ▸ d2)
  | cons x r =>
    refine read00 d2 hσ ⟨rfl, decide (V.int x = V.int 0), rfl, ?_⟩
    by_cases hx : x = 0
    · subst hx
      refine (if_pos (show decide (V.int 0 = V.int 0) = true by decide)).mpr ?_
      refine ⟨fun σ1 H1 => σ1 = σ' ∧ ∃ b1, DrS H0 H1 g.sa b1 c r cells k, ?_, ?_⟩
      · rintro σ1 H1 ⟨rfl, b1, d3⟩
        exact ⟨r.length, by simp, rfl, b1, r, rfl, by rw [← hz]; rfl, d3⟩
      · refine read0 d2 hσ ⟨1, rfl, b', _, rfl, .inl (.of d2.hb), fun q nq => ⟨.ref g.sa, hσ, ?_⟩⟩
        rw [show cutV (List.map V.int (0 :: r)) (some 1) none = r.map V.int from cut_tail _ _]
        have d3 := d2.fresh nq (u := .lst (r.map V.int))
        exact ⟨g.sa, _, 0, 0, rfl, rfl, d3.st, rfl, rfl, q, d2.setB nq⟩
    · refine (if_neg (show ¬ decide (V.int x = V.int 0) = true by simpa using hx)).mpr ?_
      have : dropZ (x :: r) = x :: r := by simp only [dropZ, if_neg hx]
      rw [this] at hz
      exact q _ b' (hz ▸ d2)
theorem draw_pure (st : StR g.sa H [.inr big, .inr cells, .inl k]) (ok : drawOk n k cells) (hσ : σ = [some (.ref g.sa), some (.int n), none, none, none])
    (q : ∀ H' b' c', (match dropZ big with | x :: r => DrS H H' g.sa b' c' (x / n :: r) cells (k + 1) → Z.rt (.int (x % n)) H' | [] => DrS H H' g.sa b' c' [] cells (k + 1) → Z.rt (.int (mixN cells (k + 1) n)) H')) : drawR K g Z σ H := by
  obtain ⟨k0, k1, n0, n1, c0, c1⟩ := ok
  obtain ⟨b, c, d⟩ := DrS.start st
  have hσ0 : σ[0]? = some (some (.ref g.sa)) := by rw [hσ]; rfl
  refine ⟨.ref g.sa, hσ0, g.sa, _, 2, .int k, rfl, rfl, .inl (.of d.st), rfl, k, 1, rfl, rfl, g.sa, _, 2, 2, rfl, rfl, d.st, rfl, ?_⟩
  refine draw_while (d.setK (k' := k + 1)) hσ0 fun H1 b1 d1 => ?_
  exact draw_if d1 hσ (by omega) (by omega) n0 n1 c0 c1 fun H' b' => q H' b' c
end
/-- .. keeps its promise -/
theorem draw_done {K : PySem.W.Frag} {g : Gh} {F H : Hp} {big cells : List Int} {k n : Int} {σ : L2.St} {Q : VK} {E : XK} (st : StR g.sa H [.inr big, .inr cells, .inl k]) (ok : drawOk n k cells) (hσ : σ = [some (.ref g.sa), some (.int n), none, none, none])
    (sb : Sub F H) (hc : ∀ a ∈ cellsOf H g.sa, F a = none) (cp : CPost g F H (drawP [.st, .int n] [.inr big, .inr cells, .inl k]) Q E) : drawR K g { nx := fun _ H' => Q .non H', rt := Q } σ H := by
  refine draw_pure st ok hσ fun H' b' c' => ?_
  unfold drawP at cp
  simp only [if_pos ok] at cp
  cases q : dropZ big with
  | nil =>
    rw [q] at cp
    exact fun d => cp _ H' F (d.back sb hc) (.val (.int _)) (fun o p h => by cases h)
  | cons x r =>
    rw [q] at cp
    exact fun d => cp _ H' F (d.back sb hc) (.val (.int _)) (fun o p h => by cases h)
end PX

set_option Elab.async false
set_option linter.all false
set_option maxRecDepth 100000
/-! PxSh: the evaluator's clauses with the names resolved: what a def's body is, no text in sight. -/
namespace PX
open PySem

abbrev FE := En → Stm → Out OV
abbrev FB := En → Stm → Out Opd
abbrev FT := En → Stm → Out Bool
abbrev FI := En → Stm → Out (List D)
abbrev FS := En → Stm → SO
abbrev CallT := Fid → List D → Stm → CO

/-! values -/
def xVal (d : D) : FE := fun en S => .ok (.val d) en S
def xSlot (i : Nat) : FE := fun en S => match (en[i]? : Option Ent) with
  | some (.val d) => .ok (.val d) en S
  | some (.own o) => .ok (.val o.d) (frz en i) S
  | _ => .bad
def xV (f : FE) : En → Stm → Out D := fun en S => (f en S).bind fun r en S => .ok r.d en S
def bSlot (i : Nat) : FB := fun en S => match (match (en[i]? : Option Ent) with
    | some (.own _) => some i
    | _ => none : Option Nat) with
  | some i => .ok (.slot i) en S
  | none => (xV (xSlot i) en S).bind fun d en S => .ok (.dat d) en S
def bE (f : FE) : FB := fun en S => (xV f en S).bind fun d en S => .ok (.dat d) en S
def bAll : List FB → En → Stm → Out (List Opd)
  | [], en, S => .ok [] en S
  | e :: r, en, S => (e en S).bind fun o en S => (bAll r en S).bind fun os en S => .ok (o :: os) en S
def kAll : List (Str × FB) → En → Stm → Out (List (Str × Opd))
  | [], en, S => .ok [] en S
  | (x, e) :: r, en, S => (e en S).bind fun o en S => (kAll r en S).bind fun os en S => .ok ((x, o) :: os) en S
def vAll : List FE → En → Stm → Out (List D)
  | [], en, S => .ok [] en S
  | e :: r, en, S => (xV e en S).bind fun d en S => (vAll r en S).bind fun ds en S => .ok (d :: ds) en S
def bD (b : FB) : En → Stm → Out D := fun en S => (b en S).bind resolve
def b2 (a b : FB) : En → Stm → Out (D × D) := fun en S => (a en S).bind fun x en S => (b en S).bind fun y en S => (resolve x en S).bind fun d en S => (resolve y en S).bind fun e en S => .ok (d, e) en S
def xBin (op : Operator) (a b : FB) : FE := fun en S => (b2 a b en S).bind fun p en S => lift (binD op p.1 p.2) en S
def xNot (b : FB) : FE := fun en S => (bD b en S).bind fun d en S => (lift (truD d) en S).bind fun b en S => .ok (.val (.bl (!b))) en S
def xNeg (f : FE) : FE := fun en S => (xV f en S).bind fun d en S => match d with
  | .int i => .ok (.val (.int (-i))) en S
  | _ => .bad
def xCmp (op : CmpOp) (a b : FB) : FE := fun en S => (b2 a b en S).bind fun p en S => (lift (cmpD op p.1 p.2) en S).bind fun b en S => .ok (.val (.bl b)) en S
def xChain (op op' : CmpOp) (a b d : FB) : FE := fun en S => (b2 a b en S).bind fun p en S =>
  (lift (cmpD op p.1 p.2) en S).bind fun k en S =>
    if k = true then (if p.2.imm = true then (bD d en S).bind fun z en S => (lift (cmpD op' p.2 z) en S).bind fun k en S => .ok (.val (.bl k)) en S else .bad) else .ok (.val (.bl false)) en S
def xBool (op : BoolOp) : List FE → FE
  | [], _, _ => .bad
  | [e], en, S => e en S
  | e :: r, en, S => (xV e en S).bind fun d en S => match op, d with
    | .And, .bl true => xBool op r en S
    | .Or, .bl false => xBool op r en S
    | _, .bl b => .ok (.val (.bl b)) en S
    | _, _ => .bad
def xIf (t : FT) (a b : FE) : FE := fun en S => (t en S).bind fun k en S => if k = true then a en S else b en S
def xList (es : List FE) : FE := fun en S => (vAll es en S).bind fun ds en S => if ds.length ≤ sizeLine then .ok (.own (.lst ds)) en S else .bad
def xTup (es : List FE) : FE := fun en S => (vAll es en S).bind fun ds en S => if ds.length ≤ sizeLine then .ok (.val (.tup ds)) en S else .bad
def xIx (a i : FB) : FE := fun en S => (a en S).bind fun x en S => (i en S).bind fun y en S => (resolve x en S).bind fun d en S => (resolve y en S).bind fun k en S => (lift (getD d k) en S).bind fun r en S => .ok (.val r) en S
def xPart : Option FE → En → Stm → Out (Option Int)
  | none, en, S => .ok none en S
  | some e, en, S => (xV e en S).bind fun d en S => lift (partI d) en S
def xCut (a : FB) (lo hi : Option FE) : FE := fun en S => (a en S).bind fun x en S => (xPart lo en S).bind fun l en S => (xPart hi en S).bind fun h en S => (resolve x en S).bind fun d en S => lift (cutOV d l h) en S
def xRev (a : FB) : FE := fun en S => (bD a en S).bind fun d en S => lift (revOV d) en S
/-! calls -/
def xCall (call : List D → Stm → CO) (ps : List Str) (args : List FB) (kws : List (Str × FB)) : FE := fun en S => (bAll args en S).bind fun os en S => (kAll kws en S).bind fun ks en S => match getAll en os, getAll en (ks.map (·.2)) with
  | some ds, some es => match bindA ps ds ((ks.map (·.1)).zip es) with
    | some as => callEnd (call as S) en (os ++ ks.map (·.2))
    | none => .bad
  | _, _ => .bad
def xLen (e : FB) : FE := fun en S => (e en S).bind fun o en S => (resolve o en S).bind fun d en S => (lift (lenD d) en S).bind fun k en S => .ok (.val (.int k)) en S
/-- isinstance of a slot's thing -/
def xIsi (i : Option Nat) (e : FB) (t : Str) : FE := fun en S => match (match (i.bind fun i => (en[i]? : Option Ent)) with
    | some (.exc C fs) => some (C, fs)
    | _ => none : Option (D × List (Str × D))) with
  | some _ => .bad
  | none => (bD e en S).bind fun d en S => (lift (isTyp d t) en S).bind fun b en S => .ok (.val (.bl b)) en S
def xMut (j : Nat) (m : Str) (args : List FE) : FE := fun en S => match (match (en[j]? : Option Ent) with
    | some (.own _) => some j
    | _ => none : Option Nat) with
  | some j => (match (en[j]? : Option Ent) with
    | some (.own (.lst _)) => (vAll args en S).bind fun ds en S => (match (en[j]? : Option Ent) with
      | some (.own (.lst xs)) => match mutO (.lst xs) m ds with
        | some (o', d) => .ok (.val d) (en.set j (.own o')) S
        | none => .bad
      | _ => .bad)
    | _ => .bad)
  | none => .bad
/-- a text's method of one operand -/
def xStr (r : FB) (m : Str) (e : FB) : FE := fun en S => (r en S).bind fun r en S => (resolve r en S).bind fun d en S => match d with
  | .str z => (bD e en S).bind fun d en S => lift (metD (.str z) m [d]) en S
  | .dct _ => .bad
  | _ => .bad
/-! what is walked -/
def iPlain (e : FE) : FI := fun en S => (xV e en S).bind fun d en S => lift (itemsD d) en S
def iRange (args : List FE) : FI := fun en S => (vAll args en S).bind fun ds en S => lift (rangeD ds) en S
/-! targets of names -/
def gN (i : Nat) : D → En → Option En := fun d en => some (en.set i (.val d))
def gAll : List (D → En → Option En) → List D → En → Option En
  | [], [], en => some en
  | t :: ts, d :: ds, en => (t d en).bind fun en => gAll ts ds en
  | _, _, _ => none
def gTup (ts : List (D → En → Option En)) : D → En → Option En := fun d en => match d with
  | .tup ds => if ts.length = ds.length then gAll ts ds en else none
  | _ => none
/-! tests -/
def tE (f : FE) : FT := fun en S => (f en S).bind fun r en S => match r with
  | .val (.bl b) => .ok b en S
  | _ => .bad
def tTru (b : FB) : FT := fun en S => (bD b en S).bind fun d en S => lift (truD d) en S
def tNot' (t : FT) : FT := fun en S => (t en S).bind fun b en S => .ok (!b) en S
def tBool (op : BoolOp) : List FT → FT
  | [], _, _ => .bad
  | [e], en, S => (e en S).bind fun b en S => .ok b en S
  | e :: r, en, S => (e en S).bind fun b en S => match op, b with
    | .And, true => tBool op r en S
    | .Or, false => tBool op r en S
    | _, _ => .ok b en S
/-! comprehensions of one clause -/
def sTurns (vs : List Nat) (tg : D → En → Option En) (ifs : FT) (elt : List D → En → Stm → Out (List D)) : List D → List D → En → Stm → Out (List D)
  | [], acc, en, S => .ok acc en S
  | d :: r, acc, en, S => (match tg d (wipeE en vs) with
    | some en => (ifs en S).bind fun b en S => if b = true then (elt acc en S).bind fun acc en S => sTurns vs tg ifs elt r acc en S else sTurns vs tg ifs elt r acc en S
    | none => .bad)
def tYes' : FT := fun en S => .ok true en S
def addTo (e : FE) : List D → En → Stm → Out (List D) := fun acc en S => (xV e en S).bind fun d en S => if acc.length < sizeLine then .ok (acc ++ [d]) en S else .bad
def xLc (vs : List Nat) (it : FI) (tg : D → En → Option En) (ifs : FT) (e : FE) : FE := fun en S => ((it en S).bind fun xs en S =>
  if noOwn en vs = true then
    ((sTurns vs tg ifs (addTo e) xs [] en S).calm).bind fun ys en' S => .ok ys (restore en en' vs) S
  else .bad).bind fun ds en S => .ok (.own (.lst ds)) en S
/-- comprehensions of two clauses -/
def xLc2 (vs : List Nat) (it : FI) (tg : D → En → Option En) (ifs : FT) (it1 : FI) (vs1 : List Nat) (tg1 : D → En → Option En) (ifs1 : FT) (e : FE) : FE := fun en S => ((it en S).bind fun xs en S =>
  if noOwn en vs = true then
    ((sTurns vs tg ifs (fun acc en S => (it1 en S).bind fun ys en S => sTurns vs1 tg1 ifs1 (addTo e) ys acc en S) xs [] en S).calm).bind fun ys en' S => .ok ys (restore en en' vs) S
  else .bad).bind fun ds en S => .ok (.own (.lst ds)) en S
/-! statements -/
def sSeq : List FS → FS
  | [], en, S => .nx en S
  | s :: r, en, S => match s en S with
    | .nx en S => sSeq r en S
    | o => o
def sPass : FS := fun en S => .nx en S
def sBreak : FS := fun en S => .bk en S
def sContinue : FS := fun en S => .ct en S
def sRetN : FS := fun en S => .ret (.val .non) en S
def sRet (f : FE) : FS := fun en S => (f en S).toS fun r en S => .ret r en S
def sRetSlot (i : Nat) : FS := fun en S => match (match (en[i]? : Option Ent) with
    | some (.own _) => some i
    | _ => none : Option Nat) with
  | some i => (match (en[i]? : Option Ent) with
    | some (.own o) => .ret (.own o) (en.set i .none) S
    | _ => .bad)
  | none => (xSlot i en S).toS fun r en S => .ret r en S
def sExpr (f : FE) : FS := fun en S => (f en S).toS fun _ en S => .nx en S
def sSet (i : Nat) (f : FE) : FS := fun en S => (f en S).toS fun r en S => .nx (setV i r en) S
/-- a, b = e -/
def sAsg (tg : D → En → Option En) (f : FE) : FS := fun en S => (xV f en S).toS fun d en S => ((match tg d en with
    | some en => .ok () en S
    | none => .bad) : Out Unit).toS fun _ en S => .nx en S
/-- x[i] = e -/
def sPut (j : Nat) (i : FB) (f : FE) : FS := fun en S => (xV f en S).toS fun d en S => ((match (match (en[j]? : Option Ent) with
    | some (.own _) => some j
    | _ => none : Option Nat) with
  | some j => (match (en[j]? : Option Ent) with
    | some (.own (.lst _)) => (bD i en S).bind fun k en S => storeL j k d en S
    | some (.own (.dct _)) => (bD i en S).bind fun k en S => storeK j k d en S
    | _ => .bad)
  | none => .bad) : Out Unit).toS fun _ en S => .nx en S
def sIf (t : FT) (a b : FS) : FS := fun en S => (t en S).toS fun k en S => if k = true then a en S else b en S
def sFor (tg : D → En → Option En) (it : FI) (body : FS) : FS := fun en S => (it en S).toS fun xs en S => forF (fun d en S => match tg d en with
    | some en => body en S
    | none => .bad) xs en S
def sWhile (wf : Nat) (t : FT) (body : FS) : FS := fun en S => whileF (fun en S => match t en S with
  | .ok true en S => (body en S, true)
  | .ok false en S => (.nx en S, false)
  | .err C fs en S => (.err C fs en S, false)
  | .bad => (.bad, false)) wf en S
/-! built-ins of one operand, exceptions -/
def xB1 (b : B1) (e : FB) : FE := fun en S => (bD e en S).bind fun d en S => lift (b1D b d) en S
/-- sorted(e, key=..) -/
def xSortK (call : List D → Stm → CO) (e : FB) : FE := fun en S => (bD e en S).bind fun d en S => match d with
  | .lst xs => (match keysOf call S xs with
    | some ks => lift (sortKX ks xs) en S
    | none => .bad)
  | _ => .bad
/-- {k: v} -/
def xDict1 (k v : FE) : FE := fun en S => (xV k en S).bind fun a en S => (xV v en S).bind fun b en S => if simpleKey a = true then .ok (.own (.dct [(a, b)])) en S else .bad
/-- a field of the exception that slot i holds -/
def xFld (X : List (Str × List Str)) (i : Nat) (f : Str) : FE := fun en S => match (match (en[i]? : Option Ent) with
    | some (.exc C fs) => some (C, fs)
    | _ => none : Option (D × List (Str × D))) with
  | some (.glo C, fs) => (match lkS X C, lkS fs f with
    | some ps, some d => if f ∈ ps then .ok (.val d) en S else .bad
    | _, _ => .bad)
  | _ => .bad
/-- len(set(e)) -/
def xLenSet (e : FB) : FE := fun en S => (bD e en S).bind fun d en S => lift (lenSetD d) en S
/-- isinstance of the exception that slot i holds -/
def xIsE (T : Tb) (i : Nat) (t : Str) : FE := fun en S => match (match (en[i]? : Option Ent) with
    | some (.exc C fs) => some (C, fs)
    | _ => none : Option (D × List (Str × D))) with
  | some (.glo C, _) => if (lkS T.excs C).isSome = true ∧ isSubOf T (.glo C) t = true then .ok (.val (.bl true)) en S else .bad
  | some _ => .bad
  | none => .bad
/-- try: .. except (A, B, D): raise C(e) -/
def sTryH (T : Tb) (bd : FS) (ts : Str × Str × Str) (C : Str) (ps : List Str) (a : List FE) : FS := fun en S => match bd en S with
  | .err D fs en S => (match D with
    | .glo D => if (lkS T.excs D).isSome = true then (if raisesB T D ts = true then ((vAll a en S).toS fun ds en S => if ps.length = ds.length then .err (.glo C) (ps.zip ds) en S else .bad) else .err (.glo D) fs en S) else .bad
    | _ => .bad)
  | o => o
def sRaise (C : Str) (ps : List Str) (args : List FE) : FS := fun en S => (vAll args en S).toS fun ds en S => if ps.length = ds.length then .err (.glo C) (ps.zip ds) en S else .bad
def sClauses (T : Tb) (C : Str) (fs : List (Str × D)) : List (Str × Option Nat × FS) → FS
  | [], en, S => .err (.glo C) fs en S
  | (x, i, su) :: r, en, S => if isSubOf T (.glo C) x = true then sufEnd i (su (bindX i C fs en) S) else sClauses T C fs r en S
def sTry (T : Tb) (bd : FS) (hds : List (Str × Option Nat × FS)) : FS := fun en S => match bd en S with
  | .err C fs en S => (match C with
    | .glo C => if (lkS T.excs C).isSome = true then sClauses T C fs hds en S else .bad
    | _ => .bad)
  | o => o
theorem run_def {T : Tb} {wf k : Nat} {f : Fid} {D : DefI} {sh : CallT → FS} (hp : lkF T.prim f = none) (hd : lkF T.defs f = some D) (hs : ∀ (call : CallT) (make : Str → List PX.D → Stm → CO) (en : En) (S : Stm), body T wf call make D en S = sh call en S) {ds : List PX.D} {S : Stm} (hl : ds.length = D.ps.length) :
    (calls T wf (k + 1)).1 f ds S = CO.of (sh (calls T wf k).1 (startE D.N ds) S) := by
  show runFn T wf (calls T wf k).1 (calls T wf k).2 f ds S = _
  unfold runFn
  rw [hp, hd]
  simp only [if_pos hl, hs]
end PX

set_option Elab.async false
set_option linter.all false
set_option maxRecDepth 100000
/-! PxWp: running the resolved forms. -/
namespace PX
open PySem
section
variable {α β : Type} {en en' : En} {S S' : Stm}
@[simp] theorem bind_ok (a : α) (f : α → En → Stm → Out β) : (Out.ok a en S).bind f = f a en S := rfl
@[simp] theorem bind_bad (f : α → En → Stm → Out β) : (Out.bad : Out α).bind f = .bad := rfl
@[simp] theorem bind_err (C : D) (fs : List (Str × D)) (f : α → En → Stm → Out β) : (Out.err C fs en S : Out α).bind f = .err C fs en S := rfl
@[simp] theorem toS_ok (a : α) (f : α → En → Stm → SO) : (Out.ok a en S).toS f = f a en S := rfl
@[simp] theorem toS_bad (f : α → En → Stm → SO) : (Out.bad : Out α).toS f = .bad := rfl
@[simp] theorem toS_err (C : D) (fs : List (Str × D)) (f : α → En → Stm → SO) : (Out.err C fs en S : Out α).toS f = .err C fs en S := rfl
@[simp] theorem lift_some (a : α) : lift (some a) en S = .ok a en S := rfl
@[simp] theorem lift_none : lift (none : Option α) en S = .bad := rfl
@[simp] theorem calm_ok (a : α) : (Out.ok a en S).calm = .ok a en S := rfl
@[simp] theorem ov_val (d : D) : (OV.val d).d = d := rfl
@[simp] theorem ov_own (o : O) : (OV.own o).d = o.d := rfl
@[simp] theorem o_lst (xs : List D) : (O.lst xs).d = .lst xs := rfl
@[simp] theorem get_dat (d : D) : (Opd.dat d).get en = some d := rfl
@[simp] theorem get_slot' (i : Nat) : (Opd.slot i).get en = (en[i]?).bind entD := rfl
@[simp] theorem entD_val (d : D) : entD (.val d) = some d := rfl
@[simp] theorem entD_own (o : O) : entD (.own o) = some o.d := rfl
@[simp] theorem resolve_eq (o : Opd) : resolve o en S = lift (o.get en) en S := rfl
@[simp] theorem xVal_eq (d : D) : xVal d en S = .ok (.val d) en S := rfl
theorem xSlot_val {i : Nat} {d : D} (h : en[i]? = some (.val d)) : xSlot i en S = .ok (.val d) en S := by unfold xSlot; rw [h]
theorem xSlot_own {i : Nat} {o : O} (h : en[i]? = some (.own o)) : xSlot i en S = .ok (.val o.d) (frz en i) S := by unfold xSlot; rw [h]
theorem bSlot_val {i : Nat} {d : D} (h : en[i]? = some (.val d)) : bSlot i en S = .ok (.dat d) en S := by unfold bSlot xV xSlot; rw [h]; rfl
theorem bSlot_own {i : Nat} {o : O} (h : en[i]? = some (.own o)) : bSlot i en S = .ok (.slot i) en S := by unfold bSlot; rw [h]
@[simp] theorem bAll_nil : bAll [] en S = .ok [] en S := rfl
@[simp] theorem bAll_cons (e : FB) (r : List FB) : bAll (e :: r) en S = (e en S).bind fun o en S => (bAll r en S).bind fun os en S => .ok (o :: os) en S := rfl
@[simp] theorem kAll_nil : kAll [] en S = .ok [] en S := rfl
@[simp] theorem kAll_cons (x : Str) (e : FB) (r : List (Str × FB)) : kAll ((x, e) :: r) en S = (e en S).bind fun o en S => (kAll r en S).bind fun os en S => .ok ((x, o) :: os) en S := rfl
@[simp] theorem vAll_nil : vAll [] en S = .ok [] en S := rfl
@[simp] theorem vAll_cons (e : FE) (r : List FE) : vAll (e :: r) en S = (xV e en S).bind fun d en S => (vAll r en S).bind fun ds en S => .ok (d :: ds) en S := rfl
@[simp] theorem xV_eq (f : FE) : xV f en S = (f en S).bind fun r en S => .ok r.d en S := rfl
@[simp] theorem bE_eq (f : FE) : bE f en S = (xV f en S).bind fun d en S => .ok (.dat d) en S := rfl
@[simp] theorem bD_eq (b : FB) : bD b en S = (b en S).bind resolve := rfl
@[simp] theorem b2_eq (a b : FB) : b2 a b en S = (a en S).bind fun x en S => (b en S).bind fun y en S => (resolve x en S).bind fun d en S => (resolve y en S).bind fun e en S => .ok (d, e) en S := rfl
@[simp] theorem xBin_eq (op : Operator) (a b : FB) : xBin op a b en S = (b2 a b en S).bind fun p en S => lift (binD op p.1 p.2) en S := rfl
@[simp] theorem xNot_eq (b : FB) : xNot b en S = (bD b en S).bind fun d en S => (lift (truD d) en S).bind fun b en S => .ok (.val (.bl (!b))) en S := rfl
@[simp] theorem xCmp_eq (op : CmpOp) (a b : FB) : xCmp op a b en S = (b2 a b en S).bind fun p en S => (lift (cmpD op p.1 p.2) en S).bind fun b en S => .ok (.val (.bl b)) en S := rfl
@[simp] theorem xChain_eq (op op' : CmpOp) (a b d : FB) : xChain op op' a b d en S = (b2 a b en S).bind fun p en S =>
  (lift (cmpD op p.1 p.2) en S).bind fun k en S =>
    if k = true then (if p.2.imm = true then (bD d en S).bind fun z en S => (lift (cmpD op' p.2 z) en S).bind fun k en S => .ok (.val (.bl k)) en S else .bad) else .ok (.val (.bl false)) en S := rfl
@[simp] theorem xIf_eq (t : FT) (a b : FE) : xIf t a b en S = (t en S).bind fun k en S => if k = true then a en S else b en S := rfl
@[simp] theorem xList_eq (es : List FE) : xList es en S = (vAll es en S).bind fun ds en S => if ds.length ≤ sizeLine then .ok (.own (.lst ds)) en S else .bad := rfl
@[simp] theorem xTup_eq (es : List FE) : xTup es en S = (vAll es en S).bind fun ds en S => if ds.length ≤ sizeLine then .ok (.val (.tup ds)) en S else .bad := rfl
@[simp] theorem xIx_eq (a i : FB) : xIx a i en S = (a en S).bind fun x en S => (i en S).bind fun y en S => (resolve x en S).bind fun d en S => (resolve y en S).bind fun k en S => (lift (getD d k) en S).bind fun r en S => .ok (.val r) en S := rfl
@[simp] theorem xPart_none : xPart none en S = .ok none en S := rfl
@[simp] theorem xPart_some (e : FE) : xPart (some e) en S = (xV e en S).bind fun d en S => lift (partI d) en S := rfl
@[simp] theorem xCut_eq (a : FB) (lo hi : Option FE) : xCut a lo hi en S = (a en S).bind fun x en S => (xPart lo en S).bind fun l en S => (xPart hi en S).bind fun h en S => (resolve x en S).bind fun d en S => lift (cutOV d l h) en S := rfl
@[simp] theorem xRev_eq (a : FB) : xRev a en S = (bD a en S).bind fun d en S => lift (revOV d) en S := rfl
@[simp] theorem xLen_eq (e : FB) : xLen e en S = (e en S).bind fun o en S => (resolve o en S).bind fun d en S => (lift (lenD d) en S).bind fun k en S => .ok (.val (.int k)) en S := rfl
@[simp] theorem xStr_eq (r : FB) (m : Str) (e : FB) : xStr r m e en S = (r en S).bind fun r en S => (resolve r en S).bind fun d en S => match d with
  | .str z => (bD e en S).bind fun d en S => lift (metD (.str z) m [d]) en S
  | .dct _ => .bad
  | _ => .bad := rfl
@[simp] theorem xCall_eq (call : List D → Stm → CO) (ps : List Str) (args : List FB) (kws : List (Str × FB)) : xCall call ps args kws en S = (bAll args en S).bind fun os en S => (kAll kws en S).bind fun ks en S => match getAll en os, getAll en (ks.map (·.2)) with
  | some ds, some es => match bindA ps ds ((ks.map (·.1)).zip es) with
    | some as => callEnd (call as S) en (os ++ ks.map (·.2))
    | none => .bad
  | _, _ => .bad := rfl
@[simp] theorem tE_eq (f : FE) : tE f en S = (f en S).bind fun r en S => match r with
  | .val (.bl b) => .ok b en S
  | _ => .bad := rfl
@[simp] theorem tTru_eq (b : FB) : tTru b en S = (bD b en S).bind fun d en S => lift (truD d) en S := rfl
@[simp] theorem tNot_eq (t : FT) : tNot' t en S = (t en S).bind fun b en S => .ok (!b) en S := rfl
@[simp] theorem tYes_eq : tYes' en S = .ok true en S := rfl
@[simp] theorem tBool_one (op : BoolOp) (e : FT) : tBool op [e] en S = (e en S).bind fun b en S => .ok b en S := rfl
@[simp] theorem tBool_and (e f : FT) (r : List FT) : tBool .And (e :: f :: r) en S = (e en S).bind fun b en S => if b = true then tBool .And (f :: r) en S else .ok false en S := by
  show (e en S).bind _ = _
  cases e en S with
  | ok b en S => cases b <;> rfl
  | _ => rfl
@[simp] theorem tBool_or (e f : FT) (r : List FT) : tBool .Or (e :: f :: r) en S = (e en S).bind fun b en S => if b = true then .ok true en S else tBool .Or (f :: r) en S := by
  show (e en S).bind _ = _
  cases e en S with
  | ok b en S => cases b <;> rfl
  | _ => rfl
@[simp] theorem iPlain_eq (e : FE) : iPlain e en S = (xV e en S).bind fun d en S => lift (itemsD d) en S := rfl
@[simp] theorem iRange_eq (args : List FE) : iRange args en S = (vAll args en S).bind fun ds en S => lift (rangeD ds) en S := rfl
@[simp] theorem gN_eq (i : Nat) (d : D) : gN i d en = some (en.set i (.val d)) := rfl
@[simp] theorem getAll_nil : getAll en [] = some [] := rfl
@[simp] theorem getAll_cons (o : Opd) (r : List Opd) : getAll en (o :: r) = match o.get en, getAll en r with
  | some d, some ds => some (d :: ds)
  | _, _ => none := rfl
/-! operations -/
@[simp] theorem cmp_lt (a b : Int) : cmpD .Lt (.int a) (.int b) = some (decide (a < b)) := rfl
@[simp] theorem cmp_gt (a b : Int) : cmpD .Gt (.int a) (.int b) = some (decide (b < a)) := rfl
@[simp] theorem cmp_le (a b : Int) : cmpD .LtE (.int a) (.int b) = some (decide (a ≤ b)) := by
  show (ltD 60 (.int b) (.int a)).map (!·) = _
  simp only [ltD, Option.map]
  by_cases h : b < a
  · simp [h, show ¬ a ≤ b by omega]
  · simp [h, show a ≤ b by omega]
@[simp] theorem cmp_ge (a b : Int) : cmpD .GtE (.int a) (.int b) = some (decide (b ≤ a)) := by
  show (ltD 60 (.int a) (.int b)).map (!·) = _
  simp only [ltD, Option.map]
  by_cases h : a < b
  · simp [h, show ¬ b ≤ a by omega]
  · simp [h, show b ≤ a by omega]
@[simp] theorem cmp_eq_int (a b : Int) : cmpD .Eq (.int a) (.int b) = some (decide (a = b)) := by
  show some (decide (D.int a = D.int b)) = _
  simp
@[simp] theorem cmp_ne_int (a b : Int) : cmpD .NotEq (.int a) (.int b) = some (!decide (a = b)) := by
  show some (!decide (D.int a = D.int b)) = _
  simp
@[simp] theorem cmp_eq_str (a b : Str) : cmpD .Eq (.str a) (.str b) = some (decide (a = b)) := by
  show some (decide (D.str a = D.str b)) = _
  simp
@[simp] theorem cmp_ne_str (a b : Str) : cmpD .NotEq (.str a) (.str b) = some (!decide (a = b)) := by
  show some (!decide (D.str a = D.str b)) = _
  simp
@[simp] theorem cmp_eq_bl (a b : Bool) : cmpD .Eq (.bl a) (.bl b) = some (a == b) := by
  show some (decide (D.bl a = D.bl b)) = _
  cases a <;> cases b <;> simp
@[simp] theorem cmp_ne_bl (a b : Bool) : cmpD .NotEq (.bl a) (.bl b) = some (!(a == b)) := by
  show some (!decide (D.bl a = D.bl b)) = _
  cases a <;> cases b <;> simp
/-- a list compared with the empty one -/
theorem cmp_eq_nil (xs : List D) : cmpD .Eq (.lst xs) (.lst []) = some xs.isEmpty := by
  cases xs <;> rfl
theorem cmp_ne_nil (xs : List D) : cmpD .NotEq (.lst xs) (.lst []) = some (!xs.isEmpty) := by
  cases xs <;> rfl
theorem len_str (l : List Nat) (h : l.length ≤ sizeLine) : lenD (.str ⟨⟨l⟩⟩) = some l.length := by
  show (if l.length ≤ sizeLine then some l.length else none) = _
  rw [if_pos h]
theorem in_sign (c : Nat) (z : Str) : cmpD .In (.str ⟨#[c]⟩) (.str z) = some (decide (c ∈ z.cps.toList)) := rfl
theorem notin_sign (c : Nat) (z : Str) : cmpD .NotIn (.str ⟨#[c]⟩) (.str z) = some (!decide (c ∈ z.cps.toList)) := rfl
theorem get_str0 (c : Nat) (r : List Nat) (h : (c :: r).length ≤ sizeLine) : getD (.str ⟨⟨c :: r⟩⟩) (.int 0) = some (.str ⟨#[c]⟩) := by
  show (if (c :: r).length ≤ sizeLine then (L2.atI (c :: r) 0).map fun c => D.str ⟨#[c]⟩ else none) = _
  rw [if_pos h]
  have : L2.atI (c :: r) 0 = some c := by unfold L2.atI L2.ixN; simp
  rw [this]; rfl
theorem add_str (x y : Str) (h : x.length + y.length ≤ sizeLine) : binD .Add (.str x) (.str y) = some (.val (.str (x ++ y))) := by
  simp only [binD, if_pos h]
theorem add_tup (x y : List D) (h : x.length + y.length ≤ sizeLine) : binD .Add (.tup x) (.tup y) = some (.val (.tup (x ++ y))) := by
  simp only [binD, if_pos h]
theorem add_lst (x y : List D) (h : x.length + y.length ≤ sizeLine) : binD .Add (.lst x) (.lst y) = some (.own (.lst (x ++ y))) := by
  simp only [binD, if_pos h]
@[simp] theorem add_int (x y : Int) : binD .Add (.int x) (.int y) = some (.val (.int (x + y))) := rfl
@[simp] theorem sub_int (x y : Int) : binD .Sub (.int x) (.int y) = some (.val (.int (x - y))) := rfl
@[simp] theorem imm_int (i : Int) : (D.int i).imm = true := rfl
@[simp] theorem imm_str (i : Str) : (D.str i).imm = true := rfl
@[simp] theorem imm_bl (i : Bool) : (D.bl i).imm = true := rfl
/-! statements -/
@[simp] theorem seq_nil : sSeq [] en S = .nx en S := rfl
theorem seq_nx {s : FS} {r : List FS} (h : s en S = .nx en' S') : sSeq (s :: r) en S = sSeq r en' S' := by
  show (match s en S with | .nx en S => sSeq r en S | o => o) = _
  rw [h]
theorem seq_ret {s : FS} {r : List FS} {v : OV} (h : s en S = .ret v en' S') : sSeq (s :: r) en S = .ret v en' S' := by
  show (match s en S with | .nx en S => sSeq r en S | o => o) = _
  rw [h]
theorem seq_err {s : FS} {r : List FS} {C : D} {fs : List (Str × D)} (h : s en S = .err C fs en' S') : sSeq (s :: r) en S = .err C fs en' S' := by
  show (match s en S with | .nx en S => sSeq r en S | o => o) = _
  rw [h]
@[simp] theorem sSet_eq (i : Nat) (f : FE) : sSet i f en S = (f en S).toS fun r en S => .nx (setV i r en) S := rfl
@[simp] theorem sRet_eq (f : FE) : sRet f en S = (f en S).toS fun r en S => .ret r en S := rfl
@[simp] theorem sExpr_eq (f : FE) : sExpr f en S = (f en S).toS fun _ en S => .nx en S := rfl
theorem sIf_t {t : FT} {a b : FS} (h : t en S = .ok true en' S') : sIf t a b en S = a en' S' := by
  show (t en S).toS _ = _
  rw [h]; rfl
theorem sIf_f {t : FT} {a b : FS} (h : t en S = .ok false en' S') : sIf t a b en S = b en' S' := by
  show (t en S).toS _ = _
  rw [h]; rfl
theorem sIf_b {t : FT} {a b : FS} {k : Bool} (h : t en S = .ok k en' S') : sIf t a b en S = if k = true then a en' S' else b en' S' := by
  show (t en S).toS _ = _
  rw [h]; rfl
def andThen (o : SO) (r : List FS) : SO := match o with
  | .nx en S => sSeq r en S
  | o => o
@[simp] theorem then_nx (r : List FS) : andThen (.nx en S) r = sSeq r en S := rfl
@[simp] theorem then_ret (v : OV) (r : List FS) : andThen (.ret v en S) r = .ret v en S := rfl
@[simp] theorem then_err (C : D) (fs : List (Str × D)) (r : List FS) : andThen (.err C fs en S) r = .err C fs en S := rfl
@[simp] theorem then_bk (r : List FS) : andThen (.bk en S) r = .bk en S := rfl
@[simp] theorem then_ct (r : List FS) : andThen (.ct en S) r = .ct en S := rfl
theorem seq_cons (s : FS) (r : List FS) : sSeq (s :: r) en S = andThen (s en S) r := rfl
theorem seq_if_t {t : FT} {a b : FS} {r : List FS} (h : t en S = .ok true en' S') : sSeq (sIf t a b :: r) en S = andThen (a en' S') r := by rw [seq_cons, sIf_t h]
theorem seq_if_f {t : FT} {a b : FS} {r : List FS} (h : t en S = .ok false en' S') : sSeq (sIf t a b :: r) en S = andThen (b en' S') r := by rw [seq_cons, sIf_f h]
theorem seq_set {i : Nat} {f : FE} {r : List FS} {v : OV} (h : f en S = .ok v en' S') : sSeq (sSet i f :: r) en S = sSeq r (setV i v en') S' := by rw [seq_cons, sSet_eq, h]; rfl
theorem seq_expr {f : FE} {r : List FS} {v : OV} (h : f en S = .ok v en' S') : sSeq (sExpr f :: r) en S = sSeq r en' S' := by rw [seq_cons, sExpr_eq, h]; rfl
theorem seq_retv {f : FE} {r : List FS} {v : OV} (h : f en S = .ok v en' S') : sSeq (sRet f :: r) en S = .ret v en' S' := by rw [seq_cons, sRet_eq, h]; rfl
@[simp] theorem co_ret (v : OV) : CO.of (.ret v en S) = .ok v S := rfl
@[simp] theorem co_nx : CO.of (.nx en S) = .ok (.val .non) S := rfl
@[simp] theorem co_err (C : D) (fs : List (Str × D)) : CO.of (.err C fs en S) = .err C fs S := rfl
@[simp] theorem setV_val (i : Nat) (d : D) : setV i (.val d) en = en.set i (.val d) := rfl
@[simp] theorem setV_own (i : Nat) (o : O) : setV i (.own o) en = en.set i (.own o) := rfl
/-- a for by an invariant: the state before turn i -/
theorem for_inv {tg : D → En → Option En} {it : FI} {body : FS} {xs : List D} {R : SO → Prop} (I : Nat → En → Stm → Prop) (h0 : it en S = .ok xs en' S') (hI : I 0 en' S')
    (hs : ∀ i d en S, xs[i]? = some d → I i en S → ∃ en1, tg d en = some en1 ∧ (match body en1 S with
      | .nx en S => I (i + 1) en S
      | .ct en S => I (i + 1) en S
      | .bk en S => R (.nx en S)
      | o => R o)) (he : ∀ en S, I xs.length en S → R (.nx en S)) : R (sFor tg it body en S) := by
  show R ((it en S).toS _)
  rw [h0]
  show R (forF _ xs en' S')
  have key : ∀ (ys : List D) (i : Nat) (en : En) (S : Stm), xs.drop i = ys → i ≤ xs.length → I i en S → R (forF (fun d en S => match tg d en with
      | some en => body en S
      | none => .bad) ys en S) := by
    intro ys
    induction ys with
    | nil =>
      intro i en S hd hi h
      have : i = xs.length := by
        have := congrArg List.length hd
        simp at this; omega
      subst this
      exact he _ _ h
    | cons d ys ih =>
      intro i en S hd hi h
      have hi' : i < xs.length := by
        have := congrArg List.length hd
        simp at this; omega
      have hx : xs[i]? = some d := by
        have := List.drop_eq_getElem_cons hi'
        rw [hd] at this
        injection this with a b
        rw [List.getElem?_eq_getElem hi', a]
      have hd' : xs.drop (i + 1) = ys := by
        have := List.drop_eq_getElem_cons hi'
        rw [hd] at this
        injection this with a b
        exact b.symm
      obtain ⟨en1, h1, h2⟩ := hs i d en S hx h
      simp only [forF, h1]
      revert h2
      cases body en1 S with
      | nx en S => exact fun h2 => ih (i + 1) en S hd' (by omega) h2
      | ct en S => exact fun h2 => ih (i + 1) en S hd' (by omega) h2
      | bk en S => exact id
      | ret => exact id
      | err => exact id
      | bad => exact id
  exact key xs 0 en' S' rfl (by omega) hI
/-- a for, then what follows it -/
theorem seq_for {tg : D → En → Option En} {it : FI} {body : FS} {xs : List D} {r : List FS} {R : SO → Prop} (I : Nat → En → Stm → Prop) (h0 : it en S = .ok xs en' S') (hI : I 0 en' S')
    (hs : ∀ i d en S, xs[i]? = some d → I i en S → ∃ en1, tg d en = some en1 ∧ (match body en1 S with
      | .nx en S => I (i + 1) en S
      | .ct en S => I (i + 1) en S
      | .bk en S => R (sSeq r en S)
      | o => R o)) (he : ∀ en S, I xs.length en S → R (sSeq r en S)) : R (sSeq (sFor tg it body :: r) en S) := by
  show R (match sFor tg it body en S with | .nx en S => sSeq r en S | o => o)
  refine for_inv (R := fun o => R (match o with | .nx en S => sSeq r en S | o => o)) I h0 hI ?_ he
  intro i d en S hx h
  obtain ⟨en1, h1, h2⟩ := hs i d en S hx h
  refine ⟨en1, h1, ?_⟩
  revert h2
  cases body en1 S <;> exact id
/-- the turns of a comprehension by an invariant over the items made so far -/
theorem turns_inv {vs : List Nat} {tg : D → En → Option En} {ifs : FT} {elt : FE} {xs : List D} (I : Nat → List D → En → Stm → Prop) (hI : I 0 [] en S)
    (hs : ∀ i d acc en S, xs[i]? = some d → I i acc en S → ∃ en1 b en2 S2, tg d (wipeE en vs) = some en1 ∧ ifs en1 S = .ok b en2 S2 ∧
      if b = true then ∃ r en3 S3, elt en2 S2 = .ok r en3 S3 ∧ acc.length < sizeLine ∧ I (i + 1) (acc ++ [r.d]) en3 S3 else I (i + 1) acc en2 S2) :
    ∃ ys en' S', sTurns vs tg ifs (addTo elt) xs [] en S = .ok ys en' S' ∧ I xs.length ys en' S' := by
  have key : ∀ (ys : List D) (i : Nat) (acc : List D) (en : En) (S : Stm), xs.drop i = ys → i ≤ xs.length → I i acc en S → ∃ zs en' S', sTurns vs tg ifs (addTo elt) ys acc en S = .ok zs en' S' ∧ I xs.length zs en' S' := by
    intro ys
    induction ys with
    | nil =>
      intro i acc en S hd hi h
      have : i = xs.length := by
        have := congrArg List.length hd
        simp at this; omega
      subst this
      exact ⟨acc, en, S, rfl, h⟩
    | cons d ys ih =>
      intro i acc en S hd hi h
      have hi' : i < xs.length := by
        have := congrArg List.length hd
        simp at this; omega
      have hx : xs[i]? = some d := by
        have := List.drop_eq_getElem_cons hi'
        rw [hd] at this
        injection this with a b
        rw [List.getElem?_eq_getElem hi', a]
      have hd' : xs.drop (i + 1) = ys := by
        have := List.drop_eq_getElem_cons hi'
        rw [hd] at this
        injection this with a b
        exact b.symm
      obtain ⟨en1, b, en2, S2, h1, h2, h3⟩ := hs i d acc en S hx h
      simp only [sTurns, h1, h2, bind_ok]
      cases b with
      | false =>
        simp only [Bool.false_eq_true, if_false] at h3 ⊢
        exact ih (i + 1) acc en2 S2 hd' (by omega) h3
      | true =>
        simp only [if_true] at h3 ⊢
        obtain ⟨r, en3, S3, h4, h5, h6⟩ := h3
        have e : addTo elt acc en2 S2 = .ok (acc ++ [r.d]) en3 S3 := by
          show (xV elt en2 S2).bind _ = _
          simp only [xV_eq, h4, bind_ok, if_pos h5]
        rw [e]
        exact ih (i + 1) _ en3 S3 hd' (by omega) h6
  exact key xs 0 [] en S rfl (by omega) hI
theorem xLc_of {vs : List Nat} {it : FI} {tg : D → En → Option En} {ifs : FT} {e : FE} {xs ys : List D} {en1 en2 : En} {S1 S2 : Stm} (h0 : it en S = .ok xs en1 S1) (hn : noOwn en1 vs = true) (ht : sTurns vs tg ifs (addTo e) xs [] en1 S1 = .ok ys en2 S2) :
    xLc vs it tg ifs e en S = .ok (.own (.lst ys)) (restore en1 en2 vs) S2 := by
  unfold xLc
  rw [h0]
  simp only [bind_ok, if_pos hn, ht, calm_ok]
end
end PX

set_option Elab.async false
set_option linter.all false
set_option maxRecDepth 100000
/-! PxWp2: further lemmas to run the resolved forms. -/
namespace PX
open PySem
/-- data that is compared, to a depth -/
def okD : Nat → D → Bool
  | 0, _ => false
  | n + 1, d => match d with
    | .tup xs => xs.all (okD n)
    | .lst xs => xs.all (okD n)
    | .non => true
    | .bl _ => true
    | .int _ => true
    | .str _ => true
    | _ => false
theorem allM_self {f : D → D → Option Bool} : ∀ xs : List D, (∀ x ∈ xs, f x x = some true) → allM f xs xs = some true
  | [], _ => rfl
  | x :: r, h => by
    simp only [allM, h x (List.mem_cons_self ..), allM_self r fun y hy => h y (List.mem_cons_of_mem _ hy), Bool.and_self]
theorem allZ_self {f : D → D → Option Bool} : ∀ xs : List D, (∀ x ∈ xs, f x x = some true) → allZ f xs xs = some true
  | [], _ => rfl
  | x :: r, h => by
    simp only [allZ, h x (List.mem_cons_self ..), allZ_self r fun y hy => h y (List.mem_cons_of_mem _ hy), Bool.and_self]
theorem eqD_self : ∀ (n : Nat) (d : D), okD n d = true → eqD n d d = some true
  | 0, _, h => by cases h
  | n + 1, d, h => by
    cases d with
    | tup xs =>
      have h : xs.all (okD n) = true := h
      rw [List.all_eq_true] at h
      show (allZ (eqD n) xs xs).map _ = _
      rw [allZ_self xs fun x hx => eqD_self n x (h x hx)]
      simp
    | lst xs =>
      have h : xs.all (okD n) = true := h
      rw [List.all_eq_true] at h
      show (if xs.length = xs.length then allM (eqD n) xs xs else some false) = _
      rw [if_pos rfl, allM_self xs fun x hx => eqD_self n x (h x hx)]
    | non => show some (decide (D.non = D.non)) = _; simp
    | bl b => show some (decide (D.bl b = D.bl b)) = _; simp
    | int i => show some (decide (D.int i = D.int i)) = _; simp
    | str x => show some (decide (D.str x = D.str x)) = _; simp
    | _ => cases h
theorem cmp_eq_self {d : D} (h : okD 60 d = true) : cmpD .Eq d d = some true := eqD_self 60 d h
theorem cmp_ne_self {d : D} (h : okD 60 d = true) : cmpD .NotEq d d = some false := by
  have e : cmpD .NotEq d d = (eqv d d).map (!·) := by cases d <;> first | rfl | cases h
  rw [e]
  unfold eqv
  rw [eqD_self 60 d h]; rfl
theorem okD_mono : ∀ {n m : Nat} {d : D}, n ≤ m → okD n d = true → okD m d = true
  | 0, _, _, _, h => by cases h
  | n + 1, 0, _, hle, _ => by omega
  | n + 1, m + 1, d, hle, h => by
    cases d with
    | tup xs =>
      have h : xs.all (okD n) = true := h
      show xs.all (okD m) = true
      rw [List.all_eq_true] at h ⊢
      exact fun x hx => okD_mono (by omega) (h x hx)
    | lst xs =>
      have h : xs.all (okD n) = true := h
      show xs.all (okD m) = true
      rw [List.all_eq_true] at h ⊢
      exact fun x hx => okD_mono (by omega) (h x hx)
    | non => rfl
    | bl => rfl
    | int => rfl
    | str => rfl
    | _ => cases h
/-- an item of any such kind compared with a text -/
def isS (x : Str) : D → Bool
  | .str y => decide (y = x)
  | _ => false
theorem eq_str : ∀ {d : D} (x : Str), okD 60 d = true → eqv d (.str x) = some (isS x d)
  | .non, x, _ => by show some (decide (D.non = D.str x)) = _; simp [isS]
  | .bl b, x, _ => by show some (decide (D.bl b = D.str x)) = _; simp [isS]
  | .int i, x, _ => by show some (decide (D.int i = D.str x)) = _; simp [isS]
  | .str y, x, _ => by show some (decide (D.str y = D.str x)) = _; simp [isS]
  | .tup ys, x, _ => by show some (decide (D.tup ys = D.str x)) = _; simp [isS]
  | .lst ys, x, _ => by show some (decide (D.lst ys = D.str x)) = _; simp [isS]
theorem go_str (x : Str) : ∀ ds : List D, ds.all (okD 60) = true → inD.go (.str x) ds = some (ds.any (isS x))
  | [], _ => rfl
  | d :: r, h => by
    simp only [List.all_cons, Bool.and_eq_true] at h
    simp only [inD.go, eq_str x h.1, go_str x r h.2, List.any_cons]
theorem in_tup (x : Str) {ds : List D} (h : ds.all (okD 60) = true) : cmpD .In (.str x) (.tup ds) = some (ds.any (isS x)) := go_str x ds h
theorem in_lst (x : Str) {ds : List D} (h : ds.all (okD 60) = true) : cmpD .In (.str x) (.lst ds) = some (ds.any (isS x)) := go_str x ds h
theorem notin_tup (x : Str) {ds : List D} (h : ds.all (okD 60) = true) : cmpD .NotIn (.str x) (.tup ds) = some (!ds.any (isS x)) := by
  show (inD.go (.str x) ds).map _ = _
  rw [go_str x ds h]; rfl
theorem notin_lst (x : Str) {ds : List D} (h : ds.all (okD 60) = true) : cmpD .NotIn (.str x) (.lst ds) = some (!ds.any (isS x)) := by
  show (inD.go (.str x) ds).map _ = _
  rw [go_str x ds h]; rfl
/-- names as data -/
def nm (xs : List Str) : List D := xs.map D.str
theorem nm_ok (xs : List Str) : ∀ n, (nm xs).all (okD (n + 1)) = true := by
  intro n
  rw [List.all_eq_true]
  intro d hd
  obtain ⟨x, _, rfl⟩ := List.mem_map.mp hd
  rfl
theorem nm_any (x : Str) (xs : List Str) : (nm xs).any (isS x) = decide (x ∈ xs) := by
  induction xs with
  | nil => rfl
  | cons y r ih =>
    show (isS x (.str y) || (nm r).any (isS x)) = _
    rw [ih]
    by_cases h : y = x
    · subst h; simp [isS]
    · have : ¬ x = y := fun e => h e.symm
      simp [isS, h, this]
section
variable {en en' : En} {S S' : Stm}
@[simp] theorem xB1_eq (b : B1) (e : FB) : xB1 b e en S = (bD e en S).bind fun d en S => lift (b1D b d) en S := rfl
@[simp] theorem sRaise_eq (C : Str) (ps : List Str) (args : List FE) : sRaise C ps args en S = (vAll args en S).toS fun ds en S => if ps.length = ds.length then .err (.glo C) (ps.zip ds) en S else .bad := rfl
theorem sTry_ok {T : Tb} {bd : FS} {hds : List (Str × Option Nat × FS)} {v : OV} (h : bd en S = .ret v en' S') : sTry T bd hds en S = .ret v en' S' := by
  unfold sTry; rw [h]
theorem sTry_err {T : Tb} {bd : FS} {hds : List (Str × Option Nat × FS)} {C : Str} {fs : List (Str × D)} (h : bd en S = .err (.glo C) fs en' S') (hC : (lkS T.excs C).isSome = true) : sTry T bd hds en S = sClauses T C fs hds en' S' := by
  unfold sTry; rw [h]
  show (if _ then _ else _) = _
  rw [if_pos hC]
theorem cl_yes {T : Tb} {C : Str} {fs : List (Str × D)} {x : Str} {i : Option Nat} {su : FS} {r : List (Str × Option Nat × FS)} (h : isSubOf T (.glo C) x = true) : sClauses T C fs ((x, i, su) :: r) en S = sufEnd i (su (bindX i C fs en) S) := by
  show (if _ then _ else _) = _
  rw [if_pos h]
theorem cl_no {T : Tb} {C : Str} {fs : List (Str × D)} {x : Str} {i : Option Nat} {su : FS} {r : List (Str × Option Nat × FS)} (h : isSubOf T (.glo C) x = false) : sClauses T C fs ((x, i, su) :: r) en S = sClauses T C fs r en S := by
  show (if _ then _ else _) = _
  rw [if_neg (by rw [h]; simp)]
theorem xFld_of {X : List (Str × List Str)} {i : Nat} {f C : Str} {fs : List (Str × D)} {ps : List Str} {d : D} (h : en[i]? = some (.exc (.glo C) fs)) (h1 : lkS X C = some ps) (h2 : lkS fs f = some d) (h3 : f ∈ ps) : xFld X i f en S = .ok (.val d) en S := by
  unfold xFld; rw [h]
  show (match lkS X C, lkS fs f with | some ps, some d => _ | _, _ => _) = _
  rw [h1, h2]
  show (if _ then _ else _) = _
  rw [if_pos h3]
end
/-! ### sorted -/
theorem encAll_map (xs : List D) : encAll xs = xs.map encD := by
  induction xs with
  | nil => rfl
  | cons x r ih => simp only [encAll, ih, List.map_cons]
theorem enc_nm (xs : List Str) : encAll (nm xs) = xs.map PyData.str := by
  rw [encAll_map]
  unfold nm
  rw [List.map_map]
  rfl
theorem alike_strs : ∀ xs ys : List Str, PySem.W.alikeAll (xs.map PyData.str) (ys.map PyData.str) = true
  | [], _ => by simp [PySem.W.alikeAll]
  | _ :: _, [] => by simp [PySem.W.alikeAll]
  | x :: xs, y :: ys => by
    show PySem.W.alikeAll (.str x :: xs.map PyData.str) (.str y :: ys.map PyData.str) = true
    rw [PySem.W.alikeAll, alike_strs xs ys]
    simp [PySem.W.alike]
theorem depth_strs : ∀ xs : List Str, PyData.depthAll (xs.map PyData.str) = 0
  | [] => by simp [PyData.depthAll]
  | x :: xs => by
    show PyData.depthAll (.str x :: xs.map PyData.str) = 0
    rw [PyData.depthAll, depth_strs xs]
    simp [PyData.depth]
/-- texts may be sorted -/
theorem sort_nm (xs : List Str) (h : xs.length ≤ sizeLine) : sortX (nm xs) = some (.own (.lst ((nm xs).mergeSort leE))) := by
  unfold sortX
  rw [if_pos]
  have e : (nm xs).map encD = xs.map PyData.str := by rw [← encAll_map, enc_nm]
  rw [e]
  simp only [sortOk, Bool.and_eq_true, Bool.or_eq_true, List.all_eq_true, decide_eq_true_eq]
  refine ⟨⟨⟨?_, .inr ?_⟩, ?_⟩, by simpa using h⟩
  · intro a ha b hb
    obtain ⟨x, _, rfl⟩ := List.mem_map.mp ha
    obtain ⟨y, _, rfl⟩ := List.mem_map.mp hb
    simp [PySem.W.alike]
  · intro a ha
    obtain ⟨x, _, rfl⟩ := List.mem_map.mp ha
    rfl
  · intro a ha
    obtain ⟨x, _, rfl⟩ := List.mem_map.mp ha
    simp [PyData.depth]
/-- the key of a menu: its length, itself -/
def rankD (xs : List Str) : D := .tup [.int (xs.length : Nat), .tup (nm xs)]
theorem rank_ok (xss : List (List Str)) (h : xss.length ≤ sizeLine) : sortOk ((xss.map rankD).map encD) = true := by
  have e : ∀ xs, encD (rankD xs) = .tuple [.int (xs.length : Nat), .tuple (xs.map PyData.str)] := by
    intro xs
    simp only [rankD, encD, encAll, enc_nm]
  simp only [sortOk, Bool.and_eq_true, Bool.or_eq_true, List.all_eq_true, decide_eq_true_eq]
  refine ⟨⟨⟨?_, .inl ?_⟩, ?_⟩, by simpa using h⟩
  · intro a ha b hb
    obtain ⟨x, hx, rfl⟩ := List.mem_map.mp ha
    obtain ⟨y, hy, rfl⟩ := List.mem_map.mp hb
    obtain ⟨x, _, rfl⟩ := List.mem_map.mp hx
    obtain ⟨y, _, rfl⟩ := List.mem_map.mp hy
    rw [e, e]
    simp [PySem.W.alike, PySem.W.alikeAll, alike_strs]
  · intro a ha
    obtain ⟨x, hx, rfl⟩ := List.mem_map.mp ha
    obtain ⟨x, _, rfl⟩ := List.mem_map.mp hx
    rw [e]; rfl
  · intro a ha
    obtain ⟨x, hx, rfl⟩ := List.mem_map.mp ha
    obtain ⟨x, _, rfl⟩ := List.mem_map.mp hx
    rw [e]
    simp [PyData.depth, PyData.depthAll, depth_strs]
/-- menus in order -/
def inOrder (xss : List (List Str)) : List (List Str) := xss.mergeSort fun a b => leE (rankD a) (rankD b)
abbrev tupD (xs : List Str) : D := .tup (nm xs)
theorem rank_sort (xss : List (List Str)) : (xss.map rankD).mergeSort leE = (inOrder xss).map rankD := by
  unfold inOrder
  rw [List.map_mergeSort (s := leE)]
  intro a _ b _; rfl
theorem key_sort (xss : List (List Str)) : ((((xss.map rankD).zip (xss.map tupD)).mergeSort (PySem.W.dataLe false fun p => encD p.1)).map (·.2)) = (inOrder xss).map tupD := by
  have e : (xss.map rankD).zip (xss.map tupD) = xss.map fun x => (rankD x, tupD x) := by
    induction xss with
    | nil => rfl
    | cons x r ih => simp only [List.map_cons, List.zip_cons_cons, ih]
  rw [e]
  unfold inOrder
  rw [← List.map_mergeSort (r := fun a b => leE (rankD a) (rankD b)) (s := PySem.W.dataLe false fun p : D × D => encD p.1) (f := fun x => (rankD x, tupD x)), List.map_map]
  · rfl
  · intro a _ b _; rfl
/-! ### comprehensions that change nothing -/
theorem set_self {en : En} {j : Nat} {e : Ent} (h : en[j]? = some e) : en.set j e = en := by
  apply List.ext_getElem?
  intro i
  by_cases q : i = j
  · subst q
    rw [List.getElem?_set_self (List.getElem?_eq_some_iff.mp h).1, h]
  · rw [List.getElem?_set_ne (Ne.symm q)]
theorem lc_pure' {en0 en : En} {S0 S : Stm} {j : Nat} {it : FI} {ifs : FT} {e : FE} {xs : List D} (p : D → Bool) (f : D → D) (h0 : it en0 S0 = .ok xs en S) (hn : noOwn en [j] = true) (hj : j < en.length) (hlen : xs.length ≤ sizeLine)
    (ht : ∀ d ∈ xs, ifs (en.set j (.val d)) S = .ok (p d) (en.set j (.val d)) S) (he : ∀ d ∈ xs, p d = true → ∃ r, e (en.set j (.val d)) S = .ok r (en.set j (.val d)) S ∧ r.d = f d) :
    xLc [j] it (gN j) ifs e en0 S0 = .ok (.own (.lst ((xs.filter p).map f))) en S := by
  obtain ⟨e0, h00⟩ : ∃ e0, en[j]? = some e0 := ⟨_, List.getElem?_eq_getElem hj⟩
  refine Exists.elim (turns_inv (vs := [j]) (tg := gN j) (ifs := ifs) (elt := e) (xs := xs) (S := S) (fun i acc en1 S1 => S1 = S ∧ acc = ((xs.take i).filter p).map f ∧ ∃ x, en1 = en.set j x) (en := en) ⟨rfl, rfl, e0, (set_self h00).symm⟩ ?_) ?_
  · rintro i d acc en1 S1 hd ⟨rfl, ha, x, rfl⟩
    have hm : d ∈ xs := List.mem_of_getElem? hd
    have tk : xs.take (i + 1) = xs.take i ++ [d] := by rw [List.take_add_one, hd]; rfl
    have hi : i < xs.length := (List.getElem?_eq_some_iff.mp hd).1
    have et : gN j d (wipeE (en.set j x) [j]) = some (en.set j (.val d)) := by
      show some (((en.set j x).set j .none).set j (.val d)) = _
      rw [List.set_set, List.set_set]
    refine ⟨en.set j (.val d), p d, en.set j (.val d), S1, et, ht d hm, ?_⟩
    cases hp : p d with
    | false => exact ⟨rfl, by rw [tk, List.filter_append, ha]; simp [hp], _, rfl⟩
    | true =>
      obtain ⟨r, hr, hf⟩ := he d hm hp
      refine ⟨r, _, _, hr, ?_, rfl, by rw [tk, List.filter_append, ha, hf]; simp [hp], _, rfl⟩
      have := List.length_filter_le p (xs.take i)
      rw [ha, List.length_map]
      rw [List.length_take] at this
      omega
  · rintro ys ⟨en', S', hts, rfl, hys, x, rfl⟩
    rw [xLc_of h0 hn hts]
    have e2 : restore en (en.set j x) [j] = en := by
      show (en.set j x).set j ((en[j]?).getD .none) = en
      rw [List.set_set, h00]
      exact set_self h00
    rw [e2, hys, List.take_length]
theorem lc_pure {en : En} {S : Stm} {j : Nat} {it : FI} {ifs : FT} {e : FE} {xs : List D} (p : D → Bool) (f : D → D) (h0 : it en S = .ok xs en S) (hn : noOwn en [j] = true) (hj : j < en.length) (hlen : xs.length ≤ sizeLine)
    (ht : ∀ d ∈ xs, ifs (en.set j (.val d)) S = .ok (p d) (en.set j (.val d)) S) (he : ∀ d ∈ xs, p d = true → ∃ r, e (en.set j (.val d)) S = .ok r (en.set j (.val d)) S ∧ r.d = f d) :
    xLc [j] it (gN j) ifs e en S = .ok (.own (.lst ((xs.filter p).map f))) en S := lc_pure' p f h0 hn hj hlen ht he
/-- .. every item -/
theorem lc_all {en0 en : En} {S0 S : Stm} {j : Nat} {it : FI} {e : FE} {xs : List D} (f : D → D) (h0 : it en0 S0 = .ok xs en S) (hn : noOwn en [j] = true) (hj : j < en.length) (hlen : xs.length ≤ sizeLine)
    (he : ∀ d ∈ xs, ∃ r, e (en.set j (.val d)) S = .ok r (en.set j (.val d)) S ∧ r.d = f d) : xLc [j] it (gN j) tYes' e en0 S0 = .ok (.own (.lst (xs.map f))) en S := by
  have := lc_pure' (ifs := tYes') (fun _ => true) f h0 hn hj hlen (fun _ _ => rfl) (fun d hd _ => he d hd)
  have e : xs.filter (fun _ => true) = xs := by simp
  rw [e] at this
  exact this
/-- one operand that is data -/
theorem call1 {call : List D → Stm → CO} {p : Str} {b : FB} {en en1 : En} {S S1 : Stm} {d : D} (hb : b en S = .ok (.dat d) en1 S1) : xCall call [p] [b] [] en S = callEnd (call [d] S1) en1 [.dat d] := by
  simp only [xCall_eq, bAll_cons, bAll_nil, hb, bind_ok, kAll_nil, getAll_cons, getAll_nil, get_dat, List.map_nil, List.append_nil, List.zip_nil_left]
  have h : bindA (α := D) [p] [d] [] = some [d] := by simp [bindA, bindB, slotsOfCall, kwOk, List.lookup]
  rw [h]
theorem call1k {call : List D → Stm → CO} {p : Str} {b : FB} {en en1 : En} {S S1 : Stm} {d : D} (hb : b en S = .ok (.dat d) en1 S1) : xCall call [p] [] [(p, b)] en S = callEnd (call [d] S1) en1 [.dat d] := by
  simp only [xCall_eq, bAll_nil, hb, bind_ok, kAll_nil, kAll_cons, getAll_cons, getAll_nil, get_dat, List.map_cons, List.map_nil, List.append_nil, List.nil_append]
  have h : bindA (α := D) [p] [] (List.zip [p] [d]) = some [d] := by simp [bindA, bindB, slotsOfCall, kwOk, List.lookup]
  rw [h]
theorem end_ok {r : OV} {S : Stm} {en : En} {os : List Opd} (h : lent os = []) : callEnd (.ok r S) en os = .ok r en S := by
  show (if r.d.imm = true then Out.ok r en S else .ok r (frzAll en (lent os)) S) = _
  rw [h]
  by_cases q : r.d.imm = true
  · rw [if_pos q]
  · rw [if_neg q]; rfl
theorem end_err {C : D} {fs : List (Str × D)} {S : Stm} {en : En} {os : List Opd} (h : lent os = []) : callEnd (.err C fs S) en os = .err C fs en S := by
  show Out.err C fs (frzAll en (lent os)) S = _
  rw [h]; rfl
theorem lc_yes {en : En} {S : Stm} : ∀ d : D, ∀ j : Nat, tYes' (en.set j (.val d)) S = .ok true (en.set j (.val d)) S := fun _ _ => rfl
theorem filter_yes (xs : List D) : xs.filter (fun _ => true) = xs := by simp
/-! ### two operands -/
theorem call2 {call : List D → Stm → CO} {p q : Str} (hpq : p ≠ q) {b c : FB} {en en1 en2 : En} {S S1 S2 : Stm} {d e : D} (hb : b en S = .ok (.dat d) en1 S1) (hc : c en1 S1 = .ok (.dat e) en2 S2) : xCall call [p, q] [b, c] [] en S = callEnd (call [d, e] S2) en2 [.dat d, .dat e] := by
  simp only [xCall_eq, bAll_cons, bAll_nil, hb, hc, bind_ok, kAll_nil, getAll_cons, getAll_nil, get_dat, List.map_nil, List.append_nil, List.zip_nil_left]
  have h1 : (q == p) = false := by
    cases h : q == p with
    | false => rfl
    | true => exact absurd (eq_of_beq h).symm hpq
  have h : bindA (α := D) [p, q] [d, e] [] = some [d, e] := by simp [bindA, bindB, slotsOfCall, kwOk, List.lookup, h1]
  rw [h]
/-- .. by name, the second first -/
theorem call2k {call : List D → Stm → CO} {p q : Str} (hpq : p ≠ q) {b c : FB} {en en1 en2 : En} {S S1 S2 : Stm} {d e : D} (hb : b en S = .ok (.dat e) en1 S1) (hc : c en1 S1 = .ok (.dat d) en2 S2) : xCall call [p, q] [] [(q, b), (p, c)] en S = callEnd (call [d, e] S2) en2 [.dat e, .dat d] := by
  simp only [xCall_eq, bAll_nil, hb, hc, bind_ok, kAll_nil, kAll_cons, getAll_cons, getAll_nil, get_dat, List.map_cons, List.map_nil, List.append_nil, List.nil_append]
  have h1 : (q == p) = false := by
    cases h : q == p with
    | false => rfl
    | true => exact absurd (eq_of_beq h).symm hpq
  have h2 : (p == q) = false := by
    cases h : p == q with
    | false => rfl
    | true => exact absurd (eq_of_beq h) hpq
  have hne : ¬ q = p := fun h => hpq h.symm
  have h : bindA (α := D) [p, q] [] (List.zip [q, p] [e, d]) = some [d, e] := by simp [bindA, bindB, slotsOfCall, kwOk, List.lookup, h1, h2, hpq, hne]
  rw [h]
theorem cut1 {α : Type} (xs : List α) : cutD xs (some 1) none = xs.drop 1 := by
  unfold cutD
  rw [show HT.sIx xs.length 0 (some 1) = min 1 xs.length from HT.sIx_nat xs.length 0 1, HT.sIx_none]
  rw [List.take_of_length_le (by rw [List.length_drop]; omega)]
  cases xs with
  | nil => simp
  | cons x r => simp
/-! ### a list compared with names -/
def eqN : List D → List Str → Bool
  | [], [] => true
  | d :: r, x :: s => isS x d && eqN r s
  | _, _ => false
theorem eqD_str : ∀ {n m : Nat} {d : D} (x : Str), okD m d = true → eqD (n + 1) d (.str x) = some (isS x d)
  | _, 0, _, _, h => by cases h
  | n, m + 1, d, x, h => by
    cases d with
    | non => show some (decide (D.non = D.str x)) = _; simp [isS]
    | bl b => show some (decide (D.bl b = D.str x)) = _; simp [isS]
    | int i => show some (decide (D.int i = D.str x)) = _; simp [isS]
    | str y => show some (decide (D.str y = D.str x)) = _; simp [isS]
    | tup ys => show some (decide (D.tup ys = D.str x)) = _; simp [isS]
    | lst ys => show some (decide (D.lst ys = D.str x)) = _; simp [isS]
    | _ => cases h
theorem allM_nm {n m : Nat} : ∀ (ds : List D) (Q : List Str), ds.all (okD m) = true → ds.length = Q.length → allM (eqD (n + 1)) ds (nm Q) = some (eqN ds Q)
  | [], [], _, _ => rfl
  | d :: r, x :: s, h, hl => by
    simp only [List.all_cons, Bool.and_eq_true] at h
    show (match eqD (n + 1) d (.str x), allM (eqD (n + 1)) r (nm s) with | some x, some y => some (x && y) | _, _ => none) = _
    rw [eqD_str x h.1, allM_nm r s h.2 (by simpa using hl)]
    rfl
  | [], _ :: _, _, h => by simp at h
  | _ :: _, [], _, h => by simp at h
theorem eqN_len : ∀ {ds : List D} {Q : List Str}, eqN ds Q = true → ds.length = Q.length
  | [], [], _ => rfl
  | d :: r, x :: s, h => by
    simp only [eqN, Bool.and_eq_true] at h
    simp [eqN_len h.2]
  | [], _ :: _, h => by cases h
  | _ :: _, [], h => by cases h
theorem cmp_names {m : Nat} {ds : List D} (Q : List Str) (h : ds.all (okD m) = true) : cmpD .Eq (.lst ds) (.lst (nm Q)) = some (eqN ds Q) := by
  show (if ds.length = (nm Q).length then allM (eqD 59) ds (nm Q) else some false) = _
  by_cases hl : ds.length = (nm Q).length
  · rw [if_pos hl]
    exact allM_nm (n := 58) ds Q h (by simpa [nm] using hl)
  · rw [if_neg hl]
    cases q : eqN ds Q with
    | false => rfl
    | true => exact absurd (by simpa [nm] using eqN_len q) hl
/-- a tuple compared with the empty one -/
theorem cmp_ne_tup0 (ds : List D) : cmpD .NotEq (.tup ds) (.tup []) = some (!ds.isEmpty) := by
  cases ds <;> rfl
theorem mut_append {en en1 : En} {S S1 : Stm} {j : Nat} {e : FE} {v : OV} {xs : List D} (h : en[j]? = some (.own (.lst xs))) (hv : e en S = .ok v en1 S1) (h1 : en1[j]? = some (.own (.lst xs))) (hl : xs.length < sizeLine) :
    xMut j "append" [e] en S = .ok (.val .non) (en1.set j (.own (.lst (xs ++ [v.d])))) S1 := by
  have h2 : mutO (.lst xs) (Str.ofString "append") [v.d] = some (.lst (xs ++ [v.d]), .non) := by
    unfold mutO
    simp only
    rw [if_true, if_pos hl]
  unfold xMut
  simp only [h, h1, vAll_cons, vAll_nil, xV_eq, hv, bind_ok, h2]
end PX

set_option Elab.async false
set_option linter.all false
set_option maxRecDepth 100000
/-! PxRun: the resolved forms run by rewriting (a set of rules under a tag that is else unused here). -/
namespace PX
open PySem
/-- an equation that rewriting shall write down -/
theorem nr {α : Sort u} {a b : α} (h : a = b) : a = b := h
section
variable {α β : Type} {en en' : En} {S S' : Stm}
/-! order: the inner part first (what follows is held fast by a mark that depends on it, so rewriting leaves it alone) -/
inductive Tag {γ : Type} (f : γ) : Type where
  | mk
def Out.bnd {α β : Type} (m : Out α) (f : α → En → Stm → Out β) (_ : Tag f) : Out β := m.bind f
def Out.tos {α : Type} (m : Out α) (f : α → En → Stm → SO) (_ : Tag f) : SO := m.toS f
theorem q_bind (a : α) (f : α → En → Stm → Out β) (t : Tag f) : Out.bnd (Out.ok a en S) f t = f a en S := nr rfl
theorem q_bindB (f : α → En → Stm → Out β) (t : Tag f) : Out.bnd (Out.bad : Out α) f t = .bad := nr rfl
theorem q_bindE (C : D) (fs : List (Str × D)) (f : α → En → Stm → Out β) (t : Tag f) : Out.bnd (Out.err C fs en S : Out α) f t = .err C fs en S := nr rfl
theorem q_toS (a : α) (f : α → En → Stm → SO) (t : Tag f) : Out.tos (Out.ok a en S) f t = f a en S := nr rfl
theorem q_toSB (f : α → En → Stm → SO) (t : Tag f) : Out.tos (Out.bad : Out α) f t = .bad := nr rfl
theorem q_toSE (C : D) (fs : List (Str × D)) (f : α → En → Stm → SO) (t : Tag f) : Out.tos (Out.err C fs en S : Out α) f t = .err C fs en S := nr rfl
theorem q_lift (a : α) : lift (some a) en S = .ok a en S := nr rfl
theorem q_ovv (d : D) : (OV.val d).d = d := nr rfl
theorem q_ovo (o : O) : (OV.own o).d = o.d := nr rfl
theorem q_ol (xs : List D) : (O.lst xs).d = .lst xs := nr rfl
theorem q_od (xs : List (D × D)) : (O.dct xs).d = .dct xs := nr rfl
theorem q_iteT {a b : α} : (if true = true then a else b) = a := nr rfl
theorem q_iteF {a b : α} : (if false = true then a else b) = b := nr rfl
theorem q_nT : (!true) = false := nr rfl
theorem q_nF : (!false) = true := nr rfl
/-! slots -/
theorem q_e0 {a : Ent} {l : En} : (a :: l)[0]? = some a := nr rfl
theorem q_eS {a : Ent} {l : En} {i : Nat} : (a :: l)[i + 1]? = l[i]? := nr rfl
theorem q_s0 {a x : Ent} {l : En} : (a :: l).set 0 x = x :: l := nr rfl
theorem q_sS {a x : Ent} {l : En} {i : Nat} : (a :: l).set (i + 1) x = a :: l.set i x := nr rfl
def slotBQ (i : Nat) (en : En) (S : Stm) : Option Ent → Out Opd
  | some (.own _) => .ok (.slot i) en S
  | some (.val d) => .ok (.dat d) en S
  | _ => .bad
def slotX (i : Nat) (en : En) (S : Stm) : Option Ent → Out OV
  | some (.own o) => .ok (.val o.d) (en.set i (.val o.d)) S
  | some (.val d) => .ok (.val d) en S
  | _ => .bad
theorem q_bSlot (i : Nat) : bSlot i en S = slotBQ i en S en[i]? := by
  unfold bSlot xV xSlot
  cases en[i]? with
  | none => rfl
  | some e => cases e <;> rfl
theorem q_xSlot (i : Nat) : xSlot i en S = slotX i en S en[i]? := by
  unfold xSlot frz
  cases en[i]? with
  | none => rfl
  | some e => cases e <;> rfl
theorem q_sBo {i : Nat} {o : O} : slotBQ i en S (some (.own o)) = .ok (.slot i) en S := nr rfl
theorem q_sBv {i : Nat} {d : D} : slotBQ i en S (some (.val d)) = .ok (.dat d) en S := nr rfl
theorem q_sXo {i : Nat} {o : O} : slotX i en S (some (.own o)) = .ok (.val o.d) (en.set i (.val o.d)) S := nr rfl
theorem q_sXv {i : Nat} {d : D} : slotX i en S (some (.val d)) = .ok (.val d) en S := nr rfl
theorem q_getd (d : D) : (Opd.dat d).get en = some d := nr rfl
def entO : Option Ent → Option D
  | some e => entD e
  | none => none
theorem q_gets (i : Nat) : (Opd.slot i).get en = entO en[i]? := by
  show (en[i]?).bind entD = _
  cases en[i]? <;> rfl
theorem q_entv (d : D) : entO (some (.val d)) = some d := nr rfl
theorem q_ento (o : O) : entO (some (.own o)) = some o.d := nr rfl
theorem q_res (o : Opd) : resolve o en S = lift (o.get en) en S := nr rfl
/-! values -/
theorem q_xVal (d : D) : xVal d en S = .ok (.val d) en S := nr rfl
theorem q_xV (f : FE) : xV f en S = Out.bnd (f en S) (fun r en S => .ok r.d en S) .mk := nr rfl
theorem q_bE (f : FE) : bE f en S = Out.bnd (f en S) (fun d en S => .ok (.dat d.d) en S) .mk := by
  show ((f en S).bind _).bind _ = _
  cases f en S <;> rfl
theorem q_bD (b : FB) : bD b en S = Out.bnd (b en S) (fun x en S => lift (x.get en) en S) .mk := nr rfl
theorem q_b2 (a b : FB) : b2 a b en S = Out.bnd (a en S) (fun x en S => Out.bnd (b en S) (fun y en S => Out.bnd (lift (x.get en) en S) (fun d en S => Out.bnd (lift (y.get en) en S) (fun e en S => .ok (d, e) en S) .mk) .mk) .mk) .mk := nr rfl
theorem q_bAll0 : bAll [] en S = .ok [] en S := nr rfl
theorem q_bAllS (e : FB) (r : List FB) : bAll (e :: r) en S = Out.bnd (e en S) (fun o en S => Out.bnd (bAll r en S) (fun os en S => .ok (o :: os) en S) .mk) .mk := nr rfl
theorem q_kAll0 : kAll [] en S = .ok [] en S := nr rfl
theorem q_kAllS (x : Str) (e : FB) (r : List (Str × FB)) : kAll ((x, e) :: r) en S = Out.bnd (e en S) (fun o en S => Out.bnd (kAll r en S) (fun os en S => .ok ((x, o) :: os) en S) .mk) .mk := nr rfl
theorem q_vAll0 : vAll [] en S = .ok [] en S := nr rfl
theorem q_vAllS (e : FE) (r : List FE) : vAll (e :: r) en S = Out.bnd (e en S) (fun d en S => Out.bnd (vAll r en S) (fun ds en S => .ok (d.d :: ds) en S) .mk) .mk := by
  show ((e en S).bind _).bind _ = _
  cases e en S <;> rfl
theorem q_xBin (op : Operator) (a b : FB) : xBin op a b en S = Out.bnd (b2 a b en S) (fun p en S => lift (binD op p.1 p.2) en S) .mk := nr rfl
theorem q_xNot (b : FB) : xNot b en S = Out.bnd (bD b en S) (fun d en S => Out.bnd (lift (truD d) en S) (fun b en S => .ok (.val (.bl (!b))) en S) .mk) .mk := nr rfl
def negO : D → Option OV
  | .int i => some (.val (.int (-i)))
  | _ => none
theorem q_xNeg (f : FE) : xNeg f en S = Out.bnd (f en S) (fun d en S => lift (negO d.d) en S) .mk := by
  show ((f en S).bind _).bind _ = _
  cases f en S with
  | ok r en S => cases r with
    | val d => cases d <;> rfl
    | own o => cases o <;> rfl
  | _ => rfl
theorem q_negO (i : Int) : negO (.int i) = some (.val (.int (-i))) := nr rfl
theorem q_xCmp (op : CmpOp) (a b : FB) : xCmp op a b en S = Out.bnd (b2 a b en S) (fun p en S => Out.bnd (lift (cmpD op p.1 p.2) en S) (fun b en S => .ok (.val (.bl b)) en S) .mk) .mk := nr rfl
theorem q_xChain (op op' : CmpOp) (a b d : FB) : xChain op op' a b d en S = Out.bnd (b2 a b en S) (fun p en S =>
  Out.bnd (lift (cmpD op p.1 p.2) en S) (fun k en S =>
    if k = true then (if p.2.imm = true then Out.bnd (bD d en S) (fun z en S => Out.bnd (lift (cmpD op' p.2 z) en S) (fun k en S => .ok (.val (.bl k)) en S) .mk) .mk else .bad) else .ok (.val (.bl false)) en S) .mk) .mk := nr rfl
theorem q_xBool1 (op : BoolOp) (e : FE) : xBool op [e] en S = e en S := nr rfl
def andV (k : En → Stm → Out OV) (d : D) (en : En) (S : Stm) : Out OV := match d with
  | .bl true => k en S
  | .bl false => .ok (.val (.bl false)) en S
  | _ => .bad
def orV (k : En → Stm → Out OV) (d : D) (en : En) (S : Stm) : Out OV := match d with
  | .bl false => k en S
  | .bl true => .ok (.val (.bl true)) en S
  | _ => .bad
theorem q_xBoolA (e f : FE) (r : List FE) : xBool .And (e :: f :: r) en S = Out.bnd (e en S) (fun d en S => andV (xBool .And (f :: r)) d.d en S) .mk := by
  show ((e en S).bind _).bind _ = _
  cases e en S with
  | ok r en S => cases r with
    | val d => cases d with
      | bl b => cases b <;> rfl
      | _ => rfl
    | own o => cases o <;> rfl
  | _ => rfl
theorem q_xBoolO (e f : FE) (r : List FE) : xBool .Or (e :: f :: r) en S = Out.bnd (e en S) (fun d en S => orV (xBool .Or (f :: r)) d.d en S) .mk := by
  show ((e en S).bind _).bind _ = _
  cases e en S with
  | ok r en S => cases r with
    | val d => cases d with
      | bl b => cases b <;> rfl
      | _ => rfl
    | own o => cases o <;> rfl
  | _ => rfl
theorem q_andG (k : En → Stm → Out OV) (b : Bool) : andV k (.bl b) en S = if b = true then k en S else .ok (.val (.bl false)) en S := by cases b <;> rfl
theorem q_orG (k : En → Stm → Out OV) (b : Bool) : orV k (.bl b) en S = if b = true then .ok (.val (.bl true)) en S else k en S := by cases b <;> rfl
theorem q_andV2 {b c : Bool} : (if b = true then Out.ok (OV.val (.bl c)) en S else .ok (.val (.bl false)) en S) = .ok (.val (.bl (b && c))) en S := by cases b <;> rfl
theorem q_orV2 {b c : Bool} : (if b = true then Out.ok (OV.val (.bl true)) en S else .ok (.val (.bl c)) en S) = .ok (.val (.bl (b || c))) en S := by cases b <;> rfl
theorem q_xIf (t : FT) (a b : FE) : xIf t a b en S = Out.bnd (t en S) (fun k en S => if k = true then a en S else b en S) .mk := nr rfl
def lenLe : List α → Nat → Bool
  | [], _ => true
  | _ :: _, 0 => false
  | _ :: r, n + 1 => lenLe r n
theorem q_lenLe0 (n : Nat) : lenLe ([] : List α) n = true := by cases n <;> rfl
theorem q_lenLeS (a : α) (r : List α) (n : Nat) : lenLe (a :: r) (n + 1) = lenLe r n := nr rfl
theorem lenLe_le : ∀ {l : List α} {n : Nat}, lenLe l n = true → l.length ≤ n
  | [], _, _ => Nat.zero_le _
  | _ :: _, 0, h => by cases h
  | _ :: r, n + 1, h => Nat.succ_le_succ (lenLe_le (l := r) h)
theorem vAll_len : ∀ {es : List FE} {en : En} {S : Stm} {ds : List D} {en' : En} {S' : Stm}, vAll es en S = .ok ds en' S' → ds.length = es.length
  | [], _, _, _, _, _, h => by cases h; rfl
  | e :: r, en, S, ds, en', S', h => by
    rw [q_vAllS] at h
    cases q : e en S with
    | ok d en1 S1 =>
      rw [q] at h
      simp only [q_bind] at h
      cases q2 : vAll r en1 S1 with
      | ok ds2 en2 S2 =>
        rw [q2] at h
        cases h
        simp [vAll_len q2]
      | err => rw [q2] at h; cases h
      | bad => rw [q2] at h; cases h
    | err => rw [q] at h; cases h
    | bad => rw [q] at h; cases h
theorem q_xList (es : List FE) (h : lenLe es 60 = true) : xList es en S = Out.bnd (vAll es en S) (fun ds en S => .ok (.own (.lst ds)) en S) .mk := by
  show (vAll es en S).bind _ = _
  cases q : vAll es en S with
  | ok ds en1 S1 =>
    show (if _ then _ else _) = _
    rw [if_pos (by have := vAll_len q; have := lenLe_le h; have : sizeLine = 16777216 := rfl; omega)]
    rfl
  | err => rfl
  | bad => rfl
theorem q_xTup (es : List FE) (h : lenLe es 60 = true) : xTup es en S = Out.bnd (vAll es en S) (fun ds en S => .ok (.val (.tup ds)) en S) .mk := by
  show (vAll es en S).bind _ = _
  cases q : vAll es en S with
  | ok ds en1 S1 =>
    show (if _ then _ else _) = _
    rw [if_pos (by have := vAll_len q; have := lenLe_le h; have : sizeLine = 16777216 := rfl; omega)]
    rfl
  | err => rfl
  | bad => rfl
theorem q_xIx (a i : FB) : xIx a i en S = Out.bnd (a en S) (fun x en S => Out.bnd (i en S) (fun y en S => Out.bnd (lift (x.get en) en S) (fun d en S => Out.bnd (lift (y.get en) en S) (fun k en S => Out.bnd (lift (getD d k) en S) (fun r en S => .ok (.val r) en S) .mk) .mk) .mk) .mk) .mk := nr rfl
theorem q_part0 : xPart none en S = .ok none en S := nr rfl
theorem q_partS (e : FE) : xPart (some e) en S = Out.bnd (e en S) (fun d en S => lift (partI d.d) en S) .mk := by
  show ((e en S).bind _).bind _ = _
  cases e en S <;> rfl
theorem q_partI (i : Int) : partI (.int i) = some (some i) := nr rfl
theorem q_xCut (a : FB) (lo hi : Option FE) : xCut a lo hi en S = Out.bnd (a en S) (fun x en S => Out.bnd (xPart lo en S) (fun l en S => Out.bnd (xPart hi en S) (fun h en S => Out.bnd (lift (x.get en) en S) (fun d en S => lift (cutOV d l h) en S) .mk) .mk) .mk) .mk := nr rfl
theorem q_xRev (a : FB) : xRev a en S = Out.bnd (bD a en S) (fun d en S => lift (revOV d) en S) .mk := nr rfl
theorem q_xLen (e : FB) : xLen e en S = Out.bnd (e en S) (fun o en S => Out.bnd (lift (o.get en) en S) (fun d en S => Out.bnd (lift (lenD d) en S) (fun k en S => .ok (.val (.int k)) en S) .mk) .mk) .mk := nr rfl
def metO (d e : D) (m : Str) : Option OV := match d with
  | .str z => metD (.str z) m [e]
  | _ => none
theorem q_xStr (z : Str) (m : Str) (e : FB) : xStr (bE (xVal (.str z))) m e en S = Out.bnd (bD e en S) (fun d en S => lift (metD (.str z) m [d]) en S) .mk := nr rfl
/-! calls -/
theorem q_xCall (call : List D → Stm → CO) (ps : List Str) (args : List FB) : xCall call ps args [] en S = Out.bnd (bAll args en S) (fun os en S => match getAll en os with
  | some ds => match bindA ps ds [] with
    | some as => callEnd (call as S) en os
    | none => .bad
  | none => .bad) .mk := by
  show (bAll args en S).bind _ = (bAll args en S).bind _
  cases bAll args en S with
  | ok os en S =>
    show (match getAll en os, getAll en [] with | some ds, some es => _ | _, _ => _) = _
    cases h : getAll en os with
    | none => simp [h]
    | some ds =>
      show (match bindA ps ds (List.zip [] []) with | some as => callEnd (call as S) en (os ++ []) | none => .bad) = _
      simp [h]
  | err => rfl
  | bad => rfl
theorem q_xCallK (call : List D → Stm → CO) (ps : List Str) (args : List FB) (k : Str × FB) (kws : List (Str × FB)) : xCall call ps args (k :: kws) en S = Out.bnd (bAll args en S) (fun os en S => Out.bnd (kAll (k :: kws) en S) (fun ks en S => match getAll en os, getAll en (ks.map (·.2)) with
  | some ds, some es => match bindA ps ds ((ks.map (·.1)).zip es) with
    | some as => callEnd (call as S) en (os ++ ks.map (·.2))
    | none => .bad
  | _, _ => .bad) .mk) .mk := nr rfl
theorem q_getAll0 : getAll en [] = some [] := nr rfl
theorem q_getAllS (o : Opd) (r : List Opd) : getAll en (o :: r) = match o.get en, getAll en r with
  | some d, some ds => some (d :: ds)
  | _, _ => none := nr rfl
theorem q_map0 {f : α → β} : List.map f [] = [] := nr rfl
theorem q_mapS {f : α → β} {a : α} {l : List α} : List.map f (a :: l) = f a :: List.map f l := nr rfl
theorem q_zip0 {l : List β} : List.zip ([] : List α) l = [] := by cases l <;> rfl
theorem q_zipS {a : α} {b : β} {l : List α} {r : List β} : List.zip (a :: l) (b :: r) = (a, b) :: List.zip l r := nr rfl
theorem q_app0 {l : List α} : [] ++ l = l := nr rfl
theorem q_appS {a : α} {l r : List α} : (a :: l) ++ r = a :: (l ++ r) := nr rfl
theorem q_ba0 : bindA (α := D) [] [] [] = some [] := nr rfl
theorem q_ba1 (p : Str) (d : D) : bindA (α := D) [p] [d] [] = some [d] := by simp [bindA, bindB, slotsOfCall, kwOk, List.lookup]
theorem q_ba1k (p : Str) (d : D) : bindA (α := D) [p] [] [(p, d)] = some [d] := by simp [bindA, bindB, slotsOfCall, kwOk, List.lookup]
def callFin (r : OV) (S : Stm) (en : En) : List Nat → Out OV
  | [] => .ok r en S
  | i :: l => if r.d.imm = true then .ok r en S else .ok r (frzAll en (i :: l)) S
theorem q_endOk {r : OV} {os : List Opd} : callEnd (.ok r S) en os = callFin r S en (lent os) := by
  show (if r.d.imm = true then Out.ok r en S else .ok r (frzAll en (lent os)) S) = _
  cases lent os with
  | nil => show (if r.d.imm = true then Out.ok r en S else .ok r en S) = .ok r en S; split <;> rfl
  | cons => rfl
theorem q_endErr {C : D} {fs : List (Str × D)} {os : List Opd} : callEnd (.err C fs S) en os = .err C fs (frzAll en (lent os)) S := nr rfl
theorem q_fin0 {r : OV} : callFin r S en [] = .ok r en S := nr rfl
theorem q_finS {r : OV} {i : Nat} {l : List Nat} : callFin r S en (i :: l) = if r.d.imm = true then .ok r en S else .ok r (frzAll en (i :: l)) S := nr rfl
theorem q_lent0 : lent [] = [] := nr rfl
theorem q_lentd {d : D} {r : List Opd} : lent (.dat d :: r) = lent r := nr rfl
theorem q_lents {i : Nat} {r : List Opd} : lent (.slot i :: r) = i :: lent r := nr rfl
def frzQ (en : En) (i : Nat) : Option Ent → En
  | some (.own o) => en.set i (.val o.d)
  | _ => en
theorem q_frz0 : frzAll en [] = en := nr rfl
theorem q_frzS {i : Nat} {r : List Nat} : frzAll en (i :: r) = frzAll (frzQ en i en[i]?) r := by
  show frzAll (frz en i) r = _
  have e : frz en i = frzQ en i en[i]? := by
    unfold frz
    cases en[i]? with
    | none => rfl
    | some e => cases e <;> rfl
  rw [e]
theorem q_frzEo {i : Nat} {o : O} : frzQ en i (some (.own o)) = en.set i (.val o.d) := nr rfl
theorem q_frzEv {i : Nat} {d : D} : frzQ en i (some (.val d)) = en := nr rfl
/-! tests -/
def asB : OV → Option Bool
  | .val (.bl b) => some b
  | _ => none
theorem q_tE (f : FE) : tE f en S = Out.bnd (f en S) (fun r en S => lift (asB r) en S) .mk := by
  show (f en S).bind _ = _
  cases f en S with
  | ok r en S => cases r with
    | val d => cases d <;> rfl
    | own o => cases o <;> rfl
  | _ => rfl
theorem q_asB (b : Bool) : asB (.val (.bl b)) = some b := nr rfl
theorem q_tTru (b : FB) : tTru b en S = Out.bnd (bD b en S) (fun d en S => lift (truD d) en S) .mk := nr rfl
theorem q_tNot (t : FT) : tNot' t en S = Out.bnd (t en S) (fun b en S => .ok (!b) en S) .mk := nr rfl
theorem q_tYes : tYes' en S = .ok true en S := nr rfl
theorem q_tB1 (op : BoolOp) (e : FT) : tBool op [e] en S = e en S := by
  show (e en S).bind _ = _
  cases e en S <;> rfl
theorem q_tBA (e f : FT) (r : List FT) : tBool .And (e :: f :: r) en S = Out.bnd (e en S) (fun b en S => if b = true then tBool .And (f :: r) en S else .ok false en S) .mk := by
  show (e en S).bind _ = _
  cases e en S with
  | ok b en S => cases b <;> rfl
  | _ => rfl
theorem q_tBO (e f : FT) (r : List FT) : tBool .Or (e :: f :: r) en S = Out.bnd (e en S) (fun b en S => if b = true then .ok true en S else tBool .Or (f :: r) en S) .mk := by
  show (e en S).bind _ = _
  cases e en S with
  | ok b en S => cases b <;> rfl
  | _ => rfl
theorem q_orOk {b c : Bool} : (if b = true then Out.ok true en S else Out.ok c en S) = Out.ok (b || c) en S := by cases b <;> rfl
theorem q_andOk {b c : Bool} : (if b = true then Out.ok c en S else Out.ok false en S) = Out.ok (b && c) en S := by cases b <;> rfl
theorem q_iPlain (e : FE) : iPlain e en S = Out.bnd (e en S) (fun d en S => lift (itemsD d.d) en S) .mk := by
  show ((e en S).bind _).bind _ = _
  cases e en S <;> rfl
theorem q_iRange (args : List FE) : iRange args en S = Out.bnd (vAll args en S) (fun ds en S => lift (rangeD ds) en S) .mk := nr rfl
theorem q_xB1 (b : B1) (e : FB) : xB1 b e en S = Out.bnd (bD e en S) (fun d en S => lift (b1D b d) en S) .mk := nr rfl
theorem q_xDict1 (k v : FE) : xDict1 k v en S = Out.bnd (k en S) (fun a en S => Out.bnd (v en S) (fun b en S => if simpleKey a.d = true then .ok (.own (.dct [(a.d, b.d)])) en S else .bad) .mk) .mk := by
  show ((k en S).bind _).bind _ = _
  cases k en S with
  | ok a en S =>
    show ((v en S).bind _).bind _ = (v en S).bind _
    cases v en S <;> rfl
  | _ => rfl
theorem q_sks (x : Str) : simpleKey (.str x) = true := nr rfl
def isiE (e : FB) (t : Str) (en : En) (S : Stm) : Option Ent → Out OV
  | some (.exc _ _) => .bad
  | _ => (bD e en S).bind fun d en S => (lift (isTyp d t) en S).bind fun b en S => .ok (.val (.bl b)) en S
theorem q_isiS (i : Nat) (e : FB) (t : Str) : xIsi (some i) e t en S = isiE e t en S en[i]? := by
  unfold xIsi
  show (match (match en[i]? with | some (.exc C fs) => some (C, fs) | _ => none : Option (D × List (Str × D))) with | some _ => Out.bad | none => _) = _
  cases en[i]? with
  | none => rfl
  | some e => cases e <;> rfl
theorem q_isi0 (e : FB) (t : Str) : xIsi none e t en S = isiE e t en S none := nr rfl
theorem q_isiEv {d : D} (e : FB) (t : Str) : isiE e t en S (some (.val d)) = Out.bnd (bD e en S) (fun d en S => Out.bnd (lift (isTyp d t) en S) (fun b en S => .ok (.val (.bl b)) en S) .mk) .mk := nr rfl
theorem q_isiEo {o : O} (e : FB) (t : Str) : isiE e t en S (some (.own o)) = Out.bnd (bD e en S) (fun d en S => Out.bnd (lift (isTyp d t) en S) (fun b en S => .ok (.val (.bl b)) en S) .mk) .mk := nr rfl
theorem q_isiE0 (e : FB) (t : Str) : isiE e t en S none = Out.bnd (bD e en S) (fun d en S => Out.bnd (lift (isTyp d t) en S) (fun b en S => .ok (.val (.bl b)) en S) .mk) .mk := nr rfl
theorem q_ty1 (xs : List D) : isTyp (.lst xs) "list" = some true := nr rfl
theorem q_ty2 (xs : List D) : isTyp (.tup xs) "tuple" = some true := nr rfl
theorem q_ty3 (b : Bool) : isTyp (.bl b) "bool" = some true := nr rfl
theorem q_ty4 (xs : List D) : isTyp (.tup xs) "list" = some false := nr rfl
theorem q_ty5 (xs : List D) : isTyp (.lst xs) "tuple" = some false := nr rfl
theorem q_ty6 (x : Str) : isTyp (.str x) "str" = some true := nr rfl
theorem q_ty7 (x : Int) : isTyp (.int x) "int" = some true := nr rfl
theorem q_ty8 (x : Int) : isTyp (.int x) "bool" = some false := nr rfl
theorem q_ty9 (x : Bool) : isTyp (.bl x) "int" = some true := nr rfl
def mutQ (j : Nat) (m : Str) (ds : List D) (en : En) (S : Stm) : Option Ent → Out OV
  | some (.own (.lst xs)) => (match mutO (.lst xs) m ds with
    | some (o', d) => .ok (.val d) (en.set j (.own o')) S
    | none => .bad)
  | _ => .bad
def mutP (j : Nat) (m : Str) (args : List FE) (en : En) (S : Stm) : Option Ent → Out OV
  | some (.own (.lst _)) => (vAll args en S).bind fun ds en S => mutQ j m ds en S en[j]?
  | _ => .bad
theorem q_xMut (j : Nat) (m : Str) (args : List FE) : xMut j m args en S = mutP j m args en S en[j]? := by
  unfold xMut
  cases h : en[j]? with
  | none => rfl
  | some e => cases e with
    | own o => cases o with
      | lst xs =>
        show (match en[j]? with | some (.own (.lst _)) => _ | _ => _) = _
        rw [h]
        show (vAll args en S).bind _ = (vAll args en S).bind _
        cases vAll args en S with
        | ok ds en S =>
          show (match en[j]? with | some (.own (.lst xs)) => _ | _ => _) = mutQ j m ds en S en[j]?
          cases en[j]? with
          | none => rfl
          | some e => cases e with
            | own o => cases o <;> rfl
            | _ => rfl
        | err => rfl
        | bad => rfl
      | dct => show (match en[j]? with | some (.own (.lst _)) => _ | _ => _) = _; rw [h]; rfl
      | obj => show (match en[j]? with | some (.own (.lst _)) => _ | _ => _) = _; rw [h]; rfl
    | _ => rfl
theorem q_mutS {xs : List D} {j : Nat} {m : Str} {args : List FE} : mutP j m args en S (some (.own (.lst xs))) = Out.bnd (vAll args en S) (fun ds en S => mutQ j m ds en S en[j]?) .mk := nr rfl
theorem q_mutE {xs : List D} {j : Nat} {m : Str} {ds : List D} : mutQ j m ds en S (some (.own (.lst xs))) = (match mutO (.lst xs) m ds with
    | some (o', d) => .ok (.val d) (en.set j (.own o')) S
    | none => .bad) := nr rfl
theorem mut_app {xs : List D} {d : D} (h : xs.length < sizeLine) : mutO (.lst xs) "append" [d] = some (.lst (xs ++ [d]), .non) := by
  show mutO (.lst xs) (Str.ofString "append") [d] = _
  unfold mutO
  simp only
  rw [if_true, if_pos h]
/-! statements -/
theorem q_seq0 : sSeq [] en S = .nx en S := nr rfl
theorem q_seqS (s : FS) (r : List FS) : sSeq (s :: r) en S = andThen (s en S) r := nr rfl
theorem q_thNx (r : List FS) : andThen (.nx en S) r = sSeq r en S := nr rfl
theorem q_thRet (v : OV) (r : List FS) : andThen (.ret v en S) r = .ret v en S := nr rfl
theorem q_thErr (C : D) (fs : List (Str × D)) (r : List FS) : andThen (.err C fs en S) r = .err C fs en S := nr rfl
theorem q_thBk (r : List FS) : andThen (.bk en S) r = .bk en S := nr rfl
theorem q_thCt (r : List FS) : andThen (.ct en S) r = .ct en S := nr rfl
theorem then_then (o : SO) (r s : List FS) : andThen (andThen o r) s = andThen o (r ++ s) := by
  cases o with
  | nx en S =>
    show andThen (sSeq r en S) s = sSeq (r ++ s) en S
    induction r generalizing en S with
    | nil => rfl
    | cons a r ih =>
      show andThen (andThen (a en S) r) s = andThen (a en S) (r ++ s)
      cases a en S with
      | nx en S => exact ih en S
      | _ => rfl
  | _ => rfl
theorem q_sPass : sPass en S = .nx en S := nr rfl
theorem q_sBreak : sBreak en S = .bk en S := nr rfl
theorem q_sCont : sContinue en S = .ct en S := nr rfl
theorem q_sRetN : sRetN en S = .ret (.val .non) en S := nr rfl
theorem q_sSet (i : Nat) (f : FE) : sSet i f en S = Out.tos (f en S) (fun r en S => .nx (setV i r en) S) .mk := nr rfl
theorem q_sRet (f : FE) : sRet f en S = Out.tos (f en S) (fun r en S => .ret r en S) .mk := nr rfl
theorem q_sExpr (f : FE) : sExpr f en S = Out.tos (f en S) (fun _ en S => .nx en S) .mk := nr rfl
theorem q_sIf (t : FT) (a b : FS) : sIf t a b en S = Out.tos (t en S) (fun k en S => if k = true then a en S else b en S) .mk := nr rfl
def retQ (i : Nat) (en : En) (S : Stm) : Option Ent → SO
  | some (.own o) => .ret (.own o) (en.set i .none) S
  | some (.val d) => .ret (.val d) en S
  | _ => .bad
theorem q_sRetSlot (i : Nat) : sRetSlot i en S = retQ i en S en[i]? := by
  unfold sRetSlot xSlot
  cases h : en[i]? with
  | none => rfl
  | some e => cases e <;> first | rfl | (show (match en[i]? with | some (.own o) => _ | _ => _) = _; rw [h]; rfl)
theorem q_retEo {i : Nat} {o : O} : retQ i en S (some (.own o)) = .ret (.own o) (en.set i .none) S := nr rfl
theorem q_retEv {i : Nat} {d : D} : retQ i en S (some (.val d)) = .ret (.val d) en S := nr rfl
def stoE (j : Nat) (k d : D) (en : En) (S : Stm) : Option Ent → Out Unit
  | some (.own (.lst xs)) => (match putO (.lst xs) k d with
    | some o' => .ok () (en.set j (.own o')) S
    | none => .bad)
  | _ => .bad
theorem q_storeL (j : Nat) (k d : D) : storeL j k d en S = stoE j k d en S en[j]? := by
  unfold storeL
  cases en[j]? with
  | none => rfl
  | some e => cases e with
    | own o => cases o <;> rfl
    | _ => rfl
theorem q_stoE {j : Nat} {k d : D} {xs : List D} : stoE j k d en S (some (.own (.lst xs))) = (match putO (.lst xs) k d with
    | some o' => .ok () (en.set j (.own o')) S
    | none => .bad) := nr rfl
def putQ (j : Nat) (i : FB) (d : D) (en : En) (S : Stm) : Option Ent → SO
  | some (.own (.lst _)) => (bD i en S).toS fun k en S => (storeL j k d en S).toS fun _ en S => .nx en S
  | some (.own (.dct _)) => (bD i en S).toS fun k en S => (storeK j k d en S).toS fun _ en S => .nx en S
  | _ => .bad
theorem q_sPut (j : Nat) (i : FB) (f : FE) : sPut j i f en S = Out.tos (f en S) (fun r en S => putQ j i r.d en S en[j]?) .mk := by
  unfold sPut
  show ((f en S).bind _).toS _ = _
  cases f en S with
  | ok r en S =>
    show (match (match en[j]? with | some (.own _) => some j | _ => none : Option Nat) with | some j => _ | none => Out.bad).toS _ = putQ j i r.d en S en[j]?
    cases h : en[j]? with
    | none => rfl
    | some e => cases e with
      | own o =>
        show (match en[j]? with | some (.own (.lst _)) => _ | some (.own (.dct _)) => _ | _ => Out.bad).toS _ = _
        rw [h]
        cases o with
        | lst xs =>
          show ((bD i en S).bind _).toS _ = (bD i en S).toS _
          cases bD i en S <;> rfl
        | dct xs =>
          show ((bD i en S).bind _).toS _ = (bD i en S).toS _
          cases bD i en S <;> rfl
        | _ => rfl
      | _ => rfl
  | err => rfl
  | bad => rfl
theorem q_putS {xs : List D} {j : Nat} {i : FB} {d : D} : putQ j i d en S (some (.own (.lst xs))) = Out.tos (bD i en S) (fun k en S => Out.tos (storeL j k d en S) (fun _ en S => .nx en S) .mk) .mk := nr rfl
theorem q_setVv (i : Nat) (d : D) : setV i (.val d) en = en.set i (.val d) := nr rfl
theorem q_setVo (i : Nat) (o : O) : setV i (.own o) en = en.set i (.own o) := nr rfl
theorem q_sRaise (C : Str) (ps : List Str) (args : List FE) : sRaise C ps args en S = Out.tos (vAll args en S) (fun ds en S => if ps.length = ds.length then .err (.glo C) (ps.zip ds) en S else .bad) .mk := nr rfl
theorem q_rz1 (x : Str) (d : D) : ([x].length = [d].length) = True := by simp
theorem q_rz0 : (([] : List Str).length = ([] : List D).length) = True := by simp
theorem q_rz2 (x y : Str) (d e : D) : ([x, y].length = [d, e].length) = True := by simp
theorem q_iteTrue {a b : α} : (if True then a else b) = a := if_pos trivial
theorem q_iteFalse {a b : α} : (if False then a else b) = b := if_neg id
theorem q_coR (v : OV) : CO.of (.ret v en S) = .ok v S := nr rfl
theorem q_coN : CO.of (.nx en S) = .ok (.val .non) S := nr rfl
theorem q_coE (C : D) (fs : List (Str × D)) : CO.of (.err C fs en S) = .err C fs S := nr rfl
def tryQ (T : Tb) (hds : List (Str × Option Nat × FS)) : SO → SO
  | .err (.glo C) fs en S => if (lkS T.excs C).isSome = true then sClauses T C fs hds en S else .bad
  | .err _ _ _ _ => .bad
  | o => o
theorem q_sTry (T : Tb) (bd : FS) (hds : List (Str × Option Nat × FS)) : sTry T bd hds en S = tryQ T hds (bd en S) := by
  unfold sTry
  cases bd en S with
  | err C fs en S => cases C <;> rfl
  | _ => rfl
theorem q_tryR (T : Tb) (hds : List (Str × Option Nat × FS)) (v : OV) : tryQ T hds (.ret v en S) = .ret v en S := nr rfl
theorem q_tryN (T : Tb) (hds : List (Str × Option Nat × FS)) : tryQ T hds (.nx en S) = .nx en S := nr rfl
theorem q_tryE (T : Tb) (hds : List (Str × Option Nat × FS)) (C : Str) (fs : List (Str × D)) : tryQ T hds (.err (.glo C) fs en S) = if (lkS T.excs C).isSome = true then sClauses T C fs hds en S else .bad := nr rfl
theorem q_cl0 (T : Tb) (C : Str) (fs : List (Str × D)) : sClauses T C fs [] en S = .err (.glo C) fs en S := nr rfl
theorem q_clS (T : Tb) (C : Str) (fs : List (Str × D)) (x : Str) (i : Option Nat) (su : FS) (r : List (Str × Option Nat × FS)) : sClauses T C fs ((x, i, su) :: r) en S = if isSubOf T (.glo C) x = true then sufEnd i (su (bindX i C fs en) S) else sClauses T C fs r en S := nr rfl
theorem q_sufR (i : Option Nat) (r : OV) : sufEnd i (.ret r en S) = .ret r (dropX en) S := nr rfl
theorem q_sufN (i : Option Nat) : sufEnd i (.nx en S) = .nx (unX i en) S := nr rfl
/-- own exception classes of the table: fields, none above another -/
def errT (T : Tb) (Cs : List (Str × List Str)) : Bool := (Cs.all fun p => decide (lkS T.excs p.1 = some p.2)) && (Cs.all fun p => Cs.all fun q => isSubOf T (.glo p.1) q.1 == decide (p.1 = q.1))
theorem errT_has {T : Tb} {Cs : List (Str × List Str)} (h : errT T Cs = true) {C : Str} {ps : List Str} (hm : (C, ps) ∈ Cs) : lkS T.excs C = some ps := by
  simp only [errT, Bool.and_eq_true, List.all_eq_true] at h
  exact of_decide_eq_true (h.1 _ hm)
theorem errT_sub {T : Tb} {Cs : List (Str × List Str)} (h : errT T Cs = true) {C E : Str} {ps qs : List Str} (hm : (C, ps) ∈ Cs) (hn : (E, qs) ∈ Cs) : isSubOf T (.glo C) E = decide (C = E) := by
  simp only [errT, Bool.and_eq_true, List.all_eq_true] at h
  exact eq_of_beq (h.2 _ hm _ hn)
def fldQ (X : List (Str × List Str)) (f : Str) (en : En) (S : Stm) : Option Ent → Out OV
  | some (.exc (.glo C) fs) => match lkS X C, lkS fs f with
    | some ps, some d => if f ∈ ps then .ok (.val d) en S else .bad
    | _, _ => .bad
  | _ => .bad
theorem q_xFld (X : List (Str × List Str)) (i : Nat) (f : Str) : xFld X i f en S = fldQ X f en S en[i]? := by
  unfold xFld
  cases en[i]? with
  | none => rfl
  | some e => cases e with
    | exc C fs => cases C <;> rfl
    | _ => rfl
theorem q_fldQ (X : List (Str × List Str)) (f C : Str) (fs : List (Str × D)) : fldQ X f en S (some (.exc (.glo C) fs)) = (match lkS X C, lkS fs f with
    | some ps, some d => if f ∈ ps then .ok (.val d) en S else .bad
    | _, _ => .bad) := nr rfl
theorem q_bindX (i : Nat) (C : Str) (fs : List (Str × D)) : bindX (some i) C fs en = en.set i (.exc (.glo C) fs) := nr rfl
theorem q_bindX0 (C : Str) (fs : List (Str × D)) : bindX none C fs en = en := nr rfl
/-! operations -/
theorem q_lt (a b : Int) : cmpD .Lt (.int a) (.int b) = some (decide (a < b)) := nr rfl
theorem q_gt (a b : Int) : cmpD .Gt (.int a) (.int b) = some (decide (b < a)) := nr rfl
theorem q_le (a b : Int) : cmpD .LtE (.int a) (.int b) = some (decide (a ≤ b)) := cmp_le a b
theorem q_ge (a b : Int) : cmpD .GtE (.int a) (.int b) = some (decide (b ≤ a)) := cmp_ge a b
theorem q_eqi (a b : Int) : cmpD .Eq (.int a) (.int b) = some (decide (a = b)) := cmp_eq_int a b
theorem q_nei (a b : Int) : cmpD .NotEq (.int a) (.int b) = some (!decide (a = b)) := cmp_ne_int a b
theorem q_eqs (a b : Str) : cmpD .Eq (.str a) (.str b) = some (decide (a = b)) := cmp_eq_str a b
theorem q_nes (a b : Str) : cmpD .NotEq (.str a) (.str b) = some (!decide (a = b)) := cmp_ne_str a b
theorem q_eqb (a b : Bool) : cmpD .Eq (.bl a) (.bl b) = some (a == b) := cmp_eq_bl a b
theorem q_neb (a b : Bool) : cmpD .NotEq (.bl a) (.bl b) = some (!(a == b)) := cmp_ne_bl a b
theorem q_eq0 (xs : List D) : cmpD .Eq (.lst xs) (.lst []) = some xs.isEmpty := cmp_eq_nil xs
theorem q_ne0 (xs : List D) : cmpD .NotEq (.lst xs) (.lst []) = some (!xs.isEmpty) := cmp_ne_nil xs
theorem q_net0 (xs : List D) : cmpD .NotEq (.tup xs) (.tup []) = some (!xs.isEmpty) := cmp_ne_tup0 xs
theorem q_inNm (x : Str) (m : List Str) : cmpD .In (.str x) (.tup (nm m)) = some (decide (x ∈ m)) := by
  rw [← nm_any]; exact in_tup x (nm_ok m 59)
theorem q_ninNm (x : Str) (m : List Str) : cmpD .NotIn (.str x) (.tup (nm m)) = some (!decide (x ∈ m)) := by
  rw [← nm_any]; exact notin_tup x (nm_ok m 59)
theorem q_inNmL (x : Str) (m : List Str) : cmpD .In (.str x) (.lst (nm m)) = some (decide (x ∈ m)) := by
  rw [← nm_any]; exact in_lst x (nm_ok m 59)
theorem q_ninNmL (x : Str) (m : List Str) : cmpD .NotIn (.str x) (.lst (nm m)) = some (!decide (x ∈ m)) := by
  rw [← nm_any]; exact notin_lst x (nm_ok m 59)
theorem mul_small {x y : Int} (h : x.natAbs < 2 ^ 200 ∧ y.natAbs < 2 ^ 200) : binD .Mult (.int x) (.int y) = some (.val (.int (x * y))) := by
  have key : ∀ z : Int, z.natAbs < 2 ^ 200 → z.natAbs.log2 < 200 := by
    intro z hz
    by_cases e : z.natAbs = 0
    · rw [e]; decide
    · exact (Nat.log2_lt e).mpr hz
  have a := key x h.1
  have b := key y h.2
  exact if_pos (by omega)
theorem mod_pos {x y : Int} (h : 0 < y) : binD .Mod (.int x) (.int y) = some (.val (.int (x % y))) := by
  show (if y ≠ 0 then some (OV.val (.int (x.fmod y))) else none) = _
  rw [if_pos (by omega), Int.fmod_eq_emod_of_nonneg x (by omega)]
theorem str_small {x : Int} (h : x.natAbs < 2 ^ 200) : b1D .str (.int x) = some (.val (.str (toString x))) := by
  have : x.natAbs.log2 < 200 := by
    by_cases e : x.natAbs = 0
    · rw [e]; decide
    · exact (Nat.log2_lt e).mpr h
  exact if_pos (by omega)
theorem q_addi (x y : Int) : binD .Add (.int x) (.int y) = some (.val (.int (x + y))) := nr rfl
theorem q_subi (x y : Int) : binD .Sub (.int x) (.int y) = some (.val (.int (x - y))) := nr rfl
theorem q_immi (i : Int) : (D.int i).imm = true := nr rfl
theorem q_imms (i : Str) : (D.str i).imm = true := nr rfl
theorem q_immb (i : Bool) : (D.bl i).imm = true := nr rfl
theorem q_imml (i : List D) : (D.lst i).imm = false := nr rfl
theorem q_immn : D.non.imm = true := nr rfl
theorem immAll_nm (m : List Str) : immAll (nm m) = true := by
  induction m with
  | nil => rfl
  | cons x r ih => exact ih
theorem q_immt (m : List Str) : (D.tup (nm m)).imm = true := immAll_nm m
theorem q_trub (b : Bool) : truD (.bl b) = some b := nr rfl
theorem q_tru0 : truD .non = some false := nr rfl
theorem q_trul (xs : List D) : truD (.lst xs) = some (!xs.isEmpty) := nr rfl
theorem q_trut (xs : List D) : truD (.tup xs) = some (!xs.isEmpty) := nr rfl
theorem q_lenl (xs : List D) : lenD (.lst xs) = some xs.length := nr rfl
theorem q_lent (xs : List D) : lenD (.tup xs) = some xs.length := nr rfl
theorem q_nml (m : List Str) : (nm m).length = m.length := by simp [nm]
theorem q_itl (xs : List D) : itemsD (.lst xs) = some xs := nr rfl
theorem q_itt (xs : List D) : itemsD (.tup xs) = some xs := nr rfl
theorem q_its (x : Str) : itemsD (.str x) = some (x.cps.toList.map fun c => .str ⟨#[c]⟩) := nr rfl
theorem q_b1i (i : Int) : b1D .int (.int i) = some (.val (.int i)) := nr rfl
theorem q_b1b (b : Bool) : b1D .int (.bl b) = some (.val (.int (if b then 1 else 0))) := nr rfl
theorem q_b1tl (xs : List D) : b1D .tuple (.lst xs) = some (.val (.tup xs)) := nr rfl
theorem q_b1tt (xs : List D) : b1D .tuple (.tup xs) = some (.val (.tup xs)) := nr rfl
theorem q_b1ll (xs : List D) : b1D .list (.lst xs) = some (.own (.lst xs)) := nr rfl
theorem q_b1lt (xs : List D) : b1D .list (.tup xs) = some (.own (.lst xs)) := nr rfl
theorem q_b1s (xs : List D) : b1D .sorted (.lst xs) = sortX xs := nr rfl
theorem q_cutl (xs : List D) (l h : Option Int) : cutOV (.lst xs) l h = some (.own (.lst (cutD xs l h))) := nr rfl
theorem q_cutt (xs : List D) (l h : Option Int) : cutOV (.tup xs) l h = some (.val (.tup (cutD xs l h))) := nr rfl
theorem q_revl (xs : List D) : revOV (.lst xs) = some (.own (.lst xs.reverse)) := nr rfl
theorem q_revt (xs : List D) : revOV (.tup xs) = some (.val (.tup xs.reverse)) := nr rfl
theorem q_gN (i : Nat) (d : D) : gN i d en = some (en.set i (.val d)) := nr rfl
end
/-- what a turn has to bring -/
def stepP (In Bk : En → Stm → Prop) (R : SO → Prop) (_ : Tag (In, Bk, R)) : SO → Prop
  | .nx en S => In en S
  | .ct en S => In en S
  | .bk en S => Bk en S
  | o => R o
section
variable {In Bk : En → Stm → Prop} {R : SO → Prop} {en : En} {S : Stm} {t : Tag (In, Bk, R)}
theorem q_stNx : stepP In Bk R t (.nx en S) = In en S := nr rfl
theorem q_stCt : stepP In Bk R t (.ct en S) = In en S := nr rfl
theorem q_stBk : stepP In Bk R t (.bk en S) = Bk en S := nr rfl
theorem q_stRet {v : OV} : stepP In Bk R t (.ret v en S) = R (.ret v en S) := nr rfl
theorem q_stErr {C : D} {fs : List (Str × D)} : stepP In Bk R t (.err C fs en S) = R (.err C fs en S) := nr rfl
end
/-- a for, then what follows it, by an invariant -/
theorem then_for {tg : D → En → Option En} {it : FI} {body : FS} {xs : List D} {r : List FS} {R : SO → Prop} {en en' : En} {S S' : Stm} (I : Nat → En → Stm → Prop) (h0 : it en S = .ok xs en' S') (hI : I 0 en' S')
    (hs : ∀ i d en S, xs[i]? = some d → I i en S → ∃ en1, tg d en = some en1 ∧ stepP (I (i + 1)) (fun en S => R (sSeq r en S)) R .mk (body en1 S))
    (he : ∀ en S, I xs.length en S → R (sSeq r en S)) : R (andThen (sFor tg it body en S) r) := by
  refine seq_for (R := R) I h0 hI ?_ he
  intro i d en S hx h
  obtain ⟨en1, h1, h2⟩ := hs i d en S hx h
  refine ⟨en1, h1, ?_⟩
  revert h2
  cases body en1 S <;> exact id
/-- a def of the table is a resolved form -/
def Is (f : Str) (sh : CallT → FS) (n m : Nat) (lo hi : CallT) : Prop := ∀ (ds : List D) (S : Stm), ds.length = n → hi (f, none) ds S = CO.of (sh lo (ds.map Ent.val ++ List.replicate m Ent.none) S)
theorem is_of {T : Tb} {wf k : Nat} {f : Str} {D : DefI} {sh : CallT → FS} {n m : Nat} (hp : lkF T.prim (f, none) = none) (hd : lkF T.defs (f, none) = some D) (hs : ∀ (call : CallT) (make : Str → List PX.D → Stm → CO) (en : En) (S : Stm), body T wf call make D en S = sh call en S)
    (hn : D.ps.length = n) (hm : D.N.length - n = m) : Is f sh n m (calls T wf k).1 (calls T wf (k + 1)).1 := by
  intro ds S hl
  rw [run_def hp hd hs (hl.trans hn.symm)]
  unfold startE
  rw [hl, hm]
/-! the rules: before and after the parts -/
def RNp := (And.intro (And.intro (And.intro (And.intro (And.intro (And.intro @q_bSlot @q_xSlot) (And.intro @q_gets @q_res)) (And.intro (And.intro @q_xVal @q_xV) (And.intro @q_bE (And.intro @q_bD @q_b2)))) (And.intro (And.intro (And.intro @q_bAll0 @q_bAllS) (And.intro @q_kAll0 @q_kAllS)) (And.intro (And.intro @q_vAll0 @q_vAllS) (And.intro @q_xBin (And.intro @q_xNot @q_xNeg))))) (And.intro (And.intro (And.intro (And.intro @q_xCmp @q_xChain) (And.intro @q_xBool1 @q_xBoolA)) (And.intro (And.intro @q_xBoolO @q_andG) (And.intro @q_orG (And.intro @q_xIf @q_xList)))) (And.intro (And.intro (And.intro @q_xTup @q_xIx) (And.intro @q_part0 @q_partS)) (And.intro (And.intro @q_xCut @q_xRev) (And.intro @q_xLen (And.intro @q_xStr @q_xCall)))))) (And.intro (And.intro (And.intro (And.intro (And.intro @q_xCallK @q_endOk) (And.intro @q_endErr @q_frzS)) (And.intro (And.intro @q_tE @q_tTru) (And.intro @q_tNot (And.intro @q_tYes @q_tB1)))) (And.intro (And.intro (And.intro @q_tBA @q_tBO) (And.intro @q_iPlain @q_iRange)) (And.intro (And.intro @q_xB1 @q_xDict1) (And.intro @q_isiS (And.intro @q_isi0 @q_xMut))))) (And.intro (And.intro (And.intro (And.intro @q_seq0 @q_seqS) (And.intro @q_sPass @q_sBreak)) (And.intro (And.intro @q_sCont @q_sRetN) (And.intro @q_sSet (And.intro @q_sRet @q_sExpr)))) (And.intro (And.intro (And.intro @q_sIf @q_sRetSlot) (And.intro @q_storeL (And.intro @q_sPut @q_setVv))) (And.intro (And.intro @q_setVo @q_sRaise) (And.intro @q_sTry (And.intro @q_clS @q_xFld)))))))
def RNs := (And.intro (And.intro (And.intro (And.intro (And.intro (And.intro (And.intro @q_bind @q_bindB) (And.intro @q_bindE @q_toS)) (And.intro (And.intro @q_toSB @q_toSE) (And.intro @q_lift (And.intro @q_ovv @q_ovo)))) (And.intro (And.intro (And.intro @q_ol @q_od) (And.intro @q_iteT @q_iteF)) (And.intro (And.intro @q_nT @q_nF) (And.intro @q_e0 (And.intro @q_eS @q_s0))))) (And.intro (And.intro (And.intro (And.intro @q_sS @q_sBo) (And.intro @q_sBv @q_sXo)) (And.intro (And.intro @q_sXv @q_getd) (And.intro @q_entv (And.intro @q_ento @q_negO)))) (And.intro (And.intro (And.intro @q_andV2 @q_orV2) (And.intro @q_lenLe0 @q_lenLeS)) (And.intro (And.intro @q_partI @q_getAll0) (And.intro @q_getAllS (And.intro @q_map0 @q_mapS)))))) (And.intro (And.intro (And.intro (And.intro (And.intro @q_zip0 @q_zipS) (And.intro @q_app0 @q_appS)) (And.intro (And.intro @q_ba0 @q_ba1) (And.intro @q_ba1k (And.intro @q_fin0 @q_finS)))) (And.intro (And.intro (And.intro @q_lent0 @q_lentd) (And.intro @q_lents @q_frz0)) (And.intro (And.intro @q_frzEo @q_frzEv) (And.intro @q_asB (And.intro @q_orOk @q_andOk))))) (And.intro (And.intro (And.intro (And.intro @q_sks @q_isiEv) (And.intro @q_isiEo @q_isiE0)) (And.intro (And.intro @q_ty1 @q_ty2) (And.intro @q_ty3 (And.intro @q_ty4 @q_ty5)))) (And.intro (And.intro (And.intro @q_ty6 @q_ty7) (And.intro @q_ty8 (And.intro @q_ty9 @q_mutS))) (And.intro (And.intro @q_mutE @q_thNx) (And.intro @q_thRet (And.intro @q_thErr @q_thBk))))))) (And.intro (And.intro (And.intro (And.intro (And.intro (And.intro @q_thCt @q_retEo) (And.intro @q_retEv @q_stoE)) (And.intro (And.intro @q_putS @q_rz1) (And.intro @q_rz0 (And.intro @q_rz2 @q_iteTrue)))) (And.intro (And.intro (And.intro @q_iteFalse @q_coR) (And.intro @q_coN @q_coE)) (And.intro (And.intro @q_tryR @q_tryN) (And.intro @q_tryE (And.intro @q_cl0 @q_sufR))))) (And.intro (And.intro (And.intro (And.intro @q_sufN @q_fldQ) (And.intro @q_bindX @q_bindX0)) (And.intro (And.intro @q_lt @q_gt) (And.intro @q_le (And.intro @q_ge @q_eqi)))) (And.intro (And.intro (And.intro @q_nei @q_eqs) (And.intro @q_nes (And.intro @q_eqb @q_neb))) (And.intro (And.intro @q_eq0 @q_ne0) (And.intro @q_net0 (And.intro @q_inNm @q_ninNm)))))) (And.intro (And.intro (And.intro (And.intro (And.intro @q_inNmL @q_ninNmL) (And.intro @q_addi @q_subi)) (And.intro (And.intro @q_immi @q_imms) (And.intro @q_immb (And.intro @q_imml @q_immn)))) (And.intro (And.intro (And.intro @q_immt @q_trub) (And.intro @q_tru0 @q_trul)) (And.intro (And.intro @q_trut @q_lenl) (And.intro @q_lent (And.intro @q_nml @q_itl))))) (And.intro (And.intro (And.intro (And.intro @q_itt @q_its) (And.intro @q_b1i @q_b1b)) (And.intro (And.intro @q_b1tl @q_b1tt) (And.intro @q_b1ll (And.intro @q_b1lt @q_b1s)))) (And.intro (And.intro (And.intro @q_cutl @q_cutt) (And.intro @q_revl (And.intro @q_revt @q_gN))) (And.intro (And.intro @q_stNx @q_stCt) (And.intro @q_stBk (And.intro @q_stRet @q_stErr))))))))
end PX

set_option Elab.async false
set_option linter.all false
set_option maxRecDepth 100000
set_option maxHeartbeats 4000000
namespace PX
open PySem
def c_valid_name (call : CallT) : FS := (sSeq [(sIf (tBool .Or [(tNot' (tE (xChain .LtE .LtE (bE (xVal (.int 1))) (bE (xLen (bSlot 0))) (bE (xVal (.int 6)))))), (tE (xCmp .NotIn (bE (xIx (bSlot 0) (bE (xVal (.int 0))))) (bE (xVal (.str "abcdefghijklmnopqrstuvwxyz")))))]) (sSeq [(sRet (xVal (.bl false)))]) (sSeq [])),
    (sFor (gN 1) (iPlain (xSlot 0)) (sSeq [(sIf (tBool .And [(tE (xCmp .NotIn (bSlot 1) (bE (xVal (.str "abcdefghijklmnopqrstuvwxyz"))))), (tE (xCmp .NotIn (bSlot 1) (bE (xVal (.str "0123456789")))))]) (sSeq [(sRet (xVal (.bl false)))]) (sSeq []))])),
    (sRet (xVal (.bl true)))])
def c_things_of (call : CallT) : FS := (sSeq [(sIf (tNot' (tE (xChain .LtE .LtE (bE (xVal (.int 1))) (bE (xLen (bSlot 0))) (bE (xVal (.int 5)))))) (sSeq [(sRaise "BadCount" ["count"] [(xLen (bSlot 0))])]) (sSeq [])),
    (sSet 1 (xList [])),
    (sFor (gN 2) (iPlain (xSlot 0)) (sSeq [(sIf (tNot' (tTru (bE (xCall (call ("valid_name", none)) ["text"] [(bSlot 2)] [])))) (sSeq [(sRaise "BadName" ["name"] [(xSlot 2)])]) (sSeq [])),
    (sIf (tE (xCmp .In (bSlot 2) (bSlot 1))) (sSeq [(sRaise "DuplicateName" ["name"] [(xSlot 2)])]) (sSeq [])),
    (sExpr (xMut 1 "append" [(xSlot 2)]))])),
    (sRet (xB1 .tuple (bE (xB1 .sorted (bSlot 1)))))])
def c_menu_rank (call : CallT) : FS := (sSeq [(sRet (xTup [(xLen (bSlot 0)), (xSlot 0)]))])
def c_all_sets (call : CallT) : FS := (sSeq [(sSet 1 (xList [(xTup [])])),
    (sFor (gN 2) (iPlain (xSlot 0)) (sSeq [(sSet 1 (xBin .Add (bSlot 1) (bE (xLc [3] (iPlain (xSlot 1)) (gN 3) tYes' (xBin .Add (bSlot 3) (bE (xTup [(xSlot 2)])))))))])),
    (sRet (xSortK (call ("menu_rank", none)) (bSlot 1)))])
def c_all_menus (call : CallT) : FS := (sSeq [(sRet (xCut (bE (xCall (call ("all_sets", none)) ["things"] [(bSlot 0)] [])) (some (xVal (.int 1))) none))])
def c_is_part (call : CallT) : FS := (sSeq [(sIf (tNot' (tTru (bE (xIsi (some 1) (bSlot 1) "tuple")))) (sSeq [(sRet (xVal (.bl false)))]) (sSeq [])),
    (sRet (xCmp .Eq (bE (xB1 .list (bSlot 1))) (bE (xLc [2] (iPlain (xSlot 0)) (gN 2) (tE (xCmp .In (bSlot 2) (bSlot 1))) (xSlot 2)))))])
def c_is_menu (call : CallT) : FS := (sSeq [(sRet (xBool .And [(xCall (call ("is_part", none)) ["things", "value"] [(bSlot 0), (bSlot 1)] []), (xCmp .NotEq (bSlot 1) (bE (xTup [])))]))])
def c_without (call : CallT) : FS := (sSeq [(sIf (tE (xCmp .NotIn (bSlot 1) (bSlot 0))) (sSeq [(sRaise "UnknownName" ["name"] [(xSlot 1)])]) (sSeq [])),
    (sRet (xB1 .tuple (bE (xLc [2] (iPlain (xSlot 0)) (gN 2) (tE (xCmp .NotEq (bSlot 2) (bSlot 1))) (xSlot 2)))))])
def c_contains (call : CallT) : FS := (sSeq [(sRet (xB1 .all (bE (xLc [2] (iPlain (xSlot 1)) (gN 2) tYes' (xCmp .In (bSlot 2) (bSlot 0))))))])
def c__law_names (call : CallT) : FS := (sSeq [(sSet 2 (xVal (.str "abcdefghijklmnopqrstuvwxyz0123456789"))),
    (sSet 4 (xStr (bE (xVal (.str ""))) "join" (bE (xLc [3] (iRange [(xCall (call ("_law_draw", none)) ["_law_state", "_law_size"] [(bSlot 0), (bE (xVal (.int 5)))] [])]) (gN 3) tYes' (xIx (bSlot 2) (bE (xCall (call ("_law_draw", none)) ["_law_state", "_law_size"] [(bSlot 0), (bE (xVal (.int 36)))] []))))))),
    (sSet 5 (xIx (bSlot 2) (bE (xCall (call ("_law_draw", none)) ["_law_state", "_law_size"] [(bSlot 0), (bE (xVal (.int 26)))] [])))),
    (sSet 6 (xCall (call ("_law_draw", none)) ["_law_state", "_law_size"] [(bSlot 0), (bE (xVal (.int 26)))] [])),
    (sSet 7 (xIx (bE (xList [(xVal (.int 1)), (xVal (.int 3)), (xVal (.int 5)), (xVal (.int 7)), (xVal (.int 9)), (xVal (.int 11))])) (bE (xCall (call ("_law_draw", none)) ["_law_state", "_law_size"] [(bSlot 0), (bE (xVal (.int 6)))] [])))),
    (sSet 8 (xCall (call ("_law_draw", none)) ["_law_state", "_law_size"] [(bSlot 0), (bE (xVal (.int 7)))] [])),
    (sIf (tBool .And [(tE (xCmp .Eq (bSlot 8) (bE (xVal (.int 6))))), (tE (xCmp .Lt (bSlot 1) (bE (xVal (.int 7)))))]) (sSeq [(sRet (xCut (bE (xList [(xVal (.str "tea")), (xVal (.str "x")), (xVal (.str "x1")), (xVal (.str "x10")), (xVal (.str "xy")), (xVal (.str "y"))])) none (some (xSlot 1))))]) (sSeq [])),
    (sIf (tBool .Or [(tE (xCmp .Eq (bSlot 8) (bE (xVal (.int 4))))), (tBool .And [(tE (xCmp .Eq (bSlot 8) (bE (xVal (.int 5))))), (tE (xCmp .Gt (bSlot 1) (bE (xVal (.int 6)))))])]) (sSeq [(sSet 9 (xBin .Add (bE (xVal (.int 1))) (bE (xCall (call ("_law_draw", none)) ["_law_state", "_law_size"] [(bSlot 0), (bE (xVal (.int 9)))] [])))),
    (sRet (xLc [3] (iRange [(xSlot 1)]) (gN 3) tYes' (xBin .Add (bSlot 5) (bE (xB1 .str (bE (xBin .Mult (bSlot 9) (bE (xBin .Add (bSlot 3) (bE (xVal (.int 1))))))))))))]) (sSeq [])),
    (sIf (tE (xCmp .Eq (bSlot 8) (bE (xVal (.int 5))))) (sSeq [(sSet 10 (xBin .Add (bSlot 5) (bE (xStr (bE (xVal (.str ""))) "join" (bE (xLc [3] (iRange [(xVal (.int 5))]) (gN 3) tYes' (xIx (bSlot 2) (bE (xCall (call ("_law_draw", none)) ["_law_state", "_law_size"] [(bSlot 0), (bE (xVal (.int 36)))] []))))))))),
    (sRet (xLc [3] (iRange [(xSlot 1)]) (gN 3) tYes' (xCut (bSlot 10) none (some (xBin .Add (bSlot 3) (bE (xVal (.int 1))))))))]) (sSeq [])),
    (sSet 11 (xList [])),
    (sFor (gN 3) (iRange [(xSlot 1)]) (sSeq [(sSet 12 (xIx (bSlot 2) (bE (xBin .Mod (bE (xB1 .int (bE (xBin .Add (bSlot 6) (bE (xBin .Mult (bSlot 7) (bSlot 3))))))) (bE (xVal (.int 26))))))),
    (sSet 13 (xIx (bE (xList [(xSlot 4), (xVal (.str ""))])) (bE (xB1 .int (bE (xBool .And [(xCmp .Gt (bSlot 8) (bE (xVal (.int 1)))), (xCmp .Eq (bE (xBin .Mod (bSlot 3) (bE (xVal (.int 2))))) (bE (xVal (.int 1))))])))))),
    (sExpr (xMut 11 "append" [(xIx (bE (xList [(xBin .Add (bE (xBin .Add (bSlot 5) (bSlot 13))) (bSlot 12)), (xBin .Add (bSlot 12) (bSlot 13))])) (bE (xBin .Mod (bE (xB1 .int (bSlot 8))) (bE (xVal (.int 2))))))]))])),
    (sRetSlot 11)])
def c__law_good (call : CallT) : FS := (sSeq [(sSet 1 (xVal (.str "abcdefghijklmnopqrstuvwxyz"))),
    (sIf (tBool .Or [(tE (xCmp .Lt (bE (xLen (bSlot 0))) (bE (xVal (.int 1))))), (tE (xCmp .Gt (bE (xLen (bSlot 0))) (bE (xVal (.int 6))))), (tE (xCmp .NotIn (bE (xIx (bSlot 0) (bE (xVal (.int 0))))) (bSlot 1)))]) (sSeq [(sRet (xVal (.bl false)))]) (sSeq [])),
    (sRet (xCmp .Eq (bE (xLc [2] (iPlain (xSlot 0)) (gN 2) (tE (xCmp .NotIn (bSlot 2) (bE (xBin .Add (bSlot 1) (bE (xVal (.str "0123456789"))))))) (xSlot 2))) (bE (xList []))))])
def c__law_order (call : CallT) : FS := (sSeq [(sSet 2 (xB1 .list (bSlot 1))),
    (sSet 3 (xList [])),
    (sFor (gN 4) (iRange [(xLen (bSlot 2))]) (sSeq [(sExpr (xMut 3 "append" [(xMut 2 "pop" [(xCall (call ("_law_draw", none)) ["_law_state", "_law_size"] [(bSlot 0), (bE (xLen (bSlot 2)))] [])])]))])),
    (sRetSlot 3)])
def c__law_sets (call : CallT) : FS := (sSeq [(sSet 1 (xList [(xTup [])])),
    (sFor (gN 2) (iPlain (xSlot 0)) (sSeq [(sSet 1 (xBin .Add (bSlot 1) (bE (xLc [3] (iPlain (xSlot 1)) (gN 3) tYes' (xBin .Add (bSlot 3) (bE (xTup [(xSlot 2)])))))))])),
    (sRet (xLc [4] (iPlain (xB1 .sorted (bE (xLc [3] (iPlain (xSlot 1)) (gN 3) tYes' (xTup [(xLen (bSlot 3)), (xSlot 3)]))))) (gN 4) tYes' (xIx (bSlot 4) (bE (xVal (.int 1))))))])
def c__law_orders (call : CallT) : FS := (sSeq [(sSet 1 (xList [(xTup [])])),
    (sFor (gN 2) (iRange [(xLen (bSlot 0))]) (sSeq [(sSet 3 (xList [])),
    (sFor (gN 4) (iPlain (xSlot 1)) (sSeq [(sSet 3 (xBin .Add (bSlot 3) (bE (xLc [5] (iPlain (xSlot 0)) (gN 5) (tE (xCmp .NotIn (bSlot 5) (bSlot 4))) (xBin .Add (bSlot 4) (bE (xTup [(xSlot 5)])))))))])),
    (sSet 1 (xSlot 3))])),
    (sRetSlot 1)])
def c__law_any (call : CallT) : FS := (sSeq [(sSet 2 (xBin .Add (bE (xB1 .list (bSlot 1))) (bE (xList [(xVal (.str "zz9")), (xVal (.str "")), (xVal (.int 1)), (xVal .non), (xTup []), (xVal (.str "A"))])))),
    (sSet 4 (xLc [3] (iRange [(xCall (call ("_law_draw", none)) ["_law_state", "_law_size"] [(bSlot 0), (bE (xVal (.int 4)))] [])]) (gN 3) tYes' (xIx (bSlot 2) (bE (xCall (call ("_law_draw", none)) ["_law_state", "_law_size"] [(bSlot 0), (bE (xLen (bSlot 2)))] []))))),
    (sSet 6 (xB1 .tuple (bE (xLc [5] (iPlain (xSlot 1)) (gN 5) (tE (xCmp .Eq (bE (xCall (call ("_law_draw", none)) ["_law_state", "_law_size"] [(bSlot 0), (bE (xVal (.int 2)))] [])) (bE (xVal (.int 1))))) (xSlot 5))))),
    (sSet 7 (xList [(xSlot 6), (xB1 .tuple (bSlot 4)), (xB1 .list (bSlot 6)), (xRev (bSlot 6)), (xBin .Add (bSlot 6) (bE (xCut (bSlot 6) none (some (xVal (.int 1)))))), (xBin .Add (bSlot 6) (bE (xTup [(xIx (bSlot 2) (bE (xCall (call ("_law_draw", none)) ["_law_state", "_law_size"] [(bSlot 0), (bE (xLen (bSlot 2)))] [])))])))])),
    (sSet 7 (xBin .Add (bSlot 7) (bE (xList [(xSlot 4), (xStr (bE (xVal (.str ""))) "join" (bSlot 6)), (xStr (bE (xVal (.str " "))) "join" (bSlot 1)), (xVal .non), (xVal (.bl true)), (xVal (.int 0)), (xDict1 (xIx (bSlot 1) (bE (xVal (.int 0)))) (xVal (.int 1))), (xTup [(xSlot 6)]), (xNeg (xVal (.int 1))), (xTup [(xB1 .list (bSlot 6))]), (xTup [])])))),
    (sRet (xIx (bSlot 7) (bE (xCall (call ("_law_draw", none)) ["_law_state", "_law_size"] [(bSlot 0), (bE (xLen (bSlot 7)))] []))))])
def c__law_is_set (call : CallT) : FS := (sSeq [(sIf (tNot' (tTru (bE (xIsi (some 1) (bSlot 1) "tuple")))) (sSeq [(sRet (xVal (.bl false)))]) (sSeq [])),
    (sRet (xCmp .Eq (bE (xB1 .list (bSlot 1))) (bE (xLc [2] (iPlain (xSlot 0)) (gN 2) (tE (xCmp .In (bSlot 2) (bE (xB1 .list (bSlot 1))))) (xSlot 2)))))])
def c__law_made (T : Tb) (call : CallT) : FS := (sSeq [(sTry T (sSeq [(sRet (xList [(xVal (.str "things")), (xCall (call ("things_of", none)) ["names"] [(bSlot 0)] [])]))]) [("BadCount", some 1, (sSeq [(sRet (xList [(xVal (.str "count")), (xFld T.excs 1 "count")]))])), ("BadName", some 1, (sSeq [(sRet (xList [(xVal (.str "name")), (xFld T.excs 1 "name")]))])), ("DuplicateName", some 1, (sSeq [(sRet (xList [(xVal (.str "twice")), (xFld T.excs 1 "name")]))]))])])
def c__law_due (call : CallT) : FS := (sSeq [(sIf (tBool .Or [(tE (xCmp .Lt (bE (xLen (bSlot 0))) (bE (xVal (.int 1))))), (tE (xCmp .Gt (bE (xLen (bSlot 0))) (bE (xVal (.int 5)))))]) (sSeq [(sRet (xList [(xVal (.str "count")), (xLen (bSlot 0))]))]) (sSeq [])),
    (sFor (gN 1) (iRange [(xLen (bSlot 0))]) (sSeq [(sIf (tNot' (tTru (bE (xCall (call ("_law_good", none)) ["_law_word"] [(bE (xIx (bSlot 0) (bSlot 1)))] [])))) (sSeq [(sRet (xList [(xVal (.str "name")), (xIx (bSlot 0) (bSlot 1))]))]) (sSeq [])),
    (sIf (tE (xCmp .In (bE (xIx (bSlot 0) (bSlot 1))) (bE (xCut (bSlot 0) none (some (xSlot 1)))))) (sSeq [(sRet (xList [(xVal (.str "twice")), (xIx (bSlot 0) (bSlot 1))]))]) (sSeq []))])),
    (sRet (xList [(xVal (.str "things")), (xB1 .tuple (bE (xB1 .sorted (bSlot 0))))]))])
def c__law_cut (T : Tb) (call : CallT) : FS := (sSeq [(sTry T (sSeq [(sRet (xCall (call ("without", none)) ["menu", "name"] [(bSlot 0), (bSlot 1)] []))]) [("UnknownName", some 2, (sSeq [(sRet (xFld T.excs 2 "name"))]))])])
theorem ba_things_value_2 (d0 d1 : D) : bindA (α := D) ["things", "value"] [d0, d1] [] = some [d0, d1] := nr (by rfl)
theorem ba_law_state_law_size_2 (d0 d1 : D) : bindA (α := D) ["_law_state", "_law_size"] [d0, d1] [] = some [d0, d1] := nr (by rfl)
theorem ba_menu_name_2 (d0 d1 : D) : bindA (α := D) ["menu", "name"] [d0, d1] [] = some [d0, d1] := nr (by rfl)
def RNc := (And.intro (And.intro @q_ovv @ba_things_value_2) (And.intro @ba_law_state_law_size_2 @ba_menu_name_2))
end PX

set_option Elab.async false
set_option linter.all false
set_option maxRecDepth 100000
set_option maxHeartbeats 4000000
/-! PxC1: the program's defs about names and menus, the laws' like ones. -/
namespace PX
open PySem
def letters : Str := "abcdefghijklmnopqrstuvwxyz"
def digits : Str := "0123456789"
def okC (c : Nat) : Bool := decide (c ∈ letters.cps.toList) || decide (c ∈ digits.cps.toList)
def short : List Nat → Bool
  | [] => false
  | c :: r => decide ((c :: r).length ≤ 6) && decide (c ∈ letters.cps.toList)
def isNm : List Nat → Bool
  | [] => false
  | c :: r => decide ((c :: r).length ≤ 6) && decide (c ∈ letters.cps.toList) && (c :: r).all okC
theorem r_valid (call : CallT) (S : Stm) (l : List Nat) (hx : l.length ≤ sizeLine) : CO.of (c_valid_name call [.val (.str ⟨⟨l⟩⟩), .none] S) = .ok (.val (.bl (isNm l))) S := by
  have hl : Str.length ⟨⟨l⟩⟩ = l.length := rfl
  have b0 : bSlot 0 [.val (.str ⟨⟨l⟩⟩), .none] S = .ok (.dat (.str ⟨⟨l⟩⟩)) [.val (.str ⟨⟨l⟩⟩), .none] S := rfl
  have x0 : xSlot 0 [.val (.str ⟨⟨l⟩⟩), .none] S = .ok (.val (.str ⟨⟨l⟩⟩)) [.val (.str ⟨⟨l⟩⟩), .none] S := rfl
  have test : (tBool .Or [(tNot' (tE (xChain .LtE .LtE (bE (xVal (.int 1))) (bE (xLen (bSlot 0))) (bE (xVal (.int 6)))))), (tE (xCmp .NotIn (bE (xIx (bSlot 0) (bE (xVal (.int 0))))) (bE (xVal (.str "abcdefghijklmnopqrstuvwxyz")))))]) [.val (.str ⟨⟨l⟩⟩), .none] S =
      .ok (!short l) [.val (.str ⟨⟨l⟩⟩), .none] S := by
    cases l with
    | nil => simp [b0, len_str _ hx, short]
    | cons c r =>
      have h1 : (1 : Int) ≤ ((c :: r).length : Nat) := by simp; omega
      by_cases h6 : (c :: r).length ≤ 6
      · have h6' : ((c :: r).length : Nat) ≤ (6 : Int) := by omega
        simp only [short, decide_eq_true h6, Bool.true_and]
        simp only [b0, len_str _ hx, get_str0 _ _ hx, notin_sign, tBool_or, tBool_one, tNot_eq, tE_eq, xChain_eq, b2_eq, bE_eq, xV_eq, xVal_eq, bind_ok, ov_val, xLen_eq, resolve_eq, get_dat, lift_some, cmp_le, decide_eq_true h1, decide_eq_true h6', if_true, imm_int, bD_eq, xCmp_eq, xIx_eq, Bool.not_true, Bool.false_eq_true, if_false]
        rfl
      · have h6' : ¬ ((c :: r).length : Nat) ≤ (6 : Int) := by omega
        simp only [short, decide_eq_false h6, Bool.false_and]
        simp only [b0, len_str _ hx, tBool_or, tBool_one, tNot_eq, tE_eq, xChain_eq, b2_eq, bE_eq, xV_eq, xVal_eq, bind_ok, ov_val, xLen_eq, resolve_eq, get_dat, lift_some, cmp_le, decide_eq_true h1, decide_eq_false h6', if_true, imm_int, bD_eq, Bool.not_false]
  unfold c_valid_name
  by_cases hb : (!short l) = true
  · rw [hb] at test
    rw [seq_if_t test, seq_retv (xVal_eq _), then_ret, co_ret]
    have : isNm l = false := by
      cases l with
      | nil => rfl
      | cons c r =>
        simp only [Bool.not_eq_true', short] at hb
        simp only [isNm, hb, Bool.false_and]
    rw [this]
  · have hb : (!short l) = false := by simpa using hb
    rw [hb] at test
    have hn : isNm l = l.all okC := by
      cases l with
      | nil => cases hb
      | cons c r =>
        simp only [Bool.not_eq_false', short] at hb
        simp only [isNm, hb, Bool.true_and]
    rw [hn, seq_if_f test, seq_nil, then_nx]
    refine seq_for (R := fun o => CO.of o = .ok (.val (.bl (l.all okC))) S) (xs := l.map fun c => .str ⟨#[c]⟩) (en' := [.val (.str ⟨⟨l⟩⟩), .none]) (S' := S) (fun i en S' => S' = S ∧ (l.take i).all okC = true ∧ ∃ e, en = [.val (.str ⟨⟨l⟩⟩), e]) ?_ ⟨rfl, rfl, _, rfl⟩ ?_ ?_
    · simp only [iPlain_eq, xV_eq, x0, bind_ok, ov_val]
      rfl
    · rintro i d en S1 hd ⟨rfl, ha, e1, rfl⟩
      rw [List.getElem?_map] at hd
      cases hc : l[i]? with
      | none => rw [hc] at hd; cases hd
      | some c =>
        rw [hc] at hd; injection hd with hd; subst hd
        refine ⟨[.val (.str ⟨⟨l⟩⟩), .val (.str ⟨#[c]⟩)], rfl, ?_⟩
        have b1 : bSlot 1 [.val (.str ⟨⟨l⟩⟩), .val (.str ⟨#[c]⟩)] S1 = .ok (.dat (.str ⟨#[c]⟩)) [.val (.str ⟨⟨l⟩⟩), .val (.str ⟨#[c]⟩)] S1 := rfl
        have t2 : (tBool .And [(tE (xCmp .NotIn (bSlot 1) (bE (xVal (.str "abcdefghijklmnopqrstuvwxyz"))))), (tE (xCmp .NotIn (bSlot 1) (bE (xVal (.str "0123456789")))))]) [.val (.str ⟨⟨l⟩⟩), .val (.str ⟨#[c]⟩)] S1 = .ok (!okC c) [.val (.str ⟨⟨l⟩⟩), .val (.str ⟨#[c]⟩)] S1 := by
          simp only [tBool_and, tBool_one, tE_eq, xCmp_eq, b2_eq, b1, bE_eq, xV_eq, xVal_eq, bind_ok, ov_val, resolve_eq, get_dat, lift_some, notin_sign]
          unfold okC letters digits
          cases decide (c ∈ Array.toList (Str.cps "abcdefghijklmnopqrstuvwxyz")) <;> cases decide (c ∈ Array.toList (Str.cps "0123456789")) <;> rfl
        have tk : l.take (i + 1) = l.take i ++ [c] := by rw [List.take_add_one, hc]; rfl
        cases ho : okC c with
        | true =>
          rw [ho] at t2
          rw [seq_if_f t2, seq_nil, then_nx]
          exact ⟨rfl, by rw [tk, List.all_append, ha]; simp [ho], _, rfl⟩
        | false =>
          rw [ho] at t2
          rw [seq_if_t t2, seq_retv (xVal_eq _), then_ret]
          have : l.all okC = false := by
            rw [Bool.eq_false_iff, Ne, List.all_eq_true]
            intro h
            rw [h c (List.mem_of_getElem? hc)] at ho; cases ho
          rw [this]
          rfl
    · rintro en S1 ⟨rfl, ha, e1, rfl⟩
      simp only [List.length_map, List.take_length] at ha
      rw [ha]
      rfl
def HasValid (c : CallT) : Prop := ∀ (S : Stm) (x : Str), x.length ≤ 1000 → c ("valid_name", none) [.str x] S = .ok (.val (.bl (isNm x.cps.toList))) S
def HasGood (c : CallT) : Prop := ∀ (S : Stm) (x : Str), x.length ≤ 1000 → c ("_law_good", none) [.str x] S = .ok (.val (.bl (isNm x.cps.toList))) S
theorem sl_imp {n : Nat} (h : n ≤ 1000) : n ≤ sizeLine := Nat.le_trans h (by decide)
theorem has_valid {lo hi : CallT} (h : Is "valid_name" c_valid_name 1 1 lo hi) : HasValid hi := fun S x hx => (h _ S rfl).trans (r_valid lo S x.cps.toList (sl_imp hx))
theorem okC_mem (c : Nat) : decide (c ∈ (letters ++ digits).cps.toList) = okC c := by
  have : (letters ++ digits).cps.toList = letters.cps.toList ++ digits.cps.toList := by decide
  rw [this]
  unfold okC
  by_cases h1 : c ∈ letters.cps.toList <;> by_cases h2 : c ∈ digits.cps.toList <;> simp [h1, h2]
theorem none_bad : ∀ l : List Nat, (List.map (fun c => PX.D.str ⟨#[c]⟩) (List.filter (fun c => !okC c) l)).isEmpty = l.all okC
  | [] => rfl
  | c :: r => by
    have ih := none_bad r
    cases h : okC c with
    | true => simp only [List.filter_cons, h, Bool.not_true, Bool.false_eq_true, if_false, List.all_cons, Bool.true_and, ih]
    | false => simp [List.filter_cons, h]
theorem r_good (call : CallT) (S : Stm) (l : List Nat) (hx : l.length ≤ sizeLine) : CO.of (c__law_good call [.val (.str ⟨⟨l⟩⟩), .none, .none] S) = .ok (.val (.bl (isNm l))) S := by
  have hl : Str.length ⟨⟨l⟩⟩ = l.length := rfl
  unfold c__law_good
  rw [seq_set (xVal_eq _)]
  show CO.of (sSeq _ [.val (.str ⟨⟨l⟩⟩), .val (.str letters), .none] S) = _
  have b0 : bSlot 0 [.val (.str ⟨⟨l⟩⟩), .val (.str letters), .none] S = .ok (.dat (.str ⟨⟨l⟩⟩)) [.val (.str ⟨⟨l⟩⟩), .val (.str letters), .none] S := rfl
  have b1 : bSlot 1 [.val (.str ⟨⟨l⟩⟩), .val (.str letters), .none] S = .ok (.dat (.str letters)) [.val (.str ⟨⟨l⟩⟩), .val (.str letters), .none] S := rfl
  have x0 : xSlot 0 [.val (.str ⟨⟨l⟩⟩), .val (.str letters), .none] S = .ok (.val (.str ⟨⟨l⟩⟩)) [.val (.str ⟨⟨l⟩⟩), .val (.str letters), .none] S := rfl
  have test : (tBool .Or [(tE (xCmp .Lt (bE (xLen (bSlot 0))) (bE (xVal (.int 1))))), (tE (xCmp .Gt (bE (xLen (bSlot 0))) (bE (xVal (.int 6))))), (tE (xCmp .NotIn (bE (xIx (bSlot 0) (bE (xVal (.int 0))))) (bSlot 1)))]) [.val (.str ⟨⟨l⟩⟩), .val (.str letters), .none] S = .ok (!short l) [.val (.str ⟨⟨l⟩⟩), .val (.str letters), .none] S := by
    cases l with
    | nil => simp [b0, len_str _ hx, short]
    | cons c r =>
      have h1 : ¬ ((c :: r).length : Nat) < (1 : Int) := by simp; omega
      by_cases h6 : (c :: r).length ≤ 6
      · have h6' : ¬ (6 : Int) < ((c :: r).length : Nat) := by omega
        simp only [short, decide_eq_true h6, Bool.true_and]
        simp only [b0, b1, len_str _ hx, get_str0 _ _ hx, notin_sign, tBool_or, tBool_one, tE_eq, b2_eq, bE_eq, xV_eq, xVal_eq, bind_ok, ov_val, xLen_eq, resolve_eq, get_dat, lift_some, cmp_lt, cmp_gt, decide_eq_false h1, decide_eq_false h6', if_false, Bool.false_eq_true, xCmp_eq, xIx_eq]
      · have h6' : (6 : Int) < ((c :: r).length : Nat) := by omega
        simp only [short, decide_eq_false h6, Bool.false_and]
        simp only [b0, len_str _ hx, tBool_or, tBool_one, tE_eq, b2_eq, bE_eq, xV_eq, xVal_eq, bind_ok, ov_val, xLen_eq, resolve_eq, get_dat, lift_some, cmp_lt, cmp_gt, decide_eq_false h1, decide_eq_true h6', if_true, if_false, Bool.false_eq_true, xCmp_eq, Bool.not_false]
  by_cases hb : (!short l) = true
  · rw [hb] at test
    rw [seq_if_t test, seq_retv (xVal_eq _), then_ret, co_ret]
    have : isNm l = false := by
      cases l with
      | nil => rfl
      | cons c r =>
        simp only [Bool.not_eq_true', short] at hb
        simp only [isNm, hb, Bool.false_and]
    rw [this]
  · have hb : (!short l) = false := by simpa using hb
    rw [hb] at test
    have hn : isNm l = l.all okC := by
      cases l with
      | nil => cases hb
      | cons c r =>
        simp only [Bool.not_eq_false', short] at hb
        simp only [isNm, hb, Bool.true_and]
    rw [hn, seq_if_f test, seq_nil, then_nx]
    refine Exists.elim (turns_inv (vs := [2]) (tg := gN 2) (ifs := tE (xCmp .NotIn (bSlot 2) (bE (xBin .Add (bSlot 1) (bE (xVal (.str "0123456789"))))))) (elt := xSlot 2) (xs := l.map fun c => PX.D.str ⟨#[c]⟩) (S := S)
      (fun i acc en S' => S' = S ∧ acc = ((l.take i).filter fun c => !okC c).map (fun c => PX.D.str ⟨#[c]⟩) ∧ ∃ e, en = [.val (.str ⟨⟨l⟩⟩), .val (.str letters), e]) (en := [.val (.str ⟨⟨l⟩⟩), .val (.str letters), .none]) ⟨rfl, rfl, _, rfl⟩ ?_) ?_
    rotate_left
    · rintro ys ⟨en', S', ht, rfl, hys, e1, rfl⟩
      have hxl := xLc_of (vs := [2]) (it := iPlain (xSlot 0)) (tg := gN 2) (en := [.val (.str ⟨⟨l⟩⟩), .val (.str letters), .none]) (S := S') (en1 := [.val (.str ⟨⟨l⟩⟩), .val (.str letters), .none]) (S1 := S') (by simp only [iPlain_eq, xV_eq, x0, bind_ok, ov_val]; rfl) rfl ht
      have hys : ys.isEmpty = l.all okC := by
        rw [hys]
        simp only [List.length_map, List.take_length]
        exact none_bad l
      rw [seq_cons, sRet_eq]
      simp only [xCmp_eq, b2_eq, bE_eq, xV_eq, hxl, bind_ok, ov_own, o_lst, xList_eq, vAll_nil, resolve_eq, get_dat, lift_some]
      rw [if_pos (by decide)]
      simp only [bind_ok, ov_own, o_lst, get_dat, lift_some, resolve_eq, cmp_eq_nil, toS_ok, then_ret, co_ret, hys]
    · rintro i d acc en S1 hd ⟨rfl, ha, e1, rfl⟩
      rw [List.getElem?_map] at hd
      cases hc : l[i]? with
      | none => rw [hc] at hd; cases hd
      | some c =>
        rw [hc] at hd; injection hd with hd; subst hd
        have tk : l.take (i + 1) = l.take i ++ [c] := by rw [List.take_add_one, hc]; rfl
        refine ⟨[.val (.str ⟨⟨l⟩⟩), .val (.str letters), .val (.str ⟨#[c]⟩)], !okC c, [.val (.str ⟨⟨l⟩⟩), .val (.str letters), .val (.str ⟨#[c]⟩)], S1, rfl, ?_, ?_⟩
        · have c1 : bSlot 1 [.val (.str ⟨⟨l⟩⟩), .val (.str letters), .val (.str ⟨#[c]⟩)] S1 = .ok (.dat (.str letters)) [.val (.str ⟨⟨l⟩⟩), .val (.str letters), .val (.str ⟨#[c]⟩)] S1 := rfl
          have c2 : bSlot 2 [.val (.str ⟨⟨l⟩⟩), .val (.str letters), .val (.str ⟨#[c]⟩)] S1 = .ok (.dat (.str ⟨#[c]⟩)) [.val (.str ⟨⟨l⟩⟩), .val (.str letters), .val (.str ⟨#[c]⟩)] S1 := rfl
          have hb : binD .Add (.str letters) (.str "0123456789") = some (.val (.str (letters ++ digits))) := add_str _ _ (by decide)
          simp only [tE_eq, xCmp_eq, b2_eq, c1, c2, bE_eq, xV_eq, xVal_eq, xBin_eq, bind_ok, ov_val, resolve_eq, get_dat, lift_some, hb, notin_sign, okC_mem]
        · cases ho : okC c with
          | true =>
            exact ⟨rfl, by rw [tk, List.filter_append, ha]; simp [ho], _, rfl⟩
          | false =>
            refine ⟨.val (.str ⟨#[c]⟩), [.val (.str ⟨⟨l⟩⟩), .val (.str letters), .val (.str ⟨#[c]⟩)], S1, rfl, ?_, rfl, by rw [tk, List.filter_append, ha]; simp [ho], _, rfl⟩
            have := List.length_filter_le (fun c => !okC c) (l.take i)
            have h2 : i < l.length := (List.getElem?_eq_some_iff.mp hc).1
            rw [ha]
            simp only [List.length_map]
            rw [List.length_take] at this
            omega
theorem has_good {lo hi : CallT} (h : Is "_law_good" c__law_good 1 2 lo hi) : HasGood hi := fun S x hx => (h _ S rfl).trans (r_good lo S x.cps.toList (sl_imp hx))
/-- is it one of the names -/
def inM (m : List Str) : PX.D → Bool
  | .str x => decide (x ∈ m)
  | _ => false
theorem allBls_map (f : Str → Bool) : ∀ xs : List Str, allBls ((nm xs).map fun d => PX.D.bl (match d with | .str x => f x | _ => false)) = some (xs.map f)
  | [] => rfl
  | x :: r => by
    have ih := allBls_map f r
    show (allBls ((nm r).map fun d => PX.D.bl (match d with | .str x => f x | _ => false))).map (f x :: ·) = _
    rw [ih]; rfl
theorem in_tupD (x : Str) (m : List Str) : cmpD .In (.str x) (tupD m) = some (decide (x ∈ m)) := by
  rw [← nm_any]; exact in_tup x (nm_ok m 59)
theorem notin_tupD (x : Str) (m : List Str) : cmpD .NotIn (.str x) (tupD m) = some (!decide (x ∈ m)) := by
  rw [← nm_any]; exact notin_tup x (nm_ok m 59)
theorem r_contains (call : CallT) (S : Stm) (m o : List Str) (ho : o.length ≤ 1000) : CO.of (c_contains call [.val (tupD m), .val (tupD o), .none] S) = .ok (.val (.bl (o.all fun x => decide (x ∈ m)))) S := by
  unfold c_contains
  have lc : xLc [2] (iPlain (xSlot 1)) (gN 2) tYes' (xCmp .In (bSlot 2) (bSlot 0)) [.val (tupD m), .val (tupD o), .none] S = .ok (.own (.lst (((nm o).filter fun _ => true).map fun d => PX.D.bl (match d with | .str x => decide (x ∈ m) | _ => false)))) [.val (tupD m), .val (tupD o), .none] S := by
    refine lc_pure (xs := nm o) (fun _ => true) _ rfl rfl (Nat.lt_succ_self 2) (sl_imp (by simpa [nm] using ho)) (fun d _ => rfl) ?_
    intro d hd _
    obtain ⟨x, _, rfl⟩ := List.mem_map.mp hd
    refine ⟨.val (.bl (decide (x ∈ m))), ?_, rfl⟩
    have b2' : bSlot 2 ([Ent.val (tupD m), .val (tupD o), .none].set 2 (.val (.str x))) S = .ok (.dat (.str x)) ([Ent.val (tupD m), .val (tupD o), .none].set 2 (.val (.str x))) S := rfl
    have b0' : bSlot 0 ([Ent.val (tupD m), .val (tupD o), .none].set 2 (.val (.str x))) S = .ok (.dat (tupD m)) ([Ent.val (tupD m), .val (tupD o), .none].set 2 (.val (.str x))) S := rfl
    simp only [xCmp_eq, b2_eq, b2', b0', bind_ok, resolve_eq, get_dat, lift_some, in_tupD]
  rw [seq_cons, sRet_eq]
  simp only [xB1_eq, bD_eq, bE_eq, xV_eq, lc, bind_ok, ov_own, o_lst, filter_yes, resolve_eq, get_dat, lift_some]
  have hb : b1D .all (.lst ((nm o).map fun d => PX.D.bl (match d with | .str x => decide (x ∈ m) | _ => false))) = some (.val (.bl ((o.map fun x => decide (x ∈ m)).all id))) := by
    show (allBls _).map _ = _
    rw [allBls_map]; rfl
  rw [hb]
  simp only [lift_some, toS_ok, then_ret, co_ret, List.all_map]
  rfl
def HasContains (c : CallT) : Prop := ∀ (S : Stm) (m o : List Str), o.length ≤ 1000 → c ("contains", none) [tupD m, tupD o] S = .ok (.val (.bl (o.all fun x => decide (x ∈ m)))) S
theorem has_contains {lo hi : CallT} (h : Is "contains" c_contains 2 1 lo hi) : HasContains hi := fun S m o ho => (h _ S rfl).trans (r_contains lo S m o ho)
def HasRank (c : CallT) : Prop := ∀ (S : Stm) (m : List Str), c ("menu_rank", none) [tupD m] S = .ok (.val (rankD m)) S
theorem r_menu_rank (call : CallT) (S : Stm) (m : List Str) : CO.of (c_menu_rank call [.val (tupD m)] S) = .ok (.val (rankD m)) S := by
  unfold c_menu_rank
  have b0 : bSlot 0 [.val (tupD m)] S = .ok (.dat (tupD m)) [.val (tupD m)] S := rfl
  have x0 : xSlot 0 [.val (tupD m)] S = .ok (.val (tupD m)) [.val (tupD m)] S := rfl
  have hl : lenD (tupD m) = some m.length := by show some (nm m).length = _; simp [nm]
  rw [seq_cons, sRet_eq]
  simp only [xTup_eq, vAll_cons, vAll_nil, xV_eq, xLen_eq, b0, x0, bind_ok, resolve_eq, get_dat, lift_some, hl, ov_val, List.length_cons, List.length_nil]
  rw [if_pos (by decide)]
  rfl
theorem has_rank {lo hi : CallT} (h : Is "menu_rank" c_menu_rank 1 0 lo hi) : HasRank hi := fun S m => (h _ S rfl).trans (r_menu_rank lo S m)
/-- the menu without a name -/
theorem r_without (call : CallT) (S : Stm) (m : List Str) (x : Str) (hm : m.length ≤ 1000) : CO.of (c_without call [.val (tupD m), .val (.str x), .none] S) =
    if x ∈ m then .ok (.val (tupD (m.filter fun y => !decide (y = x)))) S else .err (.glo "UnknownName") [("name", .str x)] S := by
  unfold c_without
  have b0 : bSlot 0 [.val (tupD m), .val (.str x), .none] S = .ok (.dat (tupD m)) [.val (tupD m), .val (.str x), .none] S := rfl
  have b1 : bSlot 1 [.val (tupD m), .val (.str x), .none] S = .ok (.dat (.str x)) [.val (tupD m), .val (.str x), .none] S := rfl
  have x1 : xSlot 1 [.val (tupD m), .val (.str x), .none] S = .ok (.val (.str x)) [.val (tupD m), .val (.str x), .none] S := rfl
  have t0 : tE (xCmp .NotIn (bSlot 1) (bSlot 0)) [.val (tupD m), .val (.str x), .none] S = .ok (!decide (x ∈ m)) [.val (tupD m), .val (.str x), .none] S := by
    simp only [tE_eq, xCmp_eq, b2_eq, b0, b1, bind_ok, resolve_eq, get_dat, lift_some, notin_tupD]
  by_cases h : x ∈ m
  · rw [if_pos h]
    rw [seq_if_f (by rw [t0, decide_eq_true h]; rfl), seq_nil, then_nx]
    have lc : xLc [2] (iPlain (xSlot 0)) (gN 2) (tE (xCmp .NotEq (bSlot 2) (bSlot 1))) (xSlot 2) [.val (tupD m), .val (.str x), .none] S = .ok (.own (.lst (((nm m).filter fun d => !isS x d).map id))) [.val (tupD m), .val (.str x), .none] S := by
      refine lc_pure (xs := nm m) _ _ rfl rfl (Nat.lt_succ_self 2) (sl_imp (by simpa [nm] using hm)) ?_ ?_
      · intro d hd
        obtain ⟨y, _, rfl⟩ := List.mem_map.mp hd
        have c2 : bSlot 2 ([Ent.val (tupD m), .val (.str x), .none].set 2 (.val (.str y))) S = .ok (.dat (.str y)) ([Ent.val (tupD m), .val (.str x), .none].set 2 (.val (.str y))) S := rfl
        have c1 : bSlot 1 ([Ent.val (tupD m), .val (.str x), .none].set 2 (.val (.str y))) S = .ok (.dat (.str x)) ([Ent.val (tupD m), .val (.str x), .none].set 2 (.val (.str y))) S := rfl
        simp only [tE_eq, xCmp_eq, b2_eq, c2, c1, bind_ok, resolve_eq, get_dat, lift_some, cmp_ne_str]
        rfl
      · intro d hd _
        obtain ⟨y, _, rfl⟩ := List.mem_map.mp hd
        exact ⟨.val (.str y), rfl, rfl⟩
    rw [seq_cons, sRet_eq]
    simp only [xB1_eq, bD_eq, bE_eq, xV_eq, lc, bind_ok, ov_own, o_lst, resolve_eq, get_dat, lift_some]
    have hf : ((nm m).filter fun d => !isS x d).map id = nm (m.filter fun y => !decide (y = x)) := by
      rw [List.map_id]
      unfold nm
      rw [List.filter_map]
      rfl
    rw [hf]
    rfl
  · rw [if_neg h]
    rw [seq_if_t (by rw [t0, decide_eq_false h]; rfl), seq_cons]
    simp only [sRaise_eq, vAll_cons, vAll_nil, xV_eq, x1, bind_ok, ov_val, toS_ok, List.length_cons, List.length_nil]
    rfl
def HasWithout (c : CallT) : Prop := ∀ (S : Stm) (m : List Str) (x : Str), m.length ≤ 1000 → c ("without", none) [tupD m, .str x] S =
    if x ∈ m then .ok (.val (tupD (m.filter fun y => !decide (y = x)))) S else .err (.glo "UnknownName") [("name", .str x)] S
theorem has_without {lo hi : CallT} (h : Is "without" c_without 2 1 lo hi) : HasWithout hi := fun S m x hm => (h _ S rfl).trans (r_without lo S m x hm)
/-- all sets of names, in the order in which they are found -/
def stepF (xs : List (List Str)) (x : Str) : List (List Str) := xs ++ xs.map (· ++ [x])
def subs (P : List Str) : List (List Str) := P.foldl stepF [[]]
theorem subs_len (P : List Str) : (subs P).length = 2 ^ P.length := by
  have key : ∀ (P : List Str) (xs : List (List Str)), (P.foldl stepF xs).length = xs.length * 2 ^ P.length := by
    intro P
    induction P with
    | nil => intro xs; simp
    | cons x r ih =>
      intro xs
      rw [List.foldl_cons, ih]
      unfold stepF
      rw [List.length_append, List.length_map, List.length_cons, Nat.pow_succ]
      rw [← Nat.two_mul, Nat.mul_comm 2, Nat.mul_assoc, Nat.mul_comm 2]
  have := key P [[]]
  simpa [subs] using this
theorem subs_snoc (P : List Str) (x : Str) : subs (P ++ [x]) = stepF (subs P) x := by
  unfold subs
  rw [List.foldl_append]; rfl
theorem subs_le {P : List Str} (h : P.length ≤ 8) : (subs P).length ≤ 256 := by
  rw [subs_len]
  have := Nat.pow_le_pow_right (show 0 < 2 by omega) h
  omega
/-- the items of a tuple -/
def dsOf : D → List D
  | .tup ds => ds
  | _ => []
theorem subs_mem_len {P m : List Str} (h : m ∈ subs P) : m.length ≤ P.length := by
  have key : ∀ (Q : List Str) (xs : List (List Str)) (n : Nat), (∀ y ∈ xs, y.length ≤ n) → ∀ y ∈ Q.foldl stepF xs, y.length ≤ n + Q.length := by
    intro Q
    induction Q with
    | nil => intro xs n h y hy; simpa using h y hy
    | cons z r ih =>
      intro xs n h y hy
      rw [List.foldl_cons] at hy
      have := ih (stepF xs z) (n + 1) (by
        intro w hw
        unfold stepF at hw
        rcases List.mem_append.mp hw with hw | hw
        · have := h w hw; omega
        · obtain ⟨v, hv, rfl⟩ := List.mem_map.mp hw
          have := h v hv
          simp; omega) y hy
      rw [List.length_cons]; omega
  have := key P [[]] 0 (by simp) m h
  omega
theorem step_map (xs : List (List Str)) (x : Str) : (xs.map tupD).map (fun d => PX.D.tup (dsOf d ++ [.str x])) = (xs.map (· ++ [x])).map tupD := by
  rw [List.map_map, List.map_map]
  apply List.map_congr_left
  intro a _
  show PX.D.tup (nm a ++ [.str x]) = .tup (nm (a ++ [x]))
  unfold nm
  rw [List.map_append]; rfl
theorem keys_of {call : List PX.D → Stm → CO} {S : Stm} (h : ∀ m, call [tupD m] S = .ok (.val (rankD m)) S) : ∀ xs : List (List Str), keysOf call S (xs.map tupD) = some (xs.map rankD)
  | [] => rfl
  | x :: r => by
    have ih := keys_of h r
    show (match call [tupD x] S with | .ok (.val k) S' => if S' = S then (keysOf call S (r.map tupD)).map (k :: ·) else none | _ => none) = _
    rw [h]
    show (if S = S then _ else _) = _
    rw [if_pos rfl, ih]; rfl
/-- the sets in order -/
def setsIn (P : List Str) : List (List Str) := inOrder (subs P)
theorem r_all_sets (call : CallT) (hr : HasRank call) (S : Stm) (P : List Str) (hP : P.length ≤ 8) : CO.of (c_all_sets call [.val (tupD P), .none, .none, .none] S) = .ok (.own (.lst ((setsIn P).map tupD))) S := by
  unfold c_all_sets
  have x1 : xList [xTup []] [.val (tupD P), .none, .none, .none] S = .ok (.own (.lst [tupD []])) [.val (tupD P), .none, .none, .none] S := by
    simp only [xList_eq, vAll_cons, vAll_nil, xV_eq, xTup_eq, bind_ok]
    rfl
  rw [seq_set x1]
  show CO.of (sSeq _ [.val (tupD P), .own (.lst [tupD []]), .none, .none] S) = _
  refine seq_for (R := fun o => CO.of o = .ok (.own (.lst ((setsIn P).map tupD))) S) (xs := nm P) (en' := [.val (tupD P), .own (.lst [tupD []]), .none, .none]) (S' := S)
    (fun i en S' => S' = S ∧ ∃ e2, en = [.val (tupD P), .own (.lst ((subs (P.take i)).map tupD)), e2, .none]) ?_ ⟨rfl, _, rfl⟩ ?_ ?_
  · rfl
  · rintro i d en S1 hd ⟨rfl, e2, rfl⟩
    unfold nm at hd
    rw [List.getElem?_map] at hd
    cases hx : P[i]? with
    | none => rw [hx] at hd; cases hd
    | some x =>
      rw [hx] at hd; injection hd with hd; subst hd
      refine ⟨[.val (tupD P), .own (.lst ((subs (P.take i)).map tupD)), .val (.str x), .none], rfl, ?_⟩
      have hi : i < P.length := (List.getElem?_eq_some_iff.mp hx).1
      have hle : (subs (P.take i)).length ≤ 256 := subs_le (by rw [List.length_take]; omega)
      have tk : P.take (i + 1) = P.take i ++ [x] := by rw [List.take_add_one, hx]; rfl
      have lc : xLc [3] (iPlain (xSlot 1)) (gN 3) tYes' (xBin .Add (bSlot 3) (bE (xTup [xSlot 2]))) [.val (tupD P), .own (.lst ((subs (P.take i)).map tupD)), .val (.str x), .none] S1 =
          .ok (.own (.lst (((subs (P.take i)).map tupD).map fun d => PX.D.tup (dsOf d ++ [.str x])))) [.val (tupD P), .val (.lst ((subs (P.take i)).map tupD)), .val (.str x), .none] S1 := by
        refine lc_all (en := [.val (tupD P), .val (.lst ((subs (P.take i)).map tupD)), .val (.str x), .none]) (S := S1) (xs := (subs (P.take i)).map tupD) _ rfl rfl (Nat.lt_succ_self 3) (sl_imp (by rw [List.length_map]; omega)) ?_
        intro d hd
        obtain ⟨m, hm, rfl⟩ := List.mem_map.mp hd
        have hml : m.length ≤ 100 := by
          have := subs_mem_len hm
          rw [List.length_take] at this
          omega
        have c3 : bSlot 3 ([Ent.val (tupD P), .val (.lst ((subs (P.take i)).map tupD)), .val (.str x), .none].set 3 (.val (tupD m))) S1 = .ok (.dat (tupD m)) ([Ent.val (tupD P), .val (.lst ((subs (P.take i)).map tupD)), .val (.str x), .none].set 3 (.val (tupD m))) S1 := rfl
        have c2 : xSlot 2 ([Ent.val (tupD P), .val (.lst ((subs (P.take i)).map tupD)), .val (.str x), .none].set 3 (.val (tupD m))) S1 = .ok (.val (.str x)) ([Ent.val (tupD P), .val (.lst ((subs (P.take i)).map tupD)), .val (.str x), .none].set 3 (.val (tupD m))) S1 := rfl
        refine ⟨.val (.tup (nm m ++ [.str x])), ?_, rfl⟩
        have hadd : binD .Add (tupD m) (.tup [.str x]) = some (.val (.tup (nm m ++ [.str x]))) := add_tup _ _ (sl_imp (by simp [nm]; omega))
        simp only [xBin_eq, b2_eq, c3, bE_eq, xV_eq, xTup_eq, vAll_cons, vAll_nil, c2, bind_ok, ov_val, List.length_cons, List.length_nil]
        rw [if_pos (by decide)]
        simp only [bind_ok, ov_val, resolve_eq, get_dat, lift_some, hadd]
      have b1 : bSlot 1 [.val (tupD P), .own (.lst ((subs (P.take i)).map tupD)), .val (.str x), .none] S1 = .ok (.slot 1) [.val (tupD P), .own (.lst ((subs (P.take i)).map tupD)), .val (.str x), .none] S1 := rfl
      have hadd : binD .Add (.lst ((subs (P.take i)).map tupD)) (.lst (((subs (P.take i)).map tupD).map fun d => PX.D.tup (dsOf d ++ [.str x]))) = some (.own (.lst ((subs (P.take (i + 1))).map tupD))) := by
        rw [step_map, add_lst _ _ (sl_imp (by simp only [List.length_map]; omega)), ← List.map_append, tk, subs_snoc]
        rfl
      have g1 : (Opd.slot 1).get [.val (tupD P), .val (.lst ((subs (P.take i)).map tupD)), .val (.str x), .none] = some (.lst ((subs (P.take i)).map tupD)) := rfl
      have xb : xBin .Add (bSlot 1) (bE (xLc [3] (iPlain (xSlot 1)) (gN 3) tYes' (xBin .Add (bSlot 3) (bE (xTup [xSlot 2]))))) [.val (tupD P), .own (.lst ((subs (P.take i)).map tupD)), .val (.str x), .none] S1 =
          .ok (.own (.lst ((subs (P.take (i + 1))).map tupD))) [.val (tupD P), .val (.lst ((subs (P.take i)).map tupD)), .val (.str x), .none] S1 := by
        rw [xBin_eq, b2_eq, b1, bind_ok, bE_eq, xV_eq, lc]
        simp only [bind_ok, ov_own, o_lst, resolve_eq, g1, get_dat, lift_some, hadd]
      rw [seq_set xb]
      exact ⟨rfl, _, rfl⟩
  · rintro en S1 ⟨rfl, e2, rfl⟩
    have ht : P.take (nm P).length = P := by simp [nm]
    rw [ht]
    have b1 : bSlot 1 [.val (tupD P), .own (.lst ((subs P).map tupD)), e2, .none] S1 = .ok (.slot 1) [.val (tupD P), .own (.lst ((subs P).map tupD)), e2, .none] S1 := rfl
    have g1 : (Opd.slot 1).get [.val (tupD P), .own (.lst ((subs P).map tupD)), e2, .none] = some (.lst ((subs P).map tupD)) := rfl
    have hk := keys_of (fun m => hr S1 m) (subs P)
    have hs : sortKX ((subs P).map rankD) ((subs P).map tupD) = some (.own (.lst ((setsIn P).map tupD))) := by
      unfold sortKX
      rw [if_pos (rank_ok _ (sl_imp (by have := subs_le hP; omega))), key_sort]; rfl
    have xs : xSortK (call ("menu_rank", none)) (bSlot 1) [.val (tupD P), .own (.lst ((subs P).map tupD)), e2, .none] S1 = .ok (.own (.lst ((setsIn P).map tupD))) [.val (tupD P), .own (.lst ((subs P).map tupD)), e2, .none] S1 := by
      unfold xSortK
      simp only [bD_eq, b1, bind_ok, resolve_eq, g1, lift_some, hk, hs]
    rw [seq_retv xs]
    rfl
def HasSets (c : CallT) : Prop := ∀ (S : Stm) (P : List Str), P.length ≤ 8 → c ("all_sets", none) [tupD P] S = .ok (.own (.lst ((setsIn P).map tupD))) S
theorem has_sets {lo hi : CallT} (h : Is "all_sets" c_all_sets 1 3 lo hi) (r : HasRank lo) : HasSets hi := fun S P hP => (h _ S rfl).trans (r_all_sets lo r S P hP)
theorem xIsi_val {en : En} {S : Stm} {i : Nat} {d : PX.D} {t : Str} {b : Bool} (h : en[i]? = some (.val d)) (ht : isTyp d t = some b) : xIsi (some i) (bSlot i) t en S = .ok (.val (.bl b)) en S := by
  have hb := bSlot_val (S := S) h
  show (match (match en[i]? with | some (.exc C fs) => some (C, fs) | _ => none : Option (PX.D × List (Str × PX.D))) with | some _ => Out.bad | none => _) = _
  rw [h]
  simp only [bD_eq, hb, bind_ok, resolve_eq, get_dat, lift_some, ht]
/-- the menus in order -/
def menus (P : List Str) : List (List Str) := (setsIn P).drop 1
theorem r_all_menus (call : CallT) (hs : HasSets call) (S : Stm) (P : List Str) (hP : P.length ≤ 8) : CO.of (c_all_menus call [.val (tupD P)] S) = .ok (.own (.lst ((menus P).map tupD))) S := by
  unfold c_all_menus
  have b0 : bSlot 0 [.val (tupD P)] S = .ok (.dat (tupD P)) [.val (tupD P)] S := rfl
  have c1 : xCall (call ("all_sets", none)) ["things"] [bSlot 0] [] [.val (tupD P)] S = .ok (.own (.lst ((setsIn P).map tupD))) [.val (tupD P)] S := by
    rw [call1 b0, hs S P hP]
    exact end_ok rfl
  have hcut : cutOV (.lst ((setsIn P).map tupD)) (some 1) none = some (.own (.lst ((menus P).map tupD))) := by
    show some (OV.own (.lst (PX.cutD ((setsIn P).map tupD) (some 1) none))) = _
    rw [cut1]
    unfold menus
    rw [List.map_drop]
  have xc : xCut (bE (xCall (call ("all_sets", none)) ["things"] [bSlot 0] [])) (some (xVal (.int 1))) none [.val (tupD P)] S = .ok (.own (.lst ((menus P).map tupD))) [.val (tupD P)] S := by
    rw [xCut_eq, bE_eq, xV_eq, c1]
    simp only [bind_ok, ov_own, o_lst, xPart_some, xPart_none, xV_eq, xVal_eq, ov_val, partI, lift_some, resolve_eq, get_dat, hcut]
  rw [seq_retv xc]
  rfl
def HasMenus (c : CallT) : Prop := ∀ (S : Stm) (P : List Str), P.length ≤ 8 → c ("all_menus", none) [tupD P] S = .ok (.own (.lst ((menus P).map tupD))) S
theorem has_menus {lo hi : CallT} (h : Is "all_menus" c_all_menus 1 0 lo hi) (r : HasSets lo) : HasMenus hi := fun S P hP => (h _ S rfl).trans (r_all_menus lo r S P hP)
/-- what a value is as a set of the names -/
def partB (P : List Str) : PX.D → Bool
  | .tup ds => eqN ds (P.filter fun x => ds.any (isS x))
  | _ => false
/-- a value that may be asked -/
def GoodT (d : PX.D) : Prop := (∃ ds, d = .tup ds ∧ ds.all (okD 50) = true ∧ ds.length ≤ 1000) ∨ (isTyp d "tuple" = some false ∧ ∀ ds, d ≠ .tup ds)
def HasPart (c : CallT) : Prop := ∀ (S : Stm) (P : List Str), P.length ≤ 1000 → ∀ d : PX.D, GoodT d → c ("is_part", none) [tupD P, d] S = .ok (.val (.bl (partB P d))) S
def HasIsSet (c : CallT) : Prop := ∀ (S : Stm) (P : List Str), P.length ≤ 1000 → ∀ d : PX.D, GoodT d → c ("_law_is_set", none) [tupD P, d] S = .ok (.val (.bl (partB P d))) S
theorem ok60 {ds : List PX.D} (h : ds.all (okD 50) = true) : ds.all (okD 60) = true := by
  rw [List.all_eq_true] at h ⊢
  exact fun x hx => okD_mono (by omega) (h x hx)
theorem filt_nm (P : List Str) (f : Str → Bool) : ((nm P).filter fun d => match d with | .str x => f x | _ => false) = nm (P.filter f) := by
  unfold nm
  rw [List.filter_map]
  rfl
theorem r_is_part (call : CallT) (S : Stm) (P : List Str) (hP : P.length ≤ 1000) (d : PX.D) (hd : GoodT d) : CO.of (c_is_part call [.val (tupD P), .val d, .none] S) = .ok (.val (.bl (partB P d))) S := by
  unfold c_is_part
  rcases hd with ⟨ds, rfl, ho, hl⟩ | ⟨ht, hn⟩
  · have xi : xIsi (some 1) (bSlot 1) "tuple" [.val (tupD P), .val (.tup ds), .none] S = .ok (.val (.bl true)) [.val (tupD P), .val (.tup ds), .none] S := xIsi_val rfl rfl
    rw [seq_if_f (en' := [.val (tupD P), .val (.tup ds), .none]) (S' := S) (by
      simp only [tNot_eq, tTru_eq, bD_eq, bE_eq, xV_eq, xi, bind_ok, ov_val, resolve_eq, get_dat, lift_some, truD, Bool.not_true]), seq_nil, then_nx]
    have lc : xLc [2] (iPlain (xSlot 0)) (gN 2) (tE (xCmp .In (bSlot 2) (bSlot 1))) (xSlot 2) [.val (tupD P), .val (.tup ds), .none] S = .ok (.own (.lst (((nm P).filter fun d => match d with | .str x => ds.any (isS x) | _ => false).map id))) [.val (tupD P), .val (.tup ds), .none] S := by
      refine lc_pure (xs := nm P) _ _ rfl rfl (Nat.lt_succ_self 2) (sl_imp (by simpa [nm] using hP)) ?_ ?_
      · intro d hd
        obtain ⟨x, _, rfl⟩ := List.mem_map.mp hd
        have c2 : bSlot 2 ([Ent.val (tupD P), .val (.tup ds), .none].set 2 (.val (.str x))) S = .ok (.dat (.str x)) ([Ent.val (tupD P), .val (.tup ds), .none].set 2 (.val (.str x))) S := rfl
        have c1 : bSlot 1 ([Ent.val (tupD P), .val (.tup ds), .none].set 2 (.val (.str x))) S = .ok (.dat (.tup ds)) ([Ent.val (tupD P), .val (.tup ds), .none].set 2 (.val (.str x))) S := rfl
        simp only [tE_eq, xCmp_eq, b2_eq, c2, c1, bind_ok, resolve_eq, get_dat, lift_some, in_tup x (ok60 ho)]
      · intro d hd _
        obtain ⟨x, _, rfl⟩ := List.mem_map.mp hd
        exact ⟨.val (.str x), rfl, rfl⟩
    rw [filt_nm, List.map_id] at lc
    have b1 : bSlot 1 [.val (tupD P), .val (.tup ds), .none] S = .ok (.dat (.tup ds)) [.val (tupD P), .val (.tup ds), .none] S := rfl
    have l1 : b1D .list (.tup ds) = some (.own (.lst ds)) := rfl
    have xc : xCmp .Eq (bE (xB1 .list (bSlot 1))) (bE (xLc [2] (iPlain (xSlot 0)) (gN 2) (tE (xCmp .In (bSlot 2) (bSlot 1))) (xSlot 2))) [.val (tupD P), .val (.tup ds), .none] S = .ok (.val (.bl (partB P (.tup ds)))) [.val (tupD P), .val (.tup ds), .none] S := by
      rw [xCmp_eq, b2_eq, bE_eq, xV_eq, xB1_eq, bD_eq, b1]
      simp only [bind_ok, resolve_eq, get_dat, lift_some, l1, ov_own, o_lst]
      rw [bE_eq, xV_eq, lc]
      simp only [bind_ok, ov_own, o_lst, resolve_eq, get_dat, lift_some, cmp_names _ ho]
      rfl
    rw [seq_retv xc]; rfl
  · have xi : xIsi (some 1) (bSlot 1) "tuple" [.val (tupD P), .val d, .none] S = .ok (.val (.bl false)) [.val (tupD P), .val d, .none] S := xIsi_val rfl ht
    rw [seq_if_t (en' := [.val (tupD P), .val d, .none]) (S' := S) (by
      simp only [tNot_eq, tTru_eq, bD_eq, bE_eq, xV_eq, xi, bind_ok, ov_val, resolve_eq, get_dat, lift_some, truD, Bool.not_false]), seq_retv (xVal_eq _), then_ret]
    have : partB P d = false := by cases d <;> first | rfl | exact absurd rfl (hn _)
    rw [this]; rfl
theorem r_is_set (call : CallT) (S : Stm) (P : List Str) (hP : P.length ≤ 1000) (d : PX.D) (hd : GoodT d) : CO.of (c__law_is_set call [.val (tupD P), .val d, .none] S) = .ok (.val (.bl (partB P d))) S := by
  unfold c__law_is_set
  rcases hd with ⟨ds, rfl, ho, hl⟩ | ⟨ht, hn⟩
  · have xi : xIsi (some 1) (bSlot 1) "tuple" [.val (tupD P), .val (.tup ds), .none] S = .ok (.val (.bl true)) [.val (tupD P), .val (.tup ds), .none] S := xIsi_val rfl rfl
    rw [seq_if_f (en' := [.val (tupD P), .val (.tup ds), .none]) (S' := S) (by
      simp only [tNot_eq, tTru_eq, bD_eq, bE_eq, xV_eq, xi, bind_ok, ov_val, resolve_eq, get_dat, lift_some, truD, Bool.not_true]), seq_nil, then_nx]
    have l1 : b1D .list (.tup ds) = some (.own (.lst ds)) := rfl
    have lc : xLc [2] (iPlain (xSlot 0)) (gN 2) (tE (xCmp .In (bSlot 2) (bE (xB1 .list (bSlot 1))))) (xSlot 2) [.val (tupD P), .val (.tup ds), .none] S = .ok (.own (.lst (((nm P).filter fun d => match d with | .str x => ds.any (isS x) | _ => false).map id))) [.val (tupD P), .val (.tup ds), .none] S := by
      refine lc_pure (xs := nm P) _ _ rfl rfl (Nat.lt_succ_self 2) (sl_imp (by simpa [nm] using hP)) ?_ ?_
      · intro d hd
        obtain ⟨x, _, rfl⟩ := List.mem_map.mp hd
        have c2 : bSlot 2 ([Ent.val (tupD P), .val (.tup ds), .none].set 2 (.val (.str x))) S = .ok (.dat (.str x)) ([Ent.val (tupD P), .val (.tup ds), .none].set 2 (.val (.str x))) S := rfl
        have c1 : bSlot 1 ([Ent.val (tupD P), .val (.tup ds), .none].set 2 (.val (.str x))) S = .ok (.dat (.tup ds)) ([Ent.val (tupD P), .val (.tup ds), .none].set 2 (.val (.str x))) S := rfl
        simp only [tE_eq, xCmp_eq, b2_eq, c2, bE_eq, xV_eq, xB1_eq, bD_eq, c1, bind_ok, resolve_eq, get_dat, lift_some, l1, ov_own, o_lst, in_lst x (ok60 ho)]
      · intro d hd _
        obtain ⟨x, _, rfl⟩ := List.mem_map.mp hd
        exact ⟨.val (.str x), rfl, rfl⟩
    rw [filt_nm, List.map_id] at lc
    have b1 : bSlot 1 [.val (tupD P), .val (.tup ds), .none] S = .ok (.dat (.tup ds)) [.val (tupD P), .val (.tup ds), .none] S := rfl
    have xc : xCmp .Eq (bE (xB1 .list (bSlot 1))) (bE (xLc [2] (iPlain (xSlot 0)) (gN 2) (tE (xCmp .In (bSlot 2) (bE (xB1 .list (bSlot 1))))) (xSlot 2))) [.val (tupD P), .val (.tup ds), .none] S = .ok (.val (.bl (partB P (.tup ds)))) [.val (tupD P), .val (.tup ds), .none] S := by
      rw [xCmp_eq, b2_eq, bE_eq, xV_eq, xB1_eq, bD_eq, b1]
      simp only [bind_ok, resolve_eq, get_dat, lift_some, l1, ov_own, o_lst]
      rw [bE_eq, xV_eq, lc]
      simp only [bind_ok, ov_own, o_lst, resolve_eq, get_dat, lift_some, cmp_names _ ho]
      rfl
    rw [seq_retv xc]; rfl
  · have xi : xIsi (some 1) (bSlot 1) "tuple" [.val (tupD P), .val d, .none] S = .ok (.val (.bl false)) [.val (tupD P), .val d, .none] S := xIsi_val rfl ht
    rw [seq_if_t (en' := [.val (tupD P), .val d, .none]) (S' := S) (by
      simp only [tNot_eq, tTru_eq, bD_eq, bE_eq, xV_eq, xi, bind_ok, ov_val, resolve_eq, get_dat, lift_some, truD, Bool.not_false]), seq_retv (xVal_eq _), then_ret]
    have : partB P d = false := by cases d <;> first | rfl | exact absurd rfl (hn _)
    rw [this]; rfl
theorem has_part {lo hi : CallT} (h : Is "is_part" c_is_part 2 1 lo hi) : HasPart hi := fun S P hP d hd => (h _ S rfl).trans (r_is_part lo S P hP d hd)
theorem has_is_set {lo hi : CallT} (h : Is "_law_is_set" c__law_is_set 2 1 lo hi) : HasIsSet hi := fun S P hP d hd => (h _ S rfl).trans (r_is_set lo S P hP d hd)
/-- .. not empty -/
def nonE : PX.D → Bool
  | .tup ds => !ds.isEmpty
  | _ => false
def menuB (P : List Str) (d : PX.D) : Bool := partB P d && nonE d
theorem xBool_and2 {en en1 en2 : En} {S S1 S2 : Stm} {e f : FE} {a b : Bool} (h1 : e en S = .ok (.val (.bl a)) en1 S1) (h2 : a = true → f en1 S1 = .ok (.val (.bl b)) en2 S2) (h3 : a = false → en2 = en1 ∧ S2 = S1) :
    xBool .And [e, f] en S = .ok (.val (.bl (a && b))) en2 S2 := by
  show (xV e en S).bind _ = _
  rw [xV_eq, h1]
  cases a with
  | true => exact h2 rfl
  | false => obtain ⟨rfl, rfl⟩ := h3 rfl; rfl
theorem r_is_menu (call : CallT) (hp : HasPart call) (S : Stm) (P : List Str) (hP : P.length ≤ 1000) (d : PX.D) (hd : GoodT d) : CO.of (c_is_menu call [.val (tupD P), .val d] S) = .ok (.val (.bl (menuB P d))) S := by
  unfold c_is_menu
  have b0 : bSlot 0 [.val (tupD P), .val d] S = .ok (.dat (tupD P)) [.val (tupD P), .val d] S := rfl
  have b1 : bSlot 1 [.val (tupD P), .val d] S = .ok (.dat d) [.val (tupD P), .val d] S := rfl
  have c1 : xCall (call ("is_part", none)) ["things", "value"] [bSlot 0, bSlot 1] [] [.val (tupD P), .val d] S = .ok (.val (.bl (partB P d))) [.val (tupD P), .val d] S := by
    rw [call2 (by decide) b0 b1, hp S P hP d hd]
    exact end_ok rfl
  have xb := xBool_and2 (e := xCall (call ("is_part", none)) ["things", "value"] [bSlot 0, bSlot 1] []) (f := xCmp .NotEq (bSlot 1) (bE (xTup []))) (en2 := [.val (tupD P), .val d]) (S2 := S) (b := nonE d) c1 (fun h => by
      cases d with
      | tup ds =>
        simp only [xCmp_eq, b2_eq, b1, bE_eq, xV_eq, xTup_eq, vAll_nil, bind_ok, List.length_nil]
        rw [if_pos (by decide)]
        simp only [bind_ok, ov_val, resolve_eq, get_dat, lift_some, cmp_ne_tup0]
        rfl
      | _ => cases h) (fun _ => ⟨rfl, rfl⟩)
  rw [seq_retv xb]; rfl
def HasMenu (c : CallT) : Prop := ∀ (S : Stm) (P : List Str), P.length ≤ 1000 → ∀ d : PX.D, GoodT d → c ("is_menu", none) [tupD P, d] S = .ok (.val (.bl (menuB P d))) S
theorem has_menu {lo hi : CallT} (h : Is "is_menu" c_is_menu 2 0 lo hi) (r : HasPart lo) : HasMenu hi := fun S P hP d hd => (h _ S rfl).trans (r_is_menu lo r S P hP d hd)
/-- the first error that is due -/
def firstE : List Str → List Str → Option (Bool × Str)
  | _, [] => none
  | seen, x :: r => if isNm x.cps.toList = true then (if x ∈ seen then some (true, x) else firstE (seen ++ [x]) r) else some (false, x)
def errC (b : Bool) : Str := if b then "DuplicateName" else "BadName"
/-- the things in order -/
def sortedT (xs : List Str) : PX.D := .tup ((nm xs).mergeSort leE)
def thingsR (xs : List Str) (S : Stm) : CO :=
  if 1 ≤ xs.length ∧ xs.length ≤ 5 then (match firstE [] xs with
    | some (b, x) => .err (.glo (errC b)) [("name", .str x)] S
    | none => .ok (.val (sortedT xs)) S)
  else .err (.glo "BadCount") [("count", .int (xs.length : Nat))] S
theorem valid_call1 {call : CallT} (hv : HasValid call) {b : FB} {en en1 : En} {S S1 : Stm} {x : Str} (hx : x.length ≤ 1000) (hb : b en S = .ok (.dat (.str x)) en1 S1) : xCall (call ("valid_name", none)) ["text"] [b] [] en S = .ok (.val (.bl (isNm x.cps.toList))) en1 S1 := by
  rw [call1 hb, hv S1 x hx]
  exact end_ok rfl
theorem r_things (call : CallT) (hv : HasValid call) (S : Stm) (xs : List Str) (d : PX.D) (hl : lenD d = some xs.length) (hi : itemsD d = some (nm xs)) (hx : ∀ x ∈ xs, x.length ≤ 1000) : CO.of (c_things_of call [.val d, .none, .none] S) = thingsR xs S := by
  unfold c_things_of
  have b0 : bSlot 0 [.val d, .none, .none] S = .ok (.dat d) [.val d, .none, .none] S := rfl
  have xl : xLen (bSlot 0) [.val d, .none, .none] S = .ok (.val (.int (xs.length : Nat))) [.val d, .none, .none] S := by
    simp only [xLen_eq, b0, bind_ok, resolve_eq, get_dat, lift_some, hl]
  have test : tNot' (tE (xChain .LtE .LtE (bE (xVal (.int 1))) (bE (xLen (bSlot 0))) (bE (xVal (.int 5))))) [.val d, .none, .none] S = .ok (!decide (1 ≤ xs.length ∧ xs.length ≤ 5)) [.val d, .none, .none] S := by
    by_cases h1 : 1 ≤ xs.length
    · have h1' : (1 : Int) ≤ (xs.length : Nat) := by omega
      by_cases h5 : xs.length ≤ 5
      · have h5' : ((xs.length : Nat) : Int) ≤ 5 := by omega
        simp only [tNot_eq, tE_eq, xChain_eq, b2_eq, bE_eq, xV_eq, xVal_eq, xl, bind_ok, ov_val, resolve_eq, get_dat, lift_some, cmp_le, decide_eq_true h1', decide_eq_true h5', if_true, imm_int, bD_eq]
        simp [h1, h5]
      · have h5' : ¬ ((xs.length : Nat) : Int) ≤ 5 := by omega
        simp only [tNot_eq, tE_eq, xChain_eq, b2_eq, bE_eq, xV_eq, xVal_eq, xl, bind_ok, ov_val, resolve_eq, get_dat, lift_some, cmp_le, decide_eq_true h1', decide_eq_false h5', if_true, imm_int, bD_eq]
        simp [h5]
    · have h1' : ¬ (1 : Int) ≤ (xs.length : Nat) := by omega
      simp only [tNot_eq, tE_eq, xChain_eq, b2_eq, bE_eq, xV_eq, xVal_eq, xl, bind_ok, ov_val, resolve_eq, get_dat, lift_some, cmp_le, decide_eq_false h1', Bool.false_eq_true, if_false]
      simp [h1]
  unfold thingsR
  by_cases hc : 1 ≤ xs.length ∧ xs.length ≤ 5
  case neg =>
    rw [if_neg hc]
    rw [seq_if_t (by rw [test, decide_eq_false hc]; rfl), seq_cons]
    simp only [sRaise_eq, vAll_cons, vAll_nil, xV_eq, xl, bind_ok, ov_val, toS_ok, List.length_cons, List.length_nil]
    rfl
  rw [if_pos hc, seq_if_f (by rw [test, decide_eq_true hc]; rfl), seq_nil, then_nx]
  have x1 : xList [] [.val d, .none, .none] S = .ok (.own (.lst [])) [.val d, .none, .none] S := rfl
  rw [seq_set x1]
  show CO.of (sSeq _ [.val d, .own (.lst []), .none] S) = _
  refine seq_for (R := fun o => CO.of o = _) (xs := nm xs) (en' := [.val d, .own (.lst []), .none]) (S' := S)
    (fun i en S' => S' = S ∧ (∃ e2, en = [.val d, .own (.lst (nm (xs.take i))), e2]) ∧ firstE (xs.take i) (xs.drop i) = firstE [] xs) ?_ ⟨rfl, ⟨_, rfl⟩, rfl⟩ ?_ ?_
  · have xs0 : xSlot 0 [.val d, .own (.lst []), .none] S = .ok (.val d) [.val d, .own (.lst []), .none] S := rfl
    simp only [iPlain_eq, xV_eq, xs0, bind_ok, ov_val, hi, lift_some]
  · rintro i y en S1 hy ⟨rfl, ⟨e2, rfl⟩, hf⟩
    unfold nm at hy
    rw [List.getElem?_map] at hy
    cases hxi : xs[i]? with
    | none => rw [hxi] at hy; cases hy
    | some x =>
      rw [hxi] at hy; injection hy with hy; subst hy
      have hxl := hx x (List.mem_of_getElem? hxi)
      have hil : i < xs.length := (List.getElem?_eq_some_iff.mp hxi).1
      have hdr : xs.drop i = x :: xs.drop (i + 1) := by
        rw [List.drop_eq_getElem_cons hil]
        congr 1
        exact (List.getElem?_eq_some_iff.mp hxi).2
      have tk : xs.take (i + 1) = xs.take i ++ [x] := by rw [List.take_add_one, hxi]; rfl
      rw [hdr, firstE] at hf
      refine ⟨[.val d, .own (.lst (nm (xs.take i))), .val (.str x)], rfl, ?_⟩
      have c2 : bSlot 2 [.val d, .own (.lst (nm (xs.take i))), .val (.str x)] S1 = .ok (.dat (.str x)) [.val d, .own (.lst (nm (xs.take i))), .val (.str x)] S1 := rfl
      have s2 : xSlot 2 [.val d, .own (.lst (nm (xs.take i))), .val (.str x)] S1 = .ok (.val (.str x)) [.val d, .own (.lst (nm (xs.take i))), .val (.str x)] S1 := rfl
      have c1 : bSlot 1 [.val d, .own (.lst (nm (xs.take i))), .val (.str x)] S1 = .ok (.slot 1) [.val d, .own (.lst (nm (xs.take i))), .val (.str x)] S1 := rfl
      have g1 : (Opd.slot 1).get [.val d, .own (.lst (nm (xs.take i))), .val (.str x)] = some (.lst (nm (xs.take i))) := rfl
      have vc := valid_call1 hv (S := S1) hxl c2
      have tv : tNot' (tTru (bE (xCall (call ("valid_name", none)) ["text"] [(bSlot 2)] []))) [.val d, .own (.lst (nm (xs.take i))), .val (.str x)] S1 = .ok (!isNm x.cps.toList) [.val d, .own (.lst (nm (xs.take i))), .val (.str x)] S1 := by
        rw [tNot_eq, tTru_eq, bD_eq, bE_eq, xV_eq, vc]
        rfl
      cases hv : isNm x.cps.toList with
      | false =>
        rw [hv] at hf tv
        rw [if_neg (by simp)] at hf
        rw [seq_if_t tv, seq_cons]
        simp only [sRaise_eq, vAll_cons, vAll_nil, xV_eq, s2, bind_ok, ov_val, toS_ok, List.length_cons, List.length_nil]
        rw [← hf]
        rfl
      | true =>
        rw [hv] at hf tv
        rw [if_pos rfl] at hf
        rw [seq_if_f tv, seq_nil, then_nx]
        have ti : tE (xCmp .In (bSlot 2) (bSlot 1)) [.val d, .own (.lst (nm (xs.take i))), .val (.str x)] S1 = .ok (decide (x ∈ xs.take i)) [.val d, .own (.lst (nm (xs.take i))), .val (.str x)] S1 := by
          simp only [tE_eq, xCmp_eq, b2_eq, c2, c1, bind_ok, resolve_eq, get_dat, g1, lift_some, in_lst x (nm_ok _ 59), nm_any]
        by_cases hin : x ∈ xs.take i
        · rw [if_pos hin] at hf
          rw [seq_if_t (by rw [ti, decide_eq_true hin]), seq_cons]
          simp only [sRaise_eq, vAll_cons, vAll_nil, xV_eq, s2, bind_ok, ov_val, toS_ok, List.length_cons, List.length_nil]
          rw [← hf]
          rfl
        · rw [if_neg hin] at hf
          rw [seq_if_f (by rw [ti, decide_eq_false hin]), seq_nil, then_nx]
          have xm : xMut 1 "append" [(xSlot 2)] [.val d, .own (.lst (nm (xs.take i))), .val (.str x)] S1 = .ok (.val .non) [.val d, .own (.lst (nm (xs.take (i + 1)))), .val (.str x)] S1 := by
            have e3 : nm (xs.take (i + 1)) = nm (xs.take i) ++ [.str x] := by rw [tk]; unfold nm; rw [List.map_append]; rfl
            rw [mut_append (xs := nm (xs.take i)) rfl s2 rfl (by
              have : (nm (xs.take i)).length ≤ 5 := by simp [nm]; omega
              have h2 : 5 < sizeLine := by decide
              omega), e3]
            rfl
          rw [seq_expr xm]
          exact ⟨rfl, ⟨_, rfl⟩, by rw [tk]; exact hf⟩
  · rintro en S1 ⟨rfl, ⟨e2, rfl⟩, hf⟩
    have ht : xs.take (nm xs).length = xs := by simp [nm]
    have hdp : xs.drop (nm xs).length = [] := by simp [nm]
    rw [ht, hdp] at hf
    have hf : none = firstE [] xs := hf
    rw [← hf, ht]
    have c1 : bSlot 1 [.val d, .own (.lst (nm xs)), e2] S1 = .ok (.slot 1) [.val d, .own (.lst (nm xs)), e2] S1 := rfl
    have g1 : (Opd.slot 1).get [.val d, .own (.lst (nm xs)), e2] = some (.lst (nm xs)) := rfl
    have hs : b1D .sorted (.lst (nm xs)) = some (.own (.lst ((nm xs).mergeSort leE))) := sort_nm xs (sl_imp (by omega))
    have xt : xB1 .tuple (bE (xB1 .sorted (bSlot 1))) [.val d, .own (.lst (nm xs)), e2] S1 = .ok (.val (sortedT xs)) [.val d, .own (.lst (nm xs)), e2] S1 := by
      rw [xB1_eq, bD_eq, bE_eq, xV_eq, xB1_eq, bD_eq, c1]
      simp only [bind_ok, resolve_eq, g1, lift_some, hs, ov_own, o_lst, get_dat]
      rfl
    rw [seq_retv xt]
    rfl
def HasThings (c : CallT) : Prop := ∀ (S : Stm) (xs : List Str) (d : PX.D), lenD d = some xs.length → itemsD d = some (nm xs) → (∀ x ∈ xs, x.length ≤ 1000) → c ("things_of", none) [d] S = thingsR xs S
theorem has_things {lo hi : CallT} (h : Is "things_of" c_things_of 1 2 lo hi) (v : HasValid lo) : HasThings hi := fun S xs d hl hi hx => (h _ S rfl).trans (r_things lo v S xs d hl hi hx)
end PX

set_option Elab.async false
set_option linter.all false
set_option maxRecDepth 100000
set_option maxHeartbeats 4000000
/-! PxC2: what draws: names, orders. -/
namespace PX
open PySem
theorem StOk.mono {a b : Nat} {S : Stm} (h : StOk a S) (l : a ≤ b) : StOk b S := by
  obtain ⟨big, cells, k, e, h0, h1, h2, h3⟩ := h
  exact ⟨big, cells, k, e, h0, by omega, h2, h3⟩
def Draws (c : CallT) : Prop := ∀ ds S, c ("_law_draw", none) ds S = drawP ds S
theorem dr0 {c : CallT} (hc : Draws c) {m : Nat} {S : Stm} (hs : StOk m S) (n : Int) (hm : m < 1000000) (h0 : 0 < n) (h2 : n < 4611686018427387904) :
    ∃ d S2, c ("_law_draw", none) [.st, .int n] S = .ok (.val (.int d)) S2 ∧ 0 ≤ d ∧ d < n ∧ StOk (m + 1) S2 := by
  obtain ⟨d, S2, e, b1, b2, b3⟩ := draw_ok hs hm h0 h2
  exact ⟨d, S2, by rw [hc]; exact e, b1, b2, b3⟩
/-- a comprehension of one name whose items draw -/
theorem lc_st0 {en0 en : En} {S0 S : Stm} {j : Nat} {it : FI} {e : FE} {xs : List D} (P : D → Prop) (m c : Nat) (h0 : it en0 S0 = .ok xs en S) (hn : noOwn en [j] = true) (hj : j < en.length) (hlen : xs.length ≤ sizeLine) (hs : StOk m S)
    (he : ∀ d ∈ xs, ∀ m' S, StOk m' S → m' ≤ m + c * xs.length → ∃ r S', e (en.set j (.val d)) S = .ok r (en.set j (.val d)) S' ∧ P r.d ∧ StOk (m' + c) S') :
    ∃ ys S', xLc [j] it (gN j) tYes' e en0 S0 = .ok (.own (.lst ys)) en S' ∧ ys.length = xs.length ∧ (∀ y ∈ ys, P y) ∧ StOk (m + c * xs.length) S' := by
  obtain ⟨e0, h00⟩ : ∃ e0, en[j]? = some e0 := ⟨_, List.getElem?_eq_getElem hj⟩
  refine Exists.elim (turns_inv (vs := [j]) (tg := gN j) (ifs := tYes') (elt := e) (xs := xs) (S := S) (fun i acc en1 S1 => StOk (m + c * i) S1 ∧ acc.length = i ∧ (∀ y ∈ acc, P y) ∧ ∃ x, en1 = en.set j x) (en := en) ⟨by simpa using hs, rfl, (fun _ h => by cases h), e0, (set_self h00).symm⟩ ?_) ?_
  · rintro i d acc en1 S1 hd ⟨hs1, ha, hP, x, rfl⟩
    have hm : d ∈ xs := List.mem_of_getElem? hd
    have hi : i < xs.length := (List.getElem?_eq_some_iff.mp hd).1
    have et : gN j d (wipeE (en.set j x) [j]) = some (en.set j (.val d)) := by
      show some (((en.set j x).set j .none).set j (.val d)) = _
      rw [List.set_set, List.set_set]
    obtain ⟨r, S2, h1, h2, h3⟩ := he d hm _ S1 hs1 (Nat.add_le_add_left (Nat.mul_le_mul_left c (Nat.le_of_lt hi)) m)
    refine ⟨en.set j (.val d), true, en.set j (.val d), S1, et, rfl, ?_⟩
    rw [if_pos rfl]
    refine ⟨r, _, _, h1, by omega, by rw [Nat.mul_succ, ← Nat.add_assoc]; exact h3, by simp [ha], ?_, _, rfl⟩
    intro y hy
    rcases List.mem_append.mp hy with hy | hy
    · exact hP y hy
    · rw [List.mem_singleton.mp hy]; exact h2
  · rintro ys ⟨en', S', hts, hs', hl, hP, x, rfl⟩
    refine ⟨ys, S', ?_, hl, hP, hs'⟩
    rw [xLc_of h0 hn hts]
    have e2 : restore en (en.set j x) [j] = en := by
      show (en.set j x).set j ((en[j]?).getD .none) = en
      rw [List.set_set, h00]
      exact set_self h00
    rw [e2]
/-- .. where what is walked leaves the slots -/
theorem lc_st {S0 S : Stm} {e : FE} {xs : List D} (en : En) (j : Nat) (it : FI) (P : D → Prop) (m c : Nat) (h0 : it en S0 = .ok xs en S) (hn : noOwn en [j] = true) (hj : j < en.length) (hlen : xs.length ≤ sizeLine) (hs : StOk m S)
    (he : ∀ d ∈ xs, ∀ m' S, StOk m' S → m' ≤ m + c * xs.length → ∃ r S', e (en.set j (.val d)) S = .ok r (en.set j (.val d)) S' ∧ P r.d ∧ StOk (m' + c) S') :
    ∃ ys S', xLc [j] it (gN j) tYes' e en S0 = .ok (.own (.lst ys)) en S' ∧ ys.length = xs.length ∧ (∀ y ∈ ys, P y) ∧ StOk (m + c * xs.length) S' := lc_st0 P m c h0 hn hj hlen hs he
/-- signs as data -/
def sg (c : Nat) : D := .str ⟨#[c]⟩
def ofCs (cs : List Nat) : Str := ⟨⟨cs⟩⟩
theorem ofCs_app (a b : List Nat) : ofCs a ++ ofCs b = ofCs (a ++ b) := by
  show (⟨(⟨a⟩ : Array Nat) ++ ⟨b⟩⟩ : Str) = ⟨⟨a ++ b⟩⟩
  rw [List.append_toArray]
theorem sg_strs : ∀ cs : List Nat, allStrs (cs.map sg) = some (cs.map fun c => ofCs [c])
  | [] => rfl
  | c :: r => by simp only [List.map_cons, sg, allStrs]; rw [show List.map sg r = r.map sg from rfl, sg_strs r]; rfl
theorem sg_sum : ∀ cs : List Nat, ((cs.map fun c => ofCs [c]).map (·.length)).sum = cs.length
  | [] => rfl
  | c :: r => by simp only [List.map_cons, List.sum_cons, sg_sum r, List.length_cons]; show 1 + r.length = _; omega
theorem join_sg (cs : List Nat) : Txt.join "" (cs.map fun c => ofCs [c]) = ofCs cs := by
  show Builtin.Str.glued "" _ = _
  rw [StrLaws.glued_eq_join]
  induction cs with
  | nil => rfl
  | cons c r ih =>
    cases r with
    | nil => rfl
    | cons c' r =>
      show ofCs [c] ++ "" ++ Str.join "" (List.map (fun c => ofCs [c]) (c' :: r)) = _
      rw [ih]
      show ofCs [c] ++ ofCs [] ++ ofCs (c' :: r) = _
      rw [ofCs_app, ofCs_app]; rfl
theorem join_sgD {cs : List Nat} (h : cs.length ≤ 1000) : metD (.str "") "join" [.lst (cs.map sg)] = some (.val (.str (ofCs cs))) := by
  rw [met_str, if_pos rfl]
  show joinD _ _ = _
  unfold joinD
  rw [sg_strs]
  show (if _ then _ else _) = _
  rw [if_pos, join_sg]
  rw [sg_sum, List.length_map]
  show cs.length + cs.length * 0 ≤ 16777216
  omega
end PX

set_option Elab.async false
set_option linter.all false
set_option maxRecDepth 100000
set_option maxHeartbeats 4000000
/-! PxC3: drawn names. -/
namespace PX
open PySem
def signs36 : Str := "abcdefghijklmnopqrstuvwxyz0123456789"
def sgn (i : Nat) : Nat := signs36.cps.toList.getD i 0
theorem getL {xs : List PX.D} {i : Int} {y : PX.D} (h0 : 0 ≤ i) (h : xs[i.toNat]? = some y) : getD (.lst xs) (.int i) = some y := by
  show L2.atI xs i = some y
  unfold L2.atI L2.ixN
  have hl : i.toNat < xs.length := (List.getElem?_eq_some_iff.mp h).1
  rw [if_pos h0, if_pos (by omega)]
  exact h
theorem sgn_get {d : Int} (h0 : 0 ≤ d) (h1 : d < 36) : getD (.str "abcdefghijklmnopqrstuvwxyz0123456789") (.int d) = some (sg (sgn d.toNat)) := by
  show (if Str.length signs36 ≤ sizeLine then (L2.atI signs36.cps.toList d).map fun c => PX.D.str ⟨#[c]⟩ else none) = _
  rw [if_pos (by decide)]
  unfold L2.atI L2.ixN
  have hl : signs36.cps.toList.length = 36 := by decide
  rw [if_pos h0, hl, if_pos (by omega)]
  show (signs36.cps.toList[d.toNat]?).map _ = _
  have hlt : d.toNat < signs36.cps.toList.length := by omega
  unfold sgn
  rw [List.getElem?_eq_getElem hlt, List.getD_eq_getElem?_getD, List.getElem?_eq_getElem hlt]
  rfl
theorem sgn_ok : ∀ i < 36, okC (sgn i) = true := by decide
theorem sgn_let : ∀ i < 26, decide (sgn i ∈ letters.cps.toList) = true := by decide
theorem sgn_inj : ∀ i < 36, ∀ j < 36, sgn i = sgn j → i = j := by decide
def NamesOk (n : Nat) (xs : List Str) : Prop := xs.length = n ∧ (∀ x ∈ xs, isNm x.cps.toList = true) ∧ xs.Nodup
theorem cut_to {α : Type} (xs : List α) (k : Nat) : cutD xs none (some (k : Int)) = xs.take k := by
  unfold cutD
  rw [HT.sIx_none, HT.sIx_nat, List.drop_zero, Nat.sub_zero]
  by_cases h : k ≤ xs.length
  · rw [Nat.min_eq_left h]
  · rw [Nat.min_eq_right (by omega), List.take_of_length_le (Nat.le_refl _), List.take_of_length_le (by omega)]
theorem cutS_to (cs : List Nat) (k : Nat) : L2.cutS (ofCs cs) none (some (k : Int)) = ofCs (cs.take k) := by
  unfold L2.cutS
  rw [HT.sIx_none, HT.sIx_nat, List.drop_zero, Nat.sub_zero]
  show (⟨(cs.take (min k cs.length)).toArray⟩ : Str) = _
  by_cases h : k ≤ cs.length
  · rw [Nat.min_eq_left h]; rfl
  · rw [Nat.min_eq_right (by omega), List.take_of_length_le (Nat.le_refl _), List.take_of_length_le (by omega)]; rfl
def teas : List Str := ["tea", "x", "x1", "x10", "xy", "y"]
theorem teas_ok : ∀ n < 7, (teas.take n).length = n ∧ (∀ x ∈ teas.take n, isNm x.cps.toList = true) ∧ (teas.take n).Nodup := by decide
/-- the digits of a number -/
def dg (v : Nat) : List Nat := (Str.ofString (toString (v : Int))).cps.toList
theorem dg_ok : ∀ v < 73, (dg v).length ≤ 5 ∧ (dg v).all okC = true := by decide +kernel
theorem dg_inj : ∀ v < 73, ∀ w < 73, dg v = dg w → v = w := by decide +kernel
theorem dg_str {v : Nat} {i : Int} (h : i = (v : Int)) : (.str (toString i) : PX.D) = .str (ofCs (dg v)) := by subst h; rfl
theorem add_cs {a b : List Nat} (h : a.length + b.length ≤ 1000) : binD .Add (.str (ofCs a)) (.str (ofCs b)) = some (.val (.str (ofCs (a ++ b)))) := by
  rw [add_str _ _ (sl_imp (show (ofCs a).length + (ofCs b).length ≤ 1000 from h)), ofCs_app]
theorem add_sg {c : Nat} {b : List Nat} (h : b.length ≤ 999) : binD .Add (sg c) (.str (ofCs b)) = some (.val (.str (ofCs (c :: b)))) := add_cs (a := [c]) (by simp; omega)
theorem add_ss {a : List Nat} {c : Nat} (h : a.length ≤ 999) : binD .Add (.str (ofCs a)) (sg c) = some (.val (.str (ofCs (a ++ [c])))) := add_cs (b := [c]) (by simp; omega)
theorem sg_cs (c : Nat) : sg c = .str (ofCs [c]) := rfl
theorem isNm_of {c : Nat} {r : List Nat} (h1 : r.length ≤ 5) (h2 : decide (c ∈ letters.cps.toList) = true) (h3 : r.all okC = true) : isNm (c :: r) = true := by
  have hc : okC c = true := by unfold okC; rw [h2]; rfl
  simp only [isNm, h2, List.all_cons, hc, h3, Bool.and_true, decide_eq_true_eq, List.length_cons]
  omega
theorem str_cps (cs : List Nat) : (ofCs cs).cps.toList = cs := rfl
theorem ofCs_inj {a b : List Nat} (h : ofCs a = ofCs b) : a = b := by
  have := congrArg (fun s : Str => s.cps.toList) h
  exact this
theorem nodup_map {α β : Type} {f : α → β} {l : List α} (h : l.Nodup) (hi : ∀ a ∈ l, ∀ b ∈ l, f a = f b → a = b) : (l.map f).Nodup := by
  induction l with
  | nil => exact List.nodup_nil
  | cons a r ih =>
    rw [List.map_cons, List.nodup_cons]
    rw [List.nodup_cons] at h
    refine ⟨?_, ih h.2 fun x hx y hy => hi x (List.mem_cons_of_mem _ hx) y (List.mem_cons_of_mem _ hy)⟩
    intro hm
    obtain ⟨b, hb, e⟩ := List.mem_map.mp hm
    have := hi b (List.mem_cons_of_mem _ hb) a (List.mem_cons_self ..) e
    subst this
    exact h.1 hb
/-- drawn signs -/
theorem sgs_of : ∀ {ys : List PX.D}, (∀ y ∈ ys, ∃ c, y = sg c ∧ okC c = true) → ∃ cs : List Nat, ys = cs.map sg ∧ ∀ c ∈ cs, okC c = true
  | [], _ => ⟨[], rfl, fun _ h => by cases h⟩
  | y :: r, h => by
    obtain ⟨c, rfl, hc⟩ := h y (List.mem_cons_self ..)
    obtain ⟨cs, rfl, hcs⟩ := sgs_of (ys := r) fun z hz => h z (List.mem_cons_of_mem _ hz)
    refine ⟨c :: cs, rfl, ?_⟩
    intro x hx
    rcases List.mem_cons.mp hx with rfl | hx
    · exact hc
    · exact hcs x hx
theorem range_ok {v : Int} (h0 : 0 ≤ v) (h1 : v ≤ 1000) : rangeD [.int v] = some ((List.range v.toNat).map fun k => PX.D.int (0 + (k : Nat))) := if_pos ⟨by omega, by omega⟩
theorem r_names (call : CallT) (hd : Draws call) (m n : Nat) (S : Stm) (hs : StOk m S) (hm : m < 900000) (hn : n ≤ 8) :
    ∃ xs S', CO.of (c__law_names call [.val .st, .val (.int n), .none, .none, .none, .none, .none, .none, .none, .none, .none, .none, .none, .none] S) = .ok (.own (.lst (nm xs))) S' ∧ NamesOk n xs ∧ StOk (m + 40) S' := by
  unfold c__law_names
  obtain ⟨v, S1, c1, l1, u1, hs1⟩ := dr0 hd hs 5 (by omega) (by omega) (by omega)
  obtain ⟨ys, S2, lc, hl, hP, hs2⟩ := lc_st (S0 := S) (xs := (List.range v.toNat).map fun k => PX.D.int (0 + (k : Nat))) [.val .st, .val (.int n), .val (.str "abcdefghijklmnopqrstuvwxyz0123456789"), .none, .none, .none, .none, .none, .none, .none, .none, .none, .none, .none] 3 (iRange [(xCall (call ("_law_draw", none)) ["_law_state", "_law_size"] [(bSlot 0), (bE (xVal (.int 5)))] [])])
    (e := xIx (bSlot 2) (bE (xCall (call ("_law_draw", none)) ["_law_state", "_law_size"] [(bSlot 0), (bE (xVal (.int 36)))] []))) (fun y => ∃ c, y = sg c ∧ okC c = true) (m + 1) 1
    (by simp only [↓RNp, RNs, RNc, c1, range_ok l1 (show v ≤ 1000 by omega)]) rfl (by simp) (sl_imp (by simp only [List.length_map, List.length_range]; omega)) hs1 (by
      intro d _ m' S hs hm'
      obtain ⟨v, S1, c1, l1, u1, hs1⟩ := dr0 hd hs 36 (by simp at hm'; omega) (by omega) (by omega)
      refine ⟨.val (sg (sgn v.toNat)), S1, ?_, ⟨_, rfl, sgn_ok _ (by omega)⟩, hs1⟩
      simp only [↓RNp, RNs, RNc, c1, sgn_get l1 u1])
  obtain ⟨cs, rfl, hcs⟩ := sgs_of hP
  have hcl : cs.length ≤ 4 := by simp at hl; omega
  obtain ⟨v2, S3, c2, l2, u2, hs3⟩ := dr0 hd hs2 26 (by simp; omega) (by omega) (by omega)
  obtain ⟨v3, S4, c3, l3, u3, hs4⟩ := dr0 hd hs3 26 (by simp; omega) (by omega) (by omega)
  obtain ⟨v4, S5, c4, l4, u4, hs5⟩ := dr0 hd hs4 6 (by simp; omega) (by omega) (by omega)
  obtain ⟨v5, S6, c5, l5, u5, hs6⟩ := dr0 hd hs5 7 (by simp; omega) (by omega) (by omega)
  obtain ⟨st, hst, hst0, hst1, hst2⟩ : ∃ st : Int, [PX.D.int 1, .int 3, .int 5, .int 7, .int 9, .int 11][v4.toNat]? = some (.int st) ∧ 0 ≤ st ∧ st ≤ 11 ∧ (st = 1 ∨ st = 3 ∨ st = 5 ∨ st = 7 ∨ st = 9 ∨ st = 11) := by
    have : v4 = 0 ∨ v4 = 1 ∨ v4 = 2 ∨ v4 = 3 ∨ v4 = 4 ∨ v4 = 5 := by omega
    rcases this with rfl | rfl | rfl | rfl | rfl | rfl <;> exact ⟨_, rfl, by omega, by omega, by omega⟩
  simp only [↓RNp, RNs, RNc, lc, join_sgD (Nat.le_trans hcl (show 4 ≤ 1000 by decide)), c2, sgn_get l2 (show v2 < 36 by omega), c3, c4, getL l4 hst, c5]
  have hs6 : StOk (m + 12) S6 := hs6.mono (by simp; omega)
  clear hs5 hs4 hs3 hs2 hs1 c1 c2 c3 c4 c5 lc hP
  have hL := sgn_let v2.toNat (by omega)
  cases t1 : (decide (v5 = 6) && decide ((n : Int) < 7)) with
  | true =>
    simp only [Bool.and_eq_true, decide_eq_true_eq] at t1
    simp only [↓RNp, RNs, RNc, cut_to]
    have ok := teas_ok n (by omega)
    exact ⟨teas.take n, S6, by unfold teas nm; rw [List.map_take]; rfl, ok, hs6.mono (by omega)⟩
  | false =>
  simp only [↓RNp, RNs, RNc]
  cases t2 : (decide (v5 = 4) || decide (v5 = 5) && decide ((6 : Int) < n)) with
  | true =>
    obtain ⟨w, S7, c7, l7, u7, hs7⟩ := dr0 hd hs6 9 (by omega) (by omega) (by omega)
    have lc : xLc [3] (iRange [(xSlot 1)]) (gN 3) tYes' (xBin .Add (bSlot 5) (bE (xB1 .str (bE (xBin .Mult (bSlot 9) (bE (xBin .Add (bSlot 3) (bE (xVal (.int 1)))))))))) [.val .st, .val (.int n), .val (.str "abcdefghijklmnopqrstuvwxyz0123456789"), .none, .val (.str (ofCs cs)), .val (sg (sgn v2.toNat)), .val (.int v3), .val (.int st), .val (.int v5), .val (.int (1 + w)), .none, .none, .none, .none] S7 =
        .ok (.own (.lst (((List.range n).map fun k => PX.D.int (0 + (k : Nat))).map fun d => match d with | .int k => .str (ofCs (sgn v2.toNat :: dg ((1 + w.toNat) * (k.toNat + 1)))) | _ => .non))) [.val .st, .val (.int n), .val (.str "abcdefghijklmnopqrstuvwxyz0123456789"), .none, .val (.str (ofCs cs)), .val (sg (sgn v2.toNat)), .val (.int v3), .val (.int st), .val (.int v5), .val (.int (1 + w)), .none, .none, .none, .none] S7 := by
      refine lc_all _ ?_ rfl (by simp) (sl_imp (by simp; omega)) ?_
      · simp only [↓RNp, RNs, RNc]
        rw [range_ok (by omega) (by omega)]
        rfl
      · intro d hd
        obtain ⟨k, hk, rfl⟩ := List.mem_map.mp hd
        have hk := List.mem_range.mp hk
        have hv : (1 + w.toNat) * (k + 1) < 73 := by
          have : (1 + w.toNat) * (k + 1) ≤ 9 * 8 := Nat.mul_le_mul (by omega) (by omega)
          omega
        have e1 : (1 + w) * (0 + (k : Nat) + 1) = (((1 + w.toNat) * (k + 1) : Nat) : Int) := by
          rw [Int.natCast_mul]
          congr 1 <;> omega
        have ok := dg_ok _ hv
        refine ⟨.val (.str (ofCs (sgn v2.toNat :: dg ((1 + w.toNat) * ((0 + (k : Nat) : Int).toNat + 1))))), ?_, rfl⟩
        have e2 : (0 + (k : Nat) : Int).toNat = k := by omega
        have hm := mul_small (x := 1 + w) (y := 0 + (k : Nat) + 1) ⟨Nat.lt_of_lt_of_le (show (1 + w).natAbs < 2 ^ 10 by omega) (by decide), Nat.lt_of_lt_of_le (show (0 + (k : Nat) + 1 : Int).natAbs < 2 ^ 10 by omega) (by decide)⟩
        rw [e1] at hm
        have hst := str_small (x := (((1 + w.toNat) * (k + 1) : Nat) : Int)) (Nat.lt_of_lt_of_le (show _ < 2 ^ 10 by omega) (by decide))
        rw [dg_str rfl] at hst
        rw [e2]
        simp only [↓RNp, RNs, RNc, hm, hst, add_sg (show (dg ((1 + w.toNat) * (k + 1))).length ≤ 999 by omega)]
    simp only [↓RNp, RNs, RNc, c7, lc]
    refine ⟨(List.range n).map fun k => ofCs (sgn v2.toNat :: dg ((1 + w.toNat) * (k + 1))), S7, ?_, ⟨by simp, ?_, ?_⟩, hs7.mono (by omega)⟩
    · refine congrArg (fun l => CO.ok (.own (.lst l)) S7) ?_
      unfold nm
      rw [List.map_map, List.map_map]
      apply List.map_congr_left
      intro k _
      show PX.D.str (ofCs (sgn v2.toNat :: dg ((1 + w.toNat) * ((0 + (k : Nat) : Int).toNat + 1)))) = .str (ofCs (sgn v2.toNat :: dg ((1 + w.toNat) * (k + 1))))
      rw [show (0 + (k : Nat) : Int).toNat = k by omega]
    · intro x hx
      obtain ⟨k, hk, rfl⟩ := List.mem_map.mp hx
      have hk := List.mem_range.mp hk
      have hv : (1 + w.toNat) * (k + 1) < 73 := by
        have : (1 + w.toNat) * (k + 1) ≤ 9 * 8 := Nat.mul_le_mul (by omega) (by omega)
        omega
      have ok := dg_ok _ hv
      exact isNm_of ok.1 hL ok.2
    · refine nodup_map List.nodup_range ?_
      intro j hj k hk e
      have hj := List.mem_range.mp hj
      have hk := List.mem_range.mp hk
      have hv : ∀ k < 8, (1 + w.toNat) * (k + 1) < 73 := fun k hk => by
        have : (1 + w.toNat) * (k + 1) ≤ 9 * 8 := Nat.mul_le_mul (by omega) (by omega)
        omega
      have e := dg_inj _ (hv j (by omega)) _ (hv k (by omega)) (List.cons.inj (ofCs_inj e)).2
      have := Nat.eq_of_mul_eq_mul_left (by omega) e
      omega
  | false =>
  simp only [↓RNp, RNs, RNc]
  cases t3 : decide (v5 = 5) with
  | true =>
    have t3 := of_decide_eq_true t3
    have hn6 : n ≤ 6 := by
      simp only [t3, decide_true, Bool.true_and, Bool.or_eq_false_iff, decide_eq_false_iff_not] at t2
      omega
    obtain ⟨ys, S7, lc, hl, hP, hs7⟩ := lc_st (S0 := S6) (S := S6) (xs := (List.range 5).map fun k => PX.D.int (0 + (k : Nat))) [.val .st, .val (.int n), .val (.str "abcdefghijklmnopqrstuvwxyz0123456789"), .none, .val (.str (ofCs cs)), .val (sg (sgn v2.toNat)), .val (.int v3), .val (.int st), .val (.int v5), .none, .none, .none, .none, .none] 3 (iRange [xVal (.int 5)])
      (e := xIx (bSlot 2) (bE (xCall (call ("_law_draw", none)) ["_law_state", "_law_size"] [(bSlot 0), (bE (xVal (.int 36)))] []))) (fun y => ∃ c, y = sg c ∧ okC c = true) (m + 12) 1
      (by simp only [↓RNp, RNs, RNc]; rw [range_ok (by omega) (by omega)]; rfl) rfl (by simp) (sl_imp (by simp only [List.length_map, List.length_range]; omega)) hs6 (by
        intro d _ m' S hs hm'
        obtain ⟨v, S1, c1, l1, u1, hs1⟩ := dr0 hd hs 36 (by simp at hm'; omega) (by omega) (by omega)
        refine ⟨.val (sg (sgn v.toNat)), S1, ?_, ⟨_, rfl, sgn_ok _ (by omega)⟩, hs1⟩
        simp only [↓RNp, RNs, RNc, c1, sgn_get l1 u1])
    obtain ⟨cs5, rfl, hcs5⟩ := sgs_of hP
    have hcl5 : cs5.length = 5 := by simp at hl; omega
    have lc2 : xLc [3] (iRange [(xSlot 1)]) (gN 3) tYes' (xCut (bSlot 10) none (some (xBin .Add (bSlot 3) (bE (xVal (.int 1)))))) [.val .st, .val (.int n), .val (.str "abcdefghijklmnopqrstuvwxyz0123456789"), .none, .val (.str (ofCs cs)), .val (sg (sgn v2.toNat)), .val (.int v3), .val (.int st), .val (.int v5), .none, .val (.str (ofCs (sgn v2.toNat :: cs5))), .none, .none, .none] S7 =
        .ok (.own (.lst (((List.range n).map fun k => PX.D.int (0 + (k : Nat))).map fun d => match d with | .int k => .str (ofCs ((sgn v2.toNat :: cs5).take (k.toNat + 1))) | _ => .non))) [.val .st, .val (.int n), .val (.str "abcdefghijklmnopqrstuvwxyz0123456789"), .none, .val (.str (ofCs cs)), .val (sg (sgn v2.toNat)), .val (.int v3), .val (.int st), .val (.int v5), .none, .val (.str (ofCs (sgn v2.toNat :: cs5))), .none, .none, .none] S7 := by
      refine lc_all _ ?_ rfl (by simp) (sl_imp (by simp; omega)) ?_
      · simp only [↓RNp, RNs, RNc]
        rw [range_ok (by omega) (by omega)]
        rfl
      · intro d hd
        obtain ⟨k, hk, rfl⟩ := List.mem_map.mp hd
        refine ⟨.val (.str (ofCs ((sgn v2.toNat :: cs5).take ((0 + (k : Nat) : Int).toNat + 1)))), ?_, rfl⟩
        have e2 : (0 + (k : Nat) : Int).toNat = k := by omega
        have e3 : (0 + (k : Nat) + 1 : Int) = ((k + 1 : Nat) : Int) := by omega
        have hc : cutOV (.str (ofCs (sgn v2.toNat :: cs5))) none (some ((k + 1 : Nat) : Int)) = some (.val (.str (ofCs ((sgn v2.toNat :: cs5).take (k + 1))))) := by
          show (if (sgn v2.toNat :: cs5).length ≤ sizeLine then _ else _) = _
          rw [if_pos (sl_imp (by simp; omega)), cutS_to]
        rw [e2]
        simp only [↓RNp, RNs, RNc, e3, hc]
    simp only [↓RNp, RNs, RNc, lc, join_sgD (show cs5.length ≤ 1000 by omega), add_sg (show cs5.length ≤ 999 by omega), lc2]
    refine ⟨(List.range n).map fun k => ofCs ((sgn v2.toNat :: cs5).take (k + 1)), S7, ?_, ⟨by simp, ?_, ?_⟩, hs7.mono (by simp)⟩
    · refine congrArg (fun l => CO.ok (.own (.lst l)) S7) ?_
      unfold nm
      rw [List.map_map, List.map_map]
      apply List.map_congr_left
      intro k _
      show PX.D.str (ofCs ((sgn v2.toNat :: cs5).take ((0 + (k : Nat) : Int).toNat + 1))) = .str (ofCs ((sgn v2.toNat :: cs5).take (k + 1)))
      rw [show (0 + (k : Nat) : Int).toNat = k by omega]
    · intro x hx
      obtain ⟨k, hk, rfl⟩ := List.mem_map.mp hx
      rw [str_cps, List.take_succ_cons]
      refine isNm_of (by rw [List.length_take]; omega) hL ?_
      rw [List.all_eq_true]
      intro c hc
      exact hcs5 c (List.mem_of_mem_take hc)
    · refine nodup_map List.nodup_range ?_
      intro j hj k hk e
      have hj := List.mem_range.mp hj
      have hk := List.mem_range.mp hk
      have e := congrArg List.length (ofCs_inj e)
      simp only [List.length_take, List.length_cons] at e
      omega
  | false =>
  simp only [↓RNp, RNs, RNc]
  have hst2 : ∀ j < 8, ∀ k < 8, (v3.toNat + st.toNat * j) % 26 = (v3.toNat + st.toNat * k) % 26 → j = k := by
    rcases hst2 with rfl | rfl | rfl | rfl | rfl | rfl <;> (intro j hj k hk e; simp at e; omega)
  let sk : Nat → Nat := fun k => sgn ((v3.toNat + st.toNat * k) % 26)
  let bk : Nat → List Nat := fun k => if 1 < v5 ∧ k % 2 = 1 then [] else cs
  let wd : Nat → Str := fun k => if v5 % 2 = 0 then ofCs (sgn v2.toNat :: (bk k ++ [sk k])) else ofCs (sk k :: bk k)
  refine Exists.intro ((List.range n).map wd) ?_
  refine then_for (R := fun o => ∃ S', CO.of o = .ok (.own (.lst (nm ((List.range n).map wd)))) S' ∧ NamesOk n ((List.range n).map wd) ∧ StOk (m + 40) S') (xs := (List.range n).map fun k => PX.D.int (0 + (k : Nat)))
    (en' := [.val .st, .val (.int n), .val (.str "abcdefghijklmnopqrstuvwxyz0123456789"), .none, .val (.str (ofCs cs)), .val (sg (sgn v2.toNat)), .val (.int v3), .val (.int st), .val (.int v5), .none, .none, .own (.lst []), .none, .none]) (S' := S6)
    (fun i en S => S = S6 ∧ ∃ e3 e12 e13, en = [.val .st, .val (.int n), .val (.str "abcdefghijklmnopqrstuvwxyz0123456789"), e3, .val (.str (ofCs cs)), .val (sg (sgn v2.toNat)), .val (.int v3), .val (.int st), .val (.int v5), .none, .none, .own (.lst (nm ((List.range i).map wd))), e12, e13]) ?_ ⟨rfl, _, _, _, rfl⟩ ?_ ?_
  · simp only [↓RNp, RNs, RNc]
    rw [range_ok (by omega) (by omega)]
    rfl
  · rintro i d en S1 hi ⟨rfl, e3, e12, e13, rfl⟩
    rw [List.getElem?_map] at hi
    have hin : i < n := by
      by_cases h : i < n
      · exact h
      · rw [List.getElem?_eq_none (by simp; omega)] at hi; cases hi
    rw [List.getElem?_eq_getElem (by simpa using hin), List.getElem_range] at hi
    injection hi with hi; subst hi
    refine ⟨_, rfl, ?_⟩
    have k0 : (0 + (i : Nat) : Int) = (i : Int) := by omega
    have m1 := mul_small (x := st) (y := (i : Int)) ⟨Nat.lt_of_lt_of_le (show st.natAbs < 2 ^ 10 by omega) (by decide), Nat.lt_of_lt_of_le (show (i : Int).natAbs < 2 ^ 10 by omega) (by decide)⟩
    have e1 : v3 + st * (i : Int) = ((v3.toNat + st.toNat * i : Nat) : Int) := by
      rw [Int.natCast_add, Int.natCast_mul]
      congr 1
      · omega
      · congr 1; omega
    have m2 := mod_pos (x := v3 + st * (i : Int)) (y := 26) (by omega)
    have e3 : (v3 + st * (i : Int)) % 26 = (((v3.toNat + st.toNat * i) % 26 : Nat) : Int) := by rw [e1]; omega
    have hlt : (v3.toNat + st.toNat * i) % 26 < 26 := Nat.mod_lt _ (by omega)
    have g1 := sgn_get (d := (((v3.toNat + st.toNat * i) % 26 : Nat) : Int)) (by omega) (by omega)
    rw [Int.toNat_natCast] at g1
    have m3 := mod_pos (x := (i : Int)) (y := 2) (by omega)
    have m4 := mod_pos (x := v5) (y := 2) (by omega)
    have gb : ∀ b : Bool, getD (.lst [.str (ofCs cs), .str ""]) (.int (if b = true then 1 else 0)) = some (.str (ofCs (if b = true then [] else cs))) := by
      intro b; cases b <;> rfl
    have hb : bk i = if (decide (1 < v5) && decide ((i : Int) % 2 = 1)) = true then [] else cs := by
      show (if 1 < v5 ∧ i % 2 = 1 then [] else cs) = _
      by_cases q : 1 < v5 ∧ i % 2 = 1
      · rw [if_pos q, if_pos]
        simp only [Bool.and_eq_true, decide_eq_true_eq]
        exact ⟨q.1, by omega⟩
      · rw [if_neg q, if_neg]
        simp only [Bool.and_eq_true, decide_eq_true_eq]
        exact fun h => q ⟨h.1, by omega⟩
    have hbl : (bk i).length ≤ 4 := by
      show (if 1 < v5 ∧ i % 2 = 1 then [] else cs).length ≤ 4
      split
      · simp
      · exact hcl
    simp only [↓RNp, RNs, RNc, k0, m1, m2, e3, g1, m3, gb, ← hb, add_sg (show (bk i).length ≤ 999 by omega), add_ss (show (sgn v2.toNat :: bk i).length ≤ 999 by simp; omega), m4]
    have hw : getD (.lst [.str (ofCs (sgn v2.toNat :: (bk i ++ [sgn ((v3.toNat + st.toNat * i) % 26)]))), .str (ofCs (sgn ((v3.toNat + st.toNat * i) % 26) :: bk i))]) (.int (v5 % 2)) = some (.str (wd i)) := by
      rcases Int.emod_two_eq v5 with h | h
      · rw [h]
        show some (PX.D.str _) = some (.str (if v5 % 2 = 0 then _ else _))
        rw [if_pos h]
      · rw [h]
        show some (PX.D.str _) = some (.str (if v5 % 2 = 0 then _ else _))
        rw [if_neg (by omega)]
    have hlen : (nm ((List.range i).map wd)).length < sizeLine := by
      have : sizeLine = 16777216 := rfl
      simp [nm]; omega
    simp only [↓RNp, RNs, RNc, hw, mut_app hlen]
    have e9 : nm ((List.range (i + 1)).map wd) = nm ((List.range i).map wd) ++ [.str (wd i)] := by
      rw [List.range_succ, List.map_append]
      unfold nm
      rw [List.map_append]
      rfl
    rw [e9]
    exact ⟨trivial, _, _, _, rfl⟩
  · rintro en S1 ⟨rfl, e3, e12, e13, rfl⟩
    refine ⟨S1, ?_, ⟨by simp, ?_, ?_⟩, hs6.mono (by omega)⟩
    · simp only [↓RNp, RNs, RNc, List.length_map, List.length_range]
    · intro x hx
      obtain ⟨k, hk, rfl⟩ := List.mem_map.mp hx
      have hk := List.mem_range.mp hk
      have hlt : (v3.toNat + st.toNat * k) % 26 < 26 := Nat.mod_lt _ (by omega)
      have hb : (bk k).length ≤ 4 ∧ ∀ c ∈ bk k, okC c = true := by
        show (if 1 < v5 ∧ k % 2 = 1 then [] else cs).length ≤ 4 ∧ ∀ c ∈ (if 1 < v5 ∧ k % 2 = 1 then [] else cs), okC c = true
        split
        · simp
        · exact ⟨hcl, hcs⟩
      show isNm (Str.cps (if v5 % 2 = 0 then _ else _)).toList = true
      by_cases h : v5 % 2 = 0
      · rw [if_pos h, str_cps]
        refine isNm_of (by simp; omega) hL ?_
        rw [List.all_eq_true]
        intro c hc
        rcases List.mem_append.mp hc with hc | hc
        · exact hb.2 c hc
        · rw [List.mem_singleton.mp hc]; exact sgn_ok _ (by omega)
      · rw [if_neg h, str_cps]
        refine isNm_of (by omega) (sgn_let _ hlt) ?_
        rw [List.all_eq_true]
        exact hb.2
    · refine nodup_map List.nodup_range ?_
      intro j hj k hk e
      have hj := List.mem_range.mp hj
      have hk := List.mem_range.mp hk
      have hj2 : (v3.toNat + st.toNat * j) % 26 < 26 := Nat.mod_lt _ (by omega)
      have hk2 : (v3.toNat + st.toNat * k) % 26 < 26 := Nat.mod_lt _ (by omega)
      refine hst2 j (by omega) k (by omega) (sgn_inj _ (by omega) _ (by omega) ?_)
      have e : (if v5 % 2 = 0 then ofCs (sgn v2.toNat :: (bk j ++ [sk j])) else ofCs (sk j :: bk j)) = (if v5 % 2 = 0 then ofCs (sgn v2.toNat :: (bk k ++ [sk k])) else ofCs (sk k :: bk k)) := e
      by_cases h : v5 % 2 = 0
      · rw [if_pos h, if_pos h] at e
        have e := (List.cons.inj (ofCs_inj e)).2
        have := congrArg List.getLast? e
        simpa using this
      · rw [if_neg h, if_neg h] at e
        exact (List.cons.inj (ofCs_inj e)).1
def HasNames (c : CallT) : Prop := ∀ (m n : Nat) (S : Stm), StOk m S → m < 900000 → n ≤ 8 → ∃ xs S', c ("_law_names", none) [.st, .int n] S = .ok (.own (.lst (nm xs))) S' ∧ NamesOk n xs ∧ StOk (m + 40) S'
theorem has_names {lo hi : CallT} (h : Is "_law_names" c__law_names 2 12 lo hi) (hd : Draws lo) : HasNames hi := fun m n S hs hm hn => by
  obtain ⟨xs, S', e, r⟩ := r_names lo hd m n S hs hm hn
  exact ⟨xs, S', (h _ S rfl).trans e, r⟩
end PX

set_option Elab.async false
set_option linter.all false
set_option maxRecDepth 100000
set_option maxHeartbeats 4000000
/-! PxC4: the laws' defs about sets, orders, any values. -/
namespace PX
open PySem
/-- the loop that finds all sets -/
theorem sets_loop {R : SO → Prop} {r : List FS} (t : En) (P : List Str) (hP : P.length ≤ 8) (S : Stm)
    (h : ∀ e2, R (sSeq r (.val (tupD P) :: .own (.lst ((subs P).map tupD)) :: e2 :: .none :: t) S)) :
    R (andThen (sFor (gN 2) (iPlain (xSlot 0)) (sSeq [(sSet 1 (xBin .Add (bSlot 1) (bE (xLc [3] (iPlain (xSlot 1)) (gN 3) tYes' (xBin .Add (bSlot 3) (bE (xTup [(xSlot 2)])))))))]) (.val (tupD P) :: .own (.lst [tupD []]) :: .none :: .none :: t) S) r) := by
  refine then_for (xs := nm P) (en' := .val (tupD P) :: .own (.lst [tupD []]) :: .none :: .none :: t) (S' := S)
    (fun i en S' => S' = S ∧ ∃ e2, en = .val (tupD P) :: .own (.lst ((subs (P.take i)).map tupD)) :: e2 :: .none :: t) ?_ ⟨rfl, _, rfl⟩ ?_ ?_
  · simp only [↓RNp, RNs, RNc]
  · rintro i d en S1 hd ⟨rfl, e2, rfl⟩
    unfold nm at hd
    rw [List.getElem?_map] at hd
    cases hx : P[i]? with
    | none => rw [hx] at hd; cases hd
    | some x =>
      rw [hx] at hd; injection hd with hd; subst hd
      refine ⟨_, rfl, ?_⟩
      have hi : i < P.length := (List.getElem?_eq_some_iff.mp hx).1
      have hle : (subs (P.take i)).length ≤ 256 := subs_le (by rw [List.length_take]; omega)
      have tk : P.take (i + 1) = P.take i ++ [x] := by rw [List.take_add_one, hx]; rfl
      have lc : xLc [3] (iPlain (xSlot 1)) (gN 3) tYes' (xBin .Add (bSlot 3) (bE (xTup [xSlot 2]))) (.val (tupD P) :: .own (.lst ((subs (P.take i)).map tupD)) :: .val (.str x) :: .none :: t) S1 =
          .ok (.own (.lst (((subs (P.take i)).map tupD).map fun d => PX.D.tup (dsOf d ++ [.str x])))) (.val (tupD P) :: .val (.lst ((subs (P.take i)).map tupD)) :: .val (.str x) :: .none :: t) S1 := by
        refine lc_all (en := .val (tupD P) :: .val (.lst ((subs (P.take i)).map tupD)) :: .val (.str x) :: .none :: t) (S := S1) (xs := (subs (P.take i)).map tupD) _ ?_ rfl (by simp) (sl_imp (by rw [List.length_map]; omega)) ?_
        · simp only [↓RNp, RNs, RNc]
        · intro d hd
          obtain ⟨m, hm, rfl⟩ := List.mem_map.mp hd
          have hml : m.length ≤ 100 := by
            have := subs_mem_len hm
            rw [List.length_take] at this
            omega
          refine ⟨.val (.tup (nm m ++ [.str x])), ?_, rfl⟩
          have hadd : binD .Add (.tup (nm m)) (.tup [.str x]) = some (.val (.tup (nm m ++ [.str x]))) := add_tup _ _ (sl_imp (by simp [nm]; omega))
          simp only [↓RNp, RNs, RNc, hadd]
      have hadd : binD .Add (.lst ((subs (P.take i)).map tupD)) (.lst (((subs (P.take i)).map tupD).map fun d => PX.D.tup (dsOf d ++ [.str x]))) = some (.own (.lst ((subs (P.take (i + 1))).map tupD))) := by
        rw [step_map, add_lst _ _ (sl_imp (by simp only [List.length_map]; omega)), ← List.map_append, tk, subs_snoc]
        rfl
      simp only [↓RNp, RNs, RNc, lc, hadd]
      exact ⟨trivial, _, rfl⟩
  · rintro en S1 ⟨rfl, e2, rfl⟩
    have ht : P.take (nm P).length = P := by simp [nm]
    rw [ht]
    exact h e2
theorem r_lsets (call : CallT) (S : Stm) (P : List Str) (hP : P.length ≤ 8) : CO.of (c__law_sets call [.val (tupD P), .none, .none, .none, .none] S) = .ok (.own (.lst ((setsIn P).map tupD))) S := by
  simp only [c__law_sets, ↓RNp, RNs, RNc]
  refine sets_loop (R := fun o => CO.of o = _) [.none] P hP S fun e2 => ?_
  have hle := subs_le hP
  have lc : xLc [3] (iPlain (xSlot 1)) (gN 3) tYes' (xTup [(xLen (bSlot 3)), (xSlot 3)]) [.val (tupD P), .own (.lst ((subs P).map tupD)), e2, .none, .none] S =
      .ok (.own (.lst (((subs P).map tupD).map fun d => PX.D.tup [.int ((dsOf d).length : Nat), d]))) [.val (tupD P), .val (.lst ((subs P).map tupD)), e2, .none, .none] S := by
    refine lc_all (en := [.val (tupD P), .val (.lst ((subs P).map tupD)), e2, .none, .none]) (S := S) (xs := (subs P).map tupD) _ ?_ rfl (by simp) (sl_imp (by rw [List.length_map]; omega)) ?_
    · simp only [↓RNp, RNs, RNc]
    · intro d hd
      obtain ⟨m, hm, rfl⟩ := List.mem_map.mp hd
      refine ⟨.val (.tup [.int ((nm m).length : Nat), .tup (nm m)]), ?_, rfl⟩
      simp only [↓RNp, RNs, RNc]
  have e1 : (((subs P).map tupD).map fun d => PX.D.tup [.int ((dsOf d).length : Nat), d]) = (subs P).map rankD := by
    rw [List.map_map]
    apply List.map_congr_left
    intro m _
    show PX.D.tup [.int ((nm m).length : Nat), .tup (nm m)] = rankD m
    rw [q_nml]; rfl
  rw [e1] at lc
  have hs : sortX ((subs P).map rankD) = some (.own (.lst ((setsIn P).map rankD))) := by
    unfold sortX
    rw [if_pos (rank_ok _ (sl_imp (by omega))), rank_sort]; rfl
  have hl : (setsIn P).length ≤ 256 := by
    show ((subs P).mergeSort _).length ≤ 256
    rw [List.length_mergeSort]; exact hle
  have lc2 : xLc [4] (iPlain (xB1 .sorted (bE (xLc [3] (iPlain (xSlot 1)) (gN 3) tYes' (xTup [(xLen (bSlot 3)), (xSlot 3)]))))) (gN 4) tYes' (xIx (bSlot 4) (bE (xVal (.int 1)))) [.val (tupD P), .own (.lst ((subs P).map tupD)), e2, .none, .none] S =
      .ok (.own (.lst (((setsIn P).map rankD).map fun d => (dsOf d).getD 1 .non))) [.val (tupD P), .val (.lst ((subs P).map tupD)), e2, .none, .none] S := by
    refine lc_all (en := [.val (tupD P), .val (.lst ((subs P).map tupD)), e2, .none, .none]) (S := S) (xs := (setsIn P).map rankD) _ ?_ rfl (by simp) (sl_imp (by rw [List.length_map]; omega)) ?_
    · simp only [↓RNp, RNs, RNc, lc, hs]
    · intro d hd
      obtain ⟨m, hm, rfl⟩ := List.mem_map.mp hd
      refine ⟨.val (tupD m), ?_, rfl⟩
      have hg : getD (rankD m) (.int 1) = some (tupD m) := rfl
      simp only [↓RNp, RNs, RNc, hg]
  simp only [↓RNp, RNs, RNc, lc2]
  rw [List.map_map]
  rfl
def HasLSets (c : CallT) : Prop := ∀ (S : Stm) (P : List Str), P.length ≤ 8 → c ("_law_sets", none) [tupD P] S = .ok (.own (.lst ((setsIn P).map tupD))) S
theorem has_lsets {lo hi : CallT} (h : Is "_law_sets" c__law_sets 1 4 lo hi) : HasLSets hi := fun S P hP => (h _ S rfl).trans (r_lsets lo S P hP)
end PX

set_option Elab.async false
set_option linter.all false
set_option maxRecDepth 100000
set_option maxHeartbeats 4000000
/-! PxC5: orders, any values, what a def tells or raises. -/
namespace PX
open PySem
theorem mut_pop1 {xs : List D} {i : Int} {y : D} (h0 : 0 ≤ i) (h1 : i < 1000) (h : xs[i.toNat]? = some y) : mutO (.lst xs) "pop" [.int i] = some (.lst (xs.eraseIdx i.toNat), y) := by
  show mutO (.lst xs) (Str.ofString "pop") [.int i] = _
  have hl : i.toNat < xs.length := (List.getElem?_eq_some_iff.mp h).1
  have hx : L2.ixN xs.length i = some i.toNat := by
    unfold L2.ixN
    rw [if_pos h0, if_pos (by omega)]
  unfold mutO
  simp only
  rw [if_neg (by decide), if_true]
  rw [if_pos (by omega), hx]
  simp only [h]
  rfl
theorem mut_pop0 {xs : List D} {y : D} (h : xs[xs.length - 1]? = some y) : mutO (.lst xs) "pop" [] = some (.lst xs.dropLast, y) := by
  show mutO (.lst xs) (Str.ofString "pop") [] = _
  unfold mutO
  simp only
  rw [if_true, h]
  rfl
theorem perm_erase {α : Type} : ∀ {l : List α} {i : Nat} (h : i < l.length), (l[i] :: l.eraseIdx i).Perm l
  | _ :: _, 0, _ => List.Perm.refl _
  | a :: r, i + 1, h => by
    have h' : i < r.length := by simpa using h
    refine List.Perm.trans (List.Perm.swap _ _ _) ?_
    exact List.Perm.cons a (perm_erase h')
/-- a drawn order -/
theorem r_order (call : CallT) (hd : Draws call) (m : Nat) (S : Stm) (d : D) (xs : List D) (hx : b1D .list d = some (.own (.lst xs))) (hs : StOk m S) (hm : m < 900000) (hl : xs.length ≤ 1000) :
    ∃ ys S', CO.of (c__law_order call [.val .st, .val d, .none, .none, .none] S) = .ok (.own (.lst ys)) S' ∧ ys.Perm xs ∧ StOk (m + xs.length) S' := by
  simp only [c__law_order, ↓RNp, RNs, RNc, hx]
  refine then_for (R := fun o => ∃ ys S', CO.of o = .ok (.own (.lst ys)) S' ∧ ys.Perm xs ∧ StOk (m + xs.length) S') (xs := (List.range xs.length).map fun k => PX.D.int (0 + (k : Nat)))
    (en' := [.val .st, .val d, .own (.lst xs), .own (.lst []), .none]) (S' := S)
    (fun i en S => ∃ l t e, en = [.val .st, .val d, .own (.lst l), .own (.lst t), e] ∧ (t ++ l).Perm xs ∧ l.length + i = xs.length ∧ t.length = i ∧ StOk (m + i) S) ?_ ⟨xs, [], _, rfl, List.Perm.refl _, by omega, rfl, by simpa using hs⟩ ?_ ?_
  · simp only [↓RNp, RNs, RNc]
    rw [range_ok (by omega) (by omega)]
    rfl
  · rintro i y en S1 hy ⟨l, t, e, rfl, hp, hli, ht, hs1⟩
    have hi : i < xs.length := by
      have := (List.getElem?_eq_some_iff.mp hy).1
      simpa using this
    obtain ⟨v, S2, c1, l1, u1, hs2⟩ := dr0 hd hs1 (l.length : Nat) (by omega) (by omega) (by omega)
    have hv : v.toNat < l.length := by omega
    refine ⟨_, rfl, ?_⟩
    have hg : l[v.toNat]? = some l[v.toNat] := List.getElem?_eq_getElem hv
    have hlt : t.length < sizeLine := by
      have : sizeLine = 16777216 := rfl
      omega
    simp only [↓RNp, RNs, RNc, c1, mut_pop1 l1 (show v < 1000 by omega) hg, mut_app hlt]
    refine ⟨_, _, _, rfl, ?_, ?_, by simp [ht], hs2⟩
    · rw [List.append_assoc]
      refine List.Perm.trans (List.Perm.append_left t ?_) hp
      exact perm_erase hv
    · rw [List.length_eraseIdx_of_lt hv]; omega
  · rintro en S1 ⟨l, t, e, rfl, hp, hli, ht, hs1⟩
    simp only [List.length_map, List.length_range] at hli ht hs1
    have : l = [] := List.length_eq_zero_iff.mp (by omega)
    subst this
    rw [List.append_nil] at hp
    refine ⟨t, S1, ?_, hp, hs1⟩
    simp only [↓RNp, RNs, RNc]
def HasOrder (c : CallT) : Prop := ∀ (m : Nat) (S : Stm) (d : D) (xs : List D), b1D .list d = some (.own (.lst xs)) → StOk m S → m < 900000 → xs.length ≤ 1000 → ∃ ys S', c ("_law_order", none) [.st, d] S = .ok (.own (.lst ys)) S' ∧ ys.Perm xs ∧ StOk (m + xs.length) S'
theorem has_order {lo hi : CallT} (h : Is "_law_order" c__law_order 2 3 lo hi) (hd : Draws lo) : HasOrder hi := fun m S d xs hx hs hm hl => by
  obtain ⟨ys, S', e, r⟩ := r_order lo hd m S d xs hx hs hm hl
  exact ⟨ys, S', (h _ S rfl).trans e, r⟩
/-- a comprehension of one name whose test draws: some of the items -/
theorem lc_sel {S0 S : Stm} {ifs : FT} {xs : List D} (en : En) (j : Nat) (it : FI) (m c : Nat) (h0 : it en S0 = .ok xs en S) (hn : noOwn en [j] = true) (hj : j < en.length) (hlen : xs.length ≤ sizeLine) (hs : StOk m S)
    (ht : ∀ d ∈ xs, ∀ m' S, StOk m' S → m' ≤ m + c * xs.length → ∃ b S', ifs (en.set j (.val d)) S = .ok b (en.set j (.val d)) S' ∧ StOk (m' + c) S') :
    ∃ ys S', xLc [j] it (gN j) ifs (xSlot j) en S0 = .ok (.own (.lst ys)) en S' ∧ ys.Sublist xs ∧ StOk (m + c * xs.length) S' := by
  obtain ⟨e0, h00⟩ : ∃ e0, en[j]? = some e0 := ⟨_, List.getElem?_eq_getElem hj⟩
  refine Exists.elim (turns_inv (vs := [j]) (tg := gN j) (ifs := ifs) (elt := xSlot j) (xs := xs) (S := S) (fun i acc en1 S1 => StOk (m + c * i) S1 ∧ acc.Sublist (xs.take i) ∧ ∃ x, en1 = en.set j x) (en := en) ⟨by simpa using hs, by simp, e0, (set_self h00).symm⟩ ?_) ?_
  · rintro i d acc en1 S1 hd ⟨hs1, ha, x, rfl⟩
    have hm : d ∈ xs := List.mem_of_getElem? hd
    have hi : i < xs.length := (List.getElem?_eq_some_iff.mp hd).1
    have tk : xs.take (i + 1) = xs.take i ++ [d] := by rw [List.take_add_one, hd]; rfl
    have et : gN j d (wipeE (en.set j x) [j]) = some (en.set j (.val d)) := by
      show some (((en.set j x).set j .none).set j (.val d)) = _
      rw [List.set_set, List.set_set]
    obtain ⟨b, S2, h1, h3⟩ := ht d hm _ S1 hs1 (Nat.add_le_add_left (Nat.mul_le_mul_left c (Nat.le_of_lt hi)) m)
    have h3 : StOk (m + c * (i + 1)) S2 := by rw [Nat.mul_succ, ← Nat.add_assoc]; exact h3
    refine ⟨en.set j (.val d), b, en.set j (.val d), S2, et, h1, ?_⟩
    cases b with
    | false =>
      refine ⟨h3, ?_, _, rfl⟩
      rw [tk]
      exact ha.trans (List.sublist_append_left _ _)
    | true =>
      refine ⟨.val d, en.set j (.val d), S2, ?_, ?_, h3, ?_, _, rfl⟩
      · rw [q_xSlot, List.getElem?_set_self hj]; rfl
      · have := ha.length_le
        rw [List.length_take] at this
        omega
      · rw [tk]
        exact ha.append (List.Sublist.refl _)
  · rintro ys ⟨en', S', hts, hs', hl, x, rfl⟩
    rw [List.take_length] at hl
    refine ⟨ys, S', ?_, hl, hs'⟩
    rw [xLc_of h0 hn hts]
    have e2 : restore en (en.set j x) [j] = en := by
      show (en.set j x).set j ((en[j]?).getD .none) = en
      rw [List.set_set, h00]
      exact set_self h00
    rw [e2]
end PX

set_option Elab.async false
set_option linter.all false
set_option maxRecDepth 100000
set_option maxHeartbeats 4000000
/-! PxC6: any values; what a def tells or raises. -/
namespace PX
open PySem
theorem allStrs_nm : ∀ xs : List Str, allStrs (nm xs) = some xs
  | [] => rfl
  | x :: r => by
    show (allStrs (nm r)).map (x :: ·) = _
    rw [allStrs_nm r]; rfl
theorem sum_le {xs : List Str} {b : Nat} (h : ∀ x ∈ xs, x.length ≤ b) : (xs.map (·.length)).sum ≤ xs.length * b := by
  induction xs with
  | nil => simp
  | cons x r ih =>
    have h1 := h x (List.mem_cons_self ..)
    have h2 := ih fun y hy => h y (List.mem_cons_of_mem _ hy)
    rw [List.map_cons, List.sum_cons, List.length_cons, Nat.succ_mul]
    omega
theorem join_nm {s : Str} {xs : List Str} (hs : s.length ≤ 100) (hl : xs.length ≤ 100) (hx : ∀ x ∈ xs, x.length ≤ 100) : metD (.str s) "join" [.tup (nm xs)] = some (.val (.str (Txt.join s xs))) := by
  rw [met_str, if_pos rfl]
  show joinD _ _ = _
  unfold joinD
  rw [allStrs_nm]
  show (if _ then _ else _) = _
  rw [if_pos]
  have := sum_le hx
  have h1 : xs.length * 100 ≤ 100 * 100 := Nat.mul_le_mul_right _ hl
  have h2 : xs.length * s.length ≤ 100 * 100 := Nat.mul_le_mul hl hs
  omega
theorem sub_nm {P : List Str} {ys : List D} (h : ys.Sublist (nm P)) : ∃ Q : List Str, ys = nm Q ∧ Q.Sublist P := by
  obtain ⟨Q, h1, h2⟩ := List.sublist_map_iff.mp h
  exact ⟨Q, h2, h1⟩
/-- items of any kind -/
def mixL (P : List Str) : List D := nm P ++ [.str "zz9", .str "", .int 1, .non, .tup [], .str "A"]
theorem mix_ok {P : List Str} {d : D} (h : d ∈ mixL P) : okD 40 d = true := by
  rcases List.mem_append.mp h with h | h
  · obtain ⟨x, _, rfl⟩ := List.mem_map.mp h; rfl
  · simp only [List.mem_cons, List.not_mem_nil, or_false] at h
    rcases h with rfl | rfl | rfl | rfl | rfl | rfl <;> rfl
theorem mixL_len (P : List Str) : (mixL P).length = P.length + 6 := by simp [mixL, nm]
theorem getL_mem {xs : List D} {i : Int} (h0 : 0 ≤ i) (h1 : i < xs.length) : ∃ y, getD (.lst xs) (.int i) = some y ∧ y ∈ xs := by
  have hl : i.toNat < xs.length := by omega
  exact ⟨xs[i.toNat], getL h0 (List.getElem?_eq_getElem hl), List.getElem_mem hl⟩
theorem good_tup {ds : List D} (h : ∀ d ∈ ds, okD 50 d = true) (hl : ds.length ≤ 1000) : GoodT (.tup ds) := .inl ⟨ds, rfl, by rw [List.all_eq_true]; exact h, hl⟩
/-- what may be compared with itself -/
def OkV (d : D) : Prop := okD 55 d = true ∨ ∃ kvs, d = .dct kvs ∧ smallK kvs = true
theorem good_tup2 {ds : List D} (h : ∀ d ∈ ds, okD 50 d = true) (hl : ds.length ≤ 1000) : GoodT (.tup ds) ∧ OkV (.tup ds) := by
  refine ⟨good_tup h hl, .inl ?_⟩
  show ds.all (okD 54) = true
  rw [List.all_eq_true]
  exact fun x hx => okD_mono (by omega) (h x hx)
theorem r_any (call : CallT) (hd : Draws call) (m : Nat) (S : Stm) (P : List Str) (hs : StOk m S) (hm : m < 900000) (h0 : 0 < P.length) (hl : P.length ≤ 8) (hx : ∀ x ∈ P, x.length ≤ 100) :
    ∃ d S', CO.of (c__law_any call [.val .st, .val (tupD P), .none, .none, .none, .none, .none, .none] S) = .ok (.val d) S' ∧ (GoodT d ∧ OkV d) ∧ StOk (m + 30) S' := by
  have a1 : binD .Add (.lst (nm P)) (.lst [.str "zz9", .str "", .int 1, .non, .tup [], .str "A"]) = some (.own (.lst (mixL P))) := add_lst _ _ (sl_imp (by simp [nm]; omega))
  obtain ⟨v, S1, c1, l1, u1, hs1⟩ := dr0 hd hs 4 (by omega) (by omega) (by omega)
  obtain ⟨row, S2, lc, hrl, hrP, hs2⟩ := lc_st (S0 := S) (xs := (List.range v.toNat).map fun k => D.int (0 + (k : Nat))) [.val .st, .val (tupD P), .own (.lst (mixL P)), .none, .none, .none, .none, .none] 3 (iRange [(xCall (call ("_law_draw", none)) ["_law_state", "_law_size"] [(bSlot 0), (bE (xVal (.int 4)))] [])])
    (e := xIx (bSlot 2) (bE (xCall (call ("_law_draw", none)) ["_law_state", "_law_size"] [(bSlot 0), (bE (xLen (bSlot 2)))] []))) (fun y => y ∈ mixL P) (m + 1) 1
    (by simp only [↓RNp, RNs, RNc, c1, range_ok l1 (show v ≤ 1000 by omega)]) rfl (by simp) (sl_imp (by simp only [List.length_map, List.length_range]; omega)) hs1 (by
      intro d _ m' S hs hm'
      obtain ⟨v, S1, c1, l1, u1, hs1⟩ := dr0 hd hs ((mixL P).length : Nat) (by simp at hm'; omega) (by rw [mixL_len]; omega) (by rw [mixL_len]; omega)
      obtain ⟨y, hy, hm⟩ := getL_mem l1 u1
      refine ⟨.val y, S1, ?_, hm, hs1⟩
      simp only [↓RNp, RNs, RNc, c1, hy])
  have hrl : row.length ≤ 3 := by simp at hrl; omega
  obtain ⟨pt, S3, lc2, hsub, hs3⟩ := lc_sel (S0 := S2) (S := S2) (xs := nm P) [.val .st, .val (tupD P), .own (.lst (mixL P)), .none, .own (.lst row), .none, .none, .none] 5 (iPlain (xSlot 1)) (m + 4) 1
    (ifs := tE (xCmp .Eq (bE (xCall (call ("_law_draw", none)) ["_law_state", "_law_size"] [(bSlot 0), (bE (xVal (.int 2)))] [])) (bE (xVal (.int 1)))))
    (by simp only [↓RNp, RNs, RNc]) rfl (by simp) (sl_imp (by simp [nm]; omega)) (hs2.mono (by simp; omega)) (by
      intro d _ m' S hs hm'
      obtain ⟨v, S1, c1, l1, u1, hs1⟩ := dr0 hd hs 2 (by simp [nm] at hm'; omega) (by omega) (by omega)
      refine ⟨decide (v = 1), S1, ?_, hs1⟩
      simp only [↓RNp, RNs, RNc, c1])
  obtain ⟨Q, rfl, hQ⟩ := sub_nm hsub
  have hs3 : StOk (m + 12) S3 := hs3.mono (by simp [nm]; omega)
  obtain ⟨w, S4, c4, l4, u4, hs4⟩ := dr0 hd hs3 ((mixL P).length : Nat) (by omega) (by rw [mixL_len]; omega) (by rw [mixL_len]; omega)
  obtain ⟨y, hy, hym⟩ := getL_mem l4 u4
  have hQl : Q.length ≤ 8 := Nat.le_trans hQ.length_le hl
  have hQx : ∀ x ∈ Q, x.length ≤ 100 := fun x h => hx x (hQ.subset h)
  have a2 : binD .Add (.tup (nm Q)) (.tup (cutD (nm Q) none (some 1))) = some (.val (.tup (nm Q ++ (nm Q).take 1))) := by
    rw [show (1 : Int) = ((1 : Nat) : Int) from rfl, cut_to]
    exact add_tup _ _ (sl_imp (by simp [nm]; omega))
  have a3 : binD .Add (.tup (nm Q)) (.tup [y]) = some (.val (.tup (nm Q ++ [y]))) := add_tup _ _ (sl_imp (by simp [nm]; omega))
  have j1 := join_nm (s := "") (by decide) (show Q.length ≤ 100 by omega) hQx
  have j2 := join_nm (s := " ") (by decide) (show P.length ≤ 100 by omega) hx
  cases P with
  | nil => simp at h0
  | cons p0 P =>
  have g0 : getD (.tup (nm (p0 :: P))) (.int 0) = some (.str p0) := by
    show L2.atI (nm (p0 :: P)) 0 = _
    unfold L2.atI L2.ixN
    simp [nm]
  have a4 : binD .Add (.lst [.tup (nm Q), .tup row, .lst (nm Q), .tup (nm Q).reverse, .tup (nm Q ++ (nm Q).take 1), .tup (nm Q ++ [y])])
      (.lst [.lst row, .str (Txt.join "" Q), .str (Txt.join " " (p0 :: P)), .non, .bl true, .int 0, .dct [(.str p0, .int 1)], .tup [.tup (nm Q)], .int (-1), .tup [.lst (nm Q)], .tup []]) = some (.own (.lst ([.tup (nm Q), .tup row, .lst (nm Q), .tup (nm Q).reverse, .tup (nm Q ++ (nm Q).take 1), .tup (nm Q ++ [y])] ++ [.lst row, .str (Txt.join "" Q), .str (Txt.join " " (p0 :: P)), .non, .bl true, .int 0, .dct [(.str p0, .int 1)], .tup [.tup (nm Q)], .int (-1), .tup [.lst (nm Q)], .tup []]))) := add_lst _ _ (sl_imp (by simp))
  simp only [c__law_any, ↓RNp, RNs, RNc, a1, lc, lc2, c4, hy, a2, a3, j1, j2, g0, a4]
  generalize hp : ([.tup (nm Q), .tup row, .lst (nm Q), .tup (nm Q).reverse, .tup (nm Q ++ (nm Q).take 1), .tup (nm Q ++ [y]), .lst row, .str (Txt.join "" Q), .str (Txt.join " " (p0 :: P)), .non, .bl true, .int 0, .dct [(.str p0, .int 1)], .tup [.tup (nm Q)], .int (-1), .tup [.lst (nm Q)], .tup []] : List D) = pile
  have hpl : pile.length = 17 := by rw [← hp]; rfl
  obtain ⟨u, S5, c5, l5, u5, hs5⟩ := dr0 hd hs4 (pile.length : Nat) (by omega) (by omega) (by omega)
  obtain ⟨z, hz, hzm⟩ := getL_mem l5 u5
  simp only [↓RNp, RNs, RNc, c5, hz]
  refine ⟨z, S5, rfl, ?_, hs5.mono (by omega)⟩
  have oQ : ∀ d ∈ nm Q, okD 50 d = true := by
    intro d hd
    obtain ⟨x, _, rfl⟩ := List.mem_map.mp hd; rfl
  have oR : ∀ d ∈ row, okD 50 d = true := fun d hd => okD_mono (by omega) (mix_ok (hrP d hd))
  have oy : okD 50 y = true := okD_mono (by omega) (mix_ok hym)
  have hQn : (nm Q).length ≤ 8 := by simp [nm]; omega
  have oQt : okD 49 (.tup (nm Q)) = true := nm_ok Q 47
  rw [← hp] at hzm
  simp only [List.mem_cons, List.not_mem_nil, or_false] at hzm
  rcases hzm with rfl | rfl | rfl | rfl | rfl | rfl | rfl | rfl | rfl | rfl | rfl | rfl | rfl | rfl | rfl | rfl | rfl
  · exact good_tup2 oQ (by omega)
  · exact good_tup2 oR (by omega)
  · exact ⟨.inr ⟨rfl, fun _ h => by cases h⟩, .inl (okD_mono (show 49 ≤ 55 by omega) (show okD 49 (.lst (nm Q)) = true from nm_ok Q 47))⟩
  · exact good_tup2 (fun d hd => oQ d (List.mem_reverse.mp hd)) (by rw [List.length_reverse]; omega)
  · refine good_tup2 (fun d hd => ?_) (by simp; omega)
    rcases List.mem_append.mp hd with hd | hd
    · exact oQ d hd
    · exact oQ d (List.mem_of_mem_take hd)
  · refine good_tup2 (fun d hd => ?_) (by simp; omega)
    rcases List.mem_append.mp hd with hd | hd
    · exact oQ d hd
    · rw [List.mem_singleton.mp hd]; exact oy
  · exact ⟨.inr ⟨rfl, fun _ h => by cases h⟩, .inl (by show row.all (okD 54) = true; rw [List.all_eq_true]; exact fun x hx => okD_mono (by omega) (oR x hx))⟩
  · exact ⟨.inr ⟨rfl, fun _ h => by cases h⟩, .inl rfl⟩
  · exact ⟨.inr ⟨rfl, fun _ h => by cases h⟩, .inl rfl⟩
  · exact ⟨.inr ⟨rfl, fun _ h => by cases h⟩, .inl rfl⟩
  · exact ⟨.inr ⟨rfl, fun _ h => by cases h⟩, .inl rfl⟩
  · exact ⟨.inr ⟨rfl, fun _ h => by cases h⟩, .inl rfl⟩
  · exact ⟨.inr ⟨rfl, fun _ h => by cases h⟩, .inr ⟨_, rfl, rfl⟩⟩
  · exact good_tup2 (fun d hd => by rw [List.mem_singleton.mp hd]; exact okD_mono (by omega) oQt) (by simp)
  · exact ⟨.inr ⟨rfl, fun _ h => by cases h⟩, .inl rfl⟩
  · exact good_tup2 (fun d hd => by rw [List.mem_singleton.mp hd]; exact okD_mono (by omega) (show okD 49 (.lst (nm Q)) = true from nm_ok Q 47)) (by simp)
  · exact good_tup2 (fun d hd => by cases hd) (by simp)
def HasAny (c : CallT) : Prop := ∀ (m : Nat) (S : Stm) (P : List Str), StOk m S → m < 900000 → 0 < P.length → P.length ≤ 8 → (∀ x ∈ P, x.length ≤ 100) → ∃ d S', c ("_law_any", none) [.st, tupD P] S = .ok (.val d) S' ∧ GoodT d ∧ StOk (m + 30) S'
def HasAny2 (c : CallT) : Prop := ∀ (m : Nat) (S : Stm) (P : List Str), StOk m S → m < 900000 → 0 < P.length → P.length ≤ 8 → (∀ x ∈ P, x.length ≤ 100) → ∃ d S', c ("_law_any", none) [.st, tupD P] S = .ok (.val d) S' ∧ (GoodT d ∧ OkV d) ∧ StOk (m + 30) S'
theorem has_any2 {lo hi : CallT} (h : Is "_law_any" c__law_any 2 6 lo hi) (hd : Draws lo) : HasAny2 hi := fun m S P hs hm h0 hl hx => by
  obtain ⟨d, S', e, r⟩ := r_any lo hd m S P hs hm h0 hl hx
  exact ⟨d, S', (h _ S rfl).trans e, r⟩
theorem has_any {lo hi : CallT} (h : Is "_law_any" c__law_any 2 6 lo hi) (hd : Draws lo) : HasAny hi := fun m S P hs hm h0 hl hx => by
  obtain ⟨d, S', e, ⟨r, _⟩, q⟩ := r_any lo hd m S P hs hm h0 hl hx
  exact ⟨d, S', (h _ S rfl).trans e, r, q⟩
end PX

set_option Elab.async false
set_option linter.all false
set_option maxRecDepth 100000
set_option maxHeartbeats 4000000
/-! PxC7: what a def tells or raises. -/
namespace PX
open PySem
def tell (t : Str) (d : D) : D := .lst [.str t, d]
def madeR (xs : List Str) : D :=
  if 1 ≤ xs.length ∧ xs.length ≤ 5 then (match firstE [] xs with
    | some (true, x) => tell "twice" (.str x)
    | some (false, x) => tell "name" (.str x)
    | none => tell "things" (sortedT xs))
  else tell "count" (.int (xs.length : Nat))
def ownL : D → O
  | .lst l => .lst l
  | _ => .lst []
def errs3 : List (Str × List Str) := [("BadCount", ["count"]), ("BadName", ["name"]), ("DuplicateName", ["name"])]
theorem r_made (T : Tb) (hT : errT T errs3 = true) (call : CallT) (ht : HasThings call) (S : Stm) (xs : List Str) (d : PX.D) (hl : lenD d = some xs.length) (hi : itemsD d = some (nm xs)) (hx : ∀ x ∈ xs, x.length ≤ 1000) :
    CO.of (c__law_made T call [.val d, .none] S) = .ok (.own (ownL (madeR xs))) S := by
  have m1 : (("BadCount" : Str), [("count" : Str)]) ∈ errs3 := by simp [errs3]
  have m2 : (("BadName" : Str), [("name" : Str)]) ∈ errs3 := by simp [errs3]
  have m3 : (("DuplicateName" : Str), [("name" : Str)]) ∈ errs3 := by simp [errs3]
  have k1 := errT_has hT m1
  have k2 := errT_has hT m2
  have k3 := errT_has hT m3
  have s11 : isSubOf T (.glo "BadCount") "BadCount" = true := errT_sub hT m1 m1
  have s21 : isSubOf T (.glo "BadName") "BadCount" = false := errT_sub hT m2 m1
  have s22 : isSubOf T (.glo "BadName") "BadName" = true := errT_sub hT m2 m2
  have s31 : isSubOf T (.glo "DuplicateName") "BadCount" = false := errT_sub hT m3 m1
  have s32 : isSubOf T (.glo "DuplicateName") "BadName" = false := errT_sub hT m3 m2
  have s33 : isSubOf T (.glo "DuplicateName") "DuplicateName" = true := errT_sub hT m3 m3
  have c := ht S xs d hl hi hx
  have f1 : ∀ d : D, lkS [(("count" : Str), d)] "count" = some d := fun d => rfl
  have f2 : ∀ d : D, lkS [(("name" : Str), d)] "name" = some d := fun d => rfl
  simp only [c__law_made, ↓RNp, RNs, RNc, c]
  unfold thingsR madeR
  by_cases hc : 1 ≤ xs.length ∧ xs.length ≤ 5
  · rw [if_pos hc, if_pos hc]
    cases firstE [] xs with
    | none => simp only [↓RNp, RNs, RNc, tell, ownL]
    | some p =>
      obtain ⟨b, x⟩ := p
      cases b
      · simp only [↓RNp, RNs, RNc, errC, k2, Option.isSome_some, s21, s22, f2, List.mem_singleton, tell, ownL]
      · simp only [↓RNp, RNs, RNc, errC, k3, Option.isSome_some, s31, s32, s33, f2, List.mem_singleton, tell, ownL]
  · rw [if_neg hc, if_neg hc]
    simp only [↓RNp, RNs, RNc, k1, Option.isSome_some, s11, f1, List.mem_singleton, tell, ownL]
theorem nm_take (xs : List Str) (i : Nat) : (nm xs).take i = nm (xs.take i) := by unfold nm; rw [List.map_take]
theorem r_due (call : CallT) (hg : HasGood call) (S : Stm) (xs : List Str) (hl : xs.length ≤ 100) (hx : ∀ x ∈ xs, x.length ≤ 1000) :
    CO.of (c__law_due call [.val (.lst (nm xs)), .none] S) = .ok (.own (ownL (madeR xs))) S := by
  simp only [c__law_due, ↓RNp, RNs, RNc]
  unfold madeR
  cases t : (decide (((xs.length : Nat) : Int) < 1) || decide ((5 : Int) < ((xs.length : Nat) : Int))) with
  | true =>
    have hc : ¬ (1 ≤ xs.length ∧ xs.length ≤ 5) := by
      simp only [Bool.or_eq_true, decide_eq_true_eq] at t
      omega
    rw [if_neg hc]
    simp only [↓RNp, RNs, RNc, tell, ownL]
  | false =>
  have hc : 1 ≤ xs.length ∧ xs.length ≤ 5 := by
    simp only [Bool.or_eq_false_iff, decide_eq_false_iff_not] at t
    omega
  rw [if_pos hc]
  simp only [↓RNp, RNs, RNc]
  refine then_for (R := fun o => CO.of o = .ok (.own (ownL (match firstE [] xs with | some (true, x) => tell "twice" (.str x) | some (false, x) => tell "name" (.str x) | none => tell "things" (sortedT xs)))) S) (xs := (List.range xs.length).map fun k => D.int (0 + (k : Nat))) (en' := [.val (.lst (nm xs)), .none]) (S' := S)
    (fun i en S' => S' = S ∧ (∃ e, en = [.val (.lst (nm xs)), e]) ∧ firstE (xs.take i) (xs.drop i) = firstE [] xs) ?_ ⟨rfl, ⟨_, rfl⟩, rfl⟩ ?_ ?_
  · simp only [↓RNp, RNs, RNc]
    rw [range_ok (by omega) (by omega)]
    rfl
  · rintro i y en S1 hy ⟨rfl, ⟨e, rfl⟩, hf⟩
    have hil : i < xs.length := by
      have := (List.getElem?_eq_some_iff.mp hy).1
      simpa using this
    rw [List.getElem?_map, List.getElem?_eq_getElem (by simpa using hil), List.getElem_range] at hy
    injection hy with hy; subst hy
    have hdr : xs.drop i = xs[i] :: xs.drop (i + 1) := List.drop_eq_getElem_cons hil
    have tk : xs.take (i + 1) = xs.take i ++ [xs[i]] := by rw [List.take_add_one, List.getElem?_eq_getElem hil]; rfl
    generalize hxi : xs[i] = x at hdr tk
    have hxl := hx x (hxi ▸ List.getElem_mem hil)
    rw [hdr, firstE] at hf
    refine ⟨_, rfl, ?_⟩
    have k0 : (0 + (i : Nat) : Int) = (i : Int) := by omega
    have g : getD (.lst (nm xs)) (.int (i : Int)) = some (.str x) := getL (by omega) (by
      unfold nm
      rw [List.getElem?_map, Int.toNat_natCast, List.getElem?_eq_getElem hil, hxi]; rfl)
    have gd := hg S1 x hxl
    simp only [↓RNp, RNs, RNc, k0, g, gd, cut_to, nm_take]
    cases hv : isNm x.cps.toList with
    | false =>
      rw [hv, if_neg (by simp)] at hf
      simp only [↓RNp, RNs, RNc, g, ← hf, tell, ownL]
    | true =>
      rw [hv, if_pos rfl] at hf
      by_cases hin : x ∈ xs.take i
      · rw [if_pos hin] at hf
        simp only [↓RNp, RNs, RNc, g, cut_to, nm_take, decide_eq_true hin, ← hf, tell, ownL]
      · rw [if_neg hin] at hf
        simp only [↓RNp, RNs, RNc, g, cut_to, nm_take, decide_eq_false hin]
        exact ⟨trivial, ⟨_, rfl⟩, by rw [tk]; exact hf⟩
  · rintro en S1 ⟨rfl, ⟨e, rfl⟩, hf⟩
    simp only [List.length_map, List.length_range, List.take_length, List.drop_length] at hf
    have hf : none = firstE [] xs := hf
    have hs : sortX (nm xs) = some (.own (.lst ((nm xs).mergeSort leE))) := sort_nm xs (sl_imp (by omega))
    simp only [↓RNp, RNs, RNc, ← hf, hs, tell, ownL]
    rfl
def HasMade (c : CallT) : Prop := ∀ (S : Stm) (xs : List Str) (d : PX.D), lenD d = some xs.length → itemsD d = some (nm xs) → (∀ x ∈ xs, x.length ≤ 1000) → c ("_law_made", none) [d] S = .ok (.own (ownL (madeR xs))) S
theorem has_made {T : Tb} {lo hi : CallT} (h : Is "_law_made" (c__law_made T) 1 1 lo hi) (hT : errT T errs3 = true) (ht : HasThings lo) : HasMade hi := fun S xs d hl hi hx => (h _ S rfl).trans (r_made T hT lo ht S xs d hl hi hx)
def HasDue (c : CallT) : Prop := ∀ (S : Stm) (xs : List Str), xs.length ≤ 100 → (∀ x ∈ xs, x.length ≤ 1000) → c ("_law_due", none) [.lst (nm xs)] S = .ok (.own (ownL (madeR xs))) S
theorem has_due {lo hi : CallT} (h : Is "_law_due" c__law_due 1 1 lo hi) (hg : HasGood lo) : HasDue hi := fun S xs hl hx => (h _ S rfl).trans (r_due lo hg S xs hl hx)
def HasCut (c : CallT) : Prop := ∀ (S : Stm) (m : List Str) (x : Str), m.length ≤ 1000 → c ("_law_cut", none) [tupD m, .str x] S = .ok (.val (if x ∈ m then tupD (m.filter fun y => !decide (y = x)) else .str x)) S
theorem r_cut (T : Tb) (hT : errT T [("UnknownName", ["name"])] = true) (call : CallT) (hw : HasWithout call) (S : Stm) (m : List Str) (x : Str) (hm : m.length ≤ 1000) :
    CO.of (c__law_cut T call [.val (tupD m), .val (.str x), .none] S) = .ok (.val (if x ∈ m then tupD (m.filter fun y => !decide (y = x)) else .str x)) S := by
  have m1 : (("UnknownName" : Str), [("name" : Str)]) ∈ [(("UnknownName" : Str), [("name" : Str)])] := by simp
  have k1 := errT_has hT m1
  have s11 : isSubOf T (.glo "UnknownName") "UnknownName" = true := errT_sub hT m1 m1
  have f2 : ∀ d : D, lkS [(("name" : Str), d)] "name" = some d := fun d => rfl
  have w := hw S m x hm
  by_cases h : x ∈ m
  · rw [if_pos h] at w ⊢
    simp only [c__law_cut, ↓RNp, RNs, RNc, w]
  · rw [if_neg h] at w ⊢
    simp only [c__law_cut, ↓RNp, RNs, RNc, w, k1, s11, f2, Option.isSome_some, List.mem_singleton]
theorem has_cut {T : Tb} {lo hi : CallT} (h : Is "_law_cut" (c__law_cut T) 2 1 lo hi) (hT : errT T [("UnknownName", ["name"])] = true) (hw : HasWithout lo) : HasCut hi := fun S m x hm => (h _ S rfl).trans (r_cut T hT lo hw S m x hm)
end PX

set_option Elab.async false
set_option linter.all false
set_option maxRecDepth 100000
set_option maxHeartbeats 4000000
/-! PxC8: texts in order. -/
namespace PX
open PySem
def leS (a b : Str) : Bool := leE (.str a) (.str b)
theorem leE_total : PySem.W.TotalLe leE := PySem.W.sortLe_total _ false _
theorem leS_anti {a b : Str} (h1 : leS a b = true) (h2 : leS b a = true) : a = b := by
  have h1 : (!(PySem.W.dataLt (.str b) (.str a))) = true := h1
  have h2 : (!(PySem.W.dataLt (.str a) (.str b))) = true := h2
  rw [Bool.not_eq_true'] at h1 h2
  have := PyProof.Rows.lex_total _ _ h2 h1
  have : (Sum.inr a.cps.toList : Int ⊕ List Nat) = .inr b.cps.toList := (List.cons.inj this).1
  injection this with this
  exact PySem.W.str_of_cps this
def sortS (xs : List Str) : List Str := xs.mergeSort leS
theorem sortS_map (xs : List Str) : (nm xs).mergeSort leE = nm (sortS xs) := by
  unfold nm sortS
  rw [List.map_mergeSort (s := leE)]
  intro a _ b _; rfl
theorem sortedT_eq (xs : List Str) : sortedT xs = tupD (sortS xs) := by unfold sortedT; rw [sortS_map]
theorem sortS_perm (xs : List Str) : (sortS xs).Perm xs := List.mergeSort_perm xs leS
theorem sortS_pw (xs : List Str) : (sortS xs).Pairwise (fun a b => leS a b = true) :=
  List.pairwise_mergeSort (le := leS) (fun a b c h1 h2 => leE_total.trans _ _ _ h1 h2) (fun a b => Bool.or_eq_true_iff.mpr (leE_total.total _ _)) xs
theorem sortS_of_perm {xs ys : List Str} (h : xs.Perm ys) : sortS xs = sortS ys :=
  List.Perm.eq_of_pairwise (le := fun a b => leS a b = true) (fun a b _ _ h1 h2 => leS_anti h1 h2) (sortS_pw xs) (sortS_pw ys) ((sortS_perm xs).trans (h.trans (sortS_perm ys).symm))
theorem sortS_self (xs : List Str) : sortS (sortS xs) = sortS xs := sortS_of_perm (sortS_perm xs)
theorem firstE_none : ∀ (xs seen : List Str), (∀ x ∈ xs, isNm x.cps.toList = true) → (seen ++ xs).Nodup → firstE seen xs = none
  | [], _, _, _ => rfl
  | x :: r, seen, h, hn => by
    rw [firstE, if_pos (h x (List.mem_cons_self ..)), if_neg, firstE_none r (seen ++ [x]) (fun y hy => h y (List.mem_cons_of_mem _ hy)) (by rw [List.append_assoc]; exact hn)]
    intro hx
    have := (List.nodup_append.mp hn).2.2 x hx x (List.mem_cons_self ..)
    exact this rfl
/-- things of names: in order, all different, all good -/
structure Pool (P : List Str) : Prop where
  pos : 0 < P.length
  len : P.length ≤ 8
  nm : ∀ x ∈ P, isNm x.cps.toList = true
  nd : P.Nodup
  srt : sortS P = P
theorem isNm_len {l : List Nat} (h : isNm l = true) : l.length ≤ 6 := by
  cases l with
  | nil => cases h
  | cons c r =>
    simp only [isNm, Bool.and_eq_true, decide_eq_true_eq] at h
    exact h.1.1
theorem Pool.sh {P : List Str} (h : Pool P) : ∀ x ∈ P, x.length ≤ 6 := fun x hx => by
  have := isNm_len (h.nm x hx)
  exact this
theorem pool_of {n : Nat} {xs : List Str} (h : NamesOk n xs) (h0 : 0 < n) (h1 : n ≤ 8) : Pool (sortS xs) := by
  obtain ⟨hl, hn, hd⟩ := h
  have hp := sortS_perm xs
  exact ⟨by rw [hp.length_eq]; omega, by rw [hp.length_eq]; omega, fun x hx => hn x (hp.mem_iff.mp hx), hp.nodup_iff.mpr hd, sortS_self xs⟩
theorem things_pool {P ys : List Str} (h : Pool P) (h5 : P.length ≤ 5) (hp : ys.Perm P) (S : Stm) : thingsR ys S = .ok (.val (tupD P)) S := by
  unfold thingsR
  have hl := hp.length_eq
  have := h.pos
  rw [if_pos (by omega), firstE_none ys [] (fun x hx => h.nm x (hp.mem_iff.mp hx)) (by rw [List.nil_append]; exact hp.nodup_iff.mpr h.nd)]
  show CO.ok (.val (sortedT ys)) S = _
  rw [sortedT_eq, sortS_of_perm hp, h.srt]
theorem part_pool (P : List Str) : partB P (tupD P) = true := by
  show eqN (nm P) (P.filter fun x => (nm P).any (isS x)) = true
  have e : P.filter (fun x => (nm P).any (isS x)) = P := by
    rw [List.filter_eq_self]
    intro x hx
    rw [nm_any]; exact decide_eq_true hx
  rw [e]
  induction P with
  | nil => rfl
  | cons x r ih =>
    show (isS x (.str x) && eqN (nm r) r) = true
    have key : ∀ l : List Str, eqN (nm l) l = true := by
      intro l
      induction l with
      | nil => rfl
      | cons y s ih =>
        show (isS y (.str y) && eqN (nm s) s) = true
        rw [ih]; simp [isS]
    rw [key]; simp [isS]
theorem good_nm {m : List Str} (h : m.length ≤ 1000) : GoodT (tupD m) := .inl ⟨nm m, rfl, nm_ok m 49, by simpa [nm] using h⟩
theorem menu_pool {P : List Str} (h : 0 < P.length) : menuB P (tupD P) = true := by
  unfold menuB
  rw [part_pool]
  cases P with
  | nil => simp at h
  | cons => rfl
theorem menus_len (P : List Str) : (menus P).length = 2 ^ P.length - 1 := by
  unfold menus setsIn inOrder
  rw [List.length_drop, List.length_mergeSort, subs_len]
theorem menus_mem {P m : List Str} (h : m ∈ menus P) : m ∈ subs P := by
  unfold menus setsIn inOrder at h
  exact List.mem_mergeSort.mp (List.mem_of_mem_drop h)
theorem menus_ok (P : List Str) (n : Nat) : ((menus P).map tupD).all (okD (n + 2)) = true := by
  rw [List.all_eq_true]
  intro d hd
  obtain ⟨m, _, rfl⟩ := List.mem_map.mp hd
  exact nm_ok m n
end PX

set_option Elab.async false
set_option linter.all false
set_option maxRecDepth 100000
/-! PxX: more rules for the resolved forms. -/
namespace PX
open PySem
variable {en : En} {S : Stm}
def strQ (m : Str) (e : FB) : D → En → Stm → Out OV
  | .str z, en, S => (bD e en S).bind fun d en S => lift (metD (.str z) m [d]) en S
  | _, _, _ => .bad
theorem q_xStrS (i : Nat) (m : Str) (e : FB) : xStr (bSlot i) m e en S = Out.bnd (bD (bSlot i) en S) (fun d en S => strQ m e d en S) .mk := by
  unfold xStr bD
  show ((bSlot i en S).bind _) = ((bSlot i en S).bind resolve).bind _
  cases bSlot i en S with
  | ok o en S =>
    show (resolve o en S).bind _ = (resolve o en S).bind _
    cases resolve o en S with
    | ok d en S => cases d <;> rfl
    | err => rfl
    | bad => rfl
  | err => rfl
  | bad => rfl
theorem q_strQ (m : Str) (e : FB) (z : Str) : strQ m e (.str z) en S = Out.bnd (bD e en S) (fun d en S => lift (metD (.str z) m [d]) en S) .mk := nr rfl
theorem q_xLenSet (e : FB) : xLenSet e en S = Out.bnd (bD e en S) (fun d en S => lift (lenSetD d) en S) .mk := nr rfl
def isEQ (T : Tb) (t : Str) (en : En) (S : Stm) : Option Ent → Out OV
  | some (.exc (.glo C) _) => if (lkS T.excs C).isSome = true ∧ isSubOf T (.glo C) t = true then .ok (.val (.bl true)) en S else .bad
  | _ => .bad
theorem q_xIsE (T : Tb) (i : Nat) (t : Str) : xIsE T i t en S = isEQ T t en S en[i]? := by
  unfold xIsE
  cases en[i]? with
  | none => rfl
  | some e => cases e with
    | exc C fs =>
      cases C with
      | glo C => rfl
      | _ => rfl
    | _ => rfl
theorem q_isEQ (T : Tb) (t C : Str) (fs : List (Str × D)) : isEQ T t en S (some (.exc (.glo C) fs)) = if (lkS T.excs C).isSome = true ∧ isSubOf T (.glo C) t = true then .ok (.val (.bl true)) en S else .bad := nr rfl
def tryHQ (T : Tb) (ts : Str × Str × Str) (C : Str) (ps : List Str) (a : List FE) : SO → SO
  | .err (.glo D) fs en S => if (lkS T.excs D).isSome = true then (if raisesB T D ts = true then ((vAll a en S).toS fun ds en S => if ps.length = ds.length then .err (.glo C) (ps.zip ds) en S else .bad) else .err (.glo D) fs en S) else .bad
  | .err _ _ _ _ => .bad
  | o => o
theorem q_sTryH (T : Tb) (bd : FS) (ts : Str × Str × Str) (C : Str) (ps : List Str) (a : List FE) : sTryH T bd ts C ps a en S = tryHQ T ts C ps a (bd en S) := by
  unfold sTryH
  cases bd en S with
  | err C fs en S => cases C <;> rfl
  | _ => rfl
theorem q_tryHR (T : Tb) (ts : Str × Str × Str) (C : Str) (ps : List Str) (a : List FE) (v : OV) : tryHQ T ts C ps a (.ret v en S) = .ret v en S := nr rfl
theorem q_tryHN (T : Tb) (ts : Str × Str × Str) (C : Str) (ps : List Str) (a : List FE) : tryHQ T ts C ps a (.nx en S) = .nx en S := nr rfl
theorem q_tryHE (T : Tb) (ts : Str × Str × Str) (C : Str) (ps : List Str) (a : List FE) (D : Str) (fs : List (Str × PX.D)) : tryHQ T ts C ps a (.err (.glo D) fs en S) =
    if (lkS T.excs D).isSome = true then (if raisesB T D ts = true then Out.tos (vAll a en S) (fun ds en S => if ps.length = ds.length then .err (.glo C) (ps.zip ds) en S else .bad) .mk else .err (.glo D) fs en S) else .bad := nr rfl
/-- data that is compared, small dicts among it -/
def okE : Nat → D → Bool
  | 0, _ => false
  | n + 1, d => match d with
    | .tup xs => xs.all (okE n)
    | .lst xs => xs.all (okE n)
    | .dct kvs => smallK kvs
    | .non => true
    | .bl _ => true
    | .int _ => true
    | .str _ => true
    | _ => false
theorem okE_of : ∀ (n : Nat) (d : D), okD n d = true → okE n d = true
  | 0, _, h => by cases h
  | n + 1, d, h => by
    cases d with
    | tup xs =>
      have h : xs.all (okD n) = true := h
      rw [List.all_eq_true] at h
      show xs.all (okE n) = true
      rw [List.all_eq_true]
      exact fun x hx => okE_of n x (h x hx)
    | lst xs =>
      have h : xs.all (okD n) = true := h
      rw [List.all_eq_true] at h
      show xs.all (okE n) = true
      rw [List.all_eq_true]
      exact fun x hx => okE_of n x (h x hx)
    | _ => first | rfl | cases h
theorem eqE_self : ∀ (n : Nat) (d : D), okE n d = true → eqD n d d = some true
  | 0, _, h => by cases h
  | n + 1, d, h => by
    cases d with
    | tup xs =>
      have h : xs.all (okE n) = true := h
      rw [List.all_eq_true] at h
      show (allZ (eqD n) xs xs).map _ = _
      rw [allZ_self xs fun x hx => eqE_self n x (h x hx)]
      simp
    | lst xs =>
      have h : xs.all (okE n) = true := h
      rw [List.all_eq_true] at h
      show (if xs.length = xs.length then allM (eqD n) xs xs else some false) = _
      rw [if_pos rfl, allM_self xs fun x hx => eqE_self n x (h x hx)]
    | dct kvs =>
      show (if kvs = kvs ∧ smallK kvs = true then some true else none) = _
      rw [if_pos ⟨rfl, h⟩]
    | non => show some (decide (D.non = D.non)) = _; simp
    | bl b => show some (decide (D.bl b = D.bl b)) = _; simp
    | int i => show some (decide (D.int i = D.int i)) = _; simp
    | str x => show some (decide (D.str x = D.str x)) = _; simp
    | _ => cases h
theorem cmpE_ne_self {d : D} (h : okE 60 d = true) (hd : ∀ kvs, d ≠ .dct kvs) : cmpD .NotEq d d = some false := by
  have e : cmpD .NotEq d d = (eqv d d).map (!·) := by
    cases d <;> first | rfl | exact absurd rfl (hd _)
  rw [e]
  unfold eqv
  rw [eqE_self 60 d h]; rfl
def RNq := (And.intro @q_xStrS (And.intro @q_xLenSet (And.intro @q_xIsE @q_sTryH)))
def RNx := (And.intro @q_strQ (And.intro @q_isEQ (And.intro @q_tryHR (And.intro @q_tryHN @q_tryHE))))
end PX

set_option Elab.async false
set_option linter.all false
set_option maxRecDepth 100000
/-! PxX2: comprehensions of two clauses, run. -/
namespace PX
open PySem
section
variable {S : Stm} {ifs : FT} {e : FE}
theorem sTurns_pure {j : Nat} (p : D → Bool) (f : D → D) (en : En) : ∀ (ys acc : List D) (x : Ent), (∀ d ∈ ys, ifs (en.set j (.val d)) S = .ok (p d) (en.set j (.val d)) S) →
    (∀ d ∈ ys, p d = true → ∃ r, e (en.set j (.val d)) S = .ok r (en.set j (.val d)) S ∧ r.d = f d) → acc.length + ys.length ≤ sizeLine →
    ∃ x', sTurns [j] (gN j) ifs (addTo e) ys acc (en.set j x) S = .ok (acc ++ (ys.filter p).map f) (en.set j x') S
  | [], acc, x, _, _, _ => ⟨x, by simp [sTurns]⟩
  | d :: r, acc, x, h1, h2, hl => by
    have ih := fun acc x => sTurns_pure p f en r acc x (fun z hz => h1 z (List.mem_cons_of_mem _ hz)) (fun z hz => h2 z (List.mem_cons_of_mem _ hz))
    simp only [List.length_cons] at hl
    have e0 : gN j d (wipeE (en.set j x) [j]) = some (en.set j (.val d)) := by
      show some (((en.set j x).set j .none).set j (.val d)) = _
      rw [List.set_set, List.set_set]
    have t := h1 d (List.mem_cons_self ..)
    cases hp : p d with
    | false =>
      obtain ⟨x', hx⟩ := ih acc (.val d) (by omega)
      refine ⟨x', ?_⟩
      unfold sTurns
      rw [e0]
      simp only [t, hp, Out.bind, Bool.false_eq_true, if_false]
      rw [hx, List.filter_cons, hp]
      rfl
    | true =>
      obtain ⟨v, hv, hd⟩ := h2 d (List.mem_cons_self ..) hp
      obtain ⟨x', hx⟩ := ih (acc ++ [f d]) (.val d) (by rw [List.length_append, List.length_singleton]; omega)
      refine ⟨x', ?_⟩
      unfold sTurns
      rw [e0]
      simp only [t, hp, Out.bind, if_true]
      have ea : addTo e acc (en.set j (.val d)) S = .ok (acc ++ [f d]) (en.set j (.val d)) S := by
        unfold addTo
        rw [xV_eq, hv]
        simp only [Out.bind]
        rw [if_pos (by omega), hd]
      rw [ea]
      simp only
      rw [hx, List.filter_cons, hp]
      simp
theorem sTurns2_pure {j j1 : Nat} (hjj : j ≠ j1) {it1 : FI} {ifs1 : FT} {e : FE} (ys : D → List D) (p : D → D → Bool) (f : D → D → D) (en : En) (c : Nat) : ∀ (xs acc : List D) (x x1 : Ent),
    (∀ d ∈ xs, it1 ((en.set j (.val d)).set j1 .none) S = .ok (ys d) ((en.set j (.val d)).set j1 .none) S ∧ (ys d).length ≤ c) →
    (∀ d ∈ xs, ∀ y ∈ ys d, ifs1 ((en.set j (.val d)).set j1 (.val y)) S = .ok (p d y) ((en.set j (.val d)).set j1 (.val y)) S) →
    (∀ d ∈ xs, ∀ y ∈ ys d, p d y = true → ∃ r, e ((en.set j (.val d)).set j1 (.val y)) S = .ok r ((en.set j (.val d)).set j1 (.val y)) S ∧ r.d = f d y) → acc.length + c * xs.length ≤ sizeLine →
    ∃ x' x1', sTurns [j, j1] (gN j) tYes' (fun acc en S => (it1 en S).bind fun ys en S => sTurns [j1] (gN j1) ifs1 (addTo e) ys acc en S) xs acc ((en.set j x).set j1 x1) S =
      .ok (acc ++ xs.flatMap fun d => ((ys d).filter (p d)).map (f d)) ((en.set j x').set j1 x1') S
  | [], acc, x, x1, _, _, _, _ => ⟨x, x1, by simp [sTurns]⟩
  | d :: r, acc, x, x1, h0, h1, h2, hl => by
    obtain ⟨hi, hc⟩ := h0 d (List.mem_cons_self ..)
    rw [List.length_cons, Nat.mul_succ] at hl
    have e0 : gN j d (wipeE ((en.set j x).set j1 x1) [j, j1]) = some ((en.set j (.val d)).set j1 .none) := by
      show some (((((en.set j x).set j1 x1).set j1 .none).set j .none).set j (.val d)) = _
      rw [List.set_set, List.set_set, List.set_comm _ _ (Ne.symm hjj), List.set_set]
    obtain ⟨x2, hx2⟩ := sTurns_pure (S := S) (ifs := ifs1) (e := e) (j := j1) (p d) (f d) (en.set j (.val d)) (ys d) acc .none (h1 d (List.mem_cons_self ..)) (h2 d (List.mem_cons_self ..)) (by omega)
    have hle : (((ys d).filter (p d)).map (f d)).length ≤ c := by
      rw [List.length_map]
      exact Nat.le_trans (List.length_filter_le _ _) hc
    obtain ⟨x', x1', hx⟩ := sTurns2_pure hjj (it1 := it1) (ifs1 := ifs1) (e := e) ys p f en c r (acc ++ ((ys d).filter (p d)).map (f d)) (.val d) x2 (fun z hz => h0 z (List.mem_cons_of_mem _ hz)) (fun z hz => h1 z (List.mem_cons_of_mem _ hz)) (fun z hz => h2 z (List.mem_cons_of_mem _ hz))
      (by rw [List.length_append]; omega)
    refine ⟨x', x1', ?_⟩
    unfold sTurns
    rw [e0]
    simp only [tYes', Out.bind, if_true]
    rw [hi]
    simp only [Out.bind]
    rw [hx2]
    simp only [Out.bind]
    refine Eq.trans hx ?_
    rw [List.flatMap_cons, List.append_assoc]
theorem lc2_pure {j j1 : Nat} (hjj : j ≠ j1) {it it1 : FI} {ifs1 : FT} {e : FE} {en0 : En} {S0 : Stm} {xs : List D} (ys : D → List D) (p : D → D → Bool) (f : D → D → D) (en : En) (c : Nat) {e0 e1 : Ent} (h00 : en[j]? = some e0) (h01 : en[j1]? = some e1) (hn : noOwn en [j, j1] = true) (hit : it en0 S0 = .ok xs en S)
    (h0 : ∀ d ∈ xs, it1 ((en.set j (.val d)).set j1 .none) S = .ok (ys d) ((en.set j (.val d)).set j1 .none) S ∧ (ys d).length ≤ c)
    (h1 : ∀ d ∈ xs, ∀ y ∈ ys d, ifs1 ((en.set j (.val d)).set j1 (.val y)) S = .ok (p d y) ((en.set j (.val d)).set j1 (.val y)) S)
    (h2 : ∀ d ∈ xs, ∀ y ∈ ys d, p d y = true → ∃ r, e ((en.set j (.val d)).set j1 (.val y)) S = .ok r ((en.set j (.val d)).set j1 (.val y)) S ∧ r.d = f d y) (hl : c * xs.length ≤ sizeLine) :
    xLc2 [j, j1] it (gN j) tYes' it1 [j1] (gN j1) ifs1 e en0 S0 = .ok (.own (.lst (xs.flatMap fun d => ((ys d).filter (p d)).map (f d)))) en S := by
  obtain ⟨x', x1', hx⟩ := sTurns2_pure (S := S) hjj ys p f en c xs [] e0 e1 h0 h1 h2 (by simpa using hl)
  have hs : (en.set j e0).set j1 e1 = en := by
    have a : en.set j e0 = en := set_self h00
    rw [a]
    exact set_self h01
  rw [hs] at hx
  unfold xLc2
  rw [hit, bind_ok, if_pos hn, hx]
  have hr : restore en ((en.set j x').set j1 x1') [j, j1] = en := by
    show ((((en.set j x').set j1 x1').set j1 ((en[j1]?).getD .none)).set j ((en[j]?).getD .none)) = en
    rw [h00, h01]
    show (((en.set j x').set j1 x1').set j1 e1).set j e0 = en
    rw [List.set_set, List.set_comm _ _ (Ne.symm hjj), List.set_set]
    exact hs
  show Out.ok _ (restore en ((en.set j x').set j1 x1') [j, j1]) S = _
  rw [hr]
  rfl
end
end PX

set_option Elab.async false
set_option linter.all false
set_option maxRecDepth 100000
set_option maxHeartbeats 4000000
namespace HD
open PySem PySem.Spec L2 PX
open PyProof.Rows hiding St
abbrev PR : Program := PySem.Challenge.pw_mixedpicks_k11_rankings
def top (i : Nat) : Stmt := PR.main.body.getD i (.Pass ⟨0, 0, 0, 0⟩)
def dD (x : Str) (i : Nat) : He.DefD := ⟨(x, none), x, x, defArgs (top i), defBody (top i), defScope (top i), [], []⟩
def fn0 : List He.DefD := [dD "is_part" 4, dD "is_menu" 5, dD "all_rankings" 6, dD "is_ranking" 7, dD "in_menu" 8, dD "best_of" 9, dD "worst_of" 10, dD "_law_start" 12, dD "_law_draw" 13, dD "_law_names" 14, dD "_law_order" 15, dD "_law_sets" 16, dD "_law_orders" 17, dD "_law_any" 18, dD "_law_is_set" 19, dD "_law_told" 20, dD "_law_due" 21, dD "_law_very" 22, dD "law" 23]
def fn : List He.DefD := fn0
def clsB : Stmt → List Stmt
  | .ClassDef _ _ _ b _ _ _ _ _ _ _ => b
  | _ => []
def dE (C : Str) (i j : Nat) : He.DefD := ⟨(C, some (Str.ofString "__init__")), "__init__", C ++ ".__init__", defArgs ((clsB (top i)).getD j (.Pass ⟨0, 0, 0, 0⟩)), defBody ((clsB (top i)).getD j (.Pass ⟨0, 0, 0, 0⟩)), defScope ((clsB (top i)).getD j (.Pass ⟨0, 0, 0, 0⟩)), [], []⟩
def fx0 : List He.DefD := [dE "BadMenu" 2 0]
def fx : List He.DefD := fx0
def fnA : List He.DefD := fn ++ fx
def excN : List Str := ["BadMenu"]
def fa0 : List He.Fa := [.glo "is_part", .glo "is_menu", .glo "all_rankings", .glo "is_ranking", .glo "in_menu", .glo "best_of", .glo "worst_of", .glo "_law_start", .glo "_law_draw", .glo "_law_names", .glo "_law_order", .glo "_law_sets", .glo "_law_orders", .glo "_law_any", .glo "_law_is_set", .glo "_law_told", .glo "_law_due", .glo "_law_very", .glo "law", .glo "PickError", .glo "BadMenu", .free "ValueError", .free "abs", .free "all", .free "bool", .free "int", .free "isinstance", .free "len", .free "list", .free "range"]
def fa1 : List He.Fa := [.free "sorted", .free "str", .free "sum", .free "tuple", .meth "BadMenu" "__init__", .noat "BadMenu" "value", .exm "PickError" "PickError" true, .exm "PickError" "BadMenu" false, .exm "BadMenu" "PickError" true, .exm "BadMenu" "BadMenu" true]
def fa : List He.Fa := fa0 ++ fa1
def gl0 : List (Str × GK) := [("is_part", .fn), ("is_menu", .fn), ("all_rankings", .fn), ("is_ranking", .fn), ("in_menu", .fn), ("best_of", .fn), ("worst_of", .fn), ("_law_start", .fn), ("_law_draw", .fn), ("_law_names", .fn), ("_law_order", .fn), ("_law_sets", .fn), ("_law_orders", .fn), ("_law_any", .fn), ("_law_is_set", .fn), ("_law_told", .fn), ("_law_due", .fn), ("_law_very", .fn), ("law", .fn)]
def gl : List (Str × GK) := gl0
def fr0 : List Str := ["ValueError", "abs", "all", "bool", "int", "isinstance", "len", "list", "range", "sorted", "str", "sum", "tuple"]
def fr : List Str := fr0
def exs : List (Str × List Str) := [("PickError", []), ("BadMenu", ["value"])]
def sbs : List (Str × Str) := [("BadMenu", "PickError")]
def ws : List Str := ["_law_told", "_law_very", "law"]
def more (K : PySem.W.Frag) : Bool := moreE "PickError" excN K
def T : Tb := { glob := gl, free := fr, meth := [], excs := exs, sub := sbs, defs := fn.map fun d => (d.at_, ofD d (isWk ws d)), prim := [(("_law_draw", none), drawP)] }
theorem head_chk : headB fa fn T = true := by decide +kernel
theorem is_is_part (wf k : Nat) : Is "is_part" c_is_part 2 1 (calls T wf k).1 (calls T wf (k + 1)).1 := is_of (D := ofD (dD "is_part" 4) false) (by kernel_rfl) (by kernel_rfl) (fun call make en S => by kernel_rfl) (by kernel_rfl) (by kernel_rfl)
theorem is_is_menu (wf k : Nat) : Is "is_menu" c_is_menu 2 0 (calls T wf k).1 (calls T wf (k + 1)).1 := is_of (D := ofD (dD "is_menu" 5) false) (by kernel_rfl) (by kernel_rfl) (fun call make en S => by kernel_rfl) (by kernel_rfl) (by kernel_rfl)
def sh_all_rankings (call : CallT) : FS := (sSeq [(sSet 1 (xList [(xTup [])])),
    (sFor (gN 2) (iRange [(xLen (bSlot 0))]) (sSeq [(sSet 1 (xLc2 [3, 4] (iPlain (xSlot 1)) (gN 3) tYes' (iPlain (xSlot 0)) [4] (gN 4) (tE (xCmp .NotIn (bSlot 4) (bSlot 3))) (xBin .Add (bSlot 3) (bE (xTup [(xSlot 4)])))))])),
    (sRetSlot 1)])
theorem is_all_rankings (wf k : Nat) : Is "all_rankings" sh_all_rankings 1 4 (calls T wf k).1 (calls T wf (k + 1)).1 := is_of (D := ofD (dD "all_rankings" 6) false) (by kernel_rfl) (by kernel_rfl) (fun call make en S => by kernel_rfl) (by kernel_rfl) (by kernel_rfl)
def sh_is_ranking (call : CallT) : FS := (sSeq [(sIf (tBool .Or [(tNot' (tTru (bE (xIsi (some 1) (bSlot 1) "tuple")))), (tE (xCmp .NotEq (bE (xLen (bSlot 1))) (bE (xLen (bSlot 0)))))]) (sSeq [(sRet (xVal (.bl false)))]) (sSeq [])),
    (sRet (xB1 .all (bE (xLc [2] (iPlain (xSlot 0)) (gN 2) tYes' (xCmp .In (bSlot 2) (bSlot 1))))))])
theorem is_is_ranking (wf k : Nat) : Is "is_ranking" sh_is_ranking 2 1 (calls T wf k).1 (calls T wf (k + 1)).1 := is_of (D := ofD (dD "is_ranking" 7) false) (by kernel_rfl) (by kernel_rfl) (fun call make en S => by kernel_rfl) (by kernel_rfl) (by kernel_rfl)
def sh_in_menu (call : CallT) : FS := (sSeq [(sIf (tNot' (tTru (bE (xCall (call ("is_menu", none)) ["things", "value"] [(bE (xB1 .sorted (bSlot 0))), (bSlot 1)] [])))) (sSeq [(sRaise "BadMenu" ["value"] [(xSlot 1)])]) (sSeq [])),
    (sRet (xLc [2] (iPlain (xSlot 0)) (gN 2) (tE (xCmp .In (bSlot 2) (bSlot 1))) (xSlot 2)))])
theorem is_in_menu (wf k : Nat) : Is "in_menu" sh_in_menu 2 1 (calls T wf k).1 (calls T wf (k + 1)).1 := is_of (D := ofD (dD "in_menu" 8) false) (by kernel_rfl) (by kernel_rfl) (fun call make en S => by kernel_rfl) (by kernel_rfl) (by kernel_rfl)
def sh_best_of (call : CallT) : FS := (sSeq [(sRet (xIx (bE (xCall (call ("in_menu", none)) ["ranking", "menu"] [(bSlot 0), (bSlot 1)] [])) (bE (xVal (.int 0)))))])
theorem is_best_of (wf k : Nat) : Is "best_of" sh_best_of 2 0 (calls T wf k).1 (calls T wf (k + 1)).1 := is_of (D := ofD (dD "best_of" 9) false) (by kernel_rfl) (by kernel_rfl) (fun call make en S => by kernel_rfl) (by kernel_rfl) (by kernel_rfl)
def sh_worst_of (call : CallT) : FS := (sSeq [(sRet (xIx (bE (xCall (call ("in_menu", none)) ["ranking", "menu"] [(bSlot 0), (bSlot 1)] [])) (bE (xNeg (xVal (.int 1))))))])
theorem is_worst_of (wf k : Nat) : Is "worst_of" sh_worst_of 2 0 (calls T wf k).1 (calls T wf (k + 1)).1 := is_of (D := ofD (dD "worst_of" 10) false) (by kernel_rfl) (by kernel_rfl) (fun call make en S => by kernel_rfl) (by kernel_rfl) (by kernel_rfl)
theorem is__law_names (wf k : Nat) : Is "_law_names" c__law_names 2 12 (calls T wf k).1 (calls T wf (k + 1)).1 := is_of (D := ofD (dD "_law_names" 14) false) (by kernel_rfl) (by kernel_rfl) (fun call make en S => by kernel_rfl) (by kernel_rfl) (by kernel_rfl)
theorem is__law_order (wf k : Nat) : Is "_law_order" c__law_order 2 3 (calls T wf k).1 (calls T wf (k + 1)).1 := is_of (D := ofD (dD "_law_order" 15) false) (by kernel_rfl) (by kernel_rfl) (fun call make en S => by kernel_rfl) (by kernel_rfl) (by kernel_rfl)
theorem is__law_sets (wf k : Nat) : Is "_law_sets" c__law_sets 1 4 (calls T wf k).1 (calls T wf (k + 1)).1 := is_of (D := ofD (dD "_law_sets" 16) false) (by kernel_rfl) (by kernel_rfl) (fun call make en S => by kernel_rfl) (by kernel_rfl) (by kernel_rfl)
theorem is__law_orders (wf k : Nat) : Is "_law_orders" c__law_orders 1 5 (calls T wf k).1 (calls T wf (k + 1)).1 := is_of (D := ofD (dD "_law_orders" 17) false) (by kernel_rfl) (by kernel_rfl) (fun call make en S => by kernel_rfl) (by kernel_rfl) (by kernel_rfl)
theorem is__law_any (wf k : Nat) : Is "_law_any" c__law_any 2 6 (calls T wf k).1 (calls T wf (k + 1)).1 := is_of (D := ofD (dD "_law_any" 18) false) (by kernel_rfl) (by kernel_rfl) (fun call make en S => by kernel_rfl) (by kernel_rfl) (by kernel_rfl)
theorem is__law_is_set (wf k : Nat) : Is "_law_is_set" c__law_is_set 2 1 (calls T wf k).1 (calls T wf (k + 1)).1 := is_of (D := ofD (dD "_law_is_set" 19) false) (by kernel_rfl) (by kernel_rfl) (fun call make en S => by kernel_rfl) (by kernel_rfl) (by kernel_rfl)
def sh__law_told (call : CallT) : FS := (sSeq [(sTry T (sSeq [(sIf (tE (xCmp .Eq (bSlot 0) (bE (xVal (.int 0))))) (sSeq [(sRet (xList [(xVal (.str "name")), (xCall (call ("best_of", none)) ["ranking", "menu"] [(bSlot 1), (bSlot 2)] [])]))]) (sSeq [])),
    (sRet (xList [(xVal (.str "name")), (xCall (call ("worst_of", none)) ["ranking", "menu"] [(bSlot 1), (bSlot 2)] [])]))]) [("BadMenu", some 3, (sSeq [(sRet (xList [(xVal (.str "menu")), (xFld T.excs 3 "value")]))]))])])
theorem is__law_told (wf k : Nat) : Is "_law_told" sh__law_told 3 1 (calls T wf k).1 (calls T wf (k + 1)).1 := is_of (D := ofD (dD "_law_told" 20) true) (by kernel_rfl) (by kernel_rfl) (fun call make en S => by kernel_rfl) (by kernel_rfl) (by kernel_rfl)
def sh__law_due (call : CallT) : FS := (sSeq [(sIf (tBool .Or [(tNot' (tTru (bE (xCall (call ("_law_is_set", none)) ["_law_pool", "_law_thing"] [(bE (xB1 .sorted (bSlot 1))), (bSlot 2)] [])))), (tE (xCmp .Eq (bSlot 2) (bE (xTup []))))]) (sSeq [(sRet (xList [(xVal (.str "menu")), (xSlot 2)]))]) (sSeq [])),
    (sSet 4 (xLc [3] (iPlain (xSlot 1)) (gN 3) (tE (xCmp .In (bSlot 3) (bSlot 2))) (xSlot 3))),
    (sRet (xList [(xVal (.str "name")), (xIx (bE (xList [(xIx (bSlot 4) (bE (xVal (.int 0)))), (xIx (bSlot 4) (bE (xNeg (xVal (.int 1)))))])) (bSlot 0))]))])
theorem is__law_due (wf k : Nat) : Is "_law_due" sh__law_due 3 2 (calls T wf k).1 (calls T wf (k + 1)).1 := is_of (D := ofD (dD "_law_due" 21) false) (by kernel_rfl) (by kernel_rfl) (fun call make en S => by kernel_rfl) (by kernel_rfl) (by kernel_rfl)
def law_s0 (call : CallT) : FS := (sSet 2 (xB1 .tuple (bE (xB1 .sorted (bE (xCall (call ("_law_names", none)) ["_law_state", "_law_count"] [(bSlot 1), (bE (xBin .Add (bE (xVal (.int 1))) (bE (xCall (call ("_law_draw", none)) ["_law_state", "_law_size"] [(bSlot 1), (bE (xVal (.int 5)))] []))))] []))))))
def law_s1 (call : CallT) : FS := (sSet 3 (xCall (call ("_law_orders", none)) ["_law_pool"] [(bSlot 2)] []))
def law_s2 (call : CallT) : FS := (sSet 4 (xCall (call ("all_rankings", none)) ["things"] [(bSlot 2)] []))
def law_s3 (call : CallT) : FS := (sIf (tBool .Or [(tNot' (tTru (bE (xIsi (some 4) (bSlot 4) "list")))), (tE (xCmp .NotEq (bSlot 4) (bSlot 3)))]) (sSeq [(sRet (xVal (.bl false)))]) (sSeq []))
def law_s4 (call : CallT) : FS := (sExpr (xMut 4 "clear" []))
def law_s5 (call : CallT) : FS := (sIf (tE (xCmp .NotEq (bE (xCall (call ("all_rankings", none)) ["things"] [] [("things", (bSlot 2))])) (bSlot 3))) (sSeq [(sRet (xVal (.bl false)))]) (sSeq []))
def law_s6 (call : CallT) : FS := (sFor (gN 5) (iRange [(xVal (.int 12))]) (sSeq [(sSet 6 (xIx (bSlot 3) (bE (xCall (call ("_law_draw", none)) ["_law_state", "_law_size"] [(bSlot 1), (bE (xLen (bSlot 3)))] [])))),
    (sSet 7 (xList [(xSlot 6), (xB1 .list (bSlot 6)), (xCut (bSlot 6) none (some (xNeg (xVal (.int 1))))), (xBin .Add (bSlot 6) (bE (xCut (bSlot 6) none (some (xVal (.int 1)))))), (xBin .Add (bE (xCut (bSlot 6) none (some (xNeg (xVal (.int 1)))))) (bE (xTup [(xVal (.str "zz9"))]))), (xBin .Add (bE (xCut (bSlot 6) none (some (xNeg (xVal (.int 1)))))) (bE (xCut (bSlot 6) none (some (xVal (.int 1))))))])),
    (sFor (gN 8) (iPlain (xBin .Add (bSlot 7) (bE (xList [(xCall (call ("_law_any", none)) ["_law_state", "_law_pool"] [(bSlot 1), (bSlot 2)] [])])))) (sSeq [(sSet 9 (xCall (call ("is_ranking", none)) ["things", "value"] [(bSlot 2), (bSlot 8)] [])),
    (sIf (tBool .Or [(tNot' (tTru (bE (xIsi (some 9) (bSlot 9) "bool")))), (tE (xCmp .NotEq (bSlot 9) (bE (xCmp .In (bSlot 8) (bSlot 3)))))]) (sSeq [(sRet (xVal (.bl false)))]) (sSeq []))])),
    (sSet 10 (xCall (call ("_law_sets", none)) ["_law_pool"] [(bSlot 2)] [])),
    (sFor (gN 8) (iPlain (xList [(xIx (bSlot 10) (bE (xCall (call ("_law_draw", none)) ["_law_state", "_law_size"] [(bSlot 1), (bE (xLen (bSlot 10)))] []))), (xCall (call ("_law_any", none)) ["_law_state", "_law_pool"] [(bSlot 1), (bSlot 2)] []), (xSlot 2)])) (sSeq [(sFor (gN 11) (iRange [(xVal (.int 2))]) (sSeq [(sIf (tE (xCmp .NotEq (bE (xCall (call ("_law_told", none)) ["_law_plan", "_law_order_here", "_law_thing"] [(bSlot 11), (bSlot 6), (bSlot 8)] [])) (bE (xCall (call ("_law_due", none)) ["_law_plan", "_law_order_here", "_law_thing"] [(bSlot 11), (bSlot 6), (bSlot 8)] [])))) (sSeq [(sRet (xVal (.bl false)))]) (sSeq []))]))]))]))
def law_s7 (call : CallT) : FS := (sSet 12 (xIx (bSlot 3) (bE (xVal (.int 0)))))
def law_s8 (call : CallT) : FS := (sIf (tBool .Or [(tE (xCmp .NotEq (bE (xCall (call ("best_of", none)) ["ranking", "menu"] [] [("menu", (bSlot 2)), ("ranking", (bSlot 12))])) (bE (xIx (bSlot 12) (bE (xVal (.int 0))))))), (tE (xCmp .NotEq (bE (xCall (call ("worst_of", none)) ["ranking", "menu"] [] [("menu", (bSlot 2)), ("ranking", (bSlot 12))])) (bE (xIx (bSlot 12) (bE (xNeg (xVal (.int 1))))))))]) (sSeq [(sRet (xVal (.bl false)))]) (sSeq []))
def law_s9 (call : CallT) : FS := (sRet (xBool .And [(xCmp .Is (bE (xCall (call ("is_ranking", none)) ["things", "value"] [] [("value", (bSlot 12)), ("things", (bSlot 2))])) (bE (xVal (.bl true)))), (xCall (call ("_law_very", none)) ["_law_order_here"] [(bSlot 12)] [])]))
def sh_law (call : CallT) : FS := sSeq [law_s0 call, law_s1 call, law_s2 call, law_s3 call, law_s4 call, law_s5 call, law_s6 call, law_s7 call, law_s8 call, law_s9 call]
theorem sh_law_eq (wf : Nat) (call : CallT) (make : Str → List D → Stm → CO) (en : En) (S : Stm) : evSs (evS depthA (lawC T wf call make (ofD (dD "law" 23) true))) ((defBody (top 23)).drop 1) en S = sh_law call en S := by kernel_rfl
theorem ba_ranking_menu_2 (d0 d1 : D) : bindA (α := D) ["ranking", "menu"] [d0, d1] [] = some [d0, d1] := nr (by rfl)
theorem ba_law_pool_law_thing_2 (d0 d1 : D) : bindA (α := D) ["_law_pool", "_law_thing"] [d0, d1] [] = some [d0, d1] := nr (by rfl)
theorem ba_law_state_law_count_2 (d0 d1 : D) : bindA (α := D) ["_law_state", "_law_count"] [d0, d1] [] = some [d0, d1] := nr (by rfl)
theorem ba_law_state_law_pool_2 (d0 d1 : D) : bindA (α := D) ["_law_state", "_law_pool"] [d0, d1] [] = some [d0, d1] := nr (by rfl)
theorem ba_law_plan_law_order_here_law_thing_3 (d0 d1 d2 : D) : bindA (α := D) ["_law_plan", "_law_order_here", "_law_thing"] [d0, d1, d2] [] = some [d0, d1, d2] := nr (by rfl)
theorem ba_ranking_menu_0_menu_ranking (d0 d1 : D) : bindA (α := D) ["ranking", "menu"] [] [("menu", d1), ("ranking", d0)] = some [d0, d1] := nr (by rfl)
theorem ba_things_value_0_value_things (d0 d1 : D) : bindA (α := D) ["things", "value"] [] [("value", d1), ("things", d0)] = some [d0, d1] := nr (by rfl)
def RNl := (And.intro (And.intro (And.intro @q_ovv @ba_ranking_menu_2) (And.intro @ba_law_pool_law_thing_2 @ba_law_state_law_count_2)) (And.intro (And.intro @ba_law_state_law_pool_2 @ba_law_plan_law_order_here_law_thing_3) (And.intro @ba_ranking_menu_0_menu_ranking @ba_things_value_0_value_things)))
end HD

set_option Elab.async false
set_option linter.all false
set_option maxRecDepth 100000
set_option maxHeartbeats 4000000
namespace HD
open PySem PySem.Spec L2 PX
open PyProof.Rows hiding St
section
variable (wf : Nat)
abbrev L (wf k : Nat) : CallT := (calls T wf k).1
theorem draws (k : Nat) : Draws (L wf (k + 1)) := fun ds S => rfl
theorem h_names (k : Nat) : HasNames (L wf (k + 2)) := has_names (is__law_names wf (k + 1)) (draws wf k)
theorem h_order (k : Nat) : HasOrder (L wf (k + 2)) := has_order (is__law_order wf (k + 1)) (draws wf k)
theorem h_any (k : Nat) : HasAny2 (L wf (k + 2)) := has_any2 (is__law_any wf (k + 1)) (draws wf k)
theorem h_lsets (k : Nat) : HasLSets (L wf (k + 1)) := has_lsets (is__law_sets wf k)
end
/-! all rankings -/
def stepR (P : List Str) (rs : List (List Str)) : List (List Str) := rs.flatMap fun r => (P.filter fun x => !decide (x ∈ r)).map fun x => r ++ [x]
def rk (P : List Str) : Nat → List (List Str)
  | 0 => [[]]
  | t + 1 => stepR P (rk P t)
def orders (P : List Str) : List (List Str) := rk P P.length
theorem rk_len (P : List Str) : ∀ t, (rk P t).length ≤ P.length ^ t
  | 0 => by simp [rk]
  | t + 1 => by
    have ih := rk_len P t
    have key : ∀ rs : List (List Str), (stepR P rs).length ≤ rs.length * P.length := by
      intro rs
      induction rs with
      | nil => simp [stepR]
      | cons r rs ih =>
        have e : stepR P (r :: rs) = ((P.filter fun x => !decide (x ∈ r)).map fun x => r ++ [x]) ++ stepR P rs := by unfold stepR; rw [List.flatMap_cons]
        rw [e, List.length_append, List.length_map, List.length_cons, Nat.add_mul, Nat.one_mul]
        have := List.length_filter_le (fun x => !decide (x ∈ r)) P
        omega
    rw [Nat.pow_succ]
    exact Nat.le_trans (key _) (Nat.mul_le_mul_right _ ih)
theorem rk_mem (P : List Str) : ∀ t r, r ∈ rk P t ↔ r.length = t ∧ r.Nodup ∧ ∀ x ∈ r, x ∈ P
  | 0, r => by
    show r ∈ [[]] ↔ _
    rw [List.mem_singleton]
    constructor
    · rintro rfl; simp
    · rintro ⟨h, _⟩; exact List.length_eq_zero_iff.mp h
  | t + 1, r => by
    show r ∈ stepR P (rk P t) ↔ _
    unfold stepR
    simp only [List.mem_flatMap, List.mem_map, List.mem_filter, Bool.not_eq_true', decide_eq_false_iff_not]
    constructor
    · rintro ⟨q, hq, x, ⟨hx, hn⟩, rfl⟩
      obtain ⟨h1, h2, h3⟩ := (rk_mem P t q).mp hq
      refine ⟨by simp [h1], ?_, ?_⟩
      · rw [List.nodup_append]
        refine ⟨h2, by simp, ?_⟩
        intro a ha b hb e
        rw [List.mem_singleton] at hb
        subst hb e
        exact hn ha
      · intro y hy
        rcases List.mem_append.mp hy with hy | hy
        · exact h3 y hy
        · rw [List.mem_singleton.mp hy]; exact hx
    · rintro ⟨h1, h2, h3⟩
      have hne : r ≠ [] := by rintro rfl; cases h1
      have hd := List.dropLast_concat_getLast hne
      refine ⟨r.dropLast, (rk_mem P t _).mpr ⟨by rw [List.length_dropLast, h1]; rfl, h2.sublist (List.dropLast_sublist _), fun x hx => h3 x ((List.dropLast_sublist _).subset hx)⟩, r.getLast hne, ⟨h3 _ (List.getLast_mem hne), ?_⟩, hd⟩
      rw [← hd, List.nodup_append] at h2
      intro hm
      exact h2.2.2 _ hm _ (List.mem_singleton.mpr rfl) rfl
theorem pow5 {n : Nat} (h : n ≤ 5) {t : Nat} (ht : t ≤ 5) : n ^ t ≤ 3125 := by
  have h1 : n ^ t ≤ 5 ^ t := Nat.pow_le_pow_left h t
  have h2 : 5 ^ t ≤ 5 ^ 5 := Nat.pow_le_pow_right (by omega) ht
  omega
def pR : PX.D → PX.D → Bool
  | .tup ds, .str x => !(ds.any (isS x))
  | _, _ => false
def fR (d y : PX.D) : PX.D := .tup (dsOf d ++ [y])
theorem flat1 (P r : List Str) : ((nm P).filter (pR (tupD r))).map (fR (tupD r)) = ((P.filter fun x => !decide (x ∈ r)).map fun x => r ++ [x]).map tupD := by
  unfold nm
  rw [List.filter_map, List.map_map, List.map_map]
  have e : (pR (tupD r) ∘ PX.D.str) = fun x => !decide (x ∈ r) := by
    funext x
    show (!((nm r).any (isS x))) = _
    rw [nm_any]
  rw [e]
  apply List.map_congr_left
  intro x _
  show PX.D.tup (nm r ++ [.str x]) = .tup (nm (r ++ [x]))
  unfold nm
  rw [List.map_append]; rfl
theorem flat_tup (P : List Str) (rs : List (List Str)) : ((rs.map tupD).flatMap fun d => ((nm P).filter (pR d)).map (fR d)) = (stepR P rs).map tupD := by
  induction rs with
  | nil => rfl
  | cons r rs ih =>
    have e : stepR P (r :: rs) = ((P.filter fun x => !decide (x ∈ r)).map fun x => r ++ [x]) ++ stepR P rs := by unfold stepR; rw [List.flatMap_cons]
    rw [List.map_cons, List.flatMap_cons, ih, flat1, e, List.map_append]
theorem sl5 {n : Nat} (h : n ≤ 100000) : n ≤ sizeLine := Nat.le_trans h (by decide)
theorem r_all (call : CallT) (S : Stm) (P : List Str) (hP : P.length ≤ 5) : CO.of (sh_all_rankings call [.val (tupD P), .none, .none, .none, .none] S) = .ok (.own (.lst ((orders P).map tupD))) S := by
  simp only [sh_all_rankings, ↓RNp, ↓RNq, RNs, RNc, RNl, RNx]
  refine then_for (R := fun o => CO.of o = .ok (.own (.lst ((orders P).map tupD))) S) (xs := (List.range P.length).map fun k => PX.D.int (0 + (k : Nat))) (en' := [.val (tupD P), .own (.lst [.tup []]), .none, .none, .none]) (S' := S)
    (fun i en S' => S' = S ∧ ∃ e2, en = [.val (tupD P), .own (.lst ((rk P i).map tupD)), e2, .none, .none]) ?_ ⟨rfl, _, rfl⟩ ?_ ?_
  · simp only [↓RNp, ↓RNq, RNs, RNc, RNl, RNx]
    rw [range_ok (by omega) (by omega)]
    rfl
  · rintro i d en S1 hd ⟨rfl, e2, rfl⟩
    have hi : i < P.length := by
      have := (List.getElem?_eq_some_iff.mp hd).1
      simpa using this
    have hlen : (rk P i).length ≤ 3125 := Nat.le_trans (rk_len P i) (pow5 hP (by omega))
    refine ⟨_, rfl, ?_⟩
    have lc : xLc2 [3, 4] (iPlain (xSlot 1)) (gN 3) tYes' (iPlain (xSlot 0)) [4] (gN 4) (tE (xCmp .NotIn (bSlot 4) (bSlot 3))) (xBin .Add (bSlot 3) (bE (xTup [(xSlot 4)]))) [.val (tupD P), .own (.lst ((rk P i).map tupD)), .val d, .none, .none] S1 =
        .ok (.own (.lst (((rk P i).map tupD).flatMap fun d => ((nm P).filter (pR d)).map (fR d)))) [.val (tupD P), .val (.lst ((rk P i).map tupD)), .val d, .none, .none] S1 := by
      refine lc2_pure (by omega) (fun _ => nm P) pR fR _ 5 rfl rfl rfl ?_ ?_ ?_ ?_ ?_
      · simp only [↓RNp, ↓RNq, RNs, RNc, RNl, RNx]
      · intro z hz
        exact ⟨by simp only [List.set_cons_succ, List.set_cons_zero, ↓RNp, ↓RNq, RNs, RNc, RNl, RNx], by simpa [nm] using hP⟩
      · intro z hz y hy
        obtain ⟨r, hr, rfl⟩ := List.mem_map.mp hz
        obtain ⟨x, hx, rfl⟩ := List.mem_map.mp hy
        have nt := notin_tupD x r
        have e : pR (tupD r) (.str x) = !decide (x ∈ r) := by
          show (!((nm r).any (isS x))) = _
          rw [nm_any]
        simp only [List.set_cons_succ, List.set_cons_zero, ↓RNp, ↓RNq, RNs, RNc, RNl, RNx, nt, e]
      · intro z hz y hy _
        obtain ⟨r, hr, rfl⟩ := List.mem_map.mp hz
        obtain ⟨x, hx, rfl⟩ := List.mem_map.mp hy
        have hrl := ((rk_mem P i r).mp hr).1
        have a := PX.add_tup (nm r) [.str x] (sl_imp (by simp [nm]; omega))
        exact ⟨.val (.tup (nm r ++ [.str x])), by simp only [List.set_cons_succ, List.set_cons_zero, ↓RNp, ↓RNq, RNs, RNc, RNl, RNx, a], rfl⟩
      · rw [List.length_map]
        exact sl5 (by omega)
    rw [flat_tup] at lc
    simp only [↓RNp, ↓RNq, RNs, RNc, RNl, RNx, lc]
    exact ⟨trivial, _, rfl⟩
  · rintro en S1 ⟨rfl, e2, rfl⟩
    simp only [List.length_map, List.length_range]
    simp only [↓RNp, ↓RNq, RNs, RNc, RNl, RNx]
    rfl
def unS : PX.D → Str
  | .str x => x
  | _ => ""
theorem uns_nm : ∀ l : List Str, (nm l).map unS = l
  | [] => rfl
  | x :: r => by
    show unS (.str x) :: (nm r).map unS = _
    rw [uns_nm r]; rfl
theorem tupD_inj {a b : List Str} (h : tupD a = tupD b) : a = b := by
  have h : PX.D.tup (nm a) = .tup (nm b) := h
  injection h with h
  rw [← uns_nm a, ← uns_nm b, h]
theorem stepR_snoc (P : List Str) (rs : List (List Str)) (r : List Str) : stepR P (rs ++ [r]) = stepR P rs ++ ((P.filter fun x => !decide (x ∈ r)).map fun x => r ++ [x]) := by
  unfold stepR
  rw [List.flatMap_append]
  simp
theorem stepR_len (P : List Str) (hP : P.length ≤ 5) (rs : List (List Str)) : (stepR P rs).length ≤ rs.length * 5 := by
  induction rs with
  | nil => simp [stepR]
  | cons r rs ih =>
    have e : stepR P (r :: rs) = ((P.filter fun x => !decide (x ∈ r)).map fun x => r ++ [x]) ++ stepR P rs := by unfold stepR; rw [List.flatMap_cons]
    rw [e, List.length_append, List.length_map, List.length_cons]
    have := List.length_filter_le (fun x => !decide (x ∈ r)) P
    omega
theorem r_orders (call : CallT) (S : Stm) (P : List Str) (h0 : 0 < P.length) (hP : P.length ≤ 5) : CO.of (c__law_orders call [.val (tupD P), .none, .none, .none, .none, .none] S) = .ok (.val (.lst ((orders P).map tupD))) S := by
  simp only [c__law_orders, ↓RNp, ↓RNq, RNs, RNc, RNl, RNx]
  refine then_for (R := fun o => CO.of o = .ok (.val (.lst ((orders P).map tupD))) S) (xs := (List.range P.length).map fun k => PX.D.int (0 + (k : Nat))) (en' := [.val (tupD P), .own (.lst [.tup []]), .none, .none, .none, .none]) (S' := S)
    (fun i en S' => S' = S ∧ ∃ e1 e2 e3 e4, (e1 = .val (.lst ((rk P i).map tupD)) ∨ (i = 0 ∧ e1 = .own (.lst ((rk P 0).map tupD)))) ∧ en = [.val (tupD P), e1, e2, e3, e4, .none]) ?_ ⟨rfl, _, _, _, _, .inr ⟨rfl, rfl⟩, rfl⟩ ?_ ?_
  · simp only [↓RNp, ↓RNq, RNs, RNc, RNl, RNx]
    rw [range_ok (by omega) (by omega)]
    rfl
  · rintro i d en S1 hd ⟨rfl, e1, e2, e3, e4, he, rfl⟩
    have hi : i < P.length := by
      have := (List.getElem?_eq_some_iff.mp hd).1
      simpa using this
    have hlen : (rk P i).length ≤ 3125 := Nat.le_trans (rk_len P i) (pow5 hP (by omega))
    refine ⟨_, rfl, ?_⟩
    have key : ∀ (R : SO → Prop) (e1' e4 : Ent), (e1' = .val (.lst ((rk P i).map tupD)) ∨ e1' = .own (.lst ((rk P i).map tupD))) →
        (∀ e4, R (sSeq [(sSet 1 (xSlot 3))] [.val (tupD P), .val (.lst ((rk P i).map tupD)), .val d, .own (.lst ((rk P (i + 1)).map tupD)), e4, .none] S1)) →
        R (andThen (sFor (gN 4) (iPlain (xSlot 1)) (sSeq [(sSet 3 (xBin .Add (bSlot 3) (bE (xLc [5] (iPlain (xSlot 0)) (gN 5) (tE (xCmp .NotIn (bSlot 5) (bSlot 4))) (xBin .Add (bSlot 4) (bE (xTup [(xSlot 5)])))))))]) [.val (tupD P), e1', .val d, .own (.lst []), e4, .none] S1) [(sSet 1 (xSlot 3))]) := by
      intro R e1' e4 he1 hR
      refine then_for (xs := (rk P i).map tupD) (en' := [.val (tupD P), .val (.lst ((rk P i).map tupD)), .val d, .own (.lst []), e4, .none]) (S' := S1)
        (fun m en S' => S' = S1 ∧ ∃ e4, en = [.val (tupD P), .val (.lst ((rk P i).map tupD)), .val d, .own (.lst ((stepR P ((rk P i).take m)).map tupD)), e4, .none]) ?_ ⟨rfl, _, rfl⟩ ?_ ?_
      · rcases he1 with rfl | rfl <;> simp only [↓RNp, ↓RNq, RNs, RNc, RNl, RNx]
      · rintro m z en S2 hz ⟨rfl, e4, rfl⟩
        have hm : m < (rk P i).length := by
          have := (List.getElem?_eq_some_iff.mp hz).1
          simpa using this
        obtain ⟨r, hr, rfl⟩ := List.mem_map.mp (List.mem_of_getElem? hz)
        have hrr : (rk P i)[m]? = some r := by
          rw [List.getElem?_map, List.getElem?_eq_getElem hm] at hz
          rw [List.getElem?_eq_getElem hm]
          injection hz with hz
          have : ((rk P i)[m]) = r := tupD_inj hz
          rw [this]
        have htk : (rk P i).take (m + 1) = (rk P i).take m ++ [r] := by rw [List.take_add_one, hrr]; rfl
        have hrl := ((rk_mem P i r).mp hr).1
        refine ⟨_, rfl, ?_⟩
        have lc : xLc [5] (iPlain (xSlot 0)) (gN 5) (tE (xCmp .NotIn (bSlot 5) (bSlot 4))) (xBin .Add (bSlot 4) (bE (xTup [(xSlot 5)]))) [.val (tupD P), .val (.lst ((rk P i).map tupD)), .val d, .own (.lst ((stepR P ((rk P i).take m)).map tupD)), .val (tupD r), .none] S2 =
            .ok (.own (.lst (((nm P).filter (pR (tupD r))).map (fR (tupD r))))) [.val (tupD P), .val (.lst ((rk P i).map tupD)), .val d, .own (.lst ((stepR P ((rk P i).take m)).map tupD)), .val (tupD r), .none] S2 := by
          refine lc_pure (xs := nm P) _ _ ?_ rfl (by simp) (sl5 (by simp [nm]; omega)) ?_ ?_
          · simp only [↓RNp, ↓RNq, RNs, RNc, RNl, RNx]
          · intro y hy
            obtain ⟨x, hx, rfl⟩ := List.mem_map.mp hy
            have nt := notin_tupD x r
            have e : pR (tupD r) (.str x) = !decide (x ∈ r) := by
              show (!((nm r).any (isS x))) = _
              rw [nm_any]
            simp only [↓RNp, ↓RNq, RNs, RNc, RNl, RNx, nt, e]
          · intro y hy _
            obtain ⟨x, hx, rfl⟩ := List.mem_map.mp hy
            have a := PX.add_tup (nm r) [.str x] (sl_imp (by simp [nm]; omega))
            exact ⟨.val (.tup (nm r ++ [.str x])), by simp only [↓RNp, ↓RNq, RNs, RNc, RNl, RNx, a], rfl⟩
        rw [flat1] at lc
        have h1 := stepR_len P hP ((rk P i).take m)
        have h2 := List.length_filter_le (fun x => !decide (x ∈ r)) P
        have ha : binD .Add (.lst ((stepR P ((rk P i).take m)).map tupD)) (.lst (((P.filter fun x => !decide (x ∈ r)).map fun x => r ++ [x]).map tupD)) = some (.own (.lst ((stepR P ((rk P i).take (m + 1))).map tupD))) := by
          rw [PX.add_lst _ _ (sl5 (by simp only [List.length_map]; rw [List.length_take] at h1; omega)), htk, stepR_snoc, List.map_append]
        simp only [↓RNp, ↓RNq, RNs, RNc, RNl, RNx, lc, ha]
        exact ⟨trivial, _, rfl⟩
      · rintro en S2 ⟨rfl, e4, rfl⟩
        simp only [List.length_map, List.take_length]
        exact hR e4
    rcases he with rfl | ⟨rfl, rfl⟩
    · simp only [↓RNp, ↓RNq, RNs, RNc, RNl, RNx]
      refine key _ _ _ (.inl rfl) fun e4 => ?_
      simp only [↓RNp, ↓RNq, RNs, RNc, RNl, RNx]
      exact ⟨trivial, _, _, _, _, .inl rfl, rfl⟩
    · simp only [↓RNp, ↓RNq, RNs, RNc, RNl, RNx]
      refine key _ _ _ (.inr rfl) fun e4 => ?_
      simp only [↓RNp, ↓RNq, RNs, RNc, RNl, RNx]
      exact ⟨trivial, _, _, _, _, .inl rfl, rfl⟩
  · rintro en S1 ⟨rfl, e1, e2, e3, e4, he, rfl⟩
    simp only [List.length_map, List.length_range] at he
    rcases he with rfl | ⟨h, _⟩
    · simp only [↓RNp, ↓RNq, RNs, RNc, RNl, RNx]
      rfl
    · omega

/-! what is a ranking -/
def rankB (P : List Str) : PX.D → Bool
  | .tup ds => decide (ds.length = P.length) && P.all fun x => ds.any (isS x)
  | _ => false
theorem all_str (P : List Str) (f : Str → Bool) : b1D .all (.lst (((nm P).filter fun _ => true).map fun d => PX.D.bl (match d with | .str x => f x | _ => false))) = some (.val (.bl (P.all f))) := by
  show (allBls _).map _ = _
  rw [filter_yes]
  have h : allBls ((nm P).map fun d => PX.D.bl (match d with | .str x => f x | _ => false)) = some (P.map f) := allBls_map f P
  rw [h]
  show some (OV.val (.bl ((P.map f).all id))) = _
  rw [List.all_map]
  rfl
theorem r_is_ranking (call : CallT) (S : Stm) (P : List Str) (hP : P.length ≤ 1000) (d : PX.D) (hd : GoodT d) : CO.of (sh_is_ranking call [.val (tupD P), .val d, .none] S) = .ok (.val (.bl (rankB P d))) S := by
  rcases hd with ⟨ds, rfl, ho, hl⟩ | ⟨ht, hn⟩
  · simp only [sh_is_ranking, ↓RNp, ↓RNq, RNs, RNc, RNl, RNx]
    by_cases h : ds.length = P.length
    · have t : decide (((ds.length : Nat) : Int) = ((P.length : Nat) : Int)) = true := decide_eq_true (by omega)
      have lc : xLc [2] (iPlain (xSlot 0)) (gN 2) tYes' (xCmp .In (bSlot 2) (bSlot 1)) [.val (tupD P), .val (.tup ds), .none] S = .ok (.own (.lst (((nm P).filter fun _ => true).map fun d => PX.D.bl (match d with | .str x => ds.any (isS x) | _ => false)))) [.val (tupD P), .val (.tup ds), .none] S := by
        refine lc_pure (xs := nm P) _ _ ?_ rfl (by simp) (sl_imp (by simpa [nm] using hP)) ?_ ?_
        · simp only [↓RNp, ↓RNq, RNs, RNc, RNl, RNx]
        · intro d hd
          simp only [↓RNp, ↓RNq, RNs, RNc, RNl, RNx]
        · intro d hd _
          obtain ⟨x, _, rfl⟩ := List.mem_map.mp hd
          exact ⟨.val (.bl (ds.any (isS x))), by simp only [↓RNp, ↓RNq, RNs, RNc, RNl, RNx, in_tup x (ok60 ho)], rfl⟩
      simp only [↓RNp, ↓RNq, RNs, RNc, RNl, RNx, t, lc, all_str, rankB, decide_eq_true h, Bool.true_and]
    · have t : decide (((ds.length : Nat) : Int) = ((P.length : Nat) : Int)) = false := decide_eq_false (by omega)
      simp only [↓RNp, ↓RNq, RNs, RNc, RNl, RNx, t, rankB, decide_eq_false h, Bool.false_and]
  · have e : rankB P d = false := by cases d <;> first | rfl | exact absurd rfl (hn _)
    simp only [sh_is_ranking, ↓RNp, ↓RNq, RNs, RNc, RNl, RNx, ht, e]
theorem h_is_ranking (wf k : Nat) (S : Stm) (P : List Str) (hP : P.length ≤ 1000) (d : PX.D) (hd : GoodT d) : L wf (k + 1) ("is_ranking", none) [tupD P, d] S = .ok (.val (.bl (rankB P d))) S := (is_is_ranking wf k _ S rfl).trans (r_is_ranking _ S P hP d hd)
/-! .. and to be among all rankings -/
theorem eqTN {n m : Nat} : ∀ (r : List Str) (ds : List PX.D), ds.all (okD m) = true → (allZ (eqD (n + 1)) (nm r) ds).map (fun b => b && ((nm r).length == ds.length)) = some (decide (nm r = ds))
  | [], [], _ => rfl
  | [], d :: ds, _ => by simp [allZ, nm]
  | x :: r, [], _ => by simp [allZ, nm]
  | x :: r, d :: ds, h => by
    simp only [List.all_cons, Bool.and_eq_true] at h
    have ih := eqTN (n := n) r ds h.2
    have e : eqD (n + 1) (.str x) d = some (decide (PX.D.str x = d)) := by
      cases m with
      | zero => cases h.1
      | succ m =>
        cases d <;> first | rfl | (cases h.1; done)
    show (match eqD (n + 1) (.str x) d, allZ (eqD (n + 1)) (nm r) ds with | some x, some y => some (x && y) | _, _ => none).map _ = _
    rw [e]
    cases q : allZ (eqD (n + 1)) (nm r) ds with
    | none => rw [q] at ih; cases ih
    | some b =>
      rw [q] at ih
      have ih : (b && ((nm r).length == ds.length)) = decide (nm r = ds) := Option.some.inj ih
      show some ((decide (PX.D.str x = d) && b) && ((nm (x :: r)).length == (d :: ds).length)) = some (decide (PX.D.str x :: nm r = d :: ds))
      congr 1
      have el : ((nm (x :: r)).length == (d :: ds).length) = ((nm r).length == ds.length) := by
        show ((nm r).length + 1 == ds.length + 1) = _
        rw [Bool.eq_iff_iff]; simp
      rw [el, Bool.and_assoc, ih]
      by_cases h1 : PX.D.str x = d <;> by_cases h2 : nm r = ds <;> simp [h1, h2]
theorem eq_tup (r : List Str) {d : PX.D} (hd : GoodT d ∧ OkV d) : eqv (tupD r) d = some (decide (tupD r = d)) := by
  obtain ⟨hg, ho⟩ := hd
  rcases hg with ⟨ds, rfl, h, hl⟩ | ⟨ht, hn⟩
  · show (allZ (eqD 59) (nm r) ds).map _ = _
    rw [eqTN (n := 58) r ds h]
    congr 1
    rw [Bool.eq_iff_iff, decide_eq_true_eq, decide_eq_true_eq]
    constructor
    · rintro rfl; rfl
    · intro e
      have e : PX.D.tup (nm r) = .tup ds := e
      injection e
  · cases d with
    | tup ds => exact absurd rfl (hn ds)
    | dct kvs =>
      show some false = _
      rw [decide_eq_false (by intro h; cases h)]
    | obj => rcases ho with h | ⟨_, h, _⟩ <;> cases h
    | glo => rcases ho with h | ⟨_, h, _⟩ <;> cases h
    | ty => rcases ho with h | ⟨_, h, _⟩ <;> cases h
    | st => rcases ho with h | ⟨_, h, _⟩ <;> cases h
    | lst => rfl
    | _ => rfl
theorem in_orders {d : PX.D} (hd : GoodT d ∧ OkV d) : ∀ rs : List (List Str), cmpD .In d (.lst (rs.map tupD)) = some (rs.any fun r => decide (tupD r = d))
  | [] => rfl
  | r :: rs => by
    have ih := in_orders hd rs
    show inD.go d (tupD r :: rs.map tupD) = _
    unfold inD.go
    rw [eq_tup r hd, show inD.go d (rs.map tupD) = _ from ih]
    rfl
theorem perm_of {α : Type} [BEq α] [LawfulBEq α] : ∀ (P ds : List α), P.Nodup → (∀ x ∈ P, x ∈ ds) → ds.length ≤ P.length → ds.Perm P
  | [], ds, _, _, h => by
    have : ds = [] := List.length_eq_zero_iff.mp (by simpa using h)
    rw [this]
  | x :: P, ds, hn, hs, hl => by
    have hx := hs x (List.mem_cons_self ..)
    have hp := List.perm_cons_erase hx
    rw [List.nodup_cons] at hn
    have ih := perm_of P (ds.erase x) hn.2 (fun y hy => (List.mem_erase_of_ne (by rintro rfl; exact hn.1 hy)).mpr (hs y (List.mem_cons_of_mem _ hy))) (by
      rw [List.length_erase_of_mem hx]
      simp only [List.length_cons] at hl
      omega)
    exact hp.trans (ih.cons x)
theorem perm_nm {ys : List PX.D} {xs : List Str} (h : ys.Perm (nm xs)) : ∃ zs : List Str, ys = nm zs ∧ zs.Perm xs := by
  have key : ∀ ys : List PX.D, (∀ y ∈ ys, ∃ x, y = .str x) → ∃ zs : List Str, ys = nm zs := by
    intro ys
    induction ys with
    | nil => exact fun _ => ⟨[], rfl⟩
    | cons y r ih =>
      intro h
      obtain ⟨x, rfl⟩ := h y (List.mem_cons_self ..)
      obtain ⟨zs, rfl⟩ := ih fun z hz => h z (List.mem_cons_of_mem _ hz)
      exact ⟨x :: zs, rfl⟩
  obtain ⟨zs, rfl⟩ := key ys fun y hy => by
    obtain ⟨x, _, rfl⟩ := List.mem_map.mp (h.mem_iff.mp hy)
    exact ⟨x, rfl⟩
  refine ⟨zs, rfl, ?_⟩
  have := h.map unS
  rw [uns_nm, uns_nm] at this
  exact this
theorem any_isS {ds : List PX.D} {x : Str} : ds.any (isS x) = true ↔ PX.D.str x ∈ ds := by
  rw [List.any_eq_true]
  constructor
  · rintro ⟨d, hd, h⟩
    cases d with
    | str y =>
      have : y = x := by simpa [isS] using h
      rw [← this]; exact hd
    | _ => cases h
  · intro h
    exact ⟨_, h, by simp [isS]⟩
theorem orders_perm {P r : List Str} (hn : P.Nodup) : r ∈ orders P ↔ r.Perm P := by
  unfold orders
  rw [rk_mem]
  constructor
  · rintro ⟨h1, h2, h3⟩
    exact (perm_of r P h2 h3 (by omega)).symm
  · intro h
    exact ⟨h.length_eq, h.nodup_iff.mpr hn, fun x hx => h.mem_iff.mp hx⟩
theorem nm_nodup : ∀ {P : List Str}, P.Nodup → (nm P).Nodup
  | [], _ => List.nodup_nil
  | x :: P, h => by
    rw [List.nodup_cons] at h
    show (PX.D.str x :: nm P).Nodup
    rw [List.nodup_cons]
    refine ⟨fun hm => ?_, nm_nodup h.2⟩
    obtain ⟨y, hy, e⟩ := List.mem_map.mp hm
    injection e with e
    subst e
    exact h.1 hy
theorem rank_in {P : List Str} (hn : P.Nodup) {d : PX.D} : rankB P d = (orders P).any fun r => decide (tupD r = d) := by
  rw [Bool.eq_iff_iff, List.any_eq_true]
  constructor
  · intro h
    cases d with
    | tup ds =>
      simp only [rankB, Bool.and_eq_true, decide_eq_true_eq, List.all_eq_true] at h
      have hp : ds.Perm (nm P) := perm_of (nm P) ds (nm_nodup hn) (fun y hy => by
        obtain ⟨x, hx, rfl⟩ := List.mem_map.mp hy
        exact any_isS.mp (h.2 x hx)) (by simp [nm]; omega)
      obtain ⟨zs, rfl, hz⟩ := perm_nm hp
      exact ⟨zs, (orders_perm hn).mpr hz, decide_eq_true rfl⟩
    | _ => cases h
  · rintro ⟨r, hr, h⟩
    have h := of_decide_eq_true h
    subst h
    have hp := (orders_perm hn).mp hr
    show (decide ((nm r).length = P.length) && P.all fun x => (nm r).any (isS x)) = true
    rw [Bool.and_eq_true, decide_eq_true_eq, List.all_eq_true]
    refine ⟨by rw [q_nml, hp.length_eq], fun x hx => ?_⟩
    rw [nm_any]
    exact decide_eq_true (hp.mem_iff.mpr hx)

/-! menus, things given as a list -/
theorem filt_nm' (P : List Str) (f : Str → Bool) : ((nm P).filter fun d => match d with | .str x => f x | _ => false) = nm (P.filter f) := by
  unfold nm
  rw [List.filter_map]
  rfl
theorem r_partL (call : CallT) (S : Stm) (P : List Str) (hP : P.length ≤ 1000) (d : PX.D) (hd : GoodT d) : CO.of (c_is_part call [.val (.lst (nm P)), .val d, .none] S) = .ok (.val (.bl (partB P d))) S := by
  rcases hd with ⟨ds, rfl, ho, hl⟩ | ⟨ht, hn⟩
  · have lc : xLc [2] (iPlain (xSlot 0)) (gN 2) (tE (xCmp .In (bSlot 2) (bSlot 1))) (xSlot 2) [.val (.lst (nm P)), .val (.tup ds), .none] S = .ok (.own (.lst (((nm P).filter fun d => match d with | .str x => ds.any (isS x) | _ => false).map id))) [.val (.lst (nm P)), .val (.tup ds), .none] S := by
      refine lc_pure (xs := nm P) _ _ ?_ rfl (by simp) (sl_imp (by simpa [nm] using hP)) ?_ ?_
      · simp only [↓RNp, ↓RNq, RNs, RNc, RNl, RNx]
      · intro d hd
        obtain ⟨x, _, rfl⟩ := List.mem_map.mp hd
        simp only [↓RNp, ↓RNq, RNs, RNc, RNl, RNx, in_tup x (ok60 ho)]
      · intro d hd _
        obtain ⟨x, _, rfl⟩ := List.mem_map.mp hd
        exact ⟨.val (.str x), by simp only [↓RNp, ↓RNq, RNs, RNc, RNl, RNx], rfl⟩
    rw [filt_nm', List.map_id] at lc
    simp only [c_is_part, ↓RNp, ↓RNq, RNs, RNc, RNl, RNx, lc, cmp_names _ ho, partB]
  · have e : partB P d = false := by cases d <;> first | rfl | exact absurd rfl (hn _)
    simp only [c_is_part, ↓RNp, ↓RNq, RNs, RNc, RNl, RNx, ht, e]
theorem r_setL (call : CallT) (S : Stm) (P : List Str) (hP : P.length ≤ 1000) (d : PX.D) (hd : GoodT d) : CO.of (c__law_is_set call [.val (.lst (nm P)), .val d, .none] S) = .ok (.val (.bl (partB P d))) S := by
  rcases hd with ⟨ds, rfl, ho, hl⟩ | ⟨ht, hn⟩
  · have lc : xLc [2] (iPlain (xSlot 0)) (gN 2) (tE (xCmp .In (bSlot 2) (bE (xB1 .list (bSlot 1))))) (xSlot 2) [.val (.lst (nm P)), .val (.tup ds), .none] S = .ok (.own (.lst (((nm P).filter fun d => match d with | .str x => ds.any (isS x) | _ => false).map id))) [.val (.lst (nm P)), .val (.tup ds), .none] S := by
      refine lc_pure (xs := nm P) _ _ ?_ rfl (by simp) (sl_imp (by simpa [nm] using hP)) ?_ ?_
      · simp only [↓RNp, ↓RNq, RNs, RNc, RNl, RNx]
      · intro d hd
        obtain ⟨x, _, rfl⟩ := List.mem_map.mp hd
        simp only [↓RNp, ↓RNq, RNs, RNc, RNl, RNx, in_lst x (ok60 ho)]
      · intro d hd _
        obtain ⟨x, _, rfl⟩ := List.mem_map.mp hd
        exact ⟨.val (.str x), by simp only [↓RNp, ↓RNq, RNs, RNc, RNl, RNx], rfl⟩
    rw [filt_nm', List.map_id] at lc
    simp only [c__law_is_set, ↓RNp, ↓RNq, RNs, RNc, RNl, RNx, lc, cmp_names _ ho, partB]
  · have e : partB P d = false := by cases d <;> first | rfl | exact absurd rfl (hn _)
    simp only [c__law_is_set, ↓RNp, ↓RNq, RNs, RNc, RNl, RNx, ht, e]
theorem h_partL (wf k : Nat) (S : Stm) (P : List Str) (hP : P.length ≤ 1000) (d : PX.D) (hd : GoodT d) : L wf (k + 1) ("is_part", none) [.lst (nm P), d] S = .ok (.val (.bl (partB P d))) S := (is_is_part wf k _ S rfl).trans (r_partL _ S P hP d hd)
theorem h_setL (wf k : Nat) (S : Stm) (P : List Str) (hP : P.length ≤ 1000) (d : PX.D) (hd : GoodT d) : L wf (k + 1) ("_law_is_set", none) [.lst (nm P), d] S = .ok (.val (.bl (partB P d))) S := (is__law_is_set wf k _ S rfl).trans (r_setL _ S P hP d hd)
theorem part_tup {P : List Str} {d : PX.D} (h : partB P d = true) : ∃ ds, d = .tup ds := by
  cases d with
  | tup ds => exact ⟨ds, rfl⟩
  | _ => cases h
theorem h_menuL (wf k : Nat) (S : Stm) (P : List Str) (hP : P.length ≤ 1000) (d : PX.D) (hd : GoodT d) : L wf (k + 2) ("is_menu", none) [.lst (nm P), d] S = .ok (.val (.bl (menuB P d))) S := by
  refine (is_is_menu wf (k + 1) _ S rfl).trans ?_
  show CO.of (c_is_menu (L wf (k + 1)) [.val (.lst (nm P)), .val d] S) = _
  have c := h_partL wf k S P hP d hd
  cases h : partB P d with
  | true =>
    rw [h] at c
    obtain ⟨ds, rfl⟩ := part_tup h
    simp only [c_is_menu, ↓RNp, ↓RNq, RNs, RNc, RNl, RNx, c, cmp_ne_tup0, menuB, h, nonE, Bool.true_and]
  | false =>
    rw [h] at c
    simp only [c_is_menu, ↓RNp, ↓RNq, RNs, RNc, RNl, RNx, c, menuB, h, Bool.false_and]
/-- the things of a ranking that a value has, in order -/
def heldB (r : List Str) : PX.D → List Str
  | .tup ds => r.filter fun x => ds.any (isS x)
  | _ => []
theorem held_lc {S : Stm} {en0 en : En} {S0 : Stm} {j i : Nat} (r : List Str) (ds : List PX.D) (hr : r.length ≤ 1000) (ho : ds.all (okD 60) = true) (hn : noOwn en [j] = true) (hj : j < en.length) (it : FI) (hit : it en0 S0 = .ok (nm r) en S)
    (hi : ∀ x : Str, cmpD .In (.str x) (.tup ds) = some (ds.any (isS x)) → tE (xCmp .In (bSlot j) (bSlot i)) (en.set j (.val (.str x))) S = .ok (ds.any (isS x)) (en.set j (.val (.str x))) S) (hx : ∀ x : Str, xSlot j (en.set j (.val (.str x))) S = .ok (.val (.str x)) (en.set j (.val (.str x))) S) :
    xLc [j] it (gN j) (tE (xCmp .In (bSlot j) (bSlot i))) (xSlot j) en0 S0 = .ok (.own (.lst (nm (heldB r (.tup ds))))) en S := by
  have lc := lc_pure' (en0 := en0) (S0 := S0) (it := it) (ifs := tE (xCmp .In (bSlot j) (bSlot i))) (e := xSlot j) (xs := nm r) (fun d => match d with | .str x => ds.any (isS x) | _ => false) id hit hn hj (sl_imp (by simpa [nm] using hr)) (by
      intro d hd
      obtain ⟨x, _, rfl⟩ := List.mem_map.mp hd
      exact hi x (in_tup x ho)) (by
      intro d hd _
      obtain ⟨x, _, rfl⟩ := List.mem_map.mp hd
      exact ⟨.val (.str x), hx x, rfl⟩)
  rw [filt_nm', List.map_id] at lc
  exact lc
theorem held_ne {P r : List Str} {ds : List PX.D} (hp : r.Perm P) (h : menuB P (.tup ds) = true) : heldB r (.tup ds) ≠ [] := by
  simp only [menuB, Bool.and_eq_true] at h
  obtain ⟨h1, h2⟩ := h
  have hl : ds.length = (P.filter fun x => ds.any (isS x)).length := eqN_len h1
  cases hf : P.filter fun x => ds.any (isS x) with
  | nil =>
    rw [hf] at hl
    have : ds = [] := List.length_eq_zero_iff.mp hl
    subst this
    cases h2
  | cons x q =>
    have hx : x ∈ P.filter fun x => ds.any (isS x) := by rw [hf]; exact List.mem_cons_self ..
    have hx := List.mem_filter.mp hx
    intro e
    have : x ∈ heldB r (.tup ds) := List.mem_filter.mpr ⟨hp.mem_iff.mpr hx.1, hx.2⟩
    rw [e] at this
    cases this
def inMenuR (P r : List Str) (d : PX.D) (S : Stm) : CO := if menuB P d = true then .ok (.own (.lst (nm (heldB r d)))) S else .err (.glo "BadMenu") [("value", d)] S
theorem h_in_menu (wf k : Nat) (S : Stm) (P r : List Str) (hP : Pool P) (hp : r.Perm P) (d : PX.D) (hd : GoodT d) : L wf (k + 3) ("in_menu", none) [tupD r, d] S = inMenuR P r d S := by
  refine (is_in_menu wf (k + 2) _ S rfl).trans ?_
  show CO.of (sh_in_menu (L wf (k + 2)) [.val (tupD r), .val d, .none] S) = _
  have hl := hP.len
  have hrl := hp.length_eq
  have hs : b1D .sorted (.tup (nm r)) = some (.own (.lst (nm P))) := by
    show sortX (nm r) = _
    rw [sort_nm r (sl_imp (by omega)), sortS_map, sortS_of_perm hp, hP.srt]
  have c := h_menuL wf k S P (by omega) d hd
  unfold inMenuR
  cases h : menuB P d with
  | false =>
    rw [h] at c
    simp only [sh_in_menu, ↓RNp, ↓RNq, RNs, RNc, RNl, RNx, hs, c]
  | true =>
    rw [h] at c
    have h1 : partB P d = true := by
      simp only [menuB, Bool.and_eq_true] at h
      exact h.1
    obtain ⟨ds, rfl⟩ := part_tup h1
    have ho : ds.all (okD 60) = true := by
      rcases hd with ⟨ds', e, ho, _⟩ | ⟨ht, _⟩
      · cases e; exact ok60 ho
      · cases ht
    have lc := held_lc (S := S) (S0 := S) (en0 := [.val (tupD r), .val (.tup ds), .none]) (en := [.val (tupD r), .val (.tup ds), .none]) (j := 2) (i := 1) r ds (by omega) ho rfl (by simp) (iPlain (xSlot 0)) (by simp only [↓RNp, ↓RNq, RNs, RNc, RNl, RNx])
      (fun x hx => by simp only [↓RNp, ↓RNq, RNs, RNc, RNl, RNx, hx]) (fun x => by simp only [↓RNp, ↓RNq, RNs, RNc, RNl, RNx])
    simp only [sh_in_menu, ↓RNp, ↓RNq, RNs, RNc, RNl, RNx, hs, c, lc]

def bestR (P r : List Str) (d : PX.D) (w : Bool) (S : Stm) : CO := if menuB P d = true then .ok (.val (.str (if w then (heldB r d).getLastD "" else (heldB r d).headD ""))) S else .err (.glo "BadMenu") [("value", d)] S
theorem get_head {l : List Str} (h : l ≠ []) : getD (.lst (nm l)) (.int 0) = some (.str (l.headD "")) := by
  cases l with
  | nil => exact absurd rfl h
  | cons x r => exact getL (by omega) rfl
theorem get_last {l : List Str} (h : l ≠ []) : getD (.lst (nm l)) (.int (-1)) = some (.str (l.getLastD "")) := by
  have hp := List.length_pos_iff.mpr h
  show L2.atI (nm l) (-1) = _
  unfold L2.atI L2.ixN
  rw [if_neg (by omega), q_nml, if_pos (by omega)]
  show (nm l)[(-1 + ((l.length : Nat) : Int)).toNat]? = _
  rw [show (-1 + ((l.length : Nat) : Int)).toNat = l.length - 1 by omega]
  unfold nm
  rw [List.getElem?_map, ← List.getLast?_eq_getElem?]
  cases l with
  | nil => exact absurd rfl h
  | cons x r => rw [List.getLast?_cons, List.getLastD_cons, List.getLastD_eq_getLast?]; rfl
theorem h_best (wf k : Nat) (S : Stm) (P r : List Str) (hP : Pool P) (hp : r.Perm P) (d : PX.D) (hd : GoodT d) : L wf (k + 4) ("best_of", none) [tupD r, d] S = bestR P r d false S := by
  refine (is_best_of wf (k + 3) _ S rfl).trans ?_
  show CO.of (sh_best_of (L wf (k + 3)) [.val (tupD r), .val d] S) = _
  have c := h_in_menu wf k S P r hP hp d hd
  unfold inMenuR at c
  unfold bestR
  cases h : menuB P d with
  | false =>
    rw [h] at c
    simp only [sh_best_of, ↓RNp, ↓RNq, RNs, RNc, RNl, RNx, c]
  | true =>
    rw [h] at c
    obtain ⟨ds, rfl⟩ := part_tup (by simp only [menuB, Bool.and_eq_true] at h; exact h.1)
    have g := get_head (held_ne hp h)
    simp only [sh_best_of, ↓RNp, ↓RNq, RNs, RNc, RNl, RNx, c, g]
theorem h_worst (wf k : Nat) (S : Stm) (P r : List Str) (hP : Pool P) (hp : r.Perm P) (d : PX.D) (hd : GoodT d) : L wf (k + 4) ("worst_of", none) [tupD r, d] S = bestR P r d true S := by
  refine (is_worst_of wf (k + 3) _ S rfl).trans ?_
  show CO.of (sh_worst_of (L wf (k + 3)) [.val (tupD r), .val d] S) = _
  have c := h_in_menu wf k S P r hP hp d hd
  unfold inMenuR at c
  unfold bestR
  cases h : menuB P d with
  | false =>
    rw [h] at c
    simp only [sh_worst_of, ↓RNp, ↓RNq, RNs, RNc, RNl, RNx, c]
  | true =>
    rw [h] at c
    obtain ⟨ds, rfl⟩ := part_tup (by simp only [menuB, Bool.and_eq_true] at h; exact h.1)
    have g := get_last (held_ne hp h)
    simp only [sh_worst_of, ↓RNp, ↓RNq, RNs, RNc, RNl, RNx, c, g]
/-- what is due -/
def dueD (P r : List Str) (d : PX.D) (w : Bool) : List PX.D := if menuB P d = true then [.str "name", .str (if w then (heldB r d).getLastD "" else (heldB r d).headD "")] else [.str "menu", d]
def planI (w : Bool) : Int := if w then 1 else 0
theorem exs_m : lkS T.excs "BadMenu" = some [("value" : Str)] ∧ isSubOf T (.glo "BadMenu") "BadMenu" = true := by decide +kernel
theorem h_told (wf k : Nat) (S : Stm) (P r : List Str) (hP : Pool P) (hp : r.Perm P) (d : PX.D) (hd : GoodT d) (w : Bool) : L wf (k + 5) ("_law_told", none) [.int (planI w), tupD r, d] S = .ok (.own (.lst (dueD P r d w))) S := by
  refine (is__law_told wf (k + 4) _ S rfl).trans ?_
  show CO.of (sh__law_told (L wf (k + 4)) [.val (.int (planI w)), .val (tupD r), .val d, .none] S) = _
  obtain ⟨e1, e2⟩ := exs_m
  have f1 : ∀ d : PX.D, lkS [(("value" : Str), d)] "value" = some d := fun d => rfl
  cases w with
  | false =>
    have c := h_best wf k S P r hP hp d hd
    unfold bestR at c
    unfold dueD
    have t : decide (planI false = 0) = true := rfl
    cases h : menuB P d with
    | true =>
      rw [h] at c
      simp only [sh__law_told, ↓RNp, ↓RNq, RNs, RNc, RNl, RNx, c, t]
    | false =>
      rw [h] at c
      simp only [sh__law_told, ↓RNp, ↓RNq, RNs, RNc, RNl, RNx, c, t, e1, e2, f1, List.mem_singleton, Option.isSome_some]
  | true =>
    have c := h_worst wf k S P r hP hp d hd
    unfold bestR at c
    unfold dueD
    have t : decide (planI true = 0) = false := rfl
    cases h : menuB P d with
    | true =>
      rw [h] at c
      simp only [sh__law_told, ↓RNp, ↓RNq, RNs, RNc, RNl, RNx, c, t]
    | false =>
      rw [h] at c
      simp only [sh__law_told, ↓RNp, ↓RNq, RNs, RNc, RNl, RNx, c, t, e1, e2, f1, List.mem_singleton, Option.isSome_some]
theorem eq_tup0 (ds : List PX.D) : cmpD .Eq (.tup ds) (.tup []) = some ds.isEmpty := by
  cases ds <;> rfl
theorem h_due (wf k : Nat) (S : Stm) (P r : List Str) (hP : Pool P) (hp : r.Perm P) (d : PX.D) (hd : GoodT d) (w : Bool) : L wf (k + 2) ("_law_due", none) [.int (planI w), tupD r, d] S = .ok (.own (.lst (dueD P r d w))) S := by
  refine (is__law_due wf (k + 1) _ S rfl).trans ?_
  show CO.of (sh__law_due (L wf (k + 1)) [.val (.int (planI w)), .val (tupD r), .val d, .none, .none] S) = _
  have hl := hP.len
  have hrl := hp.length_eq
  have hs : b1D .sorted (.tup (nm r)) = some (.own (.lst (nm P))) := by
    show sortX (nm r) = _
    rw [sort_nm r (sl_imp (by omega)), sortS_map, sortS_of_perm hp, hP.srt]
  have c := h_setL wf k S P (by omega) d hd
  unfold dueD menuB
  cases h : partB P d with
  | false =>
    rw [h] at c
    simp only [sh__law_due, ↓RNp, ↓RNq, RNs, RNc, RNl, RNx, hs, c, Bool.false_and]
  | true =>
    rw [h] at c
    obtain ⟨ds, rfl⟩ := part_tup h
    have ho : ds.all (okD 60) = true := by
      rcases hd with ⟨ds', e, ho, _⟩ | ⟨ht, _⟩
      · cases e; exact ok60 ho
      · cases ht
    cases he : ds.isEmpty with
    | true =>
      simp only [sh__law_due, ↓RNp, ↓RNq, RNs, RNc, RNl, RNx, hs, c, eq_tup0, he, nonE, Bool.not_true, Bool.and_false]
    | false =>
      have hm : menuB P (.tup ds) = true := by
        unfold menuB nonE
        rw [h]
        show (true && !ds.isEmpty) = true
        rw [he]; rfl
      have hne := held_ne hp hm
      have lc := held_lc (S := S) (S0 := S) (en0 := [.val (.int (planI w)), .val (tupD r), .val (.tup ds), .none, .none]) (en := [.val (.int (planI w)), .val (tupD r), .val (.tup ds), .none, .none]) (j := 3) (i := 2) r ds (by omega) ho rfl (by simp) (iPlain (xSlot 1)) (by simp only [↓RNp, ↓RNq, RNs, RNc, RNl, RNx])
        (fun x hx => by simp only [↓RNp, ↓RNq, RNs, RNc, RNl, RNx, hx]) (fun x => by simp only [↓RNp, ↓RNq, RNs, RNc, RNl, RNx])
      have g1 := get_head hne
      have g2 := get_last hne
      cases w with
      | false =>
        have g3 : getD (.lst [.str ((heldB r (.tup ds)).headD ""), .str ((heldB r (.tup ds)).getLastD "")]) (.int (planI false)) = some (.str ((heldB r (.tup ds)).headD "")) := rfl
        simp only [sh__law_due, ↓RNp, ↓RNq, RNs, RNc, RNl, RNx, hs, c, eq_tup0, he, nonE, Bool.not_false, Bool.and_true, lc, g1, g2, g3]
      | true =>
        have g3 : getD (.lst [.str ((heldB r (.tup ds)).headD ""), .str ((heldB r (.tup ds)).getLastD "")]) (.int (planI true)) = some (.str ((heldB r (.tup ds)).getLastD "")) := rfl
        simp only [sh__law_due, ↓RNp, ↓RNq, RNs, RNc, RNl, RNx, hs, c, eq_tup0, he, nonE, Bool.not_false, Bool.and_true, lc, g1, g2, g3]
theorem due_ok {P r : List Str} {d : PX.D} (w : Bool) (ho : OkV d) : okE 60 (.lst (dueD P r d w)) = true := by
  unfold dueD
  cases menuB P d with
  | true => rfl
  | false =>
    show (true && (okE 59 d && true)) = true
    rcases ho with h | ⟨kvs, rfl, h⟩
    · rw [okE_of 59 d (okD_mono (by omega) h)]; rfl
    · show (true && (smallK kvs && true)) = true
      rw [h]; rfl

/-! the law -/
theorem cutD_nm (l : List Str) (a b : Option Int) : PX.cutD (nm l) a b = nm (PX.cutD l a b) := by
  unfold PX.cutD nm
  rw [List.map_take, List.map_drop, List.length_map]
theorem cutD_len {α : Type} (l : List α) (a b : Option Int) : (PX.cutD l a b).length ≤ l.length := ((List.take_sublist _ _).trans (List.drop_sublist _ _)).length_le
theorem good_nm2 {m : List Str} (h : m.length ≤ 1000) : GoodT (.tup (nm m)) ∧ OkV (.tup (nm m)) := ⟨good_nm h, .inl (nm_ok m 53)⟩
theorem add_nm {a b : List Str} (h : a.length + b.length ≤ 1000) : binD .Add (.tup (nm a)) (.tup (nm b)) = some (.val (.tup (nm (a ++ b)))) := by
  rw [PX.add_tup _ _ (sl_imp (by simp [nm]; omega))]
  unfold nm
  rw [List.map_append]
structure Facts (c : CallT) : Prop where
  dr : Draws c
  names : HasNames c
  any : HasAny2 c
  sets : HasLSets c
  ord : ∀ (S : Stm) (P : List Str), 0 < P.length → P.length ≤ 5 → c ("_law_orders", none) [tupD P] S = .ok (.val (.lst ((orders P).map tupD))) S
  all : ∀ (S : Stm) (P : List Str), P.length ≤ 5 → c ("all_rankings", none) [tupD P] S = .ok (.own (.lst ((orders P).map tupD))) S
  isr : ∀ (S : Stm) (P : List Str), P.length ≤ 1000 → ∀ d, GoodT d → c ("is_ranking", none) [tupD P, d] S = .ok (.val (.bl (rankB P d))) S
  told : ∀ (S : Stm) (P r : List Str), Pool P → r.Perm P → ∀ d, GoodT d → ∀ w, c ("_law_told", none) [.int (planI w), tupD r, d] S = .ok (.own (.lst (dueD P r d w))) S
  due : ∀ (S : Stm) (P r : List Str), Pool P → r.Perm P → ∀ d, GoodT d → ∀ w, c ("_law_due", none) [.int (planI w), tupD r, d] S = .ok (.own (.lst (dueD P r d w))) S
  best : ∀ (S : Stm) (P r : List Str), Pool P → r.Perm P → ∀ d, GoodT d → c ("best_of", none) [tupD r, d] S = bestR P r d false S
  worst : ∀ (S : Stm) (P r : List Str), Pool P → r.Perm P → ∀ d, GoodT d → c ("worst_of", none) [tupD r, d] S = bestR P r d true S
  very : ∀ (S : Stm) (r : List Str), 0 < r.length → r.length ≤ 5 → c ("_law_very", none) [tupD r] S = .ok (.val (.bl true)) S
abbrev E13 (P : List Str) (e4 e5 e6 e7 e8 e9 e10 e11 e12 : Ent) : En := [.none, .val .st, .val (tupD P), .val (.lst ((orders P).map tupD)), e4, e5, e6, e7, e8, e9, e10, e11, e12]
section
variable {c : CallT} (F : Facts c) {P : List Str} (hP : Pool P) (h5 : P.length ≤ 5) {S : Stm} {R : SO → Prop} {r : List FS}
include F hP h5
theorem ask_loop {it : FI} {en0 : En} {S0 : Stm} {things : List PX.D} (hg : ∀ d ∈ things, GoodT d ∧ OkV d) {e4 e5 e6 e7 e8 e9 e10 e11 e12 : Ent} (hit : it en0 S0 = .ok things (E13 P e4 e5 e6 e7 e8 e9 e10 e11 e12) S) (h : ∀ e8 e9, R (sSeq r (E13 P e4 e5 e6 e7 e8 e9 e10 e11 e12) S)) :
    R (andThen (sFor (gN 8) it (sSeq [(sSet 9 (xCall (c ("is_ranking", none)) ["things", "value"] [(bSlot 2), (bSlot 8)] [])),
    (sIf (tBool .Or [(tNot' (tTru (bE (xIsi (some 9) (bSlot 9) "bool")))), (tE (xCmp .NotEq (bSlot 9) (bE (xCmp .In (bSlot 8) (bSlot 3)))))]) (sSeq [(sRet (xVal (.bl false)))]) (sSeq []))]) en0 S0) r) := by
  refine then_for (xs := things) (en' := E13 P e4 e5 e6 e7 e8 e9 e10 e11 e12) (S' := S) (fun i en S' => S' = S ∧ ∃ e8 e9, en = E13 P e4 e5 e6 e7 e8 e9 e10 e11 e12) hit ⟨rfl, _, _, rfl⟩ ?_ ?_
  · rintro i d en S1 hd ⟨rfl, e8, e9, rfl⟩
    have hgd := hg d (List.mem_of_getElem? hd)
    have c1 := F.isr S1 P (by omega) d hgd.1
    have c2 := in_orders hgd (orders P)
    have c3 := rank_in hP.nd (d := d)
    rw [← c3] at c2
    refine ⟨_, rfl, ?_⟩
    simp only [↓RNp, ↓RNq, RNs, RNc, RNl, RNx, c1, c2, beq_self_eq_true, Bool.not_true, Bool.or_self]
    exact ⟨trivial, _, _, rfl⟩
  · rintro en S1 ⟨rfl, e8, e9, rfl⟩
    exact h e8 e9
theorem told_loop {q : List Str} (hq : q.Perm P) {it : FI} {en0 : En} {S0 : Stm} {things : List PX.D} (hg : ∀ d ∈ things, GoodT d ∧ OkV d) {e4 e5 e7 e8 e9 e10 e11 e12 : Ent} (hit : it en0 S0 = .ok things (E13 P e4 e5 (.val (tupD q)) e7 e8 e9 e10 e11 e12) S) (h : ∀ e8 e11, R (sSeq r (E13 P e4 e5 (.val (tupD q)) e7 e8 e9 e10 e11 e12) S)) :
    R (andThen (sFor (gN 8) it (sSeq [(sFor (gN 11) (iRange [(xVal (.int 2))]) (sSeq [(sIf (tE (xCmp .NotEq (bE (xCall (c ("_law_told", none)) ["_law_plan", "_law_order_here", "_law_thing"] [(bSlot 11), (bSlot 6), (bSlot 8)] [])) (bE (xCall (c ("_law_due", none)) ["_law_plan", "_law_order_here", "_law_thing"] [(bSlot 11), (bSlot 6), (bSlot 8)] [])))) (sSeq [(sRet (xVal (.bl false)))]) (sSeq []))]))]) en0 S0) r) := by
  refine then_for (xs := things) (en' := E13 P e4 e5 (.val (tupD q)) e7 e8 e9 e10 e11 e12) (S' := S) (fun i en S' => S' = S ∧ ∃ e8 e11, en = E13 P e4 e5 (.val (tupD q)) e7 e8 e9 e10 e11 e12) hit ⟨rfl, _, _, rfl⟩ ?_ ?_
  · rintro i d en S1 hd ⟨rfl, e8, e11, rfl⟩
    have hgd := hg d (List.mem_of_getElem? hd)
    refine ⟨_, rfl, ?_⟩
    simp only [q_seqS]
    refine then_for (xs := (List.range 2).map fun k => PX.D.int (0 + (k : Nat))) (en' := E13 P e4 e5 (.val (tupD q)) e7 (.val d) e9 e10 e11 e12) (S' := S1) (fun i en S' => S' = S1 ∧ ∃ e11, en = E13 P e4 e5 (.val (tupD q)) e7 (.val d) e9 e10 e11 e12) ?_ ⟨rfl, _, rfl⟩ ?_ ?_
    · simp only [↓RNp, ↓RNq, RNs, RNc, RNl, RNx]
      rw [range_ok (by omega) (by omega)]
      rfl
    · rintro j z en S2 hz ⟨rfl, e11, rfl⟩
      obtain ⟨w, rfl⟩ : ∃ w, z = .int (planI w) := by
        have hj : j < 2 := by
          have := (List.getElem?_eq_some_iff.mp hz).1
          simpa using this
        have : j = 0 ∨ j = 1 := by omega
        rcases this with rfl | rfl
        · exact ⟨false, by injection hz with hz; exact hz.symm⟩
        · exact ⟨true, by injection hz with hz; exact hz.symm⟩
      have c1 := F.told S2 P q hP hq d hgd.1 w
      have c2 := F.due S2 P q hP hq d hgd.1 w
      have n1 := cmpE_ne_self (due_ok (P := P) (r := q) w hgd.2) (fun _ h => by cases h)
      refine ⟨_, rfl, ?_⟩
      simp only [↓RNp, ↓RNq, RNs, RNc, RNl, RNx, c1, c2, n1]
      exact ⟨trivial, _, rfl⟩
    · rintro en S2 ⟨rfl, e11, rfl⟩
      simp only [↓RNp, ↓RNq, RNs, RNc, RNl, RNx]
      exact ⟨trivial, _, _, rfl⟩
  · rintro en S1 ⟨rfl, e8, e11, rfl⟩
    exact h e8 e11
end

theorem turn_loop {c : CallT} (F : Facts c) {P : List Str} (hP : Pool P) (h5 : P.length ≤ 5) {m : Nat} {S : Stm} (hm : m < 100000) (hs : StOk m S) {R : SO → Prop} {r : List FS} (h : ∀ e5 e6 e7 e8 e9 e10 e11 S', R (sSeq r (E13 P (.own (.lst [])) e5 e6 e7 e8 e9 e10 e11 .none) S')) :
    R (andThen (law_s6 c (E13 P (.own (.lst [])) .none .none .none .none .none .none .none .none) S) r) := by
  unfold law_s6
  refine then_for (xs := (List.range 12).map fun k => PX.D.int (0 + (k : Nat))) (en' := E13 P (.own (.lst [])) .none .none .none .none .none .none .none .none) (S' := S) (fun i en S' => StOk (m + 70 * i) S' ∧ ∃ e5 e6 e7 e8 e9 e10 e11, en = E13 P (.own (.lst [])) e5 e6 e7 e8 e9 e10 e11 .none) ?_ ⟨by simpa using hs, _, _, _, _, _, _, _, rfl⟩ ?_ ?_
  · simp only [↓RNp, ↓RNq, RNs, RNc, RNl, RNx]
    rw [range_ok (by omega) (by omega)]
    rfl
  · rintro i z en S1 hz ⟨hs1, e5, e6, e7, e8, e9, e10, e11, rfl⟩
    have hi : i < 12 := by
      have := (List.getElem?_eq_some_iff.mp hz).1
      simpa using this
    have hol : (orders P).length ≤ 3125 := Nat.le_trans (rk_len P P.length) (pow5 h5 h5)
    have hpos : 0 < (orders P).length := by
      have : P ∈ orders P := (orders_perm hP.nd).mpr (List.Perm.refl _)
      exact List.length_pos_iff.mpr (List.ne_nil_of_mem this)
    obtain ⟨d1, S2, c1, l1, u1, hs2⟩ := dr0 F.dr hs1 (((orders P).map tupD).length : Nat) (by omega) (by rw [List.length_map]; omega) (by rw [List.length_map]; omega)
    obtain ⟨y, gy, hy⟩ := getL_mem l1 u1
    obtain ⟨q, hq, rfl⟩ := List.mem_map.mp hy
    have hqp := (orders_perm hP.nd).mp hq
    have hql := hqp.length_eq
    have cA := cutD_len q none (some (-1))
    have cB := cutD_len q none (some 1)
    have a1 := add_nm (a := q) (b := PX.cutD q none (some 1)) (by omega)
    have a2 : binD .Add (.tup (nm (PX.cutD q none (some (-1))))) (.tup [.str "zz9"]) = some (.val (.tup (nm (PX.cutD q none (some (-1)) ++ ([("zz9" : Str)] : List Str))))) := add_nm (a := PX.cutD q none (some (-1))) (b := ([("zz9" : Str)] : List Str)) (by simp; omega)
    have a3 := add_nm (a := PX.cutD q none (some (-1))) (b := PX.cutD q none (some 1)) (by omega)
    refine ⟨_, rfl, ?_⟩
    obtain ⟨z1, S3, c3, hz1, hs3⟩ := F.any _ S2 P hs2 (by omega) hP.pos hP.len (fun x hx => Nat.le_trans (hP.sh x hx) (by omega))
    simp only [↓RNp, ↓RNq, RNs, RNc, RNl, RNx, c1, gy, cutD_nm, a1, a2, a3]
    generalize hnear : [PX.D.tup (nm q), .lst (nm q), .tup (nm (PX.cutD q none (some (-1)))), .tup (nm (q ++ PX.cutD q none (some 1))), .tup (nm (PX.cutD q none (some (-1)) ++ ([("zz9" : Str)] : List Str))), .tup (nm (PX.cutD q none (some (-1)) ++ PX.cutD q none (some 1)))] = near
    have hnl : near.length = 6 := by rw [← hnear]; rfl
    have hng : ∀ d ∈ near, GoodT d ∧ OkV d := by
      intro d hd
      rw [← hnear] at hd
      simp only [List.mem_cons, List.not_mem_nil, or_false] at hd
      rcases hd with rfl | rfl | rfl | rfl | rfl | rfl
      · exact good_nm2 (by omega)
      · exact ⟨.inr ⟨rfl, fun _ h => by cases h⟩, .inl (show okD 55 (.lst (nm q)) = true from nm_ok q 53)⟩
      · exact good_nm2 (by omega)
      · exact good_nm2 (by rw [List.length_append]; omega)
      · exact good_nm2 (by rw [List.length_append, List.length_singleton]; omega)
      · exact good_nm2 (by rw [List.length_append]; omega)
    have a4 : binD .Add (.lst near) (.lst [z1]) = some (.own (.lst (near ++ [z1]))) := PX.add_lst _ _ (sl_imp (by simp [hnl]))
    refine ask_loop F hP h5 (S := S3) (things := near ++ [z1]) ?_ (e4 := .own (.lst [])) (e5 := .val z) (e6 := .val (tupD q)) (e7 := .own (.lst near)) (e8 := e8) (e9 := e9) (e10 := e10) (e11 := e11) (e12 := .none) ?_ fun e8 e9 => ?_
    · intro d hd
      rcases List.mem_append.mp hd with hd | hd
      · exact hng d hd
      · rw [List.mem_singleton.mp hd]; exact hz1
    · simp only [↓RNp, ↓RNq, RNs, RNc, RNl, RNx, c3, a4]
    have c4 := F.sets S3 P hP.len
    have hsl : (setsIn P).length = 2 ^ P.length := by
      unfold setsIn inOrder
      rw [List.length_mergeSort, subs_len]
    have hs2p : 0 < 2 ^ P.length := Nat.pow_pos (by omega)
    have hs2l : 2 ^ P.length ≤ 32 := by
      have := Nat.pow_le_pow_right (show 0 < 2 by omega) h5
      omega
    obtain ⟨d5, S4, c5, l5, u5, hs4⟩ := dr0 F.dr hs3 (((setsIn P).map tupD).length : Nat) (by omega) (by rw [List.length_map]; omega) (by rw [List.length_map]; omega)
    obtain ⟨y5, gy5, hy5⟩ := getL_mem l5 u5
    obtain ⟨pl, hpl, rfl⟩ := List.mem_map.mp hy5
    have hpll : pl.length ≤ P.length := by
      unfold setsIn inOrder at hpl
      exact subs_mem_len (List.mem_mergeSort.mp hpl)
    obtain ⟨z2, S5, c6, hz2, hs5⟩ := F.any _ S4 P hs4 (by omega) hP.pos hP.len (fun x hx => Nat.le_trans (hP.sh x hx) (by omega))
    simp only [↓RNp, ↓RNq, RNs, RNc, RNl, RNx, c4]
    refine told_loop F hP h5 hqp (S := S5) (things := [tupD pl, z2, tupD P]) ?_ (e4 := .own (.lst [])) (e5 := .val z) (e7 := .own (.lst near)) (e8 := e8) (e9 := e9) (e10 := .own (.lst ((setsIn P).map tupD))) (e11 := e11) (e12 := .none) ?_ fun e8 e11 => ?_
    · intro d hd
      simp only [List.mem_cons, List.not_mem_nil, or_false] at hd
      rcases hd with rfl | rfl | rfl
      · exact good_nm2 (by omega)
      · exact hz2
      · exact good_nm2 (by omega)
    · simp only [↓RNp, ↓RNq, RNs, RNc, RNl, RNx, c5, gy5, c6]
    simp only [↓RNp, ↓RNq, RNs, RNc, RNl, RNx]
    exact ⟨hs5.mono (by omega), _, _, _, _, _, _, _, rfl⟩
  · rintro en S1 ⟨_, e5, e6, e7, e8, e9, e10, e11, rfl⟩
    exact h e5 e6 e7 e8 e9 e10 e11 S1
theorem law_runG {c : CallT} (F : Facts c) (ns : List Int) (hn : ns.length ≤ 63) : ∃ en S, sh_law c ((List.replicate 13 Ent.none).set 1 (.val .st)) (startP ns) = .ret (.val (.bl true)) en S := by
  show ∃ en S, sh_law c [.none, .val .st, .none, .none, .none, .none, .none, .none, .none, .none, .none, .none, .none] (startP ns) = .ret (.val (.bl true)) en S
  have hs0 := start_ok hn
  obtain ⟨d1, S1, c1, l1, u1, hs1⟩ := dr0 F.dr hs0 5 (by omega) (by omega) (by omega)
  obtain ⟨xs, S2, c2, hxs, hs2⟩ := F.names _ (1 + d1.toNat) S1 hs1 (by omega) (by omega)
  rw [show ((1 + d1.toNat : Nat) : Int) = 1 + d1 by omega] at c2
  have hP := pool_of hxs (by omega) (by omega)
  have h5 : (sortS xs).length ≤ 5 := by rw [(sortS_perm xs).length_eq, hxs.1]; omega
  have hsort : sortX (nm xs) = some (.own (.lst (nm (sortS xs)))) := by rw [sort_nm xs (sl_imp (by have := hxs.1; omega)), sortS_map]
  generalize sortS xs = P at hP h5 hsort
  have c3 := F.ord S2 P hP.pos h5
  have c4 := F.all S2 P h5
  have n1 : cmpD .NotEq (.lst ((orders P).map tupD)) (.lst ((orders P).map tupD)) = some false := by
    refine cmp_ne_self ?_
    show ((orders P).map tupD).all (okD 59) = true
    rw [List.all_eq_true]
    intro d hd
    obtain ⟨m, _, rfl⟩ := List.mem_map.mp hd
    exact nm_ok m 57
  have cl : mutO (.lst ((orders P).map tupD)) "clear" [] = some (.lst [], .non) := rfl
  have hpos : 0 < (orders P).length := by
    have : P ∈ orders P := (orders_perm hP.nd).mpr (List.Perm.refl _)
    exact List.length_pos_iff.mpr (List.ne_nil_of_mem this)
  simp only [sh_law, law_s0, law_s1, law_s2, law_s3, law_s4, law_s5, ↓RNp, ↓RNq, RNs, RNc, RNl, RNx, c1, c2, hsort, c3, c4, n1, cl, Bool.not_true, Bool.or_self]
  refine turn_loop (R := fun o => ∃ en S, o = .ret (.val (.bl true)) en S) F hP h5 (by omega) hs2 fun e5 e6 e7 e8 e9 e10 e11 S3 => ?_
  obtain ⟨q, hq, g0⟩ : ∃ q, q ∈ orders P ∧ getD (.lst ((orders P).map tupD)) (.int 0) = some (tupD q) := by
    cases ho : orders P with
    | nil => rw [ho] at hpos; exact absurd hpos (by simp)
    | cons q rest => exact ⟨q, List.mem_cons_self .., getL (by omega) rfl⟩
  have hqp := (orders_perm hP.nd).mp hq
  have hql := hqp.length_eq
  have hgP : GoodT (tupD P) := good_nm (by omega)
  have b1 := F.best S3 P q hP hqp (tupD P) hgP
  have b2 := F.worst S3 P q hP hqp (tupD P) hgP
  unfold bestR at b1 b2
  rw [menu_pool hP.pos] at b1 b2
  have hh : heldB q (tupD P) = q := by
    show q.filter (fun x => (nm P).any (isS x)) = q
    rw [List.filter_eq_self]
    intro x hx
    rw [nm_any]
    exact decide_eq_true (hqp.mem_iff.mp hx)
  rw [hh] at b1 b2
  have hqne : q ≠ [] := by
    intro e
    have := hP.pos
    rw [e] at hql
    simp at hql
    omega
  have g1 : getD (.tup (nm q)) (.int 0) = some (.str (q.headD "")) := get_head hqne
  have g2 : getD (.tup (nm q)) (.int (-1)) = some (.str (q.getLastD "")) := get_last hqne
  have c5 := F.isr S3 P (by omega) (tupD q) (good_nm (by omega))
  have c6 : rankB P (tupD q) = true := by
    rw [rank_in hP.nd, List.any_eq_true]
    exact ⟨q, hq, decide_eq_true rfl⟩
  rw [c6] at c5
  have is1 : cmpD .Is (.bl true) (.bl true) = some true := rfl
  have c7 := F.very S3 q (by have := hP.pos; omega) (by omega)
  simp only [law_s7, law_s8, law_s9, ↓RNp, ↓RNq, RNs, RNc, RNl, RNx, g0, b1, b2, g1, g2, decide_true, Bool.not_true, Bool.or_self, c5, is1, c7]
  exact ⟨_, _, rfl⟩
end HD

set_option Elab.async false
set_option linter.all false
set_option maxRecDepth 100000
set_option maxHeartbeats 4000000
/-! K11v: _law_very by hand: the exception's field is the very list. -/
namespace HD
open PySem PySem.Spec L2 PX
open PyProof.Rows hiding St

section
variable {P : Program} {w : World} {K : PySem.W.Frag} {mg : Str → Option Value} {base : Heap}
/-- a frame of a def, its lists standing in B -/
abbrev frN (P : Program) (w : World) (K : PySem.W.Frag) (mg : Str → Option Value) (base : Heap) (wf : Nat) (call : CallT) (make : Str → List PX.D → Stm → CO) (D : DefI) (kk : Nat) (qual : Str) (f : Addr) (cdv : Value) (A : Around) (outer : List Env) (s : Shared) (H : Hp) (E : XK) (sa : Addr) (B F : Hp) : Cn :=
  { g := ⟨w, mg, sa⟩, X := cxOf (CXB P w D.weak) P w K mg base D.N qual D.sc f cdv A outer s H E, c := lawC T wf call make D, B := B, F0 := F, C0 := cellsOf H sa, k := kk }
abbrev FnsOk (P : Program) (w : World) (K : PySem.W.Frag) (mg : Str → Option Value) (base : Heap) (kk : Nat) (call : CallT) : Prop :=
  ∀ f D, lkF T.defs f = some D → ∃ a, Fat K mg f a ∧ PySem.W.keepIn K (.ref a) = true ∧ ∃ fd, (∀ (s : Shared) (us : List Value) (kws : List (Str × Value)) (bs : List Value), bindA D.ps us kws = some bs → BindsTo s fd ⟨us, kws⟩ (D.ps.zip bs)) ∧
      FnOk P w K mg base (CXB P w D.weak) kk a fd D.ps (spF w mg D.ps.length (call f))
theorem good_fr {wf kk : Nat} {call : CallT} {make : Str → List PX.D → Stm → CO} {D : DefI} {qual : Str} {f : Addr} {cdv : Value} {A : Around} {outer : List Env} {s : Shared} {H : Hp} {E : XK} {sa : Addr} {B F : Hp} (tb : TbOk K mg T) (fns : FnsOk P w K mg base kk call) (hk : 2 ≤ kk) (ok : DefOk D)
    (hr : Room (kk + 2) (A.deeper (envOfC qual D.sc s.heap.objs.size f cdv))) : GoodS (frN P w K mg base wf call make D kk qual f cdv A outer s H E sa B F) (fun cls d _ H => E cls d H) := {
      N := rfl
      nd := ok.sc.nd
      dbg := ok.dbg
      scope := rfl
      fn := fun _ => rfl
      calm := fun _ => rfl
      room := fun _ => hr
      units := by
        have := hr.un
        show (A.deeper _).units + 80 < cLine
        omega
      tk := takesB_of D.weak rfl rfl rfl rfl
      mg := rfl
      w := rfl
      tb := tb
      fns := fun f D h => by
        obtain ⟨a, h1, h2, h3⟩ := fns f D h
        exact ⟨a, h1, h2, h3⟩
      two := hk
      exn := fun _ => rfl
      exs := fun _ _ _ h => by cases h
      pass := passes_of rfl
      passH := fun _ => L2H.passesAt_of rfl
      stk := rfl
      frm := rfl }
/-- what in_menu, best_of and worst_of do with the list ["zz9"]: BadMenu, its value the very list -/
def spVery (w : World) (mg : Str → Option Value) (Ca : Addr) : Sp := fun vs H _ E => ∃ (sa : Addr) (F : Hp) (q : List Str) (v0 : V) (a : Addr) (S : Stm), vs = [v0, .ref a] ∧ Rep ⟨w, mg, sa⟩ F v0 (tupD q) ∧ q.length ≤ 5 ∧ Sub F H ∧ StR sa H S ∧ (∀ b ∈ cellsOf H sa, F b = none) ∧
  F a = none ∧ a ∉ cellsOf H sa ∧ H a = some (.lst [.str "zz9"]) ∧ ∀ dx H', Back ⟨w, mg, sa⟩ F H F H' S → H' dx = some (.xd [("value", .ref a)]) → E (.ref Ca) (some dx) H'
theorem spVery_len {Ca : Addr} {ps : List Str} (h : ps.length = 2) : ∀ vs H Q E, spVery w mg Ca vs H Q E → vs.length = ps.length := by
  rintro vs H Q E ⟨sa, F, q, v0, a, S, rfl, _⟩
  rw [h]; rfl
abbrev DIn : DefI := ofD (dD "in_menu" 8) false
abbrev DBest : DefI := ofD (dD "best_of" 9) false
abbrev DWorst : DefI := ofD (dD "worst_of" 10) false
abbrev DVery : DefI := ofD (dD "_law_very" 22) true
def tstIn : Expr := match DIn.body with
  | .If t _ _ _ :: _ => t
  | _ => .Constant .none 0 ⟨0, 0, 0, 0⟩
theorem tst_eq (wf : Nat) (call : CallT) (make : Str → List PX.D → Stm → CO) (en : En) (S : Stm) :
    evT (PX.ev 59) 59 (lawC T wf call make DIn) tstIn en S = (tNot' (tTru (bE (xCall (call ("is_menu", none)) ["things", "value"] [(bE (xB1 .sorted (bSlot 0))), (bSlot 1)] [])))) en S := by kernel_rfl
/-- in_menu of the list -/
theorem in_very {kk wf : Nat} {call : CallT} {make : Str → List PX.D → Stm → CO} {a : Addr} {fd : FuncData} (tb : TbOk K mg T) (fns : FnsOk P w K mg base kk call) (hk : 2 ≤ kk) (d : DefAt K mg ("in_menu", none) DIn a fd)
    (hm : ∀ (S : Stm) (q : List Str), q.length ≤ 5 → call ("is_menu", none) [.lst (nm q), .lst [.str "zz9"]] S = .ok (.val (.bl false)) S) :
    ∃ Ca, mg "BadMenu" = some (.ref Ca) ∧ FnOk P w K mg base (CXB P w false) (kk + 3) a fd ["ranking", "menu"] (spVery w mg Ca) := by
  obtain ⟨name, qual, params, F, pl⟩ := d.ex
  obtain ⟨Ca, mC, hEx⟩ := tb.exc "BadMenu" ["value"] (by decide +kernel)
  refine ⟨Ca, mC, ?_⟩
  have E0 := hEx (by decide)
  obtain ⟨fI, fdI, self, f', hf, iC, tI, no, hbI, F1⟩ := E0.ini
  injection hf with hf; subst hf
  refine F.ok d.ok.sc (spVery_len rfl) ?_
  rintro cdv A outer s H vs Q E hr ⟨sa, F0, q, v0, l, S, rfl, r0, hq, sb, st, hc, fl, lc, hl, hE⟩
  let n : Cn := frN P w K mg base wf call make DIn kk qual a cdv A outer s H E sa (baseOf H (l :: cellsOf H sa)) F0
  have G : GoodS n (fun cls d _ H => E cls d H) := good_fr tb fns hk d.ok hr
  have sr : SR n F0 (L2.start DIn.N [v0, .ref l]) H [.val (tupD q), .own (.lst [.str "zz9"]), .none] S := by
    refine ⟨by kernel_rfl, by kernel_rfl, ?_, sb, ?_, ?_, st, st.there, ?_, fun _ _ _ => rfl⟩
    · intro b o h
      have h : baseOf H (l :: cellsOf H sa) b = some o := h
      by_cases e : b ∈ l :: cellsOf H sa
      · rw [baseOf_in e] at h; cases h
      · rwa [baseOf_out e] at h
    · intro i e h
      match i, h with
      | 0, h => cases h; exact .val r0
      | 1, h => cases h; exact .own fl (baseOf_in (List.mem_cons_self ..)) (fun h => by rcases List.mem_append.mp h with h | h <;> exact lc h) (.lst hl (.cons (.str _) .nil))
      | 2, h => cases h; exact .none
      | _ + 3, h => cases h
    · intro i j o o' p hi hj _ _
      have k : ∀ {i : Nat} {o : O}, ([.val (tupD q), .own (.lst [.str "zz9"]), .none] : En)[i]? = some (.own o) → i = 1 := by
        intro i o h
        match i, h with
        | 0, h => cases h
        | 1, _ => rfl
        | 2, h => cases h
        | _ + 3, h => cases h
      rw [k hi, k hj]
    · intro b hb
      have hb : b ∈ cellsOf H sa := by rcases List.mem_append.mp hb with h | h <;> exact h
      exact ⟨hc b hb, baseOf_in (List.mem_cons_of_mem _ hb)⟩
  obtain ⟨g1, v1⟩ := slot_vis (c := n.c) (x := "menu") (i := 1) (by kernel_rfl)
  have hr2 : Room 2 n.X.A := Room.mono (j := 2) hr (by omega)
  obtain ⟨p1, p2, p3, p4, p5, st2, hb⟩ : ∃ p1 p2 p3 p4 p5 st2, DIn.body = [.If tstIn [.Raise (some (.Call (.Name "BadMenu" p1) [.Name "menu" p2] [] p3)) none p4] [] p5, st2] := ⟨_, _, _, _, _, _, rfl⟩
  rw [hb]
  have pm := pmkN_oex (X := n.X) (CX := CX0) (p := p1) (pos := p3) (e := .Name "menu" p2) (es := []) E0.oex iC tI (F1 P w base).1 hr2 hbI (fun _ _ _ _ _ _ _ h => h.elim) (gl_of G.toGood (by kernel_rfl)) mC (pa_cons (pe_var (i := 1) g1 v1 (by decide) (by decide)) pa_nil) (by decide) rfl rfl
  have tk : L2N.Takes n.X (fun cls d _ H => E cls d H) := G.tk
  refine ⟨_, pss_cons (ps_if (s_T (ev_ok 59) G.toGood 59 tstIn) (pss_one (L2N.ps_raise rfl tk pm)) pss_nil) (pss_one (evS_ok G depthA st2)), ?_⟩
  refine ⟨_, S, F0, sr, ?_⟩
  rw [show evT (PX.ev 59) 59 n.c tstIn _ S = _ from tst_eq wf call make _ S]
  have c1 := hm S (sortS q) (by rw [(sortS_perm q).length_eq]; exact hq)
  have c2 : b1D .sorted (tupD q) = some (.own (.lst (nm (sortS q)))) := by
    show sortX (nm q) = _
    rw [sort_nm q (sl_imp (by omega)), sortS_map]
  simp only [↓RNp, ↓RNq, RNs, RNc, RNl, RNx, c1, c2, Bool.not_false]
  intro b H1 F1 sb1 sr1 rb
  have rb : true = b := rb
  subst rb
  refine (if_pos rfl).mpr ?_
  obtain ⟨z, hz, nf1, nb1, nc1, ow1⟩ := sr1.at_own (i := 1) rfl
  have hz : some (some (V.ref l)) = some (some (V.ref z)) := hz
  injection hz with hz; injection hz with hz; injection hz with hz; subst hz
  refine ⟨.ref l, rfl, by simp, fun x hx => ?_⟩
  refine ⟨x, .ref l, rfl, upd_same, fun dx hdx hne => ⟨rfl, dx, [("value", .ref l)], upd_same, by rw [upd_ne hne, upd_same], ?_, ?_⟩⟩
  · rw [upd_ne hne] at hdx; exact hdx
  · rw [upd_ne hne] at hdx
    have eH : upd (del (upd (upd (upd H1 x (exo x Ca none)) dx (exd dx [("value", .ref l)])) x (exo x Ca (some dx))) x) dx (.xd [("value", .ref l)]) = upd H1 dx (.xd [("value", .ref l)]) := by
      funext b
      by_cases b1 : b = dx
      · subst b1; rw [upd_same, upd_same]
      · rw [upd_ne b1, upd_ne b1]
        by_cases b2 : b = x
        · subst b2; rw [del_same, hx]
        · rw [del_ne b2, upd_ne b2, upd_ne b1, upd_ne b2]
    rw [eH]
    have gr : Grow F1 H1 F1 (upd H1 dx (.xd [("value", .ref l)])) := Grow.own sr1.sub hdx
    have sr2 := sr1.grow gr
    have nd : dx ≠ l := by
      rintro rfl
      obtain ⟨u, hu⟩ := ow1.some
      rw [hu] at hdx; cases hdx
    have hl1 : H1 l = some (.lst [.str "zz9"]) := by
      cases ow1 with
      | lst e r =>
        cases r with
        | cons a b =>
          cases b
          cases a
          exact e
    refine hE dx _ ⟨.refl, sb1.trans sr2.sub, ?_, fun _ _ _ => rfl, sr2.st, ?_, sr2.c0⟩ upd_same
    · intro b u h hn
      by_cases e : b = l
      · subst e
        rw [upd_ne (Ne.symm nd), hl1]
        rw [hl] at h
        exact h
      · exact sr2.base _ _ (show baseOf H (l :: cellsOf H sa) b = some u by rw [baseOf_out (fun z => by rcases List.mem_cons.mp z with z | z; exact e z; exact hn z)]; exact h)
    · intro b hb
      obtain ⟨h1, h2⟩ := sr2.cellF b (List.mem_append_left _ hb)
      refine ⟨?_, ?_⟩
      · cases q : F0 b with
        | none => rfl
        | some u => rw [sb1 _ _ q] at h1; cases h1
      · by_cases e : b ∈ cellsOf H sa
        · exact .inl e
        · right
          have ne : b ≠ l := by
            rintro rfl
            obtain ⟨z2, hz2, _, _, nc2, _⟩ := sr2.at_own (i := 1) rfl
            have hz2 : some (some (V.ref b)) = some (some (V.ref z2)) := hz2
            injection hz2 with hz2; injection hz2 with hz2; injection hz2 with hz2; subst hz2
            exact nc2 (List.mem_append_left _ hb)
          have h2 : baseOf H (l :: cellsOf H sa) b = none := h2
          rwa [baseOf_out (fun z => by rcases List.mem_cons.mp z with z | z; exact ne z; exact e z)] at h2
end
end HD

set_option Elab.async false
set_option linter.all false
set_option maxRecDepth 100000
set_option maxHeartbeats 4000000
namespace HD
open PySem PySem.Spec L2 PX
open PyProof.Rows hiding St
section
variable {P : Program} {w : World} {K : PySem.W.Frag} {mg : Str → Option Value} {base : Heap} {f : Addr} {fd : FuncData} {nm qual : Str} {params : Arguments} {CXa : CXT}
abbrev nStart : List Str := ["_law_script", "_law_spare", "_law_cell"]
theorem scStart : FnScope nStart ["_law_script"] (defScope (top 12)) := ⟨rfl, rfl, rfl, by decide +kernel, rfl, by decide +kernel, by decide +kernel⟩
theorem start_fn (F : FunD K nm qual params (defBody (top 12)) (defScope (top 12)) [] [] f fd) (mAbs : mg "abs" = none) (mSum : mg "sum" = none) (mList : mg "list" = none) : FnOk P w K mg base CXa 1 f fd ["_law_script"] (spStart startP K) := by
  refine F.ok scStart (fun vs H Q E h => ?_) (fun cdv A outer s H vs Q E hr h => ?_)
  · obtain ⟨a, ns, rfl, _⟩ := h
    rfl
  · obtain ⟨a, ns, rfl, hS, hl, hQ⟩ := h
    refine ⟨_, pss_cons (ps_set (i := 1) scStart.nd rfl (.inl rfl) (pe_op op_add pe_int (pe_op op_mod (pe_callB (cr_sum rfl) rfl mSum (by rfl) (pa_cons (pe_slice sl_list (pv 0) po_none (po_some pe_int)) pa_nil)) pe_int)))
      (pss_one (ps_ret (pe_lst (pa_cons (pe_lc (own := [("_law_cell", 2)]) (g := gName 2) (by rfl) scStart.nd (pi_list (pv 0)) (blkOk_by (N := nStart) (sc := defScope (top 12)) (by decide +kernel)) (fun _ _ _ _ _ => pg_name (i := 2) scStart.nd rfl (Or.inl rfl)) (fun _ _ _ _ _ => pts_one (pt_cmpR op_ge (pe_callB call_abs rfl mAbs (by rfl) (pa_cons (pv 2) pa_nil)) (pe_op op_pow pe_int pe_int) rfl)) (fun _ _ _ _ _ => pe_callB call_abs rfl mAbs (by rfl) (pa_cons (pv 2) pa_nil)))
        (pa_cons (pe_op op_cat (pe_callTy call_list_of rfl mList (by rfl) (pa_cons (pv 0) pa_nil)) (pe_lst (pa_cons (pv 1) pa_nil))) (pa_cons pe_int pa_nil)))))), ?_⟩
    have cut1 : cutV (ns.map V.int) none (some 1) = (ns.take 1).map V.int := by
      unfold cutV
      rw [show HT.sIx (ns.map V.int).length 0 none = 0 from rfl, show HT.sIx (ns.map V.int).length (ns.map V.int).length (some 1) = min 1 (ns.map V.int).length from rfl]
      simp [List.map_take]
    refine ⟨.ref a, rfl, 1, rfl, a, ns.map V.int, rfl, hS, fun p np => ⟨p, ns.take 1, rfl, .inl (.of (by rw [upd_same, cut1])), ?_⟩⟩
    refine ⟨_, _, rfl, rfl, (by show (0 : Int) < 1000003; decide), _, _, rfl, rfl, ?_⟩
    have s1 : Sub H (upd H p (.lst (cutV (ns.map V.int) none (some 1)))) := fun b u h => by rw [upd_ne (by rintro rfl; rw [np] at h; cases h)]; exact h
    have hS1 := sqL_sub s1 hS
    revert s1 hS1
    generalize upd H p (.lst (cutV (ns.map V.int) none (some 1))) = H1
    intro s1 hS1
    generalize hsp : (ns.take 1).sum % 1000003 = spare
    refine ⟨.ref a, rfl, a, rfl, ⟨_, hS1⟩, fun D hD => lc_list (K := K) (a := a) (xs := ns.map V.int) (fun i H2 => H2 D = some (.lst ((bigOf (ns.take i)).map V.int)) ∧ Sub H1 H2) ⟨upd_same, fun b u h => by rw [upd_ne (by rintro rfl; rw [hD] at h; cases h)]; exact h⟩ (fun i H2 _ h => sqL_sub h.2 hS1) ?_ ?_⟩
    · rintro i x H2 hx ⟨h1, h2⟩
      obtain ⟨y, hy, rfl⟩ : ∃ y, ns[i]? = some y ∧ x = V.int y := by
        rw [List.getElem?_map] at hx
        cases q : ns[i]? with
        | none => rw [q] at hx; cases hx
        | some y => rw [q] at hx; injection hx with hx; exact ⟨y, rfl, hx.symm⟩
      refine ⟨rfl, V.int y, rfl, y, rfl, _, _, rfl, rfl, ⟨by decide, by decide, by decide⟩, _, _, rfl, rfl, _, rfl, ?_⟩
      have tk : ns.take (i + 1) = ns.take i ++ [y] := by
        rw [List.take_add_one, hy]; rfl
      have bo : bigOf (ns.take (i + 1)) = bigOf (ns.take i) ++ if (1000000000000000000 : Int) ≤ (if y < 0 then -y else y) then [if y < 0 then -y else y] else [] := by
        rw [tk]
        unfold bigOf
        simp only [List.map_append, List.filter_append, List.map_cons, List.map_nil]
        congr 1
        by_cases c : (1000000000000000000 : Int) ≤ (if y < 0 then -y else y)
        · rw [if_pos c]; simp [List.filter, c]
        · rw [if_neg c]; simp [List.filter, c]
      have key : ∀ v, v = (if y < 0 then -y else y) → bigOf (ns.take (i + 1)) = (bigOf (ns.take i) ++ if (1000000000000000000 : Int) ≤ v then [v] else []) := by
        rintro v rfl; exact bo
      clear bo
      obtain ⟨v, hv⟩ : ∃ v, v = (if y < 0 then -y else y) := ⟨_, rfl⟩
      have bo := key v hv
      rw [← hv]
      by_cases c : (1000000000000000000 : Int) ≤ v
      · rw [if_pos c] at bo
        refine (if_pos (show decide ((10 : Int) ^ Int.toNat 18 ≤ v) = true from decide_eq_true c)).mpr ?_
        refine ⟨V.int y, rfl, y, rfl, _, h1, ?_, ?_, ?_⟩
        · have : (bigOf (ns.take i)).length ≤ ns.length := by
            unfold bigOf
            refine Nat.le_trans (List.length_filter_le _ _) ?_
            simp; omega
          simp only [List.length_map]
          have : sizeLine = 16777216 := rfl
          omega
        · rw [upd_same, bo, ← hv]; simp
        · intro b u h
          rw [upd_ne (by rintro rfl; rw [hD] at h; cases h)]; exact h2 b u h
      · rw [if_neg c] at bo
        refine (if_neg (show ¬ decide ((10 : Int) ^ Int.toNat 18 ≤ v) = true from fun h => c (of_decide_eq_true h))).mpr ?_
        exact ⟨by rw [bo, List.append_nil]; exact h1, h2⟩
    · rintro H2 ⟨h1, h2⟩
      simp only [List.length_map, List.take_length] at h1
      have up : ∀ {H : Hp} {p : Addr} {u : HO}, H p = none → PX.Sub H (upd H p u) := fun n b v h => by rw [upd_ne (by rintro rfl; rw [n] at h; cases h)]; exact h
      refine ⟨.ref a, rfl, a, ns.map V.int, rfl, .inl (sqL_sub h2 hS1), fun l nl => ⟨V.int (5 + spare), rfl, (by show (1 : Nat) ≤ 16777216; decide), fun q nq => ?_⟩⟩
      refine ⟨l, q, ns.map V.int, [V.int (5 + spare)], rfl, rfl, up nq _ _ upd_same, upd_same, ?_, fun r nr => ⟨(by show (3 : Nat) ≤ 16777216; decide), fun sa nsa => hQ sa _ ?_⟩⟩
      · simp only [List.length_map, List.length_cons, List.length_nil]
        have : sizeLine = 16777216 := rfl
        omega
      · have hq : ∀ {H : Hp} {p b : Addr} {v : HO}, H p = none → H b = some v → b ≠ p := fun n h e => by rw [e, n] at h; cases h
        have d1 := up nr (u := .lst (ns.map V.int ++ [V.int (5 + spare)])) _ _ (up nq (u := .lst [V.int (5 + spare)]) _ _ (up nl (u := .lst (ns.map V.int)) _ _ h1))
        have d0 := up nq (u := .lst [V.int (5 + spare)]) _ _ (up nl (u := .lst (ns.map V.int)) _ _ h1)
        have n1 := hq nsa d1
        have n2 := hq nr d0
        have n3 : r ≠ sa := hq nsa upd_same
        refine ⟨?_, [V.ref D, V.ref r, V.int 0], upd_same, ?_⟩
        · unfold cellsOf
          rw [upd_same]
          show [sa, D, r].Nodup
          simp [n1.symm, n3.symm, n2]
        · refine .lst (by rw [upd_ne n1]; exact d1) (.lst ?_ (.int 0 .nil))
          rw [upd_ne n3, upd_same, ← hsp]
          simp
abbrev nDraw : List Str := ["_law_state", "_law_size", "_law_digit", "_law_cell", "_law_one"]
theorem scDraw : FnScope nDraw ["_law_state", "_law_size"] (defScope (top 13)) := ⟨rfl, rfl, rfl, by decide +kernel, rfl, by decide +kernel, by decide +kernel⟩
theorem draw_fn (F : FunD K nm qual params (defBody (top 13)) (defScope (top 13)) [] [] f fd) (mInt : mg "int" = none) (mLen : mg "len" = none) : FnOk P w K mg base CXa 1 f fd ["_law_state", "_law_size"] (spF w mg 2 drawP) := by
  refine F.ok scDraw (spF_len rfl) (fun cdv A outer s H vs Q E hr h => ?_)
  obtain ⟨sa, F, ds, S, r, hl, sb, st, hc, cp⟩ := h
  obtain ⟨n, big, cells, k, rfl, rfl, ok⟩ := draw_inv cp
  cases r with
  | cons r1 r =>
  cases r with
  | cons r2 r =>
  cases r
  cases r1
  cases r2
  have hu : (A.deeper (envOfC qual (defScope (top 13)) s.heap.objs.size f cdv)).units + 64 < cLine := by
    have := hr.un
    omega
  refine ⟨_, (pss_cons (ps_augS (pv 0) pe_int get_list pe_int ip_add set_list)
    (pss_cons (ps_while (passes_of rfl) (pw_and (pt_cmpR (op_ned (g := ⟨w, mg, sa⟩) hu) (pe_ix ix_list (pv 0) pe_int (fun _ _ => rfl)) (pe_lst pa_nil) rfl) (pw_and1 (pt_cmpR op_eq (pe_ix ix_list (pe_ix ix_list (pv 0) pe_int (fun _ _ => rfl)) pe_int (fun _ _ => rfl)) pe_int rfl))).pt
      (pss_one (ps_asg (pe_slice sl_list (pe_ix ix_list (pv 0) pe_int (fun _ _ => rfl)) (po_some pe_int) po_none) (pg_sub (pv 0) pe_int set_list))))
    (pss_cons (ps_if (pt_cmpR (op_ned (g := ⟨w, mg, sa⟩) hu) (pe_ix ix_list (pv 0) pe_int (fun _ _ => rfl)) (pe_lst pa_nil) rfl) (pss_cons (ps_set (i := 2) scDraw.nd rfl (.inl rfl) (pe_op op_mod (pe_callTy call_int1 rfl mInt (by rfl) (pa_cons (pe_ix ix_list (pe_ix ix_list (pv 0) pe_int (fun _ _ => rfl)) pe_int (fun _ _ => rfl)) pa_nil)) (pv 1)))
    (pss_cons (ps_asg (pe_op op_fdivW (pe_ix ix_list (pe_ix ix_list (pv 0) pe_int (fun _ _ => rfl)) pe_int (fun _ _ => rfl)) (pv 1)) (pg_sub (pe_ix ix_list (pv 0) pe_int (fun _ _ => rfl)) pe_int set_list))
    (pss_one (ps_ret (pv 2))))) pss_nil)
    (pss_cons (ps_set (i := 3) scDraw.nd rfl (.inl rfl) (pe_op op_mod (pe_callTy call_int1 rfl mInt (by rfl) (pa_cons (pe_ix ix_list (pe_ix ix_list (pv 0) pe_int (fun _ _ => rfl)) (pe_op op_mod (pe_callTy call_int1 rfl mInt (by rfl) (pa_cons (pe_ix ix_list (pv 0) pe_int (fun _ _ => rfl)) pa_nil)) (pe_callB call_len_seq rfl mLen (by rfl) (pa_cons (pe_ix ix_list (pv 0) pe_int (fun _ _ => rfl)) pa_nil))) (fun _ _ => rfl)) pa_nil)) pe_int))
    (pss_cons (ps_set (i := 4) scDraw.nd rfl (.inl rfl) (pe_op op_mod (pe_callTy call_int1 rfl mInt (by rfl) (pa_cons (pe_op op_pow (pe_op op_add (pe_op op_add (pe_op op_mulW (pv 3) pe_int) (pe_op op_mulW (pe_ix ix_list (pv 0) pe_int (fun _ _ => rfl)) pe_int)) pe_int) pe_int) pa_nil)) pe_int))
    (pss_one (ps_ret (pe_op op_mod (pe_op op_mod (pe_callTy call_int1 rfl mInt (by rfl) (pa_cons (pe_op op_pow (pe_op op_add (pe_op op_add (pe_op op_mulW (pv 4) pe_int) (pe_op op_mulW (pe_ix ix_list (pv 0) pe_int (fun _ _ => rfl)) pe_int)) pe_int) pe_int) pa_nil)) pe_int) (pv 1))))))))), ?_⟩
  exact draw_done (K := K) (g := ⟨w, mg, sa⟩) st ok rfl sb hc cp
end
end HD

set_option Elab.async false
set_option linter.all false
set_option maxRecDepth 100000
set_option maxHeartbeats 4000000
/-! K11w: best_of and worst_of of the list; _law_very. -/
namespace HD
open PySem PySem.Spec L2 PX
open PyProof.Rows hiding St

section
variable {P : Program} {w : World} {K : PySem.W.Frag} {mg : Str → Option Value} {base : Heap}
/-- xs[i](..): the def found by evaluating, one of some defs that promise alike -/
theorem pe_callV {X : Cx} {CX : CXT} {a b e : Expr} {es : List Expr} {ip pos : Pos} {tf : TE} {ta : TA} {sp : Sp} {E : L2.St → XK} (S : Addr → Prop)
    (hS : ∀ f, S f → ∃ (k : Nat) (fd : FuncData) (ps : List Str), FnOk X.prog X.w X.K X.mg X.base CX k f fd ps sp ∧ Room k X.A ∧ PySem.W.keepIn X.K (.ref f) = true ∧ Binds X.K fd ps [])
    (hx : ∀ σ, PassesAt CX X σ (E σ)) (hf : PE X (.Subscript a b ip) tf) (ha : PA X (e :: es) ta)
    (he : starEach (e :: es) X.env = (false, eval e X.env) :: starEach es X.env := by rfl) (hpl : (backTo pos (starEach es X.env)).any (·.1) = false := by rfl) :
    PE X (.Call (.Subscript a b ip) (e :: es) [] pos) (fun σ H Q => tf σ H fun v H1 => ∃ f, v = .ref f ∧ S f ∧ ta σ H1 fun vs H2 => sp vs H2 Q (E σ)) := by
  refine ⟨fun pins s σ H Q I h => ?_⟩
  rw [show eval (.Call (.Subscript a b ip) (e :: es) [] pos) X.env = (do
    callWith pos (← eval (.Subscript a b ip) X.env) [] (backTo pos (starEach (e :: es) X.env)) (backToKw pos (keywordEach [] X.env))) from rfl]
  refine wpAny_bind (thn (hf.run pins s σ H _ I h) fun u s1 ⟨v, H1, I1, ru, q1⟩ => ?_)
  obtain ⟨f, rfl, hs, q⟩ := q1
  obtain ⟨k, fd, ps, F, hr, hk, hb⟩ := hS f hs
  cases ru
  refine PySem.W.callWith_K (h₀ := X.base) I1.ok.mod.kin hk (thn (ha.run pos pins s1 σ _ _ I1 q) fun us s2 ⟨vs, H2, I2, r, q⟩ => ⟨I2.kIn, ?_⟩) he hpl
  exact run_fnS F hr hb (hx σ) I2 r q
theorem best_of_very {kk wf : Nat} {call : CallT} {make : Str → List PX.D → Stm → CO} {a : Addr} {fd : FuncData} (tb : TbOk K mg T) (fns : FnsOk P w K mg base kk call) (hk : 2 ≤ kk) (d : DefAt K mg ("best_of", none) DBest a fd)
    {Ca aI : Addr} {fdI : FuncData} (FI : FnOk P w K mg base (CXB P w false) (kk + 3) aI fdI ["ranking", "menu"] (spVery w mg Ca)) (dI : DefAt K mg ("in_menu", none) DIn aI fdI) :
    FnOk P w K mg base (CXB P w false) (kk + 6) a fd ["ranking", "menu"] (spVery w mg Ca) := by
  obtain ⟨name, qual, params, F, pl⟩ := d.ex
  refine (F.ok d.ok.sc (k := kk + 5) (spVery_len rfl) ?_)
  intro cdv A outer s H vs Q E hr h
  have h0 := h
  obtain ⟨sa, F0, q, v0, l, S, rfl, -⟩ := h
  let n : Cn := frN P w K mg base wf call make DBest kk qual a cdv A outer s H E sa H F0
  have G : GoodS n (fun cls d _ H => E cls d H) := good_fr tb fns hk d.ok (hr.mono (by omega))
  obtain ⟨p1, p2, p3, p4, p5, p6, p7, p8, x7, hb⟩ : ∃ p1 p2 p3 p4 p5 p6 p7 p8 x7, DBest.body = [.Return (some (.Subscript (.Call (.Name "in_menu" p1) [.Name "ranking" p2, .Name "menu" p3] [] p4) (.Constant (.int 0) x7 p7) p5)) p6] := ⟨_, _, _, _, _, _, _, (⟨0, 0, 0, 0⟩ : Pos), _, rfl⟩
  rw [hb]
  have bI : Binds K fdI ["ranking", "menu"] [] := fun s us _ hu => by
    match us, hu with
    | [u, v], _ => exact dI.binds s [u, v] [] [u, v] (by rfl)
  have pc := pe_callS (X := n.X) (x := "in_menu") (CX := CXB P w false) (p := p1) (pos := p4) FI (hr.mono (by omega)) (gl_of G.toGood (by kernel_rfl)) dI.at_ dI.kp bI (E := fun _ => E) (fun σ => passB (b := false) G.tk (fun _ => rfl) σ)
    (pa_cons (pe_var (X := n.X) (x := "ranking") (pos := p2) (i := 0) (by kernel_rfl) (.inl (by kernel_rfl)) (by decide) (by decide)) (pa_cons (pe_var (X := n.X) (x := "menu") (pos := p3) (i := 1) (by kernel_rfl) (.inl (by kernel_rfl)) (by decide) (by decide)) pa_nil)) (by decide) rfl rfl
  refine ⟨_, pss_one (ps_ret (pe_ix ix_list pc (pe_int) (fun _ _ => rfl))), ?_⟩
  exact ⟨v0, rfl, .ref l, rfl, h0⟩
theorem worst_of_very {kk wf : Nat} {call : CallT} {make : Str → List PX.D → Stm → CO} {a : Addr} {fd : FuncData} (tb : TbOk K mg T) (fns : FnsOk P w K mg base kk call) (hk : 2 ≤ kk) (d : DefAt K mg ("worst_of", none) DWorst a fd)
    {Ca aI : Addr} {fdI : FuncData} (FI : FnOk P w K mg base (CXB P w false) (kk + 3) aI fdI ["ranking", "menu"] (spVery w mg Ca)) (dI : DefAt K mg ("in_menu", none) DIn aI fdI) :
    FnOk P w K mg base (CXB P w false) (kk + 6) a fd ["ranking", "menu"] (spVery w mg Ca) := by
  obtain ⟨name, qual, params, F, pl⟩ := d.ex
  refine (F.ok d.ok.sc (k := kk + 5) (spVery_len rfl) ?_)
  intro cdv A outer s H vs Q E hr h
  have h0 := h
  obtain ⟨sa, F0, q, v0, l, S, rfl, -⟩ := h
  let n : Cn := frN P w K mg base wf call make DWorst kk qual a cdv A outer s H E sa H F0
  have G : GoodS n (fun cls d _ H => E cls d H) := good_fr tb fns hk d.ok (hr.mono (by omega))
  obtain ⟨p1, p2, p3, p4, p5, p6, p7, p8, x7, hb⟩ : ∃ p1 p2 p3 p4 p5 p6 p7 p8 x7, DWorst.body = [.Return (some (.Subscript (.Call (.Name "in_menu" p1) [.Name "ranking" p2, .Name "menu" p3] [] p4) (.UnaryOp .USub (.Constant (.int 1) x7 p7) p8) p5)) p6] := ⟨_, _, _, _, _, _, _, _, _, rfl⟩
  rw [hb]
  have bI : Binds K fdI ["ranking", "menu"] [] := fun s us _ hu => by
    match us, hu with
    | [u, v], _ => exact dI.binds s [u, v] [] [u, v] (by rfl)
  have pc := pe_callS (X := n.X) (x := "in_menu") (CX := CXB P w false) (p := p1) (pos := p4) FI (hr.mono (by omega)) (gl_of G.toGood (by kernel_rfl)) dI.at_ dI.kp bI (E := fun _ => E) (fun σ => passB (b := false) G.tk (fun _ => rfl) σ)
    (pa_cons (pe_var (X := n.X) (x := "ranking") (pos := p2) (i := 0) (by kernel_rfl) (.inl (by kernel_rfl)) (by decide) (by decide)) (pa_cons (pe_var (X := n.X) (x := "menu") (pos := p3) (i := 1) (by kernel_rfl) (.inl (by kernel_rfl)) (by decide) (by decide)) pa_nil)) (by decide) rfl rfl
  refine ⟨_, pss_one (ps_ret (pe_ix ix_list pc (pe_un un_neg pe_int) (fun _ _ => rfl))), ?_⟩
  exact ⟨v0, rfl, .ref l, rfl, h0⟩
/-! _law_very -/
def veryP (ds : List PX.D) (S : Stm) : CO := match ds with
  | [.tup xs] => (match allStrs xs with
    | some q => if 0 < q.length ∧ q.length ≤ 5 then .ok (.val (.bl true)) S else .bad
    | none => .bad)
  | _ => .bad
theorem allStrs_inv : ∀ {xs : List PX.D} {q : List Str}, allStrs xs = some q → xs = nm q
  | [], q, h => by injection h with h; subst h; rfl
  | d :: r, q, h => by
    cases d <;> first | (cases h; done) | skip
    rename_i x
    have h : (allStrs r).map (x :: ·) = some q := h
    cases e : allStrs r with
    | none => rw [e] at h; cases h
    | some z =>
      rw [e] at h; injection h with h; subst h
      rw [allStrs_inv e]
      rfl
theorem veryP_inv {ds : List PX.D} {S : Stm} (h : veryP ds S ≠ .bad) : ∃ q, ds = [tupD q] ∧ q.length ≤ 5 ∧ veryP ds S = .ok (.val (.bl true)) S := by
  unfold veryP at h ⊢
  split at h
  case h_2 => exact absurd rfl h
  rename_i xs
  cases e : allStrs xs with
  | none => rw [e] at h; exact absurd rfl h
  | some q =>
    rw [e] at h
    simp only at h ⊢
    by_cases c : 0 < q.length ∧ q.length ≤ 5
    case neg => rw [if_neg c] at h; exact absurd rfl h
    rw [if_pos c]
    exact ⟨q, by rw [allStrs_inv e], c.2, rfl⟩
theorem veryP_ok {q : List Str} {S : Stm} (h0 : 0 < q.length) (h : q.length ≤ 5) : veryP [tupD q] S = .ok (.val (.bl true)) S := by
  show (match allStrs (nm q) with
    | some q => if 0 < q.length ∧ q.length ≤ 5 then CO.ok (.val (.bl true)) S else .bad
    | none => .bad) = _
  rw [allStrs_nm]
  exact if_pos ⟨h0, h⟩
theorem addP_nil {F H : Hp} {σ : L2.St} {en : En} : addP F H (Lent σ en []) = F := by
  funext a
  exact addP_out (fun ⟨_, h, _⟩ => by cases h)
theorem SR.back0 {n : Cn} {F F' H H' : Hp} {σ : L2.St} {en : En} {S S' : Stm} (sr : SR n F σ H en S) (b : Back n.g F H F' H' S') : SR n F' σ H' en S' := by
  have b' : Back n.g (addP F H (Lent σ en [])) H F' H' S' := by rw [addP_nil]; exact b
  exact (sr.backL b').1
theorem SR.blank {n : Cn} {F H : Hp} {σ : L2.St} {en : En} {S : Stm} (sr : SR n F σ H en S) (i : Nat) (w : Option V) : SR n F (σ.set i w) H (en.set i .none) S := by
  have back : ∀ {j : Nat} {q : O}, (en.set i .none)[j]? = some (.own q) → j ≠ i ∧ en[j]? = some (.own q) := by
    intro j q h
    by_cases ij : j = i
    · subst ij
      rw [List.getElem?_set] at h
      simp at h
    · rw [List.getElem?_set_ne (Ne.symm ij)] at h; exact ⟨ij, h⟩
  refine ⟨by simpa using sr.len, by simpa using sr.slen, sr.base, sr.sub, ?_, ?_, sr.st, sr.c0, sr.cellF, sr.fix⟩
  · intro j x hx
    by_cases ij : j = i
    · subst ij
      rw [List.getElem?_set] at hx
      simp at hx
      rw [← hx.2]
      exact .none
    · rw [List.getElem?_set_ne (Ne.symm ij)] at hx ⊢
      exact sr.slot j x hx
  · intro j k o o' p hj hk sj sk
    obtain ⟨nj, hj⟩ := back hj
    obtain ⟨nk, hk⟩ := back hk
    rw [List.getElem?_set_ne (Ne.symm nj)] at sj
    rw [List.getElem?_set_ne (Ne.symm nk)] at sk
    exact sr.dist j k o o' p hj hk sj sk
def forB : List Stmt := match DVery.body with
  | .For _ _ b _ _ :: _ => b
  | _ => []
def tryB : List Stmt := match forB with
  | [_, .Try b _ _ _ _] => b
  | _ => []
def sufB : List Stmt := match forB with
  | [_, .Try _ [.ExceptHandler _ _ b _] _ _ _] => b
  | _ => []
def stA : Stmt := forB.headD (.Pass ⟨0, 0, 0, 0⟩)
def stB : Stmt := sufB.headD (.Pass ⟨0, 0, 0, 0⟩)
def stT : Stmt := (DVery.body.drop 1).headD (.Pass ⟨0, 0, 0, 0⟩)
def exF : Expr := match tryB with
  | .Expr (.Call f _ _ _) _ :: _ => f
  | _ => .Constant .none 0 ⟨0, 0, 0, 0⟩
theorem evA (wf : Nat) (call : CallT) (make : Str → List PX.D → Stm → CO) (e0 e1 e2 e3 : Ent) (S : Stm) : evS depthA (lawC T wf call make DVery) stA [e0, e1, e2, e3] S = .nx [e0, e1, .own (.lst [.str "zz9"]), e3] S := by kernel_rfl
theorem evT0 (wf : Nat) (call : CallT) (make : Str → List PX.D → Stm → CO) (e0 e1 e2 e3 : Ent) (S : Stm) : evS depthA (lawC T wf call make DVery) stT [e0, e1, e2, e3] S = .ret (.val (.bl true)) [e0, e1, e2, e3] S := by kernel_rfl
theorem evF0 (wf : Nat) (call : CallT) (make : Str → List PX.D → Stm → CO) (e0 e2 e3 : Ent) (S : Stm) : PX.ev depthA (lawC T wf call make DVery) exF [e0, .val (.int 0), e2, e3] S = .ok (.val (.glo "best_of")) [e0, .val (.int 0), e2, e3] S := by kernel_rfl
theorem evF1 (wf : Nat) (call : CallT) (make : Str → List PX.D → Stm → CO) (e0 e2 e3 : Ent) (S : Stm) : PX.ev depthA (lawC T wf call make DVery) exF [e0, .val (.int 1), e2, e3] S = .ok (.val (.glo "worst_of")) [e0, .val (.int 1), e2, e3] S := by kernel_rfl
theorem very_fn {kk wf : Nat} {call : CallT} {make : Str → List PX.D → Stm → CO} {a : Addr} {fd : FuncData} (tb : TbOk K mg T) (fns : FnsOk P w K mg base kk call) (hk : 2 ≤ kk) (d : DefAt K mg ("_law_very", none) DVery a fd)
    {Ca aB aW : Addr} {fdB fdW : FuncData} (mC : mg "BadMenu" = some (.ref Ca)) (FB : FnOk P w K mg base (CXB P w false) (kk + 6) aB fdB ["ranking", "menu"] (spVery w mg Ca)) (dB : DefAt K mg ("best_of", none) DBest aB fdB)
    (FW : FnOk P w K mg base (CXB P w false) (kk + 6) aW fdW ["ranking", "menu"] (spVery w mg Ca)) (dW : DefAt K mg ("worst_of", none) DWorst aW fdW) :
    FnOk P w K mg base (CXB P w true) (kk + 9) a fd ["_law_order_here"] (spF w mg 1 veryP) := by
  obtain ⟨name, qual, params, F, pl⟩ := d.ex
  obtain ⟨Ca', mC', hEx⟩ := tb.exc "BadMenu" ["value"] (by decide +kernel)
  rw [mC] at mC'
  injection mC' with mC'; injection mC' with mC'; subst mC'
  have E0 := hEx (by decide)
  obtain ⟨fI, fdI, self, f', hf, iC, tI, no, hbI, F1⟩ := E0.ini
  injection hf with hf; subst hf
  refine (F.ok d.ok.sc (k := kk + 8) (spF_len rfl) ?_)
  rintro cdv A outer s H vs Q E hr ⟨sa, F0, ds, S, r, hl, sb, st, hc, cp⟩
  obtain ⟨q, rfl, hq, eP⟩ := veryP_inv (ds := ds) (S := S) (fun e => by rw [e] at cp; exact cp)
  rw [eP] at cp
  let W : WX := fun cls d _ H => E cls d H
  let n : Cn := frN P w K mg base wf call make DVery kk qual a cdv A outer s H E sa (baseOf H (cellsOf H sa)) F0
  have G : GoodS n W := good_fr tb fns hk d.ok (hr.mono (show kk + 2 ≤ kk + 8 by omega))
  have sr0 : SR n F0 (L2.start DVery.N vs) H (startE DVery.N [tupD q]) S := sr_start (n := n) rfl rfl rfl r (by rw [r.length]; show 1 ≤ 4; decide) sb st hc
  obtain ⟨p1, p2, p3, p4, p6, p7, p8, p9, p10, p11, p12, p13, p14, p15, p16, p17, p18, x1, stR, stR2, q1, q2, q3, q4, x2, q5, hb, hln⟩ : ∃ p1 p2 p3 p4 p6 p7 p8 p9 p10 p11 p12 p13 p14 p15 p16 p17 p18 x1, ∃ stR stR2 : Stmt, ∃ q1 q2 q3 q4 x2 q5,
      DVery.body = [.For (.Name "_law_plan" p1) (.Call (.Name "range" p2) [.Constant (.int 2) x1 p3] [] p4) [stA, .Try [.Expr (.Call exF [.Name "_law_order_here" p6, .Name "_law_odd" p7] [] p8) p9, stR]
        [.ExceptHandler (some (.Name "BadMenu" p10)) (some "e") [.Expr (.Call (.Attribute (.Name "_law_odd" q1) "append" q2) [.Constant (.int 1) x2 q5] [] q3) q4, .If (.Compare (.Attribute (.Name "e" p11) "value" p12) [.NotEq] [.Name "_law_odd" p13] p14) [stR2] [] p15] p16] [] [] p17] [] p18, stT] ∧ (q2.endLine == q3.line) = true :=
    ⟨_, _, _, _, _, _, _, _, _, _, _, _, _, _, _, _, _, _, _, _, _, _, _, _, _, _, rfl, by kernel_rfl⟩
  obtain ⟨eL, eI, p5, hX⟩ : ∃ a b c, exF = .Subscript a b c := ⟨_, _, _, rfl⟩
  have nd : DVery.N.Nodup := d.ok.sc.nd
  have bnd : ∀ {fd : FuncData} {D : DefI} {x : Str} {a : Addr}, DefAt K mg (x, none) D a fd → D.ps = (["ranking", "menu"] : List Str) → L2.Binds K fd ["ranking", "menu"] [] := fun {fd D x a} dd hp s us _ hu => by
    match us, hu with
    | [u, v], _ =>
      have := dd.binds s [u, v] [] [u, v] (by rw [hp]; rfl)
      rw [hp] at this
      exact this
  -- the suite
  let ts : Addr → Value → Option Addr → TS := fun x cls dd => tSeq (tDrop (tBM K "list" rAppend (tVar 2) (tCons (tC (.int 1)) tNil))) (tIfS (tTest (tOp (rNeD K) (tXf x cls dd Ca "value" (tVar 3)) (tVar 2))) tNever tNext)
  have hsu : ∀ (x : Addr) (oe : Obj) (cls : Value) (dd : Option Addr) (pn : List (Addr × Obj)), Zc cls dd oe → (∃ vs, oe.data = .fields vs) →
      PSs (n.X.suite x ((x, oe) :: pn)) [.Expr (.Call (.Attribute (.Name "_law_odd" q1) "append" q2) [.Constant (.int 1) x2 q5] [] q3) q4, .If (.Compare (.Attribute (.Name "e" p11) "value" p12) [.NotEq] [.Name "_law_odd" p13] p14) [stR2] [] p15] (ts x cls dd) := by
    intro x oe cls dd pn hz hf
    have gs := good_suite G x oe cls dd pn hz hf
    refine pss_cons (ps_expr (pe_bm PySem.F.plainAttrs_list PySem.F.slot_list_append PySem.F.type_list_append mt_append (pe_var (x := "_law_odd") (i := 2) (by kernel_rfl) (.inl (by kernel_rfl)) (by decide) (by decide)) (pa_cons pe_int pa_nil) rfl rfl hln rfl rfl))
      (pss_one (ps_if (pt_cmpR (op_neD ?_) (pe_xf (X := n.X) E0.xf no hz hf (pe_var (x := "e") (i := 3) (by kernel_rfl) (.inl (by kernel_rfl)) (by decide) (by decide))) (pe_var (x := "_law_odd") (i := 2) (by kernel_rfl) (.inl (by kernel_rfl)) (by decide) (by decide)) rfl) pss_never pss_nil))
    have := gs.units
    show n.X.A.units + 64 < cLine
    have : n.X.A.units + 80 < cLine := this
    omega
  -- the body
  let tbd : WX → TS := fun W' => tSeq (tDrop (fun σ H Q => tM n W' (RV n) (PX.ev depthA (lawC T wf call make DVery) exF) σ H fun v H1 => ∃ f, v = .ref f ∧ (f = aB ∨ f = aW) ∧ tCons (tVar 0) (tCons (tVar 2) tNil) σ H1 fun vs H2 => spVery w mg Ca vs H2 Q (WE W' σ))) tNever
  have hbd : ∀ (W' : WX) (pn : List (Addr × Obj)) (xe : Value → Shared → Prop), Takes (n.X.tr pn xe) W' → PassesOwn (model n.X.prog n.X.w) n.X.A n.X.env xe → (∀ hd : Option Value, PassesOwnAt (model n.X.prog n.X.w) (n.X.A.mark hd) n.X.A n.X.env xe) →
      PSs (n.X.tr pn xe) [.Expr (.Call exF [.Name "_law_order_here" p6, .Name "_law_odd" p7] [] p8) p9, stR] (tbd W') := by
    intro W' pn xe tk ps ph
    have G' := good_tr G rfl pn xe tk ps ph
    have pf : PE (n.X.tr pn xe) exF (tM n W' (RV n) (PX.ev depthA (lawC T wf call make DVery) exF)) := PE.imp (ev_ok depthA _ _ G'.toGood exF) fun σ H Q h => by
      obtain ⟨en, S, F, sr, p⟩ := h
      refine ⟨en, S, F, sr.wX _, ?_⟩
      have e : (n.wX (n.X.tr pn xe)).c = lawC T wf call make DVery := rfl
      rw [e]
      revert p
      generalize PX.ev depthA (lawC T wf call make DVery) exF en S = m
      intro p
      cases m with
      | ok r en S => exact fun v H F s sr rv => p v H F s sr.ofX rv.ofX
      | err C fs en S => exact fun c d H F s sr x => p c d H F s sr.ofX x
      | bad => exact p
    refine pss_cons (ps_expr ?_ ?_) pss_never
    · rw [hX] at pf ⊢
      refine pe_callV (CX := CXB P w false) (fun f => f = aB ∨ f = aW) ?_ (E := WE W') (fun σ => passB (X := n.X.tr pn xe) (nn := false) tk (fun h => by cases h) σ) pf
        (pa_cons (pe_var (x := "_law_order_here") (i := 0) (by kernel_rfl) (.inl (by kernel_rfl)) (by decide) (by decide)) (pa_cons (pe_var (x := "_law_odd") (i := 2) (by kernel_rfl) (.inl (by kernel_rfl)) (by decide) (by decide)) pa_nil)) rfl rfl
      intro f hf
      have hr6 : Room (kk + 6) n.X.A := hr.mono (show kk + 6 ≤ kk + 8 by omega)
      rcases hf with rfl | rfl
      · exact ⟨_, _, _, FB, hr6, dB.kp, bnd dB rfl⟩
      · exact ⟨_, _, _, FW, hr6, dW.kp, bnd dW rfl⟩
    · rw [hX]; rfl
  have hN : Names n.X "BadMenu" (.ref Ca) := ⟨gl_of G.toGood (by kernel_rfl), by decide, .inl mC⟩
  have hTry := ps_try_cls (X := n.X) (pos := p17) (tb := tbd) (Wout := W) G.stk G.frm nd (show Takes n.X W from G.tk) hbd (HdsA.as (pos' := p16) (np := p10) (x := "BadMenu") (n := "e") (i := 3) (ts := ts) (by kernel_rfl) (by kernel_rfl) hN hsu .nil)
  have gR : Gl n.X "range" := gl_of G.toGood (by kernel_rfl)
  have mR : mg "range" = none := tb.free "range" (by decide +kernel)
  rw [hb]
  refine ⟨_, pss_cons (ps_for G.pass rfl (pi_range1 gR mR (pa_cons pe_int pa_nil)) (pg_name (x := "_law_plan") (i := 1) nd (by kernel_rfl) (.inl (by kernel_rfl)) (.inr (by kernel_rfl))) (pss_cons (evS_ok G depthA stA) (pss_one hTry))) (pss_one (evS_ok G depthA stT)), ?_⟩
  have e0 : startE DVery.N [tupD q] = [.val (tupD q), .none, .none, .none] := by kernel_rfl
  rw [e0] at sr0
  refine ⟨2, rfl, by decide, by decide, for_range (n := 2) (fun j σ H' => ∃ F e1 e2 e3, Sub F0 F ∧ SR n F σ H' [.val (tupD q), e1, e2, e3] S) ⟨F0, _, _, _, .refl, sr0⟩ ?_ ?_⟩
  · rintro j σ1 H1 hj ⟨F1, e1, e2, e3, sb1, sr1⟩
    have sr2 := sr1.set (i := 1) (show 1 < 4 by decide) (Rep.int (0 + (j : Int)))
    refine ⟨_, S, F1, sr2, ?_⟩
    show PostS n W F1 (evS depthA (lawC T wf call make DVery) stA [.val (tupD q), .val (.int (0 + (j : Int))), e2, e3] S) _
    rw [evA]
    intro σ3 H3 F3 sb3 sr3
    refine ⟨_, S, F3, sr3, ?_⟩
    obtain ⟨x, f, hev, hx, hf⟩ : ∃ (x : Str) (f : Addr), PX.ev depthA (lawC T wf call make DVery) exF [.val (tupD q), .val (.int (0 + (j : Int))), .own (.lst [.str "zz9"]), e3] S = .ok (.val (.glo x)) [.val (tupD q), .val (.int (0 + (j : Int))), .own (.lst [.str "zz9"]), e3] S ∧ mg x = some (.ref f) ∧ (f = aB ∨ f = aW) := by
      match j, hj with
      | 0, _ => exact ⟨_, aB, evF0 .., dB.at_, .inl rfl⟩
      | 1, _ => exact ⟨_, aW, evF1 .., dW.at_, .inr rfl⟩
    show Post n _ σ3 F3 (RV n) (PX.ev depthA (lawC T wf call make DVery) exF [.val (tupD q), .val (.int (0 + (j : Int))), .own (.lst [.str "zz9"]), e3] S) _
    rw [hev]
    intro v H4 F4 sb4 sr4 rv
    obtain ⟨f', rfl, hm⟩ : ∃ f', v = .ref f' ∧ mg x = some (.ref f') := by
      cases rv with
      | val rg =>
        cases rg with
        | glo hm => exact ⟨_, rfl, hm⟩
    rw [hx] at hm
    injection hm with hm; injection hm with hm; subst hm
    obtain ⟨v0, hv0, r0⟩ := sr4.at_val (i := 0) rfl
    obtain ⟨l, hl, nf, nb, nc, ow⟩ := sr4.at_own (i := 2) rfl
    have ow0 := ow
    have hl4 : H4 l = some (.lst [.str "zz9"]) := by
      cases ow with
      | lst e r =>
        cases r with
        | cons a b =>
          cases b
          cases a
          exact e
    refine ⟨f, rfl, hf, v0, hv0, .ref l, hl, sa, F4, q, v0, l, S, rfl, r0, hq, sr4.sub, sr4.st, fun b hb => (sr4.cellF b (List.mem_append_left _ hb)).1, nf, fun h => nc (List.mem_append_left _ h), hl4, fun dx H5 bk hdx => ?_⟩
    have sr5 : SR n F4 σ3 H5 [.val (tupD q), .val (.int (0 + (j : Int))), .own (.lst [.str "zz9"]), e3] S := SR.back0 sr4 bk
    have hl5 : H5 l = some (.lst [.str "zz9"]) := bk.keep _ _ hl4 fun h => nc (List.mem_append_left _ h)
    refine ⟨true, ?_, fun _ x hx => ?_, fun h => nomatch h⟩
    · have := tb.exm "BadMenu" "BadMenu" ["value"] ["value"] (by decide +kernel) (by decide +kernel) _ _ mC mC
      exact this.trans (congrArg some exs_m.2)
    have s3 : 3 < σ3.length := by rw [sr5.slen]; show 3 < 4; decide
    have hl' : (σ3.set 3 (some (.ref x)))[2]? = some (some (.ref l)) := by rw [List.getElem?_set_ne (by decide)]; exact hl
    have sr6 := SR.blank sr5 3 none
    refine ⟨.ref l, hl', ?_⟩
    refine ⟨.inl ⟨rfl, _, SqL.of hl5⟩, l, _, _, rfl, rfl, hl5, by decide, ?_⟩
    have hne : dx ≠ l := fun e => by rw [e, hl5] at hdx; cases hdx
    refine ⟨.ref x, ?_, rfl, rfl, dx, _, _, rfl, (upd_ne hne).trans hdx, rfl, .ref l, hl', .list [.str "zz9", .int 1], .list [.str "zz9", .int 1], ?_, ?_, by decide +kernel, by decide +kernel, _, rfl, ?_⟩
    · show (σ3.set 3 (some (.ref x)))[3]? = some (some (.ref x))
      rw [List.getElem?_set_self s3]
    · exact .lst (SqL.of upd_same) (.cons (.str _) (.cons (.int _) .nil))
    · exact .lst (SqL.of upd_same) (.cons (.str _) (.cons (.int _) .nil))
    · rw [show (!PyData.eqv (.list [.str "zz9", .int 1]) (.list [.str "zz9", .int 1])) = false from by decide +kernel]
      refine (if_neg (by decide)).mpr ?_
      show ∃ F e1 e2 e3, PX.Sub F0 F ∧ SR n F ((σ3.set 3 (some (.ref x))).set 3 none) (upd H5 l (.lst [.str "zz9", .int 1])) [.val (tupD q), e1, e2, e3] S
      have hs : (σ3.set 3 (some (.ref x))).set 3 none = σ3.set 3 none := by rw [List.set_set]
      rw [hs]
      have hl6 : (σ3.set 3 none)[2]? = some (some (.ref l)) := by rw [List.getElem?_set_ne (by decide)]; exact hl
      refine ⟨F4, _, _, _, ((sb1.trans sb3).trans sb4), sr6.write (j := 2) (o := .lst [.str "zz9"]) (o' := .lst [.str "zz9", .int 1]) rfl hl6 (fun b hb => upd_ne hb) ?_⟩
      exact .lst upd_same (.cons (.str _) (.cons (.int _) .nil))
  · rintro σ1 H1 ⟨F1, e1, e2, e3, sb1, sr1⟩
    refine ⟨_, S, F1, sr1, ?_⟩
    show PostS n W F1 (evS depthA (lawC T wf call make DVery) stT [.val (tupD q), e1, e2, e3] S) _
    rw [evT0]
    intro v σ2 H2 F2 sb2 sr2 rv
    obtain rfl : v = .bl true := by
      cases rv with
      | val r => cases r; rfl
    refine cp (.bl true) H2 F2 ⟨sb1.trans sb2, sr2.sub, ?_, ?_, sr2.st, ?_, sr2.c0⟩ (.val (.bl true)) (fun o p h => by cases h)
    · intro b u h hn
      exact sr2.base _ _ (show baseOf H (cellsOf H sa) b = some u by rw [baseOf_out hn]; exact h)
    · intro b u h
      by_cases e : b ∈ cellsOf H sa
      · rw [(sr2.cellF b (List.mem_append_right _ e)).1]; exact (hc b e).symm
      · exact sr2.fix b u (show baseOf H (cellsOf H sa) b = some u by rw [baseOf_out e]; exact h)
    · intro b hb
      obtain ⟨h1, h2⟩ := sr2.cellF b (List.mem_append_left _ hb)
      refine ⟨h1, ?_⟩
      by_cases e : b ∈ cellsOf H sa
      · exact .inl e
      · right
        have h2 : baseOf H (cellsOf H sa) b = none := h2
        rwa [baseOf_out e] at h2
end
/-! the calls, _law_very by hand -/
abbrev vF : Fid := (("_law_very" : Str), none)
def cV (wf : Nat) : CallT := fun f => if f = vF then veryP else (calls T wf 10).1 f
theorem cV_very (wf : Nat) : cV wf vF = veryP := if_pos rfl
theorem cV_ne (wf : Nat) {f : Fid} (h : f ≠ vF) : cV wf f = (calls T wf 10).1 f := if_neg h
theorem very_menu (wf : Nat) : ∀ (S : Stm) (q : List Str), q.length ≤ 5 → (calls T wf 3).1 ("is_menu", none) [.lst (nm q), .lst [.str "zz9"]] S = .ok (.val (.bl false)) S :=
  fun S q hq => h_menuL wf 1 S q (by omega) (.lst [.str "zz9"]) (.inr ⟨rfl, fun _ h => by cases h⟩)
theorem cV_facts (wf : Nat) : Facts (cV wf) where
  dr := fun ds S => by rw [cV_ne wf (by decide)]; exact draws wf 9 ds S
  names := fun m n S hs hm hn => by rw [cV_ne wf (by decide)]; exact h_names wf 8 m n S hs hm hn
  any := fun m S P hs hm h0 hl hx => by rw [cV_ne wf (by decide)]; exact h_any wf 8 m S P hs hm h0 hl hx
  sets := fun S P hP => by rw [cV_ne wf (by decide)]; exact h_lsets wf 9 S P hP
  ord := fun S P h0 h5 => by rw [cV_ne wf (by decide)]; exact (is__law_orders wf 9 _ S rfl).trans (r_orders _ S P h0 h5)
  all := fun S P h5 => by rw [cV_ne wf (by decide)]; exact (is_all_rankings wf 9 _ S rfl).trans (r_all _ S P h5)
  isr := fun S P hP d hd => by rw [cV_ne wf (by decide)]; exact h_is_ranking wf 9 S P hP d hd
  told := fun S P r hP hp d hd w => by rw [cV_ne wf (by decide)]; exact h_told wf 5 S P r hP hp d hd w
  due := fun S P r hP hp d hd w => by rw [cV_ne wf (by decide)]; exact h_due wf 8 S P r hP hp d hd w
  best := fun S P r hP hp d hd => by rw [cV_ne wf (by decide)]; exact h_best wf 6 S P r hP hp d hd
  worst := fun S P r hP hp d hd => by rw [cV_ne wf (by decide)]; exact h_worst wf 6 S P r hP hp d hd
  very := fun S r h0 h5 => by rw [cV_very]; exact veryP_ok h0 h5
end HD

set_option Elab.async false
set_option linter.all false
set_option maxRecDepth 100000
set_option maxHeartbeats 0
namespace HD
open PySem PySem.Spec L2 PX
open PyProof.Rows hiding St
abbrev R : PySem.W.OpenRow := PySem.W.OpenLaw.row PySem.Challenge.rw_mixedpicks_k11_rankings
abbrev hk : PySem.W.Hook := hookX 4 fa fnA more
def ob (s : PySem.W.SharedT) : He.AlD := obsXG 4 fa fnA more (HandSHeadRun.getT s)
theorem ob_eq (s : PySem.W.SharedT) : ob s = hk.obs s.abs := obsXG_eq (HandSHeadRun.getT_eq s)
def loose0 : List Str := ["PickError", "BadMenu", "is_part", "is_menu", "all_rankings", "is_ranking", "in_menu", "best_of", "worst_of", "_law_start", "_law_draw", "_law_names", "_law_order", "_law_sets", "_law_orders", "_law_any", "_law_is_set", "_law_told", "_law_due", "_law_very"]
def loose : List Str := loose0
theorem run (w : World) : HandSHeadRun.RunEq R (PySem.W.view R.prog [23]) hk ob 30000 loose w := by
  intro os
  kernel_rfl
end HD

set_option Elab.async false
set_option linter.all false
set_option maxRecDepth 100000
set_option maxHeartbeats 0
namespace HD
open PySem PySem.Spec L2 PX
open PyProof.Rows hiding St
theorem exc_ok {K : PySem.W.Frag} {h : Heap} {mg : Str → Option Value} (X : K.In h) (G : h.Ns mainGlobals mg) (c : He.SaysD fa fnA K) (m : more K = true) : ∀ C ps, lkS T.excs C = some ps → ps ≠ [] → ExcAt K mg (He.ga K C) ps := by
  intro C ps h ne
  have hm := lkS_mem h
  rw [show T.excs = exs from rfl] at hm
  simp only [exs, List.mem_cons, List.not_mem_nil, or_false, Prod.mk.injEq] at hm
  rcases hm with ⟨rfl, rfl⟩ | ⟨rfl, rfl⟩
  · exact absurd rfl ne
  · exact exc_at (B := "PickError") (self := "self") (Cs := excN) (i := 19) X G c m (by decide) (by rfl) (by rfl) ⟨rfl, rfl⟩ (by kernel_rfl) (by kernel_rfl) (by kernel_rfl) (by rfl) (by rfl) ⟨rfl, rfl, rfl, by decide +kernel, rfl, by decide +kernel, by decide +kernel⟩ (by rfl) (by rfl) (by rfl) (by decide) (by decide) (by decide) (fun env => ⟨_, by rfl⟩)
theorem facts {P : Program} {w : World} {K : PySem.W.Frag} {h : Heap} {mg : Str → Option Value} {f : Addr} (X : K.In h) (G : h.Ns mainGlobals mg) (hfa : mg ("law" : Str) = some (.ref f)) (c0 : SaysX fa fnA more K) :
    ∃ fd : FuncData, (∀ (s : Shared) (v : Value), BindsTo s fd ⟨[v], []⟩ [("_law_script", v)]) ∧ ∀ base : Heap, K.In base → base.Ns mainGlobals mg → FnOk P w K mg base CX0 35 f fd ["_law_script"] (fun vs H Q _ => spLaw K vs H Q E0) := by
  obtain ⟨c, cm⟩ := c0.to
  obtain ⟨tb, dfs⟩ := head_ok (T := T) (fn := fnA) (ws := ws) X G c (fun d hd => List.mem_append_left _ hd) rfl head_chk (exc_ok X G c cm)
  obtain ⟨aS, fdS, dS⟩ := dfs ("_law_start", none) (ofD (dD "_law_start" 12) false) (by kernel_rfl)
  obtain ⟨a, fd, d⟩ := dfs ("law", none) (ofD (dD "law" 23) true) (by kernel_rfl)
  have e := hfa.symm.trans (show mg ("law" : Str) = some (.ref a) from d.at_)
  cases e
  have nf : ∀ x ∈ fr, mg x = none := fun x hx => tb.free x hx
  refine ⟨fd, fun s v => d.binds s [v] [] [v] (by rfl), fun base hK hN => ?_⟩
  have FS : FnOk P w K mg base (CXB P w true) 1 aS fdS ["_law_script"] (spStart startP K) := by
    obtain ⟨_, _, _, F, _⟩ := dS.ex
    exact start_fn F (nf "abs" (by decide)) (nf "sum" (by decide)) (nf "list" (by decide))
  have prim : ∀ f p, lkF T.prim f = some p → ∀ D a fd, lkF T.defs f = some D → DefAt K mg f D a fd → FnOk P w K mg base (CXB P w D.weak) 1 a fd D.ps (spF w mg D.ps.length p) := by
    intro f p hp D a fd hD d
    have hm := lkF_mem hp
    rw [show T.prim = [((("_law_draw" : Str), none), drawP)] from rfl] at hm
    simp only [List.mem_cons, List.not_mem_nil, or_false, Prod.mk.injEq] at hm
    obtain ⟨rfl, rfl⟩ := hm
    have e : D = ofD (dD "_law_draw" 13) false := Option.some.inj (hD.symm.trans (by kernel_rfl))
    subst e
    obtain ⟨_, _, _, F, _⟩ := d.ex
    exact draw_fn F (nf "int" (by decide)) (nf "len" (by decide))
  have all := all_ok (P := P) (w := w) (base := base) (T := T) (wf := 1000) tb dfs prim 10
  have all3 := all_ok (P := P) (w := w) (base := base) (T := T) (wf := 1000) tb dfs prim 3
  obtain ⟨aV, fdV, dV⟩ := dfs vF DVery (by kernel_rfl)
  obtain ⟨aI, fdI, dI⟩ := dfs ("in_menu", none) DIn (by kernel_rfl)
  obtain ⟨aB, fdB, dB⟩ := dfs ("best_of", none) DBest (by kernel_rfl)
  obtain ⟨aW, fdW, dW⟩ := dfs ("worst_of", none) DWorst (by kernel_rfl)
  have fns3 : FnsOk P w K mg base 11 (calls T 1000 3).1 := all3
  obtain ⟨Ca, mC, FI⟩ := in_very (wf := 1000) (make := (calls T 1000 3).2) tb fns3 (by decide) dI (very_menu 1000)
  have FB := best_of_very (wf := 1000) (make := (calls T 1000 3).2) tb fns3 (by decide) dB FI dI
  have FW := worst_of_very (wf := 1000) (make := (calls T 1000 3).2) tb fns3 (by decide) dW FI dI
  have FV := very_fn (wf := 1000) (make := (calls T 1000 3).2) tb fns3 (by decide) dV mC FB dB FW dW
  have fns : FnsOk P w K mg base 32 (cV 1000) := by
    intro f D h
    by_cases e : f = vF
    · subst e
      have e : D = DVery := Option.some.inj (h.symm.trans (by kernel_rfl))
      subst e
      refine ⟨aV, dV.at_, dV.kp, fdV, dV.binds, ?_⟩
      rw [cV_very]
      exact FV.mono (by decide)
    · rw [cV_ne 1000 e]
      exact all f D h
  refine fn_calm (law_okG (D := ofD (dD "law" 23) true) (x := "_law_state") (y := "_law_script") (i := 1) (rest := (defBody (top 23)).drop 1) (st := startP) (call := cV 1000) (make := (calls T 1000 10).2) (wf := 1000) (kk := 32) tb fns (by decide) d (by rfl) (by kernel_rfl) ⟨by kernel_rfl, by kernel_rfl⟩ (by kernel_rfl) (.inl (by kernel_rfl)) (by kernel_rfl) FS dS.at_ dS.kp (fun s us _ hl => ?_) (fun ns hn => ?_))
  · match us, hl with
    | [u], _ => exact dS.binds s [u] [] [u] (by rfl)
  · obtain ⟨en, S, e⟩ := law_runG (cV_facts 1000) ns hn
    refine ⟨en, S, ?_⟩
    rw [sh_law_eq]
    exact e
end HD
open PySem PySem.W PySem.Calls PyProof.Rows
theorem PySem.Challenge.cw_mixedpicks_k11_rankings_holds : PySem.Challenge.rw_mixedpicks_k11_rankings.Holds := by
  w_on; o_law
  refine HandSHeadRun.head_any (r := OpenLaw.row PySem.Challenge.rw_mixedpicks_k11_rankings) (q := view (OpenLaw.row PySem.Challenge.rw_mixedpicks_k11_rankings).prog [23]) (H := HD.hk) (ob := HD.ob) (M := 30000) (loose := HD.loose) (d := HandSHeadRun.topDef (OpenLaw.row PySem.Challenge.rw_mixedpicks_k11_rankings).prog 23) (kwd := []) HD.ob_eq
    (by kernel_rfl) (fun s => by kernel_rfl) HD.run (by kernel_rfl) (by kernel_rfl) (by kernel_rfl) (by rfl) (by first | assumption | decide +kernel) (by decide +kernel) ⟨rfl, rfl, rfl, rfl, rfl, by decide +kernel⟩ ?hw ?hc
  case hw => w_witness2
  case hc =>
    refine L2.walk_ofE (l := PySem.Challenge.rw_mixedpicks_k11_rankings) (n := 63) (k := 35) (x := "_law_script") (CX := L2.CX0) rfl (by decide) (by kernel_rfl) ⟨rfl, by decide, by decide⟩ ?F ?X
    case F =>
      intro w mg fa h Y G hmg0
      obtain ⟨K, KX, c⟩ := Y
      have hmg : mg ("law" : PySem.Str) = some (.ref fa) := by
        have e : (HandSHeadRun.topDef (OpenLaw.row PySem.Challenge.rw_mixedpicks_k11_rankings).prog 23).name = ("law" : PySem.Str) := by kernel_rfl
        rw [← e]
        exact hmg0
      obtain ⟨fd, hb, hF⟩ := HD.facts (P := (PySem.Challenge.rw_mixedpicks_k11_rankings).prog) (w := w) KX G hmg c
      exact ⟨K, fd, (fun vs H Q _ => PX.spLaw K vs H Q L2.E0), KX, hb, fun H a ns hl _ hS => ⟨a, ns, rfl, hS, hl, fun _ => rfl⟩, hF⟩
    case X => exact fun _ _ _ _ z => z


